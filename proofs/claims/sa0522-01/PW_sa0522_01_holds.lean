import PyProof.Rows.All
import KE.KNest
import OpenK.KWalk
import Wide.Data
import Wide.Well
import OpenK.KGet
import Open.Head
import Wide.Ends
import OpenK.KMake
import Wide.Tm
import Open.Seg
import KE.BytesMake
import OpenK.Peek
import Open.Row
import Wide.Row
import OpenK.KLine
import OpenK.KCall
import Open.Tree
import KE.KTryDeep
import KE.KIsAll
import KE.KLam
import Wide.BytesRules
import KE.KNestM
import Wide.ObjOpen
import Wide.Loose
import KE.KPop
import KE.KDictAny
import KE.KEqDict
import Open.Boot
import KE.KRevIter
import Wide.Head
import KE.KDictAnyGet
import KE.KDictNew
import KE.KDictOf
import OpenK.KDict
import OpenK.KNot
import OpenK.KCell
import Open.Claim
import Wide.BytesFacts
import Wide.OneHead
import OpenK.KList
import OpenK.KMore
import KE.KxBytes
import OpenK.KCls
import KE.KBytesWalk
import Wide.OfPy
import KE.KIsNot
import Wide.BridgeG
import Wide.Lay
import Wide.Vals
import Wide.Line
import KE.KSetDisp
import Wide.Reads
import KE.KxDecode
import Imp.Common
import Wide.Claim
import KE.KTup
import Wide.Tac
import KE.KSorted
import KE.KItem
import Open.Pieces
import Open.Line
import KE.KSortedM
import OpenK.KTop
import Wide.OfTm
import KE.KCells
import KE.KAnyBase
import ObjForm.Claim3
import Wide.Bridge
import OpenK.KRaise
import KE.KEqSeq
import KE.KDeep
import Flt.Mod
import KE.KDictList
import KE.KListMore
import KE.KDictObj
import Wide.Pins
import KE.KBytesCut
import Wide.All
import KE.RegKIsNot
import KE.RegKIsAll
import KE.KEndW
import KE.KIsBytes
import KE.RegKMatchCls
import Wide.Built
import KE.RegKMod
import KE.RegTryLedger
import KE.RegKSuper
import KE.RegLcTurns
import KE.RegLcAnyAll
import KE.RegKBase
import KE.RegKCallOwn
import KE.RegKUnpackStar
import KE.RegKStar
import KE.RegKParD
import KE.RegKTupTruth
import KE.RegKTupSum
import KE.RegKParC
import KE.RegKTryDeep
import KE.RegKNeg
import KE.RegKStateDown
import KE.RegKTryOn
import KE.RegLGe
import KE.RegLGeC
import Wide.FinOn
import KE.KTree
import Lean
import PySem.Challenge.RW_sa0522_01
open PySem PySem.W PyProof.Rows PySem.Spec PySem.Calls
set_option Elab.async false
set_option maxRecDepth 1000000
set_option maxHeartbeats 0
set_option linter.all false
set_option genSizeOf false
set_option genSizeOfSpec false
set_option genInjectivity false
set_option tactic.hygienic false
set_option compiler.extract_closed false
namespace Mine.Internal
noncomputable abbrev prog : Program := PySem.Challenge.pw_sa0522_01
noncomputable def topS (i : Nat) : Stmt := prog.main.body.getD i (.Pass default)
noncomputable def clsS (i j : Nat) : Stmt := match topS i with
 | .ClassDef _ _ _ b _ _ _ _ _ _ _ => b.getD j (.Pass default)
 | _ => .Pass default
noncomputable def fdOf (st : Stmt) (q : Str) (pm : Value) (cd dV : Value) : FuncData := match st with
 | .FunctionDef n ps b _ _ _ sc _ _ _ => { name := n, qualname := q, params := ps, body := .stmts b, scope := sc, globals := 3, closure := [], defaults := dV, kwdefaults := .none, pyModule := pm, code := cd }
 | _ => default
noncomputable abbrev oF (st : Stmt) (q : String) (m : String) (t : Nat) (cd : Nat) (dV : Value) : Obj := ⟨.type "function", none, .func (fdOf st (.ofString q) (.str (.ofString m) t) (.ref cd) dV), #[]⟩
noncomputable abbrev oC (vs : Array Value) : Obj := ⟨.type "code", none, .fields vs, #[]⟩
noncomputable abbrev oX (c : Value) (vs : List Value) : Obj := ⟨c, none, .fields vs.toArray, #[]⟩
noncomputable abbrev oD (c : Value) (es : List DictEntry) (n : Nat) : Obj := ⟨c, none, .dict es.toArray n, #[]⟩
noncomputable abbrev oQ (c : Value) (xs : List Value) (n : Nat) : Obj := ⟨c, none, .seq xs.toArray n, #[]⟩
noncomputable abbrev eS (P : Params) (x : String) (t : Nat) (v : Value) : DictEntry := ⟨PyData.keyHash P (.ofString x), .str (.ofString x) t, v⟩
noncomputable def fdT (st : Stmt) (q : Str) : FuncData := match st with
 | .FunctionDef n ps b _ _ _ sc _ _ _ => { name := n, qualname := q, params := ps, body := .stmts b, scope := sc, globals := 0, closure := [], defaults := .none, kwdefaults := .none }
 | _ => default
noncomputable abbrev oT (st : Stmt) (q : String) : Obj := ⟨.none, none, .func (fdT st (.ofString q)), #[]⟩
noncomputable abbrev vS (x : String) (t : Nat) : Value := .str (.ofString x) t
noncomputable abbrev vI (i : Int) : Value := .int i 0
noncomputable abbrev oK (n : String) (t1 : Nat) (q : String) (t2 t3 : Nat) (l a f : Int) (r1 : Nat) (b : Bool) (x : Int) (r2 r3 r4 r5 : Nat) (e l2 : Int) (t4 : Nat) : Obj := oC #[vS n t1, vS q t2, vS "/claim/cut.py" t3, vI l, vI a, vI 0, vI 0, vI f, .ref r1, .bool b, vI x, .ref r2, .none, .ref r3, .ref r4, .ref r5, vI e, vI l2, vS "/claim/cut.py" t4]
noncomputable abbrev cK (n q : String) (t : Nat) (l a : Int) (k b : Nat) : Obj := oK n t q (t+1) (t+2) l a 3 b true 181 (b+1) (b+2) (b+3) (b+4) (t+k+3) l (t+k+4)
noncomputable abbrev oJ (es : List DictEntry) (n : Nat) : Obj := oD (.type "dict") es n
noncomputable abbrev oY (xs : List Value) : Obj := oQ (.type "tuple") xs 0
noncomputable abbrev oE : Obj := oY []
noncomputable abbrev oZ : Obj := oX .none []
noncomputable abbrev oP : Obj := oX (.type "builtin_function_or_method") [.builtin "type.__prepare__", .type "type"]
noncomputable abbrev oG (t a : Nat) : Obj := oX (.type "getset_descriptor") [vS "__dict__" t, .ref a, .builtin "function.__dict__", .builtin "function.__dict__#set"]
noncomputable abbrev oH (t a : Nat) : Obj := oX (.type "getset_descriptor") [vS "__weakref__" t, .ref a, .builtin "ExceptionGroup.__weakref__", .none]
noncomputable abbrev oU (a : Nat) : Obj := oX (.type "super") [.ref a, .ref a, .ref a]
noncomputable abbrev oI (a : Nat) : Obj := oX (.type "builtin_function_or_method") [.builtin "object.__init_subclass__", .ref a]
noncomputable abbrev oN (n : String) (i d t u : Nat) : Obj := ⟨.type "type", none, .cls ⟨.ofString n, [.type "object"], [.ref i, .type "object"], d, .ofString n, true, [], [], false, none, false⟩, #[none, none, some (vS n t), some (vS n u), some (.builtin "object.__new__"), some (.bool true)]⟩
noncomputable abbrev oR (a b : Nat) (m : String) (t : Nat) : Obj := ⟨.type "frame", none, .plain, #[some (.ref a), some (.ref 3), some (.ref b), none, some (vS m t), none, some (.ref 0)]⟩
noncomputable abbrev oL (n : String) (t : Nat) (l : Int) (r : Nat) : Obj := oC #[vS n t, vS n (t+1), vS "/claim/cut.py" (t+2), vI l, vI 0, vI 0, vI 0, vI 0, .ref r, .bool false, vI 181, .ref (r+1), .none, .none, .none, .none, vI (t+3), vI l, vS "/claim/cut.py" (t+4)]
noncomputable abbrev eR (P : Params) (x : String) (t : Nat) (a : Nat) : DictEntry := eS P x t (.ref a)
noncomputable abbrev eM (P : Params) (t : Nat) (m : String) (u : Nat) : DictEntry := eS P "__module__" t (vS m u)
noncomputable def nms (vs : List String) : Nat → List Value := vs.foldr (fun x r i => vS x i :: r (i+1)) fun _ => []
noncomputable def fB (m : String) (u : Nat) (st : Stmt) (n q : String) (b t : Nat) (l a : Int) (vs : List String) (d : Value) : List Obj :=
 [oE, oZ, oY (nms vs (t+3)), oE, oT st q, cK n q t l a vs.length b, oF st q m u (b+5) d]
noncomputable abbrev o0 (st : Stmt) (q : String) (c : Nat) (d : Value := .none) : Obj := oF st q "paperhold.errors" 194 c d
noncomputable abbrev f0 (st : Stmt) (n q : String) (b t : Nat) (l a : Int) (vs : List String) (d : Value := .none) : List Obj := fB "paperhold.errors" 194 st n q b t l a vs d
noncomputable abbrev o1 (st : Stmt) (q : String) (c : Nat) (d : Value := .none) : Obj := oF st q "paperhold.objects" 391 c d
noncomputable abbrev f1 (st : Stmt) (n q : String) (b t : Nat) (l a : Int) (vs : List String) (d : Value := .none) : List Obj := fB "paperhold.objects" 391 st n q b t l a vs d
noncomputable abbrev o2 (st : Stmt) (q : String) (c : Nat) (d : Value := .none) : Obj := oF st q "paperhold.outlines" 661 c d
noncomputable abbrev f2 (st : Stmt) (n q : String) (b t : Nat) (l a : Int) (vs : List String) (d : Value := .none) : List Obj := fB "paperhold.outlines" 661 st n q b t l a vs d
noncomputable abbrev o3 (st : Stmt) (q : String) (c : Nat) (d : Value := .none) : Obj := oF st q "paperhold.pagetree" 727 c d
noncomputable abbrev f3 (st : Stmt) (n q : String) (b t : Nat) (l a : Int) (vs : List String) (d : Value := .none) : List Obj := fB "paperhold.pagetree" 727 st n q b t l a vs d
noncomputable abbrev o4 (st : Stmt) (q : String) (c : Nat) (d : Value := .none) : Obj := oF st q "paperhold.fields" 760 c d
noncomputable abbrev f4 (st : Stmt) (n q : String) (b t : Nat) (l a : Int) (vs : List String) (d : Value := .none) : List Obj := fB "paperhold.fields" 760 st n q b t l a vs d
noncomputable abbrev o5 (st : Stmt) (q : String) (c : Nat) (d : Value := .none) : Obj := oF st q "law_sa0522_01" 1133 c d
noncomputable abbrev f5 (st : Stmt) (n q : String) (b t : Nat) (l a : Int) (vs : List String) (d : Value := .none) : List Obj := fB "law_sa0522_01" 1133 st n q b t l a vs d
noncomputable abbrev o6 (st : Stmt) (q : String) (c : Nat) (d : Value := .none) : Obj := oF st q "__main__" 164 c d
noncomputable abbrev f6 (st : Stmt) (n q : String) (b t : Nat) (l a : Int) (vs : List String) (d : Value := .none) : List Obj := fB "__main__" 164 st n q b t l a vs d
noncomputable abbrev o7 (st : Stmt) (q : String) (c : Nat) (d : Value := .none) : Obj := oF st q "paperhold.decimals" 268 c d
noncomputable abbrev f7 (st : Stmt) (n q : String) (b t : Nat) (l a : Int) (vs : List String) (d : Value := .none) : List Obj := fB "paperhold.decimals" 268 st n q b t l a vs d
noncomputable abbrev e2 (P : Params) : Obj := oD .none [eS P "type.__subclasses__.Exception.0" 232 (vI 46), eS P "type.__subclasses__.Exception.n" 233 (vI 1)] 2
noncomputable abbrev e3 (P : Params) : Obj := oJ [eS P "__name__" 165 (vS "law_sa0522_01" 1133), eS P "__doc__" 166 .none, eS P "__package__" 167 .none, eS P "__loader__" 168 (.builtin "__main__.__loader__#opaque"), eS P "__spec__" 169 .none, eR P "__annotations__" 170 6, eR P "__builtins__" 171 4, eS P "__file__" 173 (vS "/claim/cut.py" 172), eS P "__cached__" 174 .none, eR P "_wall" 193 21, eR P "PaperError" 235 46, eR P "TreeFault" 251 59, eR P "DraftFault" 267 71, eR P "Decimal" 383 167, eR P "sign_text" 390 178, eS P "MOST_HOPS" 394 (.int 30 393), eR P "Name" 423 195, eR P "String" 454 217, eR P "Stream" 485 238, eR P "Reference" 523 266, eR P "kind_of" 530 277, eR P "told_plain" 538 284, eR P "told" 544 289, eR P "told_objects" 545 289, eR P "Lookup" 597 321, eR P "Shelf" 660 375, eS P "MARK" 664 (.bytes #[254, 255] 663), eS P "UNKNOWN" 666 (.int 65533 665), eR P "accent_signs" 672 384, eR P "mark_signs" 680 391, eR P "sign_of" 687 398, eR P "octet_of" 694 405, eR P "units_of" 704 412, eR P "text_of_units" 714 419, eR P "octets_of" 720 424, eR P "text_of" 726 429, eR P "turned" 738 436, eR P "home_of" 750 443, eR P "lay" 759 450, eR P "INHERITED_KEYS" 768 451, eS P "OFF" 770 (vS "Off" 769), eR P "Field" 809 468, eR P "FormWalk" 839 489, eR P "flag_place" 847 500, eR P "flag_set" 855 507, eR P "whole_in" 865 514, eR P "flags_of" 874 521, eR P "has_flag" 883 528, eR P "form_of" 891 535, eR P "row_in" 901 542, eR P "own_name" 910 549, eR P "longer_name" 918 556, eR P "kind_word" 929 563, eR P "with_inherited" 940 570, eR P "new_node" 951 577, eR P "is_field" 960 584, eR P "own_widgets" 966 589, eR P "walked_form" 972 594, eR P "form_fields" 979 601, eR P "fields_named" 985 606, eR P "text_in" 993 613, eR P "state_in" 1001 620, eR P "value_in" 1007 625, eR P "options" 1018 632, eR P "on_states" 1024 637, eR P "shown_states" 1037 644, eR P "text_change" 1047 651, eR P "choice_change" 1053 656, eR P "button_change" 1059 661, eR P "change_for" 1068 668, eR P "lay_change" 1080 675, eR P "need_appearances" 1090 682, eR P "fill" 1102 689, eR P "put_value" 1111 696, eR P "reset" 1122 703, eR P "form_data" 1132 710, eR P "_law_words" 1139 711, eR P "_law_box" 1145 716, eR P "_law_coin" 1156 723, eR P "_law_entries" 1167 730, eR P "_law_object" 1173 735, eR P "_law_had" 1183 742, eR P "_law_table" 1189 747, eR P "_law_shelf" 1195 752, eR P "_law_is_let" 1204 759, eR P "_law_done" 1213 766, eR P "_law_right" 1225 773, eR P "law" 1231 778] 88
noncomputable abbrev e321 (P : Params) : Obj := ⟨(.type "type"), none, .cls ⟨(.ofString "Lookup"), [.type "object"], [.ref 321, .type "object"], 320, (.ofString "Lookup"), true, [], [.ref 375], false, none, false⟩, #[none, none, some (vS "Lookup" 546), some (vS "Lookup" 554), some (.builtin "object.__new__"), some (.bool true)]⟩
noncomputable abbrev k46 : Obj := ⟨(.type "type"), none, .cls ⟨(.ofString "PaperError"), [.type "Exception"], [.ref 46, .type "Exception", .type "BaseException", .type "object"], 45, (.ofString "PaperError"), true, [], [.ref 59, .ref 71], false, none, false⟩, #[some (.ref 22), none, some (vS "PaperError" 196), some (vS "PaperError" 204), some (.builtin "Exception.__new__"), some (.bool true)]⟩
noncomputable abbrev k59 : Obj := ⟨(.type "type"), none, .cls ⟨(.ofString "TreeFault"), [.ref 46], [.ref 59, .ref 46, .type "Exception", .type "BaseException", .type "object"], 58, (.ofString "TreeFault"), true, [], [], false, none, false⟩, #[some (.ref 50), none, some (vS "TreeFault" 236), some (vS "TreeFault" 244), some (.builtin "Exception.__new__"), some (.bool true)]⟩
noncomputable abbrev k71 : Obj := ⟨(.type "type"), none, .cls ⟨(.ofString "DraftFault"), [.ref 46], [.ref 71, .ref 46, .type "Exception", .type "BaseException", .type "object"], 70, (.ofString "DraftFault"), true, [], [], false, none, false⟩, #[some (.ref 62), none, some (vS "DraftFault" 252), some (vS "DraftFault" 260), some (.builtin "Exception.__new__"), some (.bool true)]⟩
noncomputable abbrev k375 : Obj := ⟨(.type "type"), none, .cls ⟨(.ofString "Shelf"), [.ref 321], [.ref 375, .ref 321, .type "object"], 374, (.ofString "Shelf"), true, [], [], false, none, false⟩, #[some (.ref 326), none, some (vS "Shelf" 598), some (vS "Shelf" 606), some (.builtin "object.__new__"), some (.bool true)]⟩
noncomputable abbrev k45 (P : Params) : Obj := oJ [eM P 203 "paperhold.errors" 194, eS P "__firstlineno__" 207 (.int 5 206), eR P "__init__" 218 36, eR P "told" 225 43, eR P "__static_attributes__" 228 44, eR P "__weakref__" 230 47, eS P "__doc__" 231 .none] 3
noncomputable abbrev k58 (P : Params) : Obj := oJ [eM P 243 "paperhold.errors" 194, eS P "__firstlineno__" 247 (.int 14 246), eR P "__static_attributes__" 248 57, eS P "__doc__" 249 .none] 2
noncomputable abbrev k70 (P : Params) : Obj := oJ [eM P 259 "paperhold.errors" 194, eS P "__firstlineno__" 263 (.int 16 262), eR P "__static_attributes__" 264 69, eS P "__doc__" 265 .none] 2
noncomputable abbrev k166 (P : Params) : Obj := oJ [eM P 277 "paperhold.decimals" 268, eS P "__firstlineno__" 281 (.int 19 280), eR P "__init__" 290 87, eR P "plus" 298 94, eR P "minus" 306 101, eR P "times" 314 108, eR P "negated" 321 115, eR P "compared" 329 122, eR P "is_whole" 336 129, eR P "floor" 343 136, eR P "rounded" 351 143, eR P "told" 358 150, eR P "text" 366 157, eR P "least_text" 373 164, eR P "__static_attributes__" 376 165, eR P "__dict__" 378 168, eR P "__weakref__" 380 169, eS P "__doc__" 381 .none] 4
noncomputable abbrev k194 (P : Params) : Obj := oJ [eM P 402 "paperhold.objects" 391, eS P "__firstlineno__" 406 (.int 68 405), eR P "__init__" 414 192, eR P "__static_attributes__" 416 193, eR P "__dict__" 418 196, eR P "__weakref__" 420 197, eS P "__doc__" 421 .none] 4
noncomputable abbrev k216 (P : Params) : Obj := oJ [eM P 431 "paperhold.objects" 391, eS P "__firstlineno__" 435 (.int 72 434), eR P "__init__" 444 214, eR P "__static_attributes__" 447 215, eR P "__dict__" 449 218, eR P "__weakref__" 451 219, eS P "__doc__" 452 .none] 4
noncomputable abbrev k237 (P : Params) : Obj := oJ [eM P 462 "paperhold.objects" 391, eS P "__firstlineno__" 466 (.int 77 465), eR P "__init__" 475 235, eR P "__static_attributes__" 478 236, eR P "__dict__" 480 239, eR P "__weakref__" 482 240, eS P "__doc__" 483 .none] 4
noncomputable abbrev k265 (P : Params) : Obj := oJ [eM P 493 "paperhold.objects" 391, eS P "__firstlineno__" 497 (.int 82 496), eR P "__init__" 506 256, eR P "pair" 513 263, eR P "__static_attributes__" 516 264, eR P "__dict__" 518 267, eR P "__weakref__" 520 268, eS P "__doc__" 521 .none] 4
noncomputable abbrev k288 : Obj := oC #[vS "told" 539, vS "told" 540, vS "/claim/cut.py" 541, vI 126, vI 1, vI 0, vI 0, vI 3, .ref 285, (.bool true), vI 181, .ref 286, .none, .none, .none, .ref 287, vI 542, vI 126, vS "/claim/cut.py" 543]
noncomputable abbrev k320 (P : Params) : Obj := oJ [eM P 553 "paperhold.objects" 391, eS P "__firstlineno__" 557 (.int 136 556), eR P "__init__" 566 304, eR P "fetch" 578 311, eR P "get" 587 318, eR P "__static_attributes__" 590 319, eR P "__dict__" 592 322, eR P "__weakref__" 594 323, eS P "__doc__" 595 .none] 4
noncomputable abbrev k371 : Obj := oC #[vS "told" 651, vS "Shelf.told" 652, vS "/claim/cut.py" 653, vI 173, vI 1, vI 0, vI 0, vI 3, .ref 368, (.bool true), vI 181, .ref 369, .none, .none, .none, .ref 370, vI 654, vI 173, vS "/claim/cut.py" 655]
noncomputable abbrev k374 (P : Params) : Obj := oJ [eM P 605 "paperhold.objects" 391, eS P "__firstlineno__" 609 (.int 155 608), eR P "put" 619 339, eR P "add" 627 346, eR P "drop" 635 353, eR P "numbers" 642 360, eR P "root" 650 367, eR P "told" 656 372, eR P "__static_attributes__" 657 373, eS P "__doc__" 658 .none] 2
noncomputable abbrev k423 : Obj := oC #[vS "octets_of" 715, vS "octets_of" 716, vS "/claim/cut.py" 717, vI 225, vI 1, vI 0, vI 0, vI 3, .ref 420, (.bool true), vI 181, .ref 421, .none, .none, .none, .ref 422, vI 718, vI 225, vS "/claim/cut.py" 719]
noncomputable abbrev k428 : Obj := oC #[vS "text_of" 721, vS "text_of" 722, vS "/claim/cut.py" 723, vI 234, vI 1, vI 0, vI 0, vI 3, .ref 425, (.bool true), vI 181, .ref 426, .none, .none, .none, .ref 427, vI 724, vI 234, vS "/claim/cut.py" 725]
noncomputable abbrev k451 : Obj := oY [vS "FT" 762, vS "Ff" 763, vS "V" 764, vS "DV" 765, vS "MaxLen" 766, vS "Opt" 767]
noncomputable abbrev k467 (P : Params) : Obj := oJ [eM P 778 "paperhold.fields" 760, eS P "__firstlineno__" 782 (.int 265 781), eR P "__init__" 795 465, eR P "__static_attributes__" 802 466, eR P "__dict__" 804 469, eR P "__weakref__" 806 470, eS P "__doc__" 807 .none] 4
noncomputable abbrev k488 (P : Params) : Obj := oJ [eM P 817 "paperhold.fields" 760, eS P "__firstlineno__" 821 (.int 274 820), eR P "__init__" 828 486, eR P "__static_attributes__" 832 487, eR P "__dict__" 834 490, eR P "__weakref__" 836 491, eS P "__doc__" 837 .none] 4
noncomputable abbrev k588 : Obj := oC #[vS "own_widgets" 961, vS "own_widgets" 962, vS "/claim/cut.py" 963, vI 337, vI 5, vI 0, vI 0, vI 3, .ref 585, (.bool true), vI 181, .ref 586, .none, .none, .none, .ref 587, vI 964, vI 337, vS "/claim/cut.py" 965]
noncomputable abbrev k593 : Obj := oC #[vS "walked_form" 967, vS "walked_form" 968, vS "/claim/cut.py" 969, vI 342, vI 1, vI 0, vI 0, vI 3, .ref 590, (.bool true), vI 181, .ref 591, .none, .none, .none, .ref 592, vI 970, vI 342, vS "/claim/cut.py" 971]
noncomputable abbrev k605 : Obj := oC #[vS "fields_named" 980, vS "fields_named" 981, vS "/claim/cut.py" 982, vI 362, vI 2, vI 0, vI 0, vI 3, .ref 602, (.bool true), vI 181, .ref 603, .none, .none, .none, .ref 604, vI 983, vI 362, vS "/claim/cut.py" 984]
noncomputable abbrev k624 : Obj := oC #[vS "value_in" 1002, vS "value_in" 1003, vS "/claim/cut.py" 1004, vI 373, vI 3, vI 0, vI 0, vI 3, .ref 621, (.bool true), vI 181, .ref 622, .none, .none, .none, .ref 623, vI 1005, vI 373, vS "/claim/cut.py" 1006]
noncomputable abbrev k655 : Obj := oC #[vS "choice_change" 1048, vS "choice_change" 1049, vS "/claim/cut.py" 1050, vI 405, vI 3, vI 0, vI 0, vI 3, .ref 652, (.bool true), vI 181, .ref 653, .none, .none, .none, .ref 654, vI 1051, vI 405, vS "/claim/cut.py" 1052]
noncomputable abbrev k711 : Obj := oY [vS "x" 1135, vS "yy" 1136, vS "αβγ" 1137, vS "" 1138]
noncomputable abbrev k715 : Obj := oC #[vS "_law_box" 1140, vS "_law_box" 1141, vS "/claim/cut.py" 1142, vI 483, vI 1, vI 0, vI 0, vI 3, .ref 712, (.bool true), vI 181, .ref 713, .none, .none, .none, .ref 714, vI 1143, vI 483, vS "/claim/cut.py" 1144]
noncomputable abbrev k734 : Obj := oC #[vS "_law_object" 1168, vS "_law_object" 1169, vS "/claim/cut.py" 1170, vI 512, vI 2, vI 0, vI 0, vI 3, .ref 731, (.bool true), vI 181, .ref 732, .none, .none, .none, .ref 733, vI 1171, vI 512, vS "/claim/cut.py" 1172]
noncomputable abbrev k746 : Obj := oC #[vS "_law_table" 1184, vS "_law_table" 1185, vS "/claim/cut.py" 1186, vI 521, vI 2, vI 0, vI 0, vI 3, .ref 743, (.bool true), vI 181, .ref 744, .none, .none, .none, .ref 745, vI 1187, vI 521, vS "/claim/cut.py" 1188]
noncomputable abbrev k751 : Obj := oC #[vS "_law_shelf" 1190, vS "_law_shelf" 1191, vS "/claim/cut.py" 1192, vI 529, vI 3, vI 0, vI 0, vI 3, .ref 748, (.bool true), vI 181, .ref 749, .none, .none, .none, .ref 750, vI 1193, vI 529, vS "/claim/cut.py" 1194]
noncomputable abbrev k777 : Obj := oC #[vS "law" 1226, vS "law" 1227, vS "/claim/cut.py" 1228, vI 560, vI 1, vI 0, vI 0, vI 3, .ref 774, (.bool true), vI 181, .ref 775, .none, .none, .none, .ref 776, vI 1229, vI 560, vS "/claim/cut.py" 1230]
noncomputable def Kf : Params → Frag := fun P =>
 (nat_lit 3, e3 P) ::
 (nat_lit 46, k46) ::
 (nat_lit 59, k59) ::
 (nat_lit 71, k71) ::
 (nat_lit 167, oN "Decimal" 167 166 270 278) ::
 (nat_lit 195, oN "Name" 195 194 395 403) ::
 (nat_lit 217, oN "String" 217 216 424 432) ::
 (nat_lit 238, oN "Stream" 238 237 455 463) ::
 (nat_lit 266, oN "Reference" 266 265 486 494) ::
 (nat_lit 321, e321 P) ::
 (nat_lit 375, k375) ::
 (nat_lit 468, oN "Field" 468 467 771 779) ::
 (nat_lit 489, oN "FormWalk" 489 488 810 818) ::
 (nat_lit 2, e2 P) ::
 (nat_lit 22, oY [.type "Exception"]) ::
 (nat_lit 35, cK "__init__" "PaperError.__init__" 210 7 3 3 30) ::
 (nat_lit 36, o0 (clsS 2 0) "PaperError.__init__" 35 (.ref 29)) ::
 (nat_lit 45, k45 P) ::
 (nat_lit 47, oH 229 46) ::
 (nat_lit 50, oY [.ref 46]) ::
 (nat_lit 58, k58 P) ::
 (nat_lit 62, oY [.ref 46]) ::
 (nat_lit 70, k70 P) ::
 (nat_lit 166, k166 P) ::
 (nat_lit 168, oG 377 167) ::
 (nat_lit 169, oH 379 167) ::
 (nat_lit 191, cK "__init__" "Name.__init__" 407 70 2 2 186) ::
 (nat_lit 192, o1 (clsS 10 0) "Name.__init__" 191) ::
 (nat_lit 194, k194 P) ::
 (nat_lit 196, oG 417 195) ::
 (nat_lit 197, oH 419 195) ::
 (nat_lit 213, cK "__init__" "String.__init__" 436 74 3 3 208) ::
 (nat_lit 214, o1 (clsS 11 0) "String.__init__" 213 (.ref 207)) ::
 (nat_lit 216, k216 P) ::
 (nat_lit 218, oG 448 217) ::
 (nat_lit 219, oH 450 217) ::
 (nat_lit 237, k237 P) ::
 (nat_lit 239, oG 479 238) ::
 (nat_lit 240, oH 481 238) ::
 (nat_lit 255, cK "__init__" "Reference.__init__" 498 84 3 3 250) ::
 (nat_lit 256, o1 (clsS 13 0) "Reference.__init__" 255) ::
 (nat_lit 265, k265 P) ::
 (nat_lit 267, oG 517 266) ::
 (nat_lit 268, oH 519 266) ::
 (nat_lit 276, cK "kind_of" "kind_of" 524 90 1 1 271) ::
 (nat_lit 277, o1 (topS 14) "kind_of" 276) ::
 (nat_lit 283, cK "told_plain" "told_plain" 531 112 2 2 278) ::
 (nat_lit 284, o1 (topS 15) "told_plain" 283) ::
 (nat_lit 288, k288) ::
 (nat_lit 289, o1 (topS 16) "told" 288) ::
 (nat_lit 303, cK "__init__" "Lookup.__init__" 558 138 3 3 298) ::
 (nat_lit 304, o1 (clsS 18 0) "Lookup.__init__" 303 (.ref 297)) ::
 (nat_lit 310, cK "fetch" "Lookup.fetch" 567 142 2 6 305) ::
 (nat_lit 311, o1 (clsS 18 1) "Lookup.fetch" 310) ::
 (nat_lit 317, cK "get" "Lookup.get" 579 153 3 3 312) ::
 (nat_lit 318, o1 (clsS 18 2) "Lookup.get" 317) ::
 (nat_lit 320, k320 P) ::
 (nat_lit 322, oG 591 321) ::
 (nat_lit 323, oH 593 321) ::
 (nat_lit 326, oY [.ref 321]) ::
 (nat_lit 338, cK "put" "Shelf.put" 610 157 4 4 333) ::
 (nat_lit 339, o1 (clsS 19 0) "Shelf.put" 338) ::
 (nat_lit 359, cK "numbers" "Shelf.numbers" 636 166 1 1 354) ::
 (nat_lit 360, o1 (clsS 19 3) "Shelf.numbers" 359) ::
 (nat_lit 366, cK "root" "Shelf.root" 643 169 1 2 361) ::
 (nat_lit 367, o1 (clsS 19 4) "Shelf.root" 366) ::
 (nat_lit 371, k371) ::
 (nat_lit 372, o1 (clsS 19 5) "Shelf.told" 371) ::
 (nat_lit 374, k374 P) ::
 (nat_lit 383, cK "accent_signs" "accent_signs" 667 179 0 0 378) ::
 (nat_lit 384, o2 (topS 23) "accent_signs" 383) ::
 (nat_lit 390, cK "mark_signs" "mark_signs" 673 181 0 2 385) ::
 (nat_lit 391, o2 (topS 24) "mark_signs" 390) ::
 (nat_lit 397, cK "sign_of" "sign_of" 681 185 1 1 392) ::
 (nat_lit 398, o2 (topS 25) "sign_of" 397) ::
 (nat_lit 404, cK "octet_of" "octet_of" 688 193 1 1 399) ::
 (nat_lit 405, o2 (topS 26) "octet_of" 404) ::
 (nat_lit 411, cK "units_of" "units_of" 695 201 1 4 406) ::
 (nat_lit 412, o2 (topS 27) "units_of" 411) ::
 (nat_lit 418, cK "text_of_units" "text_of_units" 705 211 1 4 413) ::
 (nat_lit 419, o2 (topS 28) "text_of_units" 418) ::
 (nat_lit 423, k423) ::
 (nat_lit 424, o2 (topS 29) "octets_of" 423) ::
 (nat_lit 428, k428) ::
 (nat_lit 429, o2 (topS 30) "text_of" 428) ::
 (nat_lit 435, cK "turned" "turned" 729 240 2 4 430) ::
 (nat_lit 436, o3 (topS 32) "turned" 435) ::
 (nat_lit 442, cK "home_of" "home_of" 739 248 2 6 437) ::
 (nat_lit 443, o3 (topS 33) "home_of" 442) ::
 (nat_lit 449, cK "lay" "lay" 751 260 3 3 444) ::
 (nat_lit 450, o3 (topS 34) "lay" 449) ::
 (nat_lit 451, k451) ::
 (nat_lit 464, cK "__init__" "Field.__init__" 783 267 7 7 459) ::
 (nat_lit 465, o4 (clsS 38 0) "Field.__init__" 464) ::
 (nat_lit 467, k467 P) ::
 (nat_lit 469, oG 803 468) ::
 (nat_lit 470, oH 805 468) ::
 (nat_lit 485, cK "__init__" "FormWalk.__init__" 822 276 1 1 480) ::
 (nat_lit 486, o4 (clsS 39 0) "FormWalk.__init__" 485) ::
 (nat_lit 488, k488 P) ::
 (nat_lit 490, oG 833 489) ::
 (nat_lit 491, oH 835 489) ::
 (nat_lit 499, cK "flag_place" "flag_place" 840 280 1 2 494) ::
 (nat_lit 500, o4 (topS 40) "flag_place" 499) ::
 (nat_lit 506, cK "flag_set" "flag_set" 848 285 2 2 501) ::
 (nat_lit 507, o4 (topS 41) "flag_set" 506) ::
 (nat_lit 513, cK "whole_in" "whole_in" 856 287 3 4 508) ::
 (nat_lit 514, o4 (topS 42) "whole_in" 513) ::
 (nat_lit 520, cK "flags_of" "flags_of" 866 290 2 3 515) ::
 (nat_lit 521, o4 (topS 43) "flags_of" 520) ::
 (nat_lit 527, cK "has_flag" "has_flag" 875 293 3 3 522) ::
 (nat_lit 528, o4 (topS 44) "has_flag" 527) ::
 (nat_lit 534, cK "form_of" "form_of" 884 295 1 2 529) ::
 (nat_lit 535, o4 (topS 45) "form_of" 534) ::
 (nat_lit 541, cK "row_in" "row_in" 892 298 3 4 536) ::
 (nat_lit 542, o4 (topS 46) "row_in" 541) ::
 (nat_lit 548, cK "own_name" "own_name" 902 305 2 3 543) ::
 (nat_lit 549, o4 (topS 47) "own_name" 548) ::
 (nat_lit 555, cK "longer_name" "longer_name" 911 308 2 2 550) ::
 (nat_lit 556, o4 (topS 48) "longer_name" 555) ::
 (nat_lit 562, cK "kind_word" "kind_word" 919 312 2 5 557) ::
 (nat_lit 563, o4 (topS 49) "kind_word" 562) ::
 (nat_lit 569, cK "with_inherited" "with_inherited" 930 321 3 5 564) ::
 (nat_lit 570, o4 (topS 50) "with_inherited" 569) ::
 (nat_lit 576, cK "new_node" "new_node" 941 327 3 5 571) ::
 (nat_lit 577, o4 (topS 51) "new_node" 576) ::
 (nat_lit 583, cK "is_field" "is_field" 952 334 2 3 578) ::
 (nat_lit 584, o4 (topS 52) "is_field" 583) ::
 (nat_lit 588, k588) ::
 (nat_lit 589, o4 (topS 53) "own_widgets" 588) ::
 (nat_lit 593, k593) ::
 (nat_lit 594, o4 (topS 54) "walked_form" 593) ::
 (nat_lit 600, cK "form_fields" "form_fields" 973 360 1 1 595) ::
 (nat_lit 601, o4 (topS 55) "form_fields" 600) ::
 (nat_lit 605, k605) ::
 (nat_lit 606, o4 (topS 56) "fields_named" 605) ::
 (nat_lit 612, cK "text_in" "text_in" 986 367 2 2 607) ::
 (nat_lit 613, o4 (topS 57) "text_in" 612) ::
 (nat_lit 624, k624) ::
 (nat_lit 625, o4 (topS 59) "value_in" 624) ::
 (nat_lit 631, cK "options" "options" 1008 380 2 5 626) ::
 (nat_lit 632, o4 (topS 60) "options" 631) ::
 (nat_lit 650, cK "text_change" "text_change" 1038 400 3 4 645) ::
 (nat_lit 651, o4 (topS 63) "text_change" 650) ::
 (nat_lit 655, k655) ::
 (nat_lit 656, o4 (topS 64) "choice_change" 655) ::
 (nat_lit 667, cK "change_for" "change_for" 1060 426 3 3 662) ::
 (nat_lit 668, o4 (topS 66) "change_for" 667) ::
 (nat_lit 674, cK "lay_change" "lay_change" 1069 436 3 6 669) ::
 (nat_lit 675, o4 (topS 67) "lay_change" 674) ::
 (nat_lit 681, cK "need_appearances" "need_appearances" 1081 442 1 4 676) ::
 (nat_lit 682, o4 (topS 68) "need_appearances" 681) ::
 (nat_lit 688, cK "fill" "fill" 1091 455 2 6 683) ::
 (nat_lit 689, o4 (topS 69) "fill" 688) ::
 (nat_lit 695, cK "put_value" "put_value" 1103 464 3 3 690) ::
 (nat_lit 696, o4 (topS 70) "put_value" 695) ::
 (nat_lit 702, cK "reset" "reset" 1112 466 1 5 697) ::
 (nat_lit 703, o4 (topS 71) "reset" 702) ::
 (nat_lit 709, cK "form_data" "form_data" 1123 474 1 4 704) ::
 (nat_lit 710, o4 (topS 72) "form_data" 709) ::
 (nat_lit 711, k711) ::
 (nat_lit 715, k715) ::
 (nat_lit 716, o5 (topS 75) "_law_box" 715) ::
 (nat_lit 722, cK "_law_coin" "_law_coin" 1146 485 2 5 717) ::
 (nat_lit 723, o5 (topS 76) "_law_coin" 722) ::
 (nat_lit 729, cK "_law_entries" "_law_entries" 1157 497 2 5 724) ::
 (nat_lit 730, o5 (topS 77) "_law_entries" 729) ::
 (nat_lit 734, k734) ::
 (nat_lit 735, o5 (topS 78) "_law_object" 734) ::
 (nat_lit 741, cK "_law_had" "_law_had" 1174 518 3 4 736) ::
 (nat_lit 742, o5 (topS 79) "_law_had" 741) ::
 (nat_lit 746, k746) ::
 (nat_lit 747, o5 (topS 80) "_law_table" 746) ::
 (nat_lit 751, k751) ::
 (nat_lit 752, o5 (topS 81) "_law_shelf" 751) ::
 (nat_lit 758, cK "_law_is_let" "_law_is_let" 1196 538 3 3 753) ::
 (nat_lit 759, o5 (topS 82) "_law_is_let" 758) ::
 (nat_lit 765, cK "_law_done" "_law_done" 1205 542 2 3 760) ::
 (nat_lit 766, o5 (topS 83) "_law_done" 765) ::
 (nat_lit 772, cK "_law_right" "_law_right" 1214 551 3 6 767) ::
 (nat_lit 773, o5 (topS 84) "_law_right" 772) ::
 (nat_lit 777, k777) ::
 (nat_lit 778, o5 (topS 85) "law" 777) ::
 (nat_lit 29, oY [(.int (-1) 209)]) ::
 (nat_lit 207, oY [(.bool false)]) ::
 (nat_lit 297, oY [.none, .none]) :: []
noncomputable def hdA (P : Params) : List Obj := [
 oQ (.type "tuple") [] 0,
 oX .none [],
 oC #[vS "<module>" 182, vS "<module>" 183, vS "/claim/cut.py" 184, vI 1, vI 0, vI 0, vI 0, vI 0, .ref 11, (.bool false), vI 181, .ref 12, .none, .none, .none, .none, vI 185, vI 1, vS "/claim/cut.py" 186],
 ⟨(.type "frame"), none, .plain, #[some (.ref 13), some (.ref 3), some (.ref 3), none, some (vS "__main__" 164), none, some (.ref 0)]⟩]
noncomputable def m3 (P : Params) : Obj := oJ [eS P "__name__" 165 (vS "paperhold.objects" 391), eS P "__doc__" 166 .none, eS P "__package__" 167 .none, eS P "__loader__" 168 (.builtin "__main__.__loader__#opaque"), eS P "__spec__" 169 .none, eR P "__annotations__" 170 6, eR P "__builtins__" 171 4, eS P "__file__" 173 (vS "/claim/cut.py" 172), eS P "__cached__" 174 .none, eR P "_wall" 193 21, eR P "PaperError" 235 46, eR P "TreeFault" 251 59, eR P "DraftFault" 267 71, eR P "Decimal" 383 167, eR P "sign_text" 390 178, eS P "MOST_HOPS" 394 (.int 30 393), eR P "Name" 423 195, eR P "String" 454 217, eR P "Stream" 485 238, eR P "Reference" 523 266, eR P "kind_of" 530 277, eR P "told_plain" 538 284, eR P "told" 544 289, eR P "told_objects" 545 289, eR P "Lookup" 597 321] 25
noncomputable def m12 (P : Params) : Obj := oX .none [vI 1, vI 0, .ref 20, vI 5, vI 0, .ref 27, vI 14, vI 0, .ref 55, vI 16, vI 0, .ref 67, vI 19, vI 0, .ref 79, vI 64, vI 0, .ref 177, vI 68, vI 0, .ref 184, vI 72, vI 0, .ref 205, vI 77, vI 0, .ref 227, vI 82, vI 0, .ref 248, vI 90, vI 0, .ref 276, vI 112, vI 0, .ref 283, vI 126, vI 0, .ref 288, vI 136, vI 0, .ref 295]
noncomputable def m321 (P : Params) : Obj := oN "Lookup" 321 320 546 554
noncomputable def e12 (P : Params) : Obj := oX .none [vI 1, vI 0, .ref 20, vI 5, vI 0, .ref 27, vI 14, vI 0, .ref 55, vI 16, vI 0, .ref 67, vI 19, vI 0, .ref 79, vI 64, vI 0, .ref 177, vI 68, vI 0, .ref 184, vI 72, vI 0, .ref 205, vI 77, vI 0, .ref 227, vI 82, vI 0, .ref 248, vI 90, vI 0, .ref 276, vI 112, vI 0, .ref 283, vI 126, vI 0, .ref 288, vI 136, vI 0, .ref 295, vI 155, vI 0, .ref 331, vI 179, vI 0, .ref 383, vI 181, vI 0, .ref 390, vI 185, vI 0, .ref 397, vI 193, vI 0, .ref 404, vI 201, vI 0, .ref 411, vI 211, vI 0, .ref 418, vI 225, vI 0, .ref 423, vI 234, vI 0, .ref 428, vI 240, vI 0, .ref 435, vI 248, vI 0, .ref 442, vI 260, vI 0, .ref 449, vI 265, vI 0, .ref 457, vI 274, vI 0, .ref 478, vI 280, vI 0, .ref 499, vI 285, vI 0, .ref 506, vI 287, vI 0, .ref 513, vI 290, vI 0, .ref 520, vI 293, vI 0, .ref 527, vI 295, vI 0, .ref 534, vI 298, vI 0, .ref 541, vI 305, vI 0, .ref 548, vI 308, vI 0, .ref 555, vI 312, vI 0, .ref 562, vI 321, vI 0, .ref 569, vI 327, vI 0, .ref 576, vI 334, vI 0, .ref 583, vI 337, vI 0, .ref 588, vI 342, vI 0, .ref 593, vI 360, vI 0, .ref 600, vI 362, vI 0, .ref 605, vI 367, vI 0, .ref 612, vI 370, vI 0, .ref 619, vI 373, vI 0, .ref 624, vI 380, vI 0, .ref 631, vI 389, vI 0, .ref 636, vI 393, vI 0, .ref 643, vI 400, vI 0, .ref 650, vI 405, vI 0, .ref 655, vI 418, vI 0, .ref 660, vI 426, vI 0, .ref 667, vI 436, vI 0, .ref 674, vI 442, vI 0, .ref 681, vI 455, vI 0, .ref 688, vI 464, vI 0, .ref 695, vI 466, vI 0, .ref 702, vI 474, vI 0, .ref 709, vI 483, vI 0, .ref 715, vI 485, vI 0, .ref 722, vI 497, vI 0, .ref 729, vI 512, vI 0, .ref 734, vI 518, vI 0, .ref 741, vI 521, vI 0, .ref 746, vI 529, vI 0, .ref 751, vI 538, vI 0, .ref 758, vI 542, vI 0, .ref 765, vI 551, vI 0, .ref 772, vI 560, vI 0, .ref 777]
noncomputable def part1 (P : Params) : List Obj := List.flatten [
 f6 (topS 0) "_wall" "_wall" 15 187 1 1 ["k"],
 [oY [.type "Exception"], oP, oJ [eM P 203 "paperhold.errors" 194, eS P "__qualname__" 205 (vS "PaperError" 204), eS P "__firstlineno__" 207 (.int 5 206), eR P "__init__" 218 36, eR P "told" 225 43, eR P "__static_attributes__" 228 44] 6, oE, oX .none [vI 7, vI 4, .ref 35, vI 12, vI 4, .ref 42], oL "PaperError" 198 5 25, oR 27 24 "paperhold.errors" 194, oY [(.int (-1) 209)]],
 f0 (clsS 2 0) "__init__" "PaperError.__init__" 30 210 7 3 ["self", "what", "at"] (.ref 29),
 f0 (clsS 2 1) "told" "PaperError.told" 37 219 12 1 ["self"],
 [oY [vS "at" 226, vS "what" 227], k45 P, k46, oH 229 46, oU 46, oI 46, oY [.ref 46], oP, oJ [eM P 243 "paperhold.errors" 194, eS P "__qualname__" 245 (vS "TreeFault" 244), eS P "__firstlineno__" 247 (.int 14 246), eR P "__static_attributes__" 248 57] 4, oE, oZ, oL "TreeFault" 238 14 53, oR 55 52 "paperhold.errors" 194, oE, k58 P, k59, oU 59, oI 59, oY [.ref 46], oP, oJ [eM P 259 "paperhold.errors" 194, eS P "__qualname__" 261 (vS "DraftFault" 260), eS P "__firstlineno__" 263 (.int 16 262), eR P "__static_attributes__" 264 69] 4, oE, oZ, oL "DraftFault" 254 16 65, oR 67 64 "paperhold.errors" 194, oE, k70 P, k71, oU 71, oI 71, oE, oP, oJ [eM P 277 "paperhold.decimals" 268, eS P "__qualname__" 279 (vS "Decimal" 278), eS P "__firstlineno__" 281 (.int 19 280), eR P "__init__" 290 87, eR P "plus" 298 94, eR P "minus" 306 101, eR P "times" 314 108, eR P "negated" 321 115, eR P "compared" 329 122, eR P "is_whole" 336 129, eR P "floor" 343 136, eR P "rounded" 351 143, eR P "told" 358 150, eR P "text" 366 157, eR P "least_text" 373 164, eR P "__static_attributes__" 376 165] 16, oE, oX .none [vI 21, vI 4, .ref 86, vI 28, vI 4, .ref 93, vI 31, vI 4, .ref 100, vI 34, vI 4, .ref 107, vI 37, vI 4, .ref 114, vI 40, vI 4, .ref 121, vI 43, vI 4, .ref 128, vI 46, vI 4, .ref 135, vI 49, vI 4, .ref 142, vI 52, vI 4, .ref 149, vI 55, vI 4, .ref 156, vI 62, vI 4, .ref 163], oL "Decimal" 272 19 77, oR 79 76 "paperhold.decimals" 268],
 f7 (clsS 6 0) "__init__" "Decimal.__init__" 81 282 21 3 ["self", "top", "places"],
 f7 (clsS 6 1) "plus" "Decimal.plus" 88 291 28 2 ["self", "other"],
 f7 (clsS 6 2) "minus" "Decimal.minus" 95 299 31 2 ["self", "other"],
 f7 (clsS 6 3) "times" "Decimal.times" 102 307 34 2 ["self", "other"],
 f7 (clsS 6 4) "negated" "Decimal.negated" 109 315 37 1 ["self"],
 f7 (clsS 6 5) "compared" "Decimal.compared" 116 322 40 2 ["self", "other"],
 f7 (clsS 6 6) "is_whole" "Decimal.is_whole" 123 330 43 1 ["self"],
 f7 (clsS 6 7) "floor" "Decimal.floor" 130 337 46 1 ["self"],
 f7 (clsS 6 8) "rounded" "Decimal.rounded" 137 344 49 2 ["self", "places"],
 f7 (clsS 6 9) "told" "Decimal.told" 144 352 52 1 ["self"],
 f7 (clsS 6 10) "text" "Decimal.text" 151 359 55 1 ["self", "numerals"],
 f7 (clsS 6 11) "least_text" "Decimal.least_text" 158 367 62 1 ["self"],
 [oY [vS "places" 374, vS "top" 375], k166 P, oN "Decimal" 167 166 270 278, oG 377 167, oH 379 167, oU 167, oI 167],
 f7 (topS 7) "sign_text" "sign_text" 172 384 64 1 ["number"],
 [oE, oP, oJ [eM P 402 "paperhold.objects" 391, eS P "__qualname__" 404 (vS "Name" 403), eS P "__firstlineno__" 406 (.int 68 405), eR P "__init__" 414 192, eR P "__static_attributes__" 416 193] 5, oE, oX .none [vI 70, vI 4, .ref 191], oL "Name" 397 68 182, oR 184 181 "paperhold.objects" 391],
 f1 (clsS 10 0) "__init__" "Name.__init__" 186 407 70 2 ["self", "text"],
 [oY [vS "text" 415], k194 P, oN "Name" 195 194 395 403, oG 417 195, oH 419 195, oU 195, oI 195, oE, oP, oJ [eM P 431 "paperhold.objects" 391, eS P "__qualname__" 433 (vS "String" 432), eS P "__firstlineno__" 435 (.int 72 434), eR P "__init__" 444 214, eR P "__static_attributes__" 447 215] 5, oE, oX .none [vI 74, vI 4, .ref 213], oL "String" 426 72 203, oR 205 202 "paperhold.objects" 391, oY [(.bool false)]],
 f1 (clsS 11 0) "__init__" "String.__init__" 208 436 74 3 ["self", "octets", "is_hex"] (.ref 207),
 [oY [vS "is_hex" 445, vS "octets" 446], k216 P, oN "String" 217 216 424 432, oG 448 217, oH 450 217, oU 217, oI 217, oE, oP, oJ [eM P 462 "paperhold.objects" 391, eS P "__qualname__" 464 (vS "Stream" 463), eS P "__firstlineno__" 466 (.int 77 465), eR P "__init__" 475 235, eR P "__static_attributes__" 478 236] 5, oE, oX .none [vI 79, vI 4, .ref 234], oL "Stream" 457 77 225, oR 227 224 "paperhold.objects" 391],
 f1 (clsS 12 0) "__init__" "Stream.__init__" 229 467 79 3 ["self", "head", "octets"],
 [oY [vS "head" 476, vS "octets" 477], k237 P, oN "Stream" 238 237 455 463, oG 479 238, oH 481 238, oU 238, oI 238, oE, oP, oJ [eM P 493 "paperhold.objects" 391, eS P "__qualname__" 495 (vS "Reference" 494), eS P "__firstlineno__" 497 (.int 82 496), eR P "__init__" 506 256, eR P "pair" 513 263, eR P "__static_attributes__" 516 264] 6, oE, oX .none [vI 84, vI 4, .ref 255, vI 88, vI 4, .ref 262], oL "Reference" 488 82 246, oR 248 245 "paperhold.objects" 391],
 f1 (clsS 13 0) "__init__" "Reference.__init__" 250 498 84 3 ["self", "number", "generation"],
 f1 (clsS 13 1) "pair" "Reference.pair" 257 507 88 1 ["self"],
 [oY [vS "generation" 514, vS "number" 515], k265 P, oN "Reference" 266 265 486 494, oG 517 266, oH 519 266, oU 266, oI 266],
 f1 (topS 14) "kind_of" "kind_of" 271 524 90 1 ["value"],
 f1 (topS 15) "told_plain" "told_plain" 278 531 112 2 ["kind", "value"],
 [oE, oZ, oT (topS 16) "told", k288, o1 (topS 16) "told" 288, oE, oP, oJ [eM P 553 "paperhold.objects" 391, eS P "__qualname__" 555 (vS "Lookup" 554), eS P "__firstlineno__" 557 (.int 136 556), eR P "__init__" 566 304, eR P "fetch" 578 311, eR P "get" 587 318, eR P "__static_attributes__" 590 319] 7, oE, oX .none [vI 138, vI 4, .ref 303, vI 142, vI 4, .ref 310, vI 153, vI 4, .ref 317], oL "Lookup" 548 136 293, oR 295 292 "paperhold.objects" 391, oY [.none, .none]],
 f1 (clsS 18 0) "__init__" "Lookup.__init__" 298 558 138 3 ["self", "table", "trailer"] (.ref 297),
 f1 (clsS 18 1) "fetch" "Lookup.fetch" 305 567 142 2 ["self", "value", "here", "hop", "generation", "found"],
 f1 (clsS 18 2) "get" "Lookup.get" 312 579 153 3 ["self", "head", "key"],
 [oY [vS "table" 588, vS "trailer" 589], k320 P, oN "Lookup" 321 320 546 554, oG 591 321, oH 593 321, oU 321, oI 321]]
noncomputable def part2 (P : Params) : List Obj := List.flatten [
 [oY [.ref 321], oP, oJ [eM P 605 "paperhold.objects" 391, eS P "__qualname__" 607 (vS "Shelf" 606), eS P "__firstlineno__" 609 (.int 155 608), eR P "put" 619 339, eR P "add" 627 346, eR P "drop" 635 353, eR P "numbers" 642 360, eR P "root" 650 367, eR P "told" 656 372, eR P "__static_attributes__" 657 373] 10, oE, oX .none [vI 157, vI 4, .ref 338, vI 160, vI 4, .ref 345, vI 163, vI 4, .ref 352, vI 166, vI 4, .ref 359, vI 169, vI 4, .ref 366, vI 173, vI 4, .ref 371], oL "Shelf" 600 155 329, oR 331 328 "paperhold.objects" 391],
 f1 (clsS 19 0) "put" "Shelf.put" 333 610 157 4 ["self", "number", "generation", "value"],
 f1 (clsS 19 1) "add" "Shelf.add" 340 620 160 2 ["self", "value"],
 f1 (clsS 19 2) "drop" "Shelf.drop" 347 628 163 2 ["self", "number"],
 f1 (clsS 19 3) "numbers" "Shelf.numbers" 354 636 166 1 ["self"],
 f1 (clsS 19 4) "root" "Shelf.root" 361 643 169 1 ["self", "found"],
 [oE, oZ, oT (clsS 19 5) "Shelf.told", k371, o1 (clsS 19 5) "Shelf.told" 371, oE, k374 P, k375, oU 375, oI 375],
 f2 (topS 23) "accent_signs" "accent_signs" 378 667 179 0 [],
 f2 (topS 24) "mark_signs" "mark_signs" 385 673 181 0 ["marks", "quotes"],
 f2 (topS 25) "sign_of" "sign_of" 392 681 185 1 ["octet"],
 f2 (topS 26) "octet_of" "octet_of" 399 688 193 1 ["code"],
 f2 (topS 27) "units_of" "units_of" 406 695 201 1 ["text", "units", "sign", "code"],
 f2 (topS 28) "text_of_units" "text_of_units" 413 705 211 1 ["units", "signs", "at", "unit"],
 [oE, oZ, oT (topS 29) "octets_of", k423, o2 (topS 29) "octets_of" 423, oE, oZ, oT (topS 30) "text_of", k428, o2 (topS 30) "text_of" 428],
 f3 (topS 32) "turned" "turned" 430 729 240 2 ["head", "changes", "found", "key"],
 f3 (topS 33) "home_of" "home_of" 437 739 248 2 ["shelf", "value", "here", "seen", "generation", "found"],
 f3 (topS 34) "lay" "lay" 444 751 260 3 ["shelf", "reference", "head"],
 [k451, oE, oP, oJ [eM P 778 "paperhold.fields" 760, eS P "__qualname__" 780 (vS "Field" 779), eS P "__firstlineno__" 782 (.int 265 781), eR P "__init__" 795 465, eR P "__static_attributes__" 802 466] 5, oE, oX .none [vI 267, vI 4, .ref 464], oL "Field" 773 265 455, oR 457 454 "paperhold.fields" 760],
 f4 (clsS 38 0) "__init__" "Field.__init__" 459 783 267 7 ["self", "name", "reference", "above", "widgets", "head", "kind"],
 [oY [vS "above" 796, vS "head" 797, vS "kind" 798, vS "name" 799, vS "reference" 800, vS "widgets" 801], k467 P, oN "Field" 468 467 771 779, oG 803 468, oH 805 468, oU 468, oI 468, oE, oP, oJ [eM P 817 "paperhold.fields" 760, eS P "__qualname__" 819 (vS "FormWalk" 818), eS P "__firstlineno__" 821 (.int 274 820), eR P "__init__" 828 486, eR P "__static_attributes__" 832 487] 5, oE, oX .none [vI 276, vI 4, .ref 485], oL "FormWalk" 812 274 476, oR 478 475 "paperhold.fields" 760],
 f4 (clsS 39 0) "__init__" "FormWalk.__init__" 480 822 276 1 ["self"],
 [oY [vS "fields" 829, vS "nodes" 830, vS "seen" 831], k488 P, oN "FormWalk" 489 488 810 818, oG 833 489, oH 835 489, oU 489, oI 489],
 f4 (topS 40) "flag_place" "flag_place" 494 840 280 1 ["word", "places"],
 f4 (topS 41) "flag_set" "flag_set" 501 848 285 2 ["flags", "word"],
 f4 (topS 42) "whole_in" "whole_in" 508 856 287 3 ["shelf", "head", "key", "value"],
 f4 (topS 43) "flags_of" "flags_of" 515 866 290 2 ["shelf", "head", "flags"],
 f4 (topS 44) "has_flag" "has_flag" 522 875 293 3 ["shelf", "leaf", "word"],
 f4 (topS 45) "form_of" "form_of" 529 884 295 1 ["shelf", "form"],
 f4 (topS 46) "row_in" "row_in" 536 892 298 3 ["shelf", "head", "key", "row"],
 f4 (topS 47) "own_name" "own_name" 543 902 305 2 ["shelf", "head", "word"],
 f4 (topS 48) "longer_name" "longer_name" 550 911 308 2 ["name", "part"],
 f4 (topS 49) "kind_word" "kind_word" 557 919 312 2 ["shelf", "head", "sort", "word", "flags"],
 f4 (topS 50) "with_inherited" "with_inherited" 564 930 321 3 ["shelf", "head", "given", "found", "key"],
 f4 (topS 51) "new_node" "new_node" 571 941 327 3 ["shelf", "tour", "value", "home", "head"],
 f4 (topS 52) "is_field" "is_field" 578 952 334 2 ["shelf", "value", "head"],
 [oE, oZ, oT (topS 53) "own_widgets", k588, o4 (topS 53) "own_widgets" 588, oE, oZ, oT (topS 54) "walked_form", k593, o4 (topS 54) "walked_form" 593],
 f4 (topS 55) "form_fields" "form_fields" 595 973 360 1 ["shelf"],
 [oE, oZ, oT (topS 56) "fields_named", k605, o4 (topS 56) "fields_named" 605],
 f4 (topS 57) "text_in" "text_in" 607 986 367 2 ["shelf", "value"],
 f4 (topS 58) "state_in" "state_in" 614 994 370 2 ["shelf", "value"],
 [oE, oZ, oT (topS 59) "value_in", k624, o4 (topS 59) "value_in" 624],
 f4 (topS 60) "options" "options" 626 1008 380 2 ["shelf", "leaf", "found", "part", "both"],
 [oE, oZ, oT (topS 61) "on_states", oC #[vS "on_states" 1019, vS "on_states" 1020, vS "/claim/cut.py" 1021, vI 389, vI 2, vI 0, vI 0, vI 3, .ref 633, (.bool true), vI 181, .ref 634, .none, .none, .none, .ref 635, vI 1022, vI 389, vS "/claim/cut.py" 1023], o4 (topS 61) "on_states" 636],
 f4 (topS 62) "shown_states" "shown_states" 638 1025 393 3 ["shelf", "leaf", "state", "found", "is_lone", "widget", "is_on"],
 f4 (topS 63) "text_change" "text_change" 645 1038 400 3 ["shelf", "leaf", "value", "most"],
 [oE, oZ, oT (topS 64) "choice_change", k655, o4 (topS 64) "choice_change" 655, oE, oZ, oT (topS 65) "button_change", oC #[vS "button_change" 1054, vS "button_change" 1055, vS "/claim/cut.py" 1056, vI 418, vI 3, vI 0, vI 0, vI 3, .ref 657, (.bool true), vI 181, .ref 658, .none, .none, .none, .ref 659, vI 1057, vI 418, vS "/claim/cut.py" 1058], o4 (topS 65) "button_change" 660],
 f4 (topS 66) "change_for" "change_for" 662 1060 426 3 ["shelf", "leaf", "value"],
 f4 (topS 67) "lay_change" "lay_change" 669 1069 436 3 ["shelf", "leaf", "changes", "states", "widget", "state"],
 f4 (topS 68) "need_appearances" "need_appearances" 676 1081 442 1 ["shelf", "form", "place", "root"],
 f4 (topS 69) "fill" "fill" 683 1091 455 2 ["shelf", "data", "plan", "name", "leaf", "changes"],
 f4 (topS 70) "put_value" "put_value" 690 1103 464 3 ["shelf", "name", "value"],
 f4 (topS 71) "reset" "reset" 697 1112 466 1 ["shelf", "tour", "node", "above", "leaf"],
 f4 (topS 72) "form_data" "form_data" 704 1123 474 1 ["shelf", "found", "leaf", "value"],
 [k711, oE, oZ, oT (topS 75) "_law_box", k715, o5 (topS 75) "_law_box" 715],
 f5 (topS 76) "_law_coin" "_law_coin" 717 1146 485 2 ["dice", "many", "at", "cells", "found"],
 f5 (topS 77) "_law_entries" "_law_entries" 724 1157 497 2 ["dice", "is_top", "own", "key", "way"],
 [oE, oZ, oT (topS 78) "_law_object", k734, o5 (topS 78) "_law_object" 734],
 f5 (topS 79) "_law_had" "_law_had" 736 1174 518 3 ["record", "at", "key", "own"],
 [oE, oZ, oT (topS 80) "_law_table", k746, o5 (topS 80) "_law_table" 746, oE, oZ, oT (topS 81) "_law_shelf", k751, o5 (topS 81) "_law_shelf" 751],
 f5 (topS 82) "_law_is_let" "_law_is_let" 753 1196 538 3 ["record", "at", "value"],
 f5 (topS 83) "_law_done" "_law_done" 760 1205 542 2 ["shelf", "ask", "before"],
 f5 (topS 84) "_law_right" "_law_right" 767 1214 551 3 ["shelf", "record", "is_needed", "data", "at", "form"],
 [oE, oZ, oT (topS 85) "law", k777, o5 (topS 85) "law" 777]]
noncomputable def addrL : List Addr := [3, 46, 59, 71, 167, 195, 217, 238, 266, 321, 375, 468, 489, 2, 22, 35, 36, 45, 47, 50, 58, 62, 70, 166, 168, 169, 191, 192, 194, 196, 197, 213, 214, 216, 218, 219, 237, 239, 240, 255, 256, 265, 267, 268, 276, 277, 283, 284, 288, 289, 303, 304, 310, 311, 317, 318, 320, 322, 323, 326, 338, 339, 359, 360, 366, 367, 371, 372, 374, 383, 384, 390, 391, 397, 398, 404, 405, 411, 412, 418, 419, 423, 424, 428, 429, 435, 436, 442, 443, 449, 450, 451, 464, 465, 467, 469, 470, 485, 486, 488, 490, 491, 499, 500, 506, 507, 513, 514, 520, 521, 527, 528, 534, 535, 541, 542, 548, 549, 555, 556, 562, 563, 569, 570, 576, 577, 583, 584, 588, 589, 593, 594, 600, 601, 605, 606, 612, 613, 624, 625, 631, 632, 650, 651, 655, 656, 667, 668, 674, 675, 681, 682, 688, 689, 695, 696, 702, 703, 709, 710, 711, 715, 716, 722, 723, 729, 730, 734, 735, 741, 742, 746, 747, 751, 752, 758, 759, 765, 766, 772, 773, 777, 778, 29, 207, 297]
noncomputable def keepL : List Nat := [0, 2, 3, 4, 6, 7, 9, 10, 11, 12, 13, 14, 15, 16, 17, 18, 19, 21, 22, 23, 24, 25, 26, 27, 28, 29, 30, 32, 33, 34, 36, 37, 38, 39, 40, 41, 42, 43, 44, 45, 46, 47, 48, 49, 50, 51, 52, 53, 54, 55, 56, 57, 58, 59, 60, 61, 62, 63, 64, 65, 66, 67, 68, 69, 70, 71, 72, 74, 75, 76, 77, 78, 79, 80, 81, 82, 83, 84, 85]
noncomputable def viewP : Program := { prog with main := { prog.main with body := keepL.filterMap fun i => prog.main.body[i]? } }
noncomputable abbrev looseL : List Str := [Str.ofString "PaperError", Str.ofString "told_objects"]
noncomputable abbrev HK : Hook := kmHook Kf addrL (fun _ => by kernel_rfl) [775]
noncomputable abbrev XtK : Shared → Bool := fun s => xlAt viewP [] s && recOk (RowW.records PySem.Challenge.rw_sa0522_01.row.toRowW) s
noncomputable def treeOf : List Obj → Nat → BT → BT
 | [], _, t => t
 | o :: r, i, t => treeOf r (i + 1) (t.ins i o)
noncomputable def bootL (P : Params) : List Obj := (boot_heap P).objs.toList
noncomputable def tA (P : Params) : BT := treeOf (bootL P ++ hdA P) 0 .nil
noncomputable def t1 (P : Params) : BT := ((((treeOf (bootL P ++ hdA P ++ part1 P) 0 .nil).set 2 fun _ => e2 P).set 3 fun _ => m3 P).set 12 fun _ => m12 P).set 321 fun _ => m321 P
noncomputable def l2 (P : Params) : List Obj := ((((bootL P ++ hdA P ++ part1 P ++ part2 P).set 2 (e2 P)).set 3 (e3 P)).set 12 (e12 P)).set 321 (e321 P)
noncomputable def t2 (P : Params) : BT := treeOf (l2 P) 0 .nil
noncomputable def h2 (P : Params) : Heap := ⟨(l2 P).toArray, {}⟩
noncomputable def envE : Env := { scope := prog.main.scope, locals := mainNs, globals := mainNs, cells := [], code := .ref 13, frame := some 14 }
noncomputable def bE : List Stmt := behindTheImports prog
noncomputable def cE : Code := .body bE envE
noncomputable abbrev sA (P : Params) (os : OsState) : SharedT := ⟨tA P, 15, {}, #[], boot_drawn, 187, os⟩
noncomputable abbrev s1 (P : Params) (os : OsState) : SharedT := ⟨t1 P, 326, {}, #[], boot_drawn, 598, os⟩
noncomputable abbrev s2 (P : Params) (os : OsState) : SharedT := ⟨t2 P, 779, {}, #[], boot_drawn, 1232, os⟩
noncomputable abbrev p0 : Pos := ⟨0, 0, 0, 0⟩
noncomputable abbrev p1 : Pos := ⟨136, 0, 154, 40⟩
noncomputable abbrev p2 : Pos := ⟨560, 0, 587, 15⟩
theorem run0 (w : World) (os : OsState) : topGo treeTable prog w 11 (some (.ref 6)) 12 ⟨boot_heap w.params, #[], boot_drawn, boot_toks, os⟩ (topStub prog) = some ((sA w.params os).abs, ⟨denote treeTable cE, cE, p0, [topFrame p0]⟩) := by kernel_rfl
theorem runb (w : World) (os : OsState) : segRun treeTable prog w 11 (some (.ref 6)) 1 1 (sA w.params os).abs (blockOf bE envE cE p0 [topFrame p0]) = some (.next, (sA w.params os).abs, cE, p0) := by kernel_rfl
theorem run1 (w : World) (os : OsState) : segRunT treeTable prog w 11 (some (.ref 6)) 1 2675 (sA w.params os) (piecesOf (bE.take 19) envE cE p0 [topFrame p0]) = some (.next, s1 w.params os, cE, p1) := by kernel_rfl
theorem run2 (w : World) (os : OsState) : segRunT treeTable prog w 11 (some (.ref 6)) 1 2608 (s1 w.params os) (piecesOf (bE.drop 19) envE cE p1 [topFrame p0]) = some (.next, s2 w.params os, cE, p2) := by kernel_rfl
theorem runf (w : World) (os : OsState) : topRun treeTable prog w 11 (some (.ref 6)) 2 (s2 w.params os).abs ⟨doneF .next, cE, p2, [topFrame p0]⟩ = some (s2 w.params os).abs := by kernel_rfl
theorem abs2 (P : Params) (os : OsState) : (s2 P os).abs = ⟨h2 P, #[], boot_drawn, 1232, os⟩ := by kernel_rfl
theorem runAll (w : World) (os : OsState) : topRun treeTable prog w 11 (some (.ref 6)) (12 + (1 + (2675 + (2608 + 2)))) ⟨boot_heap w.params, #[], boot_drawn, boot_toks, os⟩ (topStub prog) = some ⟨h2 w.params, #[], boot_drawn, 1232, os⟩ := by
 refine go_top (run0 w os) (piece_block (runb w os) ?_)
 have e : bE = bE.take 19 ++ (bE.drop 19 ++ []) := by rw [List.append_nil, List.take_append_drop]
 have a := piece_app (rest := bE.drop 19 ++ []) (segRun_of (run1 w os)) (piece_app (rest := []) (segRun_of (run2 w os)) (piece_nil (env := envE) (runf w os)))
 rw [← e, abs2] at a
 exact a
noncomputable abbrev sF (P : Params) (os : OsState) : Shared := ⟨h2 P, #[], boot_drawn, 1232, os⟩
noncomputable abbrev sE (P : Params) (os : OsState) := openSeen viewP looseL (importedModules prog.main.body) XtK true (sF P os)
theorem q0 (P : Params) (os : OsState) : (staticsOk (importedModules prog.main.body) (boot_heap P) (h2 P) && namesBound prog (h2 P) && gensDone (sF P os) && laidKept (boot_heap P) (h2 P)) = true := by kernel_rfl
theorem q1 (P : Params) (os : OsState) : ((sE P os).1, (sE P os).2.1) = (expectedOf viewP, bltViewBooted) := by kernel_rfl
theorem q2 (P : Params) (os : OsState) : ((sE P os).2.2.1, (sE P os).2.2.2.1) = (true, true) := by kernel_rfl
theorem q3 (P : Params) (os : OsState) : (sE P os).2.2.2.2 = (pinGoodD (drecsOf viewP), plainGoodE viewP (looseW viewP looseL), plainGoodD viewP looseL, wideGood viewP, clsGoodW viewP looseL) := by kernel_rfl
theorem q4 (w : World) (os : OsState) : HK.obs (sF w.params os) = HK.val w := by kernel_rfl
theorem q5 {A B C D E : Type} {t : A × B × C × D × E} {a b c d e} (x : (t.1, t.2.1) = (a, b)) (y : (t.2.2.1, t.2.2.2.1) = (c, d)) (z : t.2.2.2.2 = e) : t = (a, b, c, d, e) := by cases x; cases y; cases z; rfl
theorem left : LeftO prog viewP looseL XtK HK.obs HK.val 10688 := LeftO.of_pieces (H₀ := boot_heap) (H₁ := h2) (gs₀ := #[]) (gs₁ := #[]) (d₀ := boot_drawn) (d₁ := boot_drawn) (k₀ := boot_toks) (k₁ := 1232) (m₀ := 11) (ann := some (.ref 6)) (boot_open (by kernel_rfl) (by decide) (fun s => by kernel_rfl)) (fun w => by kernel_rfl) runAll (by decide) fun _ => funext fun _ => looks_pair (q0 _ _) (looks_pair (q5 (q1 _ _) (q2 _ _) (q3 _ _)) (q4 _ _))
theorem said : PySem.Challenge.rw_sa0522_01.wellSaid = true := by
 delta OpenLaw.wellSaid OpenRow.wellSaid OpenRow.partSaid looksOpen
 repeat' with_reducible refine look_both ?_ ?_
 all_goals decide +kernel
noncomputable def pre := fun hc => (by
 w_on
 refine holds_law said fun said => ?_
 refine holds_open (q := viewP) (loose := looseL) (Xt := XtK) (XP := XL viewP []) (Yf := (kmHook Kf addrL (fun _ => by kernel_rfl) [775]).obs) (Ya := (kmHook Kf addrL (fun _ => by kernel_rfl) [775]).val) (YP := (kmHook Kf addrL (fun _ => by kernel_rfl) [775]).says) (N := 10688) left (Hook.of _) (Hook.keeps _) (fun s e => xl_of s (Bool.and_eq_true_iff.mp e).1) XL.keeps (by rfl) (by rfl) (by rfl) (fun s e => recFacts_of (Bool.and_eq_true_iff.mp e).2) (by rfl) (by assumption) (by decide +kernel) ⟨rfl, rfl, rfl, rfl, rfl, by decide +kernel⟩ ?hw ?hc
 case hw => w_witness2
 case hc => exact hc : PySem.Challenge.rw_sa0522_01.Holds)
universe u1 u2 u3 u4 u5 u6 u7 u8 u9 u10 u11 u12 u13 u14
inductive Ex2 {a1 : Sort u1} {a2 : Sort u2} (p : a1 → a2 → Prop) : Prop | intro (x1 : a1) (x2 : a2) (h : p x1 x2)
inductive Ex3 {a1 : Sort u1} {a2 : Sort u2} {a3 : Sort u3} (p : a1 → a2 → a3 → Prop) : Prop | intro (x1 : a1) (x2 : a2) (x3 : a3) (h : p x1 x2 x3)
inductive Ex4 {a1 : Sort u1} {a2 : Sort u2} {a3 : Sort u3} {a4 : Sort u4} (p : a1 → a2 → a3 → a4 → Prop) : Prop | intro (x1 : a1) (x2 : a2) (x3 : a3) (x4 : a4) (h : p x1 x2 x3 x4)
inductive Ex5 {a1 : Sort u1} {a2 : Sort u2} {a3 : Sort u3} {a4 : Sort u4} {a5 : Sort u5} (p : a1 → a2 → a3 → a4 → a5 → Prop) : Prop | intro (x1 : a1) (x2 : a2) (x3 : a3) (x4 : a4) (x5 : a5) (h : p x1 x2 x3 x4 x5)
inductive Ex6 {a1 : Sort u1} {a2 : Sort u2} {a3 : Sort u3} {a4 : Sort u4} {a5 : Sort u5} {a6 : Sort u6} (p : a1 → a2 → a3 → a4 → a5 → a6 → Prop) : Prop | intro (x1 : a1) (x2 : a2) (x3 : a3) (x4 : a4) (x5 : a5) (x6 : a6) (h : p x1 x2 x3 x4 x5 x6)
inductive Ex7 {a1 : Sort u1} {a2 : Sort u2} {a3 : Sort u3} {a4 : Sort u4} {a5 : Sort u5} {a6 : Sort u6} {a7 : Sort u7} (p : a1 → a2 → a3 → a4 → a5 → a6 → a7 → Prop) : Prop | intro (x1 : a1) (x2 : a2) (x3 : a3) (x4 : a4) (x5 : a5) (x6 : a6) (x7 : a7) (h : p x1 x2 x3 x4 x5 x6 x7)
inductive Ex8 {a1 : Sort u1} {a2 : Sort u2} {a3 : Sort u3} {a4 : Sort u4} {a5 : Sort u5} {a6 : Sort u6} {a7 : Sort u7} {a8 : Sort u8} (p : a1 → a2 → a3 → a4 → a5 → a6 → a7 → a8 → Prop) : Prop | intro (x1 : a1) (x2 : a2) (x3 : a3) (x4 : a4) (x5 : a5) (x6 : a6) (x7 : a7) (x8 : a8) (h : p x1 x2 x3 x4 x5 x6 x7 x8)
inductive Ex9 {a1 : Sort u1} {a2 : Sort u2} {a3 : Sort u3} {a4 : Sort u4} {a5 : Sort u5} {a6 : Sort u6} {a7 : Sort u7} {a8 : Sort u8} {a9 : Sort u9} (p : a1 → a2 → a3 → a4 → a5 → a6 → a7 → a8 → a9 → Prop) : Prop | intro (x1 : a1) (x2 : a2) (x3 : a3) (x4 : a4) (x5 : a5) (x6 : a6) (x7 : a7) (x8 : a8) (x9 : a9) (h : p x1 x2 x3 x4 x5 x6 x7 x8 x9)
inductive Ex14 {a1 : Sort u1} {a2 : Sort u2} {a3 : Sort u3} {a4 : Sort u4} {a5 : Sort u5} {a6 : Sort u6} {a7 : Sort u7} {a8 : Sort u8} {a9 : Sort u9} {a10 : Sort u10} {a11 : Sort u11} {a12 : Sort u12} {a13 : Sort u13} {a14 : Sort u14} (p : a1 → a2 → a3 → a4 → a5 → a6 → a7 → a8 → a9 → a10 → a11 → a12 → a13 → a14 → Prop) : Prop | intro (x1 : a1) (x2 : a2) (x3 : a3) (x4 : a4) (x5 : a5) (x6 : a6) (x7 : a7) (x8 : a8) (x9 : a9) (x10 : a10) (x11 : a11) (x12 : a12) (x13 : a13) (x14 : a14) (h : p x1 x2 x3 x4 x5 x6 x7 x8 x9 x10 x11 x12 x13 x14)
inductive An3 (a1 a2 a3 : Prop) : Prop | mk (h1 : a1) (h2 : a2) (h3 : a3)
inductive An4 (a1 a2 a3 a4 : Prop) : Prop | mk (h1 : a1) (h2 : a2) (h3 : a3) (h4 : a4)
inductive An5 (a1 a2 a3 a4 a5 : Prop) : Prop | mk (h1 : a1) (h2 : a2) (h3 : a3) (h4 : a4) (h5 : a5)
inductive An6 (a1 a2 a3 a4 a5 a6 : Prop) : Prop | mk (h1 : a1) (h2 : a2) (h3 : a3) (h4 : a4) (h5 : a5) (h6 : a6)
inductive An7 (a1 a2 a3 a4 a5 a6 a7 : Prop) : Prop | mk (h1 : a1) (h2 : a2) (h3 : a3) (h4 : a4) (h5 : a5) (h6 : a6) (h7 : a7)
inductive An8 (a1 a2 a3 a4 a5 a6 a7 a8 : Prop) : Prop | mk (h1 : a1) (h2 : a2) (h3 : a3) (h4 : a4) (h5 : a5) (h6 : a6) (h7 : a7) (h8 : a8)
inductive An9 (a1 a2 a3 a4 a5 a6 a7 a8 a9 : Prop) : Prop | mk (h1 : a1) (h2 : a2) (h3 : a3) (h4 : a4) (h5 : a5) (h6 : a6) (h7 : a7) (h8 : a8) (h9 : a9)
inductive An10 (a1 a2 a3 a4 a5 a6 a7 a8 a9 a10 : Prop) : Prop | mk (h1 : a1) (h2 : a2) (h3 : a3) (h4 : a4) (h5 : a5) (h6 : a6) (h7 : a7) (h8 : a8) (h9 : a9) (h10 : a10)
theorem mR {α : Type} {a : α} {x y : List α} (h : a ∈ y) : a ∈ x ++ y := List.mem_append_right x h
theorem mL {α : Type} {a : α} {x y : List α} (h : a ∈ x) : a ∈ x ++ y := List.mem_append_left y h
theorem room0 {m n N : Nat} (h : N ≤ n) (e : Nat.ble m N = true) : m ≤ n := Nat.le_trans (Nat.le_of_ble_eq_true e) h
theorem room1 {m n N k : Nat} (h : N ≤ n + k) (e : Nat.ble (m + k) N = true) : m ≤ n := Nat.le_of_add_le_add_right (Nat.le_trans (Nat.le_of_ble_eq_true e) h)
theorem room2 {m n n' N : Nat} (q : n' = n) (h : N ≤ n) (e : Nat.ble m N = true) : m ≤ n' := q ▸ room0 h e
theorem room3 {m n n' N k : Nat} (q : n' = n) (h : N ≤ n + k) (e : Nat.ble (m + k) N = true) : m ≤ n' := q ▸ room1 h e
theorem up1 {x k K : Nat} (h : x ≤ k) (e : Nat.ble k K = true) : x ≤ K := Nat.le_trans h (Nat.le_of_ble_eq_true e)
theorem up2 {x k K : Nat} (h : x < k) (e : Nat.ble k K = true) : x < K := Nat.lt_of_lt_of_le h (Nat.le_of_ble_eq_true e)
theorem up3 {x k K : Nat} (h : x ≤ k) (e : Nat.ble (k + 1) K = true) : x < K := up1 (Nat.succ_le_succ h) e
theorem up4 {x k K : Nat} (h : x < k) (e : Nat.ble k (K + 1) = true) : x ≤ K := Nat.le_of_lt_succ (up2 h e)
theorem up5 {x y k K : Nat} (q : x = y) (h : y ≤ k) (e : Nat.ble k K = true) : x ≤ K := q ▸ up1 h e
theorem up6 {x y k K : Nat} (q : x ≤ y) (h : y ≤ k) (e : Nat.ble k K = true) : x ≤ K := Nat.le_trans q (up1 h e)
theorem up7 {x y k K : Nat} (q : x = y) (h : y ≤ k) (e : Nat.ble (k + 1) K = true) : x < K := q ▸ up3 h e
theorem up8 {x y k K : Nat} (q : x < y) (h : y ≤ k) (e : Nat.ble k K = true) : x < K := Nat.lt_of_lt_of_le q (up1 h e)
theorem up9 {x y z k K : Nat} (q : x = y) (r : y = z) (h : z ≤ k) (e : Nat.ble k K = true) : x ≤ K := up5 (q.trans r) h e
theorem upA {x y z k K : Nat} (q : x ≤ y) (r : y = z) (h : z ≤ k) (e : Nat.ble k K = true) : x ≤ K := Nat.le_trans q (up5 r h e)
theorem upB {x y z : Nat} (h : x < y) (q : z = y) : x < z := q ▸ h
theorem upC {x y z : Nat} (h : x < y) (q : y = z) : x < z := q ▸ h
theorem upD {x k K : Int} (h : x < k) (e : decide (k ≤ K) = true) : x < K := Int.lt_of_lt_of_le h (of_decide_eq_true e)
theorem or3 {n : Nat} (a : 1 ≤ n) (b : n ≤ 3) : n = 1 ∨ n = 2 ∨ n = 3 := (by decide : ∀ n, n < 4 → 1 ≤ n → n = 1 ∨ n = 2 ∨ n = 3) n (Nat.lt_succ_of_le b) a
theorem or2 {n : Nat} (a : 2 ≤ n) (b : n ≤ 3) : n = 2 ∨ n = 3 := (or3 (Nat.le_of_succ_le a) b).resolve_left fun e => absurd (e ▸ a) (by decide)
theorem or02 {n : Nat} (a : n < 3) : n = 0 ∨ n = 1 ∨ n = 2 := (by decide : ∀ n, n < 3 → n = 0 ∨ n = 1 ∨ n = 2) n a
theorem or12 {n m : Nat} (c : n < m) (b : m ≤ 3) (a : 1 ≤ n) : n = 1 ∨ n = 2 := (or02 (Nat.lt_of_lt_of_le c b)).resolve_left (Nat.ne_of_gt a)
theorem sb1 {a d N k j : Nat} (h : a + d < N) (hj : k ≤ j) (hd : j ≤ d) : a + k + (d - j) < N :=
 Nat.lt_of_le_of_lt (Nat.le_trans (Nat.le_of_eq (Nat.add_assoc a k (d - j))) (Nat.add_le_add_left (Nat.le_trans (Nat.add_le_add_right hj (d - j)) (Nat.le_of_eq (Nat.add_sub_of_le hd))) a)) h
theorem sb2 {D x d k : Nat} (q : x = d - k) (h : D ≤ d) : D ≤ x + k := q ▸ Nat.le_trans h (Nat.le_add_of_sub_le (Nat.le_refl _))
theorem sb3 {D x d k j l : Nat} (q : x = d - k - j) (h : D ≤ d) (e : k + j = l) : D ≤ x + l := e ▸ sb2 (q.trans (Nat.sub_sub d k j)) h
theorem sb4 {D d k l : Nat} (hd : D ≤ d) (hl : l + k ≤ D) : l ≤ d - k := Nat.le_sub_of_add_le (Nat.le_trans hl hd)
theorem sb5 {K N u x k r : Nat} (q : x = u - k) (h : N + r ≤ u) (e : Nat.ble (K + k) N = true) : K + r ≤ x :=
 q ▸ sb4 h (Nat.le_trans (Nat.le_of_eq (Nat.add_right_comm K r k)) (Nat.add_le_add_right (Nat.le_of_ble_eq_true e) r))
theorem sb6 {K N u x k r : Nat} (q : x = u - k) (h : N + r ≤ u) (e : Nat.ble (K + k) N = true) : K ≤ x := Nat.le_trans (Nat.le_add_right K r) (sb5 q h e)
theorem sb7 {K N u x k r : Nat} (q : x = u - k) (h : r + N ≤ u) (e : Nat.ble (K + k) N = true) : r + K ≤ x := Nat.add_comm K r ▸ sb5 q (Nat.add_comm r N ▸ h) e
theorem sb8 {K N u x k r : Nat} (q : x = u - k) (h : r + N ≤ u) (e : Nat.ble (K + k) N = true) : K ≤ x := sb6 q (Nat.add_comm r N ▸ h) e
theorem un1 {a u x N : Nat} (g : a + u < N) (h : x ≤ u) : a + x < N := Nat.lt_of_le_of_lt (Nat.add_le_add_left h a) g
theorem mn2 {i j k : Nat} (h : j < min i k) : j < i := Nat.lt_of_lt_of_le h (Nat.min_le_left i k)
theorem mn3 {i j N K : Nat} (h : j ≤ N) (e : Nat.ble N K = true) : min i j ≤ K := Nat.le_trans (Nat.min_le_right i j) (up1 h e)
theorem or01 {n m : Nat} (h : n < m - 1) (b : m ≤ 3) : n = 0 ∨ n = 1 := (by decide : ∀ n, n < 2 → n = 0 ∨ n = 1) n (Nat.lt_of_lt_of_le h (Nat.sub_le_sub_right b 1))
theorem di3 {x : Int} {n : Nat} {d : Int} {N M : Nat} (e : d + x = n) (h : x < M) (z : d + M ≤ N + 1) : n ≤ N :=
 Int.ofNat_le.mp (e ▸ Int.le_of_lt_add_one (Int.lt_of_lt_of_le (Int.add_lt_add_left h d) z))
theorem room4 {m n N k j : Nat} (h : N + j ≤ n + k) (e : Nat.ble (m + k) N = true) : m ≤ n := room1 (Nat.le_trans (Nat.le_add_right N j) h) e
theorem room5 {m n N k j : Nat} (h : j + N ≤ n + k) (e : Nat.ble (m + k) N = true) : m ≤ n := room1 (Nat.le_trans (Nat.le_add_left N j) h) e
theorem room6 {m n n' p N k : Nat} (q : p = n') (r : n' = n) (h : N ≤ n + k) (e : Nat.ble (m + k) N = true) : m ≤ p := room3 (q.trans r) h e
theorem room7 {m n n' p N : Nat} (q : p = n') (r : n' = n) (h : N ≤ n) (e : Nat.ble m N = true) : m ≤ p := room2 (q.trans r) h e
theorem room8 {m n u v k : Nat} (q : v = u) (h : m + 10 * (n + 1) ≤ u + k) (e : Nat.ble k 10 = true) : m + 10 * n ≤ v :=
 q ▸ Nat.le_of_add_le_add_right (Nat.le_trans (Nat.le_of_eq (Nat.add_assoc m (10 * n) 10)) (Nat.le_trans h (Nat.add_le_add_left (Nat.le_of_ble_eq_true e) u)))
theorem room9 {m n u v a b k : Nat} (q : v = u) (h : n + a ≤ u + k) (e : Nat.ble (b + k) a = true) : n + b ≤ v :=
 q ▸ Nat.le_of_add_le_add_right (Nat.le_trans (Nat.le_of_eq (Nat.add_assoc n b k)) (Nat.le_trans (Nat.add_le_add_left (Nat.le_of_ble_eq_true e) n) h))
theorem lin1 {m i a b c d K : Nat} (h : m ≤ a) (g : i < b) (e : Nat.ble (a + c + d * b) (K + d) = true) : m + c + d * i ≤ K :=
 Nat.le_of_add_le_add_right (Nat.le_trans (Nat.le_of_eq (Nat.add_assoc (m + c) (d * i) d)) (Nat.le_trans (Nat.add_le_add (Nat.add_le_add_right h c) (Nat.mul_le_mul_left d g)) (Nat.le_of_ble_eq_true e)))
theorem lin2 {m c d i : Nat} : m + c + d * i + d ≤ m + c + d * (i + 1) := Nat.le_of_eq (Nat.add_assoc (m + c) (d * i) d)
theorem look1 {κ β : Type} [BEq κ] [LawfulBEq κ] [DecidableEq κ] {k : κ} {p : κ × β} {l : List (κ × β)} : (p :: l).lookup k = if k = p.1 then some p.2 else l.lookup k := by
 rw [List.lookup_cons]
 by_cases e : k = p.1
 ·rw [if_pos e, e, beq_self_eq_true]
 ·rw [if_neg e, beq_eq_false_iff_ne.mpr e]
theorem lookN {κ β : Type} [BEq κ] [LawfulBEq κ] [DecidableEq κ] {k : κ} {l : List (κ × β)} (h : k ∉ l.map (·.1)) : l.lookup k = none := by
 induction l with
 | nil => rfl
 | cons p l ih => rw [look1, if_neg fun e => h (List.mem_cons.mpr (.inl e))]; exact ih fun z => h (.tail _ z)
theorem lookS {κ β : Type} [BEq κ] [LawfulBEq κ] {k : κ} {o : β} {l : List (κ × β)} (h : l.lookup k = some o) : (k, o) ∈ l := by
 obtain ⟨a, b, rfl, _⟩ := List.lookup_eq_some_iff.mp h
 exact mR (.head _)
theorem mapL {κ β : Type} [BEq κ] [LawfulBEq κ] [DecidableEq κ] {k k' : κ} {o : β} {l : List (κ × β)} (n : k' ≠ k) : (l.map fun p => if p.1 = k then (p.1, o) else p).lookup k' = l.lookup k' := by
 induction l with
 | nil => rfl
 | cons p l ih =>
  rw [List.map_cons, look1, look1, ih]
  by_cases e : p.1 = k
  ·rw [if_pos e, if_neg fun z => n (z.trans e), if_neg fun z => n (z.trans e)]
  ·rw [if_neg e]
theorem mapL2 {κ β : Type} [BEq κ] [LawfulBEq κ] [DecidableEq κ] {k : κ} {o : β} {l : List (κ × β)} (h : k ∈ l.map (·.1)) : (l.map fun p => if p.1 = k then (p.1, o) else p).lookup k = some o := by
 induction l with
 | nil => cases h
 | cons p l ih =>
  rw [List.map_cons, look1]
  by_cases e : p.1 = k
  ·rw [if_pos e, if_pos e.symm]
  ·rw [if_neg e, if_neg (Ne.symm e)]
   exact ih ((List.mem_cons.mp h).elim (fun q => absurd q.symm e) id)
theorem iteI {α : Type} {b c : Prop} [Decidable b] [Decidable c] (h : b ↔ c) {x y : α} : ite b x y = ite c x y := by
 by_cases q : c
 ·rw [if_pos q, if_pos (h.mpr q)]
 ·rw [if_neg q, if_neg fun z => q (h.mp z)]
theorem foldLen {α β : Type} {f : List α → β → List α} (h : ∀ a x, (f a x).length ≤ a.length + 1) {l : List β} : ∀ {a : List α}, (l.foldl f a).length ≤ a.length + l.length := by
 induction l with
 | nil => exact Nat.le_refl _
 | cons x l ih => intro a; exact Nat.le_trans ih (Nat.le_trans (Nat.add_le_add_right (h a x) _) (Nat.le_of_eq (by rw [List.length_cons, Nat.add_assoc, Nat.add_comm 1])))
theorem Ex2.imp {α β : Type} {p q : α → β → Prop} (h : ∀ x y, p x y → q x y) (e : Ex2 p) : Ex2 q := by
 cases e with | intro x y z => exact .intro x y (h x y z)
theorem memC {α : Type} {a b : α} {l : List α} (n : a ≠ b) : a ∈ b :: l ↔ a ∈ l := ⟨fun h => (List.mem_cons.mp h).elim (fun z => absurd z n) id, .tail _⟩
noncomputable def putG {κ β : Type} [DecidableEq κ] (l : List (κ × β)) (k : κ) (o : β) : List (κ × β) := if (l.any fun p => decide (p.1 = k)) then l.map (fun p => if p.1 = k then (p.1, o) else p) else l ++ [(k, o)]
section
variable {κ β : Type} [DecidableEq κ] {l : List (κ × β)} {k : κ} {o : β}
theorem putG_old (h : k ∈ l.map (·.1)) : putG l k o = l.map fun p => if p.1 = k then (p.1, o) else p := if_pos (by simpa using h)
theorem putG_new (h : k ∉ l.map (·.1)) : putG l k o = l ++ [(k, o)] := if_neg (by simpa using h)
theorem putG_len : (putG l k o).length ≤ l.length + 1 := by
 by_cases h : k ∈ l.map (·.1)
 ·rw [putG_old h, List.length_map]; exact Nat.le_succ _
 ·rw [putG_new h, List.length_append]; exact Nat.le_refl _
theorem putG_keys (n : (l.map (·.1)).Nodup) : ((putG l k o).map (·.1)).Nodup := by
 by_cases h : k ∈ l.map (·.1)
 ·rw [putG_old h, List.map_map]
  rwa [show l.map ((fun x => x.1) ∘ fun p : κ × β => if p.1 = k then (p.1, o) else p) = l.map (·.1) from List.map_congr_left fun p _ => by show (ite _ _ _ : κ × β).1 = p.1; split <;> rfl]
 ·rw [putG_new h, List.map_append]
  exact List.nodup_append.mpr ⟨n, List.nodup_cons.mpr ⟨List.not_mem_nil, .nil⟩, fun a ha b hb e => h ((e.trans (List.mem_singleton.mp hb) : a = k) ▸ ha)⟩
theorem putG_mem {p : κ × β} (z : p ∈ putG l k o) : p ∈ l ∨ p = (k, o) := by
 by_cases h : k ∈ l.map (·.1)
 ·rw [putG_old h] at z
  obtain ⟨q, hq, e⟩ := List.mem_map.mp z
  by_cases c : q.1 = k
  ·rw [if_pos c, c] at e; exact .inr e.symm
  ·rw [if_neg c] at e; exact .inl (e ▸ hq)
 ·rw [putG_new h] at z
  exact (List.mem_append.mp z).imp_right List.mem_singleton.mp
theorem putG_look [BEq κ] [LawfulBEq κ] {k' : κ} : (putG l k o).lookup k' = if k' = k then some o else l.lookup k' := by
 by_cases e : k' = k
 ·rw [if_pos e, e]
  by_cases h : k ∈ l.map (·.1)
  ·rw [putG_old h]; exact mapL2 h
  ·rw [putG_new h, List.lookup_append, lookN h, look1, if_pos rfl]; rfl
 ·rw [if_neg e]
  by_cases h : k ∈ l.map (·.1)
  ·rw [putG_old h]; exact mapL e
  ·rw [putG_new h, List.lookup_append, look1, if_neg e]; exact Option.or_none
end
section
open Lean
def zn (k : Name) (a : List Syntax) : Syntax := .node .none k a.toArray
def zT (s : String) (a : List Syntax) : Syntax := zn (.str `Lean.Parser.Tactic s) a
def zM (s : String) (a : List Syntax) : Syntax := zn (.str `Lean.Parser.Term s) a
def z0 (a : List Syntax) : Syntax := zn `null a
def za (s : String) : Syntax := .atom .none s
def zi (s : String) : Syntax := (mkIdent s.toName).raw
def zA (f : Syntax) (a : List Syntax) : Syntax := zM "app" [f, z0 a]
def zS (a : List Syntax) : Syntax := zT "tacticSeq" [zT "tacticSeq1Indented" [z0 a]]
def zK (s : String) : Syntax := zT "rwRule" [(Syntax.mkStrLit s).raw]
def zr : Syntax := zS [zK "g~au"]
def zh : Syntax := zM "hole" [za "_"]
def zp (a : List Syntax) (w : String) (st : List Syntax) : List Syntax :=
 let p := w.splitOn "/"
 let h := p.headD ""
 let k := (h.drop 1).toString
 let n := (p.getD 1 "0").toNat!
 let x := st.headD .missing
 let s := st.drop 1
 match w.front with
 | '_' => zh :: st
 | '?' => zM "syntheticHole" [za "?", if k == "" then zh else zi k] :: st
 | '!' => zK k :: st
 | '>' => zT "refine" [za "refine", x] :: s
 | '<' => zM "byTactic" [za "by", zS [x]] :: s
 | '|' => zT "first" [za "first", z0 ((st.take n).map fun t => zn `group [za "|", zS [t]])] :: st.drop n
 | '=' => zT "paren" [za "(", zS [zT "guardTarget" [za "guard_target", zn `Lean.Parser.equal [zn `Lean.Parser.equalR [za "="]], zA (zi "G") [zh, x, zh, zh, zh, zh, zh]], za ";", s.headD .missing], za ")"] :: s.drop 1
 | '%' => zT k (st.take n) :: st.drop n
 | '&' => zM k (st.take n) :: st.drop n
 | '*' => zn k.toName (st.take n) :: st.drop n
 | '\'' => za k :: st
 | '$' => a.getD k.toNat! .missing :: st
 | '-' => (Syntax.mkStrLit k).raw :: st
 | '#' => (Syntax.mkNumLit k).raw :: st
 | '^' => (mkIdent (addMacroScope `z k.toName 7)).raw :: st
 | ':' => zi k :: st
 | c =>
  let f := if c == '.' then zM "dotIdent" [za ".", zi k] else zi h
  if n == 0 then f :: st else zA f (st.take n) :: st.drop n
def zy : List String := ["0 %assumption/1 'assumption",
"1 %exact/2 'exact $0",
"1 %withReducible/2 'with_reducible %tacticSeq/1 %tacticSeq1Indented/1 *null/1 $0",
"2 &fun/2 'fun &basicFun/4 $0 *null/0 '=> $1",
"0 *PySem.W.tacticK_is/1 'k_is",
"0 %tacticRfl/1 'rfl",
"1 %paren/3 '( %tacticSeq/1 %tacticSeq1Indented/1 $0 ')",
"1 %withUnfoldingAll/2 'with_unfolding_all %tacticSeq/1 %tacticSeq1Indented/1 *null/1 $0",
"0 %eqRefl/1 'eq_refl",
"2 %case/4 'case *null/1 %caseArg/2 *Lean.binderIdent/1 $0 *null/0 '=> %tacticSeq/1 %tacticSeq1Indented/1 *null/1 $1",
"2 &namedArgument/5 '( $0 ':= $1 ')",
"1 %refine'/2 'refine' $0",
"1 %repeat'/2 'repeat' %tacticSeq/1 %tacticSeq1Indented/1 *null/1 $0",
"0 %decide/2 'decide %optConfig/1 *null/1 %configItem/1 %posConfigItem/2 '+ :kernel",
"0 %decide/2 'decide %optConfig/1 *null/0",
"1 %intro/2 'intro $0",
"1 %guardTarget/3 'guard_target *Lean.Parser.equal/1 *Lean.Parser.equalR/1 '= &app/2 :G *null/7 _ $0 _ _ _ _ _",
"1 > &typeAscription/5 &hygienicLParen/2 '( *hygieneInfo/1 : ? ': *null/1 $0 ')",
"0 %dsimp/6 'dsimp %optConfig/1 *null/0 *null/0 *null/1 'only *null/3 '[ *null/3 %simpLemma/3 *null/0 *null/0 :List.reverse ', %simpLemma/3 *null/0 *null/0 :List.reverseAux '] *null/0",
"0 %omega/2 'omega %optConfig/1 *null/1 %configItem/1 %negConfigItem/2 '- :splitMinMax",
"1 %failIfSuccess/2 'fail_if_success %tacticSeq/1 %tacticSeq1Indented/1 *null/1 $0",
"1 %guardTarget/3 'guard_target *Lean.Parser.equal/1 *Lean.Parser.equalR/1 '= $0",
"1 %show/2 'show $0",
"0 *PyProof.Rows.tacticBoot_by_name/1 'boot_by_name",
"1 %tacticTry_/2 'try %tacticSeq/1 %tacticSeq1Indented/1 *null/1 $0",
"1 %specialize/2 'specialize $0",
"1 &anonymousCtor/3 '⟨ $0 '⟩",
"0 %simp/6 'simp %optConfig/1 *null/0 *null/0 *null/0 *null/0 *null/0",
"1 %rwSeq/4 'rw %optConfig/1 *null/0 %rwRuleSeq/3 '[ *null/1 %rwRule/2 *null/1 '← $0 '] *null/0",
"0 %lia/2 'lia %optConfig/1 *null/0"]
def zz : List String := ["g= |/2 @6 *null/3 @16 _ '; !g~G !g~y",
"g~y= |/12 @6 *null/3 @21 ev/7 _ _ _ _ _ _ _ '; !g~n @6 *null/3 @21 wA/8 _ _ _ _ _ _ _ _ '; !g~n @2 |/26 > if_t/1 ? > if_f/1 ? > tand_t/1 ? > tand_f/1 ? > tor_t/1 ? > tor_f/1 ? > afterW/2 ? ? > nextq_next/1 ? > nextq_ret/1 ? > nextq_brk/1 ? > turnq_next/1 ? > turnq_ret/1 ? > turnq_brk/1 ? > and_cb/1 ? > and_ct/1 ? > afterM0/2 ? ? > afterM/2 ? ? @1 okMeth_b > asgtd0/1 ? > asgtd1/1 ? > asgt0/1 ? > asgt1/1 ? > slu/1 @3 *null/1 ^I ? > whb_next/1 ? > whb_ret/1 ? > whb_brk/1 ? @6 *null/3 @2 > and_sz/2 ? @3 *null/1 ^D ? '; @1 rfl @6 *null/3 @2 > and_cr/2 ? ? '; @4 @6 *null/3 @2 > okMeth_ref/1 ? '; @4 @6 *null/3 @2 @22 DictK/8 _ _ _ _ List.cons/2 _ List.nil _ _ _ '; > dictK_mk/4 < @5 < !g~sp nodupK/2 < !g~keys List.nodup_cons.mpr/1 @26 *null/3 List.not_mem_nil ', List.nodup_nil @3 *null/1 ^o' @3 *null/1 ^ho' ? @6 *null/3 @2 @22 DictK/8 _ _ _ _ _ _ _ _ '; > dictK_mk/4 < @5 < !g~sp nodupK/2 < !g~keys < @13 @3 *null/1 ^o' @3 *null/1 ^ho' ? > pick_t/1 ? > pick_f/1 ? > pick_t'/1 ? > pick_f'/1 ?",
"g~au= |/2 @1 < @7 @8 > @3 *null/1 ^_ < @7 @8",
"g~n= |/4 @17 G/7 _ _ _ _ _ _ _ @17 ForG/9 _ _ _ _ _ _ _ _ _ @17 And/2 _ _ > @3 *null/1 ^t ?",
"g~l#0= |/5 = execs/2 List.cons/2 .Assign/3 List.cons/2 .Name/2 _ _ List.nil _ _ _ _ > w_asg/3 Eq.refl/1 pure/1 false < !g~kind ? = execs/2 List.cons/2 .If/4 _ _ _ _ _ _ > w_if/1 ? = execs/2 List.cons/2 .Return/2 some/1 _ _ _ _ > w_ret/1 ? = execs/2 List.cons/2 .For/5 _ _ _ List.nil _ _ _ > w_for/2 @3 *null/1 :x Eq.refl/1 pure/1 x ? = execs/2 List.cons/2 .Assign/3 List.cons/2 .Attribute/3 _ _ _ List.nil _ _ _ _ > w_asgattr/2 Eq.refl/1 pure/1 false ?",
"g~l#1= |/5 = execs/2 List.cons/2 .Assign/3 List.cons/2 .Tuple/3 _ _ _ List.nil _ _ _ _ > w_asgtup/3 Eq.refl/1 pure/1 false Eq.refl/1 pure/1 none ? = execs/2 List.cons/2 .Assign/3 List.cons/2 .Subscript/3 _ _ _ List.nil _ _ _ _ > w_asgsub/2 Eq.refl/1 pure/1 false ? = execs/2 List.cons/2 .Return/2 none _ _ _ > w_ret0/1 ? = execs/2 List.cons/2 .Expr/2 _ _ _ _ > w_expr/2 Eq.refl/1 pure/1 false ? = execs/2 List.cons/2 _ _ _ > g_cons/1 ?",
"g~l= |/2 !g~l#0 !g~l#1",
"g~G#0= |/5 = execs/2 List.cons/2 _ _ _ !g~l = execs/2 List.nil _ > g_nil/1 ? = exec/2 _ _ !g~x = eval/2 _ _ !g~e = isTrue/3 _ _ _ !g~t",
"g~G#1= |/5 = spliced/1 backTo/2 _ starEach/2 List.cons/2 _ _ _ > g_args/2 ? < @5 = spliced/1 backTo/2 _ starEach/2 List.nil _ > g_args0/1 ? = storeName/3 _ _ _ |/2 > g_store/2 < !g~kind ? > g_storeC/3 < !g~kind oc_all/1 < @0 ? = truthy/1 _ |/2 > g_truthy_bool/1 ? > g_truthy_none/1 ? = assign/3 .Name/2 _ _ _ _ > g_assign_name/1 ?",
"g~G#2= |/5 = call/2 _ _ !g~c = getMethod/3 _ _ _ !g~m = getAttr/3 .ref/1 _ _ _ > g_own/9 < !g~mem < !g~mem < @4 < @4 < @4 < @4 < !g~getL < @5 ? = compareOp/3 _ _ _ !g~o = assign/3 .Tuple/3 _ _ _ _ .ref/1 _ > g_unpack/5 < @0 < !g~mem < @5 < @5 ?",
"g~G#3= |/5 = assign/3 .Subscript/3 _ _ _ _ _ > g_assign_sub/1 ? = assignInOrder/2 _ _ |/2 > g_inorder/1 ? > g_inorder0/1 ? = unaryOp/2 .Not _ > g_not/1 ? = unaryOp/2 .USub .int/2 _ _ > g_neg_int/1 @3 *null/1 ^t ? = binaryOp/3 .Add .int/2 _ _ .int/2 _ _ > g_add_int/1 @3 *null/1 ^t ?",
"g~G#4= |/5 = binaryOp/3 .Sub .int/2 _ _ .int/2 _ _ > g_sub_int/1 @3 *null/1 ^t ? = binaryOp/3 .BitAnd .int/2 _ _ .int/2 _ _ > g_and_int/1 @3 *null/1 ^t ? = evalPairs/1 pairTrees/4 List.cons/2 some/1 _ _ List.cons/2 _ _ _ _ > g_pairs/1 ? = evalPairs/1 pairTrees/4 List.nil List.nil _ _ > g_pairs0/1 ? = setItem/3 .ref/1 _ _ _ !g~s",
"g~G#5= |/4 = setAttr/3 .ref/1 _ _ _ !g~a = testChain/4 _ _ List.cons/2 _ List.cons/2 _ _ _ > g_tlink/1 ? = testChain/4 _ _ List.cons/2 _ List.nil _ > g_tlast/1 ? = bindName/3 _ _ _ > g_bindname/1 ?",
"g~G= |/6 !g~G#0 !g~G#1 !g~G#2 !g~G#3 !g~G#4 !g~G#5",
"g~x#0= |/5 = exec/2 .Assign/3 List.cons/2 .Name/2 _ _ List.nil _ _ _ > g_asg/2 ? < @5 = exec/2 .If/4 _ _ _ _ _ > g_if/1 ? = exec/2 .Return/2 some/1 _ _ _ > g_ret/1 ? = exec/2 .For/5 _ _ _ List.nil _ _ > g_for/2 ? @3 *null/1 ^_ < @5 = exec/2 .Assign/3 List.cons/2 .Attribute/3 _ _ _ List.nil _ _ _ > g_asgattr/2 ? < @5",
"g~x#1= |/5 = exec/2 .Assign/3 List.cons/2 .Tuple/3 _ _ _ List.nil _ _ _ > g_asgtup/3 ? < @5 < @5 = exec/2 .Assign/3 List.cons/2 .Subscript/3 _ _ _ List.nil _ _ _ > g_asgsub/2 ? < @5 = exec/2 .Return/2 none _ _ > g_ret0/1 ? = exec/2 .Expr/2 _ _ _ > g_expr/2 ? < @5 = exec/2 .Break/1 _ _ > g_brk/1 ?",
"g~x= |/2 !g~x#0 !g~x#1",
"g~e#0= |/5 = eval/2 .Name/2 _ _ _ |/3 > g_local/4 < @7 @8 ? Eq.refl/1 false Eq.refl/1 false > w_glob/4 < !g~kind < @4 Eq.refl/1 false ? > w_builtin/6 < !g~kind < @4 < @23 Eq.refl/1 false Eq.refl/1 false ? = eval/2 .Constant/3 _ _ _ _ !g~k = eval/2 .IfExp/4 _ _ _ _ _ > g_ifexp/1 ? = eval/2 .UnaryOp/3 _ _ _ _ > w_un/1 ? = eval/2 .BinOp/4 _ _ _ _ _ > w_bin/1 ?",
"g~e#1= |/5 = eval/2 .Compare/4 _ List.cons/2 _ List.nil List.cons/2 _ List.nil _ _ > w_cmp/2 Eq.refl/1 false ? = eval/2 .BoolOp/3 _ List.cons/2 _ List.nil _ _ > g_and1/1 ? = eval/2 .BoolOp/3 .And List.cons/2 _ List.cons/2 _ _ _ _ > g_and/1 ? = eval/2 .BoolOp/3 .Or List.cons/2 _ List.cons/2 _ _ _ _ > g_or/1 ? = eval/2 .Tuple/3 _ _ _ _ > w_tuple/1 ?",
"g~e#2= |/5 = eval/2 .Call/4 .Attribute/3 _ _ _ _ List.nil _ _ > w_mcall/3 < @5 Eq.refl/1 true ? = eval/2 .Call/4 .Name/2 _ _ _ List.nil _ _ |/2 > w_callG/5 < !g~kind < @4 < @4 Eq.refl/1 true ? > w_callB/7 < !g~kind < @4 < @23 < @1 Eq.refl/1 true Eq.refl/1 true Eq.refl/1 false ? = eval/2 .Call/4 .Attribute/3 _ _ _ List.cons/2 _ _ List.nil _ _ > g_mcall/4 ? < @5 < @5 < @5 = eval/2 .Call/4 .Attribute/3 _ _ _ List.nil List.nil _ _ > g_mcall0/2 ? < @5 = eval/2 .Call/4 _ List.cons/2 _ _ List.nil _ _ > g_call/4 ? < @5 < @5 < @5",
"g~e#3= |/5 = eval/2 .Call/4 _ List.nil List.nil _ _ > g_call0/2 ? < @5 = eval/2 .Attribute/3 _ _ _ _ |/2 > w_attr/2 Eq.refl/1 true ? > g_attr/2 ? < @7 @8 = eval/2 .Subscript/3 _ _ _ _ > w_sub/1 ? = eval/2 .List/2 _ _ _ > w_list/1 ? = eval/2 .Slice/4 some/1 _ some/1 _ none _ _ > g_slice_ft/1 ?",
"g~e#4= |/3 = eval/2 .Slice/4 none some/1 _ none _ _ > g_slice_to/1 ? = eval/2 .Dict/3 List.nil List.nil _ _ > g_dict0/2 < @0 @3 *null/1 ^d @3 *null/1 ^o @3 *null/1 ^lo @3 *null/1 ^hs @3 *null/1 ^hi ? = eval/2 .Dict/3 _ _ _ _ > g_dict/6 < @0 < @5 < @5 < @27 < @14 @3 *null/1 ^d @3 *null/1 ^o @3 *null/1 ^lo ?",
"g~e= |/5 !g~e#0 !g~e#1 !g~e#2 !g~e#3 !g~e#4",
"g~k= |/5 = eval/2 .Constant/3 .int/1 _ _ _ _ > g_int/1 @3 *null/1 ^t ? = eval/2 .Constant/3 .str/1 _ _ _ _ > g_str/1 @3 *null/1 ^t ? = eval/2 .Constant/3 .bool/1 _ _ _ _ > g_bool/1 ? = eval/2 .Constant/3 .none _ _ _ > g_none/1 ? = eval/2 .Constant/3 .bytes/1 _ _ _ _ > g_bytes/1 @3 *null/1 ^t ?",
"g~t#0= |/5 = isTrue/3 .UnaryOp/3 .Not _ _ _ _ > g_tnot/1 ? = isTrue/3 .Compare/4 _ List.cons/2 _ List.nil List.cons/2 _ List.nil _ _ _ > w_tcmp/2 Eq.refl/1 false ? = isTrue/3 .BoolOp/3 .And List.cons/2 _ _ _ _ _ > g_tand/1 ? = isTrue/3 .BoolOp/3 .And List.nil _ _ _ > g_tand0/1 ? = isTrue/3 .BoolOp/3 .Or List.cons/2 _ _ _ _ _ > g_tor/1 ?",
"g~t#1= |/3 = isTrue/3 .BoolOp/3 .Or List.nil _ _ _ > g_tor0/1 ? = isTrue/3 .Compare/4 _ List.cons/2 _ List.cons/2 _ _ _ _ _ _ > g_tchain/2 ? Eq.refl/1 false = isTrue/3 _ _ _ > w_true/2 Eq.refl/1 true ?",
"g~t= |/2 !g~t#0 !g~t#1",
"g~c#0= |/5 = call/2 .type/1 -range List.cons/2 .int/2 _ _ List.cons/2 .int/2 _ _ List.nil > g_range2/1 @3 *null/1 ^r @3 *null/1 ^v ? = call/2 .type/1 -range List.cons/2 .int/2 _ _ List.nil > g_range1/1 @3 *null/1 ^r @3 *null/1 ^t @3 *null/1 ^u @3 *null/1 ^v ? = call/2 .builtin/1 -isinstance List.cons/2 .str/2 _ _ List.cons/2 .type/1 -int List.nil > g_isi_si/1 ? = call/2 .builtin/1 -isinstance List.cons/2 .str/2 _ _ List.cons/2 .type/1 -str List.nil > g_isi_ss/1 ? = call/2 .builtin/1 -isinstance List.cons/2 .str/2 _ _ List.cons/2 .type/1 -list List.nil > g_isi_sl/1 ?",
"g~c#1= |/5 = call/2 .builtin/1 -isinstance List.cons/2 _ List.cons/2 _ List.nil |/2 > g_isiO/4 < @0 < @0 < !g~isi ? > g_isi/4 < @0 < !g~rep < !g~isi ? = call/2 .type/1 -int List.cons/2 .int/2 _ _ List.nil > g_int_int/1 ? = call/2 .builtin/1 -abs List.cons/2 .int/2 _ _ List.nil > g_abs/1 @3 *null/1 ^t ? = call/2 .builtin/1 -len List.cons/2 .str/2 _ _ List.nil > g_len_str/2 < @0 @3 *null/1 ^t ? = call/2 .builtin/1 -len List.cons/2 .ref/1 _ List.nil > g_len_list/3 < !g~mem < |/2 @0 @1 size_ok/1 rfl @3 *null/1 ^t ?",
"g~c#2= |/5 = call/2 .builtin/1 -list.append List.cons/2 .ref/1 _ List.cons/2 _ List.nil |/3 > g_append/3 List.nil < |/2 @0 @1 size_ok/1 rfl ? > g_append/3 List.cons/2 _ List.nil < |/2 @0 @1 size_ok/1 rfl ? > g_append/3 List.cons/2 _ List.cons/2 _ List.nil < |/2 @0 @1 size_ok/1 rfl ? = call/2 .builtin/1 -bytes.startswith List.cons/2 .bytes/2 _ _ List.cons/2 .bytes/2 _ _ List.nil > g_starts/1 ? = call/2 .builtin/1 -ord List.cons/2 .str/2 Str.mk/1 List.toArray/1 List.cons/2 _ List.nil _ List.nil > g_ord/1 @3 *null/1 ^t ? = call/2 .builtin/1 -dict.get List.cons/2 .ref/1 _ List.cons/2 .str/2 _ _ List.cons/2 _ List.nil |/2 > g_get2_s/6 < @0 < !g~mem < @0 < @0 < |/2 @0 !g~va ? > g_get2_sn/6 < @0 < !g~mem < @0 < @0 < |/2 @0 !g~va ? = call/2 .builtin/1 -dict.get List.cons/2 .ref/1 _ List.cons/2 .str/2 _ _ List.nil |/2 > g_get1_s/6 < @0 < !g~mem < @0 < @0 < @0 ? > g_get1_sn/6 < @0 < !g~mem < @0 < @0 < @0 ?",
"g~c#3= |/1 = call/2 .builtin/1 -dict.get List.cons/2 .ref/1 _ List.cons/2 .int/2 _ _ List.cons/2 _ List.nil |/2 > g_get2_i/6 < @0 < !g~mem < @0 < @0 < @0 ? > g_get2_in/6 < @0 < !g~mem < @0 < @0 < @0 ?",
"g~c= |/4 !g~c#0 !g~c#1 !g~c#2 !g~c#3",
"g~m#0= |/5 = getMethod/3 .ref/1 _ -get _ |/3 > g_dget_s/4 < @0 < !g~mem < @0 ? > g_dget_i/4 < @0 < !g~mem < @0 ? > g_meth/7 < !g~mem < !g~mem < @4 < @4 < @4 < @5 ? = getMethod/3 .ref/1 _ -index _ > g_lmeth/4 < !g~mem PySem.F.slot_list_index PySem.F.type_list_index ? = getMethod/3 .ref/1 _ -update _ > g_mupdate/4 < @0 < !g~mem < @0 ? = getMethod/3 .ref/1 _ -pop _ > g_lmeth/4 < !g~mem PySem.F.slot_list_pop PySem.F.type_list_pop ? = getMethod/3 .ref/1 _ -append _ > g_lmeth/4 < !g~mem PySem.F.slot_list_append PySem.F.type_list_append ?",
"g~m#1= |/4 = getMethod/3 .ref/1 _ -extend _ > g_lmeth/4 < !g~mem PySem.F.slot_list_extend PySem.F.type_list_extend ? = getMethod/3 .bytes/2 _ _ -startswith _ > g_bmeth/1 ? = getMethod/3 .str/2 _ _ -join _ > g_jmeth/1 ? = getMethod/3 .ref/1 _ _ _ > g_meth/7 < !g~mem < !g~mem < @4 < @4 < @4 < @5 ?",
"g~m= |/2 !g~m#0 !g~m#1",
"g~o#0= |/5 = compareOp/3 .Is _ .none > g_is_none/1 ? = compareOp/3 .IsNot _ .none > g_isnot_none/1 ? = compareOp/3 .IsNot .bool/1 _ .bool/1 _ > g_isnot_bool/1 ? = compareOp/3 .Eq .int/2 _ _ .int/2 _ _ > g_eq_int/1 ? = compareOp/3 .NotEq .int/2 _ _ .int/2 _ _ > g_ne_int/1 ?",
"g~o#1= |/5 = compareOp/3 .Lt .int/2 _ _ .int/2 _ _ > g_lt_int/1 ? = compareOp/3 .Gt .int/2 _ _ .int/2 _ _ > g_gt_int/1 ? = compareOp/3 .LtE .int/2 _ _ .int/2 _ _ > g_le_int/1 ? = compareOp/3 .GtE .int/2 _ _ .int/2 _ _ > g_ge_int/1 ? = compareOp/3 .Eq .str/2 _ _ .str/2 _ _ > g_eq_str/1 ?",
"g~o#2= |/4 = compareOp/3 .NotEq .str/2 _ _ .str/2 _ _ > g_ne_str/1 ? = compareOp/3 .In .int/2 _ _ .ref/1 _ > g_in/8 @10 :knd PySem.intKind/2 _ _ < @0 < !g~mem < @0 < @0 intKind_is/4 _ _ _ _ < @0 ? = compareOp/3 .NotIn .int/2 _ _ .ref/1 _ > g_notin/8 @10 :knd PySem.intKind/2 _ _ < @0 < !g~mem < @0 < @0 intKind_is/4 _ _ _ _ < @0 ? = compareOp/3 .NotEq .bool/1 _ .bool/1 _ > g_ne_bool/1 ?",
"g~o= |/3 !g~o#0 !g~o#1 !g~o#2",
"g~s= |/2 = setItem/3 .ref/1 _ .int/2 _ _ _ |/3 > g_setitem/7 < @0 List.nil @10 :knd PySem.intKind/2 _ _ < @0 intKind_is/4 _ _ _ _ < |/2 @0 @1 size_ok/1 rfl @3 *null/1 ^o' @3 *null/1 ^ho' ? > g_setitem/7 < @0 List.cons/2 _ List.nil @10 :knd PySem.intKind/2 _ _ < @0 intKind_is/4 _ _ _ _ < |/2 @0 @1 size_ok/1 rfl @3 *null/1 ^o' @3 *null/1 ^ho' ? > g_setitem/7 < @0 List.cons/2 _ List.cons/2 _ List.nil @10 :knd PySem.intKind/2 _ _ < @0 intKind_is/4 _ _ _ _ < |/2 @0 @1 size_ok/1 rfl @3 *null/1 ^o' @3 *null/1 ^ho' ? = setItem/3 .ref/1 _ .str/2 _ _ _ |/3 > g_setitem/7 < @0 List.nil @10 :knd PySem.strKind/2 _ _ < @0 strKind_is/4 _ _ _ _ < |/2 @0 @1 size_ok/1 rfl @3 *null/1 ^o' @3 *null/1 ^ho' ? > g_setitem/7 < @0 List.cons/2 _ List.nil @10 :knd PySem.strKind/2 _ _ < @0 strKind_is/4 _ _ _ _ < |/2 @0 @1 size_ok/1 rfl @3 *null/1 ^o' @3 *null/1 ^ho' ? > g_setitem/7 < @0 List.cons/2 _ List.cons/2 _ List.nil @10 :knd PySem.strKind/2 _ _ < @0 strKind_is/4 _ _ _ _ < |/2 @0 @1 size_ok/1 rfl @3 *null/1 ^o' @3 *null/1 ^ho' ?",
"g~a= |/1 = setAttr/3 _ _ _ |/5 > g_setattr/10 < @0 List.nil < !g~mem < @4 < @4 < @4 < @4 < @5 @3 *null/1 ^_ Nat.le_of_ble_eq_true/1 rfl @3 *null/1 ^t ? > g_setattr/10 < @0 List.cons/2 _ List.nil < !g~mem < @4 < @4 < @4 < @4 < @5 @3 *null/1 ^_ Nat.le_of_ble_eq_true/1 rfl @3 *null/1 ^t ? > g_setattr/10 < @0 List.cons/2 _ List.cons/2 _ List.nil < !g~mem < @4 < @4 < @4 < @4 < @5 @3 *null/1 ^_ Nat.le_of_ble_eq_true/1 rfl @3 *null/1 ^t ? > g_setattr/10 < @0 List.cons/2 _ List.cons/2 _ List.cons/2 _ List.nil < !g~mem < @4 < @4 < @4 < @4 < @5 @3 *null/1 ^_ Nat.le_of_ble_eq_true/1 rfl @3 *null/1 ^t ? > g_setattr/10 < @0 List.cons/2 _ List.cons/2 _ List.cons/2 _ List.cons/2 _ List.nil < !g~mem < @4 < @4 < @4 < @4 < @5 @3 *null/1 ^_ Nat.le_of_ble_eq_true/1 rfl @3 *null/1 ^t ?",
"g~mem= @2 |/6 @0 @1 List.mem_cons_self @6 *null/3 > List.mem_cons_of_mem/2 _ ? '; !g~mem @6 *null/3 > List.mem_append_left/2 _ ? '; !g~mem @6 *null/3 > List.mem_append_right/2 _ ? '; !g~mem @6 *null/3 > Sub.mem/2 < @0 ? '; !g~mem",
"g~sub= |/4 @0 @1 Sub.refl @6 *null/3 > Sub.cons/1 ? '; !g~sub @6 *null/3 > Sub.trans/2 ? < @0 '; !g~sub",
"g~rep= |/2 @0 @6 *null/3 > Rep.mono/3 @10 :J _ ? < @0 '; !g~sub",
"g~kind= @6 *null/3 > kind_of/2 < @0 ? '; @7 @8",
"g~binds= |/7 @1 BindsTo.of_eq/2 @10 :binds List.nil rfl @1 BindsTo.of_eq/2 @10 :binds List.cons/2 _ List.nil rfl @1 BindsTo.of_eq/2 @10 :binds List.cons/2 _ List.cons/2 _ List.nil rfl @1 BindsTo.of_eq/2 @10 :binds List.cons/2 _ List.cons/2 _ List.cons/2 _ List.nil rfl @1 BindsTo.of_eq/2 @10 :binds List.cons/2 _ List.cons/2 _ List.cons/2 _ List.cons/2 _ List.nil rfl @1 BindsTo.of_eq/2 @10 :binds List.cons/2 _ List.cons/2 _ List.cons/2 _ List.cons/2 _ List.cons/2 _ List.nil rfl @1 BindsTo.of_eq/2 @10 :binds List.cons/2 _ List.cons/2 _ List.cons/2 _ List.cons/2 _ List.cons/2 _ List.cons/2 _ List.cons/2 _ List.nil rfl",
"g~rest= @6 *null/7 @9 :hnd @14 '; @9 :hco @1 rfl '; @9 :hgen @1 rfl '; @9 :hk @1 rfl",
"g~cls= @6 *null/23 @11 run_cls/14 < @14 < @14 ?hm ?hi ?hf ?ho ?hcd ?hbind ?hkind ?hnd ?hco ?hgen ?hk ?body '; @9 :hm @4 '; @9 :hi @4 '; @9 :hf @4 '; @9 :ho @4 '; @9 :hcd @4 '; @9 :hbind @6 *null/3 @15 *null/3 :x :s' _ '; !g~binds '; @9 :hkind @1 @3 *null/1 :x rfl '; !g~rest '; @15 *null/14 :C :x :dx :hw :hs :hl :hdl :hul :hn :hfe :hoc :Qf :hQ :hQ0 '; @24 @25 hn/1 rfl '; @18",
"g~def= @6 *null/13 @11 run_defR/7 < @1 Eq.refl/1 true < @1 Eq.refl/1 true ?ho ?hcd ?hbind ?hc ?body '; @9 :ho @4 '; @9 :hcd @4 '; @9 :hbind !g~bind '; @9 :hc @1 Eq.refl/1 true '; @15 *null/12 :C :hw :hs :hl :hdl :hul :hn :hfe :hoc :Xf :Qf :hret '; @18",
"g~bind= |/7 @1 bnd/2 List.nil rfl @1 bnd/2 List.cons/2 _ List.nil rfl @1 bnd/2 List.cons/2 _ List.cons/2 _ List.nil rfl @1 bnd/2 List.cons/2 _ List.cons/2 _ List.cons/2 _ List.nil rfl @1 bnd/2 List.cons/2 _ List.cons/2 _ List.cons/2 _ List.cons/2 _ List.nil rfl @1 bnd/2 List.cons/2 _ List.cons/2 _ List.cons/2 _ List.cons/2 _ List.cons/2 _ List.nil rfl @1 bnd/2 List.cons/2 _ List.cons/2 _ List.cons/2 _ List.cons/2 _ List.cons/2 _ List.cons/2 _ List.cons/2 _ List.nil rfl",
"g~defA= @6 *null/3 @11 run_def/11 < @14 < @14 ?ho ?hcd ?hbind ?hkind ?hnd ?hco ?hgen ?hk ?body '; !g~def2",
"g~defn= @6 *null/3 @11 run_def/11 < @19 < @19 ?ho ?hcd ?hbind ?hkind ?hnd ?hco ?hgen ?hk ?body '; !g~def2",
"g~def2= @6 *null/15 @9 :ho @4 '; @9 :hcd @4 '; @9 :hbind @6 *null/3 @15 *null/2 :s' _ '; !g~binds '; @9 :hkind @1 rfl '; !g~rest '; @15 *null/15 :C :hw :hs :hl :hdl :hul :hn :hfe :hoc :Xf :hX :Qf :hret :hnext :hret1 '; @24 @25 hn/1 rfl '; @18",
"g~getL= |/6 @1 getL_h/1 < @7 @8 @1 getL_t/2 < @7 @8 getL_h/1 < @7 @8 @1 getL_t/2 < @7 @8 getL_t/2 < @7 @8 getL_h/1 < @7 @8 @1 getL_t/2 < @7 @8 getL_t/2 < @7 @8 getL_t/2 < @7 @8 getL_h/1 < @7 @8 @1 getL_t/2 < @7 @8 getL_t/2 < @7 @8 getL_t/2 < @7 @8 getL_t/2 < @7 @8 getL_h/1 < @7 @8 @1 getL_t/2 < @7 @8 getL_t/2 < @7 @8 getL_t/2 < @7 @8 getL_t/2 < @7 @8 getL_t/2 < @7 @8 getL_h/1 < @7 @8",
"g~has= |/2 @1 has_nil @6 *null/3 > has_cons/2 < @7 @8 ? '; !g~has",
"g~turn= > turnK/8 hsm hw hs hl hn hfe hoc @3 *null/8 :hw' :hs' :hl' :hn' :hfe' :hoc' :hd' :hu' ?",
"gg= @12 !g",
"g~sp= @12 |/2 @1 sp_nil @11 sp_cons/1 ?",
"g~keys= @12 |/2 @1 km_nil @11 km_cons/1 ?",
"g~va= @12 |/3 @1 va_h @1 va_nil @11 va_t/2 < @13 ?",
"g~scF= @6 *null/11 @11 compScF/8 < @0 _ rfl ?nd ?nf ?hks ?hL ?has '; @9 :hL !g~keys '; @9 :nd @13 '; @9 :nf @13 '; @9 :hks @13 '; @9 :has !g~has",
"g~comp= > compK/4 hic hw hn @3 *null/6 :hw' :hs' :hn' :hd' :hu' :hoc' ?",
"g~comph= > compKh/4 hic hw hn @3 *null/6 :hw' :hs' :hn' :hd' :hu' :hoc' ?",
"g~end= @6 *null/3 !g~turn '; @28 hsm.env",
"g~sc= @1 compSc0/3 rfl < @13 < @13",
"g~swl= @1 swaps_l/4 < @0 rfl < @7 @8 < @13",
"g~ints= @12 |/2 @1 IntsAre.nil @11 IntsAre.cons/3 _ _ ?",
"g~strs= @12 |/2 @1 StrsAre.nil @11 StrsAre.cons/3 _ _ ?",
"gnd= @12 @6 *null/3 @20 @16 eval/2 .Dict/3 List.nil List.nil _ _ '; !g",
"gns= @12 @6 *null/3 @20 @16 setItem/3 _ _ _ '; !g",
"gx= @12 @6 *null/3 @20 @16 execs/2 _ _ '; !g",
"g~isi= |/9 @1 .ref/1 < |/2 @0 @1 rfl @1 .str/1 < |/2 @0 @1 rfl @1 .nam/1 < |/2 @0 @1 rfl @1 .stm/1 < |/2 @0 @1 rfl @1 .dec/1 < |/2 @0 @1 rfl @1 .arr/1 < |/2 @0 @1 rfl @1 .dic/1 < |/2 @0 @1 rfl @1 .int/1 < |/2 @0 @1 rfl @1 .tru/1 < |/2 @0 @1 rfl",
"om= |/7 @1 room1/2 < @2 @0 < @1 Eq.refl/1 true @1 room3/3 < @2 @0 < @2 @0 < @1 Eq.refl/1 true @1 room0/2 < @2 @0 < @1 Eq.refl/1 true @1 room2/3 < @2 @0 < @2 @0 < @1 Eq.refl/1 true @1 up1/2 < @2 @0 < @1 Eq.refl/1 true @1 up2/2 < @2 @0 < @1 Eq.refl/1 true !om1",
"om1= |/30 @1 up3/2 < @2 @0 < @1 Eq.refl/1 true @1 up4/2 < @2 @0 < @1 Eq.refl/1 true @1 up5/3 < @2 @0 < @2 @0 < @1 Eq.refl/1 true @1 up6/3 < @2 @0 < @2 @0 < @1 Eq.refl/1 true @1 up7/3 < @2 @0 < @2 @0 < @1 Eq.refl/1 true @1 up8/3 < @2 @0 < @2 @0 < @1 Eq.refl/1 true @1 up9/4 < @2 @0 < @2 @0 < @2 @0 < @1 Eq.refl/1 true @1 upA/4 < @2 @0 < @2 @0 < @2 @0 < @1 Eq.refl/1 true @1 room4/2 < @2 @0 < @1 Eq.refl/1 true @1 room5/2 < @2 @0 < @1 Eq.refl/1 true @1 room6/4 < @2 @0 < @2 @0 < @2 @0 < @1 Eq.refl/1 true @1 room7/4 < @2 @0 < @2 @0 < @2 @0 < @1 Eq.refl/1 true @1 room8/3 < @2 @0 < @2 @0 < @1 Eq.refl/1 true @1 room9/3 < @2 @0 < @2 @0 < @1 Eq.refl/1 true @1 lin1/3 < @2 @0 < @2 @0 < @1 Eq.refl/1 true @1 upD/2 < @2 @0 < @1 Eq.refl/1 true @1 upB/2 < @2 @0 < @2 @0 @1 upC/2 < @2 @0 < @2 @0 @1 or3/2 < @2 @0 < @2 @0 @1 or2/2 < @2 @0 < @2 @0 @1 or02/1 < @2 @0 @1 or12/3 < @2 @0 < @2 @0 < @2 @0 @1 lin2 @1 un1/2 < @2 @0 < @2 @0 @1 mn2/1 < @2 @0 @1 mn3/2 < @2 @0 < @1 Eq.refl/1 true @1 or01/2 < @2 @0 < @2 @0 @1 Nat.add_lt_of_lt_sub/1 < @2 @0 @29 @19"]
def zw (w : String) (st : List Syntax) : List Syntax :=
 if w.front == '@' then
  let p := (zy.getD (w.drop 1).toString.toNat! "").splitOn " "
  let n := (p.headD "").toNat!
  (p.drop 1).foldr (zp (st.take n)) [] ++ st.drop n
 else zp [] w st
def zd (k : String) : MacroM Syntax :=
 let k := k.replace " " "~" ++ "= "
 match zz.find? (·.startsWith k) with
 | some l => return (((l.splitOn " ").drop 1).foldr zw []).headD .missing
 | none => Macro.throwUnsupported
def zE (s : Syntax) : MacroM Syntax :=
 let b := s[1][0]
 let x := b[0].getArgs.toList
 let n := x.length
 if b[1].getArgs.isEmpty && 2 ≤ n && n ≤ 14 then return zA (zi ("Ex" ++ toString n)) [x.foldr (fun y f => zM "fun" [za "fun", zM "basicFun" [z0 [y[0]], z0 [], za "=>", f]]) s[3]]
 else Macro.throwUnsupported
def zC (s : Syntax) : MacroM Syntax :=
 let (l, r) := (List.range 12).foldl (fun (p : List Syntax × Syntax) _ => if p.2.isOfKind ``«term_∧_» then (p.2[0] :: p.1, p.2[2]) else p) ([s[0]], s[2])
 let l := (r :: l).reverse
 if l.length < 3 then Macro.throwUnsupported else return zA (zi ("An" ++ toString l.length)) l
end
local macro_rules | `(tactic| walk_at $s:str) => zd s.getString
local macro_rules | `(tactic| ext) => zd "gg"
local macro_rules | `(tactic| ext $x) => zd ("g " ++ toString x.raw[0][0].getId.eraseMacroScopes)
local macro_rules | `(tactic| omega) => zd "om"
local macro_rules (kind := Lean.Parser.Tactic.rwRule) | s => Lean.Macro.throwErrorAt s ""
local macro_rules (kind := Lean.Parser.Tactic.rwRule) | s => zd (s[0].isStrLit?.getD "")
section
local macro_rules (kind := «term∃_,_») | s => zE s
local macro_rules (kind := «term_∧_») | s => zC s
variable {D Dr I L Ls a d dx it : Addr} {params : Arguments} {A : Around} {osl sl : Array (Option Value)} {ps : Array Value} {hh : Bool} {e elt slice target test value : Expr} {K : Frag} {h' h₀ : Heap} {way3 : Int} {nm : Int → Array UInt8} {bs : List (Array UInt8)} {cl : List (Str × Addr)} {acc binds kvs : List (Str × Value)} {args elts rest : List Expr} {ks : List Int} {b1 b2 bod body : List Stmt} {ss : List Str} {U c far i j line n tk way : Nat} {dr : Nat → Addr} {oe : Nat → Obj} {oa ot : Obj} {an od : Option Addr} {p pos py : Pos} {P P' : Prop} {SC : Scope} {pl : Sem Bool} {wh : Sem Value} {s' s₀ : Shared} {k k' q qual s word x y : Str} {m : Str → Option Value} {u : Tok} {α β : Type} {cdv ct cv dV df doc f kV pm v xv : Value} {E : Value → Shared → Prop}
noncomputable def XTr (B : Heap) (ea : Addr) (vs : Array Value) (h : Heap) : Prop := ∃ T oT ts fl, vs[1]? = some (.ref T) ∧ B.get? T = none ∧ T ≠ ea ∧ h.get? T = some oT ∧ oT.data = .fields ts ∧ ts[3]? = some fl
noncomputable def XOb (B : Heap) (ea : Addr) (tr : Bool) (h : Heap) : Prop := ∃ oe vs, h.get? ea = some oe ∧ oe.cls = .ref 71 ∧ oe.data = .fields vs ∧ 1 < vs.size ∧ vs[2]? = some .none ∧ ((tr = false ∧ vs[1]? = some .none) ∨ XTr B ea vs h)
structure Exc (B : Heap) (l : List Env) (ea : Addr) (tr : Bool) (h : Heap) : Prop where
 stays : B.StaysIn h
 new : B.get? ea = none
 frames : h.FunFrames B l
 ob : XOb B ea tr h
section
variable {M : Model} {A : Around} {E : Value → Shared → Prop} {s : Shared} {B : Heap} {env : Env} {outer : List Env} {L ea : Addr}
theorem x_entry {oe : Obj} {vs : Array Value} {head : Value} {hadNext : Bool} {Q : Unit → Shared → Prop} (hfr : A.frames = some (env :: outer)) (hl : s.heap.FunFrames B (env :: outer)) (hf : env.frame = some L)
  (he : s.heap.get? ea = some oe) (hkb : B.StaysIn s.heap) (hen : B.get? ea = none) (hd : oe.data = .fields vs) (hc : oe.cls = .ref 71) (hsz : 1 < vs.size) (h2 : vs[2]? = some .none)
  (h : ∀ h', Exc B (env :: outer) ea true h' → s.heap.UpToSlots h' → Q () { s with heap := h' }) :
  wpAny M A (do let a ← frameOf env; let pl ← entryPlaceOf L hadNext; let b ← EntryCells.newEntry head a .none (rawInt L) .none pl; setField (.ref ea) 1 b) Q E s := by
 have hene : ea ∉ (env :: outer).filterMap (·.frame) := fun hm => by
  obtain ⟨_, o, ho, hnf⟩ := hl.mem hm
  rw [he] at ho; injection ho with ho; subst ho; exact hnf vs hd
 refine wpAny_bind (wpAny_frameOf_fun hfr hl hf fun h₁ hs₁ => ?_)
 refine wpAny_bind (wpAny_entryPlaceOf fun pl hpl => ?_)
 unfold EntryCells.newEntry newFields
 refine wpAny_bind (wpAny_newObj_type ?_ (hpl.sizeOk5 _ _ _ _ _))
 generalize hto : ({ cls := .type "traceback", dict := none, data := .fields ([head, .ref L, .none, rawInt L, .none] ++ (if pl.isEmpty then List.replicate 6 Value.none else pl)).toArray } : Obj) = to
 have htod : ∃ ts : Array Value, to.data = .fields ts ∧ ts[3]? = some (rawInt L) := by subst hto; exact ⟨_, rfl, by first | (simp; done) | (rcases hpl with rfl | ⟨_, _, _, _, _, _, _, rfl⟩ <;> simp)⟩
 obtain ⟨ts, htod, hts⟩ := htod
 have he₁ : h₁.get? ea = some oe := (hs₁.2.1 ea hene).trans he
 have kb₁ : B.StaysIn h₁ := fun b o hbo => (hs₁.2.1 b fun hm => by rw [(hl.mem hm).1] at hbo; cases hbo).trans (hkb b o hbo)
 have he₂ := Heap.get?_push_of_some (h := h₁) to he₁
 refine wpAny_setField he₂ hd hsz (h _ ?_ ?_)
 all_goals
  have hTe : h₁.objs.size ≠ ea := Nat.ne_of_gt (Heap.lt_size he₁)
  have hd₃ := Obj.data_mapFields hd (·.setIfInBounds 1 (Value.ref h₁.objs.size))
  have he₃ := Heap.get?_update_self (Obj.mapFields (·.setIfInBounds 1 (Value.ref h₁.objs.size))) he₂ (Obj.isFreed_of_fields hd₃)
  have hT₃ := (Heap.get?_update_other (h₁.push to) (Obj.mapFields (·.setIfInBounds 1 (Value.ref h₁.objs.size))) (Ne.symm hTe)).trans (Heap.get?_push_size h₁ (Obj.isFreed_of_fields htod))
  have keep : ∀ b o, b ≠ ea → h₁.get? b = some o → ((h₁.push to).update ea (Obj.mapFields (·.setIfInBounds 1 (Value.ref h₁.objs.size)))).get? b = some o := fun b o hbe hb => by
   rw [Heap.get?_update_other _ _ (Ne.symm hbe)]
   exact Heap.get?_push_of_some _ hb
  have noRecord : ∀ b o, s.heap.get? b = some o → (∀ vs, o.data ≠ .fields vs) → b ≠ ea := fun b o hb hnf q => by
   rw [q, he] at hb; injection hb with hb; subst hb; exact hnf vs hd
 ·refine ⟨fun b o hbo => keep b o (fun q => by rw [q, hen] at hbo; cases hbo) (kb₁ b o hbo), hen, hl.of_keeps fun b o hb hnf => ?_, ?_⟩
  ·obtain ⟨sl, hs⟩ := hs₁.2.2 b o hb
   exact ⟨_, keep b _ (noRecord b o hb hnf) hs, rfl⟩
  ·exact ⟨_, _, he₃, (Obj.cls_mapFields _ _).trans hc, hd₃, by simpa using hsz, by rw [Array.getElem?_setIfInBounds_ne (by decide)]; exact h2,
    .inr ⟨h₁.objs.size, _, _, _, by simp [hsz], kb₁.fresh, hTe, hT₃, htod, hts⟩⟩
 ·intro b o hb hnf
  obtain ⟨sl, hs⟩ := hs₁.2.2 b o hb
  exact ⟨sl, keep b _ (noRecord b o hb hnf) hs⟩
theorem x_set {l : List Env} {T : Addr} {oT oe : Obj} {ts vs : Array Value} {x : Value} {Q : Unit → Shared → Prop} (hx : Exc B l ea true s.heap) (hT : s.heap.get? T = some oT) (hdT : oT.data = .fields ts) (h3 : 3 < ts.size) (hnT : B.get? T = none) (hTe : T ≠ ea)
  (he : s.heap.get? ea = some oe) (hd : oe.data = .fields vs) (h1 : vs[1]? = some (.ref T))
  (h : ∀ h', Exc B l ea true h' → s.heap.UpToSlots h' → (∀ b, b ≠ T → h'.get? b = s.heap.get? b) → Q () { s with heap := h' }) : wpAny M A (setField (.ref T) 3 x) Q E s := by
 refine wpAny_setField hT hdT h3 (h _ ?_ ?_ ?_)
 all_goals
  have other : ∀ b, b ≠ T → (s.heap.update T (Obj.mapFields (·.setIfInBounds 3 x))).get? b = s.heap.get? b := fun b hb => Heap.get?_update_other _ _ (Ne.symm hb)
  have noRecord : ∀ b o, s.heap.get? b = some o → (∀ vs, o.data ≠ .fields vs) → b ≠ T := fun b o hb hnf q => by
   rw [q, hT] at hb; injection hb with hb; subst hb; exact hnf ts hdT
 ·obtain ⟨st, nw, fr, oe', vs', he', hc', hd', hs', h2', htr⟩ := hx
  obtain rfl : oe = oe' := Option.some.inj (he.symm.trans he')
  obtain rfl : vs = vs' := by rw [hd] at hd'; injection hd'
  refine ⟨fun b o hbo => (other b fun q => by rw [q, hnT] at hbo; cases hbo).trans (st b o hbo), nw, fr.of_keeps fun b o hb hnf => ⟨o, (other b (noRecord b o hb hnf)).trans hb, rfl⟩, ?_⟩
  exact ⟨oe, vs, (other ea (Ne.symm hTe)).trans he, hc', hd, hs', h2', .inr ⟨T, _, _, x, h1, hnT, hTe, Heap.get?_update_self _ hT (Obj.isFreed_of_fields (Obj.data_mapFields hdT _)), Obj.data_mapFields hdT _, by simp [h3]⟩⟩
 ·exact fun b o hb hnf => ⟨o.slots, (other b (noRecord b o hb hnf)).trans hb⟩
 ·exact other
theorem x_note {tr : Bool} {Q : Unit → Shared → Prop} (hfr : A.frames = some (env :: outer)) (hf : env.frame = some L) (hx : Exc B (env :: outer) ea tr s.heap)
  (h : ∀ h', Exc B (env :: outer) ea true h' → s.heap.UpToSlots h' → Q () { s with heap := h' }) : wpAny M A (noteFrame (.ref ea) env) Q E s := by
 obtain ⟨st, nw, fr, oe, vs, he, hc, hd, hsz, h2, hm | htr⟩ := id hx
 ·unfold noteFrame
  rw [hf]
  dsimp only
  refine wpAny_bind (wpAny_field he hd hm.2 ?_)
  rw [if_neg (by decide)]
  exact x_entry hfr fr hf he st nw hd hc hsz h2 h
 ·obtain ⟨T, oT, ts, fl, h1, hnT, hTe, hT, hdT, h3⟩ := id htr
  have hx' : Exc B (env :: outer) ea true s.heap := ⟨st, nw, fr, oe, vs, he, hc, hd, hsz, h2, .inr htr⟩
  unfold noteFrame
  rw [hf]
  dsimp only
  refine wpAny_bind (wpAny_field he hd h1 ?_)
  rw [if_pos (show (Value.ref T != Value.none) = true from by simp)]
  refine wpAny_bind (wpAny_field hT hdT h3 ?_)
  cases q : (fl == rawInt L)
  ·rw [if_neg (by simp)]
   refine wpAny_bind (x_set hx' hT hdT (Array.getElem?_eq_some_iff.mp h3).1 hnT hTe he hd h1 fun h₁ x₁ u₁ o₁ => ?_)
   refine x_entry hfr x₁.frames hf ((o₁ ea (Ne.symm hTe)).trans he) x₁.stays nw hd hc hsz h2 fun h' y u => h h' y (u₁.trans u)
  ·rw [if_pos rfl]
   exact wpAny_pure (h s.heap hx' (Heap.UpToSlots.refl _))
theorem x_flight {l : List Env} {f : Option Addr} {Q : Unit → Shared → Prop} (hx : Exc B l ea true s.heap) (h : ∀ h', Exc B l ea true h' → s.heap.UpToSlots h' → Q () { s with heap := h' }) : wpAny M A (setFlight (.ref ea) f) Q E s := by
 obtain ⟨st, nw, fr, oe, vs, he, hc, hd, hsz, h2, htr⟩ := id hx
 obtain ⟨T, oT, ts, fl, h1, hnT, hTe, hT, hdT, h3⟩ := htr.resolve_left fun h => nomatch h.1
 unfold setFlight
 refine wpAny_bind (wpAny_field he hd h1 ?_)
 rw [if_pos (show (Value.ref T != Value.none) = true from by simp)]
 exact x_set hx hT hdT (Array.getElem?_eq_some_iff.mp h3).1 hnT hTe he hd h1 fun h' a b _ => h h' a b
theorem x_back {l : List Env} {Q : Value → Shared → Prop} (hx : Exc B l ea true s.heap) (h : ∀ h', Exc B l ea true h' → s.heap.UpToSlots h' → Q (.ref ea) { s with heap := h' }) : cameBackBy M A env Q (.ref ea) s := by
 obtain ⟨st, nw, fr, oe, vs, he, hc, hd, hsz, h2, htr⟩ := id hx
 obtain ⟨T, oT, ts, fl, h1, hnT, hTe, hT, hdT, h3⟩ := htr.resolve_left fun h => nomatch h.1
 unfold cameBackBy
 refine wpAny_bind (wpAny_field he hd h1 ?_)
 rw [if_neg (show ¬ (Value.ref T == Value.none) = true from by simp)]
 exact x_flight hx fun h' a b => h h' a b
theorem x_leave {tr : Bool} {Q : Unit → Shared → Prop} (hfr : A.frames = some (env :: outer)) (hf : env.frame = some L) (hx : Exc B (env :: outer) ea tr s.heap)
  (h : ∀ h', Exc B outer ea true h' → s.heap.UpToSlots h' → Q () { s with heap := h' }) : wpAny M A (leaving env (.ref ea)) Q E s := by
 unfold leaving
 refine wpAny_bind (x_note hfr hf hx fun h₁ y u => ?_)
 refine x_flight (s := { s with heap := h₁ }) y fun h₂ y₂ u₂ => ?_
 exact h h₂ ⟨y₂.stays, y₂.new, y₂.frames.2.2, y₂.ob⟩ (u.trans u₂)
end
structure Hand (A : Around) (hn : Option (Addr × Obj)) : Prop where
 hd : A.handled = hn.map fun p => .ref p.1
 hx : ∀ p, hn = some p → ∃ vs, p.2.data = .fields vs ∧ vs[2]? = some .none
theorem entry_unchain : entryFor table "proto.unchain" = some Builtin.«proto.unchain» := entryFor_of_tree (by kernel_rfl)
section
variable {prog : Program} {w : World} {A : Around} {E : Value → Shared → Prop} {s : Shared}
theorem x_raiseNew {e x : Addr} {oe ox : Obj} {ves vxs : Array Value} {Q : α → Shared → Prop} (hh : A.handled = some (.ref x)) (hne : x ≠ e) (he : s.heap.get? e = some oe) (hd : oe.data = .fields ves) (h2 : 2 < ves.size)
  (hx : s.heap.get? x = some ox) (hdx : ox.data = .fields vxs) (h3 : vxs[2]? = some .none) (h : E (.ref e) { s with heap := s.heap.update e (Obj.mapFields (·.setIfInBounds 2 (.ref x))) }) :
  wpAny (model prog w) A (raiseNew (.ref e) : Sem α) Q E s := by
 unfold raiseNew
 refine wpAny_bind (wpAny_handled ?_)
 rw [hh]
 dsimp only
 rw [if_pos (show (Value.ref x != Value.ref e) = true by simp [hne])]
 refine wpAny_bind (wpAny_holding (wpAny_runValue (codeAny_builtin entry_unchain ?_)))
 show wpAny _ _ (field (.ref x) 2 >>= _) _ _ s
 refine wpAny_bind (wpAny_field hx hdx h3 ?_)
 rw [if_pos (show (Value.none == Value.none) = true from rfl)]
 refine wpAny_pure ?_
 show wpAny _ _ (setField (.ref e) 2 (.ref x) >>= _) _ _ s
 exact wpAny_bind (wpAny_setField (i := 2) (x := .ref x) he hd h2 (wpAny_throw h))
theorem x_list_end {hn : Option (Addr × Obj)} (H : Hand A hn) {l : Addr} {items : Array Value} {Q : Option Value → Shared → Prop}
  (hit : s.heap.IsListIter it l i) (hl : s.heap.IsList l items) (hx : items[i]? = none) (hI : ∀ p, hn = some p → p.1 ≠ it ∧ s.heap.get? p.1 = some p.2)
  (hQ : ∀ h', Heap.ExtBut it s.heap h' → Q none { s with heap := h' }) : wpAny (model prog w) A (pyNext (.ref it)) Q E s := by
 cases hn with
 | none => exact wpAny_pyNext_list_end H.hd hit hl hx hQ
 | some p =>
 obtain ⟨vs, hpd, hp2⟩ := H.hx p rfl
 obtain ⟨hpi, hpg⟩ := hI p rfl
 obtain ⟨o, ho, hc, hd⟩ := id hit
 obtain ⟨ol, hol, _, nl, hdl⟩ := hl
 unfold pyNext
 refine wpAny_bind (wpAny_attempt (wpAny_callSpecial?_slot (name := Str.ofString "__next__") hit.typeIs slot_listiter_next
  (wpAny_call_entry slot_listiter_next hit.typeIs entry_listiter_next ?_ (args_listiter_next _))))
 show wpAny _ _ (field (.ref it) 0 >>= _) _ _ s
 refine wpAny_bind (wpAny_field ho hd (x := .ref l) rfl ?_)
 show wpAny _ _ (if (Value.ref l == Value.none) = true then _ else _) _ _ s
 rw [if_neg (show ¬ ((Value.ref l == Value.none) = true) from Bool.false_ne_true)]
 show wpAny _ _ (field (.ref it) 1 >>= _) _ _ s
 refine wpAny_bind (wpAny_field ho hd (x := .int i 0) rfl ?_)
 show wpAny _ _ (seqItems? (.ref l) >>= _) _ _ s
 refine wpAny_bind (wpAny_seqItems hol hdl ?_)
 simp only [Int.toNat_natCast, hx]
 refine wpAny_bind (wpAny_rule (wpAny_bind (wpAny_setField ho hd (by simp) ?_)))
 show wpAny _ _ (newExc (.type "StopIteration") [] >>= _) _ _ _
 refine wpAny_bind ?_
 delta newExc newTuple
 refine wpAny_bind (wpAny_newObj_type ?_ (by size_fits))
 refine wpAny_bind (m := firstArgMember _ _) (wpAny_of_eq (a := Value.none) (by first | rfl | (simp only [firstArgMember]; rfl)) ?_)
 refine wpAny_newObj_type ?_ (by size_fits)
 generalize hh1 : s.heap.update it (Obj.mapFields fun x => x.setIfInBounds 0 Value.none) = h1
 have g1 : h1.get? p.1 = some p.2 := by
  rw [← hh1, Heap.get?_update_other _ _ (Ne.symm hpi)]; exact hpg
 have g2 := Heap.get?_push_of_some (h := h1) { cls := .type "tuple", data := .seq ([] : List Value).toArray } g1
 refine x_raiseNew (x := p.1) (e := _) (show A.in1.handled = some (.ref p.1) from H.hd) (Nat.ne_of_lt (Heap.lt_size g2)) (Heap.get?_push_size _ rfl) rfl (by simp only [Array.size_append]; exact Nat.lt_of_lt_of_le (by decide : 2 < 6) (Nat.le_add_right _ _)) (Heap.get?_push_of_some _ g2) hpd hp2 ?_
 have e0 : Heap.ExtBut it s.heap (((h1.push { cls := .type "tuple", data := .seq ([] : List Value).toArray })).push { cls := .type "StopIteration", data := .fields (#[Value.ref h1.objs.size, .none, .none, .none, .bool false, .none] ++ ownMembersOf (.type "StopIteration") []) }) := by
  rw [← hh1]; exact ((Heap.SameBut.update ..).extBut.push _).push _
 refine wpAny_bind (wpAny_isInstance (T := "StopIteration") (b := true) ⟨_, Heap.get?_update_self _ (Heap.get?_push_size _ rfl) rfl, Obj.cls_mapFields _ _⟩ isSubtype_stop ?_)
 refine wpAny_pure (hQ _ fun b o hb e => ?_)
 have q := e0 b o hb e
 rw [Heap.get?_update_other _ _ ?_]
 ·exact q
 ·intro z
  have lt : b < s.heap.objs.size := Heap.lt_size e
  have s1 : h1.objs.size = s.heap.objs.size := by rw [← hh1]; exact Heap.size_after_update _ _ _
  have z' : h1.objs.size + 1 = b := by simpa using z
  rw [s1] at z'
  have : s.heap.objs.size < b := z' ▸ Nat.lt_succ_self _
  exact absurd (Nat.lt_trans lt this) (Nat.lt_irrefl _)
end
theorem walks_list {prog : Program} {w : World} {A : Around} {hn : Option (Addr × Obj)} (H : Hand A hn) (I ax : Addr) (hne : ax ≠ I) (hI : ∀ p, hn = some p → p.1 ≠ I) (items : Array Value) :
  Walks prog w A I ([I, ax] ++ (hn.map (·.1)).toList) [I] items.size (fun i v => items[i]? = some v) (fun i h => h.IsListIter I ax i ∧ (h.IsList ax items ∧ ∀ p, hn = some p → h.get? p.1 = some p.2)) where
 sub := fun b hb => by simp at hb; simp [hb]
 frame := fun _ _ _ st hk => ⟨st.1.at fun o e => hk I (by simp) o e, st.2.1.at fun o e => hk ax (by simp) o e, fun p hp => hk _ (by simp [hp]) _ (st.2.2 p hp)⟩
 item := fun i s Q E hi st hQ => by
  refine wpAny_pyNext_list_item st.1 st.2.1 (x := items[i]) (by simp [hi]) fun h' hit' hs' => ?_
  exact hQ _ h' s.toks (by simp [hi]) ⟨hit', st.2.1.extBut hs'.extBut hne, fun p hp => hs'.extBut _ _ (hI p hp) (st.2.2 p hp)⟩ fun b o hb e => hs'.extBut b o (fun h => hb (by simp [h])) e
 done := fun s Q E st hQ => x_list_end H st.1 st.2.1 (by simp) (fun p hp => ⟨hI p hp, st.2.2 p hp⟩) fun h' he' => hQ h' s.toks fun b o hb e => he' b o (fun h => hb (by simp [h])) e
 self := fun _ _ _ _ st hQ => wpAny_pyIter_listiter st.1 hQ
noncomputable abbrev Led := List (Addr × Obj)
noncomputable abbrev Loc := List (Str × Value)
noncomputable abbrev lo : List Str := looseW viewP looseL ++ (recsOf viewP).map (·.name) ++ (litsOf viewP).map (·.1) ++ (clssOf viewP (looseW viewP looseL)).map (·.name)
structure Cx where
 w : World
 mg : Str → Option Value
 mb : Str → Option Value
 mean : ExcName → Option Value
 A : Around
 env : Env
 fe : Env
 outer : List Env
 A₀ : Around
 base : Heap
 h₀ : Heap
 L : Addr
 fr : Led
 dl : Nat
 ul : Nat
 hn : Option (Addr × Obj)
 fm : Option (Str → Option Value)
 oc : Str → Bool
noncomputable abbrev Cx.frs (C : Cx) (l : Led) : Cx := { C with fr := l }
noncomputable def allOc : Str → Bool := fun _ => true
theorem oc_all {f : Str → Bool} (h : f = allOc) : f x = true := by rw [h]; rfl
structure Cx.Ok (C : Cx) : Prop where
 below : Below C.A₀ C.base C.outer C.h₀
 stack : C.A.frames = some (C.fe :: C.outer)
 fl : C.fe.frame = some C.L
 fk : C.fe.scope.kind = .function
 ek : C.env.scope.kind = .function
 eg : C.env.globals = mainGlobals
 eb : C.env.builtins = builtinsNs
 ci : ∀ x y c, C.oc y = true → C.env.cells.lookup x = some c → C.env.cells.lookup y = some c → x = y
 frag : (Kf C.w.params).In C.h₀
 top : Top topProg lo C.mean C.mg C.mb C.h₀
 hd : C.A.handled = C.hn.map fun p => .ref p.1
 fm : C.env.locals = C.L → C.fm = none
 hx : ∀ p, C.hn = some p → p ∈ C.fr ∧ ∃ vs, p.2.data = .fields vs ∧ vs[2]? = some .none
 dep : C.A.depth + C.dl < recursionLimit
 uni : C.A.units + C.ul < cLine
 fragB : (Kf C.w.params).In C.base
 topB : Top topProg lo C.mean C.mg C.mb C.base
 gd : C.A.guards = some []
noncomputable def nsObj (o : Obj) (m : Str → Option Value) : Prop := ∃ es ep, o.data = .dict es ep ∧ StrKeys es ∧ ∀ name, nsFind es name = m name
inductive VarE (env : Env) (L : Addr) (fr : Led) (m : Str → Option Value) (loc : Led) (x : Str) (v : Value) : Prop
 | own : env.kindOf x = some .local → env.locals = L → m x = some v → VarE env L fr m loc x v
 | ns (o : Obj) (m₂ : Str → Option Value) : env.kindOf x = some .local → (env.locals, o) ∈ loc → nsObj o m₂ → m₂ x = some v → VarE env L fr m loc x v
 | cell (c : Addr) (o : Obj) (b : Bool) : env.kindOf x = some (if b then .free else .cell) → env.cells.lookup x = some c → (c, o) ∈ loc ++ fr → o.data = .cell (some v) → VarE env L fr m loc x v
noncomputable abbrev Var (C : Cx) (m : Str → Option Value) (loc : Led) (x : Str) (v : Value) : Prop := VarE C.env C.L C.fr m loc x v
structure Vars (C : Cx) (M : Loc) (m : Str → Option Value) (loc : Led) : Prop where
 vars : ∀ x v, M.lookup x = some v → Var C m loc x v
 cells : ∀ x, C.env.kindOf x = some .cell → C.oc x = true → ∃ c o v, C.env.cells.lookup x = some c ∧ (c, o) ∈ loc ∧ o.data = .cell v
 fix : ∀ m₀, C.fm = some m₀ → m = m₀
 ns : C.env.locals ≠ C.L → ∃ o m₂, (C.env.locals, o) ∈ loc ∧ nsObj o m₂
noncomputable def Apart (X J : Led) : Prop := (X.map (·.1)).Nodup ∧ ∀ p ∈ X, ∀ q ∈ J, p.1 ≠ q.1
structure St (C : Cx) (M : Loc) (own J : Led) (h : Heap) (m : Str → Option Value) (loc : Led) : Prop where
 fr : Fr C.h₀ C.L h m
 news : News C.h₀ C.L h (loc ++ (C.fr ++ (own ++ J)))
 apart : Apart (loc ++ (C.fr ++ own)) J
 vars : Vars C M m loc
noncomputable def Post (C : Cx) {α : Type} (s : Shared) (Q : α → Loc → Led → Led → Prop) (a : α) (s' : Shared) : Prop :=
 ∃ h tk M own J m loc, s' = { s with heap := h, toks := tk } ∧ St C M own J h m loc ∧ Q a M own J
@[elab_as_elim] theorem Post.elim {C : Cx} {α : Type} {s s' : Shared} {Q : α → Loc → Led → Led → Prop} {a : α} {F : Shared → Prop} (p : Post C s Q a s') (k : ∀ h tk M own J m loc, St C M own J h m loc → Q a M own J → F { s with heap := h, toks := tk }) : F s' :=
 by obtain ⟨h, tk, M, own, J, m, loc, e, S, q⟩ := p; exact e ▸ k h tk M own J m loc S q
noncomputable abbrev XP := Loc → Led → Led → Prop
noncomputable def noX : XP := fun _ _ _ => False
structure XAt (C : Cx) (M : Loc) (own J : Led) (h : Heap) (ea : Addr) (tr : Bool) (B : Heap) (m : Str → Option Value) (loc : Led) : Prop where
 ns : h.Ns C.L m
 above : C.h₀.objs.size ≤ C.L
 fram : ∀ b o, C.h₀.get? b = some o → b ∈ C.outer.filterMap (·.frame) → ∃ sl, h.get? b = some { o with slots := sl }
 keep : ∀ b o, C.h₀.get? b = some o → b ∉ C.outer.filterMap (·.frame) → B.get? b = some o
 led : ∀ q ∈ loc ++ (C.fr ++ (own ++ J)), B.get? q.1 = some q.2 ∧ (q.1 ≠ C.L ∧ C.h₀.get? q.1 = none)
 apart : Apart (loc ++ (C.fr ++ own)) J
 vars : Vars C M m loc
 exc : Exc B (C.fe :: C.outer) ea tr h
 ea0 : C.h₀.get? ea = none
noncomputable def XSt (C : Cx) (M : Loc) (own J : Led) (h : Heap) (e : Value) : Prop := ∃ ea tr B m loc, e = .ref ea ∧ XAt C M own J h ea tr B m loc
noncomputable def PostX (C : Cx) (s : Shared) (X : XP) (e : Value) (s' : Shared) : Prop :=
 ∃ h tk M own J, s' = { s with heap := h, toks := tk } ∧ XSt C M own J h e ∧ X M own J
theorem PostX.never {C : Cx} {s : Shared} {e : Value} (h : PostX C s noX e s') : False := by obtain ⟨_, _, _, _, _, _, _, x⟩ := h; exact x
structure G (C : Cx) {α : Type} (c : Sem α) (M : Loc) (own J : Led) (X : XP) (Q : α → Loc → Led → Led → Prop) : Prop where
 mk :: (go : C.Ok → ∀ s m loc, St C M own J s.heap m loc → wpAny (model prog C.w) C.A c (Post C s Q) (PostX C s X) s)
section
variable {C : Cx} {α β : Type} {c : Sem α} {M : Loc} {own J : Led} {X : XP} {Q : α → Loc → Led → Led → Prop} {s : Shared} {m : Str → Option Value} {loc : Led}
theorem Post.of (S : St C M own J s.heap m loc) {a : α} (h : Q a M own J) : Post C s Q a s := ⟨_, s.toks, _, _, _, _, _, rfl, S, h⟩
theorem Post.mk' {h : Heap} (S : St C M own J h m loc) {a : α} (hq : Q a M own J) : Post C s Q a { s with heap := h, toks := tk } := ⟨_, _, _, _, _, _, _, rfl, S, hq⟩
theorem G.use {h₁ : Heap} {tk₁ : Nat} (g : G C c M own J X Q) (ok : C.Ok) (S : St C M own J h₁ m loc) {Q' : α → Shared → Prop} (e : s = { s₀ with heap := h₁, toks := tk₁ })
  (k : ∀ a s', Post C s₀ Q a s' → Q' a s') : wpAny (model prog C.w) C.A c Q' (PostX C s₀ X) s := by
 subst e
 refine wpAny_mono (g.go ok _ m loc S) (fun a s' p => k a s' ?_) fun a s' p => ?_
 ·refine Post.elim p fun h tk M' o' J' m' loc' S' q => ?_
  exact ⟨h, tk, M', o', J', m', loc', rfl, S', q⟩
 ·obtain ⟨h, tk, M', o', J', rfl, S', q⟩ := p
  exact ⟨h, tk, M', o', J', rfl, S', q⟩
theorem Post.go {k : α → Loc → Led → Led → Prop} {a : α} (p : Post C s k a s') {c' : Sem β} {Q' : β → Shared → Prop} (ok : C.Ok)
  {R : β → Loc → Led → Led → Prop} (g : ∀ M own J, k a M own J → G C c' M own J X R) (e : ∀ b s'', Post C s R b s'' → Q' b s'') : wpAny (model prog C.w) C.A c' Q' (PostX C s X) s' := by
 refine Post.elim p fun h tk M' o' J' m' loc' S' q => ?_
 exact (g _ _ _ q).use ok S' rfl e
theorem G.mono (g : G C c M own J X Q) {X' : XP} {Q' : α → Loc → Led → Led → Prop} (h : ∀ a M o J, Q a M o J → Q' a M o J) (hx : ∀ M o J, X M o J → X' M o J) : G C c M own J X' Q' := .mk fun ok s m loc S =>
 wpAny_mono (g.go ok s m loc S) (fun _ _ p => by obtain ⟨a1, a2, a3, a4, a5, a6, a7, e, S', q⟩ := p; exact ⟨a1, a2, a3, a4, a5, a6, a7, e, S', h _ _ _ _ q⟩) fun _ _ p => by obtain ⟨a1, a2, a3, a4, a5, e, S', q⟩ := p; exact ⟨a1, a2, a3, a4, a5, e, S', hx _ _ _ q⟩
theorem Post.rebase {C : Cx} {h : Heap} {a : α} (p : Post C { s₀ with heap := h, toks := tk } Q a s') : Post C s₀ Q a s' := p
theorem PostX.rebase {C : Cx} {h : Heap} {X : XP} {a : Value} (p : PostX C { s₀ with heap := h, toks := tk } X a s') : PostX C s₀ X a s' := p
theorem XAt.step {C : Cx} {own J loc : Led} {h B : Heap} {ea : Addr} {tr tr' : Bool} {m : Str → Option Value} (x : XAt C M own J h ea tr B m loc) (u : h.UpToSlots h') (e : Exc B (C.fe :: C.outer) ea tr' h') (below : Below C.A₀ C.base C.outer C.h₀) : XAt C M own J h' ea tr' B m loc where
 ns := u.ns x.ns
 above := x.above
 fram := fun b o hb hm => by
  obtain ⟨sl, hs⟩ := x.fram b o hb hm
  obtain ⟨_, o', ho', hd⟩ := below.frames.mem hm
  rw [hb] at ho'; cases ho'
  obtain ⟨sl', hs'⟩ := u _ _ hs hd
  exact ⟨sl', hs'⟩
 keep := x.keep
 led := x.led
 apart := x.apart
 vars := x.vars
 exc := e
 ea0 := x.ea0
theorem PostX.passes {C : Cx} (ok : C.Ok) (he : C.env = C.fe) {s : Shared} {X : XP} {M' : Model} : PassesOwn M' C.A C.env (PostX C s X) := by
 rintro e s' ⟨h, tk, M, own, J, rfl, ⟨ea, tr, B, m, loc, rfl, x⟩, q⟩
 rw [he]
 refine x_note ok.stack ok.fl x.exc fun h₁ e₁ u₁ => ?_
 refine x_back (s := { s with heap := h₁, toks := tk }) e₁ fun h₂ e₂ u₂ => ?_
 exact ⟨h₂, tk, M, own, J, rfl, ⟨ea, true, B, m, loc, rfl, (x.step u₁ e₁ ok.below).step u₂ e₂ ok.below⟩, q⟩
end
section
variable {X : XP} {C : Cx} {J own : Led} {M : Loc}
noncomputable abbrev QF := Flow → Loc → Led → Led → Prop
noncomputable abbrev QV := Value → Loc → Led → Led → Prop
noncomputable abbrev QB := Bool → Loc → Led → Led → Prop
noncomputable abbrev QL := List Value → Loc → Led → Led → Prop
noncomputable abbrev RetK (Q : QF) : QV := fun v M o J => Q (.ret v) M o J
noncomputable abbrev IfK (C : Cx) (b1 b2 : List Stmt) (X : XP) (Q : QF) : QB := fun b M o J => (b = true → G C (execs b1 C.env) M o J X Q) ∧ (b = false → G C (execs b2 C.env) M o J X Q)
noncomputable abbrev TruK (C : Cx) (X : XP) (Q : QB) : QV := fun v M o J => G C (truthy v) M o J X Q
noncomputable abbrev NotK (Q : QB) : QB := fun b M o J => Q (!b) M o J
noncomputable abbrev CmpR (C : Cx) (op : CmpOp) (a : Value) (X : XP) (Q : QV) : QV := fun b M o J => G C (compareOp op a b) M o J X Q
noncomputable abbrev CmpL (C : Cx) (op : CmpOp) (r : Expr) (X : XP) (Q : QV) : QV := fun a M o J => G C (eval r C.env) M o J X (CmpR C op a X Q)
noncomputable abbrev TAndK (C : Cx) (rest : List Expr) (pos : Pos) (wh : Sem Value) (X : XP) (Q : QB) : QB := fun b M o J => (b = true → G C (isTrue (.BoolOp .And rest pos) C.env wh) M o J X Q) ∧ (b = false → Q false M o J)
noncomputable abbrev TOrK (C : Cx) (rest : List Expr) (pos : Pos) (wh : Sem Value) (X : XP) (Q : QB) : QB := fun b M o J => (b = true → Q true M o J) ∧ (b = false → G C (isTrue (.BoolOp .Or rest pos) C.env wh) M o J X Q)
noncomputable abbrev TIfK (C : Cx) (b1 b2 : Expr) (X : XP) (Q : QB) : QB := fun b M o J => (b = true → G C (isTrue b1 C.env (eval b1 C.env)) M o J X Q) ∧ (b = false → G C (isTrue b2 C.env (eval b2 C.env)) M o J X Q)
noncomputable abbrev IfEK (C : Cx) (b1 b2 : Expr) (X : XP) (Q : QV) : QB := fun b M o J => (b = true → G C (eval b1 C.env) M o J X Q) ∧ (b = false → G C (eval b2 C.env) M o J X Q)
noncomputable abbrev UnK (C : Cx) (op : UnaryOp) (X : XP) (Q : QV) : QV := fun v M o J => G C (unaryOp op v) M o J X Q
noncomputable abbrev NotV (Q : QV) : QB := fun b M o J => Q (.bool (!b)) M o J
noncomputable abbrev BinR (C : Cx) (op : Operator) (a : Value) (X : XP) (Q : QV) : QV := fun b M o J => G C (binaryOp op a b) M o J X Q
noncomputable abbrev BinL (C : Cx) (op : Operator) (r : Expr) (X : XP) (Q : QV) : QV := fun a M o J => G C (eval r C.env) M o J X (BinR C op a X Q)
noncomputable abbrev AndB (C : Cx) (rest : List Expr) (pos : Pos) (v : Value) (X : XP) (Q : QV) : QB := fun b M o J => (b = true → G C (eval (.BoolOp .And rest pos) C.env) M o J X Q) ∧ (b = false → Q v M o J)
noncomputable abbrev AndK (C : Cx) (rest : List Expr) (pos : Pos) (X : XP) (Q : QV) : QV := fun v M o J => G C (truthy v) M o J X (AndB C rest pos v X Q)
noncomputable abbrev OrB (C : Cx) (rest : List Expr) (pos : Pos) (v : Value) (X : XP) (Q : QV) : QB := fun b M o J => (b = false → G C (eval (.BoolOp .Or rest pos) C.env) M o J X Q) ∧ (b = true → Q v M o J)
noncomputable abbrev OrK (C : Cx) (rest : List Expr) (pos : Pos) (X : XP) (Q : QV) : QV := fun v M o J => G C (truthy v) M o J X (OrB C rest pos v X Q)
noncomputable abbrev ArgC (v : Value) (Q : QL) : QL := fun vs M o J => Q (v :: vs) M o J
noncomputable abbrev ArgK (C : Cx) (pos : Pos) (rest : List Expr) (X : XP) (Q : QL) : QV := fun v M o J => G C (spliced (backTo pos (starEach rest C.env))) M o J X (ArgC v Q)
theorem g_nil {Q : QF} (h : Q .next M own J) : G C (execs [] C.env) M own J X Q := .mk fun ok s m loc S => wpAny_execs_nil (Post.of S h)
noncomputable def NextQ (C : Cx) (rest : List Stmt) (X : XP) (Q : QF) : QF := fun f M o J => match f with
 | .next => G C (execs rest C.env) M o J X Q
 | f => Q f M o J
theorem nextq_next {C : Cx} {rest : List Stmt} {X : XP} {Q : QF} (h : G C (execs rest C.env) M own J X Q) : NextQ C rest X Q .next M own J := h
theorem nextq_ret {C : Cx} {rest : List Stmt} {X : XP} {Q : QF} (h : Q (.ret v) M own J) : NextQ C rest X Q (.ret v) M own J := h
theorem nextq_brk {C : Cx} {rest : List Stmt} {X : XP} {Q : QF} (h : Q .brk M own J) : NextQ C rest X Q .brk M own J := h
theorem pick_t (h : P) : (true = true → P) ∧ (true = false → P') := ⟨fun _ => h, fun e => nomatch e⟩
theorem pick_f (h : P') : (false = true → P) ∧ (false = false → P') := ⟨fun e => (nomatch e), fun _ => h⟩
theorem pick_t' (h : P) : (true = false → P') ∧ (true = true → P) := ⟨fun e => (nomatch e), fun _ => h⟩
theorem pick_f' (h : P') : (false = false → P') ∧ (false = true → P) := ⟨fun _ => h, fun e => nomatch e⟩
theorem kind_of {C : Cx} {k : NameKind} (h : C.env.scope = SC) (e : SC.names.lookup x = some k) : C.env.kindOf x = some k := by subst h; exact e
theorem g_cons {st : Stmt} {rest : List Stmt} {Q : QF} (h : G C (exec st C.env) M own J X (NextQ C rest X Q)) : G C (execs (st :: rest) C.env) M own J X Q := .mk fun ok s m loc S =>
 wpAny_execs_cons (h.use ok S rfl fun f s' p => by
  cases f with
  | next => exact Post.go p ok (fun _ _ _ q => q) fun _ _ x => x
  | _ => exact p)
theorem g_ret {Q : QF} (h : G C (eval e C.env) M own J X (RetK Q)) : G C (exec (.Return (some e) pos) C.env) M own J X Q := .mk fun ok s m loc S =>
 wpAny_Return_some (h.use ok S rfl fun _ _ p => p)
theorem g_ret0 {Q : QF} (h : Q (.ret .none) M own J) : G C (exec (.Return none pos) C.env) M own J X Q := .mk fun ok s m loc S => wpAny_Return_none (Post.of S h)
theorem g_if {Q : QF} (h : G C (isTrue test C.env (eval test C.env)) M own J X (IfK C b1 b2 X Q)) :
  G C (exec (.If test b1 b2 pos) C.env) M own J X Q := .mk fun ok s m loc S =>
 wpAny_If (h.use ok S rfl fun b s' p => by
  cases b with
  | true => exact Post.go p ok (fun _ _ _ q => q.1 rfl) fun _ _ x => x
  | false => exact Post.go p ok (fun _ _ _ q => q.2 rfl) fun _ _ x => x)
theorem g_true {Q : QB} (h : G C (eval e C.env) M own J X (TruK C X Q)) (he : isTrue e C.env (eval e C.env) = (do let v ← eval e C.env; standAt e.pos; holding [v] (truthy v))) :
  G C (isTrue e C.env (eval e C.env)) M own J X Q := .mk fun ok s m loc S => isTrue_plain (h.use ok S rfl fun _ _ p => Post.go p ok (fun _ _ _ q => q) fun _ _ x => x) he
theorem g_tnot {x : Expr} {Q : QB} (h : G C (isTrue x C.env (eval x C.env)) M own J X (NotK Q)) : G C (isTrue (.UnaryOp .Not x pos) C.env wh) M own J X Q := .mk fun ok s m loc S =>
 isTrue_not (h.use ok S rfl fun _ _ p => p)
theorem g_tcmp {l r : Expr} {op : CmpOp} {Q : QB} (h : G C (eval l C.env) M own J X (CmpL C op r X (TruK C X Q)))
  (hm : behindInMarks op r = false) : G C (isTrue (.Compare l [op] [r] pos) C.env wh) M own J X Q := .mk fun ok s m loc S =>
 wpAny_isTrue_Compare1 (h.use ok S rfl fun _ _ p => Post.go p ok (fun _ _ _ q => q) fun _ _ p => Post.go p ok (fun _ _ _ q => q) fun _ _ p => Post.go p ok (fun _ _ _ q => q) fun _ _ x => x) hm
theorem g_tand0 {Q : QB} (h : Q true M own J) : G C (isTrue (.BoolOp .And [] pos) C.env wh) M own J X Q := .mk fun ok s m loc S => isTrue_and_nil (Post.of S h)
theorem g_tor0 {Q : QB} (h : Q false M own J) : G C (isTrue (.BoolOp .Or [] pos) C.env wh) M own J X Q := .mk fun ok s m loc S => isTrue_or_nil (Post.of S h)
theorem g_tand {x : Expr} {Q : QB} (h : G C (isTrue x C.env (eval x C.env)) M own J X (TAndK C rest pos wh X Q)) :
  G C (isTrue (.BoolOp .And (x :: rest) pos) C.env wh) M own J X Q := .mk fun ok s m loc S => isTrue_and (h.use ok S rfl fun b s' p => by
  cases b with
  | true => exact Post.go p ok (fun _ _ _ q => q.1 rfl) fun _ _ x => x
  | false =>
   obtain ⟨a1, a2, a3, a4, a5, a6, a7, e, S', q⟩ := p
   exact ⟨a1, a2, a3, a4, a5, a6, a7, e, S', q.2 rfl⟩)
theorem g_tor {x : Expr} {Q : QB} (h : G C (isTrue x C.env (eval x C.env)) M own J X (TOrK C rest pos wh X Q)) :
  G C (isTrue (.BoolOp .Or (x :: rest) pos) C.env wh) M own J X Q := .mk fun ok s m loc S => isTrue_or (h.use ok S rfl fun b s' p => by
  cases b with
  | false => exact Post.go p ok (fun _ _ _ q => q.2 rfl) fun _ _ x => x
  | true =>
   obtain ⟨a1, a2, a3, a4, a5, a6, a7, e, S', q⟩ := p
   exact ⟨a1, a2, a3, a4, a5, a6, a7, e, S', q.1 rfl⟩)
theorem g_tif {b1 b2 : Expr} {Q : QB} (h : G C (isTrue test C.env (eval test C.env)) M own J X (TIfK C b1 b2 X Q)) :
  G C (isTrue (.IfExp test b1 b2 pos) C.env wh) M own J X Q := .mk fun ok s m loc S =>
 isTrue_IfExp (h.use ok S rfl fun b s' p => by
  cases b with
  | true => exact Post.go p ok (fun _ _ _ q => q.1 rfl) fun _ _ x => x
  | false => exact Post.go p ok (fun _ _ _ q => q.2 rfl) fun _ _ x => x)
theorem g_truthy_bool {b : Bool} {Q : QB} (h : Q b M own J) : G C (truthy (.bool b)) M own J X Q := .mk fun ok s m loc S => wpAny_truthy_bool (Post.of S h)
theorem g_truthy_none {Q : QB} (h : Q false M own J) : G C (truthy .none) M own J X Q := .mk fun ok s m loc S => truthy_none (Post.of S h)
theorem g_ifexp {b1 b2 : Expr} {Q : QV} (h : G C (isTrue test C.env (eval test C.env)) M own J X (IfEK C b1 b2 X Q)) :
  G C (eval (.IfExp test b1 b2 pos) C.env) M own J X Q := .mk fun ok s m loc S =>
 IfExp_ (h.use ok S rfl fun b s' p => by
  cases b with
  | true => exact Post.go p ok (fun _ _ _ q => q.1 rfl) fun _ _ x => x
  | false => exact Post.go p ok (fun _ _ _ q => q.2 rfl) fun _ _ x => x)
theorem g_int {i : Int} {k : Nat} {Q : QV} (h : ∀ t, Q (.int i t) M own J) : G C (eval (.Constant (.int i) k pos) C.env) M own J X Q := .mk fun ok s m loc S => wpAny_Constant_int (Post.mk' S (h _))
theorem g_bool {b : Bool} {k : Nat} {Q : QV} (h : Q (.bool b) M own J) : G C (eval (.Constant (.bool b) k pos) C.env) M own J X Q := .mk fun ok s m loc S => Constant_bool (Post.of S h)
theorem g_none {k : Nat} {Q : QV} (h : Q .none M own J) : G C (eval (.Constant .none k pos) C.env) M own J X Q := .mk fun ok s m loc S => Constant_none (Post.of S h)
theorem g_unary {op : UnaryOp} {x : Expr} {Q : QV} (h : G C (eval x C.env) M own J X (UnK C op X Q)) : G C (eval (.UnaryOp op x pos) C.env) M own J X Q := .mk fun ok s m loc S =>
 UnaryOp_ (h.use ok S rfl fun _ _ p => Post.go p ok (fun _ _ _ q => q) fun _ _ x => x)
theorem g_not {Q : QV} (h : G C (truthy v) M own J X (NotV Q)) : G C (unaryOp .Not v) M own J X Q := .mk fun ok s m loc S => not_of (h.use ok S rfl fun _ _ p => p)
theorem g_bin {l r : Expr} {op : Operator} {Q : QV} (h : G C (eval l C.env) M own J X (BinL C op r X Q)) : G C (eval (.BinOp l op r pos) C.env) M own J X Q := .mk fun ok s m loc S =>
 wpAny_BinOp (h.use ok S rfl fun _ _ p => Post.go p ok (fun _ _ _ q => q) fun _ _ p => Post.go p ok (fun _ _ _ q => q) fun _ _ x => x)
theorem g_cmp {l r : Expr} {op : CmpOp} {Q : QV} (h : G C (eval l C.env) M own J X (CmpL C op r X Q))
  (hm : behindInMarks op r = false) : G C (eval (.Compare l [op] [r] pos) C.env) M own J X Q := .mk fun ok s m loc S =>
 wpAny_Compare1 (h.use ok S rfl fun _ _ p => Post.go p ok (fun _ _ _ q => q) fun _ _ p => Post.go p ok (fun _ _ _ q => q) fun _ _ x => x) hm
theorem g_and1 {op : BoolOp} {Q : QV} (h : G C (eval e C.env) M own J X Q) : G C (eval (.BoolOp op [e] pos) C.env) M own J X Q := .mk fun ok s m loc S => BoolOp_one (h.go ok s m loc S)
theorem g_and {e₁ e₂ : Expr} {Q : QV} (h : G C (eval e₁ C.env) M own J X (AndK C (e₂ :: rest) pos X Q)) :
  G C (eval (.BoolOp .And (e₁ :: e₂ :: rest) pos) C.env) M own J X Q := .mk fun ok s m loc S => BoolOp_and (h.use ok S rfl fun v _ p => Post.go p ok (fun _ _ _ q => q) fun b _ p => by
  cases b with
  | true => exact Post.go p ok (fun _ _ _ q => q.1 rfl) fun _ _ x => x
  | false =>
   obtain ⟨a1, a2, a3, a4, a5, a6, a7, e, S', q⟩ := p
   exact ⟨a1, a2, a3, a4, a5, a6, a7, e, S', q.2 rfl⟩)
theorem g_or {e₁ e₂ : Expr} {Q : QV} (h : G C (eval e₁ C.env) M own J X (OrK C (e₂ :: rest) pos X Q)) :
  G C (eval (.BoolOp .Or (e₁ :: e₂ :: rest) pos) C.env) M own J X Q := .mk fun ok s m loc S => BoolOp_or (h.use ok S rfl fun v _ p => Post.go p ok (fun _ _ _ q => q) fun b _ p => by
  cases b with
  | false => exact Post.go p ok (fun _ _ _ q => q.1 rfl) fun _ _ x => x
  | true =>
   obtain ⟨a1, a2, a3, a4, a5, a6, a7, e, S', q⟩ := p
   exact ⟨a1, a2, a3, a4, a5, a6, a7, e, S', q.2 rfl⟩)
theorem g_args0 {Q : QL} (h : Q [] M own J) : G C (spliced (backTo pos (starEach [] C.env))) M own J X Q := .mk fun ok s m loc S => args_nil (Post.of S h)
theorem g_args {Q : QL} (h : G C (eval e C.env) M own J X (ArgK C pos rest X Q))
  (he : starEach (e :: rest) C.env = (false, eval e C.env) :: starEach rest C.env) : G C (spliced (backTo pos (starEach (e :: rest) C.env))) M own J X Q := .mk fun ok s m loc S =>
 args_cons (h.use ok S rfl fun _ _ p => Post.go p ok (fun _ _ _ q => q) fun _ _ x => x) he
end
variable {X : XP} {C C' : Cx} {Q : QF} {J B J' l1 loc own' own₁ : Led} {M L₀ M' : Loc} {KS : Loc → Led → Led → Prop}
noncomputable abbrev St.all (C : Cx) (own J loc : Led) : Led := loc ++ (C.fr ++ (own ++ J))
section
variable {p x : Addr × Obj} {loc fr own J l1 l2 R X Y J' : Led} {a : Addr} {o o' : Obj}
theorem pull1 : ((l1 ++ x :: l2) ++ R).Perm (x :: ((l1 ++ l2) ++ R)) := List.perm_middle.append_right R
theorem pull : (loc ++ (fr ++ (l1 ++ x :: l2))).Perm (x :: (loc ++ (fr ++ (l1 ++ l2)))) :=
 (((List.perm_middle.append_left fr).trans List.perm_middle).append_left loc).trans List.perm_middle
theorem pullJ : (loc ++ (fr ++ ((l1 ++ x :: l2) ++ J))).Perm (x :: (loc ++ (fr ++ ((l1 ++ l2) ++ J)))) :=
 (((pull1.append_left fr).trans List.perm_middle).append_left loc).trans List.perm_middle
theorem all_or (h : p ∈ loc ++ (fr ++ (own ++ J))) : p ∈ loc ++ (fr ++ own) ∨ p ∈ J := by
 rw [← List.append_assoc, ← List.append_assoc] at h
 rw [← List.append_assoc]
 exact List.mem_append.mp h
theorem Apart.cons (A : Apart X J) (h1 : ∀ p ∈ X, p.1 ≠ a) (h2 : ∀ q ∈ J, q.1 ≠ a) : Apart ((a, o) :: X) J :=
 ⟨List.nodup_cons.mpr ⟨fun hm => (List.mem_map.mp hm).elim fun p hp => h1 p hp.1 hp.2, A.1⟩, fun p hp q hq => (List.mem_cons.mp hp).elim (fun e z => h2 q hq ((congrArg Prod.fst e ▸ z).symm)) fun hp => A.2 p hp q hq⟩
theorem Apart.perm (A : Apart X J) (e : X.Perm Y) : Apart Y J := ⟨(e.map _).nodup_iff.mp A.1, fun p hp => A.2 p (e.mem_iff.mpr hp)⟩
theorem Apart.head (A : Apart (x :: X) J) : Apart X J ∧ ((∀ p ∈ X, p.1 ≠ x.1) ∧ ∀ q ∈ J, q.1 ≠ x.1) :=
 ⟨⟨(List.nodup_cons.mp A.1).2, fun p hp => A.2 p (.tail _ hp)⟩, fun p hp e => (List.nodup_cons.mp A.1).1 (List.mem_map.mpr ⟨p, hp, e⟩), fun q hq e => A.2 _ (.head _) q hq e.symm⟩
theorem Apart.ice (A : Apart X J) (h1 : ∀ p ∈ X, p.1 ≠ a) : Apart X ((a, o) :: J) := ⟨A.1, fun p hp q hq => (List.mem_cons.mp hq).elim (fun e z => h1 p hp (z.trans (congrArg Prod.fst e))) fun hq => A.2 p hp q hq⟩
theorem Apart.set (A : Apart ((a, o) :: X) J) : Apart ((a, o') :: X) J := A.head.1.cons A.head.2.1 A.head.2.2
theorem Apart.all (A : Apart (x :: (loc ++ (fr ++ own))) J) (h : p ∈ loc ++ (fr ++ (own ++ J))) : p.1 ≠ x.1 := (all_or h).elim (A.head.2.1 p) (A.head.2.2 p)
theorem old_mem1 (ne : p.1 ≠ a) (h : p ∈ l1 ++ (a, o) :: l2) : p ∈ l1 ++ (a, o') :: l2 :=
 List.perm_middle.mem_iff.mpr (.tail _ ((List.mem_cons.mp (List.perm_middle.mem_iff.mp h)).resolve_left fun e => ne (congrArg Prod.fst e)))
theorem old_mem (ne : p.1 ≠ a) (h : p ∈ (l1 ++ (a, o) :: l2) ++ R) : p ∈ (l1 ++ (a, o') :: l2) ++ R :=
 (List.mem_append.mp h).elim (fun h => mL (old_mem1 ne h)) (mR)
theorem VarE.celled {env : Env} {m : Str → Option Value} {x : Str} (V : VarE env L fr m loc x v) (h : env.kindOf x = some .cell) : ∃ c o, env.cells.lookup x = some c ∧ (c, o) ∈ loc ++ fr ∧ o.data = .cell (some v) := by
 cases V with
 | own a b c => exact nomatch (Option.some.inj (h.symm.trans a))
 | ns o m₂ a b c d => exact nomatch (Option.some.inj (h.symm.trans a))
 | cell c o b a1 a2 a3 a4 => exact ⟨c, o, a2, a3, a4⟩
theorem look_cons {u : α} {p : Str × α} {M : List (Str × α)} (h : List.lookup y (p :: M) = some u) : (y = p.1 ∧ p.2 = u) ∨ (y ≠ p.1 ∧ M.lookup y = some u) := by
 rw [List.lookup_cons] at h
 cases e : y == p.1 with
 | true => rw [e] at h; exact .inl ⟨beq_iff_eq.mp e, Option.some.inj h⟩
 | false => rw [e] at h; exact .inr ⟨fun z => (nomatch e.symm.trans (beq_iff_eq.mpr z)), h⟩
theorem look_mem {x : Str} {v : α} {l : List (Str × α)} (h : l.lookup x = some v) : (x, v) ∈ l := by
 induction l with
 | nil => cases h
 | cons p r ih =>
  rcases look_cons h with ⟨rfl, rfl⟩ | ⟨_, h⟩
  ·exact .head _
  ·exact .tail _ (ih h)
theorem Apart.above {Z : Led} (A : Apart X J) (nd : (Z.map (·.1)).Nodup) (ge : ∀ p ∈ Z, n ≤ p.1) (lt : ∀ q ∈ X, q.1 < n) (ltJ : ∀ q ∈ J, q.1 < n) : Apart (Z ++ X) J :=
 ⟨List.map_append ▸ List.nodup_append.mpr ⟨nd, A.1, fun a ha b hb e => (List.mem_map.mp ha).elim fun p hp => (List.mem_map.mp hb).elim fun q hq => Nat.not_le_of_lt (lt q hq.1) (hq.2.trans (e.symm.trans hp.2.symm) ▸ ge p hp.1)⟩,
  fun p hp q hq => (List.mem_append.mp hp).elim (fun hp e => Nat.not_le_of_lt (ltJ q hq) (e ▸ ge p hp)) fun hp => A.2 p hp q hq⟩
end
section
variable {C : Cx} {M : Loc} {own J loc : Led} {h h' : Heap} {m m' : Str → Option Value}
theorem News.put {h h' : Heap} {a : Addr} {T T' Y : Led} {o o' : Obj} (N : News h₀ L h T) (p1 : T.Perm ((a, o) :: Y)) (p2 : T'.Perm ((a, o') :: Y)) (ap : ∀ p ∈ Y, p.1 ≠ a) (hs : Heap.SameBut a h h') (ho : h'.get? a = some o') : News h₀ L h' T' :=
 fun p hp => News.setHead (fun p hp => N p (p1.mem_iff.mpr hp)) ap hs ho p (p2.mem_iff.mp hp)
theorem St.get (S : St C M own J h m loc) {p : Addr × Obj} (hp : p ∈ own ++ J) : h.get? p.1 = some p.2 := (S.news p (mR (mR hp))).1
theorem St.frag (S : St C M own J h m loc) (ok : C.Ok) : (Kf C.w.params).In h := ok.frag.keeps S.fr.keep
theorem St.same (S : St C M own J h m loc) (F : Fr C.h₀ C.L h' m) (N : News C.h₀ C.L h' (St.all C own J loc)) : St C M own J h' m loc := ⟨F, N, S.apart, S.vars⟩
theorem mem_all_own {p : Addr × Obj} (hp : p ∈ loc ++ (C.fr ++ own)) : p ∈ St.all C own J loc := by
 show p ∈ loc ++ (C.fr ++ (own ++ J))
 rw [← List.append_assoc, ← List.append_assoc]
 rw [← List.append_assoc] at hp
 exact mL hp
theorem mem_all_ice {p : Addr × Obj} (hp : p ∈ J) : p ∈ St.all C own J loc := mR (mR (mR hp))
theorem St.ice {a : Addr} {o : Obj} (S : St C M own J h m loc) (F : Fr C.h₀ C.L h' m) (N : News C.h₀ C.L h' ((a, o) :: St.all C own J loc)) (lt : ∀ p ∈ St.all C own J loc, p.1 < a) : St C M own ((a, o) :: J) h' m loc :=
 ⟨F, fun p hp => N p (pull.mem_iff.mp hp), S.apart.ice fun p hp => Nat.ne_of_lt (lt p (mem_all_own hp)), S.vars⟩
theorem St.mine {a : Addr} {o : Obj} (S : St C M own J h m loc) (F : Fr C.h₀ C.L h' m) (N : News C.h₀ C.L h' ((a, o) :: St.all C own J loc)) (lt : ∀ p ∈ St.all C own J loc, p.1 < a) : St C M ((a, o) :: own) J h' m loc :=
 ⟨F, fun p hp => N p ((pullJ (l1 := [])).mem_iff.mp hp), (S.apart.cons (fun p hp => Nat.ne_of_lt (lt p (mem_all_own hp))) fun q hq => Nat.ne_of_lt (lt q (mem_all_ice hq))).perm (pull (l1 := [])).symm, S.vars⟩
theorem St.pushIce {o : Obj} (S : St C M own J h m loc) (hf : o.isFreed = false) : St C M own ((h.objs.size, o) :: J) (h.push o) m loc := S.ice (S.fr.push _) (S.news.push S.fr _ hf) fun p hp => Heap.lt_size (S.news p hp).1
theorem St.pushMine {o : Obj} (S : St C M own J h m loc) (hf : o.isFreed = false) : St C M ((h.objs.size, o) :: own) J (h.push o) m loc := S.mine (S.fr.push _) (S.news.push S.fr _ hf) fun p hp => Heap.lt_size (S.news p hp).1
theorem St.freeze {l1 l2 : Led} {a : Addr} {o : Obj} (S : St C M (l1 ++ (a, o) :: l2) J h m loc) : St C M (l1 ++ l2) ((a, o) :: J) h m loc :=
 ⟨S.fr, fun p hp => S.news p (pullJ.mem_iff.mpr (pull.mem_iff.mp hp)), (S.apart.perm pull).head.1.ice (S.apart.perm pull).head.2.1, S.vars⟩
theorem St.upd {l1 l2 : Led} {a : Addr} {o o' : Obj} (S : St C M (l1 ++ (a, o) :: l2) J h m loc) (F : Fr C.h₀ C.L h' m) (N : News C.h₀ C.L h' (St.all C (l1 ++ (a, o') :: l2) J loc)) : St C M (l1 ++ (a, o') :: l2) J h' m loc :=
 ⟨F, N, (S.apart.perm pull).set.perm pull.symm, S.vars⟩
theorem St.apart1 {l1 l2 : Led} {a : Addr} {o : Obj} (S : St C M (l1 ++ (a, o) :: l2) J h m loc) : (∀ p ∈ loc ++ (C.fr ++ l1), p.1 ≠ a) ∧ ∀ p ∈ l2 ++ J, p.1 ≠ a :=
 have A := (S.apart.perm pull).head
 ⟨fun p hp => A.2.1 p (((List.Sublist.refl loc).append ((List.Sublist.refl C.fr).append (List.sublist_append_left l1 l2))).subset hp), fun p hp => (List.mem_append.mp hp).elim (fun hp => A.2.1 p (mR (mR (mR hp)))) (A.2.2 p)⟩
theorem St.setLoc {l1 l2 : Led} {a : Addr} {o o' : Obj} (S : St C M own J h m (l1 ++ (a, o) :: l2)) (hs : Heap.SameBut a h h') (ho : h'.get? a = some o') (V : Vars C M' m (l1 ++ (a, o') :: l2)) : St C M' own J h' m (l1 ++ (a, o') :: l2) :=
 have hme := S.news (a, o) (pull1.mem_iff.mpr (.head _))
 have A := S.apart.perm pull1
 ⟨S.fr.change hs hme.2.1 hme.2.2, News.put S.news pull1 pull1 (fun _ hp => A.all hp) hs ho, A.set.perm pull1.symm, V⟩
theorem St.put {l1 l2 : Led} {a : Addr} {o o' : Obj} (S : St C M (l1 ++ (a, o) :: l2) J h m loc) (hs : Heap.SameBut a h h') (ho : h'.get? a = some o') : St C M (l1 ++ (a, o') :: l2) J h' m loc :=
 have hme := S.news (a, o) (pullJ.mem_iff.mpr (.head _))
 have A := S.apart.perm pull
 ⟨S.fr.change hs hme.2.1 hme.2.2, News.put S.news pullJ pullJ (fun _ hp => A.all hp) hs ho, A.set.perm pull.symm, S.vars⟩
theorem St.loc1 {l1 l2 : Led} {a : Addr} {o o₂ : Obj} (S : St C M own J h m (l1 ++ (a, o) :: l2)) (hp : (a, o₂) ∈ (l1 ++ (a, o) :: l2) ++ C.fr) : o₂ = o :=
 Option.some.inj ((S.news (a, o₂) ((List.mem_append.mp hp).elim (mL) fun h => mR (mL h))).1.symm.trans (S.news (a, o) (pull1.mem_iff.mpr (.head _))).1)
theorem updF_at {a : Addr} {o : Obj} {l1 l2 : Led} (h1 : ∀ p ∈ l1, p.1 ≠ a) (h2 : ∀ p ∈ l2, p.1 ≠ a) : UpdF a o (l1 ++ (a, o) :: l2) (fun o' => l1 ++ (a, o') :: l2) := by
 induction l1 with
 | nil => exact .head h2
 | cons p l1 ih => exact .tail (h1 p (.head _)) (ih fun q hq => h1 q (.tail _ hq))
theorem upd_at {a : Addr} {o o' : Obj} {l1 l2 : Led} (h1 : ∀ p ∈ l1, p.1 ≠ a) (h2 : ∀ p ∈ l2, p.1 ≠ a) : Upd a o o' (l1 ++ (a, o) :: l2) (l1 ++ (a, o') :: l2) := by
 induction l1 with
 | nil => exact .head h2
 | cons p l1 ih => exact .tail (h1 p (.head _)) (ih fun q hq => h1 q (.tail _ hq))
theorem all_at {l1 l2 : Led} {a : Addr} {o : Obj} : St.all C (l1 ++ (a, o) :: l2) J loc = (loc ++ (C.fr ++ l1)) ++ (a, o) :: (l2 ++ J) := by
 rw [St.all, List.append_assoc, List.append_assoc, List.append_assoc]; rfl
theorem St.updF {l1 l2 : Led} {a : Addr} {o : Obj} (S : St C M (l1 ++ (a, o) :: l2) J h m loc) : UpdF a o (St.all C (l1 ++ (a, o) :: l2) J loc) (fun o' => St.all C (l1 ++ (a, o') :: l2) J loc) := by
 simp only [all_at]; exact updF_at S.apart1.1 S.apart1.2
theorem St.updO {l1 l2 : Led} {a : Addr} {o o' : Obj} (S : St C M (l1 ++ (a, o) :: l2) J h m loc) : Upd a o o' (St.all C (l1 ++ (a, o) :: l2) J loc) (St.all C (l1 ++ (a, o') :: l2) J loc) := by
 rw [all_at, all_at]; exact upd_at S.apart1.1 S.apart1.2
end
noncomputable def okCall (K : Frag) (f : Value) : Bool := match f with
 | .builtin _ => true
 | .type _ => true
 | f => keepIn K f
noncomputable def okMeth (K : Frag) (f : Value) : Bool := match f with
 | .builtin _ => true
 | f => keepIn K f
theorem okCall_or (hk : okCall K f = true) : (∃ b, f = .builtin b) ∨ (∃ t, f = .type t) ∨ keepIn K f = true := by
 cases f <;> first | exact .inl ⟨_, rfl⟩ | exact .inr (.inl ⟨_, rfl⟩) | exact .inr (.inr hk)
theorem okMeth_or (hk : okMeth K f = true) : (∃ b, f = .builtin b) ∨ keepIn K f = true := by
 cases f <;> first | exact .inl ⟨_, rfl⟩ | exact .inr hk
theorem callWith_ok {s : Shared} {env : Env} {Q : Value → Shared → Prop} {prog : Program} {w : World} (X : K.In h₀) (hk : okCall K f = true) (h : wpAny (model prog w) A (spliced (backTo pos (starEach (e :: rest) env))) (fun vs s₁ => K.In s₁.heap ∧ wpAny (model prog w) A (call f vs) Q E s₁) E s)
  (he : starEach (e :: rest) env = (false, eval e env) :: starEach rest env) (hplain : (backTo pos (starEach rest env)).any (·.1) = false) :
  wpAny (model prog w) A (callWith pos f [] (backTo pos (starEach (e :: rest) env)) []) Q E s := by
 obtain ⟨b, rfl⟩ | ⟨t, rfl⟩ | hk := okCall_or hk
 ·exact callWith_method1 (wpAny_mono h (fun _ _ x => x.2) fun _ _ x => x) he hplain
 ·exact PySem.Pv.callWith_type1 (wpAny_mono h (fun _ _ x => x.2) fun _ _ x => x) he hplain
 ·exact callWith_K X hk h he hplain
theorem callWith_okm {s : Shared} {env : Env} {first : List Value} {Q : Value → Shared → Prop} {prog : Program} {w : World} (X : K.In h₀) (hk : okMeth K f = true) (h : wpAny (model prog w) A (spliced (backTo pos (starEach (e :: rest) env))) (fun vs s₁ => K.In s₁.heap ∧ wpAny (model prog w) A (call f (first ++ vs)) Q E s₁) E s)
  (he : starEach (e :: rest) env = (false, eval e env) :: starEach rest env) (hplain : (backTo pos (starEach rest env)).any (·.1) = false) :
  wpAny (model prog w) A (callWith pos f first (backTo pos (starEach (e :: rest) env)) []) Q E s := by
 obtain ⟨b, rfl⟩ | hk := okMeth_or hk
 ·exact callWith_method1 (wpAny_mono h (fun _ _ x => x.2) fun _ _ x => x) he hplain
 ·exact callWith_K X hk h he hplain
theorem callWith_ok0 {s : Shared} {env : Env} {Q : Value → Shared → Prop} {prog : Program} {w : World} (X : K.In s.heap) (hk : okCall K f = true) (h : wpAny (model prog w) A (call f []) Q E s) :
  wpAny (model prog w) A (callWith pos f [] (backTo pos (starEach [] env)) []) Q E s := by
 obtain ⟨b, rfl⟩ | ⟨t, rfl⟩ | hk := okCall_or hk
 ·exact callWith_method0 h
 ·exact callWith_type0 h
 ·exact callWith_K0 X hk h
theorem callWith_okm0 {s : Shared} {env : Env} {first : List Value} {Q : Value → Shared → Prop} {prog : Program} {w : World} (X : K.In s.heap) (hk : okMeth K f = true) (h : wpAny (model prog w) A (call f (first ++ [])) Q E s) :
  wpAny (model prog w) A (callWith pos f first (backTo pos (starEach [] env)) []) Q E s := by
 obtain ⟨b, rfl⟩ | hk := okMeth_or hk
 ·rw [List.append_nil] at h; exact callWith_method0 h
 ·exact callWith_K0 X hk h
noncomputable abbrev StoK (Q : QF) : Unit → Loc → Led → Led → Prop := fun _ M o J => Q .next M o J
noncomputable abbrev AsgK (C : Cx) (x : Str) (X : XP) (Q : QF) : QV := fun v M o J => G C (storeName C.env x v) M o J X (StoK Q)
noncomputable abbrev AttrK (C : Cx) (n : Str) (X : XP) (Q : QV) : QV := fun v M o J => G C (getAttr v n true) M o J X Q
noncomputable abbrev CallV (C : Cx) (f : Value) (X : XP) (Q : QV) : QL := fun vs M o J => G C (call f vs) M o J X Q
noncomputable abbrev CallK (C : Cx) (pos : Pos) (args : List Expr) (X : XP) (Q : QV) : QV := fun f M o J => okCall (Kf C.w.params) f = true ∧ G C (spliced (backTo pos (starEach args C.env))) M o J X (CallV C f X Q)
noncomputable abbrev Call0K (C : Cx) (X : XP) (Q : QV) : QV := fun f M o J => okCall (Kf C.w.params) f = true ∧ G C (call f []) M o J X Q
noncomputable abbrev CallM (C : Cx) (f x : Value) (X : XP) (Q : QV) : QL := fun vs M o J => G C (call f (x :: vs)) M o J X Q
noncomputable abbrev MethK (C : Cx) (n : Str) (pl : Sem Bool) (X : XP) (Q : Value × List Value → Loc → Led → Led → Prop) : QV := fun v M o J => G C (getMethod v n pl) M o J X Q
section
variable {X : XP} {C : Cx} {Q : QV} {J own : Led} {M : Loc}
theorem g_freeze {c : Sem α} {Q : α → Loc → Led → Led → Prop} (l1 : Led) {l2 : Led} {a : Addr} {o : Obj} (g : G C c M (l1 ++ l2) ((a, o) :: J) X Q) : G C c M (l1 ++ (a, o) :: l2) J X Q := .mk fun ok s m loc S => g.go ok s m loc S.freeze
theorem mem_lf {p : Addr × Obj} {own J loc fr : Led} (h : p ∈ loc ++ fr) : p ∈ loc ++ (fr ++ (own ++ J)) := (List.append_assoc loc fr (own ++ J)) ▸ mL h
theorem g_local {x : Str} (hM : M.lookup x = some v) (h : Q v M own J) (hd : (x == ("__debug__" : Str)) = false) (hn : (x == ("__classdict__" : Str)) = false) : G C (eval (.Name x pos) C.env) M own J X Q := .mk fun ok s m loc S => by
 cases S.vars.vars x v hM with
 | own hk hl hm => exact wpAny_Name (wpAny_loadName_local ok.ek hk (hl ▸ S.fr.ns) hm (Post.of S h)) hd
 | ns o m₂ hk ho hz hm =>
  obtain ⟨es, ep, d, k, f⟩ := hz
  exact wpAny_Name (wpAny_loadName_local ok.ek hk ⟨o, es, ep, (S.news _ (mL ho)).1, d, k, f⟩ hm (Post.of S h)) hd
 | cell c o b hk hc ho hdat =>
  cases b with
  | false => exact wpAny_Name (wpAny_loadName_cell ok.ek hk hc ⟨o, (S.news _ (mem_lf ho)).1, hdat⟩ (Post.of S h)) hd
  | true => exact wpAny_Name (wpAny_loadName_free ok.ek hk hc ⟨o, (S.news _ (mem_lf ho)).1, hdat⟩ (Post.of S h) hn) hd
theorem g_glob {x : Str} (hx : C.env.kindOf x = some .globalImplicit) (e : nsIn (Kf C.w.params) mainGlobals x = some (some v)) (h : Q v M own J) (hd : (x == ("__debug__" : Str)) = false) : G C (eval (.Name x pos) C.env) M own J X Q := .mk fun ok s m loc S => by
 refine Name_function_global ok.ek hx (loadGlobal_global (mg := C.mg) ?_ (mg_of ok.frag ok.top.g e) (Post.of S h)) hd
 rw [ok.eg]; exact ok.top.g.keeps S.fr.keep
theorem g_builtin {x : Str} (hx : C.env.kindOf x = some .globalImplicit) (e : nsIn (Kf C.w.params) mainGlobals x = some none) (hv : bootBuiltins x = some v) (h : Q v M own J) (hn : x ≠ "__name__") (hd : (x == ("__debug__" : Str)) = false) :
  G C (eval (.Name x pos) C.env) M own J X Q := .mk fun ok s m loc S => by
 refine Name_function_global ok.ek hx (loadGlobal_builtin (mg := C.mg) (mb := C.mb) ?_ (mg_none_of ok.frag ok.top.g e) ?_ ((ok.top.builtins x hn).trans hv) (Post.of S h)) hd
 ·rw [ok.eg]; exact ok.top.g.keeps S.fr.keep
 ·rw [ok.eb]; exact ok.top.b.keeps S.fr.keep
theorem g_store {x : Str} {Q : Unit → Loc → Led → Led → Prop} (hk : C.env.kindOf x = some .local) (h : Q () ((x, v) :: M) own J) : G C (storeName C.env x v) M own J X Q := .mk fun ok s m loc S => by
 have kp : (C.env.scope.kind == .class || (C.env.scope.kind == .module && C.env.locals != C.env.globals)) = false := by rw [ok.ek]; rfl
 by_cases hL : C.env.locals = C.L
 ·refine wpAny_storeName_local hk (hL ▸ S.fr.ns) (fun h' hn hs => ?_) kp
  rw [hL] at hn hs
  refine Post.mk' (loc := loc) ⟨S.fr.set hn hs, S.news.set hs, S.apart, ⟨fun y u hy => ?_, S.vars.cells, fun m₀ e => (nomatch (ok.fm hL).symm.trans e), S.vars.ns⟩⟩ h
  rcases look_cons hy with ⟨rfl, rfl⟩ | ⟨ne, hy⟩
  ·exact .own hk hL (if_pos rfl)
  ·cases S.vars.vars y u hy with
   | own a b c => exact .own a b ((if_neg ne).trans c)
   | ns o m₂ a b c d => exact .ns o m₂ a b c d
   | cell c o b a1 a2 a3 a4 => exact .cell c o b a1 a2 a3 a4
 ·obtain ⟨o, m₁, ho, es, ep, hdd, hkk, hff⟩ := S.vars.ns hL
  refine wpAny_storeName_local hk ⟨o, es, ep, (S.news _ (mL ho)).1, hdd, hkk, hff⟩ (fun h' hn hs => ?_) kp
  obtain ⟨o', es', ep', ho', hdd', hkk', hff'⟩ := hn
  obtain ⟨l1, l2, rfl⟩ := List.append_of_mem ho
  have hin : (C.env.locals, o') ∈ l1 ++ (C.env.locals, o') :: l2 := List.perm_middle.mem_iff.mpr (.head _)
  have away : ∀ c o₂ q, (c, o₂) ∈ (l1 ++ (C.env.locals, o) :: l2) ++ C.fr → o₂.data = .cell q → c ≠ C.env.locals := fun c o₂ q hp hq e => by
   rw [e] at hp
   rw [S.loc1 hp, hdd] at hq
   cases hq
  refine Post.mk' (S.setLoc hs ho' ⟨fun y u hy => ?_, fun y hy hoc => ?_, S.vars.fix, fun _ => ⟨o', _, hin, es', ep', hdd', hkk', hff'⟩⟩) h
  ·rcases look_cons hy with ⟨rfl, rfl⟩ | ⟨ne, hy⟩
   ·exact .ns o' _ hk hin ⟨es', ep', hdd', hkk', hff'⟩ (if_pos rfl)
   ·cases S.vars.vars y u hy with
    | own a b c => exact absurd b hL
    | ns o₂ m₂ a b c d =>
     obtain ⟨es₂, ep₂, d1, d2, d3⟩ := c
     rw [S.loc1 (mL b), hdd] at d1
     cases d1
     exact .ns o' _ a hin ⟨es', ep', hdd', hkk', hff'⟩ ((if_neg ne).trans ((hff y).symm.trans ((d3 y).trans d)))
    | cell c o₂ b a1 a2 a3 a4 => exact .cell c o₂ b a1 a2 (old_mem (away _ _ _ a3 a4) a3) a4
  ·obtain ⟨c₂, o₂, v₂, h1, h2, h3⟩ := S.vars.cells y hy hoc
   exact ⟨c₂, o₂, v₂, h1, old_mem1 (away _ _ _ (mL h2) h3) h2, h3⟩
theorem g_storeC {x : Str} {Q : Unit → Loc → Led → Led → Prop} (hk : C.env.kindOf x = some .cell) (hoc : C.oc x = true) (h : Q () ((x, v) :: M) own J) : G C (storeName C.env x v) M own J X Q := .mk fun ok s m loc S => by
 obtain ⟨c, o, v₀, hc, ho, hd⟩ := S.vars.cells x hk hoc
 refine wpAny_storeName_cell (v₀ := v₀) ok.ek hk hc ⟨o, (S.news _ (mL ho)).1, hd⟩ (fun h' hv hs => ?_)
 obtain ⟨o', ho', hd'⟩ := hv
 obtain ⟨l1, l2, rfl⟩ := List.append_of_mem ho
 have hin : (c, o') ∈ l1 ++ (c, o') :: l2 := List.perm_middle.mem_iff.mpr (.head _)
 have away : ∀ o₂ m₂, (C.env.locals, o₂) ∈ l1 ++ (c, o) :: l2 → nsObj o₂ m₂ → C.env.locals ≠ c := fun o₂ m₂ hp hn e => by
  obtain ⟨es, ep, d, _⟩ := hn
  rw [e] at hp
  rw [S.loc1 (mL hp), hd] at d
  cases d
 refine Post.mk' (tk := s.toks) (S.setLoc hs ho' ⟨fun y u hy => ?_, fun y hy hoc' => ?_, S.vars.fix, fun hne => ?_⟩) h
 ·rcases look_cons hy with ⟨rfl, rfl⟩ | ⟨ne, hy⟩
  ·exact .cell c o' false hk hc (mL hin) hd'
  ·cases S.vars.vars y u hy with
   | own a b c => exact .own a b c
   | ns o₂ m₂ a b c d => exact .ns o₂ m₂ a (old_mem1 (away _ _ b c) b) c d
   | cell c₂ o₂ b a1 a2 a3 a4 => exact .cell c₂ o₂ b a1 a2 (old_mem (fun q => ne (ok.ci _ _ c hoc ((show c₂ = c from q) ▸ a2) hc)) a3) a4
 ·obtain ⟨c₂, o₂, v₂, h2, h3, h4⟩ := S.vars.cells y hy hoc'
  by_cases q : c₂ = c
  ·exact ⟨c₂, o', _, h2, q ▸ hin, hd'⟩
  ·exact ⟨c₂, o₂, v₂, h2, old_mem1 q h3, h4⟩
 ·obtain ⟨o₂, m₂, ho₂, hn⟩ := S.vars.ns hne
  exact ⟨o₂, m₂, old_mem1 (away _ _ ho₂ hn) ho₂, hn⟩
theorem g_asg {x : Str} {p : Pos} {Q : QF} (h : G C (eval e C.env) M own J X (AsgK C x X Q)) (hs : swapsWith e (some (.Name x p)) pos.line C.env = pure false) :
  G C (exec (.Assign [.Name x p] e pos) C.env) M own J X Q := .mk fun ok s m loc S =>
 wpAny_Assign_Name (h.use ok S rfl fun _ _ p => Post.go p ok (fun _ _ _ q => q) fun _ _ x => x) hs
theorem g_attr {at' : Str} (h : G C (eval e C.env) M own J X (AttrK C at' X Q)) (he : eval (.Attribute e at' pos) C.env = (do
   let o ← eval e C.env
   standAt pos.atName
   let r ← holding [o] (getAttr o at' true)
   letTemporaryGo e o r
   pure r)) : G C (eval (.Attribute e at' pos) C.env) M own J X Q := .mk fun ok s m loc S =>
 Attribute_any_ (h.use ok S rfl fun _ _ p => Post.go p ok (fun _ _ _ q => q) fun _ _ x => x) he
theorem g_own {x c : Addr} {es : List DictEntry} {k : Nat} {n : Str} {at' : Option Value} (h1 : (x, instObj c dx) ∈ own ++ J) (h2 : (dx, dictOf es k) ∈ own ++ J) (hg : plainGet (Kf C.w.params) c n = true) (hh : hasDictIn (Kf C.w.params) c = true)
  (ha : findIn (Kf C.w.params) (.ref c) n = some at') (hn : noGet (Kf C.w.params) at' = true) (hl : getL n es = some (some v)) (hv : handedIn v = true) (h : Q v M own J) :
  G C (getAttr (.ref x) n true) M own J X Q := .mk fun ok s m loc S =>
 get_own S.fr ok.frag (InstAt.of_news S.news (mR (mR h1)) (mR (mR h2))) hg hh ha hn hl hv (Post.mk' S h)
theorem g_meth {x c f : Addr} {es : List DictEntry} {k : Nat} {n : Str} {Q : Value × List Value → Loc → Led → Led → Prop} (h1 : (x, instObj c dx) ∈ own ++ J) (h2 : (dx, dictOf es k) ∈ own ++ J) (hg : plainGet (Kf C.w.params) c n = true)
  (hf : findIn (Kf C.w.params) (.ref c) n = some (some (.ref f))) (ht : isFn (Kf C.w.params) (.ref f) = true) (hl : getL n es = some none) (h : Q (.ref f, [.ref x]) M own J) :
  G C (getMethod (.ref x) n pl) M own J X Q := .mk fun ok s m loc S =>
 method_inst S.fr ok.frag (InstAt.of_news S.news (mR (mR h1)) (mR (mR h2))) hg hf ht hl (Post.of S h)
theorem g_call {f : Expr} (h : G C (eval f C.env) M own J X (CallK C pos (e :: rest) X Q))
  (he : eval (.Call f (e :: rest) [] pos) C.env = (do callWith pos (← eval f C.env) [] (backTo pos (starEach (e :: rest) C.env)) (backToKw pos (keywordEach [] C.env))) )
  (he2 : starEach (e :: rest) C.env = (false, eval e C.env) :: starEach rest C.env ) (hp : (backTo pos (starEach rest C.env)).any (·.1) = false ) : G C (eval (.Call f (e :: rest) [] pos) C.env) M own J X Q := .mk fun ok s m loc S => by
 refine Call_ (h.use ok S rfl fun fv s' p => ?_) he
 refine Post.elim p fun h1 tk M' o' J' m' loc' S' hqz => ?_
 obtain ⟨hk, q⟩ := hqz
 refine callWith_ok ok.frag hk (q.use ok S' rfl fun vs s'' p => ?_) he2 hp
 refine ⟨?_, Post.go p ok (fun _ _ _ q => q) fun _ _ x => x⟩
 refine Post.elim p fun h1 tk M' o' J' m' loc' S' q => ?_
 exact S'.frag ok
theorem g_call0 {f : Expr} (h : G C (eval f C.env) M own J X (Call0K C X Q))
  (he : eval (.Call f [] [] pos) C.env = (do callWith pos (← eval f C.env) [] (backTo pos (starEach [] C.env)) (backToKw pos (keywordEach [] C.env))) ) : G C (eval (.Call f [] [] pos) C.env) M own J X Q := .mk fun ok s m loc S => by
 refine Call_ (h.use ok S rfl fun fv s' p => ?_) he
 refine Post.elim p fun h1 tk M' o' J' m' loc' S' hqz => ?_
 obtain ⟨hk, q⟩ := hqz
 exact callWith_ok0 (S'.frag ok) hk (q.use ok S' rfl fun _ _ x => x)
noncomputable def AfterM (C : Cx) (pos : Pos) (args : List Expr) (X : XP) (Q : QV) (fx : Value × List Value) (M : Loc) (own J : Led) : Prop :=
 okMeth (Kf C.w.params) fx.1 = true ∧ G C (spliced (backTo pos (starEach args C.env))) M own J X (fun vs M' o' J' => G C (call fx.1 (fx.2 ++ vs)) M' o' J' X Q)
theorem afterM {x : Value} (hk : okMeth (Kf C.w.params) f = true) (h : G C (spliced (backTo pos (starEach args C.env))) M own J X (CallM C f x X Q)) : AfterM C pos args X Q (f, [x]) M own J := ⟨hk, h⟩
noncomputable def AfterM0 (C : Cx) (X : XP) (Q : QV) (fx : Value × List Value) (M : Loc) (own J : Led) : Prop :=
 okMeth (Kf C.w.params) fx.1 = true ∧ G C (call fx.1 (fx.2 ++ [])) M own J X Q
theorem afterM0 {x : Value} (hk : okMeth (Kf C.w.params) f = true) (h : G C (call f [x]) M own J X Q) : AfterM0 C X Q (f, [x]) M own J := ⟨hk, h⟩
theorem g_mcall {o : Expr} {n : Str} {ap : Pos} (h : G C (eval o C.env) M own J X (MethK C n pl X (AfterM C pos (e :: rest) X Q)))
  (he : eval (.Call (.Attribute o n ap) (e :: rest) [] pos) C.env = (do
   let ov ← eval o C.env
   standAt ap.atName
   let (f, first) ← holding [ov] (getMethod ov n pl)
   callWith pos f first (backTo pos (starEach (e :: rest) C.env)) []) )
  (he2 : starEach (e :: rest) C.env = (false, eval e C.env) :: starEach rest C.env ) (hp : (backTo pos (starEach rest C.env)).any (·.1) = false ) : G C (eval (.Call (.Attribute o n ap) (e :: rest) [] pos) C.env) M own J X Q := .mk fun ok s m loc S => by
 refine MethodCall_ (pl := pl) (h.use ok S rfl fun ov s' p => Post.go p ok (fun _ _ _ q => q) fun fx s' p => ?_) he
 refine Post.elim p fun h1 tk M' o' J' m' loc' S' hqz => ?_
 obtain ⟨hk, q⟩ := hqz
 refine callWith_okm ok.frag hk (q.use ok S' rfl fun vs s'' p => ?_) he2 hp
 refine ⟨?_, Post.go p ok (fun _ _ _ q => q) fun _ _ x => x⟩
 refine Post.elim p fun h1 tk M' o' J' m' loc' S' q => ?_
 exact S'.frag ok
theorem g_mcall0 {o : Expr} {n : Str} {ap : Pos} (h : G C (eval o C.env) M own J X (MethK C n pl X (AfterM0 C X Q)))
  (he : eval (.Call (.Attribute o n ap) [] [] pos) C.env = (do
   let ov ← eval o C.env
   standAt ap.atName
   let (f, first) ← holding [ov] (getMethod ov n pl)
   callWith pos f first (backTo pos (starEach [] C.env)) []) ) : G C (eval (.Call (.Attribute o n ap) [] [] pos) C.env) M own J X Q := .mk fun ok s m loc S => by
 refine MethodCall_ (pl := pl) (h.use ok S rfl fun ov s' p => Post.go p ok (fun _ _ _ q => q) fun fx s' p => ?_) he
 refine Post.elim p fun h1 tk M' o' J' m' loc' S' hqz => ?_
 obtain ⟨hk, q⟩ := hqz
 exact callWith_okm0 (S'.frag ok) hk (q.use ok S' rfl fun _ _ x => x)
end
noncomputable abbrev XR := Led → Led → Prop
noncomputable def noR : XR := fun _ _ => False
theorem cells_from (names : List (Str × NameKind)) : ∀ (n : Nat) (acc : List (Str × Addr)), (∀ p ∈ acc, p.2 < n) → (acc.map (·.2)).Nodup →
  ((cellsFrom n names acc).map (·.2)).Nodup ∧ ∀ p ∈ cellsFrom n names acc, p ∈ acc ∨ n ≤ p.2 := by
 induction names with
 | nil => exact fun n acc h1 h2 => ⟨h2, fun p hp => .inl hp⟩
 | cons y r ih =>
  intro n acc h1 h2
  obtain ⟨y, k⟩ := y
  show ((if (k == NameKind.cell) = true then _ else _ : List (Str × Addr)).map _).Nodup ∧ ∀ p ∈ (if (k == NameKind.cell) = true then _ else _ : List (Str × Addr)), _
  split
  ·obtain ⟨a, b⟩ := ih (n + 1) ((y, n) :: acc) (fun p hp => (List.mem_cons.mp hp).elim (fun e => e ▸ Nat.lt_succ_self _) fun hp => Nat.lt_succ_of_lt (h1 p hp))
    (List.nodup_cons.mpr ⟨fun hm => (List.mem_map.mp hm).elim fun p hp => Nat.lt_irrefl n (show n < n from (show p.2 = n from hp.2) ▸ h1 p hp.1), h2⟩)
   exact ⟨a, fun p hp => (b p hp).elim (fun q => (List.mem_cons.mp q).elim (fun e => .inr (e ▸ Nat.le_refl _)) .inl) fun q => .inr (Nat.le_of_succ_le q)⟩
  ·exact ih n acc h1 h2
theorem cells_are {cm : Str → Option Value} {cells : Led} (p : CellsAre cm cl cells) : cells.map (·.1) = cl.map (·.2) ∧ ∀ x c, cl.lookup x = some c → ∃ o, (c, o) ∈ cells ∧ o.data = .cell (cm x) := by
 induction p with
 | nil => exact ⟨rfl, fun _ _ h => nomatch h⟩
 | @cons n c o _ _ hd r ih =>
  obtain ⟨a, b⟩ := ih
  refine ⟨congrArg (c :: ·) a, fun x c' h => ?_⟩
  rcases look_cons h with ⟨rfl, rfl⟩ | ⟨_, h⟩
  ·exact ⟨o, .head _, hd⟩
  ·obtain ⟨o', h1, h2⟩ := b x c' h
   exact ⟨o', .tail _ h1, h2⟩
theorem cells_ge {cm : Str → Option Value} {names : List (Str × NameKind)} {cells : Led} (Y : CellsAre cm (cellsFrom n names []) cells) : (cells.map (·.1)).Nodup ∧ ∀ p ∈ cells, n ≤ p.1 := by
 obtain ⟨cn, cge⟩ := cells_from names n [] (fun _ h => nomatch h) List.nodup_nil
 have ce := (cells_are Y).1
 refine ⟨ce ▸ cn, fun p hp => ?_⟩
 have hm : p.1 ∈ cells.map (·.1) := List.mem_map_of_mem hp
 rw [ce] at hm
 obtain ⟨q, hq, e⟩ := List.mem_map.mp hm
 exact (cge q hq).elim (fun z => nomatch z) fun z => e ▸ z
theorem nodup_inj {c : Addr} {l : List (Str × Addr)} (nd : (l.map (·.2)).Nodup) (hx : l.lookup x = some c) (hy : l.lookup y = some c) : x = y := by
 induction l with
 | nil => cases hx
 | cons p r ih =>
  obtain ⟨n1, n2⟩ := List.nodup_cons.mp nd
  rcases look_cons hx with ⟨rfl, rfl⟩ | ⟨_, hx⟩
  ·exact (look_cons hy).elim (fun h => h.1.symm) fun h => absurd (List.mem_map.mpr ⟨_, look_mem h.2, rfl⟩) n1
  ·exact (look_cons hy).elim (fun h => absurd (List.mem_map.mpr ⟨_, look_mem hx, h.2.symm⟩) n1) fun h => ih n2 hx h.2
theorem bindL_is {k : Str → Option NameKind} (binds : List (Str × Value)) : ∀ (m : Str → Option Value), k x = some .local → bindL k binds m x = ((binds.reverse.lookup x) <|> m x) := by
 induction binds with
 | nil => exact fun _ _ => rfl
 | cons p r ih =>
  obtain ⟨n, v⟩ := p
  intro m hk
  show bindL k r _ x = _
  rw [ih _ hk, List.reverse_cons, List.lookup_append]
  cases r.reverse.lookup x with
  | some u => rfl
  | none =>
   show (if _ then _ else _ : Str → Option Value) x = (List.lookup x [(n, v)] <|> m x)
   rw [List.lookup_cons]
   cases e : x == n with
   | true =>
    have e' := beq_iff_eq.mp e
    subst e'
    rw [if_pos hk]; exact if_pos rfl
   | false =>
    have e' : x ≠ n := fun h => (nomatch e.symm.trans (beq_iff_eq.mpr h))
    by_cases hk2 : k n = some .local
    ·rw [if_pos hk2]; exact if_neg e'
    ·rw [if_neg hk2]; rfl
theorem bindC_is {k : Str → Option NameKind} (binds : List (Str × Value)) : ∀ (m : Str → Option Value), k x = some .cell → bindC k binds m x = ((binds.reverse.lookup x) <|> m x) := by
 induction binds with
 | nil => exact fun _ _ => rfl
 | cons p r ih =>
  obtain ⟨n, v⟩ := p
  intro m hk
  show bindC k r _ x = _
  rw [ih _ hk, List.reverse_cons, List.lookup_append]
  cases r.reverse.lookup x with
  | some u => rfl
  | none =>
   show (if _ then _ else _ : Str → Option Value) x = (List.lookup x [(n, v)] <|> m x)
   rw [List.lookup_cons]
   cases e : x == n with
   | true =>
    have e' := beq_iff_eq.mp e
    subst e'
    rw [if_neg (by rw [hk]; exact fun h => nomatch h)]; exact if_pos rfl
   | false =>
    have e' : x ≠ n := fun h => (nomatch e.symm.trans (beq_iff_eq.mpr h))
    by_cases hk2 : k n = some .local
    ·rw [if_pos hk2]; rfl
    ·rw [if_neg hk2]; exact if_neg e'
theorem mem_of_reverse_lookup {l : List (Str × Value)} (h : l.reverse.lookup x = some v) : (x, v) ∈ l := List.mem_reverse.mp (look_mem h)
noncomputable def frOK (C : Cx) (A' : Around) (d u : Nat) : Prop := A'.frames = C.A.frames ∧ A'.handled = C.A.handled ∧ A'.guards = C.A.guards ∧ A'.depth + d < recursionLimit ∧ A'.units + u < cLine
noncomputable abbrev calleeCx (C : Cx) (A' : Around) (env' : Env) (g : Heap) (L' : Addr) (loc : Led) (d u : Nat) : Cx := { w := C.w, mg := C.mg, mb := C.mb, mean := C.mean, A := A'.deeper env', env := env', fe := env', outer := C.fe :: C.outer, A₀ := A', base := C.base, h₀ := g, L := L', fr := loc ++ C.fr, dl := d - 1, ul := u - 3, hn := C.hn, fm := none, oc := allOc }
theorem enter_in (ok : C.Ok) {s : Shared} {own : Led} (S : St C M own J s.heap m loc) {A' : Around} {d u : Nat} (hA : frOK C A' d u) (hd : 1 ≤ d) (hu : 3 ≤ u)
  {scope : Scope} {f : Addr} (hkind : (binds.all fun y => scope.names.lookup y.1 == some .local || scope.names.lookup y.1 == some .cell) = true) (hk : scope.kind = .function)
  {g : Heap} {L' : Addr} {h₁ : Heap} {cells : Led} (F' : Fr g L' h₁ (bindL (envOfC qual scope L' f cdv).kindOf binds fun _ => none)) (N' : News g L' h₁ (cells ++ St.all C own J loc)) (Y' : CellsAre (bindC (envOfC qual scope L' f cdv).kindOf binds fun _ => none) (cellsFrom (L' + 1) scope.names []) cells)
  (B' : Below A' C.base (C.fe :: C.outer) g) (X' : (Kf C.w.params).In g) (T' : Top topProg lo C.mean C.mg C.mb g) (l1 : ∀ p ∈ St.all C own J loc, p.1 < L') :
  (calleeCx C A' (envOfC qual scope L' f cdv) g L' loc d u).Ok ∧ St (calleeCx C A' (envOfC qual scope L' f cdv) g L' loc d u) binds.reverse own J h₁ (bindL (envOfC qual scope L' f cdv).kindOf binds fun _ => none) cells := by
 obtain ⟨hA1, hA2, hA5, hA3, hA4⟩ := hA
 let env' := envOfC qual scope L' f cdv
 let C' : Cx := calleeCx C A' env' g L' loc d u
 have cn := (cells_from scope.names (L' + 1) [] (fun _ h => nomatch h) List.nodup_nil).1
 have cl := (cells_are Y').2
 have ok' : C'.Ok := {
  below := B'
  stack := Around.frames_deeper (hA1.trans ok.stack)
  fl := rfl
  fk := hk
  ek := hk
  eg := rfl
  eb := rfl
  ci := fun x y c _ hx hy => nodup_inj cn hx hy
  frag := X'
  top := T'
  hd := hA2.trans ok.hd
  fm := fun _ => rfl
  hx := fun p hp => ⟨mR (ok.hx p hp).1, (ok.hx p hp).2⟩
  dep := sb1 hA3 (Nat.le_refl 1) hd
  uni := sb1 hA4 (Nat.le_refl 3) hu
  fragB := ok.fragB
  topB := ok.topB
  gd := hA5.trans ok.gd }
 have S' : St C' binds.reverse own J h₁ (bindL (envOfC qual scope L' f cdv).kindOf binds fun _ => none) cells := by
  refine ⟨F', ?_, ?_, ⟨fun x v hx => ?_, fun x q' _ => ?_, fun _ e => (nomatch e), fun e => absurd rfl e⟩⟩
  ·show News g L' h₁ (cells ++ ((loc ++ C.fr) ++ (own ++ J)))
   rw [List.append_assoc]; exact N'
  ·show Apart (cells ++ ((loc ++ C.fr) ++ own)) J
   rw [List.append_assoc]
   exact S.apart.above (cells_ge Y').1 (fun p hp => Nat.le_of_succ_le ((cells_ge Y').2 p hp)) (fun q hq => l1 q (mem_all_own hq)) fun q hq => l1 q (mem_all_ice hq)
  ·rcases Bool.or_eq_true_iff.mp (List.all_eq_true.mp hkind _ (mem_of_reverse_lookup hx)) with q | q
   ·have q' : scope.names.lookup x = some .local := beq_iff_eq.mp q
    refine .own q' rfl ?_
    rw [bindL_is binds _ q', hx]; rfl
   ·have q' : scope.names.lookup x = some .cell := beq_iff_eq.mp q
    obtain ⟨c, hc⟩ := Option.isSome_iff_exists.mp (cellsFrom_some (x := x) scope.names (L' + 1) [] (.inl q'))
    obtain ⟨o, h1, h2⟩ := cl x c hc
    refine .cell c o false q' hc (mL h1) (h2.trans (congrArg Data.cell ?_))
    rw [bindC_is binds _ q', hx]; rfl
  ·obtain ⟨c, hc⟩ := Option.isSome_iff_exists.mp (cellsFrom_some (x := x) scope.names (L' + 1) [] (.inl q'))
   obtain ⟨o, h1, h2⟩ := cl x c hc
   exact ⟨c, o, _, hc, h1, h2⟩
 exact ⟨ok', S'⟩
theorem left_apart {fr fr' loc' o' : Led} (hfr : fr' = loc ++ fr) (A : Apart (loc' ++ (fr' ++ o')) J') : Apart (loc ++ (fr ++ o')) J' := by
 rw [hfr, List.append_assoc] at A
 rw [Apart, List.map_append] at A
 exact ⟨(List.nodup_append.mp A.1).2.1, fun p hp => A.2 p (mR hp)⟩
theorem leave_ok {own o' loc' : Led} {h : Heap} {m' : Str → Option Value} (S : St C M own J h m loc) (hfr : C'.fr = loc ++ C.fr) (S' : St C' M' o' J' h' m' loc') :
  (∀ p ∈ St.all C o' J' loc, p ∈ St.all C' o' J' loc') ∧ (Fr C.h₀ C.L h' m → News C.h₀ C.L h' (St.all C o' J' loc) → St C M o' J' h' m loc) := by
 refine ⟨fun p hp => ?_, fun F N => ⟨F, N, left_apart hfr S'.apart, S.vars⟩⟩
 show p ∈ loc' ++ (C'.fr ++ (o' ++ J'))
 rw [hfr, List.append_assoc]
 exact mR hp
theorem leave_x (ok : C.Ok) {own o' loc' : Led} {h h₂ B : Heap} {m' : Str → Option Value} {ea : Addr} {tr : Bool} (S : St C M own J h m loc) (hfr : C'.fr = loc ++ C.fr) (hout : C'.outer = C.fe :: C.outer) (FG : Fr C.h₀ C.L C'.h₀ m)
  (x : XAt C' M' o' J' h' ea tr B m' loc') (e₂ : Exc B C'.outer ea true h₂) (u₂ : h'.UpToSlots h₂) : XAt C M o' J' h₂ ea true B m loc := by
 have fL : C.L ∈ C'.outer.filterMap (·.frame) := by rw [hout]; exact List.mem_filterMap.mpr ⟨C.fe, .head _, ok.fl⟩
 have fO : ∀ b, b ∈ C.outer.filterMap (·.frame) → b ∈ C'.outer.filterMap (·.frame) := fun b hb => by
  obtain ⟨en, h1, h2⟩ := List.mem_filterMap.mp hb
  rw [hout]; exact List.mem_filterMap.mpr ⟨en, .tail _ h1, h2⟩
 have fI : ∀ b, b ∈ C'.outer.filterMap (·.frame) → b = C.L ∨ b ∈ C.outer.filterMap (·.frame) := fun b hb => by
  obtain ⟨en, h1, h2⟩ := List.mem_filterMap.mp hb
  rw [hout] at h1
  rcases List.mem_cons.mp h1 with rfl | h1
  ·rw [ok.fl] at h2; exact .inl (Option.some.inj h2).symm
  ·exact .inr (List.mem_filterMap.mpr ⟨en, h1, h2⟩)
 obtain ⟨oL, es, ep, hL, hLd, hLk, hLf⟩ := FG.ns
 obtain ⟨sl, hLh⟩ := x.fram C.L oL hL fL
 have L0 : C.h₀.get? C.L = none := kts_self FG
 have sub : ∀ p ∈ loc ++ (C.fr ++ (o' ++ J')), p ∈ loc' ++ (C'.fr ++ (o' ++ J')) := fun p hp => by
  rw [hfr, List.append_assoc]
  exact mR hp
 exact {
  ns := u₂.ns ⟨_, es, ep, hLh, hLd, hLk, hLf⟩
  above := S.fr.above
  fram := fun b o hb hm => by
   obtain ⟨sl, hs⟩ := x.fram b o (FG.keep b o hb) (fO b hm)
   obtain ⟨_, o₁, ho₁, hd₁⟩ := ok.below.frames.mem hm
   rw [hb] at ho₁; cases ho₁
   obtain ⟨sl', hs'⟩ := u₂ _ _ hs hd₁
   exact ⟨sl', hs'⟩
  keep := fun b o hb hm => x.keep b o (FG.keep b o hb) fun hm' => (fI b hm').elim (fun e => by rw [e, L0] at hb; cases hb) hm
  led := fun p hp => by
   obtain ⟨r1, r2, r3⟩ := x.led p (sub p hp)
   refine ⟨r1, (fun e => by rw [e, hL] at r3; cases r3), ?_⟩
   cases z : C.h₀.get? p.1 with
   | none => rfl
   | some o => rw [FG.keep _ _ z] at r3; cases r3
  apart := left_apart hfr x.apart
  vars := S.vars
  exc := by rw [hout] at e₂; exact e₂
  ea0 := by
   cases z : C.h₀.get? ea with
   | none => rfl
   | some o => have := x.ea0; rw [FG.keep _ _ z] at this; cases this }
theorem enter (ok : C.Ok) {s : Shared} {own : Led} (S : St C M own J s.heap m loc) {A' : Around} {d u : Nat} (hA : frOK C A' d u) (hd : 1 ≤ d) (hu : 3 ≤ u)
  {name : Str} {scope : Scope} {oc : Value} {f : Addr} {vs : List Value} {RR : Result → Shared → Prop} {R : Value → Led → Led → Prop}
  (ho : (Kf C.w.params).lookup f = some ⟨oc, od, .func (fnOf name qual params bod scope dV kV doc pm an cdv ct), osl⟩) (hcd : codeIn (Kf C.w.params) cdv qual = true)
  (hbind : ∀ s', (Kf C.w.params).In s'.heap → BindsTo s' (fnOf name qual params bod scope dV kV doc pm an cdv ct) ⟨vs, []⟩ binds)
  (hkind : (binds.all fun y => scope.names.lookup y.1 == some .local || scope.names.lookup y.1 == some .cell) = true)
  (hnd : ((cellsFrom 0 scope.names []).map (·.1)).Nodup) (hco : scope.isCoroutine = false) (hgen : scope.isGenerator = false) (hk : scope.kind = .function)
  (X₀ : XR) (body : ∀ C' : Cx, C'.w = C.w → C'.env.scope = scope → C'.env.locals = C'.L → C'.dl = d - 1 → C'.ul = u - 3 → C'.hn = C.hn → C'.env = C'.fe → C'.oc = allOc →
   G C' (execs bod C'.env) binds.reverse own J (fun _ o' J' => X₀ o' J') (fun fl M' o' J' => R (match fl with | .ret v => v | _ => .none) o' J'))
  (k : ∀ v s', Post C s (fun v M' o' J' => M' = M ∧ R v o' J') v s' → RR (.ok (.ret v)) s')
  (kx : ∀ e s', PostX C s (fun M' o' J' => M' = M ∧ X₀ o' J') e s' → RR (.error e) s') : codeAny (model prog C.w) A' (.call (.ref f) ⟨vs, []⟩) RR s := by
 obtain ⟨hA1, hA2, hA5, hA3, hA4⟩ := hA
 refine code_defC ok.below S.fr ok.frag S.news ok.top (hA1.trans ok.stack) ok.fl ok.fk ho hcd (Nat.lt_of_le_of_lt (Nat.le_add_right _ d) hA3) (hbind s (S.frag ok)) hkind hnd (fun g L' h₁ tk cells FG F' N' Y' B' X' T' l1 => ?_) hco hgen hk
 let env' := envOfC qual scope L' f cdv
 let C' : Cx := calleeCx C A' env' g L' loc d u
 obtain ⟨ok', S'⟩ := enter_in ok S ⟨hA1, hA2, hA5, hA3, hA4⟩ hd hu hkind hk F' N' Y' B' X' T' l1
 refine wpAny_mono ((body C' rfl rfl rfl rfl rfl rfl rfl rfl).go ok' { s with heap := h₁, toks := tk } _ _ S') (fun fl s' p => ?_) fun e s' p => ?_
 ·refine Post.elim p fun h' tk' M' o' J' m' loc' S'' q => ?_
  obtain ⟨sub, mk⟩ := leave_ok (C' := C') S rfl S''
  exact ⟨L', m', St.all C o' J' loc, S''.fr, fun p hp => S''.news p (sub p hp), fun F'' N'' => k _ _ ⟨h', tk', M, o', J', m, loc, rfl, mk F'' N'', rfl, q⟩⟩
 ·obtain ⟨h', tk', M', o', J', rfl, ⟨ea, tr, B, m', loc', rfl, x⟩, q⟩ := p
  refine x_leave (s := { s with heap := h', toks := tk' }) ok'.stack ok'.fl x.exc fun h₂ e₂ u₂ => ?_
  exact kx _ _ ⟨h₂, tk', M, o', J', rfl, ⟨ea, true, B, m, loc, rfl, leave_x (C' := C') ok S rfl rfl FG x e₂ u₂⟩, rfl, q⟩
noncomputable def RunB (hh : Bool) (w : World) (D U : Nat) (f : Value) (vs : List Value) (own J : Led) (X : XR) (R : Value → Led → Led → Prop) : Prop :=
 ∀ C : Cx, C.w = w → D ≤ C.dl → U ≤ C.ul → (hh = false → C.hn = none) → ∀ M, G C (call f vs) M own J (fun M' o' J' => M' = M ∧ X o' J') (fun r M' o' J' => M' = M ∧ R r o' J')
noncomputable abbrev Run := RunB false
theorem run_def {w : World} {D : Nat} (hD : 1 ≤ D) (hU : 3 ≤ U) {own : Led} {X : XR}
  {name : Str} {scope : Scope} {oc : Value} {f : Addr} {vs : List Value} {R : Value → Led → Led → Prop}
  (ho : (Kf w.params).lookup f = some ⟨oc, od, .func (fnOf name qual params bod scope dV kV doc pm an cdv ct), osl⟩) (hcd : codeIn (Kf w.params) cdv qual = true)
  (hbind : ∀ s', (Kf w.params).In s'.heap → BindsTo s' (fnOf name qual params bod scope dV kV doc pm an cdv ct) ⟨vs, []⟩ binds)
  (hkind : (binds.all fun y => scope.names.lookup y.1 == some .local || scope.names.lookup y.1 == some .cell) = true)
  (hnd : ((cellsFrom 0 scope.names []).map (·.1)).Nodup) (hco : scope.isCoroutine = false) (hgen : scope.isGenerator = false) (hk : scope.kind = .function)
  (body : ∀ C' : Cx, C'.w = w → C'.env.scope = scope → C'.env.locals = C'.L → D ≤ C'.dl + 1 → U ≤ C'.ul + 3 → (hh = false → C'.hn = none) → C'.env = C'.fe → C'.oc = allOc →
   ∀ Xf : XP, (∀ M' o' J', X o' J' → Xf M' o' J') → ∀ Qf : QF, (∀ v M' o' J', R v o' J' → Qf (.ret v) M' o' J') → (∀ M' o' J', R .none o' J' → Qf .next M' o' J') → (∀ v M' x o' J', R v o' (x :: J') → Qf (.ret v) M' (x :: o') J') → G C' (execs bod C'.env) binds.reverse own J Xf Qf) : RunB hh w D U (.ref f) vs own J X R := by
 intro C hw hD' hU' hn M
 refine .mk fun ok s m loc S => ?_
 subst hw
 refine wpAny_call (enter ok S (d := C.dl) (u := C.ul) (R := fun v o' J' => R v o' J' ∨ ∃ x o₁, o' = x :: o₁ ∧ R v o₁ (x :: J')) ⟨rfl, rfl, rfl, ok.dep, ok.uni⟩ (Nat.le_trans hD hD') (Nat.le_trans hU hU') ho hcd hbind hkind hnd hco hgen hk X
  (fun C' h1 h2 h3 h4 h5 h6 h7 h8 => body C' h1 h2 h3 (sb2 h4 hD') (sb2 h5 hU') (fun e => h6.trans (hn e)) h7 h8 _ (fun _ _ _ q => q) _ (fun _ _ _ _ q => .inl q) (fun _ _ _ q => .inl q) (fun _ _ x o' _ q => .inr ⟨x, o', rfl, q⟩)) (fun v s' p => ?_) fun e s' p => ?_)
 ·refine Post.elim p fun a1 a2 a3 a4 a5 a6 a7 S3 hqz => ?_
  obtain ⟨rfl, q | ⟨x, o₁, rfl, q⟩⟩ := hqz
  ·exact ⟨a1, a2, _, a4, a5, a6, a7, rfl, S3, rfl, q⟩
  ·exact ⟨a1, a2, _, _, _, a6, a7, rfl, St.freeze (l1 := []) S3, rfl, q⟩
 ·exact p
theorem bnd {fd : FuncData} {a : Args} (binds : List (Str × Value)) (h : bindArgs fd a = pure binds) : bindArgs fd a = pure binds := h
noncomputable def defOk (sc : Scope) (bs : List (Str × Value)) : Bool := bs.all (fun y => sc.names.lookup y.1 == some .local || sc.names.lookup y.1 == some .cell) && (decide ((cellsFrom 0 sc.names []).map (·.1)).Nodup && (!sc.isCoroutine && (!sc.isGenerator && sc.kind == .function)))
theorem run_defR {w : World} {D : Nat} (hD : Nat.ble 1 D = true) (hU : Nat.ble 3 U = true) {own : Led} {X : XR}
  {name : Str} {scope : Scope} {oc : Value} {f : Addr} {vs : List Value} {R : Value → Led → Led → Prop}
  (ho : (Kf w.params).lookup f = some ⟨oc, od, .func (fnOf name qual params bod scope dV kV doc pm an cdv ct), osl⟩) (hcd : codeIn (Kf w.params) cdv qual = true)
  (hbind : bindArgs (fnOf name qual params bod scope dV kV doc pm an cdv ct) ⟨vs, []⟩ = pure binds) (hc : defOk scope binds = true)
  (body : ∀ C' : Cx, C'.w = w → C'.env.scope = scope → C'.env.locals = C'.L → D ≤ C'.dl + 1 → U ≤ C'.ul + 3 → C'.hn = none → C'.env = C'.fe → C'.oc = allOc →
   ∀ (Xf : XP) (Qf : QF), (∀ v M' o' J', R v o' J' → Qf (.ret v) M' o' J') → G C' (execs bod C'.env) binds.reverse own J Xf Qf) : Run w D U (.ref f) vs own J X R := by
 obtain ⟨c1, c2⟩ := Bool.and_eq_true_iff.mp hc
 obtain ⟨c2, c3⟩ := Bool.and_eq_true_iff.mp c2
 obtain ⟨c3, c4⟩ := Bool.and_eq_true_iff.mp c3
 obtain ⟨c4, c5⟩ := Bool.and_eq_true_iff.mp c4
 exact run_def (Nat.le_of_ble_eq_true hD) (Nat.le_of_ble_eq_true hU) ho hcd (fun _ _ => BindsTo.of_eq hbind) c1 (of_decide_eq_true c2) (by simpa using c3) (by simpa using c4) (by simpa using c5)
  fun C' h1 h2 h3 h4 h5 h6 h7 h8 Xf _ Qf hret _ _ => body C' h1 h2 h3 h4 h5 (h6 rfl) h7 h8 Xf Qf hret
theorem run_cls {w : World} {D : Nat} (hD : 2 ≤ D) (hU : 40 ≤ U) {own : Led}
  {name : Str} {scope : Scope} {oc : Value} {cls f : Addr} {vs : List Value} {binds : Addr → List (Str × Value)} {R : Value → Led → Led → Prop}
  (hm : makesIn (Kf w.params) cls = true) (hi : findIn (Kf w.params) (.ref cls) "__init__" = some (some (.ref f))) (hf : isFn (Kf w.params) (.ref f) = true)
  (ho : (Kf w.params).lookup f = some ⟨oc, od, .func (fnOf name qual params bod scope dV kV doc pm an cdv ct), osl⟩) (hcd : codeIn (Kf w.params) cdv qual = true)
  (hbind : ∀ x s', (Kf w.params).In s'.heap → BindsTo s' (fnOf name qual params bod scope dV kV doc pm an cdv ct) ⟨.ref x :: vs, []⟩ (binds x))
  (hkind : ∀ x, ((binds x).all fun y => scope.names.lookup y.1 == some .local || scope.names.lookup y.1 == some .cell) = true)
  (hnd : ((cellsFrom 0 scope.names []).map (·.1)).Nodup) (hco : scope.isCoroutine = false) (hgen : scope.isGenerator = false) (hk : scope.kind = .function)
  (body : ∀ C' : Cx, ∀ x dx, C'.w = w → C'.env.scope = scope → C'.env.locals = C'.L → D ≤ C'.dl + 2 → U ≤ C'.ul + 40 → (hh = false → C'.hn = none) → C'.env = C'.fe → C'.oc = allOc →
   ∀ Qf : QF, (∀ M' l o₁ o₂ own' J', R (.ref x) (l ++ own') ((dx, o₂) :: (x, o₁) :: J') → Qf .next M' (l ++ (x, o₁) :: (dx, o₂) :: own') J') → (∀ M' own' J', R (.ref x) own' J' → Qf .next M' own' J') → G C' (execs bod C'.env) (binds x).reverse ((x, instObj cls dx) :: (dx, dictOf [] 0) :: own) J noX Qf) : RunB hh w D U (.ref cls) vs own J noR R := by
 intro C hw hD' hU' hn M
 refine .mk fun ok s m loc S => ?_
 subst hw
 refine call_cls S.fr ok.frag S.news hm hi hf fun x dx h' F' N' l1 l2 => ?_
 have S1 : St C M ((dx, dictOf [] 0) :: own) J h' m loc := S.mine F' (fun p hp => N' p (.tail _ hp)) l1
 have S2 : St C M ((x, instObj cls dx) :: (dx, dictOf [] 0) :: own) J h' m loc := S1.mine F' (fun p hp => N' p (((pullJ (l1 := [])).cons _).mem_iff.mp hp)) fun p hp => (List.mem_cons.mp ((pullJ (l1 := [])).mem_iff.mp hp)).elim (fun e => e ▸ l2) fun q => Nat.lt_trans (l1 p q) l2
 refine enter (s := { s with heap := h' }) (A' := C.A.under (.builtin "type.__call__" ⟨.ref cls :: vs, []⟩)) (RR := InitBack x _) ok S2 (d := C.dl - 1) (u := C.ul - 37) ⟨rfl, rfl, rfl, ?_, ?_⟩ (sb4 (Nat.le_trans hD hD') (Nat.le_refl 2)) (sb4 (Nat.le_trans hU hU') (Nat.le_refl 40)) ho hcd (hbind x) (hkind x) hnd hco hgen hk
  (R := fun v o' J' => v = .none ∧ ((∃ l o₁ o₂ own', o' = l ++ (x, o₁) :: (dx, o₂) :: own' ∧ R (.ref x) (l ++ own') ((dx, o₂) :: (x, o₁) :: J')) ∨ R (.ref x) o' J')) (fun _ _ => False)
  (fun C' h1 h2 h3 h4 h5 h6 h7 h8 => (body C' x dx h1 h2 h3 (sb3 h4 hD' rfl) (sb3 h5 hU' rfl) (fun e => h6.trans (hn e)) h7 h8 _ (fun M' l o₁ o₂ own' J' q => ⟨rfl, .inl ⟨l, o₁, o₂, own', rfl, q⟩⟩) (fun M' o J q => ⟨rfl, .inr q⟩)).mono (fun _ _ _ _ q => q) fun _ _ _ q => q) (fun v s' p => ?_) fun e s' p => ?_
 ·exact sb1 ok.dep (Nat.le_refl 1) (Nat.le_trans (Nat.le_of_succ_le hD) hD')
 ·have := ok.uni
  have e : (C.A.under (.builtin "type.__call__" ⟨.ref cls :: vs, []⟩)).units = C.A.units + 1 := by
   first | rfl | simp [Around.under, Code.cUnits, Code.frames, Code.isFrame]
  rw [e]
  exact sb1 ok.uni (Nat.le_of_ble_eq_true rfl) (Nat.le_trans (Nat.le_trans (Nat.le_of_ble_eq_true rfl : 37 ≤ 40) hU) hU')
 ·refine Post.elim p fun a1 a2 a3 a4 a5 a6 a7 S3 hqz => ?_
  obtain ⟨rfl, q1, ⟨l, o₁, o₂, own', rfl, q2⟩ | q2⟩ := hqz
  ·have S4 := St.freeze (l1 := l) (l2 := (dx, o₂) :: own') S3
   have S5 := St.freeze (l1 := l) (l2 := own') S4
   exact ⟨q1, ⟨a1, a2, _, _, _, a6, a7, rfl, S5, rfl, q2⟩⟩
  ·exact ⟨q1, ⟨a1, a2, _, _, _, a6, a7, rfl, S3, rfl, q2⟩⟩
 ·obtain ⟨_, _, _, _, _, _, _, _, q⟩ := p
  exact q.elim
structure Same (C C' : Cx) : Prop where
 w : C'.w = C.w
 env : C'.env = C.env
 L : C'.L = C.L
 dl : C'.dl = C.dl
 ul : C'.ul = C.ul
 hn : C'.hn = C.hn
 fe : C'.fe = C.fe
 oc : C'.oc = C.oc
 outer : C'.outer = C.outer
noncomputable def TurnQ (Q : QF) (Inv : Loc → Led → Led → Prop) (f : Flow) (M : Loc) (o J : Led) : Prop := match f with
 | .next => Inv M o J
 | .cont => Inv M o J
 | .brk => Q .next M o J
 | .ret v => Q (.ret v) M o J
theorem turnq_next {Inv : Loc → Led → Led → Prop} {M : Loc} {o J : Led} (h : Inv M o J) : TurnQ Q Inv .next M o J := h
theorem turnq_ret {Inv : Loc → Led → Led → Prop} {M : Loc} {o J : Led} (h : Q (.ret v) M o J) : TurnQ Q Inv (.ret v) M o J := h
theorem turnq_brk {Inv : Loc → Led → Led → Prop} {M : Loc} {o J : Led} (h : Q .next M o J) : TurnQ Q Inv .brk M o J := h
noncomputable abbrev BodyK (C : Cx) (body : List Stmt) (X : XP) (K : QF) : Unit → Loc → Led → Led → Prop := fun _ M o J => G C (execs body C.env) M o J X K
noncomputable def ForG (C : Cx) (target : Expr) (body : List Stmt) (xv : Value) (M : Loc) (own J : Led) (X : XP) (Q : QF) : Prop :=
 C.Ok → ∀ s m loc, St C M own J s.heap m loc → wpAny (model prog C.w) C.A (pyIter xv) (fun it s₂ =>
  codeAny (model prog C.w) C.A (.forLoop target it body [] C.env) (fun r s' => match r with | .ok f => Post C s Q f s' | .error e => cameBackBy (model prog C.w) C.A C.env (PostX C s X) e s') s₂) (PostX C s X) s
noncomputable abbrev ForK (C : Cx) (target : Expr) (body : List Stmt) (X : XP) (Q : QF) : QV := fun xv M o J => ForG C target body xv M o J X Q
theorem g_for {C : Cx} {M : Loc} {own J : Led} {iter : Expr} (h : G C (eval iter C.env) M own J X (ForK C target body X Q))
  (hs : ∀ x, foldedSetIterable iter C.env x = pure x) : G C (exec (.For target iter body [] pos) C.env) M own J X Q := .mk fun ok s m loc S => by
 refine wpAny_For (h.use ok S rfl fun xv s' p => ?_) hs
 refine Post.elim p fun h1 tk M' o' J' m' loc' S' q => ?_
 refine wpAny_mono (q ok _ m' loc' S') (fun it s₂ hl => ?_) fun e s' x => x.rebase
 refine codeAny_mono hl fun r s' z => ?_
 cases r with
 | ok f => exact Post.rebase z
 | error e => exact wpAny_mono z (fun _ _ y => PostX.rebase y) fun _ _ y => PostX.rebase y
theorem St.iter {C : Cx} {M : Loc} {own J loc : Led} {h h' : Heap} {m : Str → Option Value} (S : St C M own J h m loc) (hI : ∀ p ∈ St.all C own J loc, p.1 ≠ I) (hL : I ≠ C.L) (h0 : C.h₀.get? I = none)
  (k : ∀ b o, b ≠ I → h.get? b = some o → h'.get? b = some o) : St C M own J h' m loc where
 fr := ⟨S.fr.ns.at' fun o e => k _ o (Ne.symm hL) e, fun b o e => k b o (fun q => by rw [q, h0] at e; cases e) (S.fr.keep b o e), S.fr.above⟩
 news := fun p hp => ⟨k _ _ (hI p hp) (S.news p hp).1, (S.news p hp).2⟩
 apart := S.apart
 vars := S.vars
theorem VarE.map {env : Env} {fr fr' loc : Led} {m : Str → Option Value} (f : ∀ p, p ∈ loc ++ fr → p.2.data = .cell (some v) → p ∈ loc ++ fr') (V : VarE env L fr m loc x v) : VarE env L fr' m loc x v := by
 cases V with
 | own a b c => exact .own a b c
 | ns o m₂ a b c d => exact .ns o m₂ a b c d
 | cell c o b a1 a2 a3 a4 => exact .cell c o b a1 a2 (f _ a3 a4) a4
theorem Vars.hide {C : Cx} {M : Loc} {m : Str → Option Value} {loc : Led} {p : Addr × Obj} (V : Vars C M m loc) : Vars (C.frs (p :: C.fr)) M m loc :=
 ⟨fun x v h => (V.vars x v h).map fun _ a _ => List.perm_middle.mem_iff.mpr (.tail _ a), V.cells, V.fix, V.ns⟩
theorem Vars.unhide {C : Cx} {M : Loc} {m : Str → Option Value} {loc : Led} {p : Addr × Obj} (hp : ∀ v, p.2.data ≠ .cell v) (V : Vars (C.frs (p :: C.fr)) M m loc) : Vars C M m loc :=
 ⟨fun x v h => (V.vars x v h).map fun _ a e => (List.mem_cons.mp (List.perm_middle.mem_iff.mp a)).resolve_left fun z => hp _ ((congrArg (fun p => p.2.data) z).symm.trans e), V.cells, V.fix, V.ns⟩
theorem XSt.unhide {C : Cx} {M : Loc} {own J : Led} {h : Heap} {e : Value} {oI : Obj} (hp : ∀ v, oI.data ≠ .cell v) (x : XSt (C.frs ((I, oI) :: C.fr)) M own J h e) : XSt C M own J h e := by
 obtain ⟨ea, tr, B, m, loc, e, x⟩ := x
 exact ⟨ea, tr, B, m, loc, e, ⟨x.ns, x.above, x.fram, x.keep, fun q hq => x.led q (List.perm_middle.mem_iff.mpr (.tail _ hq)), (x.apart.perm (Y := (I, oI) :: (loc ++ (C.fr ++ own))) List.perm_middle).head.1, x.vars.unhide hp, x.exc, x.ea0⟩⟩
noncomputable def owned (n : String) : Bool := ["enumerate", "zip", "dict_itemiterator", "dict_reverseitemiterator", "odict_iterator", "itertools.zip_longest", "itertools.pairwise"].contains n
inductive Plain (h : Heap) (I : Addr) : Prop
 | mk (o : Obj) (n : String) (vs : Array Value) : h.get? I = some o → o.cls = .type n → o.data = .fields vs → owned n = false → Plain h I
theorem let_any {M : Model} {s : Shared} {Q : Unit → Shared → Prop} (hp : Plain s.heap I) (hQ : Q () s) : wpAny M A (letOwnedTupleGo target (.ref I) v) Q E s := by
 have key : ∀ T, wpAny M A (do
   let o ← load I
   match o.cls, o.data with
   | .type n, .fields vs =>
    if ["enumerate", "zip", "dict_itemiterator", "dict_reverseitemiterator", "odict_iterator", "itertools.zip_longest", "itertools.pairwise"].contains n && vs[0]? == some (rawInt T) then
     rule "for.unpacks-the-owned-tuple"
     updateField I 0 .none
   | _, _ => pure () : Sem Unit) Q E s := fun T => by
  obtain ⟨o, n, vs, ho, hc, hd, hw⟩ := hp
  refine wpAny_bind (wpAny_load ho ?_)
  rw [hc, hd]
  show wpAny M A (if (owned n && _) = true then _ else _) Q E s
  rw [hw]
  exact wpAny_pure hQ
 cases target with
 | Tuple a b c =>
  cases v with
  | ref T => exact key T
  | _ => exact wpAny_pure hQ
 | List a b =>
  cases v with
  | ref T => exact key T
  | _ => exact wpAny_pure hQ
 | _ => exact wpAny_pure hQ
theorem Cx.Ok.hide {C : Cx} {p : Addr × Obj} (ok : C.Ok) : (C.frs (p :: C.fr)).Ok := { ok with hx := fun p hp => ⟨.tail _ (ok.hx p hp).1, (ok.hx p hp).2⟩ }
theorem hide_in {C : Cx} {M : Loc} {own J loc : Led} {h : Heap} {m : Str → Option Value} {oI : Obj} (S2 : St C M own J h m loc) (hoI : h.get? I = some oI) (hL : I ≠ C.L) (h0 : C.h₀.get? I = none) (hI' : ∀ p ∈ St.all C own J loc, p.1 ≠ I) :
  St (C.frs ((I, oI) :: C.fr)) M own J h m loc :=
 ⟨S2.fr, fun p hp => (List.mem_cons.mp (List.perm_middle.mem_iff.mp hp)).elim (fun e => by subst e; exact ⟨hoI, hL, h0⟩) (S2.news p), (S2.apart.cons (fun p hp => hI' p (mem_all_own hp)) fun q hq => hI' q (mem_all_ice hq)).perm List.perm_middle.symm, S2.vars.hide⟩
theorem hide_out {C : Cx} {M : Loc} {own J loc : Led} {h : Heap} {m : Str → Option Value} {oI : Obj} (hIc : ∀ v, oI.data ≠ .cell v) (S4 : St (C.frs ((I, oI) :: C.fr)) M own J h m loc) :
  h.get? I = some oI ∧ (St C M own J h m loc ∧ ∀ p ∈ St.all C own J loc, p.1 ≠ I) :=
 have A := S4.apart.perm (Y := (I, oI) :: (loc ++ (C.fr ++ own))) List.perm_middle
 ⟨(S4.news (I, oI) (List.perm_middle.mem_iff.mpr (.head _))).1, ⟨S4.fr, fun p hp => S4.news p (List.perm_middle.mem_iff.mpr (.tail _ hp)), A.head.1, S4.vars.unhide hIc⟩, fun _ hp => A.all hp⟩
theorem St.iterL {C : Cx} {M : Loc} {own J loc : Led} {h h' : Heap} {m : Str → Option Value} {wr : List Addr} (S : St C M own J h m loc) (hI : ∀ p ∈ St.all C own J loc, p.1 ∉ wr) (hL : C.L ∉ wr) (h0 : ∀ b ∈ wr, C.h₀.get? b = none)
  (k : ∀ b o, b ∉ wr → h.get? b = some o → h'.get? b = some o) : St C M own J h' m loc where
 fr := ⟨S.fr.ns.at' fun o e => k _ o hL e, fun b o e => k b o (fun q => by rw [h0 b q] at e; cases e) (S.fr.keep b o e), S.fr.above⟩
 news := fun p hp => ⟨k _ _ (hI p hp) (S.news p hp).1, (S.news p hp).2⟩
 apart := S.apart
 vars := S.vars
inductive It (C : Cx) (B : Led) (I : Addr) (n : Nat) (P : Nat → Value → Prop) (M : Loc) (own J loc : Led) (m : Str → Option Value) (h : Heap) : Prop
 | mk (fp : List Addr) (Sw : Nat → Heap → Prop) : Walks prog C.w C.A I fp [I] n P Sw → (∀ i h, Sw i h → Plain h I) → St C M own J h m loc → Sw 0 h → (∀ p ∈ St.all C own J loc, p.1 ≠ I) → I ≠ C.L → C.h₀.get? I = none →
  (∀ b ∈ fp, b ≠ I → ∃ o, C.h₀.get? b = some o ∨ (b, o) ∈ C.fr ∨ (b, o) ∈ B) → It C B I n P M own J loc m h
noncomputable def Src (C : Cx) (xv : Value) (own own₁ J B : Led) (n : Nat) (P : Nat → Value → Prop) : Prop :=
 C.Ok → ∀ s M m loc, St C M own J s.heap m loc → ∀ (Q : Value → Shared → Prop) E, (∀ I h tk, It C B I n P M own₁ J loc m h → Q (.ref I) { s with heap := h, toks := tk }) → wpAny (model prog C.w) C.A (pyIter xv) Q E s
section
variable {C : Cx} {M M' : Loc} {own J own' J' loc loc' B H : Led} {m m' : Str → Option Value} {h h' : Heap} {b : Addr} {o : Obj}
theorem St.keeps (S : St C M own J h m loc) (S' : St C M' own' J' h' m' loc') (z : ∃ o, C.h₀.get? b = some o ∨ (b, o) ∈ C.fr ∨ (b, o) ∈ B) (j : ∀ p ∈ B, p ∈ own ++ J) (j' : ∀ p ∈ B, p ∈ own' ++ J') (e : h.get? b = some o) : h'.get? b = some o := by
 obtain ⟨o₂, q | q | q⟩ := z
 ·exact (S'.fr.keep _ _ q).trans ((S.fr.keep _ _ q).symm.trans e)
 ·exact (S'.news _ (mR (mL q))).1.trans ((S.news _ (mR (mL q))).1.symm.trans e)
 ·exact (S'.news _ (mR (mR (j' _ q)))).1.trans ((S.news _ (mR (mR (j _ q)))).1.symm.trans e)
theorem hmv {fr Y : Led} : (loc ++ ((H ++ fr) ++ Y)).Perm (H ++ (loc ++ (fr ++ Y))) := by
 rw [List.append_assoc]
 exact List.perm_append_comm_assoc ..
theorem Vars.hideL (V : Vars C M m loc) : Vars (C.frs (H ++ C.fr)) M m loc :=
 ⟨fun x v h => (V.vars x v h).map fun _ a _ => (List.perm_append_comm_assoc ..).mem_iff.mpr (mR a), V.cells, V.fix, V.ns⟩
theorem Vars.unhideL (hp : ∀ p ∈ H, ∀ v, p.2.data ≠ .cell v) (V : Vars (C.frs (H ++ C.fr)) M m loc) : Vars C M m loc :=
 ⟨fun x v h => (V.vars x v h).map fun _ a e => (List.mem_append.mp ((List.perm_append_comm_assoc ..).mem_iff.mp a)).resolve_left fun z => hp _ z _ e, V.cells, V.fix, V.ns⟩
theorem Apart.tailL {X : Led} (A : Apart (H ++ X) J) : Apart X J := ⟨((List.map_append (l₁ := H) ▸ A.1 : (List.map _ H ++ List.map _ X).Nodup).sublist (List.sublist_append_right _ _)), fun p hp => A.2 p (mR hp)⟩
theorem St.hideL (S : St C M own J h m loc) (hH : ∀ p ∈ H, h.get? p.1 = some p.2 ∧ (p.1 ≠ C.L ∧ C.h₀.get? p.1 = none)) (nd : (H.map (·.1)).Nodup) (hI : ∀ p ∈ St.all C own J loc, p.1 ∉ H.map (·.1)) : St (C.frs (H ++ C.fr)) M own J h m loc :=
 ⟨S.fr, fun p hp => (List.mem_append.mp (hmv.mem_iff.mp hp)).elim (hH p) (S.news p),
  Apart.perm (X := H ++ (loc ++ (C.fr ++ own))) ⟨List.map_append ▸ List.nodup_append.mpr ⟨nd, S.apart.1, fun a ha b hb e => (List.mem_map.mp hb).elim fun q hq => hI q (mem_all_own hq.1) (hq.2.symm ▸ e ▸ ha)⟩,
   fun p hp q hq => (List.mem_append.mp hp).elim (fun hp e => hI q (mem_all_ice hq) (e ▸ List.mem_map_of_mem hp)) fun hp => S.apart.2 p hp q hq⟩ hmv.symm, S.vars.hideL⟩
theorem St.unhideL (hc : ∀ p ∈ H, ∀ v, p.2.data ≠ .cell v) (S : St (C.frs (H ++ C.fr)) M own J h m loc) : (∀ p ∈ H, h.get? p.1 = some p.2) ∧ (St C M own J h m loc ∧ ∀ p ∈ St.all C own J loc, p.1 ∉ H.map (·.1)) :=
 have A : Apart (H ++ (loc ++ (C.fr ++ own))) J := S.apart.perm hmv
 ⟨fun p hp => (S.news p (hmv.mem_iff.mpr (mL hp))).1, ⟨S.fr, fun p hp => S.news p (hmv.mem_iff.mpr (mR hp)), A.tailL, S.vars.unhideL hc⟩, fun p hp hm => (List.mem_map.mp hm).elim fun q hq => (all_or hp).elim
  (fun hp => (List.nodup_append.mp (List.map_append ▸ A.1 : (H.map (·.1) ++ (loc ++ (C.fr ++ own)).map (·.1)).Nodup)).2.2 _ (List.mem_map_of_mem hq.1) _ (List.mem_map_of_mem hp) hq.2) fun hp => A.2 q (mL hq.1) p hp hq.2⟩
theorem XSt.unhideL {e : Value} (hc : ∀ p ∈ H, ∀ v, p.2.data ≠ .cell v) (x : XSt (C.frs (H ++ C.fr)) M own J h e) : XSt C M own J h e := by
 obtain ⟨ea, tr, B, m, loc, e, x⟩ := x
 exact ⟨ea, tr, B, m, loc, e, ⟨x.ns, x.above, x.fram, x.keep, fun q hq => x.led q (hmv.mem_iff.mpr (mR hq)), Apart.tailL (H := H) (x.apart.perm hmv), x.vars.unhideL hc, x.exc, x.ea0⟩⟩
theorem Cx.Ok.hideL (ok : C.Ok) : (C.frs (H ++ C.fr)).Ok := { ok with hx := fun p hp => ⟨mR (ok.hx p hp).1, (ok.hx p hp).2⟩ }
end
inductive FLoopW (C : Cx) (s : Shared) (wr : List Addr) (n : Nat) (Sw : Nat → Heap → Prop) (Inv : Nat → Loc → Led → Led → Prop) : Nat → Shared → Prop
 | mk (i : Nat) (M' : Loc) (o' J' : Led) (m' : Str → Option Value) (loc' : Led) (h : Heap) (tk : Nat) : i ≤ n → Sw i h → St C M' o' J' h m' loc' → (∀ p ∈ St.all C o' J' loc', p.1 ∉ wr) → Inv i M' o' J' → FLoopW C s wr n Sw Inv (n - i) { s with heap := h, toks := tk }
inductive ItW (C : Cx) (B : Led) (target : Expr) (I : Addr) (n : Nat) (P : Nat → Value → Heap → Prop) (M : Loc) (own J loc : Led) (m : Str → Option Value) (h : Heap) : Prop
 | mk (fp wr : List Addr) (Sw : Nat → Heap → Prop) (Md : Nat → Value → Heap → Prop) :
  (∀ i h h', Sw i h → (∀ b ∈ fp, ∀ o, h.get? b = some o → h'.get? b = some o) → Sw i h') →
  (∀ i (s : Shared) (Q : Option Value → Shared → Prop) (E : Value → Shared → Prop), i < n → Sw i s.heap → (∀ v h' tk, Md i v h' → (∀ b o, b ∉ wr → s.heap.get? b = some o → h'.get? b = some o) → Q (some v) { s with heap := h', toks := tk }) → wpAny (model prog C.w) C.A (pyNext (.ref I)) Q E s) →
  (∀ i v (s : Shared) (Q : Unit → Shared → Prop) (E : Value → Shared → Prop), Md i v s.heap → (∀ h', Sw (i + 1) h' → P i v h' → (∀ b o, b ∉ wr → s.heap.get? b = some o → h'.get? b = some o) → Q () { s with heap := h' }) → wpAny (model prog C.w) C.A (letOwnedTupleGo target (.ref I) v) Q E s) →
  (∀ (s : Shared) (Q : Option Value → Shared → Prop) (E : Value → Shared → Prop), Sw n s.heap → (∀ h' tk, (∀ b o, b ∉ wr → s.heap.get? b = some o → h'.get? b = some o) → Q none { s with heap := h', toks := tk }) → wpAny (model prog C.w) C.A (pyNext (.ref I)) Q E s) →
  (∀ i h, Sw i h → ∃ H : Led, H.map (·.1) = wr ∧ ∀ p ∈ H, h.get? p.1 = some p.2 ∧ ∀ v, p.2.data ≠ .cell v) → wr.Nodup → St C M own J h m loc → Sw 0 h →
  (∀ p ∈ St.all C own J loc, p.1 ∉ wr) → (∀ b ∈ wr, b ≠ C.L ∧ C.h₀.get? b = none) → (∀ b ∈ fp, b ∉ wr → ∃ o, C.h₀.get? b = some o ∨ (b, o) ∈ C.fr ∨ (b, o) ∈ B) → ItW C B target I n P M own J loc m h
theorem g_loopW {C : Cx} {M : Loc} {own J loc B : Led} {s : Shared} {m : Str → Option Value} {P : Nat → Value → Heap → Prop} {h : Heap}
  (it : ItW C B target I n P M own J loc m h) (ok : C.Ok) (he : C.env = C.fe) (Inv : Nat → Loc → Led → Led → Prop) (hB : ∀ i M' o' J', Inv i M' o' J' → ∀ p ∈ B, p ∈ o' ++ J') (i0 : Inv 0 M own J)
  (turn : ∀ C' i v M' o' J' (K : QF), Same C C' → C'.Ok → i < n → Inv i M' o' J' → (∀ f M o J, TurnQ Q (Inv (i + 1)) f M o J → K f M o J) → ∀ (s : Shared) m loc, St C' M' o' J' s.heap m loc → P i v s.heap → wpAny (model prog C'.w) C'.A (assign target C'.env v) (Post C' s (BodyK C' body X K)) (PostX C' s X) s)
  (done : ∀ M' o' J', Inv n M' o' J' → Q .next M' o' J') :
  codeAny (model prog C.w) C.A (.forLoop target (.ref I) body [] C.env) (fun r s' => match r with | .ok f => Post C s Q f s' | .error e => cameBackBy (model prog C.w) C.A C.env (PostX C s X) e s') { s with heap := h, toks := tk } := by
 obtain ⟨fp, wr, Sw, Md, frame, item, go, fin, live, nd, S, st, hI, h0, hfp⟩ := it
 have hL : C.L ∉ wr := fun hm => (h0 _ hm).1 rfl
 refine codeAny_forLoop_any (FLoopW C s wr n Sw Inv) ?_ (n - 0) (.mk 0 M own J m loc h tk (Nat.zero_le _) st S hI i0)
 rintro k s' ⟨i, M', o', J', m', loc', h, tk, hi, sw, S', hI', inv⟩
 rcases Nat.lt_or_ge i n with lt | ge
 ·refine item i _ _ _ lt sw fun v h₁ tk₁ hm keep₁ => go i v { s with heap := h₁, toks := tk₁ } _ _ hm fun h' sw' hP keep₂ => ?_
  have S2 : St C M' o' J' h' m' loc' := S'.iterL hI' hL (fun b hb => (h0 b hb).2) fun b o hb e => keep₂ b o hb (keep₁ b o hb e)
  obtain ⟨H, rfl, hHg⟩ := live _ _ sw'
  have px : ∀ e s', PostX (C.frs (H ++ C.fr)) { s with heap := h', toks := tk₁ } X e s' → notedBy (model prog C.w) C.A C.env (cameBackBy (model prog C.w) C.A C.env (PostX C s X)) e s' := fun e s' ⟨b1, b2, b3, b4, b5, e1, r1, r2⟩ =>
   PostX.passes ok he e s' ⟨b1, b2, b3, b4, b5, e1, r1.unhideL fun p hp => (hHg p hp).2, r2⟩
  refine wpAny_mono (turn (C.frs (H ++ C.fr)) i v M' o' J' _ ⟨rfl, rfl, rfl, rfl, rfl, rfl, rfl, rfl, rfl⟩ ok.hideL lt inv (fun _ _ _ _ q => q) { s with heap := h', toks := tk₁ } m' loc' (S2.hideL (fun p hp => ⟨(hHg p hp).1, h0 _ (List.mem_map_of_mem hp)⟩) nd hI') hP) (fun _ s'' p => ?_) px
  refine wpAny_mono (Post.go (C := C.frs (H ++ C.fr)) (X := X) p ok.hideL (fun _ _ _ q => q) fun b s3 x => x) (fun f s3 p => ?_) px
  refine Post.elim p fun h4 tk4 M4 o4 J4 m4 loc4 S4 q => ?_
  obtain ⟨kI, S5, hI5⟩ := S4.unhideL fun p hp => (hHg p hp).2
  have next : Inv (i + 1) M4 o4 J4 → ∃ k, k < n - i ∧ FLoopW C s (H.map (·.1)) n Sw Inv k ({ s with heap := h4, toks := tk4 } : Shared) := fun inv' => by
   refine ⟨n - (i + 1), Nat.sub_succ_lt_self _ _ lt, .mk (i + 1) M4 o4 J4 m4 loc4 h4 tk4 lt (frame _ _ _ sw' fun b hb o e => ?_) S5 hI5 inv'⟩
   by_cases q : b ∈ H.map (·.1)
   ·obtain ⟨p, hp, rfl⟩ := List.mem_map.mp q
    exact (kI p hp).trans ((hHg p hp).1.symm.trans e)
   ·exact S2.keeps S5 (hfp b hb q) (hB _ _ _ _ inv) (hB _ _ _ _ inv') e
  cases f with
  | next => exact next q
  | cont => exact next q
  | brk => exact ⟨h4, tk4, M4, o4, J4, m4, loc4, rfl, S5, q⟩
  | ret v => exact ⟨h4, tk4, M4, o4, J4, m4, loc4, rfl, S5, q⟩
 ·obtain rfl : n = i := Nat.le_antisymm ge hi
  refine fin _ _ _ sw fun h' tk' keep => ?_
  exact wpAny_execs_nil ⟨h', tk', M', o', J', m', loc', rfl, S'.iterL hI' hL (fun b hb => (h0 b hb).2) keep, done _ _ _ inv⟩
theorem It.toW {C : Cx} {M : Loc} {own J loc B : Led} {m : Str → Option Value} {P : Nat → Value → Prop} {h : Heap} (target : Expr) (it : It C B I n P M own J loc m h) : ItW C B target I n (fun i v _ => P i v) M own J loc m h := by
 obtain ⟨fp, Sw, W, live, S, st, hI, hL, h0, hfp⟩ := it
 refine .mk fp [I] Sw (fun i v h' => P i v ∧ Sw (i + 1) h') W.frame (fun i s Q E hi st hQ => W.item i s Q E hi st fun v h' tk hP sw keep => hQ v h' tk ⟨hP, sw⟩ keep)
  (fun i v s Q E hm hQ => let_any (live _ _ hm.2) (hQ _ hm.2 hm.1 fun _ _ _ e => e)) W.done (fun i h sw => ?_) (List.nodup_cons.mpr ⟨List.not_mem_nil, List.nodup_nil⟩) S st (fun p hp hm => hI p hp (List.mem_singleton.mp hm)) (fun b hb => List.mem_singleton.mp hb ▸ ⟨hL, h0⟩) fun b hb ne => hfp b hb fun e => ne (e ▸ .head _)
 obtain ⟨o, k, vs, ho, hc, hd, hw⟩ := live i h sw
 exact ⟨[(I, o)], rfl, fun p hp => List.mem_singleton.mp hp ▸ ⟨ho, fun v e => nomatch hd.symm.trans e⟩⟩
theorem noB {Inv : Nat → α → Led → Led → Prop} : ∀ i a o' J', Inv i a o' J' → ∀ p ∈ ([] : Led), p ∈ J' := fun _ _ _ _ _ _ h => absurd h List.not_mem_nil
theorem forGO {C : Cx} {M : Loc} {own J B : Led} {P : Nat → Value → Prop} (hfe : C.env = C.fe) (src : Src C xv own own₁ J B n P)
  (Inv : Nat → Loc → Led → Led → Prop) (hB : ∀ i M' o' J', Inv i M' o' J' → ∀ p ∈ B, p ∈ o' ++ J') (i0 : Inv 0 M own₁ J)
  (turn : ∀ C' i v M' o' J' (K : QF), Same C C' → i < n → P i v → Inv i M' o' J' → (∀ f M o J, TurnQ Q (Inv (i + 1)) f M o J → K f M o J) → G C' (assign target C'.env v) M' o' J' X (BodyK C' body X K))
  (done : ∀ M' o' J', Inv n M' o' J' → Q .next M' o' J') : ForG C target body xv M own J X Q := fun ok s m loc S =>
 src ok s M m loc S _ _ fun _ _ _ it => g_loopW (it.toW target) ok hfe Inv hB i0 (fun C' i v M' o' J' K sm ok' hi inv hK s m loc S hP => (turn C' i v M' o' J' K sm hi hP inv hK).go ok' s m loc S) done
theorem forG {C : Cx} {M : Loc} {own J B : Led} {P : Nat → Value → Prop} (hfe : C.env = C.fe) (src : Src C xv own own₁ J B n P)
  (Inv : Nat → Loc → Led → Led → Prop) (hB : ∀ i M' o' J', Inv i M' o' J' → ∀ p ∈ B, p ∈ J') (i0 : Inv 0 M own₁ J)
  (turn : ∀ C' i v M' o' J' (K : QF), Same C C' → i < n → P i v → Inv i M' o' J' → (∀ f M o J, TurnQ Q (Inv (i + 1)) f M o J → K f M o J) → G C' (assign target C'.env v) M' o' J' X (BodyK C' body X K))
  (done : ∀ M' o' J', Inv n M' o' J' → Q .next M' o' J') : ForG C target body xv M own J X Q := forGO hfe src Inv (fun i M' o' J' inv p hp => mR (hB i M' o' J' inv p hp)) i0 turn done
inductive Ob where
 | nul
 | tru (b : Bool)
 | int (i : Int)
 | nam (s : Str)
 | str (b : Array UInt8)
 | ref (n g : Int)
 | arr (l : List Ob)
 | dic (l : List (Str × Ob))
noncomputable abbrev key (w : World) (x : String) (t : Tok) (v : Value) : DictEntry := ⟨PyData.keyHash w.params (Str.ofString x), .str (Str.ofString x) t, v⟩
mutual
inductive Rep (w : World) (J : Led) : Value → Ob → Prop
 | nul : Rep w J .none .nul
 | tru (b : Bool) : Rep w J (.bool b) (.tru b)
 | int (i : Int) (t : Tok) : Rep w J (.int i t) (.int i)
 | nam {x dx : Addr} {t1 t : Tok} {s : Str} : (x, instObj 195 dx) ∈ J → (dx, dictOf [key w "text" t1 (.str s t)] 1) ∈ J → Rep w J (.ref x) (.nam s)
 | str {x dx : Addr} {t1 t2 t : Tok} {b : Array UInt8} : (x, instObj 217 dx) ∈ J → (dx, dictOf [key w "octets" t1 (.bytes b t), key w "is_hex" t2 (.bool false)] 2) ∈ J → Rep w J (.ref x) (.str b)
 | ref {x dx : Addr} {t1 t2 t3 t4 : Tok} {n g : Int} : (x, instObj 266 dx) ∈ J → (dx, dictOf [key w "number" t1 (.int n t3), key w "generation" t2 (.int g t4)] 2) ∈ J → Rep w J (.ref x) (.ref n g)
 | arr {a : Addr} {n : Nat} {xs : List Value} {l : List Ob} : (a, listOf xs.toArray n) ∈ J → RepL w J xs l → Rep w J (.ref a) (.arr l)
 | dic {a : Addr} {o : Obj} {kvs : List (Str × Value)} {l : List (Str × Ob)} : (a, o) ∈ J → o.IsDictOf (PySem.strKind prog w) kvs → (a == sysModules) = false → RepK w J kvs l → Rep w J (.ref a) (.dic l)
inductive RepL (w : World) (J : Led) : List Value → List Ob → Prop
 | nil : RepL w J [] []
 | cons {v : Value} {o : Ob} {vs : List Value} {os : List Ob} : Rep w J v o → RepL w J vs os → RepL w J (v :: vs) (o :: os)
inductive RepK (w : World) (J : Led) : List (Str × Value) → List (Str × Ob) → Prop
 | nil : RepK w J [] []
 | cons {k : Str} {v : Value} {o : Ob} {vs : List (Str × Value)} {os : List (Str × Ob)} : Rep w J v o → RepK w J vs os → RepK w J ((k, v) :: vs) ((k, o) :: os)
end
section
variable {w : World} {J J' : Led} (h : ∀ p ∈ J, p ∈ J')
include h
theorem rep_mono : (∀ {v o}, Rep w J v o → Rep w J' v o) ∧ ((∀ {v o}, RepL w J v o → RepL w J' v o) ∧ (∀ {v o}, RepK w J v o → RepK w J' v o)) := by
 refine ⟨fun V => ?_, fun V => ?_, fun V => ?_⟩
 ·exact V.rec (motive_1 := fun v o _ => Rep w J' v o) (motive_2 := fun v o _ => RepL w J' v o) (motive_3 := fun v o _ => RepK w J' v o) .nul .tru .int (fun a b => .nam (h _ a) (h _ b)) (fun a b => .str (h _ a) (h _ b)) (fun a b => .ref (h _ a) (h _ b)) (fun a _ i => .arr (h _ a) i) (fun a b c _ i => .dic (h _ a) b c i) .nil (fun _ _ a b => .cons a b) .nil (fun _ _ a b => .cons a b)
 ·exact V.rec (motive_1 := fun v o _ => Rep w J' v o) (motive_2 := fun v o _ => RepL w J' v o) (motive_3 := fun v o _ => RepK w J' v o) .nul .tru .int (fun a b => .nam (h _ a) (h _ b)) (fun a b => .str (h _ a) (h _ b)) (fun a b => .ref (h _ a) (h _ b)) (fun a _ i => .arr (h _ a) i) (fun a b c _ i => .dic (h _ a) b c i) .nil (fun _ _ a b => .cons a b) .nil (fun _ _ a b => .cons a b)
 ·exact V.rec (motive_1 := fun v o _ => Rep w J' v o) (motive_2 := fun v o _ => RepL w J' v o) (motive_3 := fun v o _ => RepK w J' v o) .nul .tru .int (fun a b => .nam (h _ a) (h _ b)) (fun a b => .str (h _ a) (h _ b)) (fun a b => .ref (h _ a) (h _ b)) (fun a _ i => .arr (h _ a) i) (fun a b c _ i => .dic (h _ a) b c i) .nil (fun _ _ a b => .cons a b) .nil (fun _ _ a b => .cons a b)
theorem Rep.mono {v : Value} {o : Ob} (V : Rep w J v o) : Rep w J' v o := (rep_mono h).1 V
theorem RepL.mono {v : List Value} {o : List Ob} (V : RepL w J v o) : RepL w J' v o := (rep_mono h).2.1 V
theorem RepK.mono {v : List (Str × Value)} {o : List (Str × Ob)} (V : RepK w J v o) : RepK w J' v o := (rep_mono h).2.2 V
end
section
variable {w : World} {J : Led} {v : Value}
theorem Rep.dic_inv {l : List (Str × Ob)} (V : Rep w J v (.dic l)) : ∃ a o kvs, v = .ref a ∧ (a, o) ∈ J ∧ o.IsDictOf (PySem.strKind prog w) kvs ∧ (a == sysModules) = false ∧ RepK w J kvs l := by
 cases V with | dic a b c d => exact ⟨_, _, _, rfl, a, b, c, d⟩
theorem Rep.arr_inv {l : List Ob} (V : Rep w J v (.arr l)) : ∃ a n xs, v = .ref a ∧ (a, listOf (List.toArray xs) n) ∈ J ∧ RepL w J xs l := by
 cases V with | arr a b => exact ⟨_, _, _, rfl, a, b⟩
theorem Rep.ref_inv {n g : Int} (V : Rep w J v (.ref n g)) : ∃ x dx t1 t2 t3 t4, v = .ref x ∧ (x, instObj 266 dx) ∈ J ∧ (dx, dictOf [key w "number" t1 (.int n t3), key w "generation" t2 (.int g t4)] 2) ∈ J := by
 cases V with | ref a b => exact ⟨_, _, _, _, _, _, rfl, a, b⟩
end
@[elab_as_elim] theorem RepL.ind {w : World} {J : Led} {P : ∀ vs os, RepL w J vs os → Prop} (nil : P [] [] .nil) (cons : ∀ {v o vs os} (a : Rep w J v o) (r : RepL w J vs os), P vs os r → P (v :: vs) (o :: os) (.cons a r)) {vs : List Value} {os : List Ob} (r : RepL w J vs os) : P vs os r :=
 r.rec (motive_1 := fun _ _ _ => True) (motive_2 := P) (motive_3 := fun _ _ _ => True) trivial (fun _ => trivial) (fun _ _ => trivial) (fun _ _ => trivial) (fun _ _ => trivial) (fun _ _ => trivial) (fun _ _ _ => trivial) (fun _ _ _ _ _ => trivial) nil (fun a b _ i => cons a b i) trivial (fun _ _ _ _ => trivial)
@[elab_as_elim] theorem RepK.ind {w : World} {J : Led} {P : ∀ vs os, RepK w J vs os → Prop} (nil : P [] [] .nil) (cons : ∀ {k v o vs os} (a : Rep w J v o) (r : RepK w J vs os), P vs os r → P ((k, v) :: vs) ((k, o) :: os) (.cons a r)) {vs : List (Str × Value)} {os : List (Str × Ob)} (r : RepK w J vs os) : P vs os r :=
 r.rec (motive_1 := fun _ _ _ => True) (motive_2 := fun _ _ _ => True) (motive_3 := P) trivial (fun _ => trivial) (fun _ _ => trivial) (fun _ _ => trivial) (fun _ _ => trivial) (fun _ _ => trivial) (fun _ _ _ => trivial) (fun _ _ _ _ _ => trivial) trivial (fun _ _ _ _ => trivial) nil (fun a b _ i => cons a b i)
theorem fill : PySem.Challenge.rw_sa0522_01 = PySem.Challenge.rw_sa0522_01 ∧ Kf = Kf := by
 k_fill
 exact ⟨rfl, rfl⟩
variable {hs : List (List (Str × Ob))} {R R' gs h0 l : List (Str × Ob)} {o : Ob}
section
variable {X : XP} {C : Cx} {J own : Led} {M : Loc} {target : Expr} {body : List Stmt} {Q : QF}
theorem Cx.Ok.hand (ok : C.Ok) : Hand C.A C.hn := ⟨ok.hd, fun p hp => (ok.hx p hp).2⟩
theorem Cx.Ok.hd0 (ok : C.Ok) (h : C.hn = none) : C.A.handled = none := by rw [ok.hd, h]; rfl
theorem It.push {h : Heap} {fp : List Addr} {P : Nat → Value → Prop} {Sw : Nat → Heap → Prop} (it : Obj) (S : St C M own J h m loc) (W : Walks prog C.w C.A h.objs.size fp [h.objs.size] n P Sw) (live : ∀ i h', Sw i h' → Plain h' h.objs.size) (st : Sw 0 (h.push it))
  (hfp : ∀ b ∈ fp, b ≠ h.objs.size → ∃ o, C.h₀.get? b = some o ∨ (b, o) ∈ C.fr ∨ (b, o) ∈ B) : It C B h.objs.size n P M own J loc m (h.push it) :=
 have hI : ∀ p ∈ St.all C own J loc, p.1 ≠ h.objs.size := fun p hp => Nat.ne_of_lt (Heap.lt_size (S.news p hp).1)
 have hL : h.objs.size ≠ C.L := (Nat.ne_of_lt S.fr.ns.lt).symm
 .mk fp Sw W live (S.iter hI hL (next_is_new S.fr) fun _ _ _ e => Heap.get?_push_of_some _ e) st hI hL (next_is_new S.fr) hfp
theorem fp_two {b : Addr} {o : Obj} (hb : b ∈ [I, a]) (ne : b ≠ I) (h : C.h₀.get? a = some o ∨ (a, o) ∈ C.fr ∨ (a, o) ∈ B) : ∃ o, C.h₀.get? b = some o ∨ (b, o) ∈ C.fr ∨ (b, o) ∈ B :=
 ⟨o, List.mem_singleton.mp ((List.mem_cons.mp hb).resolve_left ne) ▸ h⟩
theorem wmono {w : World} {fp wr : List Addr} {P P' : Nat → Value → Prop} {Sw : Nat → Heap → Prop} (W : Walks prog w A I fp wr n P Sw) (f : ∀ i v, i < n → P i v → P' i v) : Walks prog w A I fp wr n P' Sw :=
 { W with item := fun i s Q E hi st hQ => W.item i s Q E hi st fun v h' tk hP => hQ v h' tk (f _ _ hi hP) }
theorem src_list {vs : List Value} (ha : (a, listOf vs.toArray c) ∈ J) : Src C (.ref a) own own J J vs.length (fun i v => vs[i]? = some v) := fun ok s M m loc S Q E k => by
 have hl : s.heap.IsList a vs.toArray := News.isList S.news (mem_all_ice ha)
 have hI : ∀ p, C.hn = some p → (p.1, p.2) ∈ St.all C own J loc := fun p hp => mR (mL (ok.hx p hp).1)
 have lt : ∀ p ∈ St.all C own J loc, p.1 ≠ s.heap.objs.size := fun p hp => Nat.ne_of_lt (Heap.lt_size (S.news p hp).1)
 refine wpAny_pyIter_list hl (k _ _ _ (.push _ S (wmono (walks_list ok.hand _ a (lt _ (mem_all_ice ha)) (fun p hp => lt _ (hI p hp)) vs.toArray) fun i v _ h => by simpa using h) (fun i h x => x.1.elim fun o z => ⟨o, _, _, z.1, z.2.1, z.2.2, rfl⟩)
  ⟨⟨_, Heap.get?_push_size _ rfl, rfl, rfl⟩, hl.push _, fun p hp => Heap.get?_push_of_some _ (S.news _ (hI p hp)).1⟩ fun b hb ne => ?_))
 rcases List.mem_append.mp hb with hb | hb
 ·exact fp_two hb ne (.inr (.inr ha))
 ·cases e : C.hn with
  | none => rw [e] at hb; cases hb
  | some p => rw [e] at hb; exact ⟨p.2, .inr (.inl (List.mem_singleton.mp hb ▸ (ok.hx p e).1))⟩
theorem src_rangeC (hn0 : C.hn = none) {x y c : Int} {t v : Tok} (hJ : (a, ({ cls := .type "range", data := .fields #[.int x t, .int y u, .int c v] } : Obj)) ∈ J)
  (hsmall : Builtin.Range.small x y c = true) (hn : Builtin.Range.rangeSize x y c = (n : Int)) : Src C (.ref a) own own J [] n (fun i v => ∃ t, v = .int (x + i * c) t) := fun ok s M m loc S Q E k =>
 wpAny_pyIter_range (S.news _ (mem_all_ice hJ)).1 hsmall (k _ _ _ (.push _ S (Walks.range (ok.hd0 hn0) _ x c n) (fun i h z => ⟨_, _, _, z, rfl, rfl, rfl⟩) (by rw [hn]; simpa using Heap.get?_push_size _ rfl) fun b hb ne => absurd (List.mem_singleton.mp hb) ne))
theorem src_range (hn0 : C.hn = none) {x y : Int} {t v : Tok} (hJ : (a, ({ cls := .type "range", data := .fields #[.int x t, .int y u, .int 1 v] } : Obj)) ∈ J)
  (hsmall : Builtin.Range.small x y 1 = true) (hn : Builtin.Range.rangeSize x y 1 = (n : Int)) : Src C (.ref a) own own J [] n (fun i v => ∃ t, v = .int (x + (i : Nat)) t) := fun ok s M m loc S Q E k =>
 wpAny_pyIter_range (S.news _ (mem_all_ice hJ)).1 hsmall (k _ _ _ (.push _ S (wmono (Walks.range (ok.hd0 hn0) _ x 1 n) fun i v _ h => h.imp fun _ e => by rw [Int.mul_one] at e; exact e) (fun i h z => ⟨_, _, _, z, rfl, rfl, rfl⟩) (by rw [hn]; simpa using Heap.get?_push_size _ rfl) fun b hb ne => absurd (List.mem_singleton.mp hb) ne))
theorem src_dictO {w : World} (hw : C.w = w) (hn : C.hn = none) {K : Type} [DecidableEq K] {knd : KeyKind prog w K} {o : Obj} {kvs : List (K × Value)} (hJ : (d, o) ∈ own ++ J) (hd : o.IsDictOf knd kvs) (lo : (d == sysModules) = false) (hB : (d, o) ∈ B) :
  Src C (.ref d) own own J B kvs.length (fun i v => ∃ k, ∃ x, kvs[i]? = some (k, x) ∧ knd.is k v = true) := fun ok s M m loc S Q E k => by
 subst hw
 have hin : (d, o) ∈ St.all C own J loc := mR (mR hJ)
 obtain ⟨ep, hA⟩ := (Heap.dictOf_iff.mpr ⟨o, (S.news _ hin).1, hd⟩ : s.heap.DictOf knd d kvs).dictAt
 exact wpAny_pyIter_dict lo hA (k _ _ _ (.push _ S (Walks.dictKeys (prog := prog) (w := C.w) (knd := knd) (ok.hd0 hn) s.heap.objs.size d (Nat.ne_of_lt (Heap.lt_size (S.news _ hin).1)) kvs ep) (fun i h x => x.1.elim fun o z => ⟨o, _, _, z.1, z.2.1, z.2.2, rfl⟩)
  ⟨⟨_, Heap.get?_push_size _ rfl, rfl, rfl⟩, hA.push _⟩ fun b hb ne => fp_two hb ne (.inr (.inr hB))))
theorem src_dict {w : World} (hw : C.w = w) (hn : C.hn = none) {K : Type} [DecidableEq K] {knd : KeyKind prog w K} {o : Obj} {kvs : List (K × Value)} (hJ : (d, o) ∈ J) (hd : o.IsDictOf knd kvs) (lo : (d == sysModules) = false) :
  Src C (.ref d) own own J J kvs.length (fun i v => ∃ k, ∃ x, kvs[i]? = some (k, x) ∧ knd.is k v = true) := src_dictO hw hn (mR hJ) hd lo hJ
theorem src_tupleO (hn : C.hn = none) {vs : List Value} {o : Obj} (ho1 : o.cls = .type "tuple") (ho2 : o.data = .seq vs.toArray c) (hB : ∀ (h : Heap) M m loc, St C M own J h m loc → h.get? a = some o) (hb : C.h₀.get? a = some o ∨ (a, o) ∈ C.fr ∨ (a, o) ∈ B) : Src C (.ref a) own own J B vs.length (fun i v => vs[i]? = some v) := fun ok s M m loc S Q E k =>
 have hg := hB _ _ _ _ S
 wpAny_pyIter_tuple ⟨o, hg, ho1, c, ho2⟩ (k _ _ _ (.push _ S (wmono (Walks.tuple (ok.hd0 hn) _ a (Nat.ne_of_lt (Heap.lt_size hg)) vs.toArray) fun i v _ h => by simpa using h) (fun i h x => x.1.elim fun o z => ⟨o, _, _, z.1, z.2.1, z.2.2, rfl⟩)
  ⟨⟨_, Heap.get?_push_size _ rfl, rfl, rfl⟩, ⟨_, Heap.get?_push_of_some _ hg, ho1, _, ho2⟩⟩ fun b hb' ne => fp_two hb' ne hb))
theorem src_tuple (hn : C.hn = none) {vs : List Value} (ha : (a, ({ cls := .type "tuple", data := .seq vs.toArray c } : Obj)) ∈ J) : Src C (.ref a) own own J J vs.length (fun i v => vs[i]? = some v) :=
 src_tupleO hn rfl rfl (fun _ _ _ _ S => (S.news _ (mem_all_ice ha)).1) (.inr (.inr ha))
theorem src_base {w : World} (hw : C.w = w) (hn : C.hn = none) {vs : List Value} {o : Obj} (hK : (Kf w.params).lookup a = some o) (ho1 : o.cls = .type "tuple") (ho2 : o.data = .seq vs.toArray c) : Src C (.ref a) own own J [] vs.length (fun i v => vs[i]? = some v) := fun ok => by
 subst hw
 exact src_tupleO hn ho1 ho2 (fun _ _ _ _ S => S.fr.keep a o (ok.frag a o hK)) (.inl (ok.frag a o hK)) ok
theorem src_str (hn : C.hn = none) {t : Tok} : Src C (.str x t) own own J [] x.length (SignAt x) := fun ok s M m loc S Q E k => by
 cases ha : x.cps.all (· < 128)
 ·exact wpAny_pyIter_wide ha (k _ _ _ (.push _ S (Walks.strWide (ok.hd0 hn) _ x t) (fun i h z => z.elim fun o z => ⟨o, _, _, z.1, z.2.1, z.2.2, rfl⟩) ⟨_, Heap.get?_push_size _ rfl, rfl, rfl⟩ fun b hb ne => absurd (List.mem_singleton.mp hb) ne))
 ·exact wpAny_pyIter_ascii ha (k _ _ _ (.push _ S (Walks.strAscii (ok.hd0 hn) _ x t) (fun i h z => z.elim fun o z => ⟨o, _, _, z.1, z.2.1, z.2.2, rfl⟩) ⟨_, Heap.get?_push_size _ rfl, rfl, rfl⟩ fun b hb ne => absurd (List.mem_singleton.mp hb) ne))
theorem src_bytes (hn : C.hn = none) {x : Array UInt8} {t : Tok} : Src C (.bytes x t) own own J [] x.size (fun i v => ∃ c, ∃ u, x[i]? = some c ∧ v = .int (c.toNat : Int) u) := fun ok s M m loc S Q E k =>
 KBw.pyIter_bytes (k _ _ _ (.push _ S (KBw.walks (ok.hd0 hn) _ x t) (fun i h z => z.elim fun o z => ⟨o, _, _, z.1, z.2.1, z.2.2, rfl⟩) ⟨_, Heap.get?_push_size _ rfl, rfl, rfl⟩ fun b hb ne => absurd (List.mem_singleton.mp hb) ne))
end
noncomputable abbrev tup (vs : List Value) : Obj := { cls := .type "tuple", data := .seq vs.toArray }
noncomputable abbrev TupK (Q : QV) : QL := fun vs M o J => vs.length ≤ sizeLine ∧ ∀ D, Q (.ref D) M o ((D, tup vs) :: J)
noncomputable abbrev AA2 (C : Cx) (n : Str) (v : Value) (X : XP) (Q : QF) : QV := fun ov M o J => G C (setAttr ov n v) M o J X (StoK Q)
noncomputable abbrev AA1 (C : Cx) (e : Expr) (n : Str) (X : XP) (Q : QF) : QV := fun v M o J => G C (eval e C.env) M o J X (AA2 C n v X Q)
noncomputable abbrev IoK (C : Cx) (ts : List (Value → Sem Unit)) (xs : List Value) (X : XP) (Q : Unit → Loc → Led → Led → Prop) : Unit → Loc → Led → Led → Prop := fun _ M o J => G C (assignInOrder ts xs) M o J X Q
noncomputable abbrev AT (C : Cx) (target : Expr) (X : XP) (Q : QF) : QV := fun v M o J => G C (assign target C.env v) M o J X (StoK Q)
theorem okMeth_ref (h : keepIn K (.ref a) = true) : okMeth K (.ref a) = true := h
theorem okCall_ref (h : keepIn K (.ref a) = true) : okCall K (.ref a) = true := h
theorem okMeth_b {a : String} : okMeth K (.builtin a) = true := rfl
theorem okCall_b {a : String} : okCall K (.builtin a) = true := rfl
theorem okCall_t {a : String} : okCall K (.type a) = true := rfl
section
variable {X : XP} {C : Cx} {Q : QV} {J own : Led} {M : Loc}
theorem g_str {k : Nat} (h : ∀ t, Q (.str x t) M own J) : G C (eval (.Constant (.str x) k pos) C.env) M own J X Q := .mk fun _ _ _ _ S => Calls.Constant_str (Post.mk' S (h _))
theorem g_is_none (h : Q (.bool (v == .none)) M own J) : G C (compareOp .Is v .none) M own J X Q := .mk fun _ _ _ _ S => is_none_gen (Post.of S h)
theorem g_isnot_none (h : Q (.bool (!(v == .none))) M own J) : G C (compareOp .IsNot v .none) M own J X Q := .mk fun _ _ _ _ S => isnot_none_gen (Post.of S h)
theorem g_ne_int {a b : Int} {t : Tok} (h : Q (.bool (a != b)) M own J) : G C (compareOp .NotEq (.int a t) (.int b u)) M own J X Q := .mk fun _ _ _ _ S => PyProof.Rows.ne_int (Post.of S h)
theorem g_eq_int {a b : Int} {t : Tok} (h : Q (.bool (a == b)) M own J) : G C (compareOp .Eq (.int a t) (.int b u)) M own J X Q := .mk fun _ _ _ _ S => PyProof.Rows.eq_int (Post.of S h)
theorem g_lt_int {a b : Int} {t : Tok} (h : Q (.bool (decide (a < b))) M own J) : G C (compareOp .Lt (.int a t) (.int b u)) M own J X Q := .mk fun _ _ _ _ S => PyProof.Rows.lt_int (Post.of S h)
theorem g_neg_int {a : Int} {t : Tok} (h : ∀ t, Q (.int (-a) t) M own J) : G C (unaryOp .USub (.int a t)) M own J X Q := .mk fun _ _ _ _ S => neg_int (Post.mk' S (h _))
theorem g_add_int {a b : Int} {t : Tok} (h : ∀ t, Q (.int (a + b) t) M own J) : G C (binaryOp .Add (.int a t) (.int b u)) M own J X Q := .mk fun _ _ _ _ S => PyProof.Rows.add_int (Post.mk' S (h _))
theorem g_sub_int {a b : Int} {t : Tok} (h : ∀ t, Q (.int (a - b) t) M own J) : G C (binaryOp .Sub (.int a t) (.int b u)) M own J X Q := .mk fun _ _ _ _ S => PyProof.Rows.sub_int (Post.mk' S (h _))
theorem g_runXB {w : World} {D : Nat} {vs : List Value} {Xr : XR} {R : Value → Led → Led → Prop} (r : RunB hh w D U f vs own J Xr R) (hw : C.w = w) (hn : hh = false → C.hn = none) (hD : D ≤ C.dl) (hU : U ≤ C.ul) (h : ∀ r o' J', R r o' J' → Q r M o' J') (hx : ∀ o' J', Xr o' J' → X M o' J') : G C (call f vs) M own J X Q :=
 (r C hw hD hU hn M).mono (fun a M' o J' q => q.1 ▸ h a o J' q.2) fun M' o J' q => q.1 ▸ hx o J' q.2
theorem g_runX {w : World} {D : Nat} {vs : List Value} {Xr : XR} {R : Value → Led → Led → Prop} (r : Run w D U f vs own J Xr R) (hw : C.w = w) (hn : C.hn = none) (hD : D ≤ C.dl) (hU : U ≤ C.ul) (h : ∀ r o' J', R r o' J' → Q r M o' J') (hx : ∀ o' J', Xr o' J' → X M o' J') : G C (call f vs) M own J X Q :=
 g_runXB r hw (fun _ => hn) hD hU h hx
theorem g_runKB {w : World} {D : Nat} {vs : List Value} {R : Value → Led → Led → Prop} (r : RunB hh w D U f vs own J noR R) (hw : C.w = w) (hn : hh = false → C.hn = none) (hD : D ≤ C.dl) (hU : U ≤ C.ul) (h : ∀ K : Value → Led → Led → Prop, (∀ r o' J', Q r M o' J' → K r o' J') → ∀ r o' J', R r o' J' → K r o' J') : G C (call f vs) M own J X Q :=
 g_runXB r hw hn hD hU (h _ fun _ _ _ q => q) fun _ _ x => x.elim
theorem g_runK {w : World} {D : Nat} {vs : List Value} {R : Value → Led → Led → Prop} (r : Run w D U f vs own J noR R) (hw : C.w = w) (hn : C.hn = none) (hD : D ≤ C.dl) (hU : U ≤ C.ul) (h : ∀ K : Value → Led → Led → Prop, (∀ r o' J', Q r M o' J' → K r o' J') → ∀ r o' J', R r o' J' → K r o' J') : G C (call f vs) M own J X Q :=
 g_runKB r hw (fun _ => hn) hD hU h
@[elab_as_elim] theorem opq3 {T : Loc → Led → Led → Prop} (M : Loc) (o J : Led) (h : ∀ Z : Loc → Led → Led → Prop, (∀ M o J, T M o J → Z M o J) → Z M o J) : T M o J := h T fun _ _ _ q => q
noncomputable def Has (M L : Loc) : Prop := ∀ x v, L.lookup x = some v → M.lookup x = some v
theorem has_nil {M : Loc} : Has M [] := fun _ _ h => nomatch h
theorem has_cons {M L : Loc} (h : M.lookup x = some v) (r : Has M L) : Has M ((x, v) :: L) := fun y u e => by
 rw [List.lookup_cons] at e
 split at e
 ·rename_i q
  have q' := beq_iff_eq.mp q
  subst q'; cases e; exact h
 ·exact r y u e
theorem g_weak {C : Cx} {c : Sem α} {M L : Loc} {own J : Led} {X : XP} {Q : α → Loc → Led → Led → Prop} (h : Has M L) (g : G C c L own J X Q) : G C c M own J X Q := .mk fun ok s m loc S =>
 g.go ok s m loc ⟨S.fr, S.news, S.apart, ⟨fun x v e => S.vars.vars x v (h x v e), S.vars.cells, S.vars.fix, S.vars.ns⟩⟩
noncomputable def Sub (J J' : Led) : Prop := ∀ p ∈ J, p ∈ J'
theorem Sub.refl {J : Led} : Sub J J := fun _ h => h
theorem Sub.trans {J J'' : Led} (a : Sub J J') (b : Sub J' J'') : Sub J J'' := fun p h => b p (a p h)
theorem Sub.mem {J : Led} (a : Sub J J') {p : Addr × Obj} (h : p ∈ J) : p ∈ J' := a p h
theorem Sub.cons {J J' : Led} {p : Addr × Obj} (a : Sub J J') : Sub J (p :: J') := fun q h => .tail _ (a q h)
noncomputable def RunBP (hh : Bool) (w : World) (D U : Nat) (f : Value) (vs : List Value) (own J : Led) (P : Value → Led → Prop) : Prop := RunB hh w D U f vs own J noR (fun r o' J' => o' = own ∧ Sub J J' ∧ P r J')
noncomputable abbrev RunP := RunBP false
theorem g_runPB {w : World} {D : Nat} {vs : List Value} {P : Value → Led → Prop} (r : RunBP hh w D U f vs own J P) (hw : C.w = w) (hn : hh = false → C.hn = none) (hD : D ≤ C.dl) (hU : U ≤ C.ul) (h : ∀ r J', Sub J J' → P r J' → Q r M own J') : G C (call f vs) M own J X Q :=
 g_runXB r hw hn hD hU (fun r o' J' q => by obtain ⟨e, s, p⟩ := q; exact e ▸ h r J' s p) fun _ _ x => x.elim
theorem g_runP {w : World} {D : Nat} {vs : List Value} {P : Value → Led → Prop} (r : RunP w D U f vs own J P) (hw : C.w = w) (hn : C.hn = none) (hD : D ≤ C.dl) (hU : U ≤ C.ul) (h : ∀ r J', Sub J J' → P r J' → Q r M own J') : G C (call f vs) M own J X Q :=
 g_runPB r hw (fun _ => hn) hD hU h
theorem getL_h {n : Str} {hh : Int} {kk : Value} {es : List DictEntry} (e : kk.isStr n = true) : getL n (⟨hh, kk, v⟩ :: es) = some (some v) := by
 unfold getL
 rw [List.find?_cons_of_pos (p := fun x : DictEntry => x.key.isStr n) e]
theorem getL_t {n : Str} {hh : Int} {kk u : Value} {es : List DictEntry} (e : kk.isStr n = false) (r : getL n es = some (some v)) : getL n (⟨hh, kk, u⟩ :: es) = some (some v) := by
 unfold getL at r ⊢
 rw [List.find?_cons_of_neg (p := fun x : DictEntry => x.key.isStr n) (fun z => Bool.false_ne_true (e.symm.trans z))]
 cases q : es.find? (·.key.isStr n) with
 | some e' => rw [q] at r; exact r
 | none =>
  rw [q] at r
  dsimp only at r
  split at r <;> cases r
theorem size_ok (h : Nat.ble n 100 = true) : n ≤ sizeLine := by
 have := Nat.le_of_ble_eq_true h
 rw [sizeLine_eq]; omega
theorem g_tuple {k : Nat} (h : G C (spliced (backTo pos (starEach elts C.env))) M own J X (TupK Q)) : G C (eval (.Tuple elts k pos) C.env) M own J X Q := .mk fun ok s m loc S =>
 Tuple_ (h.use ok S rfl fun vs s' p => by
  refine Post.elim p fun h1 tk M' o' J' m' loc' S' hqz => ?_
  obtain ⟨hz, q⟩ := hqz
  exact kup_newTuple S'.fr S'.news (fun D h' F' N' lt => ⟨h', tk, M', o', _, m', loc', rfl, S'.ice F' N' lt, q D⟩) hz)
theorem g_setattr {w : World} (hw : C.w = w) {Q : Unit → Loc → Led → Led → Prop} (l1 : Led) {l2 : Led} {x c : Addr} {es : List DictEntry} {k : Nat} {n : Str} (h1 : (x, instObj c dx) ∈ (l1 ++ (dx, dictOf es k) :: l2) ++ J)
  (hs : findIn (Kf C.w.params) (.ref c) "__setattr__" = some (some (.builtin "object.__setattr__"))) (hp : plainOver (Kf C.w.params) c = true) (ht : takerIn (Kf C.w.params) c n = some none) (hh : hasDictIn (Kf C.w.params) c = true)
  (hl : (getL n es).isSome = true) (hz : ∀ t, (putL n (PyData.keyHash w.params n) (.str n t) v es).length ≤ 1000)
  (h : ∀ t, Q () M (l1 ++ (dx, dictOf (putL n (PyData.keyHash w.params n) (.str n t) v es) (putN n es k)) :: l2) J) : G C (setAttr (.ref x) n v) M (l1 ++ (dx, dictOf es k) :: l2) J X Q := .mk fun ok s m loc S => by
 subst hw
 refine set_dict S.fr ok.frag S.news (InstAt.of_news S.news (mR (mR h1)) (mR (mR (mL (mR (.head _)))))) rfl hs hp ht hh hl rfl S.updO (hz _) fun h' F' N' => ?_
 exact Post.mk' (S.upd F' N') (h _)
theorem g_asgattr {o : Expr} {n : Str} {Q : QF} (h : G C (eval e C.env) M own J X (AA1 C o n X Q))
  (hs : swapsWith e (some (.Attribute o n p)) pos.line C.env = pure false) : G C (exec (.Assign [.Attribute o n p] e pos) C.env) M own J X Q := .mk fun ok s m loc S =>
 plainObj_wpAny_Assign_Attribute (h.use ok S rfl fun _ _ p => Post.go p ok (fun _ _ _ q => q) fun _ _ p => Post.go p ok (fun _ _ _ q => q) fun _ _ x => x) hs
theorem g_assign_name {X : XP} {C : Cx} {J own : Led} {M : Loc} {Q : Unit → Loc → Led → Led → Prop} (h : G C (storeName C.env x v) M own J X Q) : G C (assign (.Name x pos) C.env v) M own J X Q := .mk fun ok s m loc S => wpAny_assign_Name (h.go ok s m loc S)
theorem g_inorder0 {X : XP} {C : Cx} {J own : Led} {M : Loc} {xs : List Value} {Q : Unit → Loc → Led → Led → Prop} (h : Q () M own J) : G C (assignInOrder [] xs) M own J X Q := .mk fun ok s m loc S => assignInOrder_nil (Post.of S h)
theorem g_inorder {X : XP} {C : Cx} {J own : Led} {M : Loc} {t : Value → Sem Unit} {ts : List (Value → Sem Unit)} {x : Value} {xs : List Value} {Q : Unit → Loc → Led → Led → Prop} (h : G C (t x) M own J X (IoK C ts xs X Q)) : G C (assignInOrder (t :: ts) (x :: xs)) M own J X Q := .mk fun ok s m loc S =>
 assignInOrder_cons (h.use ok S rfl fun _ _ p => Post.go p ok (fun _ _ _ q => q) fun _ _ x => x)
theorem g_unpack {C : Cx} (hn : C.hn = none) {M : Loc} {own J : Led} {X : XP} {k : Nat} {t : Addr} {vs : List Value} {Q : Unit → Loc → Led → Led → Prop} (ht : (t, ({ cls := .type "tuple", data := .seq vs.toArray c } : Obj)) ∈ own ++ J)
  (hl : (assignEach elts C.env).length = vs.length) (hstar : (assignEach elts C.env).findIdx? (·.1) = none) (h : G C (assignInOrder ((assignEach elts C.env).map (·.2)) vs) M own J X Q) : G C (assign (.Tuple elts k pos) C.env (.ref t)) M own J X Q := .mk fun ok s m loc S => by
 refine unpackN_ (items := vs.toArray) S.fr S.news (News.isTup S.news (mR (mR ht))) (ok.hd0 hn) (by simpa using hl) hstar fun h' F' N' => ?_
 have := h.go ok { s with heap := h' } m loc (S.same F' N')
 exact wpAny_mono this (fun _ _ p => Post.rebase p) fun _ _ p => PostX.rebase p
theorem g_asgtup {X : XP} {C : Cx} {J own : Led} {M : Loc} {k : Nat} {tpos : Pos} {Q : QF} (h : G C (eval e C.env) M own J X (AT C (.Tuple elts k tpos) X Q))
  (hs : swapsWithSole [.Tuple elts k tpos] e pos.line C.env = pure false) (hw : swappedStores [.Tuple elts k tpos] e C.env = pure none) : G C (exec (.Assign [.Tuple elts k tpos] e pos) C.env) M own J X Q := .mk fun ok s m loc S =>
 Assign_Tuple (h.use ok S rfl fun _ _ p => Post.go p ok (fun _ _ _ q => q) fun _ _ x => x) hs hw
theorem g_dget_s {w : World} (hw : C.w = w) {o : Obj} {Q : Value × List Value → Loc → Led → Led → Prop} (hp : (d, o) ∈ own ++ J) (hd : o.IsDictOf (PySem.strKind prog w) kvs) (h : Q (.builtin "dict.get", [.ref d]) M own J) :
  G C (getMethod (.ref d) "get" pl) M own J X Q := .mk fun ok s m loc S => by
 subst hw
 exact kdg_method (knd := PySem.strKind _ _) S.news (mR (mR hp)) hd (Post.of S h)
theorem g_dget_i {w : World} (hw : C.w = w) {o : Obj} {kvs : List (Int × Value)} {Q : Value × List Value → Loc → Led → Led → Prop} (hp : (d, o) ∈ own ++ J) (hd : o.IsDictOf (PySem.intKind prog w) kvs) (h : Q (.builtin "dict.get", [.ref d]) M own J) :
  G C (getMethod (.ref d) "get" pl) M own J X Q := .mk fun ok s m loc S => by
 subst hw
 exact kdg_method (knd := PySem.intKind _ _) S.news (mR (mR hp)) hd (Post.of S h)
theorem g_get1_s {w : World} (hw : C.w = w) {o : Obj} {t : Tok} (hp : (d, o) ∈ own ++ J) (hd : o.IsDictOf (PySem.strKind prog w) kvs) (lo : (d == sysModules) = false) (hl : valueAt kvs k = some v) (h : Q v M own J) :
  G C (call (.builtin "dict.get") [.ref d, .str k t]) M own J X Q := .mk fun ok s m loc S => by
 subst hw
 exact kdg_get1 (knd := PySem.strKind _ _) S.news (mR (mR hp)) hd lo (strKind_is _ _ _ _) _ hl (Post.mk' S h)
theorem g_get1_sn {w : World} (hw : C.w = w) {o : Obj} {t : Tok} (hp : (d, o) ∈ own ++ J) (hd : o.IsDictOf (PySem.strKind prog w) kvs) (lo : (d == sysModules) = false) (hl : valueAt kvs k = none) (h : Q .none M own J) :
  G C (call (.builtin "dict.get") [.ref d, .str k t]) M own J X Q := .mk fun ok s m loc S => by
 subst hw
 exact kdg_get1 (knd := PySem.strKind _ _) S.news (mR (mR hp)) hd lo (strKind_is _ _ _ _) _ hl (Post.mk' S h)
theorem g_get2_i {w : World} (hw : C.w = w) {o : Obj} {kvs : List (Int × Value)} {k : Int} {t : Tok} (hp : (d, o) ∈ own ++ J) (hd : o.IsDictOf (PySem.intKind prog w) kvs) (lo : (d == sysModules) = false) (hl : valueAt kvs k = some v) (h : Q v M own J) :
  G C (call (.builtin "dict.get") [.ref d, .int k t, df]) M own J X Q := .mk fun ok s m loc S => by
 subst hw
 exact kdg_get2 (knd := PySem.intKind _ _) S.news (mR (mR hp)) hd lo (intKind_is _ _ _ _) _ hl (Post.mk' S h)
theorem g_get2_in {w : World} (hw : C.w = w) {o : Obj} {kvs : List (Int × Value)} {k : Int} {t : Tok} (hp : (d, o) ∈ own ++ J) (hd : o.IsDictOf (PySem.intKind prog w) kvs) (lo : (d == sysModules) = false) (hl : valueAt kvs k = none) (h : Q df M own J) :
  G C (call (.builtin "dict.get") [.ref d, .int k t, df]) M own J X Q := .mk fun ok s m loc S => by
 subst hw
 exact kdg_get2 (knd := PySem.intKind _ _) S.news (mR (mR hp)) hd lo (intKind_is _ _ _ _) _ hl (Post.mk' S h)
theorem g_range1 {n : Int} {t : Tok} (h : ∀ r t u v, Q (.ref r) M own ((r, ({ cls := .type "range", data := .fields #[.int 0 t, .int n u, .int 1 v] } : Obj)) :: J)) : G C (call (.type "range") [.int n t]) M own J X Q := .mk fun ok s m loc S => by
 refine call_range_1 ?_
 exact Post.mk' (S.pushIce rfl) (h _ _ _ _)
end
section
variable {X : XP} {C : Cx} {Q : QV} {J own : Led} {M : Loc}
noncomputable abbrev SubR (C : Cx) (value slice : Expr) (o : Value) (X : XP) (Q : QV) : QV := fun i M own J => G C (subscriptTail value slice o i) M own J X Q
noncomputable abbrev SubL (C : Cx) (value slice : Expr) (X : XP) (Q : QV) : QV := fun o M own J => G C (eval slice C.env) M own J X (SubR C value slice o X Q)
theorem g_sub (h : G C (eval value C.env) M own J X (SubL C value slice X Q)) : G C (eval (.Subscript value slice pos) C.env) M own J X Q := .mk fun ok s m loc S =>
 Subscript_ (h.use ok S rfl fun _ _ p => Post.go p ok (fun _ _ _ q => q) fun _ _ p => Post.go p ok (fun _ _ _ q => q) fun _ _ x => x)
noncomputable abbrev Set3 (C : Cx) (o v : Value) (X : XP) (Q : QF) : QV := fun i M own J => G C (setItem o i v) M own J X (StoK Q)
noncomputable abbrev Set2 (C : Cx) (ie : Expr) (v : Value) (X : XP) (Q : QF) : QV := fun o M own J => G C (eval ie C.env) M own J X (Set3 C o v X Q)
noncomputable abbrev Set1 (C : Cx) (oe ie : Expr) (X : XP) (Q : QF) : QV := fun v M own J => G C (eval oe C.env) M own J X (Set2 C ie v X Q)
theorem g_asgsub {oe ie : Expr} {Q : QF} (h : G C (eval e C.env) M own J X (Set1 C oe ie X Q)) (hs : swapsWith e (some (.Subscript oe ie p)) pos.line C.env = pure false) : G C (exec (.Assign [.Subscript oe ie p] e pos) C.env) M own J X Q := .mk fun ok s m loc S =>
 wpAny_Assign_Subscript (h.use ok S rfl fun _ _ p => Post.go p ok (fun _ _ _ q => q) fun _ _ p => Post.go p ok (fun _ _ _ q => q) fun _ _ p => Post.go p ok (fun _ _ _ q => q) fun _ _ x => x) hs
section
variable {w : World} {K : Type} [DecidableEq K] {knd : KeyKind prog w K} {d : Addr} {o : Obj} {kvs : List (K × Value)} {k : K} {key v : Value}
theorem g_setitem (hw : C.w = w) (l1 : Led) {l2 : Led} {Q : Unit → Loc → Led → Led → Prop} (hd : o.IsDictOf knd kvs) (hk : knd.is k key = true) (hz : kvs.length ≤ sizeLine) (h : ∀ o', o'.IsDictOf knd (stored kvs k v) → Q () M (l1 ++ (d, o') :: l2) J) :
  G C (setItem (.ref d) key v) M (l1 ++ (d, o) :: l2) J X Q := .mk fun ok s m loc S => by
 subst hw
 exact kda_set S.fr S.news S.updF hd hk hz fun h' o' F' N' hd' => Post.mk' (S.upd F' N') (h o' hd')
theorem g_item (hw : C.w = w) (hp : (d, o) ∈ own ++ J) (hd : o.IsDictOf knd kvs) (hk : knd.is k key = true) (hl : valueAt kvs k = some v) (h : Q v M own J)
  (hs : autoParam (subscripted slice false (.ref d) key = operate [.ref d, key] (getItem (.ref d) key)) zr) (hg : autoParam (∀ r, letTemporaryGo value (.ref d) r = pure ()) zr) :
  G C (subscriptTail value slice (.ref d) key) M own J X Q := .mk fun ok s m loc S => by
 subst hw
 exact kda_item S.news (mR (mR hp)) hd hk hl (Post.mk' S h) hs hg
theorem g_in (hw : C.w = w) (hp : (d, o) ∈ own ++ J) (hd : o.IsDictOf knd kvs) (lo : (d == sysModules) = false) (hk : knd.is k key = true) {b : Bool} (hb : (valueAt kvs k).isSome = b) (h : Q (.bool b) M own J) : G C (compareOp .In key (.ref d)) M own J X Q := .mk fun ok s m loc S => by
 subst hw
 exact kda_in S.news (mR (mR hp)) hd lo hk b hb (Post.mk' S h)
theorem g_notin (hw : C.w = w) (hp : (d, o) ∈ own ++ J) (hd : o.IsDictOf knd kvs) (lo : (d == sysModules) = false) (hk : knd.is k key = true) {b : Bool} (hb : (valueAt kvs k).isSome = b) (h : Q (.bool (!b)) M own J) : G C (compareOp .NotIn key (.ref d)) M own J X Q := .mk fun ok s m loc S => by
 subst hw
 exact kdg_notin S.news (mR (mR hp)) hd lo hk b hb (Post.mk' S h)
theorem g_pop (hw : C.w = w) (l1 : Led) {l2 : Led} (hd : o.IsDictOf knd kvs) (hk : knd.is k key = true) (hpart : (keyPart key).isSome = true) (hargs : argsOk "dict.pop" ⟨[.ref d, key, df], []⟩) (hz : kvs.length ≤ sizeLine) (hl : valueAt kvs k = some v) (h : ∀ o', o'.IsDictOf knd (without kvs k) → Q v M (l1 ++ (d, o') :: l2) J) :
  G C (call (.builtin "dict.pop") [.ref d, key, df]) M (l1 ++ (d, o) :: l2) J X Q := .mk fun ok s m loc S => by
 subst hw
 exact kob_pop S.fr S.news S.updF hd hk (.inr ⟨df, rfl⟩) hpart hargs hl hz fun h' o' F' N' hd' => Post.mk' (S.upd F' N') (h o' hd')
theorem g_mpop (hw : C.w = w) {Q : Value × List Value → Loc → Led → Led → Prop} (hp : (d, o) ∈ own ++ J) (hd : o.IsDictOf knd kvs) (h : Q (.builtin "dict.pop", [.ref d]) M own J) : G C (getMethod (.ref d) "pop" pl) M own J X Q := .mk fun ok s m loc S => by
 subst hw
 have hD := kda_dict S.news (mR (mR hp)) hd
 exact getMethod_builtin hD.typeIs PySem.F.plainAttrs_dict PySem.F.slot_dict_pop PySem.F.type_dict_pop hD.mapOf.noDict (Post.of S h)
theorem g_popn (hw : C.w = w) (hp : (d, o) ∈ own ++ J) (hd : o.IsDictOf knd kvs) (lo : (d == sysModules) = false) (hk : knd.is k key = true) (hpart : (keyPart key).isSome = true) (hargs : argsOk "dict.pop" ⟨[.ref d, key, df], []⟩) (hl : valueAt kvs k = none) (h : Q df M own J) :
  G C (call (.builtin "dict.pop") [.ref d, key, df]) M own J X Q := .mk fun ok s m loc S => by
 subst hw
 have hD := kda_dict S.news (mR (mR hp)) hd
 exact call_meetsIn PySem.F.slot_dict_pop hD.typeIs PySem.F.entry_dict_pop hargs (meets_dict_pop_default (knd := knd) (d := d) hk lo hpart df) ⟨kvs, hD, hl, Post.mk' S h⟩
theorem g_dcopy (hw : C.w = w) (hp : (d, o) ∈ own ++ J) (hd : o.IsDictOf knd kvs) (lo : (d == sysModules) = false) (hz : kvs.length ≤ sizeLine) (h : ∀ d' o', (d' == sysModules) = false → o'.IsDictOf knd kvs → Q (.ref d') M ((d', o') :: own) J) : G C (call (.type "dict") [.ref d]) M own J X Q := .mk fun ok s m loc S => by
 subst hw
 refine kt_call_dict lo (kda_dict S.news (mR (mR hp)) hd) hz fun h' hd' hs => ?_
 obtain ⟨o', ho', hd''⟩ := Heap.dictOf_iff.mp hd'
 exact Post.mk' (h := h') (tk := s.toks) (S.mine (S.fr.filled hs) (News.filled S.fr S.news hs ho') fun p hp => Heap.lt_size (S.news p hp).1) (h _ o' (S.fr.notModules (modules_low ok.top.nolimit)) hd'')
theorem g_dcopyF (hw : C.w = w) (hp : (d, o) ∈ own ++ J) (hd : o.IsDictOf knd kvs) (lo : (d == sysModules) = false) (hz : kvs.length ≤ sizeLine) (h : ∀ d' o', (d' == sysModules) = false → o'.IsDictOf knd kvs → Q (.ref d') M own ((d', o') :: J)) : G C (call (.type "dict") [.ref d]) M own J X Q := .mk fun ok s m loc S => by
 subst hw
 refine kt_call_dict lo (kda_dict S.news (mR (mR hp)) hd) hz fun h' hd' hs => ?_
 obtain ⟨o', ho', hd''⟩ := Heap.dictOf_iff.mp hd'
 exact Post.mk' (h := h') (tk := s.toks) (S.ice (S.fr.filled hs) (News.filled S.fr S.news hs ho') fun p hp => Heap.lt_size (S.news p hp).1) (h _ o' (S.fr.notModules (modules_low ok.top.nolimit)) hd'')
end
noncomputable abbrev ExpK (Q : QF) : QV := fun _ M own J => Q .next M own J
theorem g_expr {Q : QF} (h : G C (eval e C.env) M own J X (ExpK Q)) (hs : swapsWith e none pos.line C.env = pure false) : G C (exec (.Expr e pos) C.env) M own J X Q := .mk fun ok s m loc S =>
 wpAny_Expr_any (h.use ok S rfl fun _ _ p => p) (by show (C.env.scope.kind == .module && _) = false; rw [ok.ek]; rfl) hs
noncomputable abbrev PairV (C : Cx) (kv : Value) (ks : List (Option Expr)) (vs : List Expr) (pos : Pos) (X : XP) (Q : List (Value × Value) → Loc → Led → Led → Prop) : QV := fun vv M own J => G C (evalPairs (pairTrees ks vs C.env pos)) M own J X (fun r M own J => Q ((kv, vv) :: r) M own J)
noncomputable abbrev PairK (C : Cx) (ve : Expr) (ks : List (Option Expr)) (vs : List Expr) (pos : Pos) (X : XP) (Q : List (Value × Value) → Loc → Led → Led → Prop) : QV := fun kv M own J => G C (eval ve C.env) M own J X (PairV C kv ks vs pos X Q)
theorem g_pairs {k v : Expr} {ks : List (Option Expr)} {vs : List Expr} {Q : List (Value × Value) → Loc → Led → Led → Prop} (h : G C (eval k C.env) M own J X (PairK C v ks vs pos X Q)) : G C (evalPairs (pairTrees (some k :: ks) (v :: vs) C.env pos)) M own J X Q := .mk fun ok s m loc S =>
 pairTrees_cons_walk (h.use ok S rfl fun _ _ p => Post.go p ok (fun _ _ _ q => q) fun _ _ p => Post.go p ok (fun _ _ _ q => q) fun _ _ x => x)
theorem g_pairs0 {Q : List (Value × Value) → Loc → Led → Led → Prop} (h : Q [] M own J) : G C (evalPairs (pairTrees [] [] C.env pos)) M own J X Q := .mk fun ok s m loc S => pairTrees_nil_walk (Post.of S h)
noncomputable abbrev DictK (w : World) (d : Addr) (o : Obj) (Q : QV) : List (Value × Value) → Loc → Led → Led → Prop := fun vs M own' J => ∃ own'', own' = (d, o) :: own'' ∧ allStrKeys vs = true ∧ ((strPairs vs).map (·.1)).Nodup ∧ ∀ o', o'.IsDictOf (PySem.strKind prog w) (strPairs vs) → Q (.ref d) M ((d, o') :: own'') J
theorem g_dict {w : World} (hw : C.w = w) {keys : List (Option Expr)} {values : List Expr} (hall : keys.all (·.isSome) = true) (hl : keys.length = values.length) (h0 : keys ≠ []) (hlen : keys.length ≤ 15)
  (h : ∀ d o, (d == sysModules) = false → G C (evalPairs (pairTrees keys values C.env pos)) M ((d, o) :: own) J X (DictK w d o Q)) : G C (eval (.Dict keys values pos) C.env) M own J X Q := .mk fun ok s m loc S => by
 subst hw
 refine kdn_eval (knd := PySem.strKind prog C.w) S.fr S.news ok.top.nolimit hall hl h0 hlen fun d h' o F' N' lt lo hd => ?_
 have S1 := S.mine F' N' lt
 refine (h d o lo).use ok S1 rfl fun vs s' p => ?_
 refine Post.elim p fun h1 tk M' o' J' m' loc' S' hqz => ?_
 obtain ⟨own'', rfl, hk, hn, q⟩ := hqz
 refine kdn_made_str S'.fr S'.news (St.updF (l1 := []) S') hd hk hn fun h2 o2 F2 N2 hd2 => ?_
 exact ⟨h2, _, _, _, _, _, _, rfl, St.upd (l1 := []) S' F2 N2, q o2 hd2⟩
theorem g_dict0 {w : World} (hw : C.w = w) (h : ∀ d o, (d == sysModules) = false → o.IsDictOf (PySem.strKind prog w) [] → o.IsDictOf (PySem.intKind prog w) [] → Q (.ref d) M ((d, o) :: own) J) : G C (eval (.Dict [] [] pos) C.env) M own J X Q := .mk fun ok s m loc S => by
 subst hw
 exact newDict_K S.fr S.news ok.top.nolimit fun d h' o F' N' lt lo a _ b _ => ⟨h', s.toks, _, _, _, _, _, rfl, S.mine F' N' lt, h d o lo a b⟩
theorem g_dict0F {w : World} (hw : C.w = w) (h : ∀ d o, (d == sysModules) = false → o.IsDictOf (PySem.strKind prog w) [] → o.IsDictOf (PySem.intKind prog w) [] → Q (.ref d) M own ((d, o) :: J)) : G C (eval (.Dict [] [] pos) C.env) M own J X Q := .mk fun ok s m loc S => by
 subst hw
 exact newDict_K S.fr S.news ok.top.nolimit fun d h' o F' N' lt lo a _ b _ => ⟨h', s.toks, _, _, _, _, _, rfl, S.ice F' N' lt, h d o lo a b⟩
end
theorem and_sz {P : Addr → Prop} (h : Nat.ble n 100 = true) (k : ∀ D, P D) : n ≤ sizeLine ∧ ∀ D, P D := ⟨size_ok h, k⟩
theorem and_cb {a : String} (h : P) : okCall K (.builtin a) = true ∧ P := ⟨rfl, h⟩
theorem and_ct {a : String} (h : P) : okCall K (.type a) = true ∧ P := ⟨rfl, h⟩
theorem and_cr (hk : keepIn K (.ref a) = true) (h : P) : okCall K (.ref a) = true ∧ P := ⟨hk, h⟩
section
variable {X : XP} {C : Cx} {Q : QV} {J own : Led} {M : Loc}
noncomputable abbrev ListK (Q : QV) : QL := fun vs M o J => vs.length ≤ sizeLine ∧ ∀ D, Q (.ref D) M ((D, listOf vs.toArray 0) :: o) J
theorem g_list (h : G C (spliced (backTo pos (starEach elts C.env))) M own J X (ListK Q)) : G C (eval (.List elts pos) C.env) M own J X Q := .mk fun ok s m loc S =>
 List_ (h.use ok S rfl fun vs s' p => by
  refine Post.elim p fun h1 tk M' o' J' m' loc' S' hqz => ?_
  obtain ⟨hz, q⟩ := hqz
  exact newList_K S'.fr S'.news (fun D h' F' N' lt => ⟨h', tk, M', _, _, m', loc', rfl, S'.mine F' N' lt, q D⟩) hz)
theorem g_append (l1 : Led) {l2 : Led} {vs : List Value} {x : Value} (hz : vs.length ≤ sizeLine) (h : Q .none M (l1 ++ (D, listOf (vs ++ [x]).toArray (n + 1)) :: l2) J) : G C (call (.builtin "list.append") [.ref D, x]) M (l1 ++ (D, listOf vs.toArray n) :: l2) J X Q := .mk fun ok s m loc S => by
 have e : (vs ++ [x]).toArray = vs.toArray.push x := by simp
 rw [e] at h
 exact append_K S.fr S.news S.updO (fun h' F' N' => Post.mk' (tk := s.toks) (S.upd F' N') h) (by simpa using hz)
theorem g_len_list {vs : List Value} (hp : (D, listOf vs.toArray n) ∈ own ++ J) (hz : vs.length ≤ sizeLine) (h : ∀ t, Q (.int vs.length t) M own J) : G C (call (.builtin "len") [.ref D]) M own J X Q := .mk fun ok s m loc S => by
 refine len_list (News.isList S.news (mR (mR hp))) (by rw [sizeLine_eq] at hz; simp; omega) ?_
 rw [show vs.toArray.size = vs.length from by simp]
 exact Post.mk' S (h _)
theorem g_item_list {vs : List Value} {k : Int} {x : Value} (hp : (D, listOf vs.toArray n) ∈ own ++ J) (h0 : 0 ≤ k) (hfit : k < 2 ^ 63) (hx : vs[k.toNat]? = some x) (h : Q x M own J)
  (hs : autoParam (subscripted slice false (.ref D) (.int k u) = operate [.ref D, .int k u] (getItem (.ref D) (.int k u))) zr) (hg : autoParam (∀ r, letTemporaryGo value (.ref D) r = pure ()) zr) : G C (subscriptTail value slice (.ref D) (.int k u)) M own J X Q := .mk fun ok s m loc S =>
 item_listL (News.isList S.news (mR (mR hp))) h0 hfit hx (Post.of S h) hs hg
theorem g_item_tup {vs : List Value} {k : Int} {x : Value} (hp : (D, ({ cls := .type "tuple", data := .seq vs.toArray n } : Obj)) ∈ own ++ J) (hlo : -(2 ^ 63) ≤ k) (hhi : k < 2 ^ 63) (hj : seqIndex? k vs.length = some j) (hx : vs[j]? = some x) (h : Q x M own J)
  (hs : autoParam (subscripted slice false (.ref D) (.int k u) = operate [.ref D, .int k u] (getItem (.ref D) (.int k u))) zr) : G C (subscriptTail value slice (.ref D) (.int k u)) M own J X Q := .mk fun ok s m loc S =>
 item_tupleT (News.isTup S.news (mR (mR hp))) hlo hhi hj hx (Post.of S h) hs
end
noncomputable def clOf (env : Env) : List (Str × NameKind) → List (Str × Addr) → List (Str × Addr)
 | [], acc => acc
 | (n, k) :: r, acc => if k == .free then clOf env r ((n, (env.cells.lookup n).getD 0) :: acc) else clOf env r acc
theorem clOf_c {env : Env} {p : Str × NameKind} {r : List (Str × NameKind)} {acc : List (Str × Addr)} : clOf env (p :: r) acc = if p.2 == .free then clOf env r ((p.1, (env.cells.lookup p.1).getD 0) :: acc) else clOf env r acc := rfl
theorem beq_f {a b : NameKind} (h : (a == b) = false) (e : a = b) : False := nomatch h.symm.trans (beq_iff_eq.mpr e)
theorem closure_go {env : Env} (names : List (Str × NameKind)) : ∀ (acc : List (Str × Addr)), (∀ p ∈ names, p.2 = .free → (env.cells.lookup p.1).isSome = true) →
  (forIn names acc (fun (x : Str × NameKind) (cs : List (Str × Addr)) => if x.2 == NameKind.free then (do let a ← cellOf env x.1; pure (ForInStep.yield ((x.1, a) :: cs))) else (pure (ForInStep.yield cs) : Sem (ForInStep (List (Str × Addr)))))) = pure (clOf env names acc) := by
 induction names with
 | nil => exact fun acc _ => rfl
 | cons p r ih =>
  intro acc h
  obtain ⟨n, k⟩ := p
  rw [List.forIn_cons]
  rw [clOf_c]
  dsimp only
  split
  ·rename_i hk
   obtain ⟨c, hc⟩ := Option.isSome_iff_exists.mp (h (n, k) (.head _) (beq_iff_eq.mp hk))
   have hc' : env.cells.lookup n = some c := hc
   have e : cellOf env n = pure c := by unfold cellOf; rw [hc']
   rw [e, hc']
   exact ih _ fun p hp => h p (.tail _ hp)
  ·exact ih acc fun p hp => h p (.tail _ hp)
theorem closure_is {scope : Scope} {env : Env} (h : ∀ p ∈ scope.names, p.2 = .free → (env.cells.lookup p.1).isSome = true) : closureFor scope env = pure (clOf env scope.names []) := by
 have := closure_go scope.names [] h
 unfold closureFor
 exact congrArg (fun x => x >>= fun r => pure r) this
theorem look_hd {x : Str} {v : α} {l : List (Str × α)} : List.lookup x ((x, v) :: l) = some v := by rw [List.lookup_cons, beq_self_eq_true]
theorem look_tl {x : Str} {p : Str × α} {l : List (Str × α)} (e : x ≠ p.1) : List.lookup x (p :: l) = l.lookup x := by rw [List.lookup_cons, beq_eq_false_iff_ne.mpr e]
theorem clOf_free {env : Env} {x : Str} (names : List (Str × NameKind)) : ∀ (acc : List (Str × Addr)), (x, NameKind.free) ∈ names ∨ acc.lookup x = some ((env.cells.lookup x).getD 0) → (clOf env names acc).lookup x = some ((env.cells.lookup x).getD 0) := by
 induction names with
 | nil => exact fun acc h => h.resolve_left fun h => nomatch h
 | cons p r ih =>
  intro acc h
  rw [clOf_c]
  split
  ·by_cases e : x = p.1
   ·subst e; exact ih _ (.inr look_hd)
   ·exact ih _ (h.imp (fun h => (List.mem_cons.mp h).resolve_left fun z => e (congrArg Prod.fst z)) fun z => (look_tl (p := (p.1, (env.cells.lookup p.1).getD 0)) e).trans z)
  ·rename_i hk
   exact ih acc (h.imp_left fun h => (List.mem_cons.mp h).resolve_left fun z => hk (beq_iff_eq.mpr (congrArg Prod.snd z).symm))
theorem clOf_mem {env : Env} {x : Str} {c : Addr} (names : List (Str × NameKind)) : ∀ (acc : List (Str × Addr)), (clOf env names acc).lookup x = some c → (x, NameKind.free) ∈ names ∨ acc.lookup x = some c := by
 induction names with
 | nil => exact fun acc h => .inr h
 | cons p r ih =>
  obtain ⟨n, k⟩ := p
  intro acc h
  rw [clOf_c] at h
  split at h
  ·rename_i hk
   rcases ih _ h with z | z
   ·exact .inl (.tail _ z)
   ·rcases look_cons z with ⟨rfl, _⟩ | ⟨_, z⟩
    ·exact .inl (beq_iff_eq.mp hk ▸ .head _)
    ·exact .inr z
  ·exact (ih acc h).imp_left (.tail _)
theorem cellsFrom_other {x : Str} (names : List (Str × NameKind)) : ∀ (n : Nat) (acc : List (Str × Addr)), (x, NameKind.cell) ∉ names → (cellsFrom n names acc).lookup x = acc.lookup x := by
 induction names with
 | nil => exact fun n acc _ => rfl
 | cons p r ih =>
  obtain ⟨y, k⟩ := p
  intro n acc h
  unfold cellsFrom
  split
  ·rename_i hk
   exact (ih _ _ fun z => h (.tail _ z)).trans (look_tl fun e => h (e ▸ beq_iff_eq.mp hk ▸ .head _))
  ·exact ih _ _ fun z => h (.tail _ z)
theorem cellsFrom_own {x : Str} (names : List (Str × NameKind)) : ∀ (n : Nat) (acc : List (Str × Addr)), ((x, NameKind.cell) ∈ names ∨ ∃ c, acc.lookup x = some c) → (∃ c, (cellsFrom n names acc).lookup x = some c) := by
 induction names with
 | nil => exact fun n acc h => h.resolve_left fun h => nomatch h
 | cons p r ih =>
  obtain ⟨y, k⟩ := p
  intro n acc h
  unfold cellsFrom
  split
  ·by_cases e : x = y
   ·subst e; exact ih _ _ (.inr ⟨n, look_hd⟩)
   ·exact ih _ _ (h.imp (fun h => (List.mem_cons.mp h).resolve_left fun z => e (congrArg Prod.fst z)) fun h => h.imp fun c hc => (look_tl e).trans hc)
  ·rename_i hk
   exact ih _ _ (h.imp_left fun h => (List.mem_cons.mp h).resolve_left fun z => hk (beq_iff_eq.mpr (congrArg Prod.snd z).symm))
theorem cellsFrom_acc (names : List (Str × NameKind)) : ∀ (n : Nat) (acc : List (Str × Addr)), cellsFrom n names acc = cellsFrom n names [] ++ acc := by
 induction names with
 | nil => exact fun n acc => rfl
 | cons p r ih =>
  obtain ⟨y, k⟩ := p
  intro n acc
  unfold cellsFrom
  split
  ·rw [ih (n + 1) ((y, n) :: acc), ih (n + 1) [(y, n)], List.append_assoc]; rfl
  ·exact ih n acc
theorem comp_new {M : Model} {s : Shared} {scope : Scope} {env : Env} {Q : Env → Shared → Prop}
  (hQ : Q { scope := scope, locals := s.heap.objs.size, globals := env.globals, cells := cellsFrom (s.heap.objs.size + 1) scope.names cl, qual := env.qual, func := none, code := env.code, frame := env.frame, builtins := env.builtins }
   { s with heap := pushCells (s.heap.push { cls := .type "dict", data := .dict #[] }) scope.names }) :
  wpAny M A (newFunctionEnv scope env.globals cl [] env.qual none .none (some env)) Q E s := by
 unfold newFunctionEnv
 dsimp only [Option.isSome]
 rw [if_pos rfl]
 refine wpAny_bind (wpAny_alloc ?_)
 refine wpAny_bind (wpAny_layCells _ (fun name kind cells => by cases hkc : kind == NameKind.cell <;> simp [hkc]) _ _ _ _ ?_)
 rw [show ({ s with heap := s.heap.push { cls := .type "dict", data := .dict #[] } } : Shared).heap.objs.size = s.heap.objs.size + 1 from Heap.size_push ..]
 exact wpAny_pure hQ
theorem relabel_look {env : Env} {x : Str} (names : List (Str × NameKind)) : (names.map fun (n, k) => if (k == NameKind.free && env.scope.kind == .function && env.kindOf n == some .cell) then (n, NameKind.cell) else (n, k)).lookup x =
  (names.lookup x).map fun k => if (k == NameKind.free && env.scope.kind == .function && env.kindOf x == some .cell) then NameKind.cell else k := by
 induction names with
 | nil => rfl
 | cons p r ih =>
  obtain ⟨n, k⟩ := p
  rw [List.map_cons]
  by_cases e : x = n
  ·subst e
   rw [look_hd]
   dsimp only [Option.map]
   split <;> exact look_hd
  ·rw [look_tl (p := (n, k)) e, look_tl, ih]
   dsimp only
   split <;> exact e
noncomputable abbrev compCx (C : Cx) (scope : Scope) (m : Str → Option Value) (loc : Led) (Cad : Addr) (cells : List (Str × Addr)) : Cx :=
 { C with env := compEnvC scope cells Cad C.env, fr := loc ++ C.fr, fm := some m, oc := fun x => scope.names.lookup x == some .cell }
theorem pushCells_old {h : Heap} {b : Addr} {o : Obj} (names : List (Str × NameKind)) (e : h.get? b = some o) : (pushCells h names).get? b = some o := pushCells_keeps names h b o e
theorem mem_look {x : Str} {k : α} {names : List (Str × α)} (nd : (names.map (·.1)).Nodup) (hm : (x, k) ∈ names) : names.lookup x = some k := by
 induction names with
 | nil => cases hm
 | cons p r ih =>
  obtain ⟨n1, n2⟩ := List.nodup_cons.mp nd
  rcases List.mem_cons.mp hm with rfl | z
  ·exact look_hd
  ·exact (look_tl fun e => n1 (List.mem_map.mpr ⟨_, z, e⟩)).trans (ih n2 z)
theorem nodup_kind {x : Str} {k k' : NameKind} {names : List (Str × NameKind)} (nd : (names.map (·.1)).Nodup) (h : names.lookup x = some k) (hm : (x, k') ∈ names) : k = k' := Option.some.inj (h.symm.trans (mem_look nd hm))
inductive Cap (C : Cx) (loc : Led) (L₀ : Loc) (x : Str) : Prop
 | mk (v : Value) (c : Addr) (o : Obj) : L₀.lookup x = some v → C.env.cells.lookup x = some c → (c, o) ∈ loc ++ C.fr → o.data = .cell (some v) → Cap C loc L₀ x
section
variable {C : Cx} {M L₀ : Loc} {own J loc : Led} {s : Shared} {m : Str → Option Value} {scope : Scope} {n c : Nat} {x : Str}
theorem comp_cap {h : Heap} (S : St C M own J h m loc) (hfree : ∀ p ∈ scope.names, p.2 = .free → C.env.kindOf p.1 = some .cell ∧ (L₀.lookup p.1).isSome = true) (hL : Has M L₀) (hx : (x, NameKind.free) ∈ scope.names) : Cap C loc L₀ x := by
 obtain ⟨h1, h2⟩ := hfree _ hx rfl
 obtain ⟨v, hv⟩ := Option.isSome_iff_exists.mp h2
 obtain ⟨c, o, a2, a3, a4⟩ := (S.vars.vars x v (hL x v hv)).celled h1
 exact .mk v c o hv a2 a3 a4
theorem comp_lkF (hnd : (scope.names.map (·.1)).Nodup) (cap : ∀ x, (x, NameKind.free) ∈ scope.names → Cap C loc L₀ x) (hx : scope.names.lookup x = some .free) : (cellsFrom n scope.names (clOf C.env scope.names [])).lookup x = C.env.cells.lookup x := by
 have hm := look_mem hx
 obtain ⟨v, c, o, _, h2, _, _⟩ := cap x hm
 rw [cellsFrom_other _ _ _ (fun z => nomatch nodup_kind hnd hx z), clOf_free _ _ (.inl hm), h2]; rfl
theorem comp_lkO {h : Heap} (S : St C M own J h m loc) (cap : ∀ x, (x, NameKind.free) ∈ scope.names → Cap C loc L₀ x) (hh : (cellsFrom (h.objs.size + 1) scope.names (clOf C.env scope.names [])).lookup x = some c) :
  ((x, NameKind.cell) ∈ scope.names ∧ ((cellsFrom (h.objs.size + 1) scope.names []).lookup x = some c ∧ h.objs.size + 1 ≤ c)) ∨ ((x, NameKind.free) ∈ scope.names ∧ c < h.objs.size) := by
 by_cases hx : (x, NameKind.cell) ∈ scope.names
 ·left
  rw [cellsFrom_acc, List.lookup_append] at hh
  obtain ⟨c', hc'⟩ := cellsFrom_own scope.names (h.objs.size + 1) [] (.inl hx)
  rw [hc'] at hh
  cases hh
  exact ⟨hx, hc', ((cells_from scope.names (h.objs.size + 1) [] (fun _ h => nomatch h) List.nodup_nil).2 _ (look_mem hc')).resolve_left fun z => nomatch z⟩
 ·right
  rw [cellsFrom_other _ _ _ hx] at hh
  have hf := (clOf_mem _ _ hh).resolve_right fun z => nomatch z
  obtain ⟨v, c', o, h1, h2, h3, h4⟩ := cap x hf
  have q := clOf_free (env := C.env) scope.names [] (.inl hf)
  rw [hh, h2] at q
  cases q
  exact ⟨hf, Heap.lt_size (S.news _ (mem_lf h3)).1⟩
theorem comp_ok {h : Heap} (ok : C.Ok) (S : St C M own J h m loc) (hk : scope.kind = .function) (hnd : (scope.names.map (·.1)).Nodup) (cap : ∀ x, (x, NameKind.free) ∈ scope.names → Cap C loc L₀ x) :
  (compCx C scope m loc h.objs.size (cellsFrom (h.objs.size + 1) scope.names (clOf C.env scope.names []))).Ok := { ok with
   ek := hk
   ci := fun x y c hy h1 h2 => by
    rcases comp_lkO S cap h2 with ⟨z1, z2, z3⟩ | ⟨z1, z3⟩
    ·rcases comp_lkO S cap h1 with ⟨w1, w2, w3⟩ | ⟨_, w3⟩
     ·exact nodup_inj (cells_from scope.names (h.objs.size + 1) [] (fun _ h => nomatch h) List.nodup_nil).1 w2 z2
     ·exact absurd (Nat.lt_of_lt_of_le w3 (Nat.le_of_succ_le z3)) (Nat.lt_irrefl _)
    ·exact nomatch nodup_kind hnd (beq_iff_eq.mp hy) z1
   fm := fun e => absurd e (Nat.ne_of_lt S.fr.ns.lt).symm
   hx := fun p hp => ⟨mR (ok.hx p hp).1, (ok.hx p hp).2⟩ }
theorem comp_st {h : Heap} (ok : C.Ok) (S : St C M own J h m loc) (hnd : (scope.names.map (·.1)).Nodup) (hfree : ∀ p ∈ scope.names, p.2 = .free → C.env.kindOf p.1 = some .cell ∧ (L₀.lookup p.1).isSome = true) (cap : ∀ x, (x, NameKind.free) ∈ scope.names → Cap C loc L₀ x) (hon : ∀ x v, L₀.lookup x = some v → scope.names.lookup x = some .free) :
  ∃ loc', St (compCx C scope m loc h.objs.size (cellsFrom (h.objs.size + 1) scope.names (clOf C.env scope.names []))) L₀ own J (pushCells (h.push { cls := .type "dict", data := .dict #[] }) scope.names) m loc' ∧ ∀ p ∈ loc', h.objs.size ≤ p.1 := by
 have nL : h.objs.size ≠ C.L := (Nat.ne_of_lt S.fr.ns.lt).symm
 have old : ∀ b o, h.get? b = some o → (pushCells (h.push { cls := .type "dict", data := .dict #[] }) scope.names).get? b = some o := fun b o e => pushCells_old _ (Heap.get?_push_of_some _ e)
 have cok := cellsFrom_ok scope.names (h.push { cls := .type "dict", data := .dict #[] }) (h.objs.size + 1) [] ⟨fun _ _ hm => (nomatch hm), List.Pairwise.nil⟩ (Heap.size_push .. ▸ Nat.le_refl _)
 rw [Heap.size_push] at cok
 obtain ⟨cobs, NC, Y⟩ := Cl.news (h₀ := C.h₀) (L := h.objs.size) (cm := fun _ => none) (cs := cellsFrom (h.objs.size + 1) scope.names []) (Nat.le_of_lt (Nat.lt_of_le_of_lt S.fr.above S.fr.ns.lt)) (fun n c hm => ⟨(cok.empty n c hm).1, (cok.empty n c hm).2⟩)
 obtain ⟨cn, cge⟩ := cells_ge Y
 have lt0 : ∀ p ∈ St.all C own J loc, p.1 < h.objs.size := fun p hp => Heap.lt_size (S.news p hp).1
 have ge : ∀ p ∈ (h.objs.size, ({ cls := .type "dict", data := .dict #[] } : Obj)) :: cobs, h.objs.size ≤ p.1 := fun p hp => (List.mem_cons.mp hp).elim (fun e => e ▸ Nat.le_refl _) fun z => Nat.le_of_succ_le (cge p z)
 refine ⟨(h.objs.size, { cls := .type "dict", data := .dict #[] }) :: cobs, ⟨S.fr.keeps old, fun p hp => ?_, ?_, ⟨fun x v hx => ?_, fun x _ hoc => ?_, fun m₀ e => Option.some.inj e, fun _ => ⟨_, fun _ => none, .head _, #[], 0, rfl, fun _ he => (by simp at he), fun _ => rfl⟩⟩⟩, ge⟩
 ·rcases List.mem_append.mp hp with z | z
  ·rcases List.mem_cons.mp z with rfl | z
   ·exact ⟨pushCells_old _ (Heap.get?_push_size _ rfl), nL, next_is_new S.fr⟩
   ·exact ⟨(NC p z).1, fun e => Nat.lt_irrefl _ (Nat.lt_of_le_of_lt (Nat.le_of_succ_le (cge p z)) (e ▸ S.fr.ns.lt)), (NC p z).2.2⟩
  ·have q := S.news p (List.append_assoc loc C.fr (own ++ J) ▸ z)
   exact ⟨old _ _ q.1, q.2⟩
 ·show Apart (((h.objs.size, ({ cls := .type "dict", data := .dict #[] } : Obj)) :: cobs) ++ ((loc ++ C.fr) ++ own)) J
  rw [List.append_assoc]
  exact S.apart.above (List.nodup_cons.mpr ⟨fun hm => (List.mem_map.mp hm).elim fun q hq => Nat.not_succ_le_self _ (hq.2 ▸ cge q hq.1), cn⟩) ge (fun q hq => lt0 q (mem_all_own hq)) fun q hq => lt0 q (mem_all_ice hq)
 ·have hx' := hon x v hx
  obtain ⟨v', c, o, h1, h2, h3, h4⟩ := cap x (look_mem hx')
  cases hx.symm.trans h1
  refine .cell c o false ?_ ((comp_lkF hnd cap hx').trans h2) (mR h3) h4
  show (compEnvC scope _ h.objs.size C.env).kindOf x = some .cell
  refine (relabel_look scope.names).trans ?_
  rw [hx', Option.map_some, if_pos (by rw [ok.ek, (hfree _ (look_mem hx') rfl).1]; rfl)]
 ·obtain ⟨c, hc⟩ := cellsFrom_own scope.names (h.objs.size + 1) [] (.inl (look_mem (beq_iff_eq.mp hoc)))
  obtain ⟨o, h1, h2⟩ := (cells_are Y).2 x c hc
  refine ⟨c, o, none, ?_, .tail _ h1, h2⟩
  show (cellsFrom _ _ _).lookup x = some c
  rw [cellsFrom_acc, List.lookup_append, hc]; rfl
theorem comp_back {h : Heap} {loc'' : Led} {m' : Str → Option Value} {cells : List (Str × Addr)} (S : St C M own J h m loc) (S2 : St (compCx C scope m loc h.objs.size cells) M' own' J' h' m' loc'') :
  St C M own' J' h' m loc ∧ ((∃ mc, h'.Ns h.objs.size mc) ∧ ∀ p ∈ St.all C own' J' loc, p.1 ≠ h.objs.size) := by
 have nL : h.objs.size ≠ C.L := (Nat.ne_of_lt S.fr.ns.lt).symm
 obtain rfl : m = m' := (S2.vars.fix m rfl).symm
 obtain ⟨o, mc, ho, es, ep, hd1, hd2, hd3⟩ := S2.vars.ns nL
 have A : Apart (loc'' ++ (loc ++ (C.fr ++ own'))) J' := List.append_assoc loc C.fr own' ▸ S2.apart
 have nd := List.map_append ▸ A.1
 refine ⟨⟨S2.fr, fun p hp => S2.news p (mR ((List.append_assoc loc C.fr (own' ++ J')).symm ▸ hp)), A.tailL, S.vars⟩, ⟨mc, o, es, ep, (S2.news _ (mL ho)).1, hd1, hd2, hd3⟩, fun p hp e => (all_or hp).elim (fun hp => (List.nodup_append.mp nd).2.2 _ (List.mem_map_of_mem ho) _ (List.mem_map_of_mem hp) e.symm) fun hp => A.2 _ (mL ho) p hp e.symm⟩
end
noncomputable abbrev TestIfE (E KS : Loc → Led → Led → Prop) : QB := fun b M o J => (b = true → E M o J) ∧ (b = false → KS M o J)
noncomputable def TestE (C : Cx) (ifs : List Expr) (E KS : Loc → Led → Led → Prop) (M : Loc) (o J : Led) : Prop := match ifs with
 | [] => E M o J
 | [t] => G C (isTrue t C.env (eval t C.env)) M o J noX (TestIfE E KS)
 | _ => False
noncomputable abbrev TestIf (C : Cx) (elt : Expr) (K : QV) (KS : Loc → Led → Led → Prop) : QB := fun b M o J => (b = true → G C (eval elt C.env) M o J noX K) ∧ (b = false → KS M o J)
noncomputable abbrev AsgT (C : Cx) (ifs : List Expr) (elt : Expr) (K : QV) (KS : Loc → Led → Led → Prop) : Unit → Loc → Led → Led → Prop := fun _ M o J => TestE C ifs (fun M o J => G C (eval elt C.env) M o J noX K) KS M o J
structure InComp (C C' : Cx) (sc : Scope) : Prop where
 w : C'.w = C.w
 scope : C'.env.scope = relabel sc C.env
 dl : C'.dl = C.dl
 ul : C'.ul = C.ul
 hn : C'.hn = C.hn
 oc : C'.oc = fun x => sc.names.lookup x == some .cell
inductive MidS (L₀ : Loc) (D : Addr) (Ni : Obj → Led → Led → Prop) : Loc → Led → Led → Prop
 | mk {M : Loc} {oD : Obj} {o' J : Led} : Has M L₀ → Ni oD o' J → MidS L₀ D Ni M ((D, oD) :: o') J
noncomputable def EltS (C : Cx) (s : Shared) (Mid : Loc → Led → Led → Prop) (El : (Shared → Prop) → Shared → Prop) (M : Loc) (o J : Led) : Prop := ∀ h tk m loc (Nx : Shared → Prop), St C M o J h m loc →
 (∀ h tk M o J m loc, St C M o J h m loc → Mid M o J → Nx { s with heap := h, toks := tk }) → El Nx { s with heap := h, toks := tk }
inductive CLoopE (C : Cx) (L₀ : Loc) (s : Shared) (I D : Addr) (n : Nat) (Sw : Nat → Heap → Prop) (Inv : Nat → Obj → Led → Led → Prop) : Nat → Shared → Prop
 | mk (i : Nat) (oD : Obj) (o' J' : Led) (m' : Str → Option Value) (loc' : Led) (h : Heap) (tk : Nat) : i ≤ n → Sw i h → St C L₀ ((D, oD) :: o') J' h m' loc' → (∀ p ∈ St.all C ((D, oD) :: o') J' loc', p.1 ≠ I) → Inv i oD o' J' → CLoopE C L₀ s I D n Sw Inv (n - i) { s with heap := h, toks := tk }
section
variable {C : Cx} {M L₀ : Loc} {own J loc B : Led} {s : Shared} {m : Str → Option Value} {e target iter : Expr} {ifs : List Expr} {scope : Scope} {pos : Pos} {I D : Addr} {n : Nat} {P : Nat → Value → Prop} {h : Heap} {tk : Nat} {R : Result → Shared → Prop}
theorem comp_loopE {o0 : Obj} {El : (Shared → Prop) → Shared → Prop} (it : It C B I n P L₀ ((D, o0) :: own) J loc m h) (ok : C.Ok) (Inv : Nat → Obj → Led → Led → Prop) (hB : ∀ i oD o' J', Inv i oD o' J' → ∀ p ∈ B, p ∈ o' ++ J') (i0 : Inv 0 o0 own J)
  (turn : ∀ oI i v oD own' J', (C.frs ((I, oI) :: C.fr)).Ok → i < n → P i v → Inv i oD own' J' → G (C.frs ((I, oI) :: C.fr)) (assign target C.env v) L₀ ((D, oD) :: own') J' noX fun _ M o J => TestE (C.frs ((I, oI) :: C.fr)) ifs (EltS (C.frs ((I, oI) :: C.fr)) s (MidS L₀ D (Inv (i + 1))) El) (MidS L₀ D (Inv (i + 1))) M o J)
  (done : ∀ oD own' J' h tk m' loc', St C L₀ ((D, oD) :: own') J' h m' loc' → Inv n oD own' J' → R (.ok .next) { s with heap := h, toks := tk })
  (rule : ∀ (Iv : Nat → Shared → Prop), (∀ k s, Iv k s → wpAny (model prog C.w) C.A (pyNext (.ref I)) (fun r s₁ => match r with
   | none => R (.ok .next) s₁
   | some v => wpAny (model prog C.w) C.A (assign target C.env v) (fun _ s₂ =>
     wpAny (model prog C.w) C.A (forIn ifs true fun c r => if r = true then do let ok ← isTrue c C.env (eval c C.env); pure (ForInStep.yield ok) else pure (ForInStep.yield r)) (fun ok s₃ =>
      if ok = true then El (fun s₅ => ∃ m, m < k ∧ Iv m s₅) s₃
      else ∃ m, m < k ∧ Iv m s₃) (notedBy (model prog C.w) C.A C.env fun e s' => R (.error e) s') s₂) (notedBy (model prog C.w) C.A C.env fun e s' => R (.error e) s') s₁) (notedBy (model prog C.w) C.A C.env fun e s' => R (.error e) s') s) → ∀ k, Iv k { s with heap := h, toks := tk } → codeAny (model prog C.w) C.A (.compLoop e 0 (.ref I) (.ref D) C.env) R { s with heap := h, toks := tk }) :
  codeAny (model prog C.w) C.A (.compLoop e 0 (.ref I) (.ref D) C.env) R { s with heap := h, toks := tk } := by
 obtain ⟨fp, Sw, W, live, S, st, hI, hL, h0, hfp⟩ := it
 refine rule (CLoopE C L₀ s I D n Sw Inv) ?_ (n - 0) (.mk 0 o0 own J m loc h tk (Nat.zero_le _) st S hI i0)
 rintro k s' ⟨i, oD, o', J', m', loc', h, tk, hi, sw, S', hI', inv⟩
 rcases Nat.lt_or_ge i n with lt | ge
 ·refine W.item i _ _ _ lt sw fun v h' tk' hP sw' keep => ?_
  have S2 : St C L₀ ((D, oD) :: o') J' h' m' loc' := S'.iter hI' hL h0 fun b o ne e => keep b o (fun hm => ne (List.mem_singleton.mp hm)) e
  obtain ⟨oI, _, _, hoI, _, hd, _⟩ := live _ _ sw'
  have back : ∀ h tk M o J m loc, St (C.frs ((I, oI) :: C.fr)) M o J h m loc → MidS L₀ D (Inv (i + 1)) M o J → ∃ m, m < n - i ∧ CLoopE C L₀ s I D n Sw Inv m { s with heap := h, toks := tk } := fun h4 tk4 M4 o4 J4 m4 loc4 S4 mid => by
   obtain ⟨kI, S5, hI5⟩ := hide_out (fun v e => nomatch hd.symm.trans e) S4
   obtain ⟨hM, inv4⟩ := mid
   refine ⟨n - (i + 1), Nat.sub_succ_lt_self _ _ lt, .mk (i + 1) _ _ J4 m4 loc4 h4 tk4 lt (W.frame _ _ _ sw' fun b hb o e => ?_) ⟨S5.fr, S5.news, S5.apart, ⟨fun x v e => S5.vars.vars x v (hM x v e), S5.vars.cells, S5.vars.fix, S5.vars.ns⟩⟩ hI5 inv4⟩
   by_cases q : b = I
   ·subst q; exact kI.trans (hoI.symm.trans e)
   ·exact S2.keeps S5 (hfp b hb q) (fun p hp => .tail _ (hB _ _ _ _ inv p hp)) (fun p hp => .tail _ (hB _ _ _ _ inv4 p hp)) e
  refine wpAny_mono ((turn oI i v oD o' J' ok.hide lt hP inv).go ok.hide { s with heap := h', toks := tk' } m' loc' (hide_in S2 hoI hL h0 hI')) (fun _ s'' p => ?_) fun e s'' p => p.never.elim
  refine Post.elim p fun h3 tk3 M3 o3 J3 m3 loc3 S4 t => ?_
  cases ifs with
  | nil => exact wpAny_of_eq (a := true) rfl (t h3 tk3 m3 loc3 _ S4 back)
  | cons c r => cases r with
   | nil =>
    refine wpAny_tests_one (wpAny_mono (G.go t ok.hide { s with heap := h3, toks := tk3 } m3 loc3 S4) (fun b s₄ p => ?_) fun e s'' p => p.never.elim)
    refine Post.elim p fun h4 tk4 M4 o4 J4 m4 loc4 S5 q => ?_
    cases b with
    | true => exact q.1 rfl h4 tk4 m4 loc4 _ S5 back
    | false => exact back _ _ _ _ _ _ _ S5 (q.2 rfl)
   | cons => exact t.elim
 ·obtain rfl : n = i := Nat.le_antisymm ge hi
  exact W.done _ _ _ sw fun h' tk' keep => done oD o' J' h' tk' m' loc' (S'.iter hI' hL h0 fun b o ne e => keep b o (fun hm => ne (List.mem_singleton.mp hm)) e) inv
theorem TestE.mono {E E' KS' : Loc → Led → Led → Prop} {o : Led} (t : TestE C ifs E KS M o J) (hE : ∀ M o J, E M o J → E' M o J) (hK : ∀ M o J, KS M o J → KS' M o J) : TestE C ifs E' KS' M o J := by
 cases ifs with
 | nil => exact hE _ _ _ t
 | cons c r => cases r with
  | nil => exact G.mono t (fun b M o J q => ⟨fun z => hE _ _ _ (q.1 z), fun z => hK _ _ _ (q.2 z)⟩) fun _ _ _ x => x
  | cons => exact t.elim
inductive LInv (Inv : Nat → List Value → Led → Led → Prop) (i : Nat) : Obj → Led → Led → Prop
 | mk {ys : List Value} {c : Nat} {o' J' : Led} : ys.length ≤ i → Inv i ys o' J' → LInv Inv i (listOf ys.toArray c) o' J'
inductive KL (L₀ : Loc) (D : Addr) (Ni : List Value → Led → Led → Prop) (ys : List Value) (c : Nat) : Value → Loc → Led → Led → Prop
 | mk {y : Value} {M : Loc} {o J : Led} : Has M L₀ → Ni (ys ++ [y]) o J → KL L₀ D Ni ys c y M ((D, listOf ys.toArray c) :: o) J
theorem comp_loop (it : It C B I n P L₀ ((D, listOf ([] : List Value).toArray 0) :: own) J loc m h) (ok : C.Ok) (hsz : n ≤ sizeLine) (Inv : Nat → List Value → Led → Led → Prop) (hB : ∀ i ys o' J', Inv i ys o' J' → ∀ p ∈ B, p ∈ o' ++ J') (i0 : Inv 0 [] own J) (ht : ∀ v, letOwnedTupleGo target (.ref I) v = pure ())
  (turn : ∀ oI i v ys own' J' k (K : QV) (KS : Loc → Led → Led → Prop), i < n → P i v → Inv i ys own' J' →
   (∀ y M o J, Has M L₀ → Inv (i + 1) (ys ++ [y]) o J → K y M ((D, listOf ys.toArray k) :: o) J) → (∀ M o J, Has M L₀ → Inv (i + 1) ys o J → KS M ((D, listOf ys.toArray k) :: o) J) →
   G (C.frs ((I, oI) :: C.fr)) (assign target C.env v) L₀ ((D, listOf ys.toArray k) :: own') J' noX (AsgT (C.frs ((I, oI) :: C.fr)) ifs elt K KS))
  (done : ∀ oD own' J' h tk m' loc', St C L₀ ((D, oD) :: own') J' h m' loc' → LInv Inv n oD own' J' → R (.ok .next) { s with heap := h, toks := tk }) :
  codeAny (model prog C.w) C.A (.compLoop (.ListComp elt [⟨target, iter, ifs, 0⟩] scope pos) 0 (.ref I) (.ref D) C.env) R { s with heap := h, toks := tk } := by
 refine comp_loopE (target := target) (ifs := ifs) (El := fun Nx s₃ => wpAny (model prog C.w) C.A (eval elt C.env) (fun x s₄ => wpAny (model prog C.w) C.A (call (.builtin "list.append") [.ref D, x]) (fun _ s₅ => Nx s₅) (notedBy (model prog C.w) C.A C.env fun e s' => R (.error e) s') s₄) (notedBy (model prog C.w) C.A C.env fun e s' => R (.error e) s') s₃) it ok (LInv Inv) (fun i oD o' J' inv => by cases inv with | mk _ inv => exact hB _ _ _ _ inv) (.mk (Nat.le_refl _) i0) (fun oI i v oD own' J' ok' lt hP inv => ?_) done fun Iv hIv k hk => codeAny_compLoop_tests Iv hIv k hk ht
 cases inv with
 | @mk ys c _ _ hyl inv =>
 refine (turn oI i v ys own' J' c (KL L₀ D (Inv (i + 1)) ys c) (MidS L₀ D (LInv Inv (i + 1))) lt hP inv (fun _ _ _ _ h1 h2 => .mk h1 h2) fun _ _ _ h1 h2 => .mk h1 (.mk (Nat.le_succ_of_le hyl) h2)).mono (fun _ _ _ _ t => t.mono (fun M o J g h tk m loc Nx S k => ?_) fun _ _ _ x => x) fun _ _ _ x => x
 refine wpAny_mono (g.go ok' { s with heap := h, toks := tk } m loc S) (fun y s₄ p => ?_) fun e s'' p => p.never.elim
 refine Post.elim p fun h4 tk4 M4 o4 J4 m4 loc4 S4 q => ?_
 obtain ⟨hM, inv4⟩ := q
 refine wpAny_mono ((g_append (X := noX) (Q := fun _ M o J => MidS L₀ D (LInv Inv (i + 1)) M o J) [] (Nat.le_trans hyl (Nat.le_trans (Nat.le_of_lt lt) hsz)) (.mk hM (.mk (by rw [List.length_append]; exact Nat.succ_le_succ hyl) inv4))).go ok' { s with heap := h4, toks := tk4 } m4 loc4 S4) (fun _ s₅ p => ?_) fun e s'' p => p.never.elim
 exact Post.elim p fun h5 tk5 M5 o5 J5 m5 loc5 S5 q => k _ _ _ _ _ _ _ S5 q
end
theorem turnK {C : Cx} {w : World} {e : Option (Addr × Obj)} {oc : Str → Bool} {P : Prop} (s : Same C C') (hw : C.w = w) (hs : C.env.scope = SC) (hl : C.env.locals = C.L) (hn : C.hn = e) (hfe : C.env = C.fe) (hoc : C.oc = oc)
  (k : C'.w = w → C'.env.scope = SC → C'.env.locals = C'.L → C'.hn = e → C'.env = C'.fe → C'.oc = oc → C'.dl = C.dl → C'.ul = C.ul → P) : P :=
 k (s.w.trans hw) ((congrArg Env.scope s.env).trans hs) (((congrArg Env.locals s.env).trans hl).trans s.L.symm) (s.hn.trans hn) ((s.env.trans hfe).trans s.fe.symm) (s.oc.trans hoc) s.dl s.ul
theorem compK {C : Cx} {w : World} {sc : Scope} {e : Option (Addr × Obj)} {P : Prop} (i : InComp C C' sc) (hw : C.w = w) (hn : C.hn = e) (k : C'.w = w → C'.env.scope = relabel sc C.env → C'.hn = e → C'.dl = C.dl → C'.ul = C.ul → (C'.oc = fun x => sc.names.lookup x == some .cell) → P) : P :=
 k (i.w.trans hw) i.scope (i.hn.trans hn) i.dl i.ul i.oc
theorem compKh {C : Cx} {w : World} {sc : Scope} {P : Prop} (i : InComp C C' sc) (hw : C.w = w) (hn : hh = false → C.hn = none) (k : C'.w = w → C'.env.scope = relabel sc C.env → (hh = false → C'.hn = none) → C'.dl = C.dl → C'.ul = C.ul → (C'.oc = fun x => sc.names.lookup x == some .cell) → P) : P :=
 k (i.w.trans hw) i.scope (fun x => i.hn.trans (hn x)) i.dl i.ul i.oc
structure CompSc (C : Cx) (scope : Scope) (M L₀ : Loc) : Prop where
 hk : scope.kind = .function
 nd : (scope.names.map (·.1)).Nodup
 free : ∀ p ∈ scope.names, p.2 = .free → C.env.kindOf p.1 = some .cell ∧ (L₀.lookup p.1).isSome = true
 has : Has M L₀
 only : ∀ x v, L₀.lookup x = some v → scope.names.lookup x = some .free
noncomputable def CompEnd (C : Cx) (use : Option (Value → Sem Unit)) (X : XP) (Q : QV) (acc : Value) (M : Loc) (own J : Led) : Prop := match use with
 | none => Q acc M own J
 | some u => ∀ C₂, Same C C₂ → G C₂ (u acc) M own J noX (fun _ M o J => Q .none M o J)
noncomputable def CompG (C : Cx) (e : Expr) (scope : Scope) (use : Option (Value → Sem Unit)) (X : XP) (Q : QV) (xv : Value) (M : Loc) (own J : Led) : Prop :=
 C.Ok → ∀ s m loc, St C M own J s.heap m loc → wpAny (model prog C.w) C.A (pyIter xv) (fun it s₂ => wpAny (model prog C.w) C.A (newList []) (fun acc s₃ => wpAny (model prog C.w) C.A (newFunctionEnv scope C.env.globals (clOf C.env scope.names []) [] C.env.qual none .none (some C.env)) (fun cenv s₄ =>
  codeAny (model prog C.w) C.A (.compStart e 0 it acc { cenv with scope := relabel scope C.env }) (compPost (model prog C.w) C.A (PostX C s X) use (Post C s Q) acc cenv.locals) s₄) (PostX C s X) s₃) (PostX C s X) s₂) (PostX C s X) s
noncomputable abbrev CompK (C : Cx) (e : Expr) (scope : Scope) (use : Option (Value → Sem Unit)) (X : XP) (Q : QV) (L₀ : Loc) : QV := fun xv M own J => CompSc C scope M L₀ ∧ CompG C e scope use X Q xv M own J
theorem wpAny_rebase {C : Cx} {c : Sem α} {s : Shared} {h : Heap} {X : XP} {Q Q' : α → Shared → Prop} (e : s = { s₀ with heap := h, toks := tk }) (g : wpAny (model prog C.w) C.A c Q (PostX C s X) s) (k : ∀ a s', Q a s' → Q' a s') : wpAny (model prog C.w) C.A c Q' (PostX C s₀ X) s := by
 subst e
 exact wpAny_mono g k (by rintro _ _ ⟨b1, b2, b3, b4, b5, e, r, r2⟩; exact ⟨b1, b2, b3, b4, b5, e, r, r2⟩)
theorem compPost_mono {M : Model} {E' : Value → Shared → Prop} {use : Option (Value → Sem Unit)} {Q Q' : Value → Shared → Prop} {acc : Value} {r : Result} (hE : ∀ e s, E e s → E' e s) (hQ : ∀ a s, Q a s → Q' a s) (h : compPost M A E use Q acc L r s') : compPost M A E' use Q' acc L r s' := by
 cases r with
 | ok f =>
  cases use with
  | none => exact h.imp fun _ z => ⟨z.1, fun h' y => hQ _ _ (z.2 h' y)⟩
  | some u => exact wpAny_mono h (fun _ _ h => h.imp fun _ z => ⟨z.1, fun h' y => hQ _ _ (z.2 h' y)⟩) hE
 | error e =>
  cases use <;> exact h.imp fun _ y => ⟨y.1, fun h' z cenv hc => wpAny_mono (y.2 h' z cenv hc) (fun _ _ y => y) hE⟩
section
variable {X : XP} {C : Cx} {J own : Led} {M L₀ : Loc} {elt target iter : Expr} {ifs : List Expr} {scope : Scope} {pos : Pos}
theorem comp_any {use : Option (Value → Sem Unit)} {Q : QV} (L₀ : Loc) (h : G C (eval iter C.env) M own J X (CompK C (.ListComp elt [⟨target, iter, ifs, 0⟩] scope pos) scope use X Q L₀)) (ok : C.Ok) {s : Shared} (S : St C M own J s.heap m loc)
  (hnames : ∀ x ∈ scope.names, x.2 = .local → scope.names.lookup x.1 = some .local) (hk : scope.kind = .function) (hclos : closureFor scope C.env = pure (clOf C.env scope.names []))
  (hs : ∀ x, foldedSetIterable iter C.env x = pure x) :
  wpAny (model prog C.w) C.A (comprehension (.ListComp elt [⟨target, iter, ifs, 0⟩] scope pos) scope C.env (firstIterPos [⟨target, iter, ifs, 0⟩] pos) (newList []) false (eval iter C.env) use) (Post C s Q) (PostX C s X) s := by
 refine wpAny_comprehension_free rfl hs hclos hk hnames (h.use ok S rfl fun xv s₁ p => ?_)
 refine Post.elim p fun h1 tk M' o' J' m' loc' S' hqz => ?_
 obtain ⟨sc, q⟩ := hqz
 refine wpAny_rebase (s₀ := s) rfl (q ok _ m' loc' S') fun it s₂ h₂ => ?_
 refine wpAny_mono h₂ (fun acc s₃ h₃ => ?_) fun _ _ p => p.rebase
 refine wpAny_mono h₃ (fun cenv s₄ h₄ => ?_) fun _ _ p => p.rebase
 exact codeAny_mono h₄ fun r s' z => compPost_mono (fun _ _ p => p.rebase) (fun _ _ p => p.rebase) z
theorem comp_coreE {use : Option (Value → Sem Unit)} {Q : QV} {s : Shared} {P : Nat → Value → Prop} {h : Heap} {mk : Sem Value} {Ac : Addr → Obj → Prop} {Fin : Obj → Led → Led → Prop}
  (it : It C B I n P M own J loc m h) (ok : C.Ok) (sc : CompSc C scope M L₀) (hBJ : ∀ p ∈ B, p ∈ own ++ J)
  (hmk : ∀ oI, (C.frs ((I, oI) :: C.fr)).Ok → St (C.frs ((I, oI) :: C.fr)) M own J h m loc → ∀ (Q' : Value → Shared → Prop) E, (∀ D oD h₃, St (C.frs ((I, oI) :: C.fr)) M ((D, oD) :: own) J h₃ m loc → Ac D oD → Q' (.ref D) { s with heap := h₃, toks := tk }) → wpAny (model prog C.w) C.A mk Q' E { s with heap := h, toks := tk })
  (hst : ∀ D env R s₁, codeAny (model prog C.w) C.A (.compLoop e 0 (.ref I) (.ref D) env) R s₁ → (∀ (Q : Value → Shared → Prop) E, Q (.ref I) s₁ → wpAny (model prog C.w) C.A (pyIter (.ref I)) Q E s₁) → codeAny (model prog C.w) C.A (.compStart e 0 (.ref I) (.ref D) env) R s₁)
  (hloop : ∀ (C' : Cx) D o0 h₁ tk₁ m₁ loc₁ R, C'.w = C.w → (∀ fr, InComp C (C'.frs fr) scope) → C'.Ok → It C' B I n P L₀ ((D, o0) :: own) J loc₁ m₁ h₁ → Ac D o0 →
   (∀ oD own' J' h tk m' loc', St C' L₀ ((D, oD) :: own') J' h m' loc' → Fin oD own' J' → R (.ok .next) { s with heap := h, toks := tk }) → codeAny (model prog C'.w) C'.A (.compLoop e 0 (.ref I) (.ref D) C'.env) R { s with heap := h₁, toks := tk₁ })
  (done : ∀ D o0 oD own' J', Ac D o0 → Fin oD own' J' → CompEnd C use X Q (.ref D) M ((D, oD) :: own') J') :
  wpAny (model prog C.w) C.A mk (fun acc s₃ => wpAny (model prog C.w) C.A (newFunctionEnv scope C.env.globals (clOf C.env scope.names []) [] C.env.qual none .none (some C.env)) (fun cenv s₄ =>
  codeAny (model prog C.w) C.A (.compStart e 0 (.ref I) acc { cenv with scope := relabel scope C.env }) (compPost (model prog C.w) C.A (PostX C s X) use (Post C s Q) acc cenv.locals) s₄) (PostX C s X) s₃) (PostX C s X) { s with heap := h, toks := tk } := by
 obtain ⟨fp, Sw, W, live, S, st, hI, hL, h0, hfp⟩ := it
 obtain ⟨oI, _, _, hoI, _, hd, _⟩ := live _ _ st
 refine hmk oI ok.hide (hide_in S hoI hL h0 hI) _ _ fun D o0 h₃ S3' hac => ?_
 obtain ⟨kI, S3, hI3⟩ := hide_out (fun v e => nomatch hd.symm.trans e) S3'
 have st3 : Sw 0 h₃ := W.frame _ _ _ st fun b hb o e => by
  by_cases q : b = I
  ·subst q; exact kI.trans (hoI.symm.trans e)
  ·exact S.keeps S3 (hfp b hb q) hBJ (fun p hp => .tail _ (hBJ p hp)) e
 refine comp_new ?_
 have cap := fun x (hx : (x, NameKind.free) ∈ scope.names) => comp_cap S3 sc.free sc.has hx
 obtain ⟨locc, Sc, geC⟩ := comp_st ok S3 sc.nd sc.free cap sc.only
 have stc : Sw 0 (pushCells (h₃.push { cls := .type "dict", data := .dict #[] }) scope.names) := W.frame _ _ _ st3 fun b _ o e => pushCells_old _ (Heap.get?_push_of_some _ e)
 have loop := hloop (compCx C scope m loc h₃.objs.size (cellsFrom (h₃.objs.size + 1) scope.names (clOf C.env scope.names []))) D o0 _ tk m locc (compPost (model prog C.w) C.A (PostX C s X) use (Post C s Q) (.ref D) h₃.objs.size) rfl (fun fr => ⟨rfl, rfl, rfl, rfl, rfl, rfl⟩) (comp_ok ok S3 sc.hk sc.nd cap)
  (.mk fp Sw W live Sc stc (fun p hp => (List.mem_append.mp hp).elim (fun z e => Nat.lt_irrefl _ (Nat.lt_of_lt_of_le (Heap.lt_size kI) (e ▸ geC p z))) fun z => hI3 p (show p ∈ loc ++ (C.fr ++ (((D, o0) :: own) ++ J)) from List.append_assoc loc C.fr (((D, o0) :: own) ++ J) ▸ z)) hL h0 fun b hb ne => (hfp b hb ne).imp fun o z => z.imp_right (Or.imp_left (mR))) hac
  fun oD own' J' h tk m' loc' S4 fin => ?_
 ·exact hst _ _ _ _ loop fun Q E q => W.self 0 _ _ _ stc q
 ·obtain ⟨S5, ⟨mc, hmc⟩, nC⟩ := comp_back S3 S4
  have nCL : h₃.objs.size ≠ C.L := (Nat.ne_of_lt S3.fr.ns.lt).symm
  have e := done D o0 oD own' J' hac fin
  cases use with
  | none => exact ⟨mc, hmc, fun h' hs => ⟨h', tk, M, _, J', m, loc, rfl, S5.iter nC nCL (next_is_new S3.fr) fun b o ne e => hs.extBut b o ne e, e⟩⟩
  | some u =>
   obtain ⟨oC, es, ep, hoC, hd1, hd2, hd3⟩ := id hmc
   refine wpAny_mono ((e (C.frs ((h₃.objs.size, oC) :: C.fr)) ⟨rfl, rfl, rfl, rfl, rfl, rfl, rfl, rfl, rfl⟩).go ok.hide { s with heap := h, toks := tk } m loc (hide_in S5 hoC nCL (next_is_new S3.fr) nC)) (fun _ s'' p => ?_) fun e s'' p => p.never.elim
   refine Post.elim p fun h7 tk7 M7 o7 J7 m7 loc7 S7 q7 => ?_
   obtain ⟨g7, S8, n8⟩ := hide_out (fun v e => nomatch hd1.symm.trans e) S7
   exact ⟨mc, ⟨oC, es, ep, g7, hd1, hd2, hd3⟩, fun h' hs => ⟨h', tk7, M7, _, J7, m7, loc7, rfl, S8.iter n8 nCL (next_is_new S3.fr) fun b o ne e => hs.extBut b o ne e, q7⟩⟩
theorem closed_of {s : Shared} (ok : C.Ok) (S : St C M own J s.heap m loc) (sc : CompSc C scope M L₀) : closureFor scope C.env = pure (clOf C.env scope.names []) :=
 closure_is fun p hp hf => by
 obtain ⟨_, c, _, _, h2, _, _⟩ := comp_cap S sc.free sc.has (x := p.1) (by rw [← hf]; exact hp)
 exact Option.isSome_iff_exists.mpr ⟨c, h2⟩
theorem local_of {scope : Scope} (h : (scope.names.map (·.1)).Nodup) : ∀ x ∈ scope.names, x.2 = .local → scope.names.lookup x.1 = some .local := fun x hx e => mem_look h (by rw [← e]; exact hx)
theorem g_comp {Q : QV} (L₀ : Loc) (sc : CompSc C scope M L₀) (h : G C (eval iter C.env) M own J X (CompK C (.ListComp elt [⟨target, iter, ifs, 0⟩] scope pos) scope none X Q L₀))
  (hs : autoParam (∀ x, foldedSetIterable iter C.env x = pure x) zr) : G C (eval (.ListComp elt [⟨target, iter, ifs, 0⟩] scope pos) C.env) M own J X Q := .mk fun ok s m loc S => by
 rw [eval_ListComp]
 exact comp_any L₀ h ok S (local_of sc.nd) sc.hk (closed_of ok S sc) hs
theorem g_asgcomp {spos : Pos} (L₀ : Loc) (sc : CompSc C scope M L₀) (h : G C (eval iter C.env) M own J X (CompK C (.ListComp elt [⟨target, iter, ifs, 0⟩] scope pos) scope (some (assign (.Name y py) C.env)) X (fun _ M o J => Q .next M o J) L₀))
  (hsw : swapsWith (.ListComp elt [⟨target, iter, ifs, 0⟩] scope pos) (some (.Name y py)) spos.line C.env = pure true)
  (hs : autoParam (∀ x, foldedSetIterable iter C.env x = pure x) zr) : G C (exec (.Assign [.Name y py] (.ListComp elt [⟨target, iter, ifs, 0⟩] scope pos) spos) C.env) M own J X Q := .mk fun ok s m loc S => by
 rw [exec_Assign_Name_used _ _ _ _ hsw]
 refine wpAny_bind (wpAny_standAt (wpAny_bind ?_))
 show wpAny _ C.A (do let _ ← comprehension (.ListComp elt [⟨target, iter, ifs, 0⟩] scope pos) scope C.env _ (newList []) false (eval iter C.env) (some (assign (.Name y py) C.env))) _ _ s
 refine wpAny_bind (wpAny_mono (comp_any L₀ h ok S (local_of sc.nd) sc.hk (closed_of ok S sc) hs) (fun _ s' hq => wpAny_pure (wpAny_pure ?_)) fun _ _ e => e)
 obtain ⟨b1, b2, b3, b4, b5, b6, b7, e, r, r2⟩ := hq
 exact ⟨b1, b2, b3, b4, b5, b6, b7, e, r, r2⟩
theorem compG {use : Option (Value → Sem Unit)} {Q : QV} {P : Nat → Value → Prop} (src : Src C xv own own₁ J B n P) (sc : CompSc C scope M L₀) (hsz : n ≤ sizeLine)
  (Inv : Nat → List Value → Led → Led → Prop) (hB : ∀ i ys o' J', Inv i ys o' J' → ∀ p ∈ B, p ∈ J') (i0 : Inv 0 [] own₁ J) (ht : ∀ I v, letOwnedTupleGo target (.ref I) v = pure ())
  (turn : ∀ C' i v ys own' J' D k (K : QV) (KS : Loc → Led → Led → Prop), InComp C C' scope → i < n → P i v → Inv i ys own' J' →
   (∀ y M o J, Has M L₀ → Inv (i + 1) (ys ++ [y]) o J → K y M ((D, listOf ys.toArray k) :: o) J) → (∀ M o J, Has M L₀ → Inv (i + 1) ys o J → KS M ((D, listOf ys.toArray k) :: o) J) →
   G C' (assign target C'.env v) L₀ ((D, listOf ys.toArray k) :: own') J' noX (AsgT C' ifs elt K KS))
  (done : ∀ ys own' J' D k, Inv n ys own' J' → ys.length ≤ n → CompEnd C use X Q (.ref D) M ((D, listOf ys.toArray k) :: own') J') :
  CompG C (.ListComp elt [⟨target, iter, ifs, 0⟩] scope pos) scope use X Q xv M own J := fun ok s m loc S => src ok s M m loc S _ _ fun I h tk it =>
 have hB' : ∀ i ys o' J', Inv i ys o' J' → ∀ p ∈ B, p ∈ o' ++ J' := fun i ys o' J' inv p hp => mR (hB i ys o' J' inv p hp)
 comp_coreE (Ac := fun _ o => o = listOf ([] : List Value).toArray 0) (Fin := LInv Inv n) it ok sc (hB' _ _ _ _ i0)
  (fun oI ok' S Q' E k => newList_K S.fr S.news (fun D h₃ F₃ N₃ lt₃ => k D _ h₃ (S.mine F₃ N₃ lt₃) rfl) (Nat.zero_le _))
  (fun D env R s₁ loop self => codeAny_compStart_list loop (self _ _ loop))
  (fun C' D o0 h₁ tk₁ m₁ loc₁ R _ inc ok' it' hac fin => by
   subst hac
   exact comp_loop it' ok' hsz Inv hB' i0 (ht I) (fun oI i v ys own' J' k K KS => turn _ i v ys own' J' D k K KS (inc _)) fin)
  fun D o0 oD own' J' _ fin => by
   cases fin with
   | mk hle inv => exact done _ own' J' D _ inv hle
end
noncomputable abbrev bm46 : List Value := [.ref 46, .type "Exception", .type "BaseException", .type "object"]
noncomputable abbrev eNew : String := "Exception.__new__"
theorem cB : (Value.ref 71 :: bm46).contains (.type "Exception") = true := by decide
theorem cA : (Value.ref 71 :: bm46).contains (.type "AttributeError") = false := by decide
theorem cN : (Value.ref 71 :: bm46).contains (.type "NameError") = false := by decide
theorem cBE : (Value.ref 71 :: bm46).contains (.type "BaseException") = true := by decide
theorem fExc : ExcBaseFacts "Exception" "Exception.__new__" "Exception.__init__" [.type "Exception", .type "BaseException", .type "object"] := PySem.F.excBase_Exception
section
variable {prog : Program} {w : World} {A : Around} {R : Result → Shared → Prop} {h : Heap} {g : Array GenState} {d : Drawn} {t : Nat} {os : OsState}
variable {nm q : Str} {N : Addr} {bs : List Value} {hdct : Bool} {sn : List Str} {sub : List Value} {ab : Bool} {col : Option Bool} {dd : Option Addr} {k0 k1 k2 k3 k5 : Option Value}
noncomputable abbrev eObj (t : Addr) : Obj := { cls := .ref 71, data := .fields #[.ref t, .none, .none, .none, .bool false, .none] }
theorem e_new {rest : List Value} (hC : h.get? 71 = some (excClassObj nm q 71 N bs bm46 hdct sn sub ab col dd k0 k1 k2 k3 k5 eNew))
  (hq : R (.ok (.ret (.ref (h.objs.size + 1)))) ⟨(h.push { cls := .type "tuple", data := .seq rest.toArray }).push (eObj h.objs.size), g, d, t, os⟩) (hrest : rest.length ≤ sizeLine) :
  codeAny (model prog w) A (.call (.builtin eNew) ⟨.ref 71 :: rest, []⟩) R ⟨h, g, d, t, os⟩ := by
 have F := fExc
 refine codeAny_call_builtin_code (Code.quiet_builtin _ F.quiet) ?_
 have hstar := F.noStar
 unfold checkBuiltinCall
 rw [F.newKind, F.newSplit, F.newRow]
 dsimp only
 repeat (first | refine wpAny_loadPart_at hC ?_ | (refine wpAny_isSubtype_exc hC ?_; rw [cB]) | refine wpAny_staticBase_exc hC ?_ | refine wpAny_madeBy_exc hC ?_ | simp only [bne_self_eq_false, Bool.false_eq_true, if_false] | wp_step)
 have hends := F.ends
 refine PySem.codeAny_builtinAt F.entry ?_
 unfold Builtin.«BaseException.__new__»
 refine PySem.wpAt_bind ?_
 show PySem.wpAt _ _ _ (stack >>= _) _ _ _
 refine PySem.wpAt_bind (PySem.wpAt_stack fun p below => PySem.wpAt_of_wpAny ?_)
 wp_walk
 refine PySem.wpAt_of_wpAny ?_
 rw [F.owner]
 repeat (first | with_reducible refine wpAny_madeHere_exc F.canon hC ?_ | with_reducible refine wpAny_loadPart_at hC ?_ | (with_reducible refine wpAny_isSubtype_exc hC ?_; first | rw [cB] | rw [cA] | rw [cN]) | wp_step)
 show R _ _
 rw [Heap.size_push]
 exact hq
theorem e_make {rest : List Value} {fI : Value} (hC : h.get? 71 = some (excClassObj nm q 71 N bs bm46 hdct sn sub ab col dd k0 k1 k2 k3 k5 eNew)) (hcall : Looks (model prog w) h (specialOf (.ref 71) "__call__") (some (.builtin "type.__call__"))) (htyp : Looks (model prog w) h (isInstance (.ref 71) (.type "type")) true)
  (hi : Looks (model prog w) h (typeLookup (.ref 71) "__init__") (some fI)) (hb : ∀ self, Looks (model prog w) h (bindSpecial fI self) (fI, [self])) (hrest : rest.length ≤ sizeLine)
  (hq : codeAny (model prog w) (A.under (.builtin "type.__call__" ⟨.ref 71 :: rest, []⟩)) (.call fI ⟨.ref (h.objs.size + 1) :: rest, []⟩) (InitBack (h.objs.size + 1) R) ⟨(h.push { cls := .type "tuple", data := .seq rest.toArray }).push (eObj h.objs.size), g, d, t, os⟩) :
  codeAny (model prog w) A (.call (.ref 71) ⟨rest, []⟩) R ⟨h, g, d, t, os⟩ := by
 refine codeAny_of_tree ?_
 show wpAny _ _ (callAny (.ref 71) _) _ _ _
 refine nd_load hC ?_
 show wpAny _ _ (callAny.viaDunder (.ref 71) _) _ _ _
 unfold callAny.viaDunder
 refine wpAny_bind (hcall.at ?_)
 dsimp only
 rw [tc_bind]
 refine wpAny_bind (wpAny_pure (wpAny_bind (wpAny_pure ?_)))
 refine wpAny_pure (a := Fin.again (.call (.builtin "type.__call__") ⟨.ref 71 :: rest, []⟩)) (And.intro rfl ?_)
 refine codeAny_call_builtin_at (Code.quiet_builtin _ (by decide +kernel)) entry_typeCall (check_slot tc_kind tc_split htyp (tc_args _ _ _) ?_)
 unfold Builtin.«type.__call__»
 repeat (first | with_reducible refine wpAny_mroOf_exc hC ?_ | with_reducible refine wpAny_madeBy_exc hC ?_ | with_reducible refine wpAny_call ?_ | wp_step)
 refine e_new hC ?_ hrest
 have k : ∀ b o, h.get? b = some o → ((h.push { cls := .type "tuple", data := .seq rest.toArray }).push (eObj h.objs.size)).get? b = some o := fun b o e => Heap.get?_push_of_some _ (Heap.get?_push_of_some _ e)
 have hx : ((h.push { cls := .type "tuple", data := .seq rest.toArray }).push (eObj h.objs.size)).get? (h.objs.size + 1) = some (eObj h.objs.size) := by heap_get
 have hC1 := k _ _ hC
 have i1 := hi.keeps k
 have b1 := (hb (.ref (h.objs.size + 1))).keeps k
 have hcC : (Value.ref 71 :: bm46).contains (.ref 71) = true := by decide
 have t1 : Looks (model prog w) ((h.push { cls := .type "tuple", data := .seq rest.toArray }).push (eObj h.objs.size)) (typeOf (.ref (h.objs.size + 1))) (.ref 71) := (Looks.ld hx).andThen .now
 have s1 : Looks (model prog w) ((h.push { cls := .type "tuple", data := .seq rest.toArray }).push (eObj h.objs.size)) (isSubtype (.ref 71) (.ref 71)) true := fun A Q E s kk q => by
  obtain ⟨hh, g1, d1, t1, o1⟩ := s
  refine wpAny_isSubtype_exc (kk _ _ hC1) ?_
  rw [hcC]; exact q
 unfold isInstance callSpecial? specialOf
 repeat (first | with_reducible refine wpAny_call ?_ | lk)
 refine codeAny_mono hq fun r s' z => ?_
 rcases r with e | (v | _ | _ | _) <;> first | exact z | exact z.elim | skip
 obtain ⟨rfl, z⟩ := z
 exact wpAny_pure (wpAny_pure z)
end
section
open PySem.Builtin PySem.Builtin.ObjectAttr PySem.Builtin.Getset_descriptor
theorem e_refuse (self : Value) : refuseLoop self "__setattr__" [.ref 71, .ref 46, .type "Exception", .type "BaseException", .type "object"] = pure () := by
 rw [refuseLoop_ref, refuseLoop_ref]; kernel_rfl
section
variable {prog : Program} {w : World} {A : Around} {s : Shared} {K : Frag} {x : Addr} {ox : Obj} {od : Option Obj} {h₀ : Heap} {L : Addr} {m : Str → Option Value}
theorem e_osa {R : Result → Shared → Prop} {cd : ClassData} {name : Str} {tk : Tok} (X : K.In s.heap) (I : InstAt s.heap x ox 71 od) (hc : clsIn K 71 = some cd) (hmro : cd.mro = [.ref 71, .ref 46, .type "Exception", .type "BaseException", .type "object"]) (ht : takerIn K 71 name = some none)
  (h : ∀ b, wpAny (model prog w) A.in1 (storeInOwnDict (.ref x) (.ref 71) (.str name tk) name v b) (fun fin s' => match fin with | .done f => R (.ok f) s' | .again c' => c'.quiet = true ∧ codeAny (model prog w) A c' R s') (fun e s' => R (.error e) s') s) :
  codeAny (model prog w) A (.call (.builtin "object.__setattr__") ⟨[.ref x, .str name tk, v], []⟩) R s := by
 have SF := PySem.F.store_object
 have sub : Looks (model prog w) s.heap (isInstance (.ref x) (.type "object")) true := I.type.andThen (looks_mroIn X (by unfold mroIn; rw [hc, Option.bind_some, if_neg (by rw [hmro]; decide), hmro]; decide))
 refine codeAny_call_builtin SF.slot.plain SF.entry (@check_slot (model prog w) _ _ s "object.__setattr__" "object" "__setattr__" (.ref x) [.str name tk, v] [] _ SF.kind SF.split sub (SF.args (.ref x) (.str name tk) v) ?_)
 obtain ⟨attr, ha, hr⟩ := Option.bind_eq_some_iff.mp ht
 have hm : Looks (model prog w) s.heap (mroOf (.ref 71)) cd.mro := (looks_clsIn X hc).andThen .now
 have L3 : Looks (model prog w) s.heap (storeTaker? attr) none := by
  cases attr with
  | none => exact .now
  | some a =>
   obtain ⟨b, hb, e⟩ := Option.map_eq_some_iff.mp hr
   refine (looks_takesIn X hb).andThen ?_
   cases b
   ·exact .now
   ·cases e
 rw [osa_eq, refuse_eq]
 refine wpAny_bind (wpAny_bind (I.type.here (wpAny_bind (hm.here ?_))))
 rw [hmro, e_refuse]
 refine wpAny_pure (wpAny_bind (I.type.here (wpAny_bind ((looks_findIn X ha).here (wpAny_bind (L3.here ?_))))))
 exact h _
set_option tactic.hygienic true in
theorem e_storeIn {C : Cx} {M : Loc} {l2 J : Led} {Q : Fin → Shared → Prop} {name : Str} {tk : Tok} {es : List DictEntry} (S : St C M (l1 ++ (dx, dictOf es n) :: l2) J s.heap m loc)
  (hl : (getL name es).isSome = true) (hz : (putL name (PyData.keyHash w.params name) (.str name s.toks) v es).length ≤ 1000)
  (h : ∀ h', St C M (l1 ++ (dx, dictOf (putL name (PyData.keyHash w.params name) (.str name s.toks) v es) (putN name es n)) :: l2) J h' m loc → Q (.done (.ret .none)) { s with heap := h', toks := s.toks + 1 }) :
  wpAny (model prog w) A (storeInDict dx (.str name tk) name v) Q E s := by
 have e := putName_dict name (PyData.keyHash w.params name) (.str name s.toks) v es n
 have D := (S.news (dx, dictOf es n) (pullJ.mem_iff.mpr (.head _))).1
 have S' := S.put (Heap.SameBut.update s.heap dx (Obj.putName name (PyData.keyHash w.params name) (.str name s.toks) v)) ((Heap.get?_update_self _ D (by dsimp only; rw [e]; rfl)).trans (congrArg some e))
 unfold storeInDict
 refine wpAny_bind (wpAny_pure (wpAny_bind ?_))
 unfold nsSet
 refine wpAny_bind (wpAny_bind (wpAny_askSetting (wpAny_pure (wpAny_bind (wpAny_mkText (wpAny_bind (wpAny_loadPart D ?_)))))))
 have c : (!es.toArray.any (·.key.isStr name) && es.toArray.any (·.refKey)) = false := by
  rw [← Array.any_toList, ← Array.any_toList]
  unfold getL at hl
  cases he : es.find? (·.key.isStr name) with
  | some en => rw [List.any_eq_true.mpr ⟨en, List.mem_of_find?_eq_some he, List.find?_some he⟩]; rfl
  | none =>
   rw [he] at hl
   dsimp only at hl
   cases z : es.any (·.refKey) with
   | true => rw [z] at hl; cases hl
   | false => exact Bool.and_false _
 dsimp only
 rw [aRefKeyMayBeTheName_at, c]
 refine wpAny_updatePart D ?_
 refine wpAny_bind (wpAny_lookBehind (S'.news _ (pullJ.mem_iff.mpr (.head _))).1 (pastItsLine_dict (by rw [List.size_toArray, sizeLine_eq]; omega)) ?_)
 exact wpAny_pure (h _ S')
end
noncomputable abbrev eDict (t : Addr) (d : Option Addr) : Obj := { cls := .ref 71, dict := d, data := .fields #[.ref t, .none, .none, .none, .bool false, .none] }
section
variable {X : XP} {C : Cx} {J own : Led} {M : Loc}
theorem g_eset1 {w : World} (hw : C.w = w) {Q : Unit → Loc → Led → Led → Prop} (l1 : Led) {l2 : Led} {x t : Addr} {n : Str} (hs : findIn (Kf C.w.params) (.ref 71) "__setattr__" = some (some (.builtin "object.__setattr__"))) (hc : ∃ cd, clsIn (Kf C.w.params) 71 = some cd ∧ cd.mro = [.ref 71, .ref 46, .type "Exception", .type "BaseException", .type "object"] ∧ cd.hasDict = true) (ht : takerIn (Kf C.w.params) 71 n = some none)
  (h : ∀ dx tk, Q () M ((dx, dictOf (putL n (PyData.keyHash w.params n) (.str n tk) v []) (putN n [] 0)) :: (l1 ++ (x, eDict t (some dx)) :: l2)) J) : G C (setAttr (.ref x) n v) M (l1 ++ (x, eDict t none) :: l2) J X Q := .mk fun ok s m loc S => by
 subst hw
 obtain ⟨cd, hc1, hc2, hc3⟩ := hc
 have Xk := S.frag ok
 have hx : s.heap.get? x = some (eDict t none) := (S.news (x, eDict t none) (pullJ.mem_iff.mpr (.head _))).1
 have I : InstAt s.heap x (eDict t none) 71 none := ⟨hx, rfl, rfl, trivial⟩
 refine set_plain Xk I hs (e_osa (s := { s with toks := s.toks + 1 }) Xk I hc1 hc2 ht fun b => ?_)
 unfold storeInOwnDict
 have L1 : Looks (model prog C.w) s.heap (classData 71) cd := looks_clsIn Xk hc1
 refine wpAny_bind (wpAny_pure (wpAny_bind (wpAny_bind (wpAny_loadPart hx (wpAny_bind (L1 _ _ _ _ (fun _ _ e => e) ?_))))))
 rw [hc3]
 show wpAny _ _ ((alloc { cls := .type "dict", data := .dict #[] }) >>= fun d => (update x fun o => { cls := o.cls, dict := some d, data := o.data, slots := o.slots }) >>= fun _ => pure (some d)) _ _ _
 refine wpAny_bind (wpAny_alloc ?_)
 have S1 : St C M ((s.heap.objs.size, dictOf [] 0) :: (l1 ++ (x, eDict t none) :: l2)) J (s.heap.push { cls := .type "dict", data := .dict #[] }) m loc := (S.pushMine rfl)
 have hx1 := (S1.news (x, eDict t none) ((pullJ (l1 := (s.heap.objs.size, dictOf [] 0) :: l1)).mem_iff.mpr (.head _))).1
 refine wpAny_bind (wpAny_update hx1 (wpAny_pure ?_))
 have S2 := St.put (l1 := (s.heap.objs.size, dictOf [] 0) :: l1) (o' := eDict t (some s.heap.objs.size)) S1 (Heap.SameBut.update _ x fun o => { cls := o.cls, dict := some s.heap.objs.size, data := o.data, slots := o.slots }) (Heap.get?_update_self _ hx1 rfl)
 exact e_storeIn (l1 := []) (s := { s with heap := _, toks := s.toks + 1 }) S2 rfl (Nat.le_of_ble_eq_true rfl) fun h' S3 => Post.mk' (s := s) (h := h') (tk := s.toks + 1 + 1) S3 (h _ _)
theorem g_eset2 {w : World} (hw : C.w = w) {Q : Unit → Loc → Led → Led → Prop} (l1 : Led) {l2 : Led} {x t : Addr} {es : List DictEntry} {k : Nat} {n : Str} (hx : (x, eDict t (some dx)) ∈ l2) (hs : findIn (Kf C.w.params) (.ref 71) "__setattr__" = some (some (.builtin "object.__setattr__"))) (hc : ∃ cd, clsIn (Kf C.w.params) 71 = some cd ∧ cd.mro = [.ref 71, .ref 46, .type "Exception", .type "BaseException", .type "object"] ∧ cd.hasDict = true) (ht : takerIn (Kf C.w.params) 71 n = some none)
  (hl : (getL n es).isSome = true) (hz : ∀ tk, (putL n (PyData.keyHash w.params n) (.str n tk) v es).length ≤ 1000)
  (h : ∀ tk, Q () M (l1 ++ (dx, dictOf (putL n (PyData.keyHash w.params n) (.str n tk) v es) (putN n es k)) :: l2) J) : G C (setAttr (.ref x) n v) M (l1 ++ (dx, dictOf es k) :: l2) J X Q := .mk fun ok s m loc S => by
 subst hw
 obtain ⟨cd, hc1, hc2, hc3⟩ := hc
 have Xk := S.frag ok
 have hx : s.heap.get? x = some (eDict t (some dx)) := (S.news (x, eDict t (some dx)) (pullJ.mem_iff.mpr (.tail _ (mR (mR (mL (mR hx))))))).1
 have hdx : s.heap.get? dx = some (dictOf es k) := (S.news (dx, dictOf es k) (pullJ.mem_iff.mpr (.head _))).1
 have I : InstAt s.heap x (eDict t (some dx)) 71 (some (dictOf es k)) := ⟨hx, rfl, rfl, hdx⟩
 refine set_plain Xk I hs (e_osa (s := { s with toks := s.toks + 1 }) Xk I hc1 hc2 ht fun b => ?_)
 unfold storeInOwnDict
 have L1 : Looks (model prog C.w) s.heap (classData 71) cd := looks_clsIn Xk hc1
 refine wpAny_bind (wpAny_pure (wpAny_bind (wpAny_bind (wpAny_loadPart hx (wpAny_bind (L1 _ _ _ _ (fun _ _ e => e) ?_))))))
 rw [hc3]
 refine wpAny_pure (a := some dx) ?_
 exact e_storeIn (s := { s with toks := s.toks + 1 }) S hl (hz _) fun h' S3 => Post.mk' (s := s) (h := h') (tk := s.toks + 1 + 1) S3 (h _)
end
end
section
open PySem.Builtin
theorem afterMt {C : Cx} {X : XP} {Q : QV} {M : Loc} {own J : Led} (hk : okMeth (Kf C.w.params) f = true) (h : G C (spliced (backTo pos (starEach args C.env))) M own J X (CallV C f X Q)) : AfterM C pos args X Q (f, []) M own J := ⟨hk, h⟩
theorem g_mtype {X : XP} {C : Cx} {J own : Led} {M : Loc} {T : String} {n : Str} {Q : Value × List Value → Loc → Led → Led → Prop} (ht : typeOf (.type T) = pure (.type "type")) (hs : Manifest.isStub T = false)
  (e : findCls (Kf C.w.params) (.type T) (.type "type") n = some (.val v)) (hh : handedIn v = true) (h : Q (v, []) M own J) : G C (getMethod (.type T) n pl) M own J X Q := .mk fun ok s m loc S =>
 method_type S.fr ok.frag ht hs e hh (Post.mk' (h := s.heap) S h)
section
variable {C : Cx} {M : Loc} {J : Led} {X : XP} {nm q : Str} {N : Addr} {bs : List Value} {hdct : Bool} {sn : List Str} {sub : List Value} {ab : Bool} {col : Option Bool} {dd : Option Addr} {k0 k1 k2 k3 k5 : Option Value}
theorem g_einit {Q : QV} (l1 : Led) {l2 : Led} {x t : Addr} (hC : (Kf C.w.params).lookup 71 = some (excClassObj nm q 71 N bs bm46 hdct sn sub ab col dd k0 k1 k2 k3 k5 eNew))
  (h : ∀ t', Q .none M (l1 ++ (x, eDict t' none) :: l2) ((t', tup [v]) :: J)) : G C (call (.builtin "Exception.__init__") [.ref x, v]) M (l1 ++ (x, eDict t none) :: l2) J X Q := .mk fun ok s m loc S => by
 have F := fExc
 have Xk := S.frag ok
 have hC0 := Xk _ _ hC
 have hx : s.heap.get? x = some (eDict t none) := (S.news (x, eDict t none) (pullJ.mem_iff.mpr (.head _))).1
 refine wpAny_call (codeAny_call_builtin F.init.plain F.initEntry ?_)
 have hshort := F.noStar
 unfold checkBuiltinCall
 rw [F.initKind, F.initSplit, F.initRow]
 dsimp only
 obtain ⟨hp, g, d, tk, os⟩ := s
 repeat (first | (with_reducible refine wpAny_loadPart_at hx ?_) | with_reducible refine wpAny_loadPart_at hC0 ?_ | (with_reducible refine wpAny_isSubtype_exc hC0 ?_; rw [cB]) | wp_step)
 show Post C _ Q .none _
 have S1 : St C M (l1 ++ (x, eDict t none) :: l2) ((hp.objs.size, tup [v]) :: J) (hp.push { cls := .type "tuple", data := .seq #[v] }) m loc := (S.pushIce rfl)
 exact Post.mk' (tk := tk) (S1.put (o' := eDict hp.objs.size none) (Heap.SameBut.update _ x (Obj.mapFields fun x => x.setIfInBounds 0 (Value.ref hp.objs.size))) (Heap.get?_update_self _ (S1.news _ (pullJ.mem_iff.mpr (.head _))).1 rfl)) (h _)
end
theorem run_exc {w : World} {D : Nat} (hD : 2 ≤ D) (hU : 40 ≤ U) {own J : Led} {nm q : Str} {N : Addr} {bs : List Value} {hdct : Bool} {sn : List Str} {sub : List Value} {ab : Bool} {col : Option Bool} {dd : Option Addr} {k0 k1 k2 k3 k5 : Option Value}
  {name : Str} {scope : Scope} {oc : Value} {f : Addr} {binds : Addr → List (Str × Value)}
  (hC : (Kf w.params).lookup 71 = some (excClassObj nm q 71 N bs bm46 hdct sn sub ab col dd k0 k1 k2 k3 k5 eNew)) (hcall : specialIn (Kf w.params) (.ref 71) "__call__" = some (some (.builtin "type.__call__"))) (htyp : instIn (Kf w.params) (.ref 71) (.type "type") = some true)
  (hi : findIn (Kf w.params) (.ref 71) "__init__" = some (some (.ref f))) (hf : isFn (Kf w.params) (.ref f) = true)
  (ho : (Kf w.params).lookup f = some ⟨oc, od, .func (fnOf name qual params bod scope dV kV doc pm an cdv ct), osl⟩) (hcd : codeIn (Kf w.params) cdv qual = true)
  (hbind : ∀ x s', (Kf w.params).In s'.heap → BindsTo s' (fnOf name qual params bod scope dV kV doc pm an cdv ct) ⟨[.ref x, v], []⟩ (binds x))
  (hkind : ∀ x, ((binds x).all fun y => scope.names.lookup y.1 == some .local || scope.names.lookup y.1 == some .cell) = true)
  (hnd : ((cellsFrom 0 scope.names []).map (·.1)).Nodup) (hco : scope.isCoroutine = false) (hgen : scope.isGenerator = false) (hk : scope.kind = .function)
  (body : ∀ C' : Cx, ∀ x t, C'.w = w → C'.env.scope = scope → C'.env.locals = C'.L → D ≤ C'.dl + 2 → U ≤ C'.ul + 40 → (hh = false → C'.hn = none) → C'.env = C'.fe → C'.oc = allOc →
   ∀ Qf : QF, (∀ M' t' d od J', Sub J J' → Qf .next M' ((d, od) :: (x, eDict t' (some d)) :: own) J') → G C' (execs bod C'.env) (binds x).reverse ((x, eDict t none) :: own) ((t, tup [v]) :: J) noX Qf) :
  RunB hh w D U (.ref 71) [v] own J noR (fun r o' J' => ∃ x t d, r = .ref x ∧ o' = (x, eDict t (some d)) :: own ∧ Sub J J') := by
 intro C hw hD' hU' hn M
 refine .mk fun ok s m loc S => ?_
 subst hw
 have Xk := S.frag ok
 obtain ⟨hp, g0, d0, tk0, os0⟩ := s
 refine wpAny_call (e_make (Xk _ _ hC) (looks_specialIn Xk hcall) (looks_instIn Xk htyp) (looks_findIn Xk hi) (fun self => bind_fn Xk self (beq_iff_eq.mp hf)) (Nat.le_of_ble_eq_true rfl) ?_)
 have S1 : St C M own ((hp.objs.size, tup [v]) :: J) (hp.push { cls := .type "tuple", data := .seq [v].toArray }) m loc := (S.pushIce rfl)
 have S2 : St C M ((hp.objs.size + 1, eDict hp.objs.size none) :: own) ((hp.objs.size, tup [v]) :: J) ((hp.push { cls := .type "tuple", data := .seq [v].toArray }).push (eObj hp.objs.size)) m loc := by
  have := S1.mine (a := (hp.push { cls := .type "tuple", data := .seq [v].toArray }).objs.size) (o := eObj hp.objs.size) (S1.fr.push _) (S1.news.push S1.fr _) (fun p hp => Heap.lt_size (S1.news p hp).1)
  rwa [Heap.size_push] at this
 generalize hx0 : hp.objs.size + 1 = x at S2 ⊢
 generalize ht0 : hp.objs.size = t at S1 S2 ⊢
 refine enter (A' := C.A.under (.builtin "type.__call__" ⟨[.ref 71, v], []⟩)) (RR := InitBack x _) ok S2 (d := C.dl - 1) (u := C.ul - 37) ⟨rfl, rfl, rfl, ?_, ?_⟩ (sb4 (Nat.le_trans hD hD') (Nat.le_refl 2)) (sb4 (Nat.le_trans hU hU') (Nat.le_refl 40)) ho hcd (hbind x) (hkind x) hnd hco hgen hk
  (R := fun v o' J' => v = .none ∧ ∃ t' d od, o' = (d, od) :: (x, eDict t' (some d)) :: own ∧ Sub J J') (fun _ _ => False)
  (fun C' h1 h2 h3 h4 h5 h6 h7 h8 => (body C' x t h1 h2 h3 (sb3 h4 hD' rfl) (sb3 h5 hU' rfl) (fun e => h6.trans (hn e)) h7 h8 _ (fun M' t' d od J' q => ⟨rfl, t', d, od, rfl, q⟩)).mono (fun _ _ _ _ q => q) fun _ _ _ q => q) (fun v s' p => ?_) fun e s' p => ?_
 ·have := ok.dep
  show C.A.depth + 1 + (C.dl - 1) < _
  omega
 ·have := ok.uni
  have e : (C.A.under (.builtin "type.__call__" ⟨[.ref 71, v], []⟩)).units = C.A.units + 1 := by
   first | rfl | simp [Around.under, Code.cUnits, Code.frames, Code.isFrame]
  rw [e]
  omega
 ·refine Post.elim p fun a1 a2 a3 a4 a5 a6 a7 S3 hqz => ?_
  obtain ⟨rfl, q1, t', d, od, rfl, q2⟩ := hqz
  exact ⟨q1, ⟨a1, a2, _, _, _, a6, a7, rfl, St.freeze (l1 := []) S3, rfl, x, t', d, rfl, rfl, q2.cons⟩⟩
 ·obtain ⟨_, _, _, _, _, _, _, _, q⟩ := p
  exact q.elim
end
noncomputable abbrev RaiseK (X : XP) : QV := fun v M o J => ∃ x t d l1 l2, v = .ref x ∧ o = l1 ++ (x, eDict t (some d)) :: l2 ∧ X M (l1 ++ l2) J
section
variable {X : XP} {C : Cx} {J own : Led} {M : Loc} {nm q : Str} {N : Addr} {bs : List Value} {hdct : Bool} {sn : List Str} {sub : List Value} {ab : Bool} {col : Option Bool} {dd : Option Addr} {k0 k1 k2 k3 k5 : Option Value}
theorem St.raised {l2 : Led} {x t : Addr} {d : Option Addr} {h : Heap} {m : Str → Option Value} {loc : Led} (ok : C.Ok) (S : St C M (l1 ++ (x, eDict t d) :: l2) J h m loc) : XSt C M (l1 ++ l2) J h (.ref x) := by
 have hx := S.news (x, eDict t d) (pullJ.mem_iff.mpr (.head _))
 have A := S.apart.perm pull
 have K' := pushX ok.below S.fr ok.fl ok.fk
 have L0 : C.h₀.get? C.L = none := kts_self S.fr
 have inF : ∀ env ∈ (C.fe :: C.outer), ∀ b, env.frame = some b → b ∈ x :: (C.fe :: C.outer).filterMap (·.frame) := fun env he b hb => .tail _ (List.mem_filterMap.mpr ⟨env, he, hb⟩)
 have ofF : ∀ b, b ∈ (C.fe :: C.outer).filterMap (·.frame) → b = C.L ∨ b ∈ C.outer.filterMap (·.frame) := fun b hb => by
  obtain ⟨en, h1, h2⟩ := List.mem_filterMap.mp hb
  rcases List.mem_cons.mp h1 with rfl | h1
  ·rw [ok.fl] at h2; exact .inl (Option.some.inj h2).symm
  ·exact .inr (List.mem_filterMap.mpr ⟨en, h1, h2⟩)
 have outS : ∀ b, b ∈ C.outer.filterMap (·.frame) → ∃ o, C.h₀.get? b = some o := fun b hb => by obtain ⟨_, o, ho, _⟩ := ok.below.frames.mem hb; exact ⟨o, ho⟩
 have xF : x ∉ (C.fe :: C.outer).filterMap (·.frame) := fun hm => by
  rcases ofF x hm with e | e
  ·exact hx.2.1 e
  ·obtain ⟨o, ho⟩ := outS x e
   rw [hx.2.2] at ho; cases ho
 refine ⟨x, false, hideAll h (x :: (C.fe :: C.outer).filterMap (·.frame)), m, loc, rfl, {
  ns := S.fr.ns
  above := S.fr.above
  fram := fun b o hb _ => ⟨o.slots, S.fr.keep b o hb⟩
  keep := fun b o hb hm => hideAll_get _ (S.fr.keep b o hb) fun hm' => by
   rcases List.mem_cons.mp hm' with e | hm'
   ·rw [e, hx.2.2] at hb; cases hb
   ·rcases ofF b hm' with e | e
    ·rw [e, L0] at hb; cases hb
    ·exact hm e
  led := fun p hp => by
   have z := S.news p (pullJ.mem_iff.mpr (.tail _ hp))
   refine ⟨hideAll_get _ z.1 fun hm' => ?_, z.2⟩
   rcases List.mem_cons.mp hm' with e | hm'
   ·exact A.all hp e
   ·rcases ofF _ hm' with e | e
    ·exact z.2.1 e
    ·obtain ⟨o, ho⟩ := outS _ e
     rw [z.2.2] at ho; cases ho
  apart := A.head.1
  vars := S.vars
  exc := ⟨fun b o e => of_hideAll _ e, hideAll_none _ (.head _), funFrames_hide K'.frames inF, ⟨_, _, hx.1, rfl, rfl, by simp, rfl, .inl ⟨rfl, rfl⟩⟩⟩
  ea0 := hx.2.2 }⟩
theorem g_raise (hn : C.hn = none) (hC : (Kf C.w.params).lookup 71 = some (excClassObj nm q 71 N bs bm46 hdct sn sub ab col dd k0 k1 k2 k3 k5 eNew)) (h : G C (eval e C.env) M own J X (RaiseK X)) : G C (exec (.Raise (some e) none pos) C.env) M own J X Q := .mk fun ok s m loc S => by
 rw [arm_exec_Raise]
 refine wpAny_bind (wpAny_standAt ?_)
 show wpAny _ _ (raiseStmt C.env (some (eval e C.env >>= fun v => standAt pos >>= fun _ => pure v)) none) _ _ s
 unfold raiseStmt
 refine wpAny_bind (wpAny_bind (h.use ok S rfl fun v s' p => wpAny_bind (wpAny_standAt (wpAny_pure ?_))))
 refine Post.elim p fun h1 tk M' o' J' m' loc' S' hqz => ?_
 obtain ⟨x, t, d, l1, l2, rfl, rfl, hX⟩ := hqz
 have hC0 := S'.frag ok _ _ hC
 have he : h1.get? x = some (eDict t (some d)) := (S'.news (x, eDict t (some d)) (pullJ.mem_iff.mpr (.head _))).1
 have fin : PostX C s X (.ref x) { s with heap := h1, toks := tk } := ⟨h1, tk, M', _, J', rfl, S'.raised ok, hX⟩
 have hh := ok.hd0 hn
 obtain ⟨hp, g, dr, tk0, os⟩ := s
 repeat (first | with_reducible refine wpAny_loadPart_at he ?_ | with_reducible refine wpAny_loadPart_at hC0 ?_ | (with_reducible refine wpAny_isSubtype_exc hC0 ?_; rw [cBE]) | wp_step)
 exact wpAny_raiseNew_none hh fin
end
noncomputable abbrev catCx (C : Cx) (g : Heap) (p : Addr × Obj) : Cx := { C with A := C.A.mark (some (.ref p.1)), h₀ := g, fr := p :: C.fr, hn := some p }
section
variable {C : Cx} {M : Loc} {own J : Led} {h B : Heap} {ea : Addr} {m : Str → Option Value} {loc : Led}
theorem x_ground (ok : C.Ok) (x : XAt C M own J h ea true B m loc) : ∃ g oe, h.get? ea = some oe ∧ oe.cls = .ref 71 ∧ KtsTurn (C.outer.filterMap (·.frame)) C.h₀ g ∧ (catCx C g (ea, oe)).Ok ∧ St (catCx C g (ea, oe)) M own J h m loc := by
 obtain ⟨oe, vs, he, hc, hd, hsz, h2, htr⟩ := x.exc.ob
 obtain ⟨T, Sg⟩ := kts_turn_at (h := h) (fs := C.outer.filterMap (·.frame)) (g := C.h₀)
  (fun b hb => by
   obtain ⟨_, o, ho, _⟩ := ok.below.frames.mem hb
   exact ⟨o, ho⟩)
  (fun b o e nm => x.exc.stays b o (x.keep b o e nm))
  (fun b o e hm => x.fram b o e hm)
 have bel : Below C.A₀ C.base C.outer (ktsHeap h (C.outer.filterMap (·.frame)) C.h₀) := ⟨ok.below.stack, fun b o e => T.other b o (ok.below.stays b o e) (fun hm => by
  rw [(ok.below.frames.mem hm).1] at e
  cases e), ok.below.frames.of_keeps fun b o e _ => by
  obtain ⟨sl, hs⟩ := T.up e
  exact ⟨_, hs, rfl⟩⟩
 have eL : ea ≠ C.L := fun e => by
  obtain ⟨oL, es, ep, hL, hLd, _⟩ := x.ns
  rw [← e, he] at hL; cases hL
  rw [hd] at hLd; cases hLd
 have eN : ∀ p ∈ loc ++ (C.fr ++ (own ++ J)), p.1 ≠ ea := fun p hp e => by
  have := (x.led p hp).1
  rw [e, x.exc.new] at this; cases this
 refine ⟨_, oe, he, hc, T, { ok with
  below := bel
  frag := ok.fragB.keeps bel.stays
  top := ok.topB.keeps bel.stays
  hd := rfl
  hx := fun p hp => by cases hp; exact ⟨.head _, vs, hd, h2⟩ }, ⟨x.ns, Sg, by rw [T.size]; exact x.above⟩, fun p hp => ?_, (x.apart.cons (fun p hp => eN p (mem_all_own hp)) fun q hq => eN q (mem_all_ice hq)).perm List.perm_middle.symm, ?_⟩
 ·rcases List.mem_cons.mp (List.perm_middle.mem_iff.mp hp) with rfl | z
  ·exact ⟨he, eL, T.none_ _ x.ea0⟩
  ·have r := x.led p z
   exact ⟨x.exc.stays _ _ r.1, r.2.1, T.none_ _ r.2.2⟩
 ·have V := x.vars.hide (p := (ea, oe))
  exact ⟨fun x v e => V.vars x v e, V.cells, V.fix, V.ns⟩
structure CatOf (C C₂ : Cx) : Prop where
 w : C₂.w = C.w
 env : C₂.env = C.env
 L : C₂.L = C.L
 dl : C₂.dl = C.dl
 ul : C₂.ul = C.ul
 fe : C₂.fe = C.fe
 oc : C₂.oc = C.oc
 fm : C₂.fm = C.fm
 outer : C₂.outer = C.outer
 fr : ∃ l, C₂.fr = l ++ C.fr
 turn : KtsTurn (C.outer.filterMap (·.frame)) C.h₀ C₂.h₀
theorem CatOf.refl : CatOf C C := ⟨rfl, rfl, rfl, rfl, rfl, rfl, rfl, rfl, rfl, ⟨[], rfl⟩, .refl⟩
theorem g_try {X : XP} {QN QH : QF} {n : Str} {np hpos : Pos} {b₀ : Stmt} {suite : List Stmt} {rest : List ExceptHandler} {nm q : Str} {N : Addr} {bs : List Value} {hdct : Bool} {sn : List Str} {sub : List Value} {ab : Bool} {col : Option Bool} {dd : Option Addr} {k0 k1 k2 k3 k5 : Option Value}
  (hfe : C.env = C.fe) (hC : (Kf C.w.params).lookup 71 = some (excClassObj nm q 71 N bs bm46 hdct sn sub ab col dd k0 k1 k2 k3 k5 eNew)) (hk : C.env.kindOf n = some .globalImplicit) (hnm : nsIn (Kf C.w.params) mainGlobals n = some (some (.ref 71))) (hnd : (n == ("__debug__" : Str)) = false)
  (hb : G C (execs body C.env) M own J X QN) (hx : ∀ C₂ M o J, CatOf C C₂ → X M o J → G C₂ (execs (b₀ :: suite) C₂.env) M o J noX QH) (ok : C.Ok) {s : Shared} {m : Str → Option Value} {loc : Led} (S : St C M own J s.heap m loc) :
  wpAny (model prog C.w) C.A (exec (.Try body (.ExceptHandler (some (.Name n np)) none (b₀ :: suite) hpos :: rest) [] [] pos) C.env)
   (fun f s' => Post C s QN f s' ∨ ∃ C₂, CatOf C C₂ ∧ C₂.Ok ∧ Post C₂ s QH f s') (fun _ _ => False) s := by
 refine wpAny_Try_except (wpAny_mono (hb.go ok s m loc S) (fun f s₁ p => ?_) fun e s₁ p => ?_)
 ·cases f with
  | next => exact wpAny_execs_nil (.inl p)
  | _ => exact .inl p
 ·obtain ⟨h, tk, M', o', J', rfl, ⟨ea, tr, B, m', loc', rfl, x⟩, hX⟩ := p
  rw [hfe]
  refine x_note ok.stack ok.fl x.exc fun h₁ e₁ u₁ => ?_
  have x₁ := x.step u₁ e₁ ok.below
  refine x_flight (s := { s with heap := h₁, toks := tk }) e₁ fun h₂ e₂ u₂ => ?_
  have x₂ := x₁.step u₂ e₂ ok.below
  obtain ⟨g, oe, he, hcl, T, okg, Sg⟩ := x_ground ok x₂
  rw [← hfe]
  refine wpAny_handleBy_cons (codeAny_handlers_test ?_) (by intro z; cases z)
  have G1 : (⟨h₂, s.gens, s.drawn, tk, s.os⟩ : Shared).heap.Ns C.env.globals C.mg := by
   rw [ok.eg]; exact okg.top.g.keeps Sg.fr.keep
  refine Name_function_global okg.ek hk (loadGlobal_global (mg := C.mg) G1 (mg_of okg.frag okg.top.g hnm) ?_) hnd
  have hC0 := Sg.frag okg _ _ hC
  refine wpAny_excMatches_sub_self hC0 he hcl (by decide) ?_
  refine codeAny_handlers_suite ?_
  refine x_flight (s := { s with heap := h₂, toks := tk }) e₂ fun h₃ e₃ u₃ => ?_
  have x₃ := x₂.step u₃ e₃ ok.below
  obtain ⟨g', oe', he', hcl', T', okg', Sg'⟩ := x_ground ok x₃
  have cat : CatOf C (catCx C g' (ea, oe')) := ⟨rfl, rfl, rfl, rfl, rfl, rfl, rfl, rfl, rfl, ⟨[(ea, oe')], rfl⟩, T'⟩
  refine wpAny_mono ((hx _ M' o' J' cat hX).go okg' { s with heap := h₃, toks := tk } m' loc' Sg') (fun f s₄ p => ?_) fun _ _ p => p.never.elim
  exact .inr ⟨_, cat, okg', Post.rebase p⟩
end
theorem code_free {prog : Program} {w : World} {A₀ : Around} {s : Shared} {base : Heap} {outer : List Env} {m : Str → Option Value} {env : Env} {news : List (Addr × Obj)}
 {R : Result → Shared → Prop} {name : Str} {scope : Scope} {fo : Obj} {f : Addr} {args : Args}
  (B : Below A₀ base outer h₀) (F : Fr h₀ L s.heap m) (N : News h₀ L s.heap news) (hlim : h₀.NoLimit) (hA : A.frames = some (env :: outer)) (hf : env.frame = some L) (hke : env.scope.kind = .function)
  (ho : s.heap.get? f = some fo) (hd : fo.data = .func (fnX name qual params body scope [] dV kV doc pm an cdv ct)) (hcd : s.heap.CodeRec cdv qual) (hroom : A.depth < recursionLimit)
  (hbind : BindsTo s (fnX name qual params body scope [] dV kV doc pm an cdv ct) args binds)
  (hkind : ∀ n, ∀ x ∈ binds, scope.names.lookup x.1 = some .local ∨ (scope.names.lookup x.1 = some .cell ∧ ((cellsFrom n scope.names []).lookup x.1).isSome = true))
  (hnd : ((cellsFrom 0 scope.names []).map (·.1)).Nodup)
  (h : ∀ g L' h₁ tk cells, Fr h₀ L g m → Fr g L' h₁ (bindL (envOfC qual scope L' f cdv).kindOf binds fun _ => none) → News g L' h₁ (cells ++ news) →
   CellsAre (bindC (envOfC qual scope L' f cdv).kindOf binds fun _ => none) (cellsFrom (L' + 1) scope.names []) cells → Below A base (env :: outer) g → h₀.StaysIn g → (∀ p ∈ news, p.1 < L') →
   wpAny (model prog w) (A.deeper (envOfC qual scope L' f cdv)) (execs body (envOfC qual scope L' f cdv))
    (fun fl s' => R (.ok (.ret (match fl with | .ret v => v | _ => .none))) s')
    (fun e s' => wpAny (model prog w) (A.deeper (envOfC qual scope L' f cdv)) (leaving (envOfC qual scope L' f cdv) e) (fun _ s'' => R (.error e) s'') (fun e' s'' => R (.error e') s'') s')
    { s with heap := h₁, toks := tk })
  (hco : scope.isCoroutine = false) (hgen : scope.isGenerator = false) (hk : scope.kind = .function) : codeAny (model prog w) A (.call (.ref f) args) R s := by
 obtain ⟨FG, BG, st, -⟩ := groundX (R := R) B F N hA hf hke
 refine codeAny_call_function hroom ho hd hco hgen rfl hcd (hbind _ _ _ _ ?_)
 refine wpAny_newFunctionEnv_cells hk (hkind _) fun env' he s' x => ?_
 subst he
 refine ⟨(hlim.keeps F.keep).keeps x.toInCall.keep, codeAny_func ?_⟩
 obtain ⟨h₁, tk, rfl, _⟩ := x.done
 have hk₁ := x.toInCall.keep
 obtain ⟨cells, NC, Y⟩ := Cl.news (h₀ := s.heap) (Nat.le_refl _) fun n c hm => ⟨x.cell n c (lookup_of_mem_nodup (cellsFrom_names scope.names 0 (s.heap.objs.size + 1) [] [] rfl ▸ hnd) hm), x.above n c hm⟩
 refine h _ s.heap.objs.size h₁ tk cells FG ⟨x.toInCall.ns, fun b o e => hk₁ b o (of_hideAll _ e), Nat.le_of_eq (hideAll_size _ _)⟩ (fun p hp => ?_) Y BG st (fun p hp => Heap.lt_size (N p hp).1)
 rcases List.mem_append.mp hp with hp | hp
 ·refine ⟨(NC p hp).1, (NC p hp).2.1, ?_⟩
  cases q : (hideAll s.heap (news.map (·.1))).get? p.1 with
  | none => rfl
  | some o => have := of_hideAll _ q; rw [(NC p hp).2.2] at this; cases this
 ·exact ⟨hk₁ _ _ (N p hp).1, Nat.ne_of_lt (Heap.lt_size (N p hp).1), hideAll_none _ (List.mem_map_of_mem hp)⟩
theorem enter_try {C : Cx} (ok : C.Ok) (hout : C.outer = []) {s : Shared} {M : Loc} {own J loc : Led} {m : Str → Option Value} (S : St C M own J s.heap m loc) (hd : 1 ≤ C.dl) (hu : 3 ≤ C.ul)
  {name : Str} {scope : Scope} {oc : Value} {f : Addr} {vs : List Value} {RR : Result → Shared → Prop} {R : Value → Led → Led → Prop}
  (ho : (Kf C.w.params).lookup f = some ⟨oc, od, .func (fnOf name qual params bod scope dV kV doc pm an cdv ct), osl⟩) (hcd : codeIn (Kf C.w.params) cdv qual = true)
  (hbind : BindsTo s (fnOf name qual params bod scope dV kV doc pm an cdv ct) ⟨vs, []⟩ binds)
  (hkind : (binds.all fun y => scope.names.lookup y.1 == some .local || scope.names.lookup y.1 == some .cell) = true)
  (hnd : ((cellsFrom 0 scope.names []).map (·.1)).Nodup) (hco : scope.isCoroutine = false) (hgen : scope.isGenerator = false) (hk : scope.kind = .function)
  (body : ∀ C' : Cx, C'.w = C.w → C'.env.scope = scope → C'.env.locals = C'.L → C'.dl = C.dl - 1 → C'.ul = C.ul - 3 → C'.hn = C.hn → C'.env = C'.fe → C'.oc = allOc → C'.fr = loc ++ C.fr → C'.Ok → ∀ s m loc, St C' binds.reverse own J s.heap m loc →
   wpAny (model prog C'.w) C'.A (execs bod C'.env) (fun fl s' => ∃ C₂, CatOf C' C₂ ∧ Post C₂ s (fun fl _ o' J' => R (match fl with | .ret v => v | _ => .none) o' J') fl s') (fun _ _ => False) s)
  (k : ∀ v s', Post C s (fun v M' o' J' => M' = M ∧ R v o' J') v s' → RR (.ok (.ret v)) s') : codeAny (model prog C.w) C.A (.call (.ref f) ⟨vs, []⟩) RR s := by
 have X0 := S.frag ok
 refine code_free ok.below S.fr S.news ok.top.nolimit ok.stack ok.fl ok.fk (X0 _ _ ho) rfl (codeRec_of X0 hcd) (Nat.lt_of_le_of_lt (Nat.le_add_right _ C.dl) ok.dep) hbind (kindsX hkind) hnd (fun g L' h₁ tk cells FG F' N' Y' B' stg l1 => ?_) hco hgen hk
 have X' : (Kf C.w.params).In g := ok.frag.keeps stg
 have T' : Top topProg lo C.mean C.mg C.mb g := ok.top.keeps stg
 obtain ⟨ok', S'⟩ := enter_in (A' := C.A) (d := C.dl) (u := C.ul) ok S ⟨rfl, rfl, rfl, ok.dep, ok.uni⟩ hd hu hkind hk F' N' Y' B' X' T' l1
 refine wpAny_mono (body (calleeCx C C.A (envOfC qual scope L' f cdv) g L' loc C.dl C.ul) rfl rfl rfl rfl rfl rfl rfl rfl rfl ok' { s with heap := h₁, toks := tk } _ _ S') (fun fl s' p => ?_) fun _ _ p => p.elim
 obtain ⟨C₂, cat, h', tk', M', o', J', m', loc', rfl, S2, q⟩ := p
 obtain ⟨p0, hfr⟩ := cat.fr
 have hL2 : C₂.L = L' := cat.L
 have hO : C.outer = [] := hout
 have tn : KtsTurn ((C.fe :: C.outer).filterMap (·.frame)) g C₂.h₀ := cat.turn
 have fI : ∀ b, b ∈ (C.fe :: C.outer).filterMap (·.frame) → b = C.L := fun b hb => by
  obtain ⟨en, h1, h2⟩ := List.mem_filterMap.mp hb
  rw [hO] at h1
  rcases List.mem_cons.mp h1 with rfl | h1
  ·rw [ok.fl] at h2; exact (Option.some.inj h2).symm
  ·cases h1
 have L0 : C.h₀.get? C.L = none := kts_self FG
 obtain ⟨oL, es, ep, hL, hLd, hLk, hLf⟩ := FG.ns
 obtain ⟨sl, hs⟩ := tn.up hL
 have hfr' : C₂.fr = (p0 ++ loc) ++ C.fr := hfr.trans (List.append_assoc ..).symm
 have A := left_apart hfr' S2.apart
 rw [List.append_assoc] at A
 have sub : ∀ p ∈ St.all C o' J' loc, p ∈ loc' ++ (C₂.fr ++ (o' ++ J')) := fun p hp => by
  rw [hfr', List.append_assoc, List.append_assoc]
  exact mR (mR hp)
 refine k _ _ ⟨h', tk', M, o', J', m, loc, rfl, ⟨⟨⟨_, es, ep, S2.fr.keep _ _ hs, hLd, hLk, hLf⟩, fun b o e => S2.fr.keep b o (tn.other b o (FG.keep b o e) fun hm => by rw [fI b hm, L0] at e; cases e), S.fr.above⟩, fun p hp => ?_, A.tailL, S.vars⟩, rfl, q⟩
 ·have z := S2.news p (sub p hp)
  refine ⟨z.1, (fun e => by rw [e, hs] at z; cases z.2.2), ?_⟩
  cases r : C.h₀.get? p.1 with
  | none => rfl
  | some o =>
   obtain ⟨sl', hs'⟩ := tn.up (FG.keep _ _ r)
   rw [hs'] at z; cases z.2.2
section
variable {prog : Program} {w : World} {A : Around} {E : Value → Shared → Prop} {s : Shared}
theorem x_newStop {hn : Option (Addr × Obj)} (H : Hand A hn) {Q : α → Shared → Prop} (hI : ∀ p, hn = some p → s.heap.get? p.1 = some p.2)
  (k : ∀ e h', (∀ b o, s.heap.get? b = some o → h'.get? b = some o) → (∃ oe, h'.get? e = some oe ∧ oe.cls = .type "StopIteration") → E (.ref e) { s with heap := h' }) :
  wpAny (model prog w) A (newExc (.type "StopIteration") [] >>= fun x => (raiseNew x : Sem α)) Q E s := by
 refine wpAny_bind ?_
 delta newExc newTuple
 refine wpAny_bind (wpAny_newObj_type ?_ (by size_fits))
 refine wpAny_bind (m := firstArgMember _ _) (wpAny_of_eq (a := Value.none) (by first | rfl | (simp only [firstArgMember]; rfl)) ?_)
 refine wpAny_newObj_type ?_ (by size_fits)
 cases hn with
 | none =>
  refine wpAny_raiseNew_none H.hd (k _ _ (fun b o e => Heap.get?_push_of_some _ (Heap.get?_push_of_some _ e)) ⟨_, Heap.get?_push_size _ rfl, rfl⟩)
 | some p =>
  obtain ⟨vs, hpd, hp2⟩ := H.hx p rfl
  have g2 := Heap.get?_push_of_some (h := s.heap) { cls := .type "tuple", data := .seq ([] : List Value).toArray } (hI p rfl)
  refine x_raiseNew (x := p.1) (show A.handled = some (.ref p.1) from H.hd) (Nat.ne_of_lt (Heap.lt_size g2)) (Heap.get?_push_size _ rfl) rfl (by simp only [Array.size_append]; exact Nat.lt_of_lt_of_le (by decide : 2 < 6) (Nat.le_add_right _ _)) (Heap.get?_push_of_some _ g2) hpd hp2 ?_
  refine k _ _ (fun b o e => ?_) ⟨_, Heap.get?_update_self _ (Heap.get?_push_size _ rfl) rfl, Obj.cls_mapFields _ _⟩
  rw [Heap.get?_update_other _ _ ?_]
  ·exact Heap.get?_push_of_some _ (Heap.get?_push_of_some _ e)
  ·intro z
   have lt : b < s.heap.objs.size := Heap.lt_size e
   have z' : s.heap.objs.size + 1 = b := by simpa using z
   have : s.heap.objs.size < b := z' ▸ Nat.lt_succ_self _
   exact absurd (Nat.lt_trans lt this) (Nat.lt_irrefl _)
variable {K : Type} [DecidableEq K] {knd : KeyKind prog w K}
theorem x_dict_end {hn : Option (Addr × Obj)} (H : Hand A hn) {ep : Nat} {kvs : List (K × Value)} {Q : Option Value → Shared → Prop} (hit : s.heap.IsKeyIter it d i kvs.length ep)
  (hm : s.heap.DictAt knd d kvs ep) (hx : kvs[i]? = none) (hI : ∀ p, hn = some p → p.1 ≠ it ∧ s.heap.get? p.1 = some p.2)
  (hQ : ∀ h', Heap.ExtBut it s.heap h' → Q none { s with heap := h' }) : wpAny (model prog w) A (pyNext (.ref it)) Q E s := by
 obtain ⟨o, ho, hc, hd⟩ := id hit
 obtain ⟨od, es, hod, hcd, hdd, hk, hp, hn'⟩ := id hm
 unfold pyNext
 refine wpAny_bind (wpAny_attempt (wpAny_callSpecial?_slot (name := Str.ofString "__next__") hit.typeIs PySem.F.slot_dict_keyiterator_next
  (wpAny_call_entry PySem.F.slot_dict_keyiterator_next hit.typeIs PySem.F.entry_dict_keyiterator_next ?_ (PySem.F.args_dict_keyiterator_next_1 _))))
 refine wpAny_bind (wpAny_pure ?_)
 refine wpAny_bind ?_
 refine wpAny_bind ?_
 first | refine wpAny_bind (wpAny_typeNameOfWhole_keyiter hit.typeIs (wpAny_pure ?_)) | refine wpAny_bind (wpAny_typeNameOf_keyiter hit.typeIs (wpAny_pure ?_))
 refine wpAny_bind (wpAny_fieldsOf ho hd ?_)
 have hown : Builtin.Dict_items.ownsTuple "dict_keyiterator" = false := by decide
 rw [hown]
 show wpAny _ _ (if (Value.ref d == Value.none) = true then _ else _) _ _ s
 rw [if_neg (show ¬ ((Value.ref d == Value.none) = true) from Bool.false_ne_true)]
 refine wpAny_bind (wpAny_pure ?_)
 refine wpAny_bind (wpAny_dictEntries hod hdd ?_)
 have hsz : es.size = kvs.length := by rw [← hp.length]; simp
 rw [if_neg (by rw [hsz]; simp)]
 refine wpAny_bind (wpAny_pure ?_)
 refine wpAny_bind (wpAny_dictEpoch hod hdd ?_)
 rw [if_neg (by simp)]
 refine wpAny_pure ?_
 have hge : es.size ≤ i := by rw [hsz]; simpa using hx
 dsimp only
 rw [if_neg (show ¬ ((i : Int) < 0) from Int.not_lt.mpr (Int.natCast_nonneg i)), Int.toNat_natCast, Array.getElem?_eq_none hge]
 refine wpAny_bind ?_
 first | refine wpAny_bind (wpAny_typeNameOfWhole_keyiter hit.typeIs (wpAny_pure ?_)) | refine wpAny_bind (wpAny_typeNameOf_keyiter hit.typeIs (wpAny_pure ?_))
 show wpAny _ _ (setField (.ref it) 0 .none >>= _) _ _ s
 refine wpAny_bind (wpAny_setField ho hd (by simp) ?_)
 show wpAny _ _ (newExc (.type "StopIteration") [] >>= fun x => raiseNew x) _ _ _
 refine x_newStop (A := A.in1) ⟨H.hd, H.hx⟩ (fun p hp => (Heap.get?_update_other _ _ (Ne.symm (hI p hp).1)).trans (hI p hp).2) fun e h' kk he => ?_
 refine wpAny_bind (wpAny_isInstance (T := "StopIteration") (b := true) he isSubtype_stop ?_)
 exact wpAny_pure (hQ _ fun b o hb e => kk b o ((Heap.get?_update_other _ _ (Ne.symm hb)).trans e))
end
theorem walks_dict {prog : Program} {w : World} {A : Around} {K : Type} [DecidableEq K] {knd : KeyKind prog w K} {hn : Option (Addr × Obj)} (H : Hand A hn) (I d : Addr) (hne : d ≠ I) (hI : ∀ p, hn = some p → p.1 ≠ I) (kvs : List (K × Value)) (ep : Nat) :
  Walks prog w A I ([I, d] ++ (hn.map (·.1)).toList) [I] kvs.length (fun i v => ∃ k x, kvs[i]? = some (k, x) ∧ knd.is k v = true) (fun i h => h.IsKeyIter I d i kvs.length ep ∧ (h.DictAt knd d kvs ep ∧ ∀ p, hn = some p → h.get? p.1 = some p.2)) where
 sub := fun b hb => by simp at hb; simp [hb]
 frame := fun _ _ _ st hk => ⟨st.1.at fun o e => hk I (by simp) o e, st.2.1.at' fun o e => hk d (by simp) o e, fun p hp => hk _ (by simp [hp]) _ (st.2.2 p hp)⟩
 item := fun i s Q E hi st hQ => by
  obtain ⟨⟨k, x⟩, hx⟩ : ∃ p, kvs[i]? = some p := ⟨kvs[i], by simp [hi]⟩
  refine wpAny_pyNext_dict_item st.1 st.2.1 hx fun key h' hkey hit' hs' => ?_
  exact hQ key h' s.toks ⟨k, x, hx, hkey⟩ ⟨hit', st.2.1.extBut hs'.extBut hne, fun p hp => hs'.extBut _ _ (hI p hp) (st.2.2 p hp)⟩ fun b o hb e => hs'.extBut b o (fun h => hb (by simp [h])) e
 done := fun s Q E st hQ => x_dict_end H st.1 st.2.1 (by simp) (fun p hp => ⟨hI p hp, st.2.2 p hp⟩) fun h' he' => hQ h' s.toks fun b o hb e => he' b o (fun h => hb (by simp [h])) e
 self := fun _ _ _ _ st hQ => wpAny_pyIter_keyiter st.1 hQ
section
variable {prog : Program} {w : World} {A : Around} {E : Value → Shared → Prop} {s : Shared} {K : Type} [DecidableEq K] {knd : KeyKind prog w K}
theorem x_collect_dict {hn : Option (Addr × Obj)} (H : Hand A hn) {kvs : List (K × Value)} {ep : Nat} {Q : List Value → Shared → Prop} (lo : (d == sysModules) = false) (hm : s.heap.DictAt knd d kvs ep) (hI : ∀ p, hn = some p → s.heap.get? p.1 = some p.2) (hsz : kvs.length ≤ sizeLine)
  (hQ : ∀ h' tk acc, (∀ b o, s.heap.get? b = some o → h'.get? b = some o) → ItemsOf (fun i v => ∃ k x, kvs[i]? = some (k, x) ∧ knd.is k v = true) acc kvs.length → Q acc.toList { s with heap := h', toks := tk }) : wpAny (model prog w) A (collect (.ref d)) Q E s := by
 obtain ⟨od, es, hod, hcd, hdd, hrest⟩ := id hm
 have dlt : d < s.heap.objs.size := Heap.lt_size hod
 unfold collect
 refine wpAny_bind (wpAny_runValue (codeAny_builtin PySem.F.entry_proto_collect ?_))
 rw [Around.under_plainId PySem.F.plain_proto_collect _]
 show wpAny _ A.in1 (newList [] >>= fun l => again (.builtin "list.__iadd__" ⟨[l, .ref d], []⟩)) _ _ s
 refine wpAny_bind (wpAny_newObj_type ?_)
 refine wpAny_pure ⟨plainId_quiet PySem.F.plain_list_iadd _, codeAny_builtin PySem.F.entry_list_iadd ?_⟩
 rw [Around.under_plainId PySem.F.plain_list_iadd _]
 show wpAny _ A.in1 (Builtin.List.listExtendWith (.ref s.heap.objs.size) (.ref d) (.ref s.heap.objs.size)) _ _ _
 generalize hS0 : s.heap.objs.size = S at *
 generalize hh1 : s.heap.push { cls := .type "list", data := .seq ([] : List Value).toArray } = h1
 have k1 : ∀ b o, s.heap.get? b = some o → h1.get? b = some o := fun b o e => by rw [← hh1]; exact Heap.get?_push_of_some _ e
 have gS : h1.get? S = some { cls := .type "list", data := .seq ([] : List Value).toArray } := by rw [← hh1, ← hS0]; exact Heap.get?_push_size _ rfl
 have szh : h1.objs.size = S + 1 := by rw [← hh1, Heap.size_push, hS0]
 have hSd : S ≠ d := Nat.ne_of_gt dlt
 have hm1 : h1.DictAt knd d kvs ep := hm.at' fun o e => k1 _ _ e
 have hI1 : ∀ p, hn = some p → h1.get? p.1 = some p.2 := fun p hp => k1 _ _ (hI p hp)
 have Ipos : ∀ p, hn = some p → p.1 ≠ h1.objs.size := fun p hp => Nat.ne_of_lt (Heap.lt_size (hI1 p hp))
 have W := walks_dict (prog := prog) (w := w) (knd := knd) (A := A.in1) (hn := hn) ⟨H.hd, H.hx⟩ h1.objs.size d (Nat.ne_of_lt (Heap.lt_size (k1 _ _ hod))) Ipos kvs ep
 have hSf : S ∉ ([h1.objs.size, d] ++ (hn.map (·.1)).toList) := by
  simp only [List.mem_append, List.mem_cons, List.not_mem_nil, or_false, not_or]
  refine ⟨⟨by rw [szh]; exact Nat.ne_of_lt (Nat.lt_succ_self _), hSd⟩, fun hx => ?_⟩
  obtain ⟨p, hp, e⟩ : ∃ p, hn = some p ∧ p.1 = S := by simpa using hx
  have := Heap.lt_size (hI p hp)
  rw [e, hS0] at this
  exact Nat.lt_irrefl _ this
 unfold Builtin.List.listExtendWith
 have hT : (⟨h1, s.gens, s.drawn, s.toks, s.os⟩ : Shared).TypeIs (.ref d) "dict" := ⟨_, k1 _ _ hod, hcd.1⟩
 refine wpAny_bind (wpAny_typeOf hT ?_)
 have e1 : Builtin.List.listSameRef (.ref S) (.ref d) = false := by simp [Builtin.List.listSameRef, hSd]
 have e2 : (Value.type "dict" == Value.type "list") = false := by decide
 have e3 : (Value.type "dict" == Value.type "tuple") = false := by decide
 rw [e1, e2, e3]
 refine wpAny_bind (wpAny_pyIter_dict lo hm1 ?_)
 have st0 : (h1.push { cls := .type "dict_keyiterator", data := .fields #[.ref d, rawInt 0, rawInt kvs.length, rawInt ep] }).IsKeyIter h1.objs.size d 0 kvs.length ep ∧ ((h1.push { cls := .type "dict_keyiterator", data := .fields #[.ref d, rawInt 0, rawInt kvs.length, rawInt ep] }).DictAt knd d kvs ep ∧
   ∀ p, hn = some p → (h1.push { cls := .type "dict_keyiterator", data := .fields #[.ref d, rawInt 0, rawInt kvs.length, rawInt ep] }).get? p.1 = some p.2) :=
  ⟨⟨_, Heap.get?_push_size _ rfl, rfl, rfl⟩, hm1.push _, fun p hp => Heap.get?_push_of_some _ (hI1 p hp)⟩
 refine wpAny_bind (wpAny_holding (kdl_hint_dict ⟨_, Heap.get?_push_of_some _ (k1 _ _ hod), hcd.1⟩ ?_))
 have key : ∀ (h : Heap) (c₁ tk : Nat), (h.IsKeyIter h1.objs.size d 0 kvs.length ep ∧ (h.DictAt knd d kvs ep ∧ ∀ p, hn = some p → h.get? p.1 = some p.2)) → (∀ b o, s.heap.get? b = some o → h.get? b = some o) →
   h.get? S = some { cls := .type "list", data := .seq #[] c₁ } → codeAny (model prog w) A (.builtin "list.extend.loop" ⟨[.ref S, .ref h1.objs.size, .ref S], []⟩) (fun r s' => match r with | .ok (.ret v) => wpAny (model prog w) A (match v with | .ref a => (load a) >>= (fun o => match o.data with | .seq xs _ => pure xs.toList | _ => unsupported "internal:collect") | _ => unsupported "internal:collect") Q E s' | .ok _ => False | .error e => E e s') { s with heap := h, toks := tk } := by
  intro h c₁ tk hst hk hS₁
  refine codeAny_extend_loopS W.toS hsz S hSf (.ref S) kvs.length 0 _ #[] c₁ rfl (Nat.zero_le _) hst hS₁ (ItemsOf.nil _) fun s' acc' c' hmv hS' hacc => ?_
  rw [Moved.eq_with hmv]
  refine wpAny_bind (wpAny_load hS' (wpAny_pure ?_))
  refine hQ s'.heap s'.toks acc' (fun b o e => hmv.heap b o (fun hmem => ?_) (hk b o e)) hacc
  have lt := Heap.lt_size e
  rw [hS0] at lt
  rcases List.mem_cons.mp hmem with e' | hmem
  ·rw [e'] at lt; exact Nat.lt_irrefl _ lt
  ·have e' := List.mem_singleton.mp hmem
   rw [e', szh] at lt
   exact Nat.lt_irrefl _ (Nat.lt_trans (Nat.lt_succ_self _) lt)
 have old1 : ∀ b o, s.heap.get? b = some o → (h1.push { cls := .type "dict_keyiterator", data := .fields #[.ref d, rawInt 0, rawInt kvs.length, rawInt ep] }).get? b = some o := fun b o e => Heap.get?_push_of_some _ (k1 _ _ e)
 have gS2 := Heap.get?_push_of_some { cls := .type "dict_keyiterator", data := .fields #[.ref d, rawInt 0, rawInt kvs.length, rawInt ep] } gS
 have bS : ∀ b o, s.heap.get? b = some o → S ≠ b := fun b o e => by
  have lt := Heap.lt_size e
  rw [hS0] at lt
  exact (Nat.ne_of_lt lt).symm
 refine wpAny_ite_split (fun _ => ?_) (fun _ => wpAny_pure ⟨plainId_quiet PySem.F.plain_extend_loop _, key _ _ _ st0 old1 gS2⟩)
 refine wpAny_bind (wpAny_rule ?_)
 refine wpAny_bind ?_
 show wpAny _ _ (updateSeq S (·.push .none) >>= fun _ => updateSeq S (·.pop)) _ _ _
 refine wpAny_bind (wpAny_updateSeq gS2 rfl ?_)
 have gS3 := Heap.get?_update_self (Obj.mapSeq (·.push Value.none)) gS2 rfl
 refine wpAny_updateSeq (hz := by seq_fits) gS3 rfl ?_
 have gS4 := Heap.get?_update_self (Obj.mapSeq (·.pop)) gS3 rfl
 refine wpAny_pure ⟨plainId_quiet PySem.F.plain_extend_loop _, key _ _ _ ?_ (fun b o e => ?_) gS4⟩
 ·refine W.frame 0 _ _ st0 fun b hb o e => ?_
  have hbS : b ≠ S := fun h => hSf (h ▸ hb)
  exact (Heap.get?_update_other _ _ (Ne.symm hbS)).trans ((Heap.get?_update_other _ _ (Ne.symm hbS)).trans e)
 ·exact (Heap.get?_update_other _ _ (bS b o e)).trans ((Heap.get?_update_other _ _ (bS b o e)).trans (old1 b o e))
end
theorem cps_anti (a b : List Nat) (h1 : ltCps a b = false) (h2 : ltCps b a = false) : a = b := by
 rw [ltCps_eq] at h1 h2
 exact List.le_antisymm (of_decide_eq_false h2) (of_decide_eq_false h1)
theorem cps_trans (a b c : List Nat) (h1 : ltCps b a = false) (h2 : ltCps c b = false) : ltCps c a = false := by
 rw [ltCps_eq] at *
 exact decide_eq_false (List.le_trans (α := Nat) (l₁ := a) (of_decide_eq_false h1) (of_decide_eq_false h2))
theorem rising_pw {l : List Str} : ∀ {p : Str}, risingS p l = true → (p :: l).Pairwise (fun a b => ltCps b.cps.toList a.cps.toList = false) := by
 induction l with
 | nil => exact fun _ => List.pairwise_singleton _ _
 | cons x r ih =>
  intro p h
  obtain ⟨h1, h2⟩ := Bool.and_eq_true_iff.mp (show (!ltCps x.cps.toList p.cps.toList && risingS x r) = true from h)
  have h1 := (Bool.not_eq_true' _).mp h1
  refine List.pairwise_cons.mpr ⟨fun y hy => ?_, ih h2⟩
  rcases List.mem_cons.mp hy with e | hy
  ·rw [e]; exact h1
  ·exact cps_trans _ _ _ h1 ((List.pairwise_cons.mp (ih h2)).1 y hy)
theorem sortedS_pw (l : List Str) (h : sortedS l = true) : l.Pairwise (fun a b => ltCps b.cps.toList a.cps.toList = false) := by
 cases l with
 | nil => exact .nil
 | cons x r => exact rising_pw h
theorem str_ext {a b : Str} (h : a.cps.toList = b.cps.toList) : a = b := by
 cases a; cases b
 simp only [Str.mk.injEq]
 exact Array.ext' h
theorem sorted_one {a b : List Str} (p : a.Perm b) (ha : a.Pairwise (fun a b => ltCps b.cps.toList a.cps.toList = false)) (hb : b.Pairwise (fun a b => ltCps b.cps.toList a.cps.toList = false)) : a = b :=
 List.Perm.eq_of_pairwise (fun _ _ _ _ h1 h2 => str_ext (cps_anti _ _ h2 h1)) ha hb p
open Classical in
noncomputable def srtS (ks : List Str) : List Str := if h : ∃ ss : List Str, ss.Perm ks ∧ sortedS ss = true then choose h else ks
open Classical in
theorem srtS_is {ks : List Str} (h1 : ss.Perm ks) (h2 : sortedS ss = true) : ss = srtS ks ∧ (srtS ks).Perm ks := by
 have ex : ∃ ss : List Str, ss.Perm ks ∧ sortedS ss = true := ⟨ss, h1, h2⟩
 have e : srtS ks = choose ex := by unfold srtS; rw [dif_pos ex]
 have sp := choose_spec ex
 rw [e]
 exact ⟨sorted_one (h1.trans sp.1.symm) (sortedS_pw _ h2) (sortedS_pw _ sp.2), sp.1⟩
open Classical in
noncomputable def srtI (ks : List Int) : List Int := if h : ∃ ss : List Int, ss.Perm ks ∧ ss.Pairwise (· ≤ ·) then choose h else ks
open Classical in
theorem srtI_is {ss : List Int} (h1 : ss.Perm ks) (h2 : ss.Pairwise (· ≤ ·)) : ss = srtI ks ∧ (srtI ks).Perm ks := by
 have ex : ∃ ss : List Int, ss.Perm ks ∧ ss.Pairwise (· ≤ ·) := ⟨ss, h1, h2⟩
 have e : srtI ks = choose ex := by unfold srtI; rw [dif_pos ex]
 have sp := choose_spec ex
 rw [e]
 exact ⟨ksm_same (h1.trans sp.1.symm) h2 sp.2, sp.1⟩
theorem strs_are {w : World} {acc : Array Value} (it : ItemsOf (fun i v => ∃ k x, kvs[i]? = some (k, x) ∧ (PySem.strKind prog w).is k v = true) acc kvs.length) : StrsAre acc.toList (kvs.map (·.1)) := by
 have key : ∀ (vs : List Value) (kvs : List (Str × Value)), vs.length = kvs.length → (∀ (j : Nat) (v : Value), vs[j]? = some v → ∃ k x, kvs[j]? = some (k, x) ∧ (PySem.strKind prog w).is k v = true) → StrsAre vs (kvs.map (·.1)) := by
  intro vs
  induction vs with
  | nil =>
   intro kvs hl _
   rw [List.eq_nil_of_length_eq_zero hl.symm]
   exact .nil
  | cons v vs ih =>
   intro kvs hl h
   cases kvs with
   | nil => cases hl
   | cons p kvs =>
    obtain ⟨k, x, e, hk⟩ := h 0 v rfl
    obtain ⟨t, e2⟩ := Value.isStrOf_shape hk
    rw [e2, Option.some.inj e]
    exact .cons _ _ (ih _ (Nat.succ.inj hl) fun j v hv => h (j + 1) v hv)
 exact key _ _ it.1 fun j v hv => it.2 j v (Array.getElem?_toList ▸ hv)
theorem ints_are {kvs : List (Int × Value)} {w : World} {acc : Array Value} (it : ItemsOf (fun i v => ∃ k x, kvs[i]? = some (k, x) ∧ (PySem.intKind prog w).is k v = true) acc kvs.length) : IntsAre acc.toList (kvs.map (·.1)) := by
 have key : ∀ (vs : List Value) (kvs : List (Int × Value)), vs.length = kvs.length → (∀ (j : Nat) (v : Value), vs[j]? = some v → ∃ k x, kvs[j]? = some (k, x) ∧ (PySem.intKind prog w).is k v = true) → IntsAre vs (kvs.map (·.1)) := by
  intro vs
  induction vs with
  | nil =>
   intro kvs hl _
   rw [List.eq_nil_of_length_eq_zero hl.symm]
   exact .nil
  | cons v vs ih =>
   intro kvs hl h
   cases kvs with
   | nil => cases hl
   | cons p kvs =>
    obtain ⟨k, x, e, hk⟩ := h 0 v rfl
    obtain ⟨t, e2⟩ := Value.isInt_shape hk
    rw [e2, Option.some.inj e]
    exact .cons _ _ (ih _ (Nat.succ.inj hl) fun j v hv => h (j + 1) v hv)
 exact key _ _ it.1 fun j v hv => it.2 j v (Array.getElem?_toList ▸ hv)
section
variable {X : XP} {C : Cx} {Q : QV} {J own : Led} {M : Loc}
theorem g_sortedS {w : World} (hw : C.w = w) {o : Obj} (hp : (d, o) ∈ own ++ J) (hd : o.IsDictOf (PySem.strKind prog w) kvs) (lo : (d == sysModules) = false) (h64 : kvs.length < 64)
  (h : ∀ D vs c, StrsAre vs (srtS (kvs.map (·.1))) → (srtS (kvs.map (·.1))).Perm (kvs.map (·.1)) → Q (.ref D) M ((D, listOf vs.toArray c) :: own) J) : G C (call (.builtin "sorted") [.ref d]) M own J X Q := .mk fun ok s m loc S => by
 subst hw
 have hD := kda_dict S.news (mR (mR hp)) hd
 obtain ⟨ep, hA⟩ := hD.dictAt
 refine Calls.call_function_entry kind_sorted plain_sorted entry_sorted (args_sorted1 _) ?_
 unfold Builtin.«sorted»
 refine wpAny_bind (m := checkCount "sorted" 1 1 _) (wpAny_pure ?_)
 refine wpAny_bind (x_collect_dict (A := C.A.in1) ⟨ok.hand.hd, ok.hand.hx⟩ lo hA (fun p hp => (S.news p (mR (mL (ok.hx p hp).1))).1) (by rw [sizeLine_eq]; omega) fun h1 tk acc k1 it => ?_)
 have S1 : St C M own J h1 m loc := ⟨S.fr.keeps k1, fun p hp => ⟨k1 _ _ (S.news p hp).1, (S.news p hp).2⟩, S.apart, S.vars⟩
 have sa : StrsAre acc.toList (kvs.map (·.1)) := strs_are it
 refine wpAny_bind (wpAny_newList ?_)
 have hoL : (h1.push (seqObj "list" acc.toList.toArray 0)).get? h1.objs.size = some (seqObj "list" acc.toList.toArray 0) := Heap.get?_push_size _ rfl
 have len : acc.toList.length < 64 := by
  have := it.1
  rw [Array.length_toList, this]; exact h64
 refine wpAny_bind (wpAny_holding (wpAny_call_entry slot_list_sort ⟨_, hoL, rfl⟩ entry_list_sort (list_sort_treeK strKind_oneLt hoL sa.keysOf (fun v₁ v₂ rest e => keyKind_strs (by rw [← e]; exact sa)) len fun st' a1 a2 => ⟨_, rfl, ?_⟩) (args_list_sort _)))
 refine wpAny_pure ⟨_, rfl, ?_⟩
 obtain ⟨ss', b1, b2, b3⟩ := sorted_out_str sa a1 a2
 obtain ⟨rfl, pm⟩ := srtS_is b2 b3
 obtain ⟨e, he⟩ := sortedHeap_at (out := (arrOf st').map (·.2)) hoL
 have k2 : ∀ b o, h1.get? b = some o → (sortedHeap (h1.push (seqObj "list" acc.toList.toArray 0)) h1.objs.size acc.toList ((arrOf st').map (·.2))).get? b = some o := fun b o eb => by
  rw [sortedHeap_old (Nat.ne_of_lt (Heap.lt_size eb)) (by rw [size_push']; exact Nat.lt_succ_of_lt (Heap.lt_size eb))]
  exact Heap.get?_push_of_some _ eb
 have S2 : St C M ((h1.objs.size, listOf ((arrOf st').map (·.2)).toList.toArray e) :: own) J (sortedHeap (h1.push (seqObj "list" acc.toList.toArray 0)) h1.objs.size acc.toList ((arrOf st').map (·.2))) m loc := by
  refine S1.mine (S1.fr.keeps k2) (fun p hp => ?_) fun p hp => Heap.lt_size (S1.news p hp).1
  rcases List.mem_cons.mp hp with rfl | hp
  ·exact ⟨by rw [he, Array.toArray_toList], (Nat.ne_of_lt S1.fr.ns.lt).symm, next_is_new S1.fr⟩
  ·exact ⟨k2 _ _ (S1.news p hp).1, (S1.news p hp).2⟩
 exact Post.mk' (tk := tk) S2 (h _ _ _ b1 pm)
theorem g_sortedI {w : World} (hw : C.w = w) {o : Obj} {kvs : List (Int × Value)} (hp : (d, o) ∈ own ++ J) (hd : o.IsDictOf (PySem.intKind prog w) kvs) (lo : (d == sysModules) = false) (h64 : kvs.length < 64)
  (h : ∀ D vs c, IntsAre vs (srtI (kvs.map (·.1))) → (srtI (kvs.map (·.1))).Perm (kvs.map (·.1)) → Q (.ref D) M ((D, listOf vs.toArray c) :: own) J) : G C (call (.builtin "sorted") [.ref d]) M own J X Q := .mk fun ok s m loc S => by
 subst hw
 have hD := kda_dict S.news (mR (mR hp)) hd
 obtain ⟨ep, hA⟩ := hD.dictAt
 refine Calls.call_function_entry kind_sorted plain_sorted entry_sorted (args_sorted1 _) ?_
 unfold Builtin.«sorted»
 refine wpAny_bind (m := checkCount "sorted" 1 1 _) (wpAny_pure ?_)
 refine wpAny_bind (x_collect_dict (A := C.A.in1) ⟨ok.hand.hd, ok.hand.hx⟩ lo hA (fun p hp => (S.news p (mR (mL (ok.hx p hp).1))).1) (by rw [sizeLine_eq]; omega) fun h1 tk acc k1 it => ?_)
 have S1 : St C M own J h1 m loc := ⟨S.fr.keeps k1, fun p hp => ⟨k1 _ _ (S.news p hp).1, (S.news p hp).2⟩, S.apart, S.vars⟩
 have sa : IntsAre acc.toList (kvs.map (·.1)) := ints_are it
 refine wpAny_bind (wpAny_newList ?_)
 have hoL : (h1.push (seqObj "list" acc.toList.toArray 0)).get? h1.objs.size = some (seqObj "list" acc.toList.toArray 0) := Heap.get?_push_size _ rfl
 have len : acc.toList.length < 64 := by
  have := it.1
  rw [Array.length_toList, this]; exact h64
 refine wpAny_bind (wpAny_holding (wpAny_call_entry slot_list_sort ⟨_, hoL, rfl⟩ entry_list_sort (list_sort_tree hoL sa len fun out ns' b1 b2 b3 => ⟨_, rfl, ?_⟩) (args_list_sort _)))
 refine wpAny_pure ⟨_, rfl, ?_⟩
 obtain ⟨rfl, pm⟩ := srtI_is b2 b3
 obtain ⟨e, he⟩ := sortedHeap_at (out := out) hoL
 have k2 : ∀ b o, h1.get? b = some o → (sortedHeap (h1.push (seqObj "list" acc.toList.toArray 0)) h1.objs.size acc.toList out).get? b = some o := fun b o eb => by
  rw [sortedHeap_old (Nat.ne_of_lt (Heap.lt_size eb)) (by rw [size_push']; exact Nat.lt_succ_of_lt (Heap.lt_size eb))]
  exact Heap.get?_push_of_some _ eb
 have S2 : St C M ((h1.objs.size, listOf out.toList.toArray e) :: own) J (sortedHeap (h1.push (seqObj "list" acc.toList.toArray 0)) h1.objs.size acc.toList out) m loc := by
  refine S1.mine (S1.fr.keeps k2) (fun p hp => ?_) fun p hp => Heap.lt_size (S1.news p hp).1
  rcases List.mem_cons.mp hp with rfl | hp
  ·exact ⟨by rw [he, Array.toArray_toList], (Nat.ne_of_lt S1.fr.ns.lt).symm, next_is_new S1.fr⟩
  ·exact ⟨k2 _ _ (S1.news p hp).1, (S1.news p hp).2⟩
 exact Post.mk' (tk := tk) S2 (h _ _ _ b1 pm)
end
section
open PySem.SeqAt
inductive TD where
 | str (s : Str)
 | int (i : Int)
 | byt (b : Array UInt8)
 | tup (l : List TD)
mutual
inductive RepH (h : Heap) : Value → TD → Prop
 | str (s : Str) (t : Tok) : RepH h (.str s t) (.str s)
 | int (i : Int) (t : Tok) : RepH h (.int i t) (.int i)
 | byt (b : Array UInt8) (t : Tok) : RepH h (.bytes b t) (.byt b)
 | tup {a : Addr} {o : Obj} {vs : Array Value} {n : Nat} {ds : List TD} : h.get? a = some o → o.cls = .type "tuple" → o.data = .seq vs n → RepHL h vs.toList ds → RepH h (.ref a) (.tup ds)
inductive RepHL (h : Heap) : List Value → List TD → Prop
 | nil : RepHL h [] []
 | cons {v : Value} {d : TD} {vs : List Value} {ds : List TD} : RepH h v d → RepHL h vs ds → RepHL h (v :: vs) (d :: ds)
end
mutual
noncomputable def TD.dep : TD → Nat
 | .tup l => depAll l + 1
 | _ => 0
noncomputable def depAll : List TD → Nat
 | [] => 0
 | d :: r => max d.dep (depAll r)
end
mutual
noncomputable def TD.shown : TD → Str
 | .str s => reprText s
 | .int i => toString i
 | .byt b => Builtin.Bytes.literal b
 | .tup l => tupleText (shownAll l)
noncomputable def shownAll : List TD → List Str
 | [] => []
 | d :: r => d.shown :: shownAll r
end
mutual
noncomputable def TD.ok : TD → Bool
 | .str s => true
 | .int i => i.natAbs.log2 < 1920
 | .byt b => !Builtin.Bytes.tooLong (4 * b.size + 3 + 0)
 | .tup l => okAll l
noncomputable def okAll : List TD → Bool
 | [] => true
 | d :: r => d.ok && okAll r
end
theorem RepH.uniq {h : Heap} {d d' : TD} (r : RepH h v d) (x : RepH h v d') : d = d' :=
 r.rec (motive_1 := fun v d _ => ∀ d' : TD, RepH h v d' → d = d') (motive_2 := fun v d _ => ∀ d' : List TD, RepHL h v d' → d = d')
  (fun s t d' x => by cases x; rfl) (fun i t d' x => by cases x; rfl) (fun b t d' x => by cases x; rfl)
  (fun a1 a2 a3 _ ih d' x => by cases x with | tup b1 b2 b3 b4 => rw [a1] at b1; cases b1; rw [a3] at b3; cases b3; rw [ih _ b4])
  (fun d' x => by cases x; rfl) (fun _ _ i1 i2 d' x => by cases x with | cons a' r' => rw [i1 _ a', i2 _ r']) d' x
theorem RepHL.len {h : Heap} {v : List Value} {d : List TD} (r : RepHL h v d) : v.length = d.length :=
 r.rec (motive_1 := fun _ _ _ => True) (motive_2 := fun v d _ => v.length = d.length) (fun _ _ => trivial) (fun _ _ => trivial) (fun _ _ => trivial) (fun _ _ _ _ _ => trivial) rfl (fun _ _ _ i => congrArg Nat.succ i)
theorem eqAt_bytes (A : Around) (s : Shared) (b : Array UInt8) (t u : Tok) : EqAt A s (.bytes b t) (.bytes b u) true := fun prog w E Q hq => by
 unfold eqBool
 refine wpAny_holding ?_
 refine wpAny_ite_split (fun _ => wpAny_bind (wpAny_rule (wpAny_pure hq))) fun _ => ?_
 exact wpAny_bind (eq_bytes (wpAny_truthy_bool (by simpa using hq)))
theorem eqAt_int (A : Around) (s : Shared) (i : Int) (t u : Tok) : EqAt A s (.int i t) (.int i u) true := by
 have := (MeetsSeq.EqGives.int i i t u).at A s
 simpa using this
theorem eqAt_str (A : Around) (s : Shared) (x : Str) (t u : Tok) : EqAt A s (.str x t) (.str x u) true := by
 have := (eqGives_str x x t u).at A s
 simpa using this
set_option tactic.hygienic true in
theorem RepHL.eq {s : Shared} {ds : List TD} {vs us : List Value} (A : Around) (r : RepHL s.heap vs ds) (r' : RepHL s.heap us ds) (hu : A.units + depAll ds < cLine) (j : Nat) (v u : Value) (h : vs[j]? = some v) (h' : us[j]? = some u) : EqAt A s v u true :=
 r.rec (motive_1 := fun v d _ => ∀ (v' : Value) (A : Around), RepH s.heap v' d → A.units + d.dep < cLine → EqAt A s v v' true)
  (motive_2 := fun vs ds _ => ∀ (us : List Value) (A : Around), RepHL s.heap us ds → A.units + depAll ds < cLine → ∀ (j : Nat) (v u : Value), vs[j]? = some v → us[j]? = some u → EqAt A s v u true)
  (fun x t v' A r' _ => by cases r'; exact eqAt_str A s x t _) (fun x t v' A r' _ => by cases r'; exact eqAt_int A s x t _) (fun x t v' A r' _ => by cases r'; exact eqAt_bytes A s x t _)
  (fun {a o vs n ds} a1 a2 a3 a4 ih v' A r' hu => by
   cases r' with
   | tup b1 b2 b3 b4 =>
   rename_i b ob us nb
   by_cases e : a = b
   ·subst e; exact EqAt.same _
   ·refine EqAt.of_refs e ?_
    have hl : vs.size = us.size := by have h1 := a4.len; have h2 := b4.len; simp at h1 h2; omega
    have key := RcAt.tuples (A := A) (s := s) (l := a) (b := b) (e := fun _ => true) ⟨_, a1, a2, _, a3⟩ ⟨_, b1, b2, _, b3⟩ (by omega) (fun j h1 h2 => ih _ A.in1 b4 (Nat.add_right_comm A.units 1 _ ▸ hu) j _ _ (by simp [h1]) (by simp [h2]))
    have e1 : (List.range us.size).all (fun _ => true) = true := by simp
    rw [hl, Nat.min_self, e1] at key
    simpa using key)
  (fun us A _ _ j v u h _ => by simp at h)
  (fun _ _ i1 i2 us A r' hu j v u h h' => by
   cases r' with
   | cons a' r' =>
   cases j with
   | zero =>
    simp only [List.getElem?_cons_zero, Option.some.injEq] at h h'
    subst h h'
    exact i1 _ A a' (un1 hu (Nat.le_max_left _ _))
   | succ j => exact i2 _ A r' (un1 hu (Nat.le_max_right _ _)) j v u (by simpa using h) (by simpa using h')) us A r' hu j v u h h'
set_option tactic.hygienic true in
theorem cmp_tups {prog : Program} {w : World} {s : Shared} {b : Addr} {ds : List TD} {Q : Value → Shared → Prop} (h1 : RepH s.heap (.ref a) (.tup ds)) (h2 : RepH s.heap (.ref b) (.tup ds)) (hu : A.units + (depAll ds + 1) < cLine) (h : Q (.bool true) s) :
  wpAny (model prog w) A (compareOp .Eq (.ref a) (.ref b)) Q E s := by
 cases h1 with
 | tup a1 a2 a3 a4 =>
 rename_i oa va na
 cases h2 with
 | tup b1 b2 b3 b4 =>
 rename_i ob vb nb
 have hl : va.size = vb.size := by have h1 := a4.len; have h2 := b4.len; simp at h1 h2; omega
 have key := RcAt.tuples (A := A) (s := s) (l := a) (b := b) (e := fun _ => true) ⟨_, a1, a2, _, a3⟩ ⟨_, b1, b2, _, b3⟩ (by omega) (fun j h1 h2 => RepHL.eq A.in1 a4 b4 (by show A.units + 1 + _ < _; omega) j _ _ (by simp [h1]) (by simp [h2]))
 have e1 : (List.range vb.size).all (fun _ => true) = true := by simp
 refine key prog w E Q ?_
 rw [hl, Nat.min_self, e1]
 simpa using h
theorem slot_bytes_repr : Slot "bytes" "__repr__" "bytes.__repr__" :=
 .of (owner := "bytes") (n := "__repr__") (by rw [typeLookup_type, builtinLookup_eq_fast]; kernel_rfl) (by decide +kernel) (by decide +kernel) (by decide +kernel)
  (by first | exact .inl (by decide +kernel) | exact .inr (by decide +kernel)) (by rw [isSubtype_type]; kernel_rfl)
theorem entry_bytes_repr : entryFor table "bytes.__repr__" = some Builtin.«bytes.__repr__» := entryFor_of_tree (by kernel_rfl)
theorem args_bytes_repr (a : Value) : argsOk "bytes.__repr__" ⟨[a], []⟩ := by
 unfold argsOk; rw [signature?_of (id := "bytes.__repr__") (n := ['_', '_', 'r', 'p', 'e', 'r', '_', '_']) (o := ['s', 'e', 't', 'y', 'b']) (by kernel_rfl) FB.owner_bytes]; kernel_rfl
theorem gives_bytes_repr (b : Array UInt8) (t : Tok) (h : Builtin.Bytes.tooLong (4 * b.size + 3 + 0) = false) : Gives (Builtin.«bytes.__repr__» ⟨[.bytes b t], []⟩) (.str (Builtin.Bytes.literal b)) := by
 refine .of_eq ?_
 show (Builtin.Bytes.literalAsked b >>= fun r => retStr r) = _
 unfold Builtin.Bytes.literalAsked
 rw [h]
 rfl
theorem ReprIs.bytes {prog : Program} {w : World} (b : Array UInt8) (t : Tok) (h : Builtin.Bytes.tooLong (4 * b.size + 3 + 0) = false) (hsz : (Builtin.Bytes.literal b).length ≤ sizeLine) : ReprIs prog w (.bytes b t) (Builtin.Bytes.literal b) := fun n hn _ _ s _ h' => by
 have hn' : n ≤ sizeLine := by omega
 rw [pyReprUnder_leaf (v := .bytes b t) hn' (fun _ e => nomatch e)]
 unfold pyRepr
 exact wpAny_bind (wpAny_pyReprObj_gives (typeIs_bytes s b t) slot_bytes_repr entry_bytes_repr (args_bytes_repr _) (gives_bytes_repr b t h) (wpAny_pure (h' _)) (hx := hsz))
noncomputable def AtMost (h : Heap) (n : Nat) (bs : List Addr) : Prop := ∀ b ∈ bs, ∃ d, RepH h (.ref b) d ∧ d.dep ≤ n
theorem AtMost.not_mem {h : Heap} {bs : List Addr} {d : TD} (r : RepH h (.ref a) d) (hd : n < d.dep) (hb : AtMost h n bs) : a ∉ bs := fun hm => by
 obtain ⟨d', r', h'⟩ := hb a hm
 rw [r.uniq r'] at hd
 exact Nat.lt_irrefl _ (Nat.lt_of_lt_of_le hd h')
theorem ReprAllK.of_h {prog : Program} {w : World} {h : Heap} {vs : List Value} {ds : List TD} (r : RepHL h vs ds) (ho : okAll ds = true) (hz : ∀ t ∈ shownAll ds, t.length ≤ sizeLine) : ∃ bs, AtMost h (depAll ds) bs ∧ ReprAllK prog w bs h (depAll ds) vs (shownAll ds) :=
 r.rec (motive_1 := fun v d _ => d.ok = true → d.shown.length ≤ sizeLine → ∃ bs, AtMost h d.dep bs ∧ ReprK prog w bs h d.dep v d.shown)
  (motive_2 := fun vs ds _ => okAll ds = true → (∀ t ∈ shownAll ds, t.length ≤ sizeLine) → ∃ bs, AtMost h (depAll ds) bs ∧ ReprAllK prog w bs h (depAll ds) vs (shownAll ds))
  (fun s t _ hz => ⟨[], (fun _ h => nomatch h), ReprK.of_is (ReprIs.str s t hz) _ _ _⟩)
  (fun i t ho hz => ⟨[], (fun _ h => nomatch h), ReprK.of_is (ReprIs.int t (of_decide_eq_true ho)) _ _ _⟩)
  (fun b t ho hz => ⟨[], (fun _ h => nomatch h), ReprK.of_is (ReprIs.bytes b t (Eq.mp (Bool.not_eq_true' _) ho) hz) _ _ _⟩)
  (fun {a o vs n ds} h1 h2 h3 h4 ih ho hz => by
   obtain ⟨bs, hb, hk⟩ := ih ho (fun t ht => Nat.le_trans (tupleText_mem_le ht) hz)
   have r : RepH h (.ref a) (.tup ds) := .tup h1 h2 h3 h4
   have hna : a ∉ bs := AtMost.not_mem r (Nat.lt_succ_self _) hb
   refine ⟨a :: bs, fun b hm => ?_, ?_⟩
   ·rcases List.mem_cons.mp hm with rfl | hm
    ·exact ⟨_, r, Nat.le_refl _⟩
    ·obtain ⟨d', r', h'⟩ := hb b hm
     exact ⟨d', r', Nat.le_succ_of_le h'⟩
   ·exact ReprK.tuple h1 h2 h3 hna hk)
  (fun _ _ => ⟨[], (fun _ h => nomatch h), .nil⟩)
  (fun {v d vs ds} r rs i1 i2 ho hz => by
   have ho' : d.ok = true ∧ okAll ds = true := Bool.and_eq_true_iff.mp ho
   obtain ⟨b1, hb1, k1⟩ := i1 ho'.1 (hz _ (.head _))
   obtain ⟨b2, hb2, k2⟩ := i2 ho'.2 (fun t ht => hz t (.tail _ ht))
   refine ⟨b1 ++ b2, fun b hm => ?_, ?_⟩
   ·rcases List.mem_append.mp hm with hm | hm
    ·obtain ⟨d', r', hd'⟩ := hb1 b hm
     exact ⟨d', r', Nat.le_trans hd' (Nat.le_max_left _ _)⟩
    ·obtain ⟨d', r', hd'⟩ := hb2 b hm
     exact ⟨d', r', Nat.le_trans hd' (Nat.le_max_right _ _)⟩
   ·exact .cons ((k1.more fun b hb => mL hb).level_le (Nat.le_max_left _ _)) (k2.more_le (fun b hb => mR hb) (Nat.le_max_right _ _))) ho hz
theorem shownAll_len (ds : List TD) : (shownAll ds).length = ds.length := by
 induction ds with
 | nil => rfl
 | cons d r ih => exact congrArg Nat.succ ih
theorem repr_list {prog : Program} {w : World} {s : Shared} {vs : List Value} {ds : List TD} {Q : Value → Shared → Prop} (hD : s.heap.get? D = some (listOf (v :: vs).toArray c)) (r : RepHL s.heap (v :: vs) ds) (ho : okAll ds = true)
  (hz : (listText (shownAll ds)).length ≤ sizeLine) (hg : A.guards = some []) (hu : A.units + (depAll ds + 2) < cLine)
  (hQ : ∀ h' u tk, (∀ b o, s.heap.get? b = some o → h'.get? b = some o) → Q (.str (listText (shownAll ds)) u) { s with heap := h', toks := tk }) : wpAny (model prog w) A (call (.builtin "repr") [.ref D]) Q E s := by
 obtain ⟨bs, hb, hk⟩ := ReprAllK.of_h (prog := prog) (w := w) r ho (fun t ht => Nat.le_trans (listText_mem_le ht) hz)
 have hna : D ∉ bs := fun hm => by
  obtain ⟨d', r', _⟩ := hb D hm
  cases r' with
  | tup h1 h2 h3 h4 => rw [hD] at h1; cases h1; exact absurd h2 (by simp)
 refine call_repr_slot (by omega) ⟨_, hD, rfl⟩ PySem.F.slot_list_repr.toG ?_
 refine call_list_reprK (A := A.in1) hD rfl rfl hna (by rw [shownAll_len, ← r.len]; simp) (fun i y e => hk.item i y (by simpa using e)) hg (fun b _ => Clear.nil b) (by show A.units + 1 + _ < _; omega) (fun _ _ e => e) (fun h' u tk k => ⟨_, _, rfl, hQ h' u tk k⟩) hz
mutual
inductive RepD (J : Led) : Value → TD → Prop
 | str (s : Str) (t : Tok) : RepD J (.str s t) (.str s)
 | int (i : Int) (t : Tok) : RepD J (.int i t) (.int i)
 | byt (b : Array UInt8) (t : Tok) : RepD J (.bytes b t) (.byt b)
 | tup {a : Addr} {vs : List Value} {c : Nat} {ds : List TD} : (a, ({ cls := .type "tuple", data := .seq vs.toArray c } : Obj)) ∈ J → RepDL J vs ds → RepD J (.ref a) (.tup ds)
inductive RepDL (J : Led) : List Value → List TD → Prop
 | nil : RepDL J [] []
 | cons {v : Value} {d : TD} {vs : List Value} {ds : List TD} : RepD J v d → RepDL J vs ds → RepDL J (v :: vs) (d :: ds)
end
theorem RepD.mono {J : Led} (h : ∀ p ∈ J, p ∈ J') {o : TD} (V : RepD J v o) : RepD J' v o :=
 V.rec (motive_1 := fun v o _ => RepD J' v o) (motive_2 := fun v o _ => RepDL J' v o) .str .int .byt (fun a _ i => .tup (h _ a) i) .nil (fun _ _ a b => .cons a b)
theorem RepDL.mono {J : Led} (h : ∀ p ∈ J, p ∈ J') {v : List Value} {o : List TD} (V : RepDL J v o) : RepDL J' v o :=
 V.rec (motive_1 := fun v o _ => RepD J' v o) (motive_2 := fun v o _ => RepDL J' v o) .str .int .byt (fun a _ i => .tup (h _ a) i) .nil (fun _ _ a b => .cons a b)
theorem RepD.toH {J : Led} {hp : Heap} (h : ∀ p ∈ J, hp.get? p.1 = some p.2) {o : TD} (V : RepD J v o) : RepH hp v o :=
 V.rec (motive_1 := fun v o _ => RepH hp v o) (motive_2 := fun v o _ => RepHL hp v o) .str .int .byt (fun a _ i => .tup (h _ a) rfl rfl i) .nil (fun _ _ a b => .cons a b)
theorem RepDL.toH {J : Led} {hp : Heap} (h : ∀ p ∈ J, hp.get? p.1 = some p.2) {v : List Value} {o : List TD} (V : RepDL J v o) : RepHL hp v o :=
 V.rec (motive_1 := fun v o _ => RepH hp v o) (motive_2 := fun v o _ => RepHL hp v o) .str .int .byt (fun a _ i => .tup (h _ a) rfl rfl i) .nil (fun _ _ a b => .cons a b)
theorem RepDL.append {J : Led} {v v' : List Value} {o o' : List TD} (V : RepDL J v o) (h : RepDL J v' o') : RepDL J (v ++ v') (o ++ o') :=
 V.rec (motive_1 := fun _ _ _ => True) (motive_2 := fun v o _ => RepDL J (v ++ v') (o ++ o')) (fun _ _ => trivial) (fun _ _ => trivial) (fun _ _ => trivial) (fun _ _ _ => trivial) h (fun a _ _ b => .cons a b)
section
variable {X : XP} {C : Cx} {Q : QV} {J own : Led} {M : Loc}
theorem g_eqD {b : Addr} {ds : List TD} (h1 : RepD J (.ref a) (.tup ds)) (h2 : RepD J (.ref b) (.tup ds)) (hu : depAll ds + 1 ≤ C.ul) (h : Q (.bool true) M own J) : G C (compareOp .Eq (.ref a) (.ref b)) M own J X Q := .mk fun ok s m loc S => by
 have k : ∀ p ∈ J, s.heap.get? p.1 = some p.2 := fun p hp => (S.news p (mem_all_ice hp)).1
 exact cmp_tups (h1.toH k) (h2.toH k) (by have := ok.uni; omega) (Post.of S h)
theorem g_reprL {vs : List Value} {ds : List TD} (hp : (D, listOf vs.toArray c) ∈ own ++ J) (hne : vs ≠ []) (r : RepDL J vs ds) (ho : okAll ds = true) (hz : (listText (shownAll ds)).length ≤ sizeLine) (hu : depAll ds + 2 ≤ C.ul)
  (h : ∀ u, Q (.str (listText (shownAll ds)) u) M own J) : G C (call (.builtin "repr") [.ref D]) M own J X Q := .mk fun ok s m loc S => by
 have k : ∀ p ∈ J, s.heap.get? p.1 = some p.2 := fun p hp => (S.news p (mem_all_ice hp)).1
 cases vs with
 | nil => exact absurd rfl hne
 | cons v vs =>
 exact repr_list (S.news _ (mR (mR hp))).1 (r.toH k) ho hz ok.gd (by have := ok.uni; omega) fun h' u tk kk =>
  Post.mk' (h := h') (tk := tk) ⟨S.fr.keeps kk, fun p hp => ⟨kk _ _ (S.news p hp).1, (S.news p hp).2⟩, S.apart, S.vars⟩ (h u)
end
end
noncomputable def WhB (W : Loc → Led → Led → Prop) (Q : QF) : QF := fun f M o J => match f with
 | .next => W M o J
 | .cont => W M o J
 | .brk => Q .next M o J
 | .ret v => Q (.ret v) M o J
noncomputable abbrev WhK (C : Cx) (body : List Stmt) (X : XP) (W : Loc → Led → Led → Prop) (Q : QF) : QB := fun b M o J => (b = true → G C (execs body C.env) M o J X (WhB W Q)) ∧ (b = false → Q .next M o J)
noncomputable def WG (C : Cx) (test : Expr) (body : List Stmt) (X : XP) (Q : QF) : Nat → Loc → Led → Led → Prop
 | 0, _, _, _ => False
 | n + 1, M, o, J => G C (isTrue test C.env (eval test C.env)) M o J X (WhK C body X (WG C test body X Q n) Q)
theorem WG_s {C : Cx} {X : XP} {Q : QF} {M : Loc} {o J : Led} (h : G C (isTrue test C.env (eval test C.env)) M o J X (WhK C body X (WG C test body X Q n) Q)) : WG C test body X Q (n + 1) M o J := h
section
variable {X : XP} {C : Cx} {J own : Led} {M : Loc}
theorem whb_next {W : Loc → Led → Led → Prop} {Q : QF} (h : W M own J) : WhB W Q .next M own J := h
theorem whb_brk {W : Loc → Led → Led → Prop} {Q : QF} (h : Q .next M own J) : WhB W Q .brk M own J := h
theorem whb_ret {W : Loc → Led → Led → Prop} {Q : QF} (h : Q (.ret v) M own J) : WhB W Q (.ret v) M own J := h
theorem g_while {pos : Pos} {Q : QF} (hfe : C.env = C.fe) (n : Nat) (h : WG C test body X Q n M own J) : G C (exec (.While test body [] pos) C.env) M own J X Q := .mk fun ok s m loc S => by
 refine wpAny_While (codeAny_whileLoop (fun k s' => ∃ M' o' J' m' loc' h tk, s' = { s with heap := h, toks := tk } ∧ St C M' o' J' h m' loc' ∧ WG C test body X Q k M' o' J') ?_ n ⟨M, own, J, m, loc, s.heap, s.toks, rfl, S, h⟩)
 rintro k s₁ ⟨M', o', J', m', loc', h1, tk, rfl, S', w⟩
 have px : ∀ e s', PostX C s X e s' → notedBy (model prog C.w) C.A C.env (cameBackBy (model prog C.w) C.A C.env (PostX C s X)) e s' := PostX.passes ok hfe
 cases k with
 | zero => exact w.elim
 | succ k =>
  refine wpAny_mono (G.use w ok S' (s₀ := s) rfl fun _ _ p => p) (fun b s₂ p => ?_) px
  refine Post.elim p fun h2 tk2 M2 o2 J2 m2 loc2 S2 hqz => ?_
  obtain ⟨q1, q2⟩ := hqz
  cases b with
  | true =>
   rw [if_pos rfl]
   refine wpAny_mono (G.use (q1 rfl) ok S2 (s₀ := s) rfl fun _ _ p => p) (fun f s₃ p => ?_) px
   refine Post.elim p fun h3 tk3 M3 o3 J3 m3 loc3 S3 q => ?_
   cases f with
   | next => exact ⟨k, Nat.lt_succ_self k, M3, o3, J3, m3, loc3, h3, tk3, rfl, S3, q⟩
   | cont => exact ⟨k, Nat.lt_succ_self k, M3, o3, J3, m3, loc3, h3, tk3, rfl, S3, q⟩
   | brk => exact ⟨h3, tk3, M3, o3, J3, m3, loc3, rfl, S3, q⟩
   | ret v => exact ⟨h3, tk3, M3, o3, J3, m3, loc3, rfl, S3, q⟩
  | false =>
   rw [if_neg Bool.false_ne_true]
   exact wpAny_execs_nil ⟨h2, tk2, M2, o2, J2, m2, loc2, rfl, S2, q2 rfl⟩
theorem g_brk {pos : Pos} {Q : QF} (h : Q .brk M own J) : G C (exec (.Break pos) C.env) M own J X Q := .mk fun _ _ _ _ S => wpAny_Break (Post.of S h)
variable {Q : QV}
theorem g_gt_int {a b : Int} {t : Tok} (h : Q (.bool (decide (b < a))) M own J) : G C (compareOp .Gt (.int a t) (.int b u)) M own J X Q := .mk fun _ _ _ _ S => PyProof.Rows.gt_int (Post.of S h)
theorem g_le_int {a b : Int} {t : Tok} (h : Q (.bool (decide (a ≤ b))) M own J) : G C (compareOp .LtE (.int a t) (.int b u)) M own J X Q := .mk fun _ _ _ _ S => PyProof.Rows.le_int (Post.of S h)
theorem g_ge_int {a b : Int} {t : Tok} (h : Q (.bool (decide (b ≤ a))) M own J) : G C (compareOp .GtE (.int a t) (.int b u)) M own J X Q := .mk fun _ _ _ _ S => PyProof.Rows.ge_int (Post.of S h)
theorem g_eq_str {t : Tok} (h : Q (.bool (x == y)) M own J) : G C (compareOp .Eq (.str x t) (.str y u)) M own J X Q := .mk fun _ _ _ _ S => PyProof.Rows.eq_str (Post.of S h)
theorem g_ne_str {t : Tok} (h : Q (.bool (x != y)) M own J) : G C (compareOp .NotEq (.str x t) (.str y u)) M own J X Q := .mk fun _ _ _ _ S => PyProof.Rows.ne_str (Post.of S h)
theorem g_add_str {t : Tok} (hsz : x.length + y.length ≤ sizeLine) (h : ∀ t, Q (.str (x ++ y) t) M own J) : G C (binaryOp .Add (.str x t) (.str y u)) M own J X Q := .mk fun _ _ _ _ S => PyProof.Rows.add_str (fun _ _ => Post.mk' S (h _)) hsz
theorem g_get2_s {w : World} (hw : C.w = w) {o : Obj} {t : Tok} (hp : (d, o) ∈ own ++ J) (hd : o.IsDictOf (PySem.strKind prog w) kvs) (lo : (d == sysModules) = false) (hl : valueAt kvs k = some v) (h : Q v M own J) :
  G C (call (.builtin "dict.get") [.ref d, .str k t, df]) M own J X Q := .mk fun ok s m loc S => by
 subst hw
 exact kdg_get2 (knd := PySem.strKind _ _) S.news (mR (mR hp)) hd lo (strKind_is _ _ _ _) _ hl (Post.mk' S h)
theorem g_get2_sn {w : World} (hw : C.w = w) {o : Obj} {t : Tok} (hp : (d, o) ∈ own ++ J) (hd : o.IsDictOf (PySem.strKind prog w) kvs) (lo : (d == sysModules) = false) (hl : valueAt kvs k = none) (h : Q df M own J) :
  G C (call (.builtin "dict.get") [.ref d, .str k t, df]) M own J X Q := .mk fun ok s m loc S => by
 subst hw
 exact kdg_get2 (knd := PySem.strKind _ _) S.news (mR (mR hp)) hd lo (strKind_is _ _ _ _) _ hl (Post.mk' S h)
theorem g_lmeth {name : Str} {id : String} {vs : List Value} {Q : Value × List Value → Loc → Led → Led → Prop} (hp : (D, listOf vs.toArray n) ∈ own ++ J) (slot : Slot "list" name id) (hty : typeOf (.builtin id) = pure (.type "method_descriptor"))
  (h : Q (.builtin id, [.ref D]) M own J) : G C (getMethod (.ref D) name pl) M own J X Q := .mk fun ok s m loc S =>
 kl_method S.news (mR (mR hp)) slot hty (Post.of S h)
theorem kl_last_snoc (p : List Value) (y : Value) : kl_last (p ++ [y]) = some (p, y) := by
 induction p with
 | nil => rfl
 | cons x p ih => simp [kl_last, ih]
theorem g_lpop (l1 : Led) {l2 : Led} {p : List Value} {y : Value} (hz : p.length < sizeLine) (h : Q y M (l1 ++ (D, listOf p.toArray (n + 1)) :: l2) J) : G C (call (.builtin "list.pop") [.ref D]) M (l1 ++ (D, listOf (p ++ [y]).toArray n) :: l2) J X Q := .mk fun ok s m loc S =>
 kl_pop S.fr S.news (by simpa using kl_last_snoc p y) S.updO (by simp; omega) fun h' F' N' => Post.mk' (S.upd F' N') h
theorem g_lextend (l1 : Led) {l2 : Led} {b : Addr} {vs us : List Value} {n2 : Nat} (hb : (b, listOf us.toArray n2) ∈ J) (hne : us ≠ []) (hz : vs.length + us.length ≤ 1000) (h : Q .none M (l1 ++ (D, listOf (vs ++ us).toArray (n + 1)) :: l2) J) : G C (call (.builtin "list.extend") [.ref D, .ref b]) M (l1 ++ (D, listOf vs.toArray n) :: l2) J X Q := .mk fun ok s m loc S => by
 have z : (1000 : Nat) ≤ sizeLine := by rw [sizeLine_eq]; omega
 refine kl_extend S.fr S.news (mem_all_ice hb) (l := vs ++ us) (by simp) (by simpa using hne) S.updO ?_ (by simp; omega) (by simp; omega) fun h' F' N' => Post.mk' (S.upd F' N') h
 have e : Builtin.List.listTooLong (vs.toArray.size + us.toArray.size) = false := by
  simp only [Builtin.List.listTooLong, List.size_toArray, decide_eq_false_iff_not]
  omega
 rw [e]; simp
theorem g_reversed {l : Addr} {vs : List Value} (hl : (l, listOf vs.toArray n) ∈ J) (h : ∀ I, Q (.ref I) M ((I, revObj l ((vs.length : Int) - 1)) :: own) J) : G C (call (.type "reversed") [.ref l]) M own J X Q := .mk fun ok s m loc S =>
 krv_reversed S.fr S.news (News.isList S.news (mem_all_ice hl)) fun D h' F' N' lt => Post.mk' (S.mine F' N' lt) (h D)
theorem St.drop {p : Addr × Obj} {h : Heap} (S : St C M (p :: own) J h m loc) : St C M own J h m loc ∧ ∀ q ∈ St.all C own J loc, q.1 ≠ p.1 :=
 have A := S.apart.perm (pull (l1 := []))
 ⟨⟨S.fr, fun q hq => S.news q ((pullJ (l1 := [])).mem_iff.mpr (.tail _ hq)), A.head.1, S.vars⟩, fun q hq => A.all hq⟩
end
section
variable {X : XP} {C : Cx} {J own : Led} {M L₀ : Loc} {elt target iter : Expr} {ifs : List Expr} {scope : Scope} {pos : Pos}
theorem src_rev {vs : List Value} (hn0 : C.hn = none) (ha : (a, listOf vs.toArray c) ∈ J) : Src C (.ref I) ((I, revObj a ((vs.length : Int) - 1)) :: own) own J J vs.length (fun i v => vs.reverse[i]? = some v) := fun ok s M m loc S Q E k => by
 obtain ⟨S1, hI⟩ := S.drop
 have hIn := S.news (I, revObj a ((vs.length : Int) - 1)) ((pullJ (l1 := [])).mem_iff.mpr (.head _))
 refine wpAny_pyIter_revIter ⟨_, hIn.1, rfl, rfl⟩ (k I s.heap s.toks (.mk _ _ (wmono (Walks.listRev (prog := prog) (w := C.w) (ok.hd0 hn0) I a (hI _ (mem_all_ice ha)) vs.toArray) fun i v hi h => ?_) (fun i h x => x.2.1.elim fun o z => ⟨o, _, _, z.1, z.2.1, z.2.2, rfl⟩) S1
  ⟨Nat.zero_le _, ⟨_, hIn.1, rfl, by simp [revObj]⟩, News.isList S.news (mem_all_ice ha)⟩ hI hIn.2.1 hIn.2.2 fun b hb ne => fp_two hb ne (.inr (.inr ha))))
 rw [List.getElem?_reverse (by simpa using hi)]
 simpa using h
end
theorem sp_nil : strPairs [] = [] := rfl
theorem sp_cons {t : Tok} {l : List (Value × Value)} {r : List (Str × Value)} (h : strPairs l = r) : strPairs ((.str k t, v) :: l) = (k, v) :: r := by subst h; rfl
theorem km_nil : ([] : List (Str × Value)).map (·.1) = [] := rfl
theorem km_cons {l : List (Str × Value)} {r : List Str} (h : l.map (·.1) = r) : ((k, v) :: l).map (·.1) = k :: r := by subst h; rfl
theorem nodupK {l : List (Str × Value)} {r : List Str} (h : l.map (·.1) = r) (n : r.Nodup) : (l.map (·.1)).Nodup := by rw [h]; exact n
theorem dictK_mk {w : World} {o : Obj} {M : Loc} {own J : Led} {Q : QV} {vs : List (Value × Value)} (h1 : allStrKeys vs = true) (h2 : strPairs vs = kvs) (h3 : (kvs.map (·.1)).Nodup) (h : ∀ o', o'.IsDictOf (PySem.strKind prog w) kvs → Q (.ref d) M ((d, o') :: own) J) : DictK w d o Q vs M ((d, o) :: own) J := by
 subst h2; exact ⟨_, rfl, h1, h3, h⟩
theorem va_h {l : List (Str × Value)} : valueAt ((k, v) :: l) k = some v := by simp [valueAt]
theorem va_t {r : Option Value} {l : List (Str × Value)} (h : (k' == k) = false) (g : valueAt l k = r) : valueAt ((k', v) :: l) k = r := by
 have : ¬ k' = k := by simpa using h
 subst g; simp [valueAt, this]
theorem va_nil : valueAt ([] : List (Str × Value)) k = none := rfl
section
open PySem.SeqAt
section
variable {X : XP} {C : Cx} {J own : Led} {M : Loc}
noncomputable abbrev TcT (C : Cx) (pos : Pos) (b : Value) (op : CmpOp) (ops : List CmpOp) (r : Sem Value) (rs : List (Sem Value)) (X : XP) (Q : QB) : QB := fun t M o J => (t = true → G C (testChain pos b (op :: ops) (r :: rs)) M o J X Q) ∧ (t = false → Q false M o J)
noncomputable abbrev TcC (C : Cx) (pos : Pos) (b : Value) (op : CmpOp) (ops : List CmpOp) (r : Sem Value) (rs : List (Sem Value)) (X : XP) (Q : QB) : QV := fun c M o J => G C (truthy c) M o J X (TcT C pos b op ops r rs X Q)
noncomputable abbrev TcR (C : Cx) (pos : Pos) (a : Value) (op op' : CmpOp) (ops : List CmpOp) (r' : Sem Value) (rs : List (Sem Value)) (X : XP) (Q : QB) : QV := fun b M o J => G C (compareOp op a b) M o J X (TcC C pos b op' ops r' rs X Q)
noncomputable abbrev TcL (C : Cx) (pos : Pos) (ops : List CmpOp) (rs : List (Sem Value)) (X : XP) (Q : QB) : QV := fun a M o J => G C (testChain pos a ops rs) M o J X Q
theorem g_tchain {l r₁ r₂ : Expr} {op₁ op₂ : CmpOp} {ops : List CmpOp} {rs : List Expr} {Q : QB} (h : G C (eval l C.env) M own J X (TcL C pos (op₁ :: op₂ :: ops) (eval r₁ C.env :: eval r₂ C.env :: evalEach rs C.env) X Q))
  (hm : lastMarks (op₁ :: op₂ :: ops) (r₁ :: r₂ :: rs) = false) : G C (isTrue (.Compare l (op₁ :: op₂ :: ops) (r₁ :: r₂ :: rs) pos) C.env wh) M own J X Q := .mk fun ok s m loc S =>
 isTrue_chain (h.use ok S rfl fun _ _ p => Post.go p ok (fun _ _ _ q => q) fun _ _ x => x) hm
theorem g_tlink {a : Value} {op op' : CmpOp} {ops : List CmpOp} {r r' : Sem Value} {rs : List (Sem Value)} {Q : QB} (h : G C r M own J X (TcR C pos a op op' ops r' rs X Q)) : G C (testChain pos a (op :: op' :: ops) (r :: r' :: rs)) M own J X Q := .mk fun ok s m loc S =>
 test_link (h.use ok S rfl fun _ _ p => Post.go p ok (fun _ _ _ q => q) fun _ _ p => Post.go p ok (fun _ _ _ q => q) fun b s' p => by
  refine Post.elim p fun h1 tk M' o' J' m' loc' S' hqz => ?_
  obtain ⟨q1, q2⟩ := hqz
  cases b with
  | true => rw [if_pos rfl]; exact G.use (q1 rfl) ok S' rfl fun _ _ p => p
  | false => rw [if_neg Bool.false_ne_true]; exact ⟨h1, tk, M', o', J', m', loc', rfl, S', q2 rfl⟩)
theorem g_tlast {a : Value} {op : CmpOp} {r : Sem Value} {Q : QB} (h : G C r M own J X (CmpR C op a X (TruK C X Q))) : G C (testChain pos a [op] [r]) M own J X Q := .mk fun ok s m loc S =>
 test_last (h.use ok S rfl fun _ _ p => Post.go p ok (fun _ _ _ q => q) fun _ _ p => Post.go p ok (fun _ _ _ q => q) fun _ _ x => x)
end
theorem bs_slot : Slot "bytes" "startswith" "bytes.startswith" :=
 .of (owner := "bytes") (n := "startswith") (by rw [typeLookup_type, builtinLookup_eq_fast]; kernel_rfl) (by decide +kernel) (by decide +kernel) (by decide +kernel)
  (by first | exact .inl (by decide +kernel) | exact .inr (by decide +kernel)) (by rw [isSubtype_type]; kernel_rfl)
theorem bs_entry : entryFor table "bytes.startswith" = some Builtin.«bytes.startswith» := entryFor_of_tree (by kernel_rfl)
theorem bs_args (a b : Value) : argsOk "bytes.startswith" ⟨[a, b], []⟩ := by unfold argsOk; kernel_rfl
theorem bs_type : typeOf (.builtin "bytes.startswith") = pure (.type "method_descriptor") := by show builtinType _ = _; rw [builtinType_eq_fast]; kernel_rfl
noncomputable def startsB (b c : Array UInt8) : Bool := if (b.size : Int) < c.size then false else b.extract 0 c.size == c
section
variable {prog : Program} {w : World} {A : Around} {E : Value → Shared → Prop} {s : Shared} {b c : Array UInt8} {t u : Tok} {Q : Value → Shared → Prop}
theorem bs_sub : isSubtype (.type "bytes") (.type "tuple") = pure false := by rw [isSubtype_type]; kernel_rfl
theorem call_bs (h : Q (.bool (startsB b c)) s) : wpAny (model prog w) A (call (.builtin "bytes.startswith") [.bytes b t, .bytes c u]) Q E s := by
 refine wpAny_call_entry bs_slot (typeIs_bytes s b t) bs_entry ?_ (bs_args _ _)
 show wpAny _ _ (isInstance (.bytes c u) (.type "tuple") >>= fun r => _) _ _ s
 refine wpAny_bind (wpAny_isInstance (typeIs_bytes s c u) bs_sub ?_)
 show wpAny _ _ (Builtin.Bytes.buffer? "bytes.startswith" (.bytes c u) >>= fun r => _) _ _ s
 refine wpAny_bind (wpAny_of_eq KBy.buffer_eq ?_)
 have e : (if (min (b.size : Int) (if (b.size : Int) < 0 then max 0 ((b.size : Int) + b.size) else b.size) - 0 < (c.size : Int)) then false else b.extract (0 : Int).toNat ((0 : Int).toNat + c.size) == c) = startsB b c := by
  have z : ¬ ((b.size : Int) < 0) := by omega
  simp [startsB, z]
 refine wpAny_pure ⟨_, rfl, ?_⟩
 rw [← e] at h
 exact h
end
section
variable {X : XP} {C : Cx} {Q : QV} {J own : Led} {M : Loc}
theorem g_bytes {x : List UInt8} {k : Nat} (h : ∀ t, Q (.bytes x.toArray t) M own J) : G C (eval (.Constant (.bytes x) k pos) C.env) M own J X Q := .mk fun _ _ _ _ S => Constant_bytes (Post.mk' S (h _))
theorem g_bmeth {b : Array UInt8} {t : Tok} {Q : Value × List Value → Loc → Led → Led → Prop} (h : Q (.builtin "bytes.startswith", [.bytes b t]) M own J) : G C (getMethod (.bytes b t) "startswith" pl) M own J X Q := .mk fun ok s m loc S =>
 by with_reducible exact KBd.method_of (.bytes b t) (typeIs_bytes _ _ _) bs_slot bs_type KBd.noRef (Post.of S h)
theorem g_starts {b c : Array UInt8} {t u : Tok} (h : Q (.bool (startsB b c)) M own J) : G C (call (.builtin "bytes.startswith") [.bytes b t, .bytes c u]) M own J X Q := .mk fun _ _ _ _ S => call_bs (Post.of S h)
theorem g_ord {c : Nat} {t : Tok} (h : ∀ t, Q (.int c t) M own J) : G C (call (.builtin "ord") [.str ⟨#[c]⟩ t]) M own J X Q := .mk fun _ _ _ _ S => P.ord_of_char (Post.mk' S (h _))
theorem g_chr {i : Int} {t : Tok} (h0 : 0 ≤ i) (h1 : i ≤ 0x10FFFF) (h : ∀ t, Q (.str ⟨#[i.toNat]⟩ t) M own J) : G C (call (.builtin "chr") [.int i t]) M own J X Q := .mk fun _ _ _ _ S => P.chr_of_int (by
 have a : ¬ i < 0 := by omega
 have b : ¬ i > 0x10FFFF := by omega
 simp [a, b]) (Post.mk' S (h _))
theorem g_len_bytes {b : Array UInt8} {t : Tok} (hz : b.size ≤ 1000) (h : ∀ t, Q (.int b.size t) M own J) : G C (call (.builtin "len") [.bytes b t]) M own J X Q := .mk fun _ _ _ _ S => PySem.W.len_bytes (by omega) (Post.mk' S (h _))
theorem g_add_bytes {b c : Array UInt8} {t u : Tok} (hz : b.size + c.size ≤ 1000) (h : ∀ t, Q (.bytes (b ++ c) t) M own J) : G C (binaryOp .Add (.bytes b t) (.bytes c u)) M own J X Q := .mk fun _ _ _ _ S => KBy.add_bytes (by omega) fun _ _ => Post.mk' S (h _)
theorem g_jmeth {t : Tok} {Q : Value × List Value → Loc → Led → Led → Prop} (h : Q (.builtin "str.join", [.str x t]) M own J) : G C (getMethod (.str x t) "join" pl) M own J X Q := .mk fun _ _ _ _ S => GM.join (Post.of S h)
theorem g_join {t : Tok} {vs : List Value} {ys : List Str} (hp : (D, listOf vs.toArray n) ∈ own ++ J) (hi : StrsAre vs ys) (hok : (ys.map (·.length)).sum + ys.length * x.length ≤ 16777216) (h : ∀ t, Q (.str (Txt.join x ys) t) M own J) :
  G C (call (.builtin "str.join") [.str x t, .ref D]) M own J X Q := .mk fun ok s m loc S =>
 join_list (News.isList S.news (mR (mR hp))) (by simpa using hi) hok fun _ _ => Post.mk' S (h _)
theorem g_mkbytes (hn : C.hn = none) {vs : List Value} {ns : List Int} (hp : (D, listOf vs.toArray n) ∈ own ++ J) (hi : IntsAre vs ns) (hr : ∀ n ∈ ns, 0 ≤ n ∧ n < 256) (hz : vs.length ≤ sizeLine) (h : ∀ t, Q (.bytes (byteArr ns) t) M own J) :
  G C (call (.type "bytes") [.ref D]) M own J X Q := .mk fun ok s m loc S =>
 call_bytes_ints (News.isList S.news (mR (mR hp))) hi hr hz (ok.hd0 hn) fun h' t k hk => Post.mk' (h := h') (tk := k) ⟨S.fr.keeps hk, fun p hp => ⟨hk _ _ (S.news p hp).1, (S.news p hp).2⟩, S.apart, S.vars⟩ (h t)
theorem g_floordiv {a b : Int} {t u : Tok} (hb : b ≠ 0) (hp : Builtin.divisionGoesByPylong a b = false) (h : ∀ t, Q (.int (a.fdiv b) t) M own J) : G C (binaryOp .FloorDiv (.int a t) (.int b u)) M own J X Q := .mk fun _ _ _ _ S => floordiv_int hb (Post.mk' S (h _)) (.inl hp)
theorem g_mod {a b : Int} {t u : Tok} (hb : b ≠ 0) (h : ∀ t, Q (.int (a.fmod b) t) M own J) : G C (binaryOp .Mod (.int a t) (.int b u)) M own J X Q := .mk fun _ _ _ _ S => PyProof.Rows.mod_int hb (Post.mk' S (h _))
theorem g_mul {a b : Int} {t u : Tok} (hm : IntMulOk a b) (h : ∀ t, Q (.int (a * b) t) M own J) : G C (binaryOp .Mult (.int a t) (.int b u)) M own J X Q := .mk fun _ _ _ _ S => PyProof.Rows.mul_int (Post.mk' S (h _)) hm
theorem g_ne_ints {b : Addr} {xs ys : List Value} {ns ms : List Int} {k : Nat} (ha : (a, listOf xs.toArray n) ∈ own ++ J) (hb : (b, listOf ys.toArray k) ∈ own ++ J) (hi : IntsAre xs ns) (hj : IntsAre ys ms) (hu : 64 ≤ C.ul) (h : Q (.bool (!decide (ns = ms))) M own J) : G C (compareOp .NotEq (.ref a) (.ref b)) M own J X Q := .mk fun ok s m loc S =>
 ke_ne_ints (News.isList S.news (mR (mR ha))) (News.isList S.news (mR (mR hb))) hi hj (by have := ok.uni; omega) (Post.of S h)
theorem eqat_int {A : Around} {s : Shared} {a b : Int} {t u : Tok} : EqAt A s (.int a t) (.int b u) (a == b) := (PySem.MeetsSeq.EqGives.int a b t u).at A s
theorem ints_any {vs : List Value} {ns : List Int} (p : IntsAre vs ns) (k : Int) : vs.any (fun v => match v with | .int a _ => a == k | _ => false) = decide (k ∈ ns) := by
 induction p with
 | nil => rfl
 | cons n t r ih =>
  rw [List.any_cons, ih]
  by_cases e : n = k
  ·subst e; simp
  ·have e' : ¬ k = n := fun q => e q.symm
   simp [e, e']
theorem ints_eqat {A : Around} {s : Shared} {k : Int} {t : Tok} {vs : List Value} {ns : List Int} (p : IntsAre vs ns) : ∀ y ∈ vs, EqAt A s y (.int k t) (match y with | .int a _ => a == k | _ => false) := by
 induction p with
 | nil => exact fun y hy => absurd hy List.not_mem_nil
 | cons n u r ih =>
  intro y hy
  cases hy with
  | head => exact eqat_int
  | tail _ hy => exact ih y hy
theorem g_notin_ints {vs : List Value} {ns : List Int} {k : Int} {t : Tok} (hp : (D, listOf vs.toArray n) ∈ own ++ J) (hi : IntsAre vs ns) (h : Q (.bool (!decide (k ∈ ns))) M own J) : G C (compareOp .NotIn (.int k t) (.ref D)) M own J X Q := .mk fun ok s m loc S =>
 notIn_listAt _ (News.isList S.news (mR (mR hp))) (fun y hy => ints_eqat hi y (by simpa using hy)) (by rw [List.any_toArray, ints_any hi]; exact Post.of S h)
theorem g_in_tup_ints {vs : List Value} {ns : List Int} {k : Int} {t : Tok} (hp : (D, ({ cls := .type "tuple", data := .seq vs.toArray n } : Obj)) ∈ own ++ J) (hi : IntsAre vs ns) (h : Q (.bool (decide (k ∈ ns))) M own J) : G C (compareOp .In (.int k t) (.ref D)) M own J X Q := .mk fun ok s m loc S =>
 in_tupleAt _ ⟨_, (S.news _ (mR (mR hp))).1, rfl, _, rfl⟩ (fun y hy => ints_eqat hi y (by simpa using hy)) (by rw [List.any_toArray, ints_any hi]; exact Post.of S h)
theorem g_add_tup {b : Addr} {vs ws : List Value} {k : Nat} (ha : (a, ({ cls := .type "tuple", data := .seq vs.toArray n } : Obj)) ∈ J) (hb : (b, ({ cls := .type "tuple", data := .seq ws.toArray k } : Obj)) ∈ J) (hz : vs.length + ws.length ≤ 10000)
  (h : ∀ D J', Sub J J' → (∃ n, (D, ({ cls := .type "tuple", data := .seq (vs ++ ws).toArray n } : Obj)) ∈ J') → Q (.ref D) M own J') : G C (binaryOp .Add (.ref a) (.ref b)) M own J X Q := .mk fun ok s m loc S => by
 refine add_tuples S.fr S.news (News.isTup S.news (mem_all_ice ha)) (News.isTup S.news (mem_all_ice hb)) (fun e => ?_) (fun _ e => ?_) (fun _ _ h' F' N' => ?_) (by rw [sizeLine_eq]; omega)
 ·subst e; exact Post.of S (h b J .refl ⟨k, by simpa using hb⟩)
 ·subst e; exact Post.of S (h a J .refl ⟨n, by simpa using ha⟩)
 ·exact Post.mk' (S.ice (F := F') (N := N') (lt := fun p hp => Heap.lt_size (S.news p hp).1)) (h _ _ (Sub.cons .refl) ⟨0, .head _⟩)
end
section
variable {X : XP} {C : Cx} {Q : QV} {J own : Led} {M : Loc}
noncomputable abbrev sliceObj (l u : Value) : Obj := { cls := .type "slice", data := .fields #[l, u, .none] }
noncomputable abbrev SlU (l : Value) (Q : QV) : QV := fun u M own J => ∀ I, Q (.ref I) M own ((I, sliceObj l u) :: J)
theorem g_slice_to {up : Expr} (h : G C (eval up C.env) M own J X (SlU .none Q)) : G C (eval (.Slice none (some up) none p) C.env) M own J X Q := .mk fun ok s m loc S => by
 refine wpAny_Slice ?_
 rw [evalPart_none]
 refine wpAny_pure ?_
 rw [evalPart_some]
 refine h.use ok S rfl fun u s' p => ?_
 refine Post.elim p fun h1 tk M' o' J' m' loc' S' q => ?_
 refine wpAny_pure ?_
 exact ⟨_, tk, M', o', _, m', loc', rfl, (S'.pushIce rfl), q _⟩
theorem g_item_to {vs : List Value} {k : Int} {t : Tok} (hp : (D, listOf vs.toArray n) ∈ own ++ J) (hI : (I, sliceObj .none (.int k t)) ∈ J) (h0 : 0 ≤ k) (hz : vs.length ≤ sizeLine) (h : ∀ D', Q (.ref D') M ((D', listOf (vs.take k.toNat).toArray 0) :: own) J)
  (hs : autoParam (subscripted slice false (.ref D) (.ref I) = operate [.ref I, .ref D] (getItem (.ref D) (.ref I))) zr) (hg : autoParam (∀ r, letTemporaryGo value (.ref D) r = pure ()) zr) : G C (subscriptTail value slice (.ref D) (.ref I)) M own J X Q := .mk fun ok s m loc S => by
 have hl := News.isList S.news (mR (mR hp))
 have hsl := (S.news _ (mem_all_ice hI)).1
 refine subscriptTail_ops (Heap.IsList.typeIs hl) list_getitem_lookup (wpAny_getItem_list_slice hl ⟨_, hsl, rfl, rfl⟩ .none (.int k t) .none (by simp) ?_ (by simpa using hz)) hs hg
 have e : k = (k.toNat : Int) := by omega
 rw [e, slicePick_upto']
 exact Post.mk' (S.pushMine rfl) (h _)
end
section
variable {X : XP} {C : Cx} {J own : Led} {M : Loc} {target : Expr} {body : List Stmt} {Q : QF}
theorem ints_snoc {vs : List Value} {ns : List Int} {n : Int} {t : Tok} (h : IntsAre vs ns) : IntsAre (vs ++ [.int n t]) (ns ++ [n]) := by
 induction h with
 | nil => exact .cons n t .nil
 | cons a b r ih => exact .cons a b ih
theorem strs_snoc {vs : List Value} {ns : List Str} {n : Str} {t : Tok} (h : StrsAre vs ns) : StrsAre (vs ++ [.str n t]) (ns ++ [n]) := by
 induction h with
 | nil => exact .cons n t .nil
 | cons a b r ih => exact .cons a b ih
theorem take_map_succ {l : List α} {a : α} (f : α → β) (h : l[i]? = some a) : (l.take (i + 1)).map f = (l.take i).map f ++ [f a] := by
 rw [List.take_add_one, h, List.map_append]; rfl
end
theorem compSc0 {C : Cx} {scope : Scope} {M : Loc} (hk : scope.kind = .function) (nd : (scope.names.map (·.1)).Nodup) (nf : scope.names.all (fun p => !(p.2 == .free)) = true) : CompSc C scope M [] :=
 ⟨hk, nd, fun p hp e => by
  have := List.all_eq_true.mp nf p hp
  rw [e] at this; exact absurd this (by decide), has_nil, fun _ _ e => nomatch e⟩
theorem swaps_is {C : Cx} (hk : C.env.scope.kind = .function) {target iter : Expr} {ifs : List Expr} {scope : Scope} : swapsWith (.ListComp elt [⟨target, iter, ifs, 0⟩] scope pos) (some (.Name y py)) line C.env =
  pure (C.env.kindOf y == some .local && py.line == pos.line && !(scope.names.any fun (n, k) => n == y && (k == .local || k == .cell))) := by
 have e : (C.env.blockKind == .function) = true := by unfold Env.blockKind; rw [hk]; rfl
 show pure (C.env.blockKind == .function && C.env.kindOf y == some .local && py.line == pos.line && !(scope.names.any fun (n, k) => n == y && (k == .local || k == .cell))) = _
 rw [e]; rfl
theorem swaps_l {C : Cx} (hs : C.env.scope = SC) {target iter : Expr} {ifs : List Expr} {scope : Scope} (hk : SC.kind = .function) (hy : SC.names.lookup y = some .local)
  (h : (py.line == pos.line && !(scope.names.any fun (n, k) => n == y && (k == .local || k == .cell))) = true) : swapsWith (.ListComp elt [⟨target, iter, ifs, 0⟩] scope pos) (some (.Name y py)) line C.env = pure true := by
 rw [swaps_is (by rw [hs]; exact hk), kind_of hs hy, Bool.and_assoc, h]; rfl
theorem swaps_c {C : Cx} (hs : C.env.scope = SC) {target iter : Expr} {ifs : List Expr} {scope : Scope} (hk : SC.kind = .function) (hy : SC.names.lookup y = some .cell) :
  swapsWith (.ListComp elt [⟨target, iter, ifs, 0⟩] scope pos) (some (.Name y py)) line C.env = pure false := by
 rw [swaps_is (by rw [hs]; exact hk), kind_of hs hy]; rfl
theorem asgt0 {C : Cx} {K : QV} {M : Loc} {o J : Led} (h : G C (eval elt C.env) M o J noX K) : AsgT C [] elt K KS () M o J := h
theorem asgt1 {C : Cx} {t : Expr} {K : QV} {M : Loc} {o J : Led} (h : G C (isTrue t C.env (eval t C.env)) M o J noX (TestIf C elt K KS)) : AsgT C [t] elt K KS () M o J := h
theorem slu {l u : Value} {M : Loc} {own J : Led} {Q : QV} (h : ∀ I, Q (.ref I) M own ((I, sliceObj l u) :: J)) : SlU l Q u M own J := h
theorem ints_take {vs : List Value} {ns : List Int} (h : IntsAre vs ns) (k : Nat) : IntsAre (vs.take k) (ns.take k) := h.take k
theorem ints_at {vs : List Value} {ns : List Int} (p : IntsAre vs ns) : ∀ {i : Nat} {v : Value}, vs[i]? = some v → ∃ n t, v = .int n t ∧ ns[i]? = some n := by
 induction p with
 | nil => exact fun h => nomatch h
 | cons n t r ih =>
  intro i v h
  cases i with
  | zero => exact ⟨n, t, (Option.some.inj h).symm, rfl⟩
  | succ i => exact ih h
theorem compEnd0 {C : Cx} {X : XP} {Q : QV} {acc : Value} {M : Loc} {own J : Led} (h : Q acc M own J) : CompEnd C none X Q acc M own J := h
section
variable {X : XP} {C : Cx} {Q : QV} {J own : Led} {M : Loc}
theorem g_range3 {a b c : Int} {t u v : Tok} (hc : c ≠ 0) (hp : Builtin.divisionGoesByPylong (b - a) c = false) (h : ∀ r, Q (.ref r) M own ((r, ({ cls := .type "range", data := .fields #[.int a t, .int b u, .int c v] } : Obj)) :: J)) : G C (call (.type "range") [.int a t, .int b u, .int c v]) M own J X Q := .mk fun ok s m loc S => by
 refine call_range_3 hc ?_ (.inl hp)
 exact Post.mk' (S.pushIce rfl) (h _)
theorem g_range2 {a b : Int} {t u : Tok} (h : ∀ r v, Q (.ref r) M own ((r, ({ cls := .type "range", data := .fields #[.int a t, .int b u, .int 1 v] } : Obj)) :: J)) : G C (call (.type "range") [.int a t, .int b u]) M own J X Q := .mk fun ok s m loc S => by
 refine call_range_2 ?_
 exact Post.mk' (S.pushIce rfl) (h _ _)
theorem g_item_bytes {b : Array UInt8} {t u : Tok} {k : Int} (hz : b.size ≤ 1000) (h0 : 0 ≤ k) (h1 : k < b.size) (h : ∀ t, Q (.int (b.toList.getD k.toNat 0).toNat t) M own J)
  (hs : autoParam (subscripted slice false (.bytes b t) (.int k u) = operate [.bytes b t, .int k u] (getItem (.bytes b t) (.int k u))) zr) (hg : autoParam (∀ r, letTemporaryGo value (.bytes b t) r = pure ()) zr) : G C (subscriptTail value slice (.bytes b t) (.int k u)) M own J X Q := .mk fun ok s m loc S => by
 refine subscriptTail_ops (typeIs_bytes s b t) FB.slot_bytes_getitem.lookup ?_ hs hg
 have e : Value.bytes b t = .bytes b.toList.toArray t := by simp
 rw [e]
 exact PySem.W.getItem_bytes (by simpa using (by omega : b.size ≤ 1099511627776)) h0 (by simpa using h1) (Post.mk' S (h _))
end
theorem look_map {L : Loc} (h : x ∈ L.map (·.1)) : (L.lookup x).isSome = true := by
 induction L with
 | nil => cases h
 | cons p L ih =>
  obtain ⟨y, v⟩ := p
  rw [List.lookup_cons]
  by_cases e : x = y
  ·subst e; simp
  ·have : (x == y) = false := beq_eq_false_iff_ne.mpr e
   rw [this]
   rcases List.mem_cons.mp h with q | q
   ·exact absurd q e
   ·exact ih q
theorem map_look {L : Loc} (h : L.lookup x = some v) : x ∈ L.map (·.1) := by
 induction L with
 | nil => cases h
 | cons p L ih =>
  obtain ⟨y, u⟩ := p
  rw [List.lookup_cons] at h
  by_cases e : x = y
  ·subst e; simp
  ·have : (x == y) = false := beq_eq_false_iff_ne.mpr e
   rw [this] at h
   exact List.mem_cons_of_mem _ (ih h)
theorem compScF {C : Cx} {scope : Scope} {M : Loc} (hs : C.env.scope = SC) (ks : List Str) (hk : scope.kind = .function) (nd : (scope.names.map (·.1)).Nodup)
  (nf : scope.names.all (fun p => !(p.2 == .free) || (SC.names.lookup p.1 == some .cell && ks.contains p.1)) = true) (hks : ks.all (fun x => scope.names.lookup x == some .free) = true) (hL : L₀.map (·.1) = ks) (has : Has M L₀) : CompSc C scope M L₀ :=
 ⟨hk, nd, fun p hp e => by
  have := List.all_eq_true.mp nf p hp
  rw [e] at this
  simp at this
  exact ⟨kind_of hs this.1, look_map (by rw [hL]; exact this.2)⟩, has, fun x v e => by
  have := List.all_eq_true.mp hks x (hL ▸ map_look e)
  simpa using this⟩
end
noncomputable abbrev KeyV (C : Cx) (vx : Expr) (K : Value → Value → Loc → Led → Led → Prop) : QV := fun kv M o J => G C (eval vx C.env) M o J noX (K kv)
noncomputable abbrev TestIfD (C : Cx) (kx vx : Expr) (K : Value → Value → Loc → Led → Led → Prop) (KS : Loc → Led → Led → Prop) : QB := fun b M o J => (b = true → G C (eval kx C.env) M o J noX (KeyV C vx K)) ∧ (b = false → KS M o J)
noncomputable abbrev AsgTD (C : Cx) (ifs : List Expr) (kx vx : Expr) (K : Value → Value → Loc → Led → Led → Prop) (KS : Loc → Led → Led → Prop) : Unit → Loc → Led → Led → Prop := fun _ M o J => TestE C ifs (fun M o J => G C (eval kx C.env) M o J noX (KeyV C vx K)) KS M o J
theorem asgtd0 {C : Cx} {kx vx : Expr} {K : Value → Value → Loc → Led → Led → Prop} {M : Loc} {o J : Led} (h : G C (eval kx C.env) M o J noX (KeyV C vx K)) : AsgTD C [] kx vx K KS () M o J := h
theorem asgtd1 {C : Cx} {t kx vx : Expr} {K : Value → Value → Loc → Led → Led → Prop} {M : Loc} {o J : Led} (h : G C (isTrue t C.env (eval t C.env)) M o J noX (TestIfD C kx vx K KS)) : AsgTD C [t] kx vx K KS () M o J := h
section
variable {C : Cx} {M L₀ : Loc} {own J loc B : Led} {s : Shared} {m : Str → Option Value} {X : XP} {kx vx target iter : Expr} {ifs : List Expr} {scope : Scope} {pos : Pos} {I D : Addr} {n : Nat} {P : Nat → Value → Prop} {h : Heap} {tk : Nat} {Ky : Type} [DecidableEq Ky] {w : World} {knd : KeyKind prog w Ky}
inductive DInv (knd : KeyKind prog w Ky) (Inv : Nat → List (Ky × Value) → Led → Led → Prop) (i : Nat) : Obj → Led → Led → Prop
 | mk {oD : Obj} {ys : List (Ky × Value)} {o' J' : Led} : oD.IsDictOf knd ys → ys.length ≤ i → Inv i ys o' J' → DInv knd Inv i oD o' J'
inductive KD (L₀ : Loc) (D : Addr) (knd : KeyKind prog w Ky) (Ni : List (Ky × Value) → Led → Led → Prop) (ys : List (Ky × Value)) (oD : Obj) : Value → Value → Loc → Led → Led → Prop
 | mk {k : Ky} {kv y : Value} {M : Loc} {o J : Led} : knd.is k kv = true → Has M L₀ → Ni (stored ys k y) o J → KD L₀ D knd Ni ys oD kv y M ((D, oD) :: o) J
theorem stored_len' {l : List (Ky × Value)} {k : Ky} : (stored l k v).length ≤ l.length + 1 := by
 unfold stored
 split
 ·rw [List.length_map]; exact Nat.le_succ _
 ·exact Nat.le_of_eq List.length_append
theorem comp_loopD {R : Result → Shared → Prop} {o0 : Obj} (hw : C.w = w) (it : It C B I n P L₀ ((D, o0) :: own) J loc m h) (ho0 : o0.IsDictOf knd []) (ok : C.Ok) (hsz : n ≤ sizeLine) (Inv : Nat → List (Ky × Value) → Led → Led → Prop) (hB : ∀ i ys o' J', Inv i ys o' J' → ∀ p ∈ B, p ∈ o' ++ J') (i0 : Inv 0 [] own J) (ht : ∀ v, letOwnedTupleGo target (.ref I) v = pure ())
  (turn : ∀ oI i v ys own' J' oD (K : Value → Value → Loc → Led → Led → Prop) (KS : Loc → Led → Led → Prop), i < n → P i v → Inv i ys own' J' → oD.IsDictOf knd ys →
   (∀ k kv y M o J, knd.is k kv = true → Has M L₀ → Inv (i + 1) (stored ys k y) o J → K kv y M ((D, oD) :: o) J) → (∀ M o J, Has M L₀ → Inv (i + 1) ys o J → KS M ((D, oD) :: o) J) →
   G (C.frs ((I, oI) :: C.fr)) (assign target C.env v) L₀ ((D, oD) :: own') J' noX (AsgTD (C.frs ((I, oI) :: C.fr)) ifs kx vx K KS))
  (done : ∀ oD own' J' h tk m' loc', St C L₀ ((D, oD) :: own') J' h m' loc' → DInv knd Inv n oD own' J' → R (.ok .next) { s with heap := h, toks := tk }) :
  codeAny (model prog C.w) C.A (.compLoop (.DictComp kx vx [⟨target, iter, ifs, 0⟩] scope pos) 0 (.ref I) (.ref D) C.env) R { s with heap := h, toks := tk } := by
 subst hw
 refine comp_loopE (target := target) (ifs := ifs) (El := fun Nx s₃ => wpAny (model prog C.w) C.A (eval kx C.env) (fun kv s₄ => wpAny (model prog C.w) C.A (eval vx C.env) (fun vv s₅ => wpAny (model prog C.w) C.A (dictSet D kv vv) (fun _ s₆ => Nx s₆)
  (notedBy (model prog C.w) C.A C.env fun e s' => R (.error e) s') s₅) (notedBy (model prog C.w) C.A C.env fun e s' => R (.error e) s') s₄) (notedBy (model prog C.w) C.A C.env fun e s' => R (.error e) s') s₃) it ok (DInv knd Inv) (fun i oD o' J' inv => by cases inv with | mk _ _ inv => exact hB _ _ _ _ inv) (.mk ho0 (Nat.le_refl _) i0) (fun oI i v oD own' J' ok' lt hP inv => ?_) done fun Iv hIv k hk => codeAny_compLoop_testsD Iv hIv k hk ht
 cases inv with
 | @mk ys _ _ hoD hyl inv =>
 refine (turn oI i v ys own' J' oD (KD L₀ D knd (Inv (i + 1)) ys oD) (MidS L₀ D (DInv knd Inv (i + 1))) lt hP inv hoD (fun _ _ _ _ _ _ h0 h1 h2 => .mk h0 h1 h2) fun _ _ _ h1 h2 => .mk h1 (.mk hoD (Nat.le_succ_of_le hyl) h2)).mono (fun _ _ _ _ t => t.mono (fun M o J g h tk m loc Nx S k => ?_) fun _ _ _ x => x) fun _ _ _ x => x
 refine wpAny_mono (g.go ok' { s with heap := h, toks := tk } m loc S) (fun kv s₄ p => ?_) fun e s'' p => p.never.elim
 refine Post.elim p fun h4 tk4 M4 o4 J4 m4 loc4 S4 g2 => ?_
 refine wpAny_mono (G.go g2 ok' { s with heap := h4, toks := tk4 } m4 loc4 S4) (fun y s₅ p => ?_) fun e s'' p => p.never.elim
 refine Post.elim p fun h5 tk5 M5 o5 J5 m5 loc5 S5 q => ?_
 obtain ⟨hk, hM, inv5⟩ := q
 refine wpAny_dictSet_pairs (knd := knd) hk (Heap.dictOf_iff.mpr ⟨oD, (S5.news (D, oD) ((pullJ (l1 := [])).mem_iff.mpr (.head _))).1, hoD⟩) (fun h6 hmm hs6 => ?_) (Nat.le_trans hyl (Nat.le_trans (Nat.le_of_lt lt) hsz))
 obtain ⟨oD', hoD', hdD'⟩ := Heap.dictOf_iff.mp hmm
 exact k _ _ _ _ _ _ _ (St.put (l1 := []) S5 hs6 hoD') (.mk hM (.mk hdD' (Nat.le_trans stored_len' (Nat.succ_le_succ hyl)) inv5))
noncomputable def CompGD (C : Cx) (e : Expr) (scope : Scope) (X : XP) (Q : QV) (xv : Value) (M : Loc) (own J : Led) : Prop :=
 C.Ok → ∀ s m loc, St C M own J s.heap m loc → wpAny (model prog C.w) C.A (pyIter xv) (fun it s₂ => wpAny (model prog C.w) C.A newDict (fun acc s₃ => wpAny (model prog C.w) C.A (newFunctionEnv scope C.env.globals (clOf C.env scope.names []) [] C.env.qual none .none (some C.env)) (fun cenv s₄ =>
  codeAny (model prog C.w) C.A (.compStart e 0 it acc { cenv with scope := relabel scope C.env }) (compPost (model prog C.w) C.A (PostX C s X) none (Post C s Q) acc cenv.locals) s₄) (PostX C s X) s₃) (PostX C s X) s₂) (PostX C s X) s
noncomputable abbrev CompKD (C : Cx) (e : Expr) (scope : Scope) (X : XP) (Q : QV) (L₀ : Loc) : QV := fun xv M own J => CompSc C scope M L₀ ∧ CompGD C e scope X Q xv M own J
variable {Q : QV}
theorem g_dcomp (L₀ : Loc) (sc : CompSc C scope M L₀) (h : G C (eval iter C.env) M own J X (CompKD C (.DictComp kx vx [⟨target, iter, ifs, 0⟩] scope pos) scope X Q L₀))
  (hs : autoParam (∀ x, foldedSetIterable iter C.env x = pure x) zr) : G C (eval (.DictComp kx vx [⟨target, iter, ifs, 0⟩] scope pos) C.env) M own J X Q := .mk fun ok s m loc S => by
 rw [arm_eval_DictComp]
 refine wpAny_comprehension_free (use := none) rfl hs (closed_of ok S sc) sc.hk (local_of sc.nd) (h.use ok S rfl fun xv s₁ p => ?_)
 refine Post.elim p fun h1 tk M' o' J' m' loc' S' hqz => ?_
 refine wpAny_rebase (s₀ := s) rfl (hqz.2 ok _ m' loc' S') fun it s₂ h₂ => ?_
 refine wpAny_mono h₂ (fun acc s₃ h₃ => ?_) fun _ _ p => p.rebase
 refine wpAny_mono h₃ (fun cenv s₄ h₄ => ?_) fun _ _ p => p.rebase
 exact codeAny_mono h₄ fun r s' z => compPost_mono (fun _ _ p => p.rebase) (fun _ _ p => p.rebase) z
theorem compGD {B : Led} {n : Nat} {P : Nat → Value → Prop} (hw : C.w = w) (src : Src C xv own own₁ J B n P) (sc : CompSc C scope M L₀) (hsz : n ≤ sizeLine)
  (Inv : Nat → List (Ky × Value) → Led → Led → Prop) (hB : ∀ i ys o' J', Inv i ys o' J' → ∀ p ∈ B, p ∈ J') (i0 : Inv 0 [] own₁ J) (ht : ∀ I v, letOwnedTupleGo target (.ref I) v = pure ())
  (turn : ∀ C' i v ys own' J' D oD (K : Value → Value → Loc → Led → Led → Prop) (KS : Loc → Led → Led → Prop), InComp C C' scope → i < n → P i v → Inv i ys own' J' → oD.IsDictOf knd ys →
   (∀ k kv y M o J, knd.is k kv = true → Has M L₀ → Inv (i + 1) (stored ys k y) o J → K kv y M ((D, oD) :: o) J) → (∀ M o J, Has M L₀ → Inv (i + 1) ys o J → KS M ((D, oD) :: o) J) →
   G C' (assign target C'.env v) L₀ ((D, oD) :: own') J' noX (AsgTD C' ifs kx vx K KS))
  (done : ∀ ys own' J' D oD, (D == sysModules) = false → oD.IsDictOf knd ys → Inv n ys own' J' → ys.length ≤ n → Q (.ref D) M ((D, oD) :: own') J') : CompGD C (.DictComp kx vx [⟨target, iter, ifs, 0⟩] scope pos) scope X Q xv M own J := fun ok s m loc S => src ok s M m loc S _ _ fun I h tk it =>
 have hB' : ∀ i ys o' J', Inv i ys o' J' → ∀ p ∈ B, p ∈ o' ++ J' := fun i ys o' J' inv p hp => mR (hB i ys o' J' inv p hp)
 comp_coreE (Ac := fun D o => (D == sysModules) = false ∧ o.IsDictOf knd []) (Fin := DInv knd Inv n) it ok sc (hB' _ _ _ _ i0)
  (fun oI ok' S Q' E k => by
   subst hw
   obtain ⟨o0, ho0', ho0⟩ := Heap.dictOf_iff.mp (Heap.DictOf.new (knd := knd) h)
   rw [Heap.get?_push_size _ rfl] at ho0'
   exact wpAny_newObj_type (k _ o0 _ (S.mine (S.fr.push _) (Option.some.inj ho0' ▸ S.news.push S.fr _) fun p hp => Heap.lt_size (S.news p hp).1) ⟨S.fr.notModules (modules_low ok.top.nolimit), ho0⟩))
  (fun D env R s₁ loop self => codeAny_compStart_dict loop (self _ _ loop))
  (fun C' D o0 h₁ tk₁ m₁ loc₁ R hw' inc ok' it' hac fin => comp_loopD (hw'.trans hw) it' hac.2 ok' hsz Inv hB' i0 (ht I) (fun oI i v ys own' J' oD K KS => turn _ i v ys own' J' D oD K KS (inc _)) fin)
  fun D o0 oD own' J' hac fin => by
   cases fin with
   | mk hoD hle inv => exact done _ own' J' D _ hac.1 hoD inv hle
end
theorem g_while_inv {X : XP} {C : Cx} {J own : Led} {M : Loc} {pos : Pos} {Q : QF} (hfe : C.env = C.fe) (P : Nat → Loc → Led → Led → Prop) (n : Nat) (h : P n M own J)
  (turn : ∀ n M o J (W : Loc → Led → Led → Prop), P n M o J → (∀ m M' o' J', m < n → P m M' o' J' → W M' o' J') → G C (isTrue test C.env (eval test C.env)) M o J X (WhK C body X W Q)) : G C (exec (.While test body [] pos) C.env) M own J X Q := by
 have key : ∀ n k M o J, k ≤ n → P k M o J → WG C test body X Q (n + 1) M o J := by
  intro n
  induction n with
  | zero =>
   intro k M o J hk hP
   have e : k = 0 := by omega
   subst e
   exact turn _ _ _ _ _ hP fun m _ _ _ hm _ => absurd hm (Nat.not_lt_zero _)
  | succ n ih =>
   intro k M o J hk hP
   exact turn _ _ _ _ _ hP fun m M' o' J' hm hP' => ih m M' o' J' (by omega) hP'
 exact g_while hfe (n + 1) (key n n _ _ _ (Nat.le_refl _) h)
theorem swaps_cD {C : Cx} (hs : C.env.scope = SC) {kx vx target iter : Expr} {ifs : List Expr} {scope : Scope} {pos : Pos} (hk : SC.kind = .function) (hy : SC.names.lookup y = some .cell) :
  swapsWith (.DictComp kx vx [⟨target, iter, ifs, 0⟩] scope pos) (some (.Name y py)) line C.env = pure false := by
 have e : (C.env.blockKind == .function) = true := by unfold Env.blockKind; rw [hs, hk]; rfl
 have e2 : C.env.kindOf y = some .cell := kind_of hs hy
 show pure (C.env.blockKind == .function && C.env.kindOf y == some .local && py.line == pos.line && !(scope.names.any fun (n, k) => n == y && (k == .local || k == .cell))) = _
 rw [e, e2]; rfl
section
variable {X : XP} {C : Cx} {Q : QV} {J own : Led} {M : Loc} {w : World} {K : Type} [DecidableEq K] {knd : KeyKind prog w K} {d : Addr} {o : Obj} {kvs : List (K × Value)}
theorem g_update (hw : C.w = w) (l1 : Led) {l2 : Led} (hd : o.IsDictOf knd kvs) {e : Addr} {o2 : Obj} {more : List (K × Value)} (he : (e, o2) ∈ J) (hd2 : o2.IsDictOf knd more) (lo2 : (e == sysModules) = false) (hz : kvs.length + more.length ≤ sizeLine)
  (h : ∀ o', o'.IsDictOf knd (merged kvs more) → Q .none M (l1 ++ (d, o') :: l2) J) : G C (call (.builtin "dict.update") [.ref d, .ref e]) M (l1 ++ (d, o) :: l2) J X Q := .mk fun ok s m loc S => by
 subst hw
 have hm := S.news (d, o) (pullJ.mem_iff.mpr (.head _))
 have hme := S.news (e, o2) (mem_all_ice he)
 have hne : d ≠ e := S.apart.2 (d, o) (pull.mem_iff.mpr (.head _)) (e, o2) he
 have hD := kda_dict S.news (mR (mR (mL (mR (.head _))))) hd
 refine call_meetsIn PySem.F.slot_dict_update hD.typeIs PySem.F.entry_dict_update (PySem.F.args_dict_update_2 _ _) (meets_dict_update knd d e hne lo2) ⟨kvs, more, hD, Heap.dictOf_iff.mpr ⟨o2, hme.1, hd2⟩, hz, fun h5 hmm _ hs5 => ?_⟩
 obtain ⟨oD', hoD', hdD'⟩ := Heap.dictOf_iff.mp hmm
 exact Post.mk' (h := h5) (tk := s.toks) (S.put hs5 hoD') (h oD' hdD')
theorem g_mupdate (hw : C.w = w) {Q : Value × List Value → Loc → Led → Led → Prop} (hp : (d, o) ∈ own ++ J) (hd : o.IsDictOf knd kvs) (h : Q (.builtin "dict.update", [.ref d]) M own J) : G C (getMethod (.ref d) "update" pl) M own J X Q := .mk fun ok s m loc S => by
 subst hw
 have hD := kda_dict S.news (mR (mR hp)) hd
 exact getMethod_builtin hD.typeIs PySem.F.plainAttrs_dict PySem.F.slot_dict_update PySem.F.type_dict_update hD.mapOf.noDict (Post.of S h)
theorem g_rshift {a n : Int} {t : Tok} (hn : 0 ≤ n) (h : ∀ t, Q (.int (a.fdiv (2 ^ n.toNat)) t) M own J) : G C (binaryOp .RShift (.int a t) (.int n u)) M own J X Q := .mk fun _ _ _ _ S => rshift_int hn (Post.mk' S (h _))
theorem g_and_int {a b : Int} {t : Tok} (h : ∀ t, Q (.int (Builtin.bitAnd a b) t) M own J) : G C (binaryOp .BitAnd (.int a t) (.int b u)) M own J X Q := .mk fun _ _ _ _ S => PyProof.Rows.and_int (Post.mk' S (h _))
theorem g_item_int (hw : C.w = w) {k : K} {key : Value} (hp : (d, o) ∈ own ++ J) (hd : o.IsDictOf knd kvs) (hk : knd.is k key = true) {P : Int → Prop} (hl : ∃ n t, valueAt kvs k = some (.int n t) ∧ P n) (h : ∀ n t, P n → Q (.int n t) M own J)
  (hs : autoParam (subscripted slice false (.ref d) key = operate [.ref d, key] (getItem (.ref d) key)) zr) (hg : autoParam (∀ r, letTemporaryGo value (.ref d) r = pure ()) zr) :
  G C (subscriptTail value slice (.ref d) key) M own J X Q := by
 obtain ⟨n, t, e, p⟩ := hl
 exact g_item hw hp hd hk e (h n t p) hs hg
end
section
variable {X : XP} {C : Cx} {Q : QV} {J own : Led} {M : Loc}
theorem g_isi_ss {t : Tok} (h : Q (.bool true) M own J) : G C (call (.builtin "isinstance") [.str x t, .type "str"]) M own J X Q := .mk fun _ _ _ _ S => IsiPair.str_str (Post.of S h)
theorem g_isi_sl {t : Tok} (h : Q (.bool false) M own J) : G C (call (.builtin "isinstance") [.str x t, .type "list"]) M own J X Q := .mk fun _ _ _ _ S => IsiPair.str_list (Post.mk' S h)
theorem g_len_str {t : Tok} (hz : x.length ≤ 1000) (h : ∀ t, Q (.int x.length t) M own J) : G C (call (.builtin "len") [.str x t]) M own J X Q := .mk fun _ _ _ _ S => PyProof.Rows.len_str (by omega) (Post.mk' S (h _))
theorem eqat_str {s : Shared} {a b : Str} {t : Tok} : PySem.SeqAt.EqAt A s (.str a t) (.str b u) (a == b) := (PyProof.Rows.eqGives_str a b t u).at A s
theorem strs_any {vs : List Value} {ns : List Str} (p : StrsAre vs ns) (k : Str) : vs.any (fun v => match v with | .str a _ => a == k | _ => false) = decide (k ∈ ns) := by
 induction p with
 | nil => rfl
 | cons n t r ih =>
  rw [List.any_cons, ih]
  by_cases e : n = k
  ·subst e; simp
  ·have e' : ¬ k = n := fun q => e q.symm
   simp [e, e']
theorem strs_eqat {s : Shared} {t : Tok} {vs : List Value} {ns : List Str} (p : StrsAre vs ns) : ∀ y ∈ vs, PySem.SeqAt.EqAt A s y (.str k t) (match y with | .str a _ => a == k | _ => false) := by
 induction p with
 | nil => exact fun y hy => absurd hy List.not_mem_nil
 | cons n u r ih =>
  intro y hy
  cases hy with
  | head => exact eqat_str
  | tail _ hy => exact ih y hy
theorem g_in_tup_strs {vs : List Value} {ns : List Str} {t : Tok} (hp : (D, ({ cls := .type "tuple", data := .seq vs.toArray n } : Obj)) ∈ own ++ J) (hi : StrsAre vs ns) (h : Q (.bool (decide (k ∈ ns))) M own J) : G C (compareOp .In (.str k t) (.ref D)) M own J X Q := .mk fun ok s m loc S =>
 PySem.SeqAt.in_tupleAt _ ⟨_, (S.news _ (mR (mR hp))).1, rfl, _, rfl⟩ (fun y hy => strs_eqat hi y (by simpa using hy)) (by rw [List.any_toArray, strs_any hi]; exact Post.of S h)
theorem g_in_list_strs {vs : List Value} {ns : List Str} {t : Tok} (hp : (D, listOf vs.toArray n) ∈ own ++ J) (hi : StrsAre vs ns) (h : Q (.bool (decide (k ∈ ns))) M own J) : G C (compareOp .In (.str k t) (.ref D)) M own J X Q := .mk fun ok s m loc S =>
 PySem.SeqAt.in_listAt _ (News.isList S.news (mR (mR hp))) (fun y hy => strs_eqat hi y (by simpa using hy)) (by rw [List.any_toArray, strs_any hi]; exact Post.of S h)
theorem g_notin_list_strs {vs : List Value} {ns : List Str} {t : Tok} (hp : (D, listOf vs.toArray n) ∈ own ++ J) (hi : StrsAre vs ns) (h : Q (.bool (!decide (k ∈ ns))) M own J) : G C (compareOp .NotIn (.str k t) (.ref D)) M own J X Q := .mk fun ok s m loc S =>
 PySem.SeqAt.notIn_listAt _ (News.isList S.news (mR (mR hp))) (fun y hy => strs_eqat hi y (by simpa using hy)) (by rw [List.any_toArray, strs_any hi]; exact Post.of S h)
end
section
variable {X : XP} {C : Cx} {Q : QV} {J own : Led} {M : Loc} {w : World} {K : Type} [DecidableEq K] {knd : KeyKind prog w K}
theorem g_eq_dict_len (hw : C.w = w) {b : Addr} {ob : Obj} {ka kb : List (K × Value)} (ha : (a, oa) ∈ own ++ J) (da : oa.IsDictOf knd ka) (la : (a == sysModules) = false) (hb : (b, ob) ∈ own ++ J) (db : ob.IsDictOf knd kb) (lb : (b == sysModules) = false) (hne : ka.length ≠ kb.length) (h : Q (.bool false) M own J) :
  G C (compareOp .Eq (.ref a) (.ref b)) M own J X Q := .mk fun ok s m loc S => by
 subst hw
 have Da := kda_dict S.news (mR (mR ha)) da
 have Db := kda_dict S.news (mR (mR hb)) db
 refine keq_eq (r := false) la lb Da Db (by have := ok.uni; omega) (fun e => absurd e hne) ?_
 rw [Bool.and_false]
 exact Post.of S h
theorem g_base (x : Str) (px : Pos) {o i : Value} (h : G C (subscriptTail (.Name x px) slice o i) M own J X Q) : G C (subscriptTail value slice o i) M own J X Q := .mk fun ok s m loc S =>
 kba_turn (value' := .Name x px) (fun _ => rfl) (h.go ok s m loc S)
end
section
variable {X : XP} {C : Cx} {Q : QV} {J own : Led} {M : Loc}
theorem g_sortedL {l : Addr} {vs : List Value} {ns : List Int} (hp : (l, listOf vs.toArray n) ∈ own ++ J) (hI : IntsAre vs ns) (h64 : ns.length < 64) (h : ∀ D vs' ns' c, IntsAre vs' ns' → ns'.Perm ns → Q (.ref D) M ((D, listOf vs'.toArray c) :: own) J) :
  G C (call (.builtin "sorted") [.ref l]) M own J X Q := .mk fun ok s m loc S =>
 kso_sorted S.fr S.news (News.isList S.news (mR (mR hp))) hI h64 fun D vs' ns' c h' F' N' lt a1 _ a2 _ _ => Post.mk' (tk := s.toks) (S.mine F' N' lt) (h D vs' ns' c a1 a2)
noncomputable def isS (k : Str) (v : Value) : Bool := match v with | .str a _ => a == k | _ => false
theorem isS_at {vs : List Value} {ns : List Str} (p : StrsAre vs ns) : ∀ (j : Nat) (h1 : j < vs.length) (h2 : j < ns.length), isS k vs[j] = (ns[j] == k) := by
 induction p with
 | nil => exact fun j h => absurd h (Nat.not_lt_zero _)
 | cons n t r ih =>
  intro j h1 h2
  cases j with
  | zero => rfl
  | succ j => exact ih j (Nat.lt_of_succ_lt_succ h1) (Nat.lt_of_succ_lt_succ h2)
theorem strs_len {vs : List Value} {ns : List Str} (p : StrsAre vs ns) : vs.length = ns.length := by
 induction p with
 | nil => rfl
 | cons n t r ih => exact congrArg Nat.succ ih
theorem strs_at {vs : List Value} {ns : List Str} (p : StrsAre vs ns) : ∀ {i : Nat} {v : Value}, vs[i]? = some v → ∃ n t, v = .str n t ∧ ns[i]? = some n := by
 induction p with
 | nil => exact fun h => nomatch h
 | cons n t r ih =>
  intro i v h
  cases i with
  | zero => exact ⟨n, t, (Option.some.inj h).symm, rfl⟩
  | succ i => exact ih h
theorem g_index_strs {l : Addr} {vs : List Value} {ns : List Str} {t : Tok} (hp : (l, listOf vs.toArray n) ∈ own ++ J) (hi : StrsAre vs ns) (hsz : ns.length ≤ 100) (hk : k ∈ ns) (h : ∀ t, Q (.int (ns.idxOf k : Nat) t) M own J) :
  G C (call (.builtin "list.index") [.ref l, .str k t]) M own J X Q := .mk fun ok s m loc S => by
 have ho := (S.news _ (mR (mR hp))).1
 have hlen := strs_len hi
 have hj : ns.idxOf k < ns.length := List.idxOf_lt_length_iff.mpr hk
 refine call_meets PySem.F.slot_list_index ⟨_, ho, rfl⟩ PySem.F.entry_list_index (PySem.F.args_list_index_2 _ _)
  (PySem.SeqAt.list_indexAt l vs.toArray n none #[] (.str k t) (isS k) (ns.idxOf k) (by simpa [hlen] using hj) (by omega) ?_ ?_) ⟨ho, fun y hy => strs_eqat hi y (by simpa using hy), Post.mk' S (h _)⟩
 ·show isS k vs[ns.idxOf k] = true
  rw [isS_at hi _ (by omega) hj]
  simpa using List.getElem_idxOf hj
 ·intro j hjs hlt
  show isS k vs[j] = false
  rw [isS_at hi j (by simpa using hjs) (by simp at hjs; omega)]
  have hj2 : j < ns.length := by simp at hjs; omega
  exact List.not_of_lt_findIdx hlt
end
section
variable {prog : Program} {w : World} {A : Around} {E : Value → Shared → Prop} {s : Shared}
theorem x_attr_miss {xs : Array Value} {k : Nat} {name : Str} {Q : Option Value → Shared → Prop} (hx : s.heap.get? a = some { cls := .type "list", dict := none, data := .seq xs k, slots := sl }) (hmiss : typeLookup (.type "list") name = pure none)
  (hname : (["__module__", "__name__", "__qualname__", "__doc__", "__annotations__"] : List Str).contains name = false) (hA : A.handled = none) (hsz : name.length + 100 ≤ sizeLine)
  (h : ∀ h' tk, (∀ b o, s.heap.get? b = some o → h'.get? b = some o) → Q none { s with heap := h', toks := tk }) : wpAny (model prog w) A (getAttr? (.ref a) name) Q E s := by
 obtain ⟨hp, g, d, tk, os⟩ := s
 have hT : ∀ tk', (⟨hp, g, d, tk', os⟩ : Shared).TypeIs (.ref a) "list" := fun _ => ⟨_, hx, rfl⟩
 have f1 := sub_AttributeError
 have f3 := PySem.F.slot_list_getattribute.lookup
 have f4 := PySem.F.slot_list_getattribute.bind (.ref a)
 have f5 := am_list_getattr_none
 unfold getAttr? getAttrBy? getAttrBy
 repeat (any_goals (first | assumption | exact hT _ | ((with_reducible show wpAny _ _ (call (Value.builtin "list.__getattribute__") _ _) _ _ _); refine call_meets PySem.F.slot_list_getattribute (hT _) am_entry_list_getattribute (PySem.F.args_list_getattribute_2 _ _) (meets_getattribute_miss_list a xs k sl name _ hmiss hname hsz) ⟨hx, hA, fun h' tk' e hx' => ?_⟩) | wp_step))
 obtain ⟨t', u', he⟩ := hx'.there
 show wpAny _ _ (getattributeRaised _ _ _ _ _ _ _) _ _ _
 unfold getattributeRaised
 repeat (any_goals (first | assumption | wp_step))
 exact h _ _ hx'.keeps
theorem plain_upd_loop : plainId "dict.update.loop" = true := by decide +kernel
theorem entry_upd_loop : entryFor table "dict.update.loop" = some Builtin.«dict.update.loop» := entryFor_of_fast (by kernel_rfl)
variable {K : Type} [DecidableEq K] {knd : KeyKind prog w K}
inductive PairsAt (knd : KeyKind prog w K) (h : Heap) : List Value → List (K × Value) → Prop
 | nil : PairsAt knd h [] []
 | cons {q : Addr} {key v : Value} {k : K} {vs : List Value} {kvs : List (K × Value)} : h.get? q = some (tup [key, v]) → knd.is k key = true → PairsAt knd h vs kvs → PairsAt knd h (.ref q :: vs) ((k, v) :: kvs)
theorem PairsAt.len {h : Heap} {vs : List Value} {kvs : List (K × Value)} (p : PairsAt knd h vs kvs) : vs.length = kvs.length := by
 induction p with
 | nil => rfl
 | cons a b r ih => exact congrArg Nat.succ ih
theorem PairsAt.at {h : Heap} {vs : List Value} {kvs : List (K × Value)} (p : PairsAt knd h vs kvs) : ∀ {i : Nat} (hi : i < kvs.length), ∃ q key, vs[i]? = some (.ref q) ∧ h.get? q = some (tup [key, kvs[i].2]) ∧ knd.is kvs[i].1 key = true := by
 induction p with
 | nil => exact fun hi => absurd hi (Nat.not_lt_zero _)
 | cons a b r ih =>
  intro i hi
  cases i with
  | zero => exact ⟨_, _, rfl, a, b⟩
  | succ i => exact ih (Nat.lt_of_succ_lt_succ hi)
theorem upd_loop {l : Addr} {vs : List Value} {kvs : List (K × Value)} (P : PairsAt knd h₀ vs kvs) (hdl : d ≠ l) (hdi : d ≠ it) (hil : l ≠ it) (h0d : h₀.get? d = none) (h0i : h₀.get? it = none) (hsz : kvs.length ≤ sizeLine) (hA : A.handled = none) (Q : Value → Shared → Prop)
  (s₀ : Shared) (hQ : ∀ h' tk, h'.DictOf knd d (merged [] kvs) → (∀ b o, h₀.get? b = some o → h'.get? b = some o) → Q .none { s₀ with heap := h', toks := tk }) (n : Nat) :
  ∀ (i : Nat) (h : Heap) (tk : Tok), kvs.length - i = n → i ≤ kvs.length → h.IsListIter it l i → h.IsList l vs.toArray → h.DictOf knd d (merged [] (kvs.take i)) → (∀ b o, h₀.get? b = some o → h.get? b = some o) →
   codeAny (model prog w) A (.builtin "dict.update.loop" ⟨[.ref d, .ref it, rawInt i, .none], []⟩) (wants Q E) { s₀ with heap := h, toks := tk } := by
 induction n with
 | zero =>
  intro i h tk hn hi hit hl hd hk
  have e : i = kvs.length := Nat.le_antisymm hi (Nat.le_of_sub_eq_zero hn)
  subst e
  refine codeAny_builtin entry_upd_loop ?_
  rw [Around.under_plainId plain_upd_loop _]
  unfold Builtin.«dict.update.loop»
  refine wpAny_bind (wpAny_pyNext_list_end (A := A.in1) hA hit hl (by simp [P.len]) fun h' he => ?_)
  refine wpAny_bind (wpAny_pure ?_)
  rw [List.take_length] at hd
  exact wpAny_pure (hQ _ _ (hd.extBut he hdi) fun b o e => he b o (fun q => by rw [q, h0i] at e; cases e) (hk b o e))
 | succ n ih =>
  intro i h tk hn hi hit hl hd hk
  have hlt : i < kvs.length := Nat.lt_of_sub_eq_succ hn
  obtain ⟨q, key, hv, hq, hkey⟩ := P.at hlt
  refine codeAny_builtin entry_upd_loop ?_
  rw [Around.under_plainId plain_upd_loop _]
  unfold Builtin.«dict.update.loop»
  refine wpAny_bind (wpAny_pyNext_list_item hit hl (x := .ref q) (by simpa using hv) fun h1 hit1 hs1 => ?_)
  have hq1 : h1.get? q = some (tup [key, kvs[i].2]) := hs1.extBut q _ (fun e => by rw [← e, hq] at h0i; cases h0i) (hk _ _ hq)
  refine wpAny_bind (wpAny_holding ?_)
  refine wpAny_bind (wpAny_tryCatch ?_)
  unfold Builtin.Dict.pairItems
  refine wpAny_bind (wpAny_typeOf (T := "tuple") (show Shared.TypeIs _ (.ref q) "tuple" from ⟨_, hq1, rfl⟩) ?_)
  rw [if_pos (by decide)]
  refine wpAny_bind (wpAny_seqItems hq1 rfl ?_)
  refine wpAny_pure ?_
  have hmx : (merged ([] : List (K × Value)) (kvs.take i)).length ≤ sizeLine := by
   have e1 := merged_length_le ([] : List (K × Value)) (kvs.take i)
   have e2 : (kvs.take i).length ≤ kvs.length := List.length_take_le' i kvs
   rw [List.length_nil, Nat.zero_add] at e1
   exact Nat.le_trans e1 (Nat.le_trans e2 hsz)
  show wpAny _ _ (holding [key, kvs[i].2] (dictSet d key kvs[i].2)) _ _ _
  refine wpAny_holding (wpAny_dictSet_pairs (hsz := hmx) hkey (hd.extBut hs1.extBut hdi) fun h2 hd2 hs2 => ?_)
  refine wpAny_pure ⟨plainId_quiet plain_upd_loop _, ?_⟩
  have ei : rawInt (i + 1) = rawInt ((i + 1 : Nat) : Int) := rfl
  refine ih (i + 1) h2 _ (congrArg Nat.pred hn) hlt (hit1.extBut hs2.extBut (Ne.symm hdi)) ((hl.extBut hs1.extBut hil).extBut hs2.extBut (Ne.symm hdl)) ?_ fun b o e => ?_
  ·rw [merged_take_succ [] kvs i kvs[i] (List.getElem?_eq_getElem hlt)]; exact hd2
  ·exact hs2.extBut b o (fun q => by rw [q, h0d] at e; cases e) (hs1.extBut b o (fun q => by rw [q, h0i] at e; cases e) (hk b o e))
theorem x_dict_pairs {l : Addr} {vs : List Value} {kvs : List (K × Value)} {Q : Value → Shared → Prop} (hl : s.heap.get? l = some (listOf vs.toArray c)) (P : PairsAt knd s.heap vs kvs) (hsz : kvs.length ≤ sizeLine) (hA : A.handled = none)
  (h : ∀ h' tk, h'.DictOf knd s.heap.objs.size (merged [] kvs) → (∀ b o, s.heap.get? b = some o → h'.get? b = some o) → Q (.ref s.heap.objs.size) { s with heap := h', toks := tk }) :
  wpAny (model prog w) A (call (.type "dict") [.ref l]) Q E s := by
 refine callType_codes (Q₁ := fun obj s₁ => obj = .ref s.heap.objs.size ∧ s₁ = { s with heap := s.heap.push { cls := .type "dict", data := .dict #[] } }) PySem.F.kt_called_dict (PySem.F.kt_typeCall_dict_1 _) PySem.F.entry_dict_init (kt_code_dict_new _ ⟨rfl, rfl⟩) ?_
 rintro obj s₁ ⟨rfl, rfl⟩
 have hnew : (s.heap.push { cls := .type "dict", data := .dict #[] }).DictOf knd s.heap.objs.size [] := Heap.DictOf.new s.heap
 have hl1 := Heap.get?_push_of_some { cls := .type "dict", data := .dict #[] } hl
 refine ⟨hnew.typeIs, PySem.F.args_dict_init_2 _ _, ?_⟩
 unfold Builtin.«dict.__init__»
 refine wpAny_bind ?_
 unfold Builtin.Dict.selfAndRest
 refine wpAny_bind (wpAny_notOrdered_dict hnew.typeIs ?_)
 show wpAny _ _ (pure (s.heap.objs.size, [Value.ref l])) _ _ _
 refine wpAny_pure ?_
 show wpAny _ _ (Builtin.Dict.updateFrom "dict.__init__" s.heap.objs.size (.ref l) [] .none) _ _ _
 unfold Builtin.Dict.updateFrom
 refine wpAny_bind (wpAny_typeOf (T := "list") (show Shared.TypeIs _ (.ref l) "list" from ⟨_, hl1, rfl⟩) ?_)
 rw [if_pos (by decide)]
 refine wpAny_bind (x_attr_miss (s := { s with heap := s.heap.push { cls := .type "dict", data := .dict #[] } }) hl1 (am_miss_of_fast (by decide +kernel)) (by decide +kernel) hA (by decide +kernel) fun h1 tk1 k1 => ?_)
 refine wpAny_bind (wpAny_rule ?_)
 have k1' : ∀ b o, s.heap.get? b = some o → h1.get? b = some o := fun b o e => k1 b o (Heap.get?_push_of_some _ e)
 refine wpAny_bind (wpAny_pyIter_list (s := { s with heap := h1, toks := tk1 }) (items := vs.toArray) ⟨_, k1' _ _ hl, rfl, _, rfl⟩ ?_)
 have hd1 : h1.DictOf knd s.heap.objs.size [] := Heap.DictOf.at hnew fun o e => k1 _ _ e
 have ltl : l < s.heap.objs.size := Heap.lt_size hl
 have hdo : s.heap.objs.size < h1.objs.size := by
  obtain ⟨o, _, _, g, _⟩ := hd1
  exact Heap.lt_size g
 refine wpAny_pure ⟨plainId_quiet plain_upd_loop _, ?_⟩
 refine upd_loop (A := A.in1) (h₀ := s.heap) (s₀ := s) P (Nat.ne_of_gt ltl) (Nat.ne_of_lt hdo) (Nat.ne_of_lt (Nat.lt_trans ltl hdo)) (Heap.get?_none_of_le (Nat.le_refl _)) (Heap.get?_none_of_le (Nat.le_of_lt hdo)) hsz hA (fun r s₂ => r = .none ∧ Q (.ref s.heap.objs.size) s₂) (fun h' tk hd hk => ⟨rfl, h h' tk hd hk⟩) kvs.length 0 _ _ rfl (Nat.zero_le _) ?_ ?_ ?_ ?_
 ·exact ⟨_, Heap.get?_push_size _ rfl, rfl, rfl⟩
 ·exact ⟨_, Heap.get?_push_of_some _ (k1' _ _ hl), rfl, _, rfl⟩
 ·exact hd1.push _
 ·exact fun b o e => Heap.get?_push_of_some _ (k1' _ _ e)
end
section
variable {prog : Program} {w : World} {A : Around} {E : Value → Shared → Prop} {s : Shared}
theorem by_bytes : typeLookup (.type "bytes") "__bytes__" = pure (some (.builtin "bytes.__bytes__")) := by rw [typeLookup_type, builtinLookup_eq_fast]; kernel_rfl
theorem x_bytes_same {b : Array UInt8} {t : Tok} {Q : Value → Shared → Prop} (h : Q (.bytes b t) s) : wpAny (model prog w) A (call (.type "bytes") [.bytes b t]) Q E s := by
 refine callType_codes (Q₁ := fun obj s₁ => s₁.TypeIs obj "bytes" ∧ Q obj s₁) PySem.F.bm_called (PySem.F.bm_typeCall _) PySem.F.entry_object_init ?_ fun obj s₁ h₁ => ?_
 ·refine codeAny_of_tree ?_
  show wpAny _ A.in1.in1 (do checkBuiltinCall "bytes.__new__" ⟨[.type "bytes", .bytes b t], []⟩; again (.builtin "bytes.__new__" ⟨[.type "bytes", .bytes b t], []⟩)) _ _ s
  refine wpAny_bind (wpAny_of_eq (PySem.F.bm_newCall _) (wpAny_pure ⟨plainId_quiet PySem.F.bm_plain _, codeAny_builtin PySem.F.bm_entry ?_⟩))
  rw [Around.under_plainId PySem.F.bm_plain _]
  have hT : s.TypeIs (.bytes b t) "bytes" := PySem.W.typeIs_bytes _ _ _
  unfold Builtin.«bytes.__new__»
  refine wpAny_bind (wpAny_of_eq (a := true) rfl ?_)
  refine bm_if_false rfl ?_
  refine wpAny_bind (wpAny_of_eq PySem.F.bm_sub ?_)
  refine bm_if_false rfl ?_
  refine wpAny_bind (wpAny_of_eq (PySem.F.bm_bind _) ?_)
  refine wpAny_bind (wpAny_of_eq (a := ()) rfl ?_)
  refine wpAny_bind (wpAny_of_eq (a := ()) rfl ?_)
  refine bm_if_false rfl ?_
  refine wpAny_bind (wpAny_specialOf hT by_bytes ?_)
  refine wpAny_bind (wpAny_rule ?_)
  refine wpAny_bind (wpAny_typeOf hT ?_)
  refine bm_if_true (by decide +kernel) ?_
  exact wpAny_pure ⟨hT, h⟩
 ·exact ⟨h₁.1, PySem.F.args_object_init_2 obj _, object_init_meets PySem.F.bm_called.init.lookup PySem.F.bm_called.made (by decide) prog w A.in1 _ s₁ ⟨h₁.1, rfl, h₁.2⟩⟩
end
section
variable {X : XP} {C : Cx} {Q : QV} {J own : Led} {M : Loc}
theorem g_bytes_same {b : Array UInt8} {t : Tok} (h : Q (.bytes b t) M own J) : G C (call (.type "bytes") [.bytes b t]) M own J X Q := .mk fun _ _ _ _ S => x_bytes_same (Post.of S h)
theorem g_tuple_list {vs : List Value} (hp : (D, listOf vs.toArray n) ∈ own ++ J) (hz : vs.length ≤ 1000) (h : ∀ D', Q (.ref D') M own ((D', tup vs) :: J)) : G C (call (.type "tuple") [.ref D]) M own J X Q := .mk fun ok s m loc S =>
 kde_tupleOf S.fr S.news (News.isList S.news (mR (mR hp))) (by simp; omega) (by simp) fun D' h' F' N' lt => Post.mk' (tk := s.toks) (S.ice F' N' lt) (h D')
inductive PairsJ (J : Led) : List Value → List (Int × Value) → Prop
 | nil : PairsJ J [] []
 | snoc {q : Addr} {k : Int} {t : Tok} {v : Value} {vs : List Value} {kvs : List (Int × Value)} : PairsJ J vs kvs → (q, tup [.int k t, v]) ∈ J → PairsJ J (vs ++ [.ref q]) (kvs ++ [(k, v)])
theorem PairsAt.app {w : World} {h : Heap} {vs us : List Value} {kvs lvs : List (Int × Value)} (p : PairsAt (PySem.intKind prog w) h vs kvs) (g : PairsAt (PySem.intKind prog w) h us lvs) : PairsAt (PySem.intKind prog w) h (vs ++ us) (kvs ++ lvs) := by
 induction p with
 | nil => exact g
 | cons a b r ih => exact .cons a b ih
theorem PairsJ.toH {J : Led} {w : World} {h : Heap} (k : ∀ p ∈ J, h.get? p.1 = some p.2) {vs : List Value} {kvs : List (Int × Value)} (p : PairsJ J vs kvs) : PairsAt (PySem.intKind prog w) h vs kvs := by
 induction p with
 | nil => exact .nil
 | snoc r a ih => exact ih.app (.cons (k _ a) (intKind_is _ _ _ _) .nil)
theorem PairsJ.mono {J : Led} (s : Sub J J') {vs : List Value} {kvs : List (Int × Value)} (r : PairsJ J vs kvs) : PairsJ J' vs kvs := by
 induction r with
 | nil => exact .nil
 | snoc r a ih => exact .snoc ih (s _ a)
theorem PairsJ.len {J : Led} {vs : List Value} {kvs : List (Int × Value)} (r : PairsJ J vs kvs) : vs.length = kvs.length := by
 induction r with
 | nil => rfl
 | snoc r a ih => rw [List.length_append, List.length_append, ih]; rfl
theorem g_dict_pairs {w : World} (hw : C.w = w) (hn : C.hn = none) {vs : List Value} {kvs : List (Int × Value)} (hp : (D, listOf vs.toArray n) ∈ own ++ J) (P : PairsJ J vs kvs) (hz : kvs.length ≤ sizeLine) (hnd : (kvs.map (·.1)).Nodup)
  (h : ∀ d o, (d == sysModules) = false → o.IsDictOf (PySem.intKind prog w) kvs → Q (.ref d) M ((d, o) :: own) J) : G C (call (.type "dict") [.ref D]) M own J X Q := .mk fun ok s m loc S => by
 subst hw
 have hl := (S.news _ (mR (mR hp))).1
 refine x_dict_pairs hl (P.toH fun p hp => (S.news p (mem_all_ice hp)).1) hz (ok.hd0 hn) fun h' tk hd hk => ?_
 rw [merged_nil_of_nodup kvs hnd] at hd
 obtain ⟨o', ho', hd''⟩ := Heap.dictOf_iff.mp hd
 have S1 : St C M ((s.heap.objs.size, o') :: own) J h' m loc := by
  refine S.mine (S.fr.keeps hk) (fun p hp => ?_) fun p hp => Heap.lt_size (S.news p hp).1
  rcases List.mem_cons.mp hp with rfl | hp
  ·exact ⟨ho', (Nat.ne_of_lt S.fr.ns.lt).symm, next_is_new S.fr⟩
  ·exact ⟨hk _ _ (S.news p hp).1, (S.news p hp).2⟩
 exact Post.mk' (tk := tk) S1 (h _ o' (S.fr.notModules (modules_low ok.top.nolimit)) hd'')
end
section
variable {X : XP} {C : Cx} {Q : QV} {J own : Led} {M : Loc}
theorem g_iced {c : Sem Value} (g : G C c M own J X (fun v M' o' J' => ∃ p o₁, o' = p :: o₁ ∧ Q v M' o₁ (p :: J'))) : G C c M own J X Q := .mk fun ok s m loc S =>
 wpAny_mono (g.go ok s m loc S) (by
  rintro _ _ ⟨a1, a2, a3, a4, a5, a6, a7, e, S', p, o₁, rfl, q⟩
  exact ⟨a1, a2, a3, o₁, p :: a5, a6, a7, e, St.freeze (l1 := []) S', q⟩) fun _ _ h => h
theorem g_sortedSJ {w : World} (hw : C.w = w) {o : Obj} (hp : (d, o) ∈ own ++ J) (hd : o.IsDictOf (PySem.strKind prog w) kvs) (lo : (d == sysModules) = false) (h64 : kvs.length < 64)
  (h : ∀ D vs c, StrsAre vs (srtS (kvs.map (·.1))) → (srtS (kvs.map (·.1))).Perm (kvs.map (·.1)) → Q (.ref D) M own ((D, listOf vs.toArray c) :: J)) : G C (call (.builtin "sorted") [.ref d]) M own J X Q :=
 g_iced (g_sortedS hw hp hd lo h64 fun D vs c a b => ⟨_, _, rfl, h D vs c a b⟩)
theorem g_sortedIJ {w : World} (hw : C.w = w) {o : Obj} {kvs : List (Int × Value)} (hp : (d, o) ∈ own ++ J) (hd : o.IsDictOf (PySem.intKind prog w) kvs) (lo : (d == sysModules) = false) (h64 : kvs.length < 64)
  (h : ∀ D vs c, IntsAre vs (srtI (kvs.map (·.1))) → (srtI (kvs.map (·.1))).Perm (kvs.map (·.1)) → Q (.ref D) M own ((D, listOf vs.toArray c) :: J)) : G C (call (.builtin "sorted") [.ref d]) M own J X Q :=
 g_iced (g_sortedI hw hp hd lo h64 fun D vs c a b => ⟨_, _, rfl, h D vs c a b⟩)
end
inductive Tri (J : Led) (q : Str) : List Value → Prop
 | nil : Tri J q []
 | cons {a b : Int} {c' : Addr} {oc : Obj} {vs : Array Value} {t : Tok} {rest : List Value} : (c', oc) ∈ J → oc.data = .fields vs → vs[1]? = some (.str q t) → Tri J q rest → Tri J q (rawInt a :: rawInt b :: .ref c' :: rest)
theorem Tri.mono {J : Led} (s : Sub J J') {l : List Value} (p : Tri J q l) : Tri J' q l := by
 induction p with
 | nil => exact .nil
 | cons a b c r ih => exact .cons (s _ a) b c ih
theorem Tri.ok {J : Led} {l : List Value} (p : Tri J q l) : TriplesOk l := by
 induction p with
 | nil => exact trivial
 | cons a b c r ih => exact ih
theorem Tri.at {J : Led} {l : List Value} (p : Tri J q l) (h : codeAmong pos l = some cv) : ∃ c' oc vs t, cv = .ref c' ∧ (c', oc) ∈ J ∧ oc.data = .fields vs ∧ vs[1]? = some (.str q t) := by
 induction p with
 | nil => cases h
 | cons a b c r ih =>
  simp only [codeAmong, rawInt] at h
  split at h
  ·cases h; exact ⟨_, _, _, _, rfl, a, b, c⟩
  ·exact ih h
theorem Tri.snoc {J : Led} {q : Str} {a b : Int} {c' : Addr} {oc : Obj} {vs : Array Value} {t : Tok} (h1 : (c', oc) ∈ J) (h2 : oc.data = .fields vs) (h3 : vs[1]? = some (.str q t)) {l : List Value} (p : Tri J q l) : Tri J q (l ++ [rawInt a, rawInt b, .ref c']) := by
 induction p with
 | nil => exact .cons h1 h2 h3 .nil
 | cons x y z r ih => exact .cons x y z ih
section
variable {X : XP} {C : Cx} {Q : QV} {J own : Led} {M : Loc}
theorem g_lambda {c P : Addr} {body : Expr} {scope : Scope} (l1 : Led) {l2 : Led} (hcode : C.env.code = .ref c) (hq : C.env.qual ++ "<lambda>" = q) (hC : ∀ h, (Kf C.w.params).In h → CodeHd h c P)
  (hfree : ∀ p ∈ scope.names, p.2 = .free → (C.env.cells.lookup p.1).isSome = true) (hdef : defaultsOf params C.env = ([], [])) (ht : Tri J q ps.toList)
  (h : ∀ ps' J' f c' oc vs t ctv pm, Sub J J' → Tri J' q ps'.toList → (c', oc) ∈ J' → oc.data = .fields vs → vs[1]? = some (.str q t) → (f, kla_obj "<lambda>" q params body scope (clOf C.env scope.names []) pm c' ctv) ∈ J' → Q (.ref f) M (l1 ++ (P, tabObj ps') :: l2) J') :
  G C (eval (.Lambda params body scope pos) C.env) M (l1 ++ (P, tabObj ps) :: l2) J X Q := .mk fun ok s m loc S => by
 subst hq
 refine kla_eval hdef ?_
 have hm := S.news (P, tabObj ps) (pullJ.mem_iff.mpr (.head _))
 have hgs := ok.top.g.keeps S.fr.keep
 obtain ⟨bm, ob, b1, b2, b3, b4, b5, b6⟩ := ok.top.bmain
 have hgP : mainGlobals ≠ P := fun q => by
  obtain ⟨o, es, ep, e, hd, _⟩ := hgs
  rw [q, hm.1] at e; cases e; cases hd
 have hbP : bm ≠ P := fun q => by
  have e := S.fr.keep _ _ b3
  rw [q, hm.1] at e; cases e; cases b4
 have hbG : bm ≠ mainGlobals := fun q => by
  obtain ⟨o, es, ep, e, hd, _⟩ := ok.top.g
  rw [q, e] at b3; cases b3; rw [hd] at b6; cases b6
 have hcl : closureFor scope C.env = pure (clOf C.env scope.names []) := closure_is hfree
 have hb : s.heap.BuiltinsAt C.mg P := ⟨bm, ob, b1, b2, hbG, hbP, S.fr.keep _ _ b3, b4, b5, b6⟩
 have ap := S.apart1
 have nw : ∀ p, p ∈ (loc ++ (C.fr ++ l1)) ++ (P, tabObj ps) :: (l2 ++ J) → s.heap.get? p.1 = some p.2 ∧ (p.1 ≠ C.L ∧ C.h₀.get? p.1 = none) := fun p hp => S.news p (by rw [← all_at (C := C)] at hp; exact hp)
 cases hca : codeAmong pos ps.toList with
 | none =>
  refine kla_makeFunction (mg := C.mg) hcl ok.eg hgs hcode (hC _ (S.frag ok)) hm.1 ht.ok hca hgP hb fun c' ctv h' tk hx hge hlt hrec htb => ?_
  obtain ⟨c₂, oc, vs, t, e2, hoc, hd, hv⟩ := hrec
  cases e2
  have hLs : C.L < s.heap.objs.size := S.fr.ns.lt
  have fresh : ∀ b, C.L < b → C.h₀.get? b = none := fun b hb => Heap.get?_none_of_le (Nat.le_trans S.fr.above (Nat.le_of_lt hb))
  have hLc : C.L < c' := Nat.lt_of_lt_of_le hLs hge
  have F' : Fr C.h₀ C.L h' m := ⟨S.fr.ns.extBut hx hm.2.1.symm, fun b o e => hx b o (fun q => by rw [q, hm.2.2] at e; cases e) (S.fr.keep b o e), S.fr.above⟩
  have N' : News C.h₀ C.L h' (St.all C (l1 ++ (P, tabObj (ps ++ #[rawInt pos.line, rawInt pos.col, .ref c'])) :: l2) J loc) := fun p hp => by
   rw [all_at] at hp
   rcases List.mem_append.mp hp with hp | hp
   ·have n := nw p (mL hp)
    exact ⟨hx _ _ (ap.1 p hp) n.1, n.2⟩
   ·rcases List.mem_cons.mp hp with rfl | hp
    ·exact ⟨htb, hm.2⟩
    ·have n := nw p (mR (.tail _ hp))
     exact ⟨hx _ _ (ap.2 p hp) n.1, n.2⟩
  have S1 := S.upd F' N'
  have lt1 : ∀ p ∈ St.all C (l1 ++ (P, tabObj (ps ++ #[rawInt pos.line, rawInt pos.col, .ref c'])) :: l2) J loc, p.1 < c' := fun p hp => by
   refine Nat.lt_of_lt_of_le ?_ hge
   rw [all_at] at hp
   rcases List.mem_append.mp hp with hp | hp
   ·exact Heap.lt_size (nw p (mL hp)).1
   ·rcases List.mem_cons.mp hp with rfl | hp
    ·exact Heap.lt_size hm.1
    ·exact Heap.lt_size (nw p (mR (.tail _ hp))).1
  have S2 : St C M (l1 ++ (P, tabObj (ps ++ #[rawInt pos.line, rawInt pos.col, .ref c'])) :: l2) ((c', oc) :: J) h' m loc := S1.ice F' (fun p hp => by
   rcases List.mem_cons.mp hp with rfl | hp
   ·exact ⟨hoc, Nat.ne_of_gt hLc, fresh _ hLc⟩
   ·exact S1.news p hp) lt1
  have S3 : St C M (l1 ++ (P, tabObj (ps ++ #[rawInt pos.line, rawInt pos.col, .ref c'])) :: l2) ((h'.objs.size, kla_obj "<lambda>" (C.env.qual ++ "<lambda>") params body scope (clOf C.env scope.names []) ((C.mg "__name__").getD .none) c' ctv) :: (c', oc) :: J) (h'.push (kla_obj "<lambda>" (C.env.qual ++ "<lambda>") params body scope (clOf C.env scope.names []) ((C.mg "__name__").getD .none) c' ctv)) m loc :=
   S2.ice (S2.fr.keeps fun b o e => Heap.get?_push_of_some _ e) (fun p hp => by
    rcases List.mem_cons.mp hp with rfl | hp
    ·exact ⟨Heap.get?_push_size _ rfl, Nat.ne_of_gt (Nat.lt_trans hLc hlt), fresh _ (Nat.lt_trans hLc hlt)⟩
    ·exact ⟨Heap.get?_push_of_some _ (S2.news p hp).1, (S2.news p hp).2⟩) fun p hp => Heap.lt_size (S2.news p hp).1
  refine Post.mk' (tk := tk) S3 (h _ _ _ c' oc vs t ctv _ (Sub.cons (Sub.cons .refl)) ?_ (.tail _ (.head _)) hd hv (.head _))
  rw [Array.toList_append]
  exact Tri.snoc (.tail _ (.head _)) hd hv (ht.mono (Sub.cons (Sub.cons .refl)))
 | some cv =>
  obtain ⟨c', oc, vs, t, rfl, hc', hd, hv⟩ := ht.at hca
  refine kla_makeFunctionHit (mg := C.mg) hcl ok.eg hgs hcode (hC _ (S.frag ok)) hm.1 ht.ok hca hb fun ctv h' tk hk hsz => ?_
  have hLs : C.L < h'.objs.size := Nat.lt_of_lt_of_le S.fr.ns.lt hsz
  have S1 : St C M (l1 ++ (P, tabObj ps) :: l2) J h' m loc := ⟨S.fr.keeps hk, fun p hp => ⟨hk _ _ (S.news p hp).1, (S.news p hp).2⟩, S.apart, S.vars⟩
  have S3 : St C M (l1 ++ (P, tabObj ps) :: l2) ((h'.objs.size, kla_obj "<lambda>" (C.env.qual ++ "<lambda>") params body scope (clOf C.env scope.names []) ((C.mg "__name__").getD .none) c' ctv) :: J) (h'.push (kla_obj "<lambda>" (C.env.qual ++ "<lambda>") params body scope (clOf C.env scope.names []) ((C.mg "__name__").getD .none) c' ctv)) m loc :=
   S1.ice (S1.fr.keeps fun b o e => Heap.get?_push_of_some _ e) (fun p hp => by
    rcases List.mem_cons.mp hp with rfl | hp
    ·exact ⟨Heap.get?_push_size _ rfl, Nat.ne_of_gt hLs, Heap.get?_none_of_le (Nat.le_trans S.fr.above (Nat.le_of_lt hLs))⟩
    ·exact ⟨Heap.get?_push_of_some _ (S1.news p hp).1, (S1.news p hp).2⟩) fun p hp => Heap.lt_size (S1.news p hp).1
  exact Post.mk' (tk := tk) S3 (h _ _ _ c' oc vs t ctv _ (Sub.cons .refl) (ht.mono (Sub.cons .refl)) (.tail _ hc') hd hv (.head _))
theorem g_callF0 {f : Expr} (h : G C (eval f C.env) M own J X (fun fv M o J => ∃ q oc od fd sl, fv = .ref q ∧ (q, (⟨oc, od, .func fd, sl⟩ : Obj)) ∈ o ++ J ∧ G C (call fv []) M o J X Q))
  (he : autoParam (eval (.Call f [] [] pos) C.env = (do callWith pos (← eval f C.env) [] (backTo pos (starEach [] C.env)) (backToKw pos (keywordEach [] C.env)))) zr) : G C (eval (.Call f [] [] pos) C.env) M own J X Q := .mk fun ok s m loc S => by
 refine Call_ (h.use ok S rfl fun fv s' p => ?_) he
 refine Post.elim p fun h1 tk M' o' J' m' loc' S' hqz => ?_
 obtain ⟨q, oc, od, fd, sl, rfl, hq, g⟩ := hqz
 exact callWith_F0 ⟨oc, od, fd, sl, (S'.news _ (mR (mR hq))).1⟩ (g.use ok S' rfl fun _ _ x => x)
end
noncomputable def RunA (cs : Led) (w : World) (D U : Nat) (f : Value) (own J : Led) (X : XR) (R : Value → Led → Led → Prop) : Prop :=
 ∀ C : Cx, C.w = w → D ≤ C.dl → U ≤ C.ul → C.hn = none → (∀ p ∈ cs, p ∈ C.fr) → ∀ M, G C (call f []) M own J (fun M' o' J' => M' = M ∧ X o' J') (fun r M' o' J' => M' = M ∧ R r o' J')
theorem run_lam {cs : Led} {w : World} {D : Nat} (hD : 1 ≤ D) (hU : 3 ≤ U) {own J : Led} {X : XR} {R : Value → Led → Led → Prop} {name : Str} {body : Expr} {scope : Scope} {ctv : Value} {f c' : Addr} {oc : Obj} {vs : Array Value} {t : Tok}
  (hf : (f, kla_obj name q params body scope cl pm c' ctv) ∈ J) (hc : (c', oc) ∈ J) (hoc : oc.data = .fields vs) (hv : vs[1]? = some (.str q t)) (hbind : bindArgs (kla_fn name q params body scope cl pm (.ref c') ctv) ⟨[], []⟩ = pure [])
  (hco : scope.isCoroutine = false) (hgen : scope.isGenerator = false) (hk : scope.kind = .function) (hcell : ∀ x ∈ scope.names, x.2 ≠ .cell) (M₀ : Loc)
  (hM : ∀ x v, M₀.lookup x = some v → scope.names.lookup x = some .free ∧ ∃ c o, cl.lookup x = some c ∧ (c, o) ∈ cs ∧ o.data = .cell (some v))
  (hbody : ∀ C' : Cx, C'.w = w → C'.env.scope = scope → D ≤ C'.dl + 1 → U ≤ C'.ul + 3 → C'.hn = none → C'.env = C'.fe → G C' (eval body C'.env) M₀ own J (fun _ o' J' => X o' J') (fun r _ o' J' => R r o' J')) : RunA cs w D U (.ref f) own J X R := by
 intro C hw hD' hU' hn hcs M
 refine .mk fun ok s m loc S => ?_
 subst hw
 have hoc0 := (S.news _ (mem_all_ice hc)).1
 have hx0 : ∀ (x : Str), scope.names.lookup x ≠ some .cell := fun x e => hcell _ (look_mem e) rfl
 refine wpAny_call (kla_code (R := fun r s' => match r with | .ok (.ret v) => Post C s (fun v M' o' J' => M' = M ∧ R v o' J') v s' | .ok _ => False | .error e => PostX C s (fun M' o' J' => M' = M ∧ X o' J') e s') ok.below S.fr ok.frag S.news ok.top ok.stack ok.fl ok.fk (mem_all_ice hf) ⟨c', oc, vs, t, rfl, hoc0, hoc, hv⟩ (Nat.lt_of_le_of_lt (Nat.le_add_right _ C.dl) ok.dep) hbind (fun _ h => nomatch h) (fun g L' h₁ FG F' N' B' X' T' => ?_) hco hgen hk hcell)
 let env' := envX q scope L' f (.ref c') cl
 let C' : Cx := { calleeCx C C.A env' g L' loc C.dl C.ul with oc := fun _ => false }
 have ok' : C'.Ok := {
  below := B'
  stack := Around.frames_deeper ok.stack
  fl := rfl
  fk := hk
  ek := hk
  eg := rfl
  eb := rfl
  ci := fun x y c hy => nomatch hy
  frag := X'
  top := T'
  hd := ok.hd
  fm := fun _ => rfl
  hx := fun p hp => ⟨mR (ok.hx p hp).1, (ok.hx p hp).2⟩
  dep := sb1 ok.dep (Nat.le_refl 1) (Nat.le_trans hD hD')
  uni := sb1 ok.uni (Nat.le_refl 3) (Nat.le_trans hU hU')
  fragB := ok.fragB
  topB := ok.topB
  gd := ok.gd }
 have S' : St C' M₀ own J h₁ (fun y => ([] : List (Str × Value)).reverse.lookup y) [] := by
  refine ⟨F', ?_, ?_, ⟨fun x v hx => ?_, fun x hx => ?_, fun _ e => (nomatch e), fun e => absurd rfl e⟩⟩
  ·show News g L' h₁ ((loc ++ C.fr) ++ (own ++ J))
   rw [List.append_assoc]; exact N'
  ·show Apart ((loc ++ C.fr) ++ own) J
   rw [List.append_assoc]; exact S.apart
  ·obtain ⟨h1, c, o, h2, h3, h4⟩ := hM x v hx
   exact .cell c o true h1 h2 (mR (mR (hcs _ h3))) h4
  ·exact fun _ => absurd (show scope.names.lookup x = some .cell from hx) (hx0 x)
 refine wpAny_mono ((hbody C' rfl rfl (sb2 rfl hD') (sb2 rfl hU') hn rfl).go ok' { s with heap := h₁, toks := _ } _ _ S') (fun v s' p => ?_) fun e s' p => ?_
 ·refine Post.elim p fun h' tk' M' o' J' m' loc' S'' q => ?_
  obtain ⟨sub, mk⟩ := leave_ok (C' := C') S rfl S''
  exact ⟨L', m', St.all C o' J' loc, S''.fr, fun p hp => S''.news p (sub p hp), fun F'' N'' => ⟨h', tk', M, o', J', m, loc, rfl, mk F'' N'', rfl, q⟩⟩
 ·obtain ⟨h', tk', M', o', J', rfl, ⟨ea, tr, B, m', loc', rfl, x⟩, q⟩ := p
  refine x_leave (s := { s with heap := h', toks := tk' }) ok'.stack ok'.fl x.exc fun h₂ e₂ u₂ => ?_
  exact ⟨h₂, tk', M, o', J', rfl, ⟨ea, true, B, m, loc, rfl, leave_x (C' := C') ok S rfl rfl FG x e₂ u₂⟩, rfl, q⟩
section
variable {prog : Program} {w : World} {A : Around} {E : Value → Shared → Prop} {s : Shared}
theorem x_adjust (k n : Nat) (h : k ≤ n) : Builtin.Slice.sliceAdjust none (some (k : Int)) 1 (n : Int) = (0, (k : Int)) := by
 unfold Builtin.Slice.sliceAdjust
 have h1 : ¬ ((1 : Int) < 0) := by decide
 have h2 : ¬ ((k : Int) < 0) := Int.not_lt.mpr (Int.natCast_nonneg k)
 simp only [h1, h2, if_false]
 congr 1
 exact Int.min_eq_left (Int.ofNat_le.mpr h)
theorem x_places (k : Nat) : Builtin.Slice.slicePlaces 0 (k : Int) 1 = k := by
 unfold Builtin.Slice.slicePlaces
 have h1 : (1 : Int) > 0 := by omega
 simp only [h1, if_true, Int.ediv_one]
 split <;> omega
theorem x_applied {sl : Addr} {k : Nat} {Q : Int × Int × Nat → Shared → Prop} (hs : s.heap.IsSliceOf sl .none (.int k u) .none) (ha : k ≤ n) (h : Q (0, 1, k) s) : wpAny (model prog w) A (Builtin.Slice.sliceApplied (.ref sl) (pure (n : Int))) Q E s := by
 obtain ⟨os, hos, hcs, hds⟩ := id hs
 unfold Builtin.Slice.sliceApplied Builtin.Slice.sliceFields
 refine wpAny_bind (wpAny_bind (wpAny_field hos hds (x := .none) rfl (wpAny_bind (wpAny_field hos hds (x := .int k u) rfl (wpAny_bind (wpAny_field hos hds (x := .none) rfl (wpAny_pure ?_)))))))
 refine wpAny_bind (slicePart_none ?_)
 show wpAny _ _ (if ((1 : Int) == 0) = true then _ else _) _ _ s
 rw [if_neg (by decide)]
 refine wpAny_bind (slicePart_none (wpAny_bind (slicePart_int (wpAny_bind (wpAny_pure ?_)))))
 show wpAny _ _ (match Builtin.Slice.sliceAdjust none (some (k : Int)) 1 (n : Int) with | (lo, hi) => pure (lo, (1 : Int), Builtin.Slice.slicePlaces lo hi 1)) _ _ s
 rw [x_adjust k n ha]
 show wpAny _ _ (pure ((0 : Int), (1 : Int), Builtin.Slice.slicePlaces 0 (k : Int) 1)) _ _ s
 rw [x_places]
 exact wpAny_pure h
theorem x_pick (xs : Array Value) (k : Nat) (h : k ≤ xs.size) : ((List.range k).filterMap fun (i : Nat) => xs[((0 : Int) + (i : Int) * 1).toNat]?).toArray = (xs.toList.take k).toArray := by
 congr 1
 have e : (fun (i : Nat) => xs[((0 : Int) + (i : Int) * 1).toNat]?) = fun i => xs.toList[i]? := by
  funext i
  have : ((0 : Int) + (i : Int) * 1).toNat = i := by rw [Int.mul_one, Int.zero_add, Int.toNat_natCast]
  rw [this]; simp
 rw [e]
 have hk : k ≤ xs.toList.length := by simpa using h
 generalize xs.toList = l at hk
 induction k with
 | zero => rfl
 | succ k ih =>
  rw [List.range_succ, List.filterMap_append, ih (Nat.le_of_succ_le h) (Nat.le_of_succ_le hk), List.take_add_one]
  congr 1
theorem x_tuple_to {t sl : Addr} {items : Array Value} {k : Nat} {Q : Value → Shared → Prop} (ht : IsTup s.heap t items) (hs : s.heap.IsSliceOf sl .none (.int k u) .none) (h1 : k < items.size) (h : Q (.ref s.heap.objs.size) { s with heap := s.heap.push { cls := .type "tuple", data := .seq (items.toList.take k).toArray } })
  (hsz : items.size ≤ 1000) : wpAny (model prog w) A (getItem (.ref t) (.ref sl)) Q E s := by
 have hdrop : sizeOk (.seq (items.toList.take k).toArray) := by
  show (items.toList.take k).toArray.size ≤ sizeLine
  rw [List.size_toArray, List.length_take, Array.length_toList, sizeLine_eq]
  exact mn3 hsz rfl
 obtain ⟨os, hos, hcs, hds⟩ := id hs
 have hTs : s.TypeIs (.ref sl) "slice" := ⟨os, hos, hcs⟩
 unfold getItem
 try with_reducible refine wpAny_holding ?_
 first | refine wpAny_bind (wpAny_pure ?_) | skip
 refine wpAny_bind (wpAny_sequenceKey ht.typeIs (by decide) ?_)
 refine wpAny_bind (wpAny_callSpecial?_slot (name := Str.ofString "__getitem__") ht.typeIs slot_tuple_getitem
  (wpAny_call_entry slot_tuple_getitem ht.typeIs entry_tuple_getitem ?_ (args_tuple_getitem _ _)))
 show wpAny _ _ (Builtin.Tuple.tupleItemsOf (.ref t) >>= _) _ _ s
 refine wpAny_bind (tupleItemsOf_ ht ?_)
 refine wpAny_bind (wpAny_typeOf hTs ?_)
 rw [if_pos (by decide)]
 refine wpAny_bind (x_applied hs (Nat.le_of_lt h1) ?_)
 have hno : ¬ (((0 : Int) == 0 && (1 : Int) == 1 && k == items.size) = true) := by
  have : (k == items.size) = false := by rw [beq_eq_false_iff_ne]; omega
  rw [this]; simp
 show wpAny _ _ (if ((0 : Int) == 0 && (1 : Int) == 1 && k == items.size) = true then _ else _) _ _ s
 rw [if_neg hno, x_pick items k (Nat.le_of_lt h1)]
 first
  | exact wpAny_bind (m := Builtin.Tuple.tupleExact _) (wpAny_newObj_type (wpAny_pure ⟨_, rfl, wpAny_pure h⟩) hdrop)
  | exact wpAny_bind (m := Builtin.Tuple.tupleExact _) (wpAny_newObj_type (wpAny_bind (wpAny_pure (wpAny_pure ⟨_, rfl, wpAny_pure h⟩))) hdrop)
  | exact wpAny_bind (wpAny_bind (m := Builtin.Tuple.tupleExact _) (wpAny_newObj_type (wpAny_pure (wpAny_pure ⟨_, rfl, wpAny_pure h⟩)) hdrop))
  | exact wpAny_bind (wpAny_bind (m := Builtin.Tuple.tupleExact _) (wpAny_newObj_type (wpAny_pure ⟨_, rfl, wpAny_pure h⟩) hdrop))
end
section
variable {X : XP} {C : Cx} {Q : QV} {J own : Led} {M : Loc}
theorem g_tup_to {vs : List Value} {dd : Option Addr} {k : Nat} {t : Tok} (hK : (Kf C.w.params).lookup D = some ⟨.type "tuple", dd, .seq vs.toArray c, sl⟩) (hI : (I, sliceObj .none (.int k t)) ∈ J) (hk : k < vs.length) (hz : vs.length ≤ 1000) (h : ∀ D', Q (.ref D') M own ((D', tup (vs.take k)) :: J))
  (hs : autoParam (subscripted slice false (.ref D) (.ref I) = operate [.ref I, .ref D] (getItem (.ref D) (.ref I))) zr) (hg : autoParam (∀ r, letTemporaryGo value (.ref D) r = pure ()) zr) : G C (subscriptTail value slice (.ref D) (.ref I)) M own J X Q := .mk fun ok s m loc S => by
 have hl := tupK (S.frag ok) hK
 have hsl := (S.news _ (mem_all_ice hI)).1
 exact subscriptTail_ops hl.typeIs slot_tuple_getitem.lookup (x_tuple_to hl ⟨_, hsl, rfl, rfl⟩ (by simpa using hk) (Post.mk' (tk := s.toks) (S.pushIce rfl) (by simpa using h _)) (by simpa using hz)) hs hg
theorem g_item_tupK {vs : List Value} {dd : Option Addr} {k : Int} {x : Value} (hK : (Kf C.w.params).lookup D = some ⟨.type "tuple", dd, .seq vs.toArray c, sl⟩) (hlo : -(2 ^ 63) ≤ k) (hhi : k < 2 ^ 63) (hj : seqIndex? k vs.length = some j) (hx : vs[j]? = some x) (h : Q x M own J)
  (hs : autoParam (subscripted slice false (.ref D) (.int k u) = operate [.ref D, .int k u] (getItem (.ref D) (.int k u))) zr) : G C (subscriptTail value slice (.ref D) (.int k u)) M own J X Q := .mk fun ok s m loc S =>
 item_tupleT (tupK (S.frag ok) hK) hlo hhi hj hx (Post.of S h) hs
theorem g_list_tup {vs : List Value} (hp : (D, ({ cls := .type "tuple", data := .seq vs.toArray c } : Obj)) ∈ J) (hz : vs.length ≤ sizeLine) (h : ∀ D' c', Q (.ref D') M ((D', listOf vs.toArray c') :: own) J) : G C (call (.type "list") [.ref D]) M own J X Q := .mk fun ok s m loc S =>
 kup_listOfT S.fr S.news (mem_all_ice hp) (by simp) (fun D' c' h' F' N' lt => Post.mk' (tk := s.toks) (S.mine F' N' lt) (h D' c')) (by simpa using hz)
theorem g_int_int {n : Int} (h : Q (.int n u) M own J) : G C (call (.type "int") [.int n u]) M own J X Q := .mk fun _ _ _ _ S => call_int_int (Post.of S h)
theorem g_abs {a : Int} {t : Tok} (h : ∀ u, Q (.int (if a < 0 then -a else a) u) M own J) : G C (call (.builtin "abs") [.int a t]) M own J X Q := .mk fun _ _ _ _ S => call_abs_int fun u _ => Post.mk' S (h u)
theorem g_pow {a n : Int} {t : Tok} (hn : 0 ≤ n) (hn2 : n ≤ 1000000) (ha : a.natAbs < 2 ^ 64) (h : ∀ t, Q (.int (a ^ n.toNat) t) M own J) : G C (binaryOp .Pow (.int a t) (.int n u)) M own J X Q := .mk fun _ _ _ _ S => pow_int_small hn hn2 ha (Post.mk' S (h _))
end
section
variable {X : XP} {C : Cx} {J own : Led} {M : Loc}
theorem g_setlist (l1 : Led) {l2 : Led} {vs : List Value} {k : Int} {t : Tok} {Q : Unit → Loc → Led → Led → Prop} (h0 : 0 ≤ k) (hfit : k < 2 ^ 63) (hk : k < vs.length) (h : Q () M (l1 ++ (D, listOf (vs.set k.toNat v).toArray n) :: l2) J) :
  G C (setItem (.ref D) (.int k t) v) M (l1 ++ (D, listOf vs.toArray n) :: l2) J X Q := .mk fun ok s m loc S => by
 have z := S.news (D, listOf vs.toArray n) (pullJ.mem_iff.mpr (.head _))
 refine ki_setAt z.1 h0 hfit (by simpa using hk) ?_
 exact Post.mk' (tk := s.toks) (S.put (o' := listOf (vs.set k.toNat v).toArray n) (Heap.SameBut.update s.heap D (Obj.mapSeq (·.setIfInBounds k.toNat v))) ((Heap.get?_update_self _ z.1 rfl).trans (by simp [Obj.mapSeq, W.listOf]))) h
noncomputable abbrev SwapK (C : Cx) (names : List Str) (X : XP) (Q : QF) : QV := fun v M o J => ∃ t vs c, v = .ref t ∧ (t, ({ cls := .type "tuple", data := .seq (List.toArray vs) c } : Obj)) ∈ o ++ J ∧ names.length = vs.length ∧ G C (assignInOrder (names.reverse.map fun n => bindName C.env n) vs.reverse) M o J X (StoK Q)
theorem g_asgswap (names : List Str) (hn : C.hn = none) {k : Nat} {tpos : Pos} (h : G C (eval e C.env) M own J X (SwapK C names X Q))
  (hw : swappedStores [.Tuple elts k tpos] e C.env = pure (some names)) (hs : autoParam (swapsWithSole [.Tuple elts k tpos] e pos.line C.env = pure false) zr) : G C (exec (.Assign [.Tuple elts k tpos] e pos) C.env) M own J X Q := .mk fun ok s m loc S => by
 refine Assign_Tuple_swapped (h.use ok S rfl fun v s' p => ?_) hs hw
 refine Post.elim p fun h1 tk M' o' J' m' loc' S' hqz => ?_
 obtain ⟨t, vs, c, rfl, ht, hl, g⟩ := hqz
 refine unpackItemsN_ (items := vs.toArray) S'.fr S'.news (News.isTup S'.news (mR (mR ht))) (ok.hd0 hn) (by simpa using hl) fun h' F' N' => ?_
 have := g.go ok { s with heap := h', toks := tk } m' loc' (S'.same F' N')
 exact wpAny_mono this (fun _ _ p => Post.rebase p) fun _ _ p => PostX.rebase p
theorem g_bindname {Q : Unit → Loc → Led → Led → Prop} (h : G C (storeName C.env x v) M own J X Q) : G C (bindName C.env x v) M own J X Q := .mk fun ok s m loc S => bindName_ (h.go ok s m loc S)
theorem swap_at {C : Cx} (hs : C.env.scope = SC) {ts : List Expr} {r : Option (List Str)} (h : ∀ env : Env, swappedStores ts e { env with scope := SC } = pure r) : swappedStores ts e C.env = pure r := by
 have q : C.env = { C.env with scope := SC } := by rw [← hs]
 rw [q]; exact h C.env
end
section
variable {X : XP} {C : Cx} {J own : Led} {M : Loc}
theorem g_truthy_list {vs : List Value} {Q : QB} (hp : (D, listOf vs.toArray n) ∈ own ++ J) (hz : vs.length ≤ 1000) (h : Q (!vs.isEmpty) M own J) : G C (truthy (.ref D)) M own J X Q := .mk fun ok s m loc S =>
 wpAny_truthy_list (News.isList S.news (mR (mR hp))) (by simp; omega) (by simpa using Post.mk' S h)
end
section
variable {X : XP} {C : Cx} {J own : Led} {M : Loc} {target : Expr} {body : List Stmt} {Q : QF}
theorem g_enum {Q : QV} {l : Addr} {vs : List Value} (hp : (l, listOf vs.toArray n) ∈ own ++ J) (h : ∀ e it oe oi, oe = ({ cls := .type "enumerate", dict := none, data := .fields #[.none, .bool false, .ref it, rawInt 0, .none, .none], slots := #[] } : Obj) → oi.cls = .type "list_iterator" → oi.data = .fields #[.ref l, .int 0 0] → Q (.ref e) M ((e, oe) :: (it, oi) :: own) J) :
  G C (call (.type "enumerate") [.ref l]) M own J X Q := .mk fun ok s m loc S => by
 refine call_enumerate_1 (S.news _ (mR (mR hp))).1 fun h' he hit hsz hk => ?_
 obtain ⟨oi, hoi, hc, hd⟩ := hit
 have n1 : C.h₀.get? s.heap.objs.size = none := next_is_new S.fr
 have n2 : C.h₀.get? (s.heap.objs.size + 1) = none := Heap.get?_none_of_le (Nat.le_trans S.fr.above (Nat.le_trans (Nat.le_of_lt S.fr.ns.lt) (Nat.le_succ _)))
 have F' := S.fr.keeps hk
 have S1 : St C M ((s.heap.objs.size, oi) :: own) J h' m loc := S.mine F' (fun p hp => by
  rcases List.mem_cons.mp hp with rfl | hp
  ·exact ⟨hoi, (Nat.ne_of_lt S.fr.ns.lt).symm, n1⟩
  ·exact ⟨hk _ _ (S.news p hp).1, (S.news p hp).2⟩) fun p hp => Heap.lt_size (S.news p hp).1
 have S2 : St C M ((s.heap.objs.size + 1, _) :: (s.heap.objs.size, oi) :: own) J h' m loc := S1.mine F' (fun p hp => by
  rcases List.mem_cons.mp hp with rfl | hp
  ·exact ⟨he, (Nat.ne_of_lt (Nat.lt_succ_of_lt S.fr.ns.lt)).symm, n2⟩
  ·exact S1.news p hp) fun p hp => (List.mem_cons.mp ((pullJ (l1 := [])).mem_iff.mp hp)).elim (fun e => e ▸ Nat.lt_succ_self _) fun q => Nat.lt_succ_of_lt (Heap.lt_size (S.news p q).1)
 exact Post.mk' (tk := s.toks) S2 (h _ _ _ oi rfl hc hd)
theorem forG_enum (hn : C.hn = none) (hfe : C.env = C.fe) {e l : Addr} {oe oi : Obj} {vs : List Value} (hl : (l, listOf vs.toArray n) ∈ J) (hoe : oe = ({ cls := .type "enumerate", dict := none, data := .fields #[.none, .bool false, .ref it, rawInt 0, .none, .none], slots := #[] } : Obj)) (hc : oi.cls = .type "list_iterator") (hd : oi.data = .fields #[.ref l, .int 0 0])
  {k : Nat} (hlen : ∀ env, (assignEach elts env).length = 2) (hstar : ∀ env, (assignEach elts env).findIdx? (·.1) = none)
  (Inv : Nat → Loc → Led → Led → Prop) (hsub : ∀ i M' o' J', Inv i M' o' J' → ∀ p ∈ J, p ∈ J') (i0 : Inv 0 M own J)
  (turn : ∀ C' i v t M' o' J' (K : QF), Same C C' → vs[i]? = some v → Inv i M' o' J' → (∀ f M o J, TurnQ Q (Inv (i + 1)) f M o J → K f M o J) → G C' (assignInOrder ((assignEach elts C'.env).map (·.2)) [.int i t, v]) M' o' J' X (BodyK C' body X K))
  (done : ∀ M' o' J', Inv vs.length M' o' J' → Q .next M' o' J') : ForG C (.Tuple elts k pos) body (.ref e) M ((e, oe) :: (it, oi) :: own) J X Q := fun ok s m loc S => by
 subst hoe
 obtain ⟨S1, n1⟩ := S.drop
 obtain ⟨S2, n2⟩ := S1.drop
 have he := S.news _ ((pullJ (l1 := [])).mem_iff.mpr (.head _))
 have hi := S1.news _ ((pullJ (l1 := [])).mem_iff.mpr (.head _))
 have hei : e ≠ it := fun q => n1 (it, oi) ((pullJ (l1 := [])).mem_iff.mpr (.head _)) q.symm
 have W := WalksT.enumerate (prog := prog) (w := C.w) (A := C.A) (ok.hd0 hn) e it l hei (n1 _ (mem_all_ice hl)) (n2 _ (mem_all_ice hl)) vs.toArray
 refine wpAny_pyIter_enum he.1 (g_loopW (h := s.heap) (tk := s.toks) (B := J) (P := fun i v h => ∃ T, ∃ t, ∃ x, v = .ref T ∧ vs[i]? = some x ∧ h.IsTuple T #[.int i t, x])
  (.mk _ [e, it] _ (fun i v h => ∃ T, ∃ t, ∃ x, (v = .ref T ∧ vs[i]? = some x ∧ h.IsTuple T #[.int i t, x]) ∧ ((∃ x, IsEnumOut h e it ((i : Int) + 1) x T) ∧ (h.IsListIter it l (i + 1) ∧ (h.IsList l vs.toArray ∧ (T ≠ e ∧ T ≠ it))))) W.frame
   (fun i s Q E hi st hQ => W.item i s Q E (by simpa using hi) st fun T vals h' tk hP _ hT hm keep => ?_) (fun i v s Q E hm hQ => ?_) (fun s Q E st hQ => W.done s Q E (by simpa using st) hQ)
   (fun i h x => ?_) (by simp [hei]) S2 ⟨⟨.none, he.1⟩, ⟨oi, hi.1, hc, hd⟩, News.isList S.news (mem_all_ice hl)⟩ (fun p hp hm => ?_) (fun b hb => ?_) fun b hb hw => ?_) ok hfe Inv (fun i M' o' J' inv p hp => mR (hsub _ _ _ _ inv p hp)) i0 ?_ done)
 ·obtain ⟨t, x, hx, rfl⟩ := hP
  exact hQ _ h' tk ⟨T, t, x, ⟨rfl, by simpa using hx, hT⟩, hm⟩ keep
 ·obtain ⟨T, t, x, ⟨rfl, hx, hT⟩, hm⟩ := hm
  refine W.go elts k pos i T s Q E hm fun h' st keep => hQ h' st ⟨T, t, x, rfl, hx, ?_⟩ keep
  obtain ⟨o, ho, r⟩ := hT
  exact ⟨o, keep _ _ (W.apart i T _ hm) ho, r⟩
 ·obtain ⟨⟨old, ho⟩, ⟨o2, ho2, hc2, hd2⟩, _⟩ := x
  refine ⟨[(e, ({ cls := .type "enumerate", dict := none, data := .fields #[.none, .bool false, .ref it, rawInt i, .none, old], slots := #[] } : Obj)), (it, o2)], rfl, fun p hp => ?_⟩
  rcases List.mem_cons.mp hp with rfl | hp
  ·exact ⟨ho, fun v e => nomatch e⟩
  ·rw [List.mem_singleton.mp hp]; exact ⟨ho2, fun v e => nomatch hd2.symm.trans e⟩
 ·exact (List.mem_cons.mp hm).elim (n1 p ((pullJ (l1 := [])).mem_iff.mpr (.tail _ hp))) fun q => n2 p hp (List.mem_singleton.mp q)
 ·rcases List.mem_cons.mp hb with rfl | q
  ·exact he.2
  ·rw [List.mem_singleton.mp q]; exact hi.2
 ·have hbl : b = l := List.mem_singleton.mp ((List.mem_cons.mp ((List.mem_cons.mp hb).resolve_left fun q => hw (q ▸ .head _))).resolve_left fun q => hw (q ▸ .tail _ (.head _)))
  rw [hbl]
  exact ⟨_, .inr (.inr hl)⟩
 ·rintro C' i v M' o' J' K' hsm ok' hi inv hK s₂ m₂ loc₂ S₂ ⟨T, t, x, rfl, hx, hT⟩
  obtain ⟨oT, hoT, hcT, nT, hdT⟩ := hT
  refine unpackN_ (items := #[.int i t, x]) S₂.fr S₂.news ⟨oT, hoT, hcT, nT, hdT⟩ (ok'.hd0 (hsm.hn.trans hn)) (hlen _) (hstar _) fun h' F' N' => ?_
  exact wpAny_mono ((turn C' i x t M' o' J' K' hsm hx inv hK).go ok' { s₂ with heap := h' } m₂ loc₂ (S₂.same F' N')) (fun _ _ p => Post.rebase p) fun _ _ p => PostX.rebase p
end
section
variable {X : XP} {C : Cx} {Q : QV} {J own : Led} {M : Loc}
noncomputable abbrev DictKI (w : World) (d : Addr) (o : Obj) (Q : QV) : List (Value × Value) → Loc → Led → Led → Prop := fun vs M own' J => ∃ l1 l2, own' = l1 ++ (d, o) :: l2 ∧ allIntKeys vs = true ∧ ((intKeyPairs vs).map (·.1)).Nodup ∧ ∀ o', o'.IsDictOf (PySem.intKind prog w) (intKeyPairs vs) → Q (.ref d) M (l1 ++ (d, o') :: l2) J
theorem g_dictI {w : World} (hw : C.w = w) {keys : List (Option Expr)} {values : List Expr} (hall : keys.all (·.isSome) = true) (hl : keys.length = values.length) (h0 : keys ≠ []) (hlen : keys.length ≤ 15)
  (h : ∀ d o, (d == sysModules) = false → G C (evalPairs (pairTrees keys values C.env pos)) M ((d, o) :: own) J X (DictKI w d o Q)) : G C (eval (.Dict keys values pos) C.env) M own J X Q := .mk fun ok s m loc S => by
 subst hw
 refine kdn_eval (knd := PySem.intKind prog C.w) S.fr S.news ok.top.nolimit hall hl h0 hlen fun d h' o F' N' lt lo hd => ?_
 have S1 := S.mine F' N' lt
 refine (h d o lo).use ok S1 rfl fun vs s' p => ?_
 refine Post.elim p fun h1 tk M' o' J' m' loc' S' hqz => ?_
 obtain ⟨l1, l2, rfl, hk, hn, q⟩ := hqz
 refine kdn_made_int S'.fr S'.news (St.updF (l1 := l1) S') hd hk hn fun h2 o2 F2 N2 hd2 => ?_
 exact ⟨h2, _, _, _, _, _, _, rfl, St.upd (l1 := l1) S' F2 N2, q o2 hd2⟩
noncomputable abbrev SlU2 (l : Value) (Q : QV) : QV := fun u M o J => ∀ I, Q (.ref I) M o ((I, sliceObj l u) :: J)
noncomputable abbrev SlL2 (C : Cx) (up : Expr) (X : XP) (Q : QV) : QV := fun l M o J => G C (eval up C.env) M o J X (SlU2 l Q)
theorem g_slice_ft {lo up : Expr} (h : G C (eval lo C.env) M own J X (SlL2 C up X Q)) : G C (eval (.Slice (some lo) (some up) none p) C.env) M own J X Q := .mk fun ok s m loc S => by
 refine wpAny_Slice ?_
 rw [evalPart_some]
 refine h.use ok S rfl fun l s' p => ?_
 rw [evalPart_some]
 refine Post.go p ok (fun _ _ _ q => q) fun u s'' p => ?_
 refine Post.elim p fun h1 tk M' o' J' m' loc' S' q => ?_
 rw [evalPart_none]
 refine wpAny_pure ?_
 exact ⟨_, tk, M', o', _, m', loc', rfl, (S'.pushIce rfl), q _⟩
theorem g_bytes_slice {b : Array UInt8} {t u1 u2 : Tok} {lo hi : Int} (hI : (I, sliceObj (.int lo u1) (.int hi u2)) ∈ J) (hz : (KBy.picked b (some lo) (some hi)).size ≤ 1000) (h : ∀ t, Q (.bytes (KBy.picked b (some lo) (some hi)) t) M own J)
  (hs : autoParam (subscripted slice false (.bytes b t) (.ref I) = operate [.ref I, .bytes b t] (getItem (.bytes b t) (.ref I))) zr)
  (ht : autoParam (∀ r, letTemporaryGo value (.bytes b t) r = pure ()) zr) : G C (subscriptTail value slice (.bytes b t) (.ref I)) M own J X Q := .mk fun ok s m loc S => by
 have hsl := (S.news _ (mem_all_ice hI)).1
 exact tail_of_ItemOn ⟨"bytes", _, FB.slot_bytes_getitem.lookup, typeIs_bytes _ _ _, getItem_meets (typeIs_bytes _ _ _) (by decide) FB.slot_bytes_getitem FB.entry_bytes_getitem (FB.args_bytes_getitem_2 _ _) (PySem.W.KBc.meets_slice2 b t _ (.int lo u1) (.int hi u2))
  ⟨⟨_, hsl, rfl, rfl⟩, by rw [sizeLine_eq]; omega, fun t' k => Post.mk' S (h t')⟩⟩ hs ht
theorem g_isi_si {t : Tok} (h : Q (.bool false) M own J) : G C (call (.builtin "isinstance") [.str x t, .type "int"]) M own J X Q := .mk fun _ _ _ _ S => IsiPair.str_int (Post.mk' S h)
theorem g_isi_ll {vs : List Value} (hp : (D, listOf vs.toArray n) ∈ own ++ J) (h : Q (.bool true) M own J) : G C (call (.builtin "isinstance") [.ref D, .type "list"]) M own J X Q := .mk fun ok s m loc S =>
 IsiPair.list_list (S.news _ (mR (mR hp))).1 rfl (Post.of S h)
end
section
variable {X : XP} {C : Cx} {J own : Led} {M : Loc}
noncomputable abbrev ASub2 (C : Cx) (o v : Value) (X : XP) (Q : Unit → Loc → Led → Led → Prop) : QV := fun i M own J => G C (setItem o i v) M own J X Q
noncomputable abbrev ASub1 (C : Cx) (ie : Expr) (v : Value) (X : XP) (Q : Unit → Loc → Led → Led → Prop) : QV := fun o M own J => G C (eval ie C.env) M own J X (ASub2 C o v X Q)
theorem g_assign_sub {oe ie : Expr} {Q : Unit → Loc → Led → Led → Prop} (h : G C (eval oe C.env) M own J X (ASub1 C ie v X Q)) : G C (assign (.Subscript oe ie p) C.env v) M own J X Q := .mk fun ok s m loc S => by
 rw [arm_assign_Subscript]
 refine wpAny_bind (wpAny_holding (h.use ok S rfl fun ov s' p => ?_))
 refine wpAny_bind (wpAny_holding (Post.go p ok (fun _ _ _ q => q) fun iv s'' p => ?_))
 refine wpAny_bind (wpAny_standAt (wpAny_bind (wpAny_holding (Post.go p ok (fun _ _ _ q => q) fun u s3 p3 => ?_))))
 exact wpAny_release p3
theorem St.swap {h : Heap} {l2 : Led} {p q : Addr × Obj} (S : St C M (l1 ++ p :: q :: l2) J h m loc) : St C M (l1 ++ q :: p :: l2) J h m loc := by
 have pm : (l1 ++ q :: p :: l2).Perm (l1 ++ p :: q :: l2) := List.Perm.append_left _ (.swap _ _ _)
 refine ⟨S.fr, fun x hx => S.news x ?_, ⟨?_, fun x hx y hy => S.apart.2 x ?_ y hy⟩, S.vars⟩
 ·rw [List.mem_append, List.mem_append, List.mem_append] at hx ⊢
  rcases hx with a | a | a | a
  ·exact .inl a
  ·exact .inr (.inl a)
  ·exact .inr (.inr (.inl (pm.mem_iff.mp a)))
  ·exact .inr (.inr (.inr a))
 ·have pm2 : (loc ++ (C.fr ++ (l1 ++ q :: p :: l2))).Perm (loc ++ (C.fr ++ (l1 ++ p :: q :: l2))) := (pm.append_left _).append_left _
  exact (pm2.map _).nodup_iff.mpr S.apart.1
 ·rw [List.mem_append, List.mem_append] at hx ⊢
  rcases hx with a | a | a
  ·exact .inl a
  ·exact .inr (.inl a)
  ·exact .inr (.inr (pm.mem_iff.mp a))
theorem g_swap {c : Sem α} {Q : α → Loc → Led → Led → Prop} (l1 : Led) {l2 : Led} {p q : Addr × Obj} (g : G C c M (l1 ++ q :: p :: l2) J X Q) : G C c M (l1 ++ p :: q :: l2) J X Q := .mk fun ok s m loc S => g.go ok s m loc S.swap
end
section
variable {X : XP} {C : Cx} {Q : QV} {J own : Led} {M : Loc} {w : World} {K : Type} [DecidableEq K] {knd : KeyKind prog w K}
theorem g_ne_dict (hw : C.w = w) {b : Addr} {ob : Obj} {ka kb : List (K × Value)} (ha : (a, oa) ∈ own ++ J) (da : oa.IsDictOf knd ka) (la : (a == sysModules) = false) (hb : (b, ob) ∈ own ++ J) (db : ob.IsDictOf knd kb) (lb : (b == sysModules) = false) {r : Bool} (hits : ∀ A s, KeqHits A s kb ka r) (h : Q (.bool (!(ka.length == kb.length && r))) M own J) :
  G C (compareOp .NotEq (.ref a) (.ref b)) M own J X Q := .mk fun ok s m loc S => by
 subst hw
 have Da := kda_dict S.news (mR (mR ha)) da
 have Db := kda_dict S.news (mR (mR hb)) db
 exact keq_ne (r := r) la lb Da Db (by have := ok.uni; omega) (fun _ => hits _ _) (Post.of S h)
theorem g_ne_bool {a b : Bool} (h : Q (.bool (a != b)) M own J) : G C (compareOp .NotEq (.bool a) (.bool b)) M own J X Q := .mk fun ok s m loc S => ne_bool (Post.of S h)
theorem g_isnot_bool {a b : Bool} (h : Q (.bool (a != b)) M own J) : G C (compareOp .IsNot (.bool a) (.bool b)) M own J X Q := .mk fun ok s m loc S => isnot_bool (Post.of S h)
theorem g_item_str {t : Tok} {i : Int} (hr : (decide (i < -(2 ^ 63 : Int)) || decide (i ≥ 2 ^ 63)) = false) (hc : (seqIndex? i x.length).bind (x.cps[·]?) = some c) (h : ∀ t, Q (.str ⟨#[c]⟩ t) M own J)
  (hs : autoParam (subscripted slice false (.str x t) (.int i u) = operate [.str x t, .int i u] (getItem (.str x t) (.int i u))) zr) (hg : autoParam (∀ r, letTemporaryGo value (.str x t) r = pure ()) zr) : G C (subscriptTail value slice (.str x t) (.int i u)) M own J X Q := .mk fun ok s m loc S => by
 refine subscriptTail_ops (rfl) PySem.F.slot_str_getitem.lookup ?_ hs hg
 exact PyProof.Rows.getItem_str hr hc (Post.mk' S (h _))
theorem g_swapped {c : Sem Value} (g : G C c M own J X (fun v M' o' J' => ∃ l1 p q l2, o' = l1 ++ p :: q :: l2 ∧ Q v M' (l1 ++ q :: p :: l2) J')) : G C c M own J X Q := .mk fun ok s m loc S =>
 wpAny_mono (g.go ok s m loc S) (by
  rintro _ _ ⟨a1, a2, a3, a4, a5, a6, a7, e, S', l1, p, q, l2, rfl, h⟩
  exact ⟨a1, a2, a3, _, a5, a6, a7, e, S'.swap, h⟩) fun _ _ h => h
theorem g_ledg {c : Sem α} {Qa : α → Loc → Led → Led → Prop} (e : own = own') (g : G C c M own' J X Qa) : G C c M own J X Qa := e ▸ g
end
theorem not_t {b : Bool} (h : (!b) = true) : b = false := by
 cases b
 ·rfl
 ·cases h
noncomputable def badName (x : Str) : Bool := x == ("__debug__" : Str) || x == ("__classdict__" : Str)
noncomputable def ev (C : Cx) (X : XP) (e : Expr) (Q : QV) (M : Loc) (o J : Led) : Prop := match e with
 | .Name x p => match M.lookup x with
  | some v => match badName x with
   | false => Q v M o J
   | true => G C (eval (.Name x p) C.env) M o J X Q
  | none => G C (eval (.Name x p) C.env) M o J X Q
 | .Constant c k p => match c with
  | .int i => ∀ t, Q (.int i t) M o J
  | .str s => ∀ t, Q (.str s t) M o J
  | .bool b => Q (.bool b) M o J
  | .none => Q .none M o J
  | c => G C (eval (.Constant c k p) C.env) M o J X Q
 | e => G C (eval e C.env) M o J X Q
section
variable {X : XP} {C : Cx} {Q : QV} {J own : Led} {M : Loc}
theorem ev_ok (h : ev C X e Q M own J) : G C (eval e C.env) M own J X Q := by
 cases e with
 | Name x p =>
  revert h
  show (match M.lookup x with | some v => _ | none => _) → _
  cases hM : M.lookup x with
  | none => exact fun h => h
  | some v =>
   show (match badName x with | false => _ | true => _) → _
   cases hb : badName x with
   | true => exact fun h => h
   | false => exact fun h => g_local hM h (Bool.or_eq_false_iff.mp hb).1 (Bool.or_eq_false_iff.mp hb).2
 | Constant c k p => cases c with
  | int i => exact g_int h
  | str s => exact g_str h
  | bool b => exact g_bool h
  | none => exact g_none h
  | _ => exact h
 | _ => exact h
noncomputable def noStars (es : List Expr) : Bool := es.all kdsPlain
theorem star_no {env : Env} (h : noStars (e :: rest) = true) : starEach (e :: rest) env = (false, eval e env) :: starEach rest env := by
 rw [kds_star _ h, kds_star _ (Bool.and_eq_true_iff.mp h).2]
 exact rfl
theorem stars_no {env : Env} {es : List Expr} (h : noStars es = true) : (backTo pos (starEach es env)).any (·.1) = false := by
 rw [kds_star _ h]
 show List.any (List.map _ (List.map _ _)) _ = false
 rw [List.any_map, List.any_map]
 exact List.any_eq_false.mpr fun _ _ => Bool.false_ne_true
noncomputable def wA (C : Cx) (X : XP) (pos : Pos) : List Expr → QL → Loc → Led → Led → Prop
 | [], Q => Q []
 | e :: es, Q => fun M o J => match noStars (e :: es) with
  | false => G C (spliced (backTo pos (starEach (e :: es) C.env))) M o J X Q
  | true => ev C X e (fun v => wA C X pos es (ArgC v Q)) M o J
theorem wA_ok {es : List Expr} : ∀ {Q : QL} {M : Loc} {own J : Led}, wA C X pos es Q M own J → G C (spliced (backTo pos (starEach es C.env))) M own J X Q := by
 induction es with
 | nil => exact fun h => g_args0 h
 | cons e es ih =>
  intro Q M own J
  show (match noStars (e :: es) with | false => _ | true => _) → _
  cases hs : noStars (e :: es) with
  | false => exact fun h => h
  | true => exact fun h => g_args ((ev_ok h).mono (fun _ _ _ _ q => ih q) fun _ _ _ q => q) (star_no hs)
noncomputable abbrev BinW (C : Cx) (op : Operator) (r : Expr) (X : XP) (Q : QV) : QV := fun a => ev C X r (BinR C op a X Q)
theorem w_bin {l r : Expr} {op : Operator} (h : ev C X l (BinW C op r X Q) M own J) : G C (eval (.BinOp l op r pos) C.env) M own J X Q :=
 g_bin ((ev_ok h).mono (fun _ _ _ _ q => ev_ok q) fun _ _ _ q => q)
theorem w_un {x : Expr} {op : UnaryOp} (h : ev C X x (UnK C op X Q) M own J) : G C (eval (.UnaryOp op x pos) C.env) M own J X Q := g_unary (ev_ok h)
noncomputable abbrev CmpW (C : Cx) (op : CmpOp) (r : Expr) (X : XP) (Q : QV) : QV := fun a => ev C X r (CmpR C op a X Q)
theorem w_cmp {l r : Expr} {op : CmpOp} (hm : behindInMarks op r = false) (h : ev C X l (CmpW C op r X Q) M own J) : G C (eval (.Compare l [op] [r] pos) C.env) M own J X Q :=
 g_cmp ((ev_ok h).mono (fun _ _ _ _ q => ev_ok q) fun _ _ _ q => q) hm
theorem w_tcmp {l r : Expr} {op : CmpOp} {Q : QB} (hm : behindInMarks op r = false) (h : ev C X l (CmpW C op r X (TruK C X Q)) M own J) : G C (isTrue (.Compare l [op] [r] pos) C.env wh) M own J X Q :=
 g_tcmp ((ev_ok h).mono (fun _ _ _ _ q => ev_ok q) fun _ _ _ q => q) hm
noncomputable def plainT (e : Expr) : Bool := (e.ctorIdx.beq 0 || e.ctorIdx.beq 3 || e.ctorIdx.beq 5 || e.ctorIdx.beq 15) == false
noncomputable def plainA (e : Expr) : Bool := Nat.beq e.ctorIdx 16 == false
inductive Cls (e : Expr) : Prop
 | mk : (plainT e = true → ∀ env : Env, isTrue e env (eval e env) = (do let v ← eval e env; standAt e.pos; holding [v] (truthy v))) →
  (plainA e = true → ∀ (n : Str) (pos : Pos) (env : Env), eval (.Attribute e n pos) env = (do
   let o ← eval e env
   standAt pos.atName
   let r ← holding [o] (getAttr o n true)
   letTemporaryGo e o r
   pure r)) → Cls e
theorem cls (e : Expr) : Cls e := by
 cases e <;> first | exact .mk (fun _ _ => rfl) (fun _ _ _ _ => rfl) | exact .mk (fun h => nomatch h) (fun _ _ _ _ => rfl) | exact .mk (fun _ _ => rfl) (fun h => nomatch h)
theorem w_true {Q : QB} (hb : plainT e = true) (h : ev C X e (TruK C X Q) M own J) : G C (isTrue e C.env (eval e C.env)) M own J X Q :=
 g_true (ev_ok h) ((cls e).rec fun a _ => a hb _)
theorem w_attr {n : Str} (hb : plainA e = true) (h : ev C X e (AttrK C n X Q) M own J) : G C (eval (.Attribute e n pos) C.env) M own J X Q :=
 g_attr (ev_ok h) ((cls e).rec fun _ b => b hb _ _ _)
noncomputable abbrev SubW (C : Cx) (value slice : Expr) (X : XP) (Q : QV) : QV := fun o => ev C X slice (SubR C value slice o X Q)
theorem w_sub (h : ev C X value (SubW C value slice X Q) M own J) : G C (eval (.Subscript value slice pos) C.env) M own J X Q :=
 g_sub ((ev_ok h).mono (fun _ _ _ _ q => ev_ok q) fun _ _ _ q => q)
theorem w_tuple {k : Nat} (h : wA C X pos elts (TupK Q) M own J) : G C (eval (.Tuple elts k pos) C.env) M own J X Q := g_tuple (wA_ok h)
theorem w_list (h : wA C X pos elts (ListK Q) M own J) : G C (eval (.List elts pos) C.env) M own J X Q := g_list (wA_ok h)
noncomputable def okArgs (x : Str) (es : List Expr) : Bool := !(x == ("__debug__" : Str)) && noStars es
theorem okArgs_is {es : List Expr} (h : okArgs x es = true) : (x == ("__debug__" : Str)) = false ∧ noStars es = true :=
 (Bool.and_eq_true_iff.mp h).imp not_t id
theorem w_callV {f : Expr} (he : ∀ env, eval (.Call f args [] pos) env = (do callWith pos (← eval f env) [] (backTo pos (starEach args env)) (backToKw pos (keywordEach [] env)))) (ns : noStars args = true) (hk : okCall (Kf C.w.params) v = true)
  (hf : ∀ Q : QV, Q v M own J → G C (eval f C.env) M own J X Q) (h : wA C X pos args (CallV C v X Q) M own J) : G C (eval (.Call f args [] pos) C.env) M own J X Q := by
 cases args with
 | nil => exact g_call0 (hf _ ⟨hk, h⟩) (he _)
 | cons a r =>
  exact g_call (hf _ ⟨hk, wA_ok h⟩) (he _) (star_no ns) (stars_no (Bool.and_eq_true_iff.mp ns).2)
theorem w_callG {v : Addr} (hx : C.env.kindOf x = some .globalImplicit) (e : nsIn (Kf C.w.params) mainGlobals x = some (some (.ref v))) (hk : keepIn (Kf C.w.params) (.ref v) = true) (hb : okArgs x args = true)
  (h : wA C X pos args (CallV C (.ref v) X Q) M own J) : G C (eval (.Call (.Name x p) args [] pos) C.env) M own J X Q :=
 w_callV (fun _ => rfl) (okArgs_is hb).2 (okCall_ref hk) (fun _ q => g_glob hx e q (okArgs_is hb).1) h
theorem w_callB (hx : C.env.kindOf x = some .globalImplicit) (e : nsIn (Kf C.w.params) mainGlobals x = some none) (hv : bootBuiltins x = some v) (hk : okCall (Kf C.w.params) v = true) (hb : okArgs x args = true) (hn : (x == ("__name__" : Str)) = false)
  (h : wA C X pos args (CallV C v X Q) M own J) : G C (eval (.Call (.Name x p) args [] pos) C.env) M own J X Q :=
 w_callV (fun _ => rfl) (okArgs_is hb).2 hk (fun _ q => g_builtin hx e hv q (by simpa using hn) (okArgs_is hb).1) h
theorem w_glob (hx : C.env.kindOf x = some .globalImplicit) (e : nsIn (Kf C.w.params) mainGlobals x = some (some v)) (hd : badName x = false) (h : Q v M own J) : G C (eval (.Name x pos) C.env) M own J X Q :=
 g_glob hx e h (Bool.or_eq_false_iff.mp hd).1
theorem w_builtin (hx : C.env.kindOf x = some .globalImplicit) (e : nsIn (Kf C.w.params) mainGlobals x = some none) (hv : bootBuiltins x = some v) (hd : badName x = false) (hn : (x == ("__name__" : Str)) = false) (h : Q v M own J) : G C (eval (.Name x pos) C.env) M own J X Q :=
 g_builtin hx e hv h (by simpa using hn) (Bool.or_eq_false_iff.mp hd).1
noncomputable def AfterW (C : Cx) (pos : Pos) (args : List Expr) (X : XP) (Q : QV) (fx : Value × List Value) (M : Loc) (own J : Led) : Prop :=
 okMeth (Kf C.w.params) fx.1 = true ∧ wA C X pos args (fun vs M' o' J' => G C (call fx.1 (fx.2 ++ vs)) M' o' J' X Q) M own J
theorem afterW {x : Value} (hk : okMeth (Kf C.w.params) f = true) (h : wA C X pos args (CallM C f x X Q) M own J) : AfterW C pos args X Q (f, [x]) M own J := ⟨hk, h⟩
theorem afterWt (hk : okMeth (Kf C.w.params) f = true) (h : wA C X pos args (CallV C f X Q) M own J) : AfterW C pos args X Q (f, []) M own J := ⟨hk, h⟩
theorem w_mcall {o : Expr} {n : Str} {ap : Pos}
  (he : eval (.Call (.Attribute o n ap) args [] pos) C.env = (do
   let ov ← eval o C.env
   standAt ap.atName
   let (f, first) ← holding [ov] (getMethod ov n pl)
   callWith pos f first (backTo pos (starEach args C.env)) [])) (ns : noStars args = true) (h : ev C X o (MethK C n pl X (AfterW C pos args X Q)) M own J) : G C (eval (.Call (.Attribute o n ap) args [] pos) C.env) M own J X Q := by
 cases args with
 | nil => exact g_mcall0 ((ev_ok h).mono (fun _ _ _ _ q => q.mono (fun _ _ _ _ q => ⟨q.1, by have := q.2; exact this⟩) fun _ _ _ q => q) fun _ _ _ q => q) he
 | cons a r =>
  exact g_mcall ((ev_ok h).mono (fun _ _ _ _ q => q.mono (fun _ _ _ _ q => ⟨q.1, wA_ok q.2⟩) fun _ _ _ q => q) fun _ _ _ q => q) he (star_no ns) (stars_no (Bool.and_eq_true_iff.mp ns).2)
end
section
variable {X : XP} {C : Cx} {Q : QF} {J own : Led} {M : Loc}
noncomputable abbrev AsgN (C : Cx) (x : Str) (rest : List Stmt) (X : XP) (Q : QF) : QV := fun v M o J => G C (execs rest C.env) ((x, v) :: M) o J X Q
theorem w_asg {rest : List Stmt} (hs : swapsWith e (some (.Name x p)) pos.line C.env = pure false) (hk : C.env.kindOf x = some .local) (h : ev C X e (AsgN C x rest X Q) M own J) : G C (execs (.Assign [.Name x p] e pos :: rest) C.env) M own J X Q :=
 g_cons (g_asg ((ev_ok h).mono (fun _ _ _ _ q => g_store hk q) fun _ _ _ q => q) hs)
theorem w_asgtup {k : Nat} {tpos : Pos} {rest : List Stmt} (hs : swapsWithSole [.Tuple elts k tpos] e pos.line C.env = pure false) (hw : swappedStores [.Tuple elts k tpos] e C.env = pure none) (h : ev C X e (AT C (.Tuple elts k tpos) X (NextQ C rest X Q)) M own J) : G C (execs (.Assign [.Tuple elts k tpos] e pos :: rest) C.env) M own J X Q :=
 g_cons (g_asgtup (ev_ok h) hs hw)
noncomputable abbrev AA1W (C : Cx) (e : Expr) (n : Str) (X : XP) (Q : QF) : QV := fun v => ev C X e (AA2 C n v X Q)
theorem w_asgattr {o : Expr} {n : Str} {rest : List Stmt} (hs : swapsWith e (some (.Attribute o n p)) pos.line C.env = pure false) (h : ev C X e (AA1W C o n X (NextQ C rest X Q)) M own J) : G C (execs (.Assign [.Attribute o n p] e pos :: rest) C.env) M own J X Q :=
 g_cons (g_asgattr ((ev_ok h).mono (fun _ _ _ _ q => ev_ok q) fun _ _ _ q => q) hs)
noncomputable abbrev Set2W (C : Cx) (ie : Expr) (v : Value) (X : XP) (Q : QF) : QV := fun o => ev C X ie (Set3 C o v X Q)
noncomputable abbrev Set1W (C : Cx) (oe ie : Expr) (X : XP) (Q : QF) : QV := fun v => ev C X oe (Set2W C ie v X Q)
theorem w_asgsub {oe ie : Expr} {rest : List Stmt} (hs : swapsWith e (some (.Subscript oe ie p)) pos.line C.env = pure false) (h : ev C X e (Set1W C oe ie X (NextQ C rest X Q)) M own J) : G C (execs (.Assign [.Subscript oe ie p] e pos :: rest) C.env) M own J X Q :=
 g_cons (g_asgsub ((ev_ok h).mono (fun _ _ _ _ q => (ev_ok q).mono (fun _ _ _ _ q => ev_ok q) fun _ _ _ q => q) fun _ _ _ q => q) hs)
theorem w_ret {rest : List Stmt} (h : ev C X e (RetK Q) M own J) : G C (execs (.Return (some e) pos :: rest) C.env) M own J X Q := g_cons (g_ret (ev_ok h))
theorem w_ret0 {rest : List Stmt} (h : Q (.ret .none) M own J) : G C (execs (.Return none pos :: rest) C.env) M own J X Q := g_cons (g_ret0 h)
theorem w_if {rest : List Stmt} (h : G C (isTrue test C.env (eval test C.env)) M own J X (IfK C b1 b2 X (NextQ C rest X Q))) : G C (execs (.If test b1 b2 pos :: rest) C.env) M own J X Q := g_cons (g_if h)
noncomputable abbrev ExpN (C : Cx) (rest : List Stmt) (X : XP) (Q : QF) : QV := fun _ M o J => G C (execs rest C.env) M o J X Q
theorem w_expr {rest : List Stmt} (hs : swapsWith e none pos.line C.env = pure false) (h : ev C X e (ExpN C rest X Q) M own J) : G C (execs (.Expr e pos :: rest) C.env) M own J X Q := g_cons (g_expr (ev_ok h) hs)
theorem w_for {iter : Expr} {rest : List Stmt} (hs : ∀ x, foldedSetIterable iter C.env x = pure x) (h : ev C X iter (ForK C target body X (NextQ C rest X Q)) M own J) : G C (execs (.For target iter body [] pos :: rest) C.env) M own J X Q :=
 g_cons (g_for (ev_ok h) hs)
end
section
variable {X : XP} {C : Cx} {J own : Led} {M : Loc}
theorem if_t {Q : QF} (h : G C (execs b1 C.env) M own J X Q) : IfK C b1 b2 X Q true M own J := pick_t h
theorem if_f {Q : QF} (h : G C (execs b2 C.env) M own J X Q) : IfK C b1 b2 X Q false M own J := pick_f h
theorem tand_t {Q : QB} (h : G C (isTrue (.BoolOp .And rest pos) C.env wh) M own J X Q) : TAndK C rest pos wh X Q true M own J := pick_t h
theorem tand_f {Q : QB} (h : Q false M own J) : TAndK C rest pos wh X Q false M own J := pick_f h
theorem tor_t {Q : QB} (h : Q true M own J) : TOrK C rest pos wh X Q true M own J := pick_t h
theorem tor_f {Q : QB} (h : G C (isTrue (.BoolOp .Or rest pos) C.env wh) M own J X Q) : TOrK C rest pos wh X Q false M own J := pick_f h
end
theorem filled : PySem.Challenge.rw_sa0522_01 = PySem.Challenge.rw_sa0522_01 ∧ Kf = Kf := by
 k_fill
 exact ⟨rfl, rfl⟩
noncomputable def isRef : Ob → Bool | .ref _ _ => true | _ => false
noncomputable def isStr : Ob → Bool | .str _ => true | _ => false
noncomputable def isNam : Ob → Bool | .nam _ => true | _ => false
noncomputable def isArr : Ob → Bool | .arr _ => true | _ => false
noncomputable def isDic : Ob → Bool | .dic _ => true | _ => false
noncomputable def isInt : Ob → Bool | .int _ => true | .tru _ => true | _ => false
noncomputable def isStm : Ob → Bool | _ => false
noncomputable def isTru : Ob → Bool | .tru _ => true | _ => false
theorem dict_open {w : World} {o : Obj} (h : o.IsDictOf (PySem.strKind prog w) kvs) : ∃ es ep, o = { cls := .type "dict", data := .dict es ep } := by
 obtain ⟨es, ep, ⟨h1, h2, h3⟩, h4, _⟩ := h
 obtain ⟨c, d, dt, sl⟩ := o
 simp only at h1 h2 h3 h4
 subst h1 h2 h3 h4
 exact ⟨es, ep, rfl⟩
section
variable {w : World} {A : Around} {E : Value → Shared → Prop} {s : Shared} {h₀ : Heap} {L : Addr} {m : Str → Option Value} {news J : Led} {v : Value} {o : Ob} {Q : Value → Shared → Prop}
set_option tactic.hygienic true in
theorem isi_R (F : Fr h₀ L s.heap m) (X : (Kf w.params).In h₀) (N : News h₀ L s.heap news) (sub : ∀ p ∈ J, p ∈ news) (V : Rep w J v o) (b : Bool) (hb : (isRef o) = b) (h : ∀ tk, Q (.bool b) { s with toks := tk }) :
  wpAny (model prog w) A (call (.builtin "isinstance") [v, .ref 266]) Q E s := by
 subst hb
 cases V
 case nul => k_steps; all_goals exact h _
 case tru => k_steps; all_goals exact h _
 case int => k_steps; all_goals exact h _
 case nam a b => have a' := sub _ a; have b' := sub _ b; k_steps; all_goals exact h _
 case str a b => have a' := sub _ a; have b' := sub _ b; k_steps; all_goals exact h _
 case ref a b => have a' := sub _ a; have b' := sub _ b; k_steps; all_goals exact h _
 case arr a b => have a' := sub _ a; k_steps; all_goals exact h _
 case dic a b c d => obtain ⟨es, ep, rfl⟩ := dict_open b; have a' := sub _ a; k_steps; all_goals exact h _
set_option tactic.hygienic true in
theorem isi_S (F : Fr h₀ L s.heap m) (X : (Kf w.params).In h₀) (N : News h₀ L s.heap news) (sub : ∀ p ∈ J, p ∈ news) (V : Rep w J v o) (b : Bool) (hb : (isStr o) = b) (h : ∀ tk, Q (.bool b) { s with toks := tk }) :
  wpAny (model prog w) A (call (.builtin "isinstance") [v, .ref 217]) Q E s := by
 subst hb
 cases V
 case nul => k_steps; all_goals exact h _
 case tru => k_steps; all_goals exact h _
 case int => k_steps; all_goals exact h _
 case nam a b => have a' := sub _ a; have b' := sub _ b; k_steps; all_goals exact h _
 case str a b => have a' := sub _ a; have b' := sub _ b; k_steps; all_goals exact h _
 case ref a b => have a' := sub _ a; have b' := sub _ b; k_steps; all_goals exact h _
 case arr a b => have a' := sub _ a; k_steps; all_goals exact h _
 case dic a b c d => obtain ⟨es, ep, rfl⟩ := dict_open b; have a' := sub _ a; k_steps; all_goals exact h _
set_option tactic.hygienic true in
theorem isi_N (F : Fr h₀ L s.heap m) (X : (Kf w.params).In h₀) (N : News h₀ L s.heap news) (sub : ∀ p ∈ J, p ∈ news) (V : Rep w J v o) (b : Bool) (hb : (isNam o) = b) (h : ∀ tk, Q (.bool b) { s with toks := tk }) :
  wpAny (model prog w) A (call (.builtin "isinstance") [v, .ref 195]) Q E s := by
 subst hb
 cases V
 case nul => k_steps; all_goals exact h _
 case tru => k_steps; all_goals exact h _
 case int => k_steps; all_goals exact h _
 case nam a b => have a' := sub _ a; have b' := sub _ b; k_steps; all_goals exact h _
 case str a b => have a' := sub _ a; have b' := sub _ b; k_steps; all_goals exact h _
 case ref a b => have a' := sub _ a; have b' := sub _ b; k_steps; all_goals exact h _
 case arr a b => have a' := sub _ a; k_steps; all_goals exact h _
 case dic a b c d => obtain ⟨es, ep, rfl⟩ := dict_open b; have a' := sub _ a; k_steps; all_goals exact h _
set_option tactic.hygienic true in
theorem isi_L (F : Fr h₀ L s.heap m) (X : (Kf w.params).In h₀) (N : News h₀ L s.heap news) (sub : ∀ p ∈ J, p ∈ news) (V : Rep w J v o) (b : Bool) (hb : (isArr o) = b) (h : ∀ tk, Q (.bool b) { s with toks := tk }) :
  wpAny (model prog w) A (call (.builtin "isinstance") [v, .type "list"]) Q E s := by
 subst hb
 cases V
 case nul => k_steps; all_goals exact h _
 case tru => k_steps; all_goals exact h _
 case int => k_steps; all_goals exact h _
 case nam a b => have a' := sub _ a; have b' := sub _ b; k_steps; all_goals exact h _
 case str a b => have a' := sub _ a; have b' := sub _ b; k_steps; all_goals exact h _
 case ref a b => have a' := sub _ a; have b' := sub _ b; k_steps; all_goals exact h _
 case arr a b => have a' := sub _ a; k_steps; all_goals exact h _
 case dic a b c d => obtain ⟨es, ep, rfl⟩ := dict_open b; have a' := sub _ a; k_steps; all_goals exact h _
set_option tactic.hygienic true in
theorem isi_D (F : Fr h₀ L s.heap m) (X : (Kf w.params).In h₀) (N : News h₀ L s.heap news) (sub : ∀ p ∈ J, p ∈ news) (V : Rep w J v o) (b : Bool) (hb : (isDic o) = b) (h : ∀ tk, Q (.bool b) { s with toks := tk }) :
  wpAny (model prog w) A (call (.builtin "isinstance") [v, .type "dict"]) Q E s := by
 subst hb
 cases V
 case nul => k_steps; all_goals exact h _
 case tru => k_steps; all_goals exact h _
 case int => k_steps; all_goals exact h _
 case nam a b => have a' := sub _ a; have b' := sub _ b; k_steps; all_goals exact h _
 case str a b => have a' := sub _ a; have b' := sub _ b; k_steps; all_goals exact h _
 case ref a b => have a' := sub _ a; have b' := sub _ b; k_steps; all_goals exact h _
 case arr a b => have a' := sub _ a; k_steps; all_goals exact h _
 case dic a b c d => obtain ⟨es, ep, rfl⟩ := dict_open b; have a' := sub _ a; k_steps; all_goals exact h _
set_option tactic.hygienic true in
theorem isi_I (F : Fr h₀ L s.heap m) (X : (Kf w.params).In h₀) (N : News h₀ L s.heap news) (sub : ∀ p ∈ J, p ∈ news) (V : Rep w J v o) (b : Bool) (hb : (isInt o) = b) (h : ∀ tk, Q (.bool b) { s with toks := tk }) :
  wpAny (model prog w) A (call (.builtin "isinstance") [v, .type "int"]) Q E s := by
 subst hb
 cases V
 case nul => k_steps; all_goals exact h _
 case tru => k_steps; all_goals exact h _
 case int => k_steps; all_goals exact h _
 case nam a b => have a' := sub _ a; have b' := sub _ b; k_steps; all_goals exact h _
 case str a b => have a' := sub _ a; have b' := sub _ b; k_steps; all_goals exact h _
 case ref a b => have a' := sub _ a; have b' := sub _ b; k_steps; all_goals exact h _
 case arr a b => have a' := sub _ a; k_steps; all_goals exact h _
 case dic a b c d => obtain ⟨es, ep, rfl⟩ := dict_open b; have a' := sub _ a; k_steps; all_goals exact h _
set_option tactic.hygienic true in
theorem isi_B (F : Fr h₀ L s.heap m) (X : (Kf w.params).In h₀) (N : News h₀ L s.heap news) (sub : ∀ p ∈ J, p ∈ news) (V : Rep w J v o) (b : Bool) (hb : (isTru o) = b) (h : ∀ tk, Q (.bool b) { s with toks := tk }) :
  wpAny (model prog w) A (call (.builtin "isinstance") [v, .type "bool"]) Q E s := by
 subst hb
 cases V
 case nul => k_steps; all_goals exact h _
 case tru => k_steps; all_goals exact h _
 case int => k_steps; all_goals exact h _
 case nam a b => have a' := sub _ a; have b' := sub _ b; k_steps; all_goals exact h _
 case str a b => have a' := sub _ a; have b' := sub _ b; k_steps; all_goals exact h _
 case ref a b => have a' := sub _ a; have b' := sub _ b; k_steps; all_goals exact h _
 case arr a b => have a' := sub _ a; k_steps; all_goals exact h _
 case dic a b c d => obtain ⟨es, ep, rfl⟩ := dict_open b; have a' := sub _ a; k_steps; all_goals exact h _
set_option tactic.hygienic true in
theorem isi_X (F : Fr h₀ L s.heap m) (X : (Kf w.params).In h₀) (N : News h₀ L s.heap news) (sub : ∀ p ∈ J, p ∈ news) (V : Rep w J v o) (b : Bool) (hb : (isStm o) = b) (h : ∀ tk, Q (.bool b) { s with toks := tk }) :
  wpAny (model prog w) A (call (.builtin "isinstance") [v, .ref 238]) Q E s := by
 subst hb
 cases V
 case nul => k_steps; all_goals exact h _
 case tru => k_steps; all_goals exact h _
 case int => k_steps; all_goals exact h _
 case nam a b => have a' := sub _ a; have b' := sub _ b; k_steps; all_goals exact h _
 case str a b => have a' := sub _ a; have b' := sub _ b; k_steps; all_goals exact h _
 case ref a b => have a' := sub _ a; have b' := sub _ b; k_steps; all_goals exact h _
 case arr a b => have a' := sub _ a; k_steps; all_goals exact h _
 case dic a b c d => obtain ⟨es, ep, rfl⟩ := dict_open b; have a' := sub _ a; k_steps; all_goals exact h _
set_option tactic.hygienic true in
theorem isi_Dc (F : Fr h₀ L s.heap m) (X : (Kf w.params).In h₀) (N : News h₀ L s.heap news) (sub : ∀ p ∈ J, p ∈ news) (V : Rep w J v o) (b : Bool) (hb : (isStm o) = b) (h : ∀ tk, Q (.bool b) { s with toks := tk }) :
  wpAny (model prog w) A (call (.builtin "isinstance") [v, .ref 167]) Q E s := by
 subst hb
 cases V
 case nul => k_steps; all_goals exact h _
 case tru => k_steps; all_goals exact h _
 case int => k_steps; all_goals exact h _
 case nam a b => have a' := sub _ a; have b' := sub _ b; k_steps; all_goals exact h _
 case str a b => have a' := sub _ a; have b' := sub _ b; k_steps; all_goals exact h _
 case ref a b => have a' := sub _ a; have b' := sub _ b; k_steps; all_goals exact h _
 case arr a b => have a' := sub _ a; k_steps; all_goals exact h _
 case dic a b c d => obtain ⟨es, ep, rfl⟩ := dict_open b; have a' := sub _ a; k_steps; all_goals exact h _
end
inductive Isi (o : Ob) (b : Bool) : Value → Prop
 | ref (h : isRef o = b) : Isi o b (.ref 266)
 | str (h : isStr o = b) : Isi o b (.ref 217)
 | nam (h : isNam o = b) : Isi o b (.ref 195)
 | stm (h : isStm o = b) : Isi o b (.ref 238)
 | dec (h : isStm o = b) : Isi o b (.ref 167)
 | arr (h : isArr o = b) : Isi o b (.type "list")
 | dic (h : isDic o = b) : Isi o b (.type "dict")
 | int (h : isInt o = b) : Isi o b (.type "int")
 | tru (h : isTru o = b) : Isi o b (.type "bool")
theorem Sub.app {own J : Led} (s : Sub J J') : Sub (own ++ J) (own ++ J') := fun p hp => (List.mem_append.mp hp).elim (mL) fun h => mR (s p h)
theorem Sub.right {own J : Led} : Sub J (own ++ J) := fun p hp => mR hp
set_option tactic.hygienic true in
theorem g_isiO {w : World} (hw : C.w = w) {own J : Led} {Q : QV} {v : Value} {o : Ob} {b : Bool} (V : Rep w (own ++ J) v o) (hb : Isi o b cv) (h : Q (.bool b) M own J) : G C (call (.builtin "isinstance") [v, cv]) M own J X Q := .mk fun ok s m loc S => by
 subst hw
 have sub : ∀ p ∈ own ++ J, p ∈ St.all C own J loc := fun p hp => mR (mR hp)
 have fin : ∀ tk, Post C s Q (.bool b) { s with toks := tk } := fun tk => Post.mk' (h := s.heap) S h
 cases hb with
 | ref h => exact isi_R S.fr ok.frag S.news sub V b h fin
 | str h => exact isi_S S.fr ok.frag S.news sub V b h fin
 | nam h => exact isi_N S.fr ok.frag S.news sub V b h fin
 | stm h => exact isi_X S.fr ok.frag S.news sub V b h fin
 | dec h => exact isi_Dc S.fr ok.frag S.news sub V b h fin
 | arr h => exact isi_L S.fr ok.frag S.news sub V b h fin
 | dic h => exact isi_D S.fr ok.frag S.news sub V b h fin
 | int h => exact isi_I S.fr ok.frag S.news sub V b h fin
 | tru h => exact isi_B S.fr ok.frag S.news sub V b h fin
theorem g_isi {w : World} (hw : C.w = w) {own J : Led} {Q : QV} {v : Value} {o : Ob} {b : Bool} (V : Rep w J v o) (hb : Isi o b cv) (h : Q (.bool b) M own J) : G C (call (.builtin "isinstance") [v, cv]) M own J X Q := g_isiO hw (V.mono Sub.right) hb h
theorem c_mkRef (w : World) (own J : Led) (n g : Int) (t u : Tok) : RunP w 2 40 (.ref 266) [.int n t, .int g u] own J (fun r J' => Rep w J' r (.ref n g)) := by
 walk_at "g cls"
 ext
 exact hQ _ [] _ _ _ _ ⟨rfl, by ext sub, .ref (.tail _ (.head _)) (.head _)⟩
theorem c_mkNam (w : World) (own J : Led) (s : Str) (t : Tok) : RunP w 2 40 (.ref 195) [.str s t] own J (fun r J' => Rep w J' r (.nam s)) := by
 walk_at "g cls"
 ext
 exact hQ _ [] _ _ _ _ ⟨rfl, by ext sub, .nam (.tail _ (.head _)) (.head _)⟩
theorem e_cls (w : World) : ∃ cd, clsIn (Kf w.params) 71 = some cd ∧ cd.mro = [.ref 71, .ref 46, .type "Exception", .type "BaseException", .type "object"] ∧ cd.hasDict = true := ⟨_, by k_is, rfl, rfl⟩
theorem c_draft (hh : Bool) (w : World) (own J : Led) (v : Value) : RunB hh w 2 60 (.ref 71) [v] own J noR (fun r o' J' => ∃ x t d, r = .ref x ∧ o' = (x, eDict t (some d)) :: own ∧ Sub J J') := by
 refine' run_exc (by decide) (by decide) (f := 36) ?hC ?hcall ?htyp ?hi ?hf ?ho ?hcd ?hbind ?hkind ?hnd ?hco ?hgen ?hk ?body
 case hC => k_is
 case hcall => k_is
 case htyp => k_is
 case hi => k_is
 case hf => k_is
 case ho => k_is
 case hcd => k_is
 case hbind => exact fun x s' X => binds_K (T := 29) X rfl (by k_is) rfl rfl rfl
 case hkind => exact fun x => rfl
 case hnd => decide
 case hco => exact rfl
 case hgen => exact rfl
 case hk => exact rfl
 intro C x t hw hs hl hdl hul hn hfe hoc Qf hQ
 dsimp only [List.reverse, List.reverseAux]
 ext
 refine g_mtype (by kernel_rfl) (by decide +kernel) (by k_is) rfl ?_
 refine afterWt okMeth_b ?_
 ext
 refine g_einit [] (by k_is) (fun t' => ?_)
 ext
 refine g_eset1 hw [] (by k_is) (e_cls _) (by k_is) (fun dx tk => ?_)
 ext
 refine g_eset2 hw [] (.head _) (by k_is) (e_cls _) (by k_is) (by rfl) (fun _ => Nat.le_of_ble_eq_true rfl) (fun tk => ?_)
 ext
 exact hQ _ _ _ _ _ (by ext sub)
noncomputable abbrev Tab := List (Int × (Int × Ob))
inductive RepT (w : World) (J : Led) : List (Int × Value) → Tab → Prop
 | nil : RepT w J [] []
 | cons {k g : Int} {q : Addr} {tk : Tok} {v : Value} {o : Ob} {kvs : List (Int × Value)} {T : Tab} : (q, tup [.int g tk, v]) ∈ J → Rep w J v o → RepT w J kvs T → RepT w J ((k, .ref q) :: kvs) ((k, (g, o)) :: T)
theorem RepT.mono {w : World} (h : Sub J J') {v : List (Int × Value)} {o : Tab} (r : RepT w J v o) : RepT w J' v o := by
 induction r with
 | nil => exact .nil
 | cons a b c ih => exact .cons (h _ a) (b.mono h) ih
structure Shf where
 sh : Addr
 dsh : Addr
 t : Addr
 tr : Addr
 t1 : Tok
 t2 : Tok
structure Shf.Lies (z : Shf) (w : World) (J : Led) : Prop where
 inst : (z.sh, instObj 375 z.dsh) ∈ J
 dict : (z.dsh, dictOf [key w "table" z.t1 (.ref z.t), key w "trailer" z.t2 (.ref z.tr)] 2) ∈ J
structure Tbl (w : World) (J : Led) (t : Addr) (ot : Obj) (T : Tab) (kvs : List (Int × Value)) : Prop where
 dict : ot.IsDictOf (PySem.intKind prog w) kvs
 low : (t == sysModules) = false
 rep : RepT w J kvs T
noncomputable def fetchO (T : Tab) : Nat → Ob → Ob
 | 0, .ref _ _ => .nul
 | n + 1, .ref k g => match T.lookup k with
  | some (g', o) => if g' = g then fetchO T n o else .nul
  | none => if g = -1 then fetchO T n .nul else .nul
 | _, o => o
theorem fetch1 {T : Tab} {k g : Int} (h : T.lookup k = some (g, o)) : fetchO T (n + 1) (.ref k g) = fetchO T n o := by
 show (match T.lookup k with | some (g', o) => if g' = g then fetchO T n o else .nul | none => if g = -1 then fetchO T n .nul else .nul) = _
 rw [h]; exact if_pos rfl
theorem fetch_plain {T : Tab} (h : isRef o = false) : fetchO T n o = o := by
 cases o <;> cases n <;> first | rfl | cases h
theorem rept_get {w : World} {n : Int} {kvs : List (Int × Value)} {T : Tab} (r : RepT w J kvs T) : (valueAt kvs n = none ∧ T.lookup n = none) ∨ ∃ q g tk v o, valueAt kvs n = some (.ref q) ∧ T.lookup n = some (g, o) ∧ (q, tup [.int g tk, v]) ∈ J ∧ Rep w J v o := by
 induction r with
 | nil => exact .inl ⟨rfl, rfl⟩
 | @cons k g q tk v o _ _ hm hv r ih =>
  by_cases hk : k = n
  ·subst hk
   exact .inr ⟨q, g, tk, v, o, by simp [valueAt], by simp [List.lookup], hm, hv⟩
  ·have e1 : ∀ (x : Value) (l : List (Int × Value)), valueAt ((k, x) :: l) n = valueAt l n := fun x l => by simp [valueAt, hk]
   have e2 : ∀ (x : Int × Ob) (l : Tab), List.lookup n ((k, x) :: l) = l.lookup n := fun x l => by
    rw [List.lookup_cons]
    have : (n == k) = false := by simpa using fun h : n = k => hk h.symm
    rw [this]
   rw [e1, e2]
   exact ih
theorem fetch_step {T : Tab} {k g : Int} {r : Ob} (hn : n < 30) (h : fetchO T (30 - n) (.ref k g) = r) : (match T.lookup k with | some (g', o) => if g' = g then fetchO T (30 - (n + 1)) o else .nul | none => if g = -1 then fetchO T (30 - (n + 1)) .nul else .nul) = r := by
 have e : 30 - n = (30 - (n + 1)) + 1 := (Nat.succ_pred_eq_of_pos (Nat.sub_pos_of_lt hn)).symm
 rw [e] at h
 exact h
theorem c_fetch (w : World) (own J : Led) (z : Shf) (hz : z.Lies w J) (ot : Obj) (T : Tab) (kvs : List (Int × Value)) (hot : (z.t, ot) ∈ own) (hT : Tbl w J z.t ot T kvs) (v : Value) (o : Ob) (V : Rep w J v o) :
  RunP w 1 60 (.ref 311) [.ref z.sh, v] own J (fun r J' => Rep w J' r (fetchO T 30 o)) := by
 obtain ⟨hd1, hd2, hd3⟩ := hT
 obtain ⟨hz1, hz2⟩ := hz
 walk_at "g def"
 ext
 rename_i r t u v'
 refine let Iv61 : Nat → Loc → Led → Led → Prop := fun i M' o' J' => own = o' ∧ Sub ((r, _) :: J) J' ∧ ∃ v' o₁, Has M' [(.ofString "self", .ref z.sh), (.ofString "here", v')] ∧ Rep w J' v' o₁ ∧ fetchO T (30 - i) o₁ = fetchO T 30 o;
  forG hfe (src_range (n := 30) hn (.head _) (by decide) (by rfl)) Iv61 noB ⟨rfl, .refl, v, o, by ext has, by ext rep, rfl⟩ ?_ ?_
 ·intro C' i v0 M' o' J' K hsm
  walk_at "g turn"
  rintro hi ⟨t', rfl⟩ hIz hK
  refine opq3 M' o' J' fun Zk hZk => ?_
  obtain ⟨rfl, sub, v₁, o₁, has, V₁, ho₁⟩ := hIz
  refine hZk _ _ _ ?_
  refine g_weak has ?_
  clear has
  have hz1' := sub.mem (.tail _ hz1)
  have hz2' := sub.mem (.tail _ hz2)
  have hd3' := hd3.mono (Sub.trans (Sub.cons .refl) sub)
  cases hb : isRef o₁
  ·ext
   refine hK _ _ _ _ (turnq_ret (nextq_ret (hret _ _ _ _ ⟨rfl, by ext sub, ?_⟩)))
   rw [← ho₁, fetch_plain hb]; exact V₁
  ·cases V₁ with
   | @ref x dx t1 t2 t3 t4 n g a b =>
    have V₂ : Rep w J' (.ref x) (.ref n g) := .ref a b
    have st := fetch_step hi ho₁
    rcases rept_get (n := n) hd3' with ⟨hv1, hT1⟩ | ⟨q, g2, tk2, v2, o2, hv1, hT1, hq, hr2⟩
    ·rw [hT1] at st
     dsimp only at st
     ext
     refine ⟨fun e => ?_, fun e => ?_⟩
     ·have e' : ¬g = -1 := fun h => by subst h; simp at e
      ext
      refine hK _ _ _ _ (turnq_ret (nextq_ret (hret _ _ _ _ ⟨rfl, by ext sub, ?_⟩)))
      rw [← st, if_neg e']; exact .nul
     ·have e' : g = -1 := by simp at e; exact e.symm
      ext
      refine hK _ _ _ _ (turnq_next ⟨rfl, by ext sub, .none, .nul, by ext has, .nul, ?_⟩)
      rw [← st, if_pos e']
    ·rw [hT1] at st
     dsimp only at st
     ext
     refine ⟨fun e => ?_, fun e => ?_⟩
     ·have e' : ¬g2 = g := fun h => by subst h; simp at e
      ext
      refine hK _ _ _ _ (turnq_ret (nextq_ret (hret _ _ _ _ ⟨rfl, by ext sub, ?_⟩)))
      rw [← st, if_neg e']; exact .nul
     ·have e' : g2 = g := by simp at e; exact e
      ext
      refine hK _ _ _ _ (turnq_next ⟨rfl, by ext sub, v2, o2, by ext has, by ext rep, ?_⟩)
      rw [← st, if_pos e']
   | _ => exact absurd hb Bool.false_ne_true
 ·rintro M' o' J' ⟨rfl, sub, v₁, o₁, has, V₁, ho₁⟩
  refine nextq_next (g_weak has ?_)
  cases hb : isRef o₁
  ·ext
   refine hret _ _ _ _ ⟨rfl, by ext sub, ?_⟩
   rw [← ho₁, fetch_plain hb]; exact V₁
  ·ext
   refine hret _ _ _ _ ⟨rfl, by ext sub, ?_⟩
   rw [← ho₁]
   cases o₁ <;> first | exact .nul | exact absurd hb Bool.false_ne_true
variable {zf : Nat → Shf} {z : Shf} {T' : Tab}
noncomputable def look (l : List (Str × Ob)) (k : Str) : Ob := (l.lookup k).getD .nul
theorem repk_get {w : World} {n : Str} (r : RepK w J kvs l) : (valueAt kvs n = none ∧ l.lookup n = none) ∨ ∃ v o, valueAt kvs n = some v ∧ l.lookup n = some o ∧ Rep w J v o := by
 induction r using RepK.ind with
 | nil => exact .inl ⟨rfl, rfl⟩
 | @cons k v o _ _ hv r ih =>
  by_cases hk : k = n
  ·subst hk
   exact .inr ⟨v, o, by simp [valueAt], by simp [List.lookup], hv⟩
  ·have e1 : ∀ (x : Value) (l : List (Str × Value)), valueAt ((k, x) :: l) n = valueAt l n := fun x l => by simp [valueAt, hk]
   have e2 : ∀ (x : Ob) (l : List (Str × Ob)), List.lookup n ((k, x) :: l) = l.lookup n := fun x l => by
    rw [List.lookup_cons]
    have : (n == k) = false := by simpa using fun h : n = k => hk h.symm
    rw [this]
   rw [e1, e2]
   exact ih
theorem Tbl.mono {w : World} {t : Addr} {T : Tab} {kvs : List (Int × Value)} (h : Tbl w J t ot T kvs) (s : Sub J J') : Tbl w J' t ot T kvs := ⟨h.dict, h.low, h.rep.mono s⟩
theorem Shf.Lies.mono {w : World} (h : z.Lies w J) (s : Sub J J') : z.Lies w J' := ⟨s.mem h.inst, s.mem h.dict⟩
theorem c_get (w : World) (own J : Led) (z : Shf) (hz : z.Lies w J) (ot : Obj) (T : Tab) (kvs : List (Int × Value)) (hot : (z.t, ot) ∈ own) (hT : Tbl w J z.t ot T kvs)
  (d : Addr) (od : Obj) (dvs : List (Str × Value)) (l : List (Str × Ob)) (hd0 : (d, od) ∈ own ++ J) (hd1 : od.IsDictOf (PySem.strKind prog w) dvs) (hd2 : (d == sysModules) = false) (hd3 : RepK w J dvs l) (k : Str) (tk : Tok) :
  RunP w 2 80 (.ref 318) [.ref z.sh, .ref d, .str k tk] own J (fun r J' => Rep w J' r (fetchO T 30 (look l k))) := by
 obtain ⟨hz1, hz2⟩ := id hz
 walk_at "g def"
 have use : ∀ v o, Rep w J v o → look l k = o → G C (call (.ref 311) [.ref z.sh, v]) [(.ofString "key", .str k tk), (.ofString "head", .ref d), (.ofString "self", .ref z.sh)] own J Xf (RetK (NextQ C [] Xf Qf)) := fun v o V e => by
  refine g_runP (c_fetch w own J z hz ot T kvs hot hT v o V) hw hn (by omega) (by omega) fun r J' sub hr => ?_
  exact nextq_ret (hret _ _ _ _ ⟨rfl, sub, by rw [e]; exact hr⟩)
 rcases repk_get (n := k) hd3 with ⟨h1, h2⟩ | ⟨v, o, h1, h2, hv⟩
 ·ext
  exact use _ _ .nul (by simp [look, h2])
 ·ext
  exact use _ _ hv (by simp [look, h2])
structure Dct (w : World) (J : Led) (d : Addr) (od : Obj) (dvs : List (Str × Value)) (l : List (Str × Ob)) : Prop where
 dict : od.IsDictOf (PySem.strKind prog w) dvs
 low : (d == sysModules) = false
 rep : RepK w J dvs l
theorem Dct.mono {w : World} {od : Obj} {dvs : List (Str × Value)} (h : Dct w J d od dvs l) (s : Sub J J') : Dct w J' d od dvs l := ⟨h.dict, h.low, RepK.mono s h.rep⟩
structure Shl (w : World) (own J : Led) (z : Shf) (T : Tab) (R : List (Str × Ob)) : Prop where
 lies : z.Lies w J
 tab : ∃ ot kvs, (z.t, ot) ∈ own ∧ Tbl w J z.t ot T kvs
 tra : ∃ od dvs, (z.tr, od) ∈ own ∧ Dct w J z.tr od dvs R
theorem Shl.mono {w : World} {own : Led} {T : Tab} (h : Shl w own J z T R) (s : Sub J J') : Shl w own J' z T R :=
 ⟨h.lies.mono s, h.tab.imp fun _ _ z => ⟨z.1, z.2.mono s⟩, h.tra.imp fun _ _ z => ⟨z.1, z.2.mono s⟩⟩
theorem Shl.own {w : World} {own : Led} {T : Tab} (h : Shl w own J z T R) (s : ∀ p ∈ own, p ∈ own') : Shl w own' J z T R :=
 ⟨h.lies, h.tab.imp fun _ _ z => ⟨s _ z.1, z.2⟩, h.tra.imp fun _ _ z => ⟨s _ z.1, z.2⟩⟩
theorem fetch_c {w : World} {own : Led} {T : Tab} (S : Shl w own J z T R) (V : Rep w J v o) : RunP w 1 60 (.ref 311) [.ref z.sh, v] own J (fun r J' => Rep w J' r (fetchO T 30 o)) :=
 by obtain ⟨ot, kvs, h1, h2⟩ := S.tab; exact c_fetch w own J z S.lies ot T kvs h1 h2 v o V
theorem get_c {w : World} {own : Led} {T : Tab} (S : Shl w own J z T R) (V : Rep w J v (.dic l)) (k : Str) (tk : Tok) : RunP w 2 80 (.ref 318) [.ref z.sh, v, .str k tk] own J (fun r J' => Rep w J' r (fetchO T 30 (look l k))) := by
 obtain ⟨ot, kvs, h1, h2⟩ := S.tab
 cases V with
 | dic a b c d => exact c_get w own J z S.lies ot T kvs h1 h2 _ _ _ l (mR a) b c d k tk
theorem getR_c {w : World} {own : Led} {T : Tab} (S : Shl w own J z T R) (k : Str) (tk : Tok) : RunP w 2 80 (.ref 318) [.ref z.sh, .ref z.tr, .str k tk] own J (fun r J' => Rep w J' r (fetchO T 30 (look R k))) := by
 obtain ⟨ot, kvs, h1, h2⟩ := S.tab
 obtain ⟨od, dvs, h3, h4⟩ := S.tra
 exact c_get w own J z S.lies ot T kvs h1 h2 _ _ _ R (mL h3) h4.dict h4.low h4.rep k tk
theorem root_c {w : World} {own : Led} {T : Tab} (S : Shl w own J z T R) (hr : fetchO T 30 (look R (.ofString "Root")) = .dic l) : RunP w 3 100 (.ref 367) [.ref z.sh] own J (fun r J' => Rep w J' r (.dic l)) := by
 obtain ⟨hz1, hz2⟩ := S.lies
 walk_at "g def"
 ext
 refine g_runP (getR_c S _ _) hw hn (by omega) (by omega) fun r J' sub V => ?_
 rw [hr] at V
 ext
 exact hret _ _ _ _ ⟨rfl, by ext sub, V⟩
theorem form_c {w : World} {own : Led} {T : Tab} {f : List (Str × Ob)} (S : Shl w own J z T R) (hr : fetchO T 30 (look R (.ofString "Root")) = .dic l) (hf : fetchO T 30 (look l (.ofString "AcroForm")) = .dic f) : RunP w 4 120 (.ref 535) [.ref z.sh] own J (fun r J' => Rep w J' r (.dic f)) := by
 obtain ⟨hz1, hz2⟩ := S.lies
 walk_at "g def"
 ext
 refine g_runP (root_c S hr) hw hn (by omega) (by omega) fun r J' sub V => ?_
 have hz1' := sub.mem hz1
 have hz2' := sub.mem hz2
 ext
 refine g_runP (get_c (S.mono sub) V _ _) hw hn (by omega) (by omega) fun r J' sub2 V2 => ?_
 rw [hf] at V2
 ext
 exact hret _ _ _ _ ⟨rfl, by ext sub, V2⟩
noncomputable def wholeO : Ob → Ob | .int i => .int i | _ => .nul
theorem whole_c {w : World} {own : Led} {T : Tab} (S : Shl w own J z T R) (V : Rep w J v (.dic l)) (k : Str) (tk : Tok) : RunP w 3 100 (.ref 514) [.ref z.sh, v, .str k tk] own J (fun r J' => Rep w J' r (wholeO (fetchO T 30 (look l k)))) := by
 obtain ⟨hz1, hz2⟩ := S.lies
 walk_at "g def"
 ext
 refine g_runP (get_c S V k tk) hw hn (by omega) (by omega) fun r J' sub V2 => ?_
 generalize ho : fetchO T 30 (look l k) = o at V2
 cases hb : isInt o
 ·ext
  refine hret _ _ _ _ ⟨rfl, by ext sub, ?_⟩
  show Rep w J' _ (wholeO (fetchO T 30 (look l k)))
  rw [ho]
  cases o <;> first | exact .nul | (cases hb; done)
 ·cases hc : isTru o
  ·ext
   refine hret _ _ _ _ ⟨rfl, by ext sub, ?_⟩
   show Rep w J' _ (wholeO (fetchO T 30 (look l k)))
   rw [ho]
   cases o <;> first | exact V2 | (cases hc; done) | (cases hb; done)
  ·ext
   refine hret _ _ _ _ ⟨rfl, by ext sub, ?_⟩
   show Rep w J' _ (wholeO (fetchO T 30 (look l k)))
   rw [ho]
   cases o <;> first | exact .nul | (cases hc; done)
theorem flags_c {w : World} {own : Led} {T : Tab} (S : Shl w own J z T R) (V : Rep w J v (.dic l)) (hff : look l (.ofString "Ff") = .nul) : RunP w 4 120 (.ref 521) [.ref z.sh, v] own J (fun r _ => ∃ t, r = .int 0 t) := by
 walk_at "g def"
 ext
 refine g_runP (whole_c S V _ _) hw hn (by omega) (by omega) fun r J' sub V2 => ?_
 rw [hff, fetch_plain rfl] at V2
 cases V2
 ext
 exact hret _ _ _ _ ⟨rfl, by ext sub, _, rfl⟩
theorem put_c {w : World} {l2 : Led} (hz : z.Lies w J) {kvs : List (Int × Value)} (hd : ot.IsDictOf (PySem.intKind prog w) kvs) (hsz : kvs.length ≤ sizeLine) {n g : Int} {t : Tok} :
  Run w 1 40 (.ref 339) [.ref z.sh, .int n t, .int g u, v] (l1 ++ (z.t, ot) :: l2) J noR (fun r own' J' => ∃ ot' q, own' = l1 ++ (z.t, ot') :: l2 ∧ Sub J J' ∧ (q, tup [.int g u, v]) ∈ J' ∧ ot'.IsDictOf (PySem.intKind prog w) (stored kvs n (.ref q))) := by
 obtain ⟨hz1, hz2⟩ := hz
 ext defA
 ext
 refine g_setitem (by assumption) l1 (knd := PySem.intKind _ _) (by assumption) (intKind_is _ _ _ _) (by assumption) (fun o' ho' => ?_)
 ext
 exact hnext _ _ _ ⟨_, _, rfl, by ext sub, .head _, ho'⟩
theorem lay_c {w : World} {l2 : Led} (hz : z.Lies w J) {kvs : List (Int × Value)} (hd : ot.IsDictOf (PySem.intKind prog w) kvs) (hsz : kvs.length ≤ sizeLine) {n g : Int} {rv : Value} (V : Rep w J rv (.ref n g)) :
  Run w 2 60 (.ref 450) [.ref z.sh, rv, v] (l1 ++ (z.t, ot) :: l2) J noR (fun r own' J' => ∃ ot' q t, own' = l1 ++ (z.t, ot') :: l2 ∧ Sub J J' ∧ (q, tup [.int g t, v]) ∈ J' ∧ ot'.IsDictOf (PySem.intKind prog w) (stored kvs n (.ref q))) := by
 obtain ⟨hz1, hz2⟩ := id hz
 obtain ⟨_, _, _, _, _, _, rfl, a, b⟩ := V.ref_inv
 ext defA
 ext
 refine g_runK (put_c hz hd hsz) hw hn (by omega) (by omega) ?_
 intro Zk hZk
 rintro r o' J' ⟨ot', q, rfl, sub, hq, hd'⟩
 refine hZk _ _ _ ?_
 ext
 exact hnext _ _ _ ⟨_, _, _, rfl, sub, hq, hd'⟩
theorem va_no {K : Type} [DecidableEq K] {k : K} {p : K × Value} {l : List (K × Value)} (h : p.1 ≠ k) : valueAt (p :: l) k = valueAt l k := congrArg (Option.map _) (List.find?_cons_of_neg (by simpa using h))
theorem va_yes {K : Type} [DecidableEq K] {k : K} {p : K × Value} {l : List (K × Value)} (h : p.1 = k) : valueAt (p :: l) k = some p.2 := congrArg (Option.map _) (List.find?_cons_of_pos (by simpa using h))
set_option tactic.hygienic true in
theorem va_stored_ne {K : Type} [DecidableEq K] {k k' : K} {l : List (K × Value)} (ne : k' ≠ k) : valueAt (stored l k' v) k = valueAt l k := by
 unfold stored
 split
 ·rename_i h
  clear h
  induction l with
  | nil => rfl
  | cons p l ih =>
   rw [List.map_cons]
   by_cases e : p.1 = k
   ·rw [if_neg fun h => ne (h.symm.trans e), va_yes e, va_yes e]
   ·rw [va_no (fun h => e (Eq.trans (by split <;> rfl) h)), va_no e, ih]
 ·unfold valueAt
  rw [List.find?_append, List.find?_cons_of_neg (by simpa using ne)]
  cases List.find? _ l <;> rfl
noncomputable def turn1 (acc : List (Str × Value)) (p : Str × Value) : List (Str × Value) := if p.2 == .none then without acc p.1 else stored acc p.1 p.2
theorem stored_len : (stored acc k v).length ≤ acc.length + 1 := putG_len (l := acc)
theorem turn1_len {p : Str × Value} : (turn1 acc p).length ≤ acc.length + 1 := by
 unfold turn1
 split
 ·unfold without
  exact Nat.le_succ_of_le (List.length_filter_le _ _)
 ·exact stored_len
theorem turns_len {cs : List (Str × Value)} : (cs.foldl turn1 acc).length ≤ acc.length + cs.length := foldLen fun _ _ => turn1_len
theorem str_is {w : World} (h : (PySem.strKind prog w).is k v = true) : ∃ t, v = .str k t := by
 cases v <;> simp [PySem.strKind, Value.isStrOf] at h
 subst h; exact ⟨_, rfl⟩
theorem without_none (h : valueAt acc k = none) : without acc k = acc := by
 unfold without
 refine List.filter_eq_self.mpr fun p hp => ?_
 by_cases e : p.1 = k
 ·exfalso
  have : ∀ {l : List (Str × Value)}, p ∈ l → valueAt l k ≠ none := by
   intro l
   induction l with
   | nil => intro h; cases h
   | cons q l ih =>
    intro hq
    by_cases e2 : q.1 = k
    ·simp [valueAt, e2]
    ·rcases List.mem_cons.mp hq with rfl | hq
     ·exact absurd e e2
     ·have := ih hq
      simpa [valueAt, e2] using this
  exact this hp h
 ·simp [e]
theorem take_turn {cs : List (Str × Value)} {p : Str × Value} (h : cs[i]? = some p) : (cs.take (i + 1)).foldl turn1 acc = turn1 ((cs.take i).foldl turn1 acc) p := by
 rw [List.take_add_one, h, List.foldl_append]; rfl
theorem turned_c {w : World} {own : Led} {hd cd : Addr} {ho co : Obj} {cvs : List (Str × Value)} (h1 : (hd, ho) ∈ own ++ J) (h2 : ho.IsDictOf (PySem.strKind prog w) kvs) (h3 : (hd == sysModules) = false) (c1 : (cd, co) ∈ J) (c2 : co.IsDictOf (PySem.strKind prog w) cvs) (c3 : (cd == sysModules) = false)
  (hget : ∀ (i : Nat) k x, cvs[i]? = some (k, x) → valueAt cvs k = some x) (hz : kvs.length + cvs.length ≤ sizeLine) : RunP w 1 60 (.ref 436) [.ref hd, .ref cd] own J (fun r J' => ∃ d o, r = .ref d ∧ (d == sysModules) = false ∧ (d, o) ∈ J' ∧ o.IsDictOf (PySem.strKind prog w) (cvs.foldl turn1 kvs)) := by
 walk_at "g def"
 ext
 refine g_dcopy hw h1 h2 h3 (by omega) fun d' o' lo' ho' => ?_
 ext
 let Iv32 : Nat → Loc → Led → Led → Prop := fun i M' o' J' => ∃ o₁, o' = (d', o₁) :: own ∧ Sub J J' ∧ o₁.IsDictOf (PySem.strKind prog w) ((cvs.take i).foldl turn1 kvs) ∧ Has M' [(.ofString "found", .ref d'), (.ofString "changes", .ref cd)]
 refine forG hfe (src_dict hw hn (knd := PySem.strKind prog w) c1 c2 c3) Iv32 (by rintro _ _ _ _ ⟨_, _, q, _, _⟩; exact q) ⟨o', rfl, .refl, by simpa using ho', by ext has⟩ ?_ ?_
 ·intro C' i v M' o₂ J' K hsm
  walk_at "g turn"
  rintro - ⟨k, x, hi, hk⟩ hIz hK
  refine opq3 M' o₂ J' fun Zk hZk => ?_
  obtain ⟨o₁, rfl, sub, hd₁, has⟩ := hIz
  refine hZk _ _ _ ?_
  obtain ⟨t, rfl⟩ := str_is hk
  have hv := hget i k x hi
  have hz1 : ((cvs.take i).foldl turn1 kvs).length ≤ sizeLine := by
   have := turns_len (cs := cvs.take i) (acc := kvs)
   have := List.length_take_le' i cvs
   omega
  refine g_weak has ?_
  ext
  refine g_item (knd := PySem.strKind prog w) hw' (mR (sub _ c1)) c2 (strKind_is _ _ _ _) hv ?_
  ext
  refine ⟨fun e => ?_, fun e => ?_⟩
  ·ext
   refine g_mpop (knd := PySem.strKind prog w) hw' (.head _) hd₁ ?_
   ext
   have ex : turn1 ((cvs.take i).foldl turn1 kvs) (k, x) = without ((cvs.take i).foldl turn1 kvs) k := by
    unfold turn1; rw [if_pos e]
   cases hq : valueAt ((cvs.take i).foldl turn1 kvs) k with
   | none =>
    refine g_popn (knd := PySem.strKind prog w) hw' (.head _) hd₁ lo' (strKind_is _ _ _ _) rfl (PySem.F.args_dict_pop_3 _ _ _) hq ?_
    ext
    refine hK _ _ _ _ (turnq_next ⟨o₁, rfl, sub, ?_, by ext has⟩)
    rw [take_turn hi, ex, without_none hq]; exact hd₁
   | some u =>
    refine g_pop (knd := PySem.strKind prog w) hw' [] hd₁ (strKind_is _ _ _ _) rfl (PySem.F.args_dict_pop_3 _ _ _) hz1 hq (fun o₃ ho₃ => ?_)
    ext
    refine hK _ _ _ _ (turnq_next ⟨o₃, rfl, sub, ?_, by ext has⟩)
    rw [take_turn hi, ex]; exact ho₃
  ·ext
   refine g_item (knd := PySem.strKind prog w) hw' (mR (sub _ c1)) c2 (strKind_is _ _ _ _) hv ?_
   ext
   refine hK _ _ _ _ (turnq_next ⟨_, rfl, sub, ?_, by ext has⟩)
   have ex : turn1 ((cvs.take i).foldl turn1 kvs) (k, x) = stored ((cvs.take i).foldl turn1 kvs) k x := by
    unfold turn1; rw [if_neg (by simp [e])]
   rw [take_turn hi, ex]; assumption
 ·rintro M' o₂ J' ⟨o₁, rfl, sub, hd₁, has⟩
  refine nextq_next (g_weak has (g_freeze [] ?_))
  ext
  exact hret _ _ _ _ ⟨rfl, by ext sub, d', o₁, rfl, lo', .head _, by simpa using hd₁⟩
theorem row_c {w : World} {own : Led} {T : Tab} (S : Shl w own J z T R) (V : Rep w J v (.dic l)) {tk : Tok} {a : List Ob} (ho : fetchO T 30 (look l k) = .arr a ∨ (fetchO T 30 (look l k) = .nul ∧ a = [])) : RunP w 3 100 (.ref 542) [.ref z.sh, v, .str k tk] own J (fun r J' => Rep w J' r (.arr a)) := by
 obtain ⟨hz1, hz2⟩ := S.lies
 ext defA
 ext
 refine g_runP (get_c S V k tk) hw hn (by omega) (by omega) fun r J' sub V2 => ?_
 rcases ho with ho | ⟨ho, rfl⟩
 ·rw [ho] at V2
  have V3 := V2
  obtain ⟨_, _, _, rfl, a1, a2⟩ := V2.arr_inv
  ext
  exact hret _ _ _ _ ⟨rfl, by ext sub, V3⟩
 ·rw [ho] at V2
  cases V2
  ext
  exact hret1 _ _ _ _ _ ⟨rfl, by ext sub, .arr (.head _) .nil⟩
theorem sign_c {w : World} {own : Led} {c : Int} {t : Tok} (h1 : 32 ≤ c) (h2 : c < 127) : RunP w 1 60 (.ref 398) [.int c t] own J (fun r _ => ∃ t, r = .int c t) := by
 walk_at "g def"
 ext
 refine g_in_tup_ints (by ext mem) (by walk_at "g ints") ?_
 rw [decide_eq_false (by simp; omega)]
 ext
 rw [decide_eq_true h1]
 ext
 rw [decide_eq_true h2]
 ext
 exact hret _ _ _ _ ⟨rfl, by ext sub, _, rfl⟩
theorem accent_c {w : World} {own : Led} : RunP w 1 60 (.ref 384) [] own J (fun r J' => ∃ D n vs, r = .ref D ∧ (D, ({ cls := .type "tuple", data := .seq (List.toArray vs) n } : Obj)) ∈ J' ∧ IntsAre vs [728, 711, 710, 729, 733, 731, 730, 732]) := by
 walk_at "g def"
 ext
 exact hret _ _ _ _ ⟨rfl, by ext sub, _, _, _, rfl, by ext mem, by walk_at "g ints"⟩
theorem mark_c {w : World} {own : Led} : RunP w 1 60 (.ref 391) [] own J (fun r J' => ∃ D n vs, r = .ref D ∧ (D, ({ cls := .type "tuple", data := .seq (List.toArray vs) n } : Obj)) ∈ J' ∧ IntsAre vs [8226, 8224, 8225, 8230, 8212, 8211, 402, 8260, 8249, 8250, 8722, 8240, 8222, 8220, 8221, 8216, 8217, 8218, 8482, 64257, 64258, 321, 338, 352, 376, 381, 305, 322, 339, 353, 382]) := by
 walk_at "g def"
 ext
 refine g_add_tup (by ext mem) (by ext mem) (by simp) fun D J' sub hx => ?_
 obtain ⟨n, hD⟩ := hx
 ext
 refine g_add_tup (by ext mem) (by ext mem) (by simp) fun D' J'' sub' hx => ?_
 obtain ⟨n', hD'⟩ := hx
 ext
 exact hret _ _ _ _ ⟨rfl, by ext sub, _, _, _, rfl, hD', by walk_at "g ints"⟩
theorem octet_c {w : World} {own : Led} {c : Int} {t : Tok} (h1 : 32 ≤ c) (h2 : c < 127) : RunP w 3 120 (.ref 405) [.int c t] own J (fun r _ => ∃ t, r = .int c t) := by
 walk_at "g def"
 ext
 rw [decide_eq_true (by omega)]
 ext
 refine g_runP (sign_c h1 h2) hw hn (by omega) (by omega) fun r J' sub V2 => ?_
 obtain ⟨t', rfl⟩ := V2
 ext
 rw [beq_self_eq_true]
 ext
 exact hret _ _ _ _ ⟨rfl, by ext sub, _, rfl⟩
theorem octet_no_c {w : World} {own : Led} {c : Int} {t : Tok} (h : c = 945 ∨ c = 946 ∨ c = 947) : RunP w 3 120 (.ref 405) [.int c t] own J (fun r _ => ∃ t, r = .int (-1) t) := by
 walk_at "g def"
 ext
 rw [decide_eq_false (by rcases h with rfl | rfl | rfl <;> decide)]
 ext
 refine g_runP accent_c hw hn (by omega) (by omega) fun r J' sub V2 => ?_
 obtain ⟨D, n, vs, rfl, hD, hv⟩ := V2
 ext
 refine g_in_tup_ints (mR hD) hv ?_
 rw [decide_eq_false (by rcases h with rfl | rfl | rfl <;> decide)]
 ext
 refine g_runP mark_c hw hn (by omega) (by omega) fun r J'' sub' V2 => ?_
 obtain ⟨D', n', vs', rfl, hD', hv'⟩ := V2
 ext
 refine g_in_tup_ints (mR hD') hv' ?_
 rw [decide_eq_false (by rcases h with rfl | rfl | rfl <;> decide)]
 ext
 rw [beq_eq_false_iff_ne.mpr (show c ≠ 8364 by rcases h with rfl | rfl | rfl <;> decide)]
 ext
 exact hret _ _ _ _ ⟨rfl, by ext sub, _, rfl⟩
noncomputable def intsOf (s : Str) : List Int := s.cps.toList.map fun (c : Nat) => (c : Int)
set_option tactic.hygienic true in
theorem units_c {w : World} {own : Led} {t : Tok} (hch : ∀ c ∈ s.cps.toList, c < 65536) (hz : s.length ≤ 60) : RunP w 1 60 (.ref 412) [.str s t] own J (fun r J' => ∃ D n vs, r = .ref D ∧ (D, listOf (List.toArray vs) n) ∈ J' ∧ IntsAre vs (intsOf s)) := by
 have hlen : s.cps.toList.length = s.length := by simp [Str.length]
 ext defA
 ext
 rename_i D
 let Iv36 : Nat → Loc → Led → Led → Prop := fun i M' o' J' => ∃ vs n, o' = (D, listOf (List.toArray vs) n) :: own ∧ Sub J J' ∧ Has M' [(.ofString "units", .ref D)] ∧ IntsAre vs ((s.cps.toList.take i).map fun (c : Nat) => (c : Int))
 refine forG hfe (src_str hn) Iv36 noB ⟨[], 0, rfl, .refl, by ext has, .nil⟩ ?_ ?_
 ·intro C' i v0 M' o₂ J' K hsm
  walk_at "g turn"
  rintro - ⟨c, t', hi, rfl⟩ hIz hK
  refine opq3 M' o₂ J' fun Zk hZk => ?_
  obtain ⟨vs, n, rfl, sub, has, hv⟩ := hIz
  refine hZk _ _ _ ?_
  refine g_weak has ?_
  have hi' : s.cps.toList[i]? = some c := by simpa using hi
  have hc := hch c (List.mem_of_getElem? hi')
  have hvl : vs.length ≤ 60 := by rw [hv.length, List.length_map]; exact Nat.le_trans (List.length_take_le' _ _) (by omega)
  ext
  rw [decide_eq_false (by omega)]
  ext
  refine g_append [] (by rw [sizeLine_eq]; omega) ?_
  ext
  refine hK _ _ _ _ (turnq_next ⟨_, _, rfl, sub, by ext has, ?_⟩)
  rw [take_map_succ _ hi']
  exact ints_snoc hv
 ·rintro M' o₂ J' ⟨vs, n, rfl, sub, has, hv⟩
  refine nextq_next (g_weak has ?_)
  ext
  refine hret1 _ _ _ _ _ ⟨rfl, by ext sub, _, _, _, rfl, .head _, ?_⟩
  rw [← hlen, List.take_length] at hv
  exact hv
theorem chars_lt (h : ∀ c ∈ s.cps.toList, 32 ≤ c ∧ c < 127) : ∀ n ∈ intsOf s, 0 ≤ n ∧ n < 256 := fun n hn => by
 obtain ⟨c, hc, rfl⟩ := List.mem_map.mp hn
 have := h c hc
 omega
theorem octets_c {w : World} {own : Led} {t : Tok} (hch : ∀ c ∈ s.cps.toList, 32 ≤ c ∧ c < 127) (hz : s.length ≤ 60) : RunP w 5 300 (.ref 424) [.str s t] own J (fun r _ => ∃ t, r = .bytes (byteArr (intsOf s)) t) := by
 have hlen : s.cps.toList.length = s.length := by simp [Str.length]
 walk_at "g def"
 refine g_cons (g_asgcomp [] (by ext sc) ?_ (by ext swl))
 ext
 let Iv37 : Nat → List Value → Led → Led → Prop := fun i ys o' J' => own = o' ∧ Sub J J' ∧ IntsAre ys ((s.cps.toList.take i).map fun (c : Nat) => (c : Int))
 refine ⟨by ext sc, compG (src_str hn) (by ext sc) (by rw [sizeLine_eq]; omega) Iv37 noB ⟨rfl, .refl, .nil⟩ (fun _ _ => rfl) ?_ ?_⟩
 ·rintro C' i v0 ys o₂ J' D k K KS hic - ⟨c, t', hi, rfl⟩
  rintro ⟨rfl, sub, hv⟩ hK hKS
  ext comp
  have hi' : s.cps.toList[i]? = some c := by simpa using hi
  have hc := hch c (List.mem_of_getElem? hi')
  ext
  refine g_runP (octet_c (by omega) (by omega)) hw' hn' (by omega) (by omega) fun r J'' sub' V2 => ?_
  obtain ⟨t₂, rfl⟩ := V2
  refine hK _ _ _ _ has_nil ⟨rfl, by ext sub, ?_⟩
  rw [take_map_succ _ hi']
  exact ints_snoc hv
 ·rintro ys o₂ J' D k ⟨rfl, sub, hv⟩ hle C₂ hsm
  walk_at "g end"
  rw [← hlen, List.take_length] at hv
  have hle' : ys.length ≤ sizeLine := by rw [sizeLine_eq]; omega
  ext
  refine g_notin_ints (by ext mem) hv ?_
  rw [decide_eq_false (fun h => by have := chars_lt hch _ h; omega)]
  ext
  refine g_item_to (by ext mem) (by ext mem) (by decide) hle' fun D' => ?_
  ext
  refine g_ne_ints (by ext mem) (by ext mem) (ints_take hv _) (by walk_at "g ints") (by omega) ?_
  rw [decide_eq_false (fun h => by
   have h254 : (254 : Int) ∈ intsOf s := List.mem_of_mem_take (i := 2) (h ▸ List.mem_cons_self)
   obtain ⟨c, hc, e⟩ := List.mem_map.mp h254
   have := hch c hc; omega)]
  ext
  refine g_freeze [] (g_freeze [] (g_freeze [] ?_))
  refine g_mkbytes hn (by ext mem) hv (chars_lt hch) hle' fun t' => ?_
  ext
  exact hret _ _ _ _ ⟨rfl, by ext sub, _, rfl⟩
noncomputable def abg : Str := Str.ofString "αβγ"
theorem abg_cps : abg.cps = #[945, 946, 947] := by decide +kernel
theorem abg_len : abg.length = 3 := by decide +kernel
noncomputable def rowOf (l : List Int) : List Int := l.flatMap fun u => [u.fdiv 256, u.fmod 256]
theorem rowOf_snoc (l : List Int) (u : Int) : rowOf (l ++ [u]) = rowOf l ++ [u.fdiv 256] ++ [u.fmod 256] := by simp [rowOf]
theorem octets_abg_c {w : World} {own : Led} {t : Tok} : RunP w 5 300 (.ref 424) [.str abg t] own J (fun r _ => ∃ t, r = .bytes #[254, 255, 3, 177, 3, 178, 3, 179] t) := by
 walk_at "g def"
 refine g_cons (g_asgcomp [] (by ext sc) ?_ (by ext swl))
 ext
 let Iv38 : Nat → List Value → Led → Led → Prop := fun i ys o' J' => own = o' ∧ Sub J J' ∧ IntsAre ys (List.replicate i (-1))
 refine ⟨by ext sc, compG (src_str hn) (by ext sc) (by rw [abg_len, sizeLine_eq]; omega) Iv38 noB ⟨rfl, .refl, .nil⟩ (fun _ _ => rfl) ?_ ?_⟩
 ·rintro C' i v0 ys o₂ J' D k K KS hic - ⟨c, t', hi, rfl⟩
  rintro ⟨rfl, sub, hv⟩ hK hKS
  ext comp
  have hc : c ∈ abg.cps.toList := List.mem_of_getElem? (i := i) (by simpa using hi)
  rw [abg_cps] at hc
  have hc' : (c : Int) = 945 ∨ (c : Int) = 946 ∨ (c : Int) = 947 := by simp at hc; omega
  ext
  refine g_runP (octet_no_c hc') hw' hn' (by omega) (by omega) fun r J'' sub' V2 => ?_
  obtain ⟨t₂, rfl⟩ := V2
  refine hK _ _ _ _ has_nil ⟨rfl, by ext sub, ?_⟩
  rw [List.replicate_succ']
  exact ints_snoc hv
 ·rintro ys o₂ J' D k ⟨rfl, sub, hv⟩ hle C₂ hsm
  walk_at "g end"
  rw [abg_len] at hv
  ext
  refine g_freeze [] ?_
  refine g_notin_ints (by ext mem) hv ?_
  rw [decide_eq_true (by decide)]
  ext
  refine g_runP (units_c (by rw [abg_cps]; decide) (by rw [abg_len]; omega)) (by assumption) (by assumption) (by omega) (by omega) fun r J'' sub' V2 => ?_
  obtain ⟨D2, n2, vs, rfl, hD2, hv2⟩ := V2
  ext
  rename_i RW
  have hl2 : vs.length = 3 := by rw [hv2.length]; decide +kernel
  let Iv39 : Nat → Loc → Led → Led → Prop := fun i M' o' J' => ∃ us n, o' = (RW, listOf (List.toArray us) n) :: own ∧ Sub J'' J' ∧ Has M' [(.ofString "row", .ref RW)] ∧ IntsAre us (rowOf ((intsOf abg).take i)) ∧ us.length = 2 * i
  refine forG hfe (src_list hD2) Iv39 (by rintro _ _ _ _ ⟨_, _, _, q, _, _, _⟩; exact q) ⟨[], 0, rfl, .refl, by ext has, .nil, rfl⟩ ?_ ?_
  ·intro C' i v M' o₃ J₃ K hsm
   walk_at "g turn"
   rintro hi hiv hIz hK
   refine opq3 M' o₃ J₃ fun Zk hZk => ?_
   obtain ⟨us, n, rfl, sub3, has, hu, hul⟩ := hIz
   refine hZk _ _ _ ?_
   obtain ⟨u, tu, rfl, hun⟩ := ints_at hv2 hiv
   have hub : u = 945 ∨ u = 946 ∨ u = 947 := by
    have : u ∈ intsOf abg := List.mem_of_getElem? hun
    have e : intsOf abg = [945, 946, 947] := by decide +kernel
    rw [e] at this; simpa using this
   refine g_weak has ?_
   ext
   refine g_floordiv (by decide) (PyProof.noPylong_small (by omega)) fun t3 => ?_
   ext
   refine g_append [] (by rw [sizeLine_eq]; omega) ?_
   ext
   refine g_mod (by decide) fun t4 => ?_
   ext
   refine g_append [] (by rw [sizeLine_eq, List.length_append]; simp; omega) ?_
   ext
   refine hK _ _ _ _ (turnq_next ⟨_, _, rfl, by ext sub, by ext has, ?_, by simp; omega⟩)
   have e2 : (intsOf abg).take (i + 1) = (intsOf abg).take i ++ [u] := by rw [List.take_add_one, hun]; rfl
   rw [e2, rowOf_snoc]
   exact ints_snoc (ints_snoc hu)
  ·rintro M' o₃ J₃ ⟨us, n, rfl, sub3, has, hu, hul⟩
   rw [hl2] at hu hul
   have e3 : rowOf ((intsOf abg).take 3) = [3, 177, 3, 178, 3, 179] := by decide +kernel
   rw [e3] at hu
   refine nextq_next (g_weak has ?_)
   refine g_freeze [] ?_
   ext
   refine g_mkbytes hn (by ext mem) hu (by decide) (by rw [sizeLine_eq]; omega) fun t' => ?_
   ext
   refine g_add_bytes (by decide) fun t5 => ?_
   ext
   exact hret _ _ _ _ ⟨rfl, by ext sub, _, rfl⟩
noncomputable def strB (b : Array UInt8) : Str := ⟨(b.toList.map (·.toNat)).toArray⟩
theorem chars_join : ∀ l : List Nat, Str.join (Str.ofString "") (l.map fun c => (⟨#[c]⟩ : Str)) = ⟨l.toArray⟩
 | [] => rfl
 | [c] => rfl
 | c :: d :: l => by
  have ih := chars_join (d :: l)
  have e : Str.ofString "" = ⟨#[]⟩ := by decide +kernel
  simp only [List.map_cons, Str.join] at ih ⊢
  rw [ih, e]
  show (⟨(#[c] ++ #[]) ++ (d :: l).toArray⟩ : Str) = _
  simp
theorem chars_txt (l : List Nat) : Txt.join (Str.ofString "") (l.map fun c => (⟨#[c]⟩ : Str)) = ⟨l.toArray⟩ := by
 unfold Txt.join
 rw [StrLaws.glued_eq_join]
 exact chars_join l
theorem sum_ones (l : List Nat) : ((l.map fun c => (⟨#[c]⟩ : Str)).map (·.length)).sum = l.length := by
 induction l with
 | nil => rfl
 | cons c l ih => exact (congrArg (1 + ·) ih).trans (Nat.add_comm _ _)
set_option tactic.hygienic true in
theorem text_c {w : World} {own : Led} {b : Array UInt8} {t : Tok} (hch : ∀ c ∈ b.toList, 32 ≤ c.toNat ∧ c.toNat < 127) (hz : b.size ≤ 60) : RunP w 5 300 (.ref 429) [.bytes b t] own J (fun r _ => ∃ t, r = .str (strB b) t) := by
 have hst : startsB b #[254, 255] = false := by
  unfold startsB
  split
  ·rfl
  ·rename_i h
   rw [beq_eq_false_iff_ne]
   intro e
   have hm : (254 : UInt8) ∈ b.toList := by
    have h254 : (254 : UInt8) ∈ (b.extract 0 2).toList := by
     have e' : b.extract 0 2 = #[254, 255] := e
     rw [e']; simp
    rw [Array.toList_extract] at h254
    exact List.mem_of_mem_drop (List.mem_of_mem_take h254)
   have := hch _ hm
   simp at this
 walk_at "g def"
 ext
 rw [hst]
 ext
 refine g_comp [] (by ext sc) ?_
 ext
 let Iv40 : Nat → List Value → Led → Led → Prop := fun i ys o' J' => own = o' ∧ Sub J J' ∧ StrsAre ys ((b.toList.take i).map fun c => (⟨#[c.toNat]⟩ : Str))
 refine ⟨by ext sc, compG (src_bytes hn) (by ext sc) (by rw [sizeLine_eq]; omega) Iv40 noB ⟨rfl, .refl, .nil⟩ (fun _ _ => rfl) ?_ ?_⟩
 ·rintro C' i v0 ys o₂ J' D k K KS hic - ⟨c, t', hi, rfl⟩
  rintro ⟨rfl, sub, hv⟩ hK hKS
  ext comp
  have hi' : b.toList[i]? = some c := by simpa using hi
  have hc := hch c (List.mem_of_getElem? hi')
  ext
  refine g_runP (sign_c (by omega) (by omega)) hw' hn' (by omega) (by omega) fun r J'' sub' V2 => ?_
  obtain ⟨t₂, rfl⟩ := V2
  ext
  refine g_chr (by omega) (by omega) fun t₃ => ?_
  refine hK _ _ _ _ has_nil ⟨rfl, by ext sub, ?_⟩
  rw [take_map_succ _ hi']
  exact strs_snoc hv
 ·rintro ys o₂ J' D k ⟨rfl, sub, hv⟩ hle
  have hlen : b.toList.length = b.size := by simp
  rw [← hlen, List.take_length] at hv
  refine compEnd0 ?_
  ext
  refine g_freeze [] ?_
  have e : (b.toList.map fun c => (⟨#[c.toNat]⟩ : Str)) = (b.toList.map (·.toNat)).map fun c => (⟨#[c]⟩ : Str) := by rw [List.map_map]; rfl
  rw [e] at hv
  refine g_join (mR (.head _)) hv ?_ fun t' => ?_
  ·rw [sum_ones]
   have e0 : (Str.ofString "").length = 0 := by decide +kernel
   rw [e0]; simp; omega
  ·rw [chars_txt]
   ext
   exact hret _ _ _ _ ⟨rfl, by ext sub, _, rfl⟩
theorem tunits_c {w : World} {own : Led} {vs : List Value} (hD : (D, listOf vs.toArray n) ∈ J) (hv : IntsAre vs [945, 946, 947]) : RunP w 5 300 (.ref 419) [.ref D] own J (fun r _ => ∃ t, r = .str abg t) := by
 have hl : vs.length = 3 := hv.length
 cases hv with
 | cons _ t1 hv => cases hv with
 | cons _ t2 hv => cases hv with
 | cons _ t3 hv => cases hv with
 | nil =>
 walk_at "g def"
 ext
 refine g_while hfe 4 ?_
 refine WG_s ?_
 ext
 refine g_item_list (by ext mem) (by decide) (by decide) rfl ?_
 ext
 refine g_chr (by decide) (by decide) fun t4 => ?_
 ext
 refine WG_s ?_
 ext
 refine g_item_list (by ext mem) (by decide) (by decide) rfl ?_
 ext
 refine g_chr (by decide) (by decide) fun t4 => ?_
 ext
 refine WG_s ?_
 ext
 refine g_item_list (by ext mem) (by decide) (by decide) rfl ?_
 ext
 refine g_chr (by decide) (by decide) fun t4 => ?_
 ext
 refine WG_s ?_
 ext
 refine g_freeze [] ?_
 refine g_join (ys := [⟨#[945]⟩, ⟨#[946]⟩, ⟨#[947]⟩]) (mR (.head _)) (.cons _ _ (.cons _ _ (.cons _ _ .nil))) (by decide) fun t' => ?_
 have e : Txt.join (Str.ofString "") [⟨#[945]⟩, ⟨#[946]⟩, ⟨#[947]⟩] = abg := by decide +kernel
 rw [e]
 ext
 exact hret _ _ _ _ ⟨rfl, by ext sub, _, rfl⟩
noncomputable abbrev abgB : Array UInt8 := #[254, 255, 3, 177, 3, 178, 3, 179]
theorem text_abg_c {w : World} {own : Led} {t : Tok} : RunP w 7 400 (.ref 429) [.bytes abgB t] own J (fun r _ => ∃ t, r = .str abg t) := by
 walk_at "g def"
 ext
 refine g_asgcomp [(.ofString "octets", .bytes abgB t)] ?sc ?_ (by ext swl)
 case sc => ext scF
 ext
 refine g_len_bytes (by decide) fun t2 => ?_
 ext
 refine g_range3 (by decide) (by decide +kernel) fun r => ?_
 refine let Iv69 : Nat → List Value → Led → Led → Prop := fun i ys o' J' => own = o' ∧ Sub ((r, _) :: J) J' ∧ IntsAre ys ([945, 946, 947].take i);
  ⟨?sc, compG (src_rangeC (n := 3) hn (.head _) (by decide +kernel) (by decide +kernel)) ?sc (by rw [sizeLine_eq]; omega) Iv69 noB ⟨rfl, .refl, .nil⟩ (fun _ _ => rfl) ?_ ?_⟩
 case sc => ext scF
 ·rintro C' i v0 ys o₂ J' D k K KS hic hi ⟨t', rfl⟩
  rintro ⟨rfl, sub, hv⟩ hK hKS
  ext comp
  ext
  refine g_item_bytes (by decide) (by omega) (by simp; omega) fun t3 => ?_
  ext
  refine g_mul (by mul_fits) fun t4 => ?_
  ext
  refine g_item_bytes (by decide) (by omega) (by simp; omega) fun t5 => ?_
  ext
  refine hK _ _ _ _ (by ext has) ⟨rfl, by ext sub, ?_⟩
  rcases (show i = 0 ∨ i = 1 ∨ i = 2 by omega) with rfl | rfl | rfl
  all_goals exact ints_snoc hv
 ·rintro ys o₂ J' D k ⟨rfl, sub, hv⟩ hle C₂ hsm
  walk_at "g end"
  ext
  refine g_freeze [] ?_
  refine g_runP (tunits_c (.head _) hv) (by assumption) (by assumption) (by omega) (by omega) fun r J'' sub' V2 => ?_
  obtain ⟨t₂, rfl⟩ := V2
  ext
  refine g_len_bytes (by decide) fun t2 => ?_
  ext
  refine g_mod (by decide) fun t2 => ?_
  ext
  refine g_add_str (by rw [abg_len, sizeLine_eq]; decide) fun t6 => ?_
  rw [show abg ++ Str.ofString "" = abg by decide +kernel]
  ext
  exact hret _ _ _ _ ⟨rfl, by ext sub, _, rfl⟩
noncomputable def kindO : Ob → Str
 | .nam s => if s = .ofString "Tx" then .ofString "text" else if s = .ofString "Ch" then .ofString "choice" else .ofString ""
 | _ => .ofString ""
theorem kind_c {w : World} {own : Led} {T : Tab} (S : Shl w own J z T R) (V : Rep w J v (.dic l)) (ho : fetchO T 30 (look l (.ofString "FT")) = o) (h : o = .nam (.ofString "Tx") ∨ o = .nam (.ofString "Ch") ∨ o = .nul) :
  RunP w 3 100 (.ref 563) [.ref z.sh, v] own J (fun r _ => ∃ t, r = .str (kindO o) t) := by
 obtain ⟨hz1, hz2⟩ := S.lies
 ext defA
 ext
 refine g_runP (get_c S V _ _) hw hn (by omega) (by omega) fun r J' sub V2 => ?_
 rw [ho] at V2
 rcases h with rfl | rfl | rfl
 all_goals (have V3 := V2; cases V2; ext)
 all_goals exact hret1 _ _ _ _ _ ⟨rfl, by ext sub, _, rfl⟩
noncomputable def getO (T : Tab) (l : List (Str × Ob)) (k : String) : Ob := fetchO T 30 (look l (.ofString k))
noncomputable def okB (b : Array UInt8) : Prop := b = abgB ∨ ((∀ c ∈ b.toList, 32 ≤ c.toNat ∧ c.toNat < 127) ∧ b.size ≤ 60)
noncomputable def textO (b : Array UInt8) : Str := if b = abgB then abg else strB b
theorem text_any {w : World} {own : Led} {b : Array UInt8} {t : Tok} (h : okB b) : RunP w 7 400 (.ref 429) [.bytes b t] own J (fun r _ => ∃ t, r = .str (textO b) t) := by
 unfold textO
 by_cases e : b = abgB
 ·rw [if_pos e, e]; exact text_abg_c
 ·rw [if_neg e]
  rcases h with h | ⟨h1, h2⟩
  ·exact absurd h e
  ·intro C hw hD hU
   exact text_c h1 h2 C hw (by omega) (by omega)
noncomputable def okS (s : Str) : Prop := s = abg ∨ ((∀ c ∈ s.cps.toList, 32 ≤ c ∧ c < 127) ∧ s.length ≤ 60)
noncomputable def octO (s : Str) : Array UInt8 := if s = abg then abgB else byteArr (intsOf s)
theorem octets_any {w : World} {own : Led} {t : Tok} (h : okS s) : RunP w 5 300 (.ref 424) [.str s t] own J (fun r _ => ∃ t, r = .bytes (octO s) t) := by
 unfold octO
 by_cases e : s = abg
 ·rw [if_pos e, e]; exact octets_abg_c
 ·rw [if_neg e]
  rcases h with h | ⟨h1, h2⟩
  ·exact absurd h e
  ·exact octets_c h1 h2
noncomputable def nameV (o : Ob) (v : Value) : Prop := match o with
 | .str b => ∃ t, v = .str (textO b) t
 | _ => v = .none
noncomputable def okO (o : Ob) : Prop := ∀ b, o = .str b → okB b
theorem own_name_c {w : World} {own : Led} {T : Tab} (S : Shl w own J z T R) (V : Rep w J v (.dic l)) (hk : okO (getO T l "T")) : RunP w 8 500 (.ref 549) [.ref z.sh, v] own J (fun r _ => nameV (getO T l "T") r) := by
 obtain ⟨hz1, hz2⟩ := S.lies
 walk_at "g def"
 ext
 refine g_runP (get_c S V _ _) hw hn (by omega) (by omega) fun r J' sub V2 => ?_
 change Rep w J' r (getO T l "T") at V2
 generalize ho : getO T l "T" = o at V2 hk ⊢
 cases hb : isStr o
 ·ext
  refine hret _ _ _ _ ⟨rfl, by ext sub, ?_⟩
  show nameV (getO T l "T") _
  rw [ho]
  cases o <;> first | exact rfl | (cases hb; done)
 ·have V3 := V2
  cases V2 with
  | str a1 a2 =>
   ext
   refine g_runP (text_any (hk _ rfl)) hw hn (by omega) (by omega) fun r J'' sub2 V4 => ?_
   refine hret _ _ _ _ ⟨rfl, by ext sub, ?_⟩
   show nameV (getO T l "T") _
   rw [ho]
   exact V4
  | _ => cases hb
theorem text_in_c {w : World} {own : Led} {T : Tab} (S : Shl w own J z T R) {o₀ : Ob} (V : Rep w J v o₀) (hk : okO (fetchO T 30 o₀)) : RunP w 8 500 (.ref 613) [.ref z.sh, v] own J (fun r _ => nameV (fetchO T 30 o₀) r) := by
 obtain ⟨hz1, hz2⟩ := S.lies
 walk_at "g def"
 ext
 refine g_runP (fetch_c S V) hw hn (by omega) (by omega) fun r J' sub V2 => ?_
 generalize ho : fetchO T 30 o₀ = o at V2 hk
 cases hb : isStr o
 ·ext
  refine hret _ _ _ _ ⟨rfl, by ext sub, ?_⟩
  show nameV (fetchO T 30 o₀) _
  rw [ho]
  cases o <;> first | exact rfl | (cases hb; done)
 ·have V3 := V2
  cases V2 with
  | str a1 a2 =>
   ext
   refine g_runP (text_any (hk _ rfl)) hw hn (by omega) (by omega) fun r J'' sub2 V4 => ?_
   refine hret _ _ _ _ ⟨rfl, by ext sub, ?_⟩
   show nameV (fetchO T 30 o₀) _
   rw [ho]
   exact V4
  | _ => cases hb
theorem longer_c {w : World} {own : Led} {t : Tok} (hz : x.length + 1 + y.length ≤ 100) : RunP w 1 60 (.ref 556) [.str x t, .str y u] own J (fun r _ => ∃ t, r = .str (x ++ Str.ofString "." ++ y) t) := by
 have e1 : (Str.ofString ".").length = 1 := by decide +kernel
 have e2 : (x ++ Str.ofString ".").length = x.length + 1 := by
  rw [← e1]; exact Array.size_append ..
 walk_at "g def"
 ext
 refine g_add_str (by rw [sizeLine_eq]; omega) fun t1 => ?_
 ext
 refine g_add_str (by rw [sizeLine_eq]; omega) fun t1 => ?_
 ext
 exact hret _ _ _ _ ⟨rfl, by ext sub, _, rfl⟩
theorem longer_none_c {w : World} {own : Led} : RunP w 1 60 (.ref 556) [.none, .str y u] own J (fun r _ => ∃ t, r = .str y t) := by
 walk_at "g def"
 ext
 exact hret _ _ _ _ ⟨rfl, by ext sub, _, rfl⟩
theorem is_field_c {w : World} {own : Led} {T : Tab} (S : Shl w own J z T R) {o₀ : Ob} (V : Rep w J v o₀) (ho : fetchO T 30 o₀ = .dic l) {b : Array UInt8} (hT : getO T l "T" = .str b) (hb : okB b) : RunP w 10 600 (.ref 584) [.ref z.sh, v] own J (fun r _ => r = .bool true) := by
 obtain ⟨hz1, hz2⟩ := S.lies
 walk_at "g def"
 ext
 refine g_runP (fetch_c S V) hw hn (by omega) (by omega) fun r J' sub V2 => ?_
 rw [ho] at V2
 ext
 refine g_runP (own_name_c (S.mono sub) V2 (fun b' e => by rw [hT] at e; cases e; exact hb)) hw hn (by omega) (by omega) fun r J'' sub2 V3 => ?_
 rw [hT] at V3
 obtain ⟨t, rfl⟩ := V3
 ext
 exact hret _ _ _ _ ⟨rfl, by ext sub, rfl⟩
noncomputable def homeT (T : Tab) (n g n' g' : Int) : Prop := (n' = n ∧ g' = g ∧ ∃ o, T.lookup n = some (g, o) ∧ isRef o = false) ∨ (T.lookup n = some (g, .ref n' g') ∧ n ≠ n' ∧ ∃ o, T.lookup n' = some (g', o) ∧ isRef o = false)
set_option tactic.hygienic true in
theorem home_c {w : World} {own : Led} {T : Tab} (S : Shl w own J z T R) {n g n' g' : Int} (V : Rep w J v (.ref n g)) (h : homeT T n g n' g') : RunP w 1 60 (.ref 443) [.ref z.sh, v] own J (fun r J' => Rep w J' r (.ref n' g')) := by
 obtain ⟨hz1, hz2⟩ := S.lies
 obtain ⟨ot, kvs, hot, hd1, hd2, hd3⟩ := S.tab
 have V0 := V
 obtain ⟨_, _, _, _, _, _, rfl, a, b⟩ := V.ref_inv
 ext defA
 ext
 rename_i D oD loD hDs hDi
 refine g_while hfe 3 ?_
 rcases h with ⟨rfl, rfl, o, h1, h2⟩ | ⟨h1, hne, o, h2, h3⟩
 ·rcases rept_get (n := n') hd3 with ⟨e1, e2⟩ | ⟨q, g2, tk2, v2, o2, e1, e2, hq, hr⟩
  ·rw [h1] at e2; cases e2
  rw [h1] at e2; cases e2
  refine WG_s ?_
  ext
  refine g_notin (knd := PySem.intKind prog w) (b := false) hw (.head _) hDi (by assumption) (intKind_is _ _ _ _) rfl ?_
  ext
  rw [bne_self_eq_false]
  ext
  exact hret1 _ _ _ _ _ ⟨rfl, by ext sub, by ext rep⟩
 ·rcases rept_get (n := n) hd3 with ⟨e1, e2⟩ | ⟨q, g2, tk2, v2, o2, e1, e2, hq, hr⟩
  ·rw [h1] at e2; cases e2
  rw [h1] at e2; cases e2
  rcases rept_get (n := n') hd3 with ⟨f1, f2⟩ | ⟨q', g2', tk2', v2', o2', f1, f2, hq', hr'⟩
  ·rw [h2] at f2; cases f2
  rw [h2] at f2; cases f2
  have hr0 := hr
  cases hr with
  | ref c d =>
  refine WG_s ?_
  ext
  refine g_notin (knd := PySem.intKind prog w) (b := false) hw (.head _) hDi (by assumption) (intKind_is _ _ _ _) rfl ?_
  ext
  rw [bne_self_eq_false]
  ext
  refine WG_s ?_
  ext
  refine g_notin (knd := PySem.intKind prog w) (b := false) hw (.head _) (by assumption) (by assumption) (intKind_is _ _ _ _) (by simp [stored, valueAt, hne]) ?_
  ext
  rw [bne_self_eq_false]
  ext
  exact hret1 _ _ _ _ _ ⟨rfl, by ext sub, by ext rep⟩
noncomputable def putO (l : List (Str × Ob)) (k : Str) (o : Ob) : List (Str × Ob) := putG l k o
noncomputable def dropO (l : List (Str × Ob)) (k : Str) : List (Str × Ob) := l.filter fun p => decide (p.1 ≠ k)
noncomputable def isNul : Ob → Bool | .nul => true | _ => false
theorem RepK.len {w : World} (r : RepK w J kvs l) : kvs.length = l.length := by
 induction r using RepK.ind with
 | nil => rfl
 | cons a r ih => exact congrArg Nat.succ ih
theorem rep_nul {w : World} (V : Rep w J v o) : (v == .none) = isNul o := by cases V <;> rfl
theorem repk_app {w : World} (V : Rep w J v o) (r : RepK w J kvs l) : RepK w J (kvs ++ [(k, v)]) (l ++ [(k, o)]) := by
 induction r using RepK.ind with
 | nil => exact .cons V .nil
 | cons a r ih => exact .cons a ih
theorem repk_map {w : World} (V : Rep w J v o) (r : RepK w J kvs l) : RepK w J (kvs.map fun p => if p.1 = k then (p.1, v) else p) (l.map fun p => if p.1 = k then (p.1, o) else p) := by
 induction r using RepK.ind with
 | nil => exact .nil
 | @cons k₀ _ _ _ _ a r ih =>
  simp only [List.map_cons]
  by_cases e : k₀ = k
  ·rw [if_pos e, if_pos e]; exact .cons V ih
  ·rw [if_neg e, if_neg e]; exact .cons a ih
theorem repk_any {w : World} (r : RepK w J kvs l) : (kvs.any fun p => decide (p.1 = k)) = l.any fun p => decide (p.1 = k) := by
 induction r using RepK.ind with
 | nil => rfl
 | cons a r ih => rw [List.any_cons, List.any_cons, ih]
theorem repk_put {w : World} (r : RepK w J kvs l) (V : Rep w J v o) : RepK w J (stored kvs k v) (putO l k o) := by
 unfold stored putO putG
 rw [repk_any r]
 split
 ·exact repk_map V r
 ·exact repk_app V r
theorem repk_drop {w : World} (r : RepK w J kvs l) : RepK w J (without kvs k) (dropO l k) := by
 induction r using RepK.ind with
 | nil => exact .nil
 | @cons k₀ _ _ _ _ a r ih =>
  unfold without dropO at ih ⊢
  simp only [List.filter_cons]
  by_cases e : k₀ = k
  ·simpa [e] using ih
  ·simpa [e] using RepK.cons a ih
theorem repk_at {w : World} (r : RepK w J kvs l) : ∀ {i : Nat} {k : Str} {v : Value}, kvs[i]? = some (k, v) → ∃ o, l[i]? = some (k, o) ∧ Rep w J v o := by
 induction r using RepK.ind with
 | nil => exact fun h => nomatch h
 | cons a r ih =>
  intro i k v h
  cases i with
  | zero => cases h; exact ⟨_, rfl, a⟩
  | succ i => exact ih h
theorem repk_keys {w : World} (r : RepK w J kvs l) : kvs.map (·.1) = l.map (·.1) := by
 induction r using RepK.ind with
 | nil => rfl
 | cons a r ih => rw [List.map_cons, List.map_cons, ih]
theorem putO_len : (putO l k o).length ≤ l.length + 1 := putG_len
noncomputable def inh1 (T : Tab) (l : List (Str × Ob)) (acc : List (Str × Ob)) (p : Str × Ob) : List (Str × Ob) := if isNul (fetchO T 30 (look l p.1)) then putO acc p.1 p.2 else acc
noncomputable def inhO (T : Tab) (l gs : List (Str × Ob)) : List (Str × Ob) := gs.foldl (inh1 T l) l
theorem inh_len {T : Tab} {acc : List (Str × Ob)} : (gs.foldl (inh1 T l) acc).length ≤ acc.length + gs.length :=
 foldLen fun a x => by unfold inh1; split; exact putO_len; exact Nat.le_succ _
theorem take_foldl {f : β → α → β} {l : List α} {a : α} {b : β} (h : l[i]? = some a) : (l.take (i + 1)).foldl f b = f ((l.take i).foldl f b) a := by
 rw [List.take_add_one, h, List.foldl_append]; rfl
theorem with_c {w : World} {own : Led} {T : Tab} (S : Shl w own J z T R) {gv : Value} (V : Rep w J v (.dic l)) (Vg : Rep w J gv (.dic gs)) (hnd : (gs.map (·.1)).Nodup) (hsz : l.length + gs.length ≤ 100) :
  RunP w 3 120 (.ref 570) [.ref z.sh, v, gv] own J (fun r J' => Rep w J' r (.dic (inhO T l gs))) := by
 obtain ⟨hz1, hz2⟩ := S.lies
 have V0 := V
 obtain ⟨ad, od, kvs, rfl, a1, a2, a3, a4⟩ := V.dic_inv
 obtain ⟨bd, ob, gvs, rfl, b1, b2, b3, b4⟩ := Vg.dic_inv
 have hnd' : (gvs.map (·.1)).Nodup := by rw [repk_keys b4]; exact hnd
 have hl := a4.len
 have hg := b4.len
 walk_at "g def"
 ext
 refine g_dcopy hw (mR a1) a2 a3 (by rw [sizeLine_eq]; omega) fun d' o' lo' ho' => ?_
 ext
 let Iv21 : Nat → Loc → Led → Led → Prop := fun i M' o' J' => ∃ o₁ kvs₁, o' = (d', o₁) :: own ∧ Sub J J' ∧ o₁.IsDictOf (PySem.strKind prog w) kvs₁ ∧ RepK w J' kvs₁ ((gs.take i).foldl (inh1 T l) l) ∧ Has M' [(.ofString "shelf", .ref z.sh), (.ofString "head", .ref ad), (.ofString "given", .ref bd), (.ofString "found", .ref d')]
 refine forG hfe (src_dict hw hn (knd := PySem.strKind prog w) b1 b2 b3) Iv21 (by rintro _ _ _ _ ⟨_, _, _, q, _, _, _⟩; exact q) ⟨o', kvs, rfl, .refl, by simpa using ho', by simpa using a4, by ext has⟩ ?_ ?_
 ·intro C' i v M' o₂ J' K hsm
  walk_at "g turn"
  rintro - ⟨k, x, hi, hk⟩ hIz hK
  refine opq3 M' o₂ J' fun Zk hZk => ?_
  obtain ⟨o₁, kvs₁, rfl, sub, hd₁, hr₁, has⟩ := hIz
  refine hZk _ _ _ ?_
  obtain ⟨t, rfl⟩ := str_is hk
  obtain ⟨ok, hgi, hV⟩ := repk_at b4 hi
  have hv := PySem.valueAt_of_get hnd' hi
  have hlen1 := inh_len (T := T) (l := l) (gs := gs.take i) (acc := l)
  have hlen2 := List.length_take_le' i gs
  have hlen3 := hr₁.len
  have hs1 : kvs₁.length ≤ sizeLine := by rw [sizeLine_eq]; omega
  refine g_weak has ?_
  ext
  have S' : Shl w ((d', o₁) :: own) J' z T R := (S.mono sub).own fun _ c => .tail _ c
  refine g_runP (get_c S' (V0.mono sub) k t) hw' hn' (by omega) (by omega) fun r J'' sub2 V2 => ?_
  ext
  rw [rep_nul V2]
  refine ⟨fun e => ?_, fun e => ?_⟩
  ·ext
   refine g_item (knd := PySem.strKind prog w) hw' (mR (sub2 _ (sub _ b1))) b2 (strKind_is _ _ _ _) hv ?_
   ext
   refine hK _ _ _ _ (turnq_next ⟨_, _, rfl, by ext sub, by assumption, ?_, by ext has⟩)
   rw [take_foldl hgi]
   unfold inh1
   rw [if_pos e]
   exact repk_put (RepK.mono sub2 hr₁) (hV.mono (Sub.trans sub sub2))
  ·ext
   refine hK _ _ _ _ (turnq_next ⟨_, _, rfl, by ext sub, by assumption, ?_, by ext has⟩)
   rw [take_foldl hgi]
   unfold inh1
   rw [if_neg (by rw [e]; decide)]
   exact RepK.mono sub2 hr₁
 ·rintro M' o₂ J' ⟨o₁, kvs₁, rfl, sub, hd₁, hr₁, has⟩
  refine nextq_next (g_weak has (g_freeze [] ?_))
  ext
  refine hret _ _ _ _ ⟨rfl, by ext sub, .dic (.head _) hd₁ lo' ?_⟩
  rw [hg, List.take_length] at hr₁
  exact RepK.mono (Sub.cons .refl) hr₁
theorem c_mkStr (w : World) (own J : Led) (b : Array UInt8) (t : Tok) : RunP w 2 40 (.ref 217) [.bytes b t] own J (fun r J' => Rep w J' r (.str b)) := by
 refine' run_cls (by decide) (by decide) ?hm ?hi ?hf ?ho ?hcd ?hbind ?hkind ?hnd ?hco ?hgen ?hk ?body
 case hm => k_is
 case hi => k_is
 case hf => k_is
 case ho => k_is
 case hcd => k_is
 case hbind => exact fun x s' X => binds_K (T := 207) X rfl (by k_is) rfl rfl rfl
 case hkind => exact fun x => rfl
 case hnd => decide
 case hco => exact rfl
 case hgen => exact rfl
 case hk => exact rfl
 intro C x dx hw hs hl hdl hul hn hfe hoc Qf hQ hQ0
 replace hn := hn rfl
 dsimp only [List.reverse, List.reverseAux]
 ext
 exact hQ _ [] _ _ _ _ ⟨rfl, by ext sub, .str (.tail _ (.head _)) (.head _)⟩
structure FieldAt (w : World) (J : Led) (v : Value) (name : Str) (n g : Int) (head : List (Str × Ob)) (kind : Str) : Prop where
 is : ∃ x dx t1 t2 t3 t4 t5 t6 u1 u2 rv av wv hv, v = .ref x ∧ (x, instObj 468 dx) ∈ J ∧ (dx, dictOf [key w "name" t1 (.str name u1), key w "reference" t2 (.ref rv), key w "above" t3 av, key w "widgets" t4 wv, key w "head" t5 (.ref hv), key w "kind" t6 (.str kind u2)] 6) ∈ J ∧ Rep w J (.ref rv) (.ref n g) ∧ Rep w J (.ref hv) (.dic head)
theorem FieldAt.mono {w : World} {name kind : Str} {n g : Int} {head : List (Str × Ob)} (h : FieldAt w J v name n g head kind) (s : Sub J J') : FieldAt w J' v name n g head kind := by
 obtain ⟨x, dx, t1, t2, t3, t4, t5, t6, u1, u2, rv, av, wv, hv, a, b, c, d, e⟩ := h.is
 exact ⟨x, dx, t1, t2, t3, t4, t5, t6, u1, u2, rv, av, wv, hv, a, s _ b, s _ c, d.mono s, e.mono s⟩
theorem c_mkField (w : World) (own J : Led) {name kind : Str} {u1 u2 : Tok} {rv av wv hv : Value} {n g : Int} {head : List (Str × Ob)} (V : Rep w J rv (.ref n g)) (H : Rep w J hv (.dic head)) : RunP w 2 60 (.ref 468) [.str name u1, rv, av, wv, hv, .str kind u2] own J (fun r J' => FieldAt w J' r name n g head kind) := by
 obtain ⟨ra, rfl⟩ : ∃ ra, rv = .ref ra := by cases V; exact ⟨_, rfl⟩
 obtain ⟨ha, rfl⟩ : ∃ ha, hv = .ref ha := by cases H; exact ⟨_, rfl⟩
 walk_at "g cls"
 ext
 exact hQ _ [] _ _ _ _ ⟨rfl, by ext sub, ⟨_, _, _, _, _, _, _, _, _, _, _, _, _, _, rfl, .tail _ (.head _), .head _, V.mono (Sub.cons (Sub.cons .refl)), H.mono (Sub.cons (Sub.cons .refl))⟩⟩
structure TourAt (w : World) (J : Led) (v : Value) (fd nd sn : Addr) : Prop where
 is : ∃ x dx t1 t2 t3, v = .ref x ∧ (x, instObj 489 dx) ∈ J ∧ (dx, dictOf [key w "fields" t1 (.ref fd), key w "nodes" t2 (.ref nd), key w "seen" t3 (.ref sn)] 3) ∈ J
theorem TourAt.mono {w : World} {fd nd sn : Addr} (h : TourAt w J v fd nd sn) (s : Sub J J') : TourAt w J' v fd nd sn := by
 obtain ⟨x, dx, t1, t2, t3, a, b, c⟩ := h.is
 exact ⟨x, dx, t1, t2, t3, a, s _ b, s _ c⟩
theorem c_mkWalk (w : World) (own J : Led) : Run w 2 60 (.ref 489) [] own J noR (fun r o' J' => ∃ fd nd sn os, o' = (sn, os) :: (nd, listOf (List.toArray []) 0) :: (fd, listOf (List.toArray []) 0) :: own ∧ Sub J J' ∧ os.IsDictOf (PySem.intKind prog w) [] ∧ (sn == sysModules) = false ∧ TourAt w J' r fd nd sn) := by
 walk_at "g cls"
 ext
 exact hQ _ [_, _, _] _ _ _ _ ⟨_, _, _, _, rfl, by ext sub, by assumption, by assumption, ⟨_, _, _, _, _, rfl, .tail _ (.head _), .head _⟩⟩
theorem node_c {w : World} {l2 : Led} {T : Tab} {sn fd nd : Addr} {os : Obj} {svs : List (Int × Value)} (S : Shl w (l1 ++ (sn, os) :: l2) J z T R) {tv : Value} (Tr : TourAt w J tv fd nd sn) (hos : os.IsDictOf (PySem.intKind prog w) svs) (losn : (sn == sysModules) = false)
  {n g n' g' : Int} (hnew : (valueAt svs n').isSome = false) (hsz : svs.length ≤ sizeLine) (V : Rep w J v (.ref n g)) (hh : homeT T n g n' g') (hf : fetchO T 30 (.ref n' g') = .dic l) :
  Run w 3 150 (.ref 577) [.ref z.sh, tv, v] (l1 ++ (sn, os) :: l2) J noR (fun r o' J' => ∃ os' q hv dv, o' = l1 ++ (sn, os') :: l2 ∧ Sub J J' ∧ os'.IsDictOf (PySem.intKind prog w) (stored svs n' (.bool true)) ∧ r = .ref q ∧ (q, tup [hv, dv]) ∈ J' ∧ Rep w J' hv (.ref n' g') ∧ Rep w J' dv (.dic l)) := by
 obtain ⟨hz1, hz2⟩ := S.lies
 obtain ⟨x, dx, t1, t2, t3, rfl, hx1, hx2⟩ := Tr.is
 walk_at "g def"
 ext
 refine g_runP (home_c S V hh) hw hn (by omega) (by omega) fun r J' sub V2 => ?_
 ext
 refine g_runP (fetch_c (S.mono sub) V2) hw hn (by omega) (by omega) fun r J'' sub2 V3 => ?_
 rw [hf] at V3
 have V2' := V2.mono sub2
 obtain ⟨_, _, _, _, _, _, rfl, a, b⟩ := V2'.ref_inv
 ext
 refine g_setitem hw l1 (knd := PySem.intKind _ _) hos (intKind_is _ _ _ _) hsz (fun o' ho' => ?_)
 ext
 exact hret _ _ _ _ ⟨_, _, _, _, rfl, by ext sub, ho', rfl, .head _, .ref (.tail _ a) (.tail _ b), V3.mono (Sub.cons .refl)⟩
theorem widgets_c {w : World} {own : Led} {T : Tab} (S : Shl w own J z T R) {tv hv dv kv : Value} (V : Rep w J dv (.dic l)) (K : Rep w J kv (.arr [])) (hsty : getO T l "Subtype" = .nul) :
  RunP w 4 150 (.ref 589) [.ref z.sh, tv, hv, dv, kv] own J (fun r J' => ∃ D n, r = .ref D ∧ (D, listOf (List.toArray []) n) ∈ J') := by
 obtain ⟨hz1, hz2⟩ := S.lies
 cases K with
 | arr a1 a2 =>
 cases a2
 ext defA
 ext
 refine g_runP (get_c S V _ _) hw hn (by omega) (by omega) fun r J' sub V2 => ?_
 change Rep w J' r (getO T l "Subtype") at V2
 rw [hsty] at V2
 have V3 := V2
 cases V2
 ext
 exact hret1 _ _ _ _ _ ⟨rfl, by ext sub, _, _, rfl, .head _⟩
noncomputable def inhKeys : List Str := [.ofString "FT", .ofString "Ff", .ofString "V", .ofString "DV", .ofString "MaxLen", .ofString "Opt"]
noncomputable def hand1 (h acc : List (Str × Ob)) (k : Str) : List (Str × Ob) := if (h.lookup k).isSome then putO acc k (look h k) else acc
noncomputable def handO (h : List (Str × Ob)) : List (Str × Ob) := inhKeys.foldl (hand1 h) []
noncomputable def refsO (ks : List Int) : List Ob := ks.map fun k => .ref k 0
structure Form (T : Tab) (R : List (Str × Ob)) (h0 : List (Str × Ob)) (ks : List Int) (hd : Int → List (Str × Ob)) (nm : Int → Array UInt8) : Prop where
 root : ∃ rt fm, fetchO T 30 (look R (.ofString "Root")) = .dic rt ∧ fetchO T 30 (look rt (.ofString "AcroForm")) = .dic fm ∧ getO T fm "Fields" = .arr [.ref 3 0]
 node : T.lookup 3 = some (0, .dic h0)
 name0 : getO T h0 "T" = .str #[97]
 kids0 : getO T h0 "Kids" = .arr (refsO ks)
 kid : ∀ k ∈ ks, T.lookup k = some (0, .dic (hd k)) ∧ getO T (hd k) "T" = .str (nm k) ∧ getO T (hd k) "Kids" = .nul ∧ getO T (hd k) "Subtype" = .nul ∧ okB (nm k) ∧ (textO (nm k)).length ≤ 60 ∧ (hd k).length ≤ 20
 ft : ∀ k ∈ ks, let o := getO T (inhO T (hd k) (handO h0)) "FT"; o = .nam (.ofString "Tx") ∨ o = .nam (.ofString "Ch") ∨ o = .nul
 ne : ks ≠ []
 few : ks.length ≤ 4
 nd : (3 :: ks).Nodup
 small : h0.length ≤ 20
 ndk : (h0.map (·.1)).Nodup
noncomputable abbrev wholeH (T : Tab) (h0 h : List (Str × Ob)) : List (Str × Ob) := inhO T h (handO h0)
noncomputable abbrev nameA : Str := .ofString "a"
noncomputable def fullN (b : Array UInt8) : Str := nameA ++ Str.ofString "." ++ textO b
inductive FieldsAt (w : World) (J : Led) (T : Tab) (h0 : List (Str × Ob)) (hd : Int → List (Str × Ob)) (nm : Int → Array UInt8) : List Value → List Int → Prop
 | nil : FieldsAt w J T h0 hd nm [] []
 | cons {v : Value} {k : Int} {vs : List Value} {ks : List Int} : FieldAt w J v (fullN (nm k)) k 0 (wholeH T h0 (hd k)) (kindO (getO T (wholeH T h0 (hd k)) "FT")) → FieldsAt w J T h0 hd nm vs ks → FieldsAt w J T h0 hd nm (v :: vs) (k :: ks)
theorem FieldsAt.mono {w : World} {T : Tab} {hd : Int → List (Str × Ob)} (s : Sub J J') {vs : List Value} (r : FieldsAt w J T h0 hd nm vs ks) : FieldsAt w J' T h0 hd nm vs ks := by
 induction r with
 | nil => exact .nil
 | cons a r ih => exact .cons (a.mono s) ih
theorem FieldsAt.len {w : World} {T : Tab} {hd : Int → List (Str × Ob)} {vs : List Value} (r : FieldsAt w J T h0 hd nm vs ks) : vs.length = ks.length := by
 induction r with
 | nil => rfl
 | cons a r ih => exact congrArg Nat.succ ih
theorem FieldsAt.snoc {w : World} {J : Led} {T : Tab} {h0 : List (Str × Ob)} {hd : Int → List (Str × Ob)} {nm : Int → Array UInt8} {v : Value} {k : Int} (F : FieldAt w J v (fullN (nm k)) k 0 (wholeH T h0 (hd k)) (kindO (getO T (wholeH T h0 (hd k)) "FT"))) {vs : List Value} {ks : List Int} (r : FieldsAt w J T h0 hd nm vs ks) : FieldsAt w J T h0 hd nm (vs ++ [v]) (ks ++ [k]) := by
 induction r with
 | nil => exact .cons F .nil
 | cons a r ih => exact .cons a ih
theorem RepL.len {w : World} {vs : List Value} {l : List Ob} (r : RepL w J vs l) : vs.length = l.length := by
 induction r using RepL.ind with
 | nil => rfl
 | cons a r ih => exact congrArg Nat.succ ih
theorem RepL.at {w : World} {vs : List Value} {l : List Ob} (r : RepL w J vs l) : ∀ {i : Nat} {v : Value}, vs[i]? = some v → ∃ o, l[i]? = some o ∧ Rep w J v o := by
 induction r using RepL.ind with
 | nil => exact fun h => nomatch h
 | cons a r ih =>
  intro i v h
  cases i with
  | zero => cases h; exact ⟨_, rfl, a⟩
  | succ i => exact ih h
set_option tactic.hygienic true in
theorem putO_keys (h : (l.map (·.1)).Nodup) : ((putO l k o).map (·.1)).Nodup := putG_keys h
theorem hand_keys {h : List (Str × Ob)} : ((handO h).map (·.1)).Nodup := by
 have key : ∀ (ks : List Str) (acc : List (Str × Ob)), (acc.map (·.1)).Nodup → ((ks.foldl (hand1 h) acc).map (·.1)).Nodup := by
  intro ks
  induction ks with
  | nil => exact fun acc z => z
  | cons k ks ih =>
   intro acc z
   refine ih _ ?_
   unfold hand1
   split
   ·exact putO_keys z
   ·exact z
 exact key _ _ List.nodup_nil
theorem hand_len {h : List (Str × Ob)} : (handO h).length ≤ 6 :=
 foldLen (l := inhKeys) fun a x => by unfold hand1; split; exact putO_len; exact Nat.le_succ _
inductive Waits (w : World) (J : Led) (gs : List (Str × Ob)) : List Value → List Int → Prop
 | nil : Waits w J gs [] []
 | snoc {q : Addr} {kv av gv : Value} {t : Tok} {k : Int} {vs : List Value} {ks : List Int} : (q, tup [kv, av, .str nameA t, gv]) ∈ J → Rep w J kv (.ref k 0) → Rep w J gv (.dic gs) → Waits w J gs vs ks → Waits w J gs (vs ++ [.ref q]) (k :: ks)
theorem Waits.mono {w : World} (s : Sub J J') {vs : List Value} (r : Waits w J gs vs ks) : Waits w J' gs vs ks := by
 induction r with
 | nil => exact .nil
 | snoc a b c r ih => exact .snoc (s _ a) (b.mono s) (c.mono s) ih
theorem Waits.len {w : World} {vs : List Value} (r : Waits w J gs vs ks) : vs.length = ks.length := by
 induction r with
 | nil => rfl
 | snoc a b c r ih => simp [ih]
structure Toured (w : World) (J : Led) (T : Tab) (h0 : List (Str × Ob)) (hd : Int → List (Str × Ob)) (nm : Int → Array UInt8) (ks : List Int) (r : Value) : Prop where
 is : ∃ fd nd sn fvs n1 nq hv, TourAt w J r fd nd sn ∧ (fd, listOf (List.toArray fvs) n1) ∈ J ∧ FieldsAt w J T h0 hd nm fvs ks ∧ (nd, listOf (List.toArray [.ref nq]) 1) ∈ J ∧ (nq, tup [hv, .none]) ∈ J ∧ Rep w J hv (.ref 3 0)
theorem walk_c {w : World} {own : Led} {T : Tab} {hd : Int → List (Str × Ob)} (S : Shl w own J z T R) (Fm : Form T R h0 ks hd nm) :
  RunP w 14 900 (.ref 594) [.ref z.sh] own J (fun r J' => Toured w J' T h0 hd nm ks r) := by
 obtain ⟨hz1, hz2⟩ := S.lies
 obtain ⟨rt, fm, hrt, hfm, hfs⟩ := Fm.root
 walk_at "g def"
 ext
 refine g_runK (c_mkWalk w _ _) hw hn (by omega) (by omega) ?_
 intro Zk hZk
 rintro r o' J₁ ⟨fd, nd, sn, os, rfl, sub1, hos, losn, Tr⟩
 refine hZk _ _ _ ?_
 obtain ⟨tx, tdx, tt1, tt2, tt3, rfl, htx1, htx2⟩ := id Tr.is
 have S1 : ∀ {J' : Led} (l : Led), Sub J J' → Shl w (l ++ own) J' z T R := fun l s => (S.mono s).own fun _ c => mR c
 ext
 refine g_asgcomp [] ?sc ?_ (by ext swl)
 case sc => ext sc
 ext
 refine g_runP (form_c (S1 [_, _, _] sub1) hrt hfm) hw hn (by omega) (by omega) fun r2 J₂ sub2 V2 => ?_
 ext
 refine g_runP (row_c (S1 [_, _, _] (Sub.trans sub1 sub2)) V2 (.inl hfs)) hw hn (by omega) (by omega) fun r3 J₃ sub3 V3 => ?_
 obtain ⟨ra, rn, vs3, rfl, a1, a2⟩ := V3.arr_inv
 cases a2 with
 | @cons v3 _ _ _ V4 a3 =>
 cases a3
 ext
 refine g_reversed a1 fun I => ?_
 let Iv1 : Nat → List Value → Led → Led → Prop := fun i ys o' J' => o' = (sn, os) :: (nd, listOf (List.toArray []) 0) :: (fd, listOf (List.toArray []) 0) :: own ∧ Sub J₃ J' ∧ ((i = 0 ∧ ys = []) ∨ (i = 1 ∧ ∃ q gv, ys = [.ref q] ∧ (q, tup [v3, .none, .none, gv]) ∈ J' ∧ Rep w J' gv (.dic [])))
 refine ⟨?sc, compG (src_rev hn a1) ?sc (size_ok rfl) Iv1 (by rintro _ _ _ _ ⟨_, q, _⟩; exact q) ⟨rfl, .refl, .inl ⟨rfl, rfl⟩⟩ (fun _ _ => rfl) ?_ ?_⟩
 case sc => ext sc
 ·intro C' i v ys o₂ J' D k K KS hic hlt0 hi
  rintro ⟨rfl, sub, hv⟩ hK hKS
  ext comp
  have hi0 : i = 0 := by
   rcases i with _ | i
   ·rfl
   ·simp at hi
  subst hi0
  have hv3 : v = v3 := by simpa using hi.symm
  subst hv3
  obtain rfl : ys = [] := by
   rcases hv with ⟨_, h⟩ | ⟨h, _⟩
   ·exact h
   ·cases h
  walk_at "gnd"
  refine g_dict0F hw' fun d o lo hs1 hi1 => ?_
  ext
  refine hK _ _ _ _ has_nil ⟨rfl, by ext sub, .inr ⟨rfl, _, _, rfl, .head _, .dic (.tail _ (.head _)) hs1 lo .nil⟩⟩
 ·rintro ys o₂ J₄ D k ⟨rfl, sub4, hv⟩ hle C₂ hsm
  walk_at "g end"
  rcases hv with ⟨h, _⟩ | ⟨_, q, gv, rfl, hq, hgv⟩
  ·cases h
  ext
  have subA : Sub J J₄ := Sub.trans sub1 (Sub.trans sub2 (Sub.trans sub3 sub4))
  have Tr4 : TourAt w J₄ (.ref tx) fd nd sn := Tr.mono (Sub.trans sub2 (Sub.trans sub3 sub4))
  have V4' : Rep w J₄ v3 (.ref 3 0) := V4.mono sub4
  let Iv2 : Nat → Loc → Led → Led → Prop := fun n M o J' => Sub J₄ J' ∧ Has M [(.ofString "line", .ref D), (.ofString "tour", .ref tx), (.ofString "shelf", .ref z.sh)] ∧
   ((n = ks.length + 1 ∧ o = (D, listOf (List.toArray [.ref q]) k) :: (sn, os) :: (nd, listOf (List.toArray []) 0) :: (fd, listOf (List.toArray []) 0) :: own) ∨
    (∃ i vs c os' svs fvs n1 nq hv, n = ks.length - i ∧ i ≤ ks.length ∧ o = (D, listOf (List.toArray vs) c) :: (sn, os') :: (nd, listOf (List.toArray [.ref nq]) 1) :: (fd, listOf (List.toArray fvs) n1) :: own ∧ Waits w J' (handO h0) vs (ks.drop i) ∧ os'.IsDictOf (PySem.intKind prog w) svs ∧ (∀ k ∈ ks.drop i, (valueAt svs k).isSome = false) ∧ svs.length ≤ i + 1 ∧ FieldsAt w J' T h0 hd nm fvs (ks.take i) ∧ (nq, tup [hv, .none]) ∈ J' ∧ Rep w J' hv (.ref 3 0)))
  refine g_while_inv hfe Iv2 (ks.length + 1) ⟨.refl, by ext has, .inl ⟨rfl, rfl⟩⟩ ?_
  rintro n M o J' W ⟨sub, has, hP⟩ hK
  refine g_weak has ?_
  clear has
  have Tr' := Tr4.mono sub
  rcases hP with ⟨rfl, rfl⟩ | ⟨i, vs, c, os', svs, fvs, n1, nq, hv, rfl, hi, rfl, wt, hos', hnew, hsl, hfv, hnq, hhv⟩
  ·have hq' := sub _ hq
   ext
   refine g_lpop [] (p := []) (by rw [sizeLine_eq]; decide) ?_
   ext
   refine g_runK (node_c (l1 := [(D, _)]) (S1 [_, _, _, _] (Sub.trans subA sub)) Tr' hos losn (by rfl) (by rw [sizeLine_eq]; decide) (V4'.mono sub) (.inl ⟨rfl, rfl, _, Fm.node, rfl⟩) (l := h0) (fetch1 Fm.node)) hw hn (by omega) (by omega) ?_
   intro Zk hZk
   rintro r5 o5 J5 ⟨os5, q5, hv5, dv5, rfl, sub5, hos5, rfl, hq5, hhv5, hdv5⟩
   refine hZk _ _ _ ?_
   ext
   have subB : Sub J J5 := Sub.trans subA (Sub.trans sub sub5)
   refine g_runP (own_name_c (S1 [_, _, _, _] subB) hdv5 (fun b e => by rw [Fm.name0] at e; cases e; exact .inr ⟨by decide, by decide⟩)) hw hn (by omega) (by omega) fun r6 J6 sub6 V6 => ?_
   rw [Fm.name0] at V6
   obtain ⟨t6, rfl⟩ := V6
   ext
   refine g_runP longer_none_c hw hn (by omega) (by omega) fun r7 J7 sub7 V7 => ?_
   obtain ⟨t7, rfl⟩ := V7
   rw [show textO #[97] = nameA by decide +kernel]
   ext
   have hgv' := hgv.mono (Sub.trans sub (Sub.trans sub5 (Sub.trans sub6 sub7)))
   have hdv7 := hdv5.mono (Sub.trans sub6 sub7)
   refine g_runP (with_c (S1 [_, _, _, _] (Sub.trans subB (Sub.trans sub6 sub7))) hdv7 hgv' List.nodup_nil (by have := Fm.small; simp; omega)) hw hn (by omega) (by omega) fun r8 J8 sub8 V8 => ?_
   change Rep w J8 r8 (.dic h0) at V8
   ext
   refine g_runP (row_c (S1 [_, _, _, _] (Sub.trans subB (Sub.trans sub6 (Sub.trans sub7 sub8)))) (hdv7.mono sub8) (.inl Fm.kids0)) hw hn (by omega) (by omega) fun r9 J9 sub9 V9 => ?_
   ext
   have subC : Sub J J9 := Sub.trans subB (Sub.trans sub6 (Sub.trans sub7 (Sub.trans sub8 sub9)))
   obtain ⟨ka, kn, kvs, rfl, c1, c2⟩ := V9.arr_inv
   have kl : kvs.length = ks.length := by rw [c2.len]; simp [refsO]
   refine g_asgcomp [(.ofString "shelf", .ref z.sh)] ?sc ?_ (by ext swl)
   case sc => ext scF
   ext
   let Iv3 : Nat → List Value → Led → Led → Prop := fun i ys o' J' => o' = [(D, listOf (List.toArray []) (k + 1)), (sn, os5), (nd, listOf (List.toArray []) 0), (fd, listOf (List.toArray []) 0)] ++ own ∧ Sub J9 J' ∧ ys = kvs.take i
   refine ⟨?sc, compG (src_list c1) ?sc (by have := Fm.few; rw [sizeLine_eq]; omega) Iv3 (by rintro _ _ _ _ ⟨_, q, _⟩; exact q) ⟨rfl, .refl, rfl⟩ (fun _ _ => rfl) ?_ ?_⟩
   case sc => ext scF
   ·intro C' i v ys o₂ J' D' k K KS hic hlt0 hi
    rintro ⟨rfl, sub10, rfl⟩ hK hKS
    ext comp
    obtain ⟨o', ho', Vk⟩ := c2.at hi
    obtain ⟨kk, hkk, rfl⟩ : ∃ kk, kk ∈ ks ∧ o' = .ref kk 0 := by
     simp only [refsO, List.getElem?_map] at ho'
     cases hz : ks[i]? with
     | none => rw [hz] at ho'; cases ho'
     | some kk => rw [hz] at ho'; cases ho'; exact ⟨kk, List.mem_of_getElem? hz, rfl⟩
    obtain ⟨k1, k2, k3, k4, k5, k6, k7⟩ := Fm.kid kk hkk
    ext
    refine g_runP (is_field_c (S1 [_, _, _, _, _] (Sub.trans subC sub10)) (Vk.mono sub10) (l := hd kk) (fetch1 k1) k2 k5) hw' hn' (by omega) (by omega) fun r10 J10 sub11 V10 => ?_
    subst V10
    ext
    refine hK _ _ _ _ (by ext has) ⟨rfl, by ext sub, ?_⟩
    rw [List.take_add_one, hi]; rfl
   ·rintro ys o₂ J10 Di ki ⟨rfl, sub10, rfl⟩ hle C₂ hsm
    walk_at "g end"
    rw [List.take_length]
    have subD : Sub J₁ J10 := Sub.trans sub2 (Sub.trans sub3 (Sub.trans sub4 (Sub.trans sub (Sub.trans sub5 (Sub.trans sub6 (Sub.trans sub7 (Sub.trans sub8 (Sub.trans sub9 sub10))))))))
    have htx1' := subD _ htx1
    have htx2' := subD _ htx2
    have hkz : kvs.length ≤ sizeLine := by have := Fm.few; rw [sizeLine_eq]; omega
    have hpos : (0 : Int) < (kvs.length : Int) := by
     have := Fm.ne
     rw [kl]
     cases ks with
     | nil => exact absurd rfl this
     | cons a b => simp
    refine g_freeze [] ?_
    ext
    rw [decide_eq_true hpos]
    ext
    rename_i nq
    obtain ⟨wa, wo, wkvs, rfl, e1, e2, e3, e4⟩ := V8.dic_inv
    have e1' := (Sub.trans sub9 sub10) _ e1
    have e4' := RepK.mono (Sub.trans sub9 sub10) e4
    refine g_asg ?_ (swaps_cD (by assumption) rfl (by with_unfolding_all rfl))
    refine g_dcomp [(.ofString "whole", .ref wa)] ?sc ?_
    case sc => ext scF
    ext
    let Iv9 : Nat → List (Str × Value) → Led → Led → Prop := fun i ys o' J' => o' = [(D, listOf (List.toArray []) (k + 1)), (sn, os5), (nd, listOf (List.toArray [.ref nq]) 1), (fd, listOf (List.toArray []) 0)] ++ own ∧ Sub ((nq, tup [hv5, .none]) :: (Di, listOf (List.toArray kvs) ki) :: J10) J' ∧ RepK w J' ys ((inhKeys.take i).foldl (hand1 h0) [])
    refine ⟨?sc, compGD (knd := PySem.strKind prog w) hw (src_base (vs := [.str (.ofString "FT") 762, .str (.ofString "Ff") 763, .str (.ofString "V") 764, .str (.ofString "DV") 765, .str (.ofString "MaxLen") 766, .str (.ofString "Opt") 767]) hw hn (by k_is) rfl rfl) ?sc (size_ok rfl) Iv9 noB ⟨rfl, .refl, .nil⟩ (fun _ _ => rfl) ?_ ?_⟩
    case sc => ext scF
    ·intro C' i v ys o₂ J' D' oD K KS hic hlt0 hi
     rintro ⟨rfl, sub11, hr11⟩ hoD hK hKS
     ext comp
     obtain ⟨kk, tk, rfl, hkk⟩ : ∃ kk tk, v = .str kk tk ∧ inhKeys[i]? = some kk := by
      rcases i with _ | _ | _ | _ | _ | _ | i
      all_goals first | (simp at hi; subst hi; exact ⟨_, _, rfl, rfl⟩) | (simp at hi)
     ext
     have w1 : (wa, wo) ∈ J' := sub11 _ (.tail _ (.tail _ e1'))
     rcases repk_get (n := kk) e4' with ⟨f1, f2⟩ | ⟨v', o', f1, f2, Vv⟩
     ·refine g_in (knd := PySem.strKind prog w) (b := false) hw' (mR w1) e2 e3 (strKind_is _ _ _ _) (by rw [f1]; rfl) ?_
      ext
      refine hKS _ _ _ (by ext has) ⟨rfl, sub11, ?_⟩
      rw [take_foldl hkk]
      unfold hand1
      rw [if_neg (by rw [f2]; decide)]
      exact hr11
     ·refine g_in (knd := PySem.strKind prog w) (b := true) hw' (mR w1) e2 e3 (strKind_is _ _ _ _) (by rw [f1]; rfl) ?_
      ext
      refine g_item (knd := PySem.strKind prog w) hw' (mR w1) e2 (strKind_is _ _ _ _) f1 ?_
      ext
      refine hK kk _ _ _ _ _ (strKind_is _ _ _ _) (by ext has) ⟨rfl, sub11, ?_⟩
      rw [take_foldl hkk]
      unfold hand1
      rw [if_pos (by rw [f2]; rfl)]
      refine repk_put hr11 ?_
      have el : look h0 kk = o' := by simp [look, f2]
      rw [el]
      exact Vv.mono (Sub.trans (Sub.cons (Sub.cons .refl)) sub11)
    ·rintro ys o₂ J11 Dh oDh loDh hoDh ⟨rfl, sub11, hr11⟩ hle
     have hgs : RepK w J11 ys (handO h0) := hr11
     refine g_freeze [] ?_
     have htx3 : (tx, instObj 489 tdx) ∈ J11 := sub11 _ (.tail _ (.tail _ htx1'))
     ext
     refine g_comp [(.ofString "home", hv5), (.ofString "full", .str nameA t7), (.ofString "handed", .ref Dh)] ?sc ?_
     case sc => ext scF
     ext
     have hDi : (Di, listOf (List.toArray kvs) ki) ∈ (Dh, oDh) :: J11 := .tail _ (sub11 _ (.tail _ (.head _)))
     refine g_reversed hDi fun I2 => ?_
     let Iv4 : Nat → List Value → Led → Led → Prop := fun i ys o' J' => o' = [(D, listOf (List.toArray []) (k + 1)), (sn, os5), (nd, listOf (List.toArray [.ref nq]) 1), (fd, listOf (List.toArray []) 0)] ++ own ∧ Sub ((Dh, oDh) :: J11) J' ∧ ∃ m, m + i = ks.length ∧ Waits w J' (handO h0) ys (ks.drop m)
     refine ⟨?sc, compG (src_rev hn hDi) ?sc hkz Iv4 (by rintro _ _ _ _ ⟨_, q, _⟩; exact q) ⟨rfl, .refl, ks.length, rfl, by rw [List.drop_length]; exact .nil⟩ (fun _ _ => rfl) ?_ ?_⟩
     case sc => ext scF
     ·intro C' i v ys' o₂ J' D' kk K KS hic hlt0 hi
      rintro ⟨rfl, sub12, m, hm, wts⟩ hK hKS
      ext comp
      have hiN : i < kvs.length := by
       have := (List.getElem?_eq_some_iff.mp hi).1
       simpa using this
      obtain ⟨m', rfl⟩ : ∃ m', m = m' + 1 := ⟨m - 1, (Nat.succ_pred_eq_of_pos (Nat.pos_of_lt_add_left (n := i) (by rw [hm, ← kl]; exact hiN))).symm⟩
      have hi2 : kvs[m']? = some v := by
       rw [List.getElem?_reverse hiN] at hi
       rw [← hi, kl, ← hm, Nat.sub_right_comm, Nat.add_sub_cancel, Nat.add_sub_cancel]
      obtain ⟨o', ho', Vk⟩ := c2.at hi2
      obtain ⟨kn, hkn, rfl⟩ : ∃ kn, ks[m']? = some kn ∧ o' = .ref kn 0 := by
       simp only [refsO, List.getElem?_map] at ho'
       cases hz : ks[m']? with
       | none => rw [hz] at ho'; cases ho'
       | some kn => rw [hz] at ho'; cases ho'; exact ⟨kn, rfl, rfl⟩
      ext
      refine hK _ _ _ _ (by ext has) ⟨rfl, by ext sub, m', by omega, ?_⟩
      have ed : ks.drop m' = kn :: ks.drop (m' + 1) := by
       have hlt := (List.getElem?_eq_some_iff.mp hkn).1
       have hge := (List.getElem?_eq_some_iff.mp hkn).2
       rw [List.drop_eq_getElem_cons hlt, hge]
      rw [ed]
      refine .snoc (.head _) (Vk.mono ?_) (.dic (.tail _ (sub12 _ (.head _))) hoDh loDh (RepK.mono (Sub.cons (Sub.trans (Sub.cons .refl) sub12)) hgs)) (wts.mono (Sub.cons .refl))
      refine Sub.cons (Sub.trans (Sub.cons ?_) sub12)
      exact Sub.trans sub10 (Sub.trans (Sub.cons (Sub.cons .refl)) sub11)
     ·rintro ys' o₂ J12 De ke ⟨rfl, sub12, m, hm, wts⟩ hle'
      have hm0 : m = 0 := by omega
      subst hm0
      rw [List.drop_zero] at wts
      refine compEnd0 ?_
      refine g_freeze [] ?_
      ext
      refine g_lextend [] (.head _) (by
       intro e; have := wts.len; rw [e] at this
       have hne := Fm.ne
       cases ks with
       | nil => exact hne rfl
       | cons a b => simp at this) (by have := wts.len; have := Fm.few; simp; omega) ?_
      ext
      have subE : Sub J₄ J12 := Sub.trans (Sub.trans sub (Sub.trans sub5 (Sub.trans sub6 (Sub.trans sub7 (Sub.trans sub8 (Sub.trans sub9 sub10)))))) (Sub.trans (Sub.cons (Sub.cons .refl)) (Sub.trans sub11 (Sub.trans (Sub.cons .refl) sub12)))
      have subF : Sub J5 J12 := Sub.trans (Sub.trans sub6 (Sub.trans sub7 (Sub.trans sub8 (Sub.trans sub9 sub10)))) (Sub.trans (Sub.cons (Sub.cons .refl)) (Sub.trans sub11 (Sub.trans (Sub.cons .refl) sub12)))
      refine hK ks.length _ _ _ (Nat.lt_succ_self _) ⟨Sub.cons subE, by ext has, .inr ⟨0, ys', _, os5, _, [], 0, nq, hv5, rfl, Nat.zero_le _, rfl, wts.mono (Sub.cons .refl), hos5, fun k hk => ?_, by decide, .nil, .tail _ (sub12 _ (.tail _ (sub11 _ (.head _)))), hhv5.mono (Sub.cons subF)⟩⟩
      rw [List.drop_zero] at hk
      have h3 : (3 : Int) ≠ k := fun e => (List.nodup_cons.mp Fm.nd).1 (e ▸ hk)
      rw [va_stored_ne h3]; rfl
  ·rcases Nat.eq_or_lt_of_le hi with rfl | hlt
   ·rw [List.drop_length] at wt
    cases wt
    rw [List.take_length] at hfv
    refine g_freeze [] (g_freeze [] (g_freeze [] (g_freeze [] ?_)))
    ext
    have s4 : Sub J' ((fd, listOf (List.toArray fvs) n1) :: (nd, listOf (List.toArray [.ref nq]) 1) :: (sn, os') :: (D, listOf #[] c) :: J') := Sub.cons (Sub.cons (Sub.cons (Sub.cons .refl)))
    exact hret _ _ _ _ ⟨rfl, Sub.trans (Sub.trans subA sub) s4, ⟨fd, nd, sn, fvs, n1, nq, hv, Tr'.mono s4, .head _, hfv.mono s4, .tail _ (.head _), s4 _ hnq, hhv.mono s4⟩⟩
   ·obtain ⟨kk, ed⟩ : ∃ kk, ks.drop i = kk :: ks.drop (i + 1) := ⟨_, List.drop_eq_getElem_cons hlt⟩
    have hkk : kk ∈ ks := List.mem_of_mem_drop (i := i) (by rw [ed]; exact .head _)
    have htk : ks.take (i + 1) = ks.take i ++ [kk] := by
     have : ks[i]? = some kk := by
      have := congrArg List.head? ed
      simpa [List.head?_drop] using this
     rw [List.take_add_one, this]; rfl
    obtain ⟨k1, k2, k3, k4, k5, k6, k7⟩ := Fm.kid kk hkk
    have hnk : (valueAt svs kk).isSome = false := hnew kk (by rw [ed]; exact .head _)
    have hfew := Fm.few
    rw [ed] at wt
    cases wt with
    | @snoc q2 kv av gv2 t2 _ vs2 _ g1 g2 g3 g4 =>
    have hvl : vs2.length ≤ 4 := by have := g4.len; rw [this, List.length_drop]; exact Nat.le_trans (Nat.sub_le _ _) Fm.few
    have hvz : (vs2 ++ [Value.ref q2]).length ≤ sizeLine := by rw [sizeLine_eq]; simp; omega
    have hpos : (0 : Int) < ((vs2 ++ [Value.ref q2]).length : Int) := by simp
    have subG : Sub J J' := Sub.trans subA sub
    ext
    rw [decide_eq_true hpos]
    ext
    refine g_lpop [] (by rw [sizeLine_eq]; omega) ?_
    ext
    refine g_runK (node_c (l1 := [(D, _)]) (S1 [_, _, _, _] subG) Tr' hos' losn hnk (by rw [sizeLine_eq]; omega) g2 (.inl ⟨rfl, rfl, _, k1, rfl⟩) (l := hd kk) (fetch1 k1)) hw hn (by omega) (by omega) ?_
    intro Zk hZk
    rintro r5 o5 J5 ⟨os5, q5, hv5, dv5, rfl, sub5, hos5, rfl, hq5, hhv5, hdv5⟩
    refine hZk _ _ _ ?_
    ext
    have subB : Sub J J5 := Sub.trans subG sub5
    refine g_runP (own_name_c (S1 [_, _, _, _] subB) hdv5 (fun b e => by rw [k2] at e; cases e; exact k5)) hw hn (by omega) (by omega) fun r6 J6 sub6 V6 => ?_
    rw [k2] at V6
    obtain ⟨t6, rfl⟩ := V6
    ext
    refine g_runP (longer_c (by have := (by decide +kernel : nameA.length = 1); omega)) hw hn (by omega) (by omega) fun r7 J7 sub7 V7 => ?_
    obtain ⟨t7, rfl⟩ := V7
    ext
    have hdv7 := hdv5.mono (Sub.trans sub6 sub7)
    refine g_runP (with_c (S1 [_, _, _, _] (Sub.trans subB (Sub.trans sub6 sub7))) hdv7 (g3.mono (Sub.trans sub5 (Sub.trans sub6 sub7))) hand_keys (by have := hand_len (h := h0); omega)) hw hn (by omega) (by omega) fun r8 J8 sub8 V8 => ?_
    ext
    refine g_runP (row_c (S1 [_, _, _, _] (Sub.trans subB (Sub.trans sub6 (Sub.trans sub7 sub8)))) (hdv7.mono sub8) (.inr ⟨k3, rfl⟩)) hw hn (by omega) (by omega) fun r9 J9 sub9 V9 => ?_
    have V9' := V9
    obtain ⟨ka, kn, vs9, rfl, c1, c2⟩ := V9.arr_inv
    cases c2
    have subC : Sub J J9 := Sub.trans subB (Sub.trans sub6 (Sub.trans sub7 (Sub.trans sub8 sub9)))
    ext
    refine g_asgcomp [(.ofString "shelf", .ref z.sh)] ?sc ?_ (by ext swl)
    case sc => ext scF
    ext
    let Iv5 : Nat → List Value → Led → Led → Prop := fun i ys o' J' => o' = [(D, listOf (List.toArray vs2) (c + 1)), (sn, os5), (nd, listOf (List.toArray [.ref nq]) 1), (fd, listOf (List.toArray fvs) n1)] ++ own ∧ Sub J9 J' ∧ ys = []
    refine ⟨?sc, compG (src_list c1) ?sc (size_ok rfl) Iv5 (by rintro _ _ _ _ ⟨_, q, _⟩; exact q) ⟨rfl, .refl, rfl⟩ (fun _ _ => rfl) ?_ ?_⟩
    case sc => ext scF
    ·intro C' i v ys o₂ J' D' k K KS hic hlt0 hi
     simp at hi
    ·rintro ys o₂ J10 Di ki ⟨rfl, sub10, rfl⟩ hle C₂ hsm
     walk_at "g end"
     refine g_freeze [] ?_
     ext
     have subX : Sub J9 ((Di, listOf (List.toArray []) ki) :: J10) := Sub.trans sub10 (Sub.cons .refl)
     have subD : Sub J₄ J10 := Sub.trans sub (Sub.trans sub5 (Sub.trans sub6 (Sub.trans sub7 (Sub.trans sub8 (Sub.trans sub9 sub10)))))
     refine g_runP (widgets_c (S1 [_, _, _, _] (Sub.trans subC subX)) (hdv7.mono (Sub.trans sub8 (Sub.trans sub9 subX))) (V9'.mono subX) k4) hw hn (by omega) (by omega) fun r11 J11 sub11 V11 => ?_
     obtain ⟨Dw, nw, rfl, hDw⟩ := V11
     have subY : Sub J9 J11 := Sub.trans subX sub11
     have sub4Y : Sub J₁ J11 := Sub.trans (Sub.trans sub2 (Sub.trans sub3 sub4)) (Sub.trans subD (Sub.trans (Sub.cons .refl) sub11))
     have htx1' := sub4Y _ htx1
     have htx2' := sub4Y _ htx2
     ext
     have V8' := V8.mono (Sub.trans sub9 subY)
     refine g_runP (kind_c (S1 [_, _, _, _] (Sub.trans subC subY)) V8' rfl (Fm.ft kk hkk)) hw hn (by omega) (by omega) fun r12 J12 sub12 V12 => ?_
     obtain ⟨t12, rfl⟩ := V12
     ext
     have hhv12 : Rep w J12 hv5 (.ref kk 0) := hhv5.mono (Sub.trans sub6 (Sub.trans sub7 (Sub.trans sub8 (Sub.trans sub9 (Sub.trans subY sub12)))))
     refine g_runP (c_mkField w _ _ hhv12 (V8'.mono sub12)) hw hn (by omega) (by omega) fun r13 J13 sub13 V13 => ?_
     have hfl : fvs.length ≤ sizeLine := by
      rw [hfv.len, sizeLine_eq]
      exact Nat.le_trans (List.length_take_le' i ks) (Nat.le_trans hfew (by decide))
     ext
     refine g_append [_, _, _] hfl ?_
     ext
     have subZ : Sub J₄ J13 := Sub.trans subD (Sub.trans (Sub.cons .refl) (Sub.trans sub11 (Sub.trans sub12 sub13)))
     have subW : Sub J' J13 := Sub.trans (Sub.trans sub5 (Sub.trans sub6 (Sub.trans sub7 (Sub.trans sub8 (Sub.trans sub9 sub10))))) (Sub.trans (Sub.cons .refl) (Sub.trans sub11 (Sub.trans sub12 sub13)))
     refine hK (ks.length - (i + 1)) _ _ _ (Nat.sub_succ_lt_self _ _ hlt) ⟨subZ, by ext has, .inr ⟨i + 1, vs2, _, os5, _, fvs ++ [r13], _, nq, hv, rfl, hlt, rfl, g4.mono subW, hos5, fun k hk => ?_, ?_, ?_, subW _ hnq, hhv.mono subW⟩⟩
     ·have hk' : k ∈ ks.drop i := by rw [ed]; exact .tail _ hk
      have hnd : (ks.drop i).Nodup := List.Nodup.sublist (List.drop_sublist i ks) (List.nodup_cons.mp Fm.nd).2
      rw [ed] at hnd
      have hne : kk ≠ k := fun e => (List.nodup_cons.mp hnd).1 (e ▸ hk)
      rw [va_stored_ne hne]
      exact hnew k hk'
     ·exact Nat.le_trans stored_len' (Nat.succ_le_succ hsl)
     ·rw [htk]
      exact FieldsAt.snoc V13 (hfv.mono subW)
section
variable {w : World} {own J : Led} {z : Shf} {T : Tab} {R h0 : List (Str × Ob)} {ks : List Int} {hd : Int → List (Str × Ob)} {nm : Int → Array UInt8}
theorem FieldsAt.at {vs : List Value} {l : List Int} (r : FieldsAt w J T h0 hd nm vs l) : ∀ {i : Nat} {v : Value}, vs[i]? = some v → ∃ k, l[i]? = some k ∧ FieldAt w J v (fullN (nm k)) k 0 (wholeH T h0 (hd k)) (kindO (getO T (wholeH T h0 (hd k)) "FT")) := by
 induction r with
 | nil => exact fun h => nomatch h
 | cons a r ih =>
  intro i v h
  cases i with
  | zero => cases h; exact ⟨_, rfl, a⟩
  | succ i => exact ih h
theorem ff_c (S : Shl w own J z T R) (Fm : Form T R h0 ks hd nm) : RunP w 15 950 (.ref 601) [.ref z.sh] own J (fun r J' => ∃ fd fvs n1, r = .ref fd ∧ (fd, listOf (List.toArray fvs) n1) ∈ J' ∧ FieldsAt w J' T h0 hd nm fvs ks) := by
 walk_at "g def"
 ext
 refine g_runP (walk_c S Fm) hw hn (by omega) (by omega) fun r J' sub V => ?_
 obtain ⟨fd, nd, sn, fvs, n1, nq, hv, Tr, hfd, hF, -, -, -⟩ := V.is
 obtain ⟨x, dx, t1, t2, t3, rfl, hx1, hx2⟩ := Tr.is
 ext
 exact hret _ _ _ _ ⟨rfl, by ext sub, fd, fvs, n1, rfl, hfd, hF⟩
theorem named_c (S : Shl w own J z T R) (Fm : Form T R h0 ks hd nm) {name : Str} {t : Tok} (hne : ks.filter (fun k => fullN (nm k) == name) ≠ []) : RunP w 16 1000 (.ref 606) [.ref z.sh, .str name t] own J (fun r J' => ∃ fd fvs n1, r = .ref fd ∧ (fd, listOf (List.toArray fvs) n1) ∈ J' ∧ FieldsAt w J' T h0 hd nm fvs (ks.filter fun k => fullN (nm k) == name)) := by
 have hfew := Fm.few
 walk_at "g def"
 refine g_cons (g_asgcomp [(.ofString "name", .str name t)] ?sc ?_ (by ext swl))
 case sc => ext scF
 ext
 refine g_runP (ff_c S Fm) hw hn (by omega) (by omega) fun r J' sub V => ?_
 obtain ⟨fd, fvs, n1, rfl, hfd, hF⟩ := V
 have hfl := hF.len
 let Iv22 : Nat → List Value → Led → Led → Prop := fun i ys o' J₂ => own = o' ∧ Sub J' J₂ ∧ FieldsAt w J₂ T h0 hd nm ys ((ks.take i).filter fun k => fullN (nm k) == name)
 refine ⟨?sc, compG (src_list hfd) ?sc (by rw [sizeLine_eq]; omega) Iv22 (by rintro _ _ _ _ ⟨_, q, _⟩; exact q) ⟨rfl, .refl, .nil⟩ (fun _ _ => rfl) ?_ ?_⟩
 case sc => ext scF
 ·intro C' i v ys o₂ J₂ D k K KS hic hlt0 hi
  rintro ⟨rfl, sub2, hys⟩ hK hKS
  ext comp
  obtain ⟨kk, hkk, Fv⟩ := hF.at hi
  have Fv' := Fv.mono sub2
  have htk : (ks.take (i + 1)).filter (fun k => fullN (nm k) == name) = (ks.take i).filter (fun k => fullN (nm k) == name) ++ if fullN (nm kk) == name then [kk] else [] := by
   rw [List.take_add_one, hkk, List.filter_append]
   congr 1
   simp [List.filter_cons]
  obtain ⟨x, dx, t1, t2, t3, t4, t5, t6, u1, u2, rv, av, wv, hv, rfl, hx1, hx2, -, -⟩ := Fv'.is
  ext
  refine ⟨fun e => ?_, fun e => ?_⟩
  ·ext
   refine hK _ _ _ _ (by ext has) ⟨rfl, sub2, ?_⟩
   rw [htk, if_pos e]
   exact FieldsAt.snoc Fv' hys
  ·refine hKS _ _ _ (by ext has) ⟨rfl, sub2, ?_⟩
   rw [htk, if_neg (by rw [e]; decide), List.append_nil]
   exact hys
 ·rintro ys o₂ J₂ D k ⟨rfl, sub2, hys⟩ hle C₂ hsm
  walk_at "g end"
  rw [hfl, List.take_length] at hys
  have hyl := hys.len
  have hyz : ys.length ≤ sizeLine := by rw [sizeLine_eq]; omega
  refine g_freeze [] ?_
  ext
  have hy0 : ((ys.length : Int) == 0) = false := by
   rw [beq_eq_false_iff_ne]
   intro e
   have : ys.length = 0 := by omega
   rw [hyl] at this
   exact hne (List.eq_nil_of_length_eq_zero this)
  rw [hy0]
  ext
  exact hret _ _ _ _ ⟨rfl, by ext sub, _, _, _, rfl, .head _, hys.mono (Sub.cons .refl)⟩
end
theorem merged_len {K : Type} [DecidableEq K] {more kvs : List (K × Value)} : (merged kvs more).length ≤ kvs.length + more.length := foldLen (f := fun a (p : K × Value) => stored a p.1 p.2) fun a x => putG_len (l := a)
theorem places_at {a0 a1 a2 a3 a4 a5 a6 a7 a8 a9 a10 a11 a12 a13 : Tok} (hword : word = .ofString "read only" ∨ word = .ofString "combo" ∨ word = .ofString "no export") :
  ∃ n t, valueAt (stored (merged [(.ofString "read only", .int 1 a0), (.ofString "required", .int 2 a1), (.ofString "no export", .int 3 a2), (.ofString "multi line", .int 13 a3), (.ofString "password", .int 14 a4), (.ofString "no toggle to off", .int 15 a5)] [(.ofString "radio", .int 16 a6), (.ofString "push", .int 17 a7), (.ofString "combo", .int 18 a8), (.ofString "edit", .int 19 a9), (.ofString "sort", .int 20 a10), (.ofString "multi select", .int 22 a11), (.ofString "comb", .int 25 a12)]) (.ofString "in unison") (.int 26 a13)) word = some (.int n t) ∧ (1 ≤ n ∧ n ≤ 30) := by
 rcases hword with rfl | rfl | rfl
 ·exact ⟨1, a0, by kernel_rfl, by decide, by decide⟩
 ·exact ⟨18, a8, by kernel_rfl, by decide, by decide⟩
 ·exact ⟨3, a2, by kernel_rfl, by decide, by decide⟩
theorem place_c {w : World} {own : Led} {t : Tok} (hword : word = .ofString "read only" ∨ word = .ofString "combo" ∨ word = .ofString "no export") : RunP w 1 60 (.ref 500) [.str word t] own J (fun r _ => ∃ n t, r = .int n t ∧ 1 ≤ n ∧ n ≤ 30) := by
 walk_at "g def"
 ext
 refine g_freeze [] ?_
 refine g_update hw [] (knd := PySem.strKind prog w) (by assumption) (.head _) (by assumption) (by assumption) (size_ok rfl) fun o' ho' => ?_
 walk_at "gns"
 refine g_setitem hw [] (knd := PySem.strKind prog w) ho' (strKind_is _ _ _ _) (Nat.le_trans merged_len (size_ok rfl)) fun o₂ ho₂ => ?_
 ext
 refine g_freeze [] ?_
 refine g_item_int hw (mR (.head _)) ho₂ (strKind_is _ _ _ _) (places_at hword) fun n t hn => ?_
 ext
 exact hret _ _ _ _ ⟨rfl, by ext sub, _, _, rfl, hn.1, hn.2⟩
theorem flag_c {w : World} {own : Led} {t : Tok} (hword : word = .ofString "read only" ∨ word = .ofString "combo" ∨ word = .ofString "no export") : RunP w 2 100 (.ref 507) [.int 0 u, .str word t] own J (fun r _ => r = .bool false) := by
 walk_at "g def"
 ext
 refine g_runP (place_c hword) hw hn (by omega) (by omega) fun r J' sub V => ?_
 obtain ⟨n, t2, rfl, h1, h2⟩ := V
 ext
 refine g_rshift (by omega) fun t3 => ?_
 ext
 have e : (Builtin.bitAnd (Int.fdiv 0 (2 ^ (n - 1).toNat)) 1 == 1) = false := by rw [Int.zero_fdiv]; decide
 rw [e]
 exact hret _ _ _ _ ⟨rfl, by ext sub, rfl⟩
theorem has_flag_c {w : World} {own : Led} {T : Tab} (S : Shl w own J z T R) {name kind : Str} {n g : Int} {head : List (Str × Ob)} (F : FieldAt w J v name n g head kind) (hff : look head (.ofString "Ff") = .nul) {t : Tok} (hword : word = .ofString "read only" ∨ word = .ofString "combo" ∨ word = .ofString "no export") :
  RunP w 5 160 (.ref 528) [.ref z.sh, v, .str word t] own J (fun r _ => r = .bool false) := by
 obtain ⟨hz1, hz2⟩ := S.lies
 obtain ⟨x, dx, t1, t2, t3, t4, t5, t6, u1, u2, rv, av, wv, hv, rfl, hx1, hx2, hrv, hhv⟩ := F.is
 walk_at "g def"
 ext
 refine g_runP (flags_c S hhv hff) hw hn (by omega) (by omega) fun r J' sub V => ?_
 obtain ⟨t7, rfl⟩ := V
 ext
 refine g_runP (flag_c hword) hw hn (by omega) (by omega) fun r J'' sub2 V => ?_
 subst V
 ext
 exact hret _ _ _ _ ⟨rfl, by ext sub, rfl⟩
noncomputable def lets (most : Ob) (s : Str) : Prop := ∀ m, most = .int m → (s.length : Int) ≤ m
theorem text_change_c {w : World} {own : Led} {T : Tab} (S : Shl w own J z T R) {name kind : Str} {n g : Int} {head : List (Str × Ob)} (F : FieldAt w J v name n g head kind) {t : Tok} (hok : okS s) (hlen : s.length ≤ 1000) (hname : name.length ≤ 100) :
  RunB false w 6 400 (.ref 651) [.ref z.sh, v, .str s t] own J (fun o' J' => o' = own ∧ Sub J J' ∧ ¬ lets (wholeO (getO T head "MaxLen")) s) (fun r o' J' => o' = own ∧ Sub J J' ∧ lets (wholeO (getO T head "MaxLen")) s ∧ Rep w J' r (.dic [(.ofString "V", .str (octO s))])) := by
 obtain ⟨hz1, hz2⟩ := S.lies
 obtain ⟨x, dx, t1, t2, t3, t4, t5, t6, u1, u2, rv, av, wv, hv, rfl, hx1, hx2, hrv, hhv⟩ := F.is
 ext defA
 ext
 refine g_runP (whole_c S hhv _ _) hw hn (by omega) (by omega) fun r J' sub V => ?_
 change Rep w J' r (wholeO (getO T head "MaxLen")) at V
 have hcase : wholeO (getO T head "MaxLen") = .nul ∨ ∃ m, wholeO (getO T head "MaxLen") = .int m := by
  cases getO T head "MaxLen" <;> first | exact .inl rfl | exact .inr ⟨_, rfl⟩
 rcases hcase with hmo | ⟨m, hmo⟩
 ·rw [hmo] at V
  cases V
  ext
  refine g_runP (octets_any hok) hw hn (by omega) (by omega) fun r3 J3 sub3 V3 => ?_
  obtain ⟨t9, rfl⟩ := V3
  ext
  refine g_runP (c_mkStr w _ _ _ _) hw hn (by omega) (by omega) fun r4 J4 sub4 V4 => ?_
  ext
  refine hret1 _ _ _ _ _ ⟨rfl, by ext sub, ?_, .dic (.head _) (by assumption) (by assumption) (.cons (V4.mono (Sub.cons .refl)) .nil)⟩
  intro m e; rw [hmo] at e; cases e
 ·rw [hmo] at V
  cases V
  by_cases hm : m < (s.length : Int)
  ·ext
   rw [decide_eq_true hm]
   ext
   refine g_raise hn (by k_is) ?_
   ext
   refine g_add_str (by have := (by decide +kernel : (Str.ofString "no text for the field ").length = 22); rw [sizeLine_eq]; omega) fun t10 => ?_
   ext
   refine g_runK (c_draft false w _ _ _) hw hn (by omega) (by omega) ?_
   intro Zk hZk
   rintro r5 o5 J5 ⟨y, t11, d11, rfl, rfl, sub5⟩
   refine hZk _ _ _ ?_
   refine ⟨y, t11, d11, [], own, rfl, rfl, hX _ _ _ ⟨rfl, by ext sub, fun h => ?_⟩⟩
   have := h m hmo
   omega
  ·ext
   rw [decide_eq_false hm]
   ext
   refine g_runP (octets_any hok) hw hn (by omega) (by omega) fun r3 J3 sub3 V3 => ?_
   obtain ⟨t9, rfl⟩ := V3
   ext
   refine g_runP (c_mkStr w _ _ _ _) hw hn (by omega) (by omega) fun r4 J4 sub4 V4 => ?_
   ext
   refine hret1 _ _ _ _ _ ⟨rfl, by ext sub, ?_, .dic (.head _) (by assumption) (by assumption) (.cons (V4.mono (Sub.cons .refl)) .nil)⟩
   intro m' e; rw [hmo] at e; cases e; omega
noncomputable def putT (T : Tab) (n g : Int) (o : Ob) : Tab := putG T n (g, o)
theorem rept_any {w : World} {n : Int} {kvs : List (Int × Value)} {T : Tab} (r : RepT w J kvs T) : (kvs.any fun p => decide (p.1 = n)) = T.any fun p => decide (p.1 = n) := by
 induction r with
 | nil => rfl
 | cons a b r ih => rw [List.any_cons, List.any_cons, ih]
theorem rept_app {w : World} {n g : Int} {q : Addr} {t : Tok} (h : (q, tup [.int g t, v]) ∈ J) (V : Rep w J v o) {kvs : List (Int × Value)} {T : Tab} (r : RepT w J kvs T) : RepT w J (kvs ++ [(n, .ref q)]) (T ++ [(n, (g, o))]) := by
 induction r with
 | nil => exact .cons h V .nil
 | cons a b r ih => exact .cons a b ih
theorem rept_map {w : World} {n g : Int} {q : Addr} {t : Tok} (h : (q, tup [.int g t, v]) ∈ J) (V : Rep w J v o) {kvs : List (Int × Value)} {T : Tab} (r : RepT w J kvs T) : RepT w J (kvs.map fun p => if p.1 = n then (p.1, .ref q) else p) (T.map fun p => if p.1 = n then (p.1, (g, o)) else p) := by
 induction r with
 | nil => exact .nil
 | @cons k _ _ _ _ _ _ _ a b r ih =>
  simp only [List.map_cons]
  by_cases e : k = n
  ·rw [if_pos e, if_pos e]; exact .cons h V ih
  ·rw [if_neg e, if_neg e]; exact .cons a b ih
theorem rept_put {w : World} {n g : Int} {q : Addr} {t : Tok} {kvs : List (Int × Value)} {T : Tab} (r : RepT w J kvs T) (h : (q, tup [.int g t, v]) ∈ J) (V : Rep w J v o) : RepT w J (stored kvs n (.ref q)) (putT T n g o) := by
 unfold stored putT putG
 rw [rept_any r]
 split
 ·exact rept_map h V r
 ·exact rept_app h V r
theorem RepT.len {w : World} {kvs : List (Int × Value)} {T : Tab} (r : RepT w J kvs T) : kvs.length = T.length := by
 induction r with
 | nil => rfl
 | cons a b r ih => exact congrArg Nat.succ ih
structure ShO (w : World) (J : Led) (z : Shf) (T : Tab) (R : List (Str × Ob)) (ot od : Obj) : Prop where
 lies : z.Lies w J
 tab : ∃ kvs, Tbl w J z.t ot T kvs
 tra : ∃ dvs, Dct w J z.tr od dvs R
theorem ShO.mono {w : World} {T : Tab} {od : Obj} (h : ShO w J z T R ot od) (s : Sub J J') : ShO w J' z T R ot od :=
 ⟨h.lies.mono s, h.tab.imp fun _ z => z.mono s, h.tra.imp fun _ z => z.mono s⟩
theorem ShO.shl {w : World} {own : Led} {T : Tab} {od : Obj} (h : ShO w J z T R ot od) (h1 : (z.t, ot) ∈ own) (h2 : (z.tr, od) ∈ own) : Shl w own J z T R :=
 ⟨h.lies, h.tab.elim fun a z => ⟨ot, a, h1, z⟩, h.tra.elim fun a z => ⟨od, a, h2, z⟩⟩
theorem layO_c {w : World} {l2 : Led} {T : Tab} {od : Obj} (S : ShO w J z T R ot od) (hT : T.length ≤ 100) {n g : Int} {rv : Value} (V : Rep w J rv (.ref n g)) (W : Rep w J v o) :
  Run w 2 60 (.ref 450) [.ref z.sh, rv, v] (l1 ++ (z.t, ot) :: (z.tr, od) :: l2) J noR (fun r own' J' => ∃ ot', own' = l1 ++ (z.t, ot') :: (z.tr, od) :: l2 ∧ Sub J J' ∧ ShO w J' z (putT T n g o) R ot' od) := by
 obtain ⟨kvs, h1, h2, h3⟩ := S.tab
 have hl := h3.len
 intro C hw hD hU hn M
 refine (lay_c S.lies h1 (by rw [sizeLine_eq]; omega) V C hw hD hU hn M).mono ?_ ?_
 ·rintro r M' o' J' ⟨rfl, ot', q, t, rfl, sub, hq, hd⟩
  exact ⟨rfl, ot', rfl, sub, (S.mono sub).lies, ⟨_, hd, h2, rept_put (h3.mono sub) hq (W.mono sub)⟩, (S.mono sub).tra⟩
 ·rintro M' o' J' ⟨rfl, h⟩
  exact ⟨rfl, h⟩
noncomputable def turnO (acc : List (Str × Ob)) (p : Str × Ob) : List (Str × Ob) := if isNul p.2 then dropO acc p.1 else putO acc p.1 p.2
noncomputable def turnsO (l cs : List (Str × Ob)) : List (Str × Ob) := cs.foldl turnO l
theorem repk_turn {w : World} {cvs : List (Str × Value)} {cs : List (Str × Ob)} (r : RepK w J cvs cs) : ∀ {kvs : List (Str × Value)} {l : List (Str × Ob)}, RepK w J kvs l → RepK w J (cvs.foldl turn1 kvs) (cs.foldl turnO l) := by
 induction r using RepK.ind with
 | nil => exact fun h => h
 | cons a r ih =>
  intro kvs l h
  simp only [List.foldl_cons]
  refine ih ?_
  unfold turn1 turnO
  dsimp only
  rw [rep_nul a]
  split
  ·exact repk_drop h
  ·exact repk_put h a
theorem turnedO_c {w : World} {own : Led} {hv : Value} {cs : List (Str × Ob)} (V : Rep w J hv (.dic l)) (W : Rep w J cv (.dic cs)) (hnd : (cs.map (·.1)).Nodup) (hsz : l.length + cs.length ≤ 100) : RunP w 1 60 (.ref 436) [hv, cv] own J (fun r J' => Rep w J' r (.dic (turnsO l cs))) := by
 obtain ⟨_, _, _, rfl, a1, a2, a3, a4⟩ := V.dic_inv
 cases W with
 | dic b1 b2 b3 b4 =>
 have e1 := a4.len
 have e2 := b4.len
 intro C hw hD hU hn M
 refine (turned_c (mR a1) a2 a3 b1 b2 b3 (fun i k x h => PySem.valueAt_of_get (by rw [repk_keys b4]; exact hnd) h) (by rw [sizeLine_eq]; omega) C hw hD hU hn M).mono ?_ ?_
 ·rintro r M' o' J' ⟨rfl, rfl, sub, d, o, rfl, lo, hd, ho⟩
  exact ⟨rfl, rfl, sub, .dic hd ho lo (repk_turn (RepK.mono sub b4) (RepK.mono sub a4))⟩
 ·rintro M' o' J' ⟨rfl, h⟩
  exact ⟨rfl, h⟩
theorem lay_change_c {w : World} {l2 : Led} {T : Tab} {od : Obj} (S : ShO w J z T R ot od) (hT : T.length ≤ 100) {name kind : Str} {n g : Int} {head cs : List (Str × Ob)} (F : FieldAt w J v name n g head kind) (hk1 : kind ≠ .ofString "check") (hk2 : kind ≠ .ofString "radio")
  (W : Rep w J cv (.dic cs)) (hnd : (cs.map (·.1)).Nodup) (hsz : l.length + cs.length ≤ 100) (hcur : fetchO T 30 (.ref n g) = .dic l) :
  Run w 4 150 (.ref 675) [.ref z.sh, v, cv] (l1 ++ (z.t, ot) :: (z.tr, od) :: l2) J noR (fun r own' J' => ∃ ot', own' = l1 ++ (z.t, ot') :: (z.tr, od) :: l2 ∧ Sub J J' ∧ ShO w J' z (putT T n g (.dic (turnsO l cs))) R ot' od) := by
 obtain ⟨hz1, hz2⟩ := S.lies
 obtain ⟨x, dx, t1, t2, t3, t4, t5, t6, u1, u2, rv, av, wv, hv, rfl, hx1, hx2, hrv, hhv⟩ := F.is
 have Sh := S.shl (own := l1 ++ (z.t, ot) :: (z.tr, od) :: l2) (by simp) (by simp)
 ext defA
 ext
 refine g_runP (fetch_c Sh hrv) hw hn (by omega) (by omega) fun r J' sub V => ?_
 rw [hcur] at V
 ext
 refine g_runP (turnedO_c V (W.mono sub) hnd hsz) hw hn (by omega) (by omega) fun r2 J2 sub2 V2 => ?_
 ext
 refine g_runK (layO_c (S.mono (Sub.trans sub sub2)) hT (hrv.mono (Sub.trans sub sub2)) V2) hw hn (by omega) (by omega) ?_
 intro Zk hZk
 rintro r3 o3 J3 ⟨ot', rfl, sub3, S3⟩
 refine hZk _ _ _ ?_
 ext
 refine g_in_tup_strs (by ext mem) (by walk_at "g strs") ?_
 rw [decide_eq_false (by simp [hk1, hk2])]
 ext
 exact hnext _ _ _ ⟨ot', rfl, by ext sub, S3.mono (Sub.cons .refl)⟩
theorem fetch_noref {T : Tab} : ∀ {o : Ob}, isRef (fetchO T n o) = false := by
 induction n with
 | zero => intro o; cases o <;> rfl
 | succ n ih =>
  intro o
  cases o with
  | ref k g =>
   show isRef (match T.lookup k with | some (g', o) => if g' = g then fetchO T n o else .nul | none => if g = -1 then fetchO T n .nul else .nul) = false
   split
   ·split
    ·exact ih
    ·rfl
   ·split
    ·exact ih
    ·rfl
  | _ => rfl
noncomputable def isText (kind : Str) : Prop := kind = .ofString "choice" ∨ kind = .ofString "text"
theorem value_in_c {w : World} {own : Led} {T : Tab} (S : Shl w own J z T R) {name kind : Str} {n g : Int} {head : List (Str × Ob)} (F : FieldAt w J v name n g head kind) (hkind : isText kind) {t : Tok} (hok : okO (fetchO T 30 (look head k))) (harr : isArr (fetchO T 30 (look head k)) = false) :
  RunP w 10 600 (.ref 625) [.ref z.sh, v, .str k t] own J (fun r _ => nameV (fetchO T 30 (look head k)) r) := by
 obtain ⟨hz1, hz2⟩ := S.lies
 obtain ⟨x, dx, t1, t2, t3, t4, t5, t6, u1, u2, rv, av, wv, hv, rfl, hx1, hx2, hrv, hhv⟩ := F.is
 have e := fetch_plain (T := T) (n := 30) (fetch_noref (T := T) (n := 30) (o := look head k))
 walk_at "g def"
 ext
 refine g_in_tup_strs (by ext mem) (by walk_at "g strs") ?_
 rw [decide_eq_false (by rcases hkind with rfl | rfl <;> decide +kernel)]
 ext
 refine g_runP (get_c (S.mono (Sub.cons .refl)) (hhv.mono (Sub.cons .refl)) k t) hw hn (by omega) (by omega) fun r J' sub V => ?_
 rw [← e] at hok
 generalize ho : fetchO T 30 (look head k) = o at V harr hok
 rcases hkind with rfl | rfl
 all_goals (ext; refine g_in_tup_strs (by ext mem) (by walk_at "g strs") ?_; rw [decide_eq_true (by decide +kernel)]; ext)
 all_goals (refine g_runP (text_in_c (S.mono (by ext sub)) (V.mono (Sub.cons .refl)) hok) hw hn (by omega) (by omega) fun r2 J2 sub2 V2 => ?_)
 all_goals (ext; refine hret _ _ _ _ ⟨rfl, by ext sub, ?_⟩; show nameV (fetchO T 30 (look head k)) _; rw [← e, ho]; exact V2)
noncomputable abbrev needK : Str := .ofString "NeedAppearances"
noncomputable abbrev acroK : Str := .ofString "AcroForm"
noncomputable abbrev rootK : Str := .ofString "Root"
noncomputable def formN (f : List (Str × Ob)) : List (Str × Ob) := turnsO f [(needK, .tru true)]
inductive NeedTo (T : Tab) (R : List (Str × Ob)) (l f : List (Str × Ob)) : Tab → List (Str × Ob) → Prop
 | far {pn pg hn hg : Int} : look l acroK = .ref pn pg → homeT T pn pg hn hg → NeedTo T R l f (putT T hn hg (.dic (formN f))) R
 | root {pn pg hn hg : Int} : look l acroK = .dic f → look R rootK = .ref pn pg → homeT T pn pg hn hg → NeedTo T R l f (putT T hn hg (.dic (turnsO l [(acroK, .dic (formN f))]))) R
 | trailer : look l acroK = .dic f → look R rootK = .dic l → NeedTo T R l f T (putO R rootK (.dic (turnsO l [(acroK, .dic (formN f))])))
theorem need_c {w : World} {l2 : Led} {T : Tab} {f : List (Str × Ob)} {od : Obj} (S : ShO w J z T R ot od) (hT : T.length ≤ 100) (hR : R.length ≤ 20) (hl20 : l.length ≤ 20) (hf20 : f.length ≤ 20) (hf0 : f ≠ []) (hr : fetchO T 30 (look R rootK) = .dic l) (hf : fetchO T 30 (look l acroK) = .dic f) (N : NeedTo T R l f T' R') :
  Run w 6 200 (.ref 682) [.ref z.sh] (l1 ++ (z.t, ot) :: (z.tr, od) :: l2) J noR (fun r own' J' => ∃ ot' od', own' = l1 ++ (z.t, ot') :: (z.tr, od') :: l2 ∧ Sub J J' ∧ ShO w J' z T' R' ot' od') := by
 obtain ⟨hz1, hz2⟩ := S.lies
 have Sh : ∀ {J' : Led} (k : Led), Sub J J' → Shl w (k ++ (l1 ++ (z.t, ot) :: (z.tr, od) :: l2)) J' z T R := fun k s => (S.mono s).shl (by simp) (by simp)
 ext defA
 ext
 refine g_runP (form_c (Sh [] .refl) hr hf) hw hn (by omega) (by omega) fun r J1 sub1 V1 => ?_
 have V1' := V1
 obtain ⟨fa, fo, fvs, rfl, a1, a2, a3, a4⟩ := V1.dic_inv
 ext
 rename_i d0 o0 lo0 hs0 hi0
 refine g_freeze [] ?_
 refine g_eq_dict_len hw (knd := PySem.strKind prog w) (mR (.tail _ a1)) a2 a3 (mR (.head _)) hs0 lo0 (by
  rw [a4.len]
  cases f with
  | nil => exact absurd rfl hf0
  | cons p r => simp) ?_
 ext
 refine g_runP (form_c (Sh [] (Sub.trans sub1 (Sub.cons .refl))) hr hf) hw hn (by omega) (by omega) fun r2 J2 sub2 V2 => ?_
 ext
 rename_i d1 o1 lo1 t1 o1' ho1
 refine g_freeze [] ?_
 refine g_runP (turnedO_c (V2.mono (Sub.cons .refl)) (cs := [(needK, .tru true)]) (.dic (.head _) ho1 lo1 (.cons (.tru true) .nil)) (by simp) (by simp; omega)) hw hn (by omega) (by omega) fun r3 J3 sub3 V3 => ?_
 ext
 refine g_runP (root_c (Sh [] (Sub.trans sub1 (Sub.trans (Sub.cons .refl) (Sub.trans sub2 (Sub.trans (Sub.cons .refl) sub3))))) hr) hw hn (by omega) (by omega) fun r4 J4 sub4 V4 => ?_
 ext
 have V4' := V4
 obtain ⟨_, _, _, rfl, c1, c2, c3, c4⟩ := V4.dic_inv
 rcases repk_get (n := acroK) c4 with ⟨e1, e2⟩ | ⟨pv, po, e1, e2, Vp⟩
 ·exfalso
  have : look l acroK = .nul := by simp [look, e2]
  rw [this, fetch_plain rfl] at hf
  cases hf
 have elp : look l acroK = po := by simp [look, e2]
 ext
 cases N with
 | far hp hh =>
  rw [elp] at hp
  subst hp
  have subS : Sub J J4 := Sub.trans sub1 (Sub.trans (Sub.cons .refl) (Sub.trans sub2 (Sub.trans (Sub.cons .refl) (Sub.trans sub3 sub4))))
  ext
  refine g_runP (home_c (Sh [] subS) Vp hh) hw hn (by omega) (by omega) fun r5 J5 sub5 V5 => ?_
  ext
  refine g_runK (layO_c (S.mono (Sub.trans subS sub5)) hT V5 (V3.mono (Sub.trans sub4 sub5))) hw hn (by omega) (by omega) ?_
  intro Zk hZk
  rintro r6 o6 J6 ⟨ot', rfl, sub6, S6⟩
  refine hZk _ _ _ ?_
  ext
  exact hret _ _ _ _ ⟨ot', od, rfl, by ext sub, S6⟩
 | root hp hq hh =>
  rw [elp] at hp
  subst hp
  have subS : Sub J J4 := Sub.trans sub1 (Sub.trans (Sub.cons .refl) (Sub.trans sub2 (Sub.trans (Sub.cons .refl) (Sub.trans sub3 sub4))))
  ext
  refine g_runP (root_c (Sh [] subS) hr) hw hn (by omega) (by omega) fun r5 J5 sub5 V5 => ?_
  ext
  rename_i d2 o2 lo2 t2 o2' ho2
  refine g_freeze [] ?_
  refine g_runP (turnedO_c (V5.mono (Sub.cons .refl)) (cs := [(acroK, .dic (formN f))]) (.dic (.head _) ho2 lo2 (.cons (V3.mono (Sub.trans sub4 (Sub.trans sub5 (Sub.cons .refl)))) .nil)) (by simp) (by simp; omega)) hw hn (by omega) (by omega) fun r6 J6 sub6 V6 => ?_
  have subT : Sub J J6 := Sub.trans subS (Sub.trans sub5 (Sub.trans (Sub.cons .refl) sub6))
  obtain ⟨dvs, g1, g2, g3⟩ := (S.mono subT).tra
  rcases repk_get (n := rootK) g3 with ⟨f1, f2⟩ | ⟨rv, ro, f1, f2, Vr⟩
  ·exfalso
   have : look R rootK = .nul := by simp [look, f2]
   rw [this] at hq; cases hq
  have elr : look R rootK = ro := by simp [look, f2]
  rw [elr] at hq
  subst hq
  ext
  refine g_base (.ofString "x") default ?_
  refine g_item (knd := PySem.strKind prog w) hw (mL (by simp)) g1 (strKind_is _ _ _ _) f1 ?_
  ext
  refine g_base (.ofString "x") default ?_
  refine g_item (knd := PySem.strKind prog w) hw (mL (by simp)) g1 (strKind_is _ _ _ _) f1 ?_
  ext
  refine g_runP (home_c (Sh [] subT) Vr hh) hw hn (by omega) (by omega) fun r7 J7 sub7 V7 => ?_
  ext
  refine g_runK (layO_c (S.mono (Sub.trans subT sub7)) hT V7 (V6.mono sub7)) hw hn (by omega) (by omega) ?_
  intro Zk hZk
  rintro r8 o8 J8 ⟨ot', rfl, sub8, S8⟩
  refine hZk _ _ _ ?_
  ext
  exact hnext _ _ _ ⟨ot', od, rfl, by ext sub, S8⟩
 | trailer hp hq =>
  rw [elp] at hp
  subst hp
  have subS : Sub J J4 := Sub.trans sub1 (Sub.trans (Sub.cons .refl) (Sub.trans sub2 (Sub.trans (Sub.cons .refl) (Sub.trans sub3 sub4))))
  ext
  refine g_runP (root_c (Sh [] subS) hr) hw hn (by omega) (by omega) fun r5 J5 sub5 V5 => ?_
  ext
  rename_i d2 o2 lo2 t2 o2' ho2
  refine g_freeze [] ?_
  refine g_runP (turnedO_c (V5.mono (Sub.cons .refl)) (cs := [(acroK, .dic (formN f))]) (.dic (.head _) ho2 lo2 (.cons (V3.mono (Sub.trans sub4 (Sub.trans sub5 (Sub.cons .refl)))) .nil)) (by simp) (by simp; omega)) hw hn (by omega) (by omega) fun r6 J6 sub6 V6 => ?_
  have subT : Sub J J6 := Sub.trans subS (Sub.trans sub5 (Sub.trans (Sub.cons .refl) sub6))
  obtain ⟨dvs, g1, g2, g3⟩ := (S.mono subT).tra
  ext
  rcases repk_get (n := rootK) g3 with ⟨f1, f2⟩ | ⟨rv, ro, f1, f2, Vr⟩
  ·exfalso
   have : look R rootK = .nul := by simp [look, f2]
   rw [this] at hq; cases hq
  have elr : look R rootK = ro := by simp [look, f2]
  rw [elr] at hq
  subst hq
  ext
  refine g_base (.ofString "x") default ?_
  refine g_item (knd := PySem.strKind prog w) hw (mL (by simp)) g1 (strKind_is _ _ _ _) f1 ?_
  ext
  have eo : l1 ++ (z.t, ot) :: (z.tr, od) :: l2 = (l1 ++ [(z.t, ot)]) ++ (z.tr, od) :: l2 := by simp
  have hdl := g3.len
  show G C (setItem _ _ _) _ (l1 ++ (z.t, ot) :: (z.tr, od) :: l2) _ _ _
  rw [eo]
  refine g_setitem hw (l1 ++ [(z.t, ot)]) (knd := PySem.strKind prog w) g1 (strKind_is _ _ _ _) (by rw [sizeLine_eq]; omega) fun od' hod' => ?_
  ext
  exact hnext _ _ _ ⟨ot, od', by simp, by ext sub, ⟨(S.mono subT).lies, (S.mono subT).tab, ⟨_, hod', g2, repk_put g3 V6⟩⟩⟩
noncomputable def strsO (bs : List (Array UInt8)) : List Ob := bs.map .str
inductive Pairs (J : Led) : List Value → List Str → Prop
 | nil : Pairs J [] []
 | snoc {q : Addr} {t1 t2 : Tok} {s : Str} {vs : List Value} {ss : List Str} : (q, tup [.str s t1, .str s t2]) ∈ J → Pairs J vs ss → Pairs J (vs ++ [.ref q]) (ss ++ [s])
theorem Pairs.mono (s : Sub J J') {vs : List Value} (r : Pairs J vs ss) : Pairs J' vs ss := by
 induction r with
 | nil => exact .nil
 | snoc a r ih => exact .snoc (s _ a) ih
theorem Pairs.len {vs : List Value} (r : Pairs J vs ss) : vs.length = ss.length := by
 induction r with
 | nil => rfl
 | snoc a r ih => rw [List.length_append, List.length_append, ih]; rfl
set_option tactic.hygienic true in
theorem Pairs.at {vs : List Value} (P : Pairs J vs ss) : ∀ {i : Nat} {v : Value}, vs[i]? = some v → ∃ q t1 t2 s, v = .ref q ∧ ss[i]? = some s ∧ (q, tup [.str s t1, .str s t2]) ∈ J := by
 induction P with
 | nil => intro i v h; simp at h
 | snoc a r ih =>
  intro i v h
  have hl := r.len
  rw [List.getElem?_append] at h
  rw [List.getElem?_append]
  split at h
  ·rename_i hlt
   rw [if_pos (by omega)]
   exact ih h
  ·rename_i hge
   rw [if_neg (by omega)]
   rename_i vs' ss'
   have e : i - vs'.length = 0 := by
    cases z : i - vs'.length with
    | zero => rfl
    | succ k => rw [z] at h; simp at h
   rw [e] at h
   rw [← hl, e]
   simp at h
   subst h
   exact ⟨_, _, _, _, rfl, rfl, a⟩
theorem options_c {w : World} {own : Led} {T : Tab} (S : Shl w own J z T R) {name kind : Str} {n g : Int} {head : List (Str × Ob)} (F : FieldAt w J v name n g head kind) (hopt : getO T head "Opt" = .arr (strsO bs) ∨ (getO T head "Opt" = .nul ∧ bs = [])) (hok : ∀ b ∈ bs, okB b) (hfew : bs.length ≤ 10) :
  RunP w 9 600 (.ref 632) [.ref z.sh, v] own J (fun r J' => ∃ D vs c, r = .ref D ∧ (D, listOf (List.toArray vs) c) ∈ J' ∧ Pairs J' vs (bs.map textO)) := by
 obtain ⟨hz1, hz2⟩ := S.lies
 obtain ⟨x, dx, t1, t2, t3, t4, t5, t6, u1, u2, rv, av, wv, hv, rfl, hx1, hx2, hrv, hhv⟩ := F.is
 walk_at "g def"
 ext
 rename_i D tO
 have Sh : ∀ {J' : Led} (l : Led), Sub J J' → Shl w (l ++ own) J' z T R := fun l s => (S.mono s).own fun _ c => mR c
 refine g_runP (row_c (Sh [_] .refl) hhv (k := .ofString "Opt") (a := strsO bs) (hopt.imp_right fun z => ⟨z.1, by rw [z.2]; rfl⟩)) hw hn (by omega) (by omega) fun r J1 sub1 V1 => ?_
 obtain ⟨ra, rn, rvs, rfl, a1, a2⟩ := V1.arr_inv
 have hrl : rvs.length = bs.length := by rw [a2.len]; simp [strsO]
 let Iv23 : Nat → Loc → Led → Led → Prop := fun i M' o' J' => ∃ vs c, o' = (D, listOf (List.toArray vs) c) :: own ∧ Sub J1 J' ∧ Pairs J' vs ((bs.take i).map textO) ∧ Has M' [(.ofString "shelf", .ref z.sh), (.ofString "found", .ref D)]
 refine forG hfe (src_list a1) Iv23 (by rintro _ _ _ _ ⟨_, _, _, q, _, _⟩; exact q) ⟨[], 0, rfl, .refl, .nil, by ext has⟩ ?_ ?_
 ·intro C' i v M' o₂ J' K hsm
  walk_at "g turn"
  rintro hlt hi hIz hK
  refine opq3 M' o₂ J' fun Zk hZk => ?_
  obtain ⟨vs, c, rfl, sub, hP, has⟩ := hIz
  refine hZk _ _ _ ?_
  obtain ⟨o', ho', Vk⟩ := a2.at hi
  obtain ⟨b, hb, rfl⟩ : ∃ b, bs[i]? = some b ∧ o' = .str b := by
   simp only [strsO, List.getElem?_map] at ho'
   cases hz : bs[i]? with
   | none => rw [hz] at ho'; cases ho'
   | some b => rw [hz] at ho'; cases ho'; exact ⟨b, rfl, rfl⟩
  have hbm := hok b (List.mem_of_getElem? hb)
  have hvl : vs.length ≤ sizeLine := by
   have := hP.len
   have h2 := List.length_take_le' i bs
   simp only [List.length_map] at this
   rw [sizeLine_eq]; omega
  refine g_weak has ?_
  have hz1' := (Sub.trans sub1 sub) _ hz1
  have hz2' := (Sub.trans sub1 sub) _ hz2
  ext
  refine g_runP (fetch_c (Sh [_] (Sub.trans sub1 sub)) (Vk.mono sub)) hw' hn' (by omega) (by omega) fun r J2 sub2 V2 => ?_
  rw [fetch_plain rfl] at V2
  ext
  have key : ∀ {J3 : Led}, Rep w J3 r (.str b) → Sub J J3 → RunP w 8 500 (.ref 613) [.ref z.sh, r] ((D, listOf (List.toArray vs) c) :: own) J3 (fun r _ => nameV (.str b) r) := fun V3 s3 => by
   have := text_in_c (Sh [(D, listOf (List.toArray vs) c)] s3) V3 (fun b' e => by rw [fetch_plain rfl] at e; cases e; exact hbm)
   rw [fetch_plain rfl] at this
   exact this
  refine g_runP (key V2 (Sub.trans sub1 (Sub.trans sub sub2))) hw' hn' (by omega) (by omega) fun r3 J3 sub3 V3 => ?_
  obtain ⟨u3, rfl⟩ := V3
  ext
  refine g_runP (key (V2.mono sub3) (Sub.trans sub1 (Sub.trans sub (Sub.trans sub2 sub3)))) hw' hn' (by omega) (by omega) fun r4 J4 sub4 V4 => ?_
  obtain ⟨u4, rfl⟩ := V4
  ext
  refine hK _ _ _ _ (turnq_next ⟨_, _, rfl, by ext sub, ?_, by ext has⟩)
  rw [take_map_succ textO hb]
  exact .snoc (.head _) (hP.mono (Sub.trans sub2 (Sub.trans sub3 (Sub.trans sub4 (Sub.cons .refl)))))
 ·rintro M' o₂ J' ⟨vs, c, rfl, sub, hP, has⟩
  refine nextq_next (g_weak has (g_freeze [] ?_))
  ext
  rw [hrl, List.take_length] at hP
  exact hret _ _ _ _ ⟨rfl, by ext sub, _, _, _, rfl, .head _, hP.mono (Sub.cons .refl)⟩
theorem choice_change_c {w : World} {own : Led} {T : Tab} (S : Shl w own J z T R) {name kind : Str} {n g : Int} {head : List (Str × Ob)} (F : FieldAt w J v name n g head kind) (hff : look head (.ofString "Ff") = .nul)
  (hopt : getO T head "Opt" = .arr (strsO bs) ∨ (getO T head "Opt" = .nul ∧ bs = [])) (hok : ∀ b ∈ bs, okB b) (hfew : bs.length ≤ 10) {t : Tok} (hs0 : okS s) (hname : name.length ≤ 100) :
  RunB false w 10 700 (.ref 656) [.ref z.sh, v, .str s t] own J (fun o' J' => o' = own ∧ Sub J J' ∧ s ∉ bs.map textO) (fun r o' J' => o' = own ∧ Sub J J' ∧ s ∈ bs.map textO ∧ Rep w J' r (.dic [(.ofString "V", .str (octO s)), (.ofString "I", .arr [.int ((bs.map textO).idxOf s : Nat)])])) := by
 obtain ⟨hz1, hz2⟩ := S.lies
 obtain ⟨x, dx, t1, t2, t3, t4, t5, t6, u1, u2, rv, av, wv, hv, rfl, hx1, hx2, hrv, hhv⟩ := id F.is
 have Sh : ∀ {J' : Led} (l : Led), Sub J J' → Shl w (l ++ own) J' z T R := fun l s => (S.mono s).own fun _ c => mR c
 ext defA
 ext
 refine g_runP (has_flag_c S F hff (.inr (.inl rfl))) hw hn (by omega) (by omega) fun r J1 sub1 V1 => ?_
 subst V1
 ext
 rename_i Dv
 refine g_freeze [] ?_
 refine g_asg ?_ (swaps_c (by assumption) rfl (by with_unfolding_all rfl))
 refine g_comp [] ?sc ?_
 case sc => ext sc
 ext
 refine g_runP (options_c (Sh [] (Sub.trans sub1 (Sub.cons .refl))) (F.mono (Sub.trans sub1 (Sub.cons .refl))) hopt hok hfew) hw hn (by omega) (by omega) fun r J2 sub2 V2 => ?_
 obtain ⟨De, evs, ec, rfl, hDe, hP⟩ := V2
 have hPl := hP.len
 simp only [List.length_map] at hPl
 let Iv24 : Nat → List Value → Led → Led → Prop := fun i ys o' J' => own = o' ∧ Sub J2 J' ∧ StrsAre ys ((bs.map textO).take i)
 refine ⟨?sc, compG (src_list hDe) ?sc (by rw [sizeLine_eq]; omega) Iv24 (by rintro _ _ _ _ ⟨_, q, _⟩; exact q) ⟨rfl, .refl, .nil⟩ (fun _ _ => rfl) ?_ ?_⟩
 case sc => ext sc
 ·intro C' i v ys o₂ J' D k K KS hic hlt0 hi
  rintro ⟨rfl, sub3, hys⟩ hK hKS
  ext comp
  obtain ⟨q, q1, q2, s', rfl, hs', hq⟩ := hP.at hi
  have hq' := sub3 _ hq
  ext
  refine g_item_tup (j := 0) (mR hq') (by decide) (by decide) rfl rfl ?_
  ext
  refine hK _ _ _ _ (by ext has) ⟨rfl, sub3, ?_⟩
  rw [List.take_add_one, hs']
  exact strs_snoc hys
 ·rintro ys o₂ J3 Dx kx ⟨rfl, sub3, hys⟩ hle
  rw [hPl, ← List.length_map (f := textO) (as := bs), List.take_length] at hys
  have hyl := strs_len hys
  simp only [List.length_map] at hyl
  refine compEnd0 ?_
  refine g_freeze [] ?_
  ext
  rename_i rr tt1 tt2 tt3
  have hz1' := (Sub.trans sub1 (Sub.trans (Sub.cons .refl) (Sub.trans sub2 sub3))) _ hz1
  have hx1' := (Sub.trans sub1 (Sub.trans (Sub.cons .refl) (Sub.trans sub2 sub3))) _ hx1
  have hx2' := (Sub.trans sub1 (Sub.trans (Sub.cons .refl) (Sub.trans sub2 sub3))) _ hx2
  have hDv : (Dv, listOf (List.toArray [Value.str s t]) 0) ∈ J3 := (Sub.trans sub2 sub3) _ (.head _)
  refine let Iv62 : Nat → Loc → Led → Led → Prop := fun i M' o' J' => own = o' ∧ Sub ((rr, _) :: (Dx, listOf (List.toArray ys) kx) :: J3) J' ∧ Has M' [(.ofString "exports", .ref Dx), (.ofString "values", .ref Dv), (.ofString "is_combo", .bool false), (.ofString "value", .str s t), (.ofString "leaf", .ref x), (.ofString "shelf", .ref z.sh)] ∧ (i = 1 → s ∈ bs.map textO);
   forG hfe (src_range (y := 1) (n := 1) hn (.head _) (by decide) (by rfl)) Iv62 noB ⟨rfl, .refl, by ext has, fun e => by cases e⟩ ?_ ?_
  ·intro C' i v0 M' o' J4 K hsm
   walk_at "g turn"
   rintro hi ⟨t', rfl⟩ hIz hK
   refine opq3 M' o' J4 fun Zk hZk => ?_
   obtain ⟨rfl, sub4, has, -⟩ := hIz
   refine hZk _ _ _ ?_
   have sub4' : Sub J3 J4 := Sub.trans (Sub.cons (Sub.cons .refl)) sub4
   have hDx4 := sub4 _ (.tail _ (.head _))
   have hDv4 := sub4' _ hDv
   obtain rfl : i = 0 := by omega
   rw [show (0 : Int) + ((0 : Nat) : Int) = 0 from rfl]
   refine g_weak has ?_
   ext
   refine g_item_list (mR hDv4) (by decide) (by decide) rfl ?_
   ext
   refine g_notin_list_strs (mR hDx4) hys ?_
   by_cases hmem : s ∈ bs.map textO
   ·rw [decide_eq_true hmem]
    ext
    refine g_item_list (mR hDv4) (by decide) (by decide) rfl ?_
    ext
    refine g_item_list (mR hDv4) (by decide) (by decide) rfl ?_
    ext
    refine g_item_to (mR (.tail _ hDv4)) (.head _) (by decide) (size_ok rfl) fun D' => ?_
    refine g_freeze [] ?_
    ext
    refine g_in_list_strs (vs := []) (ns := []) (mR (.head _)) .nil ?_
    ext
    exact hK _ _ _ _ (turnq_next ⟨rfl, by ext sub, by ext has, fun _ => hmem⟩)
   ·rw [decide_eq_false hmem]
    ext
    refine g_raise hn' (by k_is) ?_
    have hx1' := sub4' _ hx1'
    have hx2' := sub4' _ hx2'
    ext
    refine g_add_str (by have := (by decide +kernel : (Str.ofString "no choice for the field ").length = 24); rw [sizeLine_eq]; omega) fun t10 => ?_
    ext
    refine g_runK (c_draft false w _ _ _) hw' hn' (by omega) (by omega) ?_
    intro Zk hZk
    rintro r5 o5 J5 ⟨y, t11, d11, rfl, rfl, sub5⟩
    refine hZk _ _ _ ?_
    refine ⟨y, t11, d11, [], own, rfl, rfl, hX _ _ _ ⟨rfl, by ext sub, hmem⟩⟩
  ·rintro M' o' J4 ⟨rfl, sub4, has, hin⟩
   have hmem := hin rfl
   have sub4' : Sub J3 J4 := Sub.trans (Sub.cons (Sub.cons .refl)) sub4
   have hDx4 := sub4 _ (.tail _ (.head _))
   have hDv4 := sub4' _ hDv
   refine nextq_next (g_weak has ?_)
   refine g_cons (g_asgcomp [] ?sc ?_ (by ext swl))
   case sc => ext sc
   ext
   let Iv25 : Nat → List Value → Led → Led → Prop := fun i ys' o₃ J' => own = o₃ ∧ Sub J4 J' ∧ ((i = 0 ∧ ys' = []) ∨ (i = 1 ∧ ∃ v', ys' = [v'] ∧ Rep w J' v' (.str (octO s))))
   refine ⟨?sc, compG (src_list hDv4) ?sc (size_ok rfl) Iv25 (by rintro _ _ _ _ ⟨_, q, _⟩; exact q) ⟨rfl, .refl, .inl ⟨rfl, rfl⟩⟩ (fun _ _ => rfl) ?_ ?_⟩
   case sc => ext sc
   ·intro C' i v ys' o₃ J5 D k K KS hic hlt0 hi
    rintro ⟨rfl, sub5, hv5⟩ hK hKS
    ext comp
    have hi0 : i = 0 := by
     rcases i with _ | i
     ·rfl
     ·simp at hi
    subst hi0
    obtain rfl : v = .str s t := by simpa using hi.symm
    obtain rfl : ys' = [] := by
     rcases hv5 with ⟨_, h⟩ | ⟨h, _⟩
     ·exact h
     ·cases h
    ext
    refine g_runP (octets_any hs0) hw' hn' (by omega) (by omega) fun r3 J6 sub6 V6 => ?_
    obtain ⟨t9, rfl⟩ := V6
    ext
    refine g_runP (c_mkStr w _ _ _ _) hw' hn' (by omega) (by omega) fun r4 J7 sub7 V7 => ?_
    exact hK _ _ _ _ has_nil ⟨rfl, by ext sub, .inr ⟨rfl, _, rfl, V7⟩⟩
   ·rintro ys' o₃ J5 Ds ks ⟨rfl, sub5, hv5⟩ hle C₂ hsm
    walk_at "g end"
    obtain ⟨v', rfl, Vv⟩ : ∃ v', ys' = [v'] ∧ Rep w J5 v' (.str (octO s)) := by
     rcases hv5 with ⟨h, _⟩ | ⟨_, h⟩
     ·cases h
     ·exact h
    refine g_freeze [] ?_
    ext
    refine g_comp [(.ofString "exports", .ref Dx)] ?sc ?_
    case sc => ext scF
    ext
    refine let Iv63 : Nat → List Value → Led → Led → Prop := fun i ys' o₄ J' => own = o₄ ∧ Sub ((Ds, _) :: J5) J' ∧ ((i = 0 ∧ ys' = []) ∨ (i = 1 ∧ ∃ t', ys' = [.int ((bs.map textO).idxOf s : Nat) t']));
     ⟨?sc, compG (src_list (.tail _ (sub5 _ hDv4))) ?sc (size_ok rfl) Iv63 (by rintro _ _ _ _ ⟨_, q, _⟩; exact q) ⟨rfl, .refl, .inl ⟨rfl, rfl⟩⟩ (fun _ _ => rfl) ?_ ?_⟩
    case sc => ext scF
    ·intro C' i v ys' o₄ J6 D k K KS hic hlt0 hi
     rintro ⟨rfl, sub6, hv6⟩ hK hKS
     ext comp
     have hi0 : i = 0 := by
      rcases i with _ | i
      ·rfl
      ·simp at hi
     subst hi0
     obtain rfl : v = .str s t := by simpa using hi.symm
     obtain rfl : ys' = [] := by
      rcases hv6 with ⟨_, h⟩ | ⟨h, _⟩
      ·exact h
      ·cases h
     have hDx6 := sub6 _ (.tail _ (sub5 _ hDx4))
     ext
     refine g_index_strs (mR hDx6) hys (by simp; omega) hmem fun t12 => ?_
     exact hK _ _ _ _ (by ext has) ⟨rfl, by ext sub, .inr ⟨rfl, _, rfl⟩⟩
    ·rintro ys' o₄ J6 Dp kp ⟨rfl, sub6, hv6⟩ hle
     obtain ⟨t', rfl⟩ : ∃ t', ys' = [.int ((bs.map textO).idxOf s : Nat) t'] := by
      rcases hv6 with ⟨h, _⟩ | ⟨_, h⟩
      ·cases h
      ·exact h
     refine compEnd0 ?_
     ext
     refine g_sortedL (mL (.head _)) (.cons _ _ .nil) (Nat.lt_of_le_of_lt (m := 1) (Nat.le_refl 1) (by decide)) fun D vs' ns' c' hI' hp' => ?_
     rw [List.perm_singleton.mp hp'] at hI'
     obtain ⟨t13, rfl⟩ : ∃ t13, vs' = [.int ((bs.map textO).idxOf s : Nat) t13] := by
      cases hI' with
      | cons n t r => cases r; exact ⟨_, rfl⟩
     refine g_freeze [] (g_freeze [] ?_)
     ext
     refine g_item_list (mR (.tail _ (.tail _ (sub6 _ (.head _))))) (by decide) (by decide) rfl ?_
     ext
     have Vv' := Vv.mono (Sub.trans (Sub.cons (p := (Ds, listOf (List.toArray [v']) ks)) .refl) sub6)
     refine hret1 _ _ _ _ _ ⟨rfl, by ext sub, hmem, .dic (.head _) (by assumption) (by assumption) (.cons (Vv'.mono (Sub.cons (Sub.cons (Sub.cons .refl)))) (.cons (.arr (.tail _ (.tail _ (.head _))) (.cons (.int _ _) .nil)) .nil))⟩
noncomputable def allowed (T : Tab) (head : List (Str × Ob)) (kind : Str) (bs : List (Array UInt8)) (s : Str) : Prop := (kind = .ofString "text" ∧ lets (wholeO (getO T head "MaxLen")) s) ∨ (kind = .ofString "choice" ∧ s ∈ bs.map textO)
noncomputable def chgO (kind : Str) (bs : List (Array UInt8)) (s : Str) : List (Str × Ob) := if kind = .ofString "text" then [(.ofString "V", .str (octO s))] else [(.ofString "V", .str (octO s)), (.ofString "I", .arr [.int ((bs.map textO).idxOf s : Nat)])]
theorem text_ne_choice : Str.ofString "choice" ≠ Str.ofString "text" := by decide +kernel
structure Askd (T : Tab) (name kind : Str) (head : List (Str × Ob)) (bs : List (Array UInt8)) (s : Str) : Prop where
 kind : isText kind
 ff : look head (.ofString "Ff") = .nul
 opt : getO T head "Opt" = .arr (strsO bs) ∨ (getO T head "Opt" = .nul ∧ bs = [])
 ok : ∀ b ∈ bs, okB b
 few : bs.length ≤ 10
 str : okS s
 len : s.length ≤ 1000
 name : name.length ≤ 100
theorem change_c {w : World} {own : Led} {T : Tab} (S : Shl w own J z T R) {name kind : Str} {n g : Int} {head : List (Str × Ob)} (F : FieldAt w J v name n g head kind) {t : Tok} (K : Askd T name kind head bs s) :
  RunB false w 11 800 (.ref 668) [.ref z.sh, v, .str s t] own J (fun o' J' => o' = own ∧ Sub J J' ∧ ¬ allowed T head kind bs s) (fun r o' J' => o' = own ∧ Sub J J' ∧ allowed T head kind bs s ∧ Rep w J' r (.dic (chgO kind bs s))) := by
 obtain ⟨x, dx, t1, t2, t3, t4, t5, t6, u1, u2, rv, av, wv, hv, rfl, hx1, hx2, hrv, hhv⟩ := id F.is
 ext defA
 ext
 refine g_runP (has_flag_c S F K.ff (.inl rfl)) hw hn (by omega) (by omega) fun r J1 sub1 V1 => ?_
 subst V1
 ext
 rcases K.kind with rfl | rfl
 ·rw [show (Str.ofString "choice" == Str.ofString "text") = false from by decide +kernel]
  ext
  refine g_runX (choice_change_c (S.mono sub1) (F.mono sub1) K.ff K.opt K.ok K.few K.str K.name) hw hn (by omega) (by omega) ?_ ?_
  ·rintro r o' J2 ⟨rfl, sub2, hin, V⟩
   refine hret _ _ _ _ ⟨rfl, by ext sub, .inr ⟨rfl, hin⟩, ?_⟩
   unfold chgO
   rw [if_neg text_ne_choice]
   exact V
  ·rintro o' J2 ⟨rfl, sub2, hno⟩
   exact hX _ _ _ ⟨rfl, by ext sub, fun h => h.elim (fun h => text_ne_choice h.1) fun h => hno h.2⟩
 ·rw [beq_self_eq_true]
  ext
  refine g_runX (text_change_c (S.mono sub1) (F.mono sub1) K.str K.len K.name) hw hn (by omega) (by omega) ?_ ?_
  ·rintro r o' J2 ⟨rfl, sub2, hin, V⟩
   refine hret _ _ _ _ ⟨rfl, by ext sub, .inl ⟨rfl, hin⟩, ?_⟩
   unfold chgO
   rw [if_pos rfl]
   exact V
  ·rintro o' J2 ⟨rfl, sub2, hno⟩
   exact hX _ _ _ ⟨rfl, by ext sub, fun h => h.elim (fun h => hno h.2) fun h => text_ne_choice h.1.symm⟩
theorem chg_nd {kind : Str} : ((chgO kind bs s).map (·.1)).Nodup := by
 unfold chgO
 split
 ·exact List.nodup_cons.mpr ⟨List.not_mem_nil, List.nodup_nil⟩
 ·show [Str.ofString "V", Str.ofString "I"].Nodup
  decide +kernel
theorem chg_len {kind : Str} : (chgO kind bs s).length ≤ 2 := by
 unfold chgO
 split
 ·exact Nat.le_succ 1
 ·exact Nat.le_refl 2
theorem putT_len {T : Tab} {n g : Int} : (putT T n g o).length ≤ T.length + 1 := putG_len
theorem fill_c {w : World} {l2 : Led} {T : Tab} {od : Obj} {hd : Int → List (Str × Ob)} (S : ShO w J z T R ot od) (Fm : Form T R h0 ks hd nm) (hT : T.length ≤ 90) (hR : R.length ≤ 20)
  {k : Int} {name : Str} (hname : ks.filter (fun k => fullN (nm k) == name) = [k]) (K : Askd T (fullN (nm k)) (kindO (getO T (wholeH T h0 (hd k)) "FT")) (wholeH T h0 (hd k)) bs s)
  {f : List (Str × Ob)} (hl20 : l.length ≤ 20) (hf20 : f.length ≤ 20) (hf0 : f ≠ []) (hcs : (hd k).length ≤ 20)
  (hr : ∀ T₁, T₁ = putT T k 0 (.dic (turnsO (hd k) (chgO (kindO (getO T (wholeH T h0 (hd k)) "FT")) bs s))) → fetchO T₁ 30 (look R rootK) = .dic l ∧ fetchO T₁ 30 (look l acroK) = .dic f ∧ NeedTo T₁ R l f T' R')
  {cd : Addr} {co : Obj} {t : Tok} (hc : (cd, co) ∈ J) (hc1 : co.IsDictOf (PySem.strKind prog w) [(name, .str s t)]) (hc2 : (cd == sysModules) = false) :
  RunB false w 18 1200 (.ref 689) [.ref z.sh, .ref cd] (l1 ++ (z.t, ot) :: (z.tr, od) :: l2) J
   (fun o' J' => (∃ p, o' = p :: (l1 ++ (z.t, ot) :: (z.tr, od) :: l2)) ∧ Sub J J' ∧ ¬ allowed T (wholeH T h0 (hd k)) (kindO (getO T (wholeH T h0 (hd k)) "FT")) bs s)
   (fun r own' J' => ∃ ot' od', own' = l1 ++ (z.t, ot') :: (z.tr, od') :: l2 ∧ Sub J J' ∧ allowed T (wholeH T h0 (hd k)) (kindO (getO T (wholeH T h0 (hd k)) "FT")) bs s ∧ ShO w J' z T' R' ot' od') := by
 have Sh : ∀ {J' : Led} (l : Led), Sub J J' → Shl w (l ++ (l1 ++ (z.t, ot) :: (z.tr, od) :: l2)) J' z T R := fun l s => (S.mono s).shl (by simp) (by simp)
 have hkm : k ∈ ks := (List.mem_filter.mp (show k ∈ ks.filter (fun k => fullN (nm k) == name) by rw [hname]; exact .head _)).1
 have hkT := (Fm.kid k hkm).1
 ext defA
 ext
 rename_i Dp
 let Iv26 : Nat → Loc → Led → Led → Prop := fun i M' o' J' => ∃ vs c, o' = (Dp, listOf (List.toArray vs) c) :: (l1 ++ (z.t, ot) :: (z.tr, od) :: l2) ∧ Sub J J' ∧ Has M' [(.ofString "plan", .ref Dp), (.ofString "data", .ref cd), (.ofString "shelf", .ref z.sh)] ∧ ((i = 0 ∧ vs = []) ∨
  (i = 1 ∧ ∃ q lv cv, vs = [.ref q] ∧ (q, tup [lv, cv]) ∈ J' ∧ FieldAt w J' lv (fullN (nm k)) k 0 (wholeH T h0 (hd k)) (kindO (getO T (wholeH T h0 (hd k)) "FT")) ∧ allowed T (wholeH T h0 (hd k)) (kindO (getO T (wholeH T h0 (hd k)) "FT")) bs s ∧ Rep w J' cv (.dic (chgO (kindO (getO T (wholeH T h0 (hd k)) "FT")) bs s))))
 refine forG hfe (src_dict hw hn (knd := PySem.strKind prog w) hc hc1 hc2) Iv26 (by rintro _ _ _ _ ⟨_, _, _, q, _, _⟩; exact q) ⟨[], 0, rfl, .refl, by ext has, .inl ⟨rfl, rfl⟩⟩ ?_ ?_
 ·intro C' i v M' o₂ J' K' hsm
  walk_at "g turn"
  rintro - ⟨k', x, hi, hk⟩ hIz hK
  refine opq3 M' o₂ J' fun Zk hZk => ?_
  obtain ⟨vs, c, rfl, sub, has, hP⟩ := hIz
  refine hZk _ _ _ ?_
  obtain ⟨t', rfl⟩ := str_is hk
  obtain rfl : i = 0 := by
   rcases i with _ | i
   ·rfl
   ·simp at hi
  obtain ⟨rfl, rfl⟩ : name = k' ∧ Value.str s t = x := by simpa using hi
  obtain rfl : vs = [] := by
   rcases hP with ⟨_, h⟩ | ⟨h, _⟩
   ·exact h
   ·cases h
  refine g_weak has ?_
  ext
  refine g_runP (named_c (Sh [_] sub) Fm (by rw [hname]; simp)) hw' hn' (by omega) (by omega) fun r J1 sub1 V1 => ?_
  obtain ⟨fd, fvs, n1, rfl, hfd, hF⟩ := V1
  rw [hname] at hF
  have hfl := hF.len
  obtain ⟨lv, rfl⟩ : ∃ lv, fvs = [lv] := by
   cases fvs with
   | nil => cases hfl
   | cons a b => cases b with
    | nil => exact ⟨a, rfl⟩
    | cons _ _ => cases hfl
  have FA : FieldAt w J1 lv (fullN (nm k)) k 0 (wholeH T h0 (hd k)) (kindO (getO T (wholeH T h0 (hd k)) "FT")) := by cases hF; assumption
  let Iv27 : Nat → Loc → Led → Led → Prop := fun i M' o' J' => ∃ vs c, o' = (Dp, listOf (List.toArray vs) c) :: (l1 ++ (z.t, ot) :: (z.tr, od) :: l2) ∧ Sub J1 J' ∧ Has M' [(.ofString "name", .str name t'), (.ofString "plan", .ref Dp), (.ofString "data", .ref cd), (.ofString "shelf", .ref z.sh)] ∧ ((i = 0 ∧ vs = []) ∨
   (i = 1 ∧ ∃ q lv cv, vs = [.ref q] ∧ (q, tup [lv, cv]) ∈ J' ∧ FieldAt w J' lv (fullN (nm k)) k 0 (wholeH T h0 (hd k)) (kindO (getO T (wholeH T h0 (hd k)) "FT")) ∧ allowed T (wholeH T h0 (hd k)) (kindO (getO T (wholeH T h0 (hd k)) "FT")) bs s ∧ Rep w J' cv (.dic (chgO (kindO (getO T (wholeH T h0 (hd k)) "FT")) bs s))))
  refine forG hfe' (src_list hfd) Iv27 (by rintro _ _ _ _ ⟨_, _, _, q, _, _⟩; exact q) ⟨[], c, rfl, .refl, by ext has, .inl ⟨rfl, rfl⟩⟩ ?_ ?_
  ·intro C₂ i v M' o₂ J2 K₂ hsm2
   have hw2 := hsm2.w.trans hw'
   have hs2 := (congrArg Env.scope hsm2.env).trans hs'
   have hn2 := hsm2.hn.trans hn'
   have hl2 := ((congrArg Env.locals hsm2.env).trans hl').trans hsm2.L.symm
   have hd2 := hsm2.dl
   have hu2 := hsm2.ul
   rintro hlt hi2 ⟨vs, c2, rfl, sub2, has2, hP2⟩ hK2
   obtain rfl : i = 0 := by simp at hlt; exact hlt
   obtain rfl : v = lv := by simpa using hi2.symm
   obtain rfl : vs = [] := by
    rcases hP2 with ⟨_, h⟩ | ⟨h, _⟩
    ·exact h
    ·cases h
   have hc' := (Sub.trans sub (Sub.trans sub1 sub2)) _ hc
   refine g_weak has2 ?_
   ext
   refine g_item (knd := PySem.strKind prog w) hw2 (mR hc') hc1 (strKind_is _ _ _ _) va_h ?_
   ext
   refine g_runX (change_c (Sh [_] (Sub.trans sub (Sub.trans sub1 sub2))) (FA.mono sub2) K) hw2 (by assumption) (by omega) (by omega) ?_ ?_
   ·rintro r o' J3 ⟨rfl, sub3, hal, V⟩
    ext
    refine hK2 _ _ _ _ (turnq_next ⟨_, _, rfl, by ext sub, by ext has, .inr ⟨rfl, _, _, _, rfl, .head _, FA.mono (Sub.trans sub2 (Sub.trans sub3 (Sub.cons .refl))), hal, V.mono (Sub.cons .refl)⟩⟩)
   ·rintro o' J3 ⟨rfl, sub3, hno⟩
    exact hX _ _ _ ⟨⟨_, rfl⟩, by ext sub, hno⟩
  ·rintro M' o₂ J2 ⟨vs, c2, rfl, sub2, has2, hP2⟩
   refine nextq_next (g_weak has2 ?_)
   ext
   refine hK _ _ _ _ (turnq_next ⟨_, _, rfl, by ext sub, by ext has, ?_⟩)
   rcases hP2 with ⟨h, _⟩ | ⟨_, h⟩
   ·cases h
   ·exact .inr ⟨rfl, h⟩
 ·rintro M' o₂ J1 ⟨vs, c, rfl, sub, has, hP⟩
  obtain ⟨q, lv, cv, rfl, hq, FA, hal, V⟩ : ∃ q lv cv, vs = [.ref q] ∧ (q, tup [lv, cv]) ∈ J1 ∧ FieldAt w J1 lv (fullN (nm k)) k 0 (wholeH T h0 (hd k)) (kindO (getO T (wholeH T h0 (hd k)) "FT")) ∧ allowed T (wholeH T h0 (hd k)) (kindO (getO T (wholeH T h0 (hd k)) "FT")) bs s ∧ Rep w J1 cv (.dic (chgO (kindO (getO T (wholeH T h0 (hd k)) "FT")) bs s)) := by
   rcases hP with ⟨h, _⟩ | ⟨_, h⟩
   ·cases h
   ·exact h
  refine nextq_next (g_weak has (g_freeze [] ?_))
  ext
  let Iv28 : Nat → Loc → Led → Led → Prop := fun i M' o' J' => ∃ ot', o' = l1 ++ (z.t, ot') :: (z.tr, od) :: l2 ∧ Sub ((Dp, listOf (List.toArray [.ref q]) c) :: J1) J' ∧ Has M' [(.ofString "plan", .ref Dp), (.ofString "shelf", .ref z.sh)] ∧ ((i = 0 ∧ ot' = ot) ∨
   (i = 1 ∧ ShO w J' z (putT T k 0 (.dic (turnsO (hd k) (chgO (kindO (getO T (wholeH T h0 (hd k)) "FT")) bs s)))) R ot' od))
  refine forG hfe (src_list (.head _)) Iv28 (by rintro _ _ _ _ ⟨_, _, q, _, _⟩; exact q) ⟨ot, rfl, .refl, by ext has, .inl ⟨rfl, rfl⟩⟩ ?_ ?_
  ·intro C' i v M' o₂ J2 K₂ hsm
   walk_at "g turn"
   rintro hlt hi ⟨ot', rfl, sub2, has2, hP2⟩ hK2
   obtain rfl : i = 0 := by simp at hlt; exact hlt
   obtain rfl : v = .ref q := by simpa using hi.symm
   obtain rfl : ot' = ot := by
    rcases hP2 with ⟨_, h⟩ | ⟨h, _⟩
    ·exact h
    ·cases h
   have hq2 := sub2 _ (.tail _ hq)
   refine g_weak has2 ?_
   ext
   refine g_runK (lay_change_c (S.mono (Sub.trans sub (Sub.trans (Sub.cons .refl) sub2))) (by omega) (FA.mono (Sub.trans (Sub.cons .refl) sub2)) (by rcases K.kind with e | e <;> rw [e] <;> decide +kernel) (by rcases K.kind with e | e <;> rw [e] <;> decide +kernel) (V.mono (Sub.trans (Sub.cons .refl) sub2)) chg_nd (Nat.le_trans (Nat.add_le_add hcs chg_len) (by decide)) (l := hd k) (fetch1 hkT)) hw' hn' (by omega) (by omega) ?_
   intro Zk hZk
   rintro r3 o3 J3 ⟨ot3, rfl, sub3, S3⟩
   refine hZk _ _ _ ?_
   ext
   exact hK2 _ _ _ _ (turnq_next ⟨ot3, rfl, by ext sub, by ext has, .inr ⟨rfl, S3⟩⟩)
  ·rintro M' o₂ J2 ⟨ot', rfl, sub2, has2, hP2⟩
   have S2 : ShO w J2 z (putT T k 0 (.dic (turnsO (hd k) (chgO (kindO (getO T (wholeH T h0 (hd k)) "FT")) bs s)))) R ot' od := by
    rcases hP2 with ⟨h, _⟩ | ⟨_, h⟩
    ·cases h
    ·exact h
   obtain ⟨r1, r2, r3⟩ := hr _ rfl
   have hDp := sub2 _ (.head _)
   refine nextq_next (g_weak has2 ?_)
   ext
   refine g_runK (need_c S2 (Nat.le_trans putT_len (by omega)) hR hl20 hf20 hf0 r1 r2 r3) hw hn (by omega) (by omega) ?_
   intro Zk hZk
   rintro r4 o4 J4 ⟨ot4, od4, rfl, sub4, S4⟩
   refine hZk _ _ _ ?_
   ext
   exact hnext _ _ _ ⟨ot4, od4, rfl, by ext sub, hal, S4⟩
theorem putv_c {w : World} {l2 : Led} {T : Tab} {od : Obj} {hd : Int → List (Str × Ob)} (S : ShO w J z T R ot od) (Fm : Form T R h0 ks hd nm) (hT : T.length ≤ 90) (hR : R.length ≤ 20)
  {k : Int} {name : Str} (hname : ks.filter (fun k => fullN (nm k) == name) = [k]) (K : Askd T (fullN (nm k)) (kindO (getO T (wholeH T h0 (hd k)) "FT")) (wholeH T h0 (hd k)) bs s)
  {f : List (Str × Ob)} (hl20 : l.length ≤ 20) (hf20 : f.length ≤ 20) (hf0 : f ≠ []) (hcs : (hd k).length ≤ 20)
  (hr : ∀ T₁, T₁ = putT T k 0 (.dic (turnsO (hd k) (chgO (kindO (getO T (wholeH T h0 (hd k)) "FT")) bs s))) → fetchO T₁ 30 (look R rootK) = .dic l ∧ fetchO T₁ 30 (look l acroK) = .dic f ∧ NeedTo T₁ R l f T' R') {t : Tok} :
  RunB false w 19 1300 (.ref 696) [.ref z.sh, .str name u, .str s t] (l1 ++ (z.t, ot) :: (z.tr, od) :: l2) J
   (fun o' J' => (∃ p, o' = p :: (l1 ++ (z.t, ot) :: (z.tr, od) :: l2)) ∧ Sub J J' ∧ ¬ allowed T (wholeH T h0 (hd k)) (kindO (getO T (wholeH T h0 (hd k)) "FT")) bs s)
   (fun r own' J' => ∃ ot' od', own' = l1 ++ (z.t, ot') :: (z.tr, od') :: l2 ∧ Sub J J' ∧ allowed T (wholeH T h0 (hd k)) (kindO (getO T (wholeH T h0 (hd k)) "FT")) bs s ∧ ShO w J' z T' R' ot' od') := by
 ext defA
 ext
 refine g_freeze [] ?_
 refine g_runX (fill_c (S.mono (Sub.cons .refl)) Fm hT hR hname K hl20 hf20 hf0 hcs hr (.head _) (by assumption) (by assumption)) hw hn (by omega) (by omega) ?_ ?_
 ·rintro r o' J2 ⟨ot4, od4, rfl, sub4, hal, S4⟩
  ext
  exact hnext _ _ _ ⟨ot4, od4, rfl, by ext sub, hal, S4⟩
 ·rintro o' J2 ⟨h, sub2, hno⟩
  exact hX _ _ _ ⟨h, by ext sub, hno⟩
theorem nodup_ne {l : List α} (h : l.Nodup) (hi : i < l.length) (hj : j < i) : l[j]'(Nat.lt_trans hj hi) ≠ l[i] := List.pairwise_iff_getElem.mp h j i _ hi hj
theorem put_look {T : Tab} {n g m : Int} (h : n ≠ m) : (putT T n g o).lookup m = T.lookup m := putG_look.trans (if_neg h.symm)
noncomputable abbrev vK : Str := .ofString "V"
noncomputable abbrev iK : Str := .ofString "I"
noncomputable abbrev dvK : Str := .ofString "DV"
noncomputable def resCs (T : Tab) (h0 : List (Str × Ob)) (hd : Int → List (Str × Ob)) (k : Int) : List (Str × Ob) := [(vK, look (wholeH T h0 (hd k)) dvK), (iK, .nul)]
noncomputable def resT (T : Tab) (h0 : List (Str × Ob)) (hd : Int → List (Str × Ob)) (ks : List Int) : Tab :=
 ks.foldl (fun T' k => putT T' k 0 (.dic (turnsO (hd k) (resCs T h0 hd k)))) (putT T 3 0 (.dic (turnsO h0 [(vK, .nul)])))
theorem fold_len {T : Tab} {hd : Int → List (Str × Ob)} (ks : List Int) (T' : Tab) : (ks.foldl (fun T' k => putT T' k 0 (.dic (turnsO (hd k) (resCs T h0 hd k)))) T').length ≤ T'.length + ks.length :=
 foldLen fun _ _ => putT_len
theorem fold_look {T : Tab} {hd : Int → List (Str × Ob)} {m : Int} (ks : List Int) : ∀ (T' : Tab), m ∉ ks → (ks.foldl (fun T' k => putT T' k 0 (.dic (turnsO (hd k) (resCs T h0 hd k)))) T').lookup m = T'.lookup m := by
 induction ks with
 | nil => exact fun _ _ => rfl
 | cons k ks ih => exact fun T' h => (ih _ fun z => h (.tail _ z)).trans (put_look fun e => h (e ▸ .head _))
theorem reset_c {w : World} {l2 : Led} {T : Tab} {od : Obj} {hd : Int → List (Str × Ob)} (S : ShO w J z T R ot od) (Fm : Form T R h0 ks hd nm) (hT : T.length ≤ 80) (hR : R.length ≤ 20)
  (hkind : ∀ k ∈ ks, isText (kindO (getO T (wholeH T h0 (hd k)) "FT"))) {f : List (Str × Ob)} (hl20 : l.length ≤ 20) (hf20 : f.length ≤ 20) (hf0 : f ≠ [])
  (hr : ∀ T₁, T₁ = resT T h0 hd ks → fetchO T₁ 30 (look R rootK) = .dic l ∧ fetchO T₁ 30 (look l acroK) = .dic f ∧ NeedTo T₁ R l f T' R') :
  Run w 19 1300 (.ref 703) [.ref z.sh] (l1 ++ (z.t, ot) :: (z.tr, od) :: l2) J noR (fun r own' J' => ∃ ot' od', own' = l1 ++ (z.t, ot') :: (z.tr, od') :: l2 ∧ Sub J J' ∧ ShO w J' z T' R' ot' od') := by
 have Sh : ∀ {J' : Led} (l : Led), Sub J J' → Shl w (l ++ (l1 ++ (z.t, ot) :: (z.tr, od) :: l2)) J' z T R := fun l s => (S.mono s).shl (by simp) (by simp)
 have hfew := Fm.few
 ext defA
 ext
 refine g_runP (walk_c (Sh [] .refl) Fm) hw hn (by omega) (by omega) fun r J1 sub1 V1 => ?_
 obtain ⟨fd, nd, sn, fvs, n1, nq, hv, Tr, hfd, hF, hnd, hnq, hhv⟩ := V1.is
 obtain ⟨tx, tdx, tt1, tt2, tt3, rfl, htx1, htx2⟩ := Tr.is
 have hfl := hF.len
 ext
 let Iv29 : Nat → Loc → Led → Led → Prop := fun i M' o' J' => ∃ ot', o' = l1 ++ (z.t, ot') :: (z.tr, od) :: l2 ∧ Sub J1 J' ∧ Has M' [(.ofString "tour", .ref tx), (.ofString "shelf", .ref z.sh)] ∧ ((i = 0 ∧ ot' = ot) ∨
   (i = 1 ∧ ShO w J' z (putT T 3 0 (.dic (turnsO h0 [(vK, .nul)]))) R ot' od))
 refine forG hfe (src_list hnd) Iv29 (by rintro _ _ _ _ ⟨_, _, q, _, _⟩; exact q) ⟨ot, rfl, .refl, by ext has, .inl ⟨rfl, rfl⟩⟩ ?_ ?_
 ·intro C' i v M' o₂ J2 K₂ hsm
  walk_at "g turn"
  rintro hlt hi ⟨ot', rfl, sub2, has2, hP2⟩ hK2
  obtain rfl : i = 0 := by simp at hlt; exact hlt
  obtain rfl : v = .ref nq := by simpa using hi.symm
  obtain rfl : ot' = ot := by
   rcases hP2 with ⟨_, h⟩ | ⟨h, _⟩
   ·exact h
   ·cases h
  have hq2 := sub2 _ hnq
  have S2 := Sub.trans sub1 sub2
  have hz1' := S2 _ S.lies.inst
  have hz2' := S2 _ S.lies.dict
  refine g_weak has2 ?_
  ext
  refine g_runP (fetch_c (Sh [] S2) (hhv.mono sub2)) hw' hn' (by omega) (by omega) fun r J3 sub3 V3 => ?_
  rw [show fetchO T 30 (.ref 3 0) = .dic h0 from fetch1 Fm.node] at V3
  ext
  refine g_freeze [] ?_
  refine g_runP (turnedO_c (V3.mono (Sub.cons .refl)) (cs := [(vK, .nul)]) (.dic (.head _) (by assumption) (by assumption) (.cons .nul .nil)) (by simp) (by have := Fm.small; simp; omega)) hw' hn' (by omega) (by omega) fun r4 J4 sub4 V4 => ?_
  ext
  have S4 := Sub.trans S2 (Sub.trans sub3 (Sub.trans (Sub.cons .refl) sub4))
  refine g_runK (layO_c (S.mono S4) (by omega) (hhv.mono (Sub.trans sub2 (Sub.trans sub3 (Sub.trans (Sub.cons .refl) sub4)))) V4) hw' hn' (by omega) (by omega) ?_
  intro Zk hZk
  rintro r5 o5 J5 ⟨ot5, rfl, sub5, S5⟩
  refine hZk _ _ _ ?_
  ext
  exact hK2 _ _ _ _ (turnq_next ⟨ot5, rfl, Sub.trans sub2 (Sub.trans sub3 (Sub.trans (Sub.cons .refl) (Sub.trans sub4 sub5))), by ext has, .inr ⟨rfl, S5⟩⟩)
 ·rintro M' o₂ J2 ⟨ot2, rfl, sub2, has2, hP2⟩
  have S2 : ShO w J2 z (putT T 3 0 (.dic (turnsO h0 [(vK, .nul)]))) R ot2 od := by
   rcases hP2 with ⟨h, _⟩ | ⟨_, h⟩
   ·cases h
   ·exact h
  have hfd2 := sub2 _ hfd
  have htx1' := sub2 _ htx1
  have htx2' := sub2 _ htx2
  refine nextq_next (g_weak has2 ?_)
  ext
  let Iv30 : Nat → Loc → Led → Led → Prop := fun i M' o' J' => ∃ ot', o' = l1 ++ (z.t, ot') :: (z.tr, od) :: l2 ∧ Sub J2 J' ∧ Has M' [(.ofString "shelf", .ref z.sh)] ∧ ShO w J' z (resT T h0 hd (ks.take i)) R ot' od
  refine forG hfe (src_list hfd2) Iv30 (by rintro _ _ _ _ ⟨_, _, q, _, _⟩; exact q) ⟨ot2, rfl, .refl, by ext has, S2⟩ ?_ ?_
  ·intro C' i v M' o₂ J3 K₂ hsm
   walk_at "g turn"
   rintro hlt hi ⟨ot3, rfl, sub3, has3, S3⟩ hK3
   obtain ⟨k, hk, FA⟩ := hF.at hi
   have hkm := List.mem_of_getElem? hk
   have FA3 := FA.mono (Sub.trans sub2 sub3)
   obtain ⟨hk1, -, -, -, -, -, hk7⟩ := Fm.kid k hkm
   have htxt := hkind k hkm
   have hnotin : k ∉ ks.take i := by
    have hndk := (List.nodup_cons.mp Fm.nd).2
    intro hm
    obtain ⟨j, hj, e⟩ := List.getElem_of_mem hm
    have hjl : j < i := mn2 (List.length_take ▸ hj)
    have hil := (List.getElem?_eq_some_iff.mp hk).1
    have e2 : ks[j]'(by omega) = ks[i] := by
     have h1 : ks[i] = k := (List.getElem?_eq_some_iff.mp hk).2
     rw [h1, ← e, List.getElem_take]
    exact nodup_ne hndk hil hjl e2
   have h3k : (3 : Int) ≠ k := fun e => (List.nodup_cons.mp Fm.nd).1 (e ▸ hkm)
   have hcur : fetchO (resT T h0 hd (ks.take i)) 30 (.ref k 0) = .dic (hd k) := by
    have : (resT T h0 hd (ks.take i)).lookup k = some (0, .dic (hd k)) := by
     unfold resT
     rw [fold_look _ _ hnotin, put_look h3k, hk1]
    exact fetch1 this
   obtain ⟨x, dx, t1, t2, t3, t4, t5, t6, u1, u2, rv, av, wv, hv', rfl, hx1, hx2, hrv, hhv'⟩ := id FA3.is
   refine g_weak has3 ?_
   ext
   refine g_in_tup_strs (mR (.head _)) (by walk_at "g strs") ?_
   rw [decide_eq_true (by rcases htxt with e | e <;> rw [e] <;> decide +kernel)]
   have hhv0 := hhv'
   cases hhv' with
   | dic d1 d2 d3 d4 =>
   have hlen : (resT T h0 hd (ks.take i)).length ≤ 100 := by
    unfold resT
    have h1 := fold_len (T := T) (h0 := h0) (hd := hd) (ks.take i) (putT T 3 0 (.dic (turnsO h0 [(vK, .nul)])))
    have h2 := putT_len (T := T) (n := 3) (g := 0) (o := .dic (turnsO h0 [(vK, .nul)]))
    have h3 := List.length_take_le' i ks
    omega
   have htk : resT T h0 hd (ks.take (i + 1)) = putT (resT T h0 hd (ks.take i)) k 0 (.dic (turnsO (hd k) (resCs T h0 hd k))) := by
    unfold resT
    rw [take_foldl hk]
   have fin : ∀ {J4 : Led} {v4 : Value} {d : Addr} {o : Obj} {o4 : Ob}, Sub J3 J4 → Rep w J4 v4 o4 → look (wholeH T h0 (hd k)) dvK = o4 → (d == sysModules) = false → o.IsDictOf (PySem.strKind prog w) [(vK, v4), (iK, .none)] →
     Run w 4 150 (.ref 675) [.ref z.sh, .ref x, .ref d] (l1 ++ (z.t, ot3) :: (z.tr, od) :: l2) ((d, o) :: J4) noR (fun r own' J' => ∃ ot', own' = l1 ++ (z.t, ot') :: (z.tr, od) :: l2 ∧ Sub ((d, o) :: J4) J' ∧ ShO w J' z (resT T h0 hd (ks.take (i + 1))) R ot' od) := by
    intro J4 v4 d o o4 s V4 e lo ho
    rw [htk]
    exact lay_change_c (S3.mono (Sub.trans s (Sub.cons .refl))) hlen (FA3.mono (Sub.trans s (Sub.cons .refl))) (by rcases htxt with e | e <;> rw [e] <;> decide +kernel) (by rcases htxt with e | e <;> rw [e] <;> decide +kernel)
     (.dic (.head _) ho lo (.cons (by rw [e]; exact V4.mono (Sub.cons .refl)) (.cons .nul .nil))) (by show [vK, iK].Nodup; decide +kernel) (by show (hd k).length + 2 ≤ 100; omega) hcur
   rcases repk_get (n := dvK) d4 with ⟨e1, e2⟩ | ⟨vd, od', e1, e2, hvd⟩
   ·ext
    refine g_freeze [] ?_
    refine g_runK (fin (Sub.cons .refl) .nul (by simp [look, e2]) (by assumption) (by assumption)) hw' hn' (by omega) (by omega) ?_
    intro Zk hZk
    rintro r5 o5 J5 ⟨ot5, rfl, sub5, S5⟩
    refine hZk _ _ _ ?_
    ext
    exact hK3 _ _ _ _ (turnq_next ⟨ot5, rfl, by ext sub, by ext has, S5⟩)
   ·ext
    refine g_freeze [] ?_
    refine g_runK (fin (Sub.cons .refl) (hvd.mono (Sub.cons .refl)) (by simp [look, e2]) (by assumption) (by assumption)) hw' hn' (by omega) (by omega) ?_
    intro Zk hZk
    rintro r5 o5 J5 ⟨ot5, rfl, sub5, S5⟩
    refine hZk _ _ _ ?_
    ext
    exact hK3 _ _ _ _ (turnq_next ⟨ot5, rfl, by ext sub, by ext has, S5⟩)
  ·rintro M' o₂ J3 ⟨ot3, rfl, sub3, has3, S3⟩
   rw [hfl, List.take_length] at S3
   obtain ⟨r1, r2, r3⟩ := hr _ rfl
   have hlen : (resT T h0 hd ks).length ≤ 100 := by
    unfold resT
    have h1 := fold_len (T := T) (h0 := h0) (hd := hd) ks (putT T 3 0 (.dic (turnsO h0 [(vK, .nul)])))
    have h2 := putT_len (T := T) (n := 3) (g := 0) (o := .dic (turnsO h0 [(vK, .nul)]))
    omega
   refine nextq_next (g_weak has3 ?_)
   ext
   refine g_runK (need_c S3 hlen hR hl20 hf20 hf0 r1 r2 r3) hw hn (by omega) (by omega) ?_
   intro Zk hZk
   rintro r4 o4 J4 ⟨ot4, od4, rfl, sub4, S4⟩
   refine hZk _ _ _ ?_
   ext
   exact hnext _ _ _ ⟨ot4, od4, rfl, by ext sub, S4⟩
inductive StrsD : List (Str × Value) → List (Str × Str) → Prop
 | nil : StrsD [] []
 | snoc {kvs : List (Str × Value)} {l : List (Str × Str)} {k s : Str} {t : Tok} : StrsD kvs l → StrsD (kvs ++ [(k, .str s t)]) (l ++ [(k, s)])
theorem StrsD.len {l : List (Str × Str)} (r : StrsD kvs l) : kvs.length = l.length := by
 induction r with
 | nil => rfl
 | snoc r ih => rw [List.length_append, List.length_append, ih]; rfl
theorem StrsD.keys {l : List (Str × Str)} (r : StrsD kvs l) : kvs.map (·.1) = l.map (·.1) := by
 induction r with
 | nil => rfl
 | snoc r ih => rw [List.map_append, List.map_append, ih]; rfl
theorem va_none (h : k ∉ kvs.map (·.1)) : valueAt kvs k = none := by
 induction kvs with
 | nil => rfl
 | cons p r ih => exact va_t (beq_eq_false_iff_ne.mpr fun e => h (e ▸ .head _)) (ih fun z => h (.tail _ z))
theorem stored_new (h : k ∉ kvs.map (·.1)) : stored kvs k v = kvs ++ [(k, v)] := putG_new h
noncomputable def dat1 (T : Tab) (h0 : List (Str × Ob)) (hd : Int → List (Str × Ob)) (nm : Int → Array UInt8) (k : Int) : Option (Str × Str) := match fetchO T 30 (look (wholeH T h0 (hd k)) vK) with
 | .str b => some (fullN (nm k), textO b)
 | _ => none
noncomputable def dataO (T : Tab) (h0 : List (Str × Ob)) (hd : Int → List (Str × Ob)) (nm : Int → Array UInt8) (ks : List Int) : List (Str × Str) := ks.filterMap (dat1 T h0 hd nm)
theorem dat1_key {T : Tab} {hd : Int → List (Str × Ob)} {k : Int} {p : Str × Str} (h : dat1 T h0 hd nm k = some p) : p.1 = fullN (nm k) := by
 unfold dat1 at h
 split at h
 ·cases h; rfl
 ·cases h
theorem data_key {T : Tab} {hd : Int → List (Str × Ob)} (h : x ∈ (dataO T h0 hd nm ks).map (·.1)) : ∃ k ∈ ks, x = fullN (nm k) := by
 obtain ⟨p, hp, rfl⟩ := List.mem_map.mp h
 obtain ⟨k, hk, e⟩ := List.mem_filterMap.mp hp
 exact ⟨k, hk, dat1_key e⟩
theorem data_c {w : World} {own : Led} {T : Tab} {hd : Int → List (Str × Ob)} (S : Shl w own J z T R) (Fm : Form T R h0 ks hd nm) (hnm : (ks.map fun k => fullN (nm k)).Nodup)
  (hkind : ∀ k ∈ ks, isText (kindO (getO T (wholeH T h0 (hd k)) "FT")) ∧ okO (fetchO T 30 (look (wholeH T h0 (hd k)) vK)) ∧ isArr (fetchO T 30 (look (wholeH T h0 (hd k)) vK)) = false ∧ look (wholeH T h0 (hd k)) (.ofString "Ff") = .nul) :
  RunP w 17 1100 (.ref 710) [.ref z.sh] own J (fun r J' => ∃ d o kvs, r = .ref d ∧ (d, o) ∈ J' ∧ (d == sysModules) = false ∧ o.IsDictOf (PySem.strKind prog w) kvs ∧ StrsD kvs (dataO T h0 hd nm ks)) := by
 have hfew := Fm.few
 have Sh : ∀ {J' : Led} (p : Addr × Obj), Sub J J' → Shl w (p :: own) J' z T R := fun l s => (S.mono s).own fun _ c => .tail _ c
 walk_at "g def"
 ext
 rename_i D oD loD hsD hiD
 refine g_runP (ff_c (Sh _ .refl) Fm) hw hn (by omega) (by omega) fun r J1 sub1 V1 => ?_
 obtain ⟨fd, fvs, n1, rfl, hfd, hF⟩ := V1
 have hfl := hF.len
 let Iv31 : Nat → Loc → Led → Led → Prop := fun i M' o' J' => ∃ o₁ kvs, o' = (D, o₁) :: own ∧ Sub J1 J' ∧ Has M' [(.ofString "found", .ref D), (.ofString "shelf", .ref z.sh)] ∧ o₁.IsDictOf (PySem.strKind prog w) kvs ∧ StrsD kvs (dataO T h0 hd nm (ks.take i))
 refine forG hfe (src_list hfd) Iv31 (by rintro _ _ _ _ ⟨_, _, _, q, _, _, _⟩; exact q) ⟨oD, [], rfl, .refl, by ext has, hsD, .nil⟩ ?_ ?_
 ·intro C' i v M' o₂ J2 K₂ hsm
  walk_at "g turn"
  rintro hlt hi ⟨o₁, kvs, rfl, sub2, has2, ho₁, hkv⟩ hK2
  obtain ⟨k, hk, FA⟩ := hF.at hi
  have hkm := List.mem_of_getElem? hk
  obtain ⟨q1, q2, q3, q4⟩ := hkind k hkm
  have FA2 := FA.mono sub2
  have htk : dataO T h0 hd nm (ks.take (i + 1)) = dataO T h0 hd nm (ks.take i) ++ (dat1 T h0 hd nm k).toList := by
   unfold dataO
   rw [List.take_add_one, hk, List.filterMap_append]
   cases h : dat1 T h0 hd nm k <;> simp [h]
  have hnew : fullN (nm k) ∉ kvs.map (·.1) := by
   rw [hkv.keys]
   intro hm
   obtain ⟨k', hk', e⟩ := data_key hm
   obtain ⟨j, hj, e2⟩ := List.getElem_of_mem hk'
   have hjl : j < i := by simp at hj; omega
   have hil := (List.getElem?_eq_some_iff.mp hk).1
   have h1 : ks[i] = k := (List.getElem?_eq_some_iff.mp hk).2
   rw [List.getElem_take] at e2
   have h3 : (ks.map fun k => fullN (nm k))[i]'(by simpa using hil) = (ks.map fun k => fullN (nm k))[j]'(by simp; omega) := by
    rw [List.getElem_map, List.getElem_map, h1, e2, e]
   exact nodup_ne hnm (by simpa using hil) hjl h3.symm
  have hkl : kvs.length ≤ sizeLine := by
   have h1 := hkv.len
   have h2 : (dataO T h0 hd nm (ks.take i)).length ≤ (ks.take i).length := List.length_filterMap_le _ _
   have h3 := List.length_take_le' i ks
   rw [sizeLine_eq]; omega
  obtain ⟨x, dx, t1, t2, t3, t4, t5, t6, u1, u2, rv, av, wv, hv', rfl, hx1, hx2, hrv, hhv'⟩ := id FA2.is
  refine g_weak has2 ?_
  ext
  refine g_runP (value_in_c (Sh _ (Sub.trans sub1 sub2)) FA2 q1 q2 q3) hw' hn' (by omega) (by omega) fun r J3 sub3 V3 => ?_
  have hskip : ∀ {M : Loc}, r = .none → dat1 T h0 hd nm k = none → Has M [(.ofString "found", .ref D), (.ofString "shelf", .ref z.sh)] → K₂ .next M ((D, o₁) :: own) J3 := fun e1 e2 hs => by
   refine hK2 _ _ _ _ (turnq_next ⟨o₁, kvs, rfl, by ext sub, hs, ho₁, ?_⟩)
   rw [htk, e2]; simpa using hkv
  have hd1 : dat1 T h0 hd nm k = match fetchO T 30 (look (wholeH T h0 (hd k)) vK) with
   | .str b => some (fullN (nm k), textO b)
   | _ => none := rfl
  generalize hO : fetchO T 30 (look (wholeH T h0 (hd k)) vK) = O at V3 hd1
  cases O with
  | str b =>
   obtain ⟨tv, rfl⟩ := V3
   have hx1' := sub3 _ hx1
   have hx2' := sub3 _ hx2
   ext
   refine g_runP (has_flag_c (Sh _ (Sub.trans sub1 (Sub.trans sub2 sub3))) (FA2.mono sub3) q4 (.inr (.inr rfl))) hw' hn' (by omega) (by omega) fun r J4 sub4 V4 => ?_
   subst V4
   have hx1'' := sub4 _ hx1'
   have hx2'' := sub4 _ hx2'
   ext
   refine g_notin (knd := PySem.strKind prog w) (b := false) hw' (.head _) ho₁ loD (strKind_is _ _ _ _) (by rw [va_none hnew]; rfl) ?_
   walk_at "gns"
   refine g_setitem hw' [] (knd := PySem.strKind prog w) ho₁ (strKind_is _ _ _ _) hkl fun o' ho' => ?_
   ext
   refine hK2 _ _ _ _ (turnq_next ⟨o', _, rfl, by ext sub, by ext has, ho', ?_⟩)
   rw [stored_new hnew, htk, hd1]
   exact .snoc hkv
  | _ =>
   have V3' : r = .none := V3
   subst V3'
   ext
   exact hskip rfl hd1 (by ext has)
 ·rintro M' o₂ J2 ⟨o₁, kvs, rfl, sub2, has2, ho₁, hkv⟩
  refine nextq_next (g_weak has2 (g_freeze [] ?_))
  ext
  rw [hfl, List.take_length] at hkv
  exact hret _ _ _ _ ⟨rfl, by ext sub, D, o₁, kvs, rfl, .head _, loD, ho₁, hkv⟩
noncomputable def kindS : Ob → String
 | .nul => "null" | .tru _ => "truth" | .int _ => "int" | .nam _ => "name" | .str _ => "string" | .ref _ _ => "ref" | .arr _ => "array" | .dic _ => "dict"
theorem kd0 (e : isNul o = true) : kindS o = "null" := by cases o <;> first | rfl | exact Bool.noConfusion e
theorem kd1 (e : isTru o = true) : kindS o = "truth" := by cases o <;> first | rfl | exact Bool.noConfusion e
theorem kd2 (a : isTru o = false) (e : isInt o = true) : kindS o = "int" := by cases o <;> first | rfl | exact Bool.noConfusion e | exact Bool.noConfusion a
theorem kd3 (e : isNam o = true) : kindS o = "name" := by cases o <;> first | rfl | exact Bool.noConfusion e
theorem kd4 (e : isStr o = true) : kindS o = "string" := by cases o <;> first | rfl | exact Bool.noConfusion e
theorem kd5 (e : isArr o = true) : kindS o = "array" := by cases o <;> first | rfl | exact Bool.noConfusion e
theorem kd6 (e : isDic o = true) : kindS o = "dict" := by cases o <;> first | rfl | exact Bool.noConfusion e
theorem kd7 (e : isRef o = true) : kindS o = "ref" := by cases o <;> first | rfl | exact Bool.noConfusion e
theorem kd8 (e0 : isNul o = false) (e1 : isTru o = false) (e2 : isInt o = false) (e3 : isNam o = false) (e4 : isStr o = false) (e5 : isArr o = false) (e6 : isDic o = false) (e7 : isRef o = false) : False := by cases o <;> first | exact Bool.noConfusion e0 | exact Bool.noConfusion e1 | exact Bool.noConfusion e2 | exact Bool.noConfusion e3 | exact Bool.noConfusion e4 | exact Bool.noConfusion e5 | exact Bool.noConfusion e6 | exact Bool.noConfusion e7
theorem kindof_c (hh : Bool) {w : World} {own : Led} (V : Rep w (own ++ J) v o) : RunBP hh w 1 60 (.ref 277) [v] own J (fun r _ => ∃ t, r = .str (.ofString (kindS o)) t) := by
 ext defA
 have fin : ∀ {s : String} {t : Tok} {M : Loc}, kindS o = s → Qf (.ret (.str (.ofString s) t)) M own J := fun e => hret _ _ _ _ ⟨rfl, .refl, _, by rw [e]⟩
 ext
 rw [rep_nul V]
 refine ⟨fun e0 => ?_, fun e0 => ?_⟩
 ·ext
  exact fin (kd0 e0)
 ext
 refine ⟨fun e1 => ?_, fun e1 => ?_⟩
 ·ext
  exact fin (kd1 e1)
 ext
 refine ⟨fun e2 => ?_, fun e2 => ?_⟩
 ·ext
  exact fin (kd2 e1 e2)
 ext
 refine ⟨fun e3 => ?_, fun e3 => ?_⟩
 ·ext
  exact fin (kd3 e3)
 ext
 refine ⟨fun e4 => ?_, fun e4 => ?_⟩
 ·ext
  exact fin (kd4 e4)
 ext
 refine ⟨fun e5 => ?_, fun e5 => ?_⟩
 ·ext
  exact fin (kd5 e5)
 ext
 refine ⟨fun e6 => ?_, fun e6 => ?_⟩
 ·ext
  exact fin (kd6 e6)
 ext
 refine ⟨fun e7 => ?_, fun e7 => ?_⟩
 ·ext
  exact fin (kd7 e7)
 exact (kd8 e0 e1 e2 e3 e4 e5 e6 e7).elim
noncomputable def toldN : Nat → Ob → TD
 | _, .nul => .tup [.str (.ofString "null")]
 | _, .tru b => .tup [.str (.ofString "truth"), .int (if b then 1 else 0)]
 | _, .int i => .tup [.str (.ofString "int"), .int i]
 | _, .nam s => .tup [.str (.ofString "name"), .str s]
 | _, .str b => .tup [.str (.ofString "string"), .byt b]
 | _, .ref n g => .tup [.str (.ofString "ref"), .int n, .int g]
 | 0, .arr _ => .tup []
 | 0, .dic _ => .tup []
 | n + 1, .arr l => .tup (.str (.ofString "array") :: l.map (toldN n))
 | n + 1, .dic l => .tup (.str (.ofString "dict") :: (srtS (l.map (·.1))).filterMap fun k => if isNul (look l k) then none else some (.tup [.str k, toldN n (look l k)]))
theorem told_plain (ha : isArr o = false) (hd : isDic o = false) : ∀ k, toldN k o = toldN 0 o := fun k => by
 cases o <;> first | (cases ha; done) | (cases hd; done) | (cases k <;> rfl)
noncomputable def deepN : Nat → Ob → Prop
 | 0, .arr _ => False
 | 0, .dic _ => False
 | n + 1, .arr l => l.length ≤ 60 ∧ ∀ o ∈ l, deepN n o
 | n + 1, .dic l => l.length ≤ 60 ∧ ∀ p ∈ l, deepN n p.2
 | _, _ => True
theorem plain_c (hh : Bool) {w : World} {own : Led} {t : Tok} (V : Rep w J v o) (ha : isArr o = false) (hdc : isDic o = false) : RunBP hh w 1 60 (.ref 284) [.str (.ofString (kindS o)) t, v] own J (fun r J' => RepD J' r (toldN n o)) := by
 ext defA
 cases V with
 | arr _ _ => cases ha
 | dic _ _ _ _ => cases hdc
 | nul =>
  ext
  exact hret _ _ _ _ ⟨rfl, by ext sub, by rw [told_plain rfl rfl]; exact .tup (.head _) (.cons (.str _ _) .nil)⟩
 | tru b =>
  ext
  cases b
  all_goals ext
  all_goals exact hret _ _ _ _ ⟨rfl, by ext sub, by rw [told_plain rfl rfl]; exact .tup (.head _) (.cons (.str _ _) (.cons (.int _ _) .nil))⟩
 | int i _ =>
  ext
  exact hret _ _ _ _ ⟨rfl, by ext sub, by rw [told_plain rfl rfl]; exact .tup (.head _) (.cons (.str _ _) (.cons (.int _ _) .nil))⟩
 | nam a b =>
  ext
  exact hret _ _ _ _ ⟨rfl, by ext sub, by rw [told_plain rfl rfl]; exact .tup (.head _) (.cons (.str _ _) (.cons (.str _ _) .nil))⟩
 | str a b =>
  ext
  refine g_bytes_same ?_
  ext
  exact hret _ _ _ _ ⟨rfl, by ext sub, by rw [told_plain rfl rfl]; exact .tup (.head _) (.cons (.str _ _) (.cons (.byt _ _) .nil))⟩
 | ref a b =>
  ext
  exact hret _ _ _ _ ⟨rfl, by ext sub, by rw [told_plain rfl rfl]; exact .tup (.head _) (.cons (.str _ _) (.cons (.int _ _) (.cons (.int _ _) .nil)))⟩
noncomputable abbrev Told (hh : Bool) (w : World) (n : Nat) : Prop := ∀ {own J : Led} {v : Value} {o : Ob}, Rep w J v o → deepN n o → RunBP hh w (n + 2) (100 + 10 * n) (.ref 289) [v] own J (fun r J' => RepD J' r (toldN n o))
theorem kind_ne {a : String} (h : a = "array" ∧ isArr o = false ∨ a = "dict" ∧ isDic o = false ∨ a = "stream") : (Str.ofString (kindS o) == Str.ofString a) = false := by
 rcases h with ⟨rfl, h⟩ | ⟨rfl, h⟩ | rfl <;> cases o <;> first | (cases h; done) | (dsimp only [kindS]; decide +kernel)
theorem told_leaf (hh : Bool) {w : World} {D : Nat} (hD : 2 ≤ D) (hU : 100 ≤ U) {own : Led} (V : Rep w J v o) (ha : isArr o = false) (hb : isDic o = false) : RunBP hh w D U (.ref 289) [v] own J (fun r J' => RepD J' r (toldN n o)) := by
 ext defn
 ext
 refine g_runPB (kindof_c hh (V.mono Sub.right)) hw hn (by omega) (by omega) fun r J1 sub1 V1 => ?_
 obtain ⟨t1, rfl⟩ := V1
 ext
 rw [kind_ne (.inl ⟨rfl, ha⟩)]
 ext
 rw [kind_ne (.inr (.inl ⟨rfl, hb⟩))]
 ext
 rw [kind_ne (.inr (.inr rfl))]
 ext
 refine g_runPB (plain_c hh (n := n) (V.mono sub1) ha hb) hw hn (by omega) (by omega) fun r J2 sub2 V2 => ?_
 ext
 exact hret _ _ _ _ ⟨rfl, by ext sub, V2⟩
theorem told_arr (hh : Bool) {w : World} (ih : Told hh w n) {own : Led} {l : List Ob} (V : Rep w J v (.arr l)) (hdp : deepN (n + 1) (.arr l)) : RunBP hh w (n + 1 + 2) (100 + 10 * (n + 1)) (.ref 289) [v] own J (fun r J' => RepD J' r (toldN (n + 1) (.arr l))) := by
 have V0 := V
 obtain ⟨a, c, xs, rfl, a1, a2⟩ := V.arr_inv
 have hxl := a2.len
 have hl60 : l.length ≤ 60 := hdp.1
 ext defn
 ext
 refine g_runPB (kindof_c hh (V0.mono Sub.right)) hw hn (by omega) (by omega) fun r J1 sub1 V1 => ?_
 obtain ⟨t1, rfl⟩ := V1
 ext
 refine g_comp [] ?sc ?_
 case sc => ext sc
 ext
 refine let Iv70 : Nat → List Value → Led → Led → Prop := fun i ys o' J' => own = o' ∧ Sub (_ :: J1) J' ∧ RepDL J' ys ((l.take i).map (toldN n));
  ⟨?sc, compG (src_list (.tail _ (sub1 _ a1))) ?sc (by rw [sizeLine_eq]; omega) Iv70 (by rintro _ _ _ _ ⟨_, q, _⟩; exact q) ⟨rfl, .refl, .nil⟩ (fun _ _ => rfl) ?_ ?_⟩
 case sc => ext sc
 ·intro C' i v ys o₂ J2 D k K KS hic hlt0 hi
  rintro ⟨rfl, sub2, hys⟩ hK hKS
  ext comph
  obtain ⟨o', ho', Vo⟩ := a2.at hi
  ext
  refine g_runPB (ih (Vo.mono (Sub.trans sub1 (Sub.trans (Sub.cons .refl) sub2))) (hdp.2 _ (List.mem_of_getElem? ho'))) hw' hn' (by omega) (by omega) fun r3 J3 sub3 V3 => ?_
  refine hK _ _ _ _ has_nil ⟨rfl, by ext sub, ?_⟩
  rw [take_map_succ _ ho']
  exact RepDL.append (RepDL.mono sub3 hys) (.cons V3 .nil)
 ·rintro ys o₂ J2 D k ⟨rfl, sub2, hys⟩ hle
  rw [hxl, List.take_length] at hys
  refine compEnd0 ?_
  refine g_freeze [] ?_
  ext
  refine g_tuple_list (mR (.head _)) (by omega) fun D' => ?_
  ext
  refine g_add_tup (.tail _ (.tail _ (sub2 _ (.head _)))) (.head _) (by simp; omega) fun D2 J3 sub3 hz3 => ?_
  obtain ⟨c3, h3⟩ := hz3
  refine hret _ _ _ _ ⟨rfl, by ext sub, ?_⟩
  exact .tup h3 (.cons (.str _ _) (RepDL.mono (Sub.trans (Sub.cons (Sub.cons .refl)) sub3) hys))
theorem mem_keys (h : k ∈ l.map (·.1)) : ∃ o, l.lookup k = some o ∧ (k, o) ∈ l := by
 induction l with
 | nil => cases h
 | cons p r ih =>
  obtain ⟨k', o'⟩ := p
  by_cases e : k = k'
  ·subst e; exact ⟨o', by simp, .head _⟩
  ·have e' : (k == k') = false := by simpa using e
   rcases List.mem_cons.mp h with h | h
   ·exact absurd h e
   ·obtain ⟨o, h1, h2⟩ := ih h
    exact ⟨o, by rw [List.lookup_cons, e']; exact h1, .tail _ h2⟩
theorem told_dic (hh : Bool) {w : World} (ih : Told hh w n) {own : Led} (a1 : (a, oa) ∈ own ++ J) (a2 : oa.IsDictOf (PySem.strKind prog w) kvs) (a3 : (a == sysModules) = false) (a4 : RepK w J kvs l) (hdp : deepN (n + 1) (.dic l)) : RunBP hh w (n + 1 + 2) (100 + 10 * (n + 1)) (.ref 289) [.ref a] own J (fun r J' => RepD J' r (toldN (n + 1) (.dic l))) := by
 have V0 : Rep w (own ++ J) (.ref a) (.dic l) := .dic a1 a2 a3 (RepK.mono Sub.right a4)
 have hxl := a4.len
 have hl60 : l.length ≤ 60 := hdp.1
 have hkeys := repk_keys a4
 ext defn
 ext
 refine g_runPB (kindof_c hh V0) hw hn (by omega) (by omega) fun r J1 sub1 V1 => ?_
 obtain ⟨t1, rfl⟩ := V1
 have a1' := Sub.app sub1 _ a1
 ext
 refine g_comp [(.ofString "value", .ref a)] ?sc ?_
 case sc => ext scF
 ext
 refine g_sortedSJ hw (Sub.app (Sub.cons .refl) _ a1') a2 a3 (by omega) fun Ds vs c hvs hpm => ?_
 rw [hkeys] at hvs hpm
 have hvl := strs_len hvs
 have hpl := hpm.length_eq
 simp only [List.length_map] at hpl
 refine let Iv71 : Nat → List Value → Led → Led → Prop := fun i ys o' J' => own = o' ∧ Sub ((Ds, listOf (List.toArray vs) c) :: _ :: J1) J' ∧ RepDL J' ys (((srtS (l.map (·.1))).take i).filterMap fun k => if isNul (look l k) then none else some (TD.tup [.str k, toldN n (look l k)]));
  ⟨?sc, compG (src_list (.head _)) ?sc (by rw [sizeLine_eq]; omega) Iv71 (by rintro _ _ _ _ ⟨_, q, _⟩; exact q) ⟨rfl, .refl, .nil⟩ (fun _ _ => rfl) ?_ ?_⟩
 case sc => ext scF
 ·intro C' i v ys o₂ J2 D k K KS hic hlt0 hi
  rintro ⟨rfl, sub2, hys⟩ hK hKS
  ext comph
  obtain ⟨ks, tk, rfl, hks⟩ := strs_at hvs hi
  obtain ⟨o', ho', hmem⟩ := mem_keys (hpm.mem_iff.mp (List.mem_of_getElem? hks))
  have a1'' : (a, oa) ∈ own ++ J2 := Sub.app (Sub.trans (Sub.cons (Sub.cons .refl)) sub2) _ a1'
  have hlk : look l ks = o' := by simp [look, ho']
  have htk : ((srtS (l.map (·.1))).take (i + 1)).filterMap (fun k => if isNul (look l k) then none else some (TD.tup [.str k, toldN n (look l k)])) = ((srtS (l.map (·.1))).take i).filterMap (fun k => if isNul (look l k) then none else some (TD.tup [.str k, toldN n (look l k)])) ++ if isNul o' then [] else [TD.tup [.str ks, toldN n o']] := by
   rw [List.take_add_one, hks, List.filterMap_append]
   congr 1
   cases hz : isNul o' <;> simp [hlk, hz]
  rcases repk_get (n := ks) a4 with ⟨f1, f2⟩ | ⟨vx, ox, f1, f2, Vx⟩
  ·rw [f2] at ho'; cases ho'
  rw [f2] at ho'; cases ho'
  ext
  refine g_item (knd := PySem.strKind prog w) hw' (List.mem_cons_of_mem _ a1'') a2 (strKind_is _ _ _ _) f1 ?_
  ext
  rw [rep_nul Vx]
  refine ⟨fun e => ?_, fun e => ?_⟩
  ·have e' : isNul o' = false := by simpa using e
   ext
   refine g_item (knd := PySem.strKind prog w) hw' (List.mem_cons_of_mem _ a1'') a2 (strKind_is _ _ _ _) f1 ?_
   ext
   refine g_runPB (ih (Vx.mono (Sub.trans sub1 (Sub.trans (Sub.cons (Sub.cons .refl)) sub2))) (hdp.2 _ hmem)) hw' hn' (by omega) (by omega) fun r3 J3 sub3 V3 => ?_
   ext
   refine hK _ _ _ _ (by ext has) ⟨rfl, by ext sub, ?_⟩
   rw [htk, e']
   exact RepDL.append (RepDL.mono (Sub.trans sub3 (Sub.cons .refl)) hys) (.cons (.tup (.head _) (.cons (.str _ _) (.cons (RepD.mono (Sub.cons .refl) V3) .nil))) .nil)
  ·have e' : isNul o' = true := by simpa using e
   refine hKS _ _ _ (by ext has) ⟨rfl, sub2, ?_⟩
   rw [htk, e']
   simpa using hys
 ·rintro ys o₂ J2 D k ⟨rfl, sub2, hys⟩ hle
  rw [hvl, List.take_length] at hys
  have hyl : ys.length ≤ 60 := by omega
  refine compEnd0 ?_
  refine g_freeze [] ?_
  ext
  refine g_tuple_list (mR (.head _)) (by omega) fun D' => ?_
  ext
  refine g_add_tup (.tail _ (.tail _ (sub2 _ (.tail _ (.head _))))) (.head _) (by simp; omega) fun D2 J3 sub3 hz3 => ?_
  obtain ⟨c3, h3⟩ := hz3
  refine hret _ _ _ _ ⟨rfl, by ext sub, ?_⟩
  exact .tup h3 (.cons (.str _ _) (RepDL.mono (Sub.trans (Sub.cons (Sub.cons .refl)) sub3) hys))
theorem told_c (hh : Bool) (w : World) : ∀ n : Nat, Told hh w n := by
 intro n
 induction n with
 | zero =>
  intro own J v o V hdp
  exact told_leaf hh (by omega) (by omega) V (by cases o <;> first | rfl | exact hdp.elim) (by cases o <;> first | rfl | exact hdp.elim)
 | succ n ih =>
  intro own J v o V hdp
  cases hb : isArr o
  ·cases hc : isDic o
   ·exact told_leaf hh (by omega) (by omega) V hb hc
   ·cases o <;> first | (cases hc; done) | (cases V with | dic a1 a2 a3 a4 => exact told_dic hh ih (mR a1) a2 a3 a4 hdp)
  ·cases o <;> first | (cases hb; done) | exact told_arr hh ih V hdp
theorem numbers_c (hh : Bool) {w : World} {own : Led} {T : Tab} (S : Shl w own J z T R) (hT : T.length ≤ 60) : RunBP hh w 1 60 (.ref 360) [.ref z.sh] own J (fun r J' => ∃ D vs c, r = .ref D ∧ (D, listOf (List.toArray vs) c) ∈ J' ∧ IntsAre vs (srtI (T.map (·.1))) ∧ (srtI (T.map (·.1))).Perm (T.map (·.1))) := by
 obtain ⟨hz1, hz2⟩ := S.lies
 obtain ⟨ot, kvs, hot, hd1, hd2, hd3⟩ := S.tab
 have hl := hd3.len
 have hk : kvs.map (·.1) = T.map (·.1) := by
  have : ∀ {kvs : List (Int × Value)} {T : Tab}, RepT w J kvs T → kvs.map (·.1) = T.map (·.1) := by
   intro kvs T r
   induction r with
   | nil => rfl
   | cons a b r ih => simp [ih]
  exact this hd3
 ext defA
 ext
 refine g_sortedIJ hw (mL hot) hd1 hd2 (by omega) fun D vs c hi hp => ?_
 rw [hk] at hi hp
 exact hret _ _ _ _ ⟨rfl, by ext sub, D, vs, c, rfl, .head _, hi, hp⟩
noncomputable def rowT (n : Nat) (T : Tab) (k : Int) : TD := match T.lookup k with
 | some (g, o) => .tup [.int k, .int g, toldN n o]
 | none => .tup []
noncomputable def toldT (n : Nat) (T : Tab) : TD := .tup ((srtI (T.map (·.1))).map (rowT n T))
theorem ints_len {vs : List Value} {ns : List Int} (r : IntsAre vs ns) : vs.length = ns.length := by
 induction r with
 | nil => rfl
 | cons n t r ih => exact congrArg Nat.succ ih
theorem memT_look {T : Tab} {k : Int} (h : k ∈ T.map (·.1)) : ∃ g o, T.lookup k = some (g, o) := by
 induction T with
 | nil => cases h
 | cons p r ih =>
  rw [look1]
  by_cases e : k = p.1
  ·rw [if_pos e]; exact ⟨_, _, rfl⟩
  ·rw [if_neg e]; exact ih ((List.mem_cons.mp h).elim (fun z => absurd z e) id)
theorem shelf_told_c (hh : Bool) {w : World} {own : Led} {T : Tab} (S : Shl w own J z T R) (hT : T.length ≤ 60) (hdp : ∀ p ∈ T, deepN (n + 1) p.2.2) (hdR : deepN (n + 1) (.dic R)) :
  RunBP hh w (n + 4) (200 + 10 * n) (.ref 372) [.ref z.sh] own J (fun r J' => RepD J' r (.tup [toldT (n + 1) T, toldN (n + 1) (.dic R)])) := by
 obtain ⟨hz1, hz2⟩ := S.lies
 obtain ⟨ot, kvs, hot, hd1, hd2, hd3⟩ := S.tab
 obtain ⟨od, dvs, hod, hr1, hr2, hr3⟩ := S.tra
 ext defn
 refine g_cons (g_asg ?_ (by rfl))
 ext
 refine g_comp [(.ofString "self", .ref z.sh)] ?sc ?_
 case sc => ext scF
 ext
 refine g_runPB (numbers_c hh S hT) hw hn (by omega) (by omega) fun r J1 sub1 V1 => ?_
 obtain ⟨D, vs, c, rfl, hD, hvs, hpm⟩ := V1
 have hvl := ints_len hvs
 have hpl := hpm.length_eq
 simp only [List.length_map] at hpl
 let Iv41 : Nat → List Value → Led → Led → Prop := fun i ys o' J' => own = o' ∧ Sub J1 J' ∧ RepDL J' ys (((srtI (T.map (·.1))).take i).map (rowT (n + 1) T))
 refine ⟨?sc, compG (src_list hD) ?sc (by rw [sizeLine_eq]; omega) Iv41 (by rintro _ _ _ _ ⟨_, q, _⟩; exact q) ⟨rfl, .refl, .nil⟩ (fun _ _ => rfl) ?_ ?_⟩
 case sc => ext scF
 ·intro C' i v ys o₂ J2 D' k K KS hic hlt0 hi
  rintro ⟨rfl, sub2, hys⟩ hK hKS
  ext comph
  obtain ⟨kk, tk, rfl, hks⟩ := ints_at hvs hi
  obtain ⟨g, o, hlk⟩ := memT_look (hpm.mem_iff.mp (List.mem_of_getElem? hks))
  rcases rept_get (n := kk) hd3 with ⟨e1, e2⟩ | ⟨q, g2, tk2, v2, o2, e1, e2, hq, hr⟩
  ·rw [hlk] at e2; cases e2
  rw [hlk] at e2; cases e2
  have sA : Sub J J2 := Sub.trans sub1 sub2
  have hz1' := sA _ hz1
  have hz2' := sA _ hz2
  have hq' := sA _ hq
  ext
  refine g_base (.ofString "x") default ?_
  refine g_item (knd := PySem.intKind prog w) hw' (mL (.tail _ hot)) hd1 (intKind_is _ _ _ _) e1 ?_
  ext
  refine g_base (.ofString "x") default ?_
  refine g_item_tup (j := 0) (mR hq') (by decide) (by decide) rfl rfl ?_
  ext
  refine g_base (.ofString "x") default ?_
  refine g_item (knd := PySem.intKind prog w) hw' (mL (.tail _ hot)) hd1 (intKind_is _ _ _ _) e1 ?_
  ext
  refine g_base (.ofString "x") default ?_
  refine g_item_tup (j := 1) (mR hq') (by decide) (by decide) rfl rfl ?_
  ext
  refine g_runPB (told_c hh w (n + 1) (hr.mono sA) (hdp _ (lookS hlk))) hw' hn' (by omega) (by omega) fun r3 J3 sub3 V3 => ?_
  ext
  refine hK _ _ _ _ (by ext has) ⟨rfl, by ext sub, ?_⟩
  rw [take_map_succ _ hks]
  refine RepDL.append (RepDL.mono (Sub.trans sub3 (Sub.cons .refl)) hys) (.cons ?_ .nil)
  unfold rowT
  rw [hlk]
  exact .tup (.head _) (.cons (.int _ _) (.cons (.int _ _) (.cons (RepD.mono (Sub.cons .refl) V3) .nil)))
 ·rintro ys o₂ J2 D' k ⟨rfl, sub2, hys⟩ hle
  rw [hvl, List.take_length] at hys
  refine compEnd0 ?_
  refine g_freeze [] ?_
  ext
  refine g_tuple_list (mR (.head _)) (by omega) fun Dt => ?_
  have sA : Sub J ((Dt, tup ys) :: (D', listOf (List.toArray ys) k) :: J2) := Sub.trans (Sub.trans sub1 sub2) (Sub.cons (Sub.cons .refl))
  have hz1' := sA _ hz1
  have hz2' := sA _ hz2
  ext
  refine g_runPB (told_dic hh (told_c hh w n) (mL hod) hr1 hr2 (RepK.mono sA hr3) hdR) hw hn (by omega) (by omega) fun r3 J3 sub3 V3 => ?_
  ext
  refine hret _ _ _ _ ⟨rfl, Sub.trans sA (Sub.trans sub3 (Sub.cons .refl)), .tup (.head _) (.cons (.tup (.tail _ (sub3 _ (.head _))) (RepDL.mono (Sub.trans (Sub.cons (Sub.cons .refl)) (Sub.trans sub3 (Sub.cons .refl))) hys)) (.cons (RepD.mono (Sub.cons .refl) V3) .nil))⟩
theorem g_runA {own : Led} {Q : QV} {cs : Led} {w : World} {D : Nat} {Xr : XR} {R : Value → Led → Led → Prop} (r : RunA cs w D U f own J Xr R) (hw : C.w = w) (hD : D ≤ C.dl) (hU : U ≤ C.ul) (hn : C.hn = none) (hcs : ∀ p ∈ cs, p ∈ C.fr) (h : ∀ r o' J', R r o' J' → Q r M o' J') (hx : ∀ o' J', Xr o' J' → X M o' J') : G C (call f []) M own J X Q :=
 (r C hw hD hU hn hcs M).mono (fun _ _ _ _ z => z.1 ▸ h _ _ _ z.2) fun _ _ _ z => z.1 ▸ hx _ _ z.2
theorem g_done {w : World} (hw : C.w = w) (hout : C.outer = []) (hn : C.hn = none) (hfe : C.env = C.fe) {own : Led} {Q : QV} {T : Tab} (S : Shl w own J z T R) (hT : T.length ≤ 60) (hdp : ∀ p ∈ T, deepN (n + 1) p.2.2) (hdR : deepN (n + 1) (.dic R))
  (hdepth : depAll [toldT (n + 1) T, toldN (n + 1) (.dic R)] ≤ 1000) {f : Addr} {name : Str} {body : Expr} {scope : Scope} {ctv : Value} {c' : Addr} (hf : (f, kla_obj name q params body scope cl pm c' ctv) ∈ J)
  {Xr : Led → XR} {Rr : Led → Value → Led → Led → Prop} (hL : ∀ x v, L₀.lookup x = some v → M.lookup x = some v ∧ C.env.kindOf x = some .cell)
  (hask : ∀ J' cs, Sub J J' → (∀ x v, L₀.lookup x = some v → ∃ c o, C.env.cells.lookup x = some c ∧ (c, o) ∈ cs ∧ o.data = .cell (some v)) → RunA cs w 25 2000 (.ref f) own J' (Xr J') (Rr J'))
  (hD : n + 30 ≤ C.dl) (hU : 3000 + 10 * n ≤ C.ul)
  (hlet : ∀ J' r t o' J'', Sub J J' → Rr J' r o' J'' → Q (.str (.ofString "let") t) M o' J'')
  (href : ∀ J' o' J'', Sub J J' → Xr J' o' J'' → ∃ p, o' = p :: own ∧ Sub J' J'' ∧ ∀ t J3, Sub J'' J3 → Q (.str (.ofString "refused") t) M own J3) : G C (call (.ref 766) [.ref z.sh, .ref f]) M own J X Q := .mk fun ok s m loc St0 => by
 subst hw
 have hcs : ∀ x v, L₀.lookup x = some v → ∃ c o, C.env.cells.lookup x = some c ∧ (c, o) ∈ loc ++ C.fr ∧ o.data = .cell (some v) := fun x v h => by
  obtain ⟨h1, h2⟩ := hL x v h
  exact (St0.vars.vars x v h1).celled h2
 refine wpAny_call ?call
 case call =>
 refine' enter_try (R := fun v o' J' => Q v M o' J') ok hout St0 (by omega) (by omega) ?ho ?hcd ?hbind ?hkind ?hnd ?hco ?hgen ?hk ?body ?k
 case ho => k_is
 case hcd => k_is
 case hbind => ext binds
 case hkind => exact rfl
 case hnd => decide
 case hco => exact rfl
 case hgen => exact rfl
 case hk => exact rfl
 case k =>
  rintro v s' ⟨b1, b2, b3, b4, b5, b6, b7, e, S7, rfl, q⟩
  exact ⟨b1, b2, _, b4, b5, b6, b7, e, S7, q⟩
 case body =>
  intro C' hw hs hl hdl hul hn' hfe' hoc hfr ok' s1 m1 loc1 S1
  have hn1 := hn'.trans hn
  dsimp only [List.reverse, List.reverseAux] at S1
  obtain ⟨hz1, hz2⟩ := S.lies
  refine wpAny_execs_cons (wpAny_mono (G.go (X := noX) (Q := fun fl M1 o1 J1 => fl = .next ∧ o1 = own ∧ Sub J J1 ∧ ∃ d, Has M1 [(.ofString "before", d), (.ofString "ask", .ref f), (.ofString "shelf", .ref z.sh)] ∧ RepD J1 d (.tup [toldT (n + 1) T, toldN (n + 1) (.dic R)])) ?g1 ok' s1 m1 loc1 S1) (fun fl s2 p => ?_) fun _ _ p => p.never.elim)
  case g1 =>
   ext
   refine g_runP (shelf_told_c false S hT hdp hdR) hw (hn'.trans hn) (sb7 hdl hD rfl) (sb5 hul hU rfl) fun r J1 sub1 V1 => ?_
   ext
   exact ⟨rfl, rfl, sub1, r, by ext has, V1⟩
  obtain ⟨h2, tk2, M2, o2, J2, m2, loc2, rfl, S2, rfl, rfl, sub2, dv, has2, V2⟩ := p
  obtain ⟨db, rfl⟩ : ∃ db, dv = .ref db := by cases V2; exact ⟨_, rfl⟩
  dsimp only
  refine wpAny_execs_cons (wpAny_mono (g_try (s := { s1 with heap := h2, toks := tk2 }) (X := fun M o J => Has M [(.ofString "before", .ref db), (.ofString "shelf", .ref z.sh)] ∧ Xr J2 o J) (QN := fun fl _ o J => fl = .next ∧ ∃ r, Rr J2 r o J) (QH := fun fl _ o J => ∃ t, fl = .ret (.str (.ofString "refused") t) ∧ Q (.str (.ofString "refused") t) M o J) hfe' (by k_is) (by ext kind) (by k_is) (by decide) ?hb ?hx ok' S2) ?_ fun _ _ p => p.elim)
  case hb =>
   refine g_weak has2 ?_
   refine g_cons (g_expr (g_callF0 (g_local (by with_unfolding_all rfl) ?_ (by rfl) (by rfl))) (by rfl))
   refine ⟨f, _, none, _, _, rfl, mR (sub2 _ hf), ?_⟩
   refine g_runA (hask J2 (loc ++ C.fr) sub2 hcs) hw (sb8 hdl hD rfl) (sb6 hul hU rfl) hn1 (fun p hp => by rw [hfr]; exact hp) (fun r o' J' hr => ?_) fun o' J' hx => ?_
   ·ext
    exact ⟨rfl, r, hr⟩
   ·exact ⟨by ext has, hx⟩
  case hx =>
   rintro C₂ M3 o3 J3 cat ⟨has3, hx3⟩
   obtain ⟨p, rfl, sub3, hQ⟩ := href J2 o3 J3 sub2 hx3
   have hw₂ := cat.w.trans hw
   have hs₂ := (congrArg Env.scope cat.env).trans hs
   have hd₂ := cat.dl
   have hu₂ := cat.ul
   have sA : Sub J (p :: J3) := Sub.trans sub2 (Sub.trans sub3 (Sub.cons .refl))
   have hz1' := sA _ hz1
   have hz2' := sA _ hz2
   refine g_freeze [] (g_weak has3 ?_)
   ext
   refine g_runPB (shelf_told_c true (S.mono sA) hT hdp hdR) hw₂ (fun h => nomatch h) (sb7 (hd₂.trans hdl) hD rfl) (sb5 (hu₂.trans hul) hU rfl) fun r J4 sub4 V4 => ?_
   obtain ⟨da, rfl⟩ : ∃ da, r = .ref da := by cases V4; exact ⟨_, rfl⟩
   ext
   refine g_eqD V4 (RepD.mono (Sub.trans (Sub.trans sub3 (Sub.cons .refl)) sub4) V2) (Nat.le_trans (Nat.succ_le_succ hdepth) (sb6 (hu₂.trans hul) hU rfl)) ?_
   ext
   exact ⟨_, rfl, hQ _ _ (Sub.trans (Sub.cons .refl) sub4)⟩
  rintro fl s3 (p | ⟨C₂, cat, ok₂, p⟩)
  ·obtain ⟨h3, tk3, M3, o3, J3, m3, loc3, rfl, S3, rfl, r, hr⟩ := p
   dsimp only
   refine wpAny_mono (G.go (X := noX) (Q := fun fl _ o J => ∃ t, fl = .ret (.str (.ofString "let") t) ∧ o = o3 ∧ J = J3) ?g3 ok' { s1 with heap := h3, toks := tk3 } m3 loc3 S3) (fun fl s4 p => ?_) fun _ _ p => p.never.elim
   case g3 =>
    ext
    exact ⟨_, rfl, rfl, rfl⟩
   obtain ⟨h4, tk4, M4, o4, J4, m4, loc4, rfl, S4, t, rfl, rfl, rfl⟩ := p
   exact ⟨C', CatOf.refl, h4, tk4, M4, _, _, m4, loc4, rfl, S4, hlet J2 r t _ _ sub2 hr⟩
  ·obtain ⟨h3, tk3, M3, o3, J3, m3, loc3, rfl, S3, t, rfl, hq⟩ := p
   dsimp only
   exact ⟨C₂, cat, h3, tk3, M3, o3, J3, m3, loc3, rfl, S3, hq⟩
structure Dice (J : Led) (m : Nat) (o : Obj) : Prop where
 is : ∃ Dc nc cvs ns t1 t2 a c n, o = listOf (List.toArray [.ref Dc, .int a t1, .int c t2]) n ∧ (Dc, listOf (List.toArray cvs) nc) ∈ J ∧ IntsAre cvs ns ∧ ns.length ≤ 63 ∧ 0 ≤ a ∧ a ≤ (m : Int)
theorem Dice.mono {m m' : Nat} {o : Obj} (h : Dice J m o) (s : Sub J J') (hm : m ≤ m') : Dice J' m' o := by
 obtain ⟨Dc, nc, cvs, ns, t1, t2, a, c, n, e, h1, h2, h3, h4, h5⟩ := h.is
 exact ⟨Dc, nc, cvs, ns, t1, t2, a, c, n, e, s _ h1, h2, h3, h4, Int.le_trans h5 (Int.ofNat_le.mpr hm)⟩
theorem box_c {w : World} {own : Led} {Ds : Addr} {ns : Nat} {vs : List Value} {is : List Int} (hD : (Ds, listOf (List.toArray vs) ns) ∈ J) (hi : IntsAre vs is) (hz : is.length ≤ 10000) : Run w 3 100 (.ref 716) [.ref Ds] own J noR (fun r o' J' => ∃ D o, r = .ref D ∧ o' = (D, o) :: own ∧ Sub J J' ∧ Dice J' 0 o) := by
 have hvl := ints_len hi
 walk_at "g def"
 refine g_cons (g_ret (g_list (g_args ?_ (by rfl))))
 refine g_comp [] ?sc ?_
 case sc => ext sc
 ext
 have hi63 := ints_take hi (Int.toNat 63)
 have hv63 := ints_len hi63
 have hl63 : (vs.take (Int.toNat 63)).length ≤ 63 := by rw [List.length_take]; exact Nat.min_le_left _ _
 refine g_iced (g_item_to (mR (.tail _ hD)) (.head _) (by decide) (by rw [sizeLine_eq]; omega) fun D1 => ⟨_, _, rfl, ?_⟩)
 refine let Iv65 : Nat → List Value → Led → Led → Prop := fun i ys o' J' => own = o' ∧ Sub (_ :: _ :: J) J' ∧ IntsAre ys ((is.take (Int.toNat 63)).take i);
  ⟨?sc, compG (src_list (.head _)) ?sc (by rw [sizeLine_eq]; omega) Iv65 (by rintro _ _ _ _ ⟨_, q, _⟩; exact q) ⟨rfl, .refl, .nil⟩ (fun _ _ => rfl) ?_ ?_⟩
 case sc => ext sc
 ·intro C' i v ys o₂ J2 D k K KS hic hlt0 hi'
  rintro ⟨rfl, sub2, hys⟩ hK hKS
  ext comp
  obtain ⟨n', t', rfl, hn2⟩ := ints_at hi63 hi'
  ext
  refine hK _ _ _ _ has_nil ⟨rfl, sub2, ?_⟩
  rw [List.take_add_one, hn2]
  exact ints_snoc hys
 ·rintro ys o₂ J2 D2 k ⟨rfl, sub2, hys⟩ hle
  rw [hv63, List.take_length] at hys
  refine compEnd0 ?_
  refine g_freeze [] ?_
  ext
  exact hret _ _ _ _ ⟨_, _, rfl, rfl, by ext sub, ⟨_, _, _, _, _, _, _, _, _, rfl, .head _, hys, by omega, by decide, by decide⟩⟩
theorem coin_c {w : World} {l2 : Led} {o : Obj} {m : Nat} (hd : Dice J m o) (hm : m ≤ 1000) {many : Int} {t : Tok} (h1 : 1 ≤ many) (h2 : many ≤ 100) :
  Run w 1 100 (.ref 723) [.ref D, .int many t] (l1 ++ (D, o) :: l2) J noR (fun r o' J' => ∃ n t o₁, r = .int n t ∧ 0 ≤ n ∧ n < many ∧ o' = l1 ++ (D, o₁) :: l2 ∧ Sub J J' ∧ Dice J' (m + 1) o₁) := by
 obtain ⟨Dc, nc, cvs, ns, t1, t2, a, c, n, rfl, hc, hi, hz, ha, ham⟩ := hd.is
 have hcl := ints_len hi
 have hcz : cvs.length ≤ sizeLine := by rw [sizeLine_eq]; omega
 have h63 : (cvs.length : Int) < 2 ^ 63 := Int.lt_of_le_of_lt (Int.ofNat_le.mpr (hcl ▸ hz)) (by decide : (63 : Int) < _)
 walk_at "g def"
 refine g_cons (g_asgswap [.ofString "at", .ofString "cells"] hn ?_ (swap_at (by assumption) fun env => by rfl))
 ext
 refine g_item_list (mL (mR (.head _))) (by decide) (by decide) rfl ?_
 ext
 refine g_item_list (mL (mR (.head _))) (by decide) (by decide) rfl ?_
 ext
 refine ⟨_, _, _, rfl, mR (.head _), rfl, ?_⟩
 dsimp only [List.reverse, List.reverseAux, List.map]
 ext
 refine g_item_list (mL (mR (.head _))) (by decide) (by decide) rfl ?_
 ext
 have hna : many.natAbs < 1073741824 := Int.natAbs_lt_natAbs_of_nonneg_of_lt (b := 1073741824) (Int.le_of_lt h1) (Int.lt_of_le_of_lt h2 (by decide))
 have hmod : ∀ x : Int, 0 ≤ x.fmod many ∧ x.fmod many < many := fun x => ⟨Int.fmod_nonneg_of_pos x h1, Int.fmod_lt_of_pos x h1⟩
 refine ⟨fun e => ?_, fun e => ?_⟩
 ·ext
  refine g_setlist l1 (by decide) (by decide) (by show (1 : Int) < 3; decide) ?_
  ext
  refine ⟨fun e2 => ?_, fun e2 => ?_⟩
  ·ext
   refine g_mul (IntMulOk.of_left (intBits_le_64 (by decide) (by decide))) fun t10 => ?_
   ext
   refine g_mul (IntMulOk.of_left (intBits_le_64 (by omega) (by omega))) fun t11 => ?_
   ext
   refine g_floordiv (by decide) (PyProof.noPylong_small (by decide)) fun t12 => ?_
   ext
   refine g_freeze [] ?_
   refine g_ne_ints (mR (.tail _ (.tail _ hc))) (mR (.head _)) hi .nil (by omega) ?_
   ext
   refine ⟨fun e3 => ?_, fun e3 => ?_⟩
   ·have hne : ns ≠ [] := fun e => by rw [e] at e3; simp at e3
    have hpos : 0 < ns.length := List.length_pos_iff.mpr hne
    have hc0 : 0 < (cvs.length : Int) := Int.ofNat_lt.mpr (hcl ▸ hpos)
    have hcp : (cvs.length : Int) ≠ 0 := Int.ne_of_gt hc0
    ext
    refine g_mod hcp fun t13 => ?_
    ext
    have hm1 := Int.fmod_nonneg_of_pos a hc0
    have hm2 := Int.fmod_lt_of_pos a hc0
    obtain ⟨v, hv⟩ : ∃ v, cvs[(a.fmod (cvs.length : Int)).toNat]? = some v := ⟨_, List.getElem?_eq_getElem ((Int.toNat_lt hm1).mpr hm2)⟩
    obtain ⟨nv, tv, rfl, hnv⟩ := ints_at hi hv
    refine g_item_list (mR (.tail _ (.tail _ hc))) hm1 (Int.lt_trans hm2 h63) hv ?_
    ext
    refine g_mod (by omega) fun t14 => ?_
    ext
    exact hret _ _ _ _ ⟨_, _, _, rfl, (hmod _).1, (hmod _).2, rfl, by ext sub, ⟨Dc, nc, cvs, ns, _, _, a + 1, _, _, rfl, by ext mem, hi, hz, by omega, by omega⟩⟩
   ·ext
    refine g_mod (by omega) fun t14 => ?_
    ext
    exact hret _ _ _ _ ⟨_, _, _, rfl, (hmod _).1, (hmod _).2, rfl, by ext sub, ⟨Dc, nc, cvs, ns, _, _, a + 1, _, _, rfl, by ext mem, hi, hz, by omega, by omega⟩⟩
  ·have hlc : a < cvs.length := Int.not_le.mp (of_decide_eq_false e2)
   have hlt : a < ns.length := hcl ▸ hlc
   have hl63 := Int.lt_trans hlc h63
   ext
   obtain ⟨v, hv⟩ : ∃ v, cvs[a.toNat]? = some v := ⟨_, List.getElem?_eq_getElem ((Int.toNat_lt ha).mpr hlc)⟩
   obtain ⟨nv, tv, rfl, hnv⟩ := ints_at hi hv
   refine g_item_list (mR (.tail _ hc)) ha hl63 hv ?_
   ext
   refine g_pow (by decide) (by decide) (by decide) fun t15 => ?_
   ext
   refine ⟨fun e4 => ?_, fun e4 => ?_⟩
   ·ext
    refine g_item_list (mR (.tail _ hc)) ha hl63 hv ?_
    ext
    refine g_mod (by omega) fun t16 => ?_
    ext
    exact hret _ _ _ _ ⟨_, _, _, rfl, (hmod _).1, (hmod _).2, rfl, by ext sub, ⟨Dc, nc, cvs, ns, _, _, a + 1, _, _, rfl, by ext mem, hi, hz, by omega, by omega⟩⟩
   ·ext
    refine g_item_list (mR (.tail _ hc)) ha hl63 hv ?_
    ext
    refine g_pow (by decide) (by decide) (by decide) fun t17 => ?_
    ext
    refine g_setlist l1 (by decide) (by decide) (by show (2 : Int) < 3; decide) ?_
    ext
    refine g_item_list (mL (mR (.head _))) (by decide) (by decide) rfl ?_
    ext
    refine g_mod (by omega) fun t20 => ?_
    ext
    refine g_item_list (mL (mR (.head _))) (by decide) (by decide) rfl ?_
    ext
    refine g_floordiv (by omega) (PyProof.noPylong_small hna) fun t21 => ?_
    ext
    refine g_setlist l1 (by decide) (by decide) (by show (2 : Int) < 3; decide) ?_
    ext
    exact hret _ _ _ _ ⟨_, _, _, rfl, (hmod _).1, (hmod _).2, rfl, by ext sub, ⟨Dc, nc, cvs, ns, _, _, a + 1, _, _, rfl, by ext mem, hi, hz, by omega, by omega⟩⟩
 ·ext
  refine g_item_list (mL (mR (.head _))) (by decide) (by decide) rfl ?_
  ext
  refine g_mod (by omega) fun t20 => ?_
  ext
  refine g_item_list (mL (mR (.head _))) (by decide) (by decide) rfl ?_
  ext
  refine g_floordiv (by omega) (PyProof.noPylong_small hna) fun t21 => ?_
  ext
  refine g_setlist l1 (by decide) (by decide) (by show (2 : Int) < 3; decide) ?_
  ext
  exact hret _ _ _ _ ⟨_, _, _, rfl, (hmod _).1, (hmod _).2, rfl, by ext sub, ⟨Dc, nc, cvs, ns, _, _, a, _, _, rfl, .tail _ hc, hi, hz, ha, by omega⟩⟩
inductive RV | no | txt (s : Str) | num (i : Int) | lst (l : List Str)
inductive RepV (J : Led) : Value → RV → Prop
 | no : RepV J .none .no
 | txt (s : Str) (t : Tok) : RepV J (.str s t) (.txt s)
 | num (i : Int) (t : Tok) : RepV J (.int i t) (.num i)
 | lst {D : Addr} {vs : List Value} {n : Nat} {l : List Str} : (D, listOf (List.toArray vs) n) ∈ J → StrsAre vs l → RepV J (.ref D) (.lst l)
theorem RepV.mono (s : Sub J J') {r : RV} (h : RepV J v r) : RepV J' v r := by
 induction h with
 | no => exact .no
 | txt a b => exact .txt a b
 | num a b => exact .num a b
 | lst a b => exact .lst (s _ a) b
inductive RepE (J : Led) : List (Str × Value) → List (Str × RV) → Prop
 | nil : RepE J [] []
 | cons {k : Str} {v : Value} {r : RV} {vs : List (Str × Value)} {rs : List (Str × RV)} : RepV J v r → RepE J vs rs → RepE J ((k, v) :: vs) ((k, r) :: rs)
theorem RepE.mono (s : Sub J J') {v : List (Str × Value)} {r : List (Str × RV)} (h : RepE J v r) : RepE J' v r := by
 induction h with
 | nil => exact .nil
 | cons a b ih => exact .cons (a.mono s) ih
noncomputable def getE (es : List (Str × RV)) (k : Str) : RV := (es.lookup k).getD .no
noncomputable def hadE (e0 es : List (Str × RV)) (k : Str) : RV := match getE es k with
 | .no => getE e0 k
 | r => r
theorem repe_get {n : Str} {l : List (Str × RV)} (r : RepE J kvs l) : (valueAt kvs n = none ∧ l.lookup n = none) ∨ ∃ v o, valueAt kvs n = some v ∧ l.lookup n = some o ∧ RepV J v o := by
 induction r with
 | nil => exact .inl ⟨rfl, rfl⟩
 | @cons k v o vs rs hv r ih =>
  rw [look1]
  by_cases hk : n = k
  ·rw [if_pos hk, hk]; exact .inr ⟨v, o, va_h, rfl, hv⟩
  ·rw [if_neg hk, show valueAt ((k, v) :: vs) n = valueAt vs n by simp [valueAt, Ne.symm hk]]
   exact ih
theorem repe_val {w : World} {n : Str} {l : List (Str × RV)} (r : RepE J kvs l) : (∃ v, valueAt kvs n = some v ∧ RepV J v (getE l n)) ∨ (valueAt kvs n = none ∧ getE l n = .no) := by
 rcases repe_get (n := n) r with ⟨h1, h2⟩ | ⟨v, o, h1, h2, h3⟩
 ·exact .inr ⟨h1, by simp [getE, h2]⟩
 ·exact .inl ⟨v, h1, by simp [getE, h2, h3]⟩
structure EntAt (w : World) (J : Led) (d : Addr) (o : Obj) (es : List (Str × RV)) : Prop where
 is : ∃ kvs, o.IsDictOf (PySem.strKind prog w) kvs ∧ RepE J kvs es
 low : (d == sysModules) = false
theorem EntAt.mono {w : World} {o : Obj} {es : List (Str × RV)} (h : EntAt w J d o es) (s : Sub J J') : EntAt w J' d o es := ⟨h.is.imp fun _ z => ⟨z.1, z.2.mono s⟩, h.low⟩
theorem had_c {w : World} {own : Led} {rvs : List Value} {nr : Nat} (hR : (Dr, listOf (List.toArray rvs) nr) ∈ J) {d0 da : Addr} {o0 : Obj} {e0 ea : List (Str × RV)} (h0 : (d0, o0) ∈ own ++ J) (ha : (da, oa) ∈ own ++ J) (E0 : EntAt w J d0 o0 e0) (Ea : EntAt w J da oa ea)
  {i : Int} {t : Tok} (hi0 : 0 ≤ i) (hi1 : i < 1000) (hr0 : rvs[0]? = some (.ref d0)) (hra : rvs[i.toNat]? = some (.ref da)) : RunP w 1 60 (.ref 742) [.ref Dr, .int i t, .str k u] own J (fun r J' => RepV J' r (hadE e0 ea k)) := by
 obtain ⟨k0, a0, b0⟩ := E0.is
 obtain ⟨ka, aa, ba⟩ := Ea.is
 have l0 := E0.low
 have la := Ea.low
 walk_at "g def"
 ext
 refine g_item_list (mR hR) hi0 (by omega) hra ?_
 have rest : ∀ {M : Loc} {K : QV}, (∀ v M, RepV J v (getE e0 k) → K v M own J) → G C (call (.builtin "dict.get") [.ref d0, .str k u]) M own J Xf K := fun hK => by
  rcases repe_val (n := k) (w := w) b0 with ⟨v, e1, V⟩ | ⟨e1, e2⟩
  ·exact g_get1_s hw h0 a0 l0 e1 (hK _ _ V)
  ·exact g_get1_sn hw h0 a0 l0 e1 (hK _ _ (by rw [e2]; exact .no))
 rcases repe_val (w := w) (n := k) ba with ⟨v, e1, V⟩ | ⟨e1, e2⟩
 ·refine g_dget_s hw ha aa ?_
  ext
  generalize hg : getE ea k = g at V
  cases V with
  | no =>
   ext
   refine g_item_list (mR hR) (by decide) (by decide) hr0 ?_
   refine g_dget_s hw h0 a0 ?_
   ext
   refine rest fun v M V => ?_
   exact hret _ _ _ _ ⟨rfl, .refl, by unfold hadE; rw [hg]; exact V⟩
  | txt a b =>
   ext
   exact hret _ _ _ _ ⟨rfl, .refl, by unfold hadE; rw [hg]; exact .txt _ _⟩
  | num a b =>
   ext
   exact hret _ _ _ _ ⟨rfl, .refl, by unfold hadE; rw [hg]; exact .num _ _⟩
  | lst a b =>
   ext
   exact hret _ _ _ _ ⟨rfl, .refl, by unfold hadE; rw [hg]; exact .lst a b⟩
 ·refine g_dget_s hw ha aa ?_
  ext
  refine g_item_list (mR hR) (by decide) (by decide) hr0 ?_
  refine g_dget_s hw h0 a0 ?_
  ext
  refine rest fun v M V => ?_
  exact hret _ _ _ _ ⟨rfl, .refl, by unfold hadE; rw [e2]; exact V⟩
variable {e0 es : List (Str × RV)} {ents : Nat → List (Str × RV)} {r : RV}
noncomputable abbrev ftK : Str := .ofString "FT"
noncomputable abbrev mlK : Str := .ofString "MaxLen"
noncomputable abbrev opK : Str := .ofString "Opt"
noncomputable def letB (e0 ea : List (Str × RV)) (s : Str) : Bool := match hadE e0 ea ftK with
 | .txt x => if x == .ofString "Tx" then (match hadE e0 ea mlK with | .num m => decide ((s.length : Int) ≤ m) | _ => true) else (match hadE e0 ea opK with | .lst l => decide (s ∈ l) | _ => false)
 | _ => false
structure EntOk (e0 ea : List (Str × RV)) : Prop where
 ft : ∃ x, hadE e0 ea ftK = .txt x
 ml : hadE e0 ea mlK = .no ∨ ∃ m, hadE e0 ea mlK = .num m
 op : hadE e0 ea opK = .no ∨ ∃ l, hadE e0 ea opK = .lst l ∧ l.length ≤ 100
theorem is_let_c {w : World} {own : Led} {rvs : List Value} {nr : Nat} (hR : (Dr, listOf (List.toArray rvs) nr) ∈ J) {d0 da : Addr} {o0 : Obj} {ea : List (Str × RV)} (h0 : (d0, o0) ∈ own ++ J) (ha : (da, oa) ∈ own ++ J) (E0 : EntAt w J d0 o0 e0) (Ea : EntAt w J da oa ea)
  {i : Int} {t : Tok} (hi0 : 0 ≤ i) (hi1 : i < 1000) (hr0 : rvs[0]? = some (.ref d0)) (hra : rvs[i.toNat]? = some (.ref da)) (K : EntOk e0 ea) (hs0 : s.length ≤ 1000) : RunP w 2 100 (.ref 759) [.ref Dr, .int i t, .str s u] own J (fun r _ => r = .bool (letB e0 ea s)) := by
 obtain ⟨x, hx⟩ := K.ft
 have hadk : ∀ {J' : Led} (sub : Sub J J') (k : Str) {t u : Tok}, RunP w 1 60 (.ref 742) [.ref Dr, .int i t, .str k u] own J' (fun r J'' => RepV J'' r (hadE e0 ea k)) := fun sub k => had_c (sub _ hR) (Sub.app sub _ h0) (Sub.app sub _ ha) (E0.mono sub) (Ea.mono sub) hi0 hi1 hr0 hra
 walk_at "g def"
 ext
 refine g_runP (hadk .refl ftK) hw hn (by omega) (by omega) fun r J1 sub1 V1 => ?_
 rw [hx] at V1
 cases V1
 ext
 refine ⟨fun e => ?_, fun e => ?_⟩
 ·ext
  refine g_runP (hadk sub1 mlK) hw hn (by omega) (by omega) fun r J2 sub2 V2 => ?_
  rcases K.ml with hm | ⟨m, hm⟩
  ·rw [hm] at V2
   cases V2
   ext
   exact hret _ _ _ _ ⟨rfl, by ext sub, by unfold letB; rw [hx]; dsimp only; rw [if_pos e, hm]; rfl⟩
  ·rw [hm] at V2
   cases V2
   ext
   refine g_runP (hadk (Sub.trans sub1 sub2) mlK) hw hn (by omega) (by omega) fun r J3 sub3 V3 => ?_
   rw [hm] at V3
   cases V3
   ext
   exact hret _ _ _ _ ⟨rfl, by ext sub, by unfold letB; rw [hx]; dsimp only; rw [if_pos e, hm]⟩
 ·ext
  refine g_runP (hadk sub1 opK) hw hn (by omega) (by omega) fun r J2 sub2 V2 => ?_
  have fin : ∀ {b : Bool} {M : Loc} {J3 : Led}, (match hadE e0 ea opK with | .lst l => decide (s ∈ l) | _ => false) = b → Sub J J3 → Qf (.ret (.bool b)) M own J3 := fun h s => hret _ _ _ _ ⟨rfl, s, by unfold letB; rw [hx]; dsimp only; rw [if_neg (by rw [e]; decide), h]⟩
  rcases K.op with hm | ⟨l, hm, hl⟩
  ·rw [hm] at V2
   cases V2
   ext
   refine g_freeze [] ?_
   refine g_in_list_strs (vs := []) (ns := []) (mR (.head _)) .nil ?_
   exact fin (by rw [hm]; simp) (by ext sub)
  ·rw [hm] at V2
   cases V2 with
   | @lst D vs n _ b1 b2 =>
   have hvl := strs_len b2
   ext
   refine g_truthy_list (mR b1) (by omega) ?_
   refine ⟨fun e2 => ?_, fun e2 => ?_⟩
   ·have : l = [] := by
     cases vs with
     | nil => exact List.eq_nil_of_length_eq_zero hvl.symm
     | cons a b => cases e2
    ext
    refine g_freeze [] ?_
    refine g_in_list_strs (vs := []) (ns := []) (mR (.head _)) .nil ?_
    exact fin (by rw [hm, this]) (by ext sub)
   ·ext
    refine g_in_list_strs (mR b1) b2 ?_
    exact fin (by rw [hm]) (by ext sub)
noncomputable def setE (es : List (Str × RV)) (k : Str) (r : RV) : List (Str × RV) := putG es k r
theorem repe_any {l : List (Str × RV)} (r : RepE J kvs l) : (kvs.any fun p => decide (p.1 = k)) = l.any fun p => decide (p.1 = k) := by
 induction r with
 | nil => rfl
 | cons a r ih => rw [List.any_cons, List.any_cons, ih]
theorem repe_app {o : RV} (V : RepV J v o) {l : List (Str × RV)} (r : RepE J kvs l) : RepE J (kvs ++ [(k, v)]) (l ++ [(k, o)]) := by
 induction r with
 | nil => exact .cons V .nil
 | cons a r ih => exact .cons a ih
theorem repe_map {o : RV} (V : RepV J v o) {l : List (Str × RV)} (r : RepE J kvs l) : RepE J (kvs.map fun p => if p.1 = k then (p.1, v) else p) (l.map fun p => if p.1 = k then (p.1, o) else p) := by
 induction r with
 | nil => exact .nil
 | @cons k₀ _ _ _ _ a r ih =>
  rw [List.map_cons, List.map_cons]
  by_cases e : k₀ = k
  ·rw [if_pos e, if_pos e]; exact .cons V ih
  ·rw [if_neg e, if_neg e]; exact .cons a ih
theorem repe_put {l : List (Str × RV)} {o : RV} (r : RepE J kvs l) (V : RepV J v o) : RepE J (stored kvs k v) (setE l k o) := by
 unfold stored setE putG
 rw [repe_any r]
 split
 ·exact repe_map V r
 ·exact repe_app V r
theorem RepE.len {l : List (Str × RV)} (r : RepE J kvs l) : kvs.length = l.length := by
 induction r with
 | nil => rfl
 | cons a r ih => exact congrArg Nat.succ ih
theorem setE_len : (setE es k r).length ≤ es.length + 1 := putG_len
noncomputable def wordsL : List Str := [.ofString "x", .ofString "yy", .ofString "αβγ", .ofString ""]
noncomputable def okRV (k : Str) (r : RV) : Prop := (k = ftK ∧ (r = .no ∨ r = .txt (.ofString "Tx") ∨ r = .txt (.ofString "Ch"))) ∨ ((k = vK ∨ k = dvK) ∧ (r = .no ∨ ∃ s ∈ wordsL, r = .txt s)) ∨ (k = mlK ∧ (r = .no ∨ ∃ m : Int, 1 ≤ m ∧ (m ≤ 3 ∧ r = .num m))) ∨ (k = opK ∧ (r = .no ∨ ∃ n, 1 ≤ n ∧ (n ≤ 3 ∧ r = .lst (wordsL.take n))))
structure GoodE (es : List (Str × RV)) : Prop where
 nd : (es.map (·.1)).Nodup
 ok : ∀ p ∈ es, okRV p.1 p.2
theorem GoodE.set (h : GoodE es) (hk : okRV k r) : GoodE (setE es k r) :=
 ⟨putG_keys h.nd, fun p hp => (putG_mem hp).elim (h.ok p) fun e => e ▸ hk⟩
theorem getE_set : getE (setE es k r) k = r := congrArg (fun z => Option.getD z RV.no) (putG_look.trans (if_pos rfl))
theorem getE_other (hne : k ≠ k') : getE (setE es k r) k' = getE es k' := congrArg (fun z => Option.getD z RV.no) (putG_look.trans (if_neg hne.symm))
theorem ent_put {w : World} {o' : Obj} (h : o'.IsDictOf (PySem.strKind prog w) (stored kvs k v)) (e : RepE J kvs es) (lo : (d == sysModules) = false) (V : RepV J v r) : EntAt w J d o' (setE es k r) := ⟨⟨_, h, repe_put e V⟩, lo⟩
noncomputable abbrev wordVs : List Value := [.str (.ofString "x") 1135, .str (.ofString "yy") 1136, .str (.ofString "αβγ") 1137, .str (.ofString "") 1138]
theorem words_are : StrsAre wordVs wordsL := .cons _ _ (.cons _ _ (.cons _ _ (.cons _ _ .nil)))
theorem strs_take {vs : List Value} {ns : List Str} (r : StrsAre vs ns) : ∀ k, StrsAre (vs.take k) (ns.take k) := by
 induction r with
 | nil => intro k; rw [List.take_nil, List.take_nil]; exact .nil
 | cons n t r ih =>
  intro k
  cases k with
  | zero => exact .nil
  | succ k => exact .cons n t (ih k)
theorem word_at {n : Int} (h0 : 0 ≤ n) (h4 : n < 4) : ∃ s t, wordVs[n.toNat]? = some (.str s t) ∧ s ∈ wordsL ∧ seqIndex? n wordVs.length = some n.toNat := by
 obtain ⟨k, rfl⟩ := Int.eq_ofNat_of_zero_le h0
 have hk : k < 4 := by omega
 have hv : ∃ v, wordVs[k]? = some v := ⟨_, List.getElem?_eq_getElem hk⟩
 obtain ⟨v, hv⟩ := hv
 obtain ⟨s, t, rfl, hs⟩ := strs_at words_are hv
 refine ⟨s, t, by simpa using hv, List.mem_of_getElem? hs, ?_⟩
 rcases k with _ | _ | _ | _ | k
 ·rfl
 ·rfl
 ·rfl
 ·rfl
 ·omega
theorem entries_c {w : World} {l2 : Led} {o : Obj} {m : Nat} (hd : Dice J m o) (hm : m ≤ 900) {top : Bool} :
  Run w 2 200 (.ref 730) [.ref D, .bool top] (l1 ++ (D, o) :: l2) J noR (fun r o' J' => ∃ d od o₁ es, r = .ref d ∧ o' = (d, od) :: (l1 ++ (D, o₁) :: l2) ∧ Sub J J' ∧ Dice J' (m + 10) o₁ ∧ EntAt w J' d od es ∧ GoodE es ∧ es.length ≤ 5 ∧ (top = true → ∃ x, getE es ftK = .txt x)) := by
 walk_at "g def"
 refine g_cons (g_asg (g_dict0 hw fun d od lod hsd hid => g_store (by ext kind) (nextq_next ?_)) (by rfl))
 refine g_cons (G.mono (X := Xf) (Q := fun f M o J' => f = .next ∧ ∃ od o₁ es, o = (d, od) :: (l1 ++ (D, o₁) :: l2) ∧ Sub J J' ∧ Dice J' (m + 2) o₁ ∧ EntAt w J' d od es ∧ GoodE es ∧ es.length ≤ 1 ∧ (∀ p ∈ es, p.1 = ftK) ∧ (top = true → ∃ x, getE es ftK = .txt x) ∧ Has M [(.ofString "own", .ref d), (.ofString "dice", .ref D)]) ?ifp ?rest (fun _ _ _ h => h))
 case ifp =>
  have ftv : ∀ {n : Int} {t5 t6 : Tok}, 0 ≤ n → n < 2 → ∃ x u, [Value.str (.ofString "Tx") t5, Value.str (.ofString "Ch") t6][n.toNat]? = some (.str x u) ∧ (RV.txt x = .txt (.ofString "Tx") ∨ RV.txt x = .txt (.ofString "Ch")) ∧ seqIndex? n 2 = some n.toNat := by
   intro n t5 t6 h0 h1
   rcases (by omega : n = 0 ∨ n = 1) with rfl | rfl
   ·exact ⟨_, _, rfl, .inl rfl, rfl⟩
   ·exact ⟨_, _, rfl, .inr rfl, rfl⟩
  have hnone : ∀ {M : Loc} {o₁ : Obj} {J' : Led}, top = false → Sub J J' → Dice J' (m + 2) o₁ → Has M [(.ofString "own", .ref d), (.ofString "dice", .ref D)] → Flow.next = .next ∧ ∃ od' o₂ es, (d, od) :: (l1 ++ (D, o₁) :: l2) = (d, od') :: (l1 ++ (D, o₂) :: l2) ∧ Sub J J' ∧ Dice J' (m + 2) o₂ ∧ EntAt w J' d od' es ∧ GoodE es ∧ es.length ≤ 1 ∧ (∀ p ∈ es, p.1 = ftK) ∧ (top = true → ∃ x, getE es ftK = .txt x) ∧ Has M [(.ofString "own", .ref d), (.ofString "dice", .ref D)] := fun e s h hh =>
   ⟨rfl, od, _, [], rfl, s, h, ⟨⟨[], hsd, .nil⟩, lod⟩, ⟨List.nodup_nil, fun _ h => absurd h List.not_mem_nil⟩, by decide, (fun _ h => nomatch h), (fun e' => by rw [e] at e'; cases e'), hh⟩
  cases top
  ·ext
   refine g_runK (coin_c (l1 := (d, od) :: l1) hd (by omega) (by decide) (by decide)) hw hn (by omega) (by omega) ?_
   intro Zk hZk
   rintro r2 o2 J2 ⟨n2, t2, o2', rfl, h20, h21, rfl, sub2, hd2⟩
   refine hZk _ _ _ ?_
   ext
   refine ⟨fun e => ?_, fun e => ?_⟩
   ·ext
    refine g_runK (coin_c (l1 := (d, od) :: l1) (hd2.mono (Sub.cons .refl) (Nat.le_refl _)) (by omega) (by decide) (by decide)) hw hn (by omega) (by omega) ?_
    intro Zk hZk
    rintro r3 o3 J3 ⟨n3, t3, o3', rfl, h30, h31, rfl, sub3, hd3⟩
    refine hZk _ _ _ ?_
    obtain ⟨x3, u3, hx3, hok3, hs3⟩ := ftv h30 h31
    refine g_item_tup (mR (sub3 _ (.head _))) (by omega) (by omega) hs3 hx3 ?_
    walk_at "gns"
    refine g_setitem hw [] (knd := PySem.strKind prog w) hsd (strKind_is _ _ _ _) (size_ok rfl) fun o' ho' => ?_
    ext
    exact ⟨rfl, o', _, setE [] ftK (.txt x3), rfl, by ext sub, hd3.mono .refl (by omega), ent_put ho' .nil lod (.txt _ _), GoodE.set ⟨List.nodup_nil, fun _ h => absurd h List.not_mem_nil⟩ (.inl ⟨rfl, .inr hok3⟩), Nat.le_refl 1, fun p hp => by rw [List.mem_singleton.mp hp], fun _ => ⟨x3, getE_set⟩, by ext has⟩
   ·ext
    refine g_runK (coin_c (l1 := (d, od) :: l1) hd2 (by omega) (by decide) (by decide)) hw hn (by omega) (by omega) ?_
    intro Zk hZk
    rintro r3 o3 J3 ⟨n3, t3, o3', rfl, h30, h31, rfl, sub3, hd3⟩
    refine hZk _ _ _ ?_
    ext
    refine ⟨fun e2 => ?_, fun e2 => ?_⟩
    ·walk_at "gns"
     refine g_setitem hw [] (knd := PySem.strKind prog w) hsd (strKind_is _ _ _ _) (size_ok rfl) fun o' ho' => ?_
     ext
     exact ⟨rfl, o', _, setE [] ftK .no, rfl, by ext sub, hd3.mono .refl (by omega), ent_put ho' .nil lod .no, GoodE.set ⟨List.nodup_nil, fun _ h => absurd h List.not_mem_nil⟩ (.inl ⟨rfl, .inl rfl⟩), Nat.le_refl 1, fun p hp => by rw [List.mem_singleton.mp hp], fun e => (by cases e), by ext has⟩
    ·ext
     exact hnone rfl (by ext sub) (hd3.mono .refl (by omega)) (by ext has)
  ·ext
   refine g_runK (coin_c (l1 := (d, od) :: l1) (hd.mono (Sub.cons .refl) (Nat.le_refl _)) (by omega) (by decide) (by decide)) hw hn (by omega) (by omega) ?_
   intro Zk hZk
   rintro r3 o3 J3 ⟨n3, t3, o3', rfl, h30, h31, rfl, sub3, hd3⟩
   refine hZk _ _ _ ?_
   obtain ⟨x3, u3, hx3, hok3, hs3⟩ := ftv h30 h31
   refine g_item_tup (mR (sub3 _ (.head _))) (by omega) (by omega) hs3 hx3 ?_
   walk_at "gns"
   refine g_setitem hw [] (knd := PySem.strKind prog w) hsd (strKind_is _ _ _ _) (size_ok rfl) fun o' ho' => ?_
   ext
   exact ⟨rfl, o', _, setE [] ftK (.txt x3), rfl, by ext sub, hd3.mono .refl (by omega), ent_put ho' .nil lod (.txt _ _), GoodE.set ⟨List.nodup_nil, fun _ h => absurd h List.not_mem_nil⟩ (.inl ⟨rfl, .inr hok3⟩), Nat.le_refl 1, fun p hp => by rw [List.mem_singleton.mp hp], fun _ => ⟨x3, getE_set⟩, by ext has⟩
 case rest =>
  rintro f M1 o1 J1 ⟨rfl, od, o₁, es, rfl, sub1, hd1, hE, hG, hl1, hft, htop, has⟩
  refine nextq_next (g_weak has ?_)
  ext
  rename_i tu t1 t2 t3 t4
  refine let Iv66 : Nat → Loc → Led → Led → Prop := fun i M o J' => ∃ od o₁ es, o = (d, od) :: (l1 ++ (D, o₁) :: l2) ∧ Sub (_ :: J1) J' ∧ Dice J' (m + 2 + 2 * i) o₁ ∧ EntAt w J' d od es ∧ GoodE es ∧ es.length ≤ 1 + i ∧ (top = true → ∃ x, getE es ftK = .txt x) ∧ Has M [(.ofString "own", .ref d), (.ofString "dice", .ref D)];
   forG hfe (src_tuple hn (.head _)) Iv66 (by rintro _ _ _ _ ⟨_, _, _, _, q, _, _, _, _, _, _⟩; exact q) ⟨od, o₁, es, rfl, .refl, hd1.mono (Sub.cons .refl) (by omega), hE.mono (Sub.cons .refl), hG, hl1, htop, by ext has⟩ ?_ ?_
  ·intro C' i v M' o' J2 K hsm
   walk_at "g turn"
   rintro hlt hi hIz hK
   refine opq3 M' o' J2 fun Zk hZk => ?_
   obtain ⟨od, o₁, es, rfl, sub2, hd2, hE2, hG2, hl2, ht2, has2⟩ := hIz
   refine hZk _ _ _ ?_
   obtain ⟨kk, tk, rfl, hkk⟩ : ∃ kk tk, v = .str kk tk ∧ (kk = vK ∨ kk = dvK ∨ kk = mlK ∨ kk = opK) := by
    rcases i with _ | _ | _ | _ | i
    ·simp at hi; subst hi; exact ⟨_, _, rfl, .inl rfl⟩
    ·simp at hi; subst hi; exact ⟨_, _, rfl, .inr (.inl rfl)⟩
    ·simp at hi; subst hi; exact ⟨_, _, rfl, .inr (.inr (.inl rfl))⟩
    ·simp at hi; subst hi; exact ⟨_, _, rfl, .inr (.inr (.inr rfl))⟩
    ·simp at hi
   have hi4 : i < 4 := hlt
   have hne : kk ≠ ftK := by rcases hkk with rfl | rfl | rfl | rfl <;> decide +kernel
   obtain ⟨kvs, hdo, hre⟩ := hE2.is
   have lod2 := hE2.low
   have hrl := hre.len
   have hkl : kvs.length ≤ sizeLine := by rw [sizeLine_eq]; omega
   have fin : ∀ {r : RV} {v : Value} {o' o₃ : Obj} {J4 : Led} {M : Loc}, Sub J2 J4 → Dice J4 (m + 2 + 2 * i + 2) o₃ → o'.IsDictOf (PySem.strKind prog w) (stored kvs kk v) → RepV J4 v r → okRV kk r → Has M [(.ofString "own", .ref d), (.ofString "dice", .ref D)] → K .next M ((d, o') :: (l1 ++ (D, o₃) :: l2)) J4 := fun s h1 h2 h3 h4 h5 =>
    hK _ _ _ _ (turnq_next ⟨_, _, setE es kk _, rfl, Sub.trans sub2 s, h1.mono .refl (by omega), ent_put h2 (hre.mono s) lod2 h3, hG2.set h4, Nat.le_trans setE_len (by omega), fun e => by rw [getE_other hne]; exact ht2 e, h5⟩)
   refine g_weak has2 ?_
   ext
   refine g_runK (coin_c (l1 := (d, od) :: l1) hd2 (by omega) (by decide) (by decide)) hw' hn' (by omega) (by omega) ?_
   intro Zk hZk
   rintro r3 o3 J3 ⟨n3, t3', o3', rfl, h30, h31, rfl, sub3, hd3⟩
   refine hZk _ _ _ ?_
   rcases (by omega : n3 = 0 ∨ n3 = 1 ∨ n3 = 2) with rfl | rfl | rfl
   ·ext
    exact hK _ _ _ _ (turnq_next ⟨od, _, es, rfl, Sub.trans sub2 sub3, hd3.mono .refl (by omega), hE2.mono sub3, hG2, by omega, ht2, by ext has⟩)
   ·ext
    refine g_in_tup_strs (mR (.head _)) (by walk_at "g strs") ?_
    by_cases hk2 : kk ∈ [vK, dvK]
    ·rw [decide_eq_true hk2]
     have hk3 : kk = vK ∨ kk = dvK := by simpa using hk2
     ext
     refine g_runK (coin_c (l1 := (d, od) :: l1) (hd3.mono (Sub.cons .refl) (Nat.le_refl _)) (by omega) (by decide) (by decide)) hw' hn' (by omega) (by omega) ?_
     intro Zk hZk
     rintro r4 o4 J4 ⟨n4, t4', o4', rfl, h40, h41, rfl, sub4, hd4⟩
     refine hZk _ _ _ ?_
     obtain ⟨sw, uw, hsw, hin, hsq⟩ := word_at h40 h41
     refine g_item_tupK (vs := wordVs) (by k_is) (by omega) (by omega) hsq hsw ?_
     walk_at "gns"
     refine g_setitem hw' [] (knd := PySem.strKind prog w) hdo (strKind_is _ _ _ _) hkl fun o' ho' => ?_
     ext
     exact fin (by ext sub) (hd4.mono .refl (by omega)) ho' (.txt _ _) (.inr (.inl ⟨hk3, .inr ⟨sw, hin, rfl⟩⟩)) (by ext has)
    ·rw [decide_eq_false hk2]
     have hk3 : kk = mlK ∨ kk = opK := by
      rcases hkk with rfl | rfl | h | h
      ·exact absurd (by simp) hk2
      ·exact absurd (by simp) hk2
      ·exact .inl h
      ·exact .inr h
     ext
     refine ⟨fun e => ?_, fun e => ?_⟩
     ·have hml : kk = mlK := by simpa using e
      ext
      refine g_runK (coin_c (l1 := (d, od) :: l1) (hd3.mono (Sub.cons .refl) (Nat.le_refl _)) (by omega) (by decide) (by decide)) hw' hn' (by omega) (by omega) ?_
      intro Zk hZk
      rintro r4 o4 J4 ⟨n4, t4', o4', rfl, h40, h41, rfl, sub4, hd4⟩
      refine hZk _ _ _ ?_
      walk_at "gns"
      refine g_setitem hw' [] (knd := PySem.strKind prog w) hdo (strKind_is _ _ _ _) hkl fun o' ho' => ?_
      ext
      exact fin (by ext sub) (hd4.mono .refl (by omega)) ho' (.num _ _) (.inr (.inr (.inl ⟨hml, .inr ⟨_, by omega, by omega, rfl⟩⟩))) (by ext has)
     ·have hop : kk = opK := hk3.resolve_left (by simpa using e)
      ext
      refine g_runK (coin_c (l1 := (d, od) :: l1) (hd3.mono (Sub.cons .refl) (Nat.le_refl _)) (by omega) (by decide) (by decide)) hw' hn' (by omega) (by omega) ?_
      intro Zk hZk
      rintro r4 o4 J4 ⟨n4, t4', o4', rfl, h40, h41, rfl, sub4, hd4⟩
      refine hZk _ _ _ ?_
      obtain ⟨k4, rfl⟩ := Int.eq_ofNat_of_zero_le h40
      have hk4 : k4 < 3 := by omega
      ext
      refine g_tup_to (vs := wordVs) (k := 1 + k4) (by k_is) (.head _) (by show 1 + k4 < 4; omega) (by decide) fun D5 => ?_
      ext
      refine g_list_tup (.head _) (by rw [List.length_take, sizeLine_eq]; omega) fun D6 c6 => ?_
      refine g_freeze [] ?_
      walk_at "gns"
      refine g_setitem hw' [] (knd := PySem.strKind prog w) hdo (strKind_is _ _ _ _) hkl fun o' ho' => ?_
      ext
      exact fin (by ext sub) (hd4.mono (by ext sub) (by omega)) ho' (.lst (.head _) (strs_take words_are _)) (.inr (.inr (.inr ⟨hop, .inr ⟨1 + k4, by omega, by omega, rfl⟩⟩))) (by ext has)
   ·walk_at "gns"
    refine g_setitem hw' [] (knd := PySem.strKind prog w) hdo (strKind_is _ _ _ _) hkl fun o' ho' => ?_
    ext
    refine fin (by ext sub) (hd3.mono .refl (by omega)) ho' .no ?_ (by ext has)
    rcases hkk with rfl | rfl | rfl | rfl
    ·exact .inr (.inl ⟨.inl rfl, .inl rfl⟩)
    ·exact .inr (.inl ⟨.inr rfl, .inl rfl⟩)
    ·exact .inr (.inr (.inl ⟨rfl, .inl rfl⟩))
    ·exact .inr (.inr (.inr ⟨rfl, .inl rfl⟩))
  ·rintro M' o' J2 ⟨od, o₁, es, rfl, sub2, hd2, hE2, hG2, hl2, ht2, has2⟩
   refine nextq_next (g_weak has2 ?_)
   ext
   exact hret _ _ _ _ ⟨d, od, o₁, es, rfl, rfl, Sub.trans sub1 (Sub.trans (Sub.cons .refl) sub2), hd2.mono .refl (by show m + 2 + 2 * 4 ≤ m + 10; omega), hE2, hG2, hl2, ht2⟩
inductive EncO : RV → Ob → Prop
 | no90 : EncO .no (.ref 90 0)
 | no50 : EncO .no (.ref 50 0)
 | txt (s : Str) : EncO (.txt s) (.str (octO s))
 | num (i : Int) : EncO (.num i) (.int i)
 | lst (l : List Str) : EncO (.lst l) (.arr (l.map fun s => .str (octO s)))
theorem words_ok : ∀ s ∈ wordsL, okS s := by
 intro s hs
 have abg_eq : abg = .ofString "αβγ" := by decide +kernel
 rcases List.mem_cons.mp hs with h | hs
 ·rw [h]; exact .inr ⟨by decide +kernel, by decide +kernel⟩
 rcases List.mem_cons.mp hs with h | hs
 ·rw [h]; exact .inr ⟨by decide +kernel, by decide +kernel⟩
 rcases List.mem_cons.mp hs with h | hs
 ·rw [h]; exact .inl abg_eq.symm
 ·rw [List.mem_singleton.mp hs]; exact .inr ⟨by decide +kernel, by decide +kernel⟩
theorem RepL.snoc {w : World} {J : Led} {v : Value} {o : Ob} (V : Rep w J v o) {vs : List Value} : ∀ {os : List Ob}, RepL w J vs os → RepL w J (vs ++ [v]) (os ++ [o]) := by
 induction vs with
 | nil => intro os h; cases h; exact .cons V .nil
 | cons a vs ih => intro os h; cases h with | cons b r => exact .cons b (ih r)
noncomputable def okObj (r : RV) : Prop := (∀ s, r = .txt s → okS s) ∧ ∀ l, r = .lst l → l.length ≤ 10 ∧ ∀ s ∈ l, okS s
theorem object_c {w : World} {l2 : Led} {o : Obj} {m : Nat} (hd : Dice J m o) (hm : m ≤ 900) (V : RepV J v r) (hok : okObj r) :
  Run w 7 400 (.ref 735) [.ref D, v] (l1 ++ (D, o) :: l2) J noR (fun rv o' J' => ∃ o₁ ob, o' = l1 ++ (D, o₁) :: l2 ∧ Sub J J' ∧ Dice J' (m + 1) o₁ ∧ Rep w J' rv ob ∧ EncO r ob) := by
 ext defA
 cases V with
 | no =>
  ext
  refine g_runK (coin_c (hd.mono (Sub.cons .refl) (Nat.le_refl _)) (by omega) (by decide) (by decide)) hw hn (by omega) (by omega) ?_
  intro Zk hZk
  rintro r3 o3 J3 ⟨n3, t3, o3', rfl, h30, h31, rfl, sub3, hd3⟩
  refine hZk _ _ _ ?_
  rcases (by omega : n3 = 0 ∨ n3 = 1) with rfl | rfl
  ·refine g_item_tup (j := 0) (mR (sub3 _ (.head _))) (by decide) (by decide) rfl rfl ?_
   ext
   refine g_runP (c_mkRef w _ _ _ _ _ _) hw hn (by omega) (by omega) fun r4 J4 sub4 V4 => ?_
   exact hret _ _ _ _ ⟨_, _, rfl, by ext sub, hd3.mono sub4 (by omega), V4, .no90⟩
  ·refine g_item_tup (j := 1) (mR (sub3 _ (.head _))) (by decide) (by decide) rfl rfl ?_
   ext
   refine g_runP (c_mkRef w _ _ _ _ _ _) hw hn (by omega) (by omega) fun r4 J4 sub4 V4 => ?_
   exact hret _ _ _ _ ⟨_, _, rfl, by ext sub, hd3.mono sub4 (by omega), V4, .no50⟩
 | txt s t =>
  ext
  refine g_runP (octets_any (hok.1 s rfl)) hw hn (by omega) (by omega) fun r3 J3 sub3 V3 => ?_
  obtain ⟨t9, rfl⟩ := V3
  ext
  refine g_runP (c_mkStr w _ _ _ _) hw hn (by omega) (by omega) fun r4 J4 sub4 V4 => ?_
  exact hret _ _ _ _ ⟨_, _, rfl, by ext sub, hd.mono (Sub.trans sub3 sub4) (by omega), V4, .txt s⟩
 | num i t =>
  have V0 : Rep w J (.int i t) (.int i) := .int i t
  ext
  exact hret _ _ _ _ ⟨_, _, rfl, by ext sub, hd.mono .refl (by omega), V0, .num i⟩
 | @lst Dl vs n l a b =>
  obtain ⟨hl10, hlok⟩ := hok.2 l rfl
  have hvl := strs_len b
  ext
  refine g_isi_ll (mR a) ?_
  ext
  refine g_comp [] ?sc ?_
  case sc => ext sc
  ext
  let Iv34 : Nat → List Value → Led → Led → Prop := fun i ys o' J' => o' = l1 ++ (D, o) :: l2 ∧ Sub J J' ∧ RepL w J' ys ((l.take i).map fun s => .str (octO s))
  refine ⟨?sc, compG (src_list a) ?sc (by rw [sizeLine_eq]; omega) Iv34 (by rintro _ _ _ _ ⟨_, q, _⟩; exact q) ⟨rfl, .refl, .nil⟩ (fun _ _ => rfl) ?_ ?_⟩
  case sc => ext sc
  ·intro C' i v ys o₂ J2 D2 k K KS hic hlt0 hi
   rintro ⟨rfl, sub2, hys⟩ hK hKS
   ext comp
   obtain ⟨s, t, rfl, hs2⟩ := strs_at b hi
   ext
   refine g_runP (octets_any (hlok s (List.mem_of_getElem? hs2))) hw' hn' (by omega) (by omega) fun r3 J3 sub3 V3 => ?_
   obtain ⟨t9, rfl⟩ := V3
   ext
   refine g_runP (c_mkStr w _ _ _ _) hw' hn' (by omega) (by omega) fun r4 J4 sub4 V4 => ?_
   refine hK _ _ _ _ has_nil ⟨rfl, by ext sub, ?_⟩
   rw [take_map_succ _ hs2]
   exact RepL.snoc V4 (RepL.mono (Sub.trans sub3 sub4) hys)
  ·rintro ys o₂ J2 D2 k ⟨rfl, sub2, hys⟩ hle
   rw [hvl, List.take_length] at hys
   refine compEnd0 ?_
   exact hret1 _ _ _ _ _ ⟨_, _, rfl, by ext sub, hd.mono (Sub.trans sub2 (Sub.cons .refl)) (by omega), .arr (.head _) (RepL.mono (Sub.cons .refl) hys), .lst l⟩
noncomputable abbrev tK : Str := .ofString "T"
noncomputable abbrev kidsK : Str := .ofString "Kids"
noncomputable abbrev parK : Str := .ofString "Parent"
noncomputable def kidsO (n : Nat) : List Ob := (List.range n).map fun j : Nat => .ref (4 + (j : Int)) 0
noncomputable def bcB (i : Nat) : Array UInt8 := if i = 1 then #[98] else #[99]
noncomputable def baseI (n i : Nat) : List (Str × Ob) := if i = 0 then [(tK, .str #[97]), (kidsK, .arr (kidsO (n - 1)))] else [(tK, .str (bcB i)), (parK, .ref 3 0)]
noncomputable def enc1 (k : Str) (r : RV) (ob : Ob) : Prop := (k = ftK ∧ ∃ x, r = .txt x ∧ ob = .nam x) ∨ ((k ≠ ftK ∨ r = .no) ∧ EncO r ob)
inductive EncK : List (Str × RV) → List (Str × Ob) → Prop
 | nil : EncK [] []
 | snoc {es : List (Str × RV)} {os : List (Str × Ob)} {k : Str} {r : RV} {ob : Ob} : EncK es os → enc1 k r ob → EncK (es ++ [(k, r)]) (os ++ [(k, ob)])
theorem EncK.keys {os : List (Str × Ob)} (r : EncK es os) : es.map (·.1) = os.map (·.1) := by
 induction r with
 | nil => rfl
 | snoc a b ih => rw [List.map_append, List.map_append, ih]; rfl
noncomputable def HeadOf (n i : Nat) (es : List (Str × RV)) (h : List (Str × Ob)) : Prop := ∃ os, h = baseI n i ++ os ∧ EncK es os
noncomputable def tabH (k : Int) : List (List (Str × Ob)) → Tab
 | [] => []
 | h :: hs => (k, (0, .dic h)) :: tabH (k + 1) hs
theorem tabH_c {k : Int} {h : List (Str × Ob)} : tabH k (h :: hs) = (k, (0, .dic h)) :: tabH (k + 1) hs := rfl
noncomputable def tabO (hs : List (List (Str × Ob))) : Tab := (50, (0, .nul)) :: tabH 3 hs
theorem tabH_snoc {h : List (Str × Ob)} : ∀ {k : Int}, tabH k (hs ++ [h]) = tabH k hs ++ [(k + hs.length, (0, .dic h))] := by
 induction hs with
 | nil => exact congrArg (fun x => [(x, ((0 : Int), Ob.dic h))]) (Int.add_zero _).symm
 | cons a hs ih =>
  intro k
  refine congrArg (List.cons _) (ih.trans ?_)
  rw [List.length_cons, show k + 1 + (hs.length : Int) = k + ((hs.length + 1 : Nat) : Int) by omega]
  rfl
theorem tabH_keys : ∀ {k x : Int}, x ∈ (tabH k hs).map (·.1) → k ≤ x ∧ x < k + hs.length := by
 induction hs with
 | nil => intro k x h; cases h
 | cons a hs ih =>
  intro k x h
  rw [List.length_cons]
  rcases List.mem_cons.mp h with h | h
  ·have : x = k := h
   omega
  ·have := ih h
   omega
theorem rept_keys {w : World} {kvs : List (Int × Value)} {T : Tab} (r : RepT w J kvs T) : kvs.map (·.1) = T.map (·.1) := by
 induction r with
 | nil => rfl
 | cons a b r ih => exact congrArg _ ih
theorem storedI_new {k : Int} {kvs : List (Int × Value)} (h : k ∉ kvs.map (·.1)) : stored kvs k v = kvs ++ [(k, v)] := putG_new h
theorem base_keys (h : x ∈ (baseI n i).map (·.1)) : x = tK ∨ x = kidsK ∨ x = parK := by
 unfold baseI at h
 split at h <;> simp at h
 ·rcases h with h | h
  ·exact .inl h
  ·exact .inr (.inl h)
 ·rcases h with h | h
  ·exact .inl h
  ·exact .inr (.inr h)
theorem ok_keys (h : GoodE es) (hx : x ∈ es.map (·.1)) : x = ftK ∨ x = vK ∨ x = dvK ∨ x = mlK ∨ x = opK := by
 obtain ⟨p, hp, rfl⟩ := List.mem_map.mp hx
 rcases h.ok p hp with h | h | h | h
 ·exact .inl h.1
 ·rcases h.1 with e | e
  ·exact .inr (.inl e)
  ·exact .inr (.inr (.inl e))
 ·exact .inr (.inr (.inr (.inl h.1)))
 ·exact .inr (.inr (.inr (.inr h.1)))
theorem keys_apart (h1 : x = tK ∨ x = kidsK ∨ x = parK) (h2 : x = ftK ∨ x = vK ∨ x = dvK ∨ x = mlK ∨ x = opK) : False := by
 rcases h1 with rfl | rfl | rfl <;> rcases h2 with h | h | h | h | h <;> exact absurd h (by decide +kernel)
theorem okObj_of (h : okRV k r) (hk : k ≠ ftK ∨ r = .no) : okObj r := by
 have ino : okObj .no := ⟨(fun s e => by cases e), (fun l e => by cases e)⟩
 rcases h with ⟨h1, h⟩ | ⟨_, h⟩ | ⟨_, h⟩ | ⟨_, h⟩
 ·rcases hk with hk | hk
  ·exact absurd h1 hk
  ·rw [hk]; exact ino
 ·rcases h with rfl | ⟨s, hs, rfl⟩
  ·exact ino
  ·exact ⟨(fun s' e => by cases e; exact words_ok s hs), (fun l e => by cases e)⟩
 ·rcases h with rfl | ⟨m, _, _, rfl⟩
  ·exact ino
  ·exact ⟨(fun s e => by cases e), (fun l e => by cases e)⟩
 ·rcases h with rfl | ⟨n, _, _, rfl⟩
  ·exact ino
  ·refine ⟨(fun s e => by cases e), fun l e => ?_⟩
   cases e
   exact ⟨by rw [List.length_take]; exact Nat.le_trans (Nat.min_le_right _ _) (by decide), fun s hs => words_ok s (List.mem_of_mem_take hs)⟩
theorem repe_at {l : List (Str × RV)} (r : RepE J kvs l) : ∀ {i : Nat} {k : Str} {v : Value}, kvs[i]? = some (k, v) → ∃ o, l[i]? = some (k, o) ∧ RepV J v o := by
 induction r with
 | nil => intro _ _ _ h; cases h
 | cons a r ih =>
  intro i k v h
  cases i with
  | zero => cases h; exact ⟨_, rfl, a⟩
  | succ i => exact ih h
theorem repe_keys {l : List (Str × RV)} (r : RepE J kvs l) : kvs.map (·.1) = l.map (·.1) := by
 induction r with
 | nil => rfl
 | cons a r ih => exact congrArg _ ih
theorem new_key {k : Nat} {kk : Str} (h : GoodE es) (hk : es[k]? = some (kk, r)) : kk ∉ (es.take k).map (·.1) := by
 intro hm
 obtain ⟨j, hj, e⟩ := List.getElem_of_mem hm
 have hjk : j < k := by simp at hj; omega
 have hkl := (List.getElem?_eq_some_iff.mp hk).1
 have h1 : es[k] = (kk, r) := (List.getElem?_eq_some_iff.mp hk).2
 rw [List.getElem_map, List.getElem_take] at e
 refine nodup_ne h.nd (i := k) (j := j) (by simpa using hkl) hjk ?_
 rw [List.getElem_map, List.getElem_map, h1, e]
theorem table_c {w : World} {l2 : Led} {o : Obj} {m : Nat} (hd : Dice J m o) (hm : m ≤ 800) {rvs : List Value} {nr : Nat} (hR : (Dr, listOf (List.toArray rvs) nr) ∈ J) (hrl : rvs.length = n) (hn1 : 1 ≤ n) (hn3 : n ≤ 3) (ents : Nat → List (Str × RV))
  (hent : ∀ i < n, ∃ d oe, rvs[i]? = some (.ref d) ∧ (d, oe) ∈ l1 ∧ EntAt w J d oe (ents i) ∧ GoodE (ents i) ∧ (ents i).length ≤ 5) :
  Run w 9 600 (.ref 747) [.ref D, .ref Dr] (l1 ++ (D, o) :: l2) J noR (fun r o' J' => ∃ t ot o₁ kvs hs, r = .ref t ∧ o' = l1 ++ (D, o₁) :: l2 ∧ Sub J J' ∧ (t, ot) ∈ J' ∧ (t == sysModules) = false ∧ ot.IsDictOf (PySem.intKind prog w) kvs ∧ RepT w J' kvs (tabO hs) ∧ Dice J' (m + 20) o₁ ∧ hs.length = n ∧ ∀ i h, hs[i]? = some h → HeadOf n i (ents i) h) := by
 have hrz : rvs.length ≤ sizeLine := by rw [sizeLine_eq]; omega
 walk_at "g def"
 refine g_cons (g_asg (g_dictI hw (by rfl) (by rfl) (by simp) (by decide) fun t ot lot => ?_) (by rfl))
 ext
 rename_i tk50 tk0 q50 tk3 tk0' h0 oh0 low0 tkT tkB
 have hy : (rvs.length : Int) - 1 = 0 ∨ (rvs.length : Int) - 1 = 1 ∨ (rvs.length : Int) - 1 = 2 := by omega
 have hsm : Builtin.Range.small 0 ((rvs.length : Int) - 1) 1 = true := by rcases hy with h | h | h <;> rw [h] <;> decide
 have hsz : Builtin.Range.rangeSize 0 ((rvs.length : Int) - 1) 1 = ((n - 1 : Nat) : Int) := by
  have h3 : (3 : Nat) ≥ n := hn3
  rcases (by omega : n = 1 ∨ n = 2 ∨ n = 3) with h | h | h <;> rw [hrl, h] <;> decide
 refine g_runP (c_mkStr w _ _ _ _) hw hn (by omega) (by omega) fun r1 J1 sub1 V1 => ?_
 have hR1 : (Dr, listOf (List.toArray rvs) nr) ∈ J1 := by ext mem
 ext
 refine g_comp [] ?sc ?_
 case sc => ext sc
 ext
 refine let Iv67 : Nat → List Value → Led → Led → Prop := fun i ys o' J' => o' = _ ∧ Sub (_ :: J1) J' ∧ RepL w J' ys (kidsO i);
  ⟨?sc, compG (src_range hn (.head _) hsm hsz) ?sc (by rw [sizeLine_eq]; omega) Iv67 noB ⟨rfl, .refl, .nil⟩ (fun _ _ => rfl) ?_ ?_⟩
 case sc => ext sc
 ·rintro C' i v0 ys o₂ J2 D2 k K KS hic hi ⟨t', rfl⟩
  rintro ⟨rfl, sub2, hys⟩ hK hKS
  ext comp
  ext
  refine g_runP (c_mkRef w _ _ _ _ _ _) hw' hn' (by omega) (by omega) fun r3 J3 sub3 V3 => ?_
  refine hK _ _ _ _ has_nil ⟨rfl, by ext sub, ?_⟩
  unfold kidsO
  rw [List.range_succ, List.map_append]
  refine RepL.snoc ?_ (RepL.mono sub3 hys)
  rw [Int.zero_add] at V3
  exact V3
 ·rintro ys o₂ J2 D2 k ⟨rfl, sub2, hys⟩ hle
  refine compEnd0 ?_
  refine g_freeze [] ?_
  ext
  rename_i oh1 hoh1 q3
  have hR2 : (Dr, listOf (List.toArray rvs) nr) ∈ (q3, tup [.int 0 tk0', .ref h0]) :: (D2, listOf (List.toArray ys) k) :: J2 := .tail _ (.tail _ (sub2 _ (.tail _ hR1)))
  have subA : Sub J ((q3, tup [.int 0 tk0', .ref h0]) :: (D2, listOf (List.toArray ys) k) :: J2) := Sub.trans (Sub.trans (Sub.cons .refl) sub1) (Sub.trans (Sub.trans (Sub.cons .refl) sub2) (Sub.cons (Sub.cons .refl)))
  have hq50 : (q50, tup [.int 0 tk0, .none]) ∈ (q3, tup [.int 0 tk0', .ref h0]) :: (D2, listOf (List.toArray ys) k) :: J2 := .tail _ (.tail _ (sub2 _ (.tail _ (sub1 _ (.head _)))))
  have hr0 : RepK w ((q3, tup [.int 0 tk0', .ref h0]) :: (D2, listOf (List.toArray ys) k) :: J2) [(tK, r1), (kidsK, .ref D2)] (baseI n 0) :=
   .cons (V1.mono (Sub.trans (Sub.trans (Sub.cons .refl) sub2) (Sub.cons (Sub.cons .refl)))) (.cons (.arr (.tail _ (.head _)) (RepL.mono (Sub.cons (Sub.cons .refl)) hys)) .nil)
  refine ⟨[_], _, rfl, rfl, (by show ([50, 3] : List Int).Nodup; decide), fun ot' hot' => ?_⟩
  ext
  generalize hJx : (q3, tup [.int 0 tk0', .ref h0]) :: (D2, listOf (List.toArray ys) k) :: J2 = Jx at hR2 subA hq50 hr0 ⊢
  have hq3 : (q3, tup [.int 0 tk0', .ref h0]) ∈ Jx := by rw [← hJx]; exact .head _
  refine g_enum (mR hR2) fun e it oe oi hoe hce hde => ?_
  let Iv68 : Nat → Loc → Led → Led → Prop := fun i M' o' J' => ∃ o₁ ot₁ kvs, Sub Jx J' ∧ Dice J' (m + 5 * i) o₁ ∧ Has M' [(.ofString "table", .ref t), (.ofString "record", .ref Dr), (.ofString "dice", .ref D)] ∧ ot₁.IsDictOf (PySem.intKind prog w) kvs ∧
   ((i = 0 ∧ o' = (h0, oh1) :: (t, ot₁) :: (l1 ++ (D, o₁) :: l2) ∧ kvs = [(50, .ref q50), (3, .ref q3)]) ∨
    (1 ≤ i ∧ o' = (t, ot₁) :: (l1 ++ (D, o₁) :: l2) ∧ ∃ hs, RepT w J' kvs (tabO hs) ∧ hs.length = i ∧ ∀ j h, hs[j]? = some h → HeadOf n j (ents j) h))
  refine forG_enum hn hfe hR2 hoe hce hde (fun _ => rfl) (fun _ => rfl) Iv68 (by rintro _ _ _ _ ⟨_, _, _, q, _, _, _, _⟩; exact q)
   ⟨o, ot', _, .refl, hd.mono subA (by omega), by ext has, hot', .inl ⟨rfl, rfl, rfl⟩⟩ ?_ ?_
  ·intro C' i v t' M' o' J3 K hsm
   walk_at "g turn"
   rintro hi hIz hK
   refine opq3 M' o' J3 fun Zk hZk => ?_
   obtain ⟨o₁, ot₁, kvs, sub3, hd3, has3, hot₁, hcase⟩ := hIz
   refine hZk _ _ _ ?_
   have hin : i < n := by rw [← hrl]; exact (List.getElem?_eq_some_iff.mp hi).1
   obtain ⟨di, odi, hvi, hdi, hEi, hGi, hLi⟩ := hent i hin
   rw [hi] at hvi
   obtain rfl : v = .ref di := Option.some.inj hvi
   refine g_weak has3 ?_
   walk_at "gx"
   refine g_cons (G.mono (X := Xf) (Q := fun f M o J4 => f = .next ∧ ∃ hd1 oh2 hvs, o = (hd1, oh2) :: (t, ot₁) :: (l1 ++ (D, o₁) :: l2) ∧ Sub J3 J4 ∧ oh2.IsDictOf (PySem.strKind prog w) hvs ∧ RepK w J4 hvs (baseI n i) ∧ (hd1 == sysModules) = false ∧ (i = 0 → kvs = [(50, .ref q50), (3, .ref q3)]) ∧ (1 ≤ i → ∃ hs, RepT w J4 kvs (tabO hs) ∧ hs.length = i ∧ ∀ j h, hs[j]? = some h → HeadOf n j (ents j) h) ∧ Has M [(.ofString "head", .ref hd1), (.ofString "own", .ref di), (.ofString "at", .int i t'), (.ofString "table", .ref t), (.ofString "record", .ref Dr), (.ofString "dice", .ref D)]) ?hp ?rest (fun _ _ _ h => h))
   case hp =>
    rcases hcase with ⟨rfl, rfl, rfl⟩ | ⟨hi1, rfl, hs, hRT, hsl, hHd⟩
    ·ext
     refine g_item (knd := PySem.intKind prog w) hw' (mL (.tail _ (.head _))) hot₁ (intKind_is _ _ _ _) (v := .ref q3) (by rfl) ?_
     ext
     refine g_base (.ofString "x") default ?_
     refine g_item_tup (j := 1) (mR (sub3 _ hq3)) (by decide) (by decide) rfl rfl ?_
     ext
     exact ⟨rfl, h0, oh1, _, rfl, .refl, hoh1, RepK.mono sub3 hr0, low0, fun _ => rfl, (fun h => absurd h (by decide)), by ext has⟩
    ·ext
     have hne : ((i : Int) == 0) = false := by rw [beq_eq_false_iff_ne]; omega
     rw [hne]
     ext
     refine g_bytes_slice (.head _) (by rcases (by omega : i = 1 ∨ i = 2) with h | h <;> rw [h] <;> decide +kernel) fun tb => ?_
     have hpk : KBy.picked #[98, 99] (some ((i : Int) - 1)) (some (i : Int)) = bcB i := by rcases (by omega : i = 1 ∨ i = 2) with h | h <;> rw [h] <;> decide +kernel
     ext
     refine g_runP (c_mkStr w _ _ _ _) hw' hn' (by omega) (by omega) fun r5 J5 sub5 V5 => ?_
     ext
     refine g_runP (c_mkRef w _ _ _ _ _ _) hw' hn' (by omega) (by omega) fun r6 J6 sub6 V6 => ?_
     ext
     refine ⟨rfl, _, _, _, rfl, by ext sub, by assumption, ?_, by assumption, (fun h => absurd h (by omega)), fun _ => ⟨hs, hRT.mono (by ext sub), hsl, hHd⟩, by ext has⟩
     unfold baseI
     rw [if_neg (by omega), ← hpk]
     exact .cons (V5.mono sub6) (.cons V6 .nil)
   case rest =>
    rintro f M1 o1 J4 ⟨rfl, hd1, oh2, hvs, rfl, sub4, hoh2, hrk, lo1, hk0, hk1, has1⟩
    refine nextq_next (g_weak has1 ?_)
    ext
    obtain ⟨ekvs, hedo, here⟩ := hEi.is
    have hekl := here.len
    have hvl0 := hrk.len
    have hb2 : (baseI n i).length = 2 := by unfold baseI; split <;> rfl
    let Iv35 : Nat → Loc → Led → Led → Prop := fun k M o J5 => ∃ oh3 hvs2 os o₂, o = (hd1, oh3) :: (t, ot₁) :: (l1 ++ (D, o₂) :: l2) ∧ Sub J4 J5 ∧ Dice J5 (m + 5 * i + k) o₂ ∧ oh3.IsDictOf (PySem.strKind prog w) hvs2 ∧ RepK w J5 hvs2 (baseI n i ++ os) ∧ EncK ((ents i).take k) os ∧ Has M [(.ofString "head", .ref hd1), (.ofString "own", .ref di), (.ofString "at", .int i t'), (.ofString "table", .ref t), (.ofString "record", .ref Dr), (.ofString "dice", .ref D)]
    refine forGO hfe' (src_dictO hw' hn' (knd := PySem.strKind prog w) (mL (.tail _ (.tail _ (mL hdi)))) hedo hEi.low (.head _)) Iv35 (by rintro i M _ J5 ⟨_, _, _, _, rfl, _⟩ p hp; exact List.mem_singleton.mp hp ▸ mL (.tail _ (.tail _ (mL hdi)))) ⟨oh2, hvs, [], o₁, rfl, .refl, hd3.mono sub4 (by omega), hoh2, by simpa using hrk, .nil, by ext has⟩ ?_ ?_
    ·rintro C'' k v M2 o2 J5 K2 hsm2 - ⟨kk, x, hik, hkv⟩
     have hw2 := hsm2.w.trans hw'
     have hs2 := (congrArg Env.scope hsm2.env).trans hs'
     have hn2 := hsm2.hn.trans hn'
     have hl2 := ((congrArg Env.locals hsm2.env).trans hl').trans hsm2.L.symm
     have hdd2 := hsm2.dl
     have hu2 := hsm2.ul
     obtain ⟨tk, rfl⟩ := str_is hkv
     rintro ⟨oh3, hvs2, os, o₂, rfl, sub5, hd5, hoh3, hrk5, hen, has5⟩ hK2
     obtain ⟨rv, hrv, Vx⟩ := repe_at here hik
     have hnd := hGi.nd
     have hget : valueAt ekvs kk = some x := PySem.valueAt_of_get (by rw [repe_keys here]; exact hnd) hik
     have hokr := hGi.ok _ (List.mem_of_getElem? hrv)
     have hk5 : k < 5 := Nat.lt_of_lt_of_le (List.getElem?_eq_some_iff.mp hrv).1 hLi
     have hnew : kk ∉ hvs2.map (·.1) := by
      rw [repk_keys hrk5, List.map_append]
      intro hm
      rcases List.mem_append.mp hm with hm | hm
      ·exact keys_apart (base_keys hm) (ok_keys hGi (List.mem_map.mpr ⟨_, List.mem_of_getElem? hrv, rfl⟩))
      ·rw [← hen.keys] at hm
       exact new_key hGi hrv hm
     have hvz : hvs2.length ≤ sizeLine := by
      have h1 := hrk5.len
      have h2 := congrArg List.length hen.keys
      simp only [List.length_map, List.length_append, List.length_take] at h1 h2
      rw [sizeLine_eq]; omega
     have Vx5 : RepV J5 x rv := Vx.mono (by ext sub)
     have hmem : ∀ {o₃ : Obj} {oh : Obj} {J : Led}, (di, odi) ∈ ((hd1, oh) :: (t, ot₁) :: (l1 ++ (D, o₃) :: l2)) ++ J := mL (.tail _ (.tail _ (mL hdi)))
     have fin : ∀ {ob : Ob} {vv : Value} {o' o₃ : Obj} {J6 : Led} {M : Loc}, Sub J5 J6 → Dice J6 (m + 5 * i + k + 1) o₃ → o'.IsDictOf (PySem.strKind prog w) (stored hvs2 kk vv) → Rep w J6 vv ob → enc1 kk rv ob → Has M [(.ofString "head", .ref hd1), (.ofString "own", .ref di), (.ofString "at", .int i t'), (.ofString "table", .ref t), (.ofString "record", .ref Dr), (.ofString "dice", .ref D)] → K2 .next M ((hd1, o') :: (t, ot₁) :: (l1 ++ (D, o₃) :: l2)) J6 := by
      intro ob vv o' o₃ J6 M s h1 h2 h3 h4 h5
      have g1 : RepK w J6 (stored hvs2 kk vv) (baseI n i ++ (os ++ [(kk, ob)])) := by
       rw [stored_new hnew, ← List.append_assoc]
       exact repk_app h3 (RepK.mono s hrk5)
      have g2 : EncK ((ents i).take (k + 1)) (os ++ [(kk, ob)]) := by
       rw [List.take_add_one, hrv]
       exact .snoc hen h4
      exact hK2 _ _ _ _ (turnq_next ⟨_, _, os ++ [(kk, ob)], _, rfl, Sub.trans sub5 s, h1, h2, g1, g2, h5⟩)
     have viaO : ∀ {M : Loc} {K : QV}, (kk ≠ ftK ∨ rv = .no) → (∀ r o₃ ob J6, Sub J5 J6 → Dice J6 (m + 5 * i + k + 1) o₃ → Rep w J6 r ob → enc1 kk rv ob → K r M ((hd1, oh3) :: (t, ot₁) :: (l1 ++ (D, o₃) :: l2)) J6) → G C'' (call (.ref 735) [.ref D, x]) M ((hd1, oh3) :: (t, ot₁) :: (l1 ++ (D, o₂) :: l2)) J5 Xf K := fun h1 h2 => by
      refine g_runK (object_c (l1 := (hd1, oh3) :: (t, ot₁) :: l1) hd5 (by omega) Vx5 (okObj_of hokr h1)) hw2 (by assumption) (by omega) (by omega) ?_
      intro Zk hZk
      rintro r o' J6 ⟨o₃, ob, rfl, s, hd6, V6, E6⟩
      refine hZk _ _ _ ?_
      exact h2 r o₃ ob J6 s hd6 V6 (.inr ⟨h1, E6⟩)
     refine g_weak has5 ?_
     ext
     refine ⟨fun e => ?_, fun e => ?_⟩
     ·have hkf : kk = ftK := by simpa using e
      ext
      refine g_item (knd := PySem.strKind prog w) hw2 hmem hedo (strKind_is _ _ _ _) hget ?_
      rcases hokr with ⟨_, h⟩ | ⟨h, _⟩ | ⟨h, _⟩ | ⟨h, _⟩
      ·rcases h with rfl | h
       ·cases Vx
        ext
        refine g_item (knd := PySem.strKind prog w) hw2 hmem hedo (strKind_is _ _ _ _) hget ?_
        ext
        refine viaO (.inr rfl) fun r o₃ ob J6 s6 hd6 V6 E6 => ?_
        walk_at "gns"
        refine g_setitem hw2 [] (knd := PySem.strKind prog w) hoh3 (strKind_is _ _ _ _) hvz fun o' ho' => ?_
        ext
        exact fin s6 hd6 ho' V6 E6 (by ext has)
       ·obtain ⟨xs, rfl⟩ : ∃ xs, rv = .txt xs := by rcases h with h | h <;> exact ⟨_, h⟩
        cases Vx
        ext
        refine g_item (knd := PySem.strKind prog w) hw2 hmem hedo (strKind_is _ _ _ _) hget ?_
        ext
        refine g_runP (c_mkNam w _ _ _ _) hw2 (by assumption) (by omega) (by omega) fun r6 J6 s6 V6 => ?_
        walk_at "gns"
        refine g_setitem hw2 [] (knd := PySem.strKind prog w) hoh3 (strKind_is _ _ _ _) hvz fun o' ho' => ?_
        ext
        exact fin s6 (hd5.mono s6 (by omega)) ho' V6 (.inl ⟨hkf, xs, rfl, rfl⟩) (by ext has)
      ·rcases h with h | h
       ·exact absurd (hkf.symm.trans h) (by decide +kernel)
       ·exact absurd (hkf.symm.trans h) (by decide +kernel)
      ·exact absurd (hkf.symm.trans h) (by decide +kernel)
      ·exact absurd (hkf.symm.trans h) (by decide +kernel)
     ·have hkf : kk ≠ ftK := by simpa using e
      ext
      refine g_item (knd := PySem.strKind prog w) hw2 hmem hedo (strKind_is _ _ _ _) hget ?_
      ext
      refine viaO (.inl hkf) fun r o₃ ob J6 s6 hd6 V6 E6 => ?_
      walk_at "gns"
      refine g_setitem hw2 [] (knd := PySem.strKind prog w) hoh3 (strKind_is _ _ _ _) hvz fun o' ho' => ?_
      ext
      exact fin s6 hd6 ho' V6 E6 (by ext has)
    ·rintro M2 o2 J5 ⟨oh3, hvs2, os, o₂, rfl, sub5, hd5, hoh3, hrk5, hen, has5⟩
     rw [hekl, List.take_length] at hen
     refine nextq_next (g_weak has5 (g_freeze [] ?_))
     walk_at "gns"
     rename_i tq qn tz tz2
     have hRep : Rep w ((qn, tup [.int 0 tq, .ref hd1]) :: (hd1, oh3) :: J5) (.ref hd1) (.dic (baseI n i ++ os)) := .dic (.tail _ (.head _)) hoh3 lo1 (RepK.mono (Sub.cons (Sub.cons .refl)) hrk5)
     have hHO : HeadOf n i (ents i) (baseI n i ++ os) := ⟨os, rfl, hen⟩
     have subF : Sub J4 ((qn, tup [.int 0 tq, .ref hd1]) :: (hd1, oh3) :: J5) := Sub.trans sub5 (Sub.cons (Sub.cons .refl))
     have hkz : kvs.length ≤ sizeLine := by
      rcases Nat.eq_zero_or_pos i with h | h
      ·rw [hk0 h]; exact size_ok rfl
      ·obtain ⟨hs, hRT, hsl, _⟩ := hk1 h
       have h1 := hRT.len
       have h2 : ∀ (hs : List (List (Str × Ob))) (k : Int), (tabH k hs).length = hs.length := by
        intro hs
        induction hs with
        | nil => intro k; rfl
        | cons a r ih => intro k; exact congrArg Nat.succ (ih _)
       rw [tabO, List.length_cons, h2] at h1
       rw [sizeLine_eq]; omega
     refine g_setitem hw' [] (knd := PySem.intKind prog w) hot₁ (intKind_is _ _ _ _) hkz fun o' ho' => ?_
     ext
     refine hK _ _ _ _ (turnq_next ⟨o₂, o', _, Sub.trans sub3 (Sub.trans sub4 subF), hd5.mono (Sub.cons (Sub.cons .refl)) (by omega), by ext has, ho', .inr ⟨by omega, rfl, ?_⟩⟩)
     rcases Nat.eq_zero_or_pos i with h | h
     ·subst h
      have e0 := hk0 rfl
      subst e0
      refine ⟨[baseI n 0 ++ os], ?_, rfl, fun j h hj => ?_⟩
      ·exact .cons (subF _ (sub4 _ (sub3 _ hq50))) .nul (.cons (.head _) hRep .nil)
      ·rcases j with _ | j
       ·simp at hj; subst hj; exact hHO
       ·simp at hj
     ·obtain ⟨hs, hRT, hsl, hHd⟩ := hk1 h
      have hnew : (3 + (i : Int)) ∉ kvs.map (·.1) := by
       rw [rept_keys hRT, tabO, List.map_cons]
       intro hm
       rcases List.mem_cons.mp hm with e | hm
       ·have e' : (3 : Int) + i = 50 := e
        omega
       ·have := tabH_keys hm
        omega
      refine ⟨hs ++ [baseI n i ++ os], ?_, by rw [List.length_append, hsl]; rfl, fun j h hj => ?_⟩
      ·rw [storedI_new hnew, tabO, tabH_snoc, hsl]
       exact rept_app (.head _) hRep (hRT.mono subF)
      ·rw [List.getElem?_append] at hj
       by_cases hlt9 : j < hs.length
       ·rw [if_pos hlt9] at hj; exact hHd j h hj
       ·rw [if_neg hlt9] at hj
        have hge := hlt9
        have e : j = i := by
         have := (List.getElem?_eq_some_iff.mp hj).1
         simp at this; omega
        subst e
        rw [hsl, Nat.sub_self] at hj
        simp at hj; subst hj; exact hHO
  ·rintro M' o' J3 ⟨o₁, ot₁, kvs, sub3, hd3, has3, hot₁, hcase⟩
   rcases hcase with ⟨h, _⟩ | ⟨hi1, rfl, hs, hRT, hsl, hHd⟩
   ·omega
   refine nextq_next (g_weak has3 (g_freeze [] ?_))
   ext
   exact hret _ _ _ _ ⟨t, ot₁, o₁, kvs, hs, rfl, rfl, Sub.trans subA (Sub.trans sub3 (Sub.cons .refl)), .head _, lot, hot₁, hRT.mono (Sub.cons .refl), hd3.mono (Sub.cons .refl) (by omega), by omega, hHd⟩
theorem c_mkShelf (w : World) (own J : Led) (t tr : Addr) : RunP w 2 60 (.ref 375) [.ref t, .ref tr] own J (fun r J' => ∃ z : Shf, r = .ref z.sh ∧ z.t = t ∧ z.tr = tr ∧ z.Lies w J') := by
 refine' run_cls (by decide) (by decide) ?hm ?hi ?hf ?ho ?hcd ?hbind ?hkind ?hnd ?hco ?hgen ?hk ?body
 case hm => k_is
 case hi => k_is
 case hf => k_is
 case ho => k_is
 case hcd => k_is
 case hbind => exact fun x s' X => binds_K (T := 297) X rfl (by k_is) rfl rfl rfl
 case hkind => exact fun x => rfl
 case hnd => decide
 case hco => exact rfl
 case hgen => exact rfl
 case hk => exact rfl
 intro C x dx hw hs hl hdl hul hn hfe hoc Qf hQ hQ0
 replace hn := hn rfl
 dsimp only [List.reverse, List.reverseAux]
 ext
 exact hQ _ [] _ _ _ _ ⟨rfl, by ext sub, ⟨_, _, _, _, _, _⟩, rfl, rfl, rfl, ⟨.tail _ (.head _), .head _⟩⟩
noncomputable abbrev fieldsK : Str := .ofString "Fields"
noncomputable abbrev langK : Str := .ofString "Lang"
noncomputable abbrev infoK : Str := .ofString "Info"
noncomputable def formO (needed : Bool) : List (Str × Ob) := (fieldsK, .arr [.ref 3 0]) :: if needed then [(needK, .tru true)] else []
noncomputable def acroV (far : Nat) (f : List (Str × Ob)) : Ob := if far = 0 then .dic f else if far = 1 then .ref 2 1 else .ref 70 0
noncomputable def rootO (far : Nat) (f : List (Str × Ob)) : List (Str × Ob) := [(acroK, acroV far f), (langK, .int 7)]
noncomputable def rootV (way far : Nat) (f : List (Str × Ob)) : Ob := if way = 0 then .dic (rootO far f) else if way = 1 then .ref 1 0 else .ref 60 2
noncomputable def farT (far : Nat) (f : List (Str × Ob)) : Tab := if far = 0 then [] else [(2, (1, .dic f)), (70, (0, .ref 2 1))]
noncomputable def wayT (way far : Nat) (f : List (Str × Ob)) : Tab := if way = 0 then [] else [(1, (0, .dic (rootO far f))), (60, (2, .ref 1 0))]
noncomputable def shT (hds : List (List (Str × Ob))) (way far : Nat) (nd : Bool) : Tab := tabO hds ++ farT far (formO nd) ++ wayT way far (formO nd)
noncomputable def shR (way far : Nat) (nd : Bool) : List (Str × Ob) := [(rootK, rootV way far (formO nd)), (infoK, .int 5)]
theorem rept_at {w : World} {kvs : List (Int × Value)} {T : Tab} (r : RepT w J kvs T) : ∀ {i : Nat} {k : Int} {v : Value}, kvs[i]? = some (k, v) → ∃ q g tk u o, v = .ref q ∧ T[i]? = some (k, (g, o)) ∧ (q, tup [.int g tk, u]) ∈ J ∧ Rep w J u o := by
 induction r with
 | nil => intro _ _ _ h; cases h
 | cons a b r ih =>
  intro i k v h
  cases i with
  | zero => cases h; exact ⟨_, _, _, _, _, rfl, rfl, a, b⟩
  | succ i => exact ih h
theorem tabH_nodup : ∀ {k : Int}, ((tabH k hs).map (·.1)).Nodup := by
 induction hs with
 | nil => exact List.nodup_nil
 | cons a hs ih =>
  intro k
  refine List.nodup_cons.mpr ⟨fun h => ?_, ih⟩
  have := (tabH_keys h).1
  exact absurd this (by show ¬ k + 1 ≤ k; omega)
theorem tabO_nodup (h : hs.length ≤ 40) : ((tabO hs).map (·.1)).Nodup := by
 rw [tabO, List.map_cons]
 refine List.nodup_cons.mpr ⟨fun h2 => ?_, tabH_nodup⟩
 have := tabH_keys h2
 omega
theorem tabO_mem {k g : Int} (h : (k, (g, o)) ∈ tabO hs) : o = .nul ∨ ∃ h ∈ hs, o = .dic h := by
 have : ∀ (hs : List (List (Str × Ob))) (k0 : Int), (k, (g, o)) ∈ tabH k0 hs → ∃ h ∈ hs, o = .dic h := by
  intro hs
  induction hs with
  | nil => intro k0 h; cases h
  | cons a r ih =>
   intro k0 h
   rcases List.mem_cons.mp h with h | h
   ·exact ⟨_, .head _, congrArg (fun p : Int × (Int × Ob) => p.2.2) h⟩
   ·exact (ih _ h).imp fun _ z => ⟨.tail _ z.1, z.2⟩
 exact (List.mem_cons.mp h).imp (congrArg fun p : Int × (Int × Ob) => p.2.2) (this _ _)
theorem RepT.app {w : World} {kvs lvs : List (Int × Value)} {T U : Tab} (a : RepT w J kvs T) (b : RepT w J lvs U) : RepT w J (kvs ++ lvs) (T ++ U) := by
 induction a with
 | nil => exact b
 | cons x y r ih => exact .cons x y ih
theorem RepT.snoc {w : World} {J : Led} {q : Addr} {k g : Int} {tk : Tok} {u : Value} {o : Ob} (hq : (q, tup [.int g tk, u]) ∈ J) (V : Rep w J u o) {kvs : List (Int × Value)} {T : Tab} (a : RepT w J kvs T) : RepT w J (kvs ++ [(k, .ref q)]) (T ++ [(k, (g, o))]) := a.app (.cons hq V .nil)
theorem take_snoc {l : List α} {x : α} (h : l[i]? = some x) : l.take (i + 1) = l.take i ++ [x] := by
 rw [List.take_succ, h]; rfl
theorem tabO_lim {x : Int} (h : x ∈ (tabO hs).map (·.1)) : x = 50 ∨ (3 ≤ x ∧ x < 3 + hs.length) := by
 rw [tabO, List.map_cons] at h
 rcases List.mem_cons.mp h with h | h
 ·exact .inl h
 ·exact .inr (tabH_keys h)
theorem farT_lim {f : List (Str × Ob)} {x : Int} (h : x ∈ (farT far f).map (·.1)) : x = 2 ∨ x = 70 := by
 unfold farT at h
 split at h
 ·cases h
 ·exact (List.mem_cons.mp h).imp_right List.mem_singleton.mp
theorem stored_two {k1 k2 : Int} {v1 v2 : Value} {kvs : List (Int × Value)} (h1 : k1 ∉ kvs.map (·.1)) (h2 : k2 ∉ kvs.map (·.1)) (hne : k1 ≠ k2) : stored (stored kvs k1 v1) k2 v2 = kvs ++ [(k1, v1), (k2, v2)] := by
 rw [storedI_new h1, storedI_new]
 ·simp
 ·rw [List.map_append]
  intro h
  rcases List.mem_append.mp h with h | h
  ·exact h2 h
  ·rcases List.mem_cons.mp h with h | h
   ·exact hne h.symm
   ·cases h
theorem shelf_c {w : World} {own : Led} {t : Addr} {kvs : List (Int × Value)} {hds : List (List (Str × Ob))} (ht : (t, ot) ∈ J) (lot : (t == sysModules) = false) (hot : ot.IsDictOf (PySem.intKind prog w) kvs) (hRT : RepT w J kvs (tabO hds)) (hlen : hds.length ≤ 3) (hsm : ∀ h ∈ hds, h.length ≤ 20) (hway : way ≤ 2) (hfar : far ≤ 2) {t1 t2 : Tok} :
  Run w 4 200 (.ref 752) [.ref t, .int way t1, .int far t2] own J noR (fun r o' J' => ∃ z ot' od', r = .ref z.sh ∧ o' = (z.t, ot') :: (z.tr, od') :: own ∧ Sub J J' ∧ ShO w J' z (shT hds way far false) (shR way far false) ot' od') := by
 have htl : (tabO hds).length = hds.length + 1 := by
  have h2 : ∀ (hds : List (List (Str × Ob))) (k : Int), (tabH k hds).length = hds.length := by
   intro hds
   induction hds with
   | nil => intro k; rfl
   | cons a r ih => intro k; exact congrArg Nat.succ (ih _)
  rw [tabO, List.length_cons, h2]
 have hkl := hRT.len
 have hkk := rept_keys hRT
 have hndk : (kvs.map (·.1)).Nodup := by rw [hkk]; exact tabO_nodup (by omega)
 walk_at "g def"
 refine g_cons (g_asg ?_ (by rfl))
 walk_at "gx"
 refine g_comp [(.ofString "table", .ref t)] ?sc ?_
 case sc => ext scF
 walk_at "gx"
 let Iv33 : Nat → List Value → Led → Led → Prop := fun i ys o' J' => own = o' ∧ Sub J J' ∧ ∃ kvs', PairsJ J' ys kvs' ∧ RepT w J' kvs' ((tabO hds).take i)
 refine ⟨?sc, compG (src_dict hw hn (knd := PySem.intKind prog w) ht hot lot) ?sc (by rw [sizeLine_eq]; omega) Iv33 (by rintro _ _ _ _ ⟨_, q, _⟩; exact q) ⟨rfl, .refl, [], .nil, .nil⟩ (fun _ _ => rfl) ?_ ?_⟩
 case sc => ext scF
 ·rintro C' i v ys o' J' D c K KS hic - ⟨k0, x, hi, hki⟩
  rintro ⟨rfl, sub1, kvs', hP, hT'⟩ hK hKS
  ext comp
  obtain ⟨q, g, tk, u, o, rfl, hTi, hq, V⟩ := rept_at hRT hi
  have e1 := PySem.valueAt_of_get hndk hi
  have hq1 := sub1 _ hq
  have ht1 := sub1 _ ht
  have hPl := hP.len
  have hv : ∃ tv, v = .int k0 tv := PySem.Value.isInt_shape hki
  obtain ⟨tv, rfl⟩ := hv
  ext
  refine g_base (.ofString "x") default ?_
  refine g_item (knd := PySem.intKind prog w) hw' (mR ht1) hot hki e1 ?_
  ext
  refine g_base (.ofString "x") default ?_
  refine g_item_tup (j := 0) (mR hq1) (by decide) (by decide) rfl rfl ?_
  ext
  refine g_base (.ofString "x") default ?_
  refine g_item (knd := PySem.intKind prog w) hw' (mR ht1) hot hki e1 ?_
  ext
  refine g_base (.ofString "x") default ?_
  refine g_item_tup (j := 1) (mR hq1) (by decide) (by decide) rfl rfl ?_
  rcases tabO_mem (List.mem_of_getElem? hTi) with rfl | ⟨hd, hdm, rfl⟩
  ·cases V
   ext
   refine hK _ _ _ _ (by ext has) ⟨rfl, by ext sub, _, .snoc (hP.mono (by ext sub)) (.head _), ?_⟩
   rw [take_snoc hTi]
   exact RepT.snoc (.tail _ (.head _)) .nul (RepT.mono (by ext sub) hT')
  ·cases V with
   | dic va vb vc vd =>
   have hvl := vd.len
   have hdl := hsm _ hdm
   have va1 := sub1 _ va
   ext
   refine g_base (.ofString "x") default ?_
   refine g_item (knd := PySem.intKind prog w) hw' (mR ht1) hot hki e1 ?_
   ext
   refine g_base (.ofString "x") default ?_
   refine g_item_tup (j := 1) (mR hq1) (by decide) (by decide) rfl rfl ?_
   ext
   refine g_dcopyF hw' (mR va1) vb vc (by rw [sizeLine_eq]; omega) fun d2 o2 ld2 ho2 => ?_
   ext
   refine hK _ _ _ _ (by ext has) ⟨rfl, by ext sub, _, .snoc (hP.mono (by ext sub)) (.head _), ?_⟩
   rw [take_snoc hTi]
   exact RepT.snoc (.tail _ (.head _)) (.dic (.tail _ (.tail _ (.head _))) ho2 ld2 (RepK.mono (by ext sub) vd)) (RepT.mono (by ext sub) hT')
 ·rintro ys o' J' D k ⟨rfl, sub1, kvs', hP, hT'⟩ hle
  refine compEnd0 ?_
  rw [hkl, List.take_length] at hT'
  have hkl' := hT'.len
  have hkk' := rept_keys hT'
  have hnd' : (kvs'.map (·.1)).Nodup := by rw [hkk']; exact tabO_nodup (by omega)
  refine g_freeze [] ?_
  walk_at "gx"
  refine g_dict_pairs hw hn (mR (.head _)) (hP.mono (Sub.cons .refl)) (by rw [sizeLine_eq]; omega) hnd' fun md mo lmd hmo => ?_
  replace hT' := RepT.mono (Sub.cons (p := (D, listOf (List.toArray ys) k)) .refl) hT'
  replace sub1 := Sub.trans sub1 (Sub.cons (p := (D, listOf (List.toArray ys) k)) .refl)
  generalize hJ1 : (D, listOf (List.toArray ys) k) :: J' = J1 at *
  clear hJ1
  walk_at "gx"
  refine g_cons (g_asg ?_ (by rfl))
  walk_at "g"
  walk_at "g"
  walk_at "g"
  refine g_iced ?_
  ext
  rename_i fd fo lfo tk5 tk3 tk0
  refine g_runP (c_mkRef w _ _ _ _ _ _) hw hn (by omega) (by omega) fun r2 J2 sub2 V2 => ?_
  ext
  rename_i Df
  refine ⟨_, _, rfl, ?_⟩
  walk_at "gx"
  rename_i fo2 hfo2
  refine g_freeze [] ?_
  have hVf : Rep w ((fd, fo2) :: (Df, listOf (List.toArray [r2]) 0) :: J2) (.ref fd) (.dic (formO false)) := .dic (.head _) hfo2 lfo (.cons (.arr (.tail _ (.head _)) (.cons (V2.mono (Sub.cons (Sub.cons .refl))) .nil)) .nil)
  replace hT' := RepT.mono (Sub.trans sub2 (Sub.cons (p := (fd, fo2)) (Sub.cons (p := (Df, listOf (List.toArray [r2]) 0)) .refl))) hT'
  replace sub1 := Sub.trans sub1 (Sub.trans sub2 (Sub.cons (p := (fd, fo2)) (Sub.cons (p := (Df, listOf (List.toArray [r2]) 0)) .refl)))
  generalize hJ3 : (fd, fo2) :: (Df, listOf (List.toArray [r2]) 0) :: J2 = J3 at hVf hT' sub1
  clear V2
  have hk2 : (2 : Int) ∉ kvs'.map (·.1) := by rw [hkk']; intro h; have := tabO_lim h; omega
  have hk70 : (70 : Int) ∉ kvs'.map (·.1) := by rw [hkk']; intro h; have := tabO_lim h; omega
  refine g_cons (G.mono (X := Xf) (Q := fun f M o J4 => f = .next ∧ ∃ mo2 kvs2, o = (md, mo2) :: own ∧ Sub J3 J4 ∧ mo2.IsDictOf (PySem.intKind prog w) kvs2 ∧ RepT w J4 kvs2 (tabO hds ++ farT far (formO false)) ∧ Has M [(.ofString "form", .ref fd), (.ofString "made", .ref md), (.ofString "is_far", .int far t2), (.ofString "way", .int way t1), (.ofString "table", .ref t)]) ?hp ?rest (fun _ _ _ h => h))
  case hp =>
   ext
   refine ⟨fun e => ?_, fun e => ?_⟩
   ·have hf0 : far ≠ 0 := by rintro rfl; exact absurd e (by decide)
    ext
    refine g_asgtup ?_ (by rfl) (swap_at hs fun _ => by rfl)
    ext
    refine g_runP (c_mkRef w _ _ _ _ _ _) hw hn (by omega) (by omega) fun r4 J4 sub4 V4 => ?_
    ext
    refine g_setitem hw [] (knd := PySem.intKind prog w) hmo (intKind_is _ _ _ _) (by rw [sizeLine_eq]; omega) fun mo2 hmo2 => ?_
    ext
    refine g_setitem hw [] (knd := PySem.intKind prog w) hmo2 (intKind_is _ _ _ _) ?hz fun mo3 hmo3 => ?_
    case hz => rw [storedI_new hk2, sizeLine_eq, List.length_append, List.length_singleton]; omega
    ext
    rw [stored_two hk2 hk70 (by decide)] at hmo3
    refine ⟨rfl, mo3, _, rfl, by ext sub, hmo3, ?_, by ext has⟩
    unfold farT
    rw [if_neg hf0]
    refine RepT.app (hT'.mono (by ext sub)) (.cons (q := _) (.tail _ (.tail _ (sub4 _ (.head _)))) (hVf.mono (by ext sub)) (.cons (.tail _ (.head _)) (V4.mono (by ext sub)) .nil))
   ·have hf0 : far = 0 := by
     have := of_decide_eq_false e
     omega
    ext
    subst hf0
    exact ⟨rfl, mo, _, rfl, .refl, hmo, by unfold farT; rw [if_pos rfl, List.append_nil]; exact hT', by ext has⟩
  case rest =>
   rintro f M1 o1 J4 ⟨rfl, mo2, kvs2, rfl, sub4, hmo2, hT4, has1⟩
   refine nextq_next (g_weak has1 ?_)
   replace hVf := hVf.mono sub4
   replace sub1 := Sub.trans sub1 sub4
   clear hT' hmo hJ3 sub4 hfo2 sub2 hP hle
   ext
   refine g_runP (c_mkRef w _ _ _ _ _ _) hw hn (by omega) (by omega) fun r5 J5 sub5 V5 => ?_
   ext
   refine g_runP (c_mkRef w _ _ _ _ _ _) hw hn (by omega) (by omega) fun r6 J6 sub6 V6 => ?_
   obtain ⟨x, hx, Vx⟩ : ∃ x, [Value.ref fd, r5, r6][far]? = some x ∧ Rep w J6 x (acroV far (formO false)) := by
    rcases (by omega : far = 0 ∨ far = 1 ∨ far = 2) with h | h | h
    ·exact ⟨.ref fd, by rw [h]; rfl, by rw [h]; exact hVf.mono (by ext sub)⟩
    ·exact ⟨r5, by rw [h]; rfl, by rw [h]; exact V5.mono (by ext sub)⟩
    ·exact ⟨r6, by rw [h]; rfl, by rw [h]; exact V6⟩
   ext
   refine g_base (.ofString "x") default ?_
   refine g_item_tup (j := far) (mR (.head _)) (by omega) (by omega) (by rcases (by omega : far = 0 ∨ far = 1 ∨ far = 2) with h | h | h <;> rw [h] <;> rfl) hx ?_
   walk_at "gx"
   rename_i rd ro0 lrd a1 a2 a3 a4 a5 Dt a6 tk7 ro hro
   refine g_freeze [] ?_
   have sA : Sub J4 ((rd, ro) :: (Dt, tup [Value.ref fd, r5, r6]) :: J6) := Sub.trans sub5 (Sub.trans sub6 (Sub.cons (Sub.cons .refl)))
   have hVr : Rep w ((rd, ro) :: (Dt, tup [Value.ref fd, r5, r6]) :: J6) (.ref rd) (.dic (rootO far (formO false))) := .dic (.head _) hro lrd (.cons (Vx.mono (Sub.cons (Sub.cons .refl))) (.cons (.int _ _) .nil))
   replace hT4 := hT4.mono sA
   replace sub1 := Sub.trans sub1 sA
   generalize hJ7 : (rd, ro) :: (Dt, tup [Value.ref fd, r5, r6]) :: J6 = J7 at hVr hT4 sub1
   clear V5 V6 Vx sub5 sub6 sA hJ7 hVf hx
   have hkk4 := rept_keys hT4
   have hkl4 := hT4.len
   have hfl : (farT far (formO false)).length ≤ 2 := by unfold farT; split <;> decide
   rw [List.length_append] at hkl4
   have hk1 : (1 : Int) ∉ kvs2.map (·.1) := by
    rw [hkk4, List.map_append]; intro h
    rcases List.mem_append.mp h with h | h
    ·have := tabO_lim h; omega
    ·have := farT_lim h; omega
   have hk60 : (60 : Int) ∉ kvs2.map (·.1) := by
    rw [hkk4, List.map_append]; intro h
    rcases List.mem_append.mp h with h | h
    ·have := tabO_lim h; omega
    ·have := farT_lim h; omega
   refine g_cons (G.mono (X := Xf) (Q := fun f M o J8 => f = .next ∧ ∃ mo3 kvs3, o = (md, mo3) :: own ∧ Sub J7 J8 ∧ mo3.IsDictOf (PySem.intKind prog w) kvs3 ∧ RepT w J8 kvs3 (shT hds way far false) ∧ Has M [(.ofString "root", .ref rd), (.ofString "form", .ref fd), (.ofString "made", .ref md), (.ofString "is_far", .int far t2), (.ofString "way", .int way t1), (.ofString "table", .ref t)]) ?hp2 ?rest2 (fun _ _ _ h => h))
   case hp2 =>
    ext
    refine ⟨fun e => ?_, fun e => ?_⟩
    ·have hf0 : way ≠ 0 := by rintro rfl; exact absurd e (by decide)
     ext
     refine g_asgtup ?_ (by rfl) (swap_at hs fun _ => by rfl)
     ext
     refine g_runP (c_mkRef w _ _ _ _ _ _) hw hn (by omega) (by omega) fun r8 J8 sub8 V8 => ?_
     ext
     refine g_setitem hw [] (knd := PySem.intKind prog w) hmo2 (intKind_is _ _ _ _) (by rw [sizeLine_eq]; omega) fun mo3 hmo3 => ?_
     ext
     refine g_setitem hw [] (knd := PySem.intKind prog w) hmo3 (intKind_is _ _ _ _) ?hz fun mo4 hmo4 => ?_
     case hz => rw [storedI_new hk1, sizeLine_eq, List.length_append, List.length_singleton]; omega
     ext
     rw [stored_two hk1 hk60 (by decide)] at hmo4
     refine ⟨rfl, mo4, _, rfl, by ext sub, hmo4, ?_, by ext has⟩
     unfold shT wayT
     rw [if_neg hf0]
     refine RepT.app (hT4.mono (by ext sub)) (.cons (q := _) (.tail _ (.tail _ (sub8 _ (.head _)))) (hVr.mono (by ext sub)) (.cons (.tail _ (.head _)) (V8.mono (by ext sub)) .nil))
    ·have hf0 : way = 0 := by
      have := of_decide_eq_false e
      omega
     ext
     subst hf0
     exact ⟨rfl, mo2, _, rfl, .refl, hmo2, by unfold shT wayT; rw [if_pos rfl, List.append_nil]; exact hT4, by ext has⟩
   case rest2 =>
    rintro f M3 o3 J8 ⟨rfl, mo3, kvs3, rfl, sub8, hmo3, hT8, has3⟩
    refine nextq_next (g_weak has3 ?_)
    replace hVr := hVr.mono sub8
    replace sub1 := Sub.trans sub1 sub8
    clear hT4 hmo2 sub8 hkl4 hkk4
    ext
    refine g_runP (c_mkRef w _ _ _ _ _ _) hw hn (by omega) (by omega) fun r9 J9 sub9 V9 => ?_
    ext
    refine g_runP (c_mkRef w _ _ _ _ _ _) hw hn (by omega) (by omega) fun r10 J10 sub10 V10 => ?_
    obtain ⟨x, hx, Vx⟩ : ∃ x, [Value.ref rd, r9, r10][way]? = some x ∧ Rep w J10 x (rootV way far (formO false)) := by
     rcases (by omega : way = 0 ∨ way = 1 ∨ way = 2) with h | h | h
     ·exact ⟨.ref rd, by rw [h]; rfl, by rw [h]; exact hVr.mono (by ext sub)⟩
     ·exact ⟨r9, by rw [h]; rfl, by rw [h]; exact V9.mono (by ext sub)⟩
     ·exact ⟨r10, by rw [h]; rfl, by rw [h]; exact V10⟩
    ext
    refine g_base (.ofString "x") default ?_
    refine g_item_tup (j := way) (mR (.head _)) (by omega) (by omega) (by rcases (by omega : way = 0 ∨ way = 1 ∨ way = 2) with h | h | h <;> rw [h] <;> rfl) hx ?_
    ext
    rename_i trd b1 ltr b3 b4 b5 b6 b7 Dt2 b8 tk9 tro htro
    refine g_swap [] ?_
    refine g_runP (c_mkShelf w _ _ _ _) hw hn (by omega) (by omega) fun r11 J11 sub11 V11 => ?_
    obtain ⟨z, rfl, hzt, hztr, hzl⟩ := V11
    have sB : Sub J8 J11 := Sub.trans sub9 (Sub.trans sub10 (Sub.trans (Sub.cons .refl) sub11))
    refine hret _ _ _ _ ⟨z, mo3, tro, rfl, by rw [hzt, hztr]; rfl, Sub.trans sub1 sB, hzl, ⟨kvs3, hmo3, hzt ▸ lmd, hT8.mono sB⟩, ⟨_, htro, hztr ▸ ltr, .cons (Vx.mono (Sub.trans (Sub.cons .refl) sub11)) (.cons (.int _ _) .nil)⟩⟩
noncomputable def keyS (i : Nat) : Str := if i = 1 then .ofString "a.b" else .ofString "a.c"
noncomputable def recD1 (ents : Nat → List (Str × RV)) (i : Nat) : Option (Str × Str) := match hadE (ents 0) (ents i) vK with
 | .txt s => some (keyS i, s)
 | _ => none
noncomputable def recD (ents : Nat → List (Str × RV)) (k : Nat) : List (Str × Str) := (List.range k).filterMap fun i => recD1 ents (i + 1)
theorem recD_succ {k : Nat} : recD ents (k + 1) = recD ents k ++ (recD1 ents (k + 1)).toList := by
 unfold recD
 rw [List.range_succ, List.filterMap_append]
 cases h : recD1 ents (k + 1) <;> simp [h]
theorem recD1_key {p : Str × Str} (h : recD1 ents i = some p) : p.1 = keyS i := by
 unfold recD1 at h
 split at h
 ·cases h; rfl
 ·cases h
theorem strsD_mem {p : Str × Value} {ka : List (Str × Value)} {l : List (Str × Str)} (r : StrsD ka l) : p ∈ ka → ∃ s t, p.2 = .str s t ∧ (p.1, s) ∈ l := by
 induction r with
 | nil => intro h; cases h
 | snoc r ih =>
  intro h
  rcases List.mem_append.mp h with h | h
  ·obtain ⟨s, t, e, m⟩ := ih h
   exact ⟨s, t, e, mL m⟩
  ·rw [List.mem_singleton.mp h]
   exact ⟨_, _, rfl, mR (.head _)⟩
theorem strsD_get {p : Str × Str} {ka : List (Str × Value)} {l : List (Str × Str)} (r : StrsD ka l) : p ∈ l → ∃ t, (p.1, .str p.2 t) ∈ ka := by
 induction r with
 | nil => intro h; cases h
 | snoc r ih =>
  intro h
  rcases List.mem_append.mp h with h | h
  ·exact (ih h).imp fun _ m => mL m
  ·rw [List.mem_singleton.mp h]
   exact ⟨_, mR (.head _)⟩
theorem strsD_hits {ka kb : List (Str × Value)} {l : List (Str × Str)} (a : StrsD ka l) (b : StrsD kb l) (hn : (kb.map (·.1)).Nodup) (A : Around) (s : Shared) : KeqHits A s kb ka true := by
 have key : ∀ r : List (Str × Value), (∀ p ∈ r, p ∈ ka) → KeqHits A s kb r true := by
  intro r
  induction r with
  | nil => exact fun _ => .nil
  | cons p r ih =>
   intro h
   obtain ⟨x, t, e, m⟩ := strsD_mem a (h p (.head _))
   obtain ⟨t', m'⟩ := strsD_get b m
   obtain ⟨i, hi⟩ := List.getElem?_of_mem m'
   obtain ⟨k, v⟩ := p
   cases e
   have e2 := PySem.valueAt_of_get hn hi
   have := KeqHits.hit e2 (SeqAt.EqAt.str_str x t x t') (ih fun p hp => h p (.tail _ hp))
   simpa using this
 exact key ka fun _ h => h
structure RecAt (w : World) (own J : Led) (Dr : Addr) (n : Nat) (ents : Nat → List (Str × RV)) : Prop where
 is : ∃ rvs nr, (Dr, listOf (List.toArray rvs) nr) ∈ J ∧ rvs.length = n ∧ ∀ i < n, ∃ d oe, rvs[i]? = some (.ref d) ∧ (d, oe) ∈ own ++ J ∧ EntAt w J d oe (ents i)
theorem RecAt.had {w : World} {own : Led} (R : RecAt w own J Dr n ents) (ho : ∀ p ∈ own, p ∈ own') (hs : Sub J J') {a : Int} (ha : a.toNat = i) (hp : 0 ≤ a) (hi : i < n) (hn : n ≤ 100) {t : Tok} : RunP w 1 60 (.ref 742) [.ref Dr, .int a t, .str k u] own' J' (fun r J'' => RepV J'' r (hadE (ents 0) (ents i) k)) := by
 obtain ⟨rvs, nr, h1, h2, h3⟩ := R.is
 obtain ⟨d0, o0, a0, b0, c0⟩ := h3 0 (by omega)
 obtain ⟨d1, o1, a1, b1, c1⟩ := h3 i hi
 have app : ∀ {p : Addr × Obj}, p ∈ own ++ J → p ∈ own' ++ J' := fun h => by
  rcases List.mem_append.mp h with h | h
  ·exact mL (ho _ h)
  ·exact mR (hs _ h)
 exact had_c (hs _ h1) (app b0) (app b1) (c0.mono hs) (c1.mono hs) hp (by omega) a0 (by rw [ha]; exact a1)
theorem right_c {w : World} {own : Led} {T : Tab} {f : List (Str × Ob)} {hd : Int → List (Str × Ob)} (S : Shl w own J z T R) (Fm : Form T R h0 ks hd nm) (hnm : (ks.map fun k => fullN (nm k)).Nodup)
  (hkind : ∀ k ∈ ks, isText (kindO (getO T (wholeH T h0 (hd k)) "FT")) ∧ okO (fetchO T 30 (look (wholeH T h0 (hd k)) vK)) ∧ isArr (fetchO T 30 (look (wholeH T h0 (hd k)) vK)) = false ∧ look (wholeH T h0 (hd k)) (.ofString "Ff") = .nul)
  (Rc : RecAt w own J Dr n ents) (hn1 : 2 ≤ n) (hn3 : n ≤ 3) (hV : ∀ i < n, hadE (ents 0) (ents i) vK = .no ∨ ∃ s, hadE (ents 0) (ents i) vK = .txt s)
  (hdat : dataO T h0 hd nm ks = recD ents (n - 1)) (hroot : fetchO T 30 (look R rootK) = .dic l) (hacro : fetchO T 30 (look l acroK) = .dic f) {nd : Bool} (hneed : f.lookup needK = if nd then some (.tru true) else none) (hlang : l.lookup langK = some (.int 7)) (hinfo : R.lookup infoK = some (.int 5)) :
  RunP w 18 1300 (.ref 773) [.ref z.sh, .ref Dr, .bool nd] own J (fun r _ => r = .bool true) := by
 obtain ⟨rvs, nr, hR, hrl, -⟩ := id Rc.is
 have Sh : ∀ {J' : Led} (p : Addr × Obj), Sub J J' → Shl w (p :: own) J' z T R := fun l s => (S.mono s).own fun _ c => .tail _ c
 have hrz : rvs.length ≤ sizeLine := by rw [sizeLine_eq]; omega
 have hrs : Builtin.Range.small 1 (rvs.length : Int) 1 = true := by rcases (by omega : rvs.length = 2 ∨ rvs.length = 3) with h | h <;> rw [h] <;> decide
 have hsz : Builtin.Range.rangeSize 1 (rvs.length : Int) 1 = ((n - 1 : Nat) : Int) := by rcases (by omega : n = 2 ∨ n = 3) with h | h <;> rw [hrl, h] <;> decide
 walk_at "g def"
 ext
 rename_i D oD loD hoD hiD t1 t0 r0 v0
 refine let Iv64 : Nat → Loc → Led → Led → Prop := fun i M' o' J' => ∃ o₁ kvs, o' = (D, o₁) :: own ∧ Sub (_ :: J) J' ∧ Has M' [(.ofString "data", .ref D), (.ofString "shelf", .ref z.sh), (.ofString "record", .ref Dr), (.ofString "is_needed", .bool nd)] ∧ o₁.IsDictOf (PySem.strKind prog w) kvs ∧ StrsD kvs (recD ents i);
  forG hfe (src_range hn (.head _) hrs hsz) Iv64 noB ⟨oD, [], rfl, .refl, by ext has, hoD, .nil⟩ ?_ ?_
 ·intro C' i v0 M' o₂ J2 K hsm
  walk_at "g turn"
  rintro hi ⟨t', rfl⟩ hIz hK
  refine opq3 M' o₂ J2 fun Zk hZk => ?_
  obtain ⟨o₁, kvs, rfl, sub2, has2, ho₁, hkv⟩ := hIz
  refine hZk _ _ _ ?_
  refine g_weak has2 ?_
  have hS : Sub J J2 := Sub.trans (Sub.cons .refl) sub2
  ext
  refine g_runP (Rc.had (i := i + 1) (fun p hp => .tail _ hp) hS (by omega) (by omega) (by omega) (by omega)) hw' hn' (by omega) (by omega) fun r J3 sub3 V3 => ?_
  have hd1 : recD1 ents (i + 1) = match hadE (ents 0) (ents (i + 1)) vK with
   | .txt s => some (keyS (i + 1), s)
   | _ => none := rfl
  rcases hV (i + 1) (by omega) with e | ⟨x, e⟩
  ·rw [e] at V3 hd1
   cases V3
   ext
   exact hK _ _ _ _ (turnq_next ⟨o₁, kvs, rfl, by ext sub, by ext has, ho₁, by rw [recD_succ, hd1]; simpa using hkv⟩)
  ·rw [e] at V3 hd1
   cases V3
   ext
   refine g_runP (Rc.had (i := i + 1) (fun p hp => .tail _ hp) (Sub.trans hS sub3) (by omega) (by omega) (by omega) (by omega)) hw' hn' (by omega) (by omega) fun r J4 sub4 V4 => ?_
   rw [e] at V4
   cases V4
   walk_at "gns"
   have hi2 : i = 0 ∨ i = 1 := by omega
   refine g_base (.ofString "x") default ?_
   refine g_item_str (c := 98 + i) (by rcases hi2 with h | h <;> rw [h] <;> decide) (by rcases hi2 with h | h <;> rw [h] <;> decide +kernel) fun t6 => ?_
   have hkey : (.ofString "a." : Str) ++ (⟨#[98 + i]⟩ : Str) = keyS (i + 1) := by rcases hi2 with h | h <;> rw [h] <;> decide +kernel
   have hnew : keyS (i + 1) ∉ kvs.map (·.1) := by
    rw [hkv.keys]
    intro hm
    obtain ⟨p, hp, e1⟩ := List.mem_map.mp hm
    obtain ⟨j, hj, e2⟩ := List.mem_filterMap.mp hp
    rw [recD1_key e2] at e1
    have hji : j < i := List.mem_range.mp hj
    obtain rfl : j = 0 := by omega
    obtain rfl : i = 1 := by omega
    revert e1
    decide +kernel
   have hkl : kvs.length ≤ sizeLine := by
    have h1 := hkv.len
    have h2 : (recD ents i).length ≤ (List.range i).length := List.length_filterMap_le _ _
    rw [List.length_range] at h2
    rw [sizeLine_eq]; omega
   refine g_add_str (by rw [sizeLine_eq]; show (2 : Nat) + 1 ≤ 16777216; decide) fun t7 => ?_
   rw [hkey]
   walk_at "gns"
   refine g_setitem hw' [] (knd := PySem.strKind prog w) ho₁ (strKind_is _ _ _ _) hkl fun o' ho' => ?_
   ext
   refine hK _ _ _ _ (turnq_next ⟨o', _, rfl, by ext sub, by ext has, ho', ?_⟩)
   rw [stored_new hnew, recD_succ, hd1]
   exact .snoc hkv
 ·rintro M' o₂ J2 ⟨o₁, kvs, rfl, sub2, has2, ho₁, hkv⟩
  refine nextq_next (g_weak has2 (g_freeze [] ?_))
  have hS : Sub J ((D, o₁) :: J2) := Sub.trans (Sub.trans (Sub.cons .refl) sub2) (Sub.cons .refl)
  have hDm : (D, o₁) ∈ (D, o₁) :: J2 := .head _
  generalize hJ3 : (D, o₁) :: J2 = J3 at hS hDm
  clear hJ3 sub2
  obtain ⟨hz1, hz2⟩ := (S.mono hS).lies
  ext
  refine g_runP (root_c (S.mono hS) hroot) hw hn (by omega) (by omega) fun r J4 sub4 V4 => ?_
  ext
  refine g_runP (get_c (S.mono (Sub.trans hS sub4)) V4 _ _) hw hn (by omega) (by omega) fun r5 J5 sub5 V5 => ?_
  rw [hacro] at V5
  obtain ⟨fa, fo, fkvs, rfl, va, vb, vc, vd⟩ := V5.dic_inv
  have S5 := S.mono (Sub.trans hS (Sub.trans sub4 sub5))
  have hDm5 := sub5 _ (sub4 _ hDm)
  walk_at "gx"
  refine g_cons (G.mono (X := Xf) (Q := fun f M o J' => f = .next ∧ o = own ∧ Sub J5 J' ∧ Has M [(.ofString "shelf", .ref z.sh)]) ?hp ?rest (fun _ _ _ h => h))
  case hp =>
   ext
   refine g_runP (data_c S5 Fm hnm hkind) hw hn (by omega) (by omega) fun r6 J6 sub6 V6 => ?_
   obtain ⟨dd, do', dkvs, rfl, hdd, ldd, hdo, hdk⟩ := V6
   rw [hdat] at hdk
   have hnodup : (kvs.map (·.1)).Nodup := by obtain ⟨_, _, _, _, _, _, nd'⟩ := ho₁; exact nd'
   ext
   refine g_ne_dict (knd := PySem.strKind prog w) hw (mR hdd) hdo ldd (mR (sub6 _ hDm5)) ho₁ loD (strsD_hits hdk hkv hnodup) ?_
   rw [hdk.len, hkv.len]
   simp only [beq_self_eq_true, Bool.and_self, Bool.not_true]
   ext
   refine g_in (knd := PySem.strKind prog w) (b := nd) hw (mR (sub6 _ va)) vb vc (strKind_is _ _ _ _) ?hin ?_
   case hin =>
    rcases repk_get (n := needK) vd with ⟨e1, e2⟩ | ⟨v, o, e1, e2, e3⟩
    ·rw [hneed] at e2
     rw [e1]
     cases nd
     ·rfl
     ·cases e2
    ·rw [hneed] at e2
     rw [e1]
     cases nd
     ·cases e2
     ·rfl
   ext
   rw [bne_self_eq_false]
   ext
   cases nd with
   | false =>
    ext
    exact ⟨rfl, rfl, sub6, by ext has⟩
   | true =>
    ext
    rcases repk_get (n := needK) vd with ⟨e1, e2⟩ | ⟨v, o, e1, e2, e3⟩
    ·rw [hneed] at e2
     cases e2
    ·rw [hneed] at e2
     obtain rfl := Option.some.inj e2
     cases e3
     refine g_item (knd := PySem.strKind prog w) hw (mR (sub6 _ va)) vb (strKind_is _ _ _ _) e1 ?_
     ext
     exact ⟨rfl, rfl, sub6, by ext has⟩
  case rest =>
   rintro fl M6 o6 J6 ⟨rfl, rfl, sub6, has6⟩
   have S6 := S5.mono sub6
   obtain ⟨hz3, hz4⟩ := S6.lies
   obtain ⟨od, dvs, hd3, hd4⟩ := S6.tra
   refine nextq_next (g_weak has6 ?_)
   ext
   refine g_runP (root_c S6 hroot) hw hn (by omega) (by omega) fun r7 J7 sub7 V7 => ?_
   obtain ⟨_, _, _, rfl, ua, ub, uc, ud⟩ := V7.dic_inv
   obtain ⟨hz5, hz6⟩ := (S6.mono sub7).lies
   ext
   rcases repk_get (n := langK) ud with ⟨e1, e2⟩ | ⟨v, o, e1, e2, e3⟩
   ·rw [hlang] at e2; cases e2
   rw [hlang] at e2
   obtain rfl := Option.some.inj e2
   cases e3
   refine g_base (.ofString "x") default ?_
   refine g_item (knd := PySem.strKind prog w) hw (mR ua) ub (strKind_is _ _ _ _) e1 ?_
   ext
   rcases repk_get (n := infoK) hd4.rep with ⟨e4, e5⟩ | ⟨v, o, e4, e5, e6⟩
   ·rw [hinfo] at e5; cases e5
   rw [hinfo] at e5
   obtain rfl := Option.some.inj e5
   cases e6
   refine g_base (.ofString "x") default ?_
   refine g_item (knd := PySem.strKind prog w) hw (mL hd3) hd4.dict (strKind_is _ _ _ _) e4 ?_
   ext
   exact hret _ _ _ _ ⟨rfl, Sub.trans hS (Sub.trans sub4 (Sub.trans sub5 (Sub.trans sub6 sub7))), rfl⟩
end
variable {D Dr I L Ls a d dx it : Addr} {params : Arguments} {A : Around} {osl sl : Array (Option Value)} {ps : Array Value} {hh : Bool} {e elt slice target test value : Expr} {K : Frag} {h' h₀ : Heap} {way3 : Int} {nm : Int → Array UInt8} {bs : List (Array UInt8)} {cl : List (Str × Addr)} {acc binds kvs : List (Str × Value)} {args elts rest : List Expr} {ks : List Int} {b1 b2 bod body : List Stmt} {ss : List Str} {U c far i j line n tk way : Nat} {dr : Nat → Addr} {oe : Nat → Obj} {oa ot : Obj} {an od : Option Addr} {p pos py : Pos} {P P' : Prop} {SC : Scope} {pl : Sem Bool} {wh : Sem Value} {s' s₀ : Shared} {k k' q qual s word x y : Str} {m : Str → Option Value} {u : Tok} {α β : Type} {cdv ct cv dV df doc f kV pm v xv : Value} {E : Value → Shared → Prop}
variable {X : XP} {C C' : Cx} {Q : QF} {J B J' l1 loc own' own₁ : Led} {M L₀ M' : Loc} {KS : Loc → Led → Led → Prop}
variable {hs : List (List (Str × Ob))} {R R' gs h0 l : List (Str × Ob)} {o : Ob}
variable {zf : Nat → Shf} {z : Shf} {T' : Tab}
variable {e0 es : List (Str × RV)} {ents : Nat → List (Str × RV)} {r : RV}
theorem lkc : look ((k', o) :: l) k = if k = k' then o else look l k := by
 unfold look
 rw [look1]
 split <;> rfl
theorem look_nil : look [] k = .nul := rfl
theorem look_none (h : k ∉ l.map (·.1)) : look l k = .nul := congrArg (·.getD .nul) (lookN h)
theorem put_lookup : (putO l k o).lookup k' = if k' = k then some o else l.lookup k' := putG_look
theorem putO_look : look (putO l k o) k' = if k' = k then o else look l k' := by
 unfold look
 rw [put_lookup]
 split <;> rfl
theorem dropL {l : List (Str × β)} : (l.filter fun p => decide (p.1 ≠ k)).lookup k' = if k' = k then none else l.lookup k' := by
 induction l with
 | nil => split <;> rfl
 | cons p l ih =>
  rw [List.filter_cons]
  by_cases e : p.1 = k
  ·rw [if_neg (by simpa using e), ih, look1, ← e]
   split
   ·rfl
   ·rfl
  ·rw [if_pos (decide_eq_true e), look1, look1, ih]
   by_cases e2 : k' = p.1
   ·rw [if_pos e2, if_pos e2, if_neg fun z => e (e2.symm.trans z)]
   ·rw [if_neg e2, if_neg e2]
theorem drop_look : look (dropO l k) k' = if k' = k then .nul else look l k' := by
 unfold look dropO
 rw [dropL]
 split <;> rfl
theorem isNul_eq : isNul o = true ↔ o = .nul := ⟨fun h => (by cases o <;> first | rfl | cases h), fun h => h ▸ rfl⟩
set_option tactic.hygienic true in
theorem turn_look : look (turnO l (k, o)) k' = if k' = k then o else look l k' := by
 unfold turnO
 dsimp only
 split
 ·rename_i h; rw [drop_look, isNul_eq.mp h]
 ·exact putO_look
theorem mem_put {p : Str × Ob} (h : p ∈ putO l k o) : p ∈ l ∨ p = (k, o) := putG_mem h
set_option tactic.hygienic true in
theorem mem_turn {p : Str × Ob} (h : p ∈ turnO l (k, o)) : p ∈ l ∨ (p = (k, o) ∧ o ≠ .nul) := by
 unfold turnO at h
 split at h
 ·exact .inl (List.mem_filter.mp h).1
 ·rename_i hn
  rcases mem_put h with h | h
  ·exact .inl h
  ·exact .inr ⟨h, fun e => hn (by rw [e]; rfl)⟩
theorem turn_keys (h : (l.map (·.1)).Nodup) : ((turnO l (k, o)).map (·.1)).Nodup := by
 unfold turnO
 split
 ·exact h.sublist (List.filter_sublist.map _)
 ·exact putO_keys h
theorem inh_look {T : Tab} : ∀ {acc : List (Str × Ob)}, (gs.map (·.1)).Nodup → look (gs.foldl (inh1 T l) acc) k = if k ∈ gs.map (·.1) ∧ isNul (fetchO T 30 (look l k)) = true then look gs k else look acc k := by
 induction gs with
 | nil => intro acc _; exact (if_neg fun z => nomatch z.1).symm
 | cons p gs ih =>
  intro acc hn
  rw [List.map_cons] at hn ⊢
  obtain ⟨hna, hnr⟩ := List.nodup_cons.mp hn
  rw [List.foldl_cons, ih hnr, inh1, show look (p :: gs) k = _ from lkc]
  by_cases e : k = p.1
  ·rw [if_neg fun z => hna (e ▸ z.1), if_pos e, ← e]
   by_cases h : isNul (fetchO T 30 (look l k)) = true
   ·rw [if_pos h, if_pos ⟨.head _, h⟩, putO_look, if_pos rfl]
   ·rw [if_neg h, if_neg fun z => h z.2]
  ·have : look (if isNul (fetchO T 30 (look l p.1)) then putO acc p.1 p.2 else acc) k = look acc k := by
    split
    ·rw [putO_look, if_neg e]
    ·rfl
   rw [if_neg e, this]
   exact (iteI (and_congr (memC e) .rfl)).symm
theorem hand_look {h : List (Str × Ob)} : (handO h).lookup k = if k ∈ inhKeys then h.lookup k else none := by
 have key : ∀ (ks : List Str) (acc : List (Str × Ob)), (∀ x, acc.lookup x = none ∨ acc.lookup x = h.lookup x) → (ks.foldl (hand1 h) acc).lookup k = if k ∈ ks then h.lookup k else acc.lookup k := by
  intro ks
  induction ks with
  | nil => exact fun acc _ => (if_neg nofun).symm
  | cons a ks ih =>
   intro acc hp
   have hl : ∀ x, (hand1 h acc a).lookup x = if x = a then h.lookup a else acc.lookup x := by
    intro x
    unfold hand1
    by_cases e2 : x = a
    ·rw [if_pos e2, e2]
     cases e : h.lookup a with
     | none => exact ((hp a).elim id fun z => z.trans e)
     | some o => exact put_lookup.trans ((if_pos rfl).trans (congrArg (fun z => some (Option.getD z Ob.nul)) e))
    ·rw [if_neg e2]
     split
     ·exact put_lookup.trans (if_neg e2)
     ·rfl
   rw [List.foldl_cons, ih _ fun x => ?_, hl]
   ·by_cases e : k = a
    ·rw [if_pos e, e, if_pos (show a ∈ a :: ks from .head _), ite_self]
    ·rw [if_neg e]; exact (iteI (memC e)).symm
   ·rw [hl]
    split
    ·rename_i e; exact .inr (e ▸ rfl)
    ·exact hp x
 exact (key inhKeys [] fun _ => .inl rfl)
theorem mem_lookup (h : k ∈ l.map (·.1)) : ∃ o, l.lookup k = some o := by
 induction l with
 | nil => cases h
 | cons p l ih =>
  rw [look1]
  by_cases e : k = p.1
  ·rw [if_pos e]; exact ⟨_, rfl⟩
  ·rw [if_neg e]; exact ih ((List.mem_cons.mp h).elim (fun z => absurd z e) id)
noncomputable def fiveK : List Str := [ftK, vK, dvK, mlK, opK]
noncomputable def headKeys : List Str := [tK, kidsK, parK, ftK, vK, dvK, mlK, opK, iK]
noncomputable def valO : Ob → Ob
 | .ref _ _ => .nul
 | o => o
noncomputable def showO (k : Str) : RV → Ob
 | .no => .nul
 | .txt s => if k = ftK then .nam s else .str (octO s)
 | .num i => .int i
 | .lst l => .arr (l.map fun s => .str (octO s))
noncomputable def okRef (o : Ob) : Prop := isRef o = false ∨ o = .ref 90 0 ∨ o = .ref 50 0
noncomputable def atoms : List Ob := [.ref 3 0, .ref 4 0, .ref 5 0, .ref 90 0, .ref 50 0, .int 0, .int 1, .int 2, .int 3, .nam (.ofString "Tx"), .nam (.ofString "Ch"), .str #[97], .str #[98], .str #[99], .str (octO (.ofString "x")), .str (octO (.ofString "yy")), .str (octO (.ofString "αβγ")), .str (octO (.ofString ""))]
noncomputable def fine (o : Ob) : Prop := o ∈ atoms ∨ ∃ l, o = .arr l ∧ l.length ≤ 4 ∧ ∀ x ∈ l, x ∈ atoms
structure HeadAt (n i : Nat) (h : List (Str × Ob)) (es : List (Str × RV)) : Prop where
 nd : (h.map (·.1)).Nodup
 keys : ∀ k ∈ h.map (·.1), k ∈ headKeys
 t : look h tK = .str (if i = 0 then #[97] else bcB i)
 kids : look h kidsK = if i = 0 then .arr (kidsO (n - 1)) else .nul
 vals : ∀ k ∈ fiveK, okRef (look h k) ∧ valO (look h k) = showO k (getE es k)
 all : ∀ p ∈ h, fine p.2
theorem HeadAt.len {h : List (Str × Ob)} (H : HeadAt n i h es) : h.length ≤ 9 := by
 have := List.Nodup.length_le_of_subset H.nd (fun k hk => H.keys k hk)
 simpa [headKeys] using this
theorem HeadAt.no {h : List (Str × Ob)} (H : HeadAt n i h es) (hk : k ∉ headKeys) : look h k = .nul := look_none fun z => hk (H.keys k z)
theorem HeadAt.lno {h : List (Str × Ob)} (H : HeadAt n i h es) (hk : k ∉ headKeys) : h.lookup k = none := lookN fun z => hk (H.keys k z)
theorem HeadAt.turn {h : List (Str × Ob)} (H : HeadAt n i h es) (hk : k = vK ∨ k = iK) (ho : fine o ∨ o = .nul) {es' : List (Str × RV)} (hv : ∀ k' ∈ fiveK, okRef (if k' = k then o else look h k') ∧ valO (if k' = k then o else look h k') = showO k' (getE es' k')) : HeadAt n i (turnO h (k, o)) es' := by
 have hkk : k ∈ headKeys := by rcases hk with rfl | rfl <;> decide +kernel
 have ht : tK ≠ k := by rcases hk with rfl | rfl <;> decide +kernel
 have hd : kidsK ≠ k := by rcases hk with rfl | rfl <;> decide +kernel
 refine ⟨turn_keys H.nd, fun k' hk' => ?_, ?_, ?_, fun k' hk' => ?_, fun p hp => ?_⟩
 ·obtain ⟨p, hp, rfl⟩ := List.mem_map.mp hk'
  rcases mem_turn hp with hp | ⟨rfl, -⟩
  ·exact H.keys _ (List.mem_map.mpr ⟨p, hp, rfl⟩)
  ·exact hkk
 ·rw [turn_look, if_neg ht]; exact H.t
 ·rw [turn_look, if_neg hd]; exact H.kids
 ·rw [turn_look]; exact hv k' hk'
 ·rcases mem_turn hp with hp | ⟨rfl, hn⟩
  ·exact H.all p hp
  ·exact ho.elim id fun e => absurd e hn
theorem word_atom (h : s ∈ wordsL) : Ob.str (octO s) ∈ atoms :=
 List.mem_of_mem_drop (i := 14) (show _ ∈ wordsL.map fun s => Ob.str (octO s) from List.mem_map.mpr ⟨s, h, rfl⟩)
theorem fine_word (h : s ∈ wordsL) : fine (.str (octO s)) := .inl (word_atom h)
theorem iK_five : iK ∉ fiveK := by decide +kernel
theorem HeadAt.turnI {h : List (Str × Ob)} (H : HeadAt n i h es) (ho : fine o ∨ o = .nul) : HeadAt n i (turnO h (iK, o)) es :=
 H.turn (.inr rfl) ho fun k' hk' => by rw [if_neg (fun e => iK_five (by rw [← e]; exact hk'))]; exact H.vals k' hk'
theorem HeadAt.turnV {h : List (Str × Ob)} (H : HeadAt n i h es) (ho : fine o ∨ o = .nul) (h1 : okRef o) (h2 : valO o = showO vK r) : HeadAt n i (turnO h (vK, o)) (setE es vK r) :=
 H.turn (.inl rfl) ho fun k' hk' => by
  by_cases e : k' = vK
  ·subst e; rw [if_pos rfl, getE_set]; exact ⟨h1, h2⟩
  ·rw [if_neg e, getE_other fun z => e z.symm]; exact H.vals k' hk'
theorem okRef_val (h : okRef o) {T : Tab} (h90 : T.lookup 90 = none) (h50 : T.lookup 50 = some (0, .nul)) : fetchO T 30 o = valO o := by
 rcases h with h | rfl | rfl
 ·rw [fetch_plain h]
  cases o <;> first | rfl | cases h
 ·show (match T.lookup 90 with | some (g', o) => if g' = 0 then fetchO T 29 o else .nul | none => if (0 : Int) = -1 then fetchO T 29 .nul else .nul) = .nul
  rw [h90]; rfl
 ·show (match T.lookup 50 with | some (g', o) => if g' = 0 then fetchO T 29 o else .nul | none => if (0 : Int) = -1 then fetchO T 29 .nul else .nul) = .nul
  rw [h50]; rfl
theorem showO_nul : showO k r = .nul ↔ r = .no := by
 cases r with
 | txt s => simp only [showO]; split <;> simp
 | _ => simp [showO]
theorem whole_vals {h : List (Str × Ob)} (H0 : HeadAt n i h0 e0) (H : HeadAt n j h es) {T : Tab} (h90 : T.lookup 90 = none) (h50 : T.lookup 50 = some (0, .nul)) (hk : k ∈ fiveK) :
  okRef (look (wholeH T h0 h) k) ∧ fetchO T 30 (look (wholeH T h0 h) k) = showO k (hadE e0 es k) := by
 have hki : k ∈ inhKeys := by revert k; decide +kernel
 obtain ⟨a1, a2⟩ := H.vals k hk
 obtain ⟨b1, b2⟩ := H0.vals k hk
 have hl : look (wholeH T h0 h) k = if k ∈ (handO h0).map (·.1) ∧ isNul (fetchO T 30 (look h k)) = true then look (handO h0) k else look h k := inh_look hand_keys
 rw [okRef_val a1 h90 h50, a2] at hl
 have hh : look (handO h0) k = look h0 k := by unfold look; rw [hand_look, if_pos hki]
 have hmem : k ∉ (handO h0).map (·.1) → look h0 k = .nul := fun z => by rw [← hh]; exact look_none z
 by_cases hr : getE es k = .no
 ·have hhad : hadE e0 es k = getE e0 k := by unfold hadE; rw [hr]
  rw [hhad]
  by_cases hm : k ∈ (handO h0).map (·.1)
  ·rw [if_pos ⟨hm, isNul_eq.mpr (showO_nul.mpr hr)⟩, hh] at hl
   rw [hl]
   exact ⟨b1, by rw [okRef_val b1 h90 h50, b2]⟩
  ·rw [if_neg fun z => hm z.1] at hl
   rw [hl]
   refine ⟨a1, ?_⟩
   rw [okRef_val a1 h90 h50, a2, ← b2, hmem hm, showO_nul.mpr hr]
   rfl
 ·have hhad : hadE e0 es k = getE es k := by
   unfold hadE
   cases hg : getE es k with
   | no => exact absurd hg hr
   | _ => rfl
  rw [if_neg fun z => hr (showO_nul.mp (isNul_eq.mp z.2))] at hl
  rw [hl, hhad]
  exact ⟨a1, by rw [okRef_val a1 h90 h50, a2]⟩
theorem whole_ff {h : List (Str × Ob)} (H0 : HeadAt n i h0 e0) (H : HeadAt n j h es) {T : Tab} (hk : k ∉ headKeys) : look (wholeH T h0 h) k = .nul := by
 have hl : look (wholeH T h0 h) k = if k ∈ (handO h0).map (·.1) ∧ isNul (fetchO T 30 (look h k)) = true then look (handO h0) k else look h k := inh_look hand_keys
 rw [hl, H.no hk]
 split
 ·unfold look
  rw [hand_look, H0.lno hk]
  split <;> rfl
 ·rfl
theorem GoodE.keys (h : GoodE es) : ∀ k ∈ es.map (·.1), k ∈ fiveK := fun k hk => by
 obtain ⟨p, hp, e2⟩ := List.mem_map.mp hk
 refine e2 ▸ ?_
 rcases h.ok p hp with ⟨e, -⟩ | ⟨e | e, -⟩ | ⟨e, -⟩ | ⟨e, -⟩ <;> rw [e]
 ·exact .head _
 ·exact .tail _ (.head _)
 ·exact .tail _ (.tail _ (.head _))
 ·exact .tail _ (.tail _ (.tail _ (.head _)))
 ·exact .tail _ (.tail _ (.tail _ (.tail _ (.head _))))
theorem GoodE.len (h : GoodE es) : es.length ≤ 5 := by
 have := List.Nodup.length_le_of_subset h.nd (fun k hk => h.keys k hk)
 rwa [List.length_map] at this
theorem enc_get {os : List (Str × Ob)} (h : EncK es os) : (es.lookup k = none ∧ os.lookup k = none) ∨ ∃ r ob, es.lookup k = some r ∧ os.lookup k = some ob ∧ enc1 k r ob := by
 induction h with
 | nil => exact .inl ⟨rfl, rfl⟩
 | @snoc es os k' r ob h1 h2 ih =>
  rw [List.lookup_append, List.lookup_append]
  rcases ih with ⟨a, b⟩ | ⟨r', ob', a, b, c⟩
  ·rw [a, b, look1, look1]
   by_cases e : k = k'
   ·rw [if_pos e, if_pos e]; exact .inr ⟨r, ob, rfl, rfl, e ▸ h2⟩
   ·rw [if_neg e, if_neg e]; exact .inl ⟨rfl, rfl⟩
  ·exact .inr ⟨r', ob', by rw [a]; rfl, by rw [b]; rfl, c⟩
theorem enc_mem {p : Str × Ob} {os : List (Str × Ob)} (h : EncK es os) (hp : p ∈ os) : ∃ r, (p.1, r) ∈ es ∧ enc1 p.1 r p.2 := by
 induction h with
 | nil => cases hp
 | @snoc es os k' r ob h1 h2 ih =>
  rcases List.mem_append.mp hp with hp | hp
  ·obtain ⟨r', a, b⟩ := ih hp
   exact ⟨r', mL a, b⟩
  ·rw [List.mem_singleton.mp hp]
   exact ⟨r, mR (.head _), h2⟩
theorem ft_ne : vK ≠ ftK ∧ dvK ≠ ftK ∧ mlK ≠ ftK ∧ opK ≠ ftK := by decide +kernel
theorem fineA (i : Nat) (h : atoms[i]? = some o) : fine o := .inl (List.mem_of_getElem? h)
noncomputable def wellR (k : Str) (r : RV) : Prop := r.rec (motive := fun _ => Prop) True (fun s => (k = ftK ∧ (s = .ofString "Tx" ∨ s = .ofString "Ch")) ∨ (k ≠ ftK ∧ s ∈ wordsL)) (fun m => m = 1 ∨ m = 2 ∨ m = 3) (fun l => ∃ n ≤ 3, l = wordsL.take n)
theorem ok_well (h : okRV k r) : wellR k r := by
 rcases h with ⟨e, h | h | h⟩ | ⟨e, h | ⟨s, hs, h⟩⟩ | ⟨-, h | ⟨m, h1, h2, h⟩⟩ | ⟨-, h | ⟨n, -, h2, h⟩⟩ <;> rw [h]
 ·trivial
 ·exact .inl ⟨e, .inl rfl⟩
 ·exact .inl ⟨e, .inr rfl⟩
 ·trivial
 ·exact .inr ⟨e.elim (fun e => e ▸ ft_ne.1) fun e => e ▸ ft_ne.2.1, hs⟩
 ·trivial
 ·exact (by omega : m = 1 ∨ m = 2 ∨ m = 3)
 ·trivial
 ·exact ⟨n, h2, rfl⟩
theorem enc_fine {ob : Ob} (h : enc1 k r ob) (hk : okRV k r) : okRef ob ∧ valO ob = showO k r ∧ fine ob := by
 have hw := ok_well hk
 rcases h with ⟨e, x, hr, ho⟩ | ⟨hne, h⟩
 ·rw [hr] at hw
  rw [hr, ho]
  refine ⟨.inl rfl, (if_pos e).symm, ?_⟩
  rcases hw with ⟨-, h | h⟩ | ⟨h, -⟩
  ·rw [h]; exact fineA 9 rfl
  ·rw [h]; exact fineA 10 rfl
  ·exact absurd e h
 ·cases h with
  | no90 => exact ⟨.inr (.inl rfl), rfl, fineA 3 rfl⟩
  | no50 => exact ⟨.inr (.inr rfl), rfl, fineA 4 rfl⟩
  | txt s =>
   have hk' : k ≠ ftK := hne.elim id nofun
   exact ⟨.inl rfl, (if_neg hk').symm, .inl (word_atom (hw.elim (fun z => absurd z.1 hk') (·.2)))⟩
  | num m =>
   refine ⟨.inl rfl, rfl, ?_⟩
   rcases hw with h | h | h <;> rw [h]
   ·exact fineA 6 rfl
   ·exact fineA 7 rfl
   ·exact fineA 8 rfl
  | lst l =>
   obtain ⟨n, hn, e⟩ := hw
   refine ⟨.inl rfl, rfl, .inr ⟨_, rfl, ?_, fun x hx => ?_⟩⟩
   ·rw [List.length_map, e, List.length_take]
    exact Nat.le_trans (Nat.min_le_left _ _) (Nat.le_succ_of_le hn)
   ·obtain ⟨s, hs, e2⟩ := List.mem_map.mp hx
    exact e2 ▸ word_atom (List.mem_of_mem_take (e ▸ hs))
theorem baseI_ks : (baseI n i).map (·.1) = if i = 0 then [tK, kidsK] else [tK, parK] := by unfold baseI; split <;> rfl
theorem head_of {h : List (Str × Ob)} (hn : n ≤ 3) (hi : i < 3) (H : HeadOf n i es h) (G : GoodE es) : HeadAt n i h es := by
 obtain ⟨os, rfl, he⟩ := H
 have hks := he.keys
 have hb : ∀ k ∈ (baseI n i).map (·.1), k ∈ [tK, kidsK, parK] := by rw [baseI_ks]; split <;> decide +kernel
 have hsep : ∀ k ∈ fiveK, k ∉ [tK, kidsK, parK] := by decide +kernel
 have hbl : ∀ k ∈ fiveK, (baseI n i).lookup k = none := fun k hk => lookN fun z => hsep k hk (hb k z)
 have hkt : kidsK ≠ tK := by decide +kernel
 refine ⟨?_, fun k hk => ?_, ?_, ?_, fun k hk => ?_, fun p hp => ?_⟩
 ·rw [List.map_append, List.nodup_append]
  refine ⟨by rw [baseI_ks]; split <;> decide +kernel, by rw [← hks]; exact G.nd, fun a ha b hb' e => ?_⟩
  rw [← hks, ← e] at hb'
  exact hsep a (G.keys a hb') (hb a ha)
 ·rw [List.map_append] at hk
  rcases List.mem_append.mp hk with hk | hk
  ·exact (by decide +kernel : ∀ k ∈ [tK, kidsK, parK], k ∈ headKeys) k (hb k hk)
  ·rw [← hks] at hk
   exact (by decide +kernel : ∀ k ∈ fiveK, k ∈ headKeys) k (G.keys k hk)
 ·unfold baseI
  split <;> exact lkc.trans (if_pos rfl)
 ·unfold baseI
  split
  ·exact lkc.trans ((if_neg hkt).trans (lkc.trans (if_pos rfl)))
  ·refine lkc.trans ((if_neg hkt).trans (lkc.trans ((if_neg (by decide +kernel)).trans (look_none fun z => ?_))))
   exact hsep _ (G.keys _ (hks ▸ (z : kidsK ∈ os.map (·.1)))) (.tail _ (.head _))
 ·have hl : look (baseI n i ++ os) k = look os k := by
   unfold look
   rw [List.lookup_append, hbl k hk]; rfl
  rw [hl]
  unfold look getE
  rcases enc_get (k := k) he with ⟨a, b⟩ | ⟨r, ob, a, b, c⟩
  ·rw [a, b]
   exact ⟨.inl rfl, rfl⟩
  ·rw [a, b]
   obtain ⟨h1, h2, -⟩ := enc_fine c (G.ok _ (lookS a))
   exact ⟨h1, h2⟩
 ·rcases List.mem_append.mp hp with hp | hp
  ·unfold baseI at hp
   split at hp
   ·rcases List.mem_cons.mp hp with e | hp
    ·rw [e]; exact fineA 11 rfl
    ·rw [List.mem_singleton.mp hp]
     refine .inr ⟨_, rfl, ?_, fun x hx => ?_⟩
     ·unfold kidsO
      rw [List.length_map, List.length_range]
      exact Nat.le_trans (Nat.sub_le n 1) (Nat.le_succ_of_le hn)
     ·obtain ⟨j, hj, e⟩ := List.mem_map.mp hx
      have := Nat.lt_of_lt_of_le (List.mem_range.mp hj) (Nat.sub_le_sub_right hn 1)
      rcases (by decide : ∀ n, n < 2 → n = 0 ∨ n = 1) j this with rfl | rfl
      ·exact e ▸ List.mem_of_getElem? (i := 1) rfl
      ·exact e ▸ List.mem_of_getElem? (i := 2) rfl
   ·rcases List.mem_cons.mp hp with e | hp
    ·rw [e]
     show fine (.str (bcB i))
     unfold bcB
     split
     ·exact fineA 12 rfl
     ·exact fineA 13 rfl
    ·rw [List.mem_singleton.mp hp]; exact fineA 0 rfl
  ·obtain ⟨r, hr, c⟩ := enc_mem he hp
   exact (enc_fine c (G.ok _ hr)).2.2
noncomputable abbrev Heads := List (List (Str × Ob))
theorem tabH_look {hs : Heads} : ∀ {k : Int} {i : Nat}, (tabH k hs).lookup (k + i) = (hs[i]?).map fun h => ((0 : Int), Ob.dic h) := by
 induction hs with
 | nil => exact rfl
 | cons a hs ih =>
  intro k i
  rw [tabH_c, look1]
  cases i with
  | zero => exact if_pos (Int.add_zero k)
  | succ i =>
   rw [if_neg (by omega), show k + ((i + 1 : Nat) : Int) = k + 1 + i by omega]
   exact ih
theorem tabO_out {hs : Heads} {x : Int} (h : x ≠ 50) (h2 : x < 3 ∨ 3 + (hs.length : Int) ≤ x) : (tabO hs).lookup x = none := lookN fun z => by
 have := tabO_lim z; omega
section
variable {hs : Heads} {way far : Nat} {nd : Bool}
theorem lookT_app {k : Int} {a b : Tab} : (a ++ b).lookup k = (a.lookup k).or (b.lookup k) := List.lookup_append
theorem farT_out {f : List (Str × Ob)} {x : Int} (h : x ≠ 2) (h2 : x ≠ 70) : (farT far f).lookup x = none := lookN fun z => by
 have := farT_lim z; omega
theorem wayT_lim {f : List (Str × Ob)} {x : Int} (h : x ∈ (wayT way far f).map (·.1)) : x = 1 ∨ x = 60 := by
 unfold wayT at h
 split at h
 ·cases h
 ·exact (List.mem_cons.mp h).imp_right List.mem_singleton.mp
theorem wayT_out {f : List (Str × Ob)} {x : Int} (h : x ≠ 1) (h2 : x ≠ 60) : (wayT way far f).lookup x = none := lookN fun z => by
 have := wayT_lim z; omega
theorem shT_head (hl : hs.length ≤ 40) (hi : i < hs.length) : (shT hs way far nd).lookup (3 + (i : Int)) = some (0, .dic hs[i]) := by
 have h1 : (tabO hs).lookup (3 + (i : Int)) = some (0, .dic hs[i]) := by
  rw [tabO, List.lookup_cons, show (3 + (i : Int) == 50) = false by rw [beq_eq_false_iff_ne]; omega, tabH_look, List.getElem?_eq_getElem hi]
  rfl
 unfold shT
 rw [lookT_app, lookT_app, h1]
 rfl
theorem shT_50 : (shT hs way far nd).lookup 50 = some (0, .nul) := by
 unfold shT
 rw [lookT_app, lookT_app, tabO, List.lookup_cons]
 rfl
theorem shT_90 (hl : hs.length ≤ 40) : (shT hs way far nd).lookup 90 = none := by
 unfold shT
 rw [lookT_app, lookT_app, tabO_out (by decide) (.inr (by omega)), farT_out (by decide) (by decide), wayT_out (by decide) (by decide)]
 rfl
theorem shT_2 (hf : far ≠ 0) : (shT hs way far nd).lookup 2 = some (1, .dic (formO nd)) := by
 unfold shT
 rw [lookT_app, lookT_app, tabO_out (by decide) (.inl (by decide))]
 unfold farT
 rw [if_neg hf]
 rfl
theorem shT_70 (hl : hs.length ≤ 40) (hf : far ≠ 0) : (shT hs way far nd).lookup 70 = some (0, .ref 2 1) := by
 unfold shT
 rw [lookT_app, lookT_app, tabO_out (by decide) (.inr (by omega))]
 unfold farT
 rw [if_neg hf]
 rfl
theorem shT_1 (hw : way ≠ 0) : (shT hs way far nd).lookup 1 = some (0, .dic (rootO far (formO nd))) := by
 unfold shT
 rw [lookT_app, lookT_app, tabO_out (by decide) (.inl (by decide)), farT_out (by decide) (by decide)]
 unfold wayT
 rw [if_neg hw]
 rfl
theorem shT_60 (hl : hs.length ≤ 40) (hw : way ≠ 0) : (shT hs way far nd).lookup 60 = some (2, .ref 1 0) := by
 unfold shT
 rw [lookT_app, lookT_app, tabO_out (by decide) (.inr (by omega)), farT_out (by decide) (by decide)]
 unfold wayT
 rw [if_neg hw]
 rfl
theorem fetch_ref {T : Tab} {m : Nat} {k g : Int} (h : T.lookup k = some (g, o)) : fetchO T (m + 1) (.ref k g) = fetchO T m o := by
 show (match T.lookup k with | some (g', o) => if g' = g then fetchO T m o else .nul | none => if g = -1 then fetchO T m .nul else .nul) = _
 rw [h]
 simp
theorem root_is (hl : hs.length ≤ 40) (hw : way ≤ 2) : fetchO (shT hs way far nd) 30 (look (shR way far nd) rootK) = .dic (rootO far (formO nd)) := by
 have e : look (shR way far nd) rootK = rootV way far (formO nd) := by unfold shR; rw [lkc, if_pos rfl]
 rw [e]
 unfold rootV
 rcases (by omega : way = 0 ∨ way = 1 ∨ way = 2) with rfl | rfl | rfl
 ·exact fetch_plain rfl
 ·show fetchO _ 30 (.ref 1 0) = _
  rw [fetch_ref (shT_1 (by decide))]
  exact fetch_plain rfl
 ·show fetchO _ 30 (.ref 60 2) = _
  rw [fetch_ref (shT_60 hl (by decide)), fetch_ref (shT_1 (by decide))]
  exact fetch_plain rfl
theorem look_acro {f : List (Str × Ob)} : look (rootO far f) acroK = acroV far f := by unfold rootO; rw [lkc, if_pos rfl]
theorem acro_is (hl : hs.length ≤ 40) (hf : far ≤ 2) : fetchO (shT hs way far nd) 30 (look (rootO far (formO nd)) acroK) = .dic (formO nd) := by
 rw [look_acro]
 unfold acroV
 rcases (by omega : far = 0 ∨ far = 1 ∨ far = 2) with rfl | rfl | rfl
 ·exact fetch_plain rfl
 ·show fetchO _ 30 (.ref 2 1) = _
  rw [fetch_ref (shT_2 (by decide))]
  exact fetch_plain rfl
 ·show fetchO _ 30 (.ref 70 0) = _
  rw [fetch_ref (shT_70 hl (by decide)), fetch_ref (shT_2 (by decide))]
  exact fetch_plain rfl
theorem put0 {k2 : Str} {a : Ob} (h : k ≠ k2) : putO [(k, a)] k2 o = [(k, a), (k2, o)] := putG_new fun z => h (List.mem_singleton.mp z).symm
theorem put1 {k2 : Str} {a b : Ob} (h : k2 ≠ k) : putO [(k, a), (k2, b)] k o = [(k, o), (k2, b)] := by
 refine (putG_old (.head _)).trans ?_
 show [if k = k then (k, o) else (k, a), if k2 = k then (k2, o) else (k2, b)] = _
 rw [if_pos rfl, if_neg h]
theorem put2 {k2 : Str} {a b : Ob} (h : k ≠ k2) : putO [(k, a), (k2, b)] k2 o = [(k, a), (k2, o)] := by
 refine (putG_old (.tail _ (.head _))).trans ?_
 show [if k = k2 then (k, o) else (k, a), if k2 = k2 then (k2, o) else (k2, b)] = _
 rw [if_pos rfl, if_neg h]
theorem formN_is : formN (formO nd) = formO true := by
 have h2 : fieldsK ≠ needK := by decide +kernel
 cases nd
 ·exact put0 h2
 ·exact put2 h2
theorem putI_out {T : Tab} {k g : Int} (h : k ∉ T.map (·.1)) : T.map (fun p => if p.1 = k then (p.1, (g, o)) else p) = T := by
 have : ∀ p ∈ T, (if p.1 = k then (p.1, (g, o)) else p) = p := fun p hp => by
  rw [if_neg]
  exact fun e => h (List.mem_map.mpr ⟨p, hp, e⟩)
 exact (List.map_congr_left this).trans (List.map_id'' (fun _ => rfl) T)
theorem put_in {T : Tab} {k g : Int} (h : k ∈ T.map (·.1)) : putT T k g o = T.map (fun p => if p.1 = k then (p.1, (g, o)) else p) := putG_old h
theorem tabH_put {o : List (Str × Ob)} {hs : Heads} : ∀ {k : Int} {i : Nat}, (tabH k hs).map (fun p => if p.1 = k + (i : Int) then (p.1, ((0 : Int), Ob.dic o)) else p) = tabH k (hs.set i o) := by
 induction hs with
 | nil => exact rfl
 | cons a hs ih =>
  intro k i
  rw [tabH_c, List.map_cons]
  cases i with
  | zero =>
   rw [if_pos (show (k, ((0 : Int), Ob.dic a)).1 = k + ((0 : Nat) : Int) from (Int.add_zero k).symm)]
   exact congrArg _ (putI_out fun z => by have := (tabH_keys z).1; omega)
  | succ i =>
   rw [if_neg (by omega), show k + ((i + 1 : Nat) : Int) = k + 1 + i by omega, ih]
   rfl
theorem lookI_mem {k : Int} {T : Tab} {x : Int × Ob} (h : T.lookup k = some x) : k ∈ T.map (·.1) := List.mem_map.mpr ⟨_, lookS h, rfl⟩
theorem shT_put (hl : hs.length ≤ 40) (hi : i < hs.length) {o : List (Str × Ob)} : putT (shT hs way far nd) (3 + (i : Int)) 0 (.dic o) = shT (hs.set i o) way far nd := by
 rw [put_in (lookI_mem (shT_head hl hi))]
 unfold shT
 rw [List.map_append, List.map_append, putI_out (T := farT far (formO nd)), putI_out (T := wayT way far (formO nd))]
 ·congr 2
  rw [tabO, tabO, List.map_cons, if_neg (by show ¬ (50 : Int) = _; omega), tabH_put]
 ·exact fun z => by have := wayT_lim z; omega
 ·exact fun z => by have := farT_lim z; omega
theorem need_is (hl : hs.length ≤ 40) (hw : way ≤ 2) (hf : far ≤ 2) : NeedTo (shT hs way far nd) (shR way far nd) (rootO far (formO nd)) (formO nd) (shT hs way far true) (shR way far true) := by
 have hroot : ∀ {f : List (Str × Ob)}, turnsO (rootO 0 (formO nd)) [(acroK, .dic f)] = rootO 0 f := fun {f} => show putO [(acroK, acroV 0 (formO nd)), (langK, .int 7)] acroK (.dic f) = [(acroK, .dic f), (langK, .int 7)] from put1 (by decide +kernel)
 by_cases h0 : far = 0
 ·subst h0
  by_cases h1 : way = 0
  ·subst h1
   have e1 : shT hs 0 0 true = shT hs 0 0 nd := rfl
   have e2 : shR 0 0 true = putO (shR 0 0 nd) rootK (.dic (turnsO (rootO 0 (formO nd)) [(acroK, .dic (formN (formO nd)))])) := by
    rw [hroot, formN_is]
    exact (put1 (by decide +kernel)).symm
   rw [e1, e2]
   exact .trailer (by rw [look_acro]; rfl) (by unfold shR; rw [lkc, if_pos rfl]; rfl)
  ·have e2 : shR way 0 true = shR way 0 nd := by unfold shR rootV; rw [if_neg h1, if_neg h1]
   have e1 : shT hs way 0 true = putT (shT hs way 0 nd) 1 0 (.dic (turnsO (rootO 0 (formO nd)) [(acroK, .dic (formN (formO nd)))])) := by
    rw [hroot, formN_is, put_in (lookI_mem (shT_1 h1))]
    unfold shT
    rw [List.map_append, List.map_append, putI_out (T := farT 0 (formO nd)), putI_out (T := tabO hs)]
    ·unfold wayT
     rw [if_neg h1, if_neg h1]
     rfl
    ·exact fun z => by have := tabO_lim z; omega
    ·exact fun z => by have := farT_lim z; omega
   rw [e1, e2]
   have hh : ∀ {pn pg : Int}, look (shR way 0 nd) rootK = .ref pn pg → homeT (shT hs way 0 nd) pn pg 1 0 → NeedTo (shT hs way 0 nd) (shR way 0 nd) (rootO 0 (formO nd)) (formO nd) (putT (shT hs way 0 nd) 1 0 (.dic (turnsO (rootO 0 (formO nd)) [(acroK, .dic (formN (formO nd)))]))) (shR way 0 nd) := fun a b => .root (by rw [look_acro]; rfl) a b
   rcases (by omega : way = 1 ∨ way = 2) with rfl | rfl
   ·exact hh (by unfold shR; rw [lkc, if_pos rfl]; rfl) (.inl ⟨rfl, rfl, _, shT_1 (by decide), rfl⟩)
   ·exact hh (by unfold shR; rw [lkc, if_pos rfl]; rfl) (.inr ⟨shT_60 hl (by decide), by decide, _, shT_1 (by decide), rfl⟩)
 ·have ea : ∀ f g : List (Str × Ob), acroV far f = acroV far g := fun f g => by unfold acroV; rw [if_neg h0, if_neg h0]
  have er : rootO far (formO true) = rootO far (formO nd) := by unfold rootO; rw [ea (formO true) (formO nd)]
  have e2 : shR way far true = shR way far nd := by unfold shR rootV; rw [er]
  have e1 : shT hs way far true = putT (shT hs way far nd) 2 1 (.dic (formN (formO nd))) := by
   rw [formN_is, put_in (lookI_mem (shT_2 h0))]
   unfold shT
   rw [List.map_append, List.map_append, putI_out (T := wayT way far (formO nd)), putI_out (T := tabO hs)]
   ·unfold farT wayT
    rw [if_neg h0, if_neg h0, er]
    rfl
   ·exact fun z => by have := tabO_lim z; omega
   ·exact fun z => by have := wayT_lim z; omega
  rw [e1, e2]
  have hh : ∀ {pn pg : Int}, look (rootO far (formO nd)) acroK = .ref pn pg → homeT (shT hs way far nd) pn pg 2 1 → NeedTo (shT hs way far nd) (shR way far nd) (rootO far (formO nd)) (formO nd) (putT (shT hs way far nd) 2 1 (.dic (formN (formO nd)))) (shR way far nd) := fun a b => .far a b
  rcases (by omega : far = 1 ∨ far = 2) with rfl | rfl
  ·exact hh (by rw [look_acro]; rfl) (.inl ⟨rfl, rfl, _, shT_2 (by decide), rfl⟩)
  ·exact hh (by rw [look_acro]; rfl) (.inr ⟨shT_70 hl (by decide), by decide, _, shT_2 (by decide), rfl⟩)
end
variable {hs0 : Heads}
noncomputable def ksI (n : Nat) : List Int := (List.range (n - 1)).map fun j : Nat => 4 + (j : Int)
noncomputable def hdI (hs : Heads) (k : Int) : List (Str × Ob) := hs.getD (k - 3).toNat []
noncomputable def nmI (k : Int) : Array UInt8 := bcB (k - 3).toNat
structure Hds (n : Nat) (hs : Heads) (ents : Nat → List (Str × RV)) : Prop where
 len : hs.length = n
 two : 2 ≤ n
 three : n ≤ 3
 at_ : ∀ i < n, HeadAt n i (hs.getD i []) (ents i)
 good : ∀ i < n, GoodE (ents i)
 ft : ∃ x, getE (ents 0) ftK = .txt x
theorem no_okRV (h : k ∈ fiveK) : okRV k .no := by
 rcases List.mem_cons.mp h with h | h
 ·exact .inl ⟨h, .inl rfl⟩
 rcases List.mem_cons.mp h with h | h
 ·exact .inr (.inl ⟨.inl h, .inl rfl⟩)
 rcases List.mem_cons.mp h with h | h
 ·exact .inr (.inl ⟨.inr h, .inl rfl⟩)
 rcases List.mem_cons.mp h with h | h
 ·exact .inr (.inr (.inl ⟨h, .inl rfl⟩))
 ·exact .inr (.inr (.inr ⟨List.mem_singleton.mp h, .inl rfl⟩))
theorem GoodE.get (h : GoodE es) (hk : k ∈ fiveK) : okRV k (getE es k) := by
 unfold getE
 cases e : es.lookup k with
 | none => exact no_okRV hk
 | some r => exact h.ok _ (lookS e)
theorem had_ok (h0 : GoodE e0) (h : GoodE es) (hk : k ∈ fiveK) : okRV k (hadE e0 es k) := by
 have : hadE e0 es k = getE e0 k ∨ hadE e0 es k = getE es k := by unfold hadE; cases getE es k <;> first | exact .inl rfl | exact .inr rfl
 rcases this with e | e <;> rw [e]
 ·exact h0.get hk
 ·exact h.get hk
theorem five_in : ftK ∈ fiveK ∧ vK ∈ fiveK ∧ dvK ∈ fiveK ∧ mlK ∈ fiveK ∧ opK ∈ fiveK := by decide +kernel
theorem k_ne : vK ≠ ftK ∧ dvK ≠ ftK ∧ mlK ≠ ftK ∧ opK ≠ ftK ∧ vK ≠ dvK ∧ vK ≠ mlK ∧ vK ≠ opK ∧ dvK ≠ mlK ∧ dvK ≠ opK ∧ mlK ≠ opK := by decide +kernel
theorem ok_ft (h : okRV ftK r) : r = .no ∨ r = .txt (.ofString "Tx") ∨ r = .txt (.ofString "Ch") := by
 have := k_ne
 rcases h with ⟨-, h⟩ | ⟨h | h, -⟩ | ⟨h, -⟩ | ⟨h, -⟩
 ·exact h
 ·exact absurd h.symm this.1
 ·exact absurd h.symm this.2.1
 ·exact absurd h.symm this.2.2.1
 ·exact absurd h.symm this.2.2.2.1
theorem ok_v (hk : k = vK ∨ k = dvK) (h : okRV k r) : r = .no ∨ ∃ s ∈ wordsL, r = .txt s := by
 have := k_ne
 rcases h with ⟨h, -⟩ | ⟨-, h⟩ | ⟨h, -⟩ | ⟨h, -⟩
 ·exact hk.elim (fun e => absurd (e.symm.trans h) this.1) fun e => absurd (e.symm.trans h) this.2.1
 ·exact h
 ·exact hk.elim (fun e => absurd (e.symm.trans h) this.2.2.2.2.2.1) fun e => absurd (e.symm.trans h) this.2.2.2.2.2.2.2.1
 ·exact hk.elim (fun e => absurd (e.symm.trans h) this.2.2.2.2.2.2.1) fun e => absurd (e.symm.trans h) this.2.2.2.2.2.2.2.2.1
theorem ok_ml (h : okRV mlK r) : r = .no ∨ ∃ m : Int, 1 ≤ m ∧ m ≤ 3 ∧ r = .num m := by
 have := k_ne
 rcases h with ⟨h, -⟩ | ⟨h | h, -⟩ | ⟨-, h⟩ | ⟨h, -⟩
 ·exact absurd h this.2.2.1
 ·exact absurd h.symm this.2.2.2.2.2.1
 ·exact absurd h.symm this.2.2.2.2.2.2.2.1
 ·exact h
 ·exact absurd h this.2.2.2.2.2.2.2.2.2
theorem ok_op (h : okRV opK r) : r = .no ∨ ∃ n, 1 ≤ n ∧ n ≤ 3 ∧ r = .lst (wordsL.take n) := by
 have := k_ne
 rcases h with ⟨h, -⟩ | ⟨h | h, -⟩ | ⟨h, -⟩ | ⟨-, h⟩
 ·exact absurd h this.2.2.2.1
 ·exact absurd h.symm this.2.2.2.2.2.2.1
 ·exact absurd h.symm this.2.2.2.2.2.2.2.2.1
 ·exact absurd h.symm this.2.2.2.2.2.2.2.2.2
 ·exact h
theorem text_word : ∀ s ∈ wordsL, textO (octO s) = s := by decide +kernel
theorem okB_word : ∀ s ∈ wordsL, okB (octO s) := by
 intro s hs
 have h1 : ∀ s ∈ wordsL, octO s = abgB ∨ ((∀ c ∈ (octO s).toList, 32 ≤ c.toNat ∧ c.toNat < 127) ∧ (octO s).size ≤ 60) := by decide +kernel
 exact h1 s hs
section
variable {n : Nat} {hs : Heads} {ents : Nat → List (Str × RV)} (H : Hds n hs ents)
include H
theorem Hds.ftx (hi : i < n) : hadE (ents 0) (ents i) ftK = .txt (.ofString "Tx") ∨ hadE (ents 0) (ents i) ftK = .txt (.ofString "Ch") := by
 obtain ⟨x, hx⟩ := H.ft
 rcases ok_ft (had_ok (H.good 0 (by have := H.two; omega)) (H.good i hi) five_in.1) with h | h | h
 ·exfalso
  unfold hadE at h
  cases e : getE (ents i) ftK <;> rw [e] at h <;> try cases h
  rw [hx] at h; cases h
 ·exact .inl h
 ·exact .inr h
theorem Hds.entok (hi : i < n) : EntOk (ents 0) (ents i) := by
 have g0 := H.good 0 (by have := H.two; omega)
 refine ⟨(H.ftx hi).elim (fun h => ⟨_, h⟩) fun h => ⟨_, h⟩, ?_, ?_⟩
 ·rcases ok_ml (had_ok g0 (H.good i hi) five_in.2.2.2.1) with h | ⟨m, -, -, h⟩
  ·exact .inl h
  ·exact .inr ⟨m, h⟩
 ·rcases ok_op (had_ok g0 (H.good i hi) five_in.2.2.2.2) with h | ⟨m, -, hm, h⟩
  ·exact .inl h
  ·refine .inr ⟨_, h, ?_⟩
   rw [List.length_take]; omega
theorem Hds.vs (hi : i < n) : hadE (ents 0) (ents i) vK = .no ∨ ∃ s ∈ wordsL, hadE (ents 0) (ents i) vK = .txt s := ok_v (.inl rfl) (had_ok (H.good 0 (by have := H.two; omega)) (H.good i hi) five_in.2.1)
theorem Hds.len40 : hs.length ≤ 40 := by have := H.len; have := H.three; omega
theorem mem_ks {k : Int} (hk : k ∈ ksI n) : ∃ i : Nat, k = 3 + (i : Int) ∧ 1 ≤ i ∧ i < n := by
 obtain ⟨j, hj, rfl⟩ := List.mem_map.mp hk
 have := List.mem_range.mp hj
 exact ⟨j + 1, by omega, by omega, by omega⟩
theorem hdI_at : hdI hs (3 + (i : Int)) = hs.getD i [] := by
 unfold hdI
 rw [show (3 + (i : Int) - 3).toNat = i by omega]
theorem nmI_at : nmI (3 + (i : Int)) = bcB i := by
 unfold nmI
 rw [show (3 + (i : Int) - 3).toNat = i by omega]
variable {way far : Nat} {nd : Bool} (hw : way ≤ 2) (hf : far ≤ 2)
theorem Hds.head (hi : i < n) : (shT hs way far nd).lookup (3 + (i : Int)) = some (0, .dic (hs.getD i [])) := by
 have hi' : i < hs.length := by have := H.len; omega
 rw [shT_head H.len40 hi']
 rw [List.getD_eq_getElem?_getD, List.getElem?_eq_getElem hi']
 rfl
theorem Hds.whole (hi : i < n) (hk : k ∈ fiveK) : okRef (look (wholeH (shT hs way far nd) (hs.getD 0 []) (hs.getD i [])) k) ∧ fetchO (shT hs way far nd) 30 (look (wholeH (shT hs way far nd) (hs.getD 0 []) (hs.getD i [])) k) = showO k (hadE (ents 0) (ents i) k) :=
 whole_vals (H.at_ 0 (by have := H.two; omega)) (H.at_ i hi) (shT_90 H.len40) shT_50 hk
theorem bc_ok : okB (bcB i) ∧ (textO (bcB i)).length ≤ 60 ∧ fullN (bcB i) = keyS i := by
 unfold bcB keyS
 by_cases e : i = 1
 ·rw [if_pos e, if_pos e]
  exact ⟨.inr (by decide +kernel), by decide +kernel, by decide +kernel⟩
 ·rw [if_neg e, if_neg e]
  exact ⟨.inr (by decide +kernel), by decide +kernel, by decide +kernel⟩
include hw hf
theorem Hds.form : Form (shT hs way far nd) (shR way far nd) (hs.getD 0 []) (ksI n) (hdI hs) nmI := by
 have H0 := H.at_ 0 (by have := H.two; omega)
 have h2 := H.two
 have h3 := H.three
 refine ⟨⟨_, _, root_is H.len40 hw, acro_is H.len40 hf, ?_⟩, ?_, ?_, ?_, ?_, ?_, ?_, ?_, ?_, ?_, H0.nd⟩
 ·have : look (formO nd) (.ofString "Fields") = .arr [.ref 3 0] := by unfold formO; rw [lkc, if_pos rfl]
  unfold getO
  rw [this]
  exact fetch_plain rfl
 ·simpa using H.head (way := way) (far := far) (nd := nd) (i := 0) (by omega)
 ·have : look (hs.getD 0 []) (.ofString "T") = .str #[97] := H0.t
  unfold getO
  rw [this]
  exact fetch_plain rfl
 ·have : look (hs.getD 0 []) (.ofString "Kids") = .arr (kidsO (n - 1)) := H0.kids
  unfold getO
  rw [this, fetch_plain rfl]
  unfold kidsO refsO ksI
  rw [List.map_map]
  rfl
 ·intro k hk
  obtain ⟨i, rfl, hi1, hin⟩ := mem_ks H hk
  have Hi := H.at_ i hin
  rw [hdI_at H, nmI_at H]
  refine ⟨H.head hin, ?_, ?_, ?_, (bc_ok H).1, (bc_ok H).2.1, by have := Hi.len; omega⟩
  ·have : look (hs.getD i []) (.ofString "T") = .str (bcB i) := by rw [show Str.ofString "T" = tK from rfl, Hi.t, if_neg (by omega)]
   unfold getO
   rw [this]
   exact fetch_plain rfl
  ·have : look (hs.getD i []) (.ofString "Kids") = .nul := by rw [show Str.ofString "Kids" = kidsK from rfl, Hi.kids, if_neg (by omega)]
   unfold getO
   rw [this]
   exact fetch_plain rfl
  ·have : look (hs.getD i []) (.ofString "Subtype") = .nul := Hi.no (by decide +kernel)
   unfold getO
   rw [this]
   exact fetch_plain rfl
 ·intro k hk
  obtain ⟨i, rfl, hi1, hin⟩ := mem_ks H hk
  rw [hdI_at H]
  have := (H.whole (way := way) (far := far) (nd := nd) hin five_in.1).2
  unfold getO
  show (fetchO _ 30 (look (wholeH _ _ _) ftK) = _ ∨ fetchO _ 30 (look (wholeH _ _ _) ftK) = _ ∨ fetchO _ 30 (look (wholeH _ _ _) ftK) = _)
  rw [this]
  rcases H.ftx hin with e | e <;> rw [e]
  ·exact .inl rfl
  ·exact .inr (.inl rfl)
 ·intro e
  have := congrArg List.length e
  unfold ksI at this
  rw [List.length_map, List.length_range] at this
  simp at this; omega
 ·unfold ksI; rw [List.length_map, List.length_range]; omega
 ·rcases (by omega : n = 2 ∨ n = 3) with rfl | rfl <;> decide
 ·have := H0.len; omega
end
noncomputable def kdI (e0 es : List (Str × RV)) : Str := match hadE e0 es ftK with
 | .txt x => if x = .ofString "Tx" then .ofString "text" else .ofString "choice"
 | _ => .ofString "choice"
theorem filterMap_eq {f g : α → Option β} {l : List α} (h : ∀ x ∈ l, f x = g x) : l.filterMap f = l.filterMap g := by
 induction l with
 | nil => rfl
 | cons a l ih => rw [List.filterMap_cons, List.filterMap_cons, h a (.head _), ih fun x hx => h x (.tail _ hx)]
noncomputable def bsI (e0 es : List (Str × RV)) : List (Array UInt8) := match hadE e0 es opK with
 | .lst l => l.map octO
 | _ => []
theorem okS_word : ∀ s ∈ wordsL, okS s := words_ok
theorem tx_ne : (Str.ofString "Ch") ≠ .ofString "Tx" := by decide +kernel
theorem idx_le {l : List Str} (h : s ∈ l) : l.idxOf s < l.length := List.idxOf_lt_length_iff.mpr h
section
variable {n : Nat} {hs : Heads} {ents : Nat → List (Str × RV)} (H : Hds n hs ents)
variable {way far : Nat} {nd : Bool}
include H
noncomputable abbrev wH (hs : Heads) (way far : Nat) (nd : Bool) (i : Nat) : List (Str × Ob) := wholeH (shT hs way far nd) (hs.getD 0 []) (hs.getD i [])
theorem Hds.kind (hi : i < n) : kindO (getO (shT hs way far nd) (wH hs way far nd i) "FT") = kdI (ents 0) (ents i) := by
 have := (H.whole (way := way) (far := far) (nd := nd) hi five_in.1).2
 unfold getO
 show kindO (fetchO _ 30 (look (wholeH _ _ _) ftK)) = _
 rw [this]
 unfold kdI
 rcases H.ftx hi with e | e <;> rw [e]
 ·simp [showO, kindO]
 ·simp [showO, kindO, tx_ne]
theorem Hds.isText (hi : i < n) : isText (kindO (getO (shT hs way far nd) (wH hs way far nd i) "FT")) := by
 rw [H.kind hi]
 unfold kdI Internal.isText
 rcases H.ftx hi with e | e <;> rw [e]
 ·exact .inr (if_pos rfl)
 ·exact .inl (if_neg tx_ne)
theorem Hds.hkind : ∀ k ∈ ksI n, Internal.isText (kindO (getO (shT hs way far nd) (wholeH (shT hs way far nd) (hs.getD 0 []) (hdI hs k)) "FT")) ∧ okO (fetchO (shT hs way far nd) 30 (look (wholeH (shT hs way far nd) (hs.getD 0 []) (hdI hs k)) vK)) ∧ isArr (fetchO (shT hs way far nd) 30 (look (wholeH (shT hs way far nd) (hs.getD 0 []) (hdI hs k)) vK)) = false ∧ look (wholeH (shT hs way far nd) (hs.getD 0 []) (hdI hs k)) (.ofString "Ff") = .nul := by
 intro k hk
 obtain ⟨i, rfl, hi1, hin⟩ := mem_ks H hk
 rw [hdI_at H]
 have hv := (H.whole (way := way) (far := far) (nd := nd) hin five_in.2.1).2
 refine ⟨H.isText hin, ?_, ?_, whole_ff (H.at_ 0 (by have := H.two; omega)) (H.at_ i hin) (by decide +kernel)⟩
 ·rw [hv]
  rcases H.vs hin with e | ⟨s, hs', e⟩ <;> rw [e]
  ·intro b hb; cases hb
  ·intro b hb
   simp only [showO, if_neg k_ne.1] at hb
   cases hb
   exact okB_word s hs'
 ·rw [hv]
  rcases H.vs hin with e | ⟨s, hs', e⟩ <;> rw [e]
  ·rfl
  ·simp only [showO, if_neg k_ne.1]; rfl
theorem Hds.names : ((ksI n).map fun k => fullN (nmI k)).Nodup := by
 have h2 := H.two
 have h3 := H.three
 rcases or2 h2 h3 with rfl | rfl <;> decide +kernel
theorem Hds.filt (h1 : 1 ≤ i) (hi : i < n) : (ksI n).filter (fun k => fullN (nmI k) == keyS i) = [3 + (i : Int)] := by
 have h2 := H.two
 have h3 := H.three
 rcases or2 h2 h3 with rfl | rfl
 ·obtain rfl := Nat.le_antisymm (Nat.le_of_lt_succ hi) h1
  decide +kernel
 ·rcases or12 hi (Nat.le_refl 3) h1 with rfl | rfl <;> decide +kernel
theorem Hds.data : dataO (shT hs way far nd) (hs.getD 0 []) (hdI hs) nmI (ksI n) = recD ents (n - 1) := by
 unfold dataO recD ksI
 rw [List.filterMap_map]
 refine filterMap_eq fun j hj => ?_
 have hjn := List.mem_range.mp hj
 show dat1 _ _ _ _ (4 + (j : Int)) = _
 have e4 : (4 + (j : Int)) = 3 + ((j + 1 : Nat) : Int) := by omega
 unfold dat1 recD1
 rw [e4, hdI_at H, nmI_at H, (bc_ok H).2.2, (H.whole (i := j + 1) (by omega) five_in.2.1).2]
 rcases H.vs (i := j + 1) (by omega) with e | ⟨s, hs', e⟩ <;> rw [e]
 ·rfl
 ·simp only [showO, if_neg k_ne.1]
  rw [text_word s hs']
theorem Hds.opt (hi : i < n) : fetchO (shT hs way far nd) 30 (look (wH hs way far nd i) opK) = .arr (strsO (bsI (ents 0) (ents i))) ∨ (fetchO (shT hs way far nd) 30 (look (wH hs way far nd i) opK) = .nul ∧ bsI (ents 0) (ents i) = []) := by
 have hv := (H.whole (way := way) (far := far) (nd := nd) hi five_in.2.2.2.2).2
 have g0 := H.good 0 (by have := H.two; omega)
 rcases ok_op (had_ok g0 (H.good i hi) five_in.2.2.2.2) with e | ⟨m, -, -, e⟩
 ·refine .inr ⟨by rw [hv, e]; rfl, by unfold bsI; rw [e]⟩
 ·refine .inl ?_
  rw [hv]
  unfold bsI strsO
  rw [e]
  simp only [showO, List.map_map]
  rfl
theorem Hds.bs_ok (hi : i < n) : (∀ b ∈ bsI (ents 0) (ents i), okB b) ∧ (bsI (ents 0) (ents i)).length ≤ 3 ∧ ∀ s, (s ∈ (bsI (ents 0) (ents i)).map textO ↔ ∃ l, hadE (ents 0) (ents i) opK = .lst l ∧ s ∈ l) := by
 have g0 := H.good 0 (by have := H.two; omega)
 rcases ok_op (had_ok g0 (H.good i hi) five_in.2.2.2.2) with e | ⟨m, -, hm, e⟩
 ·unfold bsI
  rw [e]
  refine ⟨fun b hb => (by cases hb), Nat.zero_le _, fun s => ⟨fun h => (by cases h), fun h => by obtain ⟨l, h, _⟩ := h; cases h⟩⟩
 ·unfold bsI
  rw [e]
  dsimp only
  refine ⟨fun b hb => ?_, by rw [List.length_map, List.length_take]; omega, fun s => ?_⟩
  ·obtain ⟨s, hs', rfl⟩ := List.mem_map.mp hb
   exact okB_word s (List.mem_of_mem_take hs')
  ·have em : ((wordsL.take m).map octO).map textO = wordsL.take m := by
    rw [List.map_map]
    exact (List.map_congr_left fun s hs' => text_word s (List.mem_of_mem_take hs')).trans (List.map_id _)
   rw [em]
   exact ⟨fun h => ⟨_, rfl, h⟩, fun h => by obtain ⟨l, h, h2⟩ := h; cases h; exact h2⟩
theorem Hds.askd (h1 : 1 ≤ i) (hi : i < n) (hs' : s ∈ wordsL) : Askd (shT hs way far nd) (fullN (nmI (3 + (i : Int)))) (kindO (getO (shT hs way far nd) (wH hs way far nd i) "FT")) (wH hs way far nd i) (bsI (ents 0) (ents i)) s := by
 obtain ⟨b1, b2, -⟩ := H.bs_ok hi
 refine ⟨H.isText hi, whole_ff (H.at_ 0 (by have := H.two; omega)) (H.at_ i hi) (by decide +kernel), H.opt hi, b1, by omega, okS_word s hs', ?_, ?_⟩
 ·exact (by decide +kernel : ∀ s ∈ wordsL, s.length ≤ 1000) s hs'
 ·rw [nmI_at H, (bc_ok H).2.2]
  unfold keyS
  split <;> decide +kernel
theorem Hds.allow (hi : i < n) : allowed (shT hs way far nd) (wH hs way far nd i) (kindO (getO (shT hs way far nd) (wH hs way far nd i) "FT")) (bsI (ents 0) (ents i)) s ↔ letB (ents 0) (ents i) s = true := by
 rw [H.kind hi]
 have hm := (H.whole (way := way) (far := far) (nd := nd) hi five_in.2.2.2.1).2
 have hml : getO (shT hs way far nd) (wH hs way far nd i) "MaxLen" = showO mlK (hadE (ents 0) (ents i) mlK) := hm
 have g0 := H.good 0 (by have := H.two; omega)
 unfold allowed letB kdI
 rw [hml]
 rcases H.ftx hi with e | e <;> rw [e]
 ·dsimp only
  rw [if_pos rfl, if_pos (by simp)]
  have hne := text_ne_choice
  rcases ok_ml (had_ok g0 (H.good i hi) five_in.2.2.2.1) with h | ⟨m, -, -, h⟩ <;> rw [h]
  ·simp only [showO, wholeO, lets]
   exact ⟨fun _ => trivial, fun _ => .inl ⟨trivial, fun m z => nomatch z⟩⟩
  ·simp only [showO, wholeO, lets]
   refine ⟨fun z => ?_, fun z => .inl ⟨trivial, fun m' z' => ?_⟩⟩
   ·rcases z with ⟨-, z⟩ | ⟨z, -⟩
    ·exact decide_eq_true (z m rfl)
    ·exact absurd z.symm hne
   ·cases z'; exact of_decide_eq_true z
 ·dsimp only
  rw [if_neg tx_ne, if_neg (by simpa using tx_ne)]
  have hne := text_ne_choice
  rw [(H.bs_ok hi).2.2 s]
  rcases ok_op (had_ok g0 (H.good i hi) five_in.2.2.2.2) with h | ⟨m, -, -, h⟩ <;> rw [h]
  ·refine ⟨fun z => ?_, fun z => nomatch z⟩
   rcases z with ⟨z, -⟩ | ⟨-, l, z, -⟩
   ·exact absurd z hne
   ·cases z
  ·refine ⟨fun z => ?_, fun z => .inr ⟨rfl, _, rfl, of_decide_eq_true z⟩⟩
   rcases z with ⟨z, -⟩ | ⟨-, l, z, z2⟩
   ·exact absurd z hne
   ·cases z; exact decide_eq_true z2
end
noncomputable def putH (hs : Heads) (i : Nat) (kind : Str) (bs : List (Array UInt8)) (s : Str) : Heads := hs.set i (turnsO (hs.getD i []) (chgO kind bs s))
noncomputable def entP (ents : Nat → List (Str × RV)) (i : Nat) (s : Str) : Nat → List (Str × RV) := fun j => if j = i then setE (ents i) vK (.txt s) else ents j
theorem getD_set {hs : Heads} {h : List (Str × Ob)} (hi : i < hs.length) : (hs.set i h).getD j [] = if j = i then h else hs.getD j [] := by
 rw [List.getD_eq_getElem?_getD, List.getD_eq_getElem?_getD, List.getElem?_set]
 by_cases e : i = j
 ·subst e; simp [hi]
 ·rw [if_neg e, if_neg fun z => e z.symm]
noncomputable def dropE (es : List (Str × RV)) (k : Str) : List (Str × RV) := es.filter fun p => decide (p.1 ≠ k)
theorem getE_cons {o : RV} {l : List (Str × RV)} : getE ((k', o) :: l) k = if k = k' then o else getE l k := by
 unfold getE
 rw [look1]
 split <;> rfl
theorem getE_drop {l : List (Str × RV)} : getE (dropE l k) k' = if k' = k then .no else getE l k' := by
 unfold getE dropE
 rw [dropL]
 split <;> rfl
theorem GoodE.drop (h : GoodE es) : GoodE (dropE es k) :=
 ⟨h.nd.sublist (List.filter_sublist.map _), fun p hp => h.ok p (List.mem_filter.mp hp).1⟩
noncomputable def entR (ents : Nat → List (Str × RV)) : Nat → List (Str × RV) := fun j => if j = 0 then dropE (ents 0) vK else setE (ents j) vK (hadE (ents 0) (ents j) dvK)
noncomputable def inhV (l acc : List (Str × Ob)) (p : Str × Ob) : List (Str × Ob) := if isNul (valO (look l p.1)) then putO acc p.1 p.2 else acc
noncomputable def wholeV (h0 h : List (Str × Ob)) : List (Str × Ob) := (handO h0).foldl (inhV h) h
theorem whole_eq {n : Nat} {h : List (Str × Ob)} (H0 : HeadAt n i h0 e0) (H : HeadAt n j h es) {T : Tab} (h90 : T.lookup 90 = none) (h50 : T.lookup 50 = some (0, .nul)) : wholeH T h0 h = wholeV h0 h := by
 have key : ∀ gs acc : List (Str × Ob), (∀ p ∈ gs, p.1 ∈ inhKeys) → gs.foldl (inh1 T h) acc = gs.foldl (inhV h) acc := by
  intro gs
  induction gs with
  | nil => intro acc _; rfl
  | cons p gs ih =>
   intro acc hp
   rw [List.foldl_cons, List.foldl_cons, ih _ fun q hq => hp q (.tail _ hq)]
   congr 1
   unfold inh1 inhV
   have hk := hp p (.head _)
   have : okRef (look h p.1) := by
    by_cases e : p.1 ∈ fiveK
    ·exact (H.vals _ e).1
    ·have : p.1 ∉ headKeys := (by decide +kernel : ∀ k ∈ inhKeys, k ∉ fiveK → k ∉ headKeys) _ hk e
     rw [H.no this]; exact .inl rfl
   rw [okRef_val this h90 h50]
 refine key (handO h0) h fun p hp => ?_
 have hm : p.1 ∈ (handO h0).map (·.1) := List.mem_map.mpr ⟨p, hp, rfl⟩
 obtain ⟨o, ho⟩ := mem_lookup hm
 rw [hand_look] at ho
 by_cases e : p.1 ∈ inhKeys
 ·exact e
 ·rw [if_neg e] at ho; cases ho
noncomputable def resI (hs : Heads) (i : Nat) : List (Str × Ob) := turnsO (hs.getD i []) [(vK, look (wholeV (hs.getD 0 []) (hs.getD i [])) dvK), (iK, .nul)]
noncomputable def resHs (hs : Heads) (n : Nat) : Heads := if n = 2 then (hs.set 0 (turnsO (hs.getD 0 []) [(vK, .nul)])).set 1 (resI hs 1) else ((hs.set 0 (turnsO (hs.getD 0 []) [(vK, .nul)])).set 1 (resI hs 1)).set 2 (resI hs 2)
theorem look_fine {n : Nat} {h : List (Str × Ob)} (H : HeadAt n i h es) : fine (look h k) ∨ look h k = .nul := by
 unfold look
 cases e : h.lookup k with
 | none => exact .inr rfl
 | some o => exact .inl (H.all _ (lookS e))
section
variable {n : Nat} {hs : Heads} {ents : Nat → List (Str × RV)} (H : Hds n hs ents)
include H
set_option tactic.hygienic true in
theorem Hds.put (h1 : 1 ≤ i) (hi : i < n) (hs' : s ∈ wordsL) (hlet : letB (ents 0) (ents i) s = true) : Hds n (putH hs i (kdI (ents 0) (ents i)) (bsI (ents 0) (ents i)) s) (entP ents i s) := by
 have hil : i < hs.length := by have := H.len; omega
 have Hi := H.at_ i hi
 have HV : HeadAt n i (turnO (hs.getD i []) (vK, .str (octO s))) (setE (ents i) vK (.txt s)) := Hi.turnV (.inl (fine_word hs')) (.inl rfl) (by simp only [showO, if_neg k_ne.1]; rfl)
 have key : HeadAt n i (turnsO (hs.getD i []) (chgO (kdI (ents 0) (ents i)) (bsI (ents 0) (ents i)) s)) (setE (ents i) vK (.txt s)) := by
  have al := (H.allow (way := 0) (far := 0) (nd := false) hi (s := s)).mpr hlet
  rw [H.kind hi] at al
  unfold chgO
  split
  ·exact HV
  ·rename_i hk
   have hsb : s ∈ (bsI (ents 0) (ents i)).map textO := al.elim (fun z => absurd z.1 hk) fun z => z.2
   have hx := idx_le hsb
   have hb3 := (H.bs_ok hi).2.1
   rw [List.length_map] at hx
   refine HV.turnI (o := .arr [.int (((bsI (ents 0) (ents i)).map textO).idxOf s : Nat)]) (.inl (.inr ⟨_, rfl, Nat.le_of_ble_eq_true rfl, fun x hx' => ?_⟩))
   rw [List.mem_singleton.mp hx']
   generalize ((bsI (ents 0) (ents i)).map textO).idxOf s = m at hx
   rcases or02 (Nat.lt_of_lt_of_le hx hb3) with e | e | e <;> rw [e]
   ·exact List.mem_of_getElem? (i := 5) rfl
   ·exact List.mem_of_getElem? (i := 6) rfl
   ·exact List.mem_of_getElem? (i := 7) rfl
 refine ⟨by unfold putH; rw [List.length_set]; exact H.len, H.two, H.three, fun j hj => ?_, fun j hj => ?_, ?_⟩
 ·unfold putH entP
  rw [getD_set hil]
  by_cases e : j = i
  ·subst e; rw [if_pos rfl, if_pos rfl]; exact key
  ·rw [if_neg e, if_neg e]; exact H.at_ j hj
 ·unfold entP
  split
  ·exact (H.good i hi).set (.inr (.inl ⟨.inl rfl, .inr ⟨s, hs', rfl⟩⟩))
  ·exact H.good j hj
 ·unfold entP
  rw [if_neg (by omega)]
  exact H.ft
theorem Hds.resOne (h1 : 1 ≤ i) (hi : i < n) : HeadAt n i (resI hs i) (entR ents i) := by
 have H0 := H.at_ 0 (by omega)
 have Hi := H.at_ i hi
 have hw := H.whole (way := 0) (far := 0) (nd := false) hi five_in.2.2.1
 rw [whole_eq H0 Hi (shT_90 H.len40) shT_50] at hw
 unfold resI entR
 rw [if_neg (by omega)]
 refine HeadAt.turnI (HeadAt.turnV Hi ?_ hw.1 ?_) (.inr rfl)
 ·have hl : look (wholeV (hs.getD 0 []) (hs.getD i [])) dvK = look (hs.getD 0 []) dvK ∨ look (wholeV (hs.getD 0 []) (hs.getD i [])) dvK = look (hs.getD i []) dvK := by
   rw [← whole_eq H0 Hi (shT_90 (way := 0) (far := 0) (nd := false) H.len40) shT_50]
   have : look (wholeH (shT hs 0 0 false) (hs.getD 0 []) (hs.getD i [])) dvK = _ := inh_look hand_keys
   rw [this]
   split
   ·refine .inl ?_
    unfold look
    rw [hand_look, if_pos (by decide +kernel)]
   ·exact .inr rfl
  rcases hl with e | e <;> rw [e]
  ·exact look_fine H0
  ·exact look_fine Hi
 ·rw [okRef_val hw.1 (shT_90 H.len40) shT_50] at hw
  rw [hw.2]
  have a1 := k_ne.1
  have a2 := k_ne.2.1
  cases hadE (ents 0) (ents i) dvK with
  | txt s => simp only [showO, if_neg a1, if_neg a2]
  | _ => rfl
theorem Hds.resTop : HeadAt n 0 (turnsO (hs.getD 0 []) [(vK, .nul)]) (entR ents 0) := by
 have H0 := H.at_ 0 (by have := H.two; omega)
 refine HeadAt.turn H0 (.inl rfl) (.inr rfl) fun k' hk' => ?_
 unfold entR
 rw [if_pos rfl, getE_drop]
 by_cases e : k' = vK
 ·rw [if_pos e, if_pos e]; exact ⟨.inl rfl, rfl⟩
 ·rw [if_neg e, if_neg e]; exact H0.vals k' hk'
theorem Hds.reset : Hds n (resHs hs n) (entR ents) := by
 have hl := H.len
 have h2 := H.two
 have h3 := H.three
 have top := H.resTop
 have one := H.resOne (i := 1) (by decide) (by omega)
 have good : ∀ i < n, GoodE (entR ents i) := fun i hi => by
  unfold entR
  split
  ·exact (H.good 0 (by omega)).drop
  ·refine (H.good i hi).set (.inr (.inl ⟨.inl rfl, ?_⟩))
   exact ok_v (.inr rfl) (had_ok (H.good 0 (by omega)) (H.good i hi) five_in.2.2.1)
 have ft : ∃ x, getE (entR ents 0) ftK = .txt x := by
  unfold entR
  rw [if_pos rfl, getE_drop, if_neg k_ne.1.symm]
  exact H.ft
 refine ⟨?_, h2, h3, fun j hj => ?_, good, ft⟩
 ·unfold resHs; split <;> simp [hl]
 ·unfold resHs
  rcases (by omega : n = 2 ∨ n = 3) with rfl | rfl
  ·rw [if_pos rfl, getD_set (by rw [List.length_set]; omega), getD_set (by omega)]
   rcases (by omega : j = 0 ∨ j = 1) with rfl | rfl
   ·exact top
   ·exact one
  ·have two := H.resOne (i := 2) (by decide) (by omega)
   rw [if_neg (by decide), getD_set (by rw [List.length_set, List.length_set]; omega), getD_set (by rw [List.length_set]; omega), getD_set (by omega)]
   rcases (by omega : j = 0 ∨ j = 1 ∨ j = 2) with rfl | rfl | rfl
   ·exact top
   ·exact one
   ·exact two
theorem Hds.resT {nd : Bool} : Internal.resT (shT hs way far nd) (hs.getD 0 []) (hdI hs) (ksI n) = shT (resHs hs n) way far nd := by
 have hl := H.len
 have h2 := H.two
 have h3 := H.three
 have H0 := H.at_ 0 (by omega)
 have cs : ∀ i, 1 ≤ i → i < n → turnsO (hdI hs (3 + (i : Int))) (resCs (shT hs way far nd) (hs.getD 0 []) (hdI hs) (3 + (i : Int))) = resI hs i := fun i h1 hi => by
  unfold resCs resI
  rw [hdI_at H, whole_eq H0 (H.at_ i hi) (shT_90 H.len40) shT_50]
 have p0 : ∀ o, putT (shT hs way far nd) 3 0 (.dic o) = shT (hs.set 0 o) way far nd := fun o => by
  have := shT_put (way := way) (far := far) (nd := nd) H.len40 (i := 0) (by omega) (o := o)
  simpa using this
 have c1 := cs 1 (by decide) (by omega)
 unfold Internal.resT resHs
 rw [p0]
 rcases (by omega : n = 2 ∨ n = 3) with rfl | rfl
 ·rw [if_pos rfl, show ksI 2 = [3 + ((1 : Nat) : Int)] from rfl, List.foldl_cons, List.foldl_nil, c1, shT_put (by rw [List.length_set]; omega) (by rw [List.length_set]; omega)]
 ·have c2 := cs 2 (by decide) (by omega)
  rw [if_neg (by decide), show ksI 3 = [3 + ((1 : Nat) : Int), 3 + ((2 : Nat) : Int)] from rfl, List.foldl_cons, List.foldl_cons, List.foldl_nil, c1, c2, shT_put (by rw [List.length_set]; omega) (by rw [List.length_set]; omega), shT_put (by rw [List.length_set, List.length_set]; omega) (by rw [List.length_set, List.length_set]; omega)]
end
theorem allC {p : α → Prop} {a : α} {l : List α} (h : p a) (t : ∀ x ∈ l, p x) : ∀ x ∈ a :: l, p x := List.forall_mem_cons.mpr ⟨h, t⟩
theorem all0 {p : α → Prop} : ∀ x ∈ ([] : List α), p x := fun _ h => absurd h List.not_mem_nil
theorem allM {p : β → Prop} {f : α → β} {l : List α} (h : ∀ x ∈ l, p (f x)) : ∀ y ∈ l.map f, p y := List.forall_mem_map.mpr h
theorem allF {p : β → Prop} {f : α → Option β} {l : List α} (h : ∀ x ∈ l, ∀ y, f x = some y → p y) : ∀ y ∈ l.filterMap f, p y := fun y hy => by
 obtain ⟨x, hx, e⟩ := List.mem_filterMap.mp hy
 exact h x hx y e
theorem atom_plain : ∀ o ∈ atoms, isArr o = false ∧ isDic o = false := by decide +kernel
theorem deep_plain (ha : isArr o = false) (hd : isDic o = false) : ∀ n, deepN n o := fun n => by
 cases o <;> first | (cases ha; done) | (cases hd; done) | (cases n <;> exact trivial)
theorem deep_fine (h : fine o) (m : Nat) : deepN (m + 1) o := by
 rcases h with h | ⟨l, rfl, hl, hx⟩
 ·exact deep_plain (atom_plain o h).1 (atom_plain o h).2 _
 ·refine ⟨by omega, fun x hx' => ?_⟩
  have := hx x hx'
  exact deep_plain (atom_plain x this).1 (atom_plain x this).2 _
theorem HeadAt.deep {h : List (Str × Ob)} (H : HeadAt n i h es) (m : Nat) : deepN (m + 2) (.dic h) :=
 ⟨by have := H.len; omega, fun p hp => deep_fine (H.all p hp) m⟩
theorem form_deep {nd : Bool} (m : Nat) : deepN (m + 3) (.dic (formO nd)) := by
 have h : deepN (m + 2) (.arr [.ref 3 0]) := ⟨Nat.le_of_ble_eq_true rfl, allC (by cases m <;> exact trivial) all0⟩
 cases nd
 ·exact ⟨Nat.le_of_ble_eq_true rfl, allC (p := fun p : Str × Ob => deepN (m + 2) p.2) h all0⟩
 ·exact ⟨Nat.le_of_ble_eq_true rfl, allC (p := fun p : Str × Ob => deepN (m + 2) p.2) h (allC trivial all0)⟩
theorem acro_deep {nd : Bool} (m : Nat) : deepN (m + 3) (acroV far (formO nd)) := by
 unfold acroV
 split
 ·exact form_deep m
 ·split <;> exact trivial
theorem root_deep {nd : Bool} (m : Nat) : deepN (m + 4) (.dic (rootO far (formO nd))) :=
 ⟨Nat.le_of_ble_eq_true rfl, allC (p := fun p : Str × Ob => deepN (m + 3) p.2) (acro_deep m) (allC trivial all0)⟩
theorem rootV_deep {nd : Bool} (m : Nat) : deepN (m + 4) (rootV way far (formO nd)) := by
 unfold rootV
 split
 ·exact root_deep m
 ·split <;> exact trivial
theorem trailer_deep {nd : Bool} (m : Nat) : deepN (m + 5) (.dic (shR way far nd)) :=
 ⟨Nat.le_of_ble_eq_true rfl, allC (p := fun p : Str × Ob => deepN (m + 4) p.2) (rootV_deep m) (allC trivial all0)⟩
theorem tabH_all {p : Int × (Int × Ob) → Prop} {hs : Heads} : ∀ {k : Int}, (∀ h ∈ hs, ∀ k, p (k, (0, .dic h))) → ∀ x ∈ tabH k hs, p x := by
 induction hs with
 | nil => exact fun _ => all0
 | cons a hs ih => exact fun h => allC (h a (.head _) _) (ih fun x hx => h x (.tail _ hx))
theorem tab_deep {hs : Heads} (H : Hds n hs ents) {nd : Bool} (m : Nat) : ∀ p ∈ shT hs way far nd, deepN (m + 4) p.2.2 := by
 intro p hp
 rcases List.mem_append.mp hp with hp | hp
 ·rcases List.mem_append.mp hp with hp | hp
  ·refine allC (p := fun p : Int × (Int × Ob) => deepN (m + 4) p.2.2) (by exact trivial) (tabH_all fun h hh k => ?_) p hp
   obtain ⟨i, hi, e⟩ := List.getElem_of_mem hh
   have := (H.at_ i (H.len ▸ hi)).deep (m + 2)
   rwa [List.getD_eq_getElem?_getD, List.getElem?_eq_getElem hi, e] at this
  ·unfold farT at hp
   split at hp
   ·cases hp
   ·exact allC (p := fun p : Int × (Int × Ob) => deepN (m + 4) p.2.2) (form_deep (m + 1)) (allC (by exact trivial) all0) p hp
 ·unfold wayT at hp
  split at hp
  ·cases hp
  ·exact allC (p := fun p : Int × (Int × Ob) => deepN (m + 4) p.2.2) (root_deep m) (allC (by exact trivial) all0) p hp
theorem dep_le {B : Nat} {l : List TD} (h : ∀ d ∈ l, d.dep ≤ B) : depAll l ≤ B := by
 induction l with
 | nil => exact Nat.zero_le _
 | cons d l ih => exact Nat.max_le.mpr ⟨h d (.head _), ih fun x hx => h x (.tail _ hx)⟩
theorem dep_tup {B : Nat} {l : List TD} (h : ∀ d ∈ l, d.dep ≤ B) : (TD.tup l).dep ≤ B + 1 := Nat.succ_le_succ (dep_le h)
theorem told_dep : ∀ (n : Nat) (o : Ob), (toldN n o).dep ≤ 2 * n + 1 := by
 intro n
 induction n with
 | zero => intro o; cases o <;> exact Nat.le_refl 1
 | succ n ih =>
  intro o
  have e : 2 * (n + 1) + 1 = 2 * n + 3 := rfl
  rw [e]
  cases o with
  | arr l => exact Nat.le_succ_of_le (dep_tup (allC (Nat.zero_le _) (allM fun x _ => ih x)))
  | dic l =>
   refine dep_tup (allC (Nat.zero_le _) (allF fun k hk d e => ?_))
   split at e
   ·cases e
   ·exact Option.some.inj e ▸ dep_tup (allC (Nat.zero_le _) (allC (ih _) all0))
  | _ => exact Nat.le_add_left 1 (2 * n + 2)
theorem toldT_dep (n : Nat) (T : Tab) : (toldT n T).dep ≤ 2 * n + 3 := by
 refine dep_tup (allM fun k hk => ?_)
 unfold rowT
 split
 ·exact dep_tup (allC (Nat.zero_le _) (allC (Nat.zero_le _) (allC (told_dep _ _) all0)))
 ·exact dep_tup all0
theorem shelf_dep {T : Tab} : depAll [toldT 6 T, toldN 6 (.dic R)] ≤ 1000 :=
 dep_le (allC (Nat.le_trans (toldT_dep _ _) (by decide)) (allC (Nat.le_trans (told_dep _ _) (by decide)) all0))
theorem piled_le {B : Nat} {ts : List Str} (h : ∀ t ∈ ts, t.length ≤ B) : piled ts ≤ ts.length * (B + 2) := by
 induction ts with
 | nil => exact Nat.zero_le _
 | cons t ts ih =>
  rw [piled_cons, List.length_cons, Nat.succ_mul, Nat.add_comm (t.length + 2)]
  exact Nat.add_le_add (ih fun x hx => h x (.tail _ hx)) (Nat.add_le_add_right (h t (.head _)) 2)
theorem tuple_len {ts : List Str} : (tupleText ts).length ≤ piled ts + 3 := by
 unfold tupleText
 rw [strLen_append, strLen_append]
 have h1 : (Str.join ", " ts).length ≤ piled ts := by
  cases ts with
  | nil => exact Nat.zero_le _
  | cons a b => have := join_length_add (a :: b) (by simp); omega
 have h2 : ("(" : Str).length = 1 := rfl
 have h3 : ((if ts.length == 1 then ",)" else ")" : String) : Str).length ≤ 2 := by split <;> decide
 omega
theorem text_len (ts : List Str) : ∀ (k : Nat) (acc : Str), (textFrom k acc ts).length ≤ acc.length + piled ts := by
 induction ts with
 | nil => exact fun k acc => Nat.le_add_right _ _
 | cons t ts ih =>
  intro k acc
  rw [textFrom, piled_cons]
  refine Nat.le_trans (ih _ _) ?_
  have h3 : ((if k > 0 then ", " else "" : String) : Str).length ≤ 2 := by split <;> decide
  rw [strLen_append, strLen_append, Nat.add_comm t.length 2, Nat.add_assoc 2, ← Nat.add_assoc _ 2, ← Nat.add_assoc _ t.length]
  exact Nat.add_le_add_right (Nat.add_le_add_right (Nat.add_le_add_left h3 _) _) _
theorem list_len {ts : List Str} : (listText ts).length ≤ piled ts + 2 := by
 unfold listText
 rw [strLen_append]
 have := text_len ts 0 "["
 have h1 : ("[" : Str).length = 1 := rfl
 have h2 : ("]" : Str).length = 1 := rfl
 omega
theorem shown_mem {B : Nat} {l : List TD} (h : ∀ d ∈ l, d.shown.length ≤ B) : ∀ t ∈ shownAll l, t.length ≤ B := by
 induction l with
 | nil => exact all0
 | cons d l ih => exact allC (h d (.head _)) (ih fun x hx => h x (.tail _ hx))
theorem shown_count {l : List TD} : (shownAll l).length = l.length := by
 induction l with
 | nil => rfl
 | cons d l ih => exact congrArg Nat.succ ih
theorem tup_shown {B m : Nat} {l : List TD} (hl : l.length ≤ m) (h : ∀ d ∈ l, d.shown.length ≤ B) : (TD.tup l).shown.length ≤ m * (B + 2) + 3 := by
 have h1 := piled_le (shown_mem h)
 rw [shown_count] at h1
 exact Nat.le_trans (tuple_len (ts := shownAll l)) (Nat.add_le_add_right (Nat.le_trans h1 (Nat.mul_le_mul_right (B + 2) hl)) 3)
theorem ok_all {l : List TD} (h : ∀ d ∈ l, d.ok = true) : okAll l = true := by
 induction l with
 | nil => rfl
 | cons d l ih => exact Bool.and_eq_true_iff.mpr ⟨h d (.head _), ih fun x hx => h x (.tail _ hx)⟩
theorem atom_told : ∀ o ∈ atoms, (toldN 0 o).ok = true ∧ (toldN 0 o).shown.length ≤ 60 := by decide +kernel
theorem atom_toldk (h : o ∈ atoms) (k : Nat) : (toldN k o).ok = true ∧ (toldN k o).shown.length ≤ 60 := by
 rw [told_plain (atom_plain o h).1 (atom_plain o h).2]
 exact atom_told o h
theorem fine_told (h : fine o) (k : Nat) : (toldN (k + 1) o).ok = true ∧ (toldN (k + 1) o).shown.length ≤ 400 := by
 rcases h with h | ⟨l, rfl, hl, hx⟩
 ·have := atom_toldk h (k + 1)
  exact ⟨this.1, Nat.le_trans this.2 (by decide)⟩
 ·have hb : ∀ d ∈ (TD.str (.ofString "array") :: l.map (toldN k)), d.ok = true ∧ d.shown.length ≤ 60 :=
   allC ⟨rfl, by decide +kernel⟩ (allM fun x hx' => atom_toldk (hx x hx') k)
  exact ⟨ok_all fun d hd => (hb d hd).1, Nat.le_trans (tup_shown (m := 5) (Nat.succ_le_succ (by rw [List.length_map]; exact hl)) fun d hd => (hb d hd).2) (by decide)⟩
set_option tactic.hygienic true in
theorem srtS_perm {ks : List Str} : (srtS ks).Perm ks := by
 unfold srtS
 split
 ·rename_i h
  exact (Classical.choose_spec h).1
 ·exact .refl _
theorem key_shown : ∀ k ∈ headKeys, (TD.str k).shown.length ≤ 60 := by decide +kernel
set_option tactic.hygienic true in
theorem HeadAt.told {h : List (Str × Ob)} (H : HeadAt n i h es) (k : Nat) : (toldN (k + 2) (.dic h)).ok = true ∧ (toldN (k + 2) (.dic h)).shown.length ≤ 10000 := by
 have e : toldN (k + 2) (.dic h) = .tup (.str (.ofString "dict") :: (srtS (h.map (·.1))).filterMap fun x => if isNul (look h x) then none else some (.tup [.str x, toldN (k + 1) (look h x)])) := rfl
 rw [e]
 have hb : ∀ d ∈ (TD.str (.ofString "dict") :: (srtS (h.map (·.1))).filterMap fun x => if isNul (look h x) then none else some (.tup [.str x, toldN (k + 1) (look h x)])), d.ok = true ∧ d.shown.length ≤ 900 := by
  refine allC ⟨rfl, by decide +kernel⟩ (allF fun x hx y e2 => ?_)
  have hxk := H.keys x (srtS_perm.mem_iff.mp hx)
  split at e2
  ·cases e2
  ·rename_i hn
   have hf := fine_told ((look_fine H (k := x)).elim id fun z => absurd (isNul_eq.mpr z) hn) k
   rw [← Option.some.inj e2]
   exact ⟨ok_all (allC rfl (allC hf.1 all0)), Nat.le_trans (tup_shown (m := 2) (B := 400) (Nat.le_refl 2) (allC (Nat.le_trans (key_shown x hxk) (by decide)) (allC hf.2 all0))) (by decide)⟩
 refine ⟨ok_all fun d hd => (hb d hd).1, ?_⟩
 refine Nat.le_trans (tup_shown (m := 10) ?_ fun d hd => (hb d hd).2) (by decide)
 refine Nat.succ_le_succ (Nat.le_trans (List.length_filterMap_le _ _) ?_)
 rw [srtS_perm.length_eq, List.length_map]
 exact H.len
theorem shT_len {hs : Heads} {nd : Bool} : (shT hs way far nd).length ≤ hs.length + 5 := by
 have h1 : ∀ (hs : Heads) (k : Int), (tabH k hs).length = hs.length := by
  intro hs
  induction hs with
  | nil => intro k; rfl
  | cons a r ih => intro k; exact congrArg Nat.succ (ih _)
 have h2 : (farT far (formO nd)).length ≤ 2 := by unfold farT; split <;> simp
 have h3 : (wayT way far (formO nd)).length ≤ 2 := by unfold wayT; split <;> simp
 unfold shT
 rw [List.length_append, List.length_append, tabO, List.length_cons, h1]
 omega
theorem shR_len {nd : Bool} : (shR way far nd).length ≤ 20 := by unfold shR; simp
theorem rootO_len {f : List (Str × Ob)} : (rootO far f).length ≤ 20 := by unfold rootO; simp
theorem formO_len {nd : Bool} : (formO nd).length ≤ 20 ∧ formO nd ≠ [] := by unfold formO; cases nd <;> simp
noncomputable def showsL (hs : Heads) (n : Nat) : List TD := (List.range n).map fun i => toldN 3 (.dic (hs.getD i []))
theorem shows_ok {hs : Heads} (H : Hds n hs ents) : okAll (showsL hs n) = true ∧ (listText (shownAll (showsL hs n))).length ≤ sizeLine ∧ depAll (showsL hs n) ≤ 7 := by
 have hb : ∀ d ∈ showsL hs n, d.ok = true ∧ d.shown.length ≤ 10000 ∧ d.dep ≤ 7 := fun d hd => by
  obtain ⟨i, hi, rfl⟩ := List.mem_map.mp hd
  have := (H.at_ i (List.mem_range.mp hi)).told 1
  exact ⟨this.1, this.2, told_dep 3 _⟩
 refine ⟨ok_all fun d hd => (hb d hd).1, ?_, dep_le fun d hd => (hb d hd).2.2⟩
 have h1 := piled_le (shown_mem fun d hd => (hb d hd).2.1)
 rw [shown_count] at h1
 have hl : (showsL hs n).length = n := by unfold showsL; rw [List.length_map, List.length_range]
 rw [hl] at h1
 have h3 := H.three
 have h4 := list_len (ts := shownAll (showsL hs n))
 have h5 := Nat.mul_le_mul_right (10000 + 2) h3
 rw [sizeLine_eq]
 omega
theorem need_look {nd : Bool} : (formO nd).lookup needK = if nd then some (.tru true) else none := by
 have h1 : (needK == fieldsK) = false := by decide +kernel
 unfold formO
 rw [List.lookup_cons, h1]
 cases nd
 ·rfl
 ·simp
theorem lang_look {f : List (Str × Ob)} : (rootO far f).lookup langK = some (.int 7) := by
 unfold rootO
 rw [List.lookup_cons, show (langK == acroK) = false from by decide +kernel, List.lookup_cons]
 simp
theorem info_look {nd : Bool} : (shR way far nd).lookup infoK = some (.int 5) := by
 unfold shR
 rw [List.lookup_cons, show (infoK == rootK) = false from by decide +kernel, List.lookup_cons]
 simp
noncomputable def updf {α : Type} (f : Nat → α) (j : Nat) (x : α) : Nat → α := fun k => if k = j then x else f k
set_option tactic.hygienic true in
theorem updf_same {f : Nat → α} : updf f j (f j) = f := by
 funext k
 unfold updf
 split
 ·rename_i e; rw [e]
 ·rfl
theorem updf_at {f : Nat → α} {x : α} : updf f j x j = x := if_pos rfl
theorem updf_ne {f : Nat → α} {k : Nat} {x : α} (h : k ≠ j) : updf f j x k = f k := if_neg h
noncomputable def sled (zf : Nat → Shf) (a b : Nat → Obj) : Nat → Led
 | 0 => []
 | n + 1 => ((zf n).t, a n) :: ((zf n).tr, b n) :: sled zf a b n
theorem sled_s {a b : Nat → Obj} : sled zf a b (n + 1) = ((zf n).t, a n) :: ((zf n).tr, b n) :: sled zf a b n := rfl
theorem sled_ext {zf' : Nat → Shf} {a b a' b' : Nat → Obj} (h : ∀ j < n, zf j = zf' j ∧ a j = a' j ∧ b j = b' j) : sled zf a b n = sled zf' a' b' n := by
 induction n with
 | zero => rfl
 | succ n ih =>
  obtain ⟨h1, h2, h3⟩ := h n (Nat.lt_succ_self n)
  rw [sled_s, sled_s, h1, h2, h3, ih fun j hj => h j (Nat.lt_succ_of_lt hj)]
theorem sled_at {a b : Nat → Obj} (h : j < n) : ∃ l1 l2, ∀ x y, sled zf (updf a j x) (updf b j y) n = l1 ++ ((zf j).t, x) :: ((zf j).tr, y) :: l2 := by
 induction n with
 | zero => exact absurd h (Nat.not_lt_zero _)
 | succ n ih =>
  by_cases e : j = n
  ·subst e
   refine ⟨[], sled zf a b j, fun x y => ?_⟩
   rw [sled_s, updf_at, updf_at, sled_ext (zf' := zf) (a' := a) (b' := b) fun k hk => ⟨rfl, updf_ne (Nat.ne_of_lt hk), updf_ne (Nat.ne_of_lt hk)⟩]
   rfl
  ·obtain ⟨l1, l2, h2⟩ := ih (Nat.lt_of_le_of_ne (Nat.le_of_lt_succ h) e)
   refine ⟨((zf n).t, a n) :: ((zf n).tr, b n) :: l1, l2, fun x y => ?_⟩
   rw [sled_s, updf_ne (Ne.symm e), updf_ne (Ne.symm e), h2]
   rfl
theorem sled_mem {a b : Nat → Obj} (h : j < n) : ((zf j).t, a j) ∈ sled zf a b n ∧ ((zf j).tr, b j) ∈ sled zf a b n := by
 induction n with
 | zero => exact absurd h (Nat.not_lt_zero _)
 | succ n ih =>
  by_cases e : j = n
  ·exact e ▸ ⟨.head _, .tail _ (.head _)⟩
  ·obtain ⟨h1, h2⟩ := ih (Nat.lt_of_le_of_ne (Nat.le_of_lt_succ h) e)
   exact ⟨.tail _ (.tail _ h1), .tail _ (.tail _ h2)⟩
noncomputable def eled (dr : Nat → Addr) (oe : Nat → Obj) : Nat → Led
 | 0 => []
 | n + 1 => (dr n, oe n) :: eled dr oe n
theorem eled_s : eled dr oe (n + 1) = (dr n, oe n) :: eled dr oe n := rfl
theorem eled_ext {dr' : Nat → Addr} {oe' : Nat → Obj} (h : ∀ j < n, dr j = dr' j ∧ oe j = oe' j) : eled dr oe n = eled dr' oe' n := by
 induction n with
 | zero => rfl
 | succ n ih =>
  obtain ⟨h1, h2⟩ := h n (Nat.lt_succ_self n)
  rw [eled_s, eled_s, h1, h2, ih fun j hj => h j (Nat.lt_succ_of_lt hj)]
theorem eled_at (h : j < n) : ∃ l1 l2, ∀ x, eled dr (updf oe j x) n = l1 ++ (dr j, x) :: l2 := by
 induction n with
 | zero => exact absurd h (Nat.not_lt_zero _)
 | succ n ih =>
  by_cases e : j = n
  ·subst e
   refine ⟨[], eled dr oe j, fun x => ?_⟩
   rw [eled_s, updf_at, eled_ext (dr' := dr) (oe' := oe) fun k hk => ⟨rfl, updf_ne (Nat.ne_of_lt hk)⟩]
   rfl
  ·obtain ⟨l1, l2, h2⟩ := ih (Nat.lt_of_le_of_ne (Nat.le_of_lt_succ h) e)
   refine ⟨(dr n, oe n) :: l1, l2, fun x => ?_⟩
   rw [eled_s, updf_ne (Ne.symm e), h2]
   rfl
theorem eled_mem {dr : Nat → Addr} {oe : Nat → Obj} {j : Nat} : ∀ {n : Nat}, j < n → (dr j, oe j) ∈ eled dr oe n
 | 0, h => absurd h (Nat.not_lt_zero _)
 | n + 1, h => by
  by_cases e : j = n
  ·subst e; exact .head _
  ·exact .tail _ (eled_mem (by omega))
section
local macro_rules (kind := «term∃_,_») | s => zE s
local macro_rules (kind := «term_∧_») | s => zC s
theorem fn_is {w : World} {f : Addr} {name : Str} {scope : Scope} {oc : Value} (ho : (Kf w.params).lookup f = some ⟨oc, od, .func (fnOf name qual params bod scope dV kV doc pm an cdv ct), osl⟩)
  {name' qual' : Str} {params' : Arguments} {bod' : List Stmt} {scope' : Scope} {dV' kV' doc' pm' cdv' ct' oc' : Value} {an' od' : Option Addr} {osl' : Array (Option Value)} (ho' : (Kf w.params).lookup f = some ⟨oc', od', .func (fnOf name' qual' params' bod' scope' dV' kV' doc' pm' an' cdv' ct'), osl'⟩) : bod = bod' ∧ scope = scope' := by
 rw [ho] at ho'
 unfold fnOf at ho'
 cases ho'
 exact ⟨rfl, rfl⟩
structure RecL (w : World) (J : Led) (Dr : Addr) (dr : Nat → Addr) (oe : Nat → Obj) (n : Nat) (ents : Nat → List (Str × RV)) : Prop where
 is : ∃ rvs nr, (Dr, listOf (List.toArray rvs) nr) ∈ J ∧ rvs.length = n ∧ ∀ i < n, rvs[i]? = some (.ref (dr i)) ∧ EntAt w J (dr i) (oe i) (ents i)
theorem RecL.mono {w : World} (h : RecL w J Dr dr oe n ents) (s : Sub J J') : RecL w J' Dr dr oe n ents :=
 by
 obtain ⟨a, b, c, d, e⟩ := h.is
 exact ⟨a, b, s _ c, d, fun i hi => ⟨(e i hi).1, (e i hi).2.mono s⟩⟩
structure LawAt (w : World) (J : Led) (zf : Nat → Shf) (a b : Nat → Obj) (Dr : Addr) (dr : Nat → Addr) (oe : Nat → Obj) (n : Nat) (ents : Nat → List (Str × RV)) (hs : Heads) (far : Nat) (nd : Bool) : Prop where
 H : Hds n hs ents
 R : RecL w J Dr dr oe n ents
 S : ∀ j < 3, ShO w J (zf j) (shT hs j far nd) (shR j far nd) (a j) (b j)
theorem LawAt.mono {w : World} {a b : Nat → Obj} {hs : Heads} {nd : Bool} (h : LawAt w J zf a b Dr dr oe n ents hs far nd) (s : Sub J J') : LawAt w J' zf a b Dr dr oe n ents hs far nd :=
 ⟨h.H, h.R.mono s, fun j hj => (h.S j hj).mono s⟩
noncomputable def lawO (zf : Nat → Shf) (a b : Nat → Obj) (dr : Nat → Addr) (oe : Nat → Obj) (n : Nat) (D : Addr) (o : Obj) (ps : Array Value) : Led := sled zf a b 3 ++ (eled dr oe n ++ (D, o) :: [(775, tabObj ps)])
noncomputable def forBody : Stmt → List Stmt
 | .For _ _ b .. => b
 | _ => []
noncomputable abbrev shsV (zf : Nat → Shf) : List Value := (List.range 3).map fun j => .ref (zf j).sh
noncomputable def nthS : Nat → List Stmt → Stmt
 | _, [] => .Pass ⟨0, 0, 0, 0⟩
 | 0, a :: _ => a
 | n + 1, _ :: r => nthS n r
theorem lam_cells {scope : Scope} {cs : Led} (hfr : (L₀.all fun p => scope.names.lookup p.1 == some .free) = true) (hcs : ∀ x v, L₀.lookup x = some v → ∃ c o, C.env.cells.lookup x = some c ∧ (c, o) ∈ cs ∧ o.data = .cell (some v)) :
  ∀ x v, L₀.lookup x = some v → scope.names.lookup x = some .free ∧ ∃ c o, (clOf C.env scope.names []).lookup x = some c ∧ (c, o) ∈ cs ∧ o.data = .cell (some v) := fun x v h => by
 have hk : scope.names.lookup x = some .free := by simpa using List.all_eq_true.mp hfr (x, v) (look_mem h)
 obtain ⟨c, o, h1, h2, h3⟩ := hcs x v h
 refine ⟨hk, c, o, ?_, h2, h3⟩
 rw [clOf_free scope.names [] (.inl (look_mem hk)), h1]
 rfl
theorem cells_kind (hs : C.env.scope = SC) (hh : Has M L₀) (hk : (L₀.all fun p => SC.names.lookup p.1 == some .cell) = true) : ∀ x v, L₀.lookup x = some v → M.lookup x = some v ∧ C.env.kindOf x = some .cell := fun x v h => by
 have : SC.names.lookup x = some .cell := by simpa using List.all_eq_true.mp hk (x, v) (look_mem h)
 exact ⟨hh x v h, by rw [kind_of hs this]⟩
theorem free_in {names SCn : List (Str × NameKind)} (h : (names.all fun p => p.2 != .free || SCn.lookup p.1 == some .cell) = true) : ∀ p ∈ names, p.2 = .free → SCn.lookup p.1 = some .cell := fun p hp hf => by
 have := List.all_eq_true.mp h p hp
 rw [hf] at this
 simpa using this
theorem hd_of {P : Params} {h : Heap} (X : (Kf P).In h) {c P' : Addr} {cls : Value} {dd : Option Addr} {vs : Array Value} (e : (Kf P).lookup c = some ⟨cls, dd, .fields vs, sl⟩) {file : Str} {flags text : Int} {inF : Bool} {tf tg tt : Tok} (h0 : cls = .type "code") (h1 : vs[11]? = some (.ref P')) (h2 : vs.getD 11 .none = .ref P') (h3 : vs.getD 18 .none = .str file tf) (h4 : vs.getD 7 .none = .int flags tg) (h5 : vs.getD 9 .none = .bool inF) (h6 : vs.getD 10 .none = .int text tt) (hne : c ≠ P') : CodeHd h c P' :=
 ⟨_, _, _, _, _, _, _, _, _, X _ _ e, h0, rfl, h1, h2, h3, h4, h5, h6, hne⟩
theorem code777 {P : Params} : ∀ h : Heap, (Kf P).In h → CodeHd h 777 775 := fun h X => by
 refine' hd_of X ?e ?h0 ?h1 ?h2 ?h3 ?h4 ?h5 ?h6 ?hne
 case e => k_is
 case hne => decide
 case h0 => rfl
 case h1 => rfl
 case h2 => rfl
 case h3 => rfl
 case h4 => rfl
 case h5 => rfl
 case h6 => rfl
theorem lawO_eq {a b : Nat → Obj} {o : Obj} : lawO zf a b dr oe n D o ps = (sled zf a b 3 ++ (eled dr oe n ++ [(D, o)])) ++ (775, tabObj ps) :: [] := by
 unfold lawO
 rw [List.append_assoc, List.append_assoc]
 rfl
theorem lawO_at {a b : Nat → Obj} {o : Obj} (hj : j < 3) : ∃ l1 l2, ∀ x y, lawO zf (updf a j x) (updf b j y) dr oe n D o ps = l1 ++ ((zf j).t, x) :: ((zf j).tr, y) :: l2 := by
 obtain ⟨l1, l2, h⟩ := sled_at (zf := zf) (a := a) (b := b) hj
 refine ⟨l1, l2 ++ (eled dr oe n ++ (D, o) :: [(775, tabObj ps)]), fun x y => ?_⟩
 unfold lawO
 rw [h, List.append_assoc]
 rfl
noncomputable def nextH (hs : Heads) (n : Nat) (ents : Nat → List (Str × RV)) (i : Nat) (s : Str) (way3 : Int) (due : Bool) : Heads := if due = true then (if way3 = 1 then resHs hs n else putH hs i (kdI (ents 0) (ents i)) (bsI (ents 0) (ents i)) s) else hs
noncomputable abbrev dueS (due : Bool) : Str := .ofString (if due then "let" else "refused")
theorem part_b {w : World} {name : Str} {scope : Scope} {oc : Value}
  (ho : (Kf w.params).lookup 778 = some ⟨oc, od, .func (fnOf name qual params bod scope dV kV doc pm an cdv ct), osl⟩)
  (hw : C.w = w) (hs : C.env.scope = scope) (hl : C.env.locals = C.L) (hdl : 100 ≤ C.dl) (hul : 5000 ≤ C.ul) (hn : C.hn = none) (hfe : C.env = C.fe) (hoc : C.oc = allOc) (hout : C.outer = []) (hcode : C.env.code = .ref 777) (hcl : ∀ x, scope.names.lookup x = some .cell → (C.env.cells.lookup x).isSome = true)
  {a b : Nat → Obj} {nd : Bool} {o : Obj} (hq : C.env.qual ++ "<lambda>" = q)
  (L : LawAt w J zf a b Dr dr oe n ents hs0 far nd) (hfar : far ≤ 2) (ht : Tri J q ps.toList) (hLs : (Ls, listOf (List.toArray (shsV zf)) c) ∈ J)
  (h1 : 1 ≤ i) (hin : i < n) (hsw : s ∈ wordsL) {due : Bool} (hdue : due = (way3 == 1 || letB (ents 0) (ents i) s)) {t1 t2 t3 t4 : Tok}
  (hM : Has M [(.ofString "is_needed", .bool nd), (.ofString "shelves", .ref Ls), (.ofString "at", .int i t1), (.ofString "value", .str s t2), (.ofString "way", .int way3 t3), (.ofString "due", .str (dueS due) t4), (.ofString "record", .ref Dr), (.ofString "dice", .ref D)]) :
  G C (exec (nthS 2 (forBody (nthS 6 bod))) C.env) M (lawO zf a b dr oe n D o ps) J noX (fun f M' o' J' => f = .next ∧ ∃ a' b' ps', o' = lawO zf a' b' dr oe n D o ps' ∧ Sub J J' ∧ Tri J' q ps'.toList ∧ (∀ j < 3, ShO w J' (zf j) (shT (nextH hs0 n ents i s way3 due) j far (nd || due)) (shR j far (nd || due)) (a' j) (b' j)) ∧ Has M' [(.ofString "is_needed", .bool nd), (.ofString "shelves", .ref Ls), (.ofString "at", .int i t1), (.ofString "value", .str s t2), (.ofString "way", .int way3 t3), (.ofString "due", .str (dueS due) t4), (.ofString "record", .ref Dr), (.ofString "dice", .ref D)]) := by
 refine' (fn_is ho ?k).elim ?g
 case k => k_is
 case g =>
 intro e1 e2
 subst e2
 rw [e1]
 dsimp only [nthS, forBody]
 refine g_weak hM ?_
 ext
 have H := L.H
 have h3l := H.three
 have hlen := H.len
 let Iv42 : Nat → Loc → Led → Led → Prop := fun j M' o' J' => ∃ a' b' ps', o' = lawO zf a' b' dr oe n D o ps' ∧ Sub J J' ∧ Tri J' q ps'.toList ∧ (∀ k < 3, ShO w J' (zf k) (shT (if k < j then nextH hs0 n ents i s way3 due else hs0) k far (if k < j then nd || due else nd)) (shR k far (if k < j then nd || due else nd)) (a' k) (b' k)) ∧ Has M' [(.ofString "is_needed", .bool nd), (.ofString "shelves", .ref Ls), (.ofString "at", .int i t1), (.ofString "value", .str s t2), (.ofString "way", .int way3 t3), (.ofString "due", .str (dueS due) t4), (.ofString "record", .ref Dr), (.ofString "dice", .ref D)]
 refine forG hfe (src_list hLs) Iv42 (by rintro _ _ _ _ ⟨_, _, _, _, q, _, _, _⟩; exact q) ⟨a, b, ps, rfl, .refl, ht, fun k hk => by rw [if_neg (Nat.not_lt_zero _), if_neg (Nat.not_lt_zero _)]; exact L.S k hk, by ext has⟩ ?turn ?done
 case done =>
  rintro M3 o3 J3 ⟨a', b', ps', rfl, sub, ht3, hS, has⟩
  refine ⟨rfl, a', b', ps', rfl, sub, ht3, fun j hj => ?_, has⟩
  have := hS j hj
  have hj' : j < (shsV zf).length := by simpa using hj
  rwa [if_pos hj', if_pos hj'] at this
 case turn =>
  intro C' j v M' o₂ J2 K hsm
  walk_at "g turn"
  rintro hlt hj hIz hK
  refine opq3 M' o₂ J2 fun Zk hZk => ?_
  obtain ⟨a', b', ps', rfl, sub2, ht2, hS2, has2⟩ := hIz
  refine hZk _ _ _ ?_
  have hj3 : j < 3 := by simpa using hlt
  obtain rfl : v = .ref (zf j).sh := by rw [List.getElem?_map, List.getElem?_range hj3] at hj; exact (Option.some.inj hj).symm
  have hout' := hsm.outer.trans hout
  have hcode' : C'.env.code = .ref 777 := (congrArg Env.code hsm.env).trans hcode
  have hq' : C'.env.qual ++ "<lambda>" = q := by rw [hsm.env]; exact hq
  have hcl' := hcl
  rw [← hsm.env] at hcl'
  have hSj := hS2 j hj3
  rw [if_neg (Nat.lt_irrefl _), if_neg (Nat.lt_irrefl _)] at hSj
  have hTl : (shT hs0 j far nd).length ≤ 60 := by have := shT_len (hs := hs0) (way := j) (far := far) (nd := nd); omega
  have hmem : ∀ ps, ((zf j).t, a' j) ∈ lawO zf a' b' dr oe n D o ps ∧ ((zf j).tr, b' j) ∈ lawO zf a' b' dr oe n D o ps := fun ps => ⟨mL (sled_mem hj3).1, mL (sled_mem hj3).2⟩
  refine g_weak has2 ?_
  walk_at "gx"
  refine g_cons (G.mono (X := noX) (Q := fun f M o' J' => f = .next ∧ ∃ x y ps2, o' = lawO zf (updf a' j x) (updf b' j y) dr oe n D o ps2 ∧ Sub J2 J' ∧ Tri J' q ps2.toList ∧ ShO w J' (zf j) (shT (nextH hs0 n ents i s way3 due) j far (nd || due)) (shR j far (nd || due)) x y ∧ ∃ t, Has M ((.ofString "went", .str (dueS due) t) :: [(.ofString "is_needed", .bool nd), (.ofString "shelves", .ref Ls), (.ofString "at", .int i t1), (.ofString "value", .str s t2), (.ofString "way", .int way3 t3), (.ofString "due", .str (dueS due) t4), (.ofString "record", .ref Dr), (.ofString "dice", .ref D)])) ?hp ?rest (fun _ _ _ h => h))
  case rest =>
   rintro f M3 o3 J3 ⟨rfl, x, y, ps2, rfl, sub3, ht3, hS3, t5, has3⟩
   refine nextq_next (g_weak has3 ?_)
   ext
   rw [bne_self_eq_false]
   ext
   refine hK _ _ _ _ (turnq_next ⟨updf a' j x, updf b' j y, ps2, rfl, Sub.trans sub2 sub3, ht3, fun k hk => ?_, by ext has⟩)
   by_cases e : k = j
   ·subst e
    rw [updf_at, updf_at, if_pos (Nat.lt_succ_self _), if_pos (Nat.lt_succ_self _)]
    exact hS3
   ·rw [updf_ne e, updf_ne e]
    have := (hS2 k hk).mono sub3
    by_cases e2 : k < j
    ·rw [if_pos e2, if_pos e2] at this
     rwa [if_pos (by omega), if_pos (by omega)]
    ·rw [if_neg e2, if_neg e2] at this
     rwa [if_neg (by omega), if_neg (by omega)]
  case hp =>
   ext
   refine ⟨fun e => ?_, fun e => ?_⟩
   ·have hw1 : way3 = 1 := by simpa using e
    have hdt : due = true := by rw [hdue, hw1]; rfl
    ext
    refine g_ledg lawO_eq (g_lambda (l1 := _) (l2 := []) hcode' hq' code777 ?hfree rfl ht2 fun ps2 J3 f c' oc' vs' t' ctv pm' sub3 ht3 hc3 hd3 hv3 hf3 => ?_)
    case hfree => exact fun p hp hf => hcl' p.1 (free_in (by decide +kernel) p hp hf)
    ext
    refine g_ledg lawO_eq.symm ?_
    obtain ⟨l1, l2, hloc⟩ := lawO_at (zf := zf) (a := a') (b := b') (dr := dr) (oe := oe) (n := n) (D := D) (o := o) (ps := ps2) hj3
    have hloc0 : lawO zf a' b' dr oe n D o ps2 = l1 ++ ((zf j).t, a' j) :: ((zf j).tr, b' j) :: l2 := by have := hloc (a' j) (b' j); rwa [updf_same, updf_same] at this
    have hS3 := hSj.mono sub3
    refine g_done hw' hout' hn' hfe' (n := 5) (hS3.shl (hmem ps2).1 (hmem ps2).2) hTl (tab_deep H 2) (trailer_deep 1) shelf_dep hf3 (L₀ := [(.ofString "shelf", .ref (zf j).sh)]) (cells_kind hs' (by ext has) rfl) (Xr := fun _ _ _ => False) (Rr := fun J' r o' J'' => ∃ x y, o' = lawO zf (updf a' j x) (updf b' j y) dr oe n D o ps2 ∧ Sub J' J'' ∧ ShO w J'' (zf j) (shT (resHs hs0 n) j far true) (shR j far true) x y) ?hask (by omega) (by omega) ?hlet ?href
    case href => exact fun J4 o4 J5 sub4 h => h.elim
    case hlet =>
     rintro J4 r t6 o4 J5 sub4 ⟨x, y, rfl, sub5, hS5⟩
     ext
     subst hdt
     subst hw1
     refine ⟨rfl, x, y, ps2, rfl, Sub.trans sub3 (Sub.trans sub4 sub5), ht3.mono (Sub.trans sub4 sub5), ?_, t6, by ext has⟩
     unfold nextH
     rw [if_pos rfl, if_pos rfl, Bool.or_true]
     exact hS5
    case hask =>
     intro J4 cs sub4 hcs
     refine run_lam (by decide) (by decide) (sub4 _ hf3) (sub4 _ hc3) hd3 hv3 rfl rfl rfl rfl (by decide) [(.ofString "shelf", .ref (zf j).sh)] (lam_cells rfl hcs) ?_
     intro C3 hw3 hs3 hdl3 hul3 hn3 hfe3
     ext
     refine g_ledg hloc0 (g_runX (reset_c (T' := shT (resHs hs0 n) j far true) (R' := shR j far true) (l := rootO far (formO nd)) (f := formO nd) (hS3.mono sub4) (H.form (by omega) hfar) (by omega) shR_len (fun k hk => (H.hkind k hk).1) rootO_len formO_len.1 formO_len.2 (fun T₁ hT₁ => ?hr)) hw3 (by assumption) (by omega) (by omega) ?_ fun _ _ x => x.elim)
     case hr =>
      rw [hT₁, H.resT]
      have hrl := H.reset.len40
      exact ⟨root_is hrl (by omega), acro_is hrl hfar, need_is hrl (by omega) hfar⟩
     rintro r5 o5 J5 ⟨x, y, rfl, sub5, hS5⟩
     exact ⟨x, y, (hloc x y).symm, sub5, hS5⟩
   ·have hw1 : way3 ≠ 1 := by simpa using e
    have hdt : due = letB (ents 0) (ents i) s := by rw [hdue, show (way3 == 1) = false by simpa using hw1]; rfl
    ext
    refine g_ledg lawO_eq (g_lambda (l1 := _) (l2 := []) hcode' hq' code777 ?hfree rfl ht2 fun ps2 J3 f c' oc' vs' t' ctv pm' sub3 ht3 hc3 hd3 hv3 hf3 => ?_)
    case hfree => exact fun p hp hf => hcl' p.1 (free_in (by decide +kernel) p hp hf)
    ext
    refine g_ledg lawO_eq.symm ?_
    obtain ⟨l1, l2, hloc⟩ := lawO_at (zf := zf) (a := a') (b := b') (dr := dr) (oe := oe) (n := n) (D := D) (o := o) (ps := ps2) hj3
    have hloc0 : lawO zf a' b' dr oe n D o ps2 = l1 ++ ((zf j).t, a' j) :: ((zf j).tr, b' j) :: l2 := by have := hloc (a' j) (b' j); rwa [updf_same, updf_same] at this
    have hS3 := hSj.mono sub3
    refine g_done hw' hout' hn' hfe' (n := 5) (hS3.shl (hmem ps2).1 (hmem ps2).2) hTl (tab_deep H 2) (trailer_deep 1) shelf_dep hf3 (L₀ := [(.ofString "shelf", .ref (zf j).sh), (.ofString "at", .int i t1), (.ofString "value", .str s t2)]) (cells_kind hs' (by ext has) rfl) (Xr := fun J' o' J'' => (∃ p, o' = p :: lawO zf a' b' dr oe n D o ps2) ∧ Sub J' J'' ∧ letB (ents 0) (ents i) s = false) (Rr := fun J' r o' J'' => ∃ x y, o' = lawO zf (updf a' j x) (updf b' j y) dr oe n D o ps2 ∧ Sub J' J'' ∧ letB (ents 0) (ents i) s = true ∧ ShO w J'' (zf j) (shT (putH hs0 i (kdI (ents 0) (ents i)) (bsI (ents 0) (ents i)) s) j far true) (shR j far true) x y) ?hask (by omega) (by omega) ?hlet ?href
    case href =>
     rintro J4 o4 J5 sub4 ⟨⟨p, rfl⟩, sub5, hno⟩
     refine ⟨p, rfl, sub5, fun t6 J6 sub6 => ?_⟩
     ext
     rw [hno] at hdt
     subst hdt
     refine ⟨rfl, a' j, b' j, ps2, by rw [updf_same, updf_same], Sub.trans sub3 (Sub.trans sub4 (Sub.trans sub5 sub6)), ht3.mono (Sub.trans sub4 (Sub.trans sub5 sub6)), ?_, t6, by ext has⟩
     unfold nextH
     rw [if_neg (by decide), Bool.or_false]
     exact hS3.mono (Sub.trans sub4 (Sub.trans sub5 sub6))
    case hlet =>
     rintro J4 r t6 o4 J5 sub4 ⟨x, y, rfl, sub5, hyes, hS5⟩
     ext
     rw [hyes] at hdt
     subst hdt
     refine ⟨rfl, x, y, ps2, rfl, Sub.trans sub3 (Sub.trans sub4 sub5), ht3.mono (Sub.trans sub4 sub5), ?_, t6, by ext has⟩
     unfold nextH
     rw [if_pos rfl, if_neg hw1, Bool.or_true]
     exact hS5
    case hask =>
     intro J4 cs sub4 hcs
     refine run_lam (by decide) (by decide) (sub4 _ hf3) (sub4 _ hc3) hd3 hv3 rfl rfl rfl rfl (by decide) [(.ofString "shelf", .ref (zf j).sh), (.ofString "at", .int i t1), (.ofString "value", .str s t2)] (lam_cells rfl hcs) ?_
     intro C3 hw3 hs3 hdl3 hul3 hn3 hfe3
     ext
     have hi2 : i = 1 ∨ i = 2 := by omega
     refine g_base (.ofString "x") default ?_
     refine g_item_str (c := 97 + i) (by rcases hi2 with h | h <;> rw [h] <;> decide) (by rcases hi2 with h | h <;> rw [h] <;> decide +kernel) fun t8 => ?_
     have hkey : (.ofString "a." : Str) ++ (⟨#[97 + i]⟩ : Str) = keyS i := by rcases hi2 with h | h <;> rw [h] <;> decide +kernel
     refine g_add_str (by rw [sizeLine_eq]; show (2 : Nat) + 1 ≤ 16777216; decide) fun t9 => ?_
     rw [hkey]
     ext
     have hal := H.allow (way := j) (far := far) (nd := nd) hin (s := s)
     have hask := H.askd (way := j) (far := far) (nd := nd) h1 hin hsw
     have hii : hdI hs0 (3 + (i : Int)) = hs0.getD i [] := hdI_at H
     unfold wH at hal hask
     rw [← hii] at hal hask
     refine g_ledg hloc0 (g_runX (putv_c (T' := shT (putH hs0 i (kdI (ents 0) (ents i)) (bsI (ents 0) (ents i)) s) j far true) (R' := shR j far true) (l := rootO far (formO nd)) (f := formO nd) (hS3.mono sub4) (H.form (by omega) hfar) (by omega) shR_len (H.filt h1 hin) hask rootO_len formO_len.1 formO_len.2 (by rw [hii]; have := (H.at_ i hin).len; omega) (fun T₁ hT₁ => ?hr)) hw3 (by assumption) (by omega) (by omega) ?_ ?_)
     case hr =>
      rw [hii, show kindO (getO (shT hs0 j far nd) (wholeH (shT hs0 j far nd) (hs0.getD 0 []) (hs0.getD i [])) "FT") = kdI (ents 0) (ents i) from H.kind hin, shT_put H.len40 (by omega)] at hT₁
      have hpl : (putH hs0 i (kdI (ents 0) (ents i)) (bsI (ents 0) (ents i)) s).length ≤ 40 := by unfold putH; rw [List.length_set]; omega
      rw [hT₁]
      exact ⟨root_is hpl (by omega), acro_is hpl hfar, need_is hpl (by omega) hfar⟩
     ·rintro r5 o5 J5 ⟨x, y, rfl, sub5, hyes, hS5⟩
      exact ⟨x, y, (hloc x y).symm, sub5, hal.mp hyes, hS5⟩
     ·rintro o5 J5 ⟨⟨p, rfl⟩, sub5, hno⟩
      refine ⟨⟨p, by rw [hloc0]⟩, sub5, ?_⟩
      cases e5 : letB (ents 0) (ents i) s
      ·rfl
      ·exact absurd (hal.mpr e5) hno
noncomputable def nextE (ents : Nat → List (Str × RV)) (i : Nat) (s : Str) (way3 : Int) (due : Bool) : Nat → List (Str × RV) := if due = true then (if way3 = 1 then entR ents else entP ents i s) else ents
noncomputable def entK (ents : Nat → List (Str × RV)) (k : Nat) : Nat → List (Str × RV) := fun j => if 1 ≤ j ∧ j ≤ k then setE (ents j) vK (hadE (ents 0) (ents j) dvK) else ents j
theorem lawO_ent {a b : Nat → Obj} {o : Obj} (hi : i < n) : ∃ l1 l2, ∀ x, lawO zf a b dr (updf oe i x) n D o ps = l1 ++ (dr i, x) :: l2 := by
 obtain ⟨l1, l2, h⟩ := eled_at (dr := dr) (oe := oe) hi
 refine ⟨sled zf a b 3 ++ l1, l2 ++ (D, o) :: [(775, tabObj ps)], fun x => ?_⟩
 unfold lawO
 rw [h]
 simp
theorem RecL.rec_ {w : World} {a b : Nat → Obj} {o : Obj} (R : RecL w J Dr dr oe n ents) : RecAt w (lawO zf a b dr oe n D o ps) J Dr n ents := by
 obtain ⟨rvs, nr, h1, h2, h3⟩ := R.is
 exact ⟨rvs, nr, h1, h2, fun i hi => ⟨_, _, (h3 i hi).1, mL (mR (mL (eled_mem hi))), (h3 i hi).2⟩⟩
theorem RecL.put {w : World} (R : RecL w J Dr dr oe n ents) {x : Obj} (E : EntAt w J (dr i) x es) : RecL w J Dr dr (updf oe i x) n (updf ents i es) := by
 obtain ⟨rvs, nr, h1, h2, h3⟩ := R.is
 refine ⟨rvs, nr, h1, h2, fun j hj => ⟨(h3 j hj).1, ?_⟩⟩
 by_cases e : j = i
 ·subst e; rw [updf_at, updf_at]; exact E
 ·rw [updf_ne e, updf_ne e]; exact (h3 j hj).2
theorem repe_drop {l : List (Str × RV)} (r : RepE J kvs l) : RepE J (without kvs k) (dropE l k) := by
 induction r with
 | nil => exact .nil
 | @cons k₀ _ _ _ _ a r ih =>
  unfold without dropE at ih ⊢
  rw [List.filter_cons, List.filter_cons]
  by_cases e : k₀ = k
  ·rw [if_neg (by simp [e]), if_neg (by simp [e])]; exact ih
  ·rw [if_pos (by simp [e]), if_pos (by simp [e])]; exact .cons a ih
theorem entK_zero : entK ents 0 = ents := by funext j; unfold entK; rw [if_neg (by omega)]
theorem entK_succ {k : Nat} : updf (entK ents k) (k + 1) (setE (entK ents k (k + 1)) vK (hadE (ents 0) (ents (k + 1)) dvK)) = entK ents (k + 1) := by
 funext j
 unfold updf entK
 by_cases e : j = k + 1
 ·subst e
  rw [if_pos rfl, if_neg (by omega), if_pos (by omega)]
 ·rw [if_neg e]
  by_cases e2 : 1 ≤ j ∧ j ≤ k
  ·rw [if_pos e2, if_pos (by omega)]
  ·rw [if_neg e2, if_neg (by omega)]
theorem entK_end {k : Nat} (hk : k + 1 = n) (hj : j < n) : updf (entK ents k) 0 (dropE (entK ents k 0) vK) j = entR ents j := by
 unfold updf entK entR
 by_cases e : j = 0
 ·subst e; rw [if_pos rfl, if_pos rfl, if_neg (by omega)]
 ·rw [if_neg e, if_neg e, if_pos (by omega)]
theorem RecL.ext {w : World} {ents' : Nat → List (Str × RV)} (R : RecL w J Dr dr oe n ents) (h : ∀ j < n, ents j = ents' j) : RecL w J Dr dr oe n ents' := by
 obtain ⟨rvs, nr, h1, h2, h3⟩ := R.is
 exact ⟨rvs, nr, h1, h2, fun j hj => ⟨(h3 j hj).1, h j hj ▸ (h3 j hj).2⟩⟩
theorem part_c {w : World} {name : Str} {scope : Scope} {oc : Value}
  (ho : (Kf w.params).lookup 778 = some ⟨oc, od, .func (fnOf name qual params bod scope dV kV doc pm an cdv ct), osl⟩)
  (hw : C.w = w) (hs : C.env.scope = scope) (hl : C.env.locals = C.L) (hdl : 100 ≤ C.dl) (hul : 5000 ≤ C.ul) (hn : C.hn = none) (hfe : C.env = C.fe) (hoc : C.oc = allOc)
  {a b : Nat → Obj} {nd : Bool} {o : Obj}
  (H : Hds n hs0 ents) (R : RecL w J Dr dr oe n ents) (h1 : 1 ≤ i) (hin : i < n) {due : Bool} {t1 t2 t3 t4 : Tok}
  (hM : Has M [(.ofString "is_needed", .bool nd), (.ofString "shelves", .ref Ls), (.ofString "at", .int i t1), (.ofString "value", .str s t2), (.ofString "way", .int way3 t3), (.ofString "due", .str (dueS due) t4), (.ofString "record", .ref Dr), (.ofString "dice", .ref D)]) :
  G C (exec (nthS 3 (forBody (nthS 6 bod))) C.env) M (lawO zf a b dr oe n D o ps) J noX (fun f M' o' J' => f = .next ∧ ∃ oe', o' = lawO zf a b dr oe' n D o ps ∧ Sub J J' ∧ RecL w J' Dr dr oe' n (nextE ents i s way3 due) ∧ Has M' [(.ofString "is_needed", .bool (nd || due)), (.ofString "shelves", .ref Ls), (.ofString "record", .ref Dr), (.ofString "dice", .ref D)]) := by
 refine' (fn_is ho ?k).elim ?g
 case k => k_is
 case g =>
 intro e1 e2
 subst e2
 rw [e1]
 dsimp only [nthS, forBody]
 have h3l := H.three
 have h2l := H.two
 obtain ⟨rvs, nr, hR, hrl, hrv⟩ := id R.is
 have hrz : rvs.length ≤ sizeLine := by rw [sizeLine_eq]; omega
 refine g_weak hM ?_
 ext
 refine ⟨fun e => ?_, fun e => ?_⟩
 ·have hdt : due = true := by
   cases due
   ·exact absurd e (by decide +kernel)
   ·rfl
  subst hdt
  clear e
  rw [Bool.or_true]
  refine g_cons ?_
  walk_at "gx"
  by_cases hw1 : way3 = 1
  ·skip
   refine g_cons (G.mono (X := noX) (Q := fun f M o' J' => f = .next ∧ ∃ oe', o' = lawO zf a b dr oe' n D o ps ∧ Sub J J' ∧ RecL w J' Dr dr oe' n (entK ents (n - 1)) ∧ Has M [(.ofString "way", .int way3 t3), (.ofString "is_needed", .bool true), (.ofString "shelves", .ref Ls), (.ofString "at", .int i t1), (.ofString "value", .str s t2), (.ofString "record", .ref Dr), (.ofString "dice", .ref D)]) ?for1 ?rest1 (fun _ _ _ h => h))
   case for1 =>
    ext
    refine ⟨fun _ => ?_, fun e => nomatch e.symm.trans (show (way3 == 1) = true by simpa using hw1)⟩
    have hRm : (Dr, listOf (List.toArray rvs) nr) ∈ lawO zf a b dr oe n D o ps ++ J := mR hR
    ext
    rename_i tk1 tk2 r0 tk3
    have hsm1 : Builtin.Range.small 1 (rvs.length : Int) 1 = true := by rcases (by omega : rvs.length = 2 ∨ rvs.length = 3) with h | h <;> rw [h] <;> decide
    have hsz1 : Builtin.Range.rangeSize 1 (rvs.length : Int) 1 = ((n - 1 : Nat) : Int) := by rcases (by omega : n = 2 ∨ n = 3) with h | h <;> rw [hrl, h] <;> decide
    refine let Iv72 : Nat → Loc → Led → Led → Prop := fun k M' o' J' => ∃ oe', o' = lawO zf a b dr oe' n D o ps ∧ Sub (_ :: J) J' ∧ RecL w J' Dr dr oe' n (entK ents k) ∧ Has M' [(.ofString "way", .int way3 t3), (.ofString "is_needed", .bool true), (.ofString "shelves", .ref Ls), (.ofString "at", .int i t1), (.ofString "value", .str s t2), (.ofString "record", .ref Dr), (.ofString "dice", .ref D)];
     forG hfe (src_range hn (.head _) hsm1 hsz1) Iv72 noB ⟨oe, rfl, .refl, by rw [entK_zero]; exact R.mono (Sub.cons .refl), by ext has⟩ ?_ ?_
    ·intro C' k v0 M' o₂ J2 K hsm
     walk_at "g turn"
     rintro hk ⟨t', rfl⟩ hIz hK
     refine opq3 M' o₂ J2 fun Zk hZk => ?_
     obtain ⟨oe', rfl, sub2, R2, has2⟩ := hIz
     refine hZk _ _ _ ?_
     have hk1 : k + 1 < n := by omega
     have sJ2 : Sub J J2 := Sub.trans (Sub.cons .refl) sub2
     obtain ⟨rvs2, nr2, hR2, hrl2, hrv2⟩ := id R2.is
     obtain ⟨hr1, hE1⟩ := hrv2 (k + 1) hk1
     obtain ⟨ekvs, hed, her⟩ := hE1.is
     have hel := her.len
     have heq : entK ents k (k + 1) = ents (k + 1) := by unfold entK; rw [if_neg (by omega)]
     have he0 : entK ents k 0 = ents 0 := by unfold entK; rw [if_neg (by omega)]
     have hgl := (H.good (k + 1) hk1).len
     rw [← heq] at hgl
     obtain ⟨l1, l2, hloc⟩ := lawO_ent (zf := zf) (a := a) (b := b) (dr := dr) (oe := oe') (D := D) (o := o) (ps := ps) hk1
     have hloc0 : lawO zf a b dr oe' n D o ps = l1 ++ (dr (k + 1), oe' (k + 1)) :: l2 := by have := hloc (oe' (k + 1)); rwa [updf_same] at this
     refine g_weak has2 ?_
     ext
     refine ⟨fun _ => ?_, fun e => nomatch e.symm.trans (show (way3 == 1) = true by simpa using hw1)⟩
     ext
     refine g_runP (R2.rec_.had (fun _ h => h) .refl (i := k + 1) (by omega) (by omega) hk1 (by omega)) hw' hn' (by omega) (by omega) fun r3 J3 sub3 V3 => ?_
     ext
     refine g_base (.ofString "x") default ?_
     refine g_item_list (mR (sub3 _ hR2)) (by omega) (by omega) (x := .ref (dr (k + 1))) (by rw [show (1 + (k : Int)).toNat = k + 1 by omega]; exact hr1) ?_
     walk_at "gns"
     refine g_ledg hloc0 (g_setitem hw' l1 (knd := PySem.strKind prog w) hed (strKind_is _ _ _ _) (by rw [sizeLine_eq]; omega) fun ob hob => ?_)
     have hRp := (R2.mono sub3).put (ent_put (d := dr (k + 1)) (k := vK) hob (RepE.mono sub3 her) hE1.low V3)
     rw [he0, heq] at hRp
     have hRq : RecL w J3 Dr dr (updf oe' (k + 1) ob) n (entK ents (k + 1)) := by rw [← entK_succ, heq]; exact hRp
     ext
     refine hK _ _ _ _ (turnq_next ⟨updf oe' (k + 1) ob, (hloc ob).symm, Sub.trans sub2 sub3, hRq, by ext has⟩)
    ·rintro M' o₂ J2 ⟨oe', rfl, sub2, R2, has2⟩
     exact ⟨rfl, oe', rfl, Sub.trans (Sub.cons .refl) sub2, R2, has2⟩
   case rest1 =>
    rintro f M3 o3 J3 ⟨rfl, oe', rfl, sub3, R3, has3⟩
    refine nextq_next (g_weak has3 ?_)
    ext
    refine ⟨fun _ => ?_, fun e => nomatch e.symm.trans (show (way3 == 1) = true by simpa using hw1)⟩
    obtain ⟨rvs2, nr2, hR2, hrl2, hrv2⟩ := id R3.is
    obtain ⟨hr1, hE1⟩ := hrv2 0 (by omega)
    obtain ⟨ekvs, hed, her⟩ := hE1.is
    have hel := her.len
    obtain ⟨l1, l2, hloc⟩ := lawO_ent (zf := zf) (a := a) (b := b) (dr := dr) (oe := oe') (D := D) (o := o) (ps := ps) (show 0 < n by omega)
    have hloc0 : lawO zf a b dr oe' n D o ps = l1 ++ (dr 0, oe' 0) :: l2 := by have := hloc (oe' 0); rwa [updf_same] at this
    ext
    refine g_base (.ofString "x") default ?_
    refine g_item_list (mR hR2) (by decide) (by decide) (x := .ref (dr 0)) hr1 ?_
    have hdm : (dr 0, oe' 0) ∈ lawO zf a b dr oe' n D o ps ++ J3 := by rw [hloc0]; simp
    refine g_mpop (knd := PySem.strKind prog w) hw hdm hed ?_
    ext
    have fin : ∀ x, EntAt w J3 (dr 0) x (dropE (entK ents (n - 1) 0) vK) → RecL w J3 Dr dr (updf oe' 0 x) n (nextE ents i s way3 true) := fun x E => by
     unfold nextE
     rw [if_pos rfl, if_pos hw1]
     exact (R3.put E).ext fun j hj => entK_end (by omega) hj
    have hz0 : ekvs.length ≤ sizeLine := by
     have he0 : entK ents (n - 1) 0 = ents 0 := by unfold entK; rw [if_neg (by omega)]
     rw [he0] at hel
     have := (H.good 0 (by omega)).len
     rw [sizeLine_eq]; omega
    rcases repe_val (n := vK) (w := w) her with ⟨v, e1, V⟩ | ⟨e1, -⟩
    ·refine g_ledg hloc0 (g_pop (knd := PySem.strKind prog w) hw l1 hed (strKind_is _ _ _ _) rfl (PySem.F.args_dict_pop_3 _ _ _) hz0 e1 (fun o₃ ho₃ => ?_))
     ext
     exact ⟨rfl, updf oe' 0 o₃, (hloc o₃).symm, sub3, fin o₃ ⟨⟨_, ho₃, repe_drop her⟩, hE1.low⟩, by ext has⟩
    ·refine g_popn (knd := PySem.strKind prog w) hw hdm hed hE1.low (strKind_is _ _ _ _) rfl (PySem.F.args_dict_pop_3 _ _ _) e1 ?_
     ext
     have hsame : without ekvs vK = ekvs := by
      refine without_of_not_mem ekvs vK fun hm => ?_
      obtain ⟨j, hj, ej⟩ := List.getElem_of_mem hm
      have hnd : (ekvs.map (·.1)).Nodup := by obtain ⟨_, _, _, _, _, _, nd'⟩ := hed; exact nd'
      have hjl : j < ekvs.length := by simpa using hj
      rw [List.getElem_map] at ej
      have := PySem.valueAt_of_get hnd (i := j) (k := vK) (v := ekvs[j].2) (by rw [List.getElem?_eq_getElem hjl, ← ej])
      rw [e1] at this; cases this
     exact ⟨rfl, updf oe' 0 (oe' 0), by rw [updf_same], sub3, fin (oe' 0) ⟨⟨ekvs, hed, hsame ▸ repe_drop her⟩, hE1.low⟩, by ext has⟩
  ·have hnt : way3 = 1 → False := hw1
   refine g_cons (G.mono (X := noX) (Q := fun f M o' J' => f = .next ∧ ∃ oe', o' = lawO zf a b dr oe' n D o ps ∧ Sub J J' ∧ RecL w J' Dr dr oe' n (entP ents i s) ∧ Has M [(.ofString "way", .int way3 t3), (.ofString "is_needed", .bool true), (.ofString "shelves", .ref Ls), (.ofString "at", .int i t1), (.ofString "value", .str s t2), (.ofString "record", .ref Dr), (.ofString "dice", .ref D)]) ?for2 ?rest2 (fun _ _ _ h => h))
   case for2 =>
    ext
    refine ⟨fun e => (hnt (by simpa using e)).elim, fun _ => g_iced ?_⟩
    ext
    rename_i Da
    refine ⟨_, _, rfl, ?_⟩
    let Iv43 : Nat → Loc → Led → Led → Prop := fun k M' o' J' => ∃ oe', o' = lawO zf a b dr oe' n D o ps ∧ Sub J J' ∧ RecL w J' Dr dr oe' n (if k = 0 then ents else entP ents i s) ∧ Has M' [(.ofString "way", .int way3 t3), (.ofString "is_needed", .bool true), (.ofString "shelves", .ref Ls), (.ofString "at", .int i t1), (.ofString "value", .str s t2), (.ofString "record", .ref Dr), (.ofString "dice", .ref D)] ∧ (Da, listOf (List.toArray [.int i t1]) 0) ∈ J'
    refine forG hfe (src_list (.head _)) Iv43 (by rintro _ _ _ _ ⟨_, _, q, _, _, m⟩ p hp; rcases List.mem_cons.mp hp with rfl | hp; exact m; exact q p hp) ⟨oe, rfl, Sub.cons .refl, by rw [if_pos rfl]; exact R.mono (Sub.cons .refl), by ext has, .head _⟩ ?_ ?_
    ·intro C' k v M' o₂ J2 K hsm
     walk_at "g turn"
     rintro hk hv hIz hK
     refine opq3 M' o₂ J2 fun Zk hZk => ?_
     obtain ⟨oe', rfl, sub2, R2, has2, hm2⟩ := hIz
     refine hZk _ _ _ ?_
     obtain rfl : k = 0 := by simpa using hk
     obtain rfl : v = .int i t1 := (Option.some.inj hv).symm
     rw [if_pos rfl] at R2
     obtain ⟨rvs2, nr2, hR2, hrl2, hrv2⟩ := id R2.is
     obtain ⟨hr1, hE1⟩ := hrv2 i hin
     obtain ⟨ekvs, hed, her⟩ := hE1.is
     have hel := her.len
     have hgl := (H.good i hin).len
     obtain ⟨l1, l2, hloc⟩ := lawO_ent (zf := zf) (a := a) (b := b) (dr := dr) (oe := oe') (D := D) (o := o) (ps := ps) hin
     have hloc0 : lawO zf a b dr oe' n D o ps = l1 ++ (dr i, oe' i) :: l2 := by have := hloc (oe' i); rwa [updf_same] at this
     refine g_weak has2 ?_
     ext
     refine ⟨fun e => (hnt (by simpa using e)).elim, fun _ => ?_⟩
     ext
     refine g_base (.ofString "x") default ?_
     refine g_item_list (mR hR2) (by omega) (by omega) (x := .ref (dr i)) (by simpa using hr1) ?_
     walk_at "gns"
     refine g_ledg hloc0 (g_setitem hw' l1 (knd := PySem.strKind prog w) hed (strKind_is _ _ _ _) (by rw [sizeLine_eq]; omega) fun ob hob => ?_)
     have hRp := R2.put (ent_put (d := dr i) (k := vK) hob her hE1.low (.txt s t2))
     ext
     refine hK _ _ _ _ (turnq_next ⟨updf oe' i ob, (hloc ob).symm, sub2, ?_, by ext has, hm2⟩)
     rw [if_neg (by decide)]
     exact hRp
    ·rintro M' o₂ J2 ⟨oe', rfl, sub2, R2, has2, -⟩
     exact ⟨rfl, oe', rfl, sub2, R2, has2⟩
   case rest2 =>
    rintro f M3 o3 J3 ⟨rfl, oe', rfl, sub3, R3, has3⟩
    refine nextq_next (g_weak has3 ?_)
    ext
    refine ⟨fun e => (hnt (by simpa using e)).elim, fun _ => ?_⟩
    ext
    exact ⟨rfl, oe', rfl, sub3, by unfold nextE; rw [if_pos rfl, if_neg hw1]; exact R3, by ext has⟩
 ·have hdt : due = false := by
   cases due
   ·rfl
   ·exact absurd e (by decide +kernel)
  subst hdt
  ext
  exact ⟨rfl, oe, rfl, .refl, by unfold nextE; rw [if_neg (by decide)]; exact R, by rw [Bool.or_false]; ext has⟩
theorem part_d {w : World} {name : Str} {scope : Scope} {oc : Value}
  (ho : (Kf w.params).lookup 778 = some ⟨oc, od, .func (fnOf name qual params bod scope dV kV doc pm an cdv ct), osl⟩)
  (hw : C.w = w) (hs : C.env.scope = scope) (hl : C.env.locals = C.L) (hdl : 100 ≤ C.dl) (hul : 5000 ≤ C.ul) (hn : C.hn = none) (hfe : C.env = C.fe) (hoc : C.oc = allOc)
  {a b : Nat → Obj} {nd : Bool} {o : Obj}
  (L : LawAt w J zf a b Dr dr oe n ents hs0 far nd) (hfar : far ≤ 2) (hLs : (Ls, listOf (List.toArray (shsV zf)) c) ∈ J)
  (hM : Has M [(.ofString "is_needed", .bool nd), (.ofString "shelves", .ref Ls), (.ofString "record", .ref Dr), (.ofString "dice", .ref D)]) :
  G C (exec (nthS 4 (forBody (nthS 6 bod))) C.env) M (lawO zf a b dr oe n D o ps) J noX (fun f M' o' J' => f = .next ∧ o' = lawO zf a b dr oe n D o ps ∧ Sub J J' ∧ Has M' [(.ofString "is_needed", .bool nd), (.ofString "shelves", .ref Ls), (.ofString "record", .ref Dr), (.ofString "dice", .ref D)]) := by
 refine' (fn_is ho ?k).elim ?g
 case k => k_is
 case g =>
 intro e1 e2
 subst e2
 rw [e1]
 dsimp only [nthS, forBody]
 have H := L.H
 have h2l := H.two
 have h3l := H.three
 have hlen := H.len40
 have hsl : (shsV zf).length ≤ sizeLine := by rw [sizeLine_eq]; simp
 refine g_weak hM ?_
 ext
 refine g_comp [(.ofString "record", .ref Dr), (.ofString "is_needed", .bool nd)] ?sc ?_
 case sc => ext scF
 ext
 let Iv44 : Nat → List Value → Led → Led → Prop := fun i ys o' J' => o' = lawO zf a b dr oe n D o ps ∧ Sub J J' ∧ ys = []
 refine ⟨?sc, compG (src_list hLs) ?sc hsl Iv44 (by rintro _ _ _ _ ⟨_, q, _⟩; exact q) ⟨rfl, .refl, rfl⟩ (fun _ _ => rfl) ?_ ?_⟩
 case sc => ext scF
 ·intro C' j v ys o₂ J2 D2 k K KS hic hlt0 hj
  rintro ⟨rfl, sub2, rfl⟩ hK hKS
  ext comp
  have hj3 : j < 3 := by
   have := (List.getElem?_eq_some_iff.mp hj).1
   simpa using this
  obtain rfl : v = .ref (zf j).sh := by rw [List.getElem?_map, List.getElem?_range hj3] at hj; exact (Option.some.inj hj).symm
  have hm : ((zf j).t, a j) ∈ (D2, listOf (List.toArray []) k) :: lawO zf a b dr oe n D o ps ∧ ((zf j).tr, b j) ∈ (D2, listOf (List.toArray []) k) :: lawO zf a b dr oe n D o ps := ⟨.tail _ (mL (sled_mem hj3).1), .tail _ (mL (sled_mem hj3).2)⟩
  have Sj := ((L.S j hj3).mono sub2).shl hm.1 hm.2
  have Rj : RecAt w ((D2, listOf (List.toArray []) k) :: lawO zf a b dr oe n D o ps) J2 Dr n ents := by
   obtain ⟨rvs, nr, r1, r2, r3⟩ := (RecL.rec_ (zf := zf) (a := a) (b := b) (D := D) (o := o) (ps := ps) (L.R.mono sub2)).is
   exact ⟨rvs, nr, r1, r2, fun i hi => by obtain ⟨d, oe', x1, x2, x3⟩ := r3 i hi; exact ⟨d, oe', x1, .tail _ x2, x3⟩⟩
  ext
  refine g_runP (right_c Sj (H.form (by omega) hfar) H.names (fun k hk => by obtain ⟨a, b, c, d⟩ := H.hkind k hk; exact ⟨a, b, c, d⟩) Rj h2l h3l (fun i hi => (H.vs hi).imp id fun z => z.imp fun _ y => y.2) H.data (root_is hlen (by omega)) (acro_is hlen hfar) need_look lang_look info_look) hw' hn' (by omega) (by omega) fun r J3 sub3 V3 => ?_
  subst V3
  ext
  exact hKS _ _ _ (by ext has) ⟨rfl, Sub.trans sub2 sub3, rfl⟩
 ·rintro ys o₂ J2 D2 k ⟨rfl, sub2, rfl⟩ hle
  refine compEnd0 ?_
  refine g_freeze [] ?_
  ext
  refine g_freeze [] ?_
  refine g_ne_ints (mR (.tail _ (.head _))) (mR (.head _)) .nil .nil (by omega) ?_
  ext
  exact ⟨rfl, rfl, by ext sub, by ext has⟩
theorem g_len_dict {own : Led} {Q : QV} {w : World} (hw : C.w = w) {K : Type} [DecidableEq K] {knd : KeyKind prog w K} {o : Obj} {kvs : List (K × Value)} (hp : (d, o) ∈ own ++ J) (hd : o.IsDictOf knd kvs) (lo : (d == sysModules) = false) (hz : kvs.length ≤ 16777216) (h : ∀ t, Q (.int kvs.length t) M own J) : G C (call (.builtin "len") [.ref d]) M own J X Q := .mk fun ok s m loc S => by
 subst hw
 exact kda_len S.news (mR (mR hp)) hd lo hz (Post.mk' S (h _))
theorem compScG {scope : Scope} (ks : List Str) (hk : scope.kind = .function) (nd : (scope.names.map (·.1)).Nodup) (free : ∀ x ∈ ks, C.env.kindOf x = some .cell)
  (nf : scope.names.all (fun p => !(p.2 == .free) || ks.contains p.1) = true) (hks : ks.all (fun x => scope.names.lookup x == some .free) = true) (hL : L₀.map (·.1) = ks) (has : Has M L₀) : CompSc C scope M L₀ :=
 ⟨hk, nd, fun p hp e => by
  have := List.all_eq_true.mp nf p hp
  rw [e] at this
  simp at this
  exact ⟨free _ this, look_map (by rw [hL]; exact this)⟩, has, fun x v e => by
  have := List.all_eq_true.mp hks x (hL ▸ map_look e)
  simpa using this⟩
theorem part_e {w : World} {name : Str} {scope : Scope} {oc : Value}
  (ho : (Kf w.params).lookup 778 = some ⟨oc, od, .func (fnOf name qual params bod scope dV kV doc pm an cdv ct), osl⟩)
  (hw : C.w = w) (hs : C.env.scope = scope) (hl : C.env.locals = C.L) (hdl : 100 ≤ C.dl) (hul : 5000 ≤ C.ul) (hn : C.hn = none) (hfe : C.env = C.fe) (hoc : C.oc = allOc)
  {a b : Nat → Obj} {nd : Bool} {o : Obj}
  (L : LawAt w J zf a b Dr dr oe n ents hs0 far nd) (hfar : far ≤ 2) (hLs : (Ls, listOf (List.toArray (shsV zf)) c) ∈ J)
  (hM : Has M [(.ofString "is_needed", .bool nd), (.ofString "shelves", .ref Ls), (.ofString "record", .ref Dr), (.ofString "dice", .ref D)]) :
  G C (exec (nthS 5 (forBody (nthS 6 bod))) C.env) M (lawO zf a b dr oe n D o ps) J noX (fun f M' o' J' => f = .next ∧ o' = lawO zf a b dr oe n D o ps ∧ Sub J J' ∧ Has M' [(.ofString "is_needed", .bool nd), (.ofString "shelves", .ref Ls), (.ofString "record", .ref Dr), (.ofString "dice", .ref D)]) := by
 refine' (fn_is ho ?k).elim ?g
 case k => k_is
 case g =>
 intro e1 e2
 subst e2
 rw [e1]
 dsimp only [nthS, forBody]
 have H := L.H
 have h2l := H.two
 have h3l := H.three
 have hlen := H.len40
 have hsl : (shsV zf).length ≤ sizeLine := by rw [sizeLine_eq]; simp
 refine g_weak hM ?_
 ext
 refine g_dcomp [(.ofString "record", .ref Dr)] ?sc ?_
 case sc => ext scF
 ext
 refine ⟨?sc, compGD (knd := PySem.strKind prog w) hw (src_list hLs) ?sc hsl (fun j kvs o' J' => o' = lawO zf a b dr oe n D o ps ∧ Sub J J' ∧ kvs.map (·.1) = if j = 0 then [] else [listText (shownAll (showsL hs0 n))]) (by rintro _ _ _ _ ⟨_, q, _⟩; exact q) ⟨rfl, .refl, rfl⟩ (fun _ _ => rfl) ?_ ?_⟩
 case sc => ext scF
 ·intro C' j v kvs o₂ J2 D2 oD K KS hic hlt0 hj
  rintro ⟨rfl, sub2, hkv⟩ hoD hK hKS
  ext comp
  have hj3 : j < 3 := by
   have := (List.getElem?_eq_some_iff.mp hj).1
   simpa using this
  obtain rfl : v = .ref (zf j).sh := by rw [List.getElem?_map, List.getElem?_range hj3] at hj; exact (Option.some.inj hj).symm
  obtain ⟨rvs, nr, hR, hrl, hrv⟩ := (L.R.mono sub2).is
  have hRm : (Dr, listOf (List.toArray rvs) nr) ∈ (D2, oD) :: lawO zf a b dr oe n D o ps ++ J2 := mR hR
  have hrz : rvs.length ≤ sizeLine := by rw [sizeLine_eq]; omega
  ext
  refine g_storeC (by ext kind) (by rw [hoc']; rfl) ?_
  ext
  have hkS : ∀ x ∈ [Str.ofString "shelf"], C'.env.kindOf x = some .cell := fun x hx => by rw [List.mem_singleton.mp hx]; ext kind
  refine g_comp [(.ofString "shelf", .ref (zf j).sh)] ?sc ?_
  case sc => exact compScG [.ofString "shelf"] rfl (by decide +kernel) hkS (by decide +kernel) (by decide +kernel) rfl (by ext has)
  ext
  have hsm1 : Builtin.Range.small 0 (rvs.length : Int) 1 = true := by rcases (by omega : rvs.length = 2 ∨ rvs.length = 3) with h | h <;> rw [h] <;> decide
  have hsz1 : Builtin.Range.rangeSize 0 (rvs.length : Int) 1 = (n : Int) := by rcases (by omega : n = 2 ∨ n = 3) with h | h <;> rw [hrl, h] <;> decide
  have hmT : ((zf j).t, a j) ∈ (D2, oD) :: lawO zf a b dr oe n D o ps := .tail _ (mL (sled_mem hj3).1)
  have hmR : ((zf j).tr, b j) ∈ (D2, oD) :: lawO zf a b dr oe n D o ps := .tail _ (mL (sled_mem hj3).2)
  have Sj := ((L.S j hj3).mono sub2).shl hmT hmR
  have hz := Sj.lies
  obtain ⟨hz1, hz2⟩ := hz
  obtain ⟨kvT, hd1, hd2, hd3⟩ := ((L.S j hj3).mono sub2).tab
  have hTo : ∀ i < n, okAll (showsL hs0 n) = true := fun i _ => (shows_ok H).1
  refine let Iv73 : Nat → List Value → Led → Led → Prop := fun i ys o' J' => o' = (D2, oD) :: lawO zf a b dr oe n D o ps ∧ Sub (_ :: J2) J' ∧ RepDL J' ys (showsL hs0 i);
   ⟨?sc, compG (src_range hn' (.head _) hsm1 hsz1) ?sc (by rw [sizeLine_eq]; omega) Iv73 noB ⟨rfl, .refl, .nil⟩ (fun _ _ => rfl) ?_ ?_⟩
  case sc => exact compScG [.ofString "shelf"] rfl (by decide +kernel) hkS (by decide +kernel) (by decide +kernel) rfl (by ext has)
  ·rintro C3 i v0 ys o₃ J3 D3 k3 K3 KS3 hic3 hi3 ⟨t3, rfl⟩
   rintro ⟨rfl, sub3, hys⟩ hK3 hKS3
   rw [Int.zero_add]
   have hw3 := hic3.w.trans hw'
   have hs3 := hic3.scope
   have hn3 := hic3.hn.trans hn'
   have hd3' := hic3.dl
   have hu3' := hic3.ul
   have sJ3 : Sub J2 J3 := Sub.trans (Sub.cons .refl) sub3
   rcases rept_get (n := 3 + (i : Int)) hd3 with ⟨e1, e2⟩ | ⟨q, g2, tk2, v2, o2, e1, e2, hq, hr⟩
   ·rw [H.head hi3] at e2; cases e2
   rw [H.head hi3] at e2; cases e2
   have hz1' := sJ3 _ hz1
   have hz2' := sJ3 _ hz2
   have hq' := sJ3 _ hq
   ext
   refine g_base (.ofString "x") default ?_
   refine g_item (knd := PySem.intKind prog w) hw3 (mL (.tail _ hmT)) hd1 (intKind_is _ _ _ _) e1 ?_
   ext
   refine g_base (.ofString "x") default ?_
   refine g_item_tup (j := 1) (mR hq') (by decide) (by decide) rfl rfl ?_
   ext
   refine g_runP (told_c false w 3 (hr.mono sJ3) ((H.at_ i hi3).deep 1)) hw3 (by assumption) (by omega) (by omega) fun r4 J4 sub4 V4 => ?_
   ext
   refine hK3 _ _ _ _ (by ext has) ⟨rfl, by ext sub, ?_⟩
   have e3 : showsL hs0 (i + 1) = showsL hs0 i ++ [toldN 3 (.dic (hs0.getD i []))] := by unfold showsL; rw [List.range_succ, List.map_append, List.map_singleton]
   rw [e3]
   exact RepDL.append (RepDL.mono sub4 hys) (.cons V4 .nil)
  ·rintro ys o₃ J3 D3 k3 ⟨rfl, sub3, hys⟩ hle3
   refine compEnd0 ?_
   refine g_freeze [] ?_
   ext
   obtain ⟨so1, so2, so3⟩ := shows_ok H
   refine g_reprL (mR (.head _)) (fun e => ?_) (RepDL.mono (Sub.cons .refl) hys) so1 so2 (by omega) fun u => ?_
   ·subst e
    have : showsL hs0 n = [] := by
     generalize showsL hs0 n = ds at hys
     cases hys
     rfl
    have := congrArg List.length this
    unfold showsL at this
    rw [List.length_map, List.length_range] at this
    simp at this; omega
   ext
   refine hK _ _ _ _ _ _ (strKind_is _ _ _ _) (by ext has) ⟨rfl, by ext sub, ?_⟩
   rw [if_neg (Nat.succ_ne_zero j)]
   by_cases e0 : j = 0
   ·rw [if_pos e0] at hkv
    rw [List.map_eq_nil_iff.mp hkv]
    rfl
   ·rw [if_neg e0] at hkv
    obtain ⟨p, hp, rfl⟩ : ∃ p, p.1 = listText (shownAll (showsL hs0 n)) ∧ kvs = [p] := by
     cases kvs with
     | nil => cases hkv
     | cons p r =>
      rw [List.map_cons] at hkv
      injection hkv with h1 h2
      exact ⟨p, h1, by rw [List.map_eq_nil_iff.mp h2]⟩
    rw [← hp]
    unfold stored
    simp
 ·rintro kvs o₂ J2 D2 oD lo2 hoD ⟨rfl, sub2, hkv⟩ hle
  have hkl : kvs.length = 1 := by
   have := congrArg List.length hkv
   rw [List.length_map, if_neg (by simp)] at this
   exact this
  refine g_freeze [] ?_
  ext
  refine g_len_dict (knd := PySem.strKind prog w) hw (mR (.head _)) hoD lo2 (by omega) fun t => ?_
  rw [hkl]
  ext
  exact ⟨rfl, rfl, by ext sub, by ext has⟩
theorem lawO_dice {a b : Nat → Obj} {o : Obj} : lawO zf a b dr oe n D o ps = (sled zf a b 3 ++ eled dr oe n) ++ (D, o) :: [(775, tabObj ps)] := by
 unfold lawO
 rw [List.append_assoc]
theorem part_a {w : World} {name : Str} {scope : Scope} {oc : Value}
  (ho : (Kf w.params).lookup 778 = some ⟨oc, od, .func (fnOf name qual params bod scope dV kV doc pm an cdv ct), osl⟩)
  (hw : C.w = w) (hs : C.env.scope = scope) (hl : C.env.locals = C.L) (hdl : 100 ≤ C.dl) (hul : 5000 ≤ C.ul) (hn : C.hn = none) (hfe : C.env = C.fe) (hoc : C.oc = allOc)
  {a b : Nat → Obj} {nd : Bool} {o : Obj} {m : Nat}
  (L : LawAt w J zf a b Dr dr oe n ents hs0 far nd) (hD : Dice J m o) (hm : m ≤ 900)
  (hM : Has M [(.ofString "is_needed", .bool nd), (.ofString "shelves", .ref Ls), (.ofString "record", .ref Dr), (.ofString "dice", .ref D)]) :
  G C (exec (nthS 0 (forBody (nthS 6 bod))) C.env) M (lawO zf a b dr oe n D o ps) J noX (fun f M' o' J' => f = .next ∧ ∃ o₁ i s way3 t1 t2 t3, o' = lawO zf a b dr oe n D o₁ ps ∧ Sub J J' ∧ Dice J' (m + 3) o₁ ∧ 1 ≤ i ∧ i < n ∧ s ∈ wordsL ∧ Has M' [(.ofString "at", .int (i : Nat) t1), (.ofString "value", .str s t2), (.ofString "way", .int way3 t3), (.ofString "is_needed", .bool nd), (.ofString "shelves", .ref Ls), (.ofString "record", .ref Dr), (.ofString "dice", .ref D)]) := by
 refine' (fn_is ho ?k).elim ?g
 case k => k_is
 case g =>
 intro e1 e2
 subst e2
 rw [e1]
 dsimp only [nthS, forBody]
 have H := L.H
 have h2l := H.two
 have h3l := H.three
 obtain ⟨rvs, nr, hR, hrl, hrv⟩ := L.R.is
 have hrz : rvs.length ≤ sizeLine := by rw [sizeLine_eq]; omega
 refine g_weak hM (g_ledg lawO_dice ?_)
 refine g_asgtup ?_ (by rfl) (swap_at hs fun _ => by rfl)
 ext
 refine g_runK (coin_c (l1 := sled zf a b 3 ++ eled dr oe n) hD (by omega) (by omega) (by omega)) hw hn (by omega) (by omega) ?_
 intro Zk hZk
 rintro r1 o1 J1 ⟨n1, t1, o', rfl, h10, h11, rfl, sub1, hd1⟩
 refine hZk _ _ _ ?_
 obtain ⟨i, hi⟩ : ∃ i : Nat, 1 + n1 = (i : Int) := ⟨(1 + n1).toNat, by omega⟩
 ext
 refine g_runK (coin_c (l1 := sled zf a b 3 ++ eled dr oe n) hd1 (by omega) (by decide) (by decide)) hw hn (by omega) (by omega) ?_
 intro Zk hZk
 rintro r2 o2 J2 ⟨n2, t2, o'', rfl, h20, h21, rfl, sub2, hd2⟩
 refine hZk _ _ _ ?_
 obtain ⟨sw, uw, hsw, hin, hsq⟩ := word_at h20 h21
 refine g_item_tupK (vs := wordVs) (by k_is) (by omega) (by omega) hsq hsw ?_
 ext
 refine g_runK (coin_c (l1 := sled zf a b 3 ++ eled dr oe n) hd2 (by omega) (by decide) (by decide)) hw hn (by omega) (by omega) ?_
 intro Zk hZk
 rintro r3 o3 J3 ⟨n3, t3, o₃, rfl, h30, h31, rfl, sub3, hd3⟩
 refine hZk _ _ _ ?_
 ext
 rw [hi]
 exact ⟨rfl, o₃, i, sw, n3, _, _, _, lawO_dice.symm, by ext sub, hd3.mono (Sub.cons .refl) (Nat.le_refl _), by omega, by omega, hin, by ext has⟩
theorem part_a2 {w : World} {name : Str} {scope : Scope} {oc : Value}
  (ho : (Kf w.params).lookup 778 = some ⟨oc, od, .func (fnOf name qual params bod scope dV kV doc pm an cdv ct), osl⟩)
  (hw : C.w = w) (hs : C.env.scope = scope) (hl : C.env.locals = C.L) (hdl : 100 ≤ C.dl) (hul : 5000 ≤ C.ul) (hn : C.hn = none) (hfe : C.env = C.fe) (hoc : C.oc = allOc)
  {a b : Nat → Obj} {nd : Bool} {o : Obj}
  (L : LawAt w J zf a b Dr dr oe n ents hs0 far nd) (h1 : 1 ≤ i) (hin : i < n) (hsw : s ∈ wordsL) {t1 t2 t3 : Tok}
  (hM : Has M [(.ofString "at", .int (i : Nat) t1), (.ofString "value", .str s t2), (.ofString "way", .int way3 t3), (.ofString "is_needed", .bool nd), (.ofString "shelves", .ref Ls), (.ofString "record", .ref Dr), (.ofString "dice", .ref D)]) :
  G C (exec (nthS 1 (forBody (nthS 6 bod))) C.env) M (lawO zf a b dr oe n D o ps) J noX (fun f M' o' J' => f = .next ∧ o' = lawO zf a b dr oe n D o ps ∧ Sub J J' ∧ ∃ t4, Has M' [(.ofString "due", .str (dueS (way3 == 1 || letB (ents 0) (ents i) s)) t4), (.ofString "at", .int (i : Nat) t1), (.ofString "value", .str s t2), (.ofString "way", .int way3 t3), (.ofString "is_needed", .bool nd), (.ofString "shelves", .ref Ls), (.ofString "record", .ref Dr), (.ofString "dice", .ref D)]) := by
 refine' (fn_is ho ?k).elim ?g
 case k => k_is
 case g =>
 intro e1 e2
 subst e2
 rw [e1]
 dsimp only [nthS, forBody]
 have H := L.H
 have h2l := H.two
 have h3l := H.three
 obtain ⟨rvs, nr, hR, hrl, hrv⟩ := L.R.is
 have he : ∀ j < n, (dr j, oe j) ∈ lawO zf a b dr oe n D o ps ++ J := fun j hj => mL (mR (mL (eled_mem hj)))
 have hsl : s.length ≤ 1000 := (by decide +kernel : ∀ s ∈ wordsL, s.length ≤ 1000) s hsw
 refine g_weak hM ?_
 ext
 refine ⟨fun e => ?_, fun e => ?_⟩
 ·rw [e]
  ext
  exact ⟨rfl, rfl, .refl, _, by ext has⟩
 ·rw [e]
  ext
  refine g_runP (is_let_c hR (he 0 (by omega)) (he i hin) (hrv 0 (by omega)).2 (hrv i hin).2 (by omega) (by omega) (hrv 0 (by omega)).1 (by simpa using (hrv i hin).1) (H.entok hin) hsl) hw hn (by omega) (by omega) fun r J1 sub1 V1 => ?_
  subst V1
  ext
  refine ⟨fun e5 => ?_, fun e5 => ?_⟩
  ·rw [e5]
   ext
   exact ⟨rfl, rfl, sub1, _, by ext has⟩
  ·rw [e5]
   ext
   exact ⟨rfl, rfl, sub1, _, by ext has⟩
theorem next_hds (H : Hds n hs0 ents) (h1 : 1 ≤ i) (hin : i < n) (hsw : s ∈ wordsL) {due : Bool} (hdue : due = (way3 == 1 || letB (ents 0) (ents i) s)) : Hds n (nextH hs0 n ents i s way3 due) (nextE ents i s way3 due) := by
 unfold nextH nextE
 cases due with
 | false => exact H
 | true =>
  rw [if_pos rfl, if_pos rfl]
  by_cases e : way3 = 1
  ·rw [if_pos e, if_pos e]; exact H.reset
  ·rw [if_neg e, if_neg e]
   refine H.put h1 hin hsw ?_
   have e2 : (way3 == 1) = false := by simpa using e
   rw [e2] at hdue
   exact hdue.symm
theorem has_tr {L L' : Loc} (h : Has M L) (g : Has L L') : Has M L' := fun x v e => h x v (g x v e)
theorem turn_c {w : World} {name : Str} {scope : Scope} {oc : Value}
  (ho : (Kf w.params).lookup 778 = some ⟨oc, od, .func (fnOf name qual params bod scope dV kV doc pm an cdv ct), osl⟩)
  (hw : C.w = w) (hs : C.env.scope = scope) (hl : C.env.locals = C.L) (hdl : 100 ≤ C.dl) (hul : 5000 ≤ C.ul) (hn : C.hn = none) (hfe : C.env = C.fe) (hoc : C.oc = allOc) (hout : C.outer = []) (hcode : C.env.code = .ref 777) (hcl : ∀ x, scope.names.lookup x = some .cell → (C.env.cells.lookup x).isSome = true)
  {a b : Nat → Obj} {nd : Bool} {o : Obj} {m : Nat} (hq : C.env.qual ++ "<lambda>" = q)
  (L : LawAt w J zf a b Dr dr oe n ents hs0 far nd) (hfar : far ≤ 2) (ht : Tri J q ps.toList) (hD : Dice J m o) (hm : m ≤ 900) (hLs : (Ls, listOf (List.toArray (shsV zf)) c) ∈ J)
  (hM : Has M [(.ofString "is_needed", .bool nd), (.ofString "shelves", .ref Ls), (.ofString "record", .ref Dr), (.ofString "dice", .ref D)]) :
  G C (execs (forBody (nthS 6 bod)) C.env) M (lawO zf a b dr oe n D o ps) J noX (fun f M' o' J' => f = .next ∧ ∃ a' b' oe' ents' hs' nd' o₁ ps', o' = lawO zf a' b' dr oe' n D o₁ ps' ∧ Sub J J' ∧ Dice J' (m + 3) o₁ ∧ LawAt w J' zf a' b' Dr dr oe' n ents' hs' far nd' ∧ Tri J' q ps'.toList ∧ Has M' [(.ofString "is_needed", .bool nd'), (.ofString "shelves", .ref Ls), (.ofString "record", .ref Dr), (.ofString "dice", .ref D)]) := by
 have hb : forBody (nthS 6 bod) = [nthS 0 (forBody (nthS 6 bod)), nthS 1 (forBody (nthS 6 bod)), nthS 2 (forBody (nthS 6 bod)), nthS 3 (forBody (nthS 6 bod)), nthS 4 (forBody (nthS 6 bod)), nthS 5 (forBody (nthS 6 bod))] := by
  refine' (fn_is ho ?k).elim ?g
  case k => k_is
  case g =>
  intro e1 e2
  rw [e1]
  rfl
 rw [hb]
 refine g_cons (G.mono (part_a ho hw hs hl hdl hul hn hfe hoc L hD hm hM) ?_ (fun _ _ _ h => h))
 rintro f M1 o1 J1 ⟨rfl, o₁, i, s, way3, t1, t2, t3, rfl, sub1, hD1, h1, hin, hsw, has1⟩
 refine nextq_next (g_cons (G.mono (part_a2 ho hw hs hl hdl hul hn hfe hoc (L.mono sub1) h1 hin hsw has1) ?_ (fun _ _ _ h => h)))
 rintro f M2 o2 J2 ⟨rfl, rfl, sub2, t4, has2⟩
 generalize hdue : (way3 == 1 || letB (ents 0) (ents i) s) = due at has2
 have s2 : Sub J J2 := Sub.trans sub1 sub2
 refine nextq_next (g_cons (G.mono (part_b ho hw hs hl hdl hul hn hfe hoc hout hcode hcl hq (L.mono s2) hfar (ht.mono s2) (s2 _ hLs) h1 hin hsw hdue.symm (has_tr has2 (by ext has))) ?_ (fun _ _ _ h => h)))
 rintro f M3 o3 J3 ⟨rfl, a', b', ps', rfl, sub3, ht3, hS3, has3⟩
 have s3 : Sub J J3 := Sub.trans s2 sub3
 refine nextq_next (g_cons (G.mono (part_c ho hw hs hl hdl hul hn hfe hoc L.H (L.R.mono s3) h1 hin (has_tr has3 (by ext has))) ?_ (fun _ _ _ h => h)))
 rintro f M4 o4 J4 ⟨rfl, oe', rfl, sub4, R4, has4⟩
 have s4 : Sub J J4 := Sub.trans s3 sub4
 have L4 : LawAt w J4 zf a' b' Dr dr oe' n (nextE ents i s way3 due) (nextH hs0 n ents i s way3 due) far (nd || due) := ⟨next_hds L.H h1 hin hsw hdue.symm, R4, fun j hj => (hS3 j hj).mono sub4⟩
 refine nextq_next (g_cons (G.mono (part_d ho hw hs hl hdl hul hn hfe hoc L4 hfar (s4 _ hLs) has4) ?_ (fun _ _ _ h => h)))
 rintro f M5 o5 J5 ⟨rfl, rfl, sub5, has5⟩
 refine nextq_next (g_cons (G.mono (part_e ho hw hs hl hdl hul hn hfe hoc (L4.mono sub5) hfar (sub5 _ (s4 _ hLs)) has5) ?_ (fun _ _ _ h => h)))
 rintro f M6 o6 J6 ⟨rfl, rfl, sub6, has6⟩
 have s56 : Sub J4 J6 := Sub.trans sub5 sub6
 refine nextq_next (g_nil ⟨rfl, a', b', oe', _, _, _, o₁, ps', rfl, Sub.trans s4 s56, hD1.mono (Sub.trans sub2 (Sub.trans sub3 (Sub.trans sub4 s56))) (Nat.le_refl _), L4.mono s56, ht3.mono (Sub.trans sub4 s56), has6⟩)
theorem law_c {w : World} {name : Str} {scope : Scope} {oc : Value}
  (ho : (Kf w.params).lookup 778 = some ⟨oc, od, .func (fnOf name qual params bod scope dV kV doc pm an cdv ct), osl⟩)
  (hw : C.w = w) (hs : C.env.scope = scope) (hl : C.env.locals = C.L) (hdl : 100 ≤ C.dl) (hul : 5000 ≤ C.ul) (hn : C.hn = none) (hfe : C.env = C.fe) (hoc : C.oc = allOc) (hout : C.outer = []) (hcode : C.env.code = .ref 777) (hcl : ∀ x, scope.names.lookup x = some .cell → (C.env.cells.lookup x).isSome = true) (hq : C.env.qual ++ "<lambda>" = q) {Ds : Addr} {ns : Nat} {vs : List Value} {is : List Int} (hD : (Ds, listOf (List.toArray vs) ns) ∈ J) (hi : IntsAre vs is) (hz : is.length ≤ 10000) {Qf : QF} (hret : ∀ M o J', (∃ ps, ((775 : Addr), tabObj ps) ∈ o) → Sub J J' → Qf (.ret (.bool true)) M o J') : G C (execs bod C.env) [(.ofString "script", .ref Ds)] [(775, tabObj #[])] J noX Qf := by
 refine' (fn_is ho ?k).elim ?g
 case k => k_is
 case g =>
 intro e1 e2
 rw [e2] at hs
 rw [e1]
 ext
 refine g_runK (box_c hD hi hz) hw hn (by omega) (by omega) ?_
 intro Zk hZk
 rintro r1 o1 J1 ⟨D, o, rfl, rfl, sub1, hd1⟩
 refine hZk _ _ _ ?_
 walk_at "gx"
 refine g_cons (g_asgtup ?_ (by rfl) (swap_at hs fun _ => by rfl))
 ext
 refine g_runK (coin_c (l1 := []) hd1 (by omega) (by decide) (by decide)) hw hn (by omega) (by omega) ?_
 intro Zk hZk
 rintro r2 o2 J2 ⟨n1, t1, o', rfl, h10, h11, rfl, sub2, hd2⟩
 refine hZk _ _ _ ?_
 ext
 refine g_runK (coin_c (l1 := []) hd2 (by omega) (by decide) (by decide)) hw hn (by omega) (by omega) ?_
 intro Zk hZk
 rintro r3 o3 J3 ⟨n2, t2, o'', rfl, h20, h21, rfl, sub3, hd3⟩
 refine hZk _ _ _ ?_
 obtain ⟨far, rfl⟩ := Int.eq_ofNat_of_zero_le h20
 walk_at "gx"
 refine g_cons (g_asg ?_ (swaps_c hs rfl (by with_unfolding_all rfl)))
 refine g_comp [(.ofString "dice", .ref D)] ?sc ?_
 case sc => ext scF
 ext
 refine g_runK (coin_c (l1 := []) (hd3.mono (Sub.cons .refl) (Nat.le_refl _)) (by omega) (by decide) (by decide)) hw hn (by omega) (by omega) ?_
 intro Zk hZk
 rintro r4 o4 J4 ⟨n3, t3, o₃, rfl, h30, h31, rfl, sub4, hd4⟩
 refine hZk _ _ _ ?_
 ext
 rename_i Dt0 q1 q2 q3 rg q4 q5 q6
 obtain ⟨n, hn2, hn3, hne⟩ : ∃ n : Nat, 2 ≤ n ∧ n ≤ 3 ∧ 2 + n3 = (n : Int) := ⟨(2 + n3).toNat, by omega, by omega, by omega⟩
 have hsm : Builtin.Range.small 0 (2 + n3) 1 = true := by rcases (by omega : n3 = 0 ∨ n3 = 1) with h | h <;> rw [h] <;> decide
 have hsz : Builtin.Range.rangeSize 0 (2 + n3) 1 = (n : Int) := by rw [hne]; rcases (by omega : n = 2 ∨ n = 3) with h | h <;> rw [h] <;> decide
 refine let Iv74 : Nat → List Value → Led → Led → Prop := fun i ys o' J' => ∃ dr oe ents o₁, o' = eled dr oe i ++ (D, o₁) :: [(775, tabObj #[])] ∧ Sub (_ :: J4) J' ∧ Dice J' (3 + 10 * i) o₁ ∧ ys = (List.range i).map (fun j => .ref (dr j)) ∧ (∀ j < i, EntAt w J' (dr j) (oe j) (ents j) ∧ GoodE (ents j)) ∧ (1 ≤ i → ∃ x, getE (ents 0) ftK = .txt x);
  ⟨?sc, compG (src_range hn (.head _) hsm hsz) ?sc (by rw [sizeLine_eq]; omega) Iv74 noB ⟨fun _ => 0, fun _ => default, fun _ => [], o₃, rfl, .refl, hd4.mono (Sub.cons .refl) (by omega), rfl, (fun j hj => absurd hj (Nat.not_lt_zero _)), (fun h => absurd h (by decide))⟩ (fun _ _ => rfl) ?_ ?_⟩
 case sc => ext scF
 ·rintro C' i v0 ys o₂ J5 Dl k K KS hic hi ⟨t', rfl⟩
  rintro ⟨dr, oe, ents, o₁, rfl, sub5, hd5, hys, hE, hft⟩ hK hKS
  ext comp
  ext
  refine g_swapped (g_runX (entries_c (l1 := (Dl, _) :: eled dr oe i) hd5 (by omega)) hw' hn' (by omega) (by omega) ?_ fun _ _ x => x.elim)
  rintro r6 o6 J6 ⟨d, od, o₄, es, rfl, rfl, sub6, hd6, hE6, hG6, -, hft6⟩
  refine ⟨[], _, _, _, rfl, ?_⟩
  refine hK _ _ _ _ (by ext has) ⟨updf dr i d, updf oe i od, updf ents i es, o₄, ?_, Sub.trans sub5 sub6, hd6.mono .refl (by omega), ?_, ?_, ?_⟩
  ·rw [eled_s, updf_at, updf_at, eled_ext (dr' := dr) (oe' := oe) fun j hj => ⟨updf_ne (by omega), updf_ne (by omega)⟩]
   rfl
  ·rw [hys, List.range_succ, List.map_append, List.map_singleton, updf_at]
   congr 1
   refine List.map_congr_left fun j hj => ?_
   have := List.mem_range.mp hj
   rw [updf_ne (by omega)]
  ·intro j hj
   by_cases e : j = i
   ·subst e; rw [updf_at, updf_at, updf_at]; exact ⟨hE6, hG6⟩
   ·rw [updf_ne e, updf_ne e, updf_ne e]
    exact ⟨(hE j (by omega)).1.mono sub6, (hE j (by omega)).2⟩
  ·intro h
   by_cases e : i = 0
   ·subst e; rw [updf_at]; exact hft6 rfl
   ·rw [updf_ne fun z => e z.symm]; exact hft (by omega)
 ·rintro ys o₂ J5 Dl k ⟨dr, oe, ents, o₁, rfl, sub5, hd5, hys, hE, hft⟩ hle
  refine compEnd0 ?_
  refine g_freeze [] ?_
  have sJ5 : Sub J J5 := by ext sub
  have hrec0 : (Dl, listOf (List.toArray ys) k) ∈ (Dl, listOf (List.toArray ys) k) :: J5 := .head _
  have hyl : ys.length = n := by rw [hys, List.length_map, List.length_range]
  have hent : ∀ i < n, ∃ d oe', ys[i]? = some (.ref d) ∧ (d, oe') ∈ eled dr oe n ∧ EntAt w ((Dl, listOf (List.toArray ys) k) :: J5) d oe' (ents i) ∧ GoodE (ents i) ∧ (ents i).length ≤ 5 := fun i hi => ⟨dr i, oe i, by rw [hys, List.getElem?_map, List.getElem?_range hi]; rfl, eled_mem hi, (hE i hi).1.mono (Sub.cons .refl), (hE i hi).2, (hE i hi).2.len⟩
  replace sJ5 : Sub J ((Dl, listOf (List.toArray ys) k) :: J5) := Sub.trans sJ5 (Sub.cons .refl)
  replace hd5 := hd5.mono (J' := (Dl, listOf (List.toArray ys) k) :: J5) (Sub.cons .refl) (Nat.le_refl _)
  generalize hJ6 : (Dl, listOf (List.toArray ys) k) :: J5 = J6 at sJ5 hrec0 hent hd5
  walk_at "gx"
  refine g_cons (g_asg ?_ (by rfl))
  ext
  refine g_runK (table_c (l1 := eled dr oe n) hd5 (by omega) hrec0 hyl (by omega) hn3 ents hent) hw hn (by omega) (by omega) ?_
  intro Zk hZk
  rintro r7 o7 J7 ⟨t, ot, o₂, kvs, hs', rfl, rfl, sub7, htm, lot, hot, hRT, hd7, hsl, hHd⟩
  refine hZk _ _ _ ?_
  have Hh : Hds n hs' ents := ⟨hsl, hn2, hn3, fun i hi => by
   have hil : i < hs'.length := by omega
   rw [List.getD_eq_getElem?_getD, List.getElem?_eq_getElem hil]
   exact head_of hn3 (by omega) (hHd i _ (List.getElem?_eq_getElem hil)) (hE i hi).2, fun i hi => (hE i hi).2, hft (by omega)⟩
  have hrl : RecL w J7 Dl dr oe n ents := ⟨ys, k, sub7 _ hrec0, hyl, fun i hi => ⟨by rw [hys, List.getElem?_map, List.getElem?_range hi]; rfl, by
   obtain ⟨d, oe', h1, h2, h3, -⟩ := hent i hi
   have := (hE i hi).1.mono (J' := J7) (Sub.trans (by rw [← hJ6]; exact Sub.cons .refl) sub7)
   exact this⟩⟩
  have hsm9 : ∀ h ∈ hs', h.length ≤ 20 := fun h hm => by
   obtain ⟨i, hi, rfl⟩ := List.getElem_of_mem hm
   have := (Hh.at_ i (by omega)).len
   rw [List.getD_eq_getElem?_getD, List.getElem?_eq_getElem hi] at this
   exact Nat.le_trans this (by decide)
  replace sJ5 := Sub.trans sJ5 sub7
  clear hent hHd hd5 hE hft hys hJ6 sub7 hrec0 hyl hsl
  walk_at "gx"
  refine g_cons (g_asgcomp [(.ofString "table", .ref t), (.ofString "is_far", .int far t2)] ?sc ?_ (by ext swl))
  case sc => ext scF
  ext
  refine let Iv75 : Nat → List Value → Led → Led → Prop := fun i ys o' J' => ∃ zf a b, o' = sled zf a b i ++ (eled dr oe n ++ (D, o₂) :: [(775, tabObj #[])]) ∧ Sub (_ :: J7) J' ∧ ys = (List.range i).map (fun j => .ref (zf j).sh) ∧ (∀ j < i, ShO w J' (zf j) (shT hs' j far false) (shR j far false) (a j) (b j));
   ⟨?sc, compG (src_range (n := 3) hn (.head _) (by decide) (by rfl)) ?sc (by rw [sizeLine_eq]; omega) Iv75 noB ⟨fun _ => ⟨0, 0, 0, 0, 0, 0⟩, fun _ => default, fun _ => default, rfl, .refl, rfl, (fun j hj => absurd hj (Nat.not_lt_zero _))⟩ (fun _ _ => rfl) ?_ ?_⟩
  case sc => ext scF
  ·rintro C' i v0 ys2 o₃ J8 D2 k2 K KS hic hi ⟨t', rfl⟩
   rintro ⟨zf, a, b, rfl, sub8, hys2, hS⟩ hK hKS
   ext comp
   have sJ8 : Sub J7 J8 := Sub.trans (Sub.cons .refl) sub8
   rw [Int.zero_add]
   ext
   refine g_swapped (g_swapped (g_runX (shelf_c (sJ8 _ htm) lot hot (hRT.mono sJ8) (by have := Hh.len; omega) hsm9 (way := i) (by omega) (far := far) (by omega)) hw' hn' (by omega) (by omega) ?_ fun _ _ x => x.elim))
   rintro r9 o9 J9 ⟨z, ot9, od9, rfl, rfl, sub9, hSz⟩
   refine ⟨[_], _, _, _, rfl, [], _, _, _, rfl, ?_⟩
   refine hK _ _ _ _ (by ext has) ⟨updf zf i z, updf a i ot9, updf b i od9, ?_, Sub.trans sub8 sub9, ?_, ?_⟩
   ·rw [sled_s, updf_at, updf_at, updf_at, sled_ext (zf' := zf) (a' := a) (b' := b) fun j hj => ⟨updf_ne (by omega), updf_ne (by omega), updf_ne (by omega)⟩]
    rfl
   ·rw [hys2, List.range_succ, List.map_append, List.map_singleton, updf_at]
    congr 1
    refine List.map_congr_left fun j hj => ?_
    have := List.mem_range.mp hj
    rw [updf_ne (by omega)]
   ·intro j hj
    by_cases e : j = i
    ·subst e; rw [updf_at, updf_at, updf_at]; exact hSz
    ·rw [updf_ne e, updf_ne e, updf_ne e]
     exact (hS j (by omega)).mono sub9
  ·rintro ys2 o₃ J8 D2 k2 ⟨zf, a, b, rfl, sub8, hys2, hS⟩ hle2 C₂ hsm
   walk_at "g end"
   refine g_freeze [] ?_
   walk_at "gx"
   refine g_cons ?_
   walk_at "gx"
   refine g_cons ?_
   ext
   rename_i rg2 q7 q8 q9
   obtain ⟨mm, hm1, hm3, hme⟩ : ∃ mm : Nat, 1 ≤ mm ∧ mm ≤ 3 ∧ 1 + n1 = (mm : Int) := ⟨(1 + n1).toNat, by omega, by omega, by omega⟩
   have hsm2 : Builtin.Range.small 0 (1 + n1) 1 = true := by rcases (by omega : n1 = 0 ∨ n1 = 1 ∨ n1 = 2) with h | h | h <;> rw [h] <;> decide
   have hsz2 : Builtin.Range.rangeSize 0 (1 + n1) 1 = (mm : Int) := by rw [hme]; rcases (by omega : mm = 1 ∨ mm = 2 ∨ mm = 3) with h | h | h <;> rw [h] <;> decide
   have sJ9 : Sub J7 J8 := Sub.trans (Sub.cons .refl) sub8
   subst hys2
   refine let Iv76 : Nat → Loc → Led → Led → Prop := fun k M' o' J' => ∃ a' b' oe' ents' hs2 nd' o₁ ps', o' = lawO zf a' b' dr oe' n D o₁ ps' ∧ Sub (_ :: (D2, listOf (List.toArray (shsV zf)) k2) :: J8) J' ∧ Dice J' (3 + 10 * n + 20 + 3 * k) o₁ ∧ LawAt w J' zf a' b' Dl dr oe' n ents' hs2 far nd' ∧ Tri J' q ps'.toList ∧ Has M' [(.ofString "is_needed", .bool nd'), (.ofString "shelves", .ref D2), (.ofString "record", .ref Dl), (.ofString "dice", .ref D)];
    forG hfe (src_range hn (.head _) hsm2 hsz2) Iv76 noB ⟨a, b, oe, ents, _, false, o₂, #[], rfl, .refl, hd7.mono (Sub.trans sJ9 (Sub.trans (Sub.cons .refl) (Sub.cons .refl))) (Nat.le_refl _), ⟨Hh, hrl.mono (Sub.trans sJ9 (Sub.trans (Sub.cons .refl) (Sub.cons .refl))), fun j hj => (hS j hj).mono (Sub.trans (Sub.cons .refl) (Sub.cons .refl))⟩, .nil, by ext has⟩ ?_ ?_
   ·intro C' k v0 M' o' J9 K hsm
    walk_at "g turn"
    rintro hk ⟨t', rfl⟩ hIz hK
    refine opq3 M' o' J9 fun Zk hZk => ?_
    obtain ⟨a', b', oe', ents', hs2, nd', o₁, ps', rfl, sub9, hd9, L9, ht9, has9⟩ := hIz
    refine hZk _ _ _ ?_
    have hout' := hsm.outer.trans hout
    have hcode' : C'.env.code = .ref 777 := (congrArg Env.code hsm.env).trans hcode
    have hq' : C'.env.qual ++ "<lambda>" = q := by rw [hsm.env]; exact hq
    have hcl' := hcl
    rw [← hsm.env] at hcl'
    refine g_weak has9 ?_
    walk_at "gx"
    have T := turn_c (M := (.ofString "turn", .int (0 + (k : Int)) t') :: [(.ofString "is_needed", .bool nd'), (.ofString "shelves", .ref D2), (.ofString "record", .ref Dl), (.ofString "dice", .ref D)]) ho hw' (hs'.trans e2.symm) hl' (by omega) (by omega) hn' hfe' hoc' hout' hcode' hcl' hq' L9 (by omega) ht9 hd9 (by omega) (sub9 _ (.tail _ (.head _))) (by ext has)
    rw [e1] at T
    dsimp only [forBody, nthS] at T
    refine G.mono T ?_ (fun _ _ _ h => h)
    rintro f M2 o2 J2 ⟨rfl, a2, b2, oe2, ents2, hs3, nd2, o₂', ps2, rfl, sub10, hd10, L10, ht10, has10⟩
    exact hK _ _ _ _ (turnq_next ⟨a2, b2, oe2, ents2, hs3, nd2, o₂', ps2, rfl, Sub.trans sub9 sub10, hd10.mono .refl (by omega), L10, ht10, has10⟩)
   ·rintro M' o' J9 ⟨a', b', oe', ents', hs2, nd', o₁, ps', rfl, sub9, hd9, L9, ht9, has9⟩
    ext
    exact hret _ _ _ ⟨ps', mR (mR (.tail _ (.head _)))⟩ (Sub.trans sJ5 (Sub.trans sJ9 (Sub.trans (Sub.trans (Sub.cons .refl) (Sub.cons .refl)) sub9)))
section
variable {h : Heap} {D : Addr} {ol : Obj}
theorem hid_ns {mm : Str → Option Value} (hD : h.get? D = some ol) (hc : ol.cls = .type "list") (hd : ∃ vs c, ol.data = .seq vs c) (x : h.Ns a mm) : (hideAll h [D]).Ns a mm :=
 by
 obtain ⟨o, es, ep, e, he, r⟩ := x
 exact ⟨o, es, ep, hideAll_get _ e (fun q => by
  rw [List.mem_singleton.mp q, hD] at e
  cases e
  obtain ⟨vs, c, hd⟩ := hd
  rw [he] at hd; cases hd), he, r⟩
theorem hid_top {mean : ExcName → Option Value} {mg mb : Str → Option Value} (hD : h.get? D = some ol) (hc : ol.cls = .type "list") (hd : ∃ vs c, ol.data = .seq vs c) (T : Top topProg lo mean mg mb h) : Top topProg lo mean mg mb (hideAll h [D]) where
 g := hid_ns hD hc hd T.g
 b := hid_ns hD hc hd T.b
 nolimit := by obtain ⟨mc, a, r⟩ := T.nolimit; exact ⟨mc, hid_ns hD hc hd a, r⟩
 nodigits := by obtain ⟨mc, a, r⟩ := T.nodigits; exact ⟨mc, hid_ns hD hc hd a, r⟩
 fn := fun d hd => absurd (show d ∈ ([] : List DefRec) from hd) List.not_mem_nil
 own := fun o ho => absurd (show o ∈ ([] : List OwnSpec) from ho) List.not_mem_nil
 const := fun x d e => by cases (show (none : Option PyData) = some d from e)
 free := T.free
 builtins := T.builtins
 tab := fun d hd => absurd (show d ∈ ([] : List DefRec) from hd) List.not_mem_nil
 bmain := by
  obtain ⟨bm, ob, a1, a2, a3, a4, r⟩ := T.bmain
  exact ⟨bm, ob, a1, a2, hideAll_get _ a3 (fun q => by
   rw [List.mem_singleton.mp q, hD] at a3
   cases a3
   rw [hc] at a4; exact absurd (Value.type.inj a4) (by decide)), a4, r⟩
 seer := fun e => absurd (show false = true from e) Bool.false_ne_true
noncomputable def noLists (K : Frag) : Bool := K.all fun p => match p.2.data with
 | .seq _ _ => (match p.2.cls with
  | .type t => t == "tuple"
  | _ => false)
 | _ => true
theorem hid_K (hD : h.get? D = some ol) (hc : ol.cls = .type "list") (hd : ∃ vs c, ol.data = .seq vs c) (X : K.In h) (hK : noLists K = true) : K.In (hideAll h [D]) := fun a o e => hideAll_get _ (X a o e) fun q => by
 have h2 := List.all_eq_true.mp hK (a, o) (mem_of_lookupK e)
 have h3 := X a o e
 rw [List.mem_singleton.mp q, hD] at h3
 cases h3
 obtain ⟨vs, c, hd⟩ := hd
 dsimp only at h2
 rw [hd, hc] at h2
 exact absurd (show ("list" == "tuple") = true from h2) (by decide)
end
theorem law_top {w : World} {mg mb : Str → Option Value} {mean : ExcName → Option Value} {scope : Scope} {oc : Value} {name : Str}
  (ho : (Kf w.params).lookup 778 = some ⟨oc, od, .func (fnOf name qual params bod scope dV kV doc pm an (.ref 777) ct), osl⟩)
  {g h₁ : Heap} {f D : Addr} {vs : List Value} {is : List Int} (hk : scope.kind = .function) (hs1 : scope.names.lookup (.ofString "script") = some .local)
  (X : (Kf w.params).In g) (T : Top topProg lo mean mg mb g)
  {cells : Led} (F : Fr g L h₁ (bindL (envOfC qual scope L f (.ref 777)).kindOf [(.ofString "script", .ref D)] fun _ => none))
  (N : News g L h₁ cells) (Y : CellsAre (bindC (envOfC qual scope L f (.ref 777)).kindOf [(.ofString "script", .ref D)] fun _ => none) (cellsFrom (L + 1) scope.names []) cells)
  (hP : h₁.get? 775 = some (tabObj #[])) (hP0 : g.get? 775 = none) (hPL : 775 < L) (hD : g.get? D = some (listOf (List.toArray vs) c)) (hDL : D < L) (hDP : D ≠ 775) (hi : IntsAre vs is) (hz : is.length ≤ 10000) {s : Shared} :
  wpAny (model prog w) (callerA.deeper (envOfC qual scope L f (.ref 777))) (execs bod (envOfC qual scope L f (.ref 777))) (fun fl s' => fl = .ret (.bool true) ∧ ∃ h tk m, s' = { s with heap := h, toks := tk } ∧ h.Ns L m ∧ (∀ b o, g.get? b = some o → h.get? b = some o) ∧ GrownAt 775 h) (fun _ _ => False) { s with heap := h₁, toks := tk } := by
 let env' := envOfC qual scope L f (.ref 777)
 let C : Cx := { w := w, mg := mg, mb := mb, mean := mean, A := callerA.deeper env', env := env', fe := env', outer := [], A₀ := callerA, base := hideAll g [D], h₀ := hideAll g [D], L := L, fr := [], dl := 100, ul := 5000, hn := none, fm := none, oc := allOc }
 obtain ⟨cn, cge⟩ := cells_from scope.names (L + 1) [] (fun _ h => nomatch h) List.nodup_nil
 obtain ⟨ce, cl⟩ := cells_are Y
 have hdl : ∃ vs' c', (listOf (List.toArray vs) c).data = .seq vs' c' := ⟨_, _, rfl⟩
 have X' := hid_K hD rfl hdl X (by kernel_rfl)
 have T' := hid_top hD rfl hdl T
 have hH : ∀ {b : Addr}, g.get? b = none → (hideAll g [D]).get? b = none := fun {b} e => by
  cases q : (hideAll g [D]).get? b with
  | none => rfl
  | some o => rw [of_hideAll _ q] at e; cases e
 have F' : Fr (hideAll g [D]) L h₁ (bindL env'.kindOf [(.ofString "script", .ref D)] fun _ => none) := ⟨F.ns, fun b o e => F.keep b o (of_hideAll _ e), Nat.le_trans (Nat.le_of_eq (hideAll_size _ _)) F.above⟩
 have ok' : C.Ok := {
  below := below_caller _
  stack := Around.frames_deeper rfl
  fl := rfl
  fk := hk
  ek := hk
  eg := rfl
  eb := rfl
  ci := fun x y c _ hx hy => nodup_inj cn hx hy
  frag := X'
  top := T'
  hd := rfl
  fm := fun _ => rfl
  hx := fun p hp => nomatch hp
  dep := by show callerA.depth + 1 + 100 < _; decide
  uni := by show callerA.units + 3 + 5000 < _; decide
  fragB := X'
  topB := T'
  gd := rfl }
 have cells_ge : ∀ p ∈ cells, L + 1 ≤ p.1 := fun p hp => by
  have hm : p.1 ∈ cells.map (·.1) := List.mem_map_of_mem hp
  rw [ce] at hm
  obtain ⟨q, hq, e⟩ := List.mem_map.mp hm
  rcases cge q hq with z | z
  ·cases z
  ·exact e ▸ z
 have S' : St C [(.ofString "script", .ref D)] [(775, tabObj #[])] [(D, listOf (List.toArray vs) c)] h₁ (bindL env'.kindOf [(.ofString "script", .ref D)] fun _ => none) cells := by
  refine ⟨F', fun p hp => ?_, ⟨?_, ?_⟩, ⟨?_, ?_, fun _ e => (nomatch e), fun e => absurd rfl e⟩⟩
  ·rcases List.mem_append.mp hp with hp | hp
   ·exact ⟨(N p hp).1, (N p hp).2.1, hH (N p hp).2.2⟩
   ·have : p = (775, tabObj #[]) ∨ p = (D, listOf (List.toArray vs) c) := by
     have hp2 : p ∈ ([] : Led) ++ ([(775, tabObj #[])] ++ [(D, listOf (List.toArray vs) c)]) := hp
     simpa using hp2
    rcases this with rfl | rfl
    ·exact ⟨hP, Nat.ne_of_lt hPL, hH hP0⟩
    ·exact ⟨F.keep _ _ hD, Nat.ne_of_lt hDL, hideAll_none _ (.head _)⟩
  ·show ((cells ++ ([(775, tabObj #[])] : Led)).map (fun p => p.1)).Nodup
   rw [List.map_append, List.nodup_append]
   refine ⟨by rw [ce]; exact cn, by simp, fun a ha b hb e => ?_⟩
   obtain ⟨p, hp, rfl⟩ := List.mem_map.mp ha
   have h1 := cells_ge p hp
   have h2 : b = 775 := by simpa using hb
   exact absurd hPL (Nat.not_lt.mpr (Nat.le_of_succ_le (h2 ▸ e ▸ h1)))
  ·intro p hp q hq e
   rw [List.mem_singleton.mp hq] at e
   rcases List.mem_append.mp hp with hp | hp
   ·have h1 := cells_ge p hp
    rw [e] at h1
    exact absurd hDL (Nat.not_lt.mpr (Nat.le_of_succ_le h1))
   ·have : p = (775, tabObj #[]) := by
     have hp2 : p ∈ ([] : Led) ++ [(775, tabObj #[])] := hp
     simpa using hp2
    rw [this] at e
    exact hDP e.symm
  ·intro x v hx
   have hx' : x = .ofString "script" ∧ v = .ref D := by
    rw [List.lookup_cons] at hx
    split at hx
    ·rename_i e
     exact ⟨eq_of_beq e, (Option.some.inj hx).symm⟩
    ·cases hx
   obtain ⟨rfl, rfl⟩ := hx'
   refine .own hs1 rfl ?_
   rw [bindL_is [(.ofString "script", .ref D)] _ hs1]
   simp
  ·intro x hx _
   have q' : scope.names.lookup x = some .cell := hx
   have sm := cellsFrom_some (x := x) scope.names (L + 1) [] (.inl q')
   obtain ⟨c, hc⟩ := Option.isSome_iff_exists.mp sm
   obtain ⟨o, h1, h2⟩ := cl x c hc
   exact ⟨c, o, _, hc, h1, h2⟩
 refine wpAny_mono ((law_c (C := C) ho rfl rfl rfl (Nat.le_refl _) (Nat.le_refl _) rfl rfl rfl rfl rfl (fun x hx => cellsFrom_some scope.names (L + 1) [] (.inl hx)) rfl (.head _) hi hz (Qf := fun fl _ o' J' => fl = .ret (.bool true) ∧ (∃ ps, ((775 : Addr), tabObj ps) ∈ o') ∧ Sub [(D, listOf (List.toArray vs) c)] J') (fun _ _ _ h1 h2 => ⟨rfl, h1, h2⟩)).go ok' { s with heap := h₁, toks := tk } _ _ S') (fun fl s' p => ?_) fun e s' p => p.never
 obtain ⟨h', tk', M', o', J', m', loc', rfl, S'', rfl, ⟨ps, hps⟩, sub⟩ := p
 refine ⟨rfl, h', tk', m', rfl, S''.fr.ns, fun b o e => ?_, ps, (S''.news _ (mem_all_own (mR (mR hps)))).1⟩
 by_cases q : b = D
 ·subst q
  rw [hD] at e
  cases e
  exact (S''.news _ (mem_all_ice (sub _ (.head _)))).1
 ·exact S''.fr.keep b o (hideAll_get _ e fun z => q (List.mem_singleton.mp z))
theorem well_list {P : Params} {h : Heap} (k : ∀ {b : Addr} {o : Obj}, h'.get? b = some o → h.get? b = some o) {xs : List PyData} {vs : List Value} (x : Well P h (.ref a) (ofPy (.list xs))) (y : h'.IsList a (List.toArray vs)) : h.get? a = some (listOf (List.toArray vs) 0) := by
 have key : ∀ {v : Value} {d : WData}, Well P h v d → v = .ref a → (∃ l, d = .list l) → h.get? a = some (listOf (List.toArray vs) 0) := fun {v d} x e1 e2 => by
  obtain ⟨o, e, hc, n, hd⟩ := y
  obtain ⟨l, rfl⟩ := e2
  cases x with
  | list g _ =>
   cases e1
   rw [k e] at g
   cases g
   cases hd
   exact k e
 exact key x rfl ⟨_, rfl⟩
theorem T : PySem.Challenge.rw_sa0522_01.Holds := by
 refine pre ?_
 k_fill
 intro w s₀ s₁ mg mb G Y fa o pm cd doc dV kV ho hd hcd hD hmg hg args vals as hpre hlay hrd hwl hlo
 have KX := km_in_of Y
 km_tabs Y
 have X := (Ground.X G).1
 have V := (Ground.X G).2
 refine Ground.open G ?_
 intro T B D TE TW
 try (refine guard_noD D (by decide +kernel) ?_; clear D)
 km_lay T hmg ho hd cd
 clear hmg
 wrow_args hpre hlay hrd hwl hlo
 refine enter_call ?_
 w_top on
 kn_posts
 w_call any ho hd hcd hD T F
 clear hd hcd hD
 kn_ghosts F T
 rename Frag.In _ _ => X'
 rename Top topProg _ _ _ _ _ => T'
 rename Fr _ _ _ _ => F'
 rename News _ _ _ _ => N'
 rename CellsAre _ _ _ => X0
 rename IntsAre _ _ => hI
 rename Well _ _ _ _ => w1
 rename 775 < _ => l0
 rename (Heap.IsList _ _ _) => hL
 have hDs := well_list (of_hideAll _) w1 hL
 have hDg := ghost_get hT9 hDs (fun q => by cases q)
 have hT9b : s₁.heap.get? 775 = some (tabObj #[]) := hT8 775 (.head _)
 have hsz := F'.above
 refine' wpAny_mono (law_top (c := 0) ?ho ?hk ?hs1 X' T' F' ?N X0 ?hP ?hP0 l0 ?hD ?hDL ?hDP hI ?hz) ?post ?exc
 case ho => k_is
 case hk => exact rfl
 case hs1 => exact rfl
 case N => exact fun p hp => N' p (List.mem_append_left [(775, tabObj #[])] hp)
 case hP => exact (N' (775, tabObj #[]) (List.mem_append_right [_, _, _, _, _, _, _, _] (.head _))).1
 case hP0 => exact (N' (775, tabObj #[]) (List.mem_append_right [_, _, _, _, _, _, _, _] (.head _))).2.2
 case hz => exact Nat.le_trans (Nat.le_of_lt_succ (by omega : _ < 64)) (by decide)
 case hD => exact hDg
 case hDL => exact Heap.lt_size hDs
 case hDP => exact fun q => by rw [q, hT9b] at hDs; cases hDs
 case exc => exact fun _ _ h => h.elim
 case post =>
  rintro a s ⟨rfl, h, tk, m, rfl, hns, keep, grown⟩
  exact ⟨goodW_bool (F := ⟨hns, keep, hsz⟩) hg (raisesW_false (by wrow_none_raised)) (by wrow_post), grown, trivial⟩
end
end Mine.Internal
theorem PySem.Challenge.cw_sa0522_01_holds : PySem.Challenge.rw_sa0522_01.Holds :=
  Mine.Internal.T
