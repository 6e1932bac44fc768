import PyProof.Rows.All
import Wide.All
import OpenK.AllK
import Wide.FinOn
import KE.KDictSum
import KE.KSortKey
import KE.KLam
import PyProof.P3Eq
import PySem.Challenge.RW_xm0186_01
set_option Elab.async false

section
open PySem PySem.W PySem.Calls PyProof.Rows
set_option maxRecDepth 100000
set_option maxHeartbeats 0
namespace Mine
noncomputable section
noncomputable abbrev pw : Program := PySem.Challenge.pw_xm0186_01
noncomputable def topS (i : Nat) : Stmt := pw.main.body.getD i (.Pass ⟨0, 0, 0, 0⟩)
noncomputable def clsS : Stmt → List Stmt
  | .ClassDef _ _ _ b _ _ _ _ _ _ _ => b
  | _ => []
noncomputable def fnS (i : Nat) : Stmt := topS i
noncomputable def meS (i j : Nat) : Stmt := (clsS (topS i)).getD j (.Pass ⟨0, 0, 0, 0⟩)
noncomputable def argsS : Stmt → Arguments
  | .FunctionDef _ a _ _ _ _ _ _ _ _ => a
  | _ => { posonlyargs := [], args := [], vararg := none, kwonlyargs := [], kw_defaults := [], kwarg := none, defaults := [] }
noncomputable def bodyS : Stmt → List Stmt
  | .FunctionDef _ _ b _ _ _ _ _ _ _ => b
  | _ => []
noncomputable def scopeS : Stmt → Scope
  | .FunctionDef _ _ _ _ _ _ s _ _ _ => s
  | _ => { kind := .function, names := [], isGenerator := false, isCoroutine := false, more := [] }
noncomputable def asT : List Addr := [1, 3, 81, 82, 88, 89, 116, 117, 137, 138, 156, 157, 208, 209, 240, 241, 295, 296, 313, 314, 323, 324, 329, 335, 336, 349, 350, 356, 357, 370, 371, 377, 378, 384, 385, 391, 392, 398, 399, 403, 404, 406, 407, 424, 425, 427, 428, 436, 437, 445, 451, 452, 453, 459, 460, 473, 474, 487, 488, 492, 493, 499, 500, 506, 507, 534, 535, 565, 566, 583, 584, 586, 587, 604, 605, 611, 612, 632, 633, 637, 638, 693, 694, 700, 701, 703, 704, 714, 715, 721, 722, 728, 729, 756, 757, 759, 760, 798, 799, 805, 806, 812, 813, 819, 820, 826, 827, 833, 834, 840, 841, 847, 848, 854, 855, 861, 862, 868, 869, 913, 914, 931, 932, 934, 935, 952, 953, 959, 960, 1026, 1027, 1037, 1038, 1044, 1045, 1051, 1052, 1056, 1057, 1063, 1064, 1068, 1069, 1075, 1076, 1082, 1083, 1087, 1088, 1094, 1095]
noncomputable def KT (P : Params) : Frag := [
  (1, boot_o_1 P),
  (3, Obj.mk (Value.type "dict") none (Data.dict #[DictEntry.mk (PyData.keyHash P (Str.ofString "__name__")) (Value.str (Str.ofString "__name__") 165) (Value.str (Str.ofString "law_xm0186_01") 1619), DictEntry.mk (PyData.keyHash P (Str.ofString "__doc__")) (Value.str (Str.ofString "__doc__") 166) Value.none, DictEntry.mk (PyData.keyHash P (Str.ofString "__package__")) (Value.str (Str.ofString "__package__") 167) Value.none, DictEntry.mk (PyData.keyHash P (Str.ofString "__loader__")) (Value.str (Str.ofString "__loader__") 168) (Value.builtin "__main__.__loader__#opaque"), DictEntry.mk (PyData.keyHash P (Str.ofString "__spec__")) (Value.str (Str.ofString "__spec__") 169) Value.none, DictEntry.mk (PyData.keyHash P (Str.ofString "__annotations__")) (Value.str (Str.ofString "__annotations__") 170) (Value.ref 6), DictEntry.mk (PyData.keyHash P (Str.ofString "__builtins__")) (Value.str (Str.ofString "__builtins__") 171) (Value.ref 4), DictEntry.mk (PyData.keyHash P (Str.ofString "__file__")) (Value.str (Str.ofString "__file__") 173) (Value.str (Str.ofString "/claim/cut.py") 172), DictEntry.mk (PyData.keyHash P (Str.ofString "__cached__")) (Value.str (Str.ofString "__cached__") 174) Value.none, DictEntry.mk (PyData.keyHash P (Str.ofString "_wall")) (Value.str (Str.ofString "_wall") 193) (Value.ref 21), DictEntry.mk (PyData.keyHash P (Str.ofString "dequeue_all")) (Value.str (Str.ofString "dequeue_all") 204) (Value.ref 28), DictEntry.mk (PyData.keyHash P (Str.ofString "ChanError")) (Value.str (Str.ofString "ChanError") 238) (Value.ref 46), DictEntry.mk (PyData.keyHash P (Str.ofString "MachineFault")) (Value.str (Str.ofString "MachineFault") 264) (Value.ref 66), DictEntry.mk (PyData.keyHash P (Str.ofString "Meetings")) (Value.str (Str.ofString "Meetings") 472) (Value.ref 209), DictEntry.mk (PyData.keyHash P (Str.ofString "SEND_ON_CLOSED")) (Value.str (Str.ofString "SEND_ON_CLOSED") 476) (Value.str (Str.ofString "send on closed channel") 475), DictEntry.mk (PyData.keyHash P (Str.ofString "CLOSE_OF_CLOSED")) (Value.str (Str.ofString "CLOSE_OF_CLOSED") 478) (Value.str (Str.ofString "close of closed channel") 477), DictEntry.mk (PyData.keyHash P (Str.ofString "woken_row")) (Value.str (Str.ofString "woken_row") 486) (Value.ref 220), DictEntry.mk (PyData.keyHash P (Str.ofString "once_a_select")) (Value.str (Str.ofString "once_a_select") 497) (Value.ref 227), DictEntry.mk (PyData.keyHash P (Str.ofString "Channel")) (Value.str (Str.ofString "Channel") 590) (Value.ref 296), DictEntry.mk (PyData.keyHash P (Str.ofString "Choices")) (Value.str (Str.ofString "Choices") 630) (Value.ref 324), DictEntry.mk (PyData.keyHash P (Str.ofString "WHITE")) (Value.str (Str.ofString "WHITE") 634) (Value.str (Str.ofString "white") 633), DictEntry.mk (PyData.keyHash P (Str.ofString "GREY")) (Value.str (Str.ofString "GREY") 636) (Value.str (Str.ofString "grey") 635), DictEntry.mk (PyData.keyHash P (Str.ofString "BLACK")) (Value.str (Str.ofString "BLACK") 638) (Value.str (Str.ofString "black") 637), DictEntry.mk (PyData.keyHash P (Str.ofString "REFERRING")) (Value.str (Str.ofString "REFERRING") 644) (Value.ref 329), DictEntry.mk (PyData.keyHash P (Str.ofString "objects_within")) (Value.str (Str.ofString "objects_within") 656) (Value.ref 336), DictEntry.mk (PyData.keyHash P (Str.ofString "Collector")) (Value.str (Str.ofString "Collector") 760) (Value.ref 407), DictEntry.mk (PyData.keyHash P (Str.ofString "Kept")) (Value.str (Str.ofString "Kept") 795) (Value.ref 428), DictEntry.mk (PyData.keyHash P (Str.ofString "held_values")) (Value.str (Str.ofString "held_values") 801) (Value.ref 437), DictEntry.mk (PyData.keyHash P (Str.ofString "Heap")) (Value.str (Str.ofString "Heap") 969) (Value.ref 566), DictEntry.mk (PyData.keyHash P (Str.ofString "PlainChannel")) (Value.str (Str.ofString "PlainChannel") 1002) (Value.ref 587), DictEntry.mk (PyData.keyHash P (Str.ofString "PlainChannels")) (Value.str (Str.ofString "PlainChannels") 1156) (Value.ref 704), DictEntry.mk (PyData.keyHash P (Str.ofString "count_in_clock")) (Value.str (Str.ofString "count_in_clock") 1168) (Value.ref 715), DictEntry.mk (PyData.keyHash P (Str.ofString "joined_clocks")) (Value.str (Str.ofString "joined_clocks") 1179) (Value.ref 722), DictEntry.mk (PyData.keyHash P (Str.ofString "ticked_clock")) (Value.str (Str.ofString "ticked_clock") 1187) (Value.ref 729), DictEntry.mk (PyData.keyHash P (Str.ofString "READ")) (Value.str (Str.ofString "READ") 1191) (Value.str (Str.ofString "read") 1190), DictEntry.mk (PyData.keyHash P (Str.ofString "WRITE")) (Value.str (Str.ofString "WRITE") 1193) (Value.str (Str.ofString "write") 1192), DictEntry.mk (PyData.keyHash P (Str.ofString "is_path_ahead")) (Value.str (Str.ofString "is_path_ahead") 1201) (Value.ref 736), DictEntry.mk (PyData.keyHash P (Str.ofString "do_places_meet")) (Value.str (Str.ofString "do_places_meet") 1209) (Value.ref 743), DictEntry.mk (PyData.keyHash P (Str.ofString "Line")) (Value.str (Str.ofString "Line") 1241) (Value.ref 760), DictEntry.mk (PyData.keyHash P (Str.ofString "Place")) (Value.str (Str.ofString "Place") 1270) (Value.ref 781), DictEntry.mk (PyData.keyHash P (Str.ofString "Watch")) (Value.str (Str.ofString "Watch") 1470) (Value.ref 914), DictEntry.mk (PyData.keyHash P (Str.ofString "READY")) (Value.str (Str.ofString "READY") 1474) (Value.str (Str.ofString "ready") 1473), DictEntry.mk (PyData.keyHash P (Str.ofString "BLOCKED")) (Value.str (Str.ofString "BLOCKED") 1476) (Value.str (Str.ofString "blocked") 1475), DictEntry.mk (PyData.keyHash P (Str.ofString "ENDED")) (Value.str (Str.ofString "ENDED") 1478) (Value.str (Str.ofString "ended") 1477), DictEntry.mk (PyData.keyHash P (Str.ofString "Goroutine")) (Value.str (Str.ofString "Goroutine") 1511) (Value.ref 935), DictEntry.mk (PyData.keyHash P (Str.ofString "Scheduler")) (Value.str (Str.ofString "Scheduler") 1618) (Value.ref 1027), DictEntry.mk (PyData.keyHash P (Str.ofString "_law_reel")) (Value.str (Str.ofString "_law_reel") 1629) (Value.ref 1038), DictEntry.mk (PyData.keyHash P (Str.ofString "_law_wound")) (Value.str (Str.ofString "_law_wound") 1638) (Value.ref 1045), DictEntry.mk (PyData.keyHash P (Str.ofString "_law_one")) (Value.str (Str.ofString "_law_one") 1646) (Value.ref 1052), DictEntry.mk (PyData.keyHash P (Str.ofString "_law_waits_right")) (Value.str (Str.ofString "_law_waits_right") 1652) (Value.ref 1057), DictEntry.mk (PyData.keyHash P (Str.ofString "_law_begun")) (Value.str (Str.ofString "_law_begun") 1667) (Value.ref 1064), DictEntry.mk (PyData.keyHash P (Str.ofString "_law_alike")) (Value.str (Str.ofString "_law_alike") 1673) (Value.ref 1069), DictEntry.mk (PyData.keyHash P (Str.ofString "_law_send_right")) (Value.str (Str.ofString "_law_send_right") 1687) (Value.ref 1076), DictEntry.mk (PyData.keyHash P (Str.ofString "_law_receive_right")) (Value.str (Str.ofString "_law_receive_right") 1703) (Value.ref 1083), DictEntry.mk (PyData.keyHash P (Str.ofString "_law_forgotten_right")) (Value.str (Str.ofString "_law_forgotten_right") 1709) (Value.ref 1088), DictEntry.mk (PyData.keyHash P (Str.ofString "law")) (Value.str (Str.ofString "law") 1717) (Value.ref 1095)] 56) #[]),
  (81, Obj.mk (Value.type "code") none (Data.fields #[Value.str (Str.ofString "__init__") 279, Value.str (Str.ofString "Meetings.__init__") 280, Value.str (Str.ofString "/claim/cut.py") 281, Value.int 24 0, Value.int 4 0, Value.int 0 0, Value.int 0 0, Value.int 3 0, Value.ref 76, Value.bool true, Value.int 181 0, Value.ref 77, Value.none, Value.ref 78, Value.ref 79, Value.ref 80, Value.int 286 0, Value.int 24 0, Value.str (Str.ofString "/claim/cut.py") 287]) #[]),
  (82, ⟨.type "function", none, .func (fnOf "__init__" "Meetings.__init__" (argsS (meS 7 0)) (bodyS (meS 7 0)) (scopeS (meS 7 0)) (.none) (.none) (.none) (.str "chancore.meetings" 265) none (.ref 81) (.none)), #[]⟩),
  (88, Obj.mk (Value.type "code") none (Data.fields #[Value.str (Str.ofString "here") 289, Value.str (Str.ofString "Meetings.here") 290, Value.str (Str.ofString "/claim/cut.py") 291, Value.int 32 0, Value.int 1 0, Value.int 0 0, Value.int 0 0, Value.int 3 0, Value.ref 83, Value.bool true, Value.int 181 0, Value.ref 84, Value.none, Value.ref 85, Value.ref 86, Value.ref 87, Value.int 293 0, Value.int 32 0, Value.str (Str.ofString "/claim/cut.py") 294]) #[]),
  (89, ⟨.type "function", none, .func (fnOf "here" "Meetings.here" (argsS (meS 7 1)) (bodyS (meS 7 1)) (scopeS (meS 7 1)) (.none) (.none) (.none) (.str "chancore.meetings" 265) none (.ref 88) (.none)), #[]⟩),
  (116, Obj.mk (Value.type "code") none (Data.fields #[Value.str (Str.ofString "told_send") 324, Value.str (Str.ofString "Meetings.told_send") 325, Value.str (Str.ofString "/claim/cut.py") 326, Value.int 55 0, Value.int 3 0, Value.int 0 0, Value.int 0 0, Value.int 3 0, Value.ref 111, Value.bool true, Value.int 181 0, Value.ref 112, Value.none, Value.ref 113, Value.ref 114, Value.ref 115, Value.int 332 0, Value.int 55 0, Value.str (Str.ofString "/claim/cut.py") 333]) #[]),
  (117, ⟨.type "function", none, .func (fnOf "told_send" "Meetings.told_send" (argsS (meS 7 5)) (bodyS (meS 7 5)) (scopeS (meS 7 5)) (.none) (.none) (.none) (.str "chancore.meetings" 265) none (.ref 116) (.none)), #[]⟩),
  (137, Obj.mk (Value.type "code") none (Data.fields #[Value.str (Str.ofString "told_receive") 353, Value.str (Str.ofString "Meetings.told_receive") 354, Value.str (Str.ofString "/claim/cut.py") 355, Value.int 83 0, Value.int 3 0, Value.int 0 0, Value.int 0 0, Value.int 3 0, Value.ref 132, Value.bool true, Value.int 181 0, Value.ref 133, Value.none, Value.ref 134, Value.ref 135, Value.ref 136, Value.int 361 0, Value.int 83 0, Value.str (Str.ofString "/claim/cut.py") 362]) #[]),
  (138, ⟨.type "function", none, .func (fnOf "told_receive" "Meetings.told_receive" (argsS (meS 7 8)) (bodyS (meS 7 8)) (scopeS (meS 7 8)) (.none) (.none) (.none) (.str "chancore.meetings" 265) none (.ref 137) (.none)), #[]⟩),
  (156, Obj.mk (Value.type "code") none (Data.fields #[Value.str (Str.ofString "forgotten") 386, Value.str (Str.ofString "Meetings.forgotten") 387, Value.str (Str.ofString "/claim/cut.py") 388, Value.int 123 0, Value.int 2 0, Value.int 0 0, Value.int 0 0, Value.int 3 0, Value.ref 151, Value.bool true, Value.int 181 0, Value.ref 152, Value.none, Value.ref 153, Value.ref 154, Value.ref 155, Value.int 392 0, Value.int 123 0, Value.str (Str.ofString "/claim/cut.py") 393]) #[]),
  (157, ⟨.type "function", none, .func (fnOf "forgotten" "Meetings.forgotten" (argsS (meS 7 11)) (bodyS (meS 7 11)) (scopeS (meS 7 11)) (.none) (.none) (.none) (.str "chancore.meetings" 265) none (.ref 156) (.none)), #[]⟩),
  (208, Obj.mk (Value.type "dict") none (Data.dict #[DictEntry.mk (PyData.keyHash P (Str.ofString "__module__")) (Value.str (Str.ofString "__module__") 274) (Value.str (Str.ofString "chancore.meetings") 265), DictEntry.mk (PyData.keyHash P (Str.ofString "__firstlineno__")) (Value.str (Str.ofString "__firstlineno__") 278) (Value.int 22 277), DictEntry.mk (PyData.keyHash P (Str.ofString "__init__")) (Value.str (Str.ofString "__init__") 288) (Value.ref 82), DictEntry.mk (PyData.keyHash P (Str.ofString "here")) (Value.str (Str.ofString "here") 295) (Value.ref 89), DictEntry.mk (PyData.keyHash P (Str.ofString "channel")) (Value.str (Str.ofString "channel") 303) (Value.ref 96), DictEntry.mk (PyData.keyHash P (Str.ofString "send")) (Value.str (Str.ofString "send") 313) (Value.ref 103), DictEntry.mk (PyData.keyHash P (Str.ofString "after_send")) (Value.str (Str.ofString "after_send") 323) (Value.ref 110), DictEntry.mk (PyData.keyHash P (Str.ofString "told_send")) (Value.str (Str.ofString "told_send") 334) (Value.ref 117), DictEntry.mk (PyData.keyHash P (Str.ofString "receive")) (Value.str (Str.ofString "receive") 343) (Value.ref 124), DictEntry.mk (PyData.keyHash P (Str.ofString "after_receive")) (Value.str (Str.ofString "after_receive") 352) (Value.ref 131), DictEntry.mk (PyData.keyHash P (Str.ofString "told_receive")) (Value.str (Str.ofString "told_receive") 363) (Value.ref 138), DictEntry.mk (PyData.keyHash P (Str.ofString "close")) (Value.str (Str.ofString "close") 369) (Value.ref 143), DictEntry.mk (PyData.keyHash P (Str.ofString "wake")) (Value.str (Str.ofString "wake") 385) (Value.ref 150), DictEntry.mk (PyData.keyHash P (Str.ofString "forgotten")) (Value.str (Str.ofString "forgotten") 394) (Value.ref 157), DictEntry.mk (PyData.keyHash P (Str.ofString "choose")) (Value.str (Str.ofString "choose") 404) (Value.ref 164), DictEntry.mk (PyData.keyHash P (Str.ofString "gate")) (Value.str (Str.ofString "gate") 413) (Value.ref 171), DictEntry.mk (PyData.keyHash P (Str.ofString "enter")) (Value.str (Str.ofString "enter") 422) (Value.ref 178), DictEntry.mk (PyData.keyHash P (Str.ofString "leave")) (Value.str (Str.ofString "leave") 430) (Value.ref 185), DictEntry.mk (PyData.keyHash P (Str.ofString "passed")) (Value.str (Str.ofString "passed") 439) (Value.ref 192), DictEntry.mk (PyData.keyHash P (Str.ofString "let_through")) (Value.str (Str.ofString "let_through") 448) (Value.ref 199), DictEntry.mk (PyData.keyHash P (Str.ofString "sync")) (Value.str (Str.ofString "sync") 458) (Value.ref 206), DictEntry.mk (PyData.keyHash P (Str.ofString "__static_attributes__")) (Value.str (Str.ofString "__static_attributes__") 465) (Value.ref 207), DictEntry.mk (PyData.keyHash P (Str.ofString "__dict__")) (Value.str (Str.ofString "__dict__") 467) (Value.ref 210), DictEntry.mk (PyData.keyHash P (Str.ofString "__weakref__")) (Value.str (Str.ofString "__weakref__") 469) (Value.ref 211), DictEntry.mk (PyData.keyHash P (Str.ofString "__doc__")) (Value.str (Str.ofString "__doc__") 470) Value.none] 4) #[]),
  (209, Obj.mk (Value.type "type") none (Data.cls (ClassData.mk (Str.ofString "Meetings") [Value.type "object"] [Value.ref 209, Value.type "object"] 208 (Str.ofString "Meetings") true [] [] false none false)) #[none, none, some (Value.str (Str.ofString "Meetings") 267), some (Value.str (Str.ofString "Meetings") 275), some (Value.builtin "object.__new__"), some (Value.bool true)]),
  (240, Obj.mk (Value.type "code") none (Data.fields #[Value.str (Str.ofString "__init__") 510, Value.str (Str.ofString "Channel.__init__") 511, Value.str (Str.ofString "/claim/cut.py") 512, Value.int 162 0, Value.int 2 0, Value.int 0 0, Value.int 0 0, Value.int 3 0, Value.ref 235, Value.bool true, Value.int 181 0, Value.ref 236, Value.none, Value.ref 237, Value.ref 238, Value.ref 239, Value.int 515 0, Value.int 162 0, Value.str (Str.ofString "/claim/cut.py") 516]) #[]),
  (241, ⟨.type "function", none, .func (fnOf "__init__" "Channel.__init__" (argsS (meS 13 0)) (bodyS (meS 13 0)) (scopeS (meS 13 0)) (.none) (.none) (.none) (.str "chancore.channels" 473) none (.ref 240) (.none)), #[]⟩),
  (295, Obj.mk (Value.type "dict") none (Data.dict #[DictEntry.mk (PyData.keyHash P (Str.ofString "__module__")) (Value.str (Str.ofString "__module__") 505) (Value.str (Str.ofString "chancore.channels") 473), DictEntry.mk (PyData.keyHash P (Str.ofString "__firstlineno__")) (Value.str (Str.ofString "__firstlineno__") 509) (Value.int 160 508), DictEntry.mk (PyData.keyHash P (Str.ofString "__init__")) (Value.str (Str.ofString "__init__") 517) (Value.ref 241), DictEntry.mk (PyData.keyHash P (Str.ofString "can_send")) (Value.str (Str.ofString "can_send") 524) (Value.ref 248), DictEntry.mk (PyData.keyHash P (Str.ofString "can_receive")) (Value.str (Str.ofString "can_receive") 531) (Value.ref 255), DictEntry.mk (PyData.keyHash P (Str.ofString "offer")) (Value.str (Str.ofString "offer") 540) (Value.ref 262), DictEntry.mk (PyData.keyHash P (Str.ofString "take")) (Value.str (Str.ofString "take") 550) (Value.ref 269), DictEntry.mk (PyData.keyHash P (Str.ofString "filled")) (Value.str (Str.ofString "filled") 558) (Value.ref 276), DictEntry.mk (PyData.keyHash P (Str.ofString "close")) (Value.str (Str.ofString "close") 564) (Value.ref 281), DictEntry.mk (PyData.keyHash P (Str.ofString "forget")) (Value.str (Str.ofString "forget") 570) (Value.ref 286), DictEntry.mk (PyData.keyHash P (Str.ofString "size")) (Value.str (Str.ofString "size") 577) (Value.ref 293), DictEntry.mk (PyData.keyHash P (Str.ofString "__static_attributes__")) (Value.str (Str.ofString "__static_attributes__") 583) (Value.ref 294), DictEntry.mk (PyData.keyHash P (Str.ofString "__dict__")) (Value.str (Str.ofString "__dict__") 585) (Value.ref 297), DictEntry.mk (PyData.keyHash P (Str.ofString "__weakref__")) (Value.str (Str.ofString "__weakref__") 587) (Value.ref 298), DictEntry.mk (PyData.keyHash P (Str.ofString "__doc__")) (Value.str (Str.ofString "__doc__") 588) Value.none] 4) #[]),
  (296, Obj.mk (Value.type "type") none (Data.cls (ClassData.mk (Str.ofString "Channel") [Value.type "object"] [Value.ref 296, Value.type "object"] 295 (Str.ofString "Channel") true [] [] false none false)) #[none, none, some (Value.str (Str.ofString "Channel") 498), some (Value.str (Str.ofString "Channel") 506), some (Value.builtin "object.__new__"), some (Value.bool true)]),
  (313, Obj.mk (Value.type "code") none (Data.fields #[Value.str (Str.ofString "__init__") 605, Value.str (Str.ofString "Choices.__init__") 606, Value.str (Str.ofString "/claim/cut.py") 607, Value.int 224 0, Value.int 2 0, Value.int 0 0, Value.int 0 0, Value.int 3 0, Value.ref 308, Value.bool true, Value.int 181 0, Value.ref 309, Value.none, Value.ref 310, Value.ref 311, Value.ref 312, Value.int 610 0, Value.int 224 0, Value.str (Str.ofString "/claim/cut.py") 611]) #[]),
  (314, ⟨.type "function", none, .func (fnOf "__init__" "Choices.__init__" (argsS (meS 15 0)) (bodyS (meS 15 0)) (scopeS (meS 15 0)) (.none) (.none) (.none) (.str "chancore.choices" 591) none (.ref 313) (.none)), #[]⟩),
  (323, Obj.mk (Value.type "dict") none (Data.dict #[DictEntry.mk (PyData.keyHash P (Str.ofString "__module__")) (Value.str (Str.ofString "__module__") 600) (Value.str (Str.ofString "chancore.choices") 591), DictEntry.mk (PyData.keyHash P (Str.ofString "__firstlineno__")) (Value.str (Str.ofString "__firstlineno__") 604) (Value.int 222 603), DictEntry.mk (PyData.keyHash P (Str.ofString "__init__")) (Value.str (Str.ofString "__init__") 612) (Value.ref 314), DictEntry.mk (PyData.keyHash P (Str.ofString "pick")) (Value.str (Str.ofString "pick") 620) (Value.ref 321), DictEntry.mk (PyData.keyHash P (Str.ofString "__static_attributes__")) (Value.str (Str.ofString "__static_attributes__") 623) (Value.ref 322), DictEntry.mk (PyData.keyHash P (Str.ofString "__dict__")) (Value.str (Str.ofString "__dict__") 625) (Value.ref 325), DictEntry.mk (PyData.keyHash P (Str.ofString "__weakref__")) (Value.str (Str.ofString "__weakref__") 627) (Value.ref 326), DictEntry.mk (PyData.keyHash P (Str.ofString "__doc__")) (Value.str (Str.ofString "__doc__") 628) Value.none] 4) #[]),
  (324, Obj.mk (Value.type "type") none (Data.cls (ClassData.mk (Str.ofString "Choices") [Value.type "object"] [Value.ref 324, Value.type "object"] 323 (Str.ofString "Choices") true [] [] false none false)) #[none, none, some (Value.str (Str.ofString "Choices") 593), some (Value.str (Str.ofString "Choices") 601), some (Value.builtin "object.__new__"), some (Value.bool true)]),
  (329, Obj.mk (Value.type "tuple") none (Data.seq #[Value.str (Str.ofString "ptr") 639, Value.str (Str.ofString "slice") 640, Value.str (Str.ofString "map") 641, Value.str (Str.ofString "chan") 642, Value.str (Str.ofString "iter") 643]) #[]),
  (335, Obj.mk (Value.type "code") none (Data.fields #[Value.str (Str.ofString "objects_within") 645, Value.str (Str.ofString "objects_within") 646, Value.str (Str.ofString "/claim/cut.py") 647, Value.int 235 0, Value.int 1 0, Value.int 0 0, Value.int 0 0, Value.int 3 0, Value.ref 330, Value.bool true, Value.int 181 0, Value.ref 331, Value.none, Value.ref 332, Value.ref 333, Value.ref 334, Value.int 654 0, Value.int 235 0, Value.str (Str.ofString "/claim/cut.py") 655]) #[]),
  (336, ⟨.type "function", none, .func (fnOf "objects_within" "objects_within" (argsS (fnS 21)) (bodyS (fnS 21)) (scopeS (fnS 21)) (.none) (.none) (.none) (.str "chancore.collector" 631) none (.ref 335) (.none)), #[]⟩),
  (349, Obj.mk (Value.type "code") none (Data.fields #[Value.str (Str.ofString "__init__") 669, Value.str (Str.ofString "Collector.__init__") 670, Value.str (Str.ofString "/claim/cut.py") 671, Value.int 253 0, Value.int 3 0, Value.int 0 0, Value.int 0 0, Value.int 3 0, Value.ref 344, Value.bool true, Value.int 181 0, Value.ref 345, Value.none, Value.ref 346, Value.ref 347, Value.ref 348, Value.int 675 0, Value.int 253 0, Value.str (Str.ofString "/claim/cut.py") 676]) #[]),
  (350, ⟨.type "function", none, .func (fnOf "__init__" "Collector.__init__" (argsS (meS 22 0)) (bodyS (meS 22 0)) (scopeS (meS 22 0)) (.none) (.none) (.none) (.str "chancore.collector" 631) none (.ref 349) (.none)), #[]⟩),
  (356, Obj.mk (Value.type "code") none (Data.fields #[Value.str (Str.ofString "begin") 678, Value.str (Str.ofString "Collector.begin") 679, Value.str (Str.ofString "/claim/cut.py") 680, Value.int 261 0, Value.int 1 0, Value.int 0 0, Value.int 0 0, Value.int 3 0, Value.ref 351, Value.bool true, Value.int 181 0, Value.ref 352, Value.none, Value.ref 353, Value.ref 354, Value.ref 355, Value.int 684 0, Value.int 261 0, Value.str (Str.ofString "/claim/cut.py") 685]) #[]),
  (357, ⟨.type "function", none, .func (fnOf "begin" "Collector.begin" (argsS (meS 22 1)) (bodyS (meS 22 1)) (scopeS (meS 22 1)) (.none) (.none) (.none) (.str "chancore.collector" 631) none (.ref 356) (.none)), #[]⟩),
  (370, Obj.mk (Value.type "code") none (Data.fields #[Value.str (Str.ofString "shade") 695, Value.str (Str.ofString "Collector.shade") 696, Value.str (Str.ofString "/claim/cut.py") 697, Value.int 276 0, Value.int 2 0, Value.int 0 0, Value.int 0 0, Value.int 3 0, Value.ref 365, Value.bool true, Value.int 181 0, Value.ref 366, Value.none, Value.ref 367, Value.ref 368, Value.ref 369, Value.int 701 0, Value.int 276 0, Value.str (Str.ofString "/claim/cut.py") 702]) #[]),
  (371, ⟨.type "function", none, .func (fnOf "shade" "Collector.shade" (argsS (meS 22 3)) (bodyS (meS 22 3)) (scopeS (meS 22 3)) (.none) (.none) (.none) (.str "chancore.collector" 631) none (.ref 370) (.none)), #[]⟩),
  (377, Obj.mk (Value.type "code") none (Data.fields #[Value.str (Str.ofString "step") 704, Value.str (Str.ofString "Collector.step") 705, Value.str (Str.ofString "/claim/cut.py") 706, Value.int 282 0, Value.int 2 0, Value.int 0 0, Value.int 0 0, Value.int 3 0, Value.ref 372, Value.bool true, Value.int 181 0, Value.ref 373, Value.none, Value.ref 374, Value.ref 375, Value.ref 376, Value.int 712 0, Value.int 282 0, Value.str (Str.ofString "/claim/cut.py") 713]) #[]),
  (378, ⟨.type "function", none, .func (fnOf "step" "Collector.step" (argsS (meS 22 4)) (bodyS (meS 22 4)) (scopeS (meS 22 4)) (.none) (.none) (.none) (.str "chancore.collector" 631) none (.ref 377) (.none)), #[]⟩),
  (384, Obj.mk (Value.type "code") none (Data.fields #[Value.str (Str.ofString "barrier") 715, Value.str (Str.ofString "Collector.barrier") 716, Value.str (Str.ofString "/claim/cut.py") 717, Value.int 292 0, Value.int 3 0, Value.int 0 0, Value.int 0 0, Value.int 3 0, Value.ref 379, Value.bool true, Value.int 181 0, Value.ref 380, Value.none, Value.ref 381, Value.ref 382, Value.ref 383, Value.int 721 0, Value.int 292 0, Value.str (Str.ofString "/claim/cut.py") 722]) #[]),
  (385, ⟨.type "function", none, .func (fnOf "barrier" "Collector.barrier" (argsS (meS 22 5)) (bodyS (meS 22 5)) (scopeS (meS 22 5)) (.none) (.none) (.none) (.str "chancore.collector" 631) none (.ref 384) (.none)), #[]⟩),
  (391, Obj.mk (Value.type "code") none (Data.fields #[Value.str (Str.ofString "made") 724, Value.str (Str.ofString "Collector.made") 725, Value.str (Str.ofString "/claim/cut.py") 726, Value.int 296 0, Value.int 2 0, Value.int 0 0, Value.int 0 0, Value.int 3 0, Value.ref 386, Value.bool true, Value.int 181 0, Value.ref 387, Value.none, Value.ref 388, Value.ref 389, Value.ref 390, Value.int 729 0, Value.int 296 0, Value.str (Str.ofString "/claim/cut.py") 730]) #[]),
  (392, ⟨.type "function", none, .func (fnOf "made" "Collector.made" (argsS (meS 22 6)) (bodyS (meS 22 6)) (scopeS (meS 22 6)) (.none) (.none) (.none) (.str "chancore.collector" 631) none (.ref 391) (.none)), #[]⟩),
  (398, Obj.mk (Value.type "code") none (Data.fields #[Value.str (Str.ofString "gone") 732, Value.str (Str.ofString "Collector.gone") 733, Value.str (Str.ofString "/claim/cut.py") 734, Value.int 300 0, Value.int 2 0, Value.int 0 0, Value.int 0 0, Value.int 3 0, Value.ref 393, Value.bool true, Value.int 181 0, Value.ref 394, Value.none, Value.ref 395, Value.ref 396, Value.ref 397, Value.int 738 0, Value.int 300 0, Value.str (Str.ofString "/claim/cut.py") 739]) #[]),
  (399, ⟨.type "function", none, .func (fnOf "gone" "Collector.gone" (argsS (meS 22 7)) (bodyS (meS 22 7)) (scopeS (meS 22 7)) (.none) (.none) (.none) (.str "chancore.collector" 631) none (.ref 398) (.none)), #[]⟩),
  (403, Obj.mk (Value.type "code") none (Data.fields #[Value.str (Str.ofString "finish") 741, Value.str (Str.ofString "Collector.finish") 742, Value.str (Str.ofString "/claim/cut.py") 743, Value.int 310 0, Value.int 1 0, Value.int 0 0, Value.int 0 0, Value.int 3 0, Value.ref 400, Value.bool true, Value.int 181 0, Value.ref 401, Value.none, Value.none, Value.none, Value.ref 402, Value.int 744 0, Value.int 310 0, Value.str (Str.ofString "/claim/cut.py") 745]) #[]),
  (404, ⟨.type "function", none, .func (fnOf "finish" "Collector.finish" (argsS (meS 22 8)) (bodyS (meS 22 8)) (scopeS (meS 22 8)) (.none) (.none) (.none) (.str "chancore.collector" 631) none (.ref 403) (.none)), #[]⟩),
  (406, Obj.mk (Value.type "dict") none (Data.dict #[DictEntry.mk (PyData.keyHash P (Str.ofString "__module__")) (Value.str (Str.ofString "__module__") 664) (Value.str (Str.ofString "chancore.collector") 631), DictEntry.mk (PyData.keyHash P (Str.ofString "__firstlineno__")) (Value.str (Str.ofString "__firstlineno__") 668) (Value.int 251 667), DictEntry.mk (PyData.keyHash P (Str.ofString "__init__")) (Value.str (Str.ofString "__init__") 677) (Value.ref 350), DictEntry.mk (PyData.keyHash P (Str.ofString "begin")) (Value.str (Str.ofString "begin") 686) (Value.ref 357), DictEntry.mk (PyData.keyHash P (Str.ofString "colour_of")) (Value.str (Str.ofString "colour_of") 694) (Value.ref 364), DictEntry.mk (PyData.keyHash P (Str.ofString "shade")) (Value.str (Str.ofString "shade") 703) (Value.ref 371), DictEntry.mk (PyData.keyHash P (Str.ofString "step")) (Value.str (Str.ofString "step") 714) (Value.ref 378), DictEntry.mk (PyData.keyHash P (Str.ofString "barrier")) (Value.str (Str.ofString "barrier") 723) (Value.ref 385), DictEntry.mk (PyData.keyHash P (Str.ofString "made")) (Value.str (Str.ofString "made") 731) (Value.ref 392), DictEntry.mk (PyData.keyHash P (Str.ofString "gone")) (Value.str (Str.ofString "gone") 740) (Value.ref 399), DictEntry.mk (PyData.keyHash P (Str.ofString "finish")) (Value.str (Str.ofString "finish") 746) (Value.ref 404), DictEntry.mk (PyData.keyHash P (Str.ofString "__static_attributes__")) (Value.str (Str.ofString "__static_attributes__") 753) (Value.ref 405), DictEntry.mk (PyData.keyHash P (Str.ofString "__dict__")) (Value.str (Str.ofString "__dict__") 755) (Value.ref 408), DictEntry.mk (PyData.keyHash P (Str.ofString "__weakref__")) (Value.str (Str.ofString "__weakref__") 757) (Value.ref 409), DictEntry.mk (PyData.keyHash P (Str.ofString "__doc__")) (Value.str (Str.ofString "__doc__") 758) Value.none] 4) #[]),
  (407, Obj.mk (Value.type "type") none (Data.cls (ClassData.mk (Str.ofString "Collector") [Value.type "object"] [Value.ref 407, Value.type "object"] 406 (Str.ofString "Collector") true [] [] false none false)) #[none, none, some (Value.str (Str.ofString "Collector") 657), some (Value.str (Str.ofString "Collector") 665), some (Value.builtin "object.__new__"), some (Value.bool true)]),
  (424, Obj.mk (Value.type "code") none (Data.fields #[Value.str (Str.ofString "__init__") 775, Value.str (Str.ofString "Kept.__init__") 776, Value.str (Str.ofString "/claim/cut.py") 777, Value.int 324 0, Value.int 4 0, Value.int 0 0, Value.int 0 0, Value.int 3 0, Value.ref 419, Value.bool true, Value.int 181 0, Value.ref 420, Value.none, Value.ref 421, Value.ref 422, Value.ref 423, Value.int 782 0, Value.int 324 0, Value.str (Str.ofString "/claim/cut.py") 783]) #[]),
  (425, ⟨.type "function", none, .func (fnOf "__init__" "Kept.__init__" (argsS (meS 24 0)) (bodyS (meS 24 0)) (scopeS (meS 24 0)) (.none) (.none) (.none) (.str "chancore.heap" 761) none (.ref 424) (.none)), #[]⟩),
  (427, Obj.mk (Value.type "dict") none (Data.dict #[DictEntry.mk (PyData.keyHash P (Str.ofString "__module__")) (Value.str (Str.ofString "__module__") 770) (Value.str (Str.ofString "chancore.heap") 761), DictEntry.mk (PyData.keyHash P (Str.ofString "__firstlineno__")) (Value.str (Str.ofString "__firstlineno__") 774) (Value.int 322 773), DictEntry.mk (PyData.keyHash P (Str.ofString "__init__")) (Value.str (Str.ofString "__init__") 784) (Value.ref 425), DictEntry.mk (PyData.keyHash P (Str.ofString "__static_attributes__")) (Value.str (Str.ofString "__static_attributes__") 788) (Value.ref 426), DictEntry.mk (PyData.keyHash P (Str.ofString "__dict__")) (Value.str (Str.ofString "__dict__") 790) (Value.ref 429), DictEntry.mk (PyData.keyHash P (Str.ofString "__weakref__")) (Value.str (Str.ofString "__weakref__") 792) (Value.ref 430), DictEntry.mk (PyData.keyHash P (Str.ofString "__doc__")) (Value.str (Str.ofString "__doc__") 793) Value.none] 4) #[]),
  (428, Obj.mk (Value.type "type") none (Data.cls (ClassData.mk (Str.ofString "Kept") [Value.type "object"] [Value.ref 428, Value.type "object"] 427 (Str.ofString "Kept") true [] [] false none false)) #[none, none, some (Value.str (Str.ofString "Kept") 763), some (Value.str (Str.ofString "Kept") 771), some (Value.builtin "object.__new__"), some (Value.bool true)]),
  (436, Obj.mk (Value.type "code") none (Data.fields #[Value.str (Str.ofString "held_values") 796, Value.str (Str.ofString "held_values") 797, Value.str (Str.ofString "/claim/cut.py") 798, Value.int 328 0, Value.int 2 0, Value.int 0 0, Value.int 0 0, Value.int 3 0, Value.ref 433, Value.bool true, Value.int 181 0, Value.ref 434, Value.none, Value.none, Value.none, Value.ref 435, Value.int 799 0, Value.int 328 0, Value.str (Str.ofString "/claim/cut.py") 800]) #[]),
  (437, ⟨.type "function", none, .func (fnOf "held_values" "held_values" (argsS (fnS 25)) (bodyS (fnS 25)) (scopeS (fnS 25)) (.none) (.none) (.none) (.str "chancore.heap" 761) none (.ref 436) (.none)), #[]⟩),
  (445, Obj.mk (Value.type "tuple") none (Data.seq #[Value.none]) #[]),
  (451, Obj.mk (Value.type "code") none (Data.fields #[Value.str (Str.ofString "__init__") 814, Value.str (Str.ofString "Heap.__init__") 815, Value.str (Str.ofString "/claim/cut.py") 816, Value.int 339 0, Value.int 2 0, Value.int 0 0, Value.int 0 0, Value.int 3 0, Value.ref 446, Value.bool true, Value.int 181 0, Value.ref 447, Value.none, Value.ref 448, Value.ref 449, Value.ref 450, Value.int 819 0, Value.int 339 0, Value.str (Str.ofString "/claim/cut.py") 820]) #[]),
  (452, ⟨.type "function", none, .func (fnOf "__init__" "Heap.__init__" (argsS (meS 26 0)) (bodyS (meS 26 0)) (scopeS (meS 26 0)) (.ref 445) (.none) (.none) (.str "chancore.heap" 761) none (.ref 451) (.none)), #[]⟩),
  (453, Obj.mk (Value.type "tuple") none (Data.seq #[Value.str (Str.ofString "heap") 822]) #[]),
  (459, Obj.mk (Value.type "code") none (Data.fields #[Value.str (Str.ofString "make") 823, Value.str (Str.ofString "Heap.make") 824, Value.str (Str.ofString "/claim/cut.py") 825, Value.int 346 0, Value.int 4 0, Value.int 0 0, Value.int 0 0, Value.int 3 0, Value.ref 454, Value.bool true, Value.int 181 0, Value.ref 455, Value.none, Value.ref 456, Value.ref 457, Value.ref 458, Value.int 830 0, Value.int 346 0, Value.str (Str.ofString "/claim/cut.py") 831]) #[]),
  (460, ⟨.type "function", none, .func (fnOf "make" "Heap.make" (argsS (meS 26 1)) (bodyS (meS 26 1)) (scopeS (meS 26 1)) (.ref 453) (.none) (.none) (.str "chancore.heap" 761) none (.ref 459) (.none)), #[]⟩),
  (473, Obj.mk (Value.type "code") none (Data.fields #[Value.str (Str.ofString "kept_at") 842, Value.str (Str.ofString "Heap.kept_at") 843, Value.str (Str.ofString "/claim/cut.py") 844, Value.int 356 0, Value.int 2 0, Value.int 0 0, Value.int 0 0, Value.int 3 0, Value.ref 468, Value.bool true, Value.int 181 0, Value.ref 469, Value.none, Value.ref 470, Value.ref 471, Value.ref 472, Value.int 847 0, Value.int 356 0, Value.str (Str.ofString "/claim/cut.py") 848]) #[]),
  (474, ⟨.type "function", none, .func (fnOf "kept_at" "Heap.kept_at" (argsS (meS 26 3)) (bodyS (meS 26 3)) (scopeS (meS 26 3)) (.none) (.none) (.none) (.str "chancore.heap" 761) none (.ref 473) (.none)), #[]⟩),
  (487, Obj.mk (Value.type "code") none (Data.fields #[Value.str (Str.ofString "content") 858, Value.str (Str.ofString "Heap.content") 859, Value.str (Str.ofString "/claim/cut.py") 860, Value.int 364 0, Value.int 2 0, Value.int 0 0, Value.int 0 0, Value.int 3 0, Value.ref 482, Value.bool true, Value.int 181 0, Value.ref 483, Value.none, Value.ref 484, Value.ref 485, Value.ref 486, Value.int 863 0, Value.int 364 0, Value.str (Str.ofString "/claim/cut.py") 864]) #[]),
  (488, ⟨.type "function", none, .func (fnOf "content" "Heap.content" (argsS (meS 26 5)) (bodyS (meS 26 5)) (scopeS (meS 26 5)) (.none) (.none) (.none) (.str "chancore.heap" 761) none (.ref 487) (.none)), #[]⟩),
  (492, Obj.mk (Value.type "code") none (Data.fields #[Value.str (Str.ofString "numbers") 866, Value.str (Str.ofString "Heap.numbers") 867, Value.str (Str.ofString "/claim/cut.py") 868, Value.int 367 0, Value.int 1 0, Value.int 0 0, Value.int 0 0, Value.int 3 0, Value.ref 489, Value.bool true, Value.int 181 0, Value.ref 490, Value.none, Value.none, Value.none, Value.ref 491, Value.int 869 0, Value.int 367 0, Value.str (Str.ofString "/claim/cut.py") 870]) #[]),
  (493, ⟨.type "function", none, .func (fnOf "numbers" "Heap.numbers" (argsS (meS 26 6)) (bodyS (meS 26 6)) (scopeS (meS 26 6)) (.none) (.none) (.none) (.str "chancore.heap" 761) none (.ref 492) (.none)), #[]⟩),
  (499, Obj.mk (Value.type "code") none (Data.fields #[Value.str (Str.ofString "values_in") 872, Value.str (Str.ofString "Heap.values_in") 873, Value.str (Str.ofString "/claim/cut.py") 874, Value.int 371 0, Value.int 2 0, Value.int 0 0, Value.int 0 0, Value.int 3 0, Value.ref 494, Value.bool true, Value.int 181 0, Value.ref 495, Value.none, Value.ref 496, Value.ref 497, Value.ref 498, Value.int 878 0, Value.int 371 0, Value.str (Str.ofString "/claim/cut.py") 879]) #[]),
  (500, ⟨.type "function", none, .func (fnOf "values_in" "Heap.values_in" (argsS (meS 26 7)) (bodyS (meS 26 7)) (scopeS (meS 26 7)) (.none) (.none) (.none) (.str "chancore.heap" 761) none (.ref 499) (.none)), #[]⟩),
  (506, Obj.mk (Value.type "code") none (Data.fields #[Value.str (Str.ofString "free") 881, Value.str (Str.ofString "Heap.free") 882, Value.str (Str.ofString "/claim/cut.py") 883, Value.int 375 0, Value.int 2 0, Value.int 0 0, Value.int 0 0, Value.int 3 0, Value.ref 501, Value.bool true, Value.int 181 0, Value.ref 502, Value.none, Value.ref 503, Value.ref 504, Value.ref 505, Value.int 887 0, Value.int 375 0, Value.str (Str.ofString "/claim/cut.py") 888]) #[]),
  (507, ⟨.type "function", none, .func (fnOf "free" "Heap.free" (argsS (meS 26 8)) (bodyS (meS 26 8)) (scopeS (meS 26 8)) (.none) (.none) (.none) (.str "chancore.heap" 761) none (.ref 506) (.none)), #[]⟩),
  (534, Obj.mk (Value.type "code") none (Data.fields #[Value.str (Str.ofString "overwritten") 914, Value.str (Str.ofString "Heap.overwritten") 915, Value.str (Str.ofString "/claim/cut.py") 916, Value.int 391 0, Value.int 3 0, Value.int 0 0, Value.int 0 0, Value.int 3 0, Value.ref 529, Value.bool true, Value.int 181 0, Value.ref 530, Value.none, Value.ref 531, Value.ref 532, Value.ref 533, Value.int 920 0, Value.int 391 0, Value.str (Str.ofString "/claim/cut.py") 921]) #[]),
  (535, ⟨.type "function", none, .func (fnOf "overwritten" "Heap.overwritten" (argsS (meS 26 12)) (bodyS (meS 26 12)) (scopeS (meS 26 12)) (.none) (.none) (.none) (.str "chancore.heap" 761) none (.ref 534) (.none)), #[]⟩),
  (565, Obj.mk (Value.type "dict") none (Data.dict #[DictEntry.mk (PyData.keyHash P (Str.ofString "__module__")) (Value.str (Str.ofString "__module__") 809) (Value.str (Str.ofString "chancore.heap") 761), DictEntry.mk (PyData.keyHash P (Str.ofString "__firstlineno__")) (Value.str (Str.ofString "__firstlineno__") 813) (Value.int 337 812), DictEntry.mk (PyData.keyHash P (Str.ofString "__init__")) (Value.str (Str.ofString "__init__") 821) (Value.ref 452), DictEntry.mk (PyData.keyHash P (Str.ofString "make")) (Value.str (Str.ofString "make") 832) (Value.ref 460), DictEntry.mk (PyData.keyHash P (Str.ofString "make_named")) (Value.str (Str.ofString "make_named") 841) (Value.ref 467), DictEntry.mk (PyData.keyHash P (Str.ofString "kept_at")) (Value.str (Str.ofString "kept_at") 849) (Value.ref 474), DictEntry.mk (PyData.keyHash P (Str.ofString "kind")) (Value.str (Str.ofString "kind") 857) (Value.ref 481), DictEntry.mk (PyData.keyHash P (Str.ofString "content")) (Value.str (Str.ofString "content") 865) (Value.ref 488), DictEntry.mk (PyData.keyHash P (Str.ofString "numbers")) (Value.str (Str.ofString "numbers") 871) (Value.ref 493), DictEntry.mk (PyData.keyHash P (Str.ofString "values_in")) (Value.str (Str.ofString "values_in") 880) (Value.ref 500), DictEntry.mk (PyData.keyHash P (Str.ofString "free")) (Value.str (Str.ofString "free") 889) (Value.ref 507), DictEntry.mk (PyData.keyHash P (Str.ofString "drop")) (Value.str (Str.ofString "drop") 897) (Value.ref 514), DictEntry.mk (PyData.keyHash P (Str.ofString "looked")) (Value.str (Str.ofString "looked") 905) (Value.ref 521), DictEntry.mk (PyData.keyHash P (Str.ofString "touched")) (Value.str (Str.ofString "touched") 913) (Value.ref 528), DictEntry.mk (PyData.keyHash P (Str.ofString "overwritten")) (Value.str (Str.ofString "overwritten") 922) (Value.ref 535), DictEntry.mk (PyData.keyHash P (Str.ofString "cell")) (Value.str (Str.ofString "cell") 931) (Value.ref 542), DictEntry.mk (PyData.keyHash P (Str.ofString "peek")) (Value.str (Str.ofString "peek") 939) (Value.ref 549), DictEntry.mk (PyData.keyHash P (Str.ofString "load")) (Value.str (Str.ofString "load") 947) (Value.ref 556), DictEntry.mk (PyData.keyHash P (Str.ofString "store")) (Value.str (Str.ofString "store") 956) (Value.ref 563), DictEntry.mk (PyData.keyHash P (Str.ofString "__static_attributes__")) (Value.str (Str.ofString "__static_attributes__") 962) (Value.ref 564), DictEntry.mk (PyData.keyHash P (Str.ofString "__dict__")) (Value.str (Str.ofString "__dict__") 964) (Value.ref 567), DictEntry.mk (PyData.keyHash P (Str.ofString "__weakref__")) (Value.str (Str.ofString "__weakref__") 966) (Value.ref 568), DictEntry.mk (PyData.keyHash P (Str.ofString "__doc__")) (Value.str (Str.ofString "__doc__") 967) Value.none] 4) #[]),
  (566, Obj.mk (Value.type "type") none (Data.cls (ClassData.mk (Str.ofString "Heap") [Value.type "object"] [Value.ref 566, Value.type "object"] 565 (Str.ofString "Heap") true [] [] false none false)) #[none, none, some (Value.str (Str.ofString "Heap") 802), some (Value.str (Str.ofString "Heap") 810), some (Value.builtin "object.__new__"), some (Value.bool true)]),
  (583, Obj.mk (Value.type "code") none (Data.fields #[Value.str (Str.ofString "__init__") 984, Value.str (Str.ofString "PlainChannel.__init__") 985, Value.str (Str.ofString "/claim/cut.py") 986, Value.int 409 0, Value.int 2 0, Value.int 0 0, Value.int 0 0, Value.int 3 0, Value.ref 578, Value.bool true, Value.int 181 0, Value.ref 579, Value.none, Value.ref 580, Value.ref 581, Value.ref 582, Value.int 989 0, Value.int 409 0, Value.str (Str.ofString "/claim/cut.py") 990]) #[]),
  (584, ⟨.type "function", none, .func (fnOf "__init__" "PlainChannel.__init__" (argsS (meS 28 0)) (bodyS (meS 28 0)) (scopeS (meS 28 0)) (.none) (.none) (.none) (.str "chancore.plain_channels" 970) none (.ref 583) (.none)), #[]⟩),
  (586, Obj.mk (Value.type "dict") none (Data.dict #[DictEntry.mk (PyData.keyHash P (Str.ofString "__module__")) (Value.str (Str.ofString "__module__") 979) (Value.str (Str.ofString "chancore.plain_channels") 970), DictEntry.mk (PyData.keyHash P (Str.ofString "__firstlineno__")) (Value.str (Str.ofString "__firstlineno__") 983) (Value.int 407 982), DictEntry.mk (PyData.keyHash P (Str.ofString "__init__")) (Value.str (Str.ofString "__init__") 991) (Value.ref 584), DictEntry.mk (PyData.keyHash P (Str.ofString "__static_attributes__")) (Value.str (Str.ofString "__static_attributes__") 995) (Value.ref 585), DictEntry.mk (PyData.keyHash P (Str.ofString "__dict__")) (Value.str (Str.ofString "__dict__") 997) (Value.ref 588), DictEntry.mk (PyData.keyHash P (Str.ofString "__weakref__")) (Value.str (Str.ofString "__weakref__") 999) (Value.ref 589), DictEntry.mk (PyData.keyHash P (Str.ofString "__doc__")) (Value.str (Str.ofString "__doc__") 1000) Value.none] 4) #[]),
  (587, Obj.mk (Value.type "type") none (Data.cls (ClassData.mk (Str.ofString "PlainChannel") [Value.type "object"] [Value.ref 587, Value.type "object"] 586 (Str.ofString "PlainChannel") true [] [] false none false)) #[none, none, some (Value.str (Str.ofString "PlainChannel") 972), some (Value.str (Str.ofString "PlainChannel") 980), some (Value.builtin "object.__new__"), some (Value.bool true)]),
  (604, Obj.mk (Value.type "code") none (Data.fields #[Value.str (Str.ofString "__init__") 1015, Value.str (Str.ofString "PlainChannels.__init__") 1016, Value.str (Str.ofString "/claim/cut.py") 1017, Value.int 415 0, Value.int 1 0, Value.int 0 0, Value.int 0 0, Value.int 3 0, Value.ref 599, Value.bool true, Value.int 181 0, Value.ref 600, Value.none, Value.ref 601, Value.ref 602, Value.ref 603, Value.int 1019 0, Value.int 415 0, Value.str (Str.ofString "/claim/cut.py") 1020]) #[]),
  (605, ⟨.type "function", none, .func (fnOf "__init__" "PlainChannels.__init__" (argsS (meS 29 0)) (bodyS (meS 29 0)) (scopeS (meS 29 0)) (.none) (.none) (.none) (.str "chancore.plain_channels" 970) none (.ref 604) (.none)), #[]⟩),
  (611, Obj.mk (Value.type "code") none (Data.fields #[Value.str (Str.ofString "make_one") 1022, Value.str (Str.ofString "PlainChannels.make_one") 1023, Value.str (Str.ofString "/claim/cut.py") 1024, Value.int 419 0, Value.int 2 0, Value.int 0 0, Value.int 0 0, Value.int 3 0, Value.ref 606, Value.bool true, Value.int 181 0, Value.ref 607, Value.none, Value.ref 608, Value.ref 609, Value.ref 610, Value.int 1027 0, Value.int 419 0, Value.str (Str.ofString "/claim/cut.py") 1028]) #[]),
  (612, ⟨.type "function", none, .func (fnOf "make_one" "PlainChannels.make_one" (argsS (meS 29 1)) (bodyS (meS 29 1)) (scopeS (meS 29 1)) (.none) (.none) (.none) (.str "chancore.plain_channels" 970) none (.ref 611) (.none)), #[]⟩),
  (632, Obj.mk (Value.type "code") none (Data.fields #[Value.str (Str.ofString "first_waiting") 1046, Value.str (Str.ofString "PlainChannels.first_waiting") 1047, Value.str (Str.ofString "/claim/cut.py") 1048, Value.int 429 0, Value.int 3 0, Value.int 0 0, Value.int 0 0, Value.int 3 0, Value.ref 627, Value.bool true, Value.int 181 0, Value.ref 628, Value.none, Value.ref 629, Value.ref 630, Value.ref 631, Value.int 1053 0, Value.int 429 0, Value.str (Str.ofString "/claim/cut.py") 1054]) #[]),
  (633, ⟨.type "function", none, .func (fnOf "first_waiting" "PlainChannels.first_waiting" (argsS (meS 29 4)) (bodyS (meS 29 4)) (scopeS (meS 29 4)) (.none) (.none) (.none) (.str "chancore.plain_channels" 970) none (.ref 632) (.none)), #[]⟩),
  (637, Obj.mk (Value.type "code") none (Data.fields #[Value.str (Str.ofString "let_go") 1056, Value.str (Str.ofString "PlainChannels.let_go") 1057, Value.str (Str.ofString "/claim/cut.py") 1058, Value.int 435 0, Value.int 2 0, Value.int 0 0, Value.int 0 0, Value.int 3 0, Value.ref 634, Value.bool true, Value.int 181 0, Value.ref 635, Value.none, Value.none, Value.none, Value.ref 636, Value.int 1059 0, Value.int 435 0, Value.str (Str.ofString "/claim/cut.py") 1060]) #[]),
  (638, ⟨.type "function", none, .func (fnOf "let_go" "PlainChannels.let_go" (argsS (meS 29 5)) (bodyS (meS 29 5)) (scopeS (meS 29 5)) (.none) (.none) (.none) (.str "chancore.plain_channels" 970) none (.ref 637) (.none)), #[]⟩),
  (693, Obj.mk (Value.type "code") none (Data.fields #[Value.str (Str.ofString "ended") 1122, Value.str (Str.ofString "PlainChannels.ended") 1123, Value.str (Str.ofString "/claim/cut.py") 1124, Value.int 459 0, Value.int 4 0, Value.int 0 0, Value.int 0 0, Value.int 3 0, Value.ref 688, Value.bool true, Value.int 181 0, Value.ref 689, Value.none, Value.ref 690, Value.ref 691, Value.ref 692, Value.int 1131 0, Value.int 459 0, Value.str (Str.ofString "/claim/cut.py") 1132]) #[]),
  (694, ⟨.type "function", none, .func (fnOf "ended" "PlainChannels.ended" (argsS (meS 29 13)) (bodyS (meS 29 13)) (scopeS (meS 29 13)) (.none) (.none) (.none) (.str "chancore.plain_channels" 970) none (.ref 693) (.none)), #[]⟩),
  (700, Obj.mk (Value.type "code") none (Data.fields #[Value.str (Str.ofString "wait_for") 1134, Value.str (Str.ofString "PlainChannels.wait_for") 1135, Value.str (Str.ofString "/claim/cut.py") 1136, Value.int 467 0, Value.int 3 0, Value.int 0 0, Value.int 0 0, Value.int 3 0, Value.ref 695, Value.bool true, Value.int 181 0, Value.ref 696, Value.none, Value.ref 697, Value.ref 698, Value.ref 699, Value.int 1144 0, Value.int 467 0, Value.str (Str.ofString "/claim/cut.py") 1145]) #[]),
  (701, ⟨.type "function", none, .func (fnOf "wait_for" "PlainChannels.wait_for" (argsS (meS 29 14)) (bodyS (meS 29 14)) (scopeS (meS 29 14)) (.none) (.none) (.none) (.str "chancore.plain_channels" 970) none (.ref 700) (.none)), #[]⟩),
  (703, Obj.mk (Value.type "dict") none (Data.dict #[DictEntry.mk (PyData.keyHash P (Str.ofString "__module__")) (Value.str (Str.ofString "__module__") 1010) (Value.str (Str.ofString "chancore.plain_channels") 970), DictEntry.mk (PyData.keyHash P (Str.ofString "__firstlineno__")) (Value.str (Str.ofString "__firstlineno__") 1014) (Value.int 413 1013), DictEntry.mk (PyData.keyHash P (Str.ofString "__init__")) (Value.str (Str.ofString "__init__") 1021) (Value.ref 605), DictEntry.mk (PyData.keyHash P (Str.ofString "make_one")) (Value.str (Str.ofString "make_one") 1029) (Value.ref 612), DictEntry.mk (PyData.keyHash P (Str.ofString "size_of")) (Value.str (Str.ofString "size_of") 1037) (Value.ref 619), DictEntry.mk (PyData.keyHash P (Str.ofString "room_of")) (Value.str (Str.ofString "room_of") 1045) (Value.ref 626), DictEntry.mk (PyData.keyHash P (Str.ofString "first_waiting")) (Value.str (Str.ofString "first_waiting") 1055) (Value.ref 633), DictEntry.mk (PyData.keyHash P (Str.ofString "let_go")) (Value.str (Str.ofString "let_go") 1061) (Value.ref 638), DictEntry.mk (PyData.keyHash P (Str.ofString "may_send")) (Value.str (Str.ofString "may_send") 1069) (Value.ref 645), DictEntry.mk (PyData.keyHash P (Str.ofString "may_take")) (Value.str (Str.ofString "may_take") 1077) (Value.ref 652), DictEntry.mk (PyData.keyHash P (Str.ofString "may_do")) (Value.str (Str.ofString "may_do") 1086) (Value.ref 659), DictEntry.mk (PyData.keyHash P (Str.ofString "send_now")) (Value.str (Str.ofString "send_now") 1095) (Value.ref 666), DictEntry.mk (PyData.keyHash P (Str.ofString "take_now")) (Value.str (Str.ofString "take_now") 1103) (Value.ref 673), DictEntry.mk (PyData.keyHash P (Str.ofString "do_now")) (Value.str (Str.ofString "do_now") 1113) (Value.ref 680), DictEntry.mk (PyData.keyHash P (Str.ofString "close_now")) (Value.str (Str.ofString "close_now") 1121) (Value.ref 687), DictEntry.mk (PyData.keyHash P (Str.ofString "ended")) (Value.str (Str.ofString "ended") 1133) (Value.ref 694), DictEntry.mk (PyData.keyHash P (Str.ofString "wait_for")) (Value.str (Str.ofString "wait_for") 1146) (Value.ref 701), DictEntry.mk (PyData.keyHash P (Str.ofString "__static_attributes__")) (Value.str (Str.ofString "__static_attributes__") 1149) (Value.ref 702), DictEntry.mk (PyData.keyHash P (Str.ofString "__dict__")) (Value.str (Str.ofString "__dict__") 1151) (Value.ref 705), DictEntry.mk (PyData.keyHash P (Str.ofString "__weakref__")) (Value.str (Str.ofString "__weakref__") 1153) (Value.ref 706), DictEntry.mk (PyData.keyHash P (Str.ofString "__doc__")) (Value.str (Str.ofString "__doc__") 1154) Value.none] 4) #[]),
  (704, Obj.mk (Value.type "type") none (Data.cls (ClassData.mk (Str.ofString "PlainChannels") [Value.type "object"] [Value.ref 704, Value.type "object"] 703 (Str.ofString "PlainChannels") true [] [] false none false)) #[none, none, some (Value.str (Str.ofString "PlainChannels") 1003), some (Value.str (Str.ofString "PlainChannels") 1011), some (Value.builtin "object.__new__"), some (Value.bool true)]),
  (714, Obj.mk (Value.type "code") none (Data.fields #[Value.str (Str.ofString "count_in_clock") 1159, Value.str (Str.ofString "count_in_clock") 1160, Value.str (Str.ofString "/claim/cut.py") 1161, Value.int 472 0, Value.int 2 0, Value.int 0 0, Value.int 0 0, Value.int 3 0, Value.ref 709, Value.bool true, Value.int 181 0, Value.ref 710, Value.none, Value.ref 711, Value.ref 712, Value.ref 713, Value.int 1166 0, Value.int 472 0, Value.str (Str.ofString "/claim/cut.py") 1167]) #[]),
  (715, ⟨.type "function", none, .func (fnOf "count_in_clock" "count_in_clock" (argsS (fnS 31)) (bodyS (fnS 31)) (scopeS (fnS 31)) (.none) (.none) (.none) (.str "chancore.clocks" 1157) none (.ref 714) (.none)), #[]⟩),
  (721, Obj.mk (Value.type "code") none (Data.fields #[Value.str (Str.ofString "joined_clocks") 1169, Value.str (Str.ofString "joined_clocks") 1170, Value.str (Str.ofString "/claim/cut.py") 1171, Value.int 477 0, Value.int 2 0, Value.int 0 0, Value.int 0 0, Value.int 3 0, Value.ref 716, Value.bool true, Value.int 181 0, Value.ref 717, Value.none, Value.ref 718, Value.ref 719, Value.ref 720, Value.int 1177 0, Value.int 477 0, Value.str (Str.ofString "/claim/cut.py") 1178]) #[]),
  (722, ⟨.type "function", none, .func (fnOf "joined_clocks" "joined_clocks" (argsS (fnS 32)) (bodyS (fnS 32)) (scopeS (fnS 32)) (.none) (.none) (.none) (.str "chancore.clocks" 1157) none (.ref 721) (.none)), #[]⟩),
  (728, Obj.mk (Value.type "code") none (Data.fields #[Value.str (Str.ofString "ticked_clock") 1180, Value.str (Str.ofString "ticked_clock") 1181, Value.str (Str.ofString "/claim/cut.py") 1182, Value.int 483 0, Value.int 2 0, Value.int 0 0, Value.int 0 0, Value.int 3 0, Value.ref 723, Value.bool true, Value.int 181 0, Value.ref 724, Value.none, Value.ref 725, Value.ref 726, Value.ref 727, Value.int 1185 0, Value.int 483 0, Value.str (Str.ofString "/claim/cut.py") 1186]) #[]),
  (729, ⟨.type "function", none, .func (fnOf "ticked_clock" "ticked_clock" (argsS (fnS 33)) (bodyS (fnS 33)) (scopeS (fnS 33)) (.none) (.none) (.none) (.str "chancore.clocks" 1157) none (.ref 728) (.none)), #[]⟩),
  (756, Obj.mk (Value.type "code") none (Data.fields #[Value.str (Str.ofString "__init__") 1222, Value.str (Str.ofString "Line.__init__") 1223, Value.str (Str.ofString "/claim/cut.py") 1224, Value.int 494 0, Value.int 2 0, Value.int 0 0, Value.int 0 0, Value.int 3 0, Value.ref 751, Value.bool true, Value.int 181 0, Value.ref 752, Value.none, Value.ref 753, Value.ref 754, Value.ref 755, Value.int 1227 0, Value.int 494 0, Value.str (Str.ofString "/claim/cut.py") 1228]) #[]),
  (757, ⟨.type "function", none, .func (fnOf "__init__" "Line.__init__" (argsS (meS 39 0)) (bodyS (meS 39 0)) (scopeS (meS 39 0)) (.none) (.none) (.none) (.str "chancore.races" 1188) none (.ref 756) (.none)), #[]⟩),
  (759, Obj.mk (Value.type "dict") none (Data.dict #[DictEntry.mk (PyData.keyHash P (Str.ofString "__module__")) (Value.str (Str.ofString "__module__") 1217) (Value.str (Str.ofString "chancore.races") 1188), DictEntry.mk (PyData.keyHash P (Str.ofString "__firstlineno__")) (Value.str (Str.ofString "__firstlineno__") 1221) (Value.int 492 1220), DictEntry.mk (PyData.keyHash P (Str.ofString "__init__")) (Value.str (Str.ofString "__init__") 1229) (Value.ref 757), DictEntry.mk (PyData.keyHash P (Str.ofString "__static_attributes__")) (Value.str (Str.ofString "__static_attributes__") 1234) (Value.ref 758), DictEntry.mk (PyData.keyHash P (Str.ofString "__dict__")) (Value.str (Str.ofString "__dict__") 1236) (Value.ref 761), DictEntry.mk (PyData.keyHash P (Str.ofString "__weakref__")) (Value.str (Str.ofString "__weakref__") 1238) (Value.ref 762), DictEntry.mk (PyData.keyHash P (Str.ofString "__doc__")) (Value.str (Str.ofString "__doc__") 1239) Value.none] 4) #[]),
  (760, Obj.mk (Value.type "type") none (Data.cls (ClassData.mk (Str.ofString "Line") [Value.type "object"] [Value.ref 760, Value.type "object"] 759 (Str.ofString "Line") true [] [] false none false)) #[none, none, some (Value.str (Str.ofString "Line") 1210), some (Value.str (Str.ofString "Line") 1218), some (Value.builtin "object.__new__"), some (Value.bool true)]),
  (798, Obj.mk (Value.type "code") none (Data.fields #[Value.str (Str.ofString "__init__") 1283, Value.str (Str.ofString "Watch.__init__") 1284, Value.str (Str.ofString "/claim/cut.py") 1285, Value.int 506 0, Value.int 1 0, Value.int 0 0, Value.int 0 0, Value.int 3 0, Value.ref 793, Value.bool true, Value.int 181 0, Value.ref 794, Value.none, Value.ref 795, Value.ref 796, Value.ref 797, Value.int 1287 0, Value.int 506 0, Value.str (Str.ofString "/claim/cut.py") 1288]) #[]),
  (799, ⟨.type "function", none, .func (fnOf "__init__" "Watch.__init__" (argsS (meS 41 0)) (bodyS (meS 41 0)) (scopeS (meS 41 0)) (.none) (.none) (.none) (.str "chancore.races" 1188) none (.ref 798) (.none)), #[]⟩),
  (805, Obj.mk (Value.type "code") none (Data.fields #[Value.str (Str.ofString "clock") 1290, Value.str (Str.ofString "Watch.clock") 1291, Value.str (Str.ofString "/claim/cut.py") 1292, Value.int 513 0, Value.int 2 0, Value.int 0 0, Value.int 0 0, Value.int 3 0, Value.ref 800, Value.bool true, Value.int 181 0, Value.ref 801, Value.none, Value.ref 802, Value.ref 803, Value.ref 804, Value.int 1295 0, Value.int 513 0, Value.str (Str.ofString "/claim/cut.py") 1296]) #[]),
  (806, ⟨.type "function", none, .func (fnOf "clock" "Watch.clock" (argsS (meS 41 1)) (bodyS (meS 41 1)) (scopeS (meS 41 1)) (.none) (.none) (.none) (.str "chancore.races" 1188) none (.ref 805) (.none)), #[]⟩),
  (812, Obj.mk (Value.type "code") none (Data.fields #[Value.str (Str.ofString "learn") 1298, Value.str (Str.ofString "Watch.learn") 1299, Value.str (Str.ofString "/claim/cut.py") 1300, Value.int 518 0, Value.int 3 0, Value.int 0 0, Value.int 0 0, Value.int 3 0, Value.ref 807, Value.bool true, Value.int 181 0, Value.ref 808, Value.none, Value.ref 809, Value.ref 810, Value.ref 811, Value.int 1304 0, Value.int 518 0, Value.str (Str.ofString "/claim/cut.py") 1305]) #[]),
  (813, ⟨.type "function", none, .func (fnOf "learn" "Watch.learn" (argsS (meS 41 2)) (bodyS (meS 41 2)) (scopeS (meS 41 2)) (.none) (.none) (.none) (.str "chancore.races" 1188) none (.ref 812) (.none)), #[]⟩),
  (819, Obj.mk (Value.type "code") none (Data.fields #[Value.str (Str.ofString "told") 1307, Value.str (Str.ofString "Watch.told") 1308, Value.str (Str.ofString "/claim/cut.py") 1309, Value.int 521 0, Value.int 2 0, Value.int 0 0, Value.int 0 0, Value.int 3 0, Value.ref 814, Value.bool true, Value.int 181 0, Value.ref 815, Value.none, Value.ref 816, Value.ref 817, Value.ref 818, Value.int 1313 0, Value.int 521 0, Value.str (Str.ofString "/claim/cut.py") 1314]) #[]),
  (820, ⟨.type "function", none, .func (fnOf "told" "Watch.told" (argsS (meS 41 3)) (bodyS (meS 41 3)) (scopeS (meS 41 3)) (.none) (.none) (.none) (.str "chancore.races" 1188) none (.ref 819) (.none)), #[]⟩),
  (826, Obj.mk (Value.type "code") none (Data.fields #[Value.str (Str.ofString "go") 1316, Value.str (Str.ofString "Watch.go") 1317, Value.str (Str.ofString "/claim/cut.py") 1318, Value.int 526 0, Value.int 3 0, Value.int 0 0, Value.int 0 0, Value.int 3 0, Value.ref 821, Value.bool true, Value.int 181 0, Value.ref 822, Value.none, Value.ref 823, Value.ref 824, Value.ref 825, Value.int 1322 0, Value.int 526 0, Value.str (Str.ofString "/claim/cut.py") 1323]) #[]),
  (827, ⟨.type "function", none, .func (fnOf "go" "Watch.go" (argsS (meS 41 4)) (bodyS (meS 41 4)) (scopeS (meS 41 4)) (.none) (.none) (.none) (.str "chancore.races" 1188) none (.ref 826) (.none)), #[]⟩),
  (833, Obj.mk (Value.type "code") none (Data.fields #[Value.str (Str.ofString "line") 1325, Value.str (Str.ofString "Watch.line") 1326, Value.str (Str.ofString "/claim/cut.py") 1327, Value.int 529 0, Value.int 3 0, Value.int 0 0, Value.int 0 0, Value.int 3 0, Value.ref 828, Value.bool true, Value.int 181 0, Value.ref 829, Value.none, Value.ref 830, Value.ref 831, Value.ref 832, Value.int 1331 0, Value.int 529 0, Value.str (Str.ofString "/claim/cut.py") 1332]) #[]),
  (834, ⟨.type "function", none, .func (fnOf "line" "Watch.line" (argsS (meS 41 5)) (bodyS (meS 41 5)) (scopeS (meS 41 5)) (.none) (.none) (.none) (.str "chancore.races" 1188) none (.ref 833) (.none)), #[]⟩),
  (840, Obj.mk (Value.type "code") none (Data.fields #[Value.str (Str.ofString "send") 1334, Value.str (Str.ofString "Watch.send") 1335, Value.str (Str.ofString "/claim/cut.py") 1336, Value.int 534 0, Value.int 4 0, Value.int 0 0, Value.int 0 0, Value.int 3 0, Value.ref 835, Value.bool true, Value.int 181 0, Value.ref 836, Value.none, Value.ref 837, Value.ref 838, Value.ref 839, Value.int 1343 0, Value.int 534 0, Value.str (Str.ofString "/claim/cut.py") 1344]) #[]),
  (841, ⟨.type "function", none, .func (fnOf "send" "Watch.send" (argsS (meS 41 6)) (bodyS (meS 41 6)) (scopeS (meS 41 6)) (.none) (.none) (.none) (.str "chancore.races" 1188) none (.ref 840) (.none)), #[]⟩),
  (847, Obj.mk (Value.type "code") none (Data.fields #[Value.str (Str.ofString "receive") 1346, Value.str (Str.ofString "Watch.receive") 1347, Value.str (Str.ofString "/claim/cut.py") 1348, Value.int 541 0, Value.int 4 0, Value.int 0 0, Value.int 0 0, Value.int 3 0, Value.ref 842, Value.bool true, Value.int 181 0, Value.ref 843, Value.none, Value.ref 844, Value.ref 845, Value.ref 846, Value.int 1355 0, Value.int 541 0, Value.str (Str.ofString "/claim/cut.py") 1356]) #[]),
  (848, ⟨.type "function", none, .func (fnOf "receive" "Watch.receive" (argsS (meS 41 7)) (bodyS (meS 41 7)) (scopeS (meS 41 7)) (.none) (.none) (.none) (.str "chancore.races" 1188) none (.ref 847) (.none)), #[]⟩),
  (854, Obj.mk (Value.type "code") none (Data.fields #[Value.str (Str.ofString "hand") 1358, Value.str (Str.ofString "Watch.hand") 1359, Value.str (Str.ofString "/claim/cut.py") 1360, Value.int 547 0, Value.int 4 0, Value.int 0 0, Value.int 0 0, Value.int 3 0, Value.ref 849, Value.bool true, Value.int 181 0, Value.ref 850, Value.none, Value.ref 851, Value.ref 852, Value.ref 853, Value.int 1368 0, Value.int 547 0, Value.str (Str.ofString "/claim/cut.py") 1369]) #[]),
  (855, ⟨.type "function", none, .func (fnOf "hand" "Watch.hand" (argsS (meS 41 8)) (bodyS (meS 41 8)) (scopeS (meS 41 8)) (.none) (.none) (.none) (.str "chancore.races" 1188) none (.ref 854) (.none)), #[]⟩),
  (861, Obj.mk (Value.type "code") none (Data.fields #[Value.str (Str.ofString "close") 1371, Value.str (Str.ofString "Watch.close") 1372, Value.str (Str.ofString "/claim/cut.py") 1373, Value.int 555 0, Value.int 4 0, Value.int 0 0, Value.int 0 0, Value.int 3 0, Value.ref 856, Value.bool true, Value.int 181 0, Value.ref 857, Value.none, Value.ref 858, Value.ref 859, Value.ref 860, Value.int 1378 0, Value.int 555 0, Value.str (Str.ofString "/claim/cut.py") 1379]) #[]),
  (862, ⟨.type "function", none, .func (fnOf "close" "Watch.close" (argsS (meS 41 9)) (bodyS (meS 41 9)) (scopeS (meS 41 9)) (.none) (.none) (.none) (.str "chancore.races" 1188) none (.ref 861) (.none)), #[]⟩),
  (868, Obj.mk (Value.type "code") none (Data.fields #[Value.str (Str.ofString "receive_closed") 1381, Value.str (Str.ofString "Watch.receive_closed") 1382, Value.str (Str.ofString "/claim/cut.py") 1383, Value.int 558 0, Value.int 4 0, Value.int 0 0, Value.int 0 0, Value.int 3 0, Value.ref 863, Value.bool true, Value.int 181 0, Value.ref 864, Value.none, Value.ref 865, Value.ref 866, Value.ref 867, Value.int 1388 0, Value.int 558 0, Value.str (Str.ofString "/claim/cut.py") 1389]) #[]),
  (869, ⟨.type "function", none, .func (fnOf "receive_closed" "Watch.receive_closed" (argsS (meS 41 10)) (bodyS (meS 41 10)) (scopeS (meS 41 10)) (.none) (.none) (.none) (.str "chancore.races" 1188) none (.ref 868) (.none)), #[]⟩),
  (913, Obj.mk (Value.type "dict") none (Data.dict #[DictEntry.mk (PyData.keyHash P (Str.ofString "__module__")) (Value.str (Str.ofString "__module__") 1278) (Value.str (Str.ofString "chancore.races") 1188), DictEntry.mk (PyData.keyHash P (Str.ofString "__firstlineno__")) (Value.str (Str.ofString "__firstlineno__") 1282) (Value.int 504 1281), DictEntry.mk (PyData.keyHash P (Str.ofString "__init__")) (Value.str (Str.ofString "__init__") 1289) (Value.ref 799), DictEntry.mk (PyData.keyHash P (Str.ofString "clock")) (Value.str (Str.ofString "clock") 1297) (Value.ref 806), DictEntry.mk (PyData.keyHash P (Str.ofString "learn")) (Value.str (Str.ofString "learn") 1306) (Value.ref 813), DictEntry.mk (PyData.keyHash P (Str.ofString "told")) (Value.str (Str.ofString "told") 1315) (Value.ref 820), DictEntry.mk (PyData.keyHash P (Str.ofString "go")) (Value.str (Str.ofString "go") 1324) (Value.ref 827), DictEntry.mk (PyData.keyHash P (Str.ofString "line")) (Value.str (Str.ofString "line") 1333) (Value.ref 834), DictEntry.mk (PyData.keyHash P (Str.ofString "send")) (Value.str (Str.ofString "send") 1345) (Value.ref 841), DictEntry.mk (PyData.keyHash P (Str.ofString "receive")) (Value.str (Str.ofString "receive") 1357) (Value.ref 848), DictEntry.mk (PyData.keyHash P (Str.ofString "hand")) (Value.str (Str.ofString "hand") 1370) (Value.ref 855), DictEntry.mk (PyData.keyHash P (Str.ofString "close")) (Value.str (Str.ofString "close") 1380) (Value.ref 862), DictEntry.mk (PyData.keyHash P (Str.ofString "receive_closed")) (Value.str (Str.ofString "receive_closed") 1390) (Value.ref 869), DictEntry.mk (PyData.keyHash P (Str.ofString "leave")) (Value.str (Str.ofString "leave") 1399) (Value.ref 876), DictEntry.mk (PyData.keyHash P (Str.ofString "enter")) (Value.str (Str.ofString "enter") 1408) (Value.ref 883), DictEntry.mk (PyData.keyHash P (Str.ofString "read")) (Value.str (Str.ofString "read") 1417) (Value.ref 890), DictEntry.mk (PyData.keyHash P (Str.ofString "write")) (Value.str (Str.ofString "write") 1426) (Value.ref 897), DictEntry.mk (PyData.keyHash P (Str.ofString "look")) (Value.str (Str.ofString "look") 1442) (Value.ref 904), DictEntry.mk (PyData.keyHash P (Str.ofString "compare")) (Value.str (Str.ofString "compare") 1457) (Value.ref 911), DictEntry.mk (PyData.keyHash P (Str.ofString "__static_attributes__")) (Value.str (Str.ofString "__static_attributes__") 1463) (Value.ref 912), DictEntry.mk (PyData.keyHash P (Str.ofString "__dict__")) (Value.str (Str.ofString "__dict__") 1465) (Value.ref 915), DictEntry.mk (PyData.keyHash P (Str.ofString "__weakref__")) (Value.str (Str.ofString "__weakref__") 1467) (Value.ref 916), DictEntry.mk (PyData.keyHash P (Str.ofString "__doc__")) (Value.str (Str.ofString "__doc__") 1468) Value.none] 4) #[]),
  (914, Obj.mk (Value.type "type") none (Data.cls (ClassData.mk (Str.ofString "Watch") [Value.type "object"] [Value.ref 914, Value.type "object"] 913 (Str.ofString "Watch") true [] [] false none false)) #[none, none, some (Value.str (Str.ofString "Watch") 1271), some (Value.str (Str.ofString "Watch") 1279), some (Value.builtin "object.__new__"), some (Value.bool true)]),
  (931, Obj.mk (Value.type "code") none (Data.fields #[Value.str (Str.ofString "__init__") 1491, Value.str (Str.ofString "Goroutine.__init__") 1492, Value.str (Str.ofString "/claim/cut.py") 1493, Value.int 598 0, Value.int 2 0, Value.int 0 0, Value.int 0 0, Value.int 3 0, Value.ref 926, Value.bool true, Value.int 181 0, Value.ref 927, Value.none, Value.ref 928, Value.ref 929, Value.ref 930, Value.int 1496 0, Value.int 598 0, Value.str (Str.ofString "/claim/cut.py") 1497]) #[]),
  (932, ⟨.type "function", none, .func (fnOf "__init__" "Goroutine.__init__" (argsS (meS 46 0)) (bodyS (meS 46 0)) (scopeS (meS 46 0)) (.none) (.none) (.none) (.str "chancore.scheduler" 1471) none (.ref 931) (.none)), #[]⟩),
  (934, Obj.mk (Value.type "dict") none (Data.dict #[DictEntry.mk (PyData.keyHash P (Str.ofString "__module__")) (Value.str (Str.ofString "__module__") 1486) (Value.str (Str.ofString "chancore.scheduler") 1471), DictEntry.mk (PyData.keyHash P (Str.ofString "__firstlineno__")) (Value.str (Str.ofString "__firstlineno__") 1490) (Value.int 596 1489), DictEntry.mk (PyData.keyHash P (Str.ofString "__init__")) (Value.str (Str.ofString "__init__") 1498) (Value.ref 932), DictEntry.mk (PyData.keyHash P (Str.ofString "__static_attributes__")) (Value.str (Str.ofString "__static_attributes__") 1504) (Value.ref 933), DictEntry.mk (PyData.keyHash P (Str.ofString "__dict__")) (Value.str (Str.ofString "__dict__") 1506) (Value.ref 936), DictEntry.mk (PyData.keyHash P (Str.ofString "__weakref__")) (Value.str (Str.ofString "__weakref__") 1508) (Value.ref 937), DictEntry.mk (PyData.keyHash P (Str.ofString "__doc__")) (Value.str (Str.ofString "__doc__") 1509) Value.none] 4) #[]),
  (935, Obj.mk (Value.type "type") none (Data.cls (ClassData.mk (Str.ofString "Goroutine") [Value.type "object"] [Value.ref 935, Value.type "object"] 934 (Str.ofString "Goroutine") true [] [] false none false)) #[none, none, some (Value.str (Str.ofString "Goroutine") 1479), some (Value.str (Str.ofString "Goroutine") 1487), some (Value.builtin "object.__new__"), some (Value.bool true)]),
  (952, Obj.mk (Value.type "code") none (Data.fields #[Value.str (Str.ofString "__init__") 1524, Value.str (Str.ofString "Scheduler.__init__") 1525, Value.str (Str.ofString "/claim/cut.py") 1526, Value.int 606 0, Value.int 2 0, Value.int 0 0, Value.int 0 0, Value.int 3 0, Value.ref 947, Value.bool true, Value.int 181 0, Value.ref 948, Value.none, Value.ref 949, Value.ref 950, Value.ref 951, Value.int 1529 0, Value.int 606 0, Value.str (Str.ofString "/claim/cut.py") 1530]) #[]),
  (953, ⟨.type "function", none, .func (fnOf "__init__" "Scheduler.__init__" (argsS (meS 47 0)) (bodyS (meS 47 0)) (scopeS (meS 47 0)) (.none) (.none) (.none) (.str "chancore.scheduler" 1471) none (.ref 952) (.none)), #[]⟩),
  (959, Obj.mk (Value.type "code") none (Data.fields #[Value.str (Str.ofString "spawn") 1532, Value.str (Str.ofString "Scheduler.spawn") 1533, Value.str (Str.ofString "/claim/cut.py") 1534, Value.int 611 0, Value.int 1 0, Value.int 0 0, Value.int 0 0, Value.int 3 0, Value.ref 954, Value.bool true, Value.int 181 0, Value.ref 955, Value.none, Value.ref 956, Value.ref 957, Value.ref 958, Value.int 1537 0, Value.int 611 0, Value.str (Str.ofString "/claim/cut.py") 1538]) #[]),
  (960, ⟨.type "function", none, .func (fnOf "spawn" "Scheduler.spawn" (argsS (meS 47 1)) (bodyS (meS 47 1)) (scopeS (meS 47 1)) (.none) (.none) (.none) (.str "chancore.scheduler" 1471) none (.ref 959) (.none)), #[]⟩),
  (1026, Obj.mk (Value.type "dict") none (Data.dict #[DictEntry.mk (PyData.keyHash P (Str.ofString "__module__")) (Value.str (Str.ofString "__module__") 1519) (Value.str (Str.ofString "chancore.scheduler") 1471), DictEntry.mk (PyData.keyHash P (Str.ofString "__firstlineno__")) (Value.str (Str.ofString "__firstlineno__") 1523) (Value.int 604 1522), DictEntry.mk (PyData.keyHash P (Str.ofString "__init__")) (Value.str (Str.ofString "__init__") 1531) (Value.ref 953), DictEntry.mk (PyData.keyHash P (Str.ofString "spawn")) (Value.str (Str.ofString "spawn") 1539) (Value.ref 960), DictEntry.mk (PyData.keyHash P (Str.ofString "of")) (Value.str (Str.ofString "of") 1547) (Value.ref 967), DictEntry.mk (PyData.keyHash P (Str.ofString "ready_ones")) (Value.str (Str.ofString "ready_ones") 1554) (Value.ref 974), DictEntry.mk (PyData.keyHash P (Str.ofString "block")) (Value.str (Str.ofString "block") 1562) (Value.ref 981), DictEntry.mk (PyData.keyHash P (Str.ofString "wake")) (Value.str (Str.ofString "wake") 1572) (Value.ref 989), DictEntry.mk (PyData.keyHash P (Str.ofString "take_answer")) (Value.str (Str.ofString "take_answer") 1579) (Value.ref 996), DictEntry.mk (PyData.keyHash P (Str.ofString "end")) (Value.str (Str.ofString "end") 1586) (Value.ref 1003), DictEntry.mk (PyData.keyHash P (Str.ofString "choose")) (Value.str (Str.ofString "choose") 1593) (Value.ref 1010), DictEntry.mk (PyData.keyHash P (Str.ofString "is_deadlocked")) (Value.str (Str.ofString "is_deadlocked") 1600) (Value.ref 1017), DictEntry.mk (PyData.keyHash P (Str.ofString "waiting_rows")) (Value.str (Str.ofString "waiting_rows") 1607) (Value.ref 1024), DictEntry.mk (PyData.keyHash P (Str.ofString "__static_attributes__")) (Value.str (Str.ofString "__static_attributes__") 1611) (Value.ref 1025), DictEntry.mk (PyData.keyHash P (Str.ofString "__dict__")) (Value.str (Str.ofString "__dict__") 1613) (Value.ref 1028), DictEntry.mk (PyData.keyHash P (Str.ofString "__weakref__")) (Value.str (Str.ofString "__weakref__") 1615) (Value.ref 1029), DictEntry.mk (PyData.keyHash P (Str.ofString "__doc__")) (Value.str (Str.ofString "__doc__") 1616) Value.none] 4) #[]),
  (1027, Obj.mk (Value.type "type") none (Data.cls (ClassData.mk (Str.ofString "Scheduler") [Value.type "object"] [Value.ref 1027, Value.type "object"] 1026 (Str.ofString "Scheduler") true [] [] false none false)) #[none, none, some (Value.str (Str.ofString "Scheduler") 1512), some (Value.str (Str.ofString "Scheduler") 1520), some (Value.builtin "object.__new__"), some (Value.bool true)]),
  (1037, Obj.mk (Value.type "code") none (Data.fields #[Value.str (Str.ofString "_law_reel") 1621, Value.str (Str.ofString "_law_reel") 1622, Value.str (Str.ofString "/claim/cut.py") 1623, Value.int 656 0, Value.int 1 0, Value.int 0 0, Value.int 0 0, Value.int 3 0, Value.ref 1032, Value.bool true, Value.int 181 0, Value.ref 1033, Value.none, Value.ref 1034, Value.ref 1035, Value.ref 1036, Value.int 1627 0, Value.int 656 0, Value.str (Str.ofString "/claim/cut.py") 1628]) #[]),
  (1038, ⟨.type "function", none, .func (fnOf "_law_reel" "_law_reel" (argsS (fnS 49)) (bodyS (fnS 49)) (scopeS (fnS 49)) (.none) (.none) (.none) (.str "law_xm0186_01" 1619) none (.ref 1037) (.none)), #[]⟩),
  (1044, Obj.mk (Value.type "code") none (Data.fields #[Value.str (Str.ofString "_law_wound") 1630, Value.str (Str.ofString "_law_wound") 1631, Value.str (Str.ofString "/claim/cut.py") 1632, Value.int 660 0, Value.int 2 0, Value.int 0 0, Value.int 0 0, Value.int 3 0, Value.ref 1039, Value.bool true, Value.int 181 0, Value.ref 1040, Value.none, Value.ref 1041, Value.ref 1042, Value.ref 1043, Value.int 1636 0, Value.int 660 0, Value.str (Str.ofString "/claim/cut.py") 1637]) #[]),
  (1045, ⟨.type "function", none, .func (fnOf "_law_wound" "_law_wound" (argsS (fnS 50)) (bodyS (fnS 50)) (scopeS (fnS 50)) (.none) (.none) (.none) (.str "law_xm0186_01" 1619) none (.ref 1044) (.none)), #[]⟩),
  (1051, Obj.mk (Value.type "code") none (Data.fields #[Value.str (Str.ofString "_law_one") 1639, Value.str (Str.ofString "_law_one") 1640, Value.str (Str.ofString "/claim/cut.py") 1641, Value.int 667 0, Value.int 2 0, Value.int 0 0, Value.int 0 0, Value.int 3 0, Value.ref 1046, Value.bool true, Value.int 181 0, Value.ref 1047, Value.none, Value.ref 1048, Value.ref 1049, Value.ref 1050, Value.int 1644 0, Value.int 667 0, Value.str (Str.ofString "/claim/cut.py") 1645]) #[]),
  (1052, ⟨.type "function", none, .func (fnOf "_law_one" "_law_one" (argsS (fnS 51)) (bodyS (fnS 51)) (scopeS (fnS 51)) (.none) (.none) (.none) (.str "law_xm0186_01" 1619) none (.ref 1051) (.none)), #[]⟩),
  (1056, Obj.mk (Value.type "code") none (Data.fields #[Value.str (Str.ofString "_law_waits_right") 1647, Value.str (Str.ofString "_law_waits_right") 1648, Value.str (Str.ofString "/claim/cut.py") 1649, Value.int 669 0, Value.int 1 0, Value.int 0 0, Value.int 0 0, Value.int 3 0, Value.ref 1053, Value.bool true, Value.int 181 0, Value.ref 1054, Value.none, Value.none, Value.none, Value.ref 1055, Value.int 1650 0, Value.int 669 0, Value.str (Str.ofString "/claim/cut.py") 1651]) #[]),
  (1057, ⟨.type "function", none, .func (fnOf "_law_waits_right" "_law_waits_right" (argsS (fnS 52)) (bodyS (fnS 52)) (scopeS (fnS 52)) (.none) (.none) (.none) (.str "law_xm0186_01" 1619) none (.ref 1056) (.none)), #[]⟩),
  (1063, Obj.mk (Value.type "code") none (Data.fields #[Value.str (Str.ofString "_law_begun") 1653, Value.str (Str.ofString "_law_begun") 1654, Value.str (Str.ofString "/claim/cut.py") 1655, Value.int 699 0, Value.int 1 0, Value.int 0 0, Value.int 0 0, Value.int 3 0, Value.ref 1058, Value.bool true, Value.int 181 0, Value.ref 1059, Value.none, Value.ref 1060, Value.ref 1061, Value.ref 1062, Value.int 1665 0, Value.int 699 0, Value.str (Str.ofString "/claim/cut.py") 1666]) #[]),
  (1064, ⟨.type "function", none, .func (fnOf "_law_begun" "_law_begun" (argsS (fnS 53)) (bodyS (fnS 53)) (scopeS (fnS 53)) (.none) (.none) (.none) (.str "law_xm0186_01" 1619) none (.ref 1063) (.none)), #[]⟩),
  (1068, Obj.mk (Value.type "code") none (Data.fields #[Value.str (Str.ofString "_law_alike") 1668, Value.str (Str.ofString "_law_alike") 1669, Value.str (Str.ofString "/claim/cut.py") 1670, Value.int 708 0, Value.int 3 0, Value.int 0 0, Value.int 0 0, Value.int 3 0, Value.ref 1065, Value.bool true, Value.int 181 0, Value.ref 1066, Value.none, Value.none, Value.none, Value.ref 1067, Value.int 1671 0, Value.int 708 0, Value.str (Str.ofString "/claim/cut.py") 1672]) #[]),
  (1069, ⟨.type "function", none, .func (fnOf "_law_alike" "_law_alike" (argsS (fnS 54)) (bodyS (fnS 54)) (scopeS (fnS 54)) (.none) (.none) (.none) (.str "law_xm0186_01" 1619) none (.ref 1068) (.none)), #[]⟩),
  (1075, Obj.mk (Value.type "code") none (Data.fields #[Value.str (Str.ofString "_law_send_right") 1674, Value.str (Str.ofString "_law_send_right") 1675, Value.str (Str.ofString "/claim/cut.py") 1676, Value.int 716 0, Value.int 2 0, Value.int 0 0, Value.int 0 0, Value.int 3 0, Value.ref 1070, Value.bool true, Value.int 181 0, Value.ref 1071, Value.none, Value.ref 1072, Value.ref 1073, Value.ref 1074, Value.int 1685 0, Value.int 716 0, Value.str (Str.ofString "/claim/cut.py") 1686]) #[]),
  (1076, ⟨.type "function", none, .func (fnOf "_law_send_right" "_law_send_right" (argsS (fnS 55)) (bodyS (fnS 55)) (scopeS (fnS 55)) (.none) (.none) (.none) (.str "law_xm0186_01" 1619) none (.ref 1075) (.none)), #[]⟩),
  (1082, Obj.mk (Value.type "code") none (Data.fields #[Value.str (Str.ofString "_law_receive_right") 1688, Value.str (Str.ofString "_law_receive_right") 1689, Value.str (Str.ofString "/claim/cut.py") 1690, Value.int 729 0, Value.int 2 0, Value.int 0 0, Value.int 0 0, Value.int 3 0, Value.ref 1077, Value.bool true, Value.int 181 0, Value.ref 1078, Value.none, Value.ref 1079, Value.ref 1080, Value.ref 1081, Value.int 1701 0, Value.int 729 0, Value.str (Str.ofString "/claim/cut.py") 1702]) #[]),
  (1083, ⟨.type "function", none, .func (fnOf "_law_receive_right" "_law_receive_right" (argsS (fnS 56)) (bodyS (fnS 56)) (scopeS (fnS 56)) (.none) (.none) (.none) (.str "law_xm0186_01" 1619) none (.ref 1082) (.none)), #[]⟩),
  (1087, Obj.mk (Value.type "code") none (Data.fields #[Value.str (Str.ofString "_law_forgotten_right") 1704, Value.str (Str.ofString "_law_forgotten_right") 1705, Value.str (Str.ofString "/claim/cut.py") 1706, Value.int 750 0, Value.int 1 0, Value.int 0 0, Value.int 0 0, Value.int 3 0, Value.ref 1084, Value.bool true, Value.int 181 0, Value.ref 1085, Value.none, Value.none, Value.none, Value.ref 1086, Value.int 1707 0, Value.int 750 0, Value.str (Str.ofString "/claim/cut.py") 1708]) #[]),
  (1088, ⟨.type "function", none, .func (fnOf "_law_forgotten_right" "_law_forgotten_right" (argsS (fnS 57)) (bodyS (fnS 57)) (scopeS (fnS 57)) (.none) (.none) (.none) (.str "law_xm0186_01" 1619) none (.ref 1087) (.none)), #[]⟩),
  (1094, Obj.mk (Value.type "code") none (Data.fields #[Value.str (Str.ofString "law") 1710, Value.str (Str.ofString "law") 1711, Value.str (Str.ofString "/claim/cut.py") 1712, Value.int 767 0, Value.int 1 0, Value.int 0 0, Value.int 0 0, Value.int 3 0, Value.ref 1089, Value.bool true, Value.int 181 0, Value.ref 1090, Value.none, Value.ref 1091, Value.ref 1092, Value.ref 1093, Value.int 1715 0, Value.int 767 0, Value.str (Str.ofString "/claim/cut.py") 1716]) #[]),
  (1095, ⟨.type "function", none, .func (fnOf "law" "law" (argsS (fnS 58)) (bodyS (fnS 58)) (scopeS (fnS 58)) (.none) (.none) (.none) (.str "law_xm0186_01" 1619) none (.ref 1094) (.none)), #[]⟩)]
theorem kt_as (P : Params) : asT = (KT P).map (·.1) := rfl
end
end Mine
end

section
open PySem PySem.W PySem.Calls PyProof.Rows
set_option maxRecDepth 100000
set_option maxHeartbeats 0
namespace Mine
noncomputable section
noncomputable def hO1 : Obj := { cls := .type "tuple", data := .seq #[] }
noncomputable def hO2 : Obj := { cls := .none, data := .fields #[] }
noncomputable def hO3 : Obj := { cls := .type "code", data := .fields #[.str "<module>" 182, .str "<module>" 183, .str "/claim/cut.py" 184, .int 1 0, .int 0 0, .int 0 0, .int 0 0, .int 0 0, .ref 11, .bool false, .int 181 0, .ref 12, .none, .none, .none, .none, .int 185 0, .int 1 0, .str "/claim/cut.py" 186] }
noncomputable def hO4 : Obj := { cls := .type "frame", slots := #[some (.ref 13), some (.ref 3), some (.ref 3), none, some (.str "__main__" 164), none, some (.ref 0)] }
noncomputable def hLife : Life := Life.mk [] [] [] 0 [] [] false #[] [] 0 false false false 0 [2000, 10, 10] false 0 true [] [] 0 false
noncomputable def heapA (P : Params) : Heap := Heap.mk (Array.mk [boot_o_0 P, boot_o_1 P, boot_o_2 P, boot_o_3 P, boot_o_4 P, boot_o_5 P, boot_o_6 P, boot_o_7 P, boot_o_8 P, boot_o_9 P, boot_o_10 P, hO1, hO2, hO3, hO4]) hLife
noncomputable def treeB (P : Params) : BT := .node (boot_o_0 P)
    (.node (boot_o_1 P) (.node (boot_o_3 P) (.node (boot_o_7 P) .nil .nil) (.node hO1 .nil .nil)) (.node (boot_o_5 P) (.node (boot_o_9 P) .nil .nil) (.node hO3 .nil .nil)))
    (.node (boot_o_2 P) (.node (boot_o_4 P) (.node (boot_o_8 P) .nil .nil) (.node hO2 .nil .nil)) (.node (boot_o_6 P) (.node (boot_o_10 P) .nil .nil) (.node hO4 .nil .nil)))
noncomputable def sA (w : World) (os : OsState) : Shared := Shared.mk (heapA w.params) (Array.mk []) (Drawn.mk 0 0 0 0) 187 os
noncomputable def sB (w : World) (os : OsState) : SharedT := SharedT.mk (treeB w.params) 15 hLife (Array.mk []) (Drawn.mk 0 0 0 0) 187 os
noncomputable def envT : Env := { scope := (Program.main pw).scope, locals := mainNs, globals := mainNs, cells := [], code := .ref 13, frame := some 14 }
noncomputable abbrev bodyT : List Stmt := behindTheImports pw
noncomputable abbrev cT : Code := .body bodyT envT
noncomputable abbrev posT : Pos := ⟨0, 0, 0, 0⟩
noncomputable abbrev bT : List Frame := [topFrame posT]
noncomputable abbrev annT : Option Value := some (.ref 6)

theorem h_pre : ∀ w os, topGo treeTable pw w 11 annT 12 ⟨boot_heap w.params, Array.mk [], boot_drawn, boot_toks, os⟩ (topStub pw) = some (sA w os, ⟨denote treeTable cT, cT, posT, bT⟩) := fun w os => by kernel_rfl
theorem h_block : ∀ w os, segRun treeTable pw w 11 annT 1 1 (sA w os) (blockOf bodyT envT cT posT bT) = some (.next, (sB w os).abs, cT, posT) := fun w os => by kernel_rfl

noncomputable def qT : Program := view pw [58]
noncomputable def looseT : List Str := [Str.ofString "_wall", Str.ofString "dequeue_all", Str.ofString "ChanError", Str.ofString "MachineFault", Str.ofString "Meetings", Str.ofString "SEND_ON_CLOSED", Str.ofString "CLOSE_OF_CLOSED", Str.ofString "woken_row", Str.ofString "once_a_select", Str.ofString "Channel", Str.ofString "Choices", Str.ofString "WHITE", Str.ofString "GREY", Str.ofString "BLACK", Str.ofString "REFERRING", Str.ofString "objects_within", Str.ofString "Collector", Str.ofString "Kept", Str.ofString "held_values", Str.ofString "Heap", Str.ofString "PlainChannel", Str.ofString "PlainChannels", Str.ofString "count_in_clock", Str.ofString "joined_clocks", Str.ofString "ticked_clock", Str.ofString "READ", Str.ofString "WRITE", Str.ofString "is_path_ahead", Str.ofString "do_places_meet", Str.ofString "Line", Str.ofString "Place", Str.ofString "Watch", Str.ofString "READY", Str.ofString "BLOCKED", Str.ofString "ENDED", Str.ofString "Goroutine", Str.ofString "Scheduler", Str.ofString "_law_reel", Str.ofString "_law_wound", Str.ofString "_law_one", Str.ofString "_law_waits_right", Str.ofString "_law_begun", Str.ofString "_law_alike", Str.ofString "_law_send_right", Str.ofString "_law_receive_right", Str.ofString "_law_forgotten_right"]
noncomputable def KU (P : Params) : Frag := (1085, ({ cls := .none, data := .fields #[] } : Obj)) :: KT P
noncomputable def asU : List Addr := 1085 :: asT
theorem ku_as (P : Params) : asU = (KU P).map (·.1) := rfl
noncomputable def hookT : Hook := kHook KU asU ku_as
noncomputable def modsT : List Str := importedModules pw.main.body
noncomputable def XtT : Shared → Bool := fun s => xlAt qT [] s && recOk (OpenLaw.row PySem.Challenge.rw_xm0186_01).records s
noncomputable def lookT (w : World) (s : Shared) := (staticsOk modsT (boot_heap w.params) s.heap && namesBound pw s.heap && gensDone s && laidKept (boot_heap w.params) s.heap, Fast.tw4187177175401517315 qT looseT modsT XtT true s, hookT.obs s)
theorem h_main : ∀ w os, (Fast.tw10110043849684766642 Fast.tw14364793385576792824 pw w 11 annT 1 7320 (sB w os) (piecesOf bodyT envT cT posT bT)).map (fun r => ((r.1, r.2.2.1), lookT w r.2.1.abs)) = some ((.next, cT), true, openGood qT looseT, hookT.val w) := fun w os => by kernel_rfl
theorem h_fin : ∀ (w : World) (s : Shared) (pos : Pos), topRun treeTable pw w 11 annT 2 s (restOf [] envT cT pos bT) = some s := fun w s pos => by kernel_rfl
end
end Mine
end

section
open PySem PySem.W PySem.Calls PyProof.Rows
set_option maxRecDepth 100000
set_option maxHeartbeats 0
namespace Mine
theorem h_run (w : World) (os : OsState) : ∃ s : Shared, topRun treeTable pw w 11 annT (12 + (1 + (7320 + 2))) ⟨boot_heap w.params, Array.mk [], boot_drawn, boot_toks, os⟩ (topStub pw) = some s ∧ lookT w s = (true, openGood qT looseT, hookT.val w) := by
  obtain ⟨⟨f, sT, c, pos⟩, hr, hl⟩ := Option.map_eq_some_iff.mp (h_main w os)
  have h1 : (f, c) = (Flow.next, cT) := congrArg Prod.fst hl
  have h2 : lookT w sT.abs = (true, openGood qT looseT, hookT.val w) := congrArg Prod.snd hl
  cases h1
  refine ⟨sT.abs, ?_, h2⟩
  have hr' : segRunT treeTable pw w 11 annT 1 7320 (sB w os) (piecesOf bodyT envT cT posT bT) = some (.next, sT, cT, pos) := by
    rw [Fast.te10110043849684766642, Fast.te14364793385576792824]
    exact hr
  have k0 := h_fin w sT.abs pos
  have k1 := piece_app (l := bodyT) (rest := []) (segRun_of hr') k0
  rw [List.append_nil] at k1
  have k2 := piece_block (h_block w os) k1
  exact go_top (h_pre w os) k2
theorem o1 : opening pw = plainProg pw.main.scope.names := by kernel_rfl
theorem o2 (s : Shared) : fenceModules? pw s = some s := by kernel_rfl
theorem z1 (w : World) : ((boot_heap w.params).isNs mainGlobals && (Array.mk [] : Array GenState).size == 0) = true := by kernel_rfl
theorem z2 (w : World) : (boot_heap w.params).objs.size = 11 := by kernel_rfl
theorem z3 (w : World) : (boot_heap w.params).nsMap mainGlobals "__annotations__" = annT := by kernel_rfl

theorem left_of {p q : Program} {loose : List Str} {Xt : Shared → Bool} {α : Type} {Yf : Shared → α} {Ya : World → α} {N : Nat} {g0 : Bool} {H₀ : Params → Heap} {gs₀ : Array GenState} {d₀ : Drawn} {k₀ m₀ : Nat} {ann : Option Value} {M : Nat}
    (open_ : ∀ w : World, (fencedOpening treeTable p w N).map (fun s => (s.heap, s.gens, s.drawn, s.toks)) = some (H₀ w.params, gs₀, d₀, k₀))
    (z1 : ∀ w : World, ((H₀ w.params).isNs mainGlobals && gs₀.size == 0) = true) (z2 : ∀ w : World, (H₀ w.params).objs.size = m₀) (z3 : ∀ w : World, (H₀ w.params).nsMap mainGlobals "__annotations__" = ann)
    (run : ∀ (w : World) (os : OsState), ∃ s : Shared, topRun treeTable p w m₀ ann M ⟨H₀ w.params, gs₀, d₀, k₀, os⟩ (topStub p) = some s ∧
      (staticsOk (importedModules p.main.body) (H₀ w.params) s.heap && namesBound p s.heap && gensDone s && laidKept (H₀ w.params) s.heap) = true ∧ openSeen q loose (importedModules p.main.body) Xt g0 s = openGood q loose ∧ Yf s = Ya w) (le : Nat.ble M N = true) :
    LeftO p q loose Xt Yf Ya N g0 := fun w => by
  obtain ⟨⟨h, gs, d, k, os⟩, e, e'⟩ := Option.map_eq_some_iff.mp (open_ w)
  obtain ⟨rfl, rfl, rfl, rfl⟩ : h = H₀ w.params ∧ gs = gs₀ ∧ d = d₀ ∧ k = k₀ := by simpa using e'
  obtain ⟨s, hs, l1, l2, l3⟩ := run w os
  have r := topRun_mono (N - M) _ _ _ _ hs
  rw [show M + (N - M) = N by have := Nat.le_of_ble_eq_true le; omega] at r
  have t : topFrom treeTable p w N ⟨H₀ w.params, gs, d, k, os⟩ = some s := by
    unfold topFrom
    dsimp only
    rw [z1, z2, z3, r]
    show (match staticsOk (importedModules p.main.body) (H₀ w.params) s.heap && namesBound p s.heap && gensDone s && laidKept (H₀ w.params) s.heap with | true => some s | false => none) = _
    rw [l1]
  unfold openEnds
  rw [e]
  show (topFrom treeTable p w N _).map _ = _
  rw [t]
  show some (openSeen q loose (importedModules p.main.body) Xt g0 s, Yf s) = _
  rw [l2, l3]
theorem h_run2 (w : World) (os : OsState) : ∃ s : Shared, topRun treeTable pw w 11 annT 7335 ⟨boot_heap w.params, Array.mk [], boot_drawn, boot_toks, os⟩ (topStub pw) = some s ∧
      (staticsOk (importedModules pw.main.body) (boot_heap w.params) s.heap && namesBound pw s.heap && gensDone s && laidKept (boot_heap w.params) s.heap) = true ∧ openSeen qT looseT (importedModules pw.main.body) XtT true s = openGood qT looseT ∧ hookT.obs s = hookT.val w := by
  obtain ⟨s, hs, hl⟩ := h_run w os
  refine ⟨s, hs, congrArg Prod.fst hl, ?_, congrArg (fun x => x.2.2) hl⟩
  rw [Fast.te4187177175401517315]
  exact congrArg (fun x => x.2.1) hl
theorem h_left : LeftO pw qT looseT XtT hookT.obs hookT.val 14630 :=
  left_of (boot_open o1 rfl o2) z1 z2 z3 h_run2 rfl
end Mine
end

section
open PySem PySem.W PySem.Calls PyProof.Rows
set_option maxRecDepth 100000
set_option maxHeartbeats 0
namespace Mine
noncomputable abbrev lawR : OpenLaw := PySem.Challenge.rw_xm0186_01
noncomputable def cutA {e a b : Bool} (_ : e = (a && b)) : Bool := a
noncomputable def cutB {e a b : Bool} (_ : e = (a && b)) : Bool := b
noncomputable abbrev lwA0 : Bool := cutA (e := OpenLaw.wellSaid lawR) rfl
theorem lw_b0 : cutB (e := OpenLaw.wellSaid lawR) rfl = true := by kernel_rfl
noncomputable abbrev lwA1 : Bool := cutA (e := lwA0) rfl
theorem lw_b1 : cutB (e := lwA0) rfl = true := by kernel_rfl
noncomputable abbrev lwA2 : Bool := cutA (e := lwA1) rfl
theorem lw_b2 : cutB (e := lwA1) rfl = true := by kernel_rfl
noncomputable abbrev lwA3 : Bool := cutA (e := lwA2) rfl
theorem lw_b3 : cutB (e := lwA2) rfl = true := by kernel_rfl
noncomputable abbrev lwA4 : Bool := cutA (e := lwA3) rfl
theorem lw_b4 : cutB (e := lwA3) rfl = true := by kernel_rfl
noncomputable abbrev lwA5 : Bool := cutA (e := lwA4) rfl
theorem lw_b5 : cutB (e := lwA4) rfl = true := by kernel_rfl
noncomputable abbrev lwA6 : Bool := cutA (e := lwA5) rfl
theorem lw_b6 : cutB (e := lwA5) rfl = true := by kernel_rfl
noncomputable abbrev lwA7 : Bool := cutA (e := lwA6) rfl
theorem lw_b7 : cutB (e := lwA6) rfl = true := by kernel_rfl
noncomputable abbrev lwA8 : Bool := cutA (e := lwA7) rfl
theorem lw_b8 : cutB (e := lwA7) rfl = true := by kernel_rfl
noncomputable abbrev lwA9 : Bool := cutA (e := lwA8) rfl
theorem lw_b9 : cutB (e := lwA8) rfl = true := by kernel_rfl
noncomputable abbrev lwA10 : Bool := cutA (e := lwA9) rfl
theorem lw_b10 : cutB (e := lwA9) rfl = true := by kernel_rfl
noncomputable abbrev lwA11 : Bool := cutA (e := lwA10) rfl
theorem lw_b11 : cutB (e := lwA10) rfl = true := by kernel_rfl
noncomputable abbrev lwA12 : Bool := cutA (e := lwA11) rfl
theorem lw_b12 : cutB (e := lwA11) rfl = true := by kernel_rfl
noncomputable abbrev lwA13 : Bool := cutA (e := lwA12) rfl
theorem lw_b13 : cutB (e := lwA12) rfl = true := by kernel_rfl
noncomputable abbrev lwA14 : Bool := cutA (e := lwA13) rfl
theorem lw_b14 : cutB (e := lwA13) rfl = true := by kernel_rfl
noncomputable abbrev lwA15 : Bool := cutA (e := lwA14) rfl
theorem lw_b15 : cutB (e := lwA14) rfl = true := by kernel_rfl
noncomputable abbrev lwA16 : Bool := cutA (e := lwA15) rfl
theorem lw_b16 : cutB (e := lwA15) rfl = true := by kernel_rfl
noncomputable abbrev lwA17 : Bool := cutA (e := lwA16) rfl
theorem lw_b17 : cutB (e := lwA16) rfl = true := by kernel_rfl
noncomputable abbrev rwA0 : Bool := cutA (e := OpenRow.wellSaid (OpenLaw.row lawR)) rfl
theorem rw_b0 : cutB (e := OpenRow.wellSaid (OpenLaw.row lawR)) rfl = true := by kernel_rfl
noncomputable abbrev rwA1 : Bool := cutA (e := rwA0) rfl
theorem rw_b1 : cutB (e := rwA0) rfl = true := by kernel_rfl
noncomputable abbrev ptA0 : Bool := cutA (e := OpenRow.partSaid (OpenLaw.row lawR)) rfl
theorem pt_b0 : cutB (e := OpenRow.partSaid (OpenLaw.row lawR)) rfl = true := by kernel_rfl
noncomputable abbrev ptA1 : Bool := cutA (e := ptA0) rfl
theorem pt_b1 : cutB (e := ptA0) rfl = true := by kernel_rfl
noncomputable abbrev ptA2 : Bool := cutA (e := ptA1) rfl
theorem pt_b2 : cutB (e := ptA1) rfl = true := by kernel_rfl
noncomputable abbrev ptA3 : Bool := cutA (e := ptA2) rfl
theorem pt_b3 : cutB (e := ptA2) rfl = true := by kernel_rfl
noncomputable abbrev ptA4 : Bool := cutA (e := ptA3) rfl
theorem pt_b4 : cutB (e := ptA3) rfl = true := by kernel_rfl
noncomputable abbrev ptA5 : Bool := cutA (e := ptA4) rfl
theorem pt_b5 : cutB (e := ptA4) rfl = true := by kernel_rfl
noncomputable abbrev ptA6 : Bool := cutA (e := ptA5) rfl
theorem pt_b6 : cutB (e := ptA5) rfl = true := by kernel_rfl
noncomputable abbrev ptA7 : Bool := cutA (e := ptA6) rfl
theorem pt_b7 : cutB (e := ptA6) rfl = true := by kernel_rfl
noncomputable abbrev ptA8 : Bool := cutA (e := ptA7) rfl
theorem pt_b8 : cutB (e := ptA7) rfl = true := by kernel_rfl
noncomputable abbrev ptA9 : Bool := cutA (e := ptA8) rfl
theorem pt_b9 : cutB (e := ptA8) rfl = true := by kernel_rfl
noncomputable abbrev ptA10 : Bool := cutA (e := ptA9) rfl
theorem pt_b10 : cutB (e := ptA9) rfl = true := by kernel_rfl
noncomputable abbrev ptA11 : Bool := cutA (e := ptA10) rfl
theorem pt_b11 : cutB (e := ptA10) rfl = true := by kernel_rfl
noncomputable abbrev ptA12 : Bool := cutA (e := ptA11) rfl
theorem pt_b12 : cutB (e := ptA11) rfl = true := by kernel_rfl
noncomputable abbrev lkA0 : Bool := cutA (e := looksOpen (OpenLaw.row lawR).prog) rfl
theorem lk_b0 : cutB (e := looksOpen (OpenLaw.row lawR).prog) rfl = true := by kernel_rfl
noncomputable abbrev lkA1 : Bool := cutA (e := lkA0) rfl
theorem lk_b1 : cutB (e := lkA0) rfl = true := by kernel_rfl
noncomputable abbrev lkA2 : Bool := cutA (e := lkA1) rfl
theorem lk_b2 : cutB (e := lkA1) rfl = true := by kernel_rfl
noncomputable abbrev lkA3 : Bool := cutA (e := lkA2) rfl
theorem lk_b3 : cutB (e := lkA2) rfl = true := by kernel_rfl
noncomputable abbrev lkA4 : Bool := cutA (e := lkA3) rfl
theorem lk_b4 : cutB (e := lkA3) rfl = true := by kernel_rfl
theorem lk_first : lkA4 = true := by kernel_rfl
theorem lk_a4 : lkA3 = true := look_both (a := lkA4) lk_first lk_b4
theorem lk_a3 : lkA2 = true := look_both (a := lkA3) lk_a4 lk_b3
theorem lk_a2 : lkA1 = true := look_both (a := lkA2) lk_a3 lk_b2
theorem lk_a1 : lkA0 = true := look_both (a := lkA1) lk_a2 lk_b1
theorem lk_a0 : looksOpen (OpenLaw.row lawR).prog = true := look_both (a := lkA0) lk_a1 lk_b0
theorem pt_a12 : ptA11 = true := look_both (a := ptA12) lk_a0 pt_b12
theorem pt_a11 : ptA10 = true := look_both (a := ptA11) pt_a12 pt_b11
theorem pt_a10 : ptA9 = true := look_both (a := ptA10) pt_a11 pt_b10
theorem pt_a9 : ptA8 = true := look_both (a := ptA9) pt_a10 pt_b9
theorem pt_a8 : ptA7 = true := look_both (a := ptA8) pt_a9 pt_b8
theorem pt_a7 : ptA6 = true := look_both (a := ptA7) pt_a8 pt_b7
theorem pt_a6 : ptA5 = true := look_both (a := ptA6) pt_a7 pt_b6
theorem pt_a5 : ptA4 = true := look_both (a := ptA5) pt_a6 pt_b5
theorem pt_a4 : ptA3 = true := look_both (a := ptA4) pt_a5 pt_b4
theorem pt_a3 : ptA2 = true := look_both (a := ptA3) pt_a4 pt_b3
theorem pt_a2 : ptA1 = true := look_both (a := ptA2) pt_a3 pt_b2
theorem pt_a1 : ptA0 = true := look_both (a := ptA1) pt_a2 pt_b1
theorem pt_a0 : OpenRow.partSaid (OpenLaw.row lawR) = true := look_both (a := ptA0) pt_a1 pt_b0
theorem rw_a1 : rwA0 = true := look_both (a := rwA1) pt_a0 rw_b1
theorem rw_a0 : OpenRow.wellSaid (OpenLaw.row lawR) = true := look_both (a := rwA0) rw_a1 rw_b0
theorem lw_a17 : lwA16 = true := look_both (a := lwA17) rw_a0 lw_b17
theorem lw_a16 : lwA15 = true := look_both (a := lwA16) lw_a17 lw_b16
theorem lw_a15 : lwA14 = true := look_both (a := lwA15) lw_a16 lw_b15
theorem lw_a14 : lwA13 = true := look_both (a := lwA14) lw_a15 lw_b14
theorem lw_a13 : lwA12 = true := look_both (a := lwA13) lw_a14 lw_b13
theorem lw_a12 : lwA11 = true := look_both (a := lwA12) lw_a13 lw_b12
theorem lw_a11 : lwA10 = true := look_both (a := lwA11) lw_a12 lw_b11
theorem lw_a10 : lwA9 = true := look_both (a := lwA10) lw_a11 lw_b10
theorem lw_a9 : lwA8 = true := look_both (a := lwA9) lw_a10 lw_b9
theorem lw_a8 : lwA7 = true := look_both (a := lwA8) lw_a9 lw_b8
theorem lw_a7 : lwA6 = true := look_both (a := lwA7) lw_a8 lw_b7
theorem lw_a6 : lwA5 = true := look_both (a := lwA6) lw_a7 lw_b6
theorem lw_a5 : lwA4 = true := look_both (a := lwA5) lw_a6 lw_b5
theorem lw_a4 : lwA3 = true := look_both (a := lwA4) lw_a5 lw_b4
theorem lw_a3 : lwA2 = true := look_both (a := lwA3) lw_a4 lw_b3
theorem lw_a2 : lwA1 = true := look_both (a := lwA2) lw_a3 lw_b2
theorem lw_a1 : lwA0 = true := look_both (a := lwA1) lw_a2 lw_b1
theorem lw_a0 : OpenLaw.wellSaid lawR = true := look_both (a := lwA0) lw_a1 lw_b0
theorem h_said : OpenLaw.wellSaid lawR = true := lw_a0
theorem h_chains : chainsOk qT = true := by kernel_rfl
theorem h_opens : opensWell pw = true := by kernel_rfl
theorem h_frees : (frees (OpenLaw.row lawR).toRowW && (OpenLaw.row lawR).within.isEmpty) = true := by kernel_rfl
theorem h_ok : (chainsOk qT && opensWell pw && (frees (OpenLaw.row lawR).toRowW && (OpenLaw.row lawR).within.isEmpty)) = true := by
  rw [h_chains, h_opens, h_frees]; rfl
theorem h_bare : pw.bare := ⟨rfl, rfl, rfl, rfl, rfl, by decide +kernel⟩
end Mine
end

section
open PySem PySem.W PySem.Calls PyProof.Rows
set_option maxRecDepth 100000
namespace Mine

inductive MV where
  | none | bool (b : Bool) | int (i : Int) | str (x : Str) | loc (l : Nat) | gv (v : Value)

inductive MObj where
  | tup (vs : List MV)
  | lst (vs : List MV)
  | inst (C : Addr) (fs : List (Nat × MV))
  | dct (ks : List (Int × MV))
  | rng (n : Nat)
  | itm (l : Nat)
  | cel (m : Option MV)
  | raw (o : Obj)
  | opq (k : Nat) (ls : List MV)

noncomputable abbrev MHeap := List MObj
noncomputable abbrev Locs := List (Option MV)

structure Glo where
  prog : Program
  w : World
  K : Frag
  p : Program
  loose : List Str
  mean : ExcName → Option Value
  mg : Str → Option Value
  mb : Str → Option Value
  atn : List Str
  opq : Nat → List Value → Addr → List (Addr × Obj) → Prop

noncomputable def Glo.at (G : Glo) (i : Nat) : Str := G.atn.getD i ""
noncomputable abbrev Glo.M (G : Glo) : Model := model G.prog G.w

noncomputable def VR (as : List Addr) : MV → Value → Prop
  | .none, v => v = .none
  | .bool b, v => v = .bool b
  | .int i, v => ∃ t, v = .int i t
  | .str x, v => ∃ t, v = .str x t
  | .loc l, v => ∃ a, as[l]? = some a ∧ v = .ref a
  | .gv u, v => v = u ∧ handedIn u = true ∧ u ≠ .none

noncomputable def VRs (as : List Addr) : List MV → List Value → Prop
  | [], vs => vs = []
  | m :: ms, vs => ∃ v r, vs = v :: r ∧ VR as m v ∧ VRs as ms r

noncomputable def Ext (as as' : List Addr) : Prop := ∀ (l : Nat) (a : Addr), as[l]? = some a → as'[l]? = some a
theorem Ext.refl (as : List Addr) : Ext as as := fun _ _ h => h
theorem Ext.trans {a b c : List Addr} (h : Ext a b) (k : Ext b c) : Ext a c := fun l x e => k l x (h l x e)
theorem Ext.app (as : List Addr) (r : List Addr) : Ext as (as ++ r) := fun l a h => by
  rw [List.getElem?_append_left]
  · exact h
  · exact (List.getElem?_eq_some_iff.mp h).1

theorem VR.mono {as as' : List Addr} (h : Ext as as') {m : MV} {v : Value} (r : VR as m v) : VR as' m v := by
  cases m with
  | loc l => obtain ⟨a, e, r⟩ := r; exact ⟨a, h _ _ e, r⟩
  | _ => exact r
theorem VRs.mono {as as' : List Addr} (h : Ext as as') {ms : List MV} : ∀ {vs : List Value}, VRs as ms vs → VRs as' ms vs := by
  induction ms with
  | nil => exact fun r => r
  | cons m ms ih => rintro vs ⟨v, r, e, a, b⟩; exact ⟨v, r, e, a.mono h, ih b⟩
theorem VR.handed {as : List Addr} {m : MV} {v : Value} (r : VR as m v) : handedIn v = true := by
  cases m with
  | none => cases r; rfl
  | bool b => cases r; rfl
  | int i => obtain ⟨_, rfl⟩ := r; rfl
  | str x => obtain ⟨_, rfl⟩ := r; rfl
  | loc l => obtain ⟨_, _, rfl⟩ := r; rfl
  | gv u => obtain ⟨rfl, h, _⟩ := r; exact h
theorem VRs.len {as : List Addr} {ms : List MV} : ∀ {vs : List Value}, VRs as ms vs → vs.length = ms.length := by
  induction ms with
  | nil => intro vs r; cases r; rfl
  | cons m ms ih => rintro _ ⟨v, r, rfl, _, b⟩; exact congrArg (· + 1) (ih b)
theorem VRs.get {as : List Addr} {ms : List MV} : ∀ {vs : List Value}, VRs as ms vs → ∀ {i : Nat} {m : MV}, ms[i]? = some m → ∃ v, vs[i]? = some v ∧ VR as m v := by
  induction ms with
  | nil => intro vs _ i m h; cases h
  | cons m0 ms ih =>
    rintro _ ⟨v, r, rfl, a, b⟩ i m h
    cases i with
    | zero => cases h; exact ⟨v, rfl, a⟩
    | succ i => exact ih b (i := i) h
theorem VRs.app {as : List Addr} {ms : List MV} {vs : List Value} {ms' : List MV} {vs' : List Value} (r : VRs as ms vs) (k : VRs as ms' vs') : VRs as (ms ++ ms') (vs ++ vs') := by
  induction ms generalizing vs with
  | nil => cases r; exact k
  | cons m ms ih => obtain ⟨v, r, rfl, a, b⟩ := r; exact ⟨v, r ++ _, rfl, a, ih b⟩
theorem VRs.one {as : List Addr} {m : MV} {v : Value} (h : VR as m v) : VRs as [m] [v] := ⟨v, [], rfl, h, rfl⟩
theorem VRs.cons {as : List Addr} {m : MV} {v : Value} {ms : List MV} {vs : List Value} (h : VR as m v) (r : VRs as ms vs) : VRs as (m :: ms) (v :: vs) := ⟨v, vs, rfl, h, r⟩
theorem VRs.set {as : List Addr} {m : MV} {v : Value} {ms : List MV} : ∀ {vs : List Value} {i : Nat}, VRs as ms vs → VR as m v → VRs as (ms.set i m) (vs.set i v) := by
  induction ms with
  | nil => intro vs i r _; cases r; rfl
  | cons m0 ms ih =>
    rintro _ i ⟨v, r, rfl, a, b⟩ k
    cases i with
    | zero => exact ⟨_, r, rfl, k, b⟩
    | succ i => exact ⟨_, _, rfl, a, ih b k⟩

noncomputable def FR (G : Glo) (as : List Addr) : List (Nat × MV) → List DictEntry → Prop
  | [], es => es = []
  | (i, m) :: fs, es => ∃ e r, es = e :: r ∧ i < G.atn.length ∧ (∃ t, e.key = .str (G.at i) t) ∧ VR as m e.val ∧ FR G as fs r
theorem FR.mono {G : Glo} {as as' : List Addr} (h : Ext as as') {fs : List (Nat × MV)} : ∀ {es : List DictEntry}, FR G as fs es → FR G as' fs es := by
  induction fs with
  | nil => exact fun r => r
  | cons p fs ih => rintro es ⟨e, r, q, a, b, c, d⟩; exact ⟨e, r, q, a, b, c.mono h, ih d⟩

noncomputable def KR (as : List Addr) : List (Int × MV) → List (Int × Value) → Prop
  | [], kv => kv = []
  | (i, m) :: ks, kv => ∃ v r, kv = (i, v) :: r ∧ VR as m v ∧ KR as ks r
theorem KR.mono {as as' : List Addr} (h : Ext as as') {ks : List (Int × MV)} : ∀ {kv : List (Int × Value)}, KR as ks kv → KR as' ks kv := by
  induction ks with
  | nil => exact fun r => r
  | cons p ks ih => rintro kv ⟨v, r, e, a, b⟩; exact ⟨v, r, e, a.mono h, ih b⟩

noncomputable def OR (as : List Addr) : Option MV → Option Value → Prop
  | none, v => v = none
  | some m, v => ∃ u, v = some u ∧ VR as m u
theorem OR.mono {as as' : List Addr} (h : Ext as as') {m : Option MV} {v : Option Value} (r : OR as m v) : OR as' m v := by
  cases m with
  | none => exact r
  | some m => obtain ⟨u, e, r⟩ := r; exact ⟨u, e, r.mono h⟩
noncomputable def Cell (G : Glo) (as : List Addr) (a : Addr) : MObj → List (Addr × Obj) → Prop
  | .tup vs, c => ∃ us n, c = [(a, ({ cls := .type "tuple", data := .seq us n } : Obj))] ∧ VRs as vs us.toList
  | .lst vs, c => ∃ us n, c = [(a, listOf us n)] ∧ VRs as vs us.toList
  | .inst C fs, c => ∃ dx es n, c = [(a, instObj C dx), (dx, dictOf es n)] ∧ FR G as fs es
  | .dct ks, c => ∃ o kv, c = [(a, o)] ∧ o.IsDictOf (intKind G.prog G.w) kv ∧ KR as ks kv
  | .rng n, c => ∃ t u v, c = [(a, ({ cls := .type "range", data := .fields #[.int 0 t, .int n u, .int 1 v] } : Obj))]
  | .itm l, c => ∃ b, as[l]? = some b ∧ c = [(a, ({ cls := .type "dict_items", data := .fields #[.ref b] } : Obj))]
  | .cel m, c => ∃ o v, c = [(a, o)] ∧ o.data = .cell v ∧ OR as m v
  | .raw o, c => c = [(a, o)]
  | .opq k ls, c => ∃ vs, VRs as ls vs ∧ G.opq k vs a c
theorem Cell.mono {G : Glo} {as as' : List Addr} (h : Ext as as') {a : Addr} {m : MObj} {c : List (Addr × Obj)} (x : Cell G as a m c) : Cell G as' a m c := by
  cases m with
  | tup _ => obtain ⟨us, n, e, r⟩ := x; exact ⟨us, n, e, r.mono h⟩
  | lst _ => obtain ⟨us, n, e, r⟩ := x; exact ⟨us, n, e, r.mono h⟩
  | inst _ _ => obtain ⟨dx, es, n, e, r⟩ := x; exact ⟨dx, es, n, e, r.mono h⟩
  | dct _ => obtain ⟨o, kv, e, q, r⟩ := x; exact ⟨o, kv, e, q, r.mono h⟩
  | itm _ => obtain ⟨b, e, r⟩ := x; exact ⟨b, h _ _ e, r⟩
  | cel _ => obtain ⟨o, v, e, q, r⟩ := x; exact ⟨o, v, e, q, r.mono h⟩
  | opq _ _ => obtain ⟨vs, r, e⟩ := x; exact ⟨vs, r.mono h, e⟩
  | _ => exact x
structure Dyn where
  A : Around
  A₀ : Around
  base : Heap
  h₀ : Heap
  outer : List Env
  L : Addr
  fenv : Env
  env : Env
  mf : Str → Option Value
  ce : List (Addr × Obj)
  xs : List (Addr × Obj)
  s₀ : Shared

noncomputable def Dyn.led (D : Dyn) (cs : List (List (Addr × Obj))) : List (Addr × Obj) := D.xs ++ (D.ce ++ cs.flatten)

theorem mem_lookup {α β : Type} [BEq α] [LawfulBEq α] {l : List (α × β)} {a : α} {b : β} : l.lookup a = some b → (a, b) ∈ l := by
  induction l with
  | nil => intro h; cases h
  | cons p r ih =>
    intro h
    rw [List.lookup_cons] at h
    cases e : a == p.1 with
    | true => rw [e] at h; cases h; rw [beq_iff_eq.mp e]; exact .head _
    | false => rw [e] at h; exact .tail _ (ih h)
noncomputable def ck (p : Addr × Obj) : Addr := p.1

noncomputable def lamC : Addr := 1087
noncomputable def lamQ : Str := Str.ofString "_law_forgotten_right"
noncomputable def lamN (sc : Scope) : Bool := sc.names.any (fun p => p.1 == Str.ofString "numbers") && sc.names.any (fun p => p.1 == Str.ofString "way")
noncomputable def isLamC : Value → Bool
  | .ref a => a == lamC
  | _ => false
theorem isLamC_of {v : Value} (h : isLamC v = true) : v = .ref lamC := by
  cases v <;> first | cases h | (rw [beq_iff_eq.mp h])

structure Ok (G : Glo) (d : Nat) (D : Dyn) : Prop where
  below : Below D.A₀ D.base D.outer D.h₀
  kin : G.K.In D.h₀
  top : Top G.p G.loose G.mean G.mg G.mb D.h₀
  frames : D.A.frames = some (D.fenv :: D.outer)
  handled : D.A.handled = none
  ff : D.fenv.frame = some D.L
  fk : D.fenv.scope.kind = .function
  depth : D.A.depth + d < recursionLimit
  units : D.A.units + 8 * d + 200 < cLine
  nd : G.atn.Nodup
  eg : D.env.globals = mainGlobals
  eb : D.env.builtins = builtinsNs
  ek : D.env.scope.kind = .function
  cells : ∀ x, D.env.scope.names.lookup x = some .cell → ∃ c, D.env.cells.lookup x = some c
  lam : lamN D.env.scope = true → D.env.code = .ref lamC ∧ D.env.qual = lamQ ++ ".<locals>."

noncomputable def SameS (s₀ s : Shared) : Prop := s.gens = s₀.gens ∧ s.drawn = s₀.drawn ∧ s.os = s₀.os
theorem SameS.with {s₀ s : Shared} (h : SameS s₀ s) (hp : Heap) (tk : Nat) : SameS s₀ { s with heap := hp, toks := tk } := h

structure HRel (G : Glo) (D : Dyn) (as : List Addr) (cs : List (List (Addr × Obj))) (hp : MHeap) (s : Shared) : Prop where
  fr : Fr D.h₀ D.L s.heap D.mf
  nw : News D.h₀ D.L s.heap (D.led cs)
  nd : ((D.led cs).map (·.1)).Nodup
  la : as.length = hp.length
  lc : cs.length = hp.length
  cel : ∀ (l : Nat) (mo : MObj), hp[l]? = some mo → ∃ a c, as[l]? = some a ∧ cs[l]? = some c ∧ Cell G as a mo c
  st : SameS D.s₀ s

noncomputable def Sees (D : Dyn) (x : Str) (v : Value) : Prop :=
  (D.env.locals = D.L ∧ D.env.kindOf x = some .local ∧ D.mf x = some v) ∨
  (D.env.kindOf x = some .local ∧ ∃ o m, (D.env.locals, o) ∈ D.ce ∧ (∀ h : Heap, h.get? D.env.locals = some o → h.Ns D.env.locals m) ∧ m x = some v) ∨
  ((D.env.kindOf x = some .cell ∨ D.env.kindOf x = some .free) ∧ ∃ c, D.env.cells.lookup x = some c ∧ v = .ref c)

noncomputable def LocRel (D : Dyn) (as : List Addr) (tbl : List Str) (loc : Locs) : Prop :=
  ∀ (i : Nat) (m : MV), loc[i]? = some (some m) → ∃ x v, tbl[i]? = some x ∧ VR as m v ∧ Sees D x v
theorem LocRel.mono {D : Dyn} {as as' : List Addr} {tbl : List Str} {loc : Locs} (h : LocRel D as tbl loc) (e : Ext as as') : LocRel D as' tbl loc :=
  fun i m q => let ⟨x, v, a, b, c⟩ := h i m q; ⟨x, v, a, b.mono e, c⟩

noncomputable abbrev EFun := Locs → MHeap → Option (MV × MHeap)

noncomputable def EvI (G : Glo) (sc : Scope) (tbl : List Str) (d : Nat) (e : Expr) (f : EFun) : Prop :=
  ∀ (D : Dyn) (loc : Locs) (hp : MHeap) (as : List Addr) (cs : List (List (Addr × Obj))) (s : Shared) (mv : MV) (hp' : MHeap) (Q : Value → Shared → Prop) (E : Value → Shared → Prop),
    Ok G d D → D.env.scope = sc → f loc hp = some (mv, hp') → LocRel D as tbl loc → HRel G D as cs hp s →
    (∀ v as' cs' s', Ext as as' → VR as' mv v → HRel G D as' cs' hp' s' → Q v s') →
    wpAny G.M D.A (eval e D.env) Q E s

noncomputable def StarOk : List Expr → Prop
  | [] => True
  | e :: r => (∀ env, starEach (e :: r) env = (false, eval e env) :: starEach r env) ∧ StarOk r
theorem StarOk.plain {pos : Pos} {env : Env} {es : List Expr} : StarOk es → (backTo pos (starEach es env)).any (·.1) = false := by
  induction es with
  | nil => intro _; rw [arm_starEach_nil]; rfl
  | cons e r ih => rintro ⟨h, k⟩; rw [h env]; show (false || (backTo pos (starEach r env)).any (·.1)) = false; rw [ih k]; rfl

noncomputable def EvsI (G : Glo) (sc : Scope) (tbl : List Str) (d : Nat) (es : List Expr) (f : Locs → MHeap → Option (List MV × MHeap)) : Prop :=
  StarOk es ∧ ∀ (D : Dyn) (loc : Locs) (hp : MHeap) (as : List Addr) (cs : List (List (Addr × Obj))) (s : Shared) (mvs : List MV) (hp' : MHeap) (pos : Pos) (Q : List Value → Shared → Prop) (E : Value → Shared → Prop),
    Ok G d D → D.env.scope = sc → f loc hp = some (mvs, hp') → LocRel D as tbl loc → HRel G D as cs hp s →
    (∀ vs as' cs' s', Ext as as' → VRs as' mvs vs → HRel G D as' cs' hp' s' → Q vs s') →
    wpAny G.M D.A (spliced (backTo pos (starEach es D.env))) Q E s

noncomputable def FnI (G : Glo) (d : Nat) (f : Addr) (F : List MV → MHeap → Option (MV × MHeap)) : Prop :=
  ∀ (D : Dyn) (A : Around) (hp : MHeap) (as : List Addr) (cs : List (List (Addr × Obj))) (s : Shared) (mvs : List MV) (vs : List Value) (mv : MV) (hp' : MHeap) (R : Result → Shared → Prop),
    Ok G 0 D → A.frames = D.A.frames → A.handled = none → A.depth + d < recursionLimit → A.units + 8 * d + 200 < cLine →
    F mvs hp = some (mv, hp') → VRs as mvs vs → HRel G D as cs hp s →
    (∀ v as' cs' s', Ext as as' → VR as' mv v → HRel G D as' cs' hp' s' → R (.ok (.ret v)) s') →
    codeAny G.M A (.call (.ref f) ⟨vs, []⟩) R s

inductive MFlow where
  | next | brk | cont | ret (v : MV)
noncomputable def FlR (as : List Addr) : MFlow → Flow → Prop
  | .next, f => f = .next
  | .brk, f => f = .brk
  | .cont, f => f = .cont
  | .ret m, f => ∃ v, f = .ret v ∧ VR as m v

noncomputable def Dyn.turn (D : Dyn) (mf : Str → Option Value) (ce : List (Addr × Obj)) : Dyn := { D with mf := mf, ce := ce }

noncomputable abbrev SFun := Locs → MHeap → Option (MFlow × Locs × MHeap)

noncomputable def ExI (G : Glo) (sc : Scope) (tbl : List Str) (d : Nat) (st : List Stmt) (f : SFun) : Prop :=
  ∀ (D : Dyn) (loc : Locs) (hp : MHeap) (as : List Addr) (cs : List (List (Addr × Obj))) (s : Shared) (fl : MFlow) (loc' : Locs) (hp' : MHeap) (Q : Flow → Shared → Prop) (E : Value → Shared → Prop),
    Ok G d D → D.env.scope = sc → D.env = D.fenv → D.env.locals = D.L → f loc hp = some (fl, loc', hp') → LocRel D as tbl loc → HRel G D as cs hp s →
    (∀ fv as' cs' mf' ce' s', Ext as as' → FlR as' fl fv → ce'.map ck = D.ce.map ck → LocRel (D.turn mf' ce') as' tbl loc' → HRel G (D.turn mf' ce') as' cs' hp' s' → Q fv s') →
    wpAny G.M D.A (execs st D.env) Q E s

noncomputable def StI (G : Glo) (sc : Scope) (tbl : List Str) (d : Nat) (st : Stmt) (f : SFun) : Prop :=
  ∀ (D : Dyn) (loc : Locs) (hp : MHeap) (as : List Addr) (cs : List (List (Addr × Obj))) (s : Shared) (fl : MFlow) (loc' : Locs) (hp' : MHeap) (Q : Flow → Shared → Prop) (E : Value → Shared → Prop),
    Ok G d D → D.env.scope = sc → D.env = D.fenv → D.env.locals = D.L → f loc hp = some (fl, loc', hp') → LocRel D as tbl loc → HRel G D as cs hp s →
    (∀ fv as' cs' mf' ce' s', Ext as as' → FlR as' fl fv → ce'.map ck = D.ce.map ck → LocRel (D.turn mf' ce') as' tbl loc' → HRel G (D.turn mf' ce') as' cs' hp' s' → Q fv s') →
    wpAny G.M D.A (exec st D.env) Q E s

theorem Ok.turn {G : Glo} {d : Nat} {D : Dyn} (h : Ok G d D) (mf : Str → Option Value) (ce : List (Addr × Obj)) (_k : ce.map ck = D.ce.map ck) : Ok G d (D.turn mf ce) :=
  ⟨h.below, h.kin, h.top, h.frames, h.handled, h.ff, h.fk, h.depth, h.units, h.nd, h.eg, h.eb, h.ek, h.cells, h.lam⟩
theorem Ok.less {G : Glo} {d d' : Nat} {D : Dyn} (h : Ok G d D) (hd : d' ≤ d) : Ok G d' D :=
  ⟨h.below, h.kin, h.top, h.frames, h.handled, h.ff, h.fk, by have := h.depth; omega, by have := h.units; omega, h.nd, h.eg, h.eb, h.ek, h.cells, h.lam⟩

noncomputable def updA (d : Addr) (o : Obj) (l : List (Addr × Obj)) : List (Addr × Obj) := l.map fun p => if p.1 = d then (d, o) else p
theorem updA_keys (d : Addr) (o : Obj) (l : List (Addr × Obj)) : (updA d o l).map (·.1) = l.map (·.1) := by
  unfold updA
  rw [List.map_map]
  refine List.map_congr_left fun p _ => ?_
  show (if p.1 = d then (d, o) else p).1 = p.1
  split
  · rename_i h; exact h.symm
  · rfl
theorem updA_off {d : Addr} {o : Obj} {l : List (Addr × Obj)} (h : ∀ p ∈ l, p.1 ≠ d) : updA d o l = l := by
  unfold updA
  conv => rhs; rw [← List.map_id l]
  exact List.map_congr_left fun p hp => by rw [if_neg (h p hp)]; rfl
theorem updA_app (d : Addr) (o : Obj) (l r : List (Addr × Obj)) : updA d o (l ++ r) = updA d o l ++ updA d o r := List.map_append ..
theorem updA_flat (d : Addr) (o : Obj) (cs : List (List (Addr × Obj))) : updA d o cs.flatten = (cs.map (updA d o)).flatten := by
  unfold updA; rw [List.map_flatten]
theorem news_updA {h₀ h h' : Heap} {L d : Addr} {o' : Obj} {l : List (Addr × Obj)} (N : News h₀ L h l) (hs : Heap.SameBut d h h') (ho : h'.get? d = some o') (hd : d ≠ L ∧ h₀.get? d = none) : News h₀ L h' (updA d o' l) := by
  intro p hp
  obtain ⟨q, hq, rfl⟩ := List.mem_map.mp hp
  have z := N q hq
  by_cases e : q.1 = d
  · rw [if_pos e]; exact ⟨ho, hd⟩
  · rw [if_neg e]; exact ⟨(hs.2 _ e).trans z.1, z.2⟩

theorem mem_led {D : Dyn} {cs : List (List (Addr × Obj))} {l : Nat} {c : List (Addr × Obj)} {p : Addr × Obj} (hc : cs[l]? = some c) (hp : p ∈ c) : p ∈ D.led cs :=
  List.mem_append_right _ (List.mem_append_right _ (List.mem_flatten.mpr ⟨c, List.mem_of_getElem? hc, hp⟩))

section
variable {G : Glo} {D : Dyn} {as : List Addr} {cs : List (List (Addr × Obj))} {hp : MHeap} {s : Shared}
theorem HRel.toks (H : HRel G D as cs hp s) (tk : Nat) : HRel G D as cs hp { s with toks := tk } := ⟨H.fr, H.nw, H.nd, H.la, H.lc, H.cel, H.st⟩
theorem HRel.same (H : HRel G D as cs hp s) : s = { D.s₀ with heap := s.heap, toks := s.toks } := by
  obtain ⟨a, b, c⟩ := H.st
  obtain ⟨h, g, dr, t, o⟩ := s
  dsimp only at a b c
  subst a b c
  rfl
theorem HRel.lt (H : HRel G D as cs hp s) {p : Addr × Obj} (h : p ∈ D.led cs) : p.1 < s.heap.objs.size := Heap.lt_size (H.nw p h).1

theorem HRel.keeps (H : HRel G D as cs hp s) {h' : Heap} (tk : Nat) (k : ∀ b o, s.heap.get? b = some o → h'.get? b = some o) : HRel G D as cs hp { s with heap := h', toks := tk } :=
  ⟨H.fr.keeps k, fun p hp => ⟨k _ _ (H.nw p hp).1, (H.nw p hp).2⟩, H.nd, H.la, H.lc, H.cel, H.st⟩

theorem HRel.grow (H : HRel G D as cs hp s) {a : Addr} {c : List (Addr × Obj)} {mo : MObj} {h' : Heap} (tk : Nat) (F : Fr D.h₀ D.L h' D.mf) (N : News D.h₀ D.L h' (c ++ D.led cs))
    (h1 : (c.map (·.1)).Nodup) (h2 : ∀ p ∈ c, ∀ q ∈ D.led cs, q.1 ≠ p.1) (k : Cell G (as ++ [a]) a mo c) : HRel G D (as ++ [a]) (cs ++ [c]) (hp ++ [mo]) { s with heap := h', toks := tk } := by
  have e : D.led (cs ++ [c]) = D.led cs ++ c := by simp [Dyn.led]
  refine ⟨F, ?_, ?_, by simp [H.la], by simp [H.lc], ?_, H.st⟩
  · rw [e]; intro p hp; exact N p (by rcases List.mem_append.mp hp with q | q <;> simp [q])
  · rw [e, List.map_append]
    refine List.nodup_append.mpr ⟨H.nd, h1, ?_⟩
    intro x hx y hy hxy
    obtain ⟨p, hp, rfl⟩ := List.mem_map.mp hx
    obtain ⟨q, hq, rfl⟩ := List.mem_map.mp hy
    exact h2 q hq p hp hxy
  · intro l m hm
    by_cases hl : l < hp.length
    · rw [List.getElem?_append_left hl] at hm
      obtain ⟨a', c', e1, e2, e3⟩ := H.cel l m hm
      refine ⟨a', c', ?_, ?_, e3.mono (Ext.app _ _)⟩
      · rw [List.getElem?_append_left (by rw [H.la]; exact hl)]; exact e1
      · rw [List.getElem?_append_left (by rw [H.lc]; exact hl)]; exact e2
    · have hl' : l = hp.length := by
        have := (List.getElem?_eq_some_iff.mp hm).1
        simp at this; omega
      subst hl'
      simp at hm; subst hm
      refine ⟨a, c, ?_, ?_, k⟩
      · rw [← H.la]; simp
      · rw [← H.lc]; simp

theorem led_off (nd : ((D.led cs).map (·.1)).Nodup) {l : Nat} {c : List (Addr × Obj)} {d' : Addr} (hc : cs[l]? = some c) (hd : d' ∈ c.map (·.1)) (o' : Obj) :
    (∀ (l' : Nat) (c' : List (Addr × Obj)), cs[l']? = some c' → l' ≠ l → ∀ p ∈ c', p.1 ≠ d') ∧ D.led (cs.map (updA d' o')) = updA d' o' (D.led cs) := by
  obtain ⟨⟨d'', o⟩, hp1, rfl⟩ := List.mem_map.mp hd
  have off : ∀ (l' : Nat) (c' : List (Addr × Obj)), cs[l']? = some c' → l' ≠ l → ∀ p ∈ c', p.1 ≠ d'' := by
    intro l' c' hc' hne p hp' e
    have nd2 : (cs.flatten.map (·.1)).Nodup := by
      have := nd
      unfold Dyn.led at this
      rw [List.map_append, List.map_append] at this
      exact (List.nodup_append.mp (List.nodup_append.mp this).2.1).2.1
    rw [List.map_flatten] at nd2
    have pw := (List.pairwise_flatten.mp nd2).2
    rw [List.pairwise_iff_getElem] at pw
    obtain ⟨h1, e1⟩ := List.getElem?_eq_some_iff.mp hc
    obtain ⟨h2, e2⟩ := List.getElem?_eq_some_iff.mp hc'
    have m1 : d'' ∈ (cs.map (List.map (·.1)))[l]'(by simpa using h1) := by simp only [List.getElem_map, e1]; exact hd
    have m2 : d'' ∈ (cs.map (List.map (·.1)))[l']'(by simpa using h2) := by simp only [List.getElem_map, e2]; exact List.mem_map.mpr ⟨p, hp', e⟩
    rcases Nat.lt_or_gt_of_ne hne with q | q
    · exact (pw l' l _ _ q) _ m2 _ m1 rfl
    · exact (pw l l' _ _ q) _ m1 _ m2 rfl
  have offx : ∀ p ∈ D.xs ++ D.ce, p.1 ≠ d'' := by
    intro p hp' e
    have := nd
    unfold Dyn.led at this
    rw [← List.append_assoc, List.map_append] at this
    exact (List.nodup_append.mp this).2.2 p.1 (List.mem_map_of_mem hp') d'' (List.mem_map.mpr ⟨_, List.mem_flatten.mpr ⟨c, List.mem_of_getElem? hc, hp1⟩, rfl⟩) e
  refine ⟨off, ?_⟩
  unfold Dyn.led
  rw [updA_app, updA_app, updA_flat, updA_off (fun p q => offx p (List.mem_append_left _ q)), updA_off (fun p q => offx p (List.mem_append_right _ q))]

theorem HRel.putN (H : HRel G D as cs hp s) {l : Nat} {a d : Addr} {c : List (Addr × Obj)} {o' : Obj} {mo' : MObj} {h' : Heap} (tk : Nat) (hl : l < hp.length) (ha : as[l]? = some a) (hc : cs[l]? = some c)
    (hd : d ∈ c.map (·.1)) (F : Fr D.h₀ D.L h' D.mf) (N : News D.h₀ D.L h' (updA d o' (D.led cs))) (k : Cell G as a mo' (updA d o' c)) :
    HRel G D as (cs.map (updA d o')) (hp.set l mo') { s with heap := h', toks := tk } := by
  obtain ⟨off, eled⟩ := led_off H.nd hc hd o'
  refine ⟨F, ?_, ?_, by simp [H.la], by simp [H.lc], ?_, H.st⟩
  · rw [eled]; exact N
  · rw [eled, updA_keys]; exact H.nd
  · intro l' m hm
    by_cases e : l' = l
    · subst e
      rw [List.getElem?_set_self hl] at hm
      cases hm
      exact ⟨a, updA d o' c, ha, by simp [hc], k⟩
    · rw [List.getElem?_set_ne (Ne.symm e)] at hm
      obtain ⟨a', c', e1, e2, e3⟩ := H.cel l' m hm
      exact ⟨a', c', e1, by simp [e2, updA_off (off l' c' e2 e)], e3⟩

theorem HRel.put (H : HRel G D as cs hp s) {l : Nat} {a d : Addr} {c : List (Addr × Obj)} {o' : Obj} {mo' : MObj} {h' : Heap} (tk : Nat) (hl : l < hp.length) (ha : as[l]? = some a) (hc : cs[l]? = some c)
    (hd : d ∈ c.map (·.1)) (hs : Heap.SameBut d s.heap h') (ho : h'.get? d = some o') (k : Cell G as a mo' (updA d o' c)) :
    HRel G D as (cs.map (updA d o')) (hp.set l mo') { s with heap := h', toks := tk } := by
  obtain ⟨⟨d', o⟩, hp1, rfl⟩ := List.mem_map.mp hd
  have z := H.nw _ (mem_led (D := D) hc hp1)
  exact H.putN tk hl ha hc hd (H.fr.change hs z.2.1 z.2.2) (news_updA H.nw hs ho z.2) k
theorem upd_of {d : Addr} {o o' : Obj} {l : List (Addr × Obj)} : (d, o) ∈ l → (l.map (·.1)).Nodup → Upd d o o' l (updA d o' l) := by
  induction l with
  | nil => intro h; cases h
  | cons p r ih =>
    intro h n
    have n' := List.nodup_cons.mp (show (p.1 :: r.map (·.1)).Nodup from n)
    by_cases e : p = (d, o)
    · subst e
      have off : ∀ q ∈ r, q.1 ≠ d := fun q hq z => n'.1 (List.mem_map.mpr ⟨q, hq, z⟩)
      have : updA d o' ((d, o) :: r) = (d, o') :: r := by
        show (if (d, o).1 = d then (d, o') else (d, o)) :: updA d o' r = _
        rw [if_pos rfl, updA_off off]
      rw [this]
      exact .head off
    · have hr : (d, o) ∈ r := (List.mem_cons.mp h).resolve_left (Ne.symm e)
      have ne : p.1 ≠ d := fun z => n'.1 (z ▸ List.mem_map_of_mem (f := (·.1)) hr)
      have : updA d o' (p :: r) = p :: updA d o' r := by
        show (if p.1 = d then (d, o') else p) :: updA d o' r = _
        rw [if_neg ne]
      rw [this]
      exact .tail ne (ih hr n'.2)
end
end Mine
end

section
open PySem PySem.W PySem.Calls PyProof.Rows
set_option maxRecDepth 100000
namespace Mine

noncomputable abbrev TFun := Locs → MHeap → Option (Bool × MHeap)
noncomputable abbrev O1 := MV → MHeap → Option (MV × MHeap)
noncomputable abbrev O2 := MV → MV → MHeap → Option (MV × MHeap)

noncomputable def TsI (G : Glo) (sc : Scope) (tbl : List Str) (d : Nat) (e : Expr) (f : TFun) : Prop :=
  ∀ (D : Dyn) (loc : Locs) (hp : MHeap) (as : List Addr) (cs : List (List (Addr × Obj))) (s : Shared) (b : Bool) (hp' : MHeap) (Q : Bool → Shared → Prop) (E : Value → Shared → Prop),
    Ok G d D → D.env.scope = sc → f loc hp = some (b, hp') → LocRel D as tbl loc → HRel G D as cs hp s →
    (∀ as' cs' s', Ext as as' → HRel G D as' cs' hp' s' → Q b s') →
    wpAny G.M D.A (isTrue e D.env (eval e D.env)) Q E s

noncomputable def Op1I (G : Glo) (t : Value → Sem Value) (op : O1) : Prop :=
  ∀ (D : Dyn) (hp : MHeap) (as : List Addr) (cs : List (List (Addr × Obj))) (s : Shared) (a : MV) (va : Value) (r : MV) (hp' : MHeap) (Q : Value → Shared → Prop) (E : Value → Shared → Prop),
    Ok G 0 D → op a hp = some (r, hp') → VR as a va → HRel G D as cs hp s →
    (∀ v as' cs' s', Ext as as' → VR as' r v → HRel G D as' cs' hp' s' → Q v s') → wpAny G.M D.A (t va) Q E s
noncomputable def Op2I (G : Glo) (t : Value → Value → Sem Value) (op : O2) : Prop :=
  ∀ (D : Dyn) (hp : MHeap) (as : List Addr) (cs : List (List (Addr × Obj))) (s : Shared) (a b : MV) (va vb : Value) (r : MV) (hp' : MHeap) (Q : Value → Shared → Prop) (E : Value → Shared → Prop),
    Ok G 0 D → op a b hp = some (r, hp') → VR as a va → VR as b vb → HRel G D as cs hp s →
    (∀ v as' cs' s', Ext as as' → VR as' r v → HRel G D as' cs' hp' s' → Q v s') → wpAny G.M D.A (t va vb) Q E s

noncomputable def eC (m : MV) : EFun := fun _ hp => some (m, hp)
noncomputable def eV (i : Nat) : EFun := fun loc hp => match loc[i]? with | some (some m) => some (m, hp) | _ => none
noncomputable def e1 (op : O1) (f : EFun) : EFun := fun loc hp => (f loc hp).bind fun r => op r.1 r.2
noncomputable def e2 (op : O2) (f g : EFun) : EFun := fun loc hp => (f loc hp).bind fun r => (g loc r.2).bind fun q => op r.1 q.1 q.2
noncomputable def tOf : MV → Option Bool
  | .none => some false
  | .bool b => some b
  | .int i => some (i != 0)
  | _ => none
noncomputable def tP (f : EFun) : TFun := fun loc hp => (f loc hp).bind fun r => (tOf r.1).bind fun b => some (b, r.2)
noncomputable def tN (f : TFun) : TFun := fun loc hp => (f loc hp).bind fun r => some (!r.1, r.2)
noncomputable def tAnd (f g : TFun) : TFun := fun loc hp => (f loc hp).bind fun r => match r.1 with | true => g loc r.2 | false => some (false, r.2)
noncomputable def tOr (f g : TFun) : TFun := fun loc hp => (f loc hp).bind fun r => match r.1 with | true => some (true, r.2) | false => g loc r.2
noncomputable def eIf (t : TFun) (f g : EFun) : EFun := fun loc hp => (t loc hp).bind fun r => match r.1 with | true => f loc r.2 | false => g loc r.2
noncomputable def eAnd (f g : EFun) : EFun := fun loc hp => (f loc hp).bind fun r => (tOf r.1).bind fun b => match b with | true => g loc r.2 | false => some r
noncomputable def eOr (f g : EFun) : EFun := fun loc hp => (f loc hp).bind fun r => (tOf r.1).bind fun b => match b with | true => some r | false => g loc r.2
noncomputable def vNil : Locs → MHeap → Option (List MV × MHeap) := fun _ hp => some ([], hp)
noncomputable def vCons (f : EFun) (g : Locs → MHeap → Option (List MV × MHeap)) : Locs → MHeap → Option (List MV × MHeap) :=
  fun loc hp => (f loc hp).bind fun r => (g loc r.2).bind fun q => some (r.1 :: q.1, q.2)

theorem bind_some {α β : Type} {o : Option α} {f : α → Option β} {r : β} (h : o.bind f = some r) : ∃ a, o = some a ∧ f a = some r := Option.bind_eq_some_iff.mp h

theorem if_some {α : Type} {c : Prop} [Decidable c] {x : Option α} {y : α} (h : (if c then x else none) = some y) : c ∧ x = some y := by
  by_cases e : c
  · rw [if_pos e] at h; exact ⟨e, h⟩
  · rw [if_neg e] at h; cases h

noncomputable def intOf : MV → Option Int
  | .int x => some x
  | _ => none
theorem intOf_some {m : MV} {x : Int} (h : intOf m = some x) : m = .int x := by
  cases m <;> first | (cases h; rfl) | cases h
noncomputable def locOf : MV → Option Nat
  | .loc x => some x
  | _ => none
theorem locOf_some {m : MV} {x : Nat} (h : locOf m = some x) : m = .loc x := by
  cases m <;> first | (cases h; rfl) | cases h
noncomputable def boolOf : MV → Option Bool
  | .bool x => some x
  | _ => none
theorem boolOf_some {m : MV} {x : Bool} (h : boolOf m = some x) : m = .bool x := by
  cases m <;> first | (cases h; rfl) | cases h
noncomputable def lstOf : MObj → Option (List MV)
  | .lst ms => some ms
  | _ => none
theorem lstOf_some {m : MObj} {ms : List MV} (h : lstOf m = some ms) : m = .lst ms := by
  cases m <;> first | (cases h; rfl) | cases h
noncomputable def tupOf : MObj → Option (List MV)
  | .tup ms => some ms
  | _ => none
theorem tupOf_some {m : MObj} {ms : List MV} (h : tupOf m = some ms) : m = .tup ms := by
  cases m <;> first | (cases h; rfl) | cases h
noncomputable def dctOf : MObj → Option (List (Int × MV))
  | .dct ms => some ms
  | _ => none
theorem dctOf_some {m : MObj} {ms : List (Int × MV)} (h : dctOf m = some ms) : m = .dct ms := by
  cases m <;> first | (cases h; rfl) | cases h
noncomputable def lstAt (hp : MHeap) (l : Nat) : Option (List MV) := (hp[l]?).bind lstOf
noncomputable def tupAt (hp : MHeap) (l : Nat) : Option (List MV) := (hp[l]?).bind tupOf
noncomputable def dctAt (hp : MHeap) (l : Nat) : Option (List (Int × MV)) := (hp[l]?).bind dctOf
theorem lstAt_some {hp : MHeap} {l : Nat} {ms : List MV} (h : lstAt hp l = some ms) : hp[l]? = some (.lst ms) := by
  obtain ⟨o, h1, h2⟩ := bind_some h
  rw [h1, lstOf_some h2]
theorem tupAt_some {hp : MHeap} {l : Nat} {ms : List MV} (h : tupAt hp l = some ms) : hp[l]? = some (.tup ms) := by
  obtain ⟨o, h1, h2⟩ := bind_some h
  rw [h1, tupOf_some h2]
theorem dctAt_some {hp : MHeap} {l : Nat} {ms : List (Int × MV)} (h : dctAt hp l = some ms) : hp[l]? = some (.dct ms) := by
  obtain ⟨o, h1, h2⟩ := bind_some h
  rw [h1, dctOf_some h2]
theorem at_lst {hp : MHeap} {l : Nat} {ms : List MV} (h : hp[l]? = some (.lst ms)) : lstAt hp l = some ms := by
  unfold lstAt; rw [h]; rfl
theorem at_tup {hp : MHeap} {l : Nat} {ms : List MV} (h : hp[l]? = some (.tup ms)) : tupAt hp l = some ms := by
  unfold tupAt; rw [h]; rfl
noncomputable def one? {α : Type} (ms : List α) : Option α := match ms with
  | [a] => some a
  | _ => none
theorem one?_some {α : Type} {ms : List α} {p : α} (h : one? ms = some p) : ms = [p] := by
  rcases ms with _ | ⟨a, _ | ⟨b, r⟩⟩ <;> first | (cases h; rfl) | cases h
noncomputable def two? {α : Type} (ms : List α) : Option (α × α) := match ms with
  | [a, b] => some (a, b)
  | _ => none
theorem two?_some {α : Type} {ms : List α} {p : α × α} (h : two? ms = some p) : ms = [p.1, p.2] := by
  rcases ms with _ | ⟨a, _ | ⟨b, _ | ⟨c, r⟩⟩⟩ <;> first | (cases h; rfl) | cases h
noncomputable def three? {α : Type} (ms : List α) : Option (α × α × α) := match ms with
  | [a, b, c] => some (a, b, c)
  | _ => none
theorem three?_some {α : Type} {ms : List α} {t : α × α × α} (h : three? ms = some t) : ms = [t.1, t.2.1, t.2.2] := by
  rcases ms with _ | ⟨a, _ | ⟨b, _ | ⟨c, _ | ⟨e, r⟩⟩⟩⟩ <;> first | (cases h; rfl) | cases h
theorem VRs.one_inv {as : List Addr} {m : MV} {vs : List Value} (h : VRs as [m] vs) : ∃ v, vs = [v] ∧ VR as m v := by
  obtain ⟨v, r, e, a, b⟩ := h; cases b; exact ⟨v, e, a⟩
theorem VRs.two_inv {as : List Addr} {m m' : MV} {vs : List Value} (h : VRs as [m, m'] vs) : ∃ v v', vs = [v, v'] ∧ VR as m v ∧ VR as m' v' := by
  obtain ⟨v, r, e, a, b⟩ := h; obtain ⟨v', r', e', a', b'⟩ := b; cases b'; subst e'; exact ⟨v, v', e, a, a'⟩
theorem VRs.three_inv {as : List Addr} {m m' m'' : MV} {vs : List Value} (h : VRs as [m, m', m''] vs) : ∃ v v' v'', vs = [v, v', v''] ∧ VR as m v ∧ VR as m' v' ∧ VR as m'' v'' := by
  obtain ⟨v, r, e, a, b⟩ := h
  obtain ⟨v', v'', e', b1, b2⟩ := b.two_inv
  subst e'
  exact ⟨v, v', v'', e, a, b1, b2⟩

theorem VRs.one? {as : List Addr} {ms : List MV} {m : MV} {vs : List Value} (h : VRs as ms vs) (e : one? ms = some m) : ∃ v, vs = [v] ∧ VR as m v := by
  rw [one?_some e] at h; exact h.one_inv
theorem VRs.two? {as : List Addr} {ms : List MV} {p : MV × MV} {vs : List Value} (h : VRs as ms vs) (e : two? ms = some p) : ∃ v v', vs = [v, v'] ∧ VR as p.1 v ∧ VR as p.2 v' := by
  rw [two?_some e] at h; exact h.two_inv
theorem VRs.three? {as : List Addr} {ms : List MV} {p : MV × MV × MV} {vs : List Value} (h : VRs as ms vs) (e : three? ms = some p) : ∃ v v' v'', vs = [v, v', v''] ∧ VR as p.1 v ∧ VR as p.2.1 v' ∧ VR as p.2.2 v'' := by
  rw [three?_some e] at h; exact h.three_inv
theorem VR.int {as : List Addr} {m : MV} {x : Int} {v : Value} (h : VR as m v) (e : intOf m = some x) : ∃ t, v = .int x t := by
  rw [intOf_some e] at h; exact h
theorem VR.loc {as : List Addr} {m : MV} {l : Nat} {v : Value} (h : VR as m v) (e : locOf m = some l) : ∃ a, as[l]? = some a ∧ v = .ref a := by
  rw [locOf_some e] at h; exact h
section
variable {G : Glo} {sc : Scope} {tbl : List Str} {d : Nat}

theorem EvI.cint {i : Int} {k : Nat} {pos : Pos} : EvI G sc tbl d (.Constant (.int i) k pos) (eC (.int i)) := by
  intro D loc hp as cs s mv hp' Q E ok hsc hf hl H post
  cases hf
  exact wpAny_Constant_int (post _ as cs _ (Ext.refl _) ⟨_, rfl⟩ (H.toks _))
theorem EvI.cbool {b : Bool} {k : Nat} {pos : Pos} : EvI G sc tbl d (.Constant (.bool b) k pos) (eC (.bool b)) := by
  intro D loc hp as cs s mv hp' Q E ok hsc hf hl H post
  cases hf
  exact Constant_bool (post _ as cs _ (Ext.refl _) rfl H)
theorem EvI.cnone {k : Nat} {pos : Pos} : EvI G sc tbl d (.Constant .none k pos) (eC .none) := by
  intro D loc hp as cs s mv hp' Q E ok hsc hf hl H post
  cases hf
  exact Constant_none (post _ as cs _ (Ext.refl _) rfl H)

theorem EvI.var {x : Str} {pos : Pos} (i : Nat) (hi : tbl[i]? = some x) (hk : sc.names.lookup x = some .local) (hd : (x == ("__debug__" : Str)) = false) : EvI G sc tbl d (.Name x pos) (eV i) := by
  intro D loc hp as cs s mv hp' Q E ok hsc hf hl H post
  unfold eV at hf
  split at hf
  · rename_i m hm
    cases hf
    obtain ⟨x', v, hx, hv, hS⟩ := hl i mv hm
    rw [hi] at hx; cases hx
    have hk' : D.env.kindOf x = some .local := by unfold Env.kindOf; rw [hsc]; exact hk
    have fin := post v as cs s (Ext.refl _) hv H
    rcases hS with ⟨e, k, hm'⟩ | ⟨k, o, m', ho, hn, hm'⟩ | ⟨k, c, hc', _⟩
    · exact wpAny_Name (wpAny_loadName_local ok.ek k (e ▸ H.fr.ns) hm' fin) hd
    · have z := (H.nw _ (List.mem_append_right _ (List.mem_append_left _ ho))).1
      exact wpAny_Name (wpAny_loadName_local ok.ek k (hn _ z) hm' fin) hd
    · rw [hk'] at k; rcases k with k | k <;> cases k
  · cases hf

noncomputable def eCV (i : Nat) : EFun := fun loc hp => match loc[i]? with
  | some (some (.loc l)) => match hp[l]? with
    | some (.cel (some m)) => some (m, hp)
    | _ => none
  | _ => none
theorem EvI.cvar {x : Str} {pos : Pos} (i : Nat) (hi : tbl[i]? = some x) (hk : (sc.names.lookup x == some .cell || sc.names.lookup x == some .free) = true) (hd : (x == ("__debug__" : Str)) = false) (hc : (x == ("__classdict__" : Str)) = false) : EvI G sc tbl d (.Name x pos) (eCV i) := by
  intro D loc hp as cs s mv hp' Q E ok hsc hf hl H post
  unfold eCV at hf
  split at hf
  · rename_i l hm
    split at hf
    · rename_i m hcel
      cases hf
      obtain ⟨x', v, hx, hv, hS⟩ := hl i _ hm
      rw [hi] at hx; cases hx
      have nl : D.env.kindOf x ≠ some .local := by
        unfold Env.kindOf
        rw [hsc]
        intro z
        rw [z] at hk
        cases hk
      rcases hS with ⟨e, k, hm'⟩ | ⟨k, o, m', ho, hn, hm'⟩ | ⟨k, c, hc', rfl⟩
      · exact absurd k nl
      · exact absurd k nl
      · obtain ⟨a, c', q1, q2, o, u, rfl, q3, q4⟩ := H.cel _ _ hcel
        obtain ⟨w, rfl, hw⟩ := q4
        obtain ⟨a', ha', e'⟩ := hv
        rw [q1] at ha'; cases ha'
        cases e'
        have z := (H.nw _ (mem_led (D := D) q2 (List.mem_singleton.mpr rfl))).1
        have fin := post w as cs s (Ext.refl _) hw H
        rcases k with k | k
        · exact wpAny_Name (wpAny_loadName_cell ok.ek k hc' ⟨o, z, q3⟩ fin) hd
        · exact wpAny_Name (wpAny_loadName_free ok.ek k hc' ⟨o, z, q3⟩ fin hc) hd
    · cases hf
  · cases hf

theorem EvI.glob {x : Str} {pos : Pos} {m : MV} {v : Value} (hk : sc.names.lookup x = some .globalImplicit) (e : nsIn G.K mainGlobals x = some (some v)) (hv : ∀ as, VR as m v) (hd : (x == ("__debug__" : Str)) = false) :
    EvI G sc tbl d (.Name x pos) (eC m) := by
  intro D loc hp as cs s mv hp' Q E ok hsc hf hl H post
  cases hf
  refine Name_function_global ok.ek (by unfold Env.kindOf; rw [hsc]; exact hk) ?_ hd
  refine loadGlobal_global (by rw [ok.eg]; exact ok.top.g.keeps H.fr.keep) (mg_of ok.kin ok.top.g e) ?_
  exact post _ as cs s (Ext.refl _) (hv as) H

theorem EvI.bltn {x : Str} {pos : Pos} {v : Value} (hk : sc.names.lookup x = some .globalImplicit) (e : nsIn G.K mainGlobals x = some none) (hb : bootBuiltins x = some v) (hn : x ≠ "__name__") (hh : handedIn v = true ∧ v ≠ .none) (hd : (x == ("__debug__" : Str)) = false) :
    EvI G sc tbl d (.Name x pos) (eC (.gv v)) := by
  intro D loc hp as cs s mv hp' Q E ok hsc hf hl H post
  cases hf
  refine Name_function_global ok.ek (by unfold Env.kindOf; rw [hsc]; exact hk) ?_ hd
  refine loadGlobal_builtin (by rw [ok.eg]; exact ok.top.g.keeps H.fr.keep) (mg_none_of ok.kin ok.top.g e) (by rw [ok.eb]; exact ok.top.b.keeps H.fr.keep) ((ok.top.builtins x hn).trans hb) ?_
  exact post _ as cs s (Ext.refl _) ⟨rfl, hh⟩ H

theorem EvI.bin {l r : Expr} {o : Operator} {pos : Pos} {f g : EFun} {op : O2} (hl : EvI G sc tbl d l f) (hr : EvI G sc tbl d r g) (ho : Op2I G (binaryOp o) op) : EvI G sc tbl d (.BinOp l o r pos) (e2 op f g) := by
  intro D loc hp as cs s mv hp' Q E ok hsc hf hlo H post
  replace hf := bind_some hf; obtain ⟨⟨a, h1⟩, ha, hf⟩ := hf
  replace hf := bind_some hf; obtain ⟨⟨b, h2⟩, hb, hf⟩ := hf
  refine wpAny_BinOp (hl D loc hp as cs s a h1 _ _ ok hsc ha hlo H fun va as1 cs1 s1 x1 v1 H1 => ?_)
  refine hr D loc h1 as1 cs1 s1 b h2 _ _ ok hsc hb (hlo.mono x1) H1 fun vb as2 cs2 s2 x2 v2 H2 => ?_
  exact ho D h2 as2 cs2 s2 a b va vb mv hp' Q E (ok.less (Nat.zero_le _)) hf (v1.mono x2) v2 H2 fun v as' cs' s' x3 v3 H3 => post v as' cs' s' ((x1.trans x2).trans x3) v3 H3
theorem EvI.cmp {l r : Expr} {o : CmpOp} {pos : Pos} {f g : EFun} {op : O2} (hl : EvI G sc tbl d l f) (hr : EvI G sc tbl d r g) (ho : Op2I G (compareOp o) op) (hm : behindInMarks o r = false := by rfl) : EvI G sc tbl d (.Compare l [o] [r] pos) (e2 op f g) := by
  intro D loc hp as cs s mv hp' Q E ok hsc hf hlo H post
  replace hf := bind_some hf; obtain ⟨⟨a, h1⟩, ha, hf⟩ := hf
  replace hf := bind_some hf; obtain ⟨⟨b, h2⟩, hb, hf⟩ := hf
  refine wpAny_Compare1 (hl D loc hp as cs s a h1 _ _ ok hsc ha hlo H fun va as1 cs1 s1 x1 v1 H1 => ?_) hm
  refine hr D loc h1 as1 cs1 s1 b h2 _ _ ok hsc hb (hlo.mono x1) H1 fun vb as2 cs2 s2 x2 v2 H2 => ?_
  exact ho D h2 as2 cs2 s2 a b va vb mv hp' Q E (ok.less (Nat.zero_le _)) hf (v1.mono x2) v2 H2 fun v as' cs' s' x3 v3 H3 => post v as' cs' s' ((x1.trans x2).trans x3) v3 H3
theorem EvI.un {x : Expr} {o : UnaryOp} {pos : Pos} {f : EFun} {op : O1} (hl : EvI G sc tbl d x f) (ho : Op1I G (unaryOp o) op) : EvI G sc tbl d (.UnaryOp o x pos) (e1 op f) := by
  intro D loc hp as cs s mv hp' Q E ok hsc hf hlo H post
  replace hf := bind_some hf; obtain ⟨⟨a, h1⟩, ha, hf⟩ := hf
  refine UnaryOp_ (hl D loc hp as cs s a h1 _ _ ok hsc ha hlo H fun va as1 cs1 s1 x1 v1 H1 => ?_)
  exact ho D h1 as1 cs1 s1 a va mv hp' Q E (ok.less (Nat.zero_le _)) hf v1 H1 fun v as' cs' s' x3 v3 H3 => post v as' cs' s' (x1.trans x3) v3 H3

theorem truthy_mv {D : Dyn} {as : List Addr} {m : MV} {v : Value} {b : Bool} {s : Shared} {Q : Bool → Shared → Prop} {E : Value → Shared → Prop} (h : VR as m v) (t : tOf m = some b) (q : Q b s) : wpAny G.M D.A (truthy v) Q E s := by
  cases m <;> simp only [tOf] at t <;> try cases t
  · cases h; exact truthy_none q
  · cases h; exact wpAny_truthy_bool q
  · obtain ⟨_, rfl⟩ := h; exact truthy_int q
theorem tOf_bool {b c : Bool} (h : tOf (.bool b) = some c) : c = b := by cases h; rfl

theorem TsI.plain {e : Expr} {f : EFun} (h : EvI G sc tbl d e f) (hp : ∀ env whole, isTrue e env whole = (do let v ← whole; standAt e.pos; holding [v] (truthy v)) := by intro _ _; rfl) : TsI G sc tbl d e (tP f) := by
  intro D loc hp as cs s b hp' Q E ok hsc hf hlo H post
  replace hf := bind_some hf; obtain ⟨⟨a, h1⟩, ha, hf⟩ := hf
  replace hf := bind_some hf; obtain ⟨b', hb, hf⟩ := hf
  cases hf
  refine isTrue_plain (h D loc hp as cs s a _ _ _ ok hsc ha hlo H fun v as1 cs1 s1 x1 v1 H1 => truthy_mv v1 hb (post _ _ _ x1 H1)) (by apply_assumption)
theorem TsI.not {x : Expr} {pos : Pos} {f : TFun} (h : TsI G sc tbl d x f) : TsI G sc tbl d (.UnaryOp .Not x pos) (tN f) := by
  intro D loc hp as cs s b hp' Q E ok hsc hf hlo H post
  replace hf := bind_some hf; obtain ⟨⟨a, h1⟩, ha, hf⟩ := hf
  cases hf
  exact isTrue_not (h D loc hp as cs s a _ _ _ ok hsc ha hlo H fun as1 cs1 s1 x1 H1 => post _ _ _ x1 H1)
theorem TsI.cmp {l r : Expr} {o : CmpOp} {pos : Pos} {f g : EFun} {op : O2} (hl : EvI G sc tbl d l f) (hr : EvI G sc tbl d r g) (ho : Op2I G (compareOp o) op) (hm : behindInMarks o r = false := by rfl) : TsI G sc tbl d (.Compare l [o] [r] pos) (tP (e2 op f g)) := by
  intro D loc hp as cs s b hp' Q E ok hsc hf hlo H post
  replace hf := bind_some hf; obtain ⟨⟨c, h3⟩, hc, hf⟩ := hf
  replace hf := bind_some hf; obtain ⟨b', hb', hf⟩ := hf
  cases hf
  replace hc := bind_some hc; obtain ⟨⟨a, h1⟩, ha, hc⟩ := hc
  replace hc := bind_some hc; obtain ⟨⟨b, h2⟩, hb, hc⟩ := hc
  refine wpAny_isTrue_Compare1 (hl D loc hp as cs s a h1 _ _ ok hsc ha hlo H fun va as1 cs1 s1 x1 v1 H1 => ?_) hm
  refine hr D loc h1 as1 cs1 s1 b h2 _ _ ok hsc hb (hlo.mono x1) H1 fun vb as2 cs2 s2 x2 v2 H2 => ?_
  exact ho D h2 as2 cs2 s2 a b va vb c h3 _ E (ok.less (Nat.zero_le _)) hc (v1.mono x2) v2 H2 fun v as' cs' s' x3 v3 H3 => truthy_mv v3 hb' (post as' cs' s' ((x1.trans x2).trans x3) H3)

theorem allTrue_one {M : Model} {A : Around} {E : Value → Shared → Prop} {s : Shared} {op : BoolOp} {x : Expr} {rest : List Expr} {env : Env} {Q : Bool → Shared → Prop}
    (h : wpAny M A (isTrue x env (eval x env)) (fun b s' => match op, b with | .And, false => Q false s' | .Or, true => Q true s' | _, _ => wpAny M A (allTrue op rest env) Q E s') E s) : wpAny M A (allTrue op (x :: rest) env) Q E s := by
  rw [arm_allTrue_cons]
  refine wpAny_bind (wpAny_mono h (fun b s' h' => ?_) fun _ _ e => e)
  cases op <;> cases b <;> first | exact h' | exact wpAny_pure h'
theorem isTrue_BoolOp {M : Model} {A : Around} {E : Value → Shared → Prop} {s : Shared} {op : BoolOp} {xs : List Expr} {pos : Pos} {env : Env} {whole : Sem Value} {Q : Bool → Shared → Prop}
    (h : wpAny M A (allTrue op xs env) Q E s) : wpAny M A (isTrue (.BoolOp op xs pos) env whole) Q E s := by rw [arm_isTrue_BoolOp]; exact h
theorem allTrue_nil {M : Model} {A : Around} {E : Value → Shared → Prop} {s : Shared} {op : BoolOp} {env : Env} {Q : Bool → Shared → Prop}
    (h : Q (op == .And) s) : wpAny M A (allTrue op [] env) Q E s := by rw [arm_allTrue_nil]; exact wpAny_pure h
theorem TsI.and {x y : Expr} {pos : Pos} {f g : TFun} (h : TsI G sc tbl d x f) (k : TsI G sc tbl d y g) : TsI G sc tbl d (.BoolOp .And [x, y] pos) (tAnd f g) := by
  intro D loc hp as cs s b hp' Q E ok hsc hf hlo H post
  replace hf := bind_some hf; obtain ⟨⟨a, h1⟩, ha, hf⟩ := hf
  refine isTrue_BoolOp (allTrue_one (h D loc hp as cs s a _ _ _ ok hsc ha hlo H fun as1 cs1 s1 x1 H1 => ?_))
  cases a with
  | false => cases hf; exact post _ _ _ x1 H1
  | true =>
    refine allTrue_one (k D loc h1 as1 cs1 s1 b _ _ _ ok hsc hf (hlo.mono x1) H1 fun as2 cs2 s2 x2 H2 => ?_)
    cases b with
    | false => exact post _ _ _ (x1.trans x2) H2
    | true => exact allTrue_nil (post _ _ _ (x1.trans x2) H2)
theorem TsI.or {x y : Expr} {pos : Pos} {f g : TFun} (h : TsI G sc tbl d x f) (k : TsI G sc tbl d y g) : TsI G sc tbl d (.BoolOp .Or [x, y] pos) (tOr f g) := by
  intro D loc hp as cs s b hp' Q E ok hsc hf hlo H post
  replace hf := bind_some hf; obtain ⟨⟨a, h1⟩, ha, hf⟩ := hf
  refine isTrue_BoolOp (allTrue_one (h D loc hp as cs s a _ _ _ ok hsc ha hlo H fun as1 cs1 s1 x1 H1 => ?_))
  cases a with
  | true => cases hf; exact post _ _ _ x1 H1
  | false =>
    refine allTrue_one (k D loc h1 as1 cs1 s1 b _ _ _ ok hsc hf (hlo.mono x1) H1 fun as2 cs2 s2 x2 H2 => ?_)
    cases b with
    | true => exact post _ _ _ (x1.trans x2) H2
    | false => exact allTrue_nil (post _ _ _ (x1.trans x2) H2)

theorem EvI.ife {t a b : Expr} {pos : Pos} {tf : TFun} {f g : EFun} (ht : TsI G sc tbl d t tf) (hf : EvI G sc tbl d a f) (hg : EvI G sc tbl d b g) : EvI G sc tbl d (.IfExp t a b pos) (eIf tf f g) := by
  intro D loc hp as cs s mv hp' Q E ok hsc hfu hlo H post
  replace hfu := bind_some hfu; obtain ⟨⟨c, h1⟩, hc, hfu⟩ := hfu
  refine IfExp_ (ht D loc hp as cs s c h1 _ _ ok hsc hc hlo H fun as1 cs1 s1 x1 H1 => ?_)
  cases c with
  | true => exact hf D loc h1 as1 cs1 s1 mv hp' _ _ ok hsc hfu (hlo.mono x1) H1 fun v as' cs' s' x2 v2 H2 => post v as' cs' s' (x1.trans x2) v2 H2
  | false => exact hg D loc h1 as1 cs1 s1 mv hp' _ _ ok hsc hfu (hlo.mono x1) H1 fun v as' cs' s' x2 v2 H2 => post v as' cs' s' (x1.trans x2) v2 H2
theorem EvI.and {a b : Expr} {pos : Pos} {f g : EFun} (hf : EvI G sc tbl d a f) (hg : EvI G sc tbl d b g) : EvI G sc tbl d (.BoolOp .And [a, b] pos) (eAnd f g) := by
  intro D loc hp as cs s mv hp' Q E ok hsc hfu hlo H post
  replace hfu := bind_some hfu; obtain ⟨⟨m, h1⟩, hm, hfu⟩ := hfu
  replace hfu := bind_some hfu; obtain ⟨c, hc, hfu⟩ := hfu
  refine BoolOp_and (hf D loc hp as cs s m h1 _ _ ok hsc hm hlo H fun v1 as1 cs1 s1 x1 r1 H1 => truthy_mv r1 hc ?_)
  cases c with
  | true => exact BoolOp_one (hg D loc h1 as1 cs1 s1 mv hp' _ _ ok hsc hfu (hlo.mono x1) H1 fun v as' cs' s' x2 v2 H2 => post v as' cs' s' (x1.trans x2) v2 H2)
  | false => cases hfu; exact post v1 as1 cs1 s1 x1 r1 H1

theorem EvsI.nil : EvsI G sc tbl d [] vNil := by
  refine ⟨trivial, ?_⟩
  intro D loc hp as cs s mvs hp' pos Q E ok hsc hf hlo H post
  cases hf
  exact spliced_none (post [] as cs s (Ext.refl _) rfl H)
theorem EvsI.cons {e : Expr} {es : List Expr} {f : EFun} {g : Locs → MHeap → Option (List MV × MHeap)} (h : EvI G sc tbl d e f) (k : EvsI G sc tbl d es g)
    (hs : ∀ env, starEach (e :: es) env = (false, eval e env) :: starEach es env := by intro _; rfl) : EvsI G sc tbl d (e :: es) (vCons f g) := by
  refine ⟨⟨hs, k.1⟩, ?_⟩
  intro D loc hp as cs s mvs hp' pos Q E ok hsc hf hlo H post
  replace hf := bind_some hf; obtain ⟨⟨m, h1⟩, hm, hf⟩ := hf
  replace hf := bind_some hf; obtain ⟨⟨ms, h2⟩, hms, hf⟩ := hf
  cases hf
  refine spliced_more (h D loc hp as cs s m h1 _ _ ok hsc hm hlo H fun v as1 cs1 s1 x1 r1 H1 => ?_) (hs _)
  exact k.2 D loc h1 as1 cs1 s1 ms _ pos _ _ ok hsc hms (hlo.mono x1) H1 fun vs as2 cs2 s2 x2 r2 H2 => post (v :: vs) as2 cs2 s2 (x1.trans x2) ⟨v, vs, rfl, r1.mono x2, r2⟩ H2
end

noncomputable def onInts (f : Int → Int → MHeap → Option (MV × MHeap)) : O2 := fun a b hp => (intOf a).bind fun x => (intOf b).bind fun y => f x y hp
theorem onInts_some {f : Int → Int → MHeap → Option (MV × MHeap)} {a b : MV} {hp : MHeap} {r : MV × MHeap} (h : onInts f a b hp = some r) : ∃ x y, a = .int x ∧ b = .int y ∧ f x y hp = some r := by
  replace h := bind_some h; obtain ⟨x, hx, h⟩ := h
  replace h := bind_some h; obtain ⟨y, hy, h⟩ := h
  exact ⟨x, y, intOf_some hx, intOf_some hy, h⟩
noncomputable def iSub : O2 := onInts fun a b hp => some (.int (a - b), hp)
noncomputable def mulOk (a b : Int) : Bool := decide (a.natAbs < 2 ^ 64) && decide (b.natAbs < 2 ^ 64)
noncomputable def iMod : O2 := onInts fun a b hp => if b = 0 then none else some (.int (Int.fmod a b), hp)
noncomputable def iDiv : O2 := onInts fun a b hp => if b = 0 then none else if Builtin.divisionGoesByPylong a b then none else some (.int (Int.fdiv a b), hp)
noncomputable def iLt : O2 := onInts fun a b hp => some (.bool (decide (a < b)), hp)
noncomputable def iGt : O2 := onInts fun a b hp => some (.bool (decide (b < a)), hp)
noncomputable def iGe : O2 := onInts fun a b hp => some (.bool (decide (b ≤ a)), hp)
noncomputable def iNeg : O1 | .int a, hp => some (.int (-a), hp) | _, _ => none
noncomputable def isN : MV → Bool | .none => true | _ => false
noncomputable def isNone : O2 | a, .none, hp => some (.bool (isN a), hp) | _, _, _ => none
noncomputable def notNone : O2 | a, .none, hp => some (.bool (!isN a), hp) | _, _, _ => none
noncomputable def oNot : O1 := fun a hp => (tOf a).bind fun b => some (.bool (!b), hp)

section
variable {G : Glo}
theorem Op2I.sub : Op2I G (binaryOp .Sub) iSub := by
  intro D hp as cs s a b va vb r hp' Q E ok hf ha hb H post
  unfold iSub at hf
  replace hf := onInts_some hf
  obtain ⟨x, y, rfl, rfl, hf⟩ := hf
  cases hf
  obtain ⟨t, rfl⟩ := ha; obtain ⟨u, rfl⟩ := hb
  exact sub_int (post _ as cs _ (Ext.refl _) ⟨_, rfl⟩ (H.toks _))
theorem Op2I.mod : Op2I G (binaryOp .Mod) iMod := by
  intro D hp as cs s a b va vb r hp' Q E ok hf ha hb H post
  unfold iMod at hf
  replace hf := onInts_some hf
  obtain ⟨x, y, rfl, rfl, hf⟩ := hf
  split at hf
  · cases hf
  · rename_i hne
    cases hf
    obtain ⟨t, rfl⟩ := ha; obtain ⟨u, rfl⟩ := hb
    exact mod_int' hne (post _ as cs _ (Ext.refl _) ⟨_, rfl⟩ (H.toks _))
theorem Op2I.div : Op2I G (binaryOp .FloorDiv) iDiv := by
  intro D hp as cs s a b va vb r hp' Q E ok hf ha hb H post
  unfold iDiv at hf
  replace hf := onInts_some hf
  obtain ⟨x, y, rfl, rfl, hf⟩ := hf
  split at hf
  · cases hf
  · rename_i hne
    split at hf
    · cases hf
    · rename_i hp1
      cases hf
      obtain ⟨t, rfl⟩ := ha; obtain ⟨u, rfl⟩ := hb
      exact floordiv_int hne (post _ as cs _ (Ext.refl _) ⟨_, rfl⟩ (H.toks _)) (.inl (Bool.not_eq_true _ ▸ hp1))
theorem Op2I.lt : Op2I G (compareOp .Lt) iLt := by
  intro D hp as cs s a b va vb r hp' Q E ok hf ha hb H post
  unfold iLt at hf
  replace hf := onInts_some hf
  obtain ⟨x, y, rfl, rfl, hf⟩ := hf
  cases hf
  obtain ⟨t, rfl⟩ := ha; obtain ⟨u, rfl⟩ := hb
  exact lt_int (post _ as cs _ (Ext.refl _) rfl H)
theorem Op2I.gt : Op2I G (compareOp .Gt) iGt := by
  intro D hp as cs s a b va vb r hp' Q E ok hf ha hb H post
  unfold iGt at hf
  replace hf := onInts_some hf
  obtain ⟨x, y, rfl, rfl, hf⟩ := hf
  cases hf
  obtain ⟨t, rfl⟩ := ha; obtain ⟨u, rfl⟩ := hb
  exact gt_int (post _ as cs _ (Ext.refl _) rfl H)
theorem Op2I.ge : Op2I G (compareOp .GtE) iGe := by
  intro D hp as cs s a b va vb r hp' Q E ok hf ha hb H post
  unfold iGe at hf
  replace hf := onInts_some hf
  obtain ⟨x, y, rfl, rfl, hf⟩ := hf
  cases hf
  obtain ⟨t, rfl⟩ := ha; obtain ⟨u, rfl⟩ := hb
  exact ge_int (post _ as cs _ (Ext.refl _) rfl H)
theorem Op1I.neg : Op1I G (unaryOp .USub) iNeg := by
  intro D hp as cs s a va r hp' Q E ok hf ha H post
  cases a <;> simp only [iNeg] at hf <;> try cases hf
  obtain ⟨t, rfl⟩ := ha
  exact neg_int (post _ as cs _ (Ext.refl _) ⟨_, rfl⟩ (H.toks _))
theorem isN_of {as : List Addr} {m : MV} {v : Value} (h : VR as m v) : (v == Value.none) = isN m := by
  cases m with
  | none => cases h; rfl
  | bool b => cases h; rfl
  | int i => obtain ⟨_, rfl⟩ := h; rfl
  | str x => obtain ⟨_, rfl⟩ := h; rfl
  | loc l => obtain ⟨_, _, rfl⟩ := h; rfl
  | gv u => obtain ⟨rfl, _, hg⟩ := h; exact beq_eq_false_iff_ne.mpr hg
theorem Op2I.isNone : Op2I G (compareOp .Is) isNone := by
  intro D hp as cs s a b va vb r hp' Q E ok hf ha hb H post
  cases b <;> simp only [Mine.isNone] at hf <;> try cases hf
  cases hb
  refine is_none_gen ?_
  rw [isN_of ha]
  exact post _ as cs _ (Ext.refl _) rfl H
theorem Op2I.notNone : Op2I G (compareOp .IsNot) notNone := by
  intro D hp as cs s a b va vb r hp' Q E ok hf ha hb H post
  cases b <;> simp only [Mine.notNone] at hf <;> try cases hf
  cases hb
  refine isnot_none_gen ?_
  rw [isN_of ha]
  exact post _ as cs _ (Ext.refl _) rfl H
end
end Mine
end

section
open PySem PySem.W PySem.Calls PyProof.Rows
set_option maxRecDepth 100000
namespace Mine

noncomputable def sNil : SFun := fun loc hp => some (.next, loc, hp)
noncomputable def sSeq (f g : SFun) : SFun := fun loc hp => (f loc hp).bind fun r => match r with
  | (.next, l, h) => g l h
  | r => some r
noncomputable def sIf (t : TFun) (a b : SFun) : SFun := fun loc hp => (t loc hp).bind fun r => match r.1 with | true => a loc r.2 | false => b loc r.2
noncomputable def sRet (f : EFun) : SFun := fun loc hp => (f loc hp).bind fun r => some (.ret r.1, loc, r.2)
noncomputable def sRetN : SFun := fun loc hp => some (.ret .none, loc, hp)
noncomputable def sExpr (f : EFun) : SFun := fun loc hp => (f loc hp).bind fun r => some (.next, loc, r.2)
noncomputable def setV (i : Nat) (m : MV) (loc : Locs) : Option Locs := if i < loc.length then some (loc.set i (some m)) else none
noncomputable def sVar (i : Nat) (f : EFun) : SFun := fun loc hp => (f loc hp).bind fun r => (setV i r.1 loc).bind fun l => some (.next, l, r.2)

section
variable {G : Glo} {sc : Scope} {tbl : List Str} {d : Nat}

theorem HRel.turned {D : Dyn} {as : List Addr} {cs : List (List (Addr × Obj))} {hp : MHeap} {s : Shared} (H : HRel G D as cs hp s) : HRel G (D.turn D.mf D.ce) as cs hp s := H
theorem LocRel.turned {D : Dyn} {as : List Addr} {tbl : List Str} {loc : Locs} (H : LocRel D as tbl loc) : LocRel (D.turn D.mf D.ce) as tbl loc := H

theorem ExI.nil : ExI G sc tbl d [] sNil := by
  intro D loc hp as cs s fl loc' hp' Q E ok hsc henv hL hf hl H post
  cases hf
  exact wpAny_execs_nil (post _ as cs D.mf D.ce s (Ext.refl _) rfl rfl hl H)
theorem ExI.cons {st : Stmt} {r : List Stmt} {f g : SFun} (h : StI G sc tbl d st f) (k : ExI G sc tbl d r g) : ExI G sc tbl d (st :: r) (sSeq f g) := by
  intro D loc hp as cs s fl loc' hp' Q E ok hsc henv hL hf hl H post
  replace hf := bind_some hf; obtain ⟨⟨fl1, l1, h1⟩, ha, hf⟩ := hf
  refine wpAny_execs_cons (h D loc hp as cs s fl1 l1 h1 _ _ ok hsc henv hL ha hl H fun fv as1 cs1 mf1 ce1 s1 x1 r1 k1 L1 H1 => ?_)
  cases fl1 with
  | next =>
    cases r1
    exact k (D.turn mf1 ce1) l1 h1 as1 cs1 s1 fl loc' hp' _ _ (ok.turn _ _ k1) hsc henv hL hf L1 H1 fun fv as2 cs2 mf2 ce2 s2 x2 r2 k2 L2 H2 =>
      post fv as2 cs2 mf2 ce2 s2 (x1.trans x2) r2 (k2.trans k1) L2 H2
  | brk => cases r1; cases hf; exact post _ as1 cs1 mf1 ce1 s1 x1 rfl k1 L1 H1
  | cont => cases r1; cases hf; exact post _ as1 cs1 mf1 ce1 s1 x1 rfl k1 L1 H1
  | ret m =>
    obtain ⟨v, rfl, hv⟩ := r1
    cases hf
    exact post _ as1 cs1 mf1 ce1 s1 x1 ⟨v, rfl, hv⟩ k1 L1 H1

theorem StI.ife {t : Expr} {a b : List Stmt} {pos : Pos} {tf : TFun} {f g : SFun} (ht : TsI G sc tbl d t tf) (hf : ExI G sc tbl d a f) (hg : ExI G sc tbl d b g) : StI G sc tbl d (.If t a b pos) (sIf tf f g) := by
  intro D loc hp as cs s fl loc' hp' Q E ok hsc henv hL hfu hl H post
  replace hfu := bind_some hfu; obtain ⟨⟨c, h1⟩, hc, hfu⟩ := hfu
  refine wpAny_If (ht D loc hp as cs s c h1 _ _ ok hsc hc hl H fun as1 cs1 s1 x1 H1 => ?_)
  cases c with
  | true =>
    rw [if_pos rfl]
    exact hf D loc h1 as1 cs1 s1 fl loc' hp' _ _ ok hsc henv hL hfu (hl.mono x1) H1 fun fv as2 cs2 mf2 ce2 s2 x2 r2 k2 L2 H2 => post fv as2 cs2 mf2 ce2 s2 (x1.trans x2) r2 k2 L2 H2
  | false =>
    rw [if_neg Bool.false_ne_true]
    exact hg D loc h1 as1 cs1 s1 fl loc' hp' _ _ ok hsc henv hL hfu (hl.mono x1) H1 fun fv as2 cs2 mf2 ce2 s2 x2 r2 k2 L2 H2 => post fv as2 cs2 mf2 ce2 s2 (x1.trans x2) r2 k2 L2 H2
theorem StI.ret {e : Expr} {pos : Pos} {f : EFun} (h : EvI G sc tbl d e f) : StI G sc tbl d (.Return (some e) pos) (sRet f) := by
  intro D loc hp as cs s fl loc' hp' Q E ok hsc henv hL hf hl H post
  replace hf := bind_some hf; obtain ⟨⟨m, h1⟩, hm, hf⟩ := hf
  cases hf
  exact wpAny_Return_some (h D loc hp as cs s m _ _ _ ok hsc hm hl H fun v as1 cs1 s1 x1 r1 H1 => post _ as1 cs1 D.mf D.ce s1 x1 ⟨v, rfl, r1⟩ rfl (hl.mono x1) H1)
theorem StI.expr {e : Expr} {pos : Pos} {f : EFun} (h : EvI G sc tbl d e f) (hi : ∀ env : Env, env.scope.kind = .function → interactive env = false := by intro env h; simp [interactive, h])
    (hs : ∀ env, swapsWith e none pos.line env = pure false := by intro _; rfl) : StI G sc tbl d (.Expr e pos) (sExpr f) := by
  intro D loc hp as cs s fl loc' hp' Q E ok hsc henv hL hf hl H post
  replace hf := bind_some hf; obtain ⟨⟨m, h1⟩, hm, hf⟩ := hf
  cases hf
  exact wpAny_Expr_any (h D loc hp as cs s m _ _ _ ok hsc hm hl H fun v as1 cs1 s1 x1 r1 H1 => post _ as1 cs1 D.mf D.ce s1 x1 rfl rfl (hl.mono x1) H1) (hi _ ok.ek) (hs _)

theorem store_var {D : Dyn} {loc loc' : Locs} {hp : MHeap} {as : List Addr} {cs : List (List (Addr × Obj))} {s : Shared} {i : Nat} {x : Str} {m : MV} {v : Value} {Q : Unit → Shared → Prop} {E : Value → Shared → Prop}
    (ok : Ok G d D) (hL : D.env.locals = D.L) (hi : tbl[i]? = some x) (hn : tbl.Nodup) (hk : D.env.scope.names.lookup x = some .local) (hs : setV i m loc = some loc') (hl : LocRel D as tbl loc) (H : HRel G D as cs hp s) (hv : VR as m v)
    (post : ∀ mf' s', LocRel (D.turn mf' D.ce) as tbl loc' → HRel G (D.turn mf' D.ce) as cs hp s' → Q () s') : wpAny G.M D.A (storeName D.env x v) Q E s := by
  replace hs := if_some hs; obtain ⟨hlt, hs⟩ := hs
  cases hs
  refine wpAny_storeName_local hk (hL ▸ H.fr.ns) (fun h' hn' hsb => ?_) (by rw [ok.ek]; rfl)
  rw [hL] at hn' hsb
  refine post (fun y => if y = x then some v else D.mf y) _ ?_ ⟨H.fr.set hn' hsb, H.nw.set hsb, H.nd, H.la, H.lc, H.cel, H.st⟩
  intro j mj hj
  by_cases e : j = i
  · subst e
    rw [List.getElem?_set_self hlt] at hj
    cases hj
    exact ⟨x, v, hi, hv, .inl ⟨hL, hk, by show (if x = x then some v else _) = _; rw [if_pos rfl]⟩⟩
  · rw [List.getElem?_set_ne (Ne.symm e)] at hj
    obtain ⟨y, u, hy, hu, hS⟩ := hl j mj hj
    have ne : y ≠ x := by
      rintro rfl
      obtain ⟨h1, e1⟩ := List.getElem?_eq_some_iff.mp hi
      obtain ⟨h2, e2⟩ := List.getElem?_eq_some_iff.mp hy
      exact e ((List.getElem_inj hn).mp (e2.trans e1.symm))
    refine ⟨y, u, hy, hu, ?_⟩
    rcases hS with ⟨a, b, c⟩ | ⟨b, o, m', ho, hns, c⟩ | q
    · exact .inl ⟨a, b, by show (if y = x then _ else _) = _; rw [if_neg ne]; exact c⟩
    · exact .inr (.inl ⟨b, o, m', ho, hns, c⟩)
    · exact .inr (.inr q)

theorem StI.var {x : Str} {px pos : Pos} {e : Expr} {f : EFun} (i : Nat) (hi : tbl[i]? = some x) (hn : tbl.Nodup) (hk : sc.names.lookup x = some .local) (h : EvI G sc tbl d e f)
    (hs : ∀ env, swapsWith e (some (.Name x px)) pos.line env = pure false := by intro _; rfl) : StI G sc tbl d (.Assign [.Name x px] e pos) (sVar i f) := by
  intro D loc hp as cs s fl loc' hp' Q E ok hsc henv hL hf hl H post
  replace hf := bind_some hf; obtain ⟨⟨m, h1⟩, hm, hf⟩ := hf
  replace hf := bind_some hf; obtain ⟨l', hl', hf⟩ := hf
  cases hf
  refine wpAny_Assign_Name (h D loc hp as cs s m _ _ _ ok hsc hm hl H fun v as1 cs1 s1 x1 r1 H1 => ?_) (hs _)
  exact store_var ok hL hi hn (by rw [hsc]; exact hk) hl' (hl.mono x1) H1 r1 fun mf' s' L' H' => post _ as1 cs1 mf' D.ce s' x1 rfl rfl L' H'
end

noncomputable def fnRun (n : Nat) (dm : List MV) (k : Nat) (fb : SFun) : List MV → MHeap → Option (MV × MHeap) := fun mvs hp =>
  if mvs.length = n then (fb ((mvs ++ dm).map some ++ List.replicate k none) hp).bind fun r => match r with
    | (.ret v, _, h) => some (v, h)
    | (.next, _, h) => some (.none, h)
    | _ => none
  else none

theorem zip_lookup {x : Str} {v : Value} {nm : List Str} : ∀ {vs : List Value} {i : Nat}, nm.Nodup → nm[i]? = some x → vs[i]? = some v → (nm.zip vs).lookup x = some v := by
  induction nm with
  | nil => intro vs i _ h; cases h
  | cons n nm ih =>
    intro vs i hn h k
    cases vs with
    | nil => cases k
    | cons u vs =>
      rw [List.zip_cons_cons, List.lookup_cons]
      cases i with
      | zero => cases h; cases k; rw [beq_self_eq_true]
      | succ i =>
        have hn' := List.nodup_cons.mp hn
        have ne : (x == n) = false := by
          rw [beq_eq_false_iff_ne]
          rintro rfl
          exact hn'.1 (List.mem_of_getElem? (i := i) h)
        rw [ne]
        exact ih hn'.2 h k
theorem lookup_reverse_nodup {l : List (Str × Value)} {x : Str} : (l.map (·.1)).Nodup → l.reverse.lookup x = l.lookup x := by
  induction l with
  | nil => exact fun _ => rfl
  | cons p r ih =>
    intro h
    have h' := List.nodup_cons.mp (show (p.1 :: r.map (·.1)).Nodup from h)
    rw [List.reverse_cons, List.lookup_append, ih h'.2, List.lookup_cons, List.lookup_cons, List.lookup_nil]
    cases e : x == p.1 with
    | true =>
      have : r.lookup x = none := List.lookup_eq_none_iff.mpr fun q hq => by
        show (x != q.1) = true
        rw [bne_iff_ne]
        exact fun z => h'.1 (List.mem_map.mpr ⟨q, hq, z.symm.trans (beq_iff_eq.mp e)⟩)
      rw [this]; rfl
    | false => cases r.lookup x <;> rfl
theorem lam_of {sc : Scope} {c : Value} {q : Str} (h : (!lamN sc || (isLamC c && q == lamQ)) = true) : lamN sc = true → c = .ref lamC ∧ q ++ ".<locals>." = lamQ ++ ".<locals>." := fun e => by
  rw [e] at h
  simp only [Bool.not_true, Bool.false_or, Bool.and_eq_true, beq_iff_eq] at h
  exact ⟨isLamC_of h.1, by rw [h.2]⟩
theorem FnI.fn {G : Glo} {d : Nat} {f : Addr} {name qual : Str} {params : Arguments} {body : List Stmt} {scope : Scope} {dV kV doc pm cdv ct oc : Value} {an od : Option Addr} {osl : Array (Option Value)}
    {tbl nm : List Str} {n k : Nat} {dm : List MV} {dv : List Value} {fb : SFun}
    (ho : G.K.lookup f = some ⟨oc, od, .func (fnOf name qual params body scope dV kV doc pm an cdv ct), osl⟩) (hcd : codeIn G.K cdv qual = true)
    (hbind : ∀ (s : Shared) (vs : List Value), G.K.In s.heap → vs.length = n → BindsTo s (fnOf name qual params body scope dV kV doc pm an cdv ct) ⟨vs, []⟩ (nm.zip (vs ++ dv)))
    (hdv : ∀ as, VRs as dm dv) (hlen : nm.length = n + dm.length) (htl : tbl = nm ++ tbl.drop nm.length) (hk : tbl.length = nm.length + k) (htn : tbl.Nodup)
    (hloc : (nm.all fun x => scope.names.lookup x == some .local) = true)
    (hco : scope.isCoroutine = false) (hgen : scope.isGenerator = false) (hsk : scope.kind = .function) (hcell : (scope.names.all fun x => x.2 != .cell) = true) (hlam : (!lamN scope || (isLamC cdv && qual == lamQ)) = true)
    (hx : ExI G scope tbl d body fb) : FnI G (d + 1) f (fnRun n dm k fb) := by
  intro D A hp as cs s mvs vs mv hp' R ok hfr hh hdep hun hF hvs H post
  replace hF := if_some hF; obtain ⟨hn, hF⟩ := hF
  replace hF := bind_some hF; obtain ⟨⟨fl, loc', h1⟩, hb, hF⟩ := hF
  have hnn : nm.Nodup := by rw [htl] at htn; exact (List.nodup_append.mp htn).1
  have hvl : vs.length = n := hvs.len.trans hn
  have hdl : dv.length = dm.length := (hdv []).len
  have hzl : (nm.zip (vs ++ dv)).map (·.1) = nm := by
    rw [List.map_fst_zip]; rw [List.length_append]; omega
  refine code_def ok.below H.fr ok.kin H.nw ok.top (hfr.trans ok.frames) ok.ff ok.fk ho hcd (by omega) (hbind s vs (ok.kin.keeps H.fr.keep) hvl) (fun y hy => ?_)
    (fun g L' h₁ FG F' N' B' X' T' => ?_) hco hgen hsk (fun x hx' => by have := List.all_eq_true.mp hcell x hx'; simpa using this)
  · have : y.1 ∈ nm := hzl ▸ List.mem_map_of_mem (f := (·.1)) hy
    exact beq_iff_eq.mp (List.all_eq_true.mp hloc _ this)
  · let D' : Dyn := { A := A.deeper (envOf qual scope L' f cdv), A₀ := A, base := D.base, h₀ := g, outer := D.fenv :: D.outer, L := L', fenv := envOf qual scope L' f cdv, env := envOf qual scope L' f cdv,
                      mf := fun y => (nm.zip (vs ++ dv)).reverse.lookup y, ce := [], xs := D.xs ++ D.ce, s₀ := D.s₀ }
    have eled : D'.led cs = D.led cs := by show (D.xs ++ D.ce) ++ ([] ++ cs.flatten) = D.xs ++ (D.ce ++ cs.flatten); simp
    have hall := hvs.app (hdv as)
    have ok' : Ok G d D' := ⟨B', X', T', by show (A.deeper _).frames = _; exact Around.frames_deeper (hfr.trans ok.frames), hh, rfl, hsk, by show A.depth + 1 + d < _; omega, by show A.units + 3 + 8 * d + 200 < _; omega, ok.nd, rfl, rfl, hsk, fun x e => absurd (List.all_eq_true.mp hcell _ (mem_lookup e)) (by simp), lam_of hlam⟩
    have H' : HRel G D' as cs hp { s with heap := h₁, toks := s.toks + (nm.zip (vs ++ dv)).length } :=
      ⟨F', by rw [eled]; exact N', by rw [eled]; exact H.nd, H.la, H.lc, H.cel, H.st⟩
    have L0 : LocRel D' as tbl ((mvs ++ dm).map some ++ List.replicate k none) := by
      intro i m hi
      by_cases hlt : i < (mvs ++ dm).length
      · rw [List.getElem?_append_left (by simpa using hlt), List.getElem?_map] at hi
        obtain ⟨m', hm', e⟩ := Option.map_eq_some_iff.mp hi
        cases e
        obtain ⟨v, hv, hr⟩ := hall.get hm'
        have hi' : i < nm.length := by rw [List.length_append] at hlt; omega
        refine ⟨nm[i], v, ?_, hr, .inl ⟨rfl, ?_, ?_⟩⟩
        · rw [htl, List.getElem?_append_left hi']; simp [hi']
        · exact beq_iff_eq.mp (List.all_eq_true.mp hloc _ (List.getElem_mem hi'))
        · show (nm.zip (vs ++ dv)).reverse.lookup nm[i] = some v
          rw [lookup_reverse_nodup (by rw [hzl]; exact hnn)]
          exact zip_lookup hnn (List.getElem?_eq_getElem hi') hv
      · exfalso
        rw [List.getElem?_append_right (by simpa using Nat.le_of_not_lt hlt)] at hi
        have := (List.getElem?_eq_some_iff.mp hi)
        obtain ⟨h, e⟩ := this
        rw [List.getElem_replicate] at e
        cases e
    refine hx D' _ hp as cs _ fl loc' h1 _ _ ok' rfl rfl rfl hb L0 H' fun fv as1 cs1 mf1 ce1 s1 x1 r1 k1 L1 H1 => ?_
    have ce0 : ce1 = [] := List.map_eq_nil_iff.mp k1
    subst ce0
    have sub : ∀ p ∈ D.led cs1, p ∈ (D'.turn mf1 []).led cs1 := fun p hp => by
      have : (D'.turn mf1 []).led cs1 = D.led cs1 := by show (D.xs ++ D.ce) ++ ([] ++ cs1.flatten) = D.xs ++ (D.ce ++ cs1.flatten); simp
      rw [this]; exact hp
    have eled1 : (D'.turn mf1 []).led cs1 = D.led cs1 := by show (D.xs ++ D.ce) ++ ([] ++ cs1.flatten) = D.xs ++ (D.ce ++ cs1.flatten); simp
    refine ⟨L', mf1, D.led cs1, H1.fr, fun p hp => H1.nw p (sub p hp), fun F2 N2 => ?_⟩
    have H2 : HRel G D as1 cs1 h1 s1 := ⟨F2, N2, by rw [← eled1]; exact H1.nd, H1.la, H1.lc, H1.cel, H1.st⟩
    cases fl with
    | ret m =>
      obtain ⟨v, rfl, hv⟩ := r1
      cases hF
      exact post v as1 cs1 s1 x1 hv H2
    | next =>
      cases r1
      cases hF
      exact post _ as1 cs1 s1 x1 rfl H2
    | brk => cases hF
    | cont => cases hF

noncomputable def fnChk (K : Frag) (cdv : Value) (qual : Str) (scope : Scope) (tbl nm : List Str) (n k l : Nat) : Bool :=
  codeIn K cdv qual && nm.length == n + l && tbl == nm ++ tbl.drop nm.length && tbl.length == nm.length + k && decide tbl.Nodup && (nm.all fun x => scope.names.lookup x == some .local) && scope.isCoroutine == false && scope.isGenerator == false && scope.kind == .function && (scope.names.all fun x => x.2 != .cell) && (!lamN scope || (isLamC cdv && qual == lamQ))
theorem FnI.fnB {G : Glo} {d : Nat} {f : Addr} {name qual : Str} {params : Arguments} {body : List Stmt} {scope : Scope} {dV kV doc pm cdv ct oc : Value} {an od : Option Addr} {osl : Array (Option Value)}
    {tbl nm : List Str} {n k : Nat} {dm : List MV} {dv : List Value} {fb : SFun}
    (ho : G.K.lookup f = some ⟨oc, od, .func (fnOf name qual params body scope dV kV doc pm an cdv ct), osl⟩)
    (hbind : ∀ (s : Shared) (vs : List Value), G.K.In s.heap → vs.length = n → BindsTo s (fnOf name qual params body scope dV kV doc pm an cdv ct) ⟨vs, []⟩ (nm.zip (vs ++ dv)))
    (hdv : ∀ as, VRs as dm dv) (hc : fnChk G.K cdv qual scope tbl nm n k dm.length = true) (hx : ExI G scope tbl d body fb) : FnI G (d + 1) f (fnRun n dm k fb) := by
  unfold fnChk at hc
  simp only [Bool.and_eq_true, beq_iff_eq, decide_eq_true_eq] at hc
  obtain ⟨⟨⟨⟨⟨⟨⟨⟨⟨⟨c1, c2⟩, c3⟩, c4⟩, c5⟩, c6⟩, c7⟩, c8⟩, c9⟩, c10⟩, c11⟩ := hc
  exact FnI.fn ho c1 hbind hdv c2 c3 c4 c5 c6 c7 c8 c9 c10 c11 hx

noncomputable def ClI (G : Glo) (d : Nat) (f : Value) (F : List MV → MHeap → Option (MV × MHeap)) : Prop :=
  ∀ (D : Dyn) (hp : MHeap) (as : List Addr) (cs : List (List (Addr × Obj))) (s : Shared) (mvs : List MV) (vs : List Value) (mv : MV) (hp' : MHeap) (Q : Value → Shared → Prop) (E : Value → Shared → Prop),
    Ok G d D → F mvs hp = some (mv, hp') → VRs as mvs vs → HRel G D as cs hp s →
    (∀ v as' cs' s', Ext as as' → VR as' mv v → HRel G D as' cs' hp' s' → Q v s') → wpAny G.M D.A (call f vs) Q E s
noncomputable def KeepsI (G : Glo) (f : Value) : Prop := ∀ h, G.K.In h → ∃ k, (k = Keeper.frame ∨ k = Keeper.machine ∨ k = Keeper.boundFrame) ∧ Looks G.M h (keeperOf f) k

section
variable {G : Glo} {sc : Scope} {tbl : List Str} {d : Nat}
theorem KeepsI.K {f : Value} (h : keepIn G.K f = true) : KeepsI G f := fun x X => keeps_K h x X
theorem KeepsI.bltn (i : String) : KeepsI G (.builtin i) := fun _ _ => ⟨.machine, .inr (.inl rfl), Looks.of_pure rfl⟩
theorem KeepsI.type (i : String) : KeepsI G (.type i) := fun _ _ => ⟨.machine, .inr (.inl rfl), Looks.of_pure rfl⟩
theorem FnI.less {f : Addr} {F : List MV → MHeap → Option (MV × MHeap)} {d' : Nat} (h : FnI G d f F) (hd : d ≤ d') : FnI G d' f F :=
  fun D A hp as cs s mvs vs mv hp' R ok a b c e hF r H post => h D A hp as cs s mvs vs mv hp' R ok a b (by omega) (by omega) hF r H post
theorem ClI.fn {f : Addr} {F : List MV → MHeap → Option (MV × MHeap)} (h : FnI G d f F) : ClI G d (.ref f) F := by
  intro D hp as cs s mvs vs mv hp' Q E ok hF r H post
  exact wpAny_call (h D D.A hp as cs s mvs vs mv hp' _ (ok.less (Nat.zero_le _)) rfl ok.handled ok.depth ok.units hF r H post)

theorem callWith_any {D : Dyn} {s : Shared} {f : Value} {first : List Value} {es : List Expr} {env : Env} {pos : Pos} {Q : Value → Shared → Prop} {E : Value → Shared → Prop} (hk : KeepsI G f) (hst : StarOk es) (X : G.K.In s.heap)
    (h : wpAny G.M D.A (spliced (backTo pos (starEach es env))) (fun vs s₁ => G.K.In s₁.heap ∧ wpAny G.M D.A (call f (first ++ vs)) Q E s₁) E s) : wpAny G.M D.A (callWith pos f first (backTo pos (starEach es env)) []) Q E s := by
  refine callWith_of (P := G.K.In) (by rw [hst.plain]; rfl) hk ?_
  cases es with
  | nil =>
    have h' : G.K.In s.heap ∧ wpAny G.M D.A (call f (first ++ [])) Q E s := by
      refine ⟨X, ?_⟩
      have : ∀ (P : List Value → Shared → Prop), wpAny G.M D.A (spliced (backTo pos (starEach [] env))) P E s → wpAny G.M D.A (pure ([] : List Value)) P E s := fun P x => by
        have e : spliced (backTo pos (starEach [] env)) = pure [] := by rw [arm_starEach_nil]; rfl
        rw [e] at x; exact x
      have e : spliced (backTo pos (starEach [] env)) = pure [] := by rw [arm_starEach_nil]; rfl
      rw [e] at h
      have := wpAny_bind (f := fun vs => call f (first ++ vs)) (wpAny_mono h (fun _ _ z => z.2) fun _ _ z => z)
      simpa using this
    exact evalArgs_nil3 h'
  | cons e r =>
    rw [hst.1 env] at h ⊢
    exact evalArgs_plain h

noncomputable def eCall (F : List MV → MHeap → Option (MV × MHeap)) (fa : Locs → MHeap → Option (List MV × MHeap)) : EFun := fun loc hp => (fa loc hp).bind fun r => F r.1 r.2
theorem EvI.call {func : Expr} {args : List Expr} {pos : Pos} {fv : Value} {F : List MV → MHeap → Option (MV × MHeap)} {fa : Locs → MHeap → Option (List MV × MHeap)}
    (hf : EvI G sc tbl d func (eC (.gv fv))) (hk : KeepsI G fv) (ha : EvsI G sc tbl d args fa) (hF : ClI G d fv F)
    (he : ∀ env, eval (.Call func args [] pos) env = (do callWith pos (← eval func env) [] (backTo pos (starEach args env)) (backToKw pos (keywordEach [] env))) := by intro _; rfl) :
    EvI G sc tbl d (.Call func args [] pos) (eCall F fa) := by
  intro D loc hp as cs s mv hp' Q E ok hsc hfu hl H post
  replace hfu := bind_some hfu; obtain ⟨⟨ms, h1⟩, hms, hfu⟩ := hfu
  refine Call_ (hf D loc hp as cs s _ hp _ _ ok hsc rfl hl H fun v as1 cs1 s1 x1 r1 H1 => ?_) (he _)
  obtain ⟨rfl, _⟩ := r1
  refine callWith_any hk ha.1 (ok.kin.keeps H1.fr.keep) (ha.2 D loc hp as1 cs1 s1 ms h1 pos _ _ ok hsc hms (hl.mono x1) H1 fun vs as2 cs2 s2 x2 r2 H2 => ⟨ok.kin.keeps H2.fr.keep, ?_⟩)
  exact hF D h1 as2 cs2 s2 ms vs mv hp' Q E ok hfu r2 H2 fun v as' cs' s' x3 r3 H3 => post v as' cs' s' ((x1.trans x2).trans x3) r3 H3
end
end Mine
end

section
open PySem PySem.W PySem.Calls PyProof.Rows
set_option maxRecDepth 100000
namespace Mine

section
variable {G : Glo} {D : Dyn} {as : List Addr} {cs : List (List (Addr × Obj))} {hp : MHeap} {s : Shared}

theorem HRel.tup (H : HRel G D as cs hp s) {l : Nat} {ms : List MV} (h : hp[l]? = some (.tup ms)) : ∃ a us n, as[l]? = some a ∧ cs[l]? = some [(a, ({ cls := .type "tuple", data := .seq us n } : Obj))] ∧ VRs as ms us.toList ∧ s.heap.get? a = some ({ cls := .type "tuple", data := .seq us n } : Obj) := by
  obtain ⟨a, c, h1, h2, us, n, rfl, h3⟩ := H.cel l _ h
  exact ⟨a, us, n, h1, h2, h3, (H.nw _ (mem_led (D := D) h2 (List.mem_singleton.mpr rfl))).1⟩
theorem HRel.lst (H : HRel G D as cs hp s) {l : Nat} {ms : List MV} (h : hp[l]? = some (.lst ms)) : ∃ a us n, as[l]? = some a ∧ cs[l]? = some [(a, listOf us n)] ∧ VRs as ms us.toList ∧ s.heap.get? a = some (listOf us n) := by
  obtain ⟨a, c, h1, h2, us, n, rfl, h3⟩ := H.cel l _ h
  exact ⟨a, us, n, h1, h2, h3, (H.nw _ (mem_led (D := D) h2 (List.mem_singleton.mpr rfl))).1⟩
theorem HRel.inst (H : HRel G D as cs hp s) {l : Nat} {C : Addr} {fs : List (Nat × MV)} (h : hp[l]? = some (.inst C fs)) :
    ∃ a dx es n, as[l]? = some a ∧ cs[l]? = some [(a, instObj C dx), (dx, dictOf es n)] ∧ FR G as fs es ∧ InstAt s.heap a (instObj C dx) C (some (dictOf es n)) := by
  obtain ⟨a, c, h1, h2, dx, es, n, rfl, h3⟩ := H.cel l _ h
  exact ⟨a, dx, es, n, h1, h2, h3, InstAt.of_news H.nw (mem_led (D := D) h2 (by simp)) (mem_led (D := D) h2 (by simp))⟩
theorem isTup_of {h : Heap} {a : Addr} {us : Array Value} {n : Nat} (e : h.get? a = some ({ cls := .type "tuple", data := .seq us n } : Obj)) : IsTup h a us := ⟨_, e, rfl, n, rfl⟩
theorem isList_of {h : Heap} {a : Addr} {us : Array Value} {n : Nat} (e : h.get? a = some (listOf us n)) : h.IsList a us := ⟨_, e, rfl, n, rfl⟩

theorem VR.at {as : List Addr} {l : Nat} {a : Addr} {m : MV} {v : Value} (r : VR as m v) (e : locOf m = some l) (h : as[l]? = some a) : v = .ref a := by
  obtain ⟨b, hb, rfl⟩ := r.loc e
  rw [h] at hb; cases hb; rfl
theorem HRel.lstV (H : HRel G D as cs hp s) {m : MV} {v : Value} {l : Nat} {ms : List MV} (r : VR as m v) (e : locOf m = some l) (h : lstAt hp l = some ms) : ∃ a us n, v = .ref a ∧ as[l]? = some a ∧ cs[l]? = some [(a, listOf us n)] ∧ VRs as ms us.toList ∧ s.heap.get? a = some (listOf us n) ∧ l < hp.length := by
  have hl := lstAt_some h
  obtain ⟨a, us, n, q1, q2⟩ := H.lst hl
  exact ⟨a, us, n, r.at e q1, q1, q2.1, q2.2.1, q2.2.2, (List.getElem?_eq_some_iff.mp hl).1⟩
theorem HRel.tupV (H : HRel G D as cs hp s) {m : MV} {v : Value} {l : Nat} {ms : List MV} (r : VR as m v) (e : locOf m = some l) (h : tupAt hp l = some ms) : ∃ a us, v = .ref a ∧ VRs as ms us.toList ∧ IsTup s.heap a us := by
  obtain ⟨a, us, n, q1, q2⟩ := H.tup (tupAt_some h)
  exact ⟨a, us, r.at e q1, q2.2.1, isTup_of q2.2.2⟩

theorem HRel.new1 (H : HRel G D as cs hp s) {o : Obj} {mo : MObj} {h' : Heap} (tk : Nat) (F : Fr D.h₀ D.L h' D.mf) (N : News D.h₀ D.L h' ((s.heap.objs.size, o) :: D.led cs))
    (k : Cell G (as ++ [s.heap.objs.size]) s.heap.objs.size mo [(s.heap.objs.size, o)]) : HRel G D (as ++ [s.heap.objs.size]) (cs ++ [[(s.heap.objs.size, o)]]) (hp ++ [mo]) { s with heap := h', toks := tk } :=
  H.grow tk F N (by simp) (by intro p hp q hq; rw [List.mem_singleton] at hp; subst hp; exact Nat.ne_of_lt (H.lt hq)) k
theorem VR.last (H : HRel G D as cs hp s) {a : Addr} : VR (as ++ [a]) (.loc hp.length) (.ref a) := ⟨a, by rw [← H.la]; simp, rfl⟩
end

noncomputable def cap : Nat := 1000
noncomputable def mkTup (r : List MV × MHeap) : Option (MV × MHeap) := if r.1.length ≤ cap then some (.loc r.2.length, r.2 ++ [.tup r.1]) else none
noncomputable def mkLst (r : List MV × MHeap) : Option (MV × MHeap) := if r.1.length ≤ cap then some (.loc r.2.length, r.2 ++ [.lst r.1]) else none
noncomputable def eTup (fa : Locs → MHeap → Option (List MV × MHeap)) : EFun := fun loc hp => (fa loc hp).bind mkTup
noncomputable def eLst (fa : Locs → MHeap → Option (List MV × MHeap)) : EFun := fun loc hp => (fa loc hp).bind mkLst

section
variable {G : Glo} {sc : Scope} {tbl : List Str} {d : Nat}

theorem newTuple_I {D : Dyn} {as : List Addr} {cs : List (List (Addr × Obj))} {hp hp' : MHeap} {s : Shared} {ms : List MV} {vs : List Value} {mv : MV} {Q : Value → Shared → Prop} {E : Value → Shared → Prop} {A : Around}
    (hf : mkTup (ms, hp) = some (mv, hp')) (r : VRs as ms vs) (H : HRel G D as cs hp s) (post : ∀ v as' cs' s', Ext as as' → VR as' mv v → HRel G D as' cs' hp' s' → Q v s') : wpAny G.M A (newTuple vs) Q E s := by
  unfold mkTup at hf
  split at hf
  · rename_i hc
    cases hf
    have hl := r.len
    refine newTuple_N H.fr H.nw (fun h' F N => ?_) (by have : sizeLine = 2 ^ 24 := rfl; unfold cap at hc; dsimp only at hc; omega)
    have x := Ext.app as [s.heap.objs.size]
    exact post _ _ _ _ x (VR.last H) (H.new1 s.toks F N ⟨_, _, rfl, by simpa using r.mono x⟩)
  · cases hf
theorem newList_I {D : Dyn} {as : List Addr} {cs : List (List (Addr × Obj))} {hp hp' : MHeap} {s : Shared} {ms : List MV} {vs : List Value} {mv : MV} {Q : Value → Shared → Prop} {E : Value → Shared → Prop} {A : Around}
    (hf : mkLst (ms, hp) = some (mv, hp')) (r : VRs as ms vs) (H : HRel G D as cs hp s) (post : ∀ v as' cs' s', Ext as as' → VR as' mv v → HRel G D as' cs' hp' s' → Q v s') : wpAny G.M A (newList vs) Q E s := by
  unfold mkLst at hf
  split at hf
  · rename_i hc
    cases hf
    have hl := r.len
    refine newList_N H.fr H.nw (fun h' F N => ?_) (by have : sizeLine = 2 ^ 24 := rfl; unfold cap at hc; dsimp only at hc; omega)
    have x := Ext.app as [s.heap.objs.size]
    exact post _ _ _ _ x (VR.last H) (H.new1 s.toks F N ⟨_, _, rfl, by simpa using r.mono x⟩)
  · cases hf

theorem EvI.tup {es : List Expr} {k : Nat} {pos : Pos} {fa : Locs → MHeap → Option (List MV × MHeap)} (h : EvsI G sc tbl d es fa) : EvI G sc tbl d (.Tuple es k pos) (eTup fa) := by
  intro D loc hp as cs s mv hp' Q E ok hsc hf hl H post
  replace hf := bind_some hf; obtain ⟨⟨ms, h1⟩, hms, hf⟩ := hf
  refine Tuple_ (h.2 D loc hp as cs s ms h1 pos _ _ ok hsc hms hl H fun vs as1 cs1 s1 x1 r1 H1 => ?_)
  exact newTuple_I hf r1 H1 fun v as2 cs2 s2 x2 r2 H2 => post v as2 cs2 s2 (x1.trans x2) r2 H2
theorem EvI.lst {es : List Expr} {pos : Pos} {fa : Locs → MHeap → Option (List MV × MHeap)} (h : EvsI G sc tbl d es fa) : EvI G sc tbl d (.List es pos) (eLst fa) := by
  intro D loc hp as cs s mv hp' Q E ok hsc hf hl H post
  replace hf := bind_some hf; obtain ⟨⟨ms, h1⟩, hms, hf⟩ := hf
  refine List_ (h.2 D loc hp as cs s ms h1 pos _ _ ok hsc hms hl H fun vs as1 cs1 s1 x1 r1 H1 => ?_)
  exact newList_I hf r1 H1 fun v as2 cs2 s2 x2 r2 H2 => post v as2 cs2 s2 (x1.trans x2) r2 H2
end

noncomputable def fGet (i : Nat) : List (Nat × MV) → Option MV
  | [] => none
  | (j, m) :: r => if i == j then some m else fGet i r
noncomputable def fPut (i : Nat) (v : MV) : List (Nat × MV) → List (Nat × MV)
  | [] => [(i, v)]
  | (j, m) :: r => if i == j then (j, v) :: r else (j, m) :: fPut i v r

theorem at_inj {G : Glo} (nd : G.atn.Nodup) {i j : Nat} (hi : i < G.atn.length) (hj : j < G.atn.length) : (G.at j == G.at i) = (i == j) := by
  unfold Glo.at
  rw [List.getD_eq_getElem?_getD, List.getD_eq_getElem?_getD, List.getElem?_eq_getElem hi, List.getElem?_eq_getElem hj, Option.getD_some, Option.getD_some]
  by_cases e : i = j
  · subst e; simp
  · rw [beq_eq_false_iff_ne.mpr e, beq_eq_false_iff_ne]
    exact fun z => e ((List.getElem_inj nd).mp z.symm)
theorem isStr_key {e : DictEntry} {x y : Str} (h : ∃ t, e.key = .str x t) : e.key.isStr y = (x == y) := by
  obtain ⟨t, h⟩ := h; rw [h]; rfl
theorem FR.refs {G : Glo} {as : List Addr} {fs : List (Nat × MV)} : ∀ {es : List DictEntry}, FR G as fs es → (es.any fun x => x.refKey) = false := by
  induction fs with
  | nil => intro es r; cases r; rfl
  | cons p fs ih =>
    rintro _ ⟨e, r, rfl, _, ⟨t, b⟩, _, d⟩
    rw [List.any_cons, ih d, Bool.or_false, DictEntry.refKey, b]
theorem FR.get {G : Glo} (nd : G.atn.Nodup) {as : List Addr} {i : Nat} (hi : i < G.atn.length) {fs : List (Nat × MV)} : ∀ {es : List DictEntry} {m : MV}, FR G as fs es → fGet i fs = some m → ∃ v, getL (G.at i) es = some (some v) ∧ VR as m v := by
  induction fs with
  | nil => intro es m _ h; cases h
  | cons p fs ih =>
    rintro _ m ⟨e, r, rfl, a, b, c, dd⟩ h
    have hb := isStr_key (y := G.at i) b
    rw [at_inj nd hi a] at hb
    unfold getL
    rw [List.find?_cons, hb]
    replace h : (if i == p.1 then some p.2 else fGet i fs) = some m := h
    by_cases q : (i == p.1) = true
    · rw [if_pos q] at h; cases h; rw [q]; exact ⟨_, rfl, c⟩
    · rw [if_neg q] at h
      rw [Bool.not_eq_true] at q
      rw [q]
      obtain ⟨v, hv, hr⟩ := ih dd h
      refine ⟨v, ?_, hr⟩
      unfold getL at hv
      dsimp only
      cases z : r.find? fun x => x.key.isStr (G.at i) with
      | some y => rw [z] at hv; exact hv
      | none => rw [z] at hv; dsimp only at hv; cases y : r.any fun x => x.refKey <;> rw [y] at hv <;> cases hv
theorem FR.miss {G : Glo} (nd : G.atn.Nodup) {as : List Addr} {i : Nat} (hi : i < G.atn.length) {fs : List (Nat × MV)} : ∀ {es : List DictEntry}, FR G as fs es → fGet i fs = none → getL (G.at i) es = some none := by
  induction fs with
  | nil => intro es r _; cases r; rfl
  | cons p fs ih =>
    intro es R h
    have hr := R.refs
    obtain ⟨e, r, rfl, a, b, c, dd⟩ := R
    have hb := isStr_key (y := G.at i) b
    rw [at_inj nd hi a] at hb
    replace h : (if i == p.1 then some p.2 else fGet i fs) = none := h
    by_cases q : (i == p.1) = true
    · rw [if_pos q] at h; cases h
    · rw [if_neg q] at h
      rw [Bool.not_eq_true] at q
      have hv := ih dd h
      have hr2 := dd.refs
      unfold getL at hv ⊢
      rw [List.find?_cons, hb, q, hr]
      rw [hr2] at hv
      exact hv
theorem FR.has {G : Glo} (nd : G.atn.Nodup) {as : List Addr} {i : Nat} (hi : i < G.atn.length) {fs : List (Nat × MV)} {es : List DictEntry} (R : FR G as fs es) : (getL (G.at i) es).isSome = true := by
  cases h : fGet i fs with
  | none => rw [R.miss nd hi h]; rfl
  | some m => obtain ⟨v, e, _⟩ := R.get nd hi h; rw [e]; rfl
theorem FR.len {G : Glo} {as : List Addr} {fs : List (Nat × MV)} : ∀ {es : List DictEntry}, FR G as fs es → es.length = fs.length := by
  induction fs with
  | nil => intro es r; cases r; rfl
  | cons p fs ih => rintro _ ⟨_, r, rfl, _, _, _, dd⟩; exact congrArg (· + 1) (ih dd)
theorem FR.put {G : Glo} (nd : G.atn.Nodup) {as : List Addr} {i : Nat} (hi : i < G.atn.length) {m : MV} {v : Value} (hv : VR as m v) (hs : Int) (t : Tok) {fs : List (Nat × MV)} :
    ∀ {es : List DictEntry}, FR G as fs es → FR G as (fPut i m fs) (putL (G.at i) hs (.str (G.at i) t) v es) := by
  induction fs with
  | nil => intro es r; cases r; exact ⟨_, _, rfl, hi, ⟨t, rfl⟩, hv, rfl⟩
  | cons p fs ih =>
    rintro _ ⟨e, r, rfl, a, b, c, dd⟩
    have hb := isStr_key (y := G.at i) b
    rw [at_inj nd hi a] at hb
    unfold fPut putL
    rw [hb]
    cases i == p.1 with
    | true => exact ⟨_, _, rfl, a, b, hv, dd⟩
    | false => exact ⟨_, _, rfl, a, b, c, ih dd⟩
theorem FR.put_len {i : Nat} {m : MV} (fs : List (Nat × MV)) : (fPut i m fs).length ≤ fs.length + 1 := by
  induction fs with
  | nil => exact Nat.le_refl _
  | cons p r ih =>
    show (if i == p.1 then (p.1, m) :: r else (p.1, p.2) :: fPut i m r).length ≤ _
    by_cases q : (i == p.1) = true
    · rw [if_pos q]; exact Nat.le_succ _
    · rw [if_neg q]; exact Nat.succ_le_succ ih

noncomputable def okGet (K : Frag) (C : Addr) (name : Str) : Bool :=
  plainGet K C name && hasDictIn K C && match findIn K (.ref C) name with | some attr => noGet K attr | none => false
noncomputable def okSet (K : Frag) (C : Addr) (name : Str) : Bool :=
  (findIn K (.ref C) "__setattr__" == some (some (.builtin "object.__setattr__"))) && plainOver K C && (takerIn K C name == some none) && hasDictIn K C

noncomputable def instOf : MObj → Option (Addr × List (Nat × MV))
  | .inst C fs => some (C, fs)
  | _ => none
theorem instOf_some {m : MObj} {p : Addr × List (Nat × MV)} (h : instOf m = some p) : m = .inst p.1 p.2 := by
  cases m <;> first | (cases h; rfl) | cases h
noncomputable def instAt (hp : MHeap) (l : Nat) : Option (Addr × List (Nat × MV)) := (hp[l]?).bind instOf
theorem instAt_some {hp : MHeap} {l : Nat} {p : Addr × List (Nat × MV)} (h : instAt hp l = some p) : hp[l]? = some (.inst p.1 p.2) := by
  obtain ⟨o, h1, h2⟩ := bind_some h
  rw [h1, instOf_some h2]
theorem at_inst {hp : MHeap} {l : Nat} {C : Addr} {fs : List (Nat × MV)} (h : hp[l]? = some (.inst C fs)) : instAt hp l = some (C, fs) := by
  unfold instAt; rw [h]; rfl
noncomputable def aGet (i : Nat) (Cs : List Addr) (m : MV) (hp : MHeap) : Option (MV × MHeap) := (locOf m).bind fun l => (instAt hp l).bind fun p =>
  if Cs.any (fun c => p.1 == c) then (fGet i p.2).bind fun v => some (v, hp) else none
noncomputable def aSet (i : Nat) (Cs : List Addr) (m : MV) (v : MV) (hp : MHeap) : Option MHeap := (locOf m).bind fun l => (instAt hp l).bind fun p =>
  if Cs.any (fun c => p.1 == c) = true ∧ p.2.length < cap then some (hp.set l (.inst p.1 (fPut i v p.2))) else none
noncomputable def eAttr (i : Nat) (Cs : List Addr) (f : EFun) : EFun := fun loc hp => (f loc hp).bind fun r => aGet i Cs r.1 r.2

section
variable {G : Glo} {sc : Scope} {tbl : List Str} {d : Nat}
theorem any_mem {Cs : List Addr} {C : Addr} (h : (Cs.any fun c => C == c) = true) : C ∈ Cs := by
  obtain ⟨c, hc, e⟩ := List.any_eq_true.mp h
  exact beq_iff_eq.mp e ▸ hc

theorem at_x {i : Nat} {x : Str} (hx : G.atn[i]? = some x) : G.at i = x := by unfold Glo.at; rw [List.getD_eq_getElem?_getD, hx]; rfl
theorem okGet_some {C : Addr} {x : Str} (h : okGet G.K C x = true) : ∃ attr, plainGet G.K C x = true ∧ hasDictIn G.K C = true ∧ findIn G.K (.ref C) x = some attr ∧ noGet G.K attr = true := by
  unfold okGet at h
  rw [Bool.and_eq_true, Bool.and_eq_true] at h
  cases e : findIn G.K (.ref C) x with
  | none => rw [e] at h; cases h.2
  | some attr => rw [e] at h; exact ⟨attr, h.1.1, h.1.2, rfl, h.2⟩
theorem dx_ne {D : Dyn} {as : List Addr} {cs : List (List (Addr × Obj))} {hp : MHeap} {s : Shared} (H : HRel G D as cs hp s) {l : Nat} {a dx : Addr} {o o' : Obj} (h2 : cs[l]? = some [(a, o), (dx, o')]) : a ≠ dx := by
  have z := H.nd
  unfold Dyn.led at z
  rw [List.map_append, List.map_append, List.map_flatten] at z
  have z2 := (List.pairwise_flatten.mp (List.nodup_append.mp (List.nodup_append.mp z).2.1).2.1).1 _ (List.mem_map_of_mem (List.mem_of_getElem? h2))
  exact (List.nodup_cons.mp z2).1 ∘ fun e => e ▸ .head _
theorem getAttr_I {D : Dyn} {as : List Addr} {cs : List (List (Addr × Obj))} {hp hp' : MHeap} {s : Shared} {i : Nat} {x : Str} {Cs : List Addr} {m mv : MV} {v : Value} {Q : Value → Shared → Prop} {E : Value → Shared → Prop} {A : Around} {ex : Bool}
    (hx : G.atn[i]? = some x) (hC : (Cs.all fun C => okGet G.K C x) = true) (ok : Ok G d D) (hf : aGet i Cs m hp = some (mv, hp')) (r : VR as m v) (H : HRel G D as cs hp s)
    (post : ∀ v as' cs' s', Ext as as' → VR as' mv v → HRel G D as' cs' hp' s' → Q v s') : wpAny G.M A (getAttr v x ex) Q E s := by
  replace hf := bind_some hf; obtain ⟨l, hloc, hf⟩ := hf
  replace hf := bind_some hf; obtain ⟨p, hl, hf⟩ := hf
  replace hf := if_some hf; obtain ⟨hm, hf⟩ := hf
  replace hf := bind_some hf; obtain ⟨w, hw, hf⟩ := hf
  cases hf
  obtain ⟨a, dx, es, n, h1, h2, h3, h4⟩ := H.inst (instAt_some hl)
  cases r.at hloc h1
  obtain ⟨v, hv, hr⟩ := h3.get ok.nd (List.getElem?_eq_some_iff.mp hx).1 hw
  rw [at_x hx] at hv
  obtain ⟨attr, k1, k2, hfi, k3⟩ := okGet_some (List.all_eq_true.mp hC p.1 (any_mem hm))
  exact get_own H.fr ok.kin h4 k1 k2 hfi k3 hv hr.handed (post v as cs _ (Ext.refl _) hr (H.toks _))

theorem EvI.attr {e : Expr} {x : Str} {pos : Pos} {f : EFun} (i : Nat) (Cs : List Addr) (hx : G.atn[i]? = some x) (hC : (Cs.all fun C => okGet G.K C x) = true) (h : EvI G sc tbl d e f)
    (he : ∀ env, eval (.Attribute e x pos) env = (do
          let o ← eval e env
          standAt pos.atName
          let r ← holding [o] (getAttr o x true)
          letTemporaryGo e o r
          pure r) := by intro _; rfl) : EvI G sc tbl d (.Attribute e x pos) (eAttr i Cs f) := by
  intro D loc hp as cs s mv hp' Q E ok hsc hf hl H post
  replace hf := bind_some hf; obtain ⟨⟨m, h1⟩, hm, hf⟩ := hf
  refine Attribute_any_ (h D loc hp as cs s m h1 _ _ ok hsc hm hl H fun v as1 cs1 s1 x1 r1 H1 => ?_) (he _)
  exact getAttr_I hx hC ok hf r1 H1 fun v as2 cs2 s2 x2 r2 H2 => post v as2 cs2 s2 (x1.trans x2) r2 H2

theorem setAttr_I {D : Dyn} {as : List Addr} {cs : List (List (Addr × Obj))} {hp hp' : MHeap} {s : Shared} {i : Nat} {x : Str} {Cs : List Addr} {m mv : MV} {o v : Value} {Q : Unit → Shared → Prop} {E : Value → Shared → Prop} {A : Around}
    (hx : G.atn[i]? = some x) (hC : (Cs.all fun C => okSet G.K C x) = true) (ok : Ok G d D) (hf : aSet i Cs m mv hp = some hp') (r : VR as m o) (rv : VR as mv v) (H : HRel G D as cs hp s)
    (post : ∀ cs' s', HRel G D as cs' hp' s' → Q () s') : wpAny G.M A (setAttr o x v) Q E s := by
  replace hf := bind_some hf; obtain ⟨l, hloc, hf⟩ := hf
  replace hf := bind_some hf; obtain ⟨p, hl, hf⟩ := hf
  replace hf := if_some hf; obtain ⟨⟨hm, hc⟩, hf⟩ := hf
  cases hf
  have hl' := instAt_some hl
  obtain ⟨a, dx, es, n, h1, h2, h3, h4⟩ := H.inst hl'
  cases r.at hloc h1
  have hi : i < G.atn.length := (List.getElem?_eq_some_iff.mp hx).1
  have hk := List.all_eq_true.mp hC p.1 (any_mem hm)
  unfold okSet at hk
  simp only [Bool.and_eq_true, beq_iff_eq] at hk
  have hu : Upd dx (dictOf es n) (dictOf (putL x (PyData.keyHash G.w.params x) (.str x (s.toks + 1)) v es) (putN x es n)) (D.led cs) _ := upd_of (mem_led (D := D) h2 (.tail _ (.head _))) H.nd
  have hF := at_x hx ▸ FR.put ok.nd hi rv (PyData.keyHash G.w.params (G.at i)) (s.toks + 1) h3
  refine set_dict H.fr ok.kin H.nw h4 rfl hk.1.1.1 hk.1.1.2 hk.1.2 hk.2 (at_x hx ▸ FR.has ok.nd hi h3) rfl hu ?_ (fun h' F N => ?_)
  · rw [hF.len]
    have := FR.put_len (i := i) (m := mv) p.2
    unfold cap at hc
    omega
  · refine post _ _ (H.putN (a := a) (s.toks + 2) (List.getElem?_eq_some_iff.mp hl').1 h1 h2 (.tail _ (.head _)) F N ⟨dx, _, putN x es n, ?_, hF⟩)
    show [(if a = dx then _ else _), (if dx = dx then _ else _)] = _
    rw [if_neg (dx_ne H h2), if_pos rfl]

noncomputable def sSetA (i : Nat) (Cs : List Addr) (f g : EFun) : SFun := fun loc hp => (f loc hp).bind fun r => (g loc r.2).bind fun q => (aSet i Cs q.1 r.1 q.2).bind fun h => some (.next, loc, h)
theorem StI.setA {e v : Expr} {x : Str} {pos pos' : Pos} {f g : EFun} (i : Nat) (Cs : List Addr) (hx : G.atn[i]? = some x) (hC : (Cs.all fun C => okSet G.K C x) = true) (hv : EvI G sc tbl d v f) (he : EvI G sc tbl d e g)
    (hs : ∀ env, swapsWith v (some (.Attribute e x pos')) pos.line env = pure false := by intro _; rfl) : StI G sc tbl d (.Assign [.Attribute e x pos'] v pos) (sSetA i Cs f g) := by
  intro D loc hp as cs s fl loc' hp' Q E ok hsc henv hL hf hl H post
  replace hf := bind_some hf; obtain ⟨⟨m, h1⟩, hm, hf⟩ := hf
  replace hf := bind_some hf; obtain ⟨⟨o, h2⟩, ho, hf⟩ := hf
  replace hf := bind_some hf; obtain ⟨h3, hh, hf⟩ := hf
  cases hf
  refine plainObj_wpAny_Assign_Attribute (hv D loc hp as cs s m h1 _ _ ok hsc hm hl H fun vv as1 cs1 s1 x1 r1 H1 => ?_) (hs _)
  refine he D loc h1 as1 cs1 s1 o h2 _ _ ok hsc ho (hl.mono x1) H1 fun ov as2 cs2 s2 x2 r2 H2 => ?_
  exact setAttr_I hx hC ok hh r2 (r1.mono x2) H2 fun cs3 s3 H3 => post _ as2 cs3 D.mf D.ce s3 (x1.trans x2) rfl rfl (hl.mono (x1.trans x2)) H3
end
end Mine
end

section
open PySem PySem.W PySem.Calls PyProof.Rows
set_option maxRecDepth 100000
namespace Mine

section
variable {G : Glo} {D : Dyn} {as : List Addr} {cs : List (List (Addr × Obj))} {hp : MHeap} {s : Shared}
theorem HRel.push (H : HRel G D as cs hp s) (o : Obj) : HRel G D as cs hp { s with heap := s.heap.push o } := H.keeps s.toks fun _ _ e => Heap.get?_push_of_some _ e

theorem HRel.lay (H : HRel G D as cs hp s) {o : Obj} {mo : MObj} (hf : o.isFreed = false) (k : Cell G (as ++ [s.heap.objs.size]) s.heap.objs.size mo [(s.heap.objs.size, o)]) :
    HRel G D (as ++ [s.heap.objs.size]) (cs ++ [[(s.heap.objs.size, o)]]) (hp ++ [mo]) { s with heap := s.heap.push o } :=
  H.new1 s.toks (H.fr.push o) (News.push H.fr H.nw o hf) k
end

theorem small {n m : Nat} (h : n ≤ cap) (e : m = n) : m ≤ sizeLine := by have : sizeLine = 2 ^ 24 := rfl; unfold cap at h; omega
theorem size_len {as : List Addr} {ms : List MV} {us : Array Value} (h : VRs as ms us.toList) : us.size = ms.length := by have := h.len; rwa [Array.length_toList] at this

noncomputable def nth (ms : List MV) (k : Int) : Option MV := (seqIndex? k ms.length).bind fun j => ms[j]?
noncomputable def dGet (ks : List (Int × MV)) (k : Int) : Option MV := (ks.find? fun p => decide (p.1 = k)).map (·.2)

noncomputable def rawList (o : Obj) : Option (Array Value) := match o.cls, o.data with
  | .type t, .seq us _ => if t = "list" then some us else none
  | _, _ => none
theorem rawList_of {o : Obj} {us : Array Value} {h : Heap} {a : Addr} (hr : rawList o = some us) (ho : h.get? a = some o) : h.IsList a us := by
  unfold rawList at hr
  split at hr
  · rename_i t us' n e1 e2
    split at hr
    · rename_i et
      cases hr
      exact ⟨o, ho, by rw [e1, et], n, e2⟩
    · cases hr
  · cases hr
noncomputable def mvInt : Value → Option MV
  | .int i _ => some (.int i)
  | _ => none
theorem mvInt_vr {as : List Addr} {v : Value} {m : MV} (h : mvInt v = some m) : VR as m v := by
  cases v <;> first | (cases h; done) | skip
  cases h
  exact ⟨_, rfl⟩
noncomputable def idxO (k : Int) : MObj → Option MV
  | .tup ms => if -(2 ^ 63) ≤ k ∧ k < 2 ^ 63 then nth ms k else none
  | .lst ms => if 0 ≤ k ∧ k < 2 ^ 63 then ms[k.toNat]? else none
  | .dct ks => dGet ks k
  | .raw o => if 0 ≤ k ∧ k < 2 ^ 63 then (rawList o).bind fun us => (us[k.toNat]?).bind mvInt else none
  | _ => none
noncomputable def oIdx : O2 := fun o i hp => (locOf o).bind fun l => (intOf i).bind fun k => (hp[l]?).bind fun o => (idxO k o).bind fun m => some (m, hp)
theorem idx_at {hp : MHeap} {l : Nat} {k : Int} {o : MObj} {m : MV} (h : hp[l]? = some o) (e : idxO k o = some m) : oIdx (.loc l) (.int k) hp = some (m, hp) := by
  show ((hp[l]?).bind fun o => (idxO k o).bind fun m => some (m, hp)) = _
  rw [h]
  show (idxO k o).bind _ = _
  rw [e]
  rfl
theorem KR.find {as : List Addr} {k : Int} {ks : List (Int × MV)} : ∀ {kv : List (Int × Value)}, KR as ks kv → (∀ m, dGet ks k = some m → ∃ v, valueAt kv k = some v ∧ VR as m v) ∧ (dGet ks k = none → valueAt kv k = none) := by
  induction ks with
  | nil => intro kv r; cases r; exact ⟨fun m h => (by cases h), fun _ => rfl⟩
  | cons p ks ih =>
    rintro _ ⟨v, r, rfl, a, b⟩
    unfold dGet valueAt
    rw [List.find?_cons, List.find?_cons]
    dsimp only
    cases decide (p.1 = k) with
    | true => exact ⟨fun m h => (by cases h; exact ⟨_, rfl, a⟩), fun h => (by cases h)⟩
    | false => exact ih b
theorem KR.get {as : List Addr} {k : Int} {ks : List (Int × MV)} {kv : List (Int × Value)} {m : MV} (r : KR as ks kv) (h : dGet ks k = some m) : ∃ v, valueAt kv k = some v ∧ VR as m v := r.find.1 m h
theorem KR.miss {as : List Addr} {k : Int} {ks : List (Int × MV)} {kv : List (Int × Value)} (r : KR as ks kv) (h : dGet ks k = none) : valueAt kv k = none := r.find.2 h
section
variable {G : Glo} {sc : Scope} {tbl : List Str} {d : Nat}

theorem idx_I {D : Dyn} {as : List Addr} {cs : List (List (Addr × Obj))} {hp hp' : MHeap} {s : Shared} {o i mv : MV} {vo vi : Value} {a b : Expr} {Q : Value → Shared → Prop} {E : Value → Shared → Prop} {A : Around}
    (hf : oIdx o i hp = some (mv, hp')) (ro : VR as o vo) (ri : VR as i vi) (H : HRel G D as cs hp s) (hs : ∀ o i, subscripted b false o i = operate [o, i] (getItem o i))
    (post : ∀ v s', VR as mv v → HRel G D as cs hp' s' → Q v s') : wpAny G.M A (subscriptTail a b vo vi) Q E s := by
  replace hf := bind_some hf; obtain ⟨l, h1, hf⟩ := hf
  replace hf := bind_some hf; obtain ⟨k, h2, hf⟩ := hf
  replace hf := bind_some hf; obtain ⟨ob, hl, hf⟩ := hf
  replace hf := bind_some hf; obtain ⟨m, hm, hf⟩ := hf
  cases hf
  obtain ⟨ao, hao, rfl⟩ := ro.loc h1
  obtain ⟨t, rfl⟩ := ri.int h2
  clear h1 h2
  obtain ⟨a, c, q1, q2, q3⟩ := H.cel _ _ hl
  rw [hao] at q1; cases q1
  clear hao hl
  cases ob with
  | tup ms =>
    obtain ⟨us, n, rfl, q3⟩ := q3
    replace hm := if_some hm; obtain ⟨hk, hm⟩ := hm
    replace hm := bind_some hm; obtain ⟨j, hj, hm⟩ := hm
    obtain ⟨v, hv, hr⟩ := q3.get hm
    have it := isTup_of (H.nw _ (mem_led (D := D) q2 (.head _))).1
    exact tail_any it.typeIs slot_tuple_getitem.lookup (getItem_tuple (j := j) it hk.1 hk.2 (by rw [size_len q3]; exact hj) (Array.getElem?_toList.symm.trans hv) (post v s hr H)) (hs _ _)
  | lst ms =>
    obtain ⟨us, n, rfl, q3⟩ := q3
    replace hm := if_some hm; obtain ⟨hk, hm⟩ := hm
    obtain ⟨v, hv, hr⟩ := q3.get hm
    have it := isList_of (H.nw _ (mem_led (D := D) q2 (.head _))).1
    exact tail_any it.typeIs slot_list_getitem.lookup (wpAny_getItem_list it hk.1 hk.2 (Array.getElem?_toList.symm.trans hv) (post v s hr H)) (hs _ _)
  | dct ks =>
    obtain ⟨o, kv, rfl, q3, q4⟩ := q3
    obtain ⟨v, hv, hr⟩ := q4.get hm
    have hD : s.heap.DictOf (intKind G.prog G.w) ao kv := Heap.dictOf_iff.mpr ⟨o, (H.nw _ (mem_led (D := D) q2 (.head _))).1, q3⟩
    exact tail_any hD.typeIs slot_dict_getitem.lookup (wpAny_getItem_of (k := k) (by simp [intKind, Value.isInt]) hD.mapOf hv (post v _ hr (H.toks _))) (hs _ _)
  | raw o =>
    cases q3
    replace hm := if_some hm; obtain ⟨hk, hm⟩ := hm
    replace hm := bind_some hm; obtain ⟨us, hus, hm⟩ := hm
    replace hm := bind_some hm; obtain ⟨v, hv, hm⟩ := hm
    have it := rawList_of hus (H.nw _ (mem_led (D := D) q2 (.head _))).1
    exact tail_any it.typeIs slot_list_getitem.lookup (wpAny_getItem_list it hk.1 hk.2 hv (post v s (mvInt_vr hm) H)) (hs _ _)
  | _ => cases hm
theorem EvI.idx {a b : Expr} {pos : Pos} {f g : EFun} (hf : EvI G sc tbl d a f) (hg : EvI G sc tbl d b g)
    (hs : ∀ o i, subscripted b false o i = operate [o, i] (getItem o i) := by intro _ _; rfl) : EvI G sc tbl d (.Subscript a b pos) (e2 oIdx f g) := by
  intro D loc hp as cs s mv hp' Q E ok hsc hfu hl H post
  replace hfu := bind_some hfu; obtain ⟨⟨o, h1⟩, ho, hfu⟩ := hfu
  replace hfu := bind_some hfu; obtain ⟨⟨i, h2⟩, hi, hfu⟩ := hfu
  refine Subscript_ (hf D loc hp as cs s o h1 _ _ ok hsc ho hl H fun vo as1 cs1 s1 x1 r1 H1 => ?_)
  refine hg D loc h1 as1 cs1 s1 i h2 _ _ ok hsc hi (hl.mono x1) H1 fun vi as2 cs2 s2 x2 r2 H2 => ?_
  exact idx_I hfu (r1.mono x2) r2 H2 hs fun v s' hr H' => post v as2 cs2 s' (x1.trans x2) hr H'

noncomputable def lenO : MObj → Option Nat
  | .tup ms => some ms.length
  | .lst ms => some ms.length
  | .raw o => (rawList o).bind fun us => some us.size
  | _ => none
noncomputable def fLen : List MV → MHeap → Option (MV × MHeap) := fun vs hp => (one? vs).bind fun m => (locOf m).bind fun l => (hp[l]?).bind fun o => (lenO o).bind fun n => if n ≤ cap then some (.int n, hp) else none
theorem len_at {hp : MHeap} {l n : Nat} {o : MObj} (h : hp[l]? = some o) (e : lenO o = some n) (hc : n ≤ cap) : fLen [.loc l] hp = some (.int n, hp) := by
  show ((hp[l]?).bind fun o => (lenO o).bind fun n => if n ≤ cap then some (MV.int n, hp) else none) = _
  rw [h]
  show (lenO o).bind _ = _
  rw [e]
  exact if_pos hc
theorem fit63 {n m : Nat} (h : n ≤ cap) (e : m = n) : (m : Int) < 2 ^ 63 := by unfold cap at h; omega
theorem ClI.len : ClI G d (.builtin "len") fLen := by
  intro D hp as cs s mvs vs mv hp' Q E ok hF r H post
  replace hF := bind_some hF; obtain ⟨m, h1, hF⟩ := hF
  replace hF := bind_some hF; obtain ⟨l, h2, hF⟩ := hF
  replace hF := bind_some hF; obtain ⟨o, hl, hF⟩ := hF
  replace hF := bind_some hF; obtain ⟨n, hn, hF⟩ := hF
  replace hF := if_some hF; obtain ⟨hc, hF⟩ := hF
  cases hF
  obtain ⟨v, rfl, hv⟩ := r.one? h1
  obtain ⟨a, c, q1, q2, q3⟩ := H.cel _ _ hl
  cases hv.at h2 q1
  clear r h1 h2 hl hv q1
  cases o with
  | tup ms =>
    cases hn
    obtain ⟨us, k, rfl, q3⟩ := q3
    have e := size_len q3
    exact len_tuple (isTup_of (H.nw _ (mem_led (D := D) q2 (.head _))).1) (fit63 hc e) (post _ as cs _ (Ext.refl _) ⟨_, by rw [e]⟩ (H.toks _))
  | lst ms =>
    cases hn
    obtain ⟨us, k, rfl, q3⟩ := q3
    have e := size_len q3
    exact len_list (isList_of (H.nw _ (mem_led (D := D) q2 (.head _))).1) (fit63 hc e) (post _ as cs _ (Ext.refl _) ⟨_, by rw [e]⟩ (H.toks _))
  | raw o =>
    replace hn := bind_some hn; obtain ⟨us, hus, hn⟩ := hn
    cases hn
    cases q3
    exact len_list (rawList_of hus (H.nw _ (mem_led (D := D) q2 (.head _))).1) (fit63 hc rfl) (post _ as cs _ (Ext.refl _) ⟨_, rfl⟩ (H.toks _))
  | _ => cases hn

noncomputable def addT (l k : Nat) (hp : MHeap) (xs ys : List MV) : MV × MHeap := if xs.isEmpty = true then (.loc k, hp) else if ys.isEmpty = true then (.loc l, hp) else (.loc hp.length, hp ++ [.tup (xs ++ ys)])
noncomputable def addO (l k : Nat) (hp : MHeap) (q : MObj) : MObj → Option (MV × MHeap)
  | .lst xs => (lstOf q).bind fun ys => if (xs ++ ys).length ≤ cap then some (.loc hp.length, hp ++ [.lst (xs ++ ys)]) else none
  | .tup xs => (tupOf q).bind fun ys => if (xs ++ ys).length ≤ cap then some (addT l k hp xs ys) else none
  | _ => none
noncomputable def oAdd : O2 := fun a b hp => match a with
  | .int a => (intOf b).bind fun b => some (.int (a + b), hp)
  | .loc l => (locOf b).bind fun k => (hp[l]?).bind fun o => (hp[k]?).bind fun q => addO l k hp q o
  | _ => none
theorem add_lst {hp : MHeap} {l k : Nat} {xs ys : List MV} (h : hp[l]? = some (.lst xs)) (h' : hp[k]? = some (.lst ys)) (hc : (xs ++ ys).length ≤ cap) : oAdd (.loc l) (.loc k) hp = some (.loc hp.length, hp ++ [.lst (xs ++ ys)]) := by
  show ((hp[l]?).bind fun o => (hp[k]?).bind fun q => addO l k hp q o) = _
  rw [h, h']
  exact if_pos hc
theorem add_tup {hp : MHeap} {l k : Nat} {xs ys : List MV} (h : hp[l]? = some (.tup xs)) (h' : hp[k]? = some (.tup ys)) (hc : (xs ++ ys).length ≤ cap) : oAdd (.loc l) (.loc k) hp = some (addT l k hp xs ys) := by
  show ((hp[l]?).bind fun o => (hp[k]?).bind fun q => addO l k hp q o) = _
  rw [h, h']
  exact if_pos hc
theorem empty_of {as : List Addr} {xs : List MV} {us : List Value} (h : VRs as xs us) : xs.isEmpty = us.isEmpty := by
  cases xs with
  | nil => cases h; rfl
  | cons x xs => obtain ⟨v, r, rfl, _⟩ := h; rfl
theorem Op2I.addA : Op2I G (binaryOp .Add) oAdd := by
  intro D hp as cs s a b va vb r hp' Q E ok hf ha hb H post
  cases a with
  | int a =>
    replace hf := bind_some hf; obtain ⟨b, h2, hf⟩ := hf
    cases hf
    obtain ⟨t, rfl⟩ := ha; obtain ⟨u, rfl⟩ := hb.int h2
    exact add_int (post _ as cs _ (Ext.refl _) ⟨_, rfl⟩ (H.toks _))
  | loc l =>
    replace hf := bind_some hf; obtain ⟨k, h2, hf⟩ := hf
    replace hf := bind_some hf; obtain ⟨o, hl, hf⟩ := hf
    replace hf := bind_some hf; obtain ⟨q, hk, hf⟩ := hf
    obtain ⟨a, c, q1, q2, q3⟩ := H.cel _ _ hl
    obtain ⟨b, c', p1, p2, p3⟩ := H.cel _ _ hk
    cases ha.at rfl q1
    cases hb.at h2 p1
    have x := Ext.app as [s.heap.objs.size]
    clear ha h2 hl hk hb
    cases o with
    | lst xs =>
      replace hf := bind_some hf; obtain ⟨ys, hy, hf⟩ := hf
      cases lstOf_some hy
      replace hf := if_some hf; obtain ⟨hc, hf⟩ := hf
      cases hf
      obtain ⟨us, n, rfl, q3⟩ := q3
      obtain ⟨ws, n', rfl, p3⟩ := p3
      have e := size_len q3
      have e' := size_len p3
      refine add_arrays H.fr H.nw (isList_of (H.nw _ (mem_led (D := D) q2 (.head _))).1) (isList_of (H.nw _ (mem_led (D := D) p2 (.head _))).1) (fun h' F N => ?_) (small hc (by rw [List.length_append, e, e']))
      exact post _ _ _ _ x (VR.last H) (H.new1 s.toks F N ⟨_, _, rfl, by simpa using (q3.app p3).mono x⟩)
    | tup xs =>
      replace hf := bind_some hf; obtain ⟨ys, hy, hf⟩ := hf
      cases tupOf_some hy
      replace hf := if_some hf; obtain ⟨hc, hf⟩ := hf
      replace hf := Option.some.inj hf
      unfold addT at hf
      obtain ⟨us, n, rfl, q3⟩ := q3
      obtain ⟨ws, n', rfl, p3⟩ := p3
      have e := size_len q3
      have e' := size_len p3
      rw [empty_of q3, empty_of p3] at hf
      refine add_tuples (vs := us.toList) (ws := ws.toList) H.fr H.nw (by simpa using isTup_of (H.nw _ (mem_led (D := D) q2 (.head _))).1) (by simpa using isTup_of (H.nw _ (mem_led (D := D) p2 (.head _))).1) (fun hz => ?_) (fun hz hz' => ?_) (fun hz hz' h' F N => ?_) (small hc (by rw [List.length_append, Array.length_toList, Array.length_toList, e, e']))
      · rw [hz] at hf
        cases hf
        exact post _ as cs s (Ext.refl _) ⟨b, p1, rfl⟩ H
      · rw [if_neg (fun z => hz (List.isEmpty_iff.mp z)), hz'] at hf
        cases hf
        exact post _ as cs s (Ext.refl _) ⟨a, ‹_›, rfl⟩ H
      · rw [if_neg (fun z => hz (List.isEmpty_iff.mp z)), if_neg (fun z => hz' (List.isEmpty_iff.mp z))] at hf
        cases hf
        exact post _ _ _ _ x (VR.last H) (H.new1 s.toks F N ⟨_, _, rfl, by simpa using (q3.app p3).mono x⟩)
    | _ => cases hf
  | _ => cases hf
noncomputable def repl (n : Nat) (xs : List MV) : List MV := match n with
  | 0 => []
  | n + 1 => xs ++ repl n xs
noncomputable def oMul : O2 := fun a b hp => (intOf b).bind fun k => match a with
  | .int a => if mulOk a k = true then some (.int (a * k), hp) else none
  | .loc l => (lstAt hp l).bind fun xs => if 0 ≤ k ∧ k ≤ 100 ∧ xs.length ≤ 100 then some (.loc hp.length, hp ++ [.lst (repl k.toNat xs)]) else none
  | _ => none
theorem repl_rel {as : List Addr} {xs : List MV} {us : Array Value} (h : VRs as xs us.toList) (n : Nat) : ∀ (acc : Array Value) (ys : List MV), VRs as ys acc.toList → VRs as (ys ++ repl n xs) (List.foldl (· ++ ·) acc (List.replicate n us)).toList := by
  induction n with
  | zero => intro acc ys k; show VRs as (ys ++ []) acc.toList; rw [List.append_nil]; exact k
  | succ n ih =>
    intro acc ys k
    rw [List.replicate_succ, List.foldl_cons]
    show VRs as (ys ++ (xs ++ repl n xs)) _
    rw [← List.append_assoc]
    exact ih (acc ++ us) (ys ++ xs) (by rw [Array.toList_append]; exact k.app h)
theorem repl_nil (n : Nat) : repl n [] = [] := by
  induction n with
  | zero => rfl
  | succ n ih => exact ih
theorem mulOk_spec {a b : Int} (h : mulOk a b = true) : IntMulOk a b := by
  unfold mulOk at h
  rw [Bool.and_eq_true, decide_eq_true_eq, decide_eq_true_eq] at h
  refine IntMulOk.of_right ?_
  unfold Builtin.Int.intBits
  split
  · omega
  · rename_i hb
    have hne : b.natAbs ≠ 0 := by
      intro z; apply hb; rw [beq_iff_eq]; omega
    exact (Nat.log2_lt hne).mpr h.2
theorem Op2I.mulA : Op2I G (binaryOp .Mult) oMul := by
  intro D hp as cs s a b va vb r hp' Q E ok hf ha hb H post
  replace hf := bind_some hf; obtain ⟨k, h2, hf⟩ := hf
  obtain ⟨u, rfl⟩ := hb.int h2
  clear h2 hb
  cases a with
  | int a =>
    replace hf := if_some hf; obtain ⟨hm, hf⟩ := hf
    cases hf
    obtain ⟨t, rfl⟩ := ha
    exact mul_int (post _ as cs _ (Ext.refl _) ⟨_, rfl⟩ (H.toks _)) (mulOk_spec hm)
  | loc l =>
    replace hf := bind_some hf; obtain ⟨xs, hl, hf⟩ := hf
    replace hf := if_some hf; obtain ⟨hc, hf⟩ := hf
    cases hf
    obtain ⟨a, us, n, rfl, _, _, q3, q4, _⟩ := H.lstV ha rfl hl
    have e := size_len q3
    have hz : us.size * k.toNat ≤ 2 ^ 24 := Nat.le_trans (Nat.mul_le_mul (e ▸ hc.2.2) (show k.toNat ≤ 100 by omega)) (by decide)
    refine mul_list H.fr H.nw q4 (by omega) (by omega) hz (fun h' F N => ?_)
    have x := Ext.app as [s.heap.objs.size]
    refine post _ _ _ _ x (VR.last H) (H.new1 s.toks F N ⟨_, _, rfl, ?_⟩)
    by_cases he : us.isEmpty = true
    · rw [if_pos he]
      have : xs = [] := by
        rw [← List.length_eq_zero_iff, ← e]
        exact Array.isEmpty_iff_size_eq_zero.mp he
      rw [this, repl_nil]; rfl
    · rw [if_neg he]
      exact (repl_rel q3 k.toNat #[] [] rfl).mono x
  | _ => cases hf

noncomputable def MetI (G : Glo) (d : Nat) (name : Str) (test : MV → MHeap → Bool) (fv : Value) : Prop :=
  ∀ (D : Dyn) (A : Around) (hp : MHeap) (as : List Addr) (cs : List (List (Addr × Obj))) (s : Shared) (m : MV) (v : Value) (pl : Sem Bool) (Q : Value × List Value → Shared → Prop) (E : Value → Shared → Prop),
    Ok G d D → test m hp = true → VR as m v → HRel G D as cs hp s → Q (fv, [v]) s → wpAny G.M A (getMethod v name pl) Q E s
noncomputable def isLst (m : MV) (hp : MHeap) : Bool := ((locOf m).bind (lstAt hp)).isSome
noncomputable def isDct (m : MV) (hp : MHeap) : Bool := ((locOf m).bind (dctAt hp)).isSome
noncomputable def isInst (i : Nat) (C : Addr) (m : MV) (hp : MHeap) : Bool := ((locOf m).bind fun l => (instAt hp l).bind fun p => if (p.1 == C && (fGet i p.2).isNone) = true then some () else none).isSome
theorem MetI.lst {name : Str} {id : String} (slot : Slot "list" name id) (ty : typeOf (.builtin id) = pure (.type "method_descriptor")) : MetI G d name isLst (.builtin id) := by
  intro D A hp as cs s m v pl Q E ok ht r H q
  obtain ⟨ms, ht⟩ := Option.isSome_iff_exists.mp ht
  obtain ⟨l, h1, hl⟩ := bind_some ht
  obtain ⟨a, us, n, rfl, _, q2, q3, q4, _⟩ := H.lstV r h1 hl
  exact kl_method H.nw (mem_led (D := D) q2 (.head _)) slot ty q
theorem MetI.dct {name : Str} {id : String} (slot : Slot "dict" name id) (ty : typeOf (.builtin id) = pure (.type "method_descriptor")) : MetI G d name isDct (.builtin id) := by
  intro D A hp as cs s m v pl Q E ok ht r H q
  obtain ⟨ks, ht⟩ := Option.isSome_iff_exists.mp ht
  obtain ⟨l, h1, hl⟩ := bind_some ht
  obtain ⟨a, c, q1, q2, o, kv, rfl, q3, q4⟩ := H.cel _ _ (dctAt_some hl)
  cases r.at h1 q1
  exact kob_method slot ty H.nw (mem_led (D := D) q2 (.head _)) q3 q
theorem MetI.inst {name : Str} {C f : Addr} (i : Nat) (hx : G.atn[i]? = some name) (hp : plainGet G.K C name = true) (hf : findIn G.K (.ref C) name = some (some (.ref f))) (hF : isFn G.K (.ref f) = true) : MetI G d name (isInst i C) (.ref f) := by
  intro D A hp as cs s m v pl Q E ok ht r H q
  obtain ⟨u, ht⟩ := Option.isSome_iff_exists.mp ht
  replace ht := bind_some ht; obtain ⟨l, h1, ht⟩ := ht
  replace ht := bind_some ht; obtain ⟨p, hl, ht⟩ := ht
  replace ht := if_some ht; obtain ⟨hb, ht⟩ := ht
  rw [Bool.and_eq_true, beq_iff_eq] at hb
  obtain ⟨a, dx, es, n, q1, h2, h3, h4⟩ := H.inst (instAt_some hl)
  cases r.at h1 q1
  exact method_inst H.fr ok.kin (hb.1 ▸ h4) (by assumption) hf hF (at_x hx ▸ h3.miss ok.nd (List.getElem?_eq_some_iff.mp hx).1 (Option.isNone_iff_eq_none.mp hb.2)) q

noncomputable def eMeth (test : MV → MHeap → Bool) (F : List MV → MHeap → Option (MV × MHeap)) (fo : EFun) (fa : Locs → MHeap → Option (List MV × MHeap)) : EFun := fun loc hp =>
  (fo loc hp).bind fun r => match test r.1 r.2 with
    | true => (fa loc r.2).bind fun q => F (r.1 :: q.1) q.2
    | false => none
theorem EvI.meth {o : Expr} {name : Str} {apos pos : Pos} {args : List Expr} {test : MV → MHeap → Bool} {fv : Value} {F : List MV → MHeap → Option (MV × MHeap)} {fo : EFun} {fa : Locs → MHeap → Option (List MV × MHeap)}
    (ho : EvI G sc tbl d o fo) (hm : MetI G d name test fv) (hk : KeepsI G fv) (ha : EvsI G sc tbl d args fa) (hF : ClI G d fv F)
    (pl : Env → Sem Bool)
    (he : ∀ env, eval (.Call (.Attribute o name apos) args [] pos) env = (do
          let ov ← eval o env
          standAt apos.atName
          let (f, first) ← holding [ov] (getMethod ov name (pl env))
          callWith pos f first (backTo pos (starEach args env)) (backToKw pos (keywordEach [] env))) := by intro _; rfl) :
    EvI G sc tbl d (.Call (.Attribute o name apos) args [] pos) (eMeth test F fo fa) := by
  intro D loc hp as cs s mv hp' Q E ok hsc hfu hl H post
  replace hfu := bind_some hfu; obtain ⟨⟨m, h1⟩, hm1, hfu⟩ := hfu
  dsimp only at hfu
  split at hfu
  · rename_i ht
    replace hfu := bind_some hfu; obtain ⟨⟨ms, h2⟩, hms, hfu⟩ := hfu
    refine methodCall_KW (ho D loc hp as cs s m h1 _ _ ok hsc hm1 hl H fun v as1 cs1 s1 x1 r1 H1 => ?_) (he _)
    refine hm D D.A h1 as1 cs1 s1 m v _ _ _ ok ht r1 H1 ?_
    refine callWith_any hk ha.1 (ok.kin.keeps H1.fr.keep) (ha.2 D loc h1 as1 cs1 s1 ms h2 pos _ _ ok hsc hms (hl.mono x1) H1 fun vs as2 cs2 s2 x2 r2 H2 => ⟨ok.kin.keeps H2.fr.keep, ?_⟩)
    exact hF D h2 as2 cs2 s2 (m :: ms) (v :: vs) mv hp' Q E ok hfu (VRs.cons (r1.mono x2) r2) H2 fun v as' cs' s' x3 r3 H3 => post v as' cs' s' ((x1.trans x2).trans x3) r3 H3
  · cases hfu
end
end Mine
end

section
open PySem PySem.W PySem.Calls PyProof.Rows
set_option maxRecDepth 100000
namespace Mine

noncomputable def fAppend : List MV → MHeap → Option (MV × MHeap) := fun vs hp => (two? vs).bind fun p => (locOf p.1).bind fun l => (lstAt hp l).bind fun ms =>
  if ms.length ≤ cap then some (.none, hp.set l (.lst (ms ++ [p.2]))) else none
theorem append_run {hp : MHeap} {l : Nat} {ms : List MV} {m : MV} (h : hp[l]? = some (.lst ms)) (hc : ms.length ≤ cap) : fAppend [.loc l, m] hp = some (.none, hp.set l (.lst (ms ++ [m]))) := by
  show ((lstAt hp l).bind fun ms => if ms.length ≤ cap then some (MV.none, hp.set l (.lst (ms ++ [m]))) else none) = _
  rw [at_lst h]
  exact if_pos hc
noncomputable def fPop : List MV → MHeap → Option (MV × MHeap) := fun vs hp => (one? vs).bind fun m => (locOf m).bind fun l => (lstAt hp l).bind fun ms =>
  if ms.length ≤ cap then (ms.getLast?).bind fun m => some (m, hp.set l (.lst ms.dropLast)) else none
noncomputable def fExtend : List MV → MHeap → Option (MV × MHeap) := fun vs hp => (two? vs).bind fun p => (locOf p.1).bind fun l => (locOf p.2).bind fun k => (lstAt hp l).bind fun ms => (lstAt hp k).bind fun ns =>
  if l ≠ k ∧ (ms ++ ns).length ≤ cap then some (.none, hp.set l (.lst (ms ++ ns))) else none
noncomputable def fRange : List MV → MHeap → Option (MV × MHeap) := fun vs hp => (one? vs).bind fun m => (intOf m).bind fun n => if 0 ≤ n ∧ n ≤ 1000 then some (.loc hp.length, hp ++ [.rng n.toNat]) else none
noncomputable def fInt : List MV → MHeap → Option (MV × MHeap) := fun vs hp => match vs with
  | [.bool b] => some (.int (if b then 1 else 0), hp)
  | _ => none
noncomputable def fMax : List MV → MHeap → Option (MV × MHeap) := fun vs hp => (two? vs).bind fun p => (intOf p.1).bind fun a => (intOf p.2).bind fun b => some (.int (if b > a then b else a), hp)
section
variable {G : Glo} {sc : Scope} {tbl : List Str} {d : Nat}

theorem ClI.append : ClI G d (.builtin "list.append") fAppend := by
  intro D hp as cs s mvs vs mv hp' Q E ok hF r H post
  replace hF := bind_some hF; obtain ⟨p, h1, hF⟩ := hF
  replace hF := bind_some hF; obtain ⟨l, h2, hF⟩ := hF
  replace hF := bind_some hF; obtain ⟨ms, hl, hF⟩ := hF
  replace hF := if_some hF; obtain ⟨hc, hF⟩ := hF
  cases hF
  obtain ⟨v, w, rfl, hv, hw⟩ := r.two? h1
  obtain ⟨a, us, n, rfl, ha, q2, q3, q4, hlt⟩ := H.lstV hv h2 hl
  refine append_at q4 (fun h' sb g => ?_) (small hc (size_len q3))
  refine post _ as _ _ (Ext.refl _) rfl (H.put (a := a) (d := a) s.toks hlt ha q2 (.head _) sb g ⟨us.push w, n + 1, ?_, ?_⟩)
  · exact congrArg (· :: _) (if_pos rfl)
  · rw [Array.toList_push]; exact q3.app (VRs.one hw)
theorem getLast_rel {as : List Addr} {ms : List MV} : ∀ {us : List Value} {m : MV}, VRs as ms us → ms.getLast? = some m → ∃ p v, us = p ++ [v] ∧ VRs as ms.dropLast p ∧ VR as m v := by
  induction ms with
  | nil => intro us m _ h; cases h
  | cons m' ms ih =>
    rintro _ m ⟨v, r, rfl, a, b⟩ h
    cases ms with
    | nil => cases h; cases b; exact ⟨[], v, rfl, rfl, a⟩
    | cons m'' ms =>
      obtain ⟨p, v', rfl, h1, h2⟩ := ih b (by rwa [List.getLast?_cons_cons] at h)
      exact ⟨v :: p, v', rfl, ⟨v, p, rfl, a, h1⟩, h2⟩
theorem kl_last_app (y : Value) (p : List Value) : kl_last (p ++ [y]) = some (p, y) := by
  induction p with
  | nil => rfl
  | cons x r ih =>
    cases r with
    | nil => rfl
    | cons x' r =>
      show (match kl_last (x' :: r ++ [y]) with | some (p, y) => some (x :: p, y) | none => some ([], x)) = _
      rw [ih]
theorem ClI.pop : ClI G d (.builtin "list.pop") fPop := by
  intro D hp as cs s mvs vs mv hp' Q E ok hF r H post
  replace hF := bind_some hF; obtain ⟨p, h1, hF⟩ := hF
  replace hF := bind_some hF; obtain ⟨l, h2, hF⟩ := hF
  replace hF := bind_some hF; obtain ⟨ms, hl, hF⟩ := hF
  replace hF := if_some hF; obtain ⟨hc, hF⟩ := hF
  replace hF := bind_some hF; obtain ⟨m, hm, hF⟩ := hF
  cases hF
  obtain ⟨v, rfl, hv⟩ := r.one? h1
  obtain ⟨a, us, n, rfl, ha, q2, q3, q4, hlt⟩ := H.lstV hv h2 hl
  obtain ⟨p, y, e, e1, e2⟩ := getLast_rel q3 hm
  have hu : Upd a (listOf us n) (listOf p.toArray (n + 1)) (D.led cs) _ := upd_of (mem_led (D := D) q2 (.head _)) H.nd
  refine kl_pop H.fr H.nw (by rw [e]; exact kl_last_app y p) hu (small hc (by rw [Array.length_toList, size_len q3])) (fun h' F N => ?_)
  exact post _ as _ _ (Ext.refl _) e2 (H.putN (a := a) (d := a) s.toks hlt ha q2 (.head _) F N ⟨p.toArray, n + 1, congrArg (· :: _) (if_pos rfl), e1⟩)
theorem short_list {us ws : Array Value} (h : us.size + ws.size ≤ 1000) : ¬ (!us.isEmpty && Builtin.List.listTooLong (us.size + ws.size)) = true := by
  have hs : sizeLine = 2 ^ 24 := rfl
  have : Builtin.List.listTooLong (us.size + ws.size) = false := by
    unfold Builtin.List.listTooLong
    exact decide_eq_false (by omega)
  rw [this, Bool.and_false]; exact Bool.false_ne_true
theorem ClI.extend : ClI G d (.builtin "list.extend") fExtend := by
  intro D hp as cs s mvs vs mv hp' Q E ok hF r H post
  replace hF := bind_some hF; obtain ⟨p, h1, hF⟩ := hF
  replace hF := bind_some hF; obtain ⟨l, h2, hF⟩ := hF
  replace hF := bind_some hF; obtain ⟨k, h3, hF⟩ := hF
  replace hF := bind_some hF; obtain ⟨ms, hl, hF⟩ := hF
  replace hF := bind_some hF; obtain ⟨ns, hk, hF⟩ := hF
  replace hF := if_some hF; obtain ⟨hc, hF⟩ := hF
  cases hF
  obtain ⟨v, w, rfl, hv, hw⟩ := r.two? h1
  obtain ⟨a, us, n, rfl, ha, q2, q3, q4, hlt⟩ := H.lstV hv h2 hl
  obtain ⟨b, ws, n', rfl, hb, p2, p3, p4, _⟩ := H.lstV hw h3 hk
  clear r h1 h2 h3 hl hk hv hw
  have hlen : us.size + ws.size ≤ 1000 := by rw [size_len q3, size_len p3, ← List.length_append]; exact hc.2
  have hs : sizeLine = 2 ^ 24 := rfl
  have hm := mem_led (D := D) p2 (.head _)
  have hno := short_list hlen
  have s1 : us.toList.length ≤ sizeLine := by rw [Array.length_toList]; omega
  have fin : ∀ (h' : Heap) (o : Array Value) (j : Nat), VRs as (ms ++ ns) o.toList → Fr D.h₀ D.L h' D.mf → News D.h₀ D.L h' (updA a (listOf o j) (D.led cs)) → Q .none { s with heap := h' } := fun h' o j hr F N =>
    post _ as _ _ (Ext.refl _) rfl (H.putN (a := a) (d := a) s.toks hlt ha q2 (.head _) F N ⟨o, j, congrArg (· :: _) (if_pos rfl), hr⟩)
  by_cases hz : ws.toList.length = 0
  · refine kxn_extend H.fr H.nw hm (List.length_eq_zero_iff.mp hz) (upd_of (mem_led (D := D) q2 (.head _)) H.nd) hno s1 (by omega) (fun h' F N => fin h' us n ?_ F N)
    have hns : ns = [] := List.length_eq_zero_iff.mp (p3.len.symm.trans hz)
    rw [hns, List.append_nil]; exact q3
  · exact kl_extend H.fr H.nw hm rfl hz (upd_of (mem_led (D := D) q2 (.head _)) H.nd) hno s1 (by omega) (fun h' F N => fin h' _ _ (q3.app p3) F N)
theorem ClI.range : ClI G d (.type "range") fRange := by
  intro D hp as cs s mvs vs mv hp' Q E ok hF r H post
  replace hF := bind_some hF; obtain ⟨m, h1, hF⟩ := hF
  replace hF := bind_some hF; obtain ⟨n, h2, hF⟩ := hF
  replace hF := if_some hF; obtain ⟨hn, hF⟩ := hF
  cases hF
  obtain ⟨v, rfl, hv⟩ := r.one? h1
  obtain ⟨t, rfl⟩ := hv.int h2
  refine call_range_1 ?_
  exact post _ _ _ _ (Ext.app as [s.heap.objs.size]) (VR.last H) ((H.lay (mo := .rng n.toNat) (o := { cls := .type "range", data := .fields #[.int 0 s.toks, .int n t, .int 1 (s.toks + 1)] }) rfl ⟨s.toks, t, s.toks + 1, by rw [Int.toNat_of_nonneg hn.1]⟩).toks _)
theorem ClI.max2 : ClI G d (.builtin "max") fMax := by
  intro D hp as cs s mvs vs mv hp' Q E ok hF r H post
  replace hF := bind_some hF; obtain ⟨p, h1, hF⟩ := hF
  replace hF := bind_some hF; obtain ⟨a, h2, hF⟩ := hF
  replace hF := bind_some hF; obtain ⟨b, h3, hF⟩ := hF
  cases hF
  obtain ⟨v, w, rfl, hv, hw⟩ := r.two? h1
  obtain ⟨t, rfl⟩ := hv.int h2
  obtain ⟨u, rfl⟩ := hw.int h3
  exact max_two_N ok.handled H.fr H.nw (fun h' tk F N => post _ as cs _ (Ext.refl _) ⟨_, rfl⟩ ⟨F, N, H.nd, H.la, H.lc, H.cel, H.st⟩)
end

inductive MIt where
  | seq (l : Nat) (i : Nat)
  | tup (l : Nat) (i : Nat)
  | rng (i n : Nat)

noncomputable def nextS (it : MIt) : Option MV → Option (MV × MIt)
  | some m => some (m, it)
  | none => none
noncomputable def nextM : MIt → MHeap → Option (Option (MV × MIt))
  | .seq l i, hp => (lstAt hp l).bind fun ms => some (nextS (.seq l (i + 1)) ms[i]?)
  | .tup l i, hp => (tupAt hp l).bind fun ms => some (nextS (.tup l (i + 1)) ms[i]?)
  | .rng i n, _ => some (if i < n then some (.int i, .rng (i + 1) n) else none)
theorem next_seq {hp : MHeap} {l i : Nat} {ms : List MV} (h : hp[l]? = some (.lst ms)) : nextM (.seq l i) hp = some (nextS (.seq l (i + 1)) ms[i]?) := by
  show (lstAt hp l).bind _ = _
  rw [at_lst h]; rfl
theorem next_tup {hp : MHeap} {l i : Nat} {ms : List MV} (h : hp[l]? = some (.tup ms)) : nextM (.tup l i) hp = some (nextS (.tup l (i + 1)) ms[i]?) := by
  show (tupAt hp l).bind _ = _
  rw [at_tup h]; rfl
noncomputable def ItO (as : List Addr) : MIt → Obj → Prop
  | .seq l i, o => ∃ a, as[l]? = some a ∧ o.cls = .type "list_iterator" ∧ o.data = .fields #[.ref a, .int i 0]
  | .tup l i, o => ∃ a, as[l]? = some a ∧ o.cls = .type "tuple_iterator" ∧ o.data = .fields #[.ref a, .int i 0]
  | .rng i n, o => o = { cls := .type "range_iterator", data := .fields #[rawInt i, rawInt ((n : Int) - i), rawInt 1] }
theorem ItO.mono {as as' : List Addr} (h : Ext as as') : ∀ {it : MIt} {o : Obj}, ItO as it o → ItO as' it o
  | .seq _ _, _, ⟨a, e, r⟩ => ⟨a, h _ _ e, r⟩
  | .tup _ _, _, ⟨a, e, r⟩ => ⟨a, h _ _ e, r⟩
  | .rng _ _, _, r => r
theorem ItO.fields {as : List Addr} : ∀ {it : MIt} {o : Obj}, ItO as it o → ∃ x, o.data = .fields x
  | .seq _ _, _, ⟨_, _, _, r⟩ => ⟨_, r⟩
  | .tup _ _, _, ⟨_, _, _, r⟩ => ⟨_, r⟩
  | .rng _ _, _, r => by cases r; exact ⟨_, rfl⟩
noncomputable def ItO.tname : MIt → String
  | .seq _ _ => "list_iterator"
  | .tup _ _ => "tuple_iterator"
  | .rng _ _ => "range_iterator"
theorem ItO.tcls {as : List Addr} : ∀ {it : MIt} {o : Obj}, ItO as it o → o.cls = .type (ItO.tname it)
  | .seq _ _, _, ⟨_, _, r, _⟩ => r
  | .tup _ _, _, ⟨_, _, r, _⟩ => r
  | .rng _ _, _, r => by cases r; rfl

noncomputable def Dyn.hold (D : Dyn) (p : Addr × Obj) : Dyn := { D with xs := p :: D.xs }

section
variable {G : Glo} {D : Dyn} {as : List Addr} {cs : List (List (Addr × Obj))} {hp : MHeap} {s : Shared} {p : Addr × Obj} {tbl : List Str} {loc : Locs} {d : Nat}
theorem Ok.hold (h : Ok G d D) (p : Addr × Obj) : Ok G d (D.hold p) := ⟨h.below, h.kin, h.top, h.frames, h.handled, h.ff, h.fk, h.depth, h.units, h.nd, h.eg, h.eb, h.ek, h.cells, h.lam⟩
theorem LocRel.hold (h : LocRel D as tbl loc) (p : Addr × Obj) : LocRel (D.hold p) as tbl loc := h
theorem LocRel.drop (h : LocRel (D.hold p) as tbl loc) : LocRel D as tbl loc := h
theorem HRel.hold (H : HRel G D as cs hp s) {o : Obj} (hf : o.isFreed = false) : HRel G (D.hold (s.heap.objs.size, o)) as cs hp { s with heap := s.heap.push o } := by
  refine ⟨H.fr.push o, ?_, ?_, H.la, H.lc, H.cel, H.st⟩
  · intro q hq
    exact (News.push H.fr H.nw o hf) q hq
  · show ((s.heap.objs.size, o) :: D.led cs).map (·.1) |>.Nodup
    rw [List.map_cons]
    refine List.nodup_cons.mpr ⟨fun z => ?_, H.nd⟩
    obtain ⟨q, hq, e⟩ := List.mem_map.mp z
    have := H.lt hq
    rw [e] at this
    exact Nat.lt_irrefl _ this
theorem HRel.dropped (H : HRel G (D.hold p) as cs hp s) : HRel G D as cs hp s :=
  ⟨H.fr, fun q hq => H.nw q (List.mem_cons_of_mem _ hq), (List.nodup_cons.mp (show (p.1 :: (D.led cs).map (·.1)).Nodup from H.nd)).2, H.la, H.lc, H.cel, H.st⟩
theorem HRel.off (H : HRel G (D.hold p) as cs hp s) : ∀ q ∈ D.led cs, q.1 ≠ p.1 := fun q hq e =>
  (List.nodup_cons.mp (show (p.1 :: (D.led cs).map (·.1)).Nodup from H.nd)).1 (List.mem_map.mpr ⟨q, hq, e⟩)
theorem HRel.ended (H : HRel G (D.hold p) as cs hp s) {h' : Heap} (tk : Nat) (e : Heap.ExtBut p.1 s.heap h') : HRel G D as cs hp { s with heap := h', toks := tk } := by
  have z := H.nw p (.head _)
  refine ⟨⟨?_, fun b o hb => ?_, H.fr.above⟩, fun q hq => ?_, H.dropped.nd, H.la, H.lc, H.cel, H.st⟩
  · exact H.fr.ns.extBut e (Ne.symm z.2.1)
  · refine e b o (fun q => ?_) (H.fr.keep b o hb)
    subst q
    have z2 : D.h₀.get? p.1 = none := z.2.2
    rw [z2] at hb; cases hb
  · have zq := H.nw q (List.mem_cons_of_mem _ hq)
    exact ⟨e _ _ (H.off q hq) zq.1, zq.2⟩
theorem HRel.turnO (H : HRel G (D.hold p) as cs hp s) {h' : Heap} {o' : Obj} (tk : Nat) (e : Heap.SameBut p.1 s.heap h') (ho : h'.get? p.1 = some o') : HRel G (D.hold (p.1, o')) as cs hp { s with heap := h', toks := tk } := by
  have z := H.nw p (.head _)
  refine ⟨H.fr.change e z.2.1 z.2.2, fun q hq => ?_, H.nd, H.la, H.lc, H.cel, H.st⟩
  rcases List.mem_cons.mp hq with rfl | hq
  · exact ⟨ho, z.2⟩
  · have zq := H.nw q (List.mem_cons_of_mem _ hq)
    exact ⟨(e.2 _ (H.off q hq)).trans zq.1, zq.2⟩

theorem next_I {o : Obj} {I : Addr} {it : MIt} {r : Option (MV × MIt)} {Q : Option Value → Shared → Prop} {E : Value → Shared → Prop} {A : Around} (hh : A.handled = none) (H : HRel G (D.hold (I, o)) as cs hp s) (hi : ItO as it o) (hn : nextM it hp = some r)
    (h0 : r = none → ∀ s', HRel G D as cs hp s' → Q none s')
    (h1 : ∀ m it', r = some (m, it') → ∀ v o' s', VR as m v → ItO as it' o' → HRel G (D.hold (I, o')) as cs hp s' → Q (some v) s') : wpAny G.M A (pyNext (.ref I)) Q E s := by
  have ho : s.heap.get? I = some o := (H.nw (I, o) (.head _)).1
  cases it with
  | seq l i =>
    obtain ⟨a, ha, hc, hd⟩ := hi
    have hI : s.heap.IsListIter I a i := ⟨o, ho, hc, hd⟩
    replace hn := bind_some hn; obtain ⟨ms, hl, hn⟩ := hn
    replace hn := Option.some.inj hn
    obtain ⟨a', us, n, _, ha', q2, q3, q4, _⟩ := H.lstV (m := .loc l) ⟨a, ha, rfl⟩ rfl hl
    rw [ha] at ha'; cases ha'
    cases hm : ms[i]? with
    | some m =>
      rw [hm] at hn
      obtain ⟨v, hv, hr⟩ := q3.get hm
      refine wpAny_pyNext_list_item hI (isList_of q4) (Array.getElem?_toList.symm.trans hv) (fun h' hi' sb => ?_)
      obtain ⟨o', ho', hc', hd'⟩ := hi'
      exact h1 m _ hn.symm v o' _ hr ⟨a, ha, hc', hd'⟩ (H.turnO s.toks sb ho')
    | none =>
      rw [hm] at hn
      exact wpAny_pyNext_list_end hh hI (isList_of q4) (by rw [Array.getElem?_eq_none_iff, size_len q3]; exact List.getElem?_eq_none_iff.mp hm) (fun h' e => h0 hn.symm _ (H.ended s.toks e))
  | tup l i =>
    obtain ⟨a, ha, hc, hd⟩ := hi
    have hI : s.heap.IsTupleIter I a i := ⟨o, ho, hc, hd⟩
    replace hn := bind_some hn; obtain ⟨ms, hl, hn⟩ := hn
    replace hn := Option.some.inj hn
    obtain ⟨us, q3, ht⟩ : ∃ us : Array Value, VRs as ms us.toList ∧ s.heap.IsTuple a us := by
      obtain ⟨a', us, e, q3, q4⟩ := H.tupV (m := .loc l) ⟨a, ha, rfl⟩ rfl hl
      cases e; exact ⟨us, q3, q4⟩
    cases hm : ms[i]? with
    | some m =>
      rw [hm] at hn
      obtain ⟨v, hv, hr⟩ := q3.get hm
      refine wpAny_pyNext_tuple_item hI ht (Array.getElem?_toList.symm.trans hv) (fun h' hi' sb => ?_)
      obtain ⟨o', ho', hc', hd'⟩ := hi'
      exact h1 m _ hn.symm v o' _ hr ⟨a, ha, hc', hd'⟩ (H.turnO s.toks sb ho')
    | none =>
      rw [hm] at hn
      exact wpAny_pyNext_tuple_end hh hI ht (by rw [Array.getElem?_eq_none_iff, size_len q3]; exact List.getElem?_eq_none_iff.mp hm) (fun h' e => h0 hn.symm _ (H.ended s.toks e))
  | rng i n =>
    have hI : IsRangeIter s.heap I i ((n : Int) - i) 1 := by cases hi; exact ho
    replace hn := Option.some.inj hn
    by_cases hlt : i < n
    · rw [if_pos hlt] at hn
      refine wpAny_pyNext_range_item hI (by omega) (fun h' hi' sb => ?_)
      refine h1 _ _ hn.symm _ { cls := .type "range_iterator", data := .fields #[rawInt ((i + 1 : Nat) : Int), rawInt ((n : Int) - ((i + 1 : Nat) : Int)), rawInt 1] } _ ⟨_, rfl⟩ rfl (H.turnO (s.toks + 1) sb ?_)
      have e1 : (i : Int) + 1 = ((i + 1 : Nat) : Int) := by push_cast; rfl
      have e2 : (n : Int) - i - 1 = (n : Int) - ((i + 1 : Nat) : Int) := by push_cast; omega
      rw [← e2, ← e1]
      exact hi'
    · rw [if_neg hlt] at hn
      exact wpAny_pyNext_range_end hh hI (by omega) (fun h' e => h0 hn.symm _ (H.ended s.toks e))

noncomputable def itO (l : Nat) : MObj → Option (MIt × Nat)
  | .lst ms => some (.seq l 0, ms.length)
  | .tup ms => some (.tup l 0, ms.length)
  | .rng n => if n ≤ 1000 then some (.rng 0 n, n) else none
  | _ => none
noncomputable def mkIt (m : MV) (hp : MHeap) : Option (MIt × Nat) := (locOf m).bind fun l => (hp[l]?).bind (itO l)
theorem it_at {hp : MHeap} {l : Nat} {o : MObj} (h : hp[l]? = some o) : mkIt (.loc l) hp = itO l o := by
  show (hp[l]?).bind _ = _
  rw [h]; rfl
theorem small_range {n : Nat} (hc : n ≤ 1000) : Builtin.Range.rangeSize 0 (n : Int) 1 = (n : Int) ∧ Builtin.Range.small 0 (n : Int) 1 = true := by
  have hsz : Builtin.Range.rangeSize 0 (n : Int) 1 = (n : Int) := by
    unfold Builtin.Range.rangeSize
    rw [if_pos (by omega)]
    split
    · omega
    · omega
  refine ⟨hsz, ?_⟩
  unfold Builtin.Range.small
  rw [hsz]
  have f : ∀ x : Int, -5000 ≤ x → x ≤ 5000 → Builtin.Range.rangeFitsLong x = true := by
    intro x h1 h2
    unfold Builtin.Range.rangeFitsLong
    simp only [Bool.and_eq_true, decide_eq_true_eq]
    omega
  rw [f 0 (by omega) (by omega), f n (by omega) (by omega), f 1 (by omega) (by omega)]
  simp only [Bool.and_self, Bool.true_and, Bool.or_eq_true]
  right
  rw [if_pos (by omega)]
  exact f _ (by omega) (by omega)
theorem iter_I {m : MV} {v : Value} {r : MIt × Nat} {Q : Value → Shared → Prop} {E : Value → Shared → Prop} {A : Around} (H : HRel G D as cs hp s) (hv : VR as m v) (hn : mkIt m hp = some r)
    (h : ∀ I o s', ItO as r.1 o → HRel G (D.hold (I, o)) as cs hp s' → Q (.ref I) s') : wpAny G.M A (pyIter v) Q E s := by
  replace hn := bind_some hn; obtain ⟨l, h1, hn⟩ := hn
  replace hn := bind_some hn; obtain ⟨o, hl, hn⟩ := hn
  obtain ⟨a, ha, rfl⟩ := hv.loc h1
  obtain ⟨a', c, q1, q2, q3⟩ := H.cel _ _ hl
  rw [ha] at q1; cases q1
  clear hv h1 hl
  cases o with
  | lst ms =>
    cases hn
    obtain ⟨us, n, rfl, q3⟩ := q3
    exact wpAny_pyIter_list (isList_of (H.nw _ (mem_led (D := D) q2 (.head _))).1) (h _ _ _ ⟨a, ha, rfl, rfl⟩ (H.hold rfl))
  | tup ms =>
    cases hn
    obtain ⟨us, n, rfl, q3⟩ := q3
    exact wpAny_pyIter_tuple (show s.heap.IsTuple a us from isTup_of (H.nw _ (mem_led (D := D) q2 (.head _))).1) (h _ _ _ ⟨a, ha, rfl, rfl⟩ (H.hold rfl))
  | rng n =>
    replace hn := if_some hn; obtain ⟨hc, hn⟩ := hn
    cases hn
    obtain ⟨t, u, w, rfl⟩ := q3
    obtain ⟨hsz, hsm⟩ := small_range hc
    refine wpAny_pyIter_range (a := 0) (b := n) (c := 1) (H.nw _ (mem_led (D := D) q2 (.head _))).1 hsm ?_
    rw [hsz]
    exact h _ _ _ (show _ = _ by simp) (H.hold rfl)
  | _ => cases hn
end
end Mine
end

section
open PySem PySem.W PySem.Calls PyProof.Rows
set_option maxRecDepth 100000
namespace Mine

section
variable {G : Glo} {sc : Scope} {tbl : List Str} {d : Nat}

noncomputable abbrev AFun := MV → Locs → MHeap → Option (Locs × MHeap)
noncomputable def AsI (G : Glo) (sc : Scope) (tbl : List Str) (d : Nat) (t : Expr) (f : AFun) : Prop :=
  ∀ (D : Dyn) (loc : Locs) (hp : MHeap) (as : List Addr) (cs : List (List (Addr × Obj))) (s : Shared) (m : MV) (v : Value) (loc' : Locs) (hp' : MHeap) (Q : Unit → Shared → Prop) (E : Value → Shared → Prop),
    Ok G d D → D.env.scope = sc → D.env.locals = D.L → f m loc hp = some (loc', hp') → LocRel D as tbl loc → HRel G D as cs hp s → VR as m v →
    (∀ cs' mf' ce' s', ce'.map ck = D.ce.map ck → LocRel (D.turn mf' ce') as tbl loc' → HRel G (D.turn mf' ce') as cs' hp' s' → Q () s') →
    wpAny G.M D.A (assign t D.env v) Q E s
noncomputable def aVar (i : Nat) : AFun := fun m loc hp => (setV i m loc).bind fun l => some (l, hp)
theorem AsI.var {x : Str} {pos : Pos} (i : Nat) (hi : tbl[i]? = some x) (hn : tbl.Nodup) (hk : sc.names.lookup x = some .local) : AsI G sc tbl d (.Name x pos) (aVar i) := by
  intro D loc hp as cs s m v loc' hp' Q E ok hsc hL hf hl H hv post
  replace hf := bind_some hf; obtain ⟨l, h1, hf⟩ := hf
  cases hf
  exact PyProof.Rows.assign_Name (store_var ok hL hi hn (by rw [hsc]; exact hk) h1 hl H hv fun mf' s' L' H' => post cs mf' D.ce s' rfl L' H')

noncomputable def setCV (i : Nat) (m : MV) (loc : Locs) (hp : MHeap) : Option MHeap := match loc[i]? with
  | some (some (.loc l)) => match hp[l]? with
    | some (.cel _) => some (hp.set l (.cel (some m)))
    | _ => none
  | _ => none
theorem store_cell {D : Dyn} {loc : Locs} {hp hp' : MHeap} {as : List Addr} {cs : List (List (Addr × Obj))} {s : Shared} {i : Nat} {x : Str} {m : MV} {v : Value} {Q : Unit → Shared → Prop} {E : Value → Shared → Prop}
    (ok : Ok G d D) (hi : tbl[i]? = some x) (hk : D.env.scope.names.lookup x = some .cell) (hs : setCV i m loc hp = some hp') (hl : LocRel D as tbl loc) (H : HRel G D as cs hp s) (hv : VR as m v)
    (post : ∀ cs' s', HRel G D as cs' hp' s' → Q () s') : wpAny G.M D.A (storeName D.env x v) Q E s := by
  unfold setCV at hs
  split at hs
  · rename_i l hm
    split at hs
    · rename_i m0 hcel
      cases hs
      obtain ⟨x', w, hx, hw, hS⟩ := hl i _ hm
      rw [hi] at hx; cases hx
      have hk' : D.env.kindOf x = some .cell := hk
      rcases hS with ⟨e, k, hm'⟩ | ⟨k, o, m', ho, hn, hm'⟩ | ⟨k, c, hc', rfl⟩
      · rw [hk'] at k; cases k
      · rw [hk'] at k; cases k
      · obtain ⟨a, c', q1, q2, o, u, rfl, q3, q4⟩ := H.cel _ _ hcel
        obtain ⟨a', ha', e'⟩ := hw
        rw [q1] at ha'; cases ha'
        cases e'
        have z := (H.nw _ (mem_led (D := D) q2 (List.mem_singleton.mpr rfl))).1
        have hlt : l < hp.length := (List.getElem?_eq_some_iff.mp hcel).1
        refine wpAny_storeName_cell ok.ek hk' hc' ⟨o, z, q3⟩ (fun h' hcl sb => ?_)
        obtain ⟨o', ho', hd'⟩ := hcl
        exact post _ _ (H.put (a := c) (d := c) s.toks hlt q1 q2 (by simp) sb ho' ⟨o', some v, by simp [updA], hd', v, rfl, hv⟩)
    · cases hs
  · cases hs
noncomputable def aCV (i : Nat) : AFun := fun m loc hp => (setCV i m loc hp).bind fun h => some (loc, h)
theorem AsI.cvar {x : Str} {pos : Pos} (i : Nat) (hi : tbl[i]? = some x) (hk : sc.names.lookup x = some .cell) : AsI G sc tbl d (.Name x pos) (aCV i) := by
  intro D loc hp as cs s m v loc' hp' Q E ok hsc hL hf hl H hv post
  replace hf := bind_some hf; obtain ⟨h1, h2, hf⟩ := hf
  cases hf
  exact PyProof.Rows.assign_Name (store_cell ok hi (by rw [hsc]; exact hk) h2 hl H hv fun cs' s' H' => post cs' D.mf D.ce s' rfl hl H')

noncomputable def sCV (i : Nat) (f : EFun) : SFun := fun loc hp => (f loc hp).bind fun r => (setCV i r.1 loc r.2).bind fun h => some (.next, loc, h)
theorem StI.cvar {x : Str} {px pos : Pos} {e : Expr} {f : EFun} (i : Nat) (hi : tbl[i]? = some x) (hk : sc.names.lookup x = some .cell) (h : EvI G sc tbl d e f)
    (hs : ∀ env, swapsWith e (some (.Name x px)) pos.line env = pure false := by intro _; rfl) : StI G sc tbl d (.Assign [.Name x px] e pos) (sCV i f) := by
  intro D loc hp as cs s fl loc' hp' Q E ok hsc henv hL hf hl H post
  replace hf := bind_some hf; obtain ⟨⟨m, h1⟩, hm, hf⟩ := hf
  replace hf := bind_some hf; obtain ⟨h2, hh, hf⟩ := hf
  cases hf
  refine wpAny_Assign_Name (h D loc hp as cs s m _ _ _ ok hsc hm hl H fun v as1 cs1 s1 x1 r1 H1 => ?_) (hs _)
  exact store_cell ok hi (by rw [hsc]; exact hk) hh (hl.mono x1) H1 r1 fun cs' s' H' => post _ as1 cs' D.mf D.ce s' x1 rfl rfl (hl.mono x1) H'
noncomputable def AssI (G : Glo) (sc : Scope) (tbl : List Str) (d : Nat) : List Expr → List AFun → Prop
  | [], [] => True
  | t :: ts, f :: fs => AsI G sc tbl d t f ∧ AssI G sc tbl d ts fs
  | _, _ => False
noncomputable def goA : List AFun → List MV → Locs → MHeap → Option (Locs × MHeap)
  | [], [], loc, hp => some (loc, hp)
  | f :: fs, m :: ms, loc, hp => (f m loc hp).bind fun l => goA fs ms l.1 l.2
  | _, _, _, _ => none
noncomputable def aTup (fs : List AFun) : AFun := fun m loc hp => (locOf m).bind fun l => (tupAt hp l).bind fun ms => goA fs ms loc hp
theorem assigns {ts : List Expr} : ∀ {fs : List AFun} {ms : List MV} {vs : List Value} {D : Dyn} {loc : Locs} {hp : MHeap} {as : List Addr} {cs : List (List (Addr × Obj))} {s : Shared} {loc' : Locs} {hp' : MHeap} {Q : Unit → Shared → Prop} {E : Value → Shared → Prop},
    AssI G sc tbl d ts fs → Ok G d D → D.env.scope = sc → D.env.locals = D.L → goA fs ms loc hp = some (loc', hp') → LocRel D as tbl loc → HRel G D as cs hp s → VRs as ms vs →
    (∀ cs' mf' ce' s', ce'.map ck = D.ce.map ck → LocRel (D.turn mf' ce') as tbl loc' → HRel G (D.turn mf' ce') as cs' hp' s' → Q () s') →
    wpAny G.M D.A (assignInOrder (ts.map fun t => assign t D.env) vs) Q E s := by
  induction ts with
  | nil =>
    intro fs ms vs D loc hp as cs s loc' hp' Q E hA ok hsc hL hg hl H hv post
    cases fs with
    | nil =>
      cases ms with
      | nil => cases hv; cases hg; exact assignInOrder_nil (post cs D.mf D.ce s rfl hl H)
      | cons m ms => cases hg
    | cons f fs => exact hA.elim
  | cons t ts ih =>
    intro fs ms vs D loc hp as cs s loc' hp' Q E hA ok hsc hL hg hl H hv post
    cases fs with
    | nil => exact hA.elim
    | cons f fs =>
      cases ms with
      | nil => cases hg
      | cons m ms =>
        obtain ⟨v, r, rfl, hv1, hv2⟩ := hv
        replace hg := bind_some hg; obtain ⟨⟨l1, h1⟩, h2, hg⟩ := hg
        refine assignInOrder_cons (hA.1 D loc hp as cs s m v l1 h1 _ _ ok hsc hL h2 hl H hv1 fun cs' mf' ce' s' k L' H' => ?_)
        exact ih (D := D.turn mf' ce') hA.2 (ok.turn _ _ k) hsc hL hg L' H' hv2 fun cs2 mf2 ce2 s2 k2 L2 H2 => post cs2 mf2 ce2 s2 (k2.trans k) L2 H2
theorem AssI.len {ts : List Expr} : ∀ {fs : List AFun}, AssI G sc tbl d ts fs → ts.length = fs.length := by
  induction ts with
  | nil => intro fs h; cases fs with
    | nil => rfl
    | cons _ _ => exact h.elim
  | cons t ts ih => intro fs h; cases fs with
    | nil => exact h.elim
    | cons f fs => simp [ih h.2]
theorem goA_len {fs : List AFun} : ∀ {ms : List MV} {loc : Locs} {hp : MHeap} {r : Locs × MHeap}, goA fs ms loc hp = some r → fs.length = ms.length := by
  induction fs with
  | nil => intro ms loc hp r h; cases ms with
    | nil => rfl
    | cons _ _ => cases h
  | cons f fs ih => intro ms loc hp r h; cases ms with
    | nil => cases h
    | cons m ms =>
      obtain ⟨l1, _, hg⟩ := bind_some h
      exact congrArg (· + 1) (ih hg)
noncomputable def PlainEach (ts : List Expr) : Prop := ∀ env, assignEach ts env = ts.map fun t => (false, assign t env)
theorem AsI.tup {ts : List Expr} {k : Nat} {pos : Pos} {fs : List AFun} (h : AssI G sc tbl d ts fs) (hE : PlainEach ts := by intro _; rfl) : AsI G sc tbl d (.Tuple ts k pos) (aTup fs) := by
  intro D loc hp as cs s m v loc' hp' Q E ok hsc hL hf hl H hv post
  replace hf := bind_some hf; obtain ⟨l, h1, hf⟩ := hf
  replace hf := bind_some hf; obtain ⟨ms, hl', hf⟩ := hf
  obtain ⟨a, us, rfl, q3, q4⟩ := H.tupV hv h1 hl'
  refine wpAny_assign_Tuple ok.handled q4 ?_ ?_ (fun h' e => ?_)
  · rw [hE, List.length_map, h.len, goA_len hf, size_len q3]
  · rw [hE, List.findIdx?_eq_none_iff]
    intro x hx
    obtain ⟨t, _, rfl⟩ := List.mem_map.mp hx
    rfl
  · have em : (assignEach ts D.env).map (·.2) = ts.map fun t => assign t D.env := by rw [hE, List.map_map]; rfl
    rw [em]
    exact assigns h ok hsc hL hf hl (H.keeps s.toks fun b o hb => e b o (Nat.ne_of_lt (Heap.lt_size hb)) hb) q3 post

noncomputable def sUnp (fs : List AFun) (f : EFun) : SFun := fun loc hp => (f loc hp).bind fun r => (aTup fs r.1 loc r.2).bind fun l => some (.next, l.1, l.2)
theorem StI.unp {ts : List Expr} {k : Nat} {tpos pos : Pos} {e : Expr} {fs : List AFun} {f : EFun} (h : AssI G sc tbl d ts fs) (he : EvI G sc tbl d e f) (hE : PlainEach ts := by intro _; rfl)
    (h1 : ∀ env, swapsWithSole [.Tuple ts k tpos] e pos.line env = pure false := by intro _; rfl) (h2 : ∀ env : Env, env.scope = sc → swappedStores [.Tuple ts k tpos] e env = pure none := by intro _ _; rfl) : StI G sc tbl d (.Assign [.Tuple ts k tpos] e pos) (sUnp fs f) := by
  intro D loc hp as cs s fl loc' hp' Q E ok hsc henv hL hf hl H post
  replace hf := bind_some hf; obtain ⟨⟨m, h3⟩, hm, hf⟩ := hf
  replace hf := bind_some hf; obtain ⟨⟨l', h4⟩, hl', hf⟩ := hf
  cases hf
  refine Assign_Tuple (he D loc hp as cs s m _ _ _ ok hsc hm hl H fun v as1 cs1 s1 x1 r1 H1 => ?_) (h1 _) (h2 _ hsc)
  exact AsI.tup h hE D loc _ as1 cs1 s1 m v _ _ _ _ ok hsc hL hl' (hl.mono x1) H1 r1 fun cs' mf' ce' s' k' L' H' => post _ as1 cs' mf' ce' s' x1 rfl k' L' H'
end

noncomputable def forL (asg : AFun) (fb : SFun) : Nat → MIt → Locs → MHeap → Option (MFlow × Locs × MHeap)
  | n, it, loc, hp => (nextM it hp).bind fun r => match r with
    | none => some (.next, loc, hp)
    | some (m, it') => match n with
      | 0 => none
      | n + 1 => (asg m loc hp).bind fun l1 => (fb l1.1 l1.2).bind fun r => match r with
        | (.next, l, h) => forL asg fb n it' l h
        | (.cont, l, h) => forL asg fb n it' l h
        | (.brk, l, h) => some (.next, l, h)
        | (.ret v, l, h) => some (.ret v, l, h)
noncomputable def sFor (asg : AFun) (f : EFun) (fb : SFun) : SFun := fun loc hp => (f loc hp).bind fun r => (mkIt r.1 r.2).bind fun i => forL asg fb i.2 i.1 loc r.2

section
variable {G : Glo} {sc : Scope} {tbl : List Str} {d : Nat}
theorem owned_pure {M : Model} {A : Around} {s : Shared} {Q : Unit → Shared → Prop} {E : Value → Shared → Prop} {as : List Addr} {it : MIt} {I : Addr} {o : Obj} (ho : s.heap.get? I = some o) (hi : ItO as it o) (t : Expr) (v : Value) (q : Q () s) :
    wpAny M A (letOwnedTupleGo t (.ref I) v) Q E s := by
  have key : ∀ (a : Addr) (es : List Expr) (k : Nat) (p : Pos), wpAny M A (letOwnedTupleGo (.Tuple es k p) (.ref I) (.ref a)) Q E s := by
    intro a es k p
    obtain ⟨x, hd⟩ := hi.fields
    have hc := hi.tcls
    have no : ∀ y : Value, (["enumerate", "zip", "dict_itemiterator", "dict_reverseitemiterator", "odict_iterator", "itertools.zip_longest", "itertools.pairwise"].contains (ItO.tname it) && x[0]? == some y) = false := by
      intro y
      cases it <;> exact Bool.false_and _
    refine wpAny_bind (wpAny_load ho ?_)
    rw [hc, hd]
    dsimp only
    rw [no]
    exact wpAny_pure q
  cases t with
  | Tuple es k p => cases v with
    | ref a => exact key a es k p
    | _ => exact wpAny_pure q
  | List es p => cases v with
    | ref a => exact key a es 0 p
    | _ => exact wpAny_pure q
  | _ => exact wpAny_pure q
noncomputable abbrev ForInv (G : Glo) (D : Dyn) (as : List Addr) (tbl : List Str) (asg : AFun) (fb : SFun) (fl : MFlow) (loc' : Locs) (hp' : MHeap) (I : Addr) (n : Nat) (s' : Shared) : Prop :=
  ∃ (it : MIt) (o : Obj) (mf : Str → Option Value) (ce : List (Addr × Obj)) (l1 : Locs) (hp1 : MHeap) (as1 : List Addr) (cs1 : List (List (Addr × Obj))), Ext as as1 ∧ ItO as1 it o ∧ ce.map ck = D.ce.map ck ∧ forL asg fb n it l1 hp1 = some (fl, loc', hp') ∧ LocRel (D.turn mf ce) as1 tbl l1 ∧ HRel G ((D.turn mf ce).hold (I, o)) as1 cs1 hp1 s'
theorem for_loop {t : Expr} {body : List Stmt} {asg : AFun} {fb : SFun} {D : Dyn} {as : List Addr} {fl : MFlow} {loc' : Locs} {hp' : MHeap} {I : Addr} {R : Result → Shared → Prop} (ht : AsI G sc tbl d t asg) (hb : ExI G sc tbl d body fb) (ok : Ok G d D) (hsc : D.env.scope = sc) (henv : D.env = D.fenv) (hL : D.env.locals = D.L)
    (post : ∀ fv as' cs' mf' ce' s', Ext as as' → FlR as' fl fv → ce'.map ck = D.ce.map ck → LocRel (D.turn mf' ce') as' tbl loc' → HRel G (D.turn mf' ce') as' cs' hp' s' → R (.ok fv) s')
    {n : Nat} {s : Shared} (h : ForInv G D as tbl asg fb fl loc' hp' I n s) : codeAny G.M D.A (.forLoop t (.ref I) body [] D.env) R s := by
  refine codeAny_forLoop_any (ForInv G D as tbl asg fb fl loc' hp' I) ?_ n h
  clear h
  rintro n s' ⟨it, o, mf, ce, l1, hp1, as1, cs1, x1, hI, hk, hf, L1, H1⟩
  unfold forL at hf
  replace hf := bind_some hf; obtain ⟨r, hr, hf⟩ := hf
  refine next_I (D := D.turn mf ce) ok.handled H1 hI hr (fun e s2 H2 => ?_) (fun m it' e v o' s2 hv hI' H2 => ?_)
  · subst e
    cases hf
    exact wpAny_execs_nil (post _ as1 cs1 mf ce s2 x1 rfl hk L1 H2)
  · subst e
    cases n with
    | zero => cases hf
    | succ n =>
      replace hf := bind_some hf; obtain ⟨⟨l2, hp2⟩, hl2, hf⟩ := hf
      replace hf := bind_some hf; obtain ⟨⟨fl3, l3, hp3⟩, hb3, hf⟩ := hf
      refine owned_pure (H2.nw (I, o') (.head _)).1 hI' _ _ ?_
      have okh := (ok.turn mf ce hk).hold (I, o')
      refine ht ((D.turn mf ce).hold (I, o')) l1 hp1 as1 cs1 s2 m v l2 hp2 _ _ okh hsc hL hl2 (L1.hold _) H2 hv fun cs2 mf3 ce3 s3 k3 L3 H3 => ?_
      refine hb (((D.turn mf ce).hold (I, o')).turn mf3 ce3) l2 hp2 as1 cs2 s3 fl3 l3 hp3 _ _ (okh.turn _ _ k3) hsc henv hL hb3 L3 H3 fun fv as4 cs4 mf4 ce4 s4 x4 r4 k4 L4 H4 => ?_
      have kk := (k4.trans k3).trans hk
      have L4' : LocRel (D.turn mf4 ce4) as4 tbl l3 := LocRel.drop (D := D.turn mf4 ce4) (p := (I, o')) L4
      have H4' : HRel G ((D.turn mf4 ce4).hold (I, o')) as4 cs4 hp3 s4 := H4
      have go : forL asg fb n it' l3 hp3 = some (fl, loc', hp') → ∃ m, m < n + 1 ∧ ForInv G D as tbl asg fb fl loc' hp' I m s4 := fun hf => ⟨n, Nat.lt_succ_self n, it', o', mf4, ce4, l3, hp3, as4, cs4, x1.trans x4, hI'.mono x4, kk, hf, L4', H4'⟩
      cases fl3 with
      | next => cases r4; exact go hf
      | cont => cases r4; exact go hf
      | brk => cases r4; cases hf; exact post _ as4 cs4 mf4 ce4 s4 (x1.trans x4) rfl kk L4' H4'.dropped
      | ret w =>
        obtain ⟨v4, rfl, hv4⟩ := r4
        cases hf
        exact post _ as4 cs4 mf4 ce4 s4 (x1.trans x4) ⟨v4, rfl, hv4⟩ kk L4' H4'.dropped
theorem StI.for {t e : Expr} {body : List Stmt} {pos : Pos} {asg : AFun} {f : EFun} {fb : SFun} (ht : AsI G sc tbl d t asg) (he : EvI G sc tbl d e f) (hb : ExI G sc tbl d body fb)
    (hfo : ∀ env x, foldedSetIterable e env x = pure x := by intro _ _; rfl) : StI G sc tbl d (.For t e body [] pos) (sFor asg f fb) := by
  intro D loc hp as cs s fl loc' hp' Q E ok hsc henv hL hf hl H post
  replace hf := bind_some hf; obtain ⟨⟨m, h1⟩, hm, hf⟩ := hf
  replace hf := bind_some hf; obtain ⟨⟨it, n⟩, hi, hf⟩ := hf
  refine wpAny_For (he D loc hp as cs s m h1 _ _ ok hsc hm hl H fun v as1 cs1 s1 x1 r1 H1 => ?_) (hfo _)
  refine iter_I H1 r1 hi fun I o s2 hI H2 => ?_
  exact for_loop ht hb ok hsc henv hL post ⟨it, o, D.mf, D.ce, loc, h1, as1, cs1, x1, hI, rfl, hf, hl.mono x1, H2⟩

noncomputable def whL (t : TFun) (fb : SFun) : Nat → Locs → MHeap → Option (MFlow × Locs × MHeap)
  | n, loc, hp => (t loc hp).bind fun r => match r with
    | (false, h) => some (.next, loc, h)
    | (true, h) => match n with
      | 0 => none
      | n + 1 => (fb loc h).bind fun r => match r with
        | (.next, l, h) => whL t fb n l h
        | (.cont, l, h) => whL t fb n l h
        | (.brk, l, h) => some (.next, l, h)
        | (.ret v, l, h) => some (.ret v, l, h)
noncomputable abbrev WhInv (G : Glo) (D : Dyn) (as : List Addr) (tbl : List Str) (tf : TFun) (fb : SFun) (fl : MFlow) (loc' : Locs) (hp' : MHeap) (n : Nat) (s' : Shared) : Prop :=
  ∃ (mf : Str → Option Value) (ce : List (Addr × Obj)) (l1 : Locs) (hp1 : MHeap) (as1 : List Addr) (cs1 : List (List (Addr × Obj))), Ext as as1 ∧ ce.map ck = D.ce.map ck ∧ whL tf fb n l1 hp1 = some (fl, loc', hp') ∧ LocRel (D.turn mf ce) as1 tbl l1 ∧ HRel G (D.turn mf ce) as1 cs1 hp1 s'
theorem while_loop {t : Expr} {body : List Stmt} {tf : TFun} {fb : SFun} {D : Dyn} {as : List Addr} {fl : MFlow} {loc' : Locs} {hp' : MHeap} {R : Result → Shared → Prop} (ht : TsI G sc tbl d t tf) (hb : ExI G sc tbl d body fb) (ok : Ok G d D) (hsc : D.env.scope = sc) (henv : D.env = D.fenv) (hL : D.env.locals = D.L)
    (post : ∀ fv as' cs' mf' ce' s', Ext as as' → FlR as' fl fv → ce'.map ck = D.ce.map ck → LocRel (D.turn mf' ce') as' tbl loc' → HRel G (D.turn mf' ce') as' cs' hp' s' → R (.ok fv) s')
    {n : Nat} {s : Shared} (h : WhInv G D as tbl tf fb fl loc' hp' n s) : codeAny G.M D.A (.whileLoop t body [] D.env) R s := by
  refine codeAny_whileLoop (WhInv G D as tbl tf fb fl loc' hp') ?_ n h
  clear h
  rintro n s' ⟨mf, ce, l1, hp1, as1, cs1, x1, hk, hf, L1, H1⟩
  unfold whL at hf
  replace hf := bind_some hf; obtain ⟨⟨b, h2⟩, hr, hf⟩ := hf
  have ok1 := ok.turn mf ce hk
  refine ht (D.turn mf ce) l1 hp1 as1 cs1 s' b h2 _ _ ok1 hsc hr L1 H1 fun as2 cs2 s2 x2 H2 => ?_
  cases b with
  | false =>
    cases hf
    exact wpAny_execs_nil (post _ as2 cs2 mf ce s2 (x1.trans x2) rfl hk (L1.mono x2) H2)
  | true =>
    cases n with
    | zero => cases hf
    | succ n =>
      replace hf := bind_some hf; obtain ⟨⟨fl3, l3, hp3⟩, hb3, hf⟩ := hf
      rw [if_pos rfl]
      refine hb (D.turn mf ce) l1 h2 as2 cs2 s2 fl3 l3 hp3 _ _ ok1 hsc henv hL hb3 (L1.mono x2) H2 fun fv as4 cs4 mf4 ce4 s4 x4 r4 k4 L4 H4 => ?_
      have xx := (x1.trans x2).trans x4
      have go : whL tf fb n l3 hp3 = some (fl, loc', hp') → ∃ m, m < n + 1 ∧ WhInv G D as tbl tf fb fl loc' hp' m s4 := fun hf => ⟨n, Nat.lt_succ_self n, mf4, ce4, l3, hp3, as4, cs4, xx, k4.trans hk, hf, L4, H4⟩
      cases fl3 with
      | next => cases r4; exact go hf
      | cont => cases r4; exact go hf
      | brk => cases r4; cases hf; exact post _ as4 cs4 mf4 ce4 s4 xx rfl (k4.trans hk) L4 H4
      | ret w =>
        obtain ⟨v4, rfl, hv4⟩ := r4
        cases hf
        exact post _ as4 cs4 mf4 ce4 s4 xx ⟨v4, rfl, hv4⟩ (k4.trans hk) L4 H4
theorem StI.while {t : Expr} {body : List Stmt} {pos : Pos} {tf : TFun} {fb : SFun} (n : Nat) (ht : TsI G sc tbl d t tf) (hb : ExI G sc tbl d body fb) : StI G sc tbl d (.While t body [] pos) (whL tf fb n) := by
  intro D loc hp as cs s fl loc' hp' Q E ok hsc henv hL hf hl H post
  exact wpAny_While (while_loop ht hb ok hsc henv hL post ⟨D.mf, D.ce, loc, hp, as, cs, Ext.refl _, rfl, hf, hl, H⟩)

theorem ExI.stuck {st : List Stmt} : ExI G sc tbl d st (fun _ _ => none) := by
  intro D loc hp as cs s fl loc' hp' Q E ok hsc henv hL hf; cases hf
theorem StI.stuck {st : Stmt} : StI G sc tbl d st (fun _ _ => none) := by
  intro D loc hp as cs s fl loc' hp' Q E ok hsc henv hL hf; cases hf
theorem EvI.stuck {e : Expr} : EvI G sc tbl d e (fun _ _ => none) := by
  intro D loc hp as cs s mv hp' Q E ok hsc hf; cases hf
end
end Mine
end

section
open PySem PySem.W PySem.Calls PyProof.Rows
set_option maxRecDepth 100000
namespace Mine

noncomputable def mapO (f : MV → Option PyData) : List MV → Option (List PyData)
  | [] => some []
  | m :: ms => (f m).bind fun d => (mapO f ms).bind fun ds => some (d :: ds)
noncomputable def flatD : MV → Option PyData
  | .none => some .none
  | .bool b => some (.bool b)
  | .int i => some (.int i)
  | .str x => if PyData.canLay0 (.str x) = true then some (.str x) else none
  | _ => none
noncomputable def seqD (f : MV → Option PyData) : MObj → Option PyData
  | .tup ms => (mapO f ms).bind fun ds => some (.tuple ds)
  | .lst ms => (mapO f ms).bind fun ds => some (.list ds)
  | _ => none
noncomputable def locD (hp : MHeap) (f : MV → Option PyData) (m : MV) : Option PyData := match locOf m with
  | some l => (hp[l]?).bind (seqD f)
  | none => flatD m
noncomputable def dataOf : Nat → MHeap → MV → Option PyData
  | 0, _ => flatD
  | n + 1, hp => locD hp (dataOf n hp)
theorem data_int (n : Nat) (hp : MHeap) (i : Int) : dataOf n hp (.int i) = some (.int i) := by cases n <;> rfl
theorem data_str (n : Nat) (hp : MHeap) {x : Str} (h : PyData.canLay0 (.str x) = true) : dataOf n hp (.str x) = some (.str x) := by cases n <;> exact if_pos h
theorem data_at {n : Nat} {hp : MHeap} {l : Nat} {o : MObj} (h : hp[l]? = some o) : dataOf (n + 1) hp (.loc l) = seqD (dataOf n hp) o := by
  show (hp[l]?).bind _ = _
  rw [h]; rfl
theorem data_tup {n : Nat} {hp : MHeap} {l : Nat} {ms : List MV} {ds : List PyData} (h : hp[l]? = some (.tup ms)) (e : mapO (dataOf n hp) ms = some ds) : dataOf (n + 1) hp (.loc l) = some (.tuple ds) := by
  rw [data_at h]
  show (mapO _ ms).bind _ = _
  rw [e]; rfl
theorem data_lst {n : Nat} {hp : MHeap} {l : Nat} {ms : List MV} {ds : List PyData} (h : hp[l]? = some (.lst ms)) (e : mapO (dataOf n hp) ms = some ds) : dataOf (n + 1) hp (.loc l) = some (.list ds) := by
  rw [data_at h]
  show (mapO _ ms).bind _ = _
  rw [e]; rfl
theorem locD_some {hp : MHeap} {f : MV → Option PyData} {m : MV} {d : PyData} (h : locD hp f m = some d) : (∃ l o, m = .loc l ∧ hp[l]? = some o ∧ seqD f o = some d) ∨ flatD m = some d := by
  unfold locD at h
  cases e : locOf m with
  | none => rw [e] at h; exact .inr h
  | some l =>
    rw [e] at h
    obtain ⟨o, h1, h2⟩ := bind_some h
    exact .inl ⟨l, o, locOf_some e, h1, h2⟩
theorem seqD_some {f : MV → Option PyData} {o : MObj} {d : PyData} (h : seqD f o = some d) : ∃ ms ds, mapO f ms = some ds ∧ ((o = .tup ms ∧ d = .tuple ds) ∨ (o = .lst ms ∧ d = .list ds)) := by
  cases o with
  | tup ms => obtain ⟨ds, h1, h2⟩ := bind_some h; cases h2; exact ⟨ms, ds, h1, .inl ⟨rfl, rfl⟩⟩
  | lst ms => obtain ⟨ds, h1, h2⟩ := bind_some h; cases h2; exact ⟨ms, ds, h1, .inr ⟨rfl, rfl⟩⟩
  | _ => cases h
noncomputable def dDepth : Nat := 6

section
variable {G : Glo} {D : Dyn} {as : List Addr} {cs : List (List (Addr × Obj))} {hp : MHeap} {s : Shared}
theorem flat_reads {h : Heap} {m : MV} {v : Value} {d : PyData} (hd : flatD m = some d) (r : VR as m v) : ∃ bs, Reads h v d bs := by
  cases m with
  | none => cases hd; cases r; exact ⟨_, .none⟩
  | bool b => cases hd; cases r; exact ⟨_, .bool _⟩
  | int i => cases hd; obtain ⟨t, rfl⟩ := r; exact ⟨_, .int _ _⟩
  | str x => replace hd := (if_some hd).2; cases hd; obtain ⟨t, rfl⟩ := r; exact ⟨_, .str _ _⟩
  | _ => cases hd
theorem flat_lay {m : MV} {d : PyData} {n : Nat} (hd : flatD m = some d) : d.canLay0 = true ∧ d.depth ≤ n := by
  cases m with
  | none => cases hd; exact ⟨rfl, Nat.zero_le _⟩
  | bool b => cases hd; exact ⟨rfl, Nat.zero_le _⟩
  | int i => cases hd; exact ⟨rfl, Nat.zero_le _⟩
  | str x => replace hd := if_some hd; obtain ⟨hs, hd⟩ := hd; cases hd; exact ⟨hs, Nat.zero_le _⟩
  | _ => cases hd
theorem reads_all {n : Nat} (ih : ∀ (m : MV) (v : Value) (d : PyData), dataOf n hp m = some d → VR as m v → ∃ bs, Reads s.heap v d bs) {ms : List MV} :
    ∀ {vs : List Value} {ds : List PyData}, mapO (dataOf n hp) ms = some ds → VRs as ms vs → ∃ bs, ReadsAll s.heap vs ds bs := by
  induction ms with
  | nil => intro vs ds h r; cases h; cases r; exact ⟨[], .nil⟩
  | cons m ms ih2 =>
    rintro _ ds h ⟨v, r, rfl, a, b⟩
    replace h := bind_some h; obtain ⟨d, hd, h⟩ := h
    replace h := bind_some h; obtain ⟨ds, hds, h⟩ := h
    cases h
    obtain ⟨b1, h1⟩ := ih m v d hd a
    obtain ⟨b2, h2⟩ := ih2 hds b
    exact ⟨b1 ++ b2, .cons h1 h2⟩
theorem reads_of (H : HRel G D as cs hp s) {n : Nat} : ∀ (m : MV) (v : Value) (d : PyData), dataOf n hp m = some d → VR as m v → ∃ bs, Reads s.heap v d bs := by
  induction n with
  | zero => intro m v d h r; exact flat_reads h r
  | succ n ih =>
    intro m v d h r
    rcases locD_some h with ⟨l, o, rfl, hl, h⟩ | h
    · obtain ⟨ms, ds, hds, ⟨rfl, rfl⟩ | ⟨rfl, rfl⟩⟩ := seqD_some h
      · obtain ⟨a, us, k, q1, q2, q3, q4⟩ := H.tup hl
        cases r.at rfl q1
        obtain ⟨bs, hb⟩ := reads_all ih hds q3
        exact ⟨_, Reads.tuple q4 rfl rfl hb⟩
      · obtain ⟨a, us, k, q1, q2, q3, q4⟩ := H.lst hl
        cases r.at rfl q1
        obtain ⟨bs, hb⟩ := reads_all ih hds q3
        exact ⟨_, Reads.list q4 rfl rfl hb⟩
    · exact flat_reads h r
theorem lay_all {n : Nat} (ih : ∀ (m : MV) (d : PyData), dataOf n hp m = some d → d.canLay0 = true ∧ d.depth ≤ n) {ms : List MV} :
    ∀ {ds : List PyData}, mapO (dataOf n hp) ms = some ds → PyData.canLayAll0 ds = true ∧ PyData.depthAll ds ≤ n := by
  induction ms with
  | nil => intro ds h; cases h; exact ⟨rfl, Nat.zero_le _⟩
  | cons m ms ih2 =>
    intro ds h
    replace h := bind_some h; obtain ⟨d, hd, h⟩ := h
    replace h := bind_some h; obtain ⟨ds, hds, h⟩ := h
    cases h
    obtain ⟨a, b⟩ := ih m d hd
    obtain ⟨a', b'⟩ := ih2 hds
    refine ⟨?_, Nat.max_le.mpr ⟨b, b'⟩⟩
    show (PyData.canLay0 d && PyData.canLayAll0 ds) = true
    rw [a, a']; rfl
theorem lay_of {n : Nat} : ∀ (m : MV) (d : PyData), dataOf n hp m = some d → d.canLay0 = true ∧ d.depth ≤ n := by
  induction n with
  | zero => intro m d h; exact flat_lay h
  | succ n ih =>
    intro m d h
    rcases locD_some h with ⟨l, o, rfl, hl, h⟩ | h
    · obtain ⟨ms, ds, hds, q⟩ := seqD_some h
      obtain ⟨a, b⟩ := lay_all ih hds
      rcases q with ⟨rfl, rfl⟩ | ⟨rfl, rfl⟩
      · exact ⟨a, Nat.succ_le_succ b⟩
      · exact ⟨a, Nat.succ_le_succ b⟩
    · exact flat_lay h
theorem shaped_of {m : MV} {d : PyData} (h : dataOf dDepth hp m = some d) : SeqAt.shaped d = true := by
  obtain ⟨a, b⟩ := lay_of m d h
  unfold dDepth at b
  unfold SeqAt.shaped
  rw [a, Bool.true_and, decide_eq_true_eq]
  omega
end

noncomputable def oEq : O2 := fun a b hp => (dataOf dDepth hp a).bind fun x => (dataOf dDepth hp b).bind fun y => some (.bool (PyData.eqv x y), hp)
noncomputable def oNe : O2 := fun a b hp => (dataOf dDepth hp a).bind fun x => (dataOf dDepth hp b).bind fun y => some (.bool (!PyData.eqv x y), hp)
noncomputable def elems : PyData → Option (List PyData)
  | .list ys => some ys
  | .tuple ys => some ys
  | _ => none
noncomputable def lstD : PyData → Option (List PyData)
  | .list ys => some ys
  | _ => none
theorem elems_some {d : PyData} {ys : List PyData} (h : elems d = some ys) : d = .list ys ∨ d = .tuple ys := by
  cases d with
  | list ys => cases h; exact .inl rfl
  | tuple ys => cases h; exact .inr rfl
  | _ => cases h
theorem lstD_some {d : PyData} {ys : List PyData} (h : lstD d = some ys) : d = .list ys := by
  cases d with
  | list ys => cases h; rfl
  | _ => cases h
noncomputable def inD (a b : MV) (hp : MHeap) : Option Bool := (dataOf dDepth hp a).bind fun x => (dataOf (dDepth + 1) hp b).bind fun y => (elems y).bind fun ys => some (ys.any fun z => PyData.eqv z x)
noncomputable def oIn : O2 := fun a b hp => (inD a b hp).bind fun r => some (.bool r, hp)
noncomputable def inL (a b : MV) (hp : MHeap) : Option Bool := (dataOf dDepth hp a).bind fun x => (dataOf (dDepth + 1) hp b).bind fun y => (lstD y).bind fun ys => some (ys.any fun z => PyData.eqv z x)
noncomputable def oNotIn : O2 := fun a b hp => (inL a b hp).bind fun r => some (.bool !r, hp)
noncomputable def refOf : MV → Option Addr
  | .gv (.ref u) => some u
  | _ => none
theorem refOf_some {m : MV} {u : Addr} (h : refOf m = some u) : m = .gv (.ref u) := by
  cases m with
  | gv v => cases v <;> first | (cases h; rfl) | cases h
  | _ => cases h
noncomputable def oInK (t : Addr) (ys : List PyData) : O2 := fun a b hp => (refOf b).bind fun u => if u = t then (dataOf dDepth hp a).bind fun x => some (.bool (ys.any fun z => PyData.eqv z x), hp) else none
noncomputable def iLe : O2 := onInts fun a b hp => some (.bool (decide (a ≤ b)), hp)
noncomputable def iPow : O2 := onInts fun a n hp => if 0 ≤ n ∧ n ≤ 100 ∧ Builtin.Int.intBits a ≤ 100 then some (.int (a ^ n.toNat), hp) else none

section
variable {G : Glo} {sc : Scope} {tbl : List Str} {d : Nat}
theorem Ok.room {D : Dyn} (ok : Ok G d D) : D.A.units + 64 < cLine := by have := ok.units; omega
theorem Op2I.eq : Op2I G (compareOp .Eq) oEq := by
  intro D hp as cs s a b va vb r hp' Q E ok hf ha hb H post
  replace hf := bind_some hf; obtain ⟨x, hx, hf⟩ := hf
  replace hf := bind_some hf; obtain ⟨y, hy, hf⟩ := hf
  cases hf
  obtain ⟨b1, r1⟩ := reads_of H a va x hx ha
  obtain ⟨b2, r2⟩ := reads_of H b vb y hy hb
  exact eq_dataH r1 r2 (shaped_of hx) (shaped_of hy) ok.room (post _ as cs _ (Ext.refl _) rfl H)
theorem Op2I.ne : Op2I G (compareOp .NotEq) oNe := by
  intro D hp as cs s a b va vb r hp' Q E ok hf ha hb H post
  replace hf := bind_some hf; obtain ⟨x, hx, hf⟩ := hf
  replace hf := bind_some hf; obtain ⟨y, hy, hf⟩ := hf
  cases hf
  obtain ⟨b1, r1⟩ := reads_of H a va x hx ha
  obtain ⟨b2, r2⟩ := reads_of H b vb y hy hb
  exact ne_dataH r1 r2 (shaped_of hx) (shaped_of hy) ok.room (post _ as cs _ (Ext.refl _) rfl H)
theorem Op2I.in : Op2I G (compareOp .In) oIn := by
  intro D hp as cs s a b va vb r hp' Q E ok hf ha hb H post
  replace hf := bind_some hf; obtain ⟨c, hc, hf⟩ := hf
  cases hf
  replace hc := bind_some hc; obtain ⟨x, hx, hc⟩ := hc
  replace hc := bind_some hc; obtain ⟨y, hy, hc⟩ := hc
  obtain ⟨b1, r1⟩ := reads_of H a va x hx ha
  obtain ⟨b2, r2⟩ := reads_of H b vb y hy hb
  have hu := ok.units
  obtain ⟨l1, l2⟩ := lay_of a x hx
  obtain ⟨k1, k2⟩ := lay_of b y hy
  unfold dDepth at l2 k2
  replace hc := bind_some hc; obtain ⟨ys, hy2, hc⟩ := hc
  cases hc
  have room : ∀ k : Nat, min k (PyData.depth x) ≤ 6 := fun k => Nat.le_trans (Nat.min_le_right _ _) l2
  rcases elems_some hy2 with rfl | rfl
  · exact SeqAt.in_list_reads r2 r1 k1 l1 (by have := room (PyData.depthAll ys); omega) (post _ as cs _ (Ext.refl _) rfl H)
  · exact SeqAt.in_tuple_reads r2 r1 k1 l1 (by have := room (PyData.depthAll ys); omega) (post _ as cs _ (Ext.refl _) rfl H)
theorem Op2I.notIn : Op2I G (compareOp .NotIn) oNotIn := by
  intro D hp as cs s a b va vb r hp' Q E ok hf ha hb H post
  replace hf := bind_some hf; obtain ⟨c, hc, hf⟩ := hf
  cases hf
  replace hc := bind_some hc; obtain ⟨x, hx, hc⟩ := hc
  replace hc := bind_some hc; obtain ⟨y, hy, hc⟩ := hc
  obtain ⟨b1, r1⟩ := reads_of H a va x hx ha
  obtain ⟨b2, r2⟩ := reads_of H b vb y hy hb
  have hu := ok.units
  obtain ⟨l1, l2⟩ := lay_of a x hx
  obtain ⟨k1, k2⟩ := lay_of b y hy
  unfold dDepth at l2 k2
  replace hc := bind_some hc; obtain ⟨ys, hy2, hc⟩ := hc
  cases hc
  cases lstD_some hy2
  exact SeqAt.notIn_list_reads r2 r1 k1 l1 (by have := Nat.min_le_right (PyData.depthAll ys) (PyData.depth x); omega) (post _ as cs _ (Ext.refl _) rfl H)
theorem Op2I.inK {t : Addr} {ys : List PyData} (hr : ∀ h, G.K.In h → ∃ bs, Reads h (.ref t) (.tuple ys) bs) (hy : PyData.canLayAll0 ys = true) : Op2I G (compareOp .In) (oInK t ys) := by
  intro D hp as cs s a b va vb r hp' Q E ok hf ha hb H post
  replace hf := bind_some hf; obtain ⟨u, hu', hf⟩ := hf
  replace hf := if_some hf; obtain ⟨rfl, hf⟩ := hf
  replace hf := bind_some hf; obtain ⟨x, hx, hf⟩ := hf
  cases hf
  rw [refOf_some hu'] at hb
  obtain ⟨rfl, _⟩ := hb
  obtain ⟨b1, r1⟩ := reads_of H a va x hx ha
  obtain ⟨b2, r2⟩ := hr _ (ok.kin.keeps H.fr.keep)
  have hu := ok.units
  obtain ⟨l1, l2⟩ := lay_of a x hx
  unfold dDepth at l2
  exact SeqAt.in_tuple_reads r2 r1 hy l1 (by have := Nat.min_le_right (PyData.depthAll ys) (PyData.depth x); omega) (post _ as cs _ (Ext.refl _) rfl H)
theorem Op2I.le : Op2I G (compareOp .LtE) iLe := by
  intro D hp as cs s a b va vb r hp' Q E ok hf ha hb H post
  unfold iLe at hf
  replace hf := onInts_some hf
  obtain ⟨x, y, rfl, rfl, hf⟩ := hf
  cases hf
  obtain ⟨t, rfl⟩ := ha; obtain ⟨u, rfl⟩ := hb
  exact le_int (post _ as cs _ (Ext.refl _) rfl H)
theorem Op2I.pow : Op2I G (binaryOp .Pow) iPow := by
  intro D hp as cs s a b va vb r hp' Q E ok hf ha hb H post
  unfold iPow at hf
  replace hf := onInts_some hf
  obtain ⟨x, y, rfl, rfl, hf⟩ := hf
  split at hf
  · rename_i hc
    cases hf
    obtain ⟨t, rfl⟩ := ha; obtain ⟨u, rfl⟩ := hb
    refine pow_int hc.1 ?_ (post _ as cs _ (Ext.refl _) ⟨_, rfl⟩ (H.toks _))
    have h1 : ((Builtin.Int.intBits _ : Nat) : Int) ≤ 100 := Int.ofNat_le.mpr hc.2.2
    have h2 := hc.2.1
    have h3 := hc.1
    have := Int.mul_le_mul h1 h2 h3 (by omega)
    omega
  · cases hf
theorem Op1I.not : Op1I G (unaryOp .Not) oNot := by
  intro D hp as cs s a va r hp' Q E ok hf ha H post
  replace hf := bind_some hf; obtain ⟨b, hb, hf⟩ := hf
  cases hf
  exact not_of (truthy_mv ha hb (post _ as cs _ (Ext.refl _) rfl H))
theorem EvI.or {a b : Expr} {pos : Pos} {f g : EFun} (hf : EvI G sc tbl d a f) (hg : EvI G sc tbl d b g) : EvI G sc tbl d (.BoolOp .Or [a, b] pos) (eOr f g) := by
  intro D loc hp as cs s mv hp' Q E ok hsc hfu hlo H post
  replace hfu := bind_some hfu; obtain ⟨⟨m, h1⟩, hm, hfu⟩ := hfu
  replace hfu := bind_some hfu; obtain ⟨c, hc, hfu⟩ := hfu
  refine BoolOp_or (hf D loc hp as cs s m h1 _ _ ok hsc hm hlo H fun v1 as1 cs1 s1 x1 r1 H1 => truthy_mv r1 hc ?_)
  cases c with
  | false => exact BoolOp_one (hg D loc h1 as1 cs1 s1 mv hp' _ _ ok hsc hfu (hlo.mono x1) H1 fun v as' cs' s' x2 v2 H2 => post v as' cs' s' (x1.trans x2) v2 H2)
  | true => cases hfu; exact post v1 as1 cs1 s1 x1 r1 H1

noncomputable def tChain (o₁ o₂ : O2) (f g h : EFun) : TFun := fun loc hp => (f loc hp).bind fun r => (g loc r.2).bind fun q => (o₁ r.1 q.1 q.2).bind fun c => (tOf c.1).bind fun b => match b with
  | true => (h loc c.2).bind fun z => (o₂ q.1 z.1 z.2).bind fun e => (tOf e.1).bind fun b => some (b, e.2)
  | false => some (false, c.2)
theorem TsI.chain {l r₁ r₂ : Expr} {op₁ op₂ : CmpOp} {pos : Pos} {o₁ o₂ : O2} {f g h : EFun} (hf : EvI G sc tbl d l f) (hg : EvI G sc tbl d r₁ g) (hh : EvI G sc tbl d r₂ h) (ho₁ : Op2I G (compareOp op₁) o₁) (ho₂ : Op2I G (compareOp op₂) o₂)
    (hm : lastMarks [op₁, op₂] [r₁, r₂] = false := by rfl) : TsI G sc tbl d (.Compare l [op₁, op₂] [r₁, r₂] pos) (tChain o₁ o₂ f g h) := by
  intro D loc hp as cs s b hp' Q E ok hsc hfu hlo H post
  replace hfu := bind_some hfu; obtain ⟨⟨a1, h1⟩, e1, hfu⟩ := hfu
  replace hfu := bind_some hfu; obtain ⟨⟨a2, h2⟩, e2, hfu⟩ := hfu
  replace hfu := bind_some hfu; obtain ⟨⟨a3, h3⟩, e3, hfu⟩ := hfu
  replace hfu := bind_some hfu; obtain ⟨c, hc, hfu⟩ := hfu
  have ok0 := ok.less (Nat.zero_le d)
  refine isTrue_chain (hf D loc hp as cs s a1 h1 _ _ ok hsc e1 hlo H fun v1 as1 cs1 s1 x1 r1 H1 => ?_) hm
  refine test_link (hg D loc h1 as1 cs1 s1 a2 h2 _ _ ok hsc e2 (hlo.mono x1) H1 fun v2 as2 cs2 s2 x2 r2 H2 => ?_)
  refine ho₁ D h2 as2 cs2 s2 a1 a2 v1 v2 a3 h3 _ _ ok0 e3 (r1.mono x2) r2 H2 fun v3 as3 cs3 s3 x3 r3 H3 => ?_
  have x123 := (x1.trans x2).trans x3
  refine truthy_mv r3 hc ?_
  cases c with
  | false => cases hfu; exact post as3 cs3 s3 x123 H3
  | true =>
    replace hfu := bind_some hfu; obtain ⟨⟨a4, h4⟩, e4, hfu⟩ := hfu
    replace hfu := bind_some hfu; obtain ⟨⟨a5, h5⟩, e5, hfu⟩ := hfu
    replace hfu := bind_some hfu; obtain ⟨c', hc', hfu⟩ := hfu
    cases hfu
    rw [if_pos rfl]
    refine test_last (hh D loc h3 as3 cs3 s3 a4 h4 _ _ ok hsc e4 (hlo.mono x123) H3 fun v4 as4 cs4 s4 x4 r4 H4 => ?_)
    refine ho₂ D h4 as4 cs4 s4 a2 a4 v2 v4 a5 h5 _ _ ok0 e5 (r2.mono (x3.trans x4)) r4 H4 fun v5 as5 cs5 s5 x5 r5 H5 => ?_
    exact truthy_mv r5 hc' (post as5 cs5 s5 ((x123.trans x4).trans x5) H5)

noncomputable def tyOf : MV → Option String
  | .gv (.type T) => some T
  | _ => none
theorem tyOf_some {m : MV} {T : String} (h : tyOf m = some T) : m = .gv (.type T) := by
  cases m with
  | gv v => cases v <;> first | (cases h; rfl) | cases h
  | _ => cases h
noncomputable def isiA (T : String) (hp : MHeap) : MV → Option Bool
  | .int _ => if T = "int" then some true else if T = "tuple" then some false else if T = "str" then some false else none
  | .loc l => (tupAt hp l).bind fun _ => if T = "tuple" then some true else none
  | _ => none
noncomputable def fIsi : List MV → MHeap → Option (MV × MHeap) := fun vs hp => (two? vs).bind fun p => (tyOf p.2).bind fun T => (isiA T hp p.1).bind fun b => some (.bool b, hp)
theorem ClI.isi : ClI G d (.builtin "isinstance") fIsi := by
  intro D hp as cs s mvs vs mv hp' Q E ok hF r H post
  replace hF := bind_some hF; obtain ⟨⟨m, m'⟩, h1, hF⟩ := hF
  replace hF := bind_some hF; obtain ⟨T, h2, hF⟩ := hF
  replace hF := bind_some hF; obtain ⟨b, hb, hF⟩ := hF
  cases hF
  obtain ⟨v, w, rfl, hv, hw⟩ := r.two? h1
  rw [tyOf_some h2] at hw
  obtain ⟨rfl, _⟩ := hw
  clear r h1 h2
  cases m with
  | int i =>
    obtain ⟨t, rfl⟩ := hv
    replace hb : (if T = "int" then some true else if T = "tuple" then some false else if T = "str" then some false else none) = some b := hb
    by_cases e : T = "int"
    · rw [if_pos e] at hb; cases hb; subst e; exact IsiPair.int_int (post _ as cs _ (Ext.refl _) rfl H)
    · rw [if_neg e] at hb
      by_cases e : T = "tuple"
      · rw [if_pos e] at hb; cases hb; subst e; exact IsiPair.int_tuple (post _ as cs _ (Ext.refl _) rfl (H.toks _))
      · rw [if_neg e] at hb
        replace hb := if_some hb; obtain ⟨e, hb⟩ := hb
        cases hb; subst e; exact IsiPair.int_str (post _ as cs _ (Ext.refl _) rfl (H.toks _))
  | loc l =>
    replace hb := bind_some hb; obtain ⟨ms, hl, hb⟩ := hb
    replace hb := if_some hb; obtain ⟨e, hb⟩ := hb
    cases hb; subst e
    obtain ⟨a, us, k, q1, q2, q3, q4⟩ := H.tup (tupAt_some hl)
    cases hv.at rfl q1
    exact IsiPair.tuple_tuple q4 rfl (post _ as cs _ (Ext.refl _) rfl H)
  | _ => cases hb
end
end Mine
end

section
open PySem PySem.W PySem.Calls PyProof.Rows
set_option maxRecDepth 100000
namespace Mine

noncomputable def dPut (ks : List (Int × MV)) (k : Int) (m : MV) : List (Int × MV) :=
  if ks.any (fun kv => decide (kv.1 = k)) then ks.map (fun kv => if kv.1 = k then (kv.1, m) else kv) else ks ++ [(k, m)]
noncomputable def dCut (ks : List (Int × MV)) (k : Int) : List (Int × MV) := ks.filter fun kv => decide (kv.1 ≠ k)

section
variable {as : List Addr}
theorem KR.any {p : Int → Bool} {ks : List (Int × MV)} : ∀ {kv : List (Int × Value)}, KR as ks kv → (kv.any fun q => p q.1) = (ks.any fun q => p q.1) := by
  induction ks with
  | nil => intro kv r; cases r; rfl
  | cons q ks ih => rintro _ ⟨_, _, rfl, _, b⟩; rw [List.any_cons, List.any_cons, ih b]
theorem KR.app {ks ks' : List (Int × MV)} {kv' : List (Int × Value)} (k : KR as ks' kv') : ∀ {kv : List (Int × Value)}, KR as ks kv → KR as (ks ++ ks') (kv ++ kv') := by
  induction ks with
  | nil => intro kv r; cases r; exact k
  | cons q ks ih => rintro _ ⟨v, r, rfl, a, b⟩; exact ⟨v, r ++ _, rfl, a, ih b⟩
theorem KR.rep {k : Int} {m : MV} {v : Value} (hv : VR as m v) {ks : List (Int × MV)} : ∀ {kv : List (Int × Value)}, KR as ks kv → KR as (ks.map (fun kv => if kv.1 = k then (kv.1, m) else kv)) (kv.map (fun kv => if kv.1 = k then (kv.1, v) else kv)) := by
  induction ks with
  | nil => intro kv r; cases r; rfl
  | cons q ks ih =>
    rintro _ ⟨_, r, rfl, a, b⟩
    rw [List.map_cons, List.map_cons]
    by_cases h : q.1 = k
    · rw [if_pos h, if_pos h]; exact ⟨v, _, rfl, hv, ih b⟩
    · rw [if_neg h, if_neg h]; exact ⟨_, _, rfl, a, ih b⟩
theorem KR.put {k : Int} {m : MV} {v : Value} {ks : List (Int × MV)} {kv : List (Int × Value)} (hv : VR as m v) (r : KR as ks kv) : KR as (dPut ks k m) (stored kv k v) := by
  unfold dPut stored
  rw [r.any (p := fun i => decide (i = k))]
  cases ks.any fun q => decide (q.1 = k) with
  | true => exact KR.rep hv r
  | false => exact KR.app (ks' := [(k, m)]) ⟨v, [], rfl, hv, rfl⟩ r
theorem KR.cut {k : Int} {ks : List (Int × MV)} : ∀ {kv : List (Int × Value)}, KR as ks kv → KR as (dCut ks k) (without kv k) := by
  induction ks with
  | nil => intro kv r; cases r; rfl
  | cons q ks ih =>
    rintro _ ⟨_, r, rfl, a, b⟩
    replace ih := ih b
    unfold dCut without at ih ⊢
    rw [List.filter_cons, List.filter_cons]
    dsimp only
    cases decide (q.1 ≠ k) with
    | true => exact ⟨_, _, rfl, a, ih⟩
    | false => exact ih
theorem KR.len {ks : List (Int × MV)} : ∀ {kv : List (Int × Value)}, KR as ks kv → kv.length = ks.length := by
  induction ks with
  | nil => intro kv r; cases r; rfl
  | cons q ks ih => rintro _ ⟨_, _, rfl, _, b⟩; exact congrArg (· + 1) (ih b)
end

section
variable {G : Glo} {D : Dyn} {as : List Addr} {cs : List (List (Addr × Obj))} {hp : MHeap} {s : Shared}
theorem HRel.dct (H : HRel G D as cs hp s) {l : Nat} {ks : List (Int × MV)} (h : hp[l]? = some (.dct ks)) :
    ∃ a o kv, as[l]? = some a ∧ cs[l]? = some [(a, o)] ∧ o.IsDictOf (intKind G.prog G.w) kv ∧ KR as ks kv ∧ s.heap.get? a = some o ∧ s.heap.DictOf (intKind G.prog G.w) a kv ∧ (a, o) ∈ D.led cs := by
  obtain ⟨a, c, h1, h2, o, kv, rfl, h3, h4⟩ := H.cel l _ h
  have hm := mem_led (D := D) h2 (List.mem_singleton.mpr rfl)
  have hg := (H.nw _ hm).1
  exact ⟨a, o, kv, h1, h2, h3, h4, hg, Heap.dictOf_iff.mpr ⟨o, hg, h3⟩, hm⟩
theorem HRel.low (H : HRel G D as cs hp s) (X : G.K.In D.h₀) (hs : (G.K.lookup sysModules).isSome = true) {p : Addr × Obj} (hp : p ∈ D.led cs) : (p.1 == sysModules) = false := by
  obtain ⟨o, ho⟩ := Option.isSome_iff_exists.mp hs
  have := X _ _ ho
  rw [beq_eq_false_iff_ne]
  intro e
  have z := (H.nw p hp).2.2
  rw [e, this] at z
  cases z
theorem updF_of {d : Addr} {o : Obj} {l : List (Addr × Obj)} (h : (d, o) ∈ l) (n : (l.map (·.1)).Nodup) : UpdF d o l (fun o' => updA d o' l) := by
  induction l with
  | nil => cases h
  | cons p r ih =>
    have n' := List.nodup_cons.mp (show (p.1 :: r.map (·.1)).Nodup from n)
    by_cases e : p = (d, o)
    · subst e
      have off : ∀ q ∈ r, q.1 ≠ d := fun q hq z => n'.1 (List.mem_map.mpr ⟨q, hq, z⟩)
      have : (fun o' => updA d o' ((d, o) :: r)) = fun o' => (d, o') :: r := by
        funext o'
        show (if (d, o).1 = d then (d, o') else (d, o)) :: updA d o' r = _
        rw [if_pos rfl, updA_off off]
      rw [this]
      exact .head off
    · have hr : (d, o) ∈ r := (List.mem_cons.mp h).resolve_left (Ne.symm e)
      have ne : p.1 ≠ d := fun z => n'.1 (z ▸ List.mem_map_of_mem (f := (·.1)) hr)
      have : (fun o' => updA d o' (p :: r)) = fun o' => p :: updA d o' r := by
        funext o'
        show (if p.1 = d then (d, o') else p) :: updA d o' r = _
        rw [if_neg ne]
      rw [this]
      exact .tail ne (ih hr n'.2)
end

noncomputable def eDct : EFun := fun _ hp => some (.loc hp.length, hp ++ [.dct []])
noncomputable def fGet1 : List MV → MHeap → Option (MV × MHeap) := fun vs hp => (two? vs).bind fun p => (locOf p.1).bind fun l => (intOf p.2).bind fun k => (dctAt hp l).bind fun ks => some ((dGet ks k).getD .none, hp)
noncomputable def fGet2 : List MV → MHeap → Option (MV × MHeap) := fun vs hp => (three? vs).bind fun p => (locOf p.1).bind fun l => (intOf p.2.1).bind fun k => (dctAt hp l).bind fun ks => some ((dGet ks k).getD p.2.2, hp)
noncomputable def fDPop : List MV → MHeap → Option (MV × MHeap) := fun vs hp => (two? vs).bind fun p => (locOf p.1).bind fun l => (intOf p.2).bind fun k => (dctAt hp l).bind fun ks =>
  if ks.length ≤ cap then (dGet ks k).bind fun m => some (m, hp.set l (.dct (dCut ks k))) else none
noncomputable def oNotInD : O2 := fun a b hp => (intOf a).bind fun k => (locOf b).bind fun l => (dctAt hp l).bind fun ks => some (.bool (!(dGet ks k).isSome), hp)
noncomputable def oInD : O2 := fun a b hp => (intOf a).bind fun k => (locOf b).bind fun l => (dctAt hp l).bind fun ks => some (.bool (dGet ks k).isSome, hp)
section
variable {G : Glo} {sc : Scope} {tbl : List Str} {d : Nat}
theorem isInt_key {prog : Program} {w : World} {k : Int} {t : Tok} : (intKind prog w).is k (.int k t) = true := by simp [intKind, Value.isInt]

theorem EvI.dct {pos : Pos} : EvI G sc tbl d (.Dict [] [] pos) eDct := by
  intro D loc hp as cs s mv hp' Q E ok hsc hf hl H post
  cases hf
  refine Dict_empty_made2 H.fr H.nw (modules_low ok.top.nolimit) (fun h' o F N lo _ _ hd _ _ => ?_)
  exact post _ _ _ _ (Ext.app as [s.heap.objs.size]) (VR.last H) (H.new1 s.toks F N ⟨o, [], rfl, hd, rfl⟩)
theorem KR.valD {as : List Addr} {k : Int} {ks : List (Int × MV)} {kv : List (Int × Value)} {m : MV} {v : Value} (r : KR as ks kv) (h : VR as m v) : VR as ((dGet ks k).getD m) ((valueAt kv k).getD v) := by
  cases e : dGet ks k with
  | none => rw [r.miss e]; exact h
  | some m => obtain ⟨v, hv, hr⟩ := r.get e; rw [hv]; exact hr
theorem KR.valS {as : List Addr} {k : Int} {ks : List (Int × MV)} {kv : List (Int × Value)} (r : KR as ks kv) : (valueAt kv k).isSome = (dGet ks k).isSome := by
  cases e : dGet ks k with
  | none => rw [r.miss e]; rfl
  | some m => obtain ⟨v, hv, hr⟩ := r.get e; rw [hv]; rfl
theorem HRel.dctV {D : Dyn} {as : List Addr} {cs : List (List (Addr × Obj))} {hp : MHeap} {s : Shared} (H : HRel G D as cs hp s) {m : MV} {v : Value} {l : Nat} {ks : List (Int × MV)} (r : VR as m v) (e : locOf m = some l) (h : dctAt hp l = some ks) :
    ∃ a o kv, v = .ref a ∧ as[l]? = some a ∧ cs[l]? = some [(a, o)] ∧ o.IsDictOf (intKind G.prog G.w) kv ∧ KR as ks kv ∧ s.heap.DictOf (intKind G.prog G.w) a kv ∧ (a, o) ∈ D.led cs ∧ l < hp.length := by
  have hl := dctAt_some h
  obtain ⟨a, o, kv, q1, q2, q3, q4, q5, q6⟩ := H.dct hl
  exact ⟨a, o, kv, r.at e q1, q1, q2, q3, q4, q6.1, q6.2, (List.getElem?_eq_some_iff.mp hl).1⟩
theorem ClI.get1 (hs : (G.K.lookup sysModules).isSome = true) : ClI G d (.builtin "dict.get") fGet1 := by
  intro D hp as cs s mvs vs mv hp' Q E ok hF r H post
  replace hF := bind_some hF; obtain ⟨p, h1, hF⟩ := hF
  replace hF := bind_some hF; obtain ⟨l, h2, hF⟩ := hF
  replace hF := bind_some hF; obtain ⟨k, h3, hF⟩ := hF
  replace hF := bind_some hF; obtain ⟨ks, hl, hF⟩ := hF
  cases hF
  obtain ⟨v, w, rfl, hv, hw⟩ := r.two? h1
  obtain ⟨t, rfl⟩ := hw.int h3
  obtain ⟨a, o, kv, rfl, _, _, q3, q4, _, q7, _⟩ := H.dctV hv h2 hl
  have fin := q4.valD (k := k) (m := .none) (v := .none) rfl
  refine kdg_get1 H.nw q7 q3 (H.low ok.kin hs q7) isInt_key _ rfl ?_
  cases e : valueAt kv k with
  | none => rw [e] at fin; exact post _ as cs _ (Ext.refl _) fin (H.toks _)
  | some m => rw [e] at fin; exact post _ as cs _ (Ext.refl _) fin (H.toks _)
theorem ClI.get2 (hs : (G.K.lookup sysModules).isSome = true) : ClI G d (.builtin "dict.get") fGet2 := by
  intro D hp as cs s mvs vs mv hp' Q E ok hF r H post
  replace hF := bind_some hF; obtain ⟨p, h1, hF⟩ := hF
  replace hF := bind_some hF; obtain ⟨l, h2, hF⟩ := hF
  replace hF := bind_some hF; obtain ⟨k, h3, hF⟩ := hF
  replace hF := bind_some hF; obtain ⟨ks, hl, hF⟩ := hF
  cases hF
  obtain ⟨v, w, u, rfl, hv, hw, hu⟩ := r.three? h1
  obtain ⟨t, rfl⟩ := hw.int h3
  obtain ⟨a, o, kv, rfl, _, _, q3, q4, _, q7, _⟩ := H.dctV hv h2 hl
  have fin := q4.valD (k := k) hu
  refine kdg_get2 H.nw q7 q3 (H.low ok.kin hs q7) isInt_key _ rfl ?_
  cases e : valueAt kv k with
  | none => rw [e] at fin; exact post _ as cs _ (Ext.refl _) fin (H.toks _)
  | some m => rw [e] at fin; exact post _ as cs _ (Ext.refl _) fin (H.toks _)
theorem ClI.dpop (hargs : ∀ a b, argsOk "dict.pop" ⟨[a, b], []⟩) : ClI G d (.builtin "dict.pop") fDPop := by
  intro D hp as cs s mvs vs mv hp' Q E ok hF r H post
  replace hF := bind_some hF; obtain ⟨p, h1, hF⟩ := hF
  replace hF := bind_some hF; obtain ⟨l, h2, hF⟩ := hF
  replace hF := bind_some hF; obtain ⟨k, h3, hF⟩ := hF
  replace hF := bind_some hF; obtain ⟨ks, hl, hF⟩ := hF
  replace hF := if_some hF; obtain ⟨hc, hF⟩ := hF
  replace hF := bind_some hF; obtain ⟨m, hm, hF⟩ := hF
  cases hF
  obtain ⟨v, w, rfl, hv, hw⟩ := r.two? h1
  obtain ⟨t, rfl⟩ := hw.int h3
  obtain ⟨a, o, kv, rfl, ha, q2, q3, q4, _, q7, hlt⟩ := H.dctV hv h2 hl
  obtain ⟨v, hv, hr⟩ := q4.get hm
  exact kob_pop H.fr H.nw (updF_of q7 H.nd) q3 isInt_key (.inl rfl) rfl (hargs _ _) hv (small hc q4.len) (fun h' o' F N hd' =>
    post _ as _ _ (Ext.refl _) hr (H.putN (a := a) (d := a) (s.toks + 1) hlt ha q2 (.head _) F N ⟨o', without kv k, congrArg (· :: _) (if_pos rfl), hd', q4.cut⟩))
theorem Op2I.notInD (hs : (G.K.lookup sysModules).isSome = true) : Op2I G (compareOp .NotIn) oNotInD := by
  intro D hp as cs s a b va vb r hp' Q E ok hf ha hb H post
  replace hf := bind_some hf; obtain ⟨k, h1, hf⟩ := hf
  replace hf := bind_some hf; obtain ⟨l, h2, hf⟩ := hf
  replace hf := bind_some hf; obtain ⟨ks, hl, hf⟩ := hf
  cases hf
  obtain ⟨t, rfl⟩ := ha.int h1
  obtain ⟨a, o, kv, rfl, _, _, q3, q4, _, q7, _⟩ := H.dctV hb h2 hl
  have fin := q4.valS (k := k)
  refine kdg_notin H.nw q7 q3 (H.low ok.kin hs q7) isInt_key _ rfl ?_
  cases e : valueAt kv k with
  | none => rw [e] at fin; exact post _ as cs _ (Ext.refl _) (by rw [← fin]; rfl) (H.toks _)
  | some m => rw [e] at fin; exact post _ as cs _ (Ext.refl _) (by rw [← fin]; rfl) (H.toks _)

noncomputable def setO (k : Int) (v : MV) : MObj → Option MObj
  | .lst ms => if 0 ≤ k ∧ k < 2 ^ 63 ∧ k < ms.length then some (.lst (ms.set k.toNat v)) else none
  | .dct ks => if ks.length ≤ cap then some (.dct (dPut ks k v)) else none
  | _ => none
noncomputable def setAt (o i v : MV) (hp : MHeap) : Option MHeap := (locOf o).bind fun l => (intOf i).bind fun k => (hp[l]?).bind fun o => (setO k v o).bind fun o => some (hp.set l o)
theorem setL_of {v : Value} {l : List Value} : ∀ {i : Nat}, i < l.length → ki_setL l i v = some (l.set i v) := by
  induction l with
  | nil => intro i h; exact absurd h (Nat.not_lt_zero _)
  | cons x r ih =>
    intro i h
    cases i with
    | zero => rfl
    | succ i =>
      show (match ki_setL r i v with | some q => some (x :: q) | none => none) = _
      rw [ih (Nat.lt_of_succ_lt_succ h)]
      rfl
theorem setItem_I {D : Dyn} {as : List Addr} {cs : List (List (Addr × Obj))} {hp hp' : MHeap} {s : Shared} {o i m : MV} {vo vi v : Value} {Q : Unit → Shared → Prop} {E : Value → Shared → Prop} {A : Around}
    (hf : setAt o i m hp = some hp') (ro : VR as o vo) (ri : VR as i vi) (rv : VR as m v) (H : HRel G D as cs hp s)
    (post : ∀ cs' s', HRel G D as cs' hp' s' → Q () s') : wpAny G.M A (setItem vo vi v) Q E s := by
  replace hf := bind_some hf; obtain ⟨l, h1, hf⟩ := hf
  replace hf := bind_some hf; obtain ⟨k, h2, hf⟩ := hf
  replace hf := bind_some hf; obtain ⟨ob, hl, hf⟩ := hf
  replace hf := bind_some hf; obtain ⟨ob', hk, hf⟩ := hf
  cases hf
  obtain ⟨a, ha, rfl⟩ := ro.loc h1
  obtain ⟨t, rfl⟩ := ri.int h2
  have hlt : l < hp.length := (List.getElem?_eq_some_iff.mp hl).1
  obtain ⟨a', c, q1, q2, q3⟩ := H.cel _ _ hl
  rw [ha] at q1; cases q1
  clear ro ri h1 h2 hl
  cases ob with
  | lst ms =>
    obtain ⟨hk', e⟩ := if_some hk
    cases e
    obtain ⟨us, n, rfl, q3⟩ := q3
    have hz : k.toNat < us.toList.length := by rw [q3.len]; have := hk'.2.2; have := hk'.1; omega
    exact ki_set H.fr H.nw hk'.1 hk'.2.1 (setL_of hz) (upd_of (mem_led (D := D) q2 (.head _)) H.nd) (fun h' F N =>
      post _ _ (H.putN (a := a) (d := a) s.toks hlt ha q2 (.head _) F N ⟨(us.toList.set k.toNat v).toArray, n, congrArg (· :: _) (if_pos rfl), q3.set rv⟩))
  | dct ks =>
    obtain ⟨hc, e⟩ := if_some hk
    cases e
    obtain ⟨o, kv, rfl, q3, q4⟩ := q3
    have hD : s.heap.DictOf (intKind G.prog G.w) a kv := Heap.dictOf_iff.mpr ⟨o, (H.nw _ (mem_led (D := D) q2 (.head _))).1, q3⟩
    refine wpAny_setItem_pairs (k := k) isInt_key hD (fun h' hd sb => ?_) (small hc q4.len)
    obtain ⟨o', ho', hd'⟩ := Heap.dictOf_iff.mp hd
    exact post _ _ (H.put (a := a) (d := a) (s.toks + 1) hlt ha q2 (.head _) sb ho' ⟨o', stored kv k v, congrArg (· :: _) (if_pos rfl), hd', q4.put rv⟩)
  | _ => cases hk
noncomputable def sSetI (f g h : EFun) : SFun := fun loc hp => (f loc hp).bind fun r => (g loc r.2).bind fun q => (h loc q.2).bind fun z => (setAt q.1 z.1 r.1 z.2).bind fun h => some (.next, loc, h)
theorem StI.setI {o i v : Expr} {pos pos' : Pos} {f g h : EFun} (hv : EvI G sc tbl d v f) (ho : EvI G sc tbl d o g) (hi : EvI G sc tbl d i h)
    (hs : ∀ env, swapsWith v (some (.Subscript o i pos')) pos.line env = pure false := by intro _; rfl) : StI G sc tbl d (.Assign [.Subscript o i pos'] v pos) (sSetI f g h) := by
  intro D loc hp as cs s fl loc' hp' Q E ok hsc henv hL hf hl H post
  replace hf := bind_some hf; obtain ⟨⟨m, h1⟩, hm, hf⟩ := hf
  replace hf := bind_some hf; obtain ⟨⟨a, h2⟩, ha, hf⟩ := hf
  replace hf := bind_some hf; obtain ⟨⟨b, h3⟩, hb, hf⟩ := hf
  replace hf := bind_some hf; obtain ⟨h4, hh, hf⟩ := hf
  cases hf
  refine wpAny_Assign_Subscript (hv D loc hp as cs s m h1 _ _ ok hsc hm hl H fun vv as1 cs1 s1 x1 r1 H1 => ?_) (hs _)
  refine ho D loc h1 as1 cs1 s1 a h2 _ _ ok hsc ha (hl.mono x1) H1 fun ov as2 cs2 s2 x2 r2 H2 => ?_
  have x12 := x1.trans x2
  refine hi D loc h2 as2 cs2 s2 b h3 _ _ ok hsc hb (hl.mono x12) H2 fun iv as3 cs3 s3 x3 r3 H3 => ?_
  exact setItem_I hh (r2.mono x3) r3 (r1.mono (x2.trans x3)) H3 fun cs4 s4 H4 => post _ as3 cs4 D.mf D.ce s4 (x12.trans x3) rfl rfl (hl.mono (x12.trans x3)) H4

noncomputable def sAug (i : Nat) (Cs : List Addr) (f g : EFun) : SFun := fun loc hp => (f loc hp).bind fun r => (aGet i Cs r.1 r.2).bind fun q => (g loc q.2).bind fun z => (intOf q.1).bind fun a => (intOf z.1).bind fun b => (aSet i Cs r.1 (.int (a + b)) z.2).bind fun h => some (.next, loc, h)
theorem StI.aug {e v : Expr} {x : Str} {pos pos' : Pos} {f g : EFun} (i : Nat) (Cs : List Addr) (hx : G.atn[i]? = some x) (hG : (Cs.all fun C => okGet G.K C x) = true) (hC : (Cs.all fun C => okSet G.K C x) = true)
    (he : EvI G sc tbl d e f) (hv : EvI G sc tbl d v g) : StI G sc tbl d (.AugAssign (.Attribute e x pos') .Add v pos) (sAug i Cs f g) := by
  intro D loc hp as cs s fl loc' hp' Q E ok hsc henv hL hf hl H post
  replace hf := bind_some hf; obtain ⟨⟨o, h1⟩, ho, hf⟩ := hf
  replace hf := bind_some hf; obtain ⟨⟨m, h2⟩, hm, hf⟩ := hf
  replace hf := bind_some hf; obtain ⟨⟨n, h3⟩, hn, hf⟩ := hf
  refine wpAny_AugAssign_AttributeAny (he D loc hp as cs s o h1 _ _ ok hsc ho hl H fun ov as1 cs1 s1 x1 r1 H1 => ?_)
  refine getAttr_I hx hG ok hm r1 H1 fun mv as2 cs2 s2 x2 r2 H2 => ?_
  have x12 := x1.trans x2
  refine hv D loc h2 as2 cs2 s2 n h3 _ _ ok hsc hn (hl.mono x12) H2 fun nv as3 cs3 s3 x3 r3 H3 => ?_
  replace hf := bind_some hf; obtain ⟨a, ha, hf⟩ := hf
  replace hf := bind_some hf; obtain ⟨b, hb, hf⟩ := hf
  replace hf := bind_some hf; obtain ⟨h4, hh, hf⟩ := hf
  cases hf
  obtain ⟨t, rfl⟩ := (r2.mono x3).int ha
  obtain ⟨u, rfl⟩ := r3.int hb
  have x123 := x12.trans x3
  exact iadd_int (setAttr_I (s := { s3 with toks := s3.toks + 1 }) hx hC ok hh ((r1.mono x2).mono x3) ⟨_, rfl⟩ (H3.toks _) fun cs4 s4 H4 => post _ as3 cs4 D.mf D.ce s4 x123 rfl rfl (hl.mono x123) H4)

noncomputable def goR (is : List Nat) (ms : List MV) (loc : Locs) : Option Locs := match is, ms with
  | [], [] => some loc
  | i :: is, m :: ms => (setV i m loc).bind fun l => goR is ms l
  | _, _ => none
noncomputable def sSwp (is : List Nat) (f : EFun) : SFun := fun loc hp => (f loc hp).bind fun r => (locOf r.1).bind fun l => (tupAt r.2 l).bind fun ms =>
  if ms.length = is.length then (goR is.reverse ms.reverse loc).bind fun l => some (.next, l, r.2) else none
noncomputable def NamesAt (sc : Scope) (tbl : List Str) : List Nat → List Str → Prop
  | [], [] => True
  | i :: is, x :: xs => (tbl[i]? = some x ∧ sc.names.lookup x = some .local) ∧ NamesAt sc tbl is xs
  | _, _ => False
theorem NamesAt.len {is : List Nat} : ∀ {xs : List Str}, NamesAt sc tbl is xs → is.length = xs.length := by
  induction is with
  | nil => intro xs h; cases xs with
    | nil => rfl
    | cons _ _ => exact h.elim
  | cons i is ih => intro xs h; cases xs with
    | nil => exact h.elim
    | cons x xs => exact congrArg (· + 1) (ih h.2)
theorem NamesAt.app {js : List Nat} {ys : List Str} (k : NamesAt sc tbl js ys) {is : List Nat} : ∀ {xs : List Str}, NamesAt sc tbl is xs → NamesAt sc tbl (is ++ js) (xs ++ ys) := by
  induction is with
  | nil => intro xs h; cases xs with
    | nil => exact k
    | cons _ _ => exact h.elim
  | cons i is ih => intro xs h; cases xs with
    | nil => exact h.elim
    | cons x xs => exact ⟨h.1, ih h.2⟩
theorem NamesAt.rev {is : List Nat} : ∀ {xs : List Str}, NamesAt sc tbl is xs → NamesAt sc tbl is.reverse xs.reverse := by
  induction is with
  | nil => intro xs h; cases xs with
    | nil => trivial
    | cons _ _ => exact h.elim
  | cons i is ih => intro xs h; cases xs with
    | nil => exact h.elim
    | cons x xs =>
      rw [List.reverse_cons, List.reverse_cons]
      exact NamesAt.app (js := [i]) (ys := [x]) ⟨h.1, trivial⟩ (ih h.2)
theorem VRs.rev {as : List Addr} {ms : List MV} : ∀ {vs : List Value}, VRs as ms vs → VRs as ms.reverse vs.reverse := by
  induction ms with
  | nil => intro vs r; cases r; rfl
  | cons m ms ih =>
    rintro _ ⟨v, r, rfl, a, b⟩
    rw [List.reverse_cons, List.reverse_cons]
    exact (ih b).app (VRs.one a)
theorem stores {xs : List Str} : ∀ {is : List Nat} {ms : List MV} {vs : List Value} {D : Dyn} {loc : Locs} {hp : MHeap} {as : List Addr} {cs : List (List (Addr × Obj))} {s : Shared} {loc' : Locs} {Q : Unit → Shared → Prop} {E : Value → Shared → Prop},
    NamesAt sc tbl is xs → tbl.Nodup → Ok G d D → D.env.scope = sc → D.env.locals = D.L → goR is ms loc = some loc' → LocRel D as tbl loc → HRel G D as cs hp s → VRs as ms vs →
    (∀ mf' ce' s', ce'.map ck = D.ce.map ck → LocRel (D.turn mf' ce') as tbl loc' → HRel G (D.turn mf' ce') as cs hp s' → Q () s') →
    wpAny G.M D.A (assignInOrder (xs.map fun n => bindName D.env n) vs) Q E s := by
  induction xs with
  | nil =>
    intro is ms vs D loc hp as cs s loc' Q E hA hn ok hsc hL hg hl H hv post
    cases is with
    | nil =>
      cases ms with
      | nil => cases hv; cases hg; exact assignInOrder_nil (post D.mf D.ce s rfl hl H)
      | cons m ms => cases hg
    | cons f fs => exact hA.elim
  | cons x xs ih =>
    intro is ms vs D loc hp as cs s loc' Q E hA hn ok hsc hL hg hl H hv post
    cases is with
    | nil => exact hA.elim
    | cons i is =>
      cases ms with
      | nil => cases hg
      | cons m ms =>
        obtain ⟨v, r, rfl, hv1, hv2⟩ := hv
        replace hg := bind_some hg; obtain ⟨l1, h1, hg⟩ := hg
        refine assignInOrder_cons (bindName_ (store_var ok hL hA.1.1 hn (by rw [hsc]; exact hA.1.2) h1 hl H hv1 fun mf' s' L' H' => ?_))
        exact ih (D := D.turn mf' D.ce) hA.2 hn (ok.turn _ _ rfl) hsc hL hg L' H' hv2 fun mf2 ce2 s2 k2 L2 H2 => post mf2 ce2 s2 k2 L2 H2
theorem StI.swp {ts : List Expr} {k : Nat} {tpos pos : Pos} {e : Expr} {f : EFun} {xs : List Str} (is : List Nat) (hx : NamesAt sc tbl is xs) (hn : tbl.Nodup) (he : EvI G sc tbl d e f)
    (h1 : ∀ env, swapsWithSole [.Tuple ts k tpos] e pos.line env = pure false := by intro _; rfl) (h2 : ∀ env : Env, env.scope = sc → swappedStores [.Tuple ts k tpos] e env = pure (some xs)) : StI G sc tbl d (.Assign [.Tuple ts k tpos] e pos) (sSwp is f) := by
  intro D loc hp as cs s fl loc' hp' Q E ok hsc henv hL hf hl H post
  replace hf := bind_some hf; obtain ⟨⟨m, h3⟩, hm, hf⟩ := hf
  replace hf := bind_some hf; obtain ⟨l, hlo, hf⟩ := hf
  replace hf := bind_some hf; obtain ⟨ms, hl', hf⟩ := hf
  replace hf := if_some hf; obtain ⟨hlen, hf⟩ := hf
  replace hf := bind_some hf; obtain ⟨l', hl2, hf⟩ := hf
  cases hf
  refine Assign_Tuple_swapped (he D loc hp as cs s _ _ _ _ ok hsc hm hl H fun v as1 cs1 s1 x1 r1 H1 => ?_) (h1 _) (h2 _ hsc)
  obtain ⟨a, us, rfl, q3, q4⟩ := H1.tupV r1 hlo hl'
  rw [show xs.length = us.size by rw [← hx.len, ← hlen, size_len q3]]
  exact wpAny_unpackItems_tuple ok.handled q4 (fun h' e =>
    stores hx.rev hn ok hsc hL hl2 (hl.mono x1) (H1.keeps s1.toks fun b o hb => e b o (Nat.ne_of_lt (Heap.lt_size hb)) hb) q3.rev fun mf' ce' s' k' L' H' => post _ as1 cs1 mf' ce' s' x1 rfl k' L' H')

theorem ClI.cls {C fI : Addr} {F : List MV → MHeap → Option (MV × MHeap)} (hm : makesIn G.K C = true) (hi : findIn G.K (.ref C) "__init__" = some (some (.ref fI))) (hf : isFn G.K (.ref fI) = true) (h : FnI G d fI F) :
    ClI G (d + 1) (.ref C) (fun mvs hp => (F (.loc hp.length :: mvs) (hp ++ [.inst C []])).bind fun r => match r.1 with | .none => some (.loc hp.length, r.2) | _ => none) := by
  intro D hp as cs s mvs vs mv hp' Q E ok hF r H post
  replace hF := bind_some hF; obtain ⟨⟨m, h1⟩, hm1, hF⟩ := hF
  dsimp only at hF
  split at hF
  · cases hF
    refine call_cls H.fr ok.kin H.nw hm hi hf (fun x dx h' F' N' lt ltx => ?_)
    have H' : HRel G D (as ++ [x]) (cs ++ [[(x, instObj C dx), (dx, dictOf [] 0)]]) (hp ++ [.inst C []]) { s with heap := h', toks := s.toks } := by
      refine H.grow s.toks F' N' ?_ ?_ ⟨dx, [], 0, rfl, rfl⟩
      · simpa using (Nat.ne_of_gt ltx : x ≠ dx)
      · intro p hp q hq e
        have q1 := lt q hq
        rcases List.mem_cons.mp hp with rfl | hp
        · have e2 : q.1 = x := e
          exact Nat.lt_irrefl _ (Nat.lt_trans (e2 ▸ q1) ltx)
        · rw [List.mem_singleton] at hp; subst hp; exact Nat.lt_irrefl _ (e ▸ q1)
    have xE := Ext.app as [x]
    refine h D _ (hp ++ [.inst C []]) (as ++ [x]) (cs ++ [[(x, instObj C dx), (dx, dictOf [] 0)]]) _ (.loc hp.length :: mvs) (.ref x :: vs) _ _ _ (ok.less (Nat.zero_le _)) ?_ ok.handled (by have := ok.depth; show D.A.depth + 1 + d < _; omega) (by have := ok.units; show D.A.units + 1 + 8 * d + 200 < _; omega) hm1 (VRs.cons (VR.last H) (r.mono xE)) H' fun v as2 cs2 s2 x2 r2 H2 => ?_
    · unfold Around.under
      dsimp only
      rw [ok.frames]
      rfl
    · cases r2
      exact ⟨rfl, post _ as2 cs2 s2 (xE.trans x2) ((VR.last H).mono x2) H2⟩
  · cases hF
end
end Mine
end

section
open PySem PySem.W PySem.Calls PyProof.Rows PyProof.Rows.LCg
set_option maxRecDepth 100000
namespace Mine

noncomputable def relS (cs sc : Scope) : Scope :=
  { cs with names := cs.names.map fun (n, k) => if (k == .free && sc.kind == .function && sc.names.lookup n == some .cell) then (n, .cell) else (n, k) }
theorem relS_eq (cs : Scope) (env : Env) : relabel cs env = relS cs env.scope := rfl

noncomputable def compOk (cs sc : Scope) (x : Str) : Bool :=
  cs.kind == .function && cs.names.all (fun p => p.2 != .cell) && cs.names.all (fun p => p.2 != .local || cs.names.lookup p.1 == some .local) && cs.names.lookup x == some .local && cs.names.all (fun p => p.2 != .free || sc.names.lookup p.1 == some .cell) && lamN cs == false

theorem compOk_of {cs sc : Scope} {x : Str} (h : compOk cs sc x = true) : cs.kind = .function ∧ (∀ q ∈ cs.names, q.2 ≠ .cell) ∧ (∀ q ∈ cs.names, q.2 = .local → cs.names.lookup q.1 = some .local) ∧ cs.names.lookup x = some .local ∧ (∀ y, (y, NameKind.free) ∈ cs.names → sc.names.lookup y = some .cell) ∧ lamN cs = false := by
  unfold compOk at h
  simp only [Bool.and_eq_true, beq_iff_eq] at h
  refine ⟨h.1.1.1.1.1, fun q hq => ?_, fun q hq e => ?_, h.1.1.2, fun y hy => ?_, h.2⟩
  · have := List.all_eq_true.mp h.1.1.1.1.2 q hq; simpa using this
  · have := List.all_eq_true.mp h.1.1.1.2 q hq; rw [e] at this; simpa using this
  · have := List.all_eq_true.mp h.1.2 _ hy; simpa using this
theorem closure_spec (env : Env) (names : List (Str × NameKind)) : ∀ (acc : List (Str × Addr)), (∀ y, (y, NameKind.free) ∈ names → ∃ c, env.cells.lookup y = some c) → (∀ y c, acc.lookup y = some c → env.cells.lookup y = some c) →
    ∃ cl, (forIn names acc fun x r => match x with | (name, kind) => if (kind == NameKind.free) = true then do let c ← cellOf env name; pure (ForInStep.yield ((name, c) :: r)) else pure (ForInStep.yield r)) = (pure cl : Sem (List (Str × Addr))) ∧
      (∀ y c, cl.lookup y = some c → env.cells.lookup y = some c) ∧ (∀ y c, (y, NameKind.free) ∈ names → env.cells.lookup y = some c → cl.lookup y = some c) ∧ (∀ y c, acc.lookup y = some c → cl.lookup y = some c) := by
  induction names with
  | nil => intro acc _ h2; exact ⟨acc, rfl, h2, (fun _ _ h => nomatch h), (fun _ _ h => h)⟩
  | cons p r ih =>
    intro acc h1 h2
    obtain ⟨n, k⟩ := p
    have h1' : ∀ y, (y, NameKind.free) ∈ r → ∃ c, env.cells.lookup y = some c := fun y hy => h1 y (List.mem_cons_of_mem _ hy)
    rw [List.forIn_cons]
    by_cases hk : k = .free
    · subst hk
      obtain ⟨c, hc⟩ := h1 n (.head _)
      have e : cellOf env n = pure c := by unfold cellOf; rw [hc]
      have h2' : ∀ y c', ((n, c) :: acc).lookup y = some c' → env.cells.lookup y = some c' := by
        intro y c' hy
        rw [List.lookup_cons] at hy
        cases hyn : y == n with
        | true => rw [hyn] at hy; cases hy; rw [beq_iff_eq.mp hyn]; exact hc
        | false => rw [hyn] at hy; exact h2 y c' hy
      obtain ⟨cl, e1, e2, e3, e4⟩ := ih ((n, c) :: acc) h1' h2'
      refine ⟨cl, ?_, e2, ?_, ?_⟩
      · simp only [beq_self_eq_true, if_true, e, pure_bind]
        exact e1
      · intro y c' hy hc'
        rcases List.mem_cons.mp hy with hy | hy
        · cases hy
          rw [hc] at hc'; cases hc'
          exact e4 n c (by simp)
        · exact e3 y c' hy hc'
      · intro y c' hy
        refine e4 y c' ?_
        rw [List.lookup_cons]
        cases hyn : y == n with
        | true => rw [beq_iff_eq.mp hyn] at hy; have := h2 n c' hy; rw [hc] at this; cases this; rfl
        | false => exact hy
    · have hb : (k == NameKind.free) = false := beq_eq_false_iff_ne.mpr hk
      obtain ⟨cl, e1, e2, e3, e4⟩ := ih acc h1' h2
      refine ⟨cl, ?_, e2, ?_, e4⟩
      · simp only [hb, Bool.false_eq_true, if_false, pure_bind]
        exact e1
      · intro y c' hy hc'
        rcases List.mem_cons.mp hy with hy | hy
        · cases hy; exact absurd rfl hk
        · exact e3 y c' hy hc'
theorem closureFor_spec {cs : Scope} {env : Env} (h : ∀ y, (y, NameKind.free) ∈ cs.names → ∃ c, env.cells.lookup y = some c) :
    ∃ cl, closureFor cs env = pure cl ∧ (∀ y c, cl.lookup y = some c → env.cells.lookup y = some c) ∧ (∀ y c, (y, NameKind.free) ∈ cs.names → env.cells.lookup y = some c → cl.lookup y = some c) := by
  obtain ⟨cl, a, b, c, _⟩ := closure_spec env cs.names [] h (fun _ _ h => by cases h)
  refine ⟨cl, ?_, b, c⟩
  unfold closureFor
  dsimp only
  rw [a]
  exact bind_pure _

section
variable {G : Glo} {D D₂ : Dyn} {as : List Addr} {cs : List (List (Addr × Obj))} {hp : MHeap} {s : Shared}
theorem HRel.move (H : HRel G D as cs hp s) (e1 : D₂.h₀ = D.h₀) (e2 : D₂.L = D.L) (e3 : D₂.mf = D.mf) (e4 : D₂.s₀ = D.s₀) (p : (D₂.led cs).Perm (D.led cs)) : HRel G D₂ as cs hp s :=
  ⟨by rw [e1, e2, e3]; exact H.fr, by rw [e1, e2]; exact fun q hq => H.nw q (p.mem_iff.mp hq), (p.map (·.1)).nodup_iff.mpr H.nd, H.la, H.lc, H.cel, by rw [e4]; exact H.st⟩

theorem self_I {o : Obj} {I : Addr} {it : MIt} {Q : Value → Shared → Prop} {E : Value → Shared → Prop} {A : Around} {r : Option (MV × MIt)} (hh : A.handled = none) (H : HRel G (D.hold (I, o)) as cs hp s) (hi : ItO as it o) (hn : nextM it hp = some r) (q : Q (.ref I) s) : wpAny G.M A (pyIter (.ref I)) Q E s := by
  have ho : s.heap.get? I = some o := (H.nw (I, o) (.head _)).1
  have off := H.off
  cases it with
  | seq l i =>
    obtain ⟨a, ha, hc, hd⟩ := hi
    obtain ⟨ms, hl, _⟩ := bind_some hn
    obtain ⟨a', us, n, q1, q2, q3, q4⟩ := H.lst (lstAt_some hl)
    rw [ha] at q1; cases q1
    exact (Walks.list hh I a (fun e => off _ (mem_led (D := D) q2 (.head _)) e) us).self i s Q E ⟨⟨o, ho, hc, hd⟩, isList_of q4⟩ q
  | tup l i =>
    obtain ⟨a, ha, hc, hd⟩ := hi
    obtain ⟨ms, hl, _⟩ := bind_some hn
    obtain ⟨a', us, n, q1, q2, q3, q4⟩ := H.tup (tupAt_some hl)
    rw [ha] at q1; cases q1
    exact (Walks.tuple hh I a (fun e => off _ (mem_led (D := D) q2 (.head _)) e) us).self i s Q E ⟨⟨o, ho, hc, hd⟩, isTup_of q4⟩ q
  | rng i n =>
    cases hi
    refine (Walks.range hh I 0 1 n).self i s Q E ?_ q
    have : (0 : Int) + (i : Int) * 1 = i := by omega
    rw [this]
    exact ho
end

noncomputable def condT (t : Option TFun) (l : Locs) (hp : MHeap) : Option (Bool × MHeap) := match t with
  | none => some (true, hp)
  | some t => t l hp

noncomputable def compL (acc : Nat) (t : Option TFun) (f : EFun) (caps : Locs) : Nat → MIt → MHeap → Option MHeap
  | n, it, hp => (nextM it hp).bind fun r => match r with
    | none => some hp
    | some (m, it') => match n with
      | 0 => none
      | n + 1 => (condT t (some m :: caps) hp).bind fun b => match b with
        | (false, h) => compL acc t f caps n it' h
        | (true, h) => (f (some m :: caps) h).bind fun v => (fAppend [.loc acc, v.1] v.2).bind fun q => compL acc t f caps n it' q.2
noncomputable def capsOf (is : List Nat) (loc : Locs) : Locs := is.map fun i => (loc[i]?).join
noncomputable def eComp (is : List Nat) (t : Option TFun) (f : EFun) (g : EFun) : EFun := fun loc hp => (g loc hp).bind fun r => (mkIt r.1 r.2).bind fun i =>
  (compL r.2.length t f (capsOf is loc) i.2 i.1 (r.2 ++ [.lst []])).bind fun h => some (.loc r.2.length, h)

noncomputable def CondI (G : Glo) (sc : Scope) (tbl : List Str) (d : Nat) : List Expr → Option TFun → Prop
  | [], none => True
  | [c], some t => TsI G sc tbl d c t
  | _, _ => False

noncomputable def CapsAt (cs sc : Scope) (tbl : List Str) : List Nat → List Str → Prop
  | [], [] => True
  | i :: is, y :: ys => (tbl[i]? = some y ∧ cs.names.lookup y = some .free) ∧ CapsAt cs sc tbl is ys
  | _, _ => False
theorem CapsAt.get {cs sc : Scope} {tbl : List Str} {is : List Nat} : ∀ {ys : List Str} {j i : Nat}, CapsAt cs sc tbl is ys → is[j]? = some i → ∃ y, ys[j]? = some y ∧ tbl[i]? = some y ∧ cs.names.lookup y = some .free := by
  induction is with
  | nil => intro ys j i _ e; cases e
  | cons i' is ih =>
    intro ys j i h e
    cases ys with
    | nil => exact h.elim
    | cons y ys =>
      cases j with
      | zero => cases e; exact ⟨y, rfl, h.1.1, h.1.2⟩
      | succ j => obtain ⟨z, a, b, c⟩ := ih h.2 (j := j) e; exact ⟨z, a, b, c⟩
theorem relS_free {cs sc : Scope} {y : Str} (hk : sc.kind = .function) (hs : sc.names.lookup y = some .cell) {names : List (Str × NameKind)} : names.lookup y = some .free →
    (names.map fun (n, k) => if (k == NameKind.free && sc.kind == .function && sc.names.lookup n == some .cell) then (n, NameKind.cell) else (n, k)).lookup y = some .cell := by
  induction names with
  | nil => intro h; cases h
  | cons p r ih =>
    intro h
    obtain ⟨n, k⟩ := p
    rw [List.lookup_cons] at h
    rw [List.map_cons]
    dsimp only
    cases e : y == n with
    | true =>
      rw [e] at h
      cases h
      have e' := beq_iff_eq.mp e
      subst e'
      rw [hk, hs]
      simp
    | false =>
      rw [e] at h
      cases k == NameKind.free && sc.kind == .function && sc.names.lookup n == some .cell with
      | true => rw [if_pos rfl, List.lookup_cons, e]; exact ih h
      | false => rw [if_neg Bool.false_ne_true, List.lookup_cons, e]; exact ih h
theorem relS_cell {sc : Scope} {y : Str} {names : List (Str × NameKind)} : (∀ p ∈ names, p.2 ≠ .cell) →
    (names.map fun (n, k) => if (k == NameKind.free && sc.kind == .function && sc.names.lookup n == some .cell) then (n, NameKind.cell) else (n, k)).lookup y = some .cell → (y, NameKind.free) ∈ names ∧ sc.names.lookup y = some .cell := by
  induction names with
  | nil => intro _ h; cases h
  | cons p r ih =>
    intro hn h
    obtain ⟨n, k⟩ := p
    rw [List.map_cons] at h
    dsimp only at h
    replace ih := ih (fun p hp => hn p (List.mem_cons_of_mem _ hp))
    cases hc : k == NameKind.free && sc.kind == .function && sc.names.lookup n == some .cell with
    | true =>
      rw [hc, if_pos rfl, List.lookup_cons] at h
      rw [Bool.and_eq_true, Bool.and_eq_true, beq_iff_eq, beq_iff_eq, beq_iff_eq] at hc
      cases e : y == n with
      | true => rw [hc.1.1, beq_iff_eq.mp e]; exact ⟨.head _, hc.2⟩
      | false => rw [e] at h; exact ⟨List.mem_cons_of_mem _ (ih h).1, (ih h).2⟩
    | false =>
      rw [hc, if_neg Bool.false_ne_true, List.lookup_cons] at h
      cases e : y == n with
      | true => rw [e] at h; cases h; exact absurd rfl (hn _ (.head _))
      | false => rw [e] at h; exact ⟨List.mem_cons_of_mem _ (ih h).1, (ih h).2⟩

noncomputable def Dyn.comp (D : Dyn) (env : Env) (p : Addr × Obj) : Dyn := { D with env := env, ce := p :: D.ce }

section
variable {G : Glo} {sc : Scope} {tbl : List Str} {d : Nat}
theorem lamN_rel (cs : Scope) (env : Env) : lamN (relabel cs env) = lamN cs := by
  have e : ∀ y : Str, (relabel cs env).names.any (fun p => p.1 == y) = cs.names.any (fun p => p.1 == y) := fun y => by
    unfold relabel
    rw [List.any_map]
    congr 1
    funext p
    obtain ⟨n, k⟩ := p
    simp only [Function.comp]
    split <;> rfl
  unfold lamN
  rw [e, e]
theorem Ok.comp {D : Dyn} (ok : Ok G d D) {cs : Scope} {cl : List (Str × Addr)} {p : Addr × Obj} {x : Str} (hc : compOk cs D.env.scope x = true) (c2 : ∀ y c, (y, NameKind.free) ∈ cs.names → D.env.cells.lookup y = some c → cl.lookup y = some c) :
    Ok G d (D.comp (compEnvC cs cl p.1 D.env) p) := by
  obtain ⟨k1, nc, nl, k4, nf, k6⟩ := compOk_of hc
  refine ⟨ok.below, ok.kin, ok.top, ok.frames, ok.handled, ok.ff, ok.fk, ok.depth, ok.units, ok.nd, ok.eg, ok.eb, k1, ?_, fun e => by rw [show lamN (D.comp (compEnvC cs cl p.1 D.env) p).env.scope = lamN cs from lamN_rel cs D.env] at e; rw [k6] at e; cases e⟩
  intro y hy
  obtain ⟨h1, h2⟩ := relS_cell nc hy
  obtain ⟨c, h3⟩ := ok.cells y h2
  exact ⟨c, c2 y c h1 h3⟩

theorem HRel.inn {D : Dyn} {as : List Addr} {cs : List (List (Addr × Obj))} {hp : MHeap} {s : Shared} {p q : Addr × Obj} (env : Env) (H : HRel G ((D.hold p).hold q) as cs hp s) : HRel G ((D.comp env q).hold p) as cs hp s := by
  refine H.move rfl rfl rfl rfl ?_
  show (p :: (D.xs ++ ((q :: D.ce) ++ cs.flatten))).Perm (q :: p :: (D.xs ++ (D.ce ++ cs.flatten)))
  exact (List.Perm.cons _ List.perm_middle).trans (List.Perm.swap _ _ _)
theorem HRel.out {D : Dyn} {as : List Addr} {cs : List (List (Addr × Obj))} {hp : MHeap} {s : Shared} {p q : Addr × Obj} {env : Env} (H : HRel G ((D.comp env q).hold p) as cs hp s) : HRel G ((D.hold p).hold q) as cs hp s := by
  refine H.move rfl rfl rfl rfl ?_
  show (q :: p :: (D.xs ++ (D.ce ++ cs.flatten))).Perm (p :: (D.xs ++ ((q :: D.ce) ++ cs.flatten)))
  exact (List.Perm.swap _ _ _).trans (List.Perm.cons _ List.perm_middle.symm)
theorem HRel.out1 {D : Dyn} {as : List Addr} {cs : List (List (Addr × Obj))} {hp : MHeap} {s : Shared} {q : Addr × Obj} {env : Env} (H : HRel G (D.comp env q) as cs hp s) : HRel G (D.hold q) as cs hp s := by
  refine H.move rfl rfl rfl rfl ?_
  show (q :: (D.xs ++ (D.ce ++ cs.flatten))).Perm (D.xs ++ ((q :: D.ce) ++ cs.flatten))
  exact List.perm_middle.symm
theorem caps_at {D : Dyn} {as : List Addr} {loc : Locs} {cs : Scope} {is : List Nat} {ys : List Str} (hl : LocRel D as tbl loc) (hcap : CapsAt cs D.env.scope tbl is ys) (nf : ∀ y, (y, NameKind.free) ∈ cs.names → D.env.scope.names.lookup y = some .cell) {j : Nat} {m : MV} (h : (capsOf is loc)[j]? = some (some m)) :
    ∃ y c, ys[j]? = some y ∧ VR as m (.ref c) ∧ (y, NameKind.free) ∈ cs.names ∧ cs.names.lookup y = some .free ∧ D.env.scope.names.lookup y = some .cell ∧ D.env.cells.lookup y = some c := by
  unfold capsOf at h
  rw [List.getElem?_map] at h
  obtain ⟨i0, hi0, e⟩ := Option.map_eq_some_iff.mp h
  obtain ⟨y, g1, g2, g3⟩ := hcap.get hi0
  obtain ⟨y', u, f1, f2, f3⟩ := hl i0 m (Option.join_eq_some_iff.mp e)
  rw [g2] at f1; cases f1
  have my := mem_lookup g3
  have ky := nf y my
  have no : D.env.kindOf y ≠ some .local := fun f => by
    have f' : D.env.scope.names.lookup y = some .local := f
    rw [ky] at f'; cases f'
  rcases f3 with ⟨_, f, _⟩ | ⟨f, _⟩ | ⟨_, c, f4, rfl⟩
  · exact absurd f no
  · exact absurd f no
  · exact ⟨y, c, g1, f2, my, g3, ky, f4⟩
theorem cond_wp {D : Dyn} {ifs : List Expr} {t : Option TFun} {loc : Locs} {hp hpb : MHeap} {as : List Addr} {cs : List (List (Addr × Obj))} {s : Shared} {b : Bool} {Q : Bool → Shared → Prop} {E : Value → Shared → Prop}
    (ht : CondI G sc tbl d ifs t) (ok : Ok G d D) (hsc : D.env.scope = sc) (hb : condT t loc hp = some (b, hpb)) (hl : LocRel D as tbl loc) (H : HRel G D as cs hp s) (q2 : ∀ as' cs' s', Ext as as' → HRel G D as' cs' hpb s' → Q b s') :
    wpAny G.M D.A (forIn ifs true fun c r => if r = true then do let ok ← isTrue c D.env (eval c D.env); pure (ForInStep.yield ok) else pure (ForInStep.yield r)) Q E s := by
  cases ifs with
  | nil =>
    cases t with
    | none => cases hb; exact wpAny_tests_nil (q2 as cs _ (Ext.refl _) H)
    | some t => exact ht.elim
  | cons c r =>
    cases r with
    | nil =>
      cases t with
      | none => exact ht.elim
      | some t => exact wpAny_tests_one (ht _ _ hp as cs _ b hpb _ E ok hsc hb hl H q2)
    | cons _ _ => cases t <;> exact ht.elim
theorem comp_loop {D : Dyn} {elt iter : Expr} {x : Str} {px pos : Pos} {ifs : List Expr} {cs : Scope} {t : Option TFun} {f : EFun} {ys : List Str} {is : List Nat} {cl : List (Str × Addr)} {C I aacc : Addr} {accl : Nat} {loc : Locs} {hpF : MHeap} {R : Result → Shared → Prop} {as : List Addr}
    (ok : Ok G d D) (hsc : D.env.scope = sc) (hc : compOk cs sc x = true) (hcap : CapsAt cs sc tbl is ys) (c2 : ∀ y c, (y, NameKind.free) ∈ cs.names → D.env.cells.lookup y = some c → cl.lookup y = some c)
    (ht : CondI G (relS cs sc) (x :: ys) d ifs t) (hf : EvI G (relS cs sc) (x :: ys) d elt f) (hl : LocRel D as tbl loc) (hacc : as[accl]? = some aacc)
    (hR : ∀ oC mC as' cs' s', Ext as as' → NsObj oC mC → HRel G (D.hold (C, oC)) as' cs' hpF s' → R (.ok .next) s')
    {n : Nat} {it : MIt} {o oC : Obj} {mC : Str → Option Value} {hp : MHeap} {cs0 : List (List (Addr × Obj))} {s : Shared} (hrun : compL accl t f (capsOf is loc) n it hp = some hpF) (hI : ItO as it o) (hC : NsObj oC mC)
    (H : HRel G ((D.hold (I, o)).hold (C, oC)) as cs0 hp s) : codeAny G.M D.A (.compLoop (.ListComp elt [⟨.Name x px, iter, ifs, 0⟩] cs pos) 0 (.ref I) (.ref aacc) (compEnvC cs cl C D.env)) R s := by
  subst hsc
  obtain ⟨k1, nc, nl, k4, nf, k6⟩ := compOk_of hc
  refine codeAny_compLoop_tests (fun n s' => ∃ it o oC mC as1 cs1 hp1, Ext as as1 ∧ ItO as1 it o ∧ NsObj oC mC ∧ compL accl t f (capsOf is loc) n it hp1 = some hpF ∧ HRel G ((D.hold (I, o)).hold (C, oC)) as1 cs1 hp1 s')
    ?_ n ⟨it, o, oC, mC, as, cs0, hp, Ext.refl _, hI, hC, hrun, H⟩ (by intro _; rfl)
  clear hrun hI hC H
  rintro n s' ⟨it, o, oC, mC, as1, cs1, hp1, x1, hI, hC, hrun, H⟩
  unfold compL at hrun
  replace hrun := bind_some hrun; obtain ⟨r, hr, hrun⟩ := hrun
  refine next_I (D := D.comp (compEnvC cs cl C D.env) (C, oC)) ok.handled (H.inn _) hI hr (fun e s2 H2 => ?_) (fun m it' e v o' s2 hv hI' H2 => ?_)
  · subst e
    cases hrun
    exact hR oC mC as1 cs1 s2 x1 hC H2.out1
  · subst e
    cases n with
    | zero => cases hrun
    | succ n =>
      replace hrun := bind_some hrun; obtain ⟨⟨b, hpb⟩, hb, hrun⟩ := hrun
      have H2' := H2.out
      have hCg : s2.heap.get? C = some oC := (H2'.nw (C, oC) (.head _)).1
      have kx : (compEnvC cs cl C D.env).kindOf x = some .local := lookup_relabel_local k4
      refine PyProof.Rows.assign_Name (wpAny_storeName_local (m := mC) kx (hC.ns hCg) (fun h3 hn3 sb3 => ?_) (by show (cs.kind == .class || (cs.kind == .module && _)) = false; rw [k1]; rfl))
      obtain ⟨oC3, hoC3, hC3⟩ := ns_obj hn3
      have H3 := (H2'.turnO (s2.toks + 1) (p := (C, oC)) sb3 hoC3).inn (compEnvC cs cl C D.env)
      have okc : Ok G d ((D.comp (compEnvC cs cl C D.env) (C, oC3)).hold (I, o')) := (ok.comp (p := (C, oC3)) hc c2).hold _
      have L3 : LocRel ((D.comp (compEnvC cs cl C D.env) (C, oC3)).hold (I, o')) as1 (x :: ys) (some m :: capsOf is loc) := by
        intro i m' hi
        cases i with
        | zero =>
          cases hi
          exact ⟨x, v, rfl, hv, .inr (.inl ⟨kx, oC3, _, .head _, fun h e => hC3.ns e, by show (if x = x then some v else _) = some v; rw [if_pos rfl]⟩)⟩
        | succ j =>
          obtain ⟨y, c, g1, f2, my, g3, ky, f4⟩ := caps_at hl hcap nf (j := j) hi
          exact ⟨y, .ref c, g1, f2.mono x1, .inr (.inr ⟨.inl (relS_free (cs := cs) ok.ek ky g3), c, c2 y c my f4, rfl⟩)⟩
      refine cond_wp (D := (D.comp (compEnvC cs cl C D.env) (C, oC3)).hold (I, o')) ht okc rfl hb L3 H3 fun as4 cs4 s4 x4 H4 => ?_
      cases b with
      | false =>
        rw [if_neg Bool.false_ne_true]
        exact ⟨n, Nat.lt_succ_self n, it', o', oC3, _, as4, cs4, hpb, x1.trans x4, hI'.mono x4, hC3, hrun, H4.out⟩
      | true =>
        replace hrun := bind_some hrun; obtain ⟨⟨mv, hpv⟩, hv5, hrun⟩ := hrun
        replace hrun := bind_some hrun; obtain ⟨⟨mn, hp6⟩, hv6, hrun⟩ := hrun
        rw [if_pos rfl]
        refine hf _ _ hpb as4 cs4 s4 mv hpv _ _ okc rfl hv5 (L3.mono x4) H4 fun w as5 cs5 s5 x5 r5 H5 => ?_
        have racc : VR as5 (.loc accl) (.ref aacc) := ⟨aacc, x5 _ _ (x4 _ _ (x1 _ _ hacc)), rfl⟩
        refine ClI.append ((D.comp (compEnvC cs cl C D.env) (C, oC3)).hold (I, o')) hpv as5 cs5 s5 [.loc accl, mv] [.ref aacc, w] mn hp6 _ _ okc hv6 ⟨_, _, rfl, racc, VRs.one r5⟩ H5 fun w6 as6 cs6 s6 x6 r6 H6 => ?_
        have x456 := x4.trans (x5.trans x6)
        exact ⟨n, Nat.lt_succ_self n, it', o', oC3, _, as6, cs6, hp6, x1.trans x456, hI'.mono x456, hC3, hrun, H6.out⟩

theorem compL_next {acc : Nat} {t : Option TFun} {f : EFun} {caps : Locs} {n : Nat} {it : MIt} {hp hpF : MHeap} (h : compL acc t f caps n it hp = some hpF) : ∃ r, nextM it hp = some r := by
  unfold compL at h
  obtain ⟨r, hr, _⟩ := bind_some h
  exact ⟨r, hr⟩

theorem EvI.comp {elt iter : Expr} {x : Str} {px pos : Pos} {ifs : List Expr} {cs : Scope} {t : Option TFun} {f g : EFun} {ys : List Str} (is : List Nat) (hc : compOk cs sc x = true) (hcap : CapsAt cs sc tbl is ys)
    (hg : EvI G sc tbl d iter g) (ht : CondI G (relS cs sc) (x :: ys) d ifs t) (hf : EvI G (relS cs sc) (x :: ys) d elt f)
    (hs : ∀ env v, foldedSetIterable iter env v = pure v := by intro _ _; rfl) : EvI G sc tbl d (.ListComp elt [⟨.Name x px, iter, ifs, 0⟩] cs pos) (eComp is t f g) := by
  intro D loc hp as cs0 s mv hp' Q E ok hsc hfu hl H post
  replace hfu := bind_some hfu; obtain ⟨⟨m, h1⟩, hm, hfu⟩ := hfu
  replace hfu := bind_some hfu; obtain ⟨⟨it, n⟩, hi, hfu⟩ := hfu
  replace hfu := bind_some hfu; obtain ⟨hF, hF1, hfu⟩ := hfu
  cases hfu
  obtain ⟨k1, nc, nl, k4, nf, k6⟩ := compOk_of hc
  obtain ⟨cl, hcl, _, c2⟩ := closureFor_spec (cs := cs) (env := D.env) (fun y hy => ok.cells y (by rw [hsc]; exact nf y hy))
  rw [eval_ListComp]
  refine wpAny_comprehension_free (use := none) rfl (hs _) hcl k1 nl (hg D loc hp as cs0 s m h1 _ _ ok hsc hm hl H fun v as1 cs1 s1 x1 r1 H1 => ?_)
  refine iter_I H1 r1 hi fun I o s2 hI H2 => ?_
  refine newList_I (ms := []) (vs := []) (hp := h1) (mv := .loc h1.length) (hp' := h1 ++ [.lst []]) rfl rfl H2 fun acc as3 cs3 s3 x3 r3 H3 => ?_
  obtain ⟨aacc, hacc, rfl⟩ := r3
  refine wpAny_newFunctionEnv nc (by intro y hy; simp at hy) (fun h4 hns hsb => ?_) k1
  obtain ⟨oC, hoC, hnsC⟩ := ns_obj hns
  have HC0 : HRel G ((D.hold (I, o)).hold (s3.heap.objs.size, oC)) as3 cs3 (h1 ++ [.lst []]) { s3 with heap := h4, toks := s3.toks + 0 } :=
    (H3.hold (o := { cls := .type (if (some D.env).isSome = true then "dict" else "frame"), data := .dict #[] }) rfl).turnO (s3.toks + 0) hsb hoC
  have loop := comp_loop (elt := elt) (iter := iter) (px := px) (pos := pos) (I := I) (R := compPost G.M D.A E none Q (.ref aacc) s3.heap.objs.size) ok hsc hc hcap c2 ht hf (hl.mono (x1.trans x3)) hacc ?_ hF1 (hI.mono x3) hnsC HC0
  · obtain ⟨r, hr⟩ := compL_next hF1
    refine codeAny_compStart_list loop ?_
    have HI : HRel G (((D.hold (s3.heap.objs.size, oC))).hold (I, o)) as3 cs3 (h1 ++ [.lst []]) { s3 with heap := h4, toks := s3.toks + 0 } := HC0.move rfl rfl rfl rfl (List.Perm.swap _ _ _)
    exact self_I ok.handled HI (hI.mono x3) hr loop
  · intro oC2 mC2 as5 cs5 s5 x5 hC5 H5
    refine ⟨mC2, hC5.ns (H5.nw _ (.head _)).1, fun h6 sb6 => ?_⟩
    exact post _ as5 cs5 _ ((x1.trans x3).trans x5) ⟨aacc, x5 _ _ hacc, rfl⟩ (H5.ended s5.toks sb6.extBut)
end
end Mine
end

section
open PySem PySem.W PySem.Calls PyProof.Rows PyProof.Rows.LCg
set_option maxRecDepth 100000
namespace Mine

theorem bindL_off {kd : Str → Option NameKind} {x : Str} {binds : List (Str × Value)} : ∀ {m : Str → Option Value}, (∀ p ∈ binds, p.1 ≠ x) → bindL kd binds m x = m x := by
  induction binds with
  | nil => intro m _; rfl
  | cons p r ih =>
    intro m h
    have ne : x ≠ p.1 := fun e => h p (.head _) e.symm
    show bindL kd r _ x = _
    rw [ih (fun p hp => h p (List.mem_cons_of_mem _ hp))]
    by_cases e : kd p.1 = some .local
    · rw [if_pos e]; exact if_neg ne
    · rw [if_neg e]
theorem bindC_off {kd : Str → Option NameKind} {x : Str} {binds : List (Str × Value)} : ∀ {m : Str → Option Value}, (∀ p ∈ binds, p.1 ≠ x) → bindC kd binds m x = m x := by
  induction binds with
  | nil => intro m _; rfl
  | cons p r ih =>
    intro m h
    have ne : x ≠ p.1 := fun e => h p (.head _) e.symm
    show bindC kd r _ x = _
    rw [ih (fun p hp => h p (List.mem_cons_of_mem _ hp))]
    by_cases e : kd p.1 = some .local
    · rw [if_pos e]
    · rw [if_neg e]; exact if_neg ne
theorem bindL_at {kd : Str → Option NameKind} {x : Str} {v : Value} (hk : kd x = some .local) {binds : List (Str × Value)} : ∀ {m : Str → Option Value}, (binds.map (·.1)).Nodup → (x, v) ∈ binds → bindL kd binds m x = some v := by
  induction binds with
  | nil => intro m _ h; cases h
  | cons p r ih =>
    intro m hn h
    have hn' := List.nodup_cons.mp (show (p.1 :: r.map (·.1)).Nodup from hn)
    show bindL kd r _ x = _
    rcases List.mem_cons.mp h with h | h
    · rw [bindL_off (fun q hq e => hn'.1 (List.mem_map.mpr ⟨q, hq, e.trans (congrArg (·.1) h)⟩)), ← h, if_pos hk, if_pos rfl]
    · exact ih hn'.2 h
theorem bindC_at {kd : Str → Option NameKind} {x : Str} {v : Value} (hk : kd x ≠ some .local) {binds : List (Str × Value)} : ∀ {m : Str → Option Value}, (binds.map (·.1)).Nodup → (x, v) ∈ binds → bindC kd binds m x = some v := by
  induction binds with
  | nil => intro m _ h; cases h
  | cons p r ih =>
    intro m hn h
    have hn' := List.nodup_cons.mp (show (p.1 :: r.map (·.1)).Nodup from hn)
    show bindC kd r _ x = _
    rcases List.mem_cons.mp h with h | h
    · rw [bindC_off (fun q hq e => hn'.1 (List.mem_map.mpr ⟨q, hq, e.trans (congrArg (·.1) h)⟩)), ← h, if_neg hk, if_pos rfl]
    · exact ih hn'.2 h
theorem cellsFrom_fresh (names : List (Str × NameKind)) : ∀ (n : Nat) (acc : List (Str × Addr)), (acc.map (·.2)).Nodup → (∀ p ∈ acc, p.2 < n) → ((cellsFrom n names acc).map (·.2)).Nodup ∧ ∀ p ∈ cellsFrom n names acc, p ∈ acc ∨ n ≤ p.2 := by
  induction names with
  | nil => intro n acc h _; exact ⟨h, fun p hp => .inl hp⟩
  | cons q r ih =>
    intro n acc h hl
    obtain ⟨x, k⟩ := q
    unfold cellsFrom
    split
    · obtain ⟨a, b⟩ := ih (n + 1) ((x, n) :: acc) (by
        rw [List.map_cons]
        exact List.nodup_cons.mpr ⟨fun z => by
          obtain ⟨p, hp, e⟩ := List.mem_map.mp z
          have := hl p hp
          dsimp only at e
          rw [e] at this
          exact Nat.lt_irrefl _ this, h⟩) (fun p hp => by
          rcases List.mem_cons.mp hp with rfl | hp
          · exact Nat.lt_succ_self n
          · exact Nat.lt_succ_of_lt (hl p hp))
      refine ⟨a, fun p hp => ?_⟩
      rcases b p hp with q | q
      · rcases List.mem_cons.mp q with rfl | q
        · exact .inr (Nat.le_refl n)
        · exact .inl q
      · exact .inr (Nat.le_of_succ_le q)
    · exact ih n acc h hl
theorem cells_keys {cm : Str → Option Value} {cs : List (Str × Addr)} {cells : List (Addr × Obj)} (h : CellsAre cm cs cells) : cells.map (·.1) = cs.map (·.2) := by
  induction h with
  | nil => rfl
  | cons _ _ ih => rw [List.map_cons, List.map_cons, ih]
theorem cells_get {cm : Str → Option Value} {x : Str} {c : Addr} {cs : List (Str × Addr)} {cells : List (Addr × Obj)} (h : CellsAre cm cs cells) : (x, c) ∈ cs → ∃ o, (c, o) ∈ cells ∧ o.data = .cell (cm x) := by
  induction h with
  | nil => intro h; cases h
  | cons e _ ih =>
    intro h
    rcases List.mem_cons.mp h with h | h
    · cases h; exact ⟨_, .head _, e⟩
    · obtain ⟨o', a, b⟩ := ih h; exact ⟨o', List.mem_cons_of_mem _ a, b⟩
theorem snd_inj {l : List (Str × Addr)} {x y : Str} {c : Addr} : (l.map (·.2)).Nodup → (x, c) ∈ l → (y, c) ∈ l → x = y := by
  induction l with
  | nil => intro _ h; cases h
  | cons p r ih =>
    intro hn h1 h2
    have hn' := List.nodup_cons.mp (show (p.2 :: r.map (·.2)).Nodup from hn)
    rcases List.mem_cons.mp h1 with e1 | e1 <;> rcases List.mem_cons.mp h2 with e2 | e2
    · exact congrArg (·.1) (e1.trans e2.symm)
    · exact absurd (List.mem_map.mpr ⟨_, e2, show c = p.2 from congrArg (·.2) e1⟩) hn'.1
    · exact absurd (List.mem_map.mpr ⟨_, e1, show c = p.2 from congrArg (·.2) e2⟩) hn'.1
    · exact ih hn'.2 e1 e2
theorem zip_mem {nm : List Str} {vs : List Value} {i : Nat} {x : Str} {v : Value} (h : nm[i]? = some x) (k : vs[i]? = some v) : (x, v) ∈ nm.zip vs := by
  refine List.mem_of_getElem? (i := i) ?_
  rw [List.getElem?_zip_eq_some]
  exact ⟨h, k⟩

section
variable {G : Glo} {D : Dyn}
theorem HRel.grows (ts : List (Addr × Obj × MObj)) : ∀ {as : List Addr} {cs : List (List (Addr × Obj))} {hp : MHeap} {s : Shared} {h' : Heap} {tk : Nat}, HRel G D as cs hp s → Fr D.h₀ D.L h' D.mf → News D.h₀ D.L h' (ts.map (fun t => (t.1, t.2.1)) ++ D.led cs) → (ts.map (·.1)).Nodup →
    (∀ t ∈ ts, ∀ q ∈ D.led cs, q.1 ≠ t.1) → (∀ t ∈ ts, ∀ as', Ext as as' → Cell G as' t.1 t.2.2 [(t.1, t.2.1)]) →
    HRel G D (as ++ ts.map (·.1)) (cs ++ ts.map fun t => [(t.1, t.2.1)]) (hp ++ ts.map (·.2.2)) { s with heap := h', toks := tk } := by
  induction ts with
  | nil =>
    intro as cs hp s h' tk H F N _ _ _
    simp only [List.map_nil, List.append_nil]
    exact ⟨F, N, H.nd, H.la, H.lc, H.cel, H.st⟩
  | cons t r ih =>
    intro as cs hp s h' tk H F N nd off k
    have nd' := List.nodup_cons.mp (show (t.1 :: r.map (·.1)).Nodup from nd)
    have eled : D.led (cs ++ [[(t.1, t.2.1)]]) = D.led cs ++ [(t.1, t.2.1)] := by simp [Dyn.led]
    have H1 := H.grow (a := t.1) (c := [(t.1, t.2.1)]) (mo := t.2.2) (h' := h') tk F (fun p hp => N p (by
      rcases List.mem_append.mp hp with q | q
      · rw [List.mem_singleton] at q; subst q; exact List.mem_append_left _ (.head _)
      · exact List.mem_append_right _ q)) (by simp) (by intro p hp q hq; rw [List.mem_singleton] at hp; subst hp; exact off t (.head _) q hq) (k t (.head _) _ (Ext.app _ _))
    have := ih (h' := h') (tk := tk) H1 F (fun p hp => N p (by
      rw [eled] at hp
      simp only [List.mem_append, List.map_cons, List.mem_cons] at hp ⊢
      rcases hp with q | q | q
      · exact .inl (.inr q)
      · exact .inr q
      · exact .inl (.inl (by simpa using q)))) nd'.2 (fun u hu q hq => by
      rw [eled] at hq
      rcases List.mem_append.mp hq with hq | hq
      · exact off u (List.mem_cons_of_mem _ hu) q hq
      · rw [List.mem_singleton] at hq; subst hq
        intro e
        exact nd'.1 (List.mem_map.mpr ⟨u, hu, e.symm⟩)) (fun u hu as' x => k u (List.mem_cons_of_mem _ hu) as' ((Ext.app _ _).trans x))
    simpa [List.append_assoc] using this
end

noncomputable def posOf (i : Nat) : List Nat → Option Nat
  | [] => none
  | j :: r => if i == j then some 0 else (posOf i r).map (· + 1)
theorem posOf_get {i : Nat} {cn : List Nat} : ∀ {p : Nat}, posOf i cn = some p → cn[p]? = some i := by
  induction cn with
  | nil => intro p h; cases h
  | cons j r ih =>
    intro p h
    replace h : (if i == j then some 0 else (posOf i r).map (· + 1)) = some p := h
    by_cases e : (i == j) = true
    · rw [if_pos e] at h; cases h; rw [beq_iff_eq.mp e]; rfl
    · rw [if_neg e] at h
      obtain ⟨q, hq, rfl⟩ := Option.map_eq_some_iff.mp h
      exact ih hq
noncomputable def locC (base : Nat) (cn : List Nat) (vals : Locs) : Locs := (List.range vals.length).map fun i => match posOf i cn with | some p => some (.loc (base + p)) | none => (vals[i]?).join
noncomputable def fnRunC (n : Nat) (dm : List MV) (k : Nat) (cn : List Nat) (fb : SFun) : List MV → MHeap → Option (MV × MHeap) := fun mvs hp =>
  if mvs.length = n then (fb (locC hp.length cn ((mvs ++ dm).map some ++ List.replicate k none)) (hp ++ cn.map fun i => .cel ((((mvs ++ dm).map some ++ List.replicate k none)[i]?).join))).bind fun r => match r with
    | (.ret v, _, h) => some (v, h)
    | (.next, _, h) => some (.none, h)
    | _ => none
  else none

theorem cells_trip {G : Glo} {as : List Addr} {tbl : List Str} {vals : Locs} {cm : Str → Option Value} {cs : List (Str × Addr)} {cells : List (Addr × Obj)} (Y : CellsAre cm cs cells) : ∀ {cn : List Nat}, cs.map (·.1) = cn.map (fun i => tbl.getD i "") → (∀ i ∈ cn, OR as ((vals[i]?).join) (cm (tbl.getD i ""))) →
    ∃ ts : List (Addr × Obj × MObj), ts.map (fun t => (t.1, t.2.1)) = cells ∧ ts.map (·.2.2) = cn.map (fun i => MObj.cel ((vals[i]?).join)) ∧ ∀ t ∈ ts, ∀ as', Ext as as' → Cell G as' t.1 t.2.2 [(t.1, t.2.1)] := by
  induction Y with
  | nil =>
    intro cn h _
    cases cn with
    | nil => exact ⟨[], rfl, rfl, fun _ h => nomatch h⟩
    | cons _ _ => cases h
  | cons e r ih =>
    intro cn h ho
    cases cn with
    | nil => cases h
    | cons i cn =>
      rw [List.map_cons, List.map_cons, List.cons.injEq] at h
      obtain ⟨ts, h1, h2, h3⟩ := ih h.2 (fun j hj => ho j (List.mem_cons_of_mem _ hj))
      refine ⟨(_, _, .cel ((vals[i]?).join)) :: ts, by rw [List.map_cons, h1], by rw [List.map_cons, List.map_cons, h2], fun t ht as' x => ?_⟩
      rcases List.mem_cons.mp ht with rfl | ht
      · have := ho i (.head _)
        rw [← h.1] at this
        exact ⟨_, _, rfl, e, this.mono x⟩
      · exact h3 t ht as' x
theorem lookup_of_mem {x : Str} {c : Addr} {l : List (Str × Addr)} : (l.map (·.1)).Nodup → (x, c) ∈ l → l.lookup x = some c := by
  induction l with
  | nil => intro _ h; cases h
  | cons p r ih =>
    intro hn h
    have hn' := List.nodup_cons.mp (show (p.1 :: r.map (·.1)).Nodup from hn)
    rw [List.lookup_cons]
    rcases List.mem_cons.mp h with e | h2
    · rw [← e, beq_self_eq_true]
    · have ne : (x == p.1) = false := by
        rw [beq_eq_false_iff_ne]
        intro e
        exact hn'.1 (List.mem_map.mpr ⟨(x, c), h2, e⟩)
      rw [ne]
      exact ih hn'.2 h2
theorem FnI.fnC {G : Glo} {d : Nat} {f : Addr} {name qual : Str} {params : Arguments} {body : List Stmt} {scope : Scope} {dV kV doc pm cdv ct oc : Value} {an od : Option Addr} {osl : Array (Option Value)}
    {tbl nm : List Str} {n k : Nat} {dm : List MV} {dv : List Value} {fb : SFun} (cn : List Nat)
    (ho : G.K.lookup f = some ⟨oc, od, .func (fnOf name qual params body scope dV kV doc pm an cdv ct), osl⟩) (hcd : codeIn G.K cdv qual = true)
    (hbind : ∀ (s : Shared) (vs : List Value), G.K.In s.heap → vs.length = n → BindsTo s (fnOf name qual params body scope dV kV doc pm an cdv ct) ⟨vs, []⟩ (nm.zip (vs ++ dv)))
    (hdv : ∀ as, VRs as dm dv) (hlen : nm.length = n + dm.length) (htl : tbl = nm ++ tbl.drop nm.length) (hk : tbl.length = nm.length + k) (htn : tbl.Nodup)
    (hcn0 : (cellsFrom 0 scope.names []).map (·.1) = cn.map fun i => tbl.getD i "") (hcn1 : (cn.all fun i => decide (i < tbl.length) && scope.names.lookup (tbl.getD i "") == some .cell) = true)
    (hloc : ((List.range nm.length).all fun i => (posOf i cn).isSome || scope.names.lookup (tbl.getD i "") == some .local) = true) (hcn : ((cellsFrom 0 scope.names []).map (·.1)).Nodup)
    (hco : scope.isCoroutine = false) (hgen : scope.isGenerator = false) (hsk : scope.kind = .function)
    (hlam : (!lamN scope || (isLamC cdv && qual == lamQ)) = true) (hx : ExI G scope tbl d body fb) : FnI G (d + 1) f (fnRunC n dm k cn fb) := by
  intro D A hp as cs s mvs vs mv hp' R ok hfr hh hdep hun hF hvs H post
  replace hF := if_some hF; obtain ⟨hn, hF⟩ := hF
  replace hF := bind_some hF; obtain ⟨⟨fl, loc', h1⟩, hb, hF⟩ := hF
  have hnn : nm.Nodup := by rw [htl] at htn; exact (List.nodup_append.mp htn).1
  have hvl : vs.length = n := hvs.len.trans hn
  have hdl : dv.length = dm.length := (hdv []).len
  have hzl : (nm.zip (vs ++ dv)).map (·.1) = nm := by
    rw [List.map_fst_zip]; rw [List.length_append]; omega
  have htget : ∀ i, i < nm.length → tbl[i]? = nm[i]? := fun i hi => by rw [htl, List.getElem?_append_left hi]
  have hgetD : ∀ {i : Nat} {x : Str}, tbl[i]? = some x → tbl.getD i "" = x := fun h => by rw [List.getD_eq_getElem?_getD, h]; rfl
  have kinds : ∀ i ∈ cn, i < tbl.length ∧ scope.names.lookup (tbl.getD i "") = some .cell := fun i hi => by
    have := List.all_eq_true.mp hcn1 i hi
    rw [Bool.and_eq_true, decide_eq_true_eq, beq_iff_eq] at this
    exact this
  have hkind : ((nm.zip (vs ++ dv)).all fun y => scope.names.lookup y.1 == some .local || scope.names.lookup y.1 == some .cell) = true := by
    refine List.all_eq_true.mpr fun y hy => ?_
    have : y.1 ∈ nm := hzl ▸ List.mem_map_of_mem (f := (·.1)) hy
    obtain ⟨i, hi⟩ := List.getElem?_of_mem this
    have hil := (List.getElem?_eq_some_iff.mp hi).1
    have e := hgetD ((htget i hil).trans hi)
    have := List.all_eq_true.mp hloc i (List.mem_range.mpr hil)
    rcases Bool.or_eq_true_iff.mp this with q | q
    · obtain ⟨p, hp⟩ := Option.isSome_iff_exists.mp q
      have := (kinds i (List.mem_of_getElem? (posOf_get hp))).2
      rw [e] at this
      rw [this]; simp
    · rw [e] at q; rw [q]; rfl
  refine code_defC ok.below H.fr ok.kin H.nw ok.top (hfr.trans ok.frames) ok.ff ok.fk ho hcd (by omega) (hbind s vs (ok.kin.keeps H.fr.keep) hvl) hkind hcn
    (fun g L' h₁ tk cells FG F' N' Y B' X' T' lt => ?_) hco hgen hsk
  obtain ⟨fr1, fr2⟩ := cellsFrom_fresh scope.names (L' + 1) [] List.nodup_nil (fun _ h => nomatch h)
  have ckeys := cells_keys Y
  have cnm : (cellsFrom (L' + 1) scope.names []).map (·.1) = cn.map fun i => tbl.getD i "" := (cellsFrom_names scope.names (L' + 1) 0 [] [] rfl).trans hcn0
  let D' : Dyn := { A := A.deeper (envOfC qual scope L' f cdv), A₀ := A, base := D.base, h₀ := g, outer := D.fenv :: D.outer, L := L', fenv := envOfC qual scope L' f cdv, env := envOfC qual scope L' f cdv,
                    mf := bindL (envOfC qual scope L' f cdv).kindOf (nm.zip (vs ++ dv)) fun _ => none, ce := [], xs := D.xs ++ D.ce, s₀ := D.s₀ }
  have hall := hvs.app (hdv as)
  have ok' : Ok G d D' := by
    refine ⟨B', X', T', by show (A.deeper _).frames = _; exact Around.frames_deeper (hfr.trans ok.frames), hh, rfl, hsk, by show A.depth + 1 + d < _; omega, by show A.units + 3 + 8 * d + 200 < _; omega, ok.nd, rfl, rfl, hsk, ?_, lam_of hlam⟩
    intro x hx'
    exact Option.isSome_iff_exists.mp (cellsFrom_some scope.names (L' + 1) [] (.inl hx'))
  have eled : D'.led cs = D.led cs := by show (D.xs ++ D.ce) ++ ([] ++ cs.flatten) = D.xs ++ (D.ce ++ cs.flatten); simp
  have H0 : HRel G D' as cs hp { s with heap := h₁, toks := tk } :=
    ⟨F', fun p hp => N' p (List.mem_append_right _ (eled ▸ hp)), by rw [eled]; exact H.nd, H.la, H.lc, H.cel, H.st⟩
  have hnod : ((nm.zip (vs ++ dv)).map (·.1)).Nodup := by rw [hzl]; exact hnn
  have hvlen : ((mvs ++ dm).map some ++ List.replicate k (none : Option MV)).length = tbl.length := by
    rw [List.length_append, List.length_map, List.length_replicate, List.length_append, hk]; omega
  have hval : ∀ {i : Nat} {m : MV}, (((mvs ++ dm).map some ++ List.replicate k none)[i]?).join = some m → i < nm.length ∧ ∃ v, (vs ++ dv)[i]? = some v ∧ VR as m v := by
    intro i m hi
    by_cases hlt : i < (mvs ++ dm).length
    · rw [List.getElem?_append_left (by simpa using hlt), List.getElem?_map] at hi
      obtain ⟨m', hm'⟩ : ∃ m', (mvs ++ dm)[i]? = some m' := ⟨_, List.getElem?_eq_getElem hlt⟩
      rw [hm'] at hi
      cases hi
      obtain ⟨v, hv, hr⟩ := hall.get hm'
      exact ⟨by rw [List.length_append] at hlt; omega, v, hv, hr⟩
    · exfalso
      rw [List.getElem?_append_right (by simpa using Nat.le_of_not_lt hlt)] at hi
      cases e : (List.replicate k (none : Option MV))[i - ((mvs ++ dm).map some).length]? with
      | none => rw [e] at hi; cases hi
      | some z =>
        obtain ⟨h, e'⟩ := List.getElem?_eq_some_iff.mp e
        rw [List.getElem_replicate] at e'
        rw [e, ← e'] at hi; cases hi
  obtain ⟨ts, e1, e2, e3⟩ := cells_trip (G := G) (as := as) (tbl := tbl) (vals := (mvs ++ dm).map some ++ List.replicate k none) Y (cn := cn) cnm (fun i hi => by
    obtain ⟨hi1, hi2⟩ := kinds i hi
    have nl : (envOfC qual scope L' f cdv).kindOf (tbl.getD i "") ≠ some .local := by
      intro z
      have z' : scope.names.lookup (tbl.getD i "") = some .local := z
      rw [hi2] at z'; cases z'
    cases e : (((mvs ++ dm).map some ++ List.replicate k none)[i]?).join with
    | some m =>
      obtain ⟨hlt, v, hv, hr⟩ := hval e
      have hz := zip_mem (List.getElem?_eq_getElem hlt) hv
      have : tbl.getD i "" = nm[i] := hgetD ((htget i hlt).trans (List.getElem?_eq_getElem hlt))
      rw [this] at nl ⊢
      exact ⟨v, bindC_at nl hnod hz, hr⟩
    | none =>
      show bindC _ _ _ _ = none
      refine bindC_off (fun p hp he => ?_)
      have : p.1 ∈ nm := hzl ▸ List.mem_map_of_mem (f := (·.1)) hp
      obtain ⟨j, hj⟩ := List.getElem?_of_mem this
      have hjl := (List.getElem?_eq_some_iff.mp hj).1
      have htj := (htget j hjl).trans hj
      rw [he] at htj
      have hti : tbl[i]? = some (tbl.getD i "") := by rw [List.getD_eq_getElem?_getD, List.getElem?_eq_getElem hi1]; rfl
      have hij : i = j := by
        obtain ⟨a1, b1⟩ := List.getElem?_eq_some_iff.mp hti
        obtain ⟨a2, b2⟩ := List.getElem?_eq_some_iff.mp htj
        exact (List.getElem_inj htn).mp (b1.trans b2.symm)
      subst hij
      have hlt : i < (mvs ++ dm).length := by rw [List.length_append]; omega
      rw [List.getElem?_append_left (by simpa using hlt), List.getElem?_map, List.getElem?_eq_getElem hlt] at e
      cases e)
  have ets : ts.map (·.1) = (cellsFrom (L' + 1) scope.names []).map (·.2) := by
    rw [← ckeys, ← e1, List.map_map]; rfl
  have H' := HRel.grows ts (h' := h₁) (tk := tk) H0 F' (fun p hp => by
    rw [e1] at hp
    rcases List.mem_append.mp hp with q | q
    · exact N' p (List.mem_append_left _ q)
    · exact H0.nw p q) (by rw [ets]; exact fr1) (fun t ht q hq e => by
    rw [eled] at hq
    have l1 := lt q hq
    have : t.1 ∈ (cellsFrom (L' + 1) scope.names []).map (·.2) := ets ▸ List.mem_map_of_mem (f := (·.1)) ht
    obtain ⟨p, hp1, ep⟩ := List.mem_map.mp this
    rcases fr2 p hp1 with z | z
    · cases z
    · rw [ep, ← e] at z
      exact absurd l1 (Nat.not_lt.mpr (Nat.le_of_succ_le z))) e3
  rw [e2, ets] at H'
  have L0 : LocRel D' (as ++ (cellsFrom (L' + 1) scope.names []).map (·.2)) tbl (locC hp.length cn ((mvs ++ dm).map some ++ List.replicate k none)) := by
    intro i m hi
    unfold locC at hi
    rw [List.getElem?_map] at hi
    obtain ⟨j, hj, hi⟩ := Option.map_eq_some_iff.mp hi
    obtain ⟨hj1, hj2⟩ := List.getElem?_eq_some_iff.mp hj
    rw [List.getElem_range] at hj2
    subst hj2
    rw [List.length_range, hvlen] at hj1
    split at hi
    · rename_i p hp
      cases hi
      have hcp := posOf_get hp
      obtain ⟨hi1, hi2⟩ := kinds i (List.mem_of_getElem? hcp)
      have hnp : ((cellsFrom (L' + 1) scope.names []).map (·.1))[p]? = some (tbl.getD i "") := by rw [cnm, List.getElem?_map, hcp]; rfl
      rw [List.getElem?_map] at hnp
      obtain ⟨⟨x, c⟩, hxc, ex⟩ := Option.map_eq_some_iff.mp hnp
      have ex : x = tbl.getD i "" := ex
      have hti : tbl[i]? = some (tbl.getD i "") := by rw [List.getD_eq_getElem?_getD, List.getElem?_eq_getElem hi1]; rfl
      refine ⟨_, .ref c, hti, ⟨c, ?_, rfl⟩, .inr (.inr ⟨.inl hi2, c, ?_, rfl⟩)⟩
      · rw [← H.la, List.getElem?_append_right (Nat.le_add_right _ _), Nat.add_sub_cancel_left, List.getElem?_map, hxc]; rfl
      · show (cellsFrom (L' + 1) scope.names []).lookup _ = _
        refine lookup_of_mem (by rw [cnm, ← hcn0]; exact hcn) ?_
        rw [← ex]
        exact List.mem_of_getElem? hxc
    · rename_i hp
      obtain ⟨hlt, v, hv, hr⟩ := hval hi
      have hnx : nm[i]? = some nm[i] := List.getElem?_eq_getElem hlt
      have hz := zip_mem hnx hv
      have hti := (htget i hlt).trans hnx
      have := List.all_eq_true.mp hloc i (List.mem_range.mpr hlt)
      rw [hp] at this
      have q : scope.names.lookup (tbl.getD i "") = some .local := by simpa using this
      rw [hgetD hti] at q
      exact ⟨nm[i], v, hti, hr.mono (Ext.app _ _), .inl ⟨rfl, q, bindL_at q hnod hz⟩⟩
  refine hx D' _ _ _ _ _ fl loc' h1 _ _ ok' rfl rfl rfl hb L0 H' fun fv as1 cs1 mf1 ce1 s1 x1 r1 k1 L1 H1 => ?_
  have ce0 : ce1 = [] := List.map_eq_nil_iff.mp k1
  subst ce0
  have eled1 : (D'.turn mf1 []).led cs1 = D.led cs1 := by show (D.xs ++ D.ce) ++ ([] ++ cs1.flatten) = D.xs ++ (D.ce ++ cs1.flatten); simp
  have xx := (Ext.app as ((cellsFrom (L' + 1) scope.names []).map (·.2))).trans x1
  refine ⟨L', mf1, D.led cs1, H1.fr, fun p hp => H1.nw p (eled1 ▸ hp), fun F2 N2 => ?_⟩
  have H2 : HRel G D as1 cs1 h1 s1 := ⟨F2, N2, by rw [← eled1]; exact H1.nd, H1.la, H1.lc, H1.cel, H1.st⟩
  cases fl with
  | ret m =>
    obtain ⟨v, rfl, hv⟩ := r1
    cases hF
    exact post v as1 cs1 s1 xx hv H2
  | next =>
    cases r1
    cases hF
    exact post _ as1 cs1 s1 xx rfl H2
  | brk => cases hF
  | cont => cases hF

section
variable {G : Glo} {sc : Scope} {tbl : List Str} {d : Nat}
theorem StI.retN {pos : Pos} : StI G sc tbl d (.Return none pos) sRetN := by
  intro D loc hp as cs s fl loc' hp' Q E ok hsc henv hL hf hl H post
  cases hf
  exact wpAny_Return_none (post _ as cs D.mf D.ce s (Ext.refl _) ⟨_, rfl, rfl⟩ rfl hl H)
theorem StI.pass {pos : Pos} : StI G sc tbl d (.Pass pos) sNil := by
  intro D loc hp as cs s fl loc' hp' Q E ok hsc henv hL hf hl H post
  cases hf
  exact wpAny_Pass (post _ as cs D.mf D.ce s (Ext.refl _) rfl rfl hl H)

noncomputable def cutM (a : Nat) (b : Option Nat) (ms : List MV) : List MV := match b with
  | none => ms.drop a
  | some b => (ms.drop a).take (b - a)
noncomputable def slO (a : Nat) (b : Option Nat) : MObj → Option MObj
  | .tup ms => if 1 ≤ a ∧ a ≤ ms.length ∧ a ≤ b.getD a ∧ b.getD 0 ≤ ms.length ∧ ms.length ≤ cap then some (.tup (cutM a b ms)) else none
  | .lst ms => if a ≤ ms.length ∧ a ≤ b.getD a ∧ b.getD 0 ≤ ms.length ∧ ms.length ≤ cap then some (.lst (cutM a b ms)) else none
  | _ => none
noncomputable def oSl (a : Nat) (b : Option Nat) (m : MV) (hp : MHeap) : Option (MV × MHeap) := (locOf m).bind fun l => (hp[l]?).bind fun o => (slO a b o).bind fun o => some (.loc hp.length, hp ++ [o])
theorem sl_at {a : Nat} {b : Option Nat} {hp : MHeap} {l : Nat} {o o' : MObj} (h : hp[l]? = some o) (e : slO a b o = some o') : oSl a b (.loc l) hp = some (.loc hp.length, hp ++ [o']) := by
  show ((hp[l]?).bind fun o => (slO a b o).bind fun o => some (MV.loc hp.length, hp ++ [o])) = _
  rw [h]
  show (slO a b o).bind _ = _
  rw [e]; rfl
theorem VRs.drop {as : List Addr} {ms : List MV} : ∀ (n : Nat) {vs : List Value}, VRs as ms vs → VRs as (ms.drop n) (vs.drop n) := by
  induction ms with
  | nil => intro n vs h; cases h; rw [List.drop_nil, List.drop_nil]; rfl
  | cons m ms ih =>
    rintro n _ ⟨v, r, rfl, a, b⟩
    cases n with
    | zero => exact ⟨v, r, rfl, a, b⟩
    | succ n => exact ih n b
theorem VRs.take {as : List Addr} {ms : List MV} : ∀ (n : Nat) {vs : List Value}, VRs as ms vs → VRs as (ms.take n) (vs.take n) := by
  induction ms with
  | nil => intro n vs h; cases h; rw [List.take_nil, List.take_nil]; rfl
  | cons m ms ih =>
    rintro n _ ⟨v, r, rfl, a, b⟩
    cases n with
    | zero => exact rfl
    | succ n => exact ⟨v, _, rfl, a, ih n b⟩
theorem adjust_cut (a b n : Nat) (ha : a ≤ n) (hb : b ≤ n) : Builtin.Slice.sliceAdjust (some (a : Int)) (some (b : Int)) 1 (n : Int) = ((a : Int), (b : Int)) := by
  unfold Builtin.Slice.sliceAdjust
  have h1 : ¬ ((1 : Int) < 0) := by omega
  have h2 : ¬ ((a : Int) < 0) := by omega
  have h3 : ¬ ((b : Int) < 0) := by omega
  simp only [h1, h2, h3, if_false]
  congr 1 <;> omega
theorem places_cut (a b : Nat) (h : a ≤ b) : Builtin.Slice.slicePlaces (a : Int) (b : Int) 1 = b - a := places_from a b h
theorem sliceApplied_cut {prog : Program} {w : World} {A : Around} {E : Value → Shared → Prop} {s : Shared} {sl : Addr} {a b n : Nat} {u v : Tok} {Q : Int × Int × Nat → Shared → Prop} (hs : s.heap.IsSliceOf sl (.int a u) (.int b v) .none) (ha : a ≤ b) (hb : b ≤ n) (h : Q ((a : Int), 1, b - a) s) :
    wpAny (model prog w) A (Builtin.Slice.sliceApplied (.ref sl) (pure (n : Int))) Q E s := by
  obtain ⟨os, hos, hcs, hds⟩ := id hs
  unfold Builtin.Slice.sliceApplied Builtin.Slice.sliceFields
  refine wpAny_bind (wpAny_bind (wpAny_field hos hds (x := .int a u) rfl (wpAny_bind (wpAny_field hos hds (x := .int b v) rfl (wpAny_bind (wpAny_field hos hds (x := .none) rfl (wpAny_pure ?_)))))))
  refine wpAny_bind (slicePart_none ?_)
  show wpAny _ _ (if ((1 : Int) == 0) = true then _ else _) _ _ s
  rw [if_neg (by decide)]
  refine wpAny_bind (slicePart_int (wpAny_bind (slicePart_int (wpAny_bind (wpAny_pure ?_)))))
  show wpAny _ _ (match Builtin.Slice.sliceAdjust (some (a : Int)) (some (b : Int)) 1 (n : Int) with | (lo, hi) => pure (lo, (1 : Int), Builtin.Slice.slicePlaces lo hi 1)) _ _ s
  rw [adjust_cut a b n (Nat.le_trans ha hb) hb]
  show wpAny _ _ (pure ((a : Int), (1 : Int), Builtin.Slice.slicePlaces (a : Int) (b : Int) 1)) _ _ s
  rw [places_cut a b ha]
  exact wpAny_pure h
theorem pick_cut (xs : Array Value) (a k : Nat) : ((List.range k).filterMap fun (i : Nat) => xs[((a : Int) + (i : Int) * 1).toNat]?).toArray = ((xs.toList.drop a).take k).toArray := by
  have e : (fun (i : Nat) => xs[((a : Int) + (i : Int) * 1).toNat]?) = fun i => xs[a + i]? := by
    funext i
    have : ((a : Int) + (i : Int) * 1).toNat = a + i := by omega
    rw [this]
  rw [e]
  have := pick_run xs a k
  rw [List.filterMap_map] at this
  have e2 : ((fun x => xs[x]?) ∘ fun x => a + x) = fun i => xs[a + i]? := rfl
  rw [e2] at this
  rw [this]
theorem getItem_tuple_cut {prog : Program} {w : World} {A : Around} {E : Value → Shared → Prop} {s : Shared} {t sl : Addr} {items : Array Value} {a b : Nat} {u v : Tok} {Q : Value → Shared → Prop} (ht : IsTup s.heap t items) (hs : s.heap.IsSliceOf sl (.int a u) (.int b v) .none) (h1 : 1 ≤ a) (ha : a ≤ b) (hb : b ≤ items.size)
    (h : Q (.ref s.heap.objs.size) { s with heap := s.heap.push { cls := .type "tuple", data := .seq ((items.toList.drop a).take (b - a)).toArray } })
    (hsz : items.size ≤ sizeLine) : wpAny (model prog w) A (getItem (.ref t) (.ref sl)) Q E s := by
  have hdrop : sizeOk (.seq ((items.toList.drop a).take (b - a)).toArray) := by
    show ((items.toList.drop a).take (b - a)).toArray.size ≤ sizeLine
    rw [List.size_toArray, List.length_take, List.length_drop, Array.length_toList]
    omega
  obtain ⟨os, hos, hcs, hds⟩ := id hs
  have hTs : s.TypeIs (.ref sl) "slice" := ⟨os, hos, hcs⟩
  unfold getItem
  try with_reducible refine wpAny_holding ?_
  first | refine wpAny_bind (wpAny_pure ?_) | skip
  refine wpAny_bind (wpAny_sequenceKey ht.typeIs (by decide) ?_)
  refine wpAny_bind (wpAny_callSpecial?_slot (name := Str.ofString "__getitem__") ht.typeIs slot_tuple_getitem
    (wpAny_call_entry slot_tuple_getitem ht.typeIs entry_tuple_getitem ?_ (args_tuple_getitem _ _)))
  show wpAny _ _ (Builtin.Tuple.tupleItemsOf (.ref t) >>= _) _ _ s
  refine wpAny_bind (tupleItemsOf_ ht ?_)
  refine wpAny_bind (wpAny_typeOf hTs ?_)
  rw [if_pos (by decide)]
  refine wpAny_bind (sliceApplied_cut hs ha hb ?_)
  have hno : ¬ (((a : Int) == 0 && (1 : Int) == 1 && (b - a) == items.size) = true) := by
    have : ((a : Int) == 0) = false := by rw [beq_eq_false_iff_ne]; omega
    rw [this]; simp
  show wpAny _ _ (if ((a : Int) == 0 && (1 : Int) == 1 && (b - a) == items.size) = true then _ else _) _ _ s
  rw [if_neg hno, pick_cut items a]
  first
    | exact wpAny_bind (m := Builtin.Tuple.tupleExact _) (wpAny_newObj_type (wpAny_pure ⟨_, rfl, wpAny_pure h⟩) hdrop)
    | exact wpAny_bind (m := Builtin.Tuple.tupleExact _) (wpAny_newObj_type (wpAny_bind (wpAny_pure (wpAny_pure ⟨_, rfl, wpAny_pure h⟩))) hdrop)
    | exact wpAny_bind (wpAny_bind (m := Builtin.Tuple.tupleExact _) (wpAny_newObj_type (wpAny_pure (wpAny_pure ⟨_, rfl, wpAny_pure h⟩)) hdrop))
    | exact wpAny_bind (wpAny_bind (m := Builtin.Tuple.tupleExact _) (wpAny_newObj_type (wpAny_pure ⟨_, rfl, wpAny_pure h⟩) hdrop))

theorem IsTup.pushed {h : Heap} {a : Addr} {us : Array Value} (x : IsTup h a us) (o : Obj) : IsTup (h.push o) a us := x.keeps fun _ _ e => Heap.get?_push_of_some _ e

noncomputable def PartI (G : Glo) (sc : Scope) (tbl : List Str) (d : Nat) : Option Expr → Option Nat → Prop
  | none, none => True
  | some e, some b => EvI G sc tbl d e (eC (.int b))
  | _, _ => False
noncomputable def PartR (b : Option Nat) (vu : Value) : Prop := match b with
  | none => vu = .none
  | some b => ∃ t, vu = .int b t
noncomputable def eSl (a : Nat) (b : Option Nat) (f : EFun) : EFun := fun loc hp => (f loc hp).bind fun r => oSl a b r.1 r.2
theorem slice_I {D : Dyn} {as : List Addr} {cs : List (List (Addr × Obj))} {hp hp' : MHeap} {s : Shared} {m mv : MV} {v vu : Value} {a : Nat} {b : Option Nat} {u : Tok} {Q : Value → Shared → Prop} {E : Value → Shared → Prop} {A : Around} {value slice : Expr}
    (hf : oSl a b m hp = some (mv, hp')) (r : VR as m v) (hu : PartR b vu) (H : HRel G D as cs hp s)
    (hs : ∀ o i, subscripted slice false o i = operate [i, o] (getItem o i))
    (post : ∀ v as' cs' s', Ext as as' → VR as' mv v → HRel G D as' cs' hp' s' → Q v s') :
    wpAny G.M A (subscriptTail value slice v (.ref s.heap.objs.size)) Q E { s with heap := s.heap.push { cls := .type "slice", data := .fields #[.int a u, vu, .none] } } := by
  have HP := H.push { cls := .type "slice", data := .fields #[.int a u, vu, .none] }
  replace hf := bind_some hf; obtain ⟨l, h1, hf⟩ := hf
  replace hf := bind_some hf; obtain ⟨o, hl, hf⟩ := hf
  replace hf := bind_some hf; obtain ⟨o', hs', hf⟩ := hf
  cases hf
  obtain ⟨ad, ha, rfl⟩ := r.loc h1
  obtain ⟨a', c, q1, q2, q3⟩ := HP.cel _ _ hl
  rw [ha] at q1; cases q1
  have hg := fun p hp => (HP.nw p (mem_led (D := D) q2 hp)).1
  have x := Ext.app as [(s.heap.push { cls := .type "slice", data := .fields #[.int a u, vu, .none] }).objs.size]
  have fin := fun o (hz : o.isFreed = false) (k : Cell G _ _ o' [(_, o)]) => post _ _ _ _ x (VR.last HP) (HP.lay hz k)
  clear post h1 hl q2 H r
  cases o with
  | tup ms =>
    obtain ⟨hc, e'⟩ := if_some hs'
    cases e'
    obtain ⟨us, n, rfl, q3⟩ := q3
    have e := size_len q3
    have it := isTup_of (hg _ (.head _))
    have hz := small hc.2.2.2.2 e
    rw [← e] at hc
    cases b with
    | none =>
      cases (show vu = .none from hu)
      exact tail_any (ops := _) it.typeIs slot_tuple_getitem.lookup (getItem_tuple_from it (Heap.IsSliceOf.new ..) hc.1 hc.2.1 (fin _ rfl ⟨_, _, rfl, (q3.drop a).mono x⟩) hz) (hs _ _)
    | some b =>
      obtain ⟨t, rfl⟩ := hu
      exact tail_any (ops := _) it.typeIs slot_tuple_getitem.lookup (getItem_tuple_cut it (Heap.IsSliceOf.new ..) hc.1 hc.2.2.1 hc.2.2.2.1 (fin _ rfl ⟨_, _, rfl, ((q3.drop a).take (b - a)).mono x⟩) hz) (hs _ _)
  | lst ms =>
    obtain ⟨hc, e'⟩ := if_some hs'
    cases e'
    obtain ⟨us, n, rfl, q3⟩ := q3
    have e := size_len q3
    have it := isList_of (hg _ (.head _))
    have hz := small hc.2.2.2 e
    rw [← e] at hc
    cases b with
    | none =>
      cases (show vu = .none from hu)
      refine tail_any (ops := _) it.typeIs slot_list_getitem.lookup (wpAny_getItem_list_slice it (Heap.IsSliceOf.new ..) (.int _ _) .none .none (fun e => nomatch e) (fin _ rfl ⟨_, _, rfl, ?_⟩) hz) (hs _ _)
      rw [slicePick_from us a hc.1]
      exact (q3.drop a).mono x
    | some b =>
      obtain ⟨t, rfl⟩ := hu
      refine tail_any (ops := _) it.typeIs slot_list_getitem.lookup (wpAny_getItem_list_slice it (Heap.IsSliceOf.new ..) (.int _ _) (.int _ _) .none (fun e => nomatch e) (fin _ rfl ⟨_, _, rfl, ?_⟩) hz) (hs _ _)
      rw [slicePick_run us a b hc.2.2.1 hc.2.1]
      exact ((q3.drop a).take (b - a)).mono x
  | _ => cases hs'
theorem EvI.slice {v lo : Expr} {hi : Option Expr} {p pos : Pos} {f : EFun} (a : Nat) (b : Option Nat) (hv : EvI G sc tbl d v f) (hlo : EvI G sc tbl d lo (eC (.int a))) (hhi : PartI G sc tbl d hi b) : EvI G sc tbl d (.Subscript v (.Slice (some lo) hi none p) pos) (eSl a b f) := by
  intro D loc hp as cs s mv hp' Q E ok hsc hfu hl H post
  replace hfu := bind_some hfu; obtain ⟨⟨m, h1⟩, hm, hfu⟩ := hfu
  refine Subscript_ (hv D loc hp as cs s m h1 _ _ ok hsc hm hl H fun vv as1 cs1 s1 x1 r1 H1 => ?_)
  refine wpAny_Slice (hlo D loc h1 as1 cs1 s1 (.int a) h1 _ _ ok hsc rfl (hl.mono x1) H1 fun va as2 cs2 s2 x2 r2 H2 => ?_)
  obtain ⟨u, rfl⟩ := r2
  have fin : ∀ (vu : Value) (as3 : List Addr) (cs3 : List (List (Addr × Obj))) (s3 : Shared), Ext as2 as3 → PartR b vu → HRel G D as3 cs3 h1 s3 →
      wpAny G.M D.A (evalPart none D.env) (fun st s₃ => wpAny G.M D.A (subscriptTail v (.Slice (some lo) hi none p) vv (.ref s₃.heap.objs.size)) Q E { s₃ with heap := s₃.heap.push { cls := .type "slice", data := .fields #[.int a u, vu, st] } }) E s3 := by
    intro vu as3 cs3 s3 x3 hu H3
    refine wpAny_pure ?_
    have x13 := x2.trans x3
    exact slice_I hfu (r1.mono x13) hu H3 (fun _ _ => rfl) fun w as4 cs4 s4 x4 r4 H4 => post w as4 cs4 s4 ((x1.trans x13).trans x4) r4 H4
  cases hi with
  | none =>
    cases b with
    | none => exact wpAny_pure (fin .none as2 cs2 s2 (Ext.refl _) rfl H2)
    | some b => exact hhi.elim
  | some e =>
    cases b with
    | none => exact hhi.elim
    | some b =>
      exact hhi D loc h1 as2 cs2 s2 (.int b) h1 _ _ ok hsc rfl (hl.mono (x1.trans x2)) H2 fun vb as3 cs3 s3 x3 r3 H3 => fin vb as3 cs3 s3 x3 r3 H3
end
end Mine
end

section
open PySem PySem.W PySem.Calls PyProof.Rows PyProof.Rows.LCg
set_option maxRecDepth 100000
namespace Mine

noncomputable def fList : List MV → MHeap → Option (MV × MHeap) := fun vs hp => (one? vs).bind fun m => (locOf m).bind fun l => (lstAt hp l).bind fun ms => if ms.length ≤ cap then some (.loc hp.length, hp ++ [.lst ms]) else none
noncomputable def fTuple : List MV → MHeap → Option (MV × MHeap) := fun vs hp => (one? vs).bind fun m => (locOf m).bind fun l => (lstAt hp l).bind fun ms => if ms.length ≤ cap then some (.loc hp.length, hp ++ [.tup ms]) else none
noncomputable def fItems : List MV → MHeap → Option (MV × MHeap) := fun vs hp => (one? vs).bind fun m => (locOf m).bind fun l => (dctAt hp l).bind fun _ => some (.loc hp.length, hp ++ [.itm l])
section
variable {G : Glo} {sc : Scope} {tbl : List Str} {d : Nat}

theorem HRel.above {D : Dyn} {as : List Addr} {cs : List (List (Addr × Obj))} {hp : MHeap} {s : Shared} (H : HRel G D as cs hp s) {a : Addr} {o : Obj} {mo : MObj} {h' : Heap} (tk : Nat) (F : Fr D.h₀ D.L h' D.mf) (N : News D.h₀ D.L h' ((a, o) :: D.led cs)) (lt : ∀ q ∈ D.led cs, q.1 < a)
    (k : Cell G (as ++ [a]) a mo [(a, o)]) : HRel G D (as ++ [a]) (cs ++ [[(a, o)]]) (hp ++ [mo]) { s with heap := h', toks := tk } :=
  H.grow tk F N (by simp) (by intro p hp q hq; rw [List.mem_singleton] at hp; subst hp; exact Nat.ne_of_lt (lt q hq)) k
theorem ClI.list1 : ClI G d (.type "list") fList := by
  intro D hp as cs s mvs vs mv hp' Q E ok hF r H post
  replace hF := bind_some hF; obtain ⟨m, h1, hF⟩ := hF
  replace hF := bind_some hF; obtain ⟨l, h2, hF⟩ := hF
  replace hF := bind_some hF; obtain ⟨ms, hl, hF⟩ := hF
  replace hF := if_some hF; obtain ⟨hc, hF⟩ := hF
  cases hF
  obtain ⟨v, rfl, hv⟩ := r.one? h1
  obtain ⟨a, us, n, rfl, _, _, q3, q4, _⟩ := H.lstV hv h2 hl
  exact list_copyK H.fr H.nw (isList_of q4) (fun b c h' F N lt => post _ _ _ _ (Ext.app as [b]) (VR.last H) (H.above s.toks F N lt ⟨us, c, rfl, q3.mono (Ext.app as [b])⟩)) (small hc (size_len q3))
theorem ClI.tuple1 : ClI G d (.type "tuple") fTuple := by
  intro D hp as cs s mvs vs mv hp' Q E ok hF r H post
  replace hF := bind_some hF; obtain ⟨m, h1, hF⟩ := hF
  replace hF := bind_some hF; obtain ⟨l, h2, hF⟩ := hF
  replace hF := bind_some hF; obtain ⟨ms, hl, hF⟩ := hF
  replace hF := if_some hF; obtain ⟨hc, hF⟩ := hF
  cases hF
  obtain ⟨v, rfl, hv⟩ := r.one? h1
  obtain ⟨a, us, n, rfl, _, _, q3, q4, _⟩ := H.lstV hv h2 hl
  refine call_tuple_list (isList_of q4) (fun h' hk => ?_) (small hc (size_len q3))
  have HK := H.keeps (h' := h') s.toks hk
  exact post _ _ _ _ (Ext.app as [h'.objs.size]) (VR.last HK) (HK.lay rfl ⟨us, 0, rfl, q3.mono (Ext.app as [h'.objs.size])⟩)
theorem ClI.items (hs : (G.K.lookup sysModules).isSome = true) : ClI G d (.builtin "dict.items") fItems := by
  intro D hp as cs s mvs vs mv hp' Q E ok hF r H post
  replace hF := bind_some hF; obtain ⟨m, h1, hF⟩ := hF
  replace hF := bind_some hF; obtain ⟨l, h2, hF⟩ := hF
  replace hF := bind_some hF; obtain ⟨ms, hl, hF⟩ := hF
  cases hF
  obtain ⟨v, rfl, hv⟩ := r.one? h1
  obtain ⟨a, o, kv, rfl, ha, _, q3, q4, _, q7, _⟩ := H.dctV hv h2 hl
  exact kdx_view H.fr H.nw q7 q3 (H.low ok.kin hs q7) (fun b h' F N lt => post _ _ _ _ (Ext.app as [b]) (VR.last H) (H.above s.toks F N lt ⟨a, Ext.app as [b] _ _ ha, rfl⟩))
end

noncomputable def intPairs : List (Int × MV) → Option (List (Int × Int))
  | [] => some []
  | p :: r => (intOf p.2).bind fun n => (intPairs r).bind fun ps => some ((p.1, n) :: ps)
noncomputable def plt (a b : Int × Int) : Bool := if a.1 == b.1 then decide (a.2 < b.2) else decide (a.1 < b.1)
noncomputable def runT {α : Type} (cmp : Nat → Nat → Bool) : KasT α → α
  | .ret a => a
  | .ask i j k => runT cmp (k (cmp i j))
noncomputable def askOk {α : Type} (n : Nat) : KasT α → Bool
  | .ret _ => true
  | .ask i j k => decide (i < n) && decide (j < n) && askOk n (k true) && askOk n (k false)
noncomputable def sortIdx (ps : List (Int × Int)) : List Nat :=
  if ps.length < 2 then List.range ps.length else (runT (fun i j => plt (ps.getD i (0, 0)) (ps.getD j (0, 0))) (kas_sort ps.length)).toList
noncomputable def itmOf : MObj → Option Nat
  | .itm l => some l
  | _ => none
theorem itmOf_some {m : MObj} {l : Nat} (h : itmOf m = some l) : m = .itm l := by
  cases m <;> first | (cases h; rfl) | cases h
noncomputable def fSortItems : List MV → MHeap → Option (MV × MHeap) := fun vs hp => (one? vs).bind fun m => (locOf m).bind fun v => (hp[v]?).bind fun o => (itmOf o).bind fun l => (dctAt hp l).bind fun ks => (intPairs ks).bind fun ps =>
  if ps.length ≤ 3 ∧ ((sortIdx ps).all fun i => decide (i < ps.length)) = true then
    some (.loc (hp.length + ps.length), (hp ++ ps.map fun p => MObj.tup [.int p.1, .int p.2]) ++ [.lst ((sortIdx ps).map fun i => .loc (hp.length + i))]) else none
theorem kasWp_run {α : Type} {ask : Nat → Nat → (Bool → Shared → Prop) → Shared → Prop} {cmp : Nat → Nat → Bool} {n : Nat} {s : Shared} (ha : ∀ i j C, i < n → j < n → C (cmp i j) s → ask i j C s)
    {t : KasT α} {Q : α → Shared → Prop} : askOk n t = true → Q (runT cmp t) s → t.kasWp ask Q s := by
  induction t with
  | ret a => exact fun _ h => h
  | ask i j k ih =>
    intro ho h
    replace ho : (decide (i < n) && decide (j < n) && askOk n (k true) && askOk n (k false)) = true := ho
    rw [Bool.and_eq_true, Bool.and_eq_true, Bool.and_eq_true, decide_eq_true_eq, decide_eq_true_eq] at ho
    refine ha i j _ ho.1.1.1 ho.1.1.2 (ih _ ?_ h)
    cases cmp i j
    · exact ho.2
    · exact ho.1.2
theorem askOk2 : askOk 2 (kas_sort 2) = true := by decide
theorem askOk3 : askOk 3 (kas_sort 3) = true := by decide

section
variable {prog : Program} {w : World} {A : Around} {E : Value → Shared → Prop} {s : Shared}
theorem sort1 {D : Addr} {its : Array Value} {n : Nat} {Q : Value → Shared → Prop} (ho : s.heap.get? D = some (listOf its n)) (h2 : its.size < 2)
    (post : ∀ h' c, (∀ b o, b ≠ D → s.heap.get? b = some o → h'.get? b = some o) → h'.get? D = some (listOf its c) → Q .none { s with heap := h' }) : wpAny (model prog w) A (call (.builtin "list.sort") [.ref D]) Q E s := by
  refine wpAny_call_entry slot_list_sort ⟨_, ho, rfl⟩ entry_list_sort ?_ (args_list_sort _)
  rw [list_sort_plain]
  have ha : D < s.heap.objs.size := Heap.lt_size ho
  have hz : sizeLine = 2 ^ 24 := rfl
  refine wpAny_bind (listItems_at ho rfl ?_)
  refine wpAny_bind (listUpdate_at ho rfl ?_ (by omega) (by show (0 : Nat) ≤ _; omega))
  obtain ⟨e1, ho1⟩ : ∃ e1, (s.heap.update D (Obj.mapSeq fun _ => #[])).get? D = some (seqObj "list" #[] e1) := ⟨_, get?_update_seq ho (fun _ => #[])⟩
  refine wpAny_bind (seqEpoch_at ho1 rfl ?_)
  refine wpAny_bind (wpAny_newTuple ?_ (by rw [Array.length_toList]; omega))
  refine wpAny_bind (wpAny_newList ?_)
  refine wpAny_holding ?_
  have ho6 : (((s.heap.update D (Obj.mapSeq fun _ => #[])).push (seqObj "tuple" its.toList.toArray 0)).push (seqObj "list" #[] 0)).get? D = some (seqObj "list" #[] e1) := by
    rw [Heap.get?_push_ne _ _ _ (by rw [size_push', Heap.size_update]; exact Nat.ne_of_lt (Nat.lt_succ_of_lt ha)), Heap.get?_push_ne _ _ _ (by rw [Heap.size_update]; exact Nat.ne_of_lt ha)]
    exact ho1
  show wpAny (model prog w) A.in1 _ _ E { s with heap := ((s.heap.update D (Obj.mapSeq fun _ => #[])).push (seqObj "tuple" its.toList.toArray 0)).push (seqObj "list" #[] 0) }
  dsimp only
  rw [if_pos h2, if_pos h2]
  refine wpAny_bind (wpAny_pure ?_)
  rw [StateT.run_pure]
  refine wpAny_bind (wpAny_pure ?_)
  dsimp only
  refine wpAny_bind (seqEpoch_at ho6 rfl ?_)
  have eout : (arrOf (SortSt.mk' general' (its.zip its) #[] 7 none)).map (·.2) = its := by
    show (its.zip its).map (·.2) = its
    exact Array.map_snd_zip (Nat.le_refl _)
  refine wpAny_bind (listUpdate_at ho6 rfl ?_ (by show (0 : Nat) ≤ _; omega) (by rw [eout]; omega))
  simp only [bne_self_eq_false, Bool.false_eq_true, if_false]
  refine wpAny_pure ⟨_, rfl, ?_⟩
  rw [eout]
  refine post _ _ (fun b o hb e => ?_) (get?_update_seq ho6 (fun _ => its))
  refine ((Heap.SameBut.update ..).2 b hb).trans ?_
  refine Heap.get?_push_of_some _ (Heap.get?_push_of_some _ ?_)
  exact ((Heap.SameBut.update ..).2 b hb).trans e
end

noncomputable def tupsOf (l : List (Addr × Tok)) (r : List ((Tok → Value) × Value)) : List (Addr × Obj) := (l.zip r).map fun z => (z.1.1, ({ cls := .type "tuple", data := .seq #[z.2.1 z.1.2, z.2.2] } : Obj))
theorem open_all {lo : Addr} {news : List (Addr × Obj)} (ps : List ((Tok → Value) × Value)) : ∀ (vs : List Value) (tups : List (Addr × Obj)) (C : List Value → List (Addr × Obj) → Prop),
    (∀ l : List (Addr × Tok), l.length = ps.length → (l.map (·.1)).Nodup → (∀ a ∈ l, (∀ q ∈ news, q.1 < a.1) ∧ ∀ q ∈ tups, q.1 < a.1) → C (vs ++ l.map fun a => .ref a.1) ((tupsOf l ps).reverse ++ tups)) → KdxOpen lo news ps vs tups C := by
  induction ps with
  | nil =>
    intro vs tups C h
    have := h [] rfl List.nodup_nil (fun _ h => nomatch h)
    rw [List.map_nil, List.append_nil] at this
    exact this
  | cons p r ih =>
    intro vs tups C h a t _ h1 h2
    refine ih _ _ C fun l hl hn hab => ?_
    have := h ((a, t) :: l) (congrArg (· + 1) hl) (by
      rw [List.map_cons]
      refine List.nodup_cons.mpr ⟨fun z => ?_, hn⟩
      obtain ⟨b, hb, e⟩ := List.mem_map.mp z
      have := (hab b hb).2 _ (.head _)
      dsimp only at this e
      rw [e] at this
      exact Nat.lt_irrefl _ this) (fun b hb => by
      rcases List.mem_cons.mp hb with rfl | hb
      · exact ⟨h1, h2⟩
      · exact ⟨(hab b hb).1, fun q hq => (hab b hb).2 q (List.mem_cons_of_mem _ hq)⟩)
    rw [show tupsOf ((a, t) :: l) (p :: r) = (a, ({ cls := .type "tuple", data := .seq #[p.1 t, p.2] } : Obj)) :: tupsOf l r from rfl, List.reverse_cons, List.append_assoc] at this
    rw [List.append_assoc]
    exact this
end Mine
end

section
open PySem PySem.W PySem.Calls PyProof.Rows PyProof.Rows.LCg
set_option maxRecDepth 100000
namespace Mine

noncomputable def tripO (l : List (Addr × Tok)) (ps : List (Int × Int × Tok)) : List (Addr × Obj × MObj) := (l.zip ps).map fun z => (z.1.1, ({ cls := .type "tuple", data := .seq #[.int z.2.1 z.1.2, .int z.2.2.1 z.2.2.2] } : Obj), MObj.tup [.int z.2.1, .int z.2.2.1])
theorem tripO_fst {l : List (Addr × Tok)} {ps : List (Int × Int × Tok)} (h : l.length = ps.length) : (tripO l ps).map (·.1) = l.map (·.1) := by
  unfold tripO
  rw [List.map_map, ← List.map_fst_zip (Nat.le_of_eq h), List.map_map, List.map_fst_zip (Nat.le_of_eq h)]
  rfl
theorem tripO_obj {l : List (Addr × Tok)} {ps : List (Int × Int × Tok)} : (tripO l ps).map (fun t => (t.1, t.2.1)) = tupsOf l (ps.map fun p => (kyVal (PyData.int p.1), Value.int p.2.1 p.2.2)) := by
  unfold tripO tupsOf
  rw [List.zip_map_right, List.map_map, List.map_map]
  rfl
theorem tripO_m {l : List (Addr × Tok)} {ps : List (Int × Int × Tok)} (h : l.length = ps.length) : (tripO l ps).map (·.2.2) = ps.map fun p => MObj.tup [.int p.1, .int p.2.1] := by
  unfold tripO
  rw [List.map_map, ← List.map_snd_zip (l₁ := l) (Nat.le_of_eq h.symm), List.map_map, List.map_snd_zip (Nat.le_of_eq h.symm)]
  rfl
theorem tripO_get {l : List (Addr × Tok)} {ps : List (Int × Int × Tok)} {i : Nat} {p : Int × Int × Tok} (hl : l.length = ps.length) (h : ps[i]? = some p) : ∃ a, l[i]? = some a ∧ (a.1, ({ cls := .type "tuple", data := .seq #[.int p.1 a.2, .int p.2.1 p.2.2] } : Obj)) ∈ (tripO l ps).map (fun t => (t.1, t.2.1)) := by
  have hi : i < l.length := hl ▸ (List.getElem?_eq_some_iff.mp h).1
  refine ⟨l[i], List.getElem?_eq_getElem hi, List.mem_map.mpr ⟨_, List.mem_map.mpr ⟨(l[i], p), List.mem_of_getElem? (i := i) ?_, rfl⟩, rfl⟩⟩
  rw [List.getElem?_zip_eq_some]
  exact ⟨List.getElem?_eq_getElem hi, h⟩
theorem tripO_cell {G : Glo} {as : List Addr} {l : List (Addr × Tok)} {ps : List (Int × Int × Tok)} (t : Addr × Obj × MObj) (h : t ∈ tripO l ps) : Cell G as t.1 t.2.2 [(t.1, t.2.1)] := by
  obtain ⟨z, _, rfl⟩ := List.mem_map.mp h
  exact ⟨_, 0, rfl, ⟨_, _, rfl, ⟨_, rfl⟩, ⟨_, _, rfl, ⟨_, rfl⟩, rfl⟩⟩⟩

theorem pairs_of {as : List Addr} {ks : List (Int × MV)} : ∀ {kv : List (Int × Value)} {ps : List (Int × Int)}, KR as ks kv → intPairs ks = some ps →
    ∃ qs : List (Int × Int × Tok), kv = qs.map (fun q => (q.1, Value.int q.2.1 q.2.2)) ∧ ps = qs.map fun q => (q.1, q.2.1) := by
  induction ks with
  | nil => intro kv ps r h; cases r; cases h; exact ⟨[], rfl, rfl⟩
  | cons p ks ih =>
    rintro _ ps ⟨v, r, rfl, hv, b⟩ h
    replace h := bind_some h; obtain ⟨n, hn, h⟩ := h
    replace h := bind_some h; obtain ⟨ps', h1, h⟩ := h
    cases h
    obtain ⟨t, rfl⟩ := hv.int hn
    obtain ⟨qs, rfl, rfl⟩ := ih b h1
    exact ⟨(p.1, n, t) :: qs, rfl, rfl⟩
theorem updA_updA {d : Addr} {o o' : Obj} {l : List (Addr × Obj)} : updA d o (updA d o' l) = updA d o l := by
  unfold updA
  rw [List.map_map]
  refine List.map_congr_left fun p _ => ?_
  show (if (if p.1 = d then (d, o') else p).1 = d then (d, o) else (if p.1 = d then (d, o') else p)) = if p.1 = d then (d, o) else p
  by_cases h : p.1 = d
  · rw [if_pos h, if_pos h, if_pos rfl]
  · rw [if_neg h, if_neg h]
theorem VRs.locs {as : List Addr} {b : Nat} {l : List Addr} (h : ∀ i a, l[i]? = some a → as[b + i]? = some a) {is : List Nat} : (∀ i ∈ is, i < l.length) → VRs as (is.map fun i => .loc (b + i)) (is.map fun i => (l.map Value.ref).getD i .none) := by
  induction is with
  | nil => exact fun _ => rfl
  | cons i is ih =>
    intro hi
    have hl := hi i (.head _)
    refine ⟨_, _, rfl, ⟨l[i], h i _ (List.getElem?_eq_getElem hl), ?_⟩, ih (fun j hj => hi j (List.mem_cons_of_mem _ hj))⟩
    show (List.map Value.ref l).getD i .none = _
    rw [List.getD_eq_getElem?_getD, List.getElem?_map, List.getElem?_eq_getElem hl]
    rfl
noncomputable def firstsO (l : List (Addr × Tok)) (ps : List (Int × Int × Tok)) : List Value := (l.zip ps).map fun z => .int z.2.1 z.1.2
theorem firstsO_len {l : List (Addr × Tok)} {ps : List (Int × Int × Tok)} (h : l.length = ps.length) : (firstsO l ps).length = ps.length := by
  unfold firstsO
  rw [List.length_map, List.length_zip, h, Nat.min_self]
theorem firstsO_int {l : List (Addr × Tok)} {ps : List (Int × Int × Tok)} (v : Value) (h : v ∈ firstsO l ps) : ∃ i t, v = .int i t := by
  obtain ⟨z, _, rfl⟩ := List.mem_map.mp h
  exact ⟨_, _, rfl⟩
theorem katTups_of {h : Heap} {l : List (Addr × Tok)} : ∀ {ps : List (Int × Int × Tok)}, l.length = ps.length → (∀ p ∈ (tripO l ps).map (fun t => (t.1, t.2.1)), h.get? p.1 = some p.2) → KatTups h ((l.map (·.1)).map Value.ref) (firstsO l ps) := by
  induction l with
  | nil => intro ps hl _; cases ps with
    | nil => trivial
    | cons _ _ => cases hl
  | cons a l ih => intro ps hl hg; cases ps with
    | nil => cases hl
    | cons p r => exact KatTups.cons (hg _ (.head _)) rfl rfl rfl (ih (Nat.succ.inj hl) fun q hq => hg q (List.mem_cons_of_mem _ hq))
theorem last_at {α : Type} {l : List α} {n : Nat} {X : α} (h : l.length = n) : (l ++ [X])[n]? = some X := by rw [← h]; exact List.getElem?_concat_length
theorem set_last {α : Type} {l : List α} {n : Nat} {X Y : α} (h : l.length = n) : (l ++ [X]).set n Y = l ++ [Y] := by
  rw [← h, List.set_append_right _ _ (Nat.le_refl _), Nat.sub_self]; rfl
theorem lex_pair {prog : Program} {w : World} {A : Around} {s : Shared} {k1 k2 n1 n2 : Int} {t1 t2 u1 u2 : Tok} {C : Bool → Shared → Prop} (h : C (plt (k1, n1) (k2, n2)) s) :
    KatLex prog w A true false C [(.int k1 t1, .int k2 t2), (.int n1 u1, .int n2 u2)] 0 s := by
  refine kat_cons (wpAny_eqBool_int ?_)
  unfold plt at h
  dsimp only at h
  cases hk : k1 == k2 with
  | true =>
    rw [hk, if_pos rfl] at h
    refine kat_yes (kat_cons (wpAny_eqBool_int ?_))
    cases hn : n1 == n2 with
    | true =>
      refine kat_yes (kat_nil ?_)
      have : n1 = n2 := beq_iff_eq.mp hn
      rw [this, decide_eq_false (Int.lt_irrefl _)] at h
      exact h
    | false => exact kat_no (kat_one _ _ (lt_int h))
  | false =>
    rw [hk, if_neg Bool.false_ne_true] at h
    exact kat_no (oneLt_int h)
theorem news_ext {h₀ h h' : Heap} {L d : Addr} {o' : Obj} {l : List (Addr × Obj)} (N : News h₀ L h l) (k : ∀ b o, b ≠ d → h.get? b = some o → h'.get? b = some o) (ho : h'.get? d = some o') (hd : d ≠ L ∧ h₀.get? d = none) : News h₀ L h' (updA d o' l) := by
  intro p hp
  obtain ⟨q, hq, rfl⟩ := List.mem_map.mp hp
  have z := N q hq
  by_cases e : q.1 = d
  · rw [if_pos e]; exact ⟨ho, hd⟩
  · rw [if_neg e]; exact ⟨k _ _ e z.1, z.2⟩
theorem fr_ext {h₀ h h' : Heap} {L d : Addr} {m : Str → Option Value} (F : Fr h₀ L h m) (k : ∀ b o, b ≠ d → h.get? b = some o → h'.get? b = some o) (hd : d ≠ L ∧ h₀.get? d = none) : Fr h₀ L h' m :=
  ⟨F.ns.extBut k hd.1.symm, fun b o hb => k b o (fun q => by subst q; rw [hd.2] at hb; cases hb) (F.keep b o hb), F.above⟩

section
variable {G : Glo} {sc : Scope} {tbl : List Str} {d : Nat}
theorem ClI.sortItems (hs : (G.K.lookup sysModules).isSome = true) : ClI G d (.builtin "sorted") fSortItems := by
  intro D hp as cs s mvs vs mv hp' Q E ok hF r H post
  replace hF := bind_some hF; obtain ⟨m0, k1, hF⟩ := hF
  replace hF := bind_some hF; obtain ⟨v0, k2, hF⟩ := hF
  replace hF := bind_some hF; obtain ⟨ob, hv0, hF⟩ := hF
  replace hF := bind_some hF; obtain ⟨l, k3, hF⟩ := hF
  replace hF := bind_some hF; obtain ⟨ks, hl, hF⟩ := hF
  replace hF := bind_some hF; obtain ⟨ps, hps, hF⟩ := hF
  replace hF := if_some hF; obtain ⟨⟨hlen, hidx⟩, hF⟩ := hF
  cases hF
  cases itmOf_some k3
  obtain ⟨v, rfl, hv⟩ := r.one? k1
  obtain ⟨ad, o, kv, q1, q2, q3, q4, q5, q6, q7⟩ := H.dct (dctAt_some hl)
  obtain ⟨av, cv, w1, w2, w3⟩ := H.cel _ _ hv0
  cases hv.at k2 w1
  obtain ⟨bd, e1, rfl⟩ := w3
  rw [q1] at e1; cases e1
  clear r k1 k2 k3 hv hl hv0 q5 q6
  obtain ⟨qs, ekv, eps⟩ := pairs_of q4 hps
  have hql : qs.length = ps.length := by rw [eps, List.length_map]
  refine kdx_sortedN (enc := PyData.int) ok.handled H.fr H.nw (mem_led (D := D) w2 (List.mem_singleton.mpr rfl)) q7 q3 (by rw [ekv, List.length_map]; omega) (fun k v h => ?_) rfl (fun lo _ => ?_)
  · obtain ⟨t, rfl⟩ := Value.isInt_shape h
    exact ⟨t, rfl⟩
  refine open_all _ _ _ _ fun lt hlt hnd hab => ?_
  intro B h' tk hB F N
  rw [ekv, List.length_map, List.length_map] at hlt
  have eobj : tupsOf lt (kv.map fun p => (kyVal (PyData.int p.1), p.2)) = (tripO lt qs).map (fun t => (t.1, t.2.1)) := by
    rw [tripO_obj, ekv, List.map_map]
    rfl
  rw [eobj] at hB N
  have H1 : HRel G D (as ++ (tripO lt qs).map (·.1)) (cs ++ (tripO lt qs).map fun t => [(t.1, t.2.1)]) (hp ++ (tripO lt qs).map (·.2.2)) { s with heap := h', toks := tk } := by
    refine HRel.grows _ H F (fun p hp => N p (List.mem_cons_of_mem _ ?_)) (by rw [tripO_fst hlt]; exact hnd) (fun t ht q hq e => ?_) (fun t ht as' _ => tripO_cell t ht)
    · rcases List.mem_append.mp hp with hp | hp
      · exact List.mem_append_left _ (List.mem_append_left _ (List.mem_reverse.mpr hp))
      · exact List.mem_append_right _ hp
    · have : t.1 ∈ lt.map (·.1) := by rw [← tripO_fst hlt]; exact List.mem_map_of_mem ht
      obtain ⟨a, ha, e2⟩ := List.mem_map.mp this
      have := (hab a ha).1 q hq
      rw [e, e2] at this
      exact Nat.lt_irrefl _ this
  rw [tripO_fst hlt, tripO_m hlt] at H1
  have eps' : (qs.map fun p => MObj.tup [.int p.1, .int p.2.1]) = ps.map fun p => MObj.tup [.int p.1, .int p.2] := by rw [eps, List.map_map]; rfl
  rw [eps'] at H1
  have hled1 : ∀ q ∈ D.led (cs ++ (tripO lt qs).map fun t => [(t.1, t.2.1)]), q ∈ ((tripO lt qs).map fun t => (t.1, t.2.1)) ∨ q ∈ D.led cs := by
    intro q hq
    unfold Dyn.led at hq ⊢
    rw [List.flatten_append] at hq
    simp only [List.mem_append] at hq ⊢
    rcases hq with z | z | z | z
    · exact .inr (.inl z)
    · exact .inr (.inr (.inl z))
    · exact .inr (.inr (.inr z))
    · left
      obtain ⟨c, hc, hq⟩ := List.mem_flatten.mp z
      obtain ⟨t, ht, rfl⟩ := List.mem_map.mp hc
      rw [List.mem_singleton] at hq
      subst hq
      exact List.mem_map.mpr ⟨t, ht, rfl⟩
  have hBlt : ∀ q ∈ D.led (cs ++ (tripO lt qs).map fun t => [(t.1, t.2.1)]), q.1 < B := fun q hq => by
    rcases hled1 q hq with z | z
    · exact hB q (List.mem_append_left _ (List.mem_append_left _ (List.mem_reverse.mpr z)))
    · exact hB q (List.mem_append_right _ z)
  have hvl : ([] ++ lt.map fun a => Value.ref a.1) = (lt.map (·.1)).map Value.ref := by rw [List.nil_append, List.map_map]; rfl
  rw [hvl] at N
  have N1 : News D.h₀ D.L h' ((B, listOf ((lt.map (·.1)).map Value.ref).toArray 0) :: D.led (cs ++ (tripO lt qs).map fun t => [(t.1, t.2.1)])) := by
    intro p hp
    rcases List.mem_cons.mp hp with rfl | hp
    · exact N _ (.head _)
    · exact H1.nw p hp
  have hasget : ∀ i a, (lt.map (·.1))[i]? = some a → (as ++ lt.map (·.1))[hp.length + i]? = some a := fun i a h => by
    rw [← H.la, List.getElem?_append_right (Nat.le_add_right _ _), Nat.add_sub_cancel_left]
    exact h
  have hll : (lt.map (·.1)).length = ps.length := by rw [List.length_map, hlt, hql]
  have x1 := Ext.app as (lt.map (·.1))
  have x2 := Ext.app (as ++ lt.map (·.1)) [B]
  have hreads : VRs (as ++ lt.map (·.1)) ((List.range ps.length).map fun i => .loc (hp.length + i)) ((lt.map (·.1)).map Value.ref) := by
    have := VRs.locs (as := as ++ lt.map (·.1)) (b := hp.length) (l := lt.map (·.1)) hasget (is := List.range ps.length) (fun i hi => by rw [hll]; exact List.mem_range.mp hi)
    have e : ((List.range ps.length).map fun i => ((lt.map (·.1)).map Value.ref).getD i .none) = (lt.map (·.1)).map Value.ref := by
      refine List.ext_getElem (by rw [List.length_map, List.length_range, List.length_map]; exact hll.symm) fun i h1 h2 => ?_
      rw [List.getElem_map, List.getElem_range]
      rw [List.getD_eq_getElem?_getD, List.getElem?_eq_getElem h2]
      rfl
    rw [e] at this
    exact this
  have H2 := H1.above (mo := .lst ((List.range ps.length).map fun i => .loc (hp.length + i))) tk F N1 hBlt ⟨_, 0, rfl, by simpa using hreads.mono x2⟩

  have hn : (hp ++ ps.map (fun p => MObj.tup [.int p.1, .int p.2])).length = hp.length + ps.length := by rw [List.length_append, List.length_map]
  have hBat : (as ++ lt.map (·.1) ++ [B])[hp.length + ps.length]? = some B := last_at (by rw [List.length_append, hll, H.la])
  have hBcs : (cs ++ ((tripO lt qs).map fun t => [(t.1, t.2.1)]) ++ [[(B, listOf ((lt.map (·.1)).map Value.ref).toArray 0)]])[hp.length + ps.length]? = some [(B, listOf ((lt.map (·.1)).map Value.ref).toArray 0)] := by
    have h1 : (tripO lt qs).length = ps.length := by have := congrArg List.length (tripO_m hlt); rw [List.length_map, List.length_map] at this; omega
    exact last_at (by rw [List.length_append, List.length_map, h1, H.lc])
  have hBm := mem_led (D := D) hBcs (List.mem_singleton.mpr rfl)
  have hBn := H2.nw _ hBm
  have hlt2 : hp.length + ps.length < (hp ++ ps.map (fun (p : Int × Int) => MObj.tup [.int p.1, .int p.2]) ++ [MObj.lst ((List.range ps.length).map fun i => .loc (hp.length + i))]).length := by rw [List.length_append, hn]; exact Nat.lt_succ_self _
  have hidx' : ∀ i ∈ sortIdx ps, i < (lt.map (·.1)).length := fun i hi => by
    rw [hll]
    simpa using List.all_eq_true.mp hidx i hi
  have hsorted := VRs.locs (as := as ++ lt.map (·.1)) (b := hp.length) (l := lt.map (·.1)) hasget hidx'
  have fin : ∀ (h5 : Heap) (c : Nat) (out : List Value), out = (sortIdx ps).map (fun i => ((lt.map (·.1)).map Value.ref).getD i .none) → Fr D.h₀ D.L h5 D.mf →
      News D.h₀ D.L h5 (updA B (listOf out.toArray c) (D.led (cs ++ ((tripO lt qs).map fun t => [(t.1, t.2.1)]) ++ [[(B, listOf ((lt.map (·.1)).map Value.ref).toArray 0)]]))) → Q (.ref B) { s with heap := h5, toks := tk } := by
    intro h5 c out eo F5 N5
    have H5 := H2.putN (mo' := .lst ((sortIdx ps).map fun i => .loc (hp.length + i))) (a := B) (d := B) tk hlt2 hBat hBcs (.head _) F5 N5 ⟨out.toArray, c, congrArg (· :: _) (if_pos rfl), by rw [eo]; exact hsorted.mono x2⟩
    rw [set_last hn] at H5
    exact post _ _ _ _ (x1.trans x2) ⟨B, hBat, rfl⟩ H5
  have hVl : ((lt.map (·.1)).map Value.ref).length = ps.length := by rw [List.length_map, hll]
  by_cases h2 : ps.length < 2
  · have hsz : ((lt.map (·.1)).map Value.ref).toArray.size < 2 := by rw [List.size_toArray, hVl]; exact h2
    refine sort1 hBn.1 hsz (fun h5 c hk ho => ?_)
    refine fin h5 c ((lt.map (·.1)).map Value.ref) ?_ (fr_ext H2.fr hk hBn.2) (news_ext H2.nw hk ho hBn.2)
    unfold sortIdx
    rw [if_pos h2]
    refine List.ext_getElem (by simp [hlt, hql]) fun i h1 h3 => ?_
    simp only [List.getElem_map, List.getElem_range, List.getD_eq_getElem?_getD, List.getElem?_map]
    have h1' : i < lt.length := by simpa using h1
    rw [List.getElem?_eq_getElem h1']
    rfl
  · refine kat_lsort (vs := (lt.map (·.1)).map Value.ref) H2.fr H2.nw (updF_of hBm H2.nd) (by simp) (by omega) (by omega) (fun e1 h3 F3 N3 => ?_)
    have htup : ∀ p ∈ (tripO lt qs).map (fun t => (t.1, t.2.1)), h3.get? p.1 = some p.2 := fun p hp => by
      have hne : p.1 ≠ B := Nat.ne_of_lt (hB p (List.mem_append_left _ (List.mem_append_left _ (List.mem_reverse.mpr hp))))
      have hm : p ∈ updA B (seqObj "list" #[] e1) (D.led (cs ++ ((tripO lt qs).map fun t => [(t.1, t.2.1)]) ++ [[(B, listOf ((lt.map (·.1)).map Value.ref).toArray 0)]])) := by
        refine List.mem_map.mpr ⟨p, ?_, by rw [if_neg hne]⟩
        obtain ⟨t, ht, rfl⟩ := List.mem_map.mp hp
        refine List.mem_append_right _ (List.mem_append_right _ ?_)
        rw [List.flatten_append, List.flatten_append]
        exact List.mem_append_left _ (List.mem_append_right _ (List.mem_flatten.mpr ⟨_, List.mem_map.mpr ⟨t, ht, rfl⟩, List.mem_singleton.mpr rfl⟩))
      exact (N3 p hm).1
    have hfl := firstsO_len hlt
    refine kat_kind (T := .type "int") (katTups_of hlt htup) (by rw [hfl, hql]; omega) (fun v hv => ?_) (by decide) ?_
    · obtain ⟨i, t, rfl⟩ := firstsO_int v hv
      exact Looks.of_pure rfl
    rw [hVl]
    refine kasWp_run (n := ps.length) (cmp := fun i j => plt (ps.getD i (0, 0)) (ps.getD j (0, 0))) (fun i j C hi hj hC => ?_) ?_ ?_
    · have get : ∀ i, i < ps.length → ∃ (a : Addr × Tok) (q : Int × Int × Tok), ((lt.map (·.1)).map Value.ref).getD i .none = .ref a.1 ∧ h3.get? a.1 = some ({ cls := .type "tuple", data := .seq #[.int q.1 a.2, .int q.2.1 q.2.2] } : Obj) ∧ ps.getD i (0, 0) = (q.1, q.2.1) := by
        intro i hi
        obtain ⟨q0, hqi⟩ : ∃ q0, qs[i]? = some q0 := ⟨_, List.getElem?_eq_getElem (by omega)⟩
        obtain ⟨a, ha, hm⟩ := tripO_get hlt hqi
        refine ⟨a, q0, ?_, htup _ hm, ?_⟩
        · rw [List.getD_eq_getElem?_getD, List.getElem?_map, List.getElem?_map, ha]; rfl
        · rw [List.getD_eq_getElem?_getD, eps, List.getElem?_map, hqi]; rfl
      obtain ⟨a, q, g1, g2, g3⟩ := get i hi
      obtain ⟨a', q', g1', g2', g3'⟩ := get j hj
      unfold kas_ask
      rw [g1, g1']
      rw [g3, g3'] at hC
      exact kat_lt g2 rfl g2' rfl (lex_pair hC)
    · have : ps.length = 2 ∨ ps.length = 3 := by omega
      rcases this with e | e <;> rw [e]
      · exact askOk2
      · exact askOk3
    · refine KasFin.intro F3 N3 (updF_of (o := seqObj "list" #[] e1) (List.mem_map.mpr ⟨_, hBm, by simp⟩) (by rw [updA_keys]; exact H2.nd)) (fun h5 c F5 N5 => ?_)
      rw [updA_updA] at N5
      refine fin h5 c _ ?_ F5 N5
      unfold sortIdx
      rw [if_neg h2]
end
end Mine
end

section
open PySem PySem.W PySem.Calls PyProof.Rows PyProof.Rows.LCg
set_option maxRecDepth 100000
namespace Mine

theorem tuple_no_keys : typeLookup (.type "tuple") "keys" = pure none := am_miss_of_fast (by decide +kernel)
section
variable {prog : Program} {w : World} {A : Around} {E : Value → Shared → Prop} {s : Shared}
theorem keys_by {a : Addr} {xs : Array Value} {k : Nat} {u : Tok} {Q : Value → Shared → Prop} (hx : s.heap.get? a = some ({ cls := .type "tuple", data := .seq xs k } : Obj)) (hA : A.handled = none)
    (h : ∀ h' tk e, Heap.NewExcOf s.heap h' e "AttributeError" → E (.ref e) { s with heap := h', toks := tk }) :
    wpAny (model prog w) A (getAttrBy (.ref a) (.str "keys" u) false) Q E s := by
  obtain ⟨hp, g, d, tk, os⟩ := s
  have hT : ∀ tk', (⟨hp, g, d, tk', os⟩ : Shared).TypeIs (.ref a) "tuple" := fun _ => ⟨_, hx, rfl⟩
  have f1 := sub_AttributeError
  have f3 := F.slot_tuple_getattribute.lookup
  have f4 := F.slot_tuple_getattribute.bind (.ref a)
  have f5 := am_tuple_getattr_none
  unfold getAttrBy
  repeat (any_goals (first | assumption | exact hT _ | ((with_reducible show wpAny _ _ (call (Value.builtin "tuple.__getattribute__") _ _) _ _ _); refine call_meets F.slot_tuple_getattribute (hT _) am_entry_tuple_getattribute (F.args_tuple_getattribute_2 _ _) (meets_getattribute_miss_tuple a xs k #[] "keys" _ tuple_no_keys (by decide) (by decide)) ⟨hx, hA, fun h' tk' e hx' => ?_⟩) | wp_step))
  obtain ⟨t', u', he⟩ := hx'.there
  show wpAny _ _ (getattributeRaised _ _ _ _ _ _ _) _ _ _
  unfold getattributeRaised
  repeat (any_goals (first | assumption | wp_step))
  exact h _ _ _ hx'.of
theorem keys_miss {a : Addr} {xs : Array Value} {k : Nat} {Q : Option Value → Shared → Prop} (hx : s.heap.get? a = some ({ cls := .type "tuple", data := .seq xs k } : Obj)) (hA : A.handled = none)
    (h : ∀ h' tk, (∀ b o, s.heap.get? b = some o → h'.get? b = some o) → Q none { s with heap := h', toks := tk }) : wpAny (model prog w) A (getAttr? (.ref a) "keys") Q E s := by
  unfold getAttr?
  refine wpAny_bind (wpAny_mkText ?_)
  unfold getAttrBy?
  refine wpAny_bind (wpAny_attempt (keys_by (s := { s with toks := s.toks + 1 }) hx hA fun h' tk e ne => ?_))
  obtain ⟨ob, vs, he, hc, _⟩ := ne.there
  refine wpAny_bind (wpAny_isInstance (s := { s with heap := h', toks := tk }) (T := "AttributeError") ⟨ob, he, hc⟩ sub_AttributeError ?_)
  rw [if_pos rfl]
  exact wpAny_pure (h h' tk ne.keeps)
end

theorem entry_update_loop : entryFor table "dict.update.loop" = some Builtin.«dict.update.loop» := entryFor_of_tree (by kernel_rfl)
theorem plain_update_loop : plainId "dict.update.loop" = true := by decide +kernel

noncomputable def pairsM (hp : MHeap) : List MV → Option (List (Int × MV))
  | [] => some []
  | m :: r => (locOf m).bind fun l => (tupAt hp l).bind fun ms => (two? ms).bind fun p => (intOf p.1).bind fun k => (pairsM hp r).bind fun ps => some ((k, p.2) :: ps)
noncomputable def putAll (ks : List (Int × MV)) : List (Int × MV) → List (Int × MV)
  | [] => ks
  | (k, m) :: r => putAll (dPut ks k m) r
noncomputable def fDict : List MV → MHeap → Option (MV × MHeap) := fun vs hp => (one? vs).bind fun m => (locOf m).bind fun l => (tupAt hp l).bind fun ms =>
  if ms.length ≤ cap then (pairsM hp ms).bind fun ps => some (.loc hp.length, hp ++ [.dct (putAll [] ps)]) else none
theorem dPut_len (ks : List (Int × MV)) (k : Int) (m : MV) : (dPut ks k m).length ≤ ks.length + 1 := by
  unfold dPut
  cases ks.any fun kv => decide (kv.1 = k) with
  | true => rw [if_pos rfl, List.length_map]; exact Nat.le_succ _
  | false => rw [if_neg Bool.false_ne_true, List.length_append]; exact Nat.le_refl _
section
variable {G : Glo} {D : Dyn} {d : Nat}
theorem pair_I {s : Shared} {A : Around} {E : Value → Shared → Prop} {Q : List Value → Shared → Prop} {a : Addr} {us : Array Value} {n : Nat}
    (ho : s.heap.get? a = some ({ cls := .type "tuple", data := .seq us n } : Obj)) (q : Q us.toList s) : wpAny G.M A (Builtin.Dict.pairItems (.ref a)) Q E s := by
  unfold Builtin.Dict.pairItems
  refine wpAny_bind (wpAny_typeOf (T := "tuple") ⟨_, ho, rfl⟩ ?_)
  rw [if_pos (by decide)]
  exact wpAny_bind (wpAny_seqItems ho rfl (wpAny_pure q))

theorem HRel.settle {as : List Addr} {cs : List (List (Addr × Obj))} {hp : MHeap} {s : Shared} {p : Addr × Obj} {mo : MObj} (H : HRel G (D.hold p) as cs hp s) (k : Cell G (as ++ [p.1]) p.1 mo [p]) : HRel G D (as ++ [p.1]) (cs ++ [[p]]) (hp ++ [mo]) s := by
  have := H.dropped.grow (a := p.1) (c := [p]) (mo := mo) (h' := s.heap) s.toks H.fr (fun q hq => H.nw q (by
    rcases List.mem_append.mp hq with z | z
    · rw [List.mem_singleton] at z; subst z; exact .head _
    · exact List.mem_cons_of_mem _ z)) (by simp) (by intro q hq r hr; rw [List.mem_singleton] at hq; subst hq; exact H.off r hr) k
  exact this

theorem upd_loop {as : List Addr} {cs : List (List (Addr × Obj))} {hp : MHeap} {l : Nat} {ms : List MV} {S I : Addr} {A : Around} {R : Result → Shared → Prop} (hA : A.handled = none) (hl : hp[l]? = some (.tup ms)) :
    ∀ (rem : List MV) (i : Nat) (idx : Int) (t : Tok) (ps ks : List (Int × MV)) (kv : List (Int × Value)) (oS oI : Obj) (s : Shared), ms.drop i = rem → pairsM hp rem = some ps → HRel G ((D.hold (S, oS)).hold (I, oI)) as cs hp s → oS.IsDictOf (intKind G.prog G.w) kv → KR as ks kv →
      ks.length + rem.length ≤ cap → ItO as (.tup l i) oI →
      (∀ oS' kv' s', HRel G (D.hold (S, oS')) as cs hp s' → oS'.IsDictOf (intKind G.prog G.w) kv' → KR as (putAll ks ps) kv' → R (.ok (.ret .none)) s') →
      codeAny G.M A (.builtin "dict.update.loop" ⟨[.ref S, .ref I, .int idx t, .none], []⟩) R s := by
  intro rem
  induction rem with
  | nil =>
    intro i idx t ps ks kv oS oI s hrem hps H hd hk hlen hI fin
    cases hps
    refine codeAny_builtin entry_update_loop ?_
    rw [Around.under_plainId plain_update_loop]
    unfold Builtin.«dict.update.loop»
    have hmi : ms[i]? = none := by
      rw [List.getElem?_eq_none_iff]
      have := congrArg List.length hrem
      rw [List.length_drop] at this
      exact Nat.le_of_sub_eq_zero this
    have hn : nextM (.tup l i) hp = some none := by rw [next_tup hl, hmi]; rfl
    refine wpAny_bind (next_I (D := D.hold (S, oS)) (A := A.in1) hA H hI hn (fun _ s' H' => ?_) (fun m it' e => nomatch e))
    refine wpAny_bind (wpAny_pure ?_)
    exact wpAny_pure (fin oS kv s' H' hd hk)
  | cons m rem ih =>
    intro i idx t ps ks kv oS oI s hrem hps H hd hk hlen hI fin
    have hmi : ms[i]? = some m := by
      have := congrArg (fun l => l[0]?) hrem
      simpa using this
    have hrem' : ms.drop (i + 1) = rem := by
      have := congrArg List.tail hrem
      rw [List.tail_drop] at this
      simpa using this
    have hn : nextM (.tup l i) hp = some (some (m, .tup l (i + 1))) := by rw [next_tup hl, hmi]; rfl
    replace hps := bind_some hps; obtain ⟨lp, k1, hps⟩ := hps
    replace hps := bind_some hps; obtain ⟨mp, hlp, hps⟩ := hps
    replace hps := bind_some hps; obtain ⟨p, k2, hps⟩ := hps
    replace hps := bind_some hps; obtain ⟨k, k3, hps⟩ := hps
    replace hps := bind_some hps; obtain ⟨ps', hps', hps⟩ := hps
    cases hps
    rw [List.length_cons] at hlen
    refine codeAny_builtin entry_update_loop ?_
    rw [Around.under_plainId plain_update_loop]
    unfold Builtin.«dict.update.loop»
    refine wpAny_bind (next_I (D := D.hold (S, oS)) (A := A.in1) hA H hI hn (fun e => nomatch e) (fun m' it' e v oI' s' hv hI' H' => ?_))
    cases e
    obtain ⟨a, us, n, q1, _, q3, q4⟩ := H'.tup (tupAt_some hlp)
    cases hv.at k1 q1
    obtain ⟨vk, vm, euv, hk', hm⟩ := q3.two? k2
    obtain ⟨tk, rfl⟩ := hk'.int k3
    refine wpAny_bind (wpAny_holding ?_)
    refine wpAny_bind (wpAny_tryCatch (pair_I q4 ?_))
    rw [euv]
    dsimp only
    refine wpAny_holding ?_
    have HS : HRel G ((D.hold (I, oI')).hold (S, oS)) as cs hp s' := H'.move rfl rfl rfl rfl (List.Perm.swap _ _ _)
    have hg := (HS.nw (S, oS) (.head _)).1
    refine wpAny_dictSet_pairs (k := k) isInt_key (Heap.dictOf_iff.mpr ⟨oS, hg, hd⟩) (fun h' hd' sb => ?_) (small (n := ks.length) (Nat.le_trans (Nat.le_add_right _ _) hlen) hk.len)
    obtain ⟨oS', ho', hd''⟩ := Heap.dictOf_iff.mp hd'
    have H3 : HRel G ((D.hold (S, oS')).hold (I, oI')) as cs hp { s' with heap := h', toks := s'.toks + 1 } := (HS.turnO (s'.toks + 1) sb ho').move rfl rfl rfl rfl (List.Perm.swap _ _ _)
    refine wpAny_pure ⟨plainId_quiet plain_update_loop _, ?_⟩
    exact ih (i + 1) (idx + 1) 0 ps' (dPut ks k p.2) (stored kv k vm) oS' oI' _ hrem' hps' H3 hd'' (hk.put hm) (by have := dPut_len ks k p.2; omega) hI' fin

theorem ClI.dict1 : ClI G d (.type "dict") fDict := by
  intro D hp as cs s mvs vs mv hp' Q E ok hF r H post
  replace hF := bind_some hF; obtain ⟨m, k1, hF⟩ := hF
  replace hF := bind_some hF; obtain ⟨l, k2, hF⟩ := hF
  replace hF := bind_some hF; obtain ⟨ms, hl, hF⟩ := hF
  replace hF := if_some hF; obtain ⟨hc, hF⟩ := hF
  replace hF := bind_some hF; obtain ⟨ps, hps, hF⟩ := hF
  cases hF
  replace hl := tupAt_some hl
  obtain ⟨v, rfl, hv⟩ := r.one? k1
  obtain ⟨a, ha, rfl⟩ := hv.loc k2
  clear r k1 k2 hv
  have H0 := H.hold (o := { cls := .type "dict", data := .dict #[] }) rfl
  refine callType_codes (Q₁ := fun obj s₁ => obj = .ref s.heap.objs.size ∧ s₁ = { s with heap := s.heap.push { cls := .type "dict", data := .dict #[] } }) F.kt_called_dict (F.kt_typeCall_dict_1 _) F.entry_dict_init (kt_code_dict_new _ ⟨rfl, rfl⟩) ?_
  rintro obj s₁ ⟨rfl, rfl⟩
  have hnew : (s.heap.push { cls := .type "dict", data := .dict #[] }).DictOf (intKind G.prog G.w) s.heap.objs.size [] := Heap.DictOf.new s.heap
  refine ⟨hnew.typeIs, F.args_dict_init_2 _ _, ?_⟩
  unfold Builtin.«dict.__init__»
  refine wpAny_bind ?_
  unfold Builtin.Dict.selfAndRest
  refine wpAny_bind (wpAny_notOrdered_dict hnew.typeIs ?_)
  show wpAny _ _ (pure (s.heap.objs.size, [Value.ref a])) _ _ _
  refine wpAny_pure ?_
  show wpAny _ _ (Builtin.Dict.updateFrom "dict.__init__" s.heap.objs.size (.ref a) [] .none) _ _ _
  unfold Builtin.Dict.updateFrom
  obtain ⟨a', us, n, q1, q2, q3, q4⟩ := H0.tup hl
  rw [ha] at q1; cases q1
  refine wpAny_bind (wpAny_typeOf (T := "tuple") ⟨_, q4, rfl⟩ ?_)
  rw [if_pos (by decide)]
  refine wpAny_bind (keys_miss q4 ok.handled (fun h1 tk1 hk1 => ?_))
  rw [if_pos (show (none : Option Value).isNone = true from rfl)]
  refine wpAny_bind (wpAny_rule ?_)
  have H1 := H0.keeps tk1 hk1
  obtain ⟨a', us, n, q1, q2, q3, q4⟩ := H1.tup hl
  rw [ha] at q1; cases q1
  have hmk : mkIt (.loc l) hp = some (.tup l 0, ms.length) := it_at hl
  refine wpAny_bind (iter_I (m := .loc l) H1 ⟨a, ha, rfl⟩ hmk fun I oI s2 hI H2 => ?_)
  refine wpAny_pure ⟨plainId_quiet plain_update_loop _, ?_⟩
  obtain ⟨o0, ho0, hd0⟩ := Heap.dictOf_iff.mp hnew
  have eo : o0 = { cls := .type "dict", data := .dict #[] } := by
    have := Heap.get?_push_size s.heap (o := { cls := .type "dict", data := .dict #[] }) rfl
    rw [this] at ho0; cases ho0; rfl
  subst eo
  refine upd_loop (D := D) (A := D.A.in1) ok.handled hl ms 0 0 0 ps [] [] _ oI s2 rfl hps H2 hd0 rfl (by simpa using hc) hI fun oS' kv' s3 H3 hd3 hk3 => ?_
  refine ⟨rfl, ?_⟩
  have x := Ext.app as [s.heap.objs.size]
  exact post _ _ _ _ x (VR.last H) (H3.settle ⟨oS', kv', rfl, hd3, hk3.mono x⟩)
end
end Mine
end

section
open PySem PySem.W PySem.Calls PyProof.Rows
set_option maxRecDepth 100000
namespace Mine
section
variable {G : Glo} {sc : Scope} {tbl : List Str} {d : Nat}
theorem EvI.cstr {x : Str} {k : Nat} {pos : Pos} : EvI G sc tbl d (.Constant (.str x) k pos) (eC (.str x)) := by
  intro D loc hp as cs s mv hp' Q E ok hsc hf hl H post
  cases hf
  exact wpAny_Constant_str (post _ as cs _ (Ext.refl _) ⟨_, rfl⟩ (H.toks _))
theorem EvI.gstr {x : Str} {pos : Pos} (v : Str) {t : Tok} (e : nsIn G.K mainGlobals x = some (some (.str v t))) (hk : sc.names.lookup x = some .globalImplicit) (hd : (x == ("__debug__" : Str)) = false) : EvI G sc tbl d (.Name x pos) (eC (.str v)) :=
  EvI.glob hk e (fun _ => ⟨t, rfl⟩) hd
theorem vr_gv (a : Addr) (as : List Addr) : VR as (.gv (.ref a)) (.ref a) := ⟨rfl, rfl, nofun⟩
noncomputable def fIntB : List MV → MHeap → Option (MV × MHeap) := fun vs hp => (one? vs).bind fun m => (boolOf m).bind fun b => some (.int (if b = true then 1 else 0), hp)
theorem ClI.intb : ClI G d (.type "int") fIntB := by
  intro D hp as cs s mvs vs mv hp' Q E ok hF r H post
  replace hF := bind_some hF; obtain ⟨m, k1, hF⟩ := hF
  replace hF := bind_some hF; obtain ⟨b, k2, hF⟩ := hF
  cases hF
  obtain ⟨v, rfl, hv⟩ := r.one? k1
  rw [boolOf_some k2] at hv
  cases hv
  exact call_int_bool (post _ as cs _ (Ext.refl _) ⟨_, rfl⟩ (H.toks _))
theorem AssI.nil : AssI G sc tbl d [] [] := trivial
theorem AssI.cons {t : Expr} {ts : List Expr} {f : AFun} {fs : List AFun} (h : AsI G sc tbl d t f) (k : AssI G sc tbl d ts fs) : AssI G sc tbl d (t :: ts) (f :: fs) := ⟨h, k⟩
theorem NamesAt.nil : NamesAt sc tbl [] [] := trivial
theorem NamesAt.cons {i : Nat} {is : List Nat} {x : Str} {xs : List Str} (h : tbl[i]? = some x) (h2 : sc.names.lookup x = some .local) (k : NamesAt sc tbl is xs) : NamesAt sc tbl (i :: is) (x :: xs) := ⟨⟨h, h2⟩, k⟩
theorem CapsAt.nil {cs : Scope} : CapsAt cs sc tbl [] [] := trivial
theorem CapsAt.cons {cs : Scope} {i : Nat} {is : List Nat} {x : Str} {xs : List Str} (h : tbl[i]? = some x) (h2 : cs.names.lookup x = some .free) (k : CapsAt cs sc tbl is xs) : CapsAt cs sc tbl (i :: is) (x :: xs) := ⟨⟨h, h2⟩, k⟩
theorem CondI.none : CondI G sc tbl d [] .none := trivial
theorem CondI.one {c : Expr} {t : TFun} (h : TsI G sc tbl d c t) : CondI G sc tbl d [c] (some t) := h
theorem PartI.none : PartI G sc tbl d .none .none := trivial
theorem PartI.some {e : Expr} {b : Nat} (h : EvI G sc tbl d e (eC (.int b))) : PartI G sc tbl d (some e) (some b) := h
theorem nodup_of {l m : List Str} (e : l = m) (h : m.Nodup) : l.Nodup := e ▸ h
noncomputable def sCont : SFun := fun loc hp => some (.cont, loc, hp)
theorem StI.cont {pos : Pos} : StI G sc tbl d (.Continue pos) sCont := by
  intro D loc hp as cs s fl loc' hp' Q E ok hsc henv hL hf hl H post
  cases hf
  exact wpAny_Continue (post _ as cs D.mf D.ce s (Ext.refl _) rfl rfl hl H)
end
end Mine
end

section
open PySem PySem.W PySem.Calls PyProof.Rows PyProof.Rows.LCg
set_option maxRecDepth 100000
namespace Mine
section
variable {G : Glo} {sc : Scope} {tbl : List Str} {d : Nat}
theorem StI.compVar {elt iter : Expr} {x y : Str} {px py pos spos : Pos} {ifs : List Expr} {cs : Scope} {t : Option TFun} {f g : EFun} {ys : List Str} (i : Nat) (hi : tbl[i]? = some y) (hn : tbl.Nodup) (hk : sc.names.lookup y = some .local) (is : List Nat) (hc : compOk cs sc x = true) (hcap : CapsAt cs sc tbl is ys)
    (hg : EvI G sc tbl d iter g) (ht : CondI G (relS cs sc) (x :: ys) d ifs t) (hf : EvI G (relS cs sc) (x :: ys) d elt f)
    (hsw : ∀ env : Env, env.scope = sc → swapsWith (.ListComp elt [⟨.Name x px, iter, ifs, 0⟩] cs pos) (some (.Name y py)) spos.line env = pure true)
    (hs : ∀ env v, foldedSetIterable iter env v = pure v := by intro _ _; rfl) : StI G sc tbl d (.Assign [.Name y py] (.ListComp elt [⟨.Name x px, iter, ifs, 0⟩] cs pos) spos) (sVar i (eComp is t f g)) := by
  intro D loc hp as cs0 s fl loc' hp' Q E ok hsc henv hL hfu hl H post
  replace hfu := bind_some hfu; obtain ⟨⟨mc, hcx⟩, hfu1, hfu⟩ := hfu
  replace hfu := bind_some hfu; obtain ⟨l', hl', hfu⟩ := hfu
  cases hfu
  replace hfu1 := bind_some hfu1; obtain ⟨⟨m, h1⟩, hm, hfu2⟩ := hfu1
  replace hfu2 := bind_some hfu2; obtain ⟨⟨it, n⟩, hit, hfu2⟩ := hfu2
  replace hfu2 := bind_some hfu2; obtain ⟨hF, hF1, hfu2⟩ := hfu2
  cases hfu2
  obtain ⟨k1, nc, nl, k4, nf, k6⟩ := compOk_of hc
  obtain ⟨cl, hcl, _, c2⟩ := closureFor_spec (cs := cs) (env := D.env) (fun y hy => ok.cells y (by rw [hsc]; exact nf y hy))
  rw [exec_Assign_Name_used _ _ _ _ (hsw D.env hsc)]
  refine wpAny_bind (wpAny_standAt (wpAny_bind ?_))
  show wpAny _ D.A (do let _ ← comprehension (.ListComp elt [⟨.Name x px, iter, ifs, 0⟩] cs pos) cs D.env _ (newList []) false (eval iter D.env) (some (assign (.Name y py) D.env))) _ _ s
  refine wpAny_bind (wpAny_mono (wpAny_comprehension_free (use := some (assign (.Name y py) D.env)) (Q := fun _ s' => Q .next s') rfl (hs _) hcl k1 nl ?_) (fun _ s' hq => wpAny_pure (wpAny_pure hq)) fun _ _ e => e)
  refine hg D loc hp as cs0 s m h1 _ _ ok hsc hm hl H fun v as1 cs1 s1 x1 r1 H1 => ?_
  refine iter_I H1 r1 hit fun I o s2 hI H2 => ?_
  refine newList_I (ms := []) (vs := []) (hp := h1) (mv := .loc h1.length) (hp' := h1 ++ [.lst []]) rfl rfl H2 fun acc as3 cs3 s3 x3 r3 H3 => ?_
  obtain ⟨aacc, hacc, rfl⟩ := r3
  refine wpAny_newFunctionEnv nc (by intro y hy; simp at hy) (fun h4 hns hsb => ?_) k1
  obtain ⟨oC, hoC, hnsC⟩ := ns_obj hns
  have HC0 : HRel G ((D.hold (I, o)).hold (s3.heap.objs.size, oC)) as3 cs3 (h1 ++ [.lst []]) { s3 with heap := h4, toks := s3.toks + 0 } :=
    (H3.hold (o := { cls := .type (if (some D.env).isSome = true then "dict" else "frame"), data := .dict #[] }) rfl).turnO (s3.toks + 0) hsb hoC
  have loop := comp_loop (elt := elt) (iter := iter) (px := px) (pos := pos) (I := I) (R := compPost G.M D.A E (some (assign (.Name y py) D.env)) (fun _ s' => Q .next s') (.ref aacc) s3.heap.objs.size) ok hsc hc hcap c2 ht hf (hl.mono (x1.trans x3)) hacc ?_ hF1 (hI.mono x3) hnsC HC0
  · obtain ⟨r, hr⟩ := compL_next hF1
    refine codeAny_compStart_list loop ?_
    have HI : HRel G (((D.hold (s3.heap.objs.size, oC))).hold (I, o)) as3 cs3 (h1 ++ [.lst []]) { s3 with heap := h4, toks := s3.toks + 0 } := HC0.move rfl rfl rfl rfl (List.Perm.swap _ _ _)
    exact self_I ok.handled HI (hI.mono x3) hr loop
  · intro oC2 mC2 as5 cs5 s5 x5 hC5 H5
    show wpAny _ D.A (assign (.Name y py) D.env (.ref aacc)) _ _ _
    have okh := ok.hold (s3.heap.objs.size, oC2)
    have xx := (x1.trans x3).trans x5
    refine PyProof.Rows.assign_Name (store_var (D := D.hold (s3.heap.objs.size, oC2)) okh hL hi hn (by show D.env.scope.names.lookup y = _; rw [hsc]; exact hk) hl' (LocRel.hold (hl.mono xx) _) H5 (m := .loc h1.length) ⟨aacc, x5 _ _ hacc, rfl⟩ fun mf' s6 L6 H6 => ?_)
    refine ⟨mC2, hC5.ns (H6.nw (s3.heap.objs.size, oC2) (.head _)).1, fun h7 sb7 => ?_⟩
    have H6' : HRel G ((D.turn mf' D.ce).hold (s3.heap.objs.size, oC2)) as5 cs5 _ s6 := H6
    exact post _ as5 cs5 mf' D.ce _ xx rfl rfl (LocRel.drop (D := D.turn mf' D.ce) (p := (s3.heap.objs.size, oC2)) L6) (H6'.ended s6.toks sb7.extBut)
end

theorem ref_reads (P : Params) : ∀ h, (KT P).In h → ∃ bs, Reads h (.ref 329) (.tuple [.str "ptr", .str "slice", .str "map", .str "chan", .str "iter"]) bs := fun h X => by
  have e : (KT P).lookup 329 = some ({ cls := .type "tuple", data := .seq #[.str "ptr" 639, .str "slice" 640, .str "map" 641, .str "chan" 642, .str "iter" 643] } : Obj) := by kernel_rfl
  exact ⟨_, Reads.tuple (X _ _ e) rfl rfl (.cons (.str _ _) (.cons (.str _ _) (.cons (.str _ _) (.cons (.str _ _) (.cons (.str _ _) .nil)))))⟩
end Mine
end

section
open PySem PySem.W PySem.Calls PyProof.Rows
set_option maxRecDepth 100000
namespace Mine
section
variable {G : Glo} {sc : Scope} {tbl : List Str} {d : Nat}
theorem Op2I.inD (hs : (G.K.lookup sysModules).isSome = true) : Op2I G (compareOp .In) oInD := by
  intro D hp as cs s a b va vb r hp' Q E ok hf ha hb H post
  replace hf := bind_some hf; obtain ⟨k, h1, hf⟩ := hf
  replace hf := bind_some hf; obtain ⟨l, h2, hf⟩ := hf
  replace hf := bind_some hf; obtain ⟨ks, hl, hf⟩ := hf
  cases hf
  obtain ⟨t, rfl⟩ := ha.int h1
  obtain ⟨a, o, kv, rfl, _, _, q3, q4, q6, q7, _⟩ := H.dctV hb h2 hl
  have fin := q4.valS (k := k)
  refine wpAny_in_of (k := k) isInt_key (H.low ok.kin hs q7) q6.mapOf ?_
  cases e : valueAt kv k with
  | none => rw [e] at fin; exact post _ as cs _ (Ext.refl _) (by rw [← fin]; rfl) (H.toks _)
  | some m => rw [e] at fin; exact post _ as cs _ (Ext.refl _) (by rw [← fin]; rfl) (H.toks _)
end

noncomputable def ins (a : Int) : List Int → List Int
  | [] => [a]
  | b :: r => if a ≤ b then a :: b :: r else b :: ins a r
noncomputable def isort : List Int → List Int
  | [] => []
  | a :: r => ins a (isort r)
theorem ins_perm (a : Int) (l : List Int) : (ins a l).Perm (a :: l) := by
  induction l with
  | nil => exact List.Perm.refl _
  | cons b r ih =>
    show (if a ≤ b then a :: b :: r else b :: ins a r).Perm _
    by_cases h : a ≤ b
    · rw [if_pos h]
    · rw [if_neg h]; exact (ih.cons b).trans (List.Perm.swap _ _ _)
theorem isort_perm (l : List Int) : (isort l).Perm l := by
  induction l with
  | nil => exact List.Perm.refl _
  | cons a r ih => exact (ins_perm a _).trans (ih.cons a)
theorem ins_sorted (a : Int) {l : List Int} : l.Pairwise (· ≤ ·) → (ins a l).Pairwise (· ≤ ·) := by
  induction l with
  | nil => exact fun _ => List.pairwise_singleton _ _
  | cons b r ih =>
    intro h
    obtain ⟨h1, h2⟩ := List.pairwise_cons.mp h
    show (if a ≤ b then a :: b :: r else b :: ins a r).Pairwise _
    by_cases hab : a ≤ b
    · rw [if_pos hab]
      refine List.pairwise_cons.mpr ⟨fun x hx => ?_, h⟩
      rcases List.mem_cons.mp hx with rfl | hx
      · exact hab
      · exact Int.le_trans hab (h1 x hx)
    · rw [if_neg hab]
      refine List.pairwise_cons.mpr ⟨fun x hx => ?_, ih h2⟩
      rcases List.mem_cons.mp ((ins_perm a r).mem_iff.mp hx) with rfl | hx
      · exact Int.le_of_lt (Int.not_le.mp hab)
      · exact h1 x hx
theorem isort_sorted (l : List Int) : (isort l).Pairwise (· ≤ ·) := by
  induction l with
  | nil => exact List.Pairwise.nil
  | cons a r ih => exact ins_sorted a ih
noncomputable def intsM : List MV → Option (List Int)
  | [] => some []
  | m :: r => (intOf m).bind fun i => (intsM r).bind fun l => some (i :: l)
theorem ints_of {as : List Addr} {ms : List MV} : ∀ {vs : List Value} {ns : List Int}, VRs as ms vs → intsM ms = some ns → IntsAre vs ns := by
  induction ms with
  | nil => intro vs ns r h; cases r; cases h; exact .nil
  | cons m ms ih =>
    rintro _ ns ⟨v, r, rfl, hv, b⟩ h
    replace h := bind_some h; obtain ⟨i, hi, h⟩ := h
    replace h := bind_some h; obtain ⟨l, h1, h⟩ := h
    cases h
    obtain ⟨t, rfl⟩ := hv.int hi
    exact .cons i t (ih b h1)
theorem ints_vr {as : List Addr} {vs : List Value} {ns : List Int} (h : IntsAre vs ns) : VRs as (ns.map .int) vs := by
  induction h with
  | nil => rfl
  | cons n t _ ih => exact ⟨_, _, rfl, ⟨t, rfl⟩, ih⟩
noncomputable def fSortInts : List MV → MHeap → Option (MV × MHeap) := fun vs hp => (one? vs).bind fun m => (locOf m).bind fun l => (lstAt hp l).bind fun ms => (intsM ms).bind fun ns =>
  if ms.length < 64 then some (.loc hp.length, hp ++ [.lst ((isort ns).map .int)]) else none
section
variable {G : Glo} {d : Nat}
theorem ClI.sortInts : ClI G d (.builtin "sorted") fSortInts := by
  intro D hp as cs s mvs vs mv hp' Q E ok hF r H post
  replace hF := bind_some hF; obtain ⟨m, k1, hF⟩ := hF
  replace hF := bind_some hF; obtain ⟨l, k2, hF⟩ := hF
  replace hF := bind_some hF; obtain ⟨ms, hl, hF⟩ := hF
  replace hF := bind_some hF; obtain ⟨ns, hns, hF⟩ := hF
  replace hF := if_some hF; obtain ⟨hc, hF⟩ := hF
  cases hF
  obtain ⟨v, rfl, hv⟩ := r.one? k1
  obtain ⟨a, us, n, rfl, _, _, q3, q4, _⟩ := H.lstV hv k2 hl
  refine sorted_N (vs := us.toList) H.fr H.nw (by simpa using isList_of q4) (ints_of q3 hns) (by rw [q3.len]; exact hc) (fun h' vs' ns' e F N hi hp2 hs => ?_)
  have en : ns' = isort ns := List.Perm.eq_of_pairwise (le := (· ≤ ·)) (fun a b _ _ h1 h2 => Int.le_antisymm h1 h2) hs (isort_sorted ns) (hp2.trans (isort_perm ns).symm)
  exact post _ _ _ _ (Ext.app as [s.heap.objs.size + 1]) (VR.last H) (H.above s.toks F N (fun q hq => Nat.lt_succ_of_lt (H.lt hq)) ⟨vs'.toArray, e, rfl, en ▸ ints_vr hi⟩)
end
end Mine
end

section
open PySem PySem.W PySem.Calls PyProof.Rows PyProof.Rows.LCg
set_option maxRecDepth 100000
namespace Mine

noncomputable def Dyn.shut (D : Dyn) (cs : List (List (Addr × Obj))) : Dyn := { D with xs := D.xs ++ cs.flatten }
section
variable {G : Glo} {D : Dyn} {as : List Addr} {cs : List (List (Addr × Obj))} {hp : MHeap} {s : Shared} {tbl : List Str} {loc : Locs} {d : Nat}
theorem Ok.shut (h : Ok G d D) (cs : List (List (Addr × Obj))) : Ok G d (D.shut cs) := ⟨h.below, h.kin, h.top, h.frames, h.handled, h.ff, h.fk, h.depth, h.units, h.nd, h.eg, h.eb, h.ek, h.cells, h.lam⟩
theorem shut_led (cs' : List (List (Addr × Obj))) : ((D.shut cs).led cs').Perm (D.led cs ++ cs'.flatten) := by
  show ((D.xs ++ cs.flatten) ++ (D.ce ++ cs'.flatten)).Perm ((D.xs ++ (D.ce ++ cs.flatten)) ++ cs'.flatten)
  simp only [List.append_assoc]
  refine List.Perm.append_left _ ?_
  rw [← List.append_assoc, ← List.append_assoc]
  exact List.Perm.append_right _ List.perm_append_comm
theorem HRel.shut (H : HRel G D as cs hp s) : HRel G (D.shut cs) [] [] [] s := by
  have p : ((D.shut cs).led []).Perm (D.led cs) := by have := shut_led (D := D) (cs := cs) []; simpa using this
  exact ⟨H.fr, fun q hq => H.nw q (p.mem_iff.mp hq), (p.map (·.1)).nodup_iff.mpr H.nd, rfl, rfl, fun l mo h => by simp at h, H.st⟩
theorem HRel.unshut (H : HRel G D as cs hp s) {as' : List Addr} {cs' : List (List (Addr × Obj))} {hp' : MHeap} {s' : Shared} (H' : HRel G (D.shut cs) as' cs' hp' s') : HRel G D as cs hp s' := by
  have p := shut_led (D := D) (cs := cs) cs'
  exact ⟨H'.fr, fun q hq => H'.nw q (p.mem_iff.mpr (List.mem_append_left _ hq)), H.nd, H.la, H.lc, H.cel, H'.st⟩
theorem HRel.unshut1 (H : HRel G D as cs hp s) {a' : Addr} {c' : List (Addr × Obj)} {as' : List Addr} {cs' : List (List (Addr × Obj))} {mo : MObj} {hp' : MHeap} {s' : Shared} (H' : HRel G (D.shut cs) as' cs' hp' s')
    (hc : c' ∈ cs') (k : Cell G (as ++ [a']) a' mo c') : HRel G D (as ++ [a']) (cs ++ [c']) (hp ++ [mo]) s' := by
  have p := shut_led (D := D) (cs := cs) cs'
  have e : D.led (cs ++ [c']) = D.led cs ++ c' := by simp [Dyn.led]
  obtain ⟨l1, l2, rfl⟩ := List.append_of_mem hc
  have sub : List.Sublist (D.led cs ++ c') (D.led cs ++ (l1 ++ c' :: l2).flatten) := by
    rw [List.flatten_append, List.flatten_cons]
    exact List.Sublist.append_left ((List.sublist_append_left _ _).trans (List.sublist_append_right _ _)) _
  refine ⟨H'.fr, fun q hq => H'.nw q (p.mem_iff.mpr ?_), ?_, by simp [H.la], by simp [H.lc], ?_, H'.st⟩
  · rw [e] at hq; exact sub.mem hq
  · rw [e]
    exact ((p.map (·.1)).nodup_iff.mp H'.nd).sublist (sub.map _)
  · intro l m hm
    by_cases hl : l < hp.length
    · rw [List.getElem?_append_left hl] at hm
      obtain ⟨a2, c2, e1, e2, e3⟩ := H.cel l m hm
      refine ⟨a2, c2, ?_, ?_, e3.mono (Ext.app _ _)⟩
      · rw [List.getElem?_append_left (by rw [H.la]; exact hl)]; exact e1
      · rw [List.getElem?_append_left (by rw [H.lc]; exact hl)]; exact e2
    · have hl' : l = hp.length := by
        have := (List.getElem?_eq_some_iff.mp hm).1
        simp at this; omega
      subst hl'
      simp at hm; subst hm
      refine ⟨a', c', ?_, ?_, k⟩
      · rw [← H.la]; simp
      · rw [← H.lc]; simp
end
noncomputable def flatM : MV → Bool
  | .loc _ => false
  | _ => true
theorem VR.flat {as as' : List Addr} {m : MV} {v : Value} (h : VR as m v) (f : flatM m = true) : VR as' m v := by
  cases m <;> first | exact h | cases f
theorem VRs.flat {as as' : List Addr} {ms : List MV} : ∀ {vs : List Value}, VRs as ms vs → ms.all flatM = true → VRs as' ms vs := by
  induction ms with
  | nil => exact fun h _ => h
  | cons m ms ih =>
    rintro _ ⟨v, r, e, a, b⟩ f
    rw [List.all_cons, Bool.and_eq_true] at f
    exact ⟨v, r, e, a.flat f.1, ih b f.2⟩

noncomputable def fFrame (F : List MV → MHeap → Option (MV × MHeap)) : List MV → MHeap → Option (MV × MHeap) := fun vs hp => if vs.all flatM = true then (F vs []).bind fun r => if flatM r.1 = true then some (r.1, hp) else none else none
theorem ClI.frame {G : Glo} {d : Nat} {f : Value} {F : List MV → MHeap → Option (MV × MHeap)} (h : ClI G d f F) : ClI G d f (fFrame F) := by
  intro D hp as cs s mvs vs mv hp' Q E ok hF r H post
  replace hF := if_some hF; obtain ⟨hall, hF⟩ := hF
  replace hF := bind_some hF; obtain ⟨⟨m, h1⟩, hm, hF⟩ := hF
  replace hF := if_some hF; obtain ⟨hfl, hF⟩ := hF
  cases hF
  exact h (D.shut cs) [] [] [] s mvs vs m h1 Q E (ok.shut cs) hm (r.flat hall) H.shut fun v as' cs' s' x' r' H' => post v as cs s' (Ext.refl _) (r'.flat hfl) (H.unshut H')

theorem isInt_inv {prog : Program} {w : World} {k : Int} {v : Value} (h : (intKind prog w).is k v = true) : ∃ t, v = .int k t := by
  simp only [intKind] at h
  cases v <;> first | (simp [Value.isInt] at h; done) | skip
  simp [Value.isInt] at h
  exact ⟨_, by rw [h]⟩
theorem ints_keys {prog : Program} {w : World} {kv : List (Int × Value)} : ∀ {vs : List Value}, vs.length = kv.length → (∀ (j : Nat) (v : Value), vs[j]? = some v → ∃ k x, kv[j]? = some (k, x) ∧ (intKind prog w).is k v = true) → IntsAre vs (kv.map (·.1)) := by
  induction kv with
  | nil => intro vs hl _; cases vs with
    | nil => exact .nil
    | cons _ _ => cases hl
  | cons p kv ih => intro vs hl h; cases vs with
    | nil => cases hl
    | cons v vs =>
      obtain ⟨k', x', e, hk⟩ := h 0 v rfl
      cases e
      obtain ⟨t, rfl⟩ := isInt_inv hk
      exact .cons k' t (ih (Nat.succ.inj hl) fun j u hu => h (j + 1) u hu)
theorem KR.keys {as : List Addr} {ks : List (Int × MV)} : ∀ {kv : List (Int × Value)}, KR as ks kv → kv.map (·.1) = ks.map (·.1) := by
  induction ks with
  | nil => intro kv r; cases r; rfl
  | cons p ks ih => rintro _ ⟨_, _, rfl, _, b⟩; rw [List.map_cons, List.map_cons, ih b]
noncomputable def fSortKeys : List MV → MHeap → Option (MV × MHeap) := fun vs hp => (one? vs).bind fun m => (locOf m).bind fun l => (dctAt hp l).bind fun ks =>
  if ks.length < 64 then some (.loc hp.length, hp ++ [.lst ((isort (ks.map (·.1))).map .int)]) else none
section
variable {G : Glo} {d : Nat}
theorem ClI.sortKeys (hs : (G.K.lookup sysModules).isSome = true) : ClI G d (.builtin "sorted") fSortKeys := by
  intro D hp as cs s mvs vs mv hp' Q E ok hF r H post
  replace hF := bind_some hF; obtain ⟨m, k1, hF⟩ := hF
  replace hF := bind_some hF; obtain ⟨l, k2, hF⟩ := hF
  replace hF := bind_some hF; obtain ⟨ks, hl, hF⟩ := hF
  replace hF := if_some hF; obtain ⟨hc, hF⟩ := hF
  cases hF
  obtain ⟨v, rfl, hv⟩ := r.one? k1
  obtain ⟨a, o, kv, rfl, _, _, q3, q4, q6, q7, _⟩ := H.dctV hv k2 hl
  clear r k1 k2 hv hl
  obtain ⟨ep, hat⟩ := q6.dictAt
  have hlen := q4.len
  have hsz : sizeLine = 2 ^ 24 := rfl
  refine kdu_sorted (kdl_dict (knd := intKind G.prog G.w) (kvs := kv) (ep := ep) (H.low ok.kin hs q7)) ok.handled H.fr H.nw hat (by omega) fun S h' tk vs F N l1 hl2 hv => ?_
  have hi := ints_keys hl2 hv
  have U : ∀ o, Upd S (listOf vs.toArray 0) o ((S, listOf vs.toArray 0) :: D.led cs) ((S, o) :: D.led cs) := fun o => .head fun q hq => Nat.ne_of_lt (l1 q hq)
  refine ksk_lsort F N U rfl hi (by rw [List.length_map, hlen]; exact hc) (fun vs' ns' c h'' F2 N2 hi2 _ hp2 hs2 _ => ?_)
  have en : ns' = isort (ks.map (·.1)) := by
    rw [q4.keys] at hp2
    exact List.Perm.eq_of_pairwise (le := (· ≤ ·)) (fun a b _ _ h1 h2 => Int.le_antisymm h1 h2) hs2 (isort_sorted _) (hp2.trans (isort_perm _).symm)
  exact post _ _ _ _ (Ext.app as [S]) (VR.last H) (H.above tk F2 N2 l1 ⟨vs'.toArray, c, rfl, en ▸ ints_vr hi2⟩)
end
end Mine
end

section
open PySem PySem.W PySem.Calls PyProof.Rows PyProof.Rows.LCg
set_option maxRecDepth 100000
namespace Mine

noncomputable def keysL (t : TFun) : List (Int × MV) → Option (List Int)
  | [] => some []
  | p :: r => (t [some (.int p.1)] []).bind fun b => if b.2.isEmpty = true then (keysL t r).bind fun l => some (cond b.1 (p.1 :: l) l) else none
noncomputable def eCompD (t : TFun) (g : EFun) : EFun := fun loc hp => (g loc hp).bind fun r => (locOf r.1).bind fun l => (dctAt r.2 l).bind fun ks =>
  if ks.length < 100 then (keysL t ks).bind fun l => some (.loc r.2.length, r.2 ++ [.lst (l.map .int)]) else none
noncomputable def KeyO (d : Addr) (i n ep : Nat) (o : Obj) : Prop := o.cls = .type "dict_keyiterator" ∧ o.data = .fields #[.ref d, .int i 0, .int n 0, .int ep 0]

section
variable {G : Glo} {sc : Scope} {tbl : List Str} {d : Nat}

theorem compD_loop {D : Dyn} {iter c : Expr} {x : Str} {px px2 pos : Pos} {cs : Scope} {t : TFun} {cl : List (Str × Addr)} {C I aacc ad : Addr} {od : Obj} {kv : List (Int × Value)} {ep : Nat} {ks : List (Int × MV)} {fin : List Int} {R : Result → Shared → Prop}
    (ok : Ok G d D) (hsc : D.env.scope = sc) (hc : compOk cs sc x = true) (hx : (x == ("__debug__" : Str)) = false) (c2 : ∀ y c, (y, NameKind.free) ∈ cs.names → D.env.cells.lookup y = some c → cl.lookup y = some c)
    (ht : TsI G (relS cs sc) [x] d c t) (hkv : kv.map (·.1) = ks.map (·.1)) (hsz : ks.length < 100)
    (hD : ∀ h : Heap, h.get? ad = some od → h.DictAt (intKind G.prog G.w) ad kv ep) (hmem : (ad, od) ∈ D.xs)
    (hR : ∀ oC mC as' cs' s', as'[0]? = some aacc → NsObj oC mC → HRel G (D.hold (C, oC)) as' cs' [.lst (fin.map .int)] s' → R (.ok .next) s')
    {i : Nat} {done rest : List Int} {o oC : Obj} {mC : Str → Option Value} {cs0 : List (List (Addr × Obj))} {as0 : List Addr} {s : Shared} (hi : i ≤ ks.length) (hrun : keysL t (ks.drop i) = some rest) (hfin : fin = done ++ rest) (hdn : done.length ≤ i)
    (hI : KeyO ad i kv.length ep o) (hC : NsObj oC mC) (ha0 : as0[0]? = some aacc)
    (H : HRel G ((D.hold (I, o)).hold (C, oC)) as0 cs0 [.lst (done.map .int)] s) : codeAny G.M D.A (.compLoop (.ListComp (.Name x px2) [⟨.Name x px, iter, [c], 0⟩] cs pos) 0 (.ref I) (.ref aacc) (compEnvC cs cl C D.env)) R s := by
  subst hsc
  obtain ⟨k1, nc, nl, k4, nf, k6⟩ := compOk_of hc
  have hlen : kv.length = ks.length := by have := congrArg List.length hkv; simpa using this
  refine codeAny_compLoop_tests (fun n s' => ∃ i done rest o oC mC as1 cs1, n = ks.length - i ∧ i ≤ ks.length ∧ keysL t (ks.drop i) = some rest ∧ fin = done ++ rest ∧ done.length ≤ i ∧ KeyO ad i kv.length ep o ∧ NsObj oC mC ∧ as1[0]? = some aacc ∧ HRel G ((D.hold (I, o)).hold (C, oC)) as1 cs1 [.lst (done.map .int)] s')
    ?_ (ks.length - i) ⟨i, done, rest, o, oC, mC, as0, cs0, rfl, hi, hrun, hfin, hdn, hI, hC, ha0, H⟩ (by intro _; rfl)
  clear hrun hI hC H hfin hdn hi ha0
  rintro n s' ⟨i, done, rest, o, oC, mC, as1, cs1, hn, hi, hrun, hfin, hdn, hI, hC, ha0, H⟩
  have H1 := H.inn (compEnvC cs cl C D.env)
  have hIt : s'.heap.IsKeyIter I ad i kv.length ep := ⟨o, (H1.nw (I, o) (.head _)).1, hI.1, hI.2⟩
  have hDt := hD s'.heap (H.nw (ad, od) (List.mem_cons_of_mem _ (List.mem_cons_of_mem _ (List.mem_append_left _ hmem)))).1
  by_cases hlt : i < ks.length
  · have hksi : ks.drop i = ks[i] :: ks.drop (i + 1) := List.drop_eq_getElem_cons hlt
    obtain ⟨k', vv, hkvi, hkey⟩ : ∃ k' vv, kv[i]? = some (k', vv) ∧ k' = (ks[i]).1 := by
      have := congrArg (fun l => l[i]?) hkv
      have h2 : i < kv.length := by omega
      refine ⟨kv[i].1, kv[i].2, by rw [List.getElem?_eq_getElem h2], ?_⟩
      simpa [List.getElem?_map, hlt, h2] using this
    rw [hksi] at hrun
    refine wpAny_pyNext_dict_item hIt hDt hkvi fun key h' hk hit' sb => ?_
    obtain ⟨tk, rfl⟩ := isInt_inv hk
    rw [hkey]
    replace hrun := bind_some hrun; obtain ⟨⟨b, hpb⟩, hb, hrun⟩ := hrun
    replace hrun := if_some hrun; obtain ⟨hem, hrun⟩ := hrun
    replace hrun := bind_some hrun; obtain ⟨rest', hr', hrun⟩ := hrun
    cases hrun
    generalize ks[i].1 = k at hb hfin tk
    cases List.isEmpty_iff.mp hem
    clear hem
    obtain ⟨o', ho', hc1, hd1⟩ := hit'
    have H2 := H1.turnO s'.toks (p := (I, o)) sb ho'
    have H2' := H2.out
    have hCg : h'.get? C = some oC := (H2'.nw (C, oC) (.head _)).1
    have kx : (compEnvC cs cl C D.env).kindOf x = some .local := lookup_relabel_local k4
    refine PyProof.Rows.assign_Name (wpAny_storeName_local (m := mC) kx (hC.ns hCg) (fun h3 hn3 sb3 => ?_) (by show (cs.kind == .class || (cs.kind == .module && _)) = false; rw [k1]; rfl))
    obtain ⟨oC3, hoC3, hC3⟩ := ns_obj hn3
    have H3 := (H2'.turnO (s'.toks + 1) (p := (C, oC)) sb3 hoC3).inn (compEnvC cs cl C D.env)
    have okc : Ok G d ((D.comp (compEnvC cs cl C D.env) (C, oC3)).hold (I, o')) := (ok.comp (p := (C, oC3)) hc c2).hold _
    have L3 : ∀ as, LocRel ((D.comp (compEnvC cs cl C D.env) (C, oC3)).hold (I, o')) as [x] [some (.int k)] := by
      intro as j m' hj
      cases j with
      | zero =>
        cases hj
        exact ⟨x, .int k tk, rfl, ⟨tk, rfl⟩, .inr (.inl ⟨kx, oC3, _, .head _, fun h e => hC3.ns e, by show (if x = x then some _ else _) = _; rw [if_pos rfl]⟩)⟩
      | succ j => simp at hj
    refine wpAny_tests_one (ht (((D.comp (compEnvC cs cl C D.env) (C, oC3)).hold (I, o')).shut cs1) _ [] [] [] _ b [] _ _ (okc.shut cs1) rfl hb (fun j m hj => L3 [] j m hj) H3.shut fun as4 cs4 s4 x4 H4 => ?_)
    have H5 := H3.unshut H4
    cases b with
    | false =>
      rw [if_neg Bool.false_ne_true]
      exact ⟨ks.length - (i + 1), by omega, i + 1, done, rest', o', oC3, _, as1, cs1, rfl, hlt, hr', hfin, by omega, ⟨hc1, hd1⟩, hC3, ha0, H5.out⟩
    | true =>
      rw [if_pos rfl]
      refine EvI.var (pos := px2) (G := G) (sc := relS cs D.env.scope) (tbl := [x]) (d := d) 0 rfl (lookup_relabel_local (env := D.env) k4) hx _ [some (.int k)] _ as1 cs1 s4 (.int k) _ _ _ okc rfl rfl (L3 as1) H5 fun w as5 cs5 s5 x5 r5 H6 => ?_
      have racc : VR as5 (.loc 0) (.ref aacc) := ⟨aacc, x5 _ _ ha0, rfl⟩
      have hap : fAppend [.loc 0, .int k] [.lst (done.map .int)] = some (.none, [.lst ((done ++ [k]).map .int)]) := by
        have hc0 : (done.map MV.int).length ≤ cap := by rw [List.length_map]; unfold cap; omega
        rw [List.map_append]
        exact append_run (hp := [.lst (done.map .int)]) rfl hc0
      refine ClI.append ((D.comp (compEnvC cs cl C D.env) (C, oC3)).hold (I, o')) _ as5 cs5 s5 [.loc 0, .int k] [.ref aacc, w] .none _ _ _ okc hap ⟨_, _, rfl, racc, VRs.one r5⟩ H6 fun w6 as6 cs6 s6 x6 r6 H7 => ?_
      exact ⟨ks.length - (i + 1), by omega, i + 1, done ++ [k], rest', o', oC3, _, as6, cs6, rfl, hlt, hr', hfin.trans (List.append_cons done k rest'), by rw [List.length_append]; exact Nat.succ_le_succ hdn, ⟨hc1, hd1⟩, hC3, x6 _ _ (x5 _ _ ha0), H7.out⟩
  · have hil : i = ks.length := by omega
    subst hil
    rw [List.drop_length] at hrun
    cases hrun
    refine wpAny_pyNext_dict_end ok.handled hIt hDt (List.getElem?_eq_none (by omega)) fun h' e => ?_
    have H2 := H1.ended s'.toks e
    refine hR oC mC as1 cs1 _ ha0 hC ?_
    rw [hfin, List.append_nil]
    exact H2.out1
end

theorem EvI.compD {G : Glo} {sc : Scope} {tbl : List Str} {d : Nat} {iter c : Expr} {x : Str} {px px2 pos : Pos} {cs : Scope} {t : TFun} {g : EFun} (hs0 : (G.K.lookup sysModules).isSome = true) (hc : compOk cs sc x = true) (hx : (x == ("__debug__" : Str)) = false)
    (hg : EvI G sc tbl d iter g) (ht : TsI G (relS cs sc) [x] d c t)
    (hs : ∀ env v, foldedSetIterable iter env v = pure v := by intro _ _; rfl) : EvI G sc tbl d (.ListComp (.Name x px2) [⟨.Name x px, iter, [c], 0⟩] cs pos) (eCompD t g) := by
  intro D loc hp as cs0 s mv hp' Q E ok hsc hfu hl H post
  replace hfu := bind_some hfu; obtain ⟨⟨m, h1⟩, hm, hfu⟩ := hfu
  replace hfu := bind_some hfu; obtain ⟨l, hloc, hfu⟩ := hfu
  replace hfu := bind_some hfu; obtain ⟨ks, hlk, hfu⟩ := hfu
  replace hfu := if_some hfu; obtain ⟨hsz, hfu⟩ := hfu
  replace hfu := bind_some hfu; obtain ⟨fin, hfin, hfu⟩ := hfu
  cases hfu
  obtain ⟨k1, nc, nl, k4, nf, k6⟩ := compOk_of hc
  obtain ⟨cl, hcl, _, c2⟩ := closureFor_spec (cs := cs) (env := D.env) (fun y hy => ok.cells y (by rw [hsc]; exact nf y hy))
  rw [eval_ListComp]
  refine wpAny_comprehension_free (use := none) rfl (hs _) hcl k1 nl (hg D loc hp as cs0 s _ h1 _ _ ok hsc hm hl H fun v as1 cs1 s1 x1 r1 H1 => ?_)
  obtain ⟨ad, od, kv, q1, q2, q3, q4, q5, q6, q7⟩ := H1.dct (dctAt_some hlk)
  cases r1.at hloc q1
  obtain ⟨ep, hat⟩ := q6.dictAt
  have hkv := q4.keys
  refine wpAny_pyIter_dict (H1.low ok.kin hs0 q7) hat ?_
  have okS := ok.shut cs1
  have HS := (H1.shut).hold (o := { cls := .type "dict_keyiterator", data := .fields #[.ref ad, .int 0 0, .int kv.length 0, .int ep 0] }) rfl
  refine newList_I (ms := []) (vs := []) (hp := []) (mv := .loc 0) (hp' := [.lst []]) rfl rfl HS fun acc as3 cs3 s3 x3 r3 H3 => ?_
  obtain ⟨aacc, hacc, rfl⟩ := r3
  refine wpAny_newFunctionEnv nc (by intro y hy; simp at hy) (fun h4 hns hsb => ?_) k1
  obtain ⟨oC, hoC, hnsC⟩ := ns_obj hns
  generalize hI0 : s1.heap.objs.size = I at H3
  have HC0 : HRel G (((D.shut cs1).hold (I, _)).hold (s3.heap.objs.size, oC)) as3 cs3 [.lst []] { s3 with heap := h4, toks := s3.toks + 0 } :=
    (H3.hold (o := { cls := .type (if (some D.env).isSome = true then "dict" else "frame"), data := .dict #[] }) rfl).turnO (s3.toks + 0) hsb hoC
  have hmem : (ad, od) ∈ (D.shut cs1).xs := List.mem_append_right _ (List.mem_flatten.mpr ⟨_, List.mem_of_getElem? q2, List.mem_singleton.mpr rfl⟩)
  have loop := compD_loop (iter := iter) (c := c) (px := px) (px2 := px2) (pos := pos) (I := I) (R := compPost G.M D.A E none Q (.ref aacc) s3.heap.objs.size) (D := D.shut cs1) (C := s3.heap.objs.size) (aacc := aacc) (fin := fin) (done := []) (rest := fin) (i := 0) okS hsc hc hx c2 ht hkv hsz
    (fun h e => hat.at' fun o e2 => by rw [q5] at e2; cases e2; exact e) hmem ?_ (Nat.zero_le _) hfin rfl (Nat.le_refl _) ⟨rfl, rfl⟩ hnsC hacc HC0
  · refine codeAny_compStart_list loop ?_
    have hIo : ({ s3 with heap := h4, toks := s3.toks + 0 } : Shared).heap.IsKeyIter I ad 0 kv.length ep := ⟨_, (HC0.nw (I, _) (List.mem_cons_of_mem _ (.head _))).1, rfl, rfl⟩
    exact wpAny_pyIter_keyiter hIo loop
  · intro oC2 mC2 as5 cs5 s5 h50 hC5 H5
    refine ⟨mC2, hC5.ns (H5.nw _ (.head _)).1, fun h6 sb6 => ?_⟩
    have H6 := H5.ended s5.toks sb6.extBut
    obtain ⟨a5, c5, e1, e2, us, n, e3, e4⟩ := H6.cel 0 _ rfl
    rw [h50] at e1; cases e1
    subst e3
    have k : Cell G (as1 ++ [aacc]) aacc (.lst (fin.map .int)) [(aacc, listOf us n)] := ⟨us, n, rfl, e4.flat (by simp [List.all_map, flatM])⟩
    exact post _ _ _ _ (x1.trans (Ext.app as1 [aacc])) (VR.last H1) (H1.unshut1 H6 (List.mem_of_getElem? e2) k)
end Mine
end

section
open PySem PySem.W PySem.Calls PyProof.Rows PyProof.Rows.LCg
set_option maxRecDepth 100000
namespace Mine

section
variable {G : Glo} {D : Dyn} {as : List Addr} {cs : List (List (Addr × Obj))} {hp : MHeap} {s : Shared}
theorem ns_keep {h h' : Heap} {L : Addr} {m : Str → Option Value} (x : h.Ns L m) (k : ∀ o, h.get? L = some o → h'.get? L = some o) : h'.Ns L m := by
  obtain ⟨o, es, ep, e, hd, r⟩ := x
  exact ⟨o, es, ep, k _ e, hd, r⟩
theorem HRel.two {I X : Addr} {oI oX oI' oX' : Obj} (H : HRel G ((D.hold (I, oI)).hold (X, oX)) as cs hp s) {h' : Heap} (tk : Nat) (k : ∀ b o, b ≠ X → b ≠ I → s.heap.get? b = some o → h'.get? b = some o) (hI : h'.get? I = some oI') (hX : h'.get? X = some oX') :
    HRel G ((D.hold (I, oI')).hold (X, oX')) as cs hp { s with heap := h', toks := tk } := by
  have z1 := H.nw (X, oX) (.head _)
  have z2 := H.nw (I, oI) (.tail _ (.head _))
  have off1 := H.off
  have off2 := H.dropped.off
  refine ⟨⟨ns_keep H.fr.ns fun o e => k _ o (Ne.symm z1.2.1) (Ne.symm z2.2.1) e, fun b o hb => k b o ?_ ?_ (H.fr.keep b o hb), H.fr.above⟩, fun q hq => ?_, H.nd, H.la, H.lc, H.cel, H.st⟩
  · intro e; have z : D.h₀.get? X = none := z1.2.2; have hb' : D.h₀.get? b = some o := hb; rw [e, z] at hb'; cases hb'
  · intro e; have z : D.h₀.get? I = none := z2.2.2; have hb' : D.h₀.get? b = some o := hb; rw [e, z] at hb'; cases hb'
  · rcases List.mem_cons.mp hq with rfl | hq
    · exact ⟨hX, z1.2⟩
    · rcases List.mem_cons.mp hq with rfl | hq
      · exact ⟨hI, z2.2⟩
      · have zq := H.nw q (.tail _ (.tail _ hq))
        exact ⟨k _ _ (off1 q (.tail _ hq)) (off2 q hq) zq.1, zq.2⟩
theorem HRel.swap {p q : Addr × Obj} (H : HRel G ((D.hold p).hold q) as cs hp s) : HRel G ((D.hold q).hold p) as cs hp s := H.move rfl rfl rfl rfl (List.Perm.swap _ _ _)
theorem HRel.fresh (H : HRel G D as cs hp s) {b : Addr} (hb : s.heap.objs.size ≤ b) : b ≠ D.L ∧ D.h₀.get? b = none :=
  ⟨fun e => Nat.lt_irrefl _ (Nat.lt_of_lt_of_le (e ▸ H.fr.ns.lt) hb), Heap.get?_none_of_le (Nat.le_trans H.fr.above (Nat.le_trans (Nat.le_of_lt H.fr.ns.lt) hb))⟩
end

noncomputable def EnO (it : Addr) (i : Int) (o : Obj) : Prop := ∃ old, o = { cls := .type "enumerate", dict := none, data := .fields #[.none, .bool false, .ref it, rawInt i, .none, old], slots := #[] }

noncomputable def enL (asg : AFun) (fb : SFun) (l : Nat) : Nat → Nat → Locs → MHeap → Option (MFlow × Locs × MHeap)
  | n, i, loc, hp => (lstAt hp l).bind fun ms => match ms[i]? with
    | none => some (.next, loc, hp)
    | some m => match n with
      | 0 => none
      | n + 1 => (asg (.loc hp.length) loc (hp ++ [.tup [.int i, m]])).bind fun l1 => (fb l1.1 l1.2).bind fun r => match r with
        | (.next, lc, h) => enL asg fb l n (i + 1) lc h
        | (.cont, lc, h) => enL asg fb l n (i + 1) lc h
        | (.brk, lc, h) => some (.next, lc, h)
        | (.ret v, lc, h) => some (.ret v, lc, h)
noncomputable def sEnum (asg : AFun) (f : EFun) (fb : SFun) : SFun := fun loc hp => (f loc hp).bind fun r => (locOf r.1).bind fun l => (lstAt r.2 l).bind fun ms => enL asg fb l ms.length 0 loc r.2
section
variable {G : Glo} {sc : Scope} {tbl : List Str} {d : Nat}
noncomputable abbrev EnInv (G : Glo) (D : Dyn) (as : List Addr) (tbl : List Str) (asg : AFun) (fb : SFun) (l : Nat) (fl : MFlow) (loc' : Locs) (hp' : MHeap) (I a : Addr) (n : Nat) (s' : Shared) : Prop :=
  ∃ (i : Nat) (oI oX : Obj) (mf : Str → Option Value) (ce : List (Addr × Obj)) (l1 : Locs) (hp1 : MHeap) (as1 : List Addr) (cs1 : List (List (Addr × Obj))), Ext as as1 ∧ oI.cls = .type "list_iterator" ∧ oI.data = .fields #[.ref a, .int (i : Nat) 0] ∧ EnO I i oX ∧ ce.map ck = D.ce.map ck ∧ as1[l]? = some a ∧ enL asg fb l n i l1 hp1 = some (fl, loc', hp') ∧ LocRel (D.turn mf ce) as1 tbl l1 ∧ HRel G (((D.turn mf ce).hold (I, oI)).hold (I + 1, oX)) as1 cs1 hp1 s'

theorem enum_tup {D : Dyn} {as : List Addr} {cs : List (List (Addr × Obj))} {hp : MHeap} {s : Shared} {I X : Addr} {oI oX oI2 oX2 : Obj} {i : Nat} {m : MV} {v : Value} {h5 : Heap} (H : HRel G ((D.hold (I, oI)).hold (X, oX)) as cs hp s) (hr : VR as m v) (tk : Nat)
    (kp5 : ∀ b o, b ≠ X → b ≠ I → s.heap.get? b = some o → h5.get? b = some o) (hI5 : h5.get? I = some oI2) (hX5 : h5.get? X = some oX2) (hT5 : h5.get? s.heap.objs.size = some ({ cls := .type "tuple", data := .seq #[.int i s.toks, v] } : Obj)) :
    HRel G ((D.hold (I, oI2)).hold (X, oX2)) (as ++ [s.heap.objs.size]) (cs ++ [[(s.heap.objs.size, ({ cls := .type "tuple", data := .seq #[.int i s.toks, v] } : Obj))]]) (hp ++ [.tup [.int i, m]]) { s with heap := h5, toks := tk } := by
  have H5 := H.two tk kp5 hI5 hX5
  refine H5.above (mo := .tup [.int i, m]) tk H5.fr (fun q hq => ?_) (fun q hq => ?_) ⟨_, 0, rfl, ⟨_, _, rfl, ⟨s.toks, rfl⟩, VRs.one (hr.mono (Ext.app _ _))⟩⟩
  · rcases List.mem_cons.mp hq with rfl | hq
    · exact ⟨hT5, H.fresh (Nat.le_refl _)⟩
    · exact H5.nw q hq
  · rcases List.mem_cons.mp hq with rfl | hq
    · exact H.lt (p := (X, oX)) (.head _)
    · rcases List.mem_cons.mp hq with rfl | hq
      · exact H.lt (p := (I, oI)) (.tail _ (.head _))
      · exact H.lt (.tail _ (.tail _ hq))
theorem enum_loop {ts : List Expr} {kk : Nat} {tpos : Pos} {body : List Stmt} {asg : AFun} {fb : SFun} {D : Dyn} {as : List Addr} {l : Nat} {fl : MFlow} {loc' : Locs} {hp' : MHeap} {I a : Addr} {R : Result → Shared → Prop}
    (ht : AsI G sc tbl d (.Tuple ts kk tpos) asg) (hb : ExI G sc tbl d body fb) (ok : Ok G d D) (hsc : D.env.scope = sc) (henv : D.env = D.fenv) (hL : D.env.locals = D.L)
    (post : ∀ fv as' cs' mf' ce' s', Ext as as' → FlR as' fl fv → ce'.map ck = D.ce.map ck → LocRel (D.turn mf' ce') as' tbl loc' → HRel G (D.turn mf' ce') as' cs' hp' s' → R (.ok fv) s')
    {n : Nat} {s : Shared} (h : EnInv G D as tbl asg fb l fl loc' hp' I a n s) : codeAny G.M D.A (.forLoop (.Tuple ts kk tpos) (.ref (I + 1)) body [] D.env) R s := by
  refine codeAny_forLoop_any (EnInv G D as tbl asg fb l fl loc' hp' I a) ?_ n h
  clear h
  rintro n s' ⟨i, oI, oX, mf, ce, l1, hp1, as1, cs1, x1, hoc, hod, ⟨old, rfl⟩, hk, ha1, hf, L1, H1⟩
  unfold enL at hf
  have hX := (H1.nw (I + 1, _) (.head _)).1
  have hI := (H1.nw (I, oI) (.tail _ (.head _))).1
  replace hf := bind_some hf; obtain ⟨ms, hl1, hf⟩ := hf
  obtain ⟨a', us, nn, p1, p2, p3, p4⟩ := H1.lst (lstAt_some hl1)
  rw [ha1] at p1; cases p1
  cases hmi : ms[i]? with
  | none =>
    rw [hmi] at hf
    cases hf
    have hus : us[i]? = none := by
      rw [Array.getElem?_eq_none_iff, size_len p3]; exact List.getElem?_eq_none_iff.mp hmi
    exact wpAny_pyNext_enum_end ok.handled hX ⟨oI, hI, hoc, hod⟩ (isList_of p4) hus fun h' e => wpAny_execs_nil (post _ as1 cs1 mf ce _ x1 rfl hk L1 ((H1.swap).ended s'.toks e).dropped)
  | some m =>
    rw [hmi] at hf
    cases n with
    | zero => cases hf
    | succ n =>
      replace hf := bind_some hf; obtain ⟨⟨l2, hp2⟩, hl2, hf⟩ := hf
      replace hf := bind_some hf; obtain ⟨⟨fl3, l3, hp3⟩, hb3, hf⟩ := hf
      obtain ⟨v, hv, hr⟩ := p3.get hmi
      refine wpAny_pyNext_enum_item hX ⟨oI, hI, hoc, hod⟩ (isList_of p4) (Array.getElem?_toList.symm.trans hv) (Nat.succ_ne_self I) fun h' hout hli htup hsz hkp => ?_
      refine wpAny_letOwnedTupleGo_enum hout fun h5 hen5 sb5 => ?_
      have hTX : s'.heap.objs.size ≠ I + 1 := Nat.ne_of_gt (H1.lt (p := (I + 1, _)) (.head _))
      obtain ⟨oI2, hoI2, hoc2, hod2⟩ := hli
      have H6 := enum_tup (i := i) (m := m) H1 hr (s'.toks + 1) (fun b o n1 n2 e => (sb5.2 _ n1).trans (hkp b o n1 n2 e)) ((sb5.2 _ (Nat.succ_ne_self I).symm).trans hoI2) hen5 ((sb5.2 _ hTX).trans htup)
      have x6 : Ext as1 (as1 ++ [s'.heap.objs.size]) := Ext.app _ _
      have okh := ((ok.turn mf ce hk).hold (I, oI2)).hold (I + 1, ({ cls := .type "enumerate", dict := none, data := .fields #[.none, .bool false, .ref I, rawInt ((i : Int) + 1), .none, v], slots := #[] } : Obj))
      refine ht (((D.turn mf ce).hold (I, oI2)).hold (I + 1, _)) l1 _ _ _ _ (.loc hp1.length) _ l2 hp2 _ _ okh hsc hL hl2 (show LocRel (D.turn mf ce) (as1 ++ [s'.heap.objs.size]) tbl l1 from L1.mono x6) H6 (VR.last H1) fun cs2 mf3 ce3 s3 k3 L3 H3 => ?_
      refine hb ((((D.turn mf ce).hold (I, oI2)).hold (I + 1, _)).turn mf3 ce3) l2 hp2 _ cs2 s3 fl3 l3 hp3 _ _ (okh.turn _ _ k3) hsc henv hL hb3 L3 H3 fun fv as4 cs4 mf4 ce4 s4 x4 r4 k4 L4 H4 => ?_
      have kk := (k4.trans k3).trans hk
      have xx := x1.trans (x6.trans x4)
      have L4' : LocRel (D.turn mf4 ce4) as4 tbl l3 := L4
      have H4' : HRel G (((D.turn mf4 ce4).hold (I, oI2)).hold (I + 1, _)) as4 cs4 hp3 s4 := H4
      have go : enL asg fb l n (i + 1) l3 hp3 = some (fl, loc', hp') → ∃ m, m < n + 1 ∧ EnInv G D as tbl asg fb l fl loc' hp' I a m s4 := fun hf => ⟨n, Nat.lt_succ_self n, i + 1, oI2, _, mf4, ce4, l3, hp3, as4, cs4, xx, hoc2, hod2, ⟨v, by push_cast; rfl⟩, kk, x4 _ _ (x6 _ _ ha1), hf, L4', H4'⟩
      cases fl3 with
      | next => cases r4; exact go hf
      | cont => cases r4; exact go hf
      | brk => cases r4; cases hf; exact post _ as4 cs4 mf4 ce4 s4 xx rfl kk L4' H4'.dropped.dropped
      | ret w =>
        obtain ⟨v4, rfl, hv4⟩ := r4
        cases hf
        exact post _ as4 cs4 mf4 ce4 s4 xx ⟨v4, rfl, hv4⟩ kk L4' H4'.dropped.dropped
theorem enum_start {D : Dyn} {as : List Addr} {cs : List (List (Addr × Obj))} {hp : MHeap} {s : Shared} {h3 : Heap} {oI oX : Obj} (H : HRel G D as cs hp s) (hkp : ∀ b o, s.heap.get? b = some o → h3.get? b = some o) (hI : h3.get? s.heap.objs.size = some oI) (hX : h3.get? (s.heap.objs.size + 1) = some oX) :
    HRel G ((D.hold (s.heap.objs.size, oI)).hold (s.heap.objs.size + 1, oX)) as cs hp { s with heap := h3, toks := s.toks } := by
  refine ⟨⟨H.fr.ns.keeps hkp, fun b o hb => hkp b o (H.fr.keep b o hb), H.fr.above⟩, fun q hq => ?_, ?_, H.la, H.lc, H.cel, H.st⟩
  · rcases List.mem_cons.mp hq with rfl | hq
    · exact ⟨hX, H.fresh (Nat.le_succ _)⟩
    · rcases List.mem_cons.mp hq with rfl | hq
      · exact ⟨hI, H.fresh (Nat.le_refl _)⟩
      · exact ⟨hkp _ _ (H.nw q hq).1, (H.nw q hq).2⟩
  · refine List.nodup_cons.mpr ⟨fun z => ?_, List.nodup_cons.mpr ⟨fun z => ?_, H.nd⟩⟩
    · rcases List.mem_cons.mp z with z | z
      · exact absurd z (Nat.succ_ne_self _)
      · obtain ⟨q, hq, e⟩ := List.mem_map.mp z
        exact absurd e (Nat.ne_of_lt (Nat.lt_succ_of_lt (H.lt hq)))
    · obtain ⟨q, hq, e⟩ := List.mem_map.mp z
      exact absurd e (Nat.ne_of_lt (H.lt hq))
theorem StI.forEnum {ts : List Expr} {kk : Nat} {e fx : Expr} {tpos cpos pos : Pos} {body : List Stmt} {asg : AFun} {f : EFun} {fb : SFun} (hfx : EvI G sc tbl d fx (eC (.gv (.type "enumerate")))) (ht : AsI G sc tbl d (.Tuple ts kk tpos) asg) (he : EvI G sc tbl d e f) (hst : StarOk [e]) (hb : ExI G sc tbl d body fb)
    (hcl : ∀ env, eval (.Call fx [e] [] cpos) env = (do callWith cpos (← eval fx env) [] (backTo cpos (starEach [e] env)) (backToKw cpos (keywordEach [] env))) := by intro _; rfl)
    (hfo : ∀ env x, foldedSetIterable (.Call fx [e] [] cpos) env x = pure x := by intro _ _; rfl) : StI G sc tbl d (.For (.Tuple ts kk tpos) (.Call fx [e] [] cpos) body [] pos) (sEnum asg f fb) := by
  intro D loc hp as cs s fl loc' hp' Q E ok hsc henv hL hf hl H post
  replace hf := bind_some hf; obtain ⟨⟨m, h1⟩, hm, hf⟩ := hf
  replace hf := bind_some hf; obtain ⟨l, hlo, hf⟩ := hf
  replace hf := bind_some hf; obtain ⟨ms0, hl0, hf⟩ := hf
  cases locOf_some hlo
  have hEs : EvsI G sc tbl d [e] (vCons f vNil) := EvsI.cons he EvsI.nil hst.1
  refine wpAny_For ?_ (hfo _)
  refine Call_ (hfx D loc hp as cs s _ hp _ _ ok hsc rfl hl H fun v as1 cs1 s1 x1 r1 H1 => ?_) (hcl _)
  obtain ⟨rfl, _⟩ := r1
  refine callWith_any (KeepsI.type _) hEs.1 (ok.kin.keeps H1.fr.keep) (hEs.2 D loc hp as1 cs1 s1 [.loc l] h1 cpos _ _ ok hsc (by unfold vCons vNil; rw [hm]; rfl) (hl.mono x1) H1 fun vs as2 cs2 s2 x2 r2 H2 => ⟨ok.kin.keeps H2.fr.keep, ?_⟩)
  obtain ⟨v, rfl, a, ha, rfl⟩ := r2.one_inv
  obtain ⟨a', us, nn, q1, q2, q3, q4⟩ := H2.lst (lstAt_some hl0)
  rw [ha] at q1; cases q1
  refine call_enumerate_list (isList_of q4) fun h3 hen hli hsz hkp => wpAny_pyIter_enum hen ?_
  obtain ⟨oI, hoI, hoc, hod⟩ := hli
  exact enum_loop ht hb ok hsc henv hL post (n := ms0.length) ⟨0, oI, _, D.mf, D.ce, loc, h1, as2, cs2, x1.trans x2, hoc, hod, ⟨_, rfl⟩, rfl, ha, hf, hl.mono (x1.trans x2), enum_start H2 hkp hoI hen⟩
end
end Mine
end

section
open PySem PySem.W PySem.Calls PyProof.Rows PyProof.Rows.LCg
set_option maxRecDepth 100000
namespace Mine

noncomputable def tabA : Addr := 1085
noncomputable def lamQL : Str := lamQ ++ ".<locals>." ++ "<lambda>"

noncomputable def opqT (params : Arguments) (body : Expr) (scope : Scope) (draws : List Value → Int → Int → Prop) : Nat → List Value → Addr → List (Addr × Obj) → Prop
  | 1, vs, a, c => vs = [] ∧ a = tabA ∧ c = [(tabA, tabObj #[])]
  | 2, vs, a, c => vs = [] ∧ a = tabA ∧ ∃ ps, c = [(tabA, tabObj ps)]
  | 3, vs, a, c => ∃ b pm c' ctv oc fvs t, vs = [.ref b] ∧ c = [(a, kla_obj "<lambda>" lamQL params body scope [(Str.ofString "line", b)] pm c' ctv), (c', oc)] ∧ oc.data = .fields fvs ∧ fvs[1]? = some (.str lamQL t)
  | 4, vs, a, c => ∃ n x y t u, draws vs x y ∧ c = [(a, listOf #[.int x t, .int y u] n)]
  | _, _, _, _ => False

theorem TriplesNil : TriplesOk ([] : List Value) := by exact True.intro

noncomputable def opqOf (k : Nat) : MObj → Option (List MV)
  | .opq j ls => if j = k then some ls else none
  | _ => none
theorem opqOf_some {k : Nat} {m : MObj} {ls : List MV} (h : opqOf k m = some ls) : m = .opq k ls := by
  cases m with
  | opq j l => replace h := if_some h; obtain ⟨rfl, h⟩ := h; cases h; rfl
  | _ => cases h
noncomputable def eLam (i : Nat) : EFun := fun loc hp => (hp[0]?).bind fun o => (opqOf 1 o).bind fun ls => if ls.isEmpty = true then ((loc[i]?).join).bind fun m => (locOf m).bind fun lc => some (.loc hp.length, (.opq 2 [] :: hp.tail) ++ [.opq 3 [.loc lc]]) else none
theorem closure_line {sc : Scope} {env : Env} {c : Addr} (h : sc.names = [(Str.ofString "line", .free)]) (hc : env.cells.lookup (Str.ofString "line") = some c) : closureFor sc env = pure [(Str.ofString "line", c)] := by
  have e : cellOf env (Str.ofString "line") = pure c := by unfold cellOf; rw [hc]
  unfold closureFor
  rw [h]
  simp [e]

section
variable {G : Glo} {sc : Scope} {tbl : List Str} {d : Nat} {lp : Arguments} {lb : Expr} {ls : Scope} {dr : List Value → Int → Int → Prop}
theorem EvI.lam {pos : Pos} (i : Nat) (hG : G.opq = opqT lp lb ls dr) (hi : tbl[i]? = some (Str.ofString "line")) (hk : sc.names.lookup (Str.ofString "line") = some .cell) (hN : lamN sc = true) (hs : ls.names = [(Str.ofString "line", .free)])
    (hdef : ∀ env, defaultsOf lp env = ([], [])) (hC : ∀ h, G.K.In h → CodeHd h lamC tabA) : EvI G sc tbl d (.Lambda lp lb ls pos) (eLam i) := by
  intro D loc hp as cs s mv hp' Q E ok hsc hf hl H post
  replace hf := bind_some hf; obtain ⟨o0, hp0, hf⟩ := hf
  replace hf := bind_some hf; obtain ⟨ls0, ho0, hf⟩ := hf
  replace hf := if_some hf; obtain ⟨he0, hf⟩ := hf
  replace hf := bind_some hf; obtain ⟨m0, hlc, hf⟩ := hf
  replace hf := bind_some hf; obtain ⟨lc, hm0, hf⟩ := hf
  cases hf
  replace hlc := Option.join_eq_some_iff.mp hlc
  cases locOf_some hm0
  cases opqOf_some ho0
  cases List.isEmpty_iff.mp he0
  cases hp with
  | nil => cases hp0
  | cons _ r =>
  cases hp0
  clear ho0 he0 hm0
  rw [List.tail_cons] at post
  obtain ⟨hcode, hqual⟩ := ok.lam (by rw [hsc]; exact hN)
  obtain ⟨x, v, hx, ⟨ac, hac, rfl⟩, hS⟩ := hl i _ hlc
  rw [hi] at hx; cases hx
  have hk' : D.env.kindOf (Str.ofString "line") = some .cell := by unfold Env.kindOf; rw [hsc]; exact hk
  obtain ⟨c, hc, hcv⟩ : ∃ c, D.env.cells.lookup (Str.ofString "line") = some c ∧ Value.ref ac = .ref c := by
    rcases hS with ⟨_, k, _⟩ | ⟨k, _⟩ | ⟨_, k⟩
    · rw [hk'] at k; cases k
    · rw [hk'] at k; cases k
    · exact k
  cases hcv
  obtain ⟨at0, ct0, ha0, hc0, vs0, hvs0, ho⟩ := H.cel 0 _ rfl
  cases hvs0
  rw [hG] at ho
  obtain ⟨-, rfl, rfl⟩ := ho
  have hm := H.nw (tabA, tabObj #[]) (mem_led (D := D) hc0 (List.mem_singleton.mpr rfl))
  have T := ok.top
  have hgs := T.g.keeps H.fr.keep
  obtain ⟨bm, ob, b1, b2, b3, b4, b5, b6⟩ := T.bmain
  have hgP : mainGlobals ≠ tabA := fun q => by
    obtain ⟨o, es, ep, e, hd, _⟩ := hgs
    rw [q, hm.1] at e; cases e; cases hd
  have hbP : bm ≠ tabA := fun q => by
    have e := H.fr.keep _ _ b3
    rw [q, hm.1] at e; cases e; cases b4
  have hbG : bm ≠ mainGlobals := fun q => by
    obtain ⟨o, es, ep, e, hd, _⟩ := T.g
    rw [q, e] at b3; cases b3; rw [hd] at b6; cases b6
  refine kla_eval (hdef _) ?_
  rw [hqual]
  refine kla_makeFunction (mg := G.mg) (c := lamC) (P := tabA) (ps := #[]) (closure_line hs hc) ok.eg hgs hcode ((hC _ ok.kin).keeps H.fr.keep) hm.1 TriplesNil rfl hgP ⟨bm, ob, b1, b2, hbG, hbP, H.fr.keep _ _ b3, b4, b5, b6⟩ fun c' ctv h' tk hx hge hlt hrec htb => ?_
  obtain ⟨c₂, oc, fvs, t, e2, hoc, hd, hv⟩ := hrec
  cases e2
  have old : ∀ b o, D.h₀.get? b = some o → h'.get? b = some o := fun b o e => hx b o (fun q => by rw [q, hm.2.2] at e; cases e) (H.fr.keep b o e)
  have hl0 : 0 < (MObj.opq 1 [] :: r).length := Nat.succ_pos _
  have F1 : Fr D.h₀ D.L h' D.mf := ⟨H.fr.ns.extBut hx hm.2.1.symm, old, H.fr.above⟩
  have N1 : News D.h₀ D.L h' (updA tabA _ (D.led cs)) := fun p hp => by
    obtain ⟨q, hq, rfl⟩ := List.mem_map.mp hp
    by_cases e : q.1 = tabA
    · rw [if_pos e]; exact ⟨htb, hm.2⟩
    · rw [if_neg e]; exact ⟨hx _ _ e (H.nw q hq).1, (H.nw q hq).2⟩
  have cs_lt : ∀ q ∈ D.led cs, q.1 < s.heap.objs.size := fun q hq => H.lt hq
  have H1 := H.putN (a := tabA) (d := tabA) (mo' := .opq 2 []) tk hl0 ha0 hc0 (by simp) F1 N1 ⟨[], rfl, by rw [hG]; exact ⟨rfl, rfl, _, by simp [updA]; rfl⟩⟩
  have k1 : ∀ q ∈ D.led (cs.map (updA tabA (tabObj (#[] ++ #[rawInt pos.line, rawInt pos.col, .ref c'])))), q.1 < s.heap.objs.size := fun q hq => by
    have z := H.nd
    have e : (D.led (cs.map (updA tabA (tabObj (#[] ++ #[rawInt pos.line, rawInt pos.col, .ref c']))))) = updA tabA (tabObj (#[] ++ #[rawInt pos.line, rawInt pos.col, .ref c'])) (D.led cs) := (led_off H.nd hc0 (by simp) _).2
    rw [e] at hq
    obtain ⟨q', hq', rfl⟩ := List.mem_map.mp hq
    have := cs_lt q' hq'
    split
    · rename_i e2; rw [← e2]; exact this
    · exact this
  have z1 := H.fresh (b := h'.objs.size) (Nat.le_trans hge (Nat.le_of_lt hlt))
  have z2 := H.fresh (b := c') hge
  have hr : (MObj.opq 1 [] :: r).set 0 (.opq 2 []) = .opq 2 [] :: r := rfl
  rw [hr] at H1
  have H2 := H1.grow (a := h'.objs.size) (c := [(h'.objs.size, kla_obj "<lambda>" lamQL lp lb ls [(Str.ofString "line", ac)] ((G.mg "__name__").getD .none) c' ctv), (c', oc)]) (mo := .opq 3 [.loc lc])
    (h' := h'.push (kla_obj "<lambda>" lamQL lp lb ls [(Str.ofString "line", ac)] ((G.mg "__name__").getD .none) c' ctv)) tk (F1.push _)
    (fun p hp => by
      rcases List.mem_cons.mp hp with rfl | hp
      · exact ⟨Heap.get?_push_size _ rfl, z1⟩
      · rcases List.mem_cons.mp hp with rfl | hp
        · exact ⟨Heap.get?_push_of_some _ hoc, z2⟩
        · exact ⟨Heap.get?_push_of_some _ (H1.nw p hp).1, (H1.nw p hp).2⟩)
    (by
      refine List.nodup_cons.mpr ⟨?_, by simp⟩
      intro q
      have e : h'.objs.size = c' := by simpa using q
      exact absurd e (Nat.ne_of_gt hlt))
    (fun p hp q hq => by
      have hq2 : q.1 < s.heap.objs.size := k1 q hq
      rcases List.mem_cons.mp hp with rfl | hp
      · exact Nat.ne_of_lt (Nat.lt_of_lt_of_le hq2 (Nat.le_trans hge (Nat.le_of_lt hlt)))
      · rcases List.mem_cons.mp hp with rfl | hp
        · exact Nat.ne_of_lt (Nat.lt_of_lt_of_le hq2 hge)
        · cases hp)
    ⟨[.ref ac], VRs.one ⟨ac, Ext.app _ _ _ _ hac, rfl⟩, by rw [hG]; exact ⟨ac, _, c', ctv, oc, fvs, t, rfl, rfl, hd, hv⟩⟩
  exact post _ _ _ _ (Ext.app as [h'.objs.size]) ⟨_, last_at H.la, rfl⟩ H2

noncomputable def eLamRun : MV → MHeap → Option (MV × MHeap) := fun m hp => (locOf m).bind fun l => (hp[l]?).bind fun o => (opqOf 3 o).bind fun ls => (one? ls).bind fun m => (locOf m).bind fun lc => eLst (vCons (eCV 0) vNil) [some (.loc lc)] hp
noncomputable def eRoots (i : Nat) (Cs : List Addr) (f : EFun) : EFun := fun loc hp => (f loc hp).bind fun r => (aGet i Cs r.1 r.2).bind fun q => eLamRun q.1 q.2

theorem EvI.roots {o : Expr} {name : Str} {apos pos p1 p2 : Pos} {fo : EFun} (i : Nat) (C : Addr) (hG : G.opq = opqT lp (.List [.Name (Str.ofString "line") p1] p2) ls dr) (hx : G.atn[i]? = some name) (hCa : ([C].all fun C => okGet G.K C name) = true)
    (hfi : findIn G.K (.ref C) name = some none) (hpg : plainGet G.K C name = true) (hs : ls.names = [(Str.ofString "line", .free)])
    (hlp : ∀ cl pm c' ctv, bindArgs (kla_fn "<lambda>" lamQL lp (.List [.Name (Str.ofString "line") p1] p2) ls cl pm (.ref c') ctv) ⟨[], []⟩ = pure []) (hco : ls.isCoroutine = false) (hgen : ls.isGenerator = false) (hlk : ls.kind = .function)
    (ho : EvI G sc tbl (d + 1) o fo) (pl : Env → Sem Bool)
    (he : ∀ env, eval (.Call (.Attribute o name apos) [] [] pos) env = (do
          let ov ← eval o env
          standAt apos.atName
          let (f, first) ← holding [ov] (getMethod ov name (pl env))
          callWith pos f first (backTo pos (starEach [] env)) (backToKw pos (keywordEach [] env))) := by intro _; rfl) :
    EvI G sc tbl (d + 1) (.Call (.Attribute o name apos) [] [] pos) (eRoots i [C] fo) := by
  intro D loc hp as cs s mv hp' Q E ok hsc hfu hl H post
  replace hfu := bind_some hfu; obtain ⟨⟨m, h1⟩, hm1, hfu⟩ := hfu
  replace hfu := bind_some hfu; obtain ⟨⟨m2, h2⟩, hm2, hfu⟩ := hfu
  refine methodCall_KW (ho D loc hp as cs s m h1 _ _ ok hsc hm1 hl H fun v as1 cs1 s1 x1 r1 H1 => ?_) (he _)
  obtain ⟨l, hlo, hm2'⟩ := bind_some hm2
  obtain ⟨⟨C', fs⟩, hl1, hm2'⟩ := bind_some hm2'
  obtain ⟨hany, _⟩ := if_some hm2'
  cases List.mem_singleton.mp (any_mem hany)
  obtain ⟨a, ha, rfl⟩ := r1.loc hlo
  obtain ⟨a', dx, es, n, q1, q2, q3, q4⟩ := H1.inst (instAt_some hl1)
  rw [ha] at q1; cases q1
  refine method_usual (ok.kin.keeps H1.fr.keep) q4 (plainGet_of hpg).1 (plainGet_of hpg).2 hfi rfl ?_
  refine getAttr_I hx hCa ok hm2 r1 H1 fun v as2 cs2 s2 x2 r2 H2 => ?_
  replace hfu := bind_some hfu; obtain ⟨l2, k1, hfu⟩ := hfu
  replace hfu := bind_some hfu; obtain ⟨o2, hl2, hfu⟩ := hfu
  replace hfu := bind_some hfu; obtain ⟨ls2, k2, hfu⟩ := hfu
  replace hfu := bind_some hfu; obtain ⟨m3, k3, hfu⟩ := hfu
  replace hfu := bind_some hfu; obtain ⟨lc, k4, hfu⟩ := hfu
  cases opqOf_some k2
  cases one?_some k3
  cases locOf_some k4
  obtain ⟨f, hf2, rfl⟩ := r2.loc k1
  clear k1 k2 k3 k4 hm2 hm2' hl1 hlo
  obtain ⟨f', c2, g1, g2, vs2, hvs2, hop⟩ := H2.cel _ _ hl2
  rw [hf2] at g1; cases g1
  rw [hG] at hop
  obtain ⟨b, pm, c', ctv, oc, fvs, t, rfl, rfl, hd, hv⟩ := hop
  obtain ⟨v3, e3, ⟨b', hb', rfl⟩⟩ := hvs2.one_inv
  cases e3
  have mem1 := mem_led (D := D) g2 (List.mem_cons_self ..)
  have mem2 := mem_led (D := D) g2 (List.mem_cons_of_mem _ (List.mem_singleton.mpr rfl))
  refine callWith_F0 (FnAt.of H2.nw mem1) ?_
  rw [List.append_nil]
  have hcell : ∀ x ∈ ls.names, x.2 ≠ .cell := by rw [hs]; intro x hx; rw [List.mem_singleton] at hx; subst hx; exact fun e => by cases e
  refine wpAny_call (kla_code (binds := []) ok.below H2.fr ok.kin H2.nw ok.top ok.frames ok.ff ok.fk mem1 (codeRec_news H2.nw mem2 hd hv) (by have := ok.depth; omega) (hlp _ _ _ _) (fun y hy => by cases hy) (fun g L' h₁ FG F' N' B' X' T' => ?_) hco hgen hlk hcell)
  let D' : Dyn := { A := D.A.deeper (envX lamQL ls L' f (.ref c') [(Str.ofString "line", b)]), A₀ := D.A, base := D.base, h₀ := g, outer := D.fenv :: D.outer, L := L', fenv := envX lamQL ls L' f (.ref c') [(Str.ofString "line", b)], env := envX lamQL ls L' f (.ref c') [(Str.ofString "line", b)],
                    mf := fun y => ([] : List (Str × Value)).reverse.lookup y, ce := [], xs := D.xs ++ D.ce, s₀ := D.s₀ }
  have eled : ∀ cs, D'.led cs = D.led cs := fun cs => by show (D.xs ++ D.ce) ++ ([] ++ cs.flatten) = D.xs ++ (D.ce ++ cs.flatten); simp
  have hkf : ls.names.lookup (Str.ofString "line") = some .free := by rw [hs]; rfl
  have nlam : lamN ls = false := by unfold lamN; rw [hs]; rfl
  have ok' : Ok G d D' := ⟨B', X', T', by show (D.A.deeper _).frames = _; exact Around.frames_deeper ok.frames, ok.handled, rfl, hlk, by have := ok.depth; show D.A.depth + 1 + d < _; omega, by have := ok.units; show D.A.units + 3 + 8 * d + 200 < _; omega, ok.nd, rfl, rfl, hlk,
    fun x e => absurd rfl (hcell _ (mem_lookup e)), fun e => by rw [show D'.env.scope = ls from rfl, nlam] at e; cases e⟩
  have H' : HRel G D' as2 cs2 h2 { s2 with heap := h₁, toks := s2.toks + ([] : List (Str × Value)).length } := ⟨F', by rw [eled]; exact N', by rw [eled]; exact H2.nd, H2.la, H2.lc, H2.cel, H2.st⟩
  have L0 : LocRel D' as2 [Str.ofString "line"] [some (.loc lc)] := by
    intro j m' hj
    cases j with
    | zero =>
      cases hj
      exact ⟨_, .ref b, rfl, ⟨b, hb', rfl⟩, .inr (.inr ⟨.inr hkf, b, rfl, rfl⟩)⟩
    | succ j => simp at hj
  have hev : EvI G ls [Str.ofString "line"] d (.List [.Name (Str.ofString "line") p1] p2) (eLst (vCons (eCV 0) vNil)) := EvI.lst (EvsI.cons (EvI.cvar 0 rfl (by rw [hkf]; rfl) (by decide) (by decide)) EvsI.nil)
  refine hev D' [some (.loc lc)] h2 as2 cs2 _ mv hp' _ _ ok' rfl hfu L0 H' fun v as4 cs4 s4 x4 r4 H4 => ?_
  refine ⟨L', _, D.led cs4, H4.fr, fun p hp => H4.nw p (by rw [eled]; exact hp), fun F5 N5 => ?_⟩
  exact post v as4 cs4 s4 ((x1.trans x2).trans x4) r4 ⟨F5, N5, by rw [← eled]; exact H4.nd, H4.la, H4.lc, H4.cel, H4.st⟩
end
end Mine
end

section
open PySem PySem.W PySem.Calls PyProof.Rows PyProof.Rows.LCg
set_option maxRecDepth 100000
namespace Mine

noncomputable def rOk (x y : Int) : Prop := 0 ≤ x ∧ 0 ≤ y ∧ y < 4294967296
noncomputable def wnd (x y m : Int) : Int × Int × Int :=
  if 0 < x then (x.fmod m, x.fdiv m, y) else ((((((y * 39373 + 7).fmod 2147483647) * ((y * 39373 + 7).fmod 2147483647)).fmod 2147483629).fdiv 32).fmod m, x, (y * 39373 + 7).fmod 2147483647)
theorem wnd_ok {x y m : Int} (h : rOk x y) (hm : 0 < m) : rOk (wnd x y m).2.1 (wnd x y m).2.2 := by
  obtain ⟨h1, h2, h3⟩ := h
  unfold wnd
  by_cases h : 0 < x
  · rw [if_pos h]; exact ⟨Int.fdiv_nonneg h1 (Int.le_of_lt hm), h2, h3⟩
  · rw [if_neg h]
    refine ⟨h1, ?_, ?_⟩
    · exact Int.fmod_nonneg_of_pos _ (by decide)
    · exact Int.lt_trans (Int.fmod_lt_of_pos _ (by decide)) (by decide)
theorem wnd_bound {x y m : Int} (hm : 0 < m) : 0 ≤ (wnd x y m).1 ∧ (wnd x y m).1 < m := by
  unfold wnd
  by_cases h : 0 < x
  · rw [if_pos h]; exact ⟨Int.fmod_nonneg_of_pos _ hm, Int.fmod_lt_of_pos _ hm⟩
  · rw [if_neg h]; exact ⟨Int.fmod_nonneg_of_pos _ hm, Int.fmod_lt_of_pos _ hm⟩
noncomputable def drawsT : List Value → Int → Int → Prop
  | [], x, y => rOk x y
  | v :: vs, x, y => rOk x y ∧ (∃ t, v = .int (wnd x y 3).1 t) ∧ drawsT vs (wnd x y 3).2.1 (wnd x y 3).2.2
theorem drawsT.ok {vs : List Value} {x y : Int} (h : drawsT vs x y) : rOk x y := by
  cases vs with
  | nil => exact h
  | cons _ _ => exact h.1
noncomputable def draws3 (x y : Int) : List Int :=
  let a := wnd x y 3
  let b := wnd a.2.1 a.2.2 3
  let c := wnd b.2.1 b.2.2 3
  [a.1, b.1, c.1]
theorem draws3_ok {x y : Int} (h : rOk x y) : drawsT ((draws3 x y).map fun n => .int n 0) x y := by
  have h1 := wnd_ok (m := 3) h (by decide)
  have h2 := wnd_ok (m := 3) h1 (by decide)
  have h3 := wnd_ok (m := 3) h2 (by decide)
  exact ⟨h, ⟨0, rfl⟩, h1, ⟨0, rfl⟩, h2, ⟨0, rfl⟩, h3⟩

section
variable {G : Glo} {D : Dyn} {as : List Addr} {cs : List (List (Addr × Obj))} {hp : MHeap} {s : Shared} {d : Nat}

theorem HRel.view (H : HRel G D as cs hp s) {l : Nat} {mo mo' : MObj} (hl : hp[l]? = some mo) (k : ∀ a c, as[l]? = some a → cs[l]? = some c → Cell G as a mo c → Cell G as a mo' c) : HRel G D as cs (hp.set l mo') s := by
  refine ⟨H.fr, H.nw, H.nd, by rw [List.length_set]; exact H.la, by rw [List.length_set]; exact H.lc, fun l' m hm => ?_, H.st⟩
  by_cases e : l = l'
  · subst e
    rw [List.getElem?_set_self (List.getElem?_eq_some_iff.mp hl).1] at hm
    cases hm
    obtain ⟨a, c, h1, h2, h3⟩ := H.cel l _ hl
    exact ⟨a, c, h1, h2, k a c h1 h2 h3⟩
  · rw [List.getElem?_set_ne e] at hm
    exact H.cel l' m hm

noncomputable def orcAt (mvs : List MV) (hp : MHeap) : Option (Nat × Int × List MV) := (two? mvs).bind fun p => (locOf p.1).bind fun l => (intOf p.2).bind fun k =>
  if k = 3 then (hp[l]?).bind fun o => (opqOf 4 o).bind fun ms => (ms.head?).bind fun m => (intOf m).bind fun n => some (l, n, ms.tail) else none
theorem orcAt_some {mvs : List MV} {hp : MHeap} {l : Nat} {n : Int} {ms : List MV} (h : orcAt mvs hp = some (l, n, ms)) : mvs = [.loc l, .int 3] ∧ hp[l]? = some (.opq 4 (.int n :: ms)) := by
  replace h := bind_some h; obtain ⟨p, h1, h⟩ := h
  replace h := bind_some h; obtain ⟨l', h2, h⟩ := h
  replace h := bind_some h; obtain ⟨k, h3, h⟩ := h
  replace h := if_some h; obtain ⟨rfl, h⟩ := h
  replace h := bind_some h; obtain ⟨o, h4, h⟩ := h
  replace h := bind_some h; obtain ⟨ws, h5, h⟩ := h
  replace h := bind_some h; obtain ⟨m, h6, h⟩ := h
  replace h := bind_some h; obtain ⟨n', h7, h⟩ := h
  cases h
  cases ws with
  | nil => cases h6
  | cons _ ws =>
    cases h6
    rw [two?_some h1, locOf_some h2, intOf_some h3, h4, opqOf_some h5, intOf_some h7]
    exact ⟨rfl, rfl⟩
noncomputable def fOrc (F : List MV → MHeap → Option (MV × MHeap)) : List MV → MHeap → Option (MV × MHeap) := fun mvs hp => match orcAt mvs hp with
  | some t => some (.int t.2.1, hp.set t.1 (.opq 4 t.2.2))
  | none => F mvs hp
noncomputable def WndF (F : List MV → MHeap → Option (MV × MHeap)) : Prop := ∀ (l : Nat) (hp : MHeap) (x y m : Int), rOk x y → 0 < m → m ≤ 64 → hp[l]? = some (.lst [.int x, .int y]) →
  F [.loc l, .int m] hp = some (.int (wnd x y m).1, hp.set l (.lst [.int (wnd x y m).2.1, .int (wnd x y m).2.2]))
theorem FnI.orc {lp : Arguments} {lb : Expr} {ls : Scope} (hG : G.opq = opqT lp lb ls drawsT) {f : Addr} {F : List MV → MHeap → Option (MV × MHeap)} (h : FnI G d f F) (hw : WndF F) : FnI G d f (fOrc F) := by
  intro D A hp as cs s mvs vs mv hp' R ok a b c e hF r H post
  unfold fOrc at hF
  cases he : orcAt mvs hp with
  | none => rw [he] at hF; exact h D A hp as cs s _ vs mv hp' R ok a b c e hF r H post
  | some t =>
    rw [he] at hF
    obtain ⟨l, n, ms⟩ := t
    obtain ⟨rfl, hl⟩ := orcAt_some he
    cases hF
    clear he
    obtain ⟨a0, c0, e1, e2, ws, hws, ho⟩ := H.cel _ _ hl
    have ho' := ho
    rw [hG] at ho'
    obtain ⟨nn, x, y, t, u, hd, rfl⟩ := ho'
    obtain ⟨w, ws', rfl, ⟨tw, hw1⟩, hws'⟩ := hws
    subst hw1
    obtain ⟨hr, ⟨tw', etw⟩, hd'⟩ := hd
    cases etw
    have hV := H.view (mo' := .lst [.int x, .int y]) hl (fun a c h1 h2 _ => by
      rw [e1] at h1; cases h1
      rw [e2] at h2; cases h2
      exact ⟨_, nn, rfl, ⟨_, _, rfl, ⟨t, rfl⟩, VRs.one ⟨u, rfl⟩⟩⟩)
    have hlt := (List.getElem?_eq_some_iff.mp hl).1
    have hF2 := hw l (hp.set l (.lst [.int x, .int y])) x y 3 hr (by decide) (by decide) (List.getElem?_set_self hlt)
    rw [List.set_set] at hF2
    refine h D A _ as cs s _ vs _ _ R ok a b c e hF2 r hV fun v as' cs' s' x' r' H' => ?_
    refine post v as' cs' s' x' r' ?_
    have H2 := H'.view (mo' := .opq 4 ms) (List.getElem?_set_self hlt) (fun a c h1 h2 k => by
      obtain ⟨us, n2, rfl, v1, r1, e3, ⟨t1, h3⟩, v2, r2, e4, ⟨t2, h4⟩, h5⟩ := k
      subst h3 h4 h5 e4
      refine ⟨ws', (hws'.mono x'), ?_⟩
      rw [hG]
      refine ⟨n2, _, _, t1, t2, hd', ?_⟩
      have : us = #[.int (wnd x y 3).2.1 t1, .int (wnd x y 3).2.2 t2] := Array.toList_inj.mp e3
      rw [this])
    rw [List.set_set] at H2
    exact H2

noncomputable def pairOf (m : MObj) : Option (Int × Int) := (lstOf m).bind fun ms => (two? ms).bind fun p => (intOf p.1).bind fun x => (intOf p.2).bind fun y => some (x, y)
theorem pairOf_some {m : MObj} {p : Int × Int} (h : pairOf m = some p) : m = .lst [.int p.1, .int p.2] := by
  unfold pairOf at h
  replace h := bind_some h; obtain ⟨ms, h1, h⟩ := h
  replace h := bind_some h; obtain ⟨q, h2, h⟩ := h
  replace h := bind_some h; obtain ⟨x, h3, h⟩ := h
  replace h := bind_some h; obtain ⟨y, h4, h⟩ := h
  cases h
  rw [lstOf_some h1, two?_some h2, intOf_some h3, intOf_some h4]
noncomputable def isOpq (k : Nat) : MObj → Bool
  | .opq j ls => j == k && ls.isEmpty
  | _ => false
theorem isOpq_of {k : Nat} {m : MObj} (h : isOpq k m = true) : m = .opq k [] := by
  cases m <;> first | cases h | skip
  unfold isOpq at h
  rw [Bool.and_eq_true, beq_iff_eq, List.isEmpty_iff] at h
  rw [h.1, h.2]
noncomputable def isL2 (vs : List MV) : Bool := ((one? vs).bind locOf) == some 2
theorem isL2_of {vs : List MV} (h : isL2 vs = true) : vs = [.loc 2] := by
  obtain ⟨m, h1, h2⟩ := bind_some (beq_iff_eq.mp h)
  rw [one?_some h1, locOf_some h2]
noncomputable def fWaits (F : List MV → MHeap → Option (MV × MHeap)) : List MV → MHeap → Option (MV × MHeap) := fun vs hp =>
  if isL2 vs = true then (three? hp).bind fun t => (pairOf t.2.2).bind fun _ => (F [.loc 0] [t.2.2]).bind fun r => (boolOf r.1).bind fun b => (r.2.head?).bind fun m => (pairOf m).bind fun _ => some (.bool b, [t.1, t.2.1, m]) else none
noncomputable def fForgot2 (F : List MV → MHeap → Option (MV × MHeap)) : List MV → MHeap → Option (MV × MHeap) := fun vs hp =>
  if isL2 vs = true then (three? hp).bind fun t => (pairOf t.2.2).bind fun p => if (0 ≤ p.1 ∧ 0 ≤ p.2 ∧ p.2 < 4294967296) ∧ isOpq 1 t.1 = true then
    (F [.loc 1] [t.1, .opq 4 ((draws3 p.1 p.2).map .int)]).bind fun r => (boolOf r.1).bind fun b => (r.2[0]?).bind fun m0 => (r.2[1]?).bind fun m2 => if isOpq 2 m0 = true ∧ isOpq 4 m2 = true then some (.bool b, [m0, t.2.1, m2]) else none
    else none else none
theorem three {α : Type} {l : List α} (h : l.length = 3) : ∃ a b c, l = [a, b, c] := by
  rcases l with _ | ⟨a, _ | ⟨b, _ | ⟨c, _ | ⟨e, r⟩⟩⟩⟩ <;> first | exact ⟨a, b, c, rfl⟩ | cases h
theorem ClI.waits {f : Value} {F : List MV → MHeap → Option (MV × MHeap)} (h : ClI G d f F) : ClI G d f (fWaits F) := by
  intro D hp as cs s mvs vs mv hp' Q E ok hF r H post
  replace hF := if_some hF; obtain ⟨hL, hF⟩ := hF
  replace hF := bind_some hF; obtain ⟨⟨m0, m1, m2⟩, ht, hF⟩ := hF
  replace hF := bind_some hF; obtain ⟨⟨x, y⟩, hp2, hF⟩ := hF
  replace hF := bind_some hF; obtain ⟨⟨rm, rh⟩, hr, hF⟩ := hF
  replace hF := bind_some hF; obtain ⟨b, hb, hF⟩ := hF
  replace hF := bind_some hF; obtain ⟨mr, hmr, hF⟩ := hF
  replace hF := bind_some hF; obtain ⟨⟨x', y'⟩, hp3, hF⟩ := hF
  cases hF
  rw [isL2_of hL] at r
  rw [three?_some ht] at H
  have em2 := pairOf_some hp2
  have emr := pairOf_some hp3
  have ebm := boolOf_some hb
  dsimp only at em2 emr ebm H hr hmr
  subst em2 emr ebm
  obtain ⟨rest, rfl⟩ : ∃ rest, rh = .lst [.int x', .int y'] :: rest := by
    cases rh with
    | nil => cases hmr
    | cons o q => cases hmr; exact ⟨q, rfl⟩
  clear hmr hp3 hb hp2 ht hL
  obtain ⟨a0, a1, a2, rfl⟩ := three H.la
  obtain ⟨c0, c1, c2, rfl⟩ := three H.lc
  have k0 := H.cel 0 _ rfl
  have k1 := H.cel 1 _ rfl
  obtain ⟨ax, cx, e1, e2, us, n, rfl, hus⟩ := H.cel 2 _ rfl
  cases e1; cases e2
  let D2 : Dyn := { D with xs := D.xs ++ (c0 ++ c1) }
  have perm : ∀ cs' : List (List (Addr × Obj)), (D2.led cs').Perm (D.xs ++ (D.ce ++ (c0 ++ (c1 ++ cs'.flatten)))) := fun cs' => by
    show ((D.xs ++ (c0 ++ c1)) ++ (D.ce ++ cs'.flatten)).Perm _
    simp only [List.append_assoc]
    refine List.Perm.append_left _ ?_
    rw [← List.append_assoc, ← List.append_assoc, ← List.append_assoc, ← List.append_assoc]
    refine List.Perm.append_right _ ?_
    have := List.perm_append_comm (l₁ := c0 ++ c1) (l₂ := D.ce)
    simpa [List.append_assoc] using this
  have ok2 : Ok G d D2 := ⟨ok.below, ok.kin, ok.top, ok.frames, ok.handled, ok.ff, ok.fk, ok.depth, ok.units, ok.nd, ok.eg, ok.eb, ok.ek, ok.cells, ok.lam⟩
  have p0 : (D2.led [[(a2, listOf us n)]]).Perm (D.led [c0, c1, [(a2, listOf us n)]]) := by
    refine (perm _).trans ?_
    unfold Dyn.led
    simp
  have H2 : HRel G D2 [a2] [[(a2, listOf us n)]] [.lst [.int x, .int y]] s := by
    refine ⟨H.fr, fun q hq => H.nw q (p0.mem_iff.mp hq), (p0.map (·.1)).nodup_iff.mpr H.nd, rfl, rfl, fun l m hm => ?_, H.st⟩
    cases l with
    | zero => cases hm; exact ⟨a2, _, rfl, rfl, us, n, rfl, hus.flat rfl⟩
    | succ l => simp at hm
  obtain ⟨v, rfl, a2', ha2, rfl⟩ := r.one_inv
  cases ha2
  refine h D2 [.lst [.int x, .int y]] [a2] [[(a2, listOf us n)]] s [.loc 0] [.ref a2] _ _ Q E ok2 hr (VRs.one ⟨a2, rfl, rfl⟩) H2 fun v as' cs' s' x2 r2 H3 => ?_
  obtain ⟨ay, cy, f1, f2, us', n', rfl, hus'⟩ := H3.cel 0 _ rfl
  have f1' := x2 0 a2 rfl
  rw [f1] at f1'; cases f1'
  obtain ⟨cs1, rfl⟩ : ∃ r, cs' = [(a2, listOf us' n')] :: r := by
    cases cs' with
    | nil => cases f2
    | cons c r => cases f2; exact ⟨r, rfl⟩
  have sub : List.Sublist (D.led [c0, c1, [(a2, listOf us' n')]]) (D.xs ++ (D.ce ++ (c0 ++ (c1 ++ ([(a2, listOf us' n')] :: cs1).flatten)))) := by
    unfold Dyn.led
    refine List.Sublist.append_left (List.Sublist.append_left ?_ _) _
    simp
  refine post v [a0, a1, a2] [c0, c1, [(a2, listOf us' n')]] s' (Ext.refl _) (r2.flat rfl) ?_
  refine ⟨H3.fr, fun q hq => H3.nw q ((perm _).mem_iff.mpr (sub.mem hq)), ((perm _).map (·.1)).nodup_iff.mp H3.nd |>.sublist (sub.map _), rfl, rfl, fun l m hm => ?_, H3.st⟩
  rcases l with _ | _ | _ | l
  · cases hm; exact k0
  · cases hm; exact k1
  · cases hm; exact ⟨a2, _, rfl, rfl, us', n', rfl, hus'.flat rfl⟩
  · cases hm

theorem ClI.forgot {lp : Arguments} {lb : Expr} {ls : Scope} (hG : G.opq = opqT lp lb ls drawsT) {f : Value} {F : List MV → MHeap → Option (MV × MHeap)} (h : ClI G d f F) : ClI G d f (fForgot2 F) := by
  intro D hp as cs s mvs vs mv hp' Q E ok hF r H post
  replace hF := if_some hF; obtain ⟨hL, hF⟩ := hF
  replace hF := bind_some hF; obtain ⟨⟨m0, m1, m2⟩, ht, hF⟩ := hF
  replace hF := bind_some hF; obtain ⟨⟨x, y⟩, hp2, hF⟩ := hF
  replace hF := if_some hF; obtain ⟨⟨hok, ho0⟩, hF⟩ := hF
  replace hF := bind_some hF; obtain ⟨⟨rm, rh⟩, hr, hF⟩ := hF
  replace hF := bind_some hF; obtain ⟨b, hb, hF⟩ := hF
  replace hF := bind_some hF; obtain ⟨n0, hn0, hF⟩ := hF
  replace hF := bind_some hF; obtain ⟨n2, hn2, hF⟩ := hF
  replace hF := if_some hF; obtain ⟨hnn, hF⟩ := hF
  cases hF
  rw [isL2_of hL] at r
  rw [three?_some ht] at H
  have em2 := pairOf_some hp2
  have e0 := isOpq_of ho0
  have ebm := boolOf_some hb
  have en0 := isOpq_of hnn.1
  have en2 := isOpq_of hnn.2
  dsimp only at em2 ebm H hr hn0 hn2
  subst em2 e0 ebm en0 en2
  obtain ⟨rest, rfl⟩ : ∃ rest, rh = .opq 2 [] :: .opq 4 [] :: rest := by
    rcases rh with _ | ⟨o, _ | ⟨o2, q⟩⟩
    · cases hn0
    · cases hn2
    · cases hn0; cases hn2; exact ⟨q, rfl⟩
  clear hn0 hn2 hnn hb hp2 ht hL ho0
  obtain ⟨a0, a1, a2, rfl⟩ := three H.la
  obtain ⟨c0, c1, c2, rfl⟩ := three H.lc
  obtain ⟨ax, cx, e1, e2, vs0, hvs0, hop0⟩ := H.cel 0 _ rfl
  cases e1; cases e2; cases hvs0
  have k1 := H.cel 1 _ rfl
  obtain ⟨ax, cx, e1, e2, us, n, rfl, hus⟩ := H.cel 2 _ rfl
  cases e1; cases e2
  let D2 : Dyn := { D with xs := D.xs ++ c1 }
  have perm : ∀ (c0 : List (Addr × Obj)) (cs' : List (List (Addr × Obj))), (D2.led (c0 :: cs')).Perm (D.xs ++ (D.ce ++ (c0 ++ (c1 ++ cs'.flatten)))) := fun c0 cs' => by
    show ((D.xs ++ c1) ++ (D.ce ++ (c0 :: cs').flatten)).Perm _
    simp only [List.append_assoc, List.flatten_cons]
    refine List.Perm.append_left _ ?_
    rw [← List.append_assoc, ← List.append_assoc, ← List.append_assoc, ← List.append_assoc]
    refine List.Perm.append_right _ ?_
    rw [List.append_assoc]
    exact List.perm_append_comm
  have ok2 : Ok G d D2 := ⟨ok.below, ok.kin, ok.top, ok.frames, ok.handled, ok.ff, ok.fk, ok.depth, ok.units, ok.nd, ok.eg, ok.eb, ok.ek, ok.cells, ok.lam⟩
  have p0 : (D2.led [c0, [(a2, listOf us n)]]).Perm (D.led [c0, c1, [(a2, listOf us n)]]) := by
    refine (perm _ _).trans ?_
    unfold Dyn.led
    simp
  obtain ⟨v1, r1, e3, ⟨t1, h3⟩, v2, r2, e4, ⟨t2, h4⟩, h5⟩ := hus
  subst h3 h4 h5 e4
  have eus : us = #[.int x t1, .int y t2] := Array.toList_inj.mp e3
  subst eus
  have hdr : drawsT ((draws3 x y).map fun n => Value.int n 0) x y := draws3_ok hok
  have hvd : ∀ as, VRs as ((draws3 x y).map MV.int) ((draws3 x y).map fun n => Value.int n 0) := fun as => ⟨_, _, rfl, ⟨0, rfl⟩, _, _, rfl, ⟨0, rfl⟩, _, _, rfl, ⟨0, rfl⟩, rfl⟩
  have H2 : HRel G D2 [a0, a2] [c0, [(a2, listOf #[.int x t1, .int y t2] n)]] [.opq 1 [], .opq 4 ((draws3 x y).map .int)] s := by
    refine ⟨H.fr, fun q hq => H.nw q (p0.mem_iff.mp hq), (p0.map (·.1)).nodup_iff.mpr H.nd, rfl, rfl, fun l m hm => ?_, H.st⟩
    rcases l with _ | _ | l
    · cases hm; exact ⟨a0, _, rfl, rfl, [], rfl, hop0⟩
    · cases hm; exact ⟨a2, _, rfl, rfl, _, hvd _, by rw [hG]; exact ⟨n, x, y, t1, t2, hdr, rfl⟩⟩
    · cases hm
  obtain ⟨v, rfl, a2', ha2, rfl⟩ := r.one_inv
  cases ha2
  refine h D2 _ [a0, a2] _ s [.loc 1] [.ref a2] _ _ Q E ok2 hr (VRs.one ⟨a2, rfl, rfl⟩) H2 fun v as' cs' s' x2 r2 H3 => ?_
  obtain ⟨ay, cy, f1, f2, vsy, hvsy, hopy⟩ := H3.cel 0 _ rfl
  have f1' := x2 0 a0 rfl
  rw [f1] at f1'; cases f1'
  cases hvsy
  obtain ⟨az, cz, g1, g2, vsz, hvsz, hopz⟩ := H3.cel 1 _ rfl
  have g1' := x2 1 a2 rfl
  rw [g1] at g1'; cases g1'
  cases hvsz
  obtain ⟨cs1, rfl⟩ : ∃ r, cs' = cy :: cz :: r := by
    rcases cs' with _ | ⟨c, _ | ⟨c', r⟩⟩
    · cases f2
    · cases g2
    · cases f2; cases g2; exact ⟨r, rfl⟩
  have sub : List.Sublist (D.led [cy, c1, cz]) (D.xs ++ (D.ce ++ (cy ++ (c1 ++ (cz :: cs1).flatten)))) := by
    unfold Dyn.led
    refine List.Sublist.append_left (List.Sublist.append_left ?_ _) _
    simp
  refine post v [a0, a1, a2] [cy, c1, cz] s' (fun l a hl => ?_) (r2.flat rfl) ?_
  · rcases l with _ | _ | _ | l <;> cases hl <;> rfl
  · refine ⟨H3.fr, fun q hq => H3.nw q ((perm _ _).mem_iff.mpr (sub.mem hq)), ((perm _ _).map (·.1)).nodup_iff.mp H3.nd |>.sublist (sub.map _), rfl, rfl, fun l m hm => ?_, H3.st⟩
    rcases l with _ | _ | _ | l
    · cases hm; exact ⟨a0, _, rfl, rfl, [], rfl, hopy⟩
    · cases hm; exact k1
    · cases hm; exact ⟨a2, _, rfl, rfl, [], rfl, hopz⟩
    · cases hm
end
end Mine
end

section
open PySem PySem.W PySem.Calls PyProof.Rows
set_option maxRecDepth 100000
set_option maxHeartbeats 0
namespace Mine
noncomputable section
noncomputable def atnV : List Str := [Str.ofString "__init__", Str.ofString "all", Str.ofString "answer", Str.ofString "barrier", Str.ofString "begin", Str.ofString "buffer", Str.ofString "channels", Str.ofString "choices", Str.ofString "clock", Str.ofString "clocks", Str.ofString "close", Str.ofString "closed", Str.ofString "collector", Str.ofString "colours", Str.ofString "content", Str.ofString "end", Str.ofString "ended", Str.ofString "finish", Str.ofString "first_waiting", Str.ofString "forgotten", Str.ofString "frames", Str.ofString "free", Str.ofString "gates", Str.ofString "given", Str.ofString "go", Str.ofString "gone", Str.ofString "greys", Str.ofString "hand", Str.ofString "heap", Str.ofString "held", Str.ofString "here", Str.ofString "is_closed", Str.ofString "is_going", Str.ofString "kept", Str.ofString "kept_at", Str.ofString "kind", Str.ofString "learn", Str.ofString "let_go", Str.ofString "line", Str.ofString "lines", Str.ofString "made", Str.ofString "make", Str.ofString "make_one", Str.ofString "number", Str.ofString "numbers", Str.ofString "overwritten", Str.ofString "places", Str.ofString "races", Str.ofString "receive", Str.ofString "receive_closed", Str.ofString "received", Str.ofString "receivers", Str.ofString "room", Str.ofString "roots", Str.ofString "rounds", Str.ofString "row", Str.ofString "scheduler", Str.ofString "send", Str.ofString "senders", Str.ofString "sent", Str.ofString "shade", Str.ofString "spawn", Str.ofString "state", Str.ofString "step", Str.ofString "taken", Str.ofString "told", Str.ofString "told_receive", Str.ofString "told_send", Str.ofString "values_in", Str.ofString "wait_for", Str.ofString "waiting", Str.ofString "waits_for", Str.ofString "watch", Str.ofString "where"]
noncomputable def lamE : Expr := match (bodyS (fnS 57)).getD 5 (.Pass ⟨0, 0, 0, 0⟩) with
  | .Assign _ (.Call _ (_ :: e :: _) _ _) _ => e
  | _ => .Constant .none 0 ⟨0, 0, 0, 0⟩
noncomputable def lamPar : Arguments := match lamE with
  | .Lambda p _ _ _ => p
  | _ => argsS (.Pass ⟨0, 0, 0, 0⟩)
noncomputable def lamBody : Expr := match lamE with
  | .Lambda _ b _ _ => b
  | e => e
noncomputable def lamScope : Scope := match lamE with
  | .Lambda _ _ s _ => s
  | _ => scopeS (.Pass ⟨0, 0, 0, 0⟩)
noncomputable def lamP1 : Pos := match lamBody with
  | .List (.Name _ p :: _) _ => p
  | _ => ⟨0, 0, 0, 0⟩
noncomputable def lamP2 : Pos := match lamBody with
  | .List _ p => p
  | _ => ⟨0, 0, 0, 0⟩
theorem ExI.self {G : Glo} {sc : Scope} {tbl : List Str} {d : Nat} {st : List Stmt} {f : SFun} (h : ExI G sc tbl d st f) : ExI G sc tbl d st f := h
theorem len1 {α : Type} {l : List α} (h : l.length = 1) : ∃ a0, l = [a0] := by
  obtain ⟨a0, r, rfl⟩ : ∃ a r, l = a :: r := by cases l <;> first | exact ⟨_, _, rfl⟩ | cases h
  exact ⟨a0, by rw [List.length_eq_zero_iff.mp (Nat.succ.inj h)]⟩
theorem len2 {α : Type} {l : List α} (h : l.length = 2) : ∃ a0 a1, l = [a0, a1] := by
  obtain ⟨a0, r, rfl⟩ : ∃ a r, l = a :: r := by cases l <;> first | exact ⟨_, _, rfl⟩ | cases h
  obtain ⟨a1, rfl⟩ := len1 (Nat.succ.inj h)
  exact ⟨a0, a1, rfl⟩
theorem len3 {α : Type} {l : List α} (h : l.length = 3) : ∃ a0 a1 a2, l = [a0, a1, a2] := by
  obtain ⟨a0, r, rfl⟩ : ∃ a r, l = a :: r := by cases l <;> first | exact ⟨_, _, rfl⟩ | cases h
  obtain ⟨a1, a2, rfl⟩ := len2 (Nat.succ.inj h)
  exact ⟨a0, a1, a2, rfl⟩
theorem len4 {α : Type} {l : List α} (h : l.length = 4) : ∃ a0 a1 a2 a3, l = [a0, a1, a2, a3] := by
  obtain ⟨a0, r, rfl⟩ : ∃ a r, l = a :: r := by cases l <;> first | exact ⟨_, _, rfl⟩ | cases h
  obtain ⟨a1, a2, a3, rfl⟩ := len3 (Nat.succ.inj h)
  exact ⟨a0, a1, a2, a3, rfl⟩
theorem len5 {α : Type} {l : List α} (h : l.length = 5) : ∃ a0 a1 a2 a3 a4, l = [a0, a1, a2, a3, a4] := by
  obtain ⟨a0, r, rfl⟩ : ∃ a r, l = a :: r := by cases l <;> first | exact ⟨_, _, rfl⟩ | cases h
  obtain ⟨a1, a2, a3, a4, rfl⟩ := len4 (Nat.succ.inj h)
  exact ⟨a0, a1, a2, a3, a4, rfl⟩
theorem len6 {α : Type} {l : List α} (h : l.length = 6) : ∃ a0 a1 a2 a3 a4 a5, l = [a0, a1, a2, a3, a4, a5] := by
  obtain ⟨a0, r, rfl⟩ : ∃ a r, l = a :: r := by cases l <;> first | exact ⟨_, _, rfl⟩ | cases h
  obtain ⟨a1, a2, a3, a4, a5, rfl⟩ := len5 (Nat.succ.inj h)
  exact ⟨a0, a1, a2, a3, a4, a5, rfl⟩
noncomputable def lamP0 : Pos := match lamE with
  | .Lambda _ _ _ p => p
  | _ => ⟨0, 0, 0, 0⟩
theorem lamDef_K : ∀ env, defaultsOf lamPar env = ([], []) := by intro env; kernel_rfl
theorem EvI.of_eq {G : Glo} {sc : Scope} {tbl : List Str} {d : Nat} {e e' : Expr} {f : EFun} (h : e = e') (k : EvI G sc tbl d e f) : EvI G sc tbl d e' f := h ▸ k
noncomputable abbrev GG (w : World) (pq : Program) (lo : List Str) (mean : ExcName → Option Value) (mg mb : Str → Option Value) : Glo := ⟨pw, w, KT w.params, pq, lo, mean, mg, mb, atnV, opqT lamPar lamBody lamScope drawsT⟩
theorem lamBody_eq : lamBody = .List [.Name (Str.ofString "line") lamP1] lamP2 := by kernel_rfl
theorem opq_K0 (w : World) (pq : Program) (lo : List Str) (mean : ExcName → Option Value) (mg mb : Str → Option Value) : (GG w pq lo mean mg mb).opq = opqT lamPar lamBody lamScope drawsT := rfl
theorem opq_K (w : World) (pq : Program) (lo : List Str) (mean : ExcName → Option Value) (mg mb : Str → Option Value) : (GG w pq lo mean mg mb).opq = opqT lamPar (.List [.Name (Str.ofString "line") lamP1] lamP2) lamScope drawsT := by rw [← lamBody_eq]
theorem codeHd_K (P : Params) : ∀ h, (KT P).In h → CodeHd h lamC tabA := fun h X => by
  have e : ∃ vs : Array Value, (KT P).lookup lamC = some ({ cls := .type "code", data := .fields vs } : Obj) ∧ vs[11]? = some (.ref tabA) ∧ vs.getD 11 .none = .ref tabA ∧ vs.getD 18 .none = .str "/claim/cut.py" 1708 ∧ vs.getD 7 .none = .int 3 0 ∧ vs.getD 9 .none = .bool true ∧ vs.getD 10 .none = .int 181 0 := ⟨_, rfl, rfl, rfl, rfl, rfl, rfl, rfl⟩
  obtain ⟨vs, e1, e2, e3, e4, e5, e6, e7⟩ := e
  exact ⟨_, vs, _, _, _, _, _, _, _, X _ _ e1, rfl, rfl, e2, e3, e4, e5, e6, e7, by decide⟩
theorem ga_roots1 (P : Params) : ([407].all fun C => okGet (KT P) C "roots") = true := by kernel_rfl

theorem ga_all (P : Params) : ([1027].all fun C => okGet (KT P) C "all") = true := by kernel_rfl
theorem gs_all (P : Params) : ([1027].all fun C => okSet (KT P) C "all") = true := by kernel_rfl

theorem ga_answer (P : Params) : ([935].all fun C => okGet (KT P) C "answer") = true := by kernel_rfl
theorem gs_answer (P : Params) : ([935].all fun C => okSet (KT P) C "answer") = true := by kernel_rfl

theorem ga_buffer (P : Params) : ([296].all fun C => okGet (KT P) C "buffer") = true := by kernel_rfl
theorem gs_buffer (P : Params) : ([296].all fun C => okSet (KT P) C "buffer") = true := by kernel_rfl

theorem ga_channels (P : Params) : ([704].all fun C => okGet (KT P) C "channels") = true := by kernel_rfl
theorem gs_channels (P : Params) : ([704].all fun C => okSet (KT P) C "channels") = true := by kernel_rfl

theorem ga_choices (P : Params) : ([1027].all fun C => okGet (KT P) C "choices") = true := by kernel_rfl
theorem gs_choices (P : Params) : ([1027].all fun C => okSet (KT P) C "choices") = true := by kernel_rfl

theorem ga_clocks (P : Params) : ([914].all fun C => okGet (KT P) C "clocks") = true := by kernel_rfl
theorem gs_clocks (P : Params) : ([914].all fun C => okSet (KT P) C "clocks") = true := by kernel_rfl

theorem ga_closed (P : Params) : ([296].all fun C => okGet (KT P) C "closed") = true := by kernel_rfl
theorem gs_closed (P : Params) : ([296].all fun C => okSet (KT P) C "closed") = true := by kernel_rfl

theorem ga_collector (P : Params) : ([566].all fun C => okGet (KT P) C "collector") = true := by kernel_rfl
theorem gs_collector (P : Params) : ([566].all fun C => okSet (KT P) C "collector") = true := by kernel_rfl

theorem ga_colours (P : Params) : ([407].all fun C => okGet (KT P) C "colours") = true := by kernel_rfl
theorem gs_colours (P : Params) : ([407].all fun C => okSet (KT P) C "colours") = true := by kernel_rfl

theorem ga_content (P : Params) : ([428].all fun C => okGet (KT P) C "content") = true := by kernel_rfl
theorem gs_content (P : Params) : ([428].all fun C => okSet (KT P) C "content") = true := by kernel_rfl

theorem ga_end (P : Params) : ([760].all fun C => okGet (KT P) C "end") = true := by kernel_rfl
theorem gs_end (P : Params) : ([760].all fun C => okSet (KT P) C "end") = true := by kernel_rfl

theorem ga_frames (P : Params) : ([935].all fun C => okGet (KT P) C "frames") = true := by kernel_rfl
theorem gs_frames (P : Params) : ([935].all fun C => okSet (KT P) C "frames") = true := by kernel_rfl

theorem ga_gates (P : Params) : ([209, 914].all fun C => okGet (KT P) C "gates") = true := by kernel_rfl
theorem gs_gates (P : Params) : ([209, 914].all fun C => okSet (KT P) C "gates") = true := by kernel_rfl

theorem ga_given (P : Params) : ([209, 566].all fun C => okGet (KT P) C "given") = true := by kernel_rfl
theorem gs_given (P : Params) : ([209, 566].all fun C => okSet (KT P) C "given") = true := by kernel_rfl

theorem ga_greys (P : Params) : ([407].all fun C => okGet (KT P) C "greys") = true := by kernel_rfl
theorem gs_greys (P : Params) : ([407].all fun C => okSet (KT P) C "greys") = true := by kernel_rfl

theorem ga_heap (P : Params) : ([209, 407].all fun C => okGet (KT P) C "heap") = true := by kernel_rfl
theorem gs_heap (P : Params) : ([209, 407].all fun C => okSet (KT P) C "heap") = true := by kernel_rfl

theorem ga_held (P : Params) : ([587].all fun C => okGet (KT P) C "held") = true := by kernel_rfl
theorem gs_held (P : Params) : ([587].all fun C => okSet (KT P) C "held") = true := by kernel_rfl

theorem ga_here (P : Params) : ([566, 1027].all fun C => okGet (KT P) C "here") = true := by kernel_rfl
theorem gs_here (P : Params) : ([566, 1027].all fun C => okSet (KT P) C "here") = true := by kernel_rfl

theorem ga_is_closed (P : Params) : ([587].all fun C => okGet (KT P) C "is_closed") = true := by kernel_rfl
theorem gs_is_closed (P : Params) : ([587].all fun C => okSet (KT P) C "is_closed") = true := by kernel_rfl

theorem ga_is_going (P : Params) : ([407].all fun C => okGet (KT P) C "is_going") = true := by kernel_rfl
theorem gs_is_going (P : Params) : ([407].all fun C => okSet (KT P) C "is_going") = true := by kernel_rfl

theorem ga_kept (P : Params) : ([566].all fun C => okGet (KT P) C "kept") = true := by kernel_rfl
theorem gs_kept (P : Params) : ([566].all fun C => okSet (KT P) C "kept") = true := by kernel_rfl

theorem ga_kind (P : Params) : ([428].all fun C => okGet (KT P) C "kind") = true := by kernel_rfl
theorem gs_kind (P : Params) : ([428].all fun C => okSet (KT P) C "kind") = true := by kernel_rfl

theorem ga_lines (P : Params) : ([914].all fun C => okGet (KT P) C "lines") = true := by kernel_rfl
theorem gs_lines (P : Params) : ([914].all fun C => okSet (KT P) C "lines") = true := by kernel_rfl

theorem ga_number (P : Params) : ([935].all fun C => okGet (KT P) C "number") = true := by kernel_rfl
theorem gs_number (P : Params) : ([935].all fun C => okSet (KT P) C "number") = true := by kernel_rfl

theorem ga_places (P : Params) : ([914].all fun C => okGet (KT P) C "places") = true := by kernel_rfl
theorem gs_places (P : Params) : ([914].all fun C => okSet (KT P) C "places") = true := by kernel_rfl

theorem ga_races (P : Params) : ([914].all fun C => okGet (KT P) C "races") = true := by kernel_rfl
theorem gs_races (P : Params) : ([914].all fun C => okSet (KT P) C "races") = true := by kernel_rfl

theorem ga_received (P : Params) : ([760].all fun C => okGet (KT P) C "received") = true := by kernel_rfl
theorem gs_received (P : Params) : ([760].all fun C => okSet (KT P) C "received") = true := by kernel_rfl

theorem ga_receivers (P : Params) : ([296].all fun C => okGet (KT P) C "receivers") = true := by kernel_rfl
theorem gs_receivers (P : Params) : ([296].all fun C => okSet (KT P) C "receivers") = true := by kernel_rfl

theorem ga_room (P : Params) : ([296, 587, 760].all fun C => okGet (KT P) C "room") = true := by kernel_rfl
theorem gs_room (P : Params) : ([296, 587, 760].all fun C => okSet (KT P) C "room") = true := by kernel_rfl

theorem ga_roots (P : Params) : ([407].all fun C => okGet (KT P) C "roots") = true := by kernel_rfl
theorem gs_roots (P : Params) : ([407].all fun C => okSet (KT P) C "roots") = true := by kernel_rfl

theorem ga_rounds (P : Params) : ([407].all fun C => okGet (KT P) C "rounds") = true := by kernel_rfl
theorem gs_rounds (P : Params) : ([407].all fun C => okSet (KT P) C "rounds") = true := by kernel_rfl

theorem ga_row (P : Params) : ([324].all fun C => okGet (KT P) C "row") = true := by kernel_rfl
theorem gs_row (P : Params) : ([324].all fun C => okSet (KT P) C "row") = true := by kernel_rfl

theorem ga_scheduler (P : Params) : ([209].all fun C => okGet (KT P) C "scheduler") = true := by kernel_rfl
theorem gs_scheduler (P : Params) : ([209].all fun C => okSet (KT P) C "scheduler") = true := by kernel_rfl

theorem ga_senders (P : Params) : ([296].all fun C => okGet (KT P) C "senders") = true := by kernel_rfl
theorem gs_senders (P : Params) : ([296].all fun C => okSet (KT P) C "senders") = true := by kernel_rfl

theorem ga_sent (P : Params) : ([760].all fun C => okGet (KT P) C "sent") = true := by kernel_rfl
theorem gs_sent (P : Params) : ([760].all fun C => okSet (KT P) C "sent") = true := by kernel_rfl

theorem ga_state (P : Params) : ([935].all fun C => okGet (KT P) C "state") = true := by kernel_rfl
theorem gs_state (P : Params) : ([935].all fun C => okSet (KT P) C "state") = true := by kernel_rfl

theorem ga_taken (P : Params) : ([324].all fun C => okGet (KT P) C "taken") = true := by kernel_rfl
theorem gs_taken (P : Params) : ([324].all fun C => okSet (KT P) C "taken") = true := by kernel_rfl

theorem ga_waiting (P : Params) : ([209, 704].all fun C => okGet (KT P) C "waiting") = true := by kernel_rfl
theorem gs_waiting (P : Params) : ([209, 704].all fun C => okSet (KT P) C "waiting") = true := by kernel_rfl

theorem ga_waits_for (P : Params) : ([935].all fun C => okGet (KT P) C "waits_for") = true := by kernel_rfl
theorem gs_waits_for (P : Params) : ([935].all fun C => okSet (KT P) C "waits_for") = true := by kernel_rfl

theorem ga_watch (P : Params) : ([209, 566].all fun C => okGet (KT P) C "watch") = true := by kernel_rfl
theorem gs_watch (P : Params) : ([209, 566].all fun C => okSet (KT P) C "watch") = true := by kernel_rfl

theorem ga_where (P : Params) : ([428].all fun C => okGet (KT P) C "where") = true := by kernel_rfl
theorem gs_where (P : Params) : ([428].all fun C => okSet (KT P) C "where") = true := by kernel_rfl

theorem g_BLACK (P : Params) : nsIn (KT P) mainGlobals "BLACK" = some (some (.str "black" 637)) := by kernel_rfl

theorem g_CLOSE_OF_CLOSED (P : Params) : nsIn (KT P) mainGlobals "CLOSE_OF_CLOSED" = some (some (.str "close of closed channel" 477)) := by kernel_rfl

theorem g_GREY (P : Params) : nsIn (KT P) mainGlobals "GREY" = some (some (.str "grey" 635)) := by kernel_rfl

theorem g_READY (P : Params) : nsIn (KT P) mainGlobals "READY" = some (some (.str "ready" 1473)) := by kernel_rfl

theorem g_SEND_ON_CLOSED (P : Params) : nsIn (KT P) mainGlobals "SEND_ON_CLOSED" = some (some (.str "send on closed channel" 475)) := by kernel_rfl

theorem g_WHITE (P : Params) : nsIn (KT P) mainGlobals "WHITE" = some (some (.str "white" 633)) := by kernel_rfl

end
end Mine
end

section
open PySem PySem.W PySem.Calls PyProof.Rows
set_option maxRecDepth 100000
set_option maxHeartbeats 0
namespace Mine
noncomputable section

noncomputable def D_Meetings___init__ : { F // ∀ w pq lo mean mg mb, FnI (GG w pq lo mean mg mb) 1 82 F } := by
  refine' ⟨?F, fun w pq lo mean mg mb => ?_⟩
  rotate_left
  refine' FnI.fnB (d := 0) (tbl := ["self", "heap", "scheduler", "watch"]) (nm := ["self", "heap", "scheduler", "watch"]) (n := 4) (k := 0) (dm := []) (dv := []) ?ho ?hb ?h1 ?hc ?hx
  case ho => rfl
  case h1 => exact fun _ => rfl
  case hc => kernel_rfl
  case hx =>
    exact (ExI.cons (StI.setA 28 [209, 407] rfl (gs_heap _) (EvI.var 1 rfl (by kernel_rfl) rfl) (EvI.var 0 rfl (by kernel_rfl) rfl)) (ExI.cons (StI.setA 56 [209] rfl (gs_scheduler _) (EvI.var 2 rfl (by kernel_rfl) rfl) (EvI.var 0 rfl (by kernel_rfl) rfl)) (ExI.cons (StI.setA 72 [209, 566] rfl (gs_watch _) (EvI.var 3 rfl (by kernel_rfl) rfl) (EvI.var 0 rfl (by kernel_rfl) rfl)) (ExI.cons (StI.setA 23 [209, 566] rfl (gs_given _) EvI.cint (EvI.var 0 rfl (by kernel_rfl) rfl)) (ExI.cons (StI.setA 70 [209, 704] rfl (gs_waiting _) EvI.dct (EvI.var 0 rfl (by kernel_rfl) rfl)) (ExI.cons (StI.setA 22 [209, 914] rfl (gs_gates _) EvI.dct (EvI.var 0 rfl (by kernel_rfl) rfl)) ExI.nil))))))
  case hb =>
    intro s vs X hl
    obtain ⟨a0, a1, a2, a3, rfl⟩ := len4 hl
    exact BindsTo.of_eq rfl

noncomputable def D_Meetings_here : { F // ∀ w pq lo mean mg mb, FnI (GG w pq lo mean mg mb) 1 89 F } := by
  refine' ⟨?F, fun w pq lo mean mg mb => ?_⟩
  rotate_left
  refine' FnI.fnB (d := 0) (tbl := ["self"]) (nm := ["self"]) (n := 1) (k := 0) (dm := []) (dv := []) ?ho ?hb ?h1 ?hc ?hx
  case ho => rfl
  case h1 => exact fun _ => rfl
  case hc => kernel_rfl
  case hx =>
    exact (ExI.cons (StI.ret (EvI.attr 43 [935] rfl (ga_number _) (EvI.attr 30 [566, 1027] rfl (ga_here _) (EvI.attr 56 [209] rfl (ga_scheduler _) (EvI.var 0 rfl (by kernel_rfl) rfl))))) ExI.nil)
  case hb =>
    intro s vs X hl
    obtain ⟨a0, rfl⟩ := len1 hl
    exact BindsTo.of_eq rfl

noncomputable def D_Heap_kept_at : { F // ∀ w pq lo mean mg mb, FnI (GG w pq lo mean mg mb) 1 474 F } := by
  refine' ⟨?F, fun w pq lo mean mg mb => ?_⟩
  rotate_left
  refine' FnI.fnB (d := 0) (tbl := ["self", "number"]) (nm := ["self", "number"]) (n := 2) (k := 0) (dm := []) (dv := []) ?ho ?hb ?h1 ?hc ?hx
  case ho => rfl
  case h1 => exact fun _ => rfl
  case hc => kernel_rfl
  case hx =>
    exact (ExI.cons (StI.ife (TsI.cmp (EvI.var 1 rfl (by kernel_rfl) rfl) (EvI.attr 33 [566] rfl (ga_kept _) (EvI.var 0 rfl (by kernel_rfl) rfl)) (Op2I.notInD (by kernel_rfl))) (ExI.cons StI.stuck ExI.nil) ExI.nil) (ExI.cons (StI.ret (EvI.idx (EvI.attr 33 [566] rfl (ga_kept _) (EvI.var 0 rfl (by kernel_rfl) rfl)) (EvI.var 1 rfl (by kernel_rfl) rfl))) ExI.nil))
  case hb =>
    intro s vs X hl
    obtain ⟨a0, a1, rfl⟩ := len2 hl
    exact BindsTo.of_eq rfl

noncomputable def D_Heap_content : { F // ∀ w pq lo mean mg mb, FnI (GG w pq lo mean mg mb) 3 488 F } := by
  refine' ⟨?F, fun w pq lo mean mg mb => ?_⟩
  rotate_left
  refine' FnI.fnB (d := 2) (tbl := ["self", "number"]) (nm := ["self", "number"]) (n := 2) (k := 0) (dm := []) (dv := []) ?ho ?hb ?h1 ?hc ?hx
  case ho => rfl
  case h1 => exact fun _ => rfl
  case hc => kernel_rfl
  case hx =>
    exact (ExI.cons (StI.ret (EvI.attr 14 [428] rfl (ga_content _) (EvI.meth (EvI.var 0 rfl (by kernel_rfl) rfl) (MetI.inst (C := 566) (f := 474) 34 rfl (by kernel_rfl) (by kernel_rfl) (by kernel_rfl)) (KeepsI.K (by kernel_rfl)) (EvsI.cons (EvI.var 1 rfl (by kernel_rfl) rfl) EvsI.nil) (ClI.fn ((D_Heap_kept_at.2 w pq lo mean mg mb).less (by decide))) (fun _ => _)))) ExI.nil)
  case hb =>
    intro s vs X hl
    obtain ⟨a0, a1, rfl⟩ := len2 hl
    exact BindsTo.of_eq rfl

noncomputable def D_Watch_clock : { F // ∀ w pq lo mean mg mb, FnI (GG w pq lo mean mg mb) 1 806 F } := by
  refine' ⟨?F, fun w pq lo mean mg mb => ?_⟩
  rotate_left
  refine' FnI.fnB (d := 0) (tbl := ["self", "goroutine"]) (nm := ["self", "goroutine"]) (n := 2) (k := 0) (dm := []) (dv := []) ?ho ?hb ?h1 ?hc ?hx
  case ho => rfl
  case h1 => exact fun _ => rfl
  case hc => kernel_rfl
  case hx =>
    exact (ExI.cons (StI.ife (TsI.cmp (EvI.var 1 rfl (by kernel_rfl) rfl) (EvI.attr 9 [914] rfl (ga_clocks _) (EvI.var 0 rfl (by kernel_rfl) rfl)) (Op2I.notInD (by kernel_rfl))) (ExI.cons (StI.setI (EvI.tup (EvsI.cons (EvI.tup (EvsI.cons (EvI.var 1 rfl (by kernel_rfl) rfl) (EvsI.cons EvI.cint EvsI.nil))) EvsI.nil)) (EvI.attr 9 [914] rfl (ga_clocks _) (EvI.var 0 rfl (by kernel_rfl) rfl)) (EvI.var 1 rfl (by kernel_rfl) rfl)) ExI.nil) ExI.nil) (ExI.cons (StI.ret (EvI.idx (EvI.attr 9 [914] rfl (ga_clocks _) (EvI.var 0 rfl (by kernel_rfl) rfl)) (EvI.var 1 rfl (by kernel_rfl) rfl))) ExI.nil))
  case hb =>
    intro s vs X hl
    obtain ⟨a0, a1, rfl⟩ := len2 hl
    exact BindsTo.of_eq rfl

noncomputable def D_joined_clocks : { F // ∀ w pq lo mean mg mb, FnI (GG w pq lo mean mg mb) 1 722 F } := by
  refine' ⟨?F, fun w pq lo mean mg mb => ?_⟩
  rotate_left
  refine' FnI.fnB (d := 0) (tbl := ["one", "other", "counts", "number", "count"]) (nm := ["one", "other"]) (n := 2) (k := 3) (dm := []) (dv := []) ?ho ?hb ?h1 ?hc ?hx
  case ho => rfl
  case h1 => exact fun _ => rfl
  case hc => kernel_rfl
  case hx =>
    exact (ExI.cons (StI.var 2 rfl (by decide) (by kernel_rfl) (EvI.call (EvI.bltn (v := .type "dict") (by kernel_rfl) (by kernel_rfl) (by kernel_rfl) (by decide) (by decide) rfl) (KeepsI.type _) (EvsI.cons (EvI.var 0 rfl (by kernel_rfl) rfl) EvsI.nil) ClI.dict1)) (ExI.cons (StI.for (AsI.tup (AssI.cons (AsI.var 3 rfl (by decide) (by kernel_rfl)) (AssI.cons (AsI.var 4 rfl (by decide) (by kernel_rfl)) AssI.nil))) (EvI.var 1 rfl (by kernel_rfl) rfl) (ExI.cons (StI.ife (TsI.cmp (EvI.var 4 rfl (by kernel_rfl) rfl) (EvI.meth (EvI.var 2 rfl (by kernel_rfl) rfl) (MetI.dct F.slot_dict_get F.type_dict_get) (KeepsI.bltn _) (EvsI.cons (EvI.var 3 rfl (by kernel_rfl) rfl) (EvsI.cons EvI.cint EvsI.nil)) (ClI.get2 (by kernel_rfl)) (fun _ => _)) Op2I.gt) (ExI.cons (StI.setI (EvI.var 4 rfl (by kernel_rfl) rfl) (EvI.var 2 rfl (by kernel_rfl) rfl) (EvI.var 3 rfl (by kernel_rfl) rfl)) ExI.nil) ExI.nil) ExI.nil)) (ExI.cons (StI.ret (EvI.call (EvI.bltn (v := .type "tuple") (by kernel_rfl) (by kernel_rfl) (by kernel_rfl) (by decide) (by decide) rfl) (KeepsI.type _) (EvsI.cons (EvI.call (EvI.bltn (v := .builtin "sorted") (by kernel_rfl) (by kernel_rfl) (by kernel_rfl) (by decide) (by decide) rfl) (KeepsI.bltn _) (EvsI.cons (EvI.meth (EvI.var 2 rfl (by kernel_rfl) rfl) (MetI.dct F.slot_dict_items F.type_dict_items) (KeepsI.bltn _) EvsI.nil (ClI.items (by kernel_rfl)) (fun _ => _)) EvsI.nil) (ClI.sortItems (by kernel_rfl))) EvsI.nil) ClI.tuple1)) ExI.nil)))
  case hb =>
    intro s vs X hl
    obtain ⟨a0, a1, rfl⟩ := len2 hl
    exact BindsTo.of_eq rfl

noncomputable def D_Watch_learn : { F // ∀ w pq lo mean mg mb, FnI (GG w pq lo mean mg mb) 3 813 F } := by
  refine' ⟨?F, fun w pq lo mean mg mb => ?_⟩
  rotate_left
  refine' FnI.fnB (d := 2) (tbl := ["self", "goroutine", "other"]) (nm := ["self", "goroutine", "other"]) (n := 3) (k := 0) (dm := []) (dv := []) ?ho ?hb ?h1 ?hc ?hx
  case ho => rfl
  case h1 => exact fun _ => rfl
  case hc => kernel_rfl
  case hx =>
    exact (ExI.cons (StI.setI (EvI.call (EvI.glob (m := .gv (.ref 722)) (v := .ref 722) (by kernel_rfl) (by kernel_rfl) (vr_gv 722) rfl) (KeepsI.K (by kernel_rfl)) (EvsI.cons (EvI.meth (EvI.var 0 rfl (by kernel_rfl) rfl) (MetI.inst (C := 914) (f := 806) 8 rfl (by kernel_rfl) (by kernel_rfl) (by kernel_rfl)) (KeepsI.K (by kernel_rfl)) (EvsI.cons (EvI.var 1 rfl (by kernel_rfl) rfl) EvsI.nil) (ClI.fn ((D_Watch_clock.2 w pq lo mean mg mb).less (by decide))) (fun _ => _)) (EvsI.cons (EvI.var 2 rfl (by kernel_rfl) rfl) EvsI.nil)) (ClI.fn ((D_joined_clocks.2 w pq lo mean mg mb).less (by decide)))) (EvI.attr 9 [914] rfl (ga_clocks _) (EvI.var 0 rfl (by kernel_rfl) rfl)) (EvI.var 1 rfl (by kernel_rfl) rfl)) ExI.nil)
  case hb =>
    intro s vs X hl
    obtain ⟨a0, a1, a2, rfl⟩ := len3 hl
    exact BindsTo.of_eq rfl

noncomputable def D_Line___init__ : { F // ∀ w pq lo mean mg mb, FnI (GG w pq lo mean mg mb) 1 757 F } := by
  refine' ⟨?F, fun w pq lo mean mg mb => ?_⟩
  rotate_left
  refine' FnI.fnB (d := 0) (tbl := ["self", "room"]) (nm := ["self", "room"]) (n := 2) (k := 0) (dm := []) (dv := []) ?ho ?hb ?h1 ?hc ?hx
  case ho => rfl
  case h1 => exact fun _ => rfl
  case hc => kernel_rfl
  case hx =>
    exact (ExI.cons (StI.setA 52 [296, 587, 760] rfl (gs_room _) (EvI.var 1 rfl (by kernel_rfl) rfl) (EvI.var 0 rfl (by kernel_rfl) rfl)) (ExI.cons (StI.setA 59 [760] rfl (gs_sent _) (EvI.lst EvsI.nil) (EvI.var 0 rfl (by kernel_rfl) rfl)) (ExI.cons (StI.setA 50 [760] rfl (gs_received _) (EvI.lst EvsI.nil) (EvI.var 0 rfl (by kernel_rfl) rfl)) (ExI.cons (StI.setA 15 [760] rfl (gs_end _) (EvI.tup EvsI.nil) (EvI.var 0 rfl (by kernel_rfl) rfl)) ExI.nil))))
  case hb =>
    intro s vs X hl
    obtain ⟨a0, a1, rfl⟩ := len2 hl
    exact BindsTo.of_eq rfl

noncomputable def D_Watch_line : { F // ∀ w pq lo mean mg mb, FnI (GG w pq lo mean mg mb) 3 834 F } := by
  refine' ⟨?F, fun w pq lo mean mg mb => ?_⟩
  rotate_left
  refine' FnI.fnB (d := 2) (tbl := ["self", "channel", "room"]) (nm := ["self", "channel", "room"]) (n := 3) (k := 0) (dm := []) (dv := []) ?ho ?hb ?h1 ?hc ?hx
  case ho => rfl
  case h1 => exact fun _ => rfl
  case hc => kernel_rfl
  case hx =>
    exact (ExI.cons (StI.ife (TsI.cmp (EvI.var 1 rfl (by kernel_rfl) rfl) (EvI.attr 39 [914] rfl (ga_lines _) (EvI.var 0 rfl (by kernel_rfl) rfl)) (Op2I.notInD (by kernel_rfl))) (ExI.cons (StI.setI (EvI.call (EvI.glob (m := .gv (.ref 760)) (v := .ref 760) (by kernel_rfl) (by kernel_rfl) (vr_gv 760) rfl) (KeepsI.K (by kernel_rfl)) (EvsI.cons (EvI.var 2 rfl (by kernel_rfl) rfl) EvsI.nil) (ClI.cls (fI := 757) (by kernel_rfl) (by kernel_rfl) (by kernel_rfl) ((D_Line___init__.2 w pq lo mean mg mb).less (by decide)))) (EvI.attr 39 [914] rfl (ga_lines _) (EvI.var 0 rfl (by kernel_rfl) rfl)) (EvI.var 1 rfl (by kernel_rfl) rfl)) ExI.nil) ExI.nil) (ExI.cons (StI.ret (EvI.idx (EvI.attr 39 [914] rfl (ga_lines _) (EvI.var 0 rfl (by kernel_rfl) rfl)) (EvI.var 1 rfl (by kernel_rfl) rfl))) ExI.nil))
  case hb =>
    intro s vs X hl
    obtain ⟨a0, a1, a2, rfl⟩ := len3 hl
    exact BindsTo.of_eq rfl

noncomputable def D_count_in_clock : { F // ∀ w pq lo mean mg mb, FnI (GG w pq lo mean mg mb) 1 715 F } := by
  refine' ⟨?F, fun w pq lo mean mg mb => ?_⟩
  rotate_left
  refine' FnI.fnB (d := 0) (tbl := ["clock", "goroutine", "number", "count"]) (nm := ["clock", "goroutine"]) (n := 2) (k := 2) (dm := []) (dv := []) ?ho ?hb ?h1 ?hc ?hx
  case ho => rfl
  case h1 => exact fun _ => rfl
  case hc => kernel_rfl
  case hx =>
    exact (ExI.cons (StI.for (AsI.tup (AssI.cons (AsI.var 2 rfl (by decide) (by kernel_rfl)) (AssI.cons (AsI.var 3 rfl (by decide) (by kernel_rfl)) AssI.nil))) (EvI.var 0 rfl (by kernel_rfl) rfl) (ExI.cons (StI.ife (TsI.cmp (EvI.var 2 rfl (by kernel_rfl) rfl) (EvI.var 1 rfl (by kernel_rfl) rfl) Op2I.eq) (ExI.cons (StI.ret (EvI.var 3 rfl (by kernel_rfl) rfl)) ExI.nil) ExI.nil) ExI.nil)) (ExI.cons (StI.ret EvI.cint) ExI.nil))
  case hb =>
    intro s vs X hl
    obtain ⟨a0, a1, rfl⟩ := len2 hl
    exact BindsTo.of_eq rfl

noncomputable def D_ticked_clock : { F // ∀ w pq lo mean mg mb, FnI (GG w pq lo mean mg mb) 3 729 F } := by
  refine' ⟨?F, fun w pq lo mean mg mb => ?_⟩
  rotate_left
  refine' FnI.fnB (d := 2) (tbl := ["clock", "goroutine"]) (nm := ["clock", "goroutine"]) (n := 2) (k := 0) (dm := []) (dv := []) ?ho ?hb ?h1 ?hc ?hx
  case ho => rfl
  case h1 => exact fun _ => rfl
  case hc => kernel_rfl
  case hx =>
    exact (ExI.cons (StI.ret (EvI.call (EvI.glob (m := .gv (.ref 722)) (v := .ref 722) (by kernel_rfl) (by kernel_rfl) (vr_gv 722) rfl) (KeepsI.K (by kernel_rfl)) (EvsI.cons (EvI.var 0 rfl (by kernel_rfl) rfl) (EvsI.cons (EvI.tup (EvsI.cons (EvI.tup (EvsI.cons (EvI.var 1 rfl (by kernel_rfl) rfl) (EvsI.cons (EvI.bin (EvI.call (EvI.glob (m := .gv (.ref 715)) (v := .ref 715) (by kernel_rfl) (by kernel_rfl) (vr_gv 715) rfl) (KeepsI.K (by kernel_rfl)) (EvsI.cons (EvI.var 0 rfl (by kernel_rfl) rfl) (EvsI.cons (EvI.var 1 rfl (by kernel_rfl) rfl) EvsI.nil)) (ClI.fn ((D_count_in_clock.2 w pq lo mean mg mb).less (by decide)))) EvI.cint Op2I.addA) EvsI.nil))) EvsI.nil)) EvsI.nil)) (ClI.fn ((D_joined_clocks.2 w pq lo mean mg mb).less (by decide))))) ExI.nil)
  case hb =>
    intro s vs X hl
    obtain ⟨a0, a1, rfl⟩ := len2 hl
    exact BindsTo.of_eq rfl

noncomputable def D_Watch_told : { F // ∀ w pq lo mean mg mb, FnI (GG w pq lo mean mg mb) 5 820 F } := by
  refine' ⟨?F, fun w pq lo mean mg mb => ?_⟩
  rotate_left
  refine' FnI.fnB (d := 4) (tbl := ["self", "goroutine", "found"]) (nm := ["self", "goroutine"]) (n := 2) (k := 1) (dm := []) (dv := []) ?ho ?hb ?h1 ?hc ?hx
  case ho => rfl
  case h1 => exact fun _ => rfl
  case hc => kernel_rfl
  case hx =>
    exact (ExI.cons (StI.var 2 rfl (by decide) (by kernel_rfl) (EvI.meth (EvI.var 0 rfl (by kernel_rfl) rfl) (MetI.inst (C := 914) (f := 806) 8 rfl (by kernel_rfl) (by kernel_rfl) (by kernel_rfl)) (KeepsI.K (by kernel_rfl)) (EvsI.cons (EvI.var 1 rfl (by kernel_rfl) rfl) EvsI.nil) (ClI.fn ((D_Watch_clock.2 w pq lo mean mg mb).less (by decide))) (fun _ => _))) (ExI.cons (StI.setI (EvI.call (EvI.glob (m := .gv (.ref 729)) (v := .ref 729) (by kernel_rfl) (by kernel_rfl) (vr_gv 729) rfl) (KeepsI.K (by kernel_rfl)) (EvsI.cons (EvI.var 2 rfl (by kernel_rfl) rfl) (EvsI.cons (EvI.var 1 rfl (by kernel_rfl) rfl) EvsI.nil)) (ClI.fn ((D_ticked_clock.2 w pq lo mean mg mb).less (by decide)))) (EvI.attr 9 [914] rfl (ga_clocks _) (EvI.var 0 rfl (by kernel_rfl) rfl)) (EvI.var 1 rfl (by kernel_rfl) rfl)) (ExI.cons (StI.ret (EvI.var 2 rfl (by kernel_rfl) rfl)) ExI.nil)))
  case hb =>
    intro s vs X hl
    obtain ⟨a0, a1, rfl⟩ := len2 hl
    exact BindsTo.of_eq rfl

noncomputable def D_Watch_hand : { F // ∀ w pq lo mean mg mb, FnI (GG w pq lo mean mg mb) 7 855 F } := by
  refine' ⟨?F, fun w pq lo mean mg mb => ?_⟩
  rotate_left
  refine' FnI.fnB (d := 6) (tbl := ["self", "sender", "receiver", "channel", "line", "one", "other"]) (nm := ["self", "sender", "receiver", "channel"]) (n := 4) (k := 3) (dm := []) (dv := []) ?ho ?hb ?h1 ?hc ?hx
  case ho => rfl
  case h1 => exact fun _ => rfl
  case hc => kernel_rfl
  case hx =>
    exact (ExI.cons (StI.var 4 rfl (by decide) (by kernel_rfl) (EvI.meth (EvI.var 0 rfl (by kernel_rfl) rfl) (MetI.inst (C := 914) (f := 834) 38 rfl (by kernel_rfl) (by kernel_rfl) (by kernel_rfl)) (KeepsI.K (by kernel_rfl)) (EvsI.cons (EvI.var 3 rfl (by kernel_rfl) rfl) (EvsI.cons EvI.cint EvsI.nil)) (ClI.fn ((D_Watch_line.2 w pq lo mean mg mb).less (by decide))) (fun _ => _))) (ExI.cons (StI.swp (xs := ["one", "other"]) [5, 6] (NamesAt.cons rfl (by kernel_rfl) (NamesAt.cons rfl (by kernel_rfl) NamesAt.nil)) (by decide) (EvI.tup (EvsI.cons (EvI.meth (EvI.var 0 rfl (by kernel_rfl) rfl) (MetI.inst (C := 914) (f := 820) 65 rfl (by kernel_rfl) (by kernel_rfl) (by kernel_rfl)) (KeepsI.K (by kernel_rfl)) (EvsI.cons (EvI.var 1 rfl (by kernel_rfl) rfl) EvsI.nil) (ClI.fn ((D_Watch_told.2 w pq lo mean mg mb).less (by decide))) (fun _ => _)) (EvsI.cons (EvI.meth (EvI.var 0 rfl (by kernel_rfl) rfl) (MetI.inst (C := 914) (f := 820) 65 rfl (by kernel_rfl) (by kernel_rfl) (by kernel_rfl)) (KeepsI.K (by kernel_rfl)) (EvsI.cons (EvI.var 2 rfl (by kernel_rfl) rfl) EvsI.nil) (ClI.fn ((D_Watch_told.2 w pq lo mean mg mb).less (by decide))) (fun _ => _)) EvsI.nil))) (h2 := by intro env h; obtain ⟨sc1, _, _, _, _, _, _, _, _⟩ := env; dsimp only at h; subst h; kernel_rfl)) (ExI.cons (StI.expr (EvI.meth (EvI.attr 59 [760] rfl (ga_sent _) (EvI.var 4 rfl (by kernel_rfl) rfl)) (MetI.lst F.slot_list_append F.type_list_append) (KeepsI.bltn _) (EvsI.cons (EvI.var 5 rfl (by kernel_rfl) rfl) EvsI.nil) ClI.append (fun _ => _))) (ExI.cons (StI.expr (EvI.meth (EvI.attr 50 [760] rfl (ga_received _) (EvI.var 4 rfl (by kernel_rfl) rfl)) (MetI.lst F.slot_list_append F.type_list_append) (KeepsI.bltn _) (EvsI.cons (EvI.var 6 rfl (by kernel_rfl) rfl) EvsI.nil) ClI.append (fun _ => _))) (ExI.cons (StI.expr (EvI.meth (EvI.var 0 rfl (by kernel_rfl) rfl) (MetI.inst (C := 914) (f := 813) 36 rfl (by kernel_rfl) (by kernel_rfl) (by kernel_rfl)) (KeepsI.K (by kernel_rfl)) (EvsI.cons (EvI.var 1 rfl (by kernel_rfl) rfl) (EvsI.cons (EvI.var 6 rfl (by kernel_rfl) rfl) EvsI.nil)) (ClI.fn ((D_Watch_learn.2 w pq lo mean mg mb).less (by decide))) (fun _ => _))) (ExI.cons (StI.expr (EvI.meth (EvI.var 0 rfl (by kernel_rfl) rfl) (MetI.inst (C := 914) (f := 813) 36 rfl (by kernel_rfl) (by kernel_rfl) (by kernel_rfl)) (KeepsI.K (by kernel_rfl)) (EvsI.cons (EvI.var 2 rfl (by kernel_rfl) rfl) (EvsI.cons (EvI.var 5 rfl (by kernel_rfl) rfl) EvsI.nil)) (ClI.fn ((D_Watch_learn.2 w pq lo mean mg mb).less (by decide))) (fun _ => _))) ExI.nil))))))
  case hb =>
    intro s vs X hl
    obtain ⟨a0, a1, a2, a3, rfl⟩ := len4 hl
    exact BindsTo.of_eq rfl

noncomputable def D_Watch_receive : { F // ∀ w pq lo mean mg mb, FnI (GG w pq lo mean mg mb) 7 848 F } := by
  refine' ⟨?F, fun w pq lo mean mg mb => ?_⟩
  rotate_left
  refine' FnI.fnB (d := 6) (tbl := ["self", "goroutine", "channel", "room", "line", "sent"]) (nm := ["self", "goroutine", "channel", "room"]) (n := 4) (k := 2) (dm := []) (dv := []) ?ho ?hb ?h1 ?hc ?hx
  case ho => rfl
  case h1 => exact fun _ => rfl
  case hc => kernel_rfl
  case hx =>
    exact (ExI.cons (StI.var 4 rfl (by decide) (by kernel_rfl) (EvI.meth (EvI.var 0 rfl (by kernel_rfl) rfl) (MetI.inst (C := 914) (f := 834) 38 rfl (by kernel_rfl) (by kernel_rfl) (by kernel_rfl)) (KeepsI.K (by kernel_rfl)) (EvsI.cons (EvI.var 2 rfl (by kernel_rfl) rfl) (EvsI.cons (EvI.var 3 rfl (by kernel_rfl) rfl) EvsI.nil)) (ClI.fn ((D_Watch_line.2 w pq lo mean mg mb).less (by decide))) (fun _ => _))) (ExI.cons (StI.var 5 rfl (by decide) (by kernel_rfl) (EvI.idx (EvI.attr 59 [760] rfl (ga_sent _) (EvI.var 4 rfl (by kernel_rfl) rfl)) (EvI.call (EvI.bltn (v := .builtin "len") (by kernel_rfl) (by kernel_rfl) (by kernel_rfl) (by decide) (by decide) rfl) (KeepsI.bltn _) (EvsI.cons (EvI.attr 50 [760] rfl (ga_received _) (EvI.var 4 rfl (by kernel_rfl) rfl)) EvsI.nil) ClI.len))) (ExI.cons (StI.expr (EvI.meth (EvI.attr 50 [760] rfl (ga_received _) (EvI.var 4 rfl (by kernel_rfl) rfl)) (MetI.lst F.slot_list_append F.type_list_append) (KeepsI.bltn _) (EvsI.cons (EvI.meth (EvI.var 0 rfl (by kernel_rfl) rfl) (MetI.inst (C := 914) (f := 820) 65 rfl (by kernel_rfl) (by kernel_rfl) (by kernel_rfl)) (KeepsI.K (by kernel_rfl)) (EvsI.cons (EvI.var 1 rfl (by kernel_rfl) rfl) EvsI.nil) (ClI.fn ((D_Watch_told.2 w pq lo mean mg mb).less (by decide))) (fun _ => _)) EvsI.nil) ClI.append (fun _ => _))) (ExI.cons (StI.expr (EvI.meth (EvI.var 0 rfl (by kernel_rfl) rfl) (MetI.inst (C := 914) (f := 813) 36 rfl (by kernel_rfl) (by kernel_rfl) (by kernel_rfl)) (KeepsI.K (by kernel_rfl)) (EvsI.cons (EvI.var 1 rfl (by kernel_rfl) rfl) (EvsI.cons (EvI.var 5 rfl (by kernel_rfl) rfl) EvsI.nil)) (ClI.fn ((D_Watch_learn.2 w pq lo mean mg mb).less (by decide))) (fun _ => _))) ExI.nil))))
  case hb =>
    intro s vs X hl
    obtain ⟨a0, a1, a2, a3, rfl⟩ := len4 hl
    exact BindsTo.of_eq rfl

noncomputable def D_Watch_send : { F // ∀ w pq lo mean mg mb, FnI (GG w pq lo mean mg mb) 7 841 F } := by
  refine' ⟨?F, fun w pq lo mean mg mb => ?_⟩
  rotate_left
  refine' FnI.fnB (d := 6) (tbl := ["self", "goroutine", "channel", "room", "line", "freed"]) (nm := ["self", "goroutine", "channel", "room"]) (n := 4) (k := 2) (dm := []) (dv := []) ?ho ?hb ?h1 ?hc ?hx
  case ho => rfl
  case h1 => exact fun _ => rfl
  case hc => kernel_rfl
  case hx =>
    exact (ExI.cons (StI.var 4 rfl (by decide) (by kernel_rfl) (EvI.meth (EvI.var 0 rfl (by kernel_rfl) rfl) (MetI.inst (C := 914) (f := 834) 38 rfl (by kernel_rfl) (by kernel_rfl) (by kernel_rfl)) (KeepsI.K (by kernel_rfl)) (EvsI.cons (EvI.var 2 rfl (by kernel_rfl) rfl) (EvsI.cons (EvI.var 3 rfl (by kernel_rfl) rfl) EvsI.nil)) (ClI.fn ((D_Watch_line.2 w pq lo mean mg mb).less (by decide))) (fun _ => _))) (ExI.cons (StI.expr (EvI.meth (EvI.attr 59 [760] rfl (ga_sent _) (EvI.var 4 rfl (by kernel_rfl) rfl)) (MetI.lst F.slot_list_append F.type_list_append) (KeepsI.bltn _) (EvsI.cons (EvI.meth (EvI.var 0 rfl (by kernel_rfl) rfl) (MetI.inst (C := 914) (f := 820) 65 rfl (by kernel_rfl) (by kernel_rfl) (by kernel_rfl)) (KeepsI.K (by kernel_rfl)) (EvsI.cons (EvI.var 1 rfl (by kernel_rfl) rfl) EvsI.nil) (ClI.fn ((D_Watch_told.2 w pq lo mean mg mb).less (by decide))) (fun _ => _)) EvsI.nil) ClI.append (fun _ => _))) (ExI.cons (StI.var 5 rfl (by decide) (by kernel_rfl) (EvI.bin (EvI.bin (EvI.call (EvI.bltn (v := .builtin "len") (by kernel_rfl) (by kernel_rfl) (by kernel_rfl) (by decide) (by decide) rfl) (KeepsI.bltn _) (EvsI.cons (EvI.attr 59 [760] rfl (ga_sent _) (EvI.var 4 rfl (by kernel_rfl) rfl)) EvsI.nil) ClI.len) (EvI.var 3 rfl (by kernel_rfl) rfl) Op2I.sub) EvI.cint Op2I.sub)) (ExI.cons (StI.ife (TsI.chain EvI.cint (EvI.var 5 rfl (by kernel_rfl) rfl) (EvI.call (EvI.bltn (v := .builtin "len") (by kernel_rfl) (by kernel_rfl) (by kernel_rfl) (by decide) (by decide) rfl) (KeepsI.bltn _) (EvsI.cons (EvI.attr 50 [760] rfl (ga_received _) (EvI.var 4 rfl (by kernel_rfl) rfl)) EvsI.nil) ClI.len) Op2I.le Op2I.lt) (ExI.cons (StI.expr (EvI.meth (EvI.var 0 rfl (by kernel_rfl) rfl) (MetI.inst (C := 914) (f := 813) 36 rfl (by kernel_rfl) (by kernel_rfl) (by kernel_rfl)) (KeepsI.K (by kernel_rfl)) (EvsI.cons (EvI.var 1 rfl (by kernel_rfl) rfl) (EvsI.cons (EvI.idx (EvI.attr 50 [760] rfl (ga_received _) (EvI.var 4 rfl (by kernel_rfl) rfl)) (EvI.var 5 rfl (by kernel_rfl) rfl)) EvsI.nil)) (ClI.fn ((D_Watch_learn.2 w pq lo mean mg mb).less (by decide))) (fun _ => _))) ExI.nil) ExI.nil) ExI.nil))))
  case hb =>
    intro s vs X hl
    obtain ⟨a0, a1, a2, a3, rfl⟩ := len4 hl
    exact BindsTo.of_eq rfl

noncomputable def D_Meetings_told_send : { F // ∀ w pq lo mean mg mb, FnI (GG w pq lo mean mg mb) 9 117 F } := by
  refine' ⟨?F, fun w pq lo mean mg mb => ?_⟩
  rotate_left
  refine' FnI.fnB (d := 8) (tbl := ["self", "number", "rows", "room", "row"]) (nm := ["self", "number", "rows"]) (n := 3) (k := 2) (dm := []) (dv := []) ?ho ?hb ?h1 ?hc ?hx
  case ho => rfl
  case h1 => exact fun _ => rfl
  case hc => kernel_rfl
  case hx =>
    exact (ExI.cons (StI.ife (TsI.cmp (EvI.attr 72 [209, 566] rfl (ga_watch _) (EvI.var 0 rfl (by kernel_rfl) rfl)) EvI.cnone Op2I.isNone) (ExI.cons StI.retN ExI.nil) ExI.nil) (ExI.cons (StI.var 3 rfl (by decide) (by kernel_rfl) (EvI.attr 52 [296, 587, 760] rfl (ga_room _) (EvI.meth (EvI.attr 28 [209, 407] rfl (ga_heap _) (EvI.var 0 rfl (by kernel_rfl) rfl)) (MetI.inst (C := 566) (f := 488) 14 rfl (by kernel_rfl) (by kernel_rfl) (by kernel_rfl)) (KeepsI.K (by kernel_rfl)) (EvsI.cons (EvI.var 1 rfl (by kernel_rfl) rfl) EvsI.nil) (ClI.fn ((D_Heap_content.2 w pq lo mean mg mb).less (by decide))) (fun _ => _)))) (ExI.cons (StI.ife (TsI.cmp (EvI.var 3 rfl (by kernel_rfl) rfl) EvI.cint Op2I.eq) (ExI.cons (StI.expr (EvI.meth (EvI.attr 72 [209, 566] rfl (ga_watch _) (EvI.var 0 rfl (by kernel_rfl) rfl)) (MetI.inst (C := 914) (f := 855) 27 rfl (by kernel_rfl) (by kernel_rfl) (by kernel_rfl)) (KeepsI.K (by kernel_rfl)) (EvsI.cons (EvI.meth (EvI.var 0 rfl (by kernel_rfl) rfl) (MetI.inst (C := 209) (f := 89) 30 rfl (by kernel_rfl) (by kernel_rfl) (by kernel_rfl)) (KeepsI.K (by kernel_rfl)) EvsI.nil (ClI.fn ((D_Meetings_here.2 w pq lo mean mg mb).less (by decide))) (fun _ => _)) (EvsI.cons (EvI.idx (EvI.idx (EvI.var 2 rfl (by kernel_rfl) rfl) EvI.cint) EvI.cint) (EvsI.cons (EvI.var 1 rfl (by kernel_rfl) rfl) EvsI.nil))) (ClI.fn ((D_Watch_hand.2 w pq lo mean mg mb).less (by decide))) (fun _ => _))) (ExI.cons StI.retN ExI.nil)) ExI.nil) (ExI.cons (StI.expr (EvI.meth (EvI.attr 72 [209, 566] rfl (ga_watch _) (EvI.var 0 rfl (by kernel_rfl) rfl)) (MetI.inst (C := 914) (f := 841) 57 rfl (by kernel_rfl) (by kernel_rfl) (by kernel_rfl)) (KeepsI.K (by kernel_rfl)) (EvsI.cons (EvI.meth (EvI.var 0 rfl (by kernel_rfl) rfl) (MetI.inst (C := 209) (f := 89) 30 rfl (by kernel_rfl) (by kernel_rfl) (by kernel_rfl)) (KeepsI.K (by kernel_rfl)) EvsI.nil (ClI.fn ((D_Meetings_here.2 w pq lo mean mg mb).less (by decide))) (fun _ => _)) (EvsI.cons (EvI.var 1 rfl (by kernel_rfl) rfl) (EvsI.cons (EvI.var 3 rfl (by kernel_rfl) rfl) EvsI.nil))) (ClI.fn ((D_Watch_send.2 w pq lo mean mg mb).less (by decide))) (fun _ => _))) (ExI.cons (StI.for (AsI.var 4 rfl (by decide) (by kernel_rfl)) (EvI.var 2 rfl (by kernel_rfl) rfl) (ExI.cons (StI.expr (EvI.meth (EvI.attr 72 [209, 566] rfl (ga_watch _) (EvI.var 0 rfl (by kernel_rfl) rfl)) (MetI.inst (C := 914) (f := 848) 48 rfl (by kernel_rfl) (by kernel_rfl) (by kernel_rfl)) (KeepsI.K (by kernel_rfl)) (EvsI.cons (EvI.idx (EvI.var 4 rfl (by kernel_rfl) rfl) EvI.cint) (EvsI.cons (EvI.var 1 rfl (by kernel_rfl) rfl) (EvsI.cons (EvI.var 3 rfl (by kernel_rfl) rfl) EvsI.nil))) (ClI.fn ((D_Watch_receive.2 w pq lo mean mg mb).less (by decide))) (fun _ => _))) ExI.nil)) ExI.nil)))))
  case hb =>
    intro s vs X hl
    obtain ⟨a0, a1, a2, rfl⟩ := len3 hl
    exact BindsTo.of_eq rfl

noncomputable def D_Watch_receive_closed : { F // ∀ w pq lo mean mg mb, FnI (GG w pq lo mean mg mb) 5 869 F } := by
  refine' ⟨?F, fun w pq lo mean mg mb => ?_⟩
  rotate_left
  refine' FnI.fnB (d := 4) (tbl := ["self", "goroutine", "channel", "room"]) (nm := ["self", "goroutine", "channel", "room"]) (n := 4) (k := 0) (dm := []) (dv := []) ?ho ?hb ?h1 ?hc ?hx
  case ho => rfl
  case h1 => exact fun _ => rfl
  case hc => kernel_rfl
  case hx =>
    exact (ExI.cons (StI.expr (EvI.meth (EvI.var 0 rfl (by kernel_rfl) rfl) (MetI.inst (C := 914) (f := 813) 36 rfl (by kernel_rfl) (by kernel_rfl) (by kernel_rfl)) (KeepsI.K (by kernel_rfl)) (EvsI.cons (EvI.var 1 rfl (by kernel_rfl) rfl) (EvsI.cons (EvI.attr 15 [760] rfl (ga_end _) (EvI.meth (EvI.var 0 rfl (by kernel_rfl) rfl) (MetI.inst (C := 914) (f := 834) 38 rfl (by kernel_rfl) (by kernel_rfl) (by kernel_rfl)) (KeepsI.K (by kernel_rfl)) (EvsI.cons (EvI.var 2 rfl (by kernel_rfl) rfl) (EvsI.cons (EvI.var 3 rfl (by kernel_rfl) rfl) EvsI.nil)) (ClI.fn ((D_Watch_line.2 w pq lo mean mg mb).less (by decide))) (fun _ => _))) EvsI.nil)) (ClI.fn ((D_Watch_learn.2 w pq lo mean mg mb).less (by decide))) (fun _ => _))) ExI.nil)
  case hb =>
    intro s vs X hl
    obtain ⟨a0, a1, a2, a3, rfl⟩ := len4 hl
    exact BindsTo.of_eq rfl

noncomputable def D_Meetings_told_receive : { F // ∀ w pq lo mean mg mb, FnI (GG w pq lo mean mg mb) 9 138 F } := by
  refine' ⟨?F, fun w pq lo mean mg mb => ?_⟩
  rotate_left
  refine' FnI.fnB (d := 8) (tbl := ["self", "number", "rows", "room", "row"]) (nm := ["self", "number", "rows"]) (n := 3) (k := 2) (dm := []) (dv := []) ?ho ?hb ?h1 ?hc ?hx
  case ho => rfl
  case h1 => exact fun _ => rfl
  case hc => kernel_rfl
  case hx =>
    exact (ExI.cons (StI.ife (TsI.cmp (EvI.attr 72 [209, 566] rfl (ga_watch _) (EvI.var 0 rfl (by kernel_rfl) rfl)) EvI.cnone Op2I.isNone) (ExI.cons StI.retN ExI.nil) ExI.nil) (ExI.cons (StI.var 3 rfl (by decide) (by kernel_rfl) (EvI.attr 52 [296, 587, 760] rfl (ga_room _) (EvI.meth (EvI.attr 28 [209, 407] rfl (ga_heap _) (EvI.var 0 rfl (by kernel_rfl) rfl)) (MetI.inst (C := 566) (f := 488) 14 rfl (by kernel_rfl) (by kernel_rfl) (by kernel_rfl)) (KeepsI.K (by kernel_rfl)) (EvsI.cons (EvI.var 1 rfl (by kernel_rfl) rfl) EvsI.nil) (ClI.fn ((D_Heap_content.2 w pq lo mean mg mb).less (by decide))) (fun _ => _)))) (ExI.cons (StI.ife (TsI.not (TsI.plain (EvI.idx (EvI.idx (EvI.var 2 rfl (by kernel_rfl) rfl) EvI.cint) EvI.cint))) (ExI.cons (StI.expr (EvI.meth (EvI.attr 72 [209, 566] rfl (ga_watch _) (EvI.var 0 rfl (by kernel_rfl) rfl)) (MetI.inst (C := 914) (f := 869) 49 rfl (by kernel_rfl) (by kernel_rfl) (by kernel_rfl)) (KeepsI.K (by kernel_rfl)) (EvsI.cons (EvI.meth (EvI.var 0 rfl (by kernel_rfl) rfl) (MetI.inst (C := 209) (f := 89) 30 rfl (by kernel_rfl) (by kernel_rfl) (by kernel_rfl)) (KeepsI.K (by kernel_rfl)) EvsI.nil (ClI.fn ((D_Meetings_here.2 w pq lo mean mg mb).less (by decide))) (fun _ => _)) (EvsI.cons (EvI.var 1 rfl (by kernel_rfl) rfl) (EvsI.cons (EvI.var 3 rfl (by kernel_rfl) rfl) EvsI.nil))) (ClI.fn ((D_Watch_receive_closed.2 w pq lo mean mg mb).less (by decide))) (fun _ => _))) ExI.nil) (ExI.cons (StI.ife (TsI.cmp (EvI.var 3 rfl (by kernel_rfl) rfl) EvI.cint Op2I.eq) (ExI.cons (StI.expr (EvI.meth (EvI.attr 72 [209, 566] rfl (ga_watch _) (EvI.var 0 rfl (by kernel_rfl) rfl)) (MetI.inst (C := 914) (f := 855) 27 rfl (by kernel_rfl) (by kernel_rfl) (by kernel_rfl)) (KeepsI.K (by kernel_rfl)) (EvsI.cons (EvI.idx (EvI.idx (EvI.var 2 rfl (by kernel_rfl) rfl) EvI.cint) EvI.cint) (EvsI.cons (EvI.meth (EvI.var 0 rfl (by kernel_rfl) rfl) (MetI.inst (C := 209) (f := 89) 30 rfl (by kernel_rfl) (by kernel_rfl) (by kernel_rfl)) (KeepsI.K (by kernel_rfl)) EvsI.nil (ClI.fn ((D_Meetings_here.2 w pq lo mean mg mb).less (by decide))) (fun _ => _)) (EvsI.cons (EvI.var 1 rfl (by kernel_rfl) rfl) EvsI.nil))) (ClI.fn ((D_Watch_hand.2 w pq lo mean mg mb).less (by decide))) (fun _ => _))) ExI.nil) (ExI.cons (StI.expr (EvI.meth (EvI.attr 72 [209, 566] rfl (ga_watch _) (EvI.var 0 rfl (by kernel_rfl) rfl)) (MetI.inst (C := 914) (f := 848) 48 rfl (by kernel_rfl) (by kernel_rfl) (by kernel_rfl)) (KeepsI.K (by kernel_rfl)) (EvsI.cons (EvI.meth (EvI.var 0 rfl (by kernel_rfl) rfl) (MetI.inst (C := 209) (f := 89) 30 rfl (by kernel_rfl) (by kernel_rfl) (by kernel_rfl)) (KeepsI.K (by kernel_rfl)) EvsI.nil (ClI.fn ((D_Meetings_here.2 w pq lo mean mg mb).less (by decide))) (fun _ => _)) (EvsI.cons (EvI.var 1 rfl (by kernel_rfl) rfl) (EvsI.cons (EvI.var 3 rfl (by kernel_rfl) rfl) EvsI.nil))) (ClI.fn ((D_Watch_receive.2 w pq lo mean mg mb).less (by decide))) (fun _ => _))) (ExI.cons (StI.for (AsI.var 4 rfl (by decide) (by kernel_rfl)) (EvI.slice 1 none (EvI.var 2 rfl (by kernel_rfl) rfl) EvI.cint PartI.none) (ExI.cons (StI.expr (EvI.meth (EvI.attr 72 [209, 566] rfl (ga_watch _) (EvI.var 0 rfl (by kernel_rfl) rfl)) (MetI.inst (C := 914) (f := 841) 57 rfl (by kernel_rfl) (by kernel_rfl) (by kernel_rfl)) (KeepsI.K (by kernel_rfl)) (EvsI.cons (EvI.idx (EvI.var 4 rfl (by kernel_rfl) rfl) EvI.cint) (EvsI.cons (EvI.var 1 rfl (by kernel_rfl) rfl) (EvsI.cons (EvI.var 3 rfl (by kernel_rfl) rfl) EvsI.nil))) (ClI.fn ((D_Watch_send.2 w pq lo mean mg mb).less (by decide))) (fun _ => _))) ExI.nil)) ExI.nil))) ExI.nil)) ExI.nil)))
  case hb =>
    intro s vs X hl
    obtain ⟨a0, a1, a2, rfl⟩ := len3 hl
    exact BindsTo.of_eq rfl

noncomputable def D_Watch___init__ : { F // ∀ w pq lo mean mg mb, FnI (GG w pq lo mean mg mb) 1 799 F } := by
  refine' ⟨?F, fun w pq lo mean mg mb => ?_⟩
  rotate_left
  refine' FnI.fnB (d := 0) (tbl := ["self"]) (nm := ["self"]) (n := 1) (k := 0) (dm := []) (dv := []) ?ho ?hb ?h1 ?hc ?hx
  case ho => rfl
  case h1 => exact fun _ => rfl
  case hc => kernel_rfl
  case hx =>
    exact (ExI.cons (StI.setA 9 [914] rfl (gs_clocks _) EvI.dct (EvI.var 0 rfl (by kernel_rfl) rfl)) (ExI.cons (StI.setA 39 [914] rfl (gs_lines _) EvI.dct (EvI.var 0 rfl (by kernel_rfl) rfl)) (ExI.cons (StI.setA 22 [209, 914] rfl (gs_gates _) EvI.dct (EvI.var 0 rfl (by kernel_rfl) rfl)) (ExI.cons (StI.setA 46 [914] rfl (gs_places _) EvI.dct (EvI.var 0 rfl (by kernel_rfl) rfl)) (ExI.cons (StI.setA 47 [914] rfl (gs_races _) (EvI.lst EvsI.nil) (EvI.var 0 rfl (by kernel_rfl) rfl)) ExI.nil)))))
  case hb =>
    intro s vs X hl
    obtain ⟨a0, rfl⟩ := len1 hl
    exact BindsTo.of_eq rfl

noncomputable def D_Watch_go : { F // ∀ w pq lo mean mg mb, FnI (GG w pq lo mean mg mb) 7 827 F } := by
  refine' ⟨?F, fun w pq lo mean mg mb => ?_⟩
  rotate_left
  refine' FnI.fnB (d := 6) (tbl := ["self", "goroutine", "child"]) (nm := ["self", "goroutine", "child"]) (n := 3) (k := 0) (dm := []) (dv := []) ?ho ?hb ?h1 ?hc ?hx
  case ho => rfl
  case h1 => exact fun _ => rfl
  case hc => kernel_rfl
  case hx =>
    exact (ExI.cons (StI.expr (EvI.meth (EvI.var 0 rfl (by kernel_rfl) rfl) (MetI.inst (C := 914) (f := 813) 36 rfl (by kernel_rfl) (by kernel_rfl) (by kernel_rfl)) (KeepsI.K (by kernel_rfl)) (EvsI.cons (EvI.var 2 rfl (by kernel_rfl) rfl) (EvsI.cons (EvI.meth (EvI.var 0 rfl (by kernel_rfl) rfl) (MetI.inst (C := 914) (f := 820) 65 rfl (by kernel_rfl) (by kernel_rfl) (by kernel_rfl)) (KeepsI.K (by kernel_rfl)) (EvsI.cons (EvI.var 1 rfl (by kernel_rfl) rfl) EvsI.nil) (ClI.fn ((D_Watch_told.2 w pq lo mean mg mb).less (by decide))) (fun _ => _)) EvsI.nil)) (ClI.fn ((D_Watch_learn.2 w pq lo mean mg mb).less (by decide))) (fun _ => _))) ExI.nil)
  case hb =>
    intro s vs X hl
    obtain ⟨a0, a1, a2, rfl⟩ := len3 hl
    exact BindsTo.of_eq rfl

noncomputable def D_Watch_close : { F // ∀ w pq lo mean mg mb, FnI (GG w pq lo mean mg mb) 7 862 F } := by
  refine' ⟨?F, fun w pq lo mean mg mb => ?_⟩
  rotate_left
  refine' FnI.fnB (d := 6) (tbl := ["self", "goroutine", "channel", "room"]) (nm := ["self", "goroutine", "channel", "room"]) (n := 4) (k := 0) (dm := []) (dv := []) ?ho ?hb ?h1 ?hc ?hx
  case ho => rfl
  case h1 => exact fun _ => rfl
  case hc => kernel_rfl
  case hx =>
    exact (ExI.cons (StI.setA 15 [760] rfl (gs_end _) (EvI.meth (EvI.var 0 rfl (by kernel_rfl) rfl) (MetI.inst (C := 914) (f := 820) 65 rfl (by kernel_rfl) (by kernel_rfl) (by kernel_rfl)) (KeepsI.K (by kernel_rfl)) (EvsI.cons (EvI.var 1 rfl (by kernel_rfl) rfl) EvsI.nil) (ClI.fn ((D_Watch_told.2 w pq lo mean mg mb).less (by decide))) (fun _ => _)) (EvI.meth (EvI.var 0 rfl (by kernel_rfl) rfl) (MetI.inst (C := 914) (f := 834) 38 rfl (by kernel_rfl) (by kernel_rfl) (by kernel_rfl)) (KeepsI.K (by kernel_rfl)) (EvsI.cons (EvI.var 2 rfl (by kernel_rfl) rfl) (EvsI.cons (EvI.var 3 rfl (by kernel_rfl) rfl) EvsI.nil)) (ClI.fn ((D_Watch_line.2 w pq lo mean mg mb).less (by decide))) (fun _ => _))) ExI.nil)
  case hb =>
    intro s vs X hl
    obtain ⟨a0, a1, a2, a3, rfl⟩ := len4 hl
    exact BindsTo.of_eq rfl

end
end Mine
end

section
open PySem PySem.W PySem.Calls PyProof.Rows
set_option maxRecDepth 100000
set_option maxHeartbeats 0
namespace Mine
noncomputable section

noncomputable def D_objects_within : { F // ∀ w pq lo mean mg mb, FnI (GG w pq lo mean mg mb) 1 336 F } := by
  refine' ⟨?F, fun w pq lo mean mg mb => ?_⟩
  rotate_left
  refine' FnI.fnB (d := 0) (tbl := ["value", "found", "waiting", "here", "kind", "number"]) (nm := ["value"]) (n := 1) (k := 5) (dm := []) (dv := []) ?ho ?hb ?h1 ?hc ?hx
  case ho => rfl
  case h1 => exact fun _ => rfl
  case hc => kernel_rfl
  case hx =>
    exact (ExI.cons (StI.swp (xs := ["found", "waiting"]) [1, 2] (NamesAt.cons rfl (by kernel_rfl) (NamesAt.cons rfl (by kernel_rfl) NamesAt.nil)) (by decide) (EvI.tup (EvsI.cons (EvI.lst EvsI.nil) (EvsI.cons (EvI.lst (EvsI.cons (EvI.var 0 rfl (by kernel_rfl) rfl) EvsI.nil)) EvsI.nil))) (h2 := by intro env h; obtain ⟨sc1, _, _, _, _, _, _, _, _⟩ := env; dsimp only at h; subst h; kernel_rfl)) (ExI.cons (StI.while 60 (TsI.cmp (EvI.var 2 rfl (by kernel_rfl) rfl) (EvI.lst EvsI.nil) Op2I.ne) (ExI.cons (StI.var 3 rfl (by decide) (by kernel_rfl) (EvI.meth (EvI.var 2 rfl (by kernel_rfl) rfl) (MetI.lst F.slot_list_pop F.type_list_pop) (KeepsI.bltn _) EvsI.nil ClI.pop (fun _ => _))) (ExI.cons (StI.ife (TsI.or (TsI.not (TsI.plain (EvI.call (EvI.bltn (v := .builtin "isinstance") (by kernel_rfl) (by kernel_rfl) (by kernel_rfl) (by decide) (by decide) rfl) (KeepsI.bltn _) (EvsI.cons (EvI.var 3 rfl (by kernel_rfl) rfl) (EvsI.cons (EvI.bltn (v := .type "tuple") (by kernel_rfl) (by kernel_rfl) (by kernel_rfl) (by decide) (by decide) rfl) EvsI.nil)) ClI.isi))) (TsI.cmp (EvI.var 3 rfl (by kernel_rfl) rfl) (EvI.tup EvsI.nil) Op2I.eq)) (ExI.cons StI.cont ExI.nil) ExI.nil) (ExI.cons (StI.var 4 rfl (by decide) (by kernel_rfl) (EvI.idx (EvI.var 3 rfl (by kernel_rfl) rfl) EvI.cint)) (ExI.cons (StI.ife (TsI.cmp (EvI.var 4 rfl (by kernel_rfl) rfl) (EvI.glob (m := .gv (.ref 329)) (v := .ref 329) (by kernel_rfl) (by kernel_rfl) (vr_gv 329) rfl) (Op2I.inK (ref_reads _) (by kernel_rfl))) (ExI.cons (StI.var 5 rfl (by decide) (by kernel_rfl) (EvI.ife (TsI.plain (EvI.call (EvI.bltn (v := .builtin "isinstance") (by kernel_rfl) (by kernel_rfl) (by kernel_rfl) (by decide) (by decide) rfl) (KeepsI.bltn _) (EvsI.cons (EvI.idx (EvI.var 3 rfl (by kernel_rfl) rfl) EvI.cint) (EvsI.cons (EvI.bltn (v := .type "tuple") (by kernel_rfl) (by kernel_rfl) (by kernel_rfl) (by decide) (by decide) rfl) EvsI.nil)) ClI.isi)) (EvI.idx (EvI.idx (EvI.var 3 rfl (by kernel_rfl) rfl) EvI.cint) EvI.cint) (EvI.idx (EvI.var 3 rfl (by kernel_rfl) rfl) EvI.cint))) (ExI.cons (StI.ife (TsI.cmp (EvI.var 5 rfl (by kernel_rfl) rfl) (EvI.var 1 rfl (by kernel_rfl) rfl) Op2I.notIn) (ExI.cons (StI.expr (EvI.meth (EvI.var 1 rfl (by kernel_rfl) rfl) (MetI.lst F.slot_list_append F.type_list_append) (KeepsI.bltn _) (EvsI.cons (EvI.var 5 rfl (by kernel_rfl) rfl) EvsI.nil) ClI.append (fun _ => _))) ExI.nil) ExI.nil) ExI.nil)) (ExI.cons (StI.ife (TsI.or (TsI.cmp (EvI.var 4 rfl (by kernel_rfl) rfl) EvI.cstr Op2I.eq) (TsI.cmp (EvI.var 4 rfl (by kernel_rfl) rfl) EvI.cstr Op2I.eq)) (ExI.cons (StI.expr (EvI.meth (EvI.var 2 rfl (by kernel_rfl) rfl) (MetI.lst F.slot_list_extend F.type_list_extend) (KeepsI.bltn _) (EvsI.cons (EvI.ife (TsI.cmp (EvI.var 4 rfl (by kernel_rfl) rfl) EvI.cstr Op2I.eq) EvI.stuck (EvI.lst (EvsI.cons (EvI.idx (EvI.var 3 rfl (by kernel_rfl) rfl) EvI.cint) EvsI.nil))) EvsI.nil) ClI.extend (fun _ => _))) ExI.nil) (ExI.cons (StI.ife (TsI.or (TsI.cmp (EvI.var 4 rfl (by kernel_rfl) rfl) EvI.cstr Op2I.eq) (TsI.cmp (EvI.var 4 rfl (by kernel_rfl) rfl) EvI.cstr Op2I.eq)) (ExI.cons (StI.expr (EvI.meth (EvI.var 2 rfl (by kernel_rfl) rfl) (MetI.lst F.slot_list_extend F.type_list_extend) (KeepsI.bltn _) (EvsI.cons EvI.stuck EvsI.nil) ClI.extend (fun _ => _))) ExI.nil) ExI.nil) ExI.nil)) ExI.nil)) ExI.nil))))) (ExI.cons (StI.ret (EvI.var 1 rfl (by kernel_rfl) rfl)) ExI.nil)))
  case hb =>
    intro s vs X hl
    obtain ⟨a0, rfl⟩ := len1 hl
    exact BindsTo.of_eq rfl

noncomputable def D_Collector_shade : { F // ∀ w pq lo mean mg mb, FnI (GG w pq lo mean mg mb) 3 371 F } := by
  refine' ⟨?F, fun w pq lo mean mg mb => ?_⟩
  rotate_left
  refine' FnI.fnB (d := 2) (tbl := ["self", "value", "number"]) (nm := ["self", "value"]) (n := 2) (k := 1) (dm := []) (dv := []) ?ho ?hb ?h1 ?hc ?hx
  case ho => rfl
  case h1 => exact fun _ => rfl
  case hc => kernel_rfl
  case hx =>
    exact (ExI.cons (StI.for (AsI.var 2 rfl (by decide) (by kernel_rfl)) (EvI.call (EvI.glob (m := .gv (.ref 336)) (v := .ref 336) (by kernel_rfl) (by kernel_rfl) (vr_gv 336) rfl) (KeepsI.K (by kernel_rfl)) (EvsI.cons (EvI.var 1 rfl (by kernel_rfl) rfl) EvsI.nil) (ClI.fn ((D_objects_within.2 w pq lo mean mg mb).less (by decide)))) (ExI.cons (StI.ife (TsI.cmp (EvI.meth (EvI.attr 13 [407] rfl (ga_colours _) (EvI.var 0 rfl (by kernel_rfl) rfl)) (MetI.dct F.slot_dict_get F.type_dict_get) (KeepsI.bltn _) (EvsI.cons (EvI.var 2 rfl (by kernel_rfl) rfl) EvsI.nil) (ClI.get1 (by kernel_rfl)) (fun _ => _)) (EvI.gstr "white" (g_WHITE _) (by kernel_rfl) rfl) Op2I.eq) (ExI.cons (StI.setI (EvI.gstr "grey" (g_GREY _) (by kernel_rfl) rfl) (EvI.attr 13 [407] rfl (ga_colours _) (EvI.var 0 rfl (by kernel_rfl) rfl)) (EvI.var 2 rfl (by kernel_rfl) rfl)) (ExI.cons (StI.expr (EvI.meth (EvI.attr 26 [407] rfl (ga_greys _) (EvI.var 0 rfl (by kernel_rfl) rfl)) (MetI.lst F.slot_list_append F.type_list_append) (KeepsI.bltn _) (EvsI.cons (EvI.var 2 rfl (by kernel_rfl) rfl) EvsI.nil) ClI.append (fun _ => _))) ExI.nil)) ExI.nil) ExI.nil)) ExI.nil)
  case hb =>
    intro s vs X hl
    obtain ⟨a0, a1, rfl⟩ := len2 hl
    exact BindsTo.of_eq rfl

noncomputable def D_Collector_barrier : { F // ∀ w pq lo mean mg mb, FnI (GG w pq lo mean mg mb) 5 385 F } := by
  refine' ⟨?F, fun w pq lo mean mg mb => ?_⟩
  rotate_left
  refine' FnI.fnB (d := 4) (tbl := ["self", "number", "value"]) (nm := ["self", "number", "value"]) (n := 3) (k := 0) (dm := []) (dv := []) ?ho ?hb ?h1 ?hc ?hx
  case ho => rfl
  case h1 => exact fun _ => rfl
  case hc => kernel_rfl
  case hx =>
    exact (ExI.cons (StI.ife (TsI.and (TsI.plain (EvI.attr 32 [407] rfl (ga_is_going _) (EvI.var 0 rfl (by kernel_rfl) rfl))) (TsI.cmp (EvI.meth (EvI.attr 13 [407] rfl (ga_colours _) (EvI.var 0 rfl (by kernel_rfl) rfl)) (MetI.dct F.slot_dict_get F.type_dict_get) (KeepsI.bltn _) (EvsI.cons (EvI.var 1 rfl (by kernel_rfl) rfl) EvsI.nil) (ClI.get1 (by kernel_rfl)) (fun _ => _)) (EvI.gstr "black" (g_BLACK _) (by kernel_rfl) rfl) Op2I.ne)) (ExI.cons (StI.expr (EvI.meth (EvI.var 0 rfl (by kernel_rfl) rfl) (MetI.inst (C := 407) (f := 371) 60 rfl (by kernel_rfl) (by kernel_rfl) (by kernel_rfl)) (KeepsI.K (by kernel_rfl)) (EvsI.cons (EvI.var 2 rfl (by kernel_rfl) rfl) EvsI.nil) (ClI.fn ((D_Collector_shade.2 w pq lo mean mg mb).less (by decide))) (fun _ => _))) ExI.nil) ExI.nil) ExI.nil)
  case hb =>
    intro s vs X hl
    obtain ⟨a0, a1, a2, rfl⟩ := len3 hl
    exact BindsTo.of_eq rfl

noncomputable def D_Heap_overwritten : { F // ∀ w pq lo mean mg mb, FnI (GG w pq lo mean mg mb) 7 535 F } := by
  refine' ⟨?F, fun w pq lo mean mg mb => ?_⟩
  rotate_left
  refine' FnI.fnB (d := 6) (tbl := ["self", "number", "old"]) (nm := ["self", "number", "old"]) (n := 3) (k := 0) (dm := []) (dv := []) ?ho ?hb ?h1 ?hc ?hx
  case ho => rfl
  case h1 => exact fun _ => rfl
  case hc => kernel_rfl
  case hx =>
    exact (ExI.cons (StI.ife (TsI.cmp (EvI.attr 12 [566] rfl (ga_collector _) (EvI.var 0 rfl (by kernel_rfl) rfl)) EvI.cnone Op2I.notNone) (ExI.cons (StI.expr (EvI.meth (EvI.attr 12 [566] rfl (ga_collector _) (EvI.var 0 rfl (by kernel_rfl) rfl)) (MetI.inst (C := 407) (f := 385) 3 rfl (by kernel_rfl) (by kernel_rfl) (by kernel_rfl)) (KeepsI.K (by kernel_rfl)) (EvsI.cons (EvI.var 1 rfl (by kernel_rfl) rfl) (EvsI.cons (EvI.var 2 rfl (by kernel_rfl) rfl) EvsI.nil)) (ClI.fn ((D_Collector_barrier.2 w pq lo mean mg mb).less (by decide))) (fun _ => _))) ExI.nil) ExI.nil) ExI.nil)
  case hb =>
    intro s vs X hl
    obtain ⟨a0, a1, a2, rfl⟩ := len3 hl
    exact BindsTo.of_eq rfl

noncomputable def D_Meetings_forgotten : { F // ∀ w pq lo mean mg mb, FnI (GG w pq lo mean mg mb) 9 157 F } := by
  refine' ⟨?F, fun w pq lo mean mg mb => ?_⟩
  rotate_left
  refine' FnI.fnB (d := 8) (tbl := ["self", "told", "case"]) (nm := ["self", "told"]) (n := 2) (k := 1) (dm := []) (dv := []) ?ho ?hb ?h1 ?hc ?hx
  case ho => rfl
  case h1 => exact fun _ => rfl
  case hc => kernel_rfl
  case hx =>
    exact (ExI.cons (StI.for (AsI.var 2 rfl (by decide) (by kernel_rfl)) (EvI.var 1 rfl (by kernel_rfl) rfl) (ExI.cons (StI.ife (TsI.and (TsI.cmp (EvI.idx (EvI.var 2 rfl (by kernel_rfl) rfl) EvI.cint) EvI.cstr Op2I.eq) (TsI.cmp (EvI.idx (EvI.var 2 rfl (by kernel_rfl) rfl) EvI.cint) EvI.cnone Op2I.notNone)) (ExI.cons (StI.expr (EvI.meth (EvI.attr 28 [209, 407] rfl (ga_heap _) (EvI.var 0 rfl (by kernel_rfl) rfl)) (MetI.inst (C := 566) (f := 535) 45 rfl (by kernel_rfl) (by kernel_rfl) (by kernel_rfl)) (KeepsI.K (by kernel_rfl)) (EvsI.cons (EvI.idx (EvI.idx (EvI.var 2 rfl (by kernel_rfl) rfl) EvI.cint) EvI.cint) (EvsI.cons (EvI.idx (EvI.var 2 rfl (by kernel_rfl) rfl) EvI.cint) EvsI.nil)) (ClI.fn ((D_Heap_overwritten.2 w pq lo mean mg mb).less (by decide))) (fun _ => _))) ExI.nil) ExI.nil) ExI.nil)) ExI.nil)
  case hb =>
    intro s vs X hl
    obtain ⟨a0, a1, rfl⟩ := len2 hl
    exact BindsTo.of_eq rfl

noncomputable def D_Channel___init__ : { F // ∀ w pq lo mean mg mb, FnI (GG w pq lo mean mg mb) 1 241 F } := by
  refine' ⟨?F, fun w pq lo mean mg mb => ?_⟩
  rotate_left
  refine' FnI.fnB (d := 0) (tbl := ["self", "room"]) (nm := ["self", "room"]) (n := 2) (k := 0) (dm := []) (dv := []) ?ho ?hb ?h1 ?hc ?hx
  case ho => rfl
  case h1 => exact fun _ => rfl
  case hc => kernel_rfl
  case hx =>
    exact (ExI.cons (StI.setA 52 [296, 587, 760] rfl (gs_room _) (EvI.var 1 rfl (by kernel_rfl) rfl) (EvI.var 0 rfl (by kernel_rfl) rfl)) (ExI.cons (StI.setA 5 [296] rfl (gs_buffer _) (EvI.lst EvsI.nil) (EvI.var 0 rfl (by kernel_rfl) rfl)) (ExI.cons (StI.setA 58 [296] rfl (gs_senders _) (EvI.lst EvsI.nil) (EvI.var 0 rfl (by kernel_rfl) rfl)) (ExI.cons (StI.setA 51 [296] rfl (gs_receivers _) (EvI.lst EvsI.nil) (EvI.var 0 rfl (by kernel_rfl) rfl)) (ExI.cons (StI.setA 11 [296] rfl (gs_closed _) EvI.cbool (EvI.var 0 rfl (by kernel_rfl) rfl)) ExI.nil)))))
  case hb =>
    intro s vs X hl
    obtain ⟨a0, a1, rfl⟩ := len2 hl
    exact BindsTo.of_eq rfl

noncomputable def D_Choices___init__ : { F // ∀ w pq lo mean mg mb, FnI (GG w pq lo mean mg mb) 1 314 F } := by
  refine' ⟨?F, fun w pq lo mean mg mb => ?_⟩
  rotate_left
  refine' FnI.fnB (d := 0) (tbl := ["self", "row"]) (nm := ["self", "row"]) (n := 2) (k := 0) (dm := []) (dv := []) ?ho ?hb ?h1 ?hc ?hx
  case ho => rfl
  case h1 => exact fun _ => rfl
  case hc => kernel_rfl
  case hx =>
    exact (ExI.cons (StI.setA 55 [324] rfl (gs_row _) (EvI.var 1 rfl (by kernel_rfl) rfl) (EvI.var 0 rfl (by kernel_rfl) rfl)) (ExI.cons (StI.setA 64 [324] rfl (gs_taken _) EvI.cint (EvI.var 0 rfl (by kernel_rfl) rfl)) ExI.nil))
  case hb =>
    intro s vs X hl
    obtain ⟨a0, a1, rfl⟩ := len2 hl
    exact BindsTo.of_eq rfl

noncomputable def D_Collector___init__ : { F // ∀ w pq lo mean mg mb, FnI (GG w pq lo mean mg mb) 1 350 F } := by
  refine' ⟨?F, fun w pq lo mean mg mb => ?_⟩
  rotate_left
  refine' FnI.fnB (d := 0) (tbl := ["self", "heap", "roots"]) (nm := ["self", "heap", "roots"]) (n := 3) (k := 0) (dm := []) (dv := []) ?ho ?hb ?h1 ?hc ?hx
  case ho => rfl
  case h1 => exact fun _ => rfl
  case hc => kernel_rfl
  case hx =>
    exact (ExI.cons (StI.setA 28 [209, 407] rfl (gs_heap _) (EvI.var 1 rfl (by kernel_rfl) rfl) (EvI.var 0 rfl (by kernel_rfl) rfl)) (ExI.cons (StI.setA 53 [407] rfl (gs_roots _) (EvI.var 2 rfl (by kernel_rfl) rfl) (EvI.var 0 rfl (by kernel_rfl) rfl)) (ExI.cons (StI.setA 13 [407] rfl (gs_colours _) EvI.dct (EvI.var 0 rfl (by kernel_rfl) rfl)) (ExI.cons (StI.setA 26 [407] rfl (gs_greys _) (EvI.lst EvsI.nil) (EvI.var 0 rfl (by kernel_rfl) rfl)) (ExI.cons (StI.setA 32 [407] rfl (gs_is_going _) EvI.cbool (EvI.var 0 rfl (by kernel_rfl) rfl)) (ExI.cons (StI.setA 54 [407] rfl (gs_rounds _) EvI.cint (EvI.var 0 rfl (by kernel_rfl) rfl)) ExI.nil))))))
  case hb =>
    intro s vs X hl
    obtain ⟨a0, a1, a2, rfl⟩ := len3 hl
    exact BindsTo.of_eq rfl

noncomputable def D_Heap_numbers : { F // ∀ w pq lo mean mg mb, FnI (GG w pq lo mean mg mb) 1 493 F } := by
  refine' ⟨?F, fun w pq lo mean mg mb => ?_⟩
  rotate_left
  refine' FnI.fnB (d := 0) (tbl := ["self", "names"]) (nm := ["self"]) (n := 1) (k := 1) (dm := []) (dv := []) ?ho ?hb ?h1 ?hc ?hx
  case ho => rfl
  case h1 => exact fun _ => rfl
  case hc => kernel_rfl
  case hx =>
    exact (ExI.cons (StI.var 1 rfl (by decide) (by kernel_rfl) (EvI.call (EvI.bltn (v := .builtin "sorted") (by kernel_rfl) (by kernel_rfl) (by kernel_rfl) (by decide) (by decide) rfl) (KeepsI.bltn _) (EvsI.cons (EvI.compD (by kernel_rfl) (by kernel_rfl) rfl (EvI.attr 33 [566] rfl (ga_kept _) (EvI.var 0 rfl (by kernel_rfl) rfl)) (TsI.plain (EvI.call (EvI.bltn (v := .builtin "isinstance") (by kernel_rfl) (by kernel_rfl) (by kernel_rfl) (by decide) (by decide) rfl) (KeepsI.bltn _) (EvsI.cons (EvI.var 0 rfl (by kernel_rfl) rfl) (EvsI.cons (EvI.bltn (v := .type "str") (by kernel_rfl) (by kernel_rfl) (by kernel_rfl) (by decide) (by decide) rfl) EvsI.nil)) ClI.isi))) EvsI.nil) ClI.sortInts)) (ExI.cons (StI.ret (EvI.bin (EvI.call (EvI.bltn (v := .builtin "sorted") (by kernel_rfl) (by kernel_rfl) (by kernel_rfl) (by decide) (by decide) rfl) (KeepsI.bltn _) (EvsI.cons (EvI.compD (by kernel_rfl) (by kernel_rfl) rfl (EvI.attr 33 [566] rfl (ga_kept _) (EvI.var 0 rfl (by kernel_rfl) rfl)) (TsI.not (TsI.plain (EvI.call (EvI.bltn (v := .builtin "isinstance") (by kernel_rfl) (by kernel_rfl) (by kernel_rfl) (by decide) (by decide) rfl) (KeepsI.bltn _) (EvsI.cons (EvI.var 0 rfl (by kernel_rfl) rfl) (EvsI.cons (EvI.bltn (v := .type "str") (by kernel_rfl) (by kernel_rfl) (by kernel_rfl) (by decide) (by decide) rfl) EvsI.nil)) ClI.isi)))) EvsI.nil) ClI.sortInts) (EvI.var 1 rfl (by kernel_rfl) rfl) Op2I.addA)) ExI.nil))
  case hb =>
    intro s vs X hl
    obtain ⟨a0, rfl⟩ := len1 hl
    exact BindsTo.of_eq rfl

noncomputable def D_Collector_begin : { F // ∀ w pq lo mean mg mb, FnI (GG w pq lo mean mg mb) 5 357 F } := by
  refine' ⟨?F, fun w pq lo mean mg mb => ?_⟩
  rotate_left
  refine' FnI.fnB (d := 4) (tbl := ["self", "number", "value"]) (nm := ["self"]) (n := 1) (k := 2) (dm := []) (dv := []) ?ho ?hb ?h1 ?hc ?hx
  case ho => rfl
  case h1 => exact fun _ => rfl
  case hc => kernel_rfl
  case hx =>
    exact (ExI.cons (StI.ife (TsI.plain (EvI.attr 32 [407] rfl (ga_is_going _) (EvI.var 0 rfl (by kernel_rfl) rfl))) (ExI.cons StI.retN ExI.nil) ExI.nil) (ExI.cons (StI.setA 13 [407] rfl (gs_colours _) EvI.dct (EvI.var 0 rfl (by kernel_rfl) rfl)) (ExI.cons (StI.for (AsI.var 1 rfl (by decide) (by kernel_rfl)) (EvI.meth (EvI.attr 28 [209, 407] rfl (ga_heap _) (EvI.var 0 rfl (by kernel_rfl) rfl)) (MetI.inst (C := 566) (f := 493) 44 rfl (by kernel_rfl) (by kernel_rfl) (by kernel_rfl)) (KeepsI.K (by kernel_rfl)) EvsI.nil (ClI.fn ((D_Heap_numbers.2 w pq lo mean mg mb).less (by decide))) (fun _ => _)) (ExI.cons (StI.ife (TsI.plain (EvI.call (EvI.bltn (v := .builtin "isinstance") (by kernel_rfl) (by kernel_rfl) (by kernel_rfl) (by decide) (by decide) rfl) (KeepsI.bltn _) (EvsI.cons (EvI.var 1 rfl (by kernel_rfl) rfl) (EvsI.cons (EvI.bltn (v := .type "int") (by kernel_rfl) (by kernel_rfl) (by kernel_rfl) (by decide) (by decide) rfl) EvsI.nil)) ClI.isi)) (ExI.cons (StI.setI (EvI.gstr "white" (g_WHITE _) (by kernel_rfl) rfl) (EvI.attr 13 [407] rfl (ga_colours _) (EvI.var 0 rfl (by kernel_rfl) rfl)) (EvI.var 1 rfl (by kernel_rfl) rfl)) ExI.nil) ExI.nil) ExI.nil)) (ExI.cons (StI.setA 26 [407] rfl (gs_greys _) (EvI.lst EvsI.nil) (EvI.var 0 rfl (by kernel_rfl) rfl)) (ExI.cons (StI.setA 32 [407] rfl (gs_is_going _) EvI.cbool (EvI.var 0 rfl (by kernel_rfl) rfl)) (ExI.cons (StI.for (AsI.var 2 rfl (by decide) (by kernel_rfl)) (EvI.roots (lp := lamPar) (ls := lamScope) (p1 := lamP1) (p2 := lamP2) (dr := drawsT) 53 407 (opq_K _ _ _ _ _ _) rfl (ga_roots1 _) (by kernel_rfl) (by kernel_rfl) (by kernel_rfl) (fun _ _ _ _ => rfl) (by kernel_rfl) (by kernel_rfl) (by kernel_rfl) (EvI.var 0 rfl (by kernel_rfl) rfl) (fun _ => _)) (ExI.cons (StI.expr (EvI.meth (EvI.var 0 rfl (by kernel_rfl) rfl) (MetI.inst (C := 407) (f := 371) 60 rfl (by kernel_rfl) (by kernel_rfl) (by kernel_rfl)) (KeepsI.K (by kernel_rfl)) (EvsI.cons (EvI.var 2 rfl (by kernel_rfl) rfl) EvsI.nil) (ClI.fn ((D_Collector_shade.2 w pq lo mean mg mb).less (by decide))) (fun _ => _))) ExI.nil)) ExI.nil))))))
  case hb =>
    intro s vs X hl
    obtain ⟨a0, rfl⟩ := len1 hl
    exact BindsTo.of_eq rfl

noncomputable def D_held_values : { F // ∀ w pq lo mean mg mb, FnI (GG w pq lo mean mg mb) 1 437 F } := by
  refine' ⟨?F, fun w pq lo mean mg mb => ?_⟩
  rotate_left
  refine' FnI.fnB (d := 0) (tbl := ["kind", "content", "rows"]) (nm := ["kind", "content"]) (n := 2) (k := 1) (dm := []) (dv := []) ?ho ?hb ?h1 ?hc ?hx
  case ho => rfl
  case h1 => exact fun _ => rfl
  case hc => kernel_rfl
  case hx =>
    exact (ExI.cons (StI.ife (TsI.cmp (EvI.var 0 rfl (by kernel_rfl) rfl) EvI.cstr Op2I.eq) (ExI.cons (StI.ret (EvI.lst (EvsI.cons (EvI.var 1 rfl (by kernel_rfl) rfl) EvsI.nil))) ExI.nil) ExI.nil) (ExI.cons (StI.ife (TsI.cmp (EvI.var 0 rfl (by kernel_rfl) rfl) EvI.cstr Op2I.eq) (ExI.cons (StI.ret (EvI.call (EvI.bltn (v := .type "list") (by kernel_rfl) (by kernel_rfl) (by kernel_rfl) (by decide) (by decide) rfl) (KeepsI.type _) (EvsI.cons (EvI.var 1 rfl (by kernel_rfl) rfl) EvsI.nil) ClI.list1)) ExI.nil) ExI.nil) (ExI.cons (StI.ife (TsI.cmp (EvI.var 0 rfl (by kernel_rfl) rfl) EvI.cstr Op2I.eq) (ExI.cons (StI.ret (EvI.bin (EvI.call (EvI.bltn (v := .type "list") (by kernel_rfl) (by kernel_rfl) (by kernel_rfl) (by decide) (by decide) rfl) (KeepsI.type _) (EvsI.cons (EvI.attr 5 [296] rfl (ga_buffer _) (EvI.var 1 rfl (by kernel_rfl) rfl)) EvsI.nil) ClI.list1) (EvI.comp (t := none) (ys := []) [] (by kernel_rfl) CapsAt.nil (EvI.attr 58 [296] rfl (ga_senders _) (EvI.var 1 rfl (by kernel_rfl) rfl)) CondI.none (EvI.idx (EvI.var 0 rfl (by kernel_rfl) rfl) EvI.cint)) Op2I.addA)) ExI.nil) ExI.nil) (ExI.cons (StI.var 2 rfl (by decide) (by kernel_rfl) (EvI.ife (TsI.cmp (EvI.var 0 rfl (by kernel_rfl) rfl) EvI.cstr Op2I.eq) EvI.stuck EvI.stuck)) (ExI.cons (StI.ret EvI.stuck) ExI.nil)))))
  case hb =>
    intro s vs X hl
    obtain ⟨a0, a1, rfl⟩ := len2 hl
    exact BindsTo.of_eq rfl

noncomputable def D_Heap_values_in : { F // ∀ w pq lo mean mg mb, FnI (GG w pq lo mean mg mb) 3 500 F } := by
  refine' ⟨?F, fun w pq lo mean mg mb => ?_⟩
  rotate_left
  refine' FnI.fnB (d := 2) (tbl := ["self", "number", "kept"]) (nm := ["self", "number"]) (n := 2) (k := 1) (dm := []) (dv := []) ?ho ?hb ?h1 ?hc ?hx
  case ho => rfl
  case h1 => exact fun _ => rfl
  case hc => kernel_rfl
  case hx =>
    exact (ExI.cons (StI.var 2 rfl (by decide) (by kernel_rfl) (EvI.meth (EvI.var 0 rfl (by kernel_rfl) rfl) (MetI.inst (C := 566) (f := 474) 34 rfl (by kernel_rfl) (by kernel_rfl) (by kernel_rfl)) (KeepsI.K (by kernel_rfl)) (EvsI.cons (EvI.var 1 rfl (by kernel_rfl) rfl) EvsI.nil) (ClI.fn ((D_Heap_kept_at.2 w pq lo mean mg mb).less (by decide))) (fun _ => _))) (ExI.cons (StI.ret (EvI.call (EvI.glob (m := .gv (.ref 437)) (v := .ref 437) (by kernel_rfl) (by kernel_rfl) (vr_gv 437) rfl) (KeepsI.K (by kernel_rfl)) (EvsI.cons (EvI.attr 35 [428] rfl (ga_kind _) (EvI.var 2 rfl (by kernel_rfl) rfl)) (EvsI.cons (EvI.attr 14 [428] rfl (ga_content _) (EvI.var 2 rfl (by kernel_rfl) rfl)) EvsI.nil)) (ClI.fn ((D_held_values.2 w pq lo mean mg mb).less (by decide))))) ExI.nil))
  case hb =>
    intro s vs X hl
    obtain ⟨a0, a1, rfl⟩ := len2 hl
    exact BindsTo.of_eq rfl

noncomputable def D_Collector_step : { F // ∀ w pq lo mean mg mb, FnI (GG w pq lo mean mg mb) 5 378 F } := by
  refine' ⟨?F, fun w pq lo mean mg mb => ?_⟩
  rotate_left
  refine' FnI.fnB (d := 4) (tbl := ["self", "many", "turn", "number", "value"]) (nm := ["self", "many"]) (n := 2) (k := 3) (dm := []) (dv := []) ?ho ?hb ?h1 ?hc ?hx
  case ho => rfl
  case h1 => exact fun _ => rfl
  case hc => kernel_rfl
  case hx =>
    exact (ExI.cons (StI.for (AsI.var 2 rfl (by decide) (by kernel_rfl)) (EvI.call (EvI.bltn (v := .type "range") (by kernel_rfl) (by kernel_rfl) (by kernel_rfl) (by decide) (by decide) rfl) (KeepsI.type _) (EvsI.cons (EvI.var 1 rfl (by kernel_rfl) rfl) EvsI.nil) ClI.range) (ExI.cons (StI.ife (TsI.cmp (EvI.attr 26 [407] rfl (ga_greys _) (EvI.var 0 rfl (by kernel_rfl) rfl)) (EvI.lst EvsI.nil) Op2I.eq) (ExI.cons (StI.ret EvI.cbool) ExI.nil) ExI.nil) (ExI.cons (StI.var 3 rfl (by decide) (by kernel_rfl) (EvI.meth (EvI.attr 26 [407] rfl (ga_greys _) (EvI.var 0 rfl (by kernel_rfl) rfl)) (MetI.lst F.slot_list_pop F.type_list_pop) (KeepsI.bltn _) EvsI.nil ClI.pop (fun _ => _))) (ExI.cons (StI.setI (EvI.gstr "black" (g_BLACK _) (by kernel_rfl) rfl) (EvI.attr 13 [407] rfl (ga_colours _) (EvI.var 0 rfl (by kernel_rfl) rfl)) (EvI.var 3 rfl (by kernel_rfl) rfl)) (ExI.cons (StI.for (AsI.var 4 rfl (by decide) (by kernel_rfl)) (EvI.meth (EvI.attr 28 [209, 407] rfl (ga_heap _) (EvI.var 0 rfl (by kernel_rfl) rfl)) (MetI.inst (C := 566) (f := 500) 68 rfl (by kernel_rfl) (by kernel_rfl) (by kernel_rfl)) (KeepsI.K (by kernel_rfl)) (EvsI.cons (EvI.var 3 rfl (by kernel_rfl) rfl) EvsI.nil) (ClI.fn ((D_Heap_values_in.2 w pq lo mean mg mb).less (by decide))) (fun _ => _)) (ExI.cons (StI.expr (EvI.meth (EvI.var 0 rfl (by kernel_rfl) rfl) (MetI.inst (C := 407) (f := 371) 60 rfl (by kernel_rfl) (by kernel_rfl) (by kernel_rfl)) (KeepsI.K (by kernel_rfl)) (EvsI.cons (EvI.var 4 rfl (by kernel_rfl) rfl) EvsI.nil) (ClI.fn ((D_Collector_shade.2 w pq lo mean mg mb).less (by decide))) (fun _ => _))) ExI.nil)) ExI.nil))))) (ExI.cons (StI.ret (EvI.cmp (EvI.attr 26 [407] rfl (ga_greys _) (EvI.var 0 rfl (by kernel_rfl) rfl)) (EvI.lst EvsI.nil) Op2I.eq)) ExI.nil))
  case hb =>
    intro s vs X hl
    obtain ⟨a0, a1, rfl⟩ := len2 hl
    exact BindsTo.of_eq rfl

noncomputable def D_Collector_made : { F // ∀ w pq lo mean mg mb, FnI (GG w pq lo mean mg mb) 1 392 F } := by
  refine' ⟨?F, fun w pq lo mean mg mb => ?_⟩
  rotate_left
  refine' FnI.fnB (d := 0) (tbl := ["self", "number"]) (nm := ["self", "number"]) (n := 2) (k := 0) (dm := []) (dv := []) ?ho ?hb ?h1 ?hc ?hx
  case ho => rfl
  case h1 => exact fun _ => rfl
  case hc => kernel_rfl
  case hx =>
    exact (ExI.cons (StI.ife (TsI.plain (EvI.attr 32 [407] rfl (ga_is_going _) (EvI.var 0 rfl (by kernel_rfl) rfl))) (ExI.cons (StI.setI (EvI.gstr "black" (g_BLACK _) (by kernel_rfl) rfl) (EvI.attr 13 [407] rfl (ga_colours _) (EvI.var 0 rfl (by kernel_rfl) rfl)) (EvI.var 1 rfl (by kernel_rfl) rfl)) ExI.nil) ExI.nil) ExI.nil)
  case hb =>
    intro s vs X hl
    obtain ⟨a0, a1, rfl⟩ := len2 hl
    exact BindsTo.of_eq rfl

noncomputable def D_Collector_gone : { F // ∀ w pq lo mean mg mb, FnI (GG w pq lo mean mg mb) 5 399 F } := by
  refine' ⟨?F, fun w pq lo mean mg mb => ?_⟩
  rotate_left
  refine' FnI.fnB (d := 4) (tbl := ["self", "number", "value"]) (nm := ["self", "number"]) (n := 2) (k := 1) (dm := []) (dv := []) ?ho ?hb ?h1 ?hc ?hx
  case ho => rfl
  case h1 => exact fun _ => rfl
  case hc => kernel_rfl
  case hx =>
    exact (ExI.cons (StI.ife (TsI.or (TsI.not (TsI.plain (EvI.attr 32 [407] rfl (ga_is_going _) (EvI.var 0 rfl (by kernel_rfl) rfl)))) (TsI.cmp (EvI.var 1 rfl (by kernel_rfl) rfl) (EvI.attr 13 [407] rfl (ga_colours _) (EvI.var 0 rfl (by kernel_rfl) rfl)) (Op2I.notInD (by kernel_rfl)))) (ExI.cons StI.retN ExI.nil) ExI.nil) (ExI.cons (StI.ife (TsI.cmp (EvI.idx (EvI.attr 13 [407] rfl (ga_colours _) (EvI.var 0 rfl (by kernel_rfl) rfl)) (EvI.var 1 rfl (by kernel_rfl) rfl)) (EvI.gstr "black" (g_BLACK _) (by kernel_rfl) rfl) Op2I.ne) (ExI.cons (StI.for (AsI.var 2 rfl (by decide) (by kernel_rfl)) (EvI.meth (EvI.attr 28 [209, 407] rfl (ga_heap _) (EvI.var 0 rfl (by kernel_rfl) rfl)) (MetI.inst (C := 566) (f := 500) 68 rfl (by kernel_rfl) (by kernel_rfl) (by kernel_rfl)) (KeepsI.K (by kernel_rfl)) (EvsI.cons (EvI.var 1 rfl (by kernel_rfl) rfl) EvsI.nil) (ClI.fn ((D_Heap_values_in.2 w pq lo mean mg mb).less (by decide))) (fun _ => _)) (ExI.cons (StI.expr (EvI.meth (EvI.var 0 rfl (by kernel_rfl) rfl) (MetI.inst (C := 407) (f := 371) 60 rfl (by kernel_rfl) (by kernel_rfl) (by kernel_rfl)) (KeepsI.K (by kernel_rfl)) (EvsI.cons (EvI.var 2 rfl (by kernel_rfl) rfl) EvsI.nil) (ClI.fn ((D_Collector_shade.2 w pq lo mean mg mb).less (by decide))) (fun _ => _))) ExI.nil)) ExI.nil) ExI.nil) (ExI.cons (StI.ife (TsI.cmp (EvI.var 1 rfl (by kernel_rfl) rfl) (EvI.attr 26 [407] rfl (ga_greys _) (EvI.var 0 rfl (by kernel_rfl) rfl)) Op2I.in) (ExI.cons (StI.expr EvI.stuck) ExI.nil) ExI.nil) (ExI.cons (StI.expr (EvI.meth (EvI.attr 13 [407] rfl (ga_colours _) (EvI.var 0 rfl (by kernel_rfl) rfl)) (MetI.dct F.slot_dict_pop F.type_dict_pop) (KeepsI.bltn _) (EvsI.cons (EvI.var 1 rfl (by kernel_rfl) rfl) EvsI.nil) (ClI.dpop (fun _ _ => F.args_dict_pop_2 _ _)) (fun _ => _))) ExI.nil))))
  case hb =>
    intro s vs X hl
    obtain ⟨a0, a1, rfl⟩ := len2 hl
    exact BindsTo.of_eq rfl

noncomputable def D_Heap_free : { F // ∀ w pq lo mean mg mb, FnI (GG w pq lo mean mg mb) 7 507 F } := by
  refine' ⟨?F, fun w pq lo mean mg mb => ?_⟩
  rotate_left
  refine' FnI.fnB (d := 6) (tbl := ["self", "numbers", "number"]) (nm := ["self", "numbers"]) (n := 2) (k := 1) (dm := []) (dv := []) ?ho ?hb ?h1 ?hc ?hx
  case ho => rfl
  case h1 => exact fun _ => rfl
  case hc => kernel_rfl
  case hx =>
    exact (ExI.cons (StI.for (AsI.var 2 rfl (by decide) (by kernel_rfl)) (EvI.var 1 rfl (by kernel_rfl) rfl) (ExI.cons (StI.ife (TsI.cmp (EvI.var 2 rfl (by kernel_rfl) rfl) (EvI.attr 33 [566] rfl (ga_kept _) (EvI.var 0 rfl (by kernel_rfl) rfl)) (Op2I.inD (by kernel_rfl))) (ExI.cons (StI.ife (TsI.cmp (EvI.attr 12 [566] rfl (ga_collector _) (EvI.var 0 rfl (by kernel_rfl) rfl)) EvI.cnone Op2I.notNone) (ExI.cons (StI.expr (EvI.meth (EvI.attr 12 [566] rfl (ga_collector _) (EvI.var 0 rfl (by kernel_rfl) rfl)) (MetI.inst (C := 407) (f := 399) 25 rfl (by kernel_rfl) (by kernel_rfl) (by kernel_rfl)) (KeepsI.K (by kernel_rfl)) (EvsI.cons (EvI.var 2 rfl (by kernel_rfl) rfl) EvsI.nil) (ClI.fn ((D_Collector_gone.2 w pq lo mean mg mb).less (by decide))) (fun _ => _))) ExI.nil) ExI.nil) (ExI.cons (StI.expr (EvI.meth (EvI.attr 33 [566] rfl (ga_kept _) (EvI.var 0 rfl (by kernel_rfl) rfl)) (MetI.dct F.slot_dict_pop F.type_dict_pop) (KeepsI.bltn _) (EvsI.cons (EvI.var 2 rfl (by kernel_rfl) rfl) EvsI.nil) (ClI.dpop (fun _ _ => F.args_dict_pop_2 _ _)) (fun _ => _))) ExI.nil)) ExI.nil) ExI.nil)) ExI.nil)
  case hb =>
    intro s vs X hl
    obtain ⟨a0, a1, rfl⟩ := len2 hl
    exact BindsTo.of_eq rfl

noncomputable def D_Collector_finish : { F // ∀ w pq lo mean mg mb, FnI (GG w pq lo mean mg mb) 9 404 F } := by
  refine' ⟨?F, fun w pq lo mean mg mb => ?_⟩
  rotate_left
  refine' FnI.fnC (d := 8) (tbl := ["self", "freed"]) (nm := ["self"]) (n := 1) (k := 1) (dm := []) (dv := []) [0] ?ho ?hcd ?hb ?h1 ?h2 ?h3 ?h4 ?h5 ?h6 ?h7 ?h8 ?h9 ?h10 ?h11 ?h12 ?h13 ?hx
  case ho => rfl
  case hcd => kernel_rfl
  case h1 => exact fun _ => rfl
  case h2 => rfl
  case h3 => rfl
  case h4 => rfl
  case h5 => decide
  case h6 => kernel_rfl
  case h7 => kernel_rfl
  case h8 => kernel_rfl
  case h9 => exact nodup_of (m := ["self"]) (by kernel_rfl) (by decide)
  case h10 => kernel_rfl
  case h11 => kernel_rfl
  case h12 => kernel_rfl
  case h13 => kernel_rfl
  case hx =>
    exact (ExI.cons (StI.ife (TsI.not (TsI.plain (EvI.attr 32 [407] rfl (ga_is_going _) (EvI.cvar 0 rfl (by kernel_rfl) rfl rfl)))) (ExI.cons (StI.ret (EvI.lst EvsI.nil)) ExI.nil) ExI.nil) (ExI.cons (StI.while 60 (TsI.cmp (EvI.attr 26 [407] rfl (ga_greys _) (EvI.cvar 0 rfl (by kernel_rfl) rfl rfl)) (EvI.lst EvsI.nil) Op2I.ne) (ExI.cons (StI.expr (EvI.meth (EvI.cvar 0 rfl (by kernel_rfl) rfl rfl) (MetI.inst (C := 407) (f := 378) 63 rfl (by kernel_rfl) (by kernel_rfl) (by kernel_rfl)) (KeepsI.K (by kernel_rfl)) (EvsI.cons (EvI.call (EvI.bltn (v := .builtin "len") (by kernel_rfl) (by kernel_rfl) (by kernel_rfl) (by decide) (by decide) rfl) (KeepsI.bltn _) (EvsI.cons (EvI.attr 26 [407] rfl (ga_greys _) (EvI.cvar 0 rfl (by kernel_rfl) rfl rfl)) EvsI.nil) ClI.len) EvsI.nil) (ClI.fn ((D_Collector_step.2 w pq lo mean mg mb).less (by decide))) (fun _ => _))) ExI.nil)) (ExI.cons (StI.compVar 1 rfl (by decide) (by kernel_rfl) (t := (some _)) (ys := ["self"]) [0] (by kernel_rfl) (CapsAt.cons rfl (by kernel_rfl) CapsAt.nil) (EvI.call (EvI.bltn (v := .builtin "sorted") (by kernel_rfl) (by kernel_rfl) (by kernel_rfl) (by decide) (by decide) rfl) (KeepsI.bltn _) (EvsI.cons (EvI.attr 13 [407] rfl (ga_colours _) (EvI.cvar 0 rfl (by kernel_rfl) rfl rfl)) EvsI.nil) (ClI.sortKeys (by kernel_rfl))) (CondI.one (TsI.cmp (EvI.idx (EvI.attr 13 [407] rfl (ga_colours _) (EvI.cvar 1 rfl (by kernel_rfl) rfl rfl)) (EvI.var 0 rfl (by kernel_rfl) rfl)) (EvI.gstr "white" (g_WHITE _) (by kernel_rfl) rfl) Op2I.eq)) (EvI.var 0 rfl (by kernel_rfl) rfl) (by intro env h; obtain ⟨sc1, _, _, _, _, _, _, _, _⟩ := env; dsimp only at h; subst h; kernel_rfl)) (ExI.cons (StI.setA 32 [407] rfl (gs_is_going _) EvI.cbool (EvI.cvar 0 rfl (by kernel_rfl) rfl rfl)) (ExI.cons (StI.setA 13 [407] rfl (gs_colours _) EvI.dct (EvI.cvar 0 rfl (by kernel_rfl) rfl rfl)) (ExI.cons (StI.expr (EvI.meth (EvI.attr 28 [209, 407] rfl (ga_heap _) (EvI.cvar 0 rfl (by kernel_rfl) rfl rfl)) (MetI.inst (C := 566) (f := 507) 21 rfl (by kernel_rfl) (by kernel_rfl) (by kernel_rfl)) (KeepsI.K (by kernel_rfl)) (EvsI.cons (EvI.var 1 rfl (by kernel_rfl) rfl) EvsI.nil) (ClI.fn ((D_Heap_free.2 w pq lo mean mg mb).less (by decide))) (fun _ => _))) (ExI.cons (StI.setA 54 [407] rfl (gs_rounds _) (EvI.bin (EvI.attr 54 [407] rfl (ga_rounds _) (EvI.cvar 0 rfl (by kernel_rfl) rfl rfl)) EvI.cint Op2I.addA) (EvI.cvar 0 rfl (by kernel_rfl) rfl rfl)) (ExI.cons (StI.ret (EvI.var 1 rfl (by kernel_rfl) rfl)) ExI.nil))))))))
  case hb =>
    intro s vs X hl
    obtain ⟨a0, rfl⟩ := len1 hl
    exact BindsTo.of_eq rfl

noncomputable def D_Kept___init__ : { F // ∀ w pq lo mean mg mb, FnI (GG w pq lo mean mg mb) 1 425 F } := by
  refine' ⟨?F, fun w pq lo mean mg mb => ?_⟩
  rotate_left
  refine' FnI.fnB (d := 0) (tbl := ["self", "kind", "content", "where"]) (nm := ["self", "kind", "content", "where"]) (n := 4) (k := 0) (dm := []) (dv := []) ?ho ?hb ?h1 ?hc ?hx
  case ho => rfl
  case h1 => exact fun _ => rfl
  case hc => kernel_rfl
  case hx =>
    exact (ExI.cons (StI.setA 35 [428] rfl (gs_kind _) (EvI.var 1 rfl (by kernel_rfl) rfl) (EvI.var 0 rfl (by kernel_rfl) rfl)) (ExI.cons (StI.setA 14 [428] rfl (gs_content _) (EvI.var 2 rfl (by kernel_rfl) rfl) (EvI.var 0 rfl (by kernel_rfl) rfl)) (ExI.cons (StI.setA 73 [428] rfl (gs_where _) (EvI.var 3 rfl (by kernel_rfl) rfl) (EvI.var 0 rfl (by kernel_rfl) rfl)) ExI.nil)))
  case hb =>
    intro s vs X hl
    obtain ⟨a0, a1, a2, a3, rfl⟩ := len4 hl
    exact BindsTo.of_eq rfl

noncomputable def D_Heap___init__ : { F // ∀ w pq lo mean mg mb, FnI (GG w pq lo mean mg mb) 1 452 F } := by
  refine' ⟨?F, fun w pq lo mean mg mb => ?_⟩
  rotate_left
  refine' FnI.fnB (d := 0) (tbl := ["self", "watch"]) (nm := ["self", "watch"]) (n := 1) (k := 0) (dm := [.none]) (dv := [.none]) ?ho ?hb ?h1 ?hc ?hx
  case ho => rfl
  case h1 => exact fun _ => ⟨_, _, rfl, rfl, rfl⟩
  case hc => kernel_rfl
  case hx =>
    exact (ExI.cons (StI.setA 33 [566] rfl (gs_kept _) EvI.dct (EvI.var 0 rfl (by kernel_rfl) rfl)) (ExI.cons (StI.setA 23 [209, 566] rfl (gs_given _) EvI.cint (EvI.var 0 rfl (by kernel_rfl) rfl)) (ExI.cons (StI.setA 30 [566, 1027] rfl (gs_here _) EvI.cint (EvI.var 0 rfl (by kernel_rfl) rfl)) (ExI.cons (StI.setA 72 [209, 566] rfl (gs_watch _) (EvI.var 1 rfl (by kernel_rfl) rfl) (EvI.var 0 rfl (by kernel_rfl) rfl)) (ExI.cons (StI.setA 12 [566] rfl (gs_collector _) EvI.cnone (EvI.var 0 rfl (by kernel_rfl) rfl)) ExI.nil)))))
  case hb =>
    intro s vs X hl
    obtain ⟨a0, rfl⟩ := len1 hl
    exact binds_K X rfl rfl rfl rfl rfl

noncomputable def D_Heap_make : { F // ∀ w pq lo mean mg mb, FnI (GG w pq lo mean mg mb) 3 460 F } := by
  refine' ⟨?F, fun w pq lo mean mg mb => ?_⟩
  rotate_left
  refine' FnI.fnB (d := 2) (tbl := ["self", "kind", "content", "where"]) (nm := ["self", "kind", "content", "where"]) (n := 3) (k := 0) (dm := [.str "heap"]) (dv := [.str "heap" 822]) ?ho ?hb ?h1 ?hc ?hx
  case ho => rfl
  case h1 => exact fun _ => ⟨_, _, rfl, ⟨_, rfl⟩, rfl⟩
  case hc => kernel_rfl
  case hx =>
    exact (ExI.cons (StI.aug 23 [209, 566] rfl (ga_given _) (gs_given _) (EvI.var 0 rfl (by kernel_rfl) rfl) EvI.cint) (ExI.cons (StI.setI (EvI.call (EvI.glob (m := .gv (.ref 428)) (v := .ref 428) (by kernel_rfl) (by kernel_rfl) (vr_gv 428) rfl) (KeepsI.K (by kernel_rfl)) (EvsI.cons (EvI.var 1 rfl (by kernel_rfl) rfl) (EvsI.cons (EvI.var 2 rfl (by kernel_rfl) rfl) (EvsI.cons (EvI.var 3 rfl (by kernel_rfl) rfl) EvsI.nil))) (ClI.cls (fI := 425) (by kernel_rfl) (by kernel_rfl) (by kernel_rfl) ((D_Kept___init__.2 w pq lo mean mg mb).less (by decide)))) (EvI.attr 33 [566] rfl (ga_kept _) (EvI.var 0 rfl (by kernel_rfl) rfl)) (EvI.attr 23 [209, 566] rfl (ga_given _) (EvI.var 0 rfl (by kernel_rfl) rfl))) (ExI.cons (StI.ife (TsI.cmp (EvI.attr 12 [566] rfl (ga_collector _) (EvI.var 0 rfl (by kernel_rfl) rfl)) EvI.cnone Op2I.notNone) (ExI.cons (StI.expr (EvI.meth (EvI.attr 12 [566] rfl (ga_collector _) (EvI.var 0 rfl (by kernel_rfl) rfl)) (MetI.inst (C := 407) (f := 392) 40 rfl (by kernel_rfl) (by kernel_rfl) (by kernel_rfl)) (KeepsI.K (by kernel_rfl)) (EvsI.cons (EvI.attr 23 [209, 566] rfl (ga_given _) (EvI.var 0 rfl (by kernel_rfl) rfl)) EvsI.nil) (ClI.fn ((D_Collector_made.2 w pq lo mean mg mb).less (by decide))) (fun _ => _))) ExI.nil) ExI.nil) (ExI.cons (StI.ret (EvI.attr 23 [209, 566] rfl (ga_given _) (EvI.var 0 rfl (by kernel_rfl) rfl))) ExI.nil))))
  case hb =>
    intro s vs X hl
    obtain ⟨a0, a1, a2, rfl⟩ := len3 hl
    exact binds_K X rfl rfl rfl rfl rfl

noncomputable def D_Goroutine___init__ : { F // ∀ w pq lo mean mg mb, FnI (GG w pq lo mean mg mb) 1 932 F } := by
  refine' ⟨?F, fun w pq lo mean mg mb => ?_⟩
  rotate_left
  refine' FnI.fnB (d := 0) (tbl := ["self", "number"]) (nm := ["self", "number"]) (n := 2) (k := 0) (dm := []) (dv := []) ?ho ?hb ?h1 ?hc ?hx
  case ho => rfl
  case h1 => exact fun _ => rfl
  case hc => kernel_rfl
  case hx =>
    exact (ExI.cons (StI.setA 43 [935] rfl (gs_number _) (EvI.var 1 rfl (by kernel_rfl) rfl) (EvI.var 0 rfl (by kernel_rfl) rfl)) (ExI.cons (StI.setA 62 [935] rfl (gs_state _) (EvI.gstr "ready" (g_READY _) (by kernel_rfl) rfl) (EvI.var 0 rfl (by kernel_rfl) rfl)) (ExI.cons (StI.setA 71 [935] rfl (gs_waits_for _) EvI.cnone (EvI.var 0 rfl (by kernel_rfl) rfl)) (ExI.cons (StI.setA 20 [935] rfl (gs_frames _) (EvI.lst EvsI.nil) (EvI.var 0 rfl (by kernel_rfl) rfl)) (ExI.cons (StI.setA 2 [935] rfl (gs_answer _) EvI.cnone (EvI.var 0 rfl (by kernel_rfl) rfl)) ExI.nil)))))
  case hb =>
    intro s vs X hl
    obtain ⟨a0, a1, rfl⟩ := len2 hl
    exact BindsTo.of_eq rfl

noncomputable def D_Scheduler___init__ : { F // ∀ w pq lo mean mg mb, FnI (GG w pq lo mean mg mb) 1 953 F } := by
  refine' ⟨?F, fun w pq lo mean mg mb => ?_⟩
  rotate_left
  refine' FnI.fnB (d := 0) (tbl := ["self", "choices"]) (nm := ["self", "choices"]) (n := 2) (k := 0) (dm := []) (dv := []) ?ho ?hb ?h1 ?hc ?hx
  case ho => rfl
  case h1 => exact fun _ => rfl
  case hc => kernel_rfl
  case hx =>
    exact (ExI.cons (StI.setA 7 [1027] rfl (gs_choices _) (EvI.var 1 rfl (by kernel_rfl) rfl) (EvI.var 0 rfl (by kernel_rfl) rfl)) (ExI.cons (StI.setA 1 [1027] rfl (gs_all _) (EvI.lst EvsI.nil) (EvI.var 0 rfl (by kernel_rfl) rfl)) (ExI.cons (StI.setA 30 [566, 1027] rfl (gs_here _) EvI.cnone (EvI.var 0 rfl (by kernel_rfl) rfl)) ExI.nil)))
  case hb =>
    intro s vs X hl
    obtain ⟨a0, a1, rfl⟩ := len2 hl
    exact BindsTo.of_eq rfl

noncomputable def D_Scheduler_spawn : { F // ∀ w pq lo mean mg mb, FnI (GG w pq lo mean mg mb) 3 960 F } := by
  refine' ⟨?F, fun w pq lo mean mg mb => ?_⟩
  rotate_left
  refine' FnI.fnB (d := 2) (tbl := ["self", "found"]) (nm := ["self"]) (n := 1) (k := 1) (dm := []) (dv := []) ?ho ?hb ?h1 ?hc ?hx
  case ho => rfl
  case h1 => exact fun _ => rfl
  case hc => kernel_rfl
  case hx =>
    exact (ExI.cons (StI.var 1 rfl (by decide) (by kernel_rfl) (EvI.call (EvI.glob (m := .gv (.ref 935)) (v := .ref 935) (by kernel_rfl) (by kernel_rfl) (vr_gv 935) rfl) (KeepsI.K (by kernel_rfl)) (EvsI.cons (EvI.call (EvI.bltn (v := .builtin "len") (by kernel_rfl) (by kernel_rfl) (by kernel_rfl) (by decide) (by decide) rfl) (KeepsI.bltn _) (EvsI.cons (EvI.attr 1 [1027] rfl (ga_all _) (EvI.var 0 rfl (by kernel_rfl) rfl)) EvsI.nil) ClI.len) EvsI.nil) (ClI.cls (fI := 932) (by kernel_rfl) (by kernel_rfl) (by kernel_rfl) ((D_Goroutine___init__.2 w pq lo mean mg mb).less (by decide))))) (ExI.cons (StI.expr (EvI.meth (EvI.attr 1 [1027] rfl (ga_all _) (EvI.var 0 rfl (by kernel_rfl) rfl)) (MetI.lst F.slot_list_append F.type_list_append) (KeepsI.bltn _) (EvsI.cons (EvI.var 1 rfl (by kernel_rfl) rfl) EvsI.nil) ClI.append (fun _ => _))) (ExI.cons (StI.ife (TsI.cmp (EvI.attr 30 [566, 1027] rfl (ga_here _) (EvI.var 0 rfl (by kernel_rfl) rfl)) EvI.cnone Op2I.isNone) (ExI.cons (StI.setA 30 [566, 1027] rfl (gs_here _) (EvI.var 1 rfl (by kernel_rfl) rfl) (EvI.var 0 rfl (by kernel_rfl) rfl)) ExI.nil) ExI.nil) (ExI.cons (StI.ret (EvI.var 1 rfl (by kernel_rfl) rfl)) ExI.nil))))
  case hb =>
    intro s vs X hl
    obtain ⟨a0, rfl⟩ := len1 hl
    exact BindsTo.of_eq rfl

end
end Mine
end

section
open PySem PySem.W PySem.Calls PyProof.Rows
set_option maxRecDepth 100000
set_option maxHeartbeats 0
namespace Mine
noncomputable section

noncomputable def D_PlainChannel___init__ : { F // ∀ w pq lo mean mg mb, FnI (GG w pq lo mean mg mb) 1 584 F } := by
  refine' ⟨?F, fun w pq lo mean mg mb => ?_⟩
  rotate_left
  refine' FnI.fnB (d := 0) (tbl := ["self", "room"]) (nm := ["self", "room"]) (n := 2) (k := 0) (dm := []) (dv := []) ?ho ?hb ?h1 ?hc ?hx
  case ho => rfl
  case h1 => exact fun _ => rfl
  case hc => kernel_rfl
  case hx =>
    exact (ExI.cons (StI.setA 52 [296, 587, 760] rfl (gs_room _) (EvI.var 1 rfl (by kernel_rfl) rfl) (EvI.var 0 rfl (by kernel_rfl) rfl)) (ExI.cons (StI.setA 29 [587] rfl (gs_held _) (EvI.lst EvsI.nil) (EvI.var 0 rfl (by kernel_rfl) rfl)) (ExI.cons (StI.setA 31 [587] rfl (gs_is_closed _) EvI.cbool (EvI.var 0 rfl (by kernel_rfl) rfl)) ExI.nil)))
  case hb =>
    intro s vs X hl
    obtain ⟨a0, a1, rfl⟩ := len2 hl
    exact BindsTo.of_eq rfl

noncomputable def D_PlainChannels___init__ : { F // ∀ w pq lo mean mg mb, FnI (GG w pq lo mean mg mb) 1 605 F } := by
  refine' ⟨?F, fun w pq lo mean mg mb => ?_⟩
  rotate_left
  refine' FnI.fnB (d := 0) (tbl := ["self"]) (nm := ["self"]) (n := 1) (k := 0) (dm := []) (dv := []) ?ho ?hb ?h1 ?hc ?hx
  case ho => rfl
  case h1 => exact fun _ => rfl
  case hc => kernel_rfl
  case hx =>
    exact (ExI.cons (StI.setA 6 [704] rfl (gs_channels _) (EvI.lst EvsI.nil) (EvI.var 0 rfl (by kernel_rfl) rfl)) (ExI.cons (StI.setA 70 [209, 704] rfl (gs_waiting _) (EvI.lst EvsI.nil) (EvI.var 0 rfl (by kernel_rfl) rfl)) ExI.nil))
  case hb =>
    intro s vs X hl
    obtain ⟨a0, rfl⟩ := len1 hl
    exact BindsTo.of_eq rfl

noncomputable def D_PlainChannels_make_one : { F // ∀ w pq lo mean mg mb, FnI (GG w pq lo mean mg mb) 3 612 F } := by
  refine' ⟨?F, fun w pq lo mean mg mb => ?_⟩
  rotate_left
  refine' FnI.fnB (d := 2) (tbl := ["self", "room"]) (nm := ["self", "room"]) (n := 2) (k := 0) (dm := []) (dv := []) ?ho ?hb ?h1 ?hc ?hx
  case ho => rfl
  case h1 => exact fun _ => rfl
  case hc => kernel_rfl
  case hx =>
    exact (ExI.cons (StI.expr (EvI.meth (EvI.attr 6 [704] rfl (ga_channels _) (EvI.var 0 rfl (by kernel_rfl) rfl)) (MetI.lst F.slot_list_append F.type_list_append) (KeepsI.bltn _) (EvsI.cons (EvI.call (EvI.glob (m := .gv (.ref 587)) (v := .ref 587) (by kernel_rfl) (by kernel_rfl) (vr_gv 587) rfl) (KeepsI.K (by kernel_rfl)) (EvsI.cons (EvI.var 1 rfl (by kernel_rfl) rfl) EvsI.nil) (ClI.cls (fI := 584) (by kernel_rfl) (by kernel_rfl) (by kernel_rfl) ((D_PlainChannel___init__.2 w pq lo mean mg mb).less (by decide)))) EvsI.nil) ClI.append (fun _ => _))) (ExI.cons (StI.ret (EvI.bin (EvI.call (EvI.bltn (v := .builtin "len") (by kernel_rfl) (by kernel_rfl) (by kernel_rfl) (by decide) (by decide) rfl) (KeepsI.bltn _) (EvsI.cons (EvI.attr 6 [704] rfl (ga_channels _) (EvI.var 0 rfl (by kernel_rfl) rfl)) EvsI.nil) ClI.len) EvI.cint Op2I.sub)) ExI.nil))
  case hb =>
    intro s vs X hl
    obtain ⟨a0, a1, rfl⟩ := len2 hl
    exact BindsTo.of_eq rfl

noncomputable def D_PlainChannels_first_waiting : { F // ∀ w pq lo mean mg mb, FnI (GG w pq lo mean mg mb) 1 633 F } := by
  refine' ⟨?F, fun w pq lo mean mg mb => ?_⟩
  rotate_left
  refine' FnI.fnB (d := 0) (tbl := ["self", "kind", "number", "deed"]) (nm := ["self", "kind", "number"]) (n := 3) (k := 1) (dm := []) (dv := []) ?ho ?hb ?h1 ?hc ?hx
  case ho => rfl
  case h1 => exact fun _ => rfl
  case hc => kernel_rfl
  case hx =>
    exact (ExI.cons (StI.for (AsI.var 3 rfl (by decide) (by kernel_rfl)) (EvI.attr 70 [209, 704] rfl (ga_waiting _) (EvI.var 0 rfl (by kernel_rfl) rfl)) (ExI.cons (StI.ife (TsI.and (TsI.cmp (EvI.idx (EvI.var 3 rfl (by kernel_rfl) rfl) EvI.cint) (EvI.var 1 rfl (by kernel_rfl) rfl) Op2I.eq) (TsI.cmp (EvI.idx (EvI.var 3 rfl (by kernel_rfl) rfl) EvI.cint) (EvI.var 2 rfl (by kernel_rfl) rfl) Op2I.eq)) (ExI.cons (StI.ret (EvI.var 3 rfl (by kernel_rfl) rfl)) ExI.nil) ExI.nil) ExI.nil)) (ExI.cons (StI.ret EvI.cnone) ExI.nil))
  case hb =>
    intro s vs X hl
    obtain ⟨a0, a1, a2, rfl⟩ := len3 hl
    exact BindsTo.of_eq rfl

noncomputable def D_PlainChannels_let_go : { F // ∀ w pq lo mean mg mb, FnI (GG w pq lo mean mg mb) 1 638 F } := by
  refine' ⟨?F, fun w pq lo mean mg mb => ?_⟩
  rotate_left
  refine' FnI.fnC (d := 0) (tbl := ["self", "goroutine"]) (nm := ["self", "goroutine"]) (n := 2) (k := 0) (dm := []) (dv := []) [1] ?ho ?hcd ?hb ?h1 ?h2 ?h3 ?h4 ?h5 ?h6 ?h7 ?h8 ?h9 ?h10 ?h11 ?h12 ?h13 ?hx
  case ho => rfl
  case hcd => kernel_rfl
  case h1 => exact fun _ => rfl
  case h2 => rfl
  case h3 => rfl
  case h4 => rfl
  case h5 => decide
  case h6 => kernel_rfl
  case h7 => kernel_rfl
  case h8 => kernel_rfl
  case h9 => exact nodup_of (m := ["goroutine"]) (by kernel_rfl) (by decide)
  case h10 => kernel_rfl
  case h11 => kernel_rfl
  case h12 => kernel_rfl
  case h13 => kernel_rfl
  case hx =>
    exact (ExI.cons (StI.setA 70 [209, 704] rfl (gs_waiting _) (EvI.comp (t := (some _)) (ys := ["goroutine"]) [1] (by kernel_rfl) (CapsAt.cons rfl (by kernel_rfl) CapsAt.nil) (EvI.attr 70 [209, 704] rfl (ga_waiting _) (EvI.var 0 rfl (by kernel_rfl) rfl)) (CondI.one (TsI.cmp (EvI.idx (EvI.var 0 rfl (by kernel_rfl) rfl) EvI.cint) (EvI.cvar 1 rfl (by kernel_rfl) rfl rfl) Op2I.ne)) (EvI.var 0 rfl (by kernel_rfl) rfl)) (EvI.var 0 rfl (by kernel_rfl) rfl)) ExI.nil)
  case hb =>
    intro s vs X hl
    obtain ⟨a0, a1, rfl⟩ := len2 hl
    exact BindsTo.of_eq rfl

noncomputable def D_PlainChannels_ended : { F // ∀ w pq lo mean mg mb, FnI (GG w pq lo mean mg mb) 3 694 F } := by
  refine' ⟨?F, fun w pq lo mean mg mb => ?_⟩
  rotate_left
  refine' FnI.fnB (d := 2) (tbl := ["self", "kind", "number", "told", "found", "deed"]) (nm := ["self", "kind", "number", "told"]) (n := 4) (k := 2) (dm := []) (dv := []) ?ho ?hb ?h1 ?hc ?hx
  case ho => rfl
  case h1 => exact fun _ => rfl
  case hc => kernel_rfl
  case hx =>
    exact (ExI.cons (StI.swp (xs := ["found", "deed"]) [4, 5] (NamesAt.cons rfl (by kernel_rfl) (NamesAt.cons rfl (by kernel_rfl) NamesAt.nil)) (by decide) (EvI.tup (EvsI.cons (EvI.lst EvsI.nil) (EvsI.cons (EvI.meth (EvI.var 0 rfl (by kernel_rfl) rfl) (MetI.inst (C := 704) (f := 633) 18 rfl (by kernel_rfl) (by kernel_rfl) (by kernel_rfl)) (KeepsI.K (by kernel_rfl)) (EvsI.cons (EvI.var 1 rfl (by kernel_rfl) rfl) (EvsI.cons (EvI.var 2 rfl (by kernel_rfl) rfl) EvsI.nil)) (ClI.fn ((D_PlainChannels_first_waiting.2 w pq lo mean mg mb).less (by decide))) (fun _ => _)) EvsI.nil))) (h2 := by intro env h; obtain ⟨sc1, _, _, _, _, _, _, _, _⟩ := env; dsimp only at h; subst h; kernel_rfl)) (ExI.cons (StI.while 60 (TsI.cmp (EvI.var 5 rfl (by kernel_rfl) rfl) EvI.cnone Op2I.notNone) (ExI.cons (StI.expr (EvI.meth (EvI.var 4 rfl (by kernel_rfl) rfl) (MetI.lst F.slot_list_append F.type_list_append) (KeepsI.bltn _) (EvsI.cons (EvI.tup (EvsI.cons (EvI.idx (EvI.var 5 rfl (by kernel_rfl) rfl) EvI.cint) (EvsI.cons (EvI.idx (EvI.var 5 rfl (by kernel_rfl) rfl) EvI.cint) (EvsI.cons (EvI.var 3 rfl (by kernel_rfl) rfl) EvsI.nil)))) EvsI.nil) ClI.append (fun _ => _))) (ExI.cons (StI.expr (EvI.meth (EvI.var 0 rfl (by kernel_rfl) rfl) (MetI.inst (C := 704) (f := 638) 37 rfl (by kernel_rfl) (by kernel_rfl) (by kernel_rfl)) (KeepsI.K (by kernel_rfl)) (EvsI.cons (EvI.idx (EvI.var 5 rfl (by kernel_rfl) rfl) EvI.cint) EvsI.nil) (ClI.fn ((D_PlainChannels_let_go.2 w pq lo mean mg mb).less (by decide))) (fun _ => _))) (ExI.cons (StI.var 5 rfl (by decide) (by kernel_rfl) (EvI.meth (EvI.var 0 rfl (by kernel_rfl) rfl) (MetI.inst (C := 704) (f := 633) 18 rfl (by kernel_rfl) (by kernel_rfl) (by kernel_rfl)) (KeepsI.K (by kernel_rfl)) (EvsI.cons (EvI.var 1 rfl (by kernel_rfl) rfl) (EvsI.cons (EvI.var 2 rfl (by kernel_rfl) rfl) EvsI.nil)) (ClI.fn ((D_PlainChannels_first_waiting.2 w pq lo mean mg mb).less (by decide))) (fun _ => _))) ExI.nil)))) (ExI.cons (StI.ret (EvI.var 4 rfl (by kernel_rfl) rfl)) ExI.nil)))
  case hb =>
    intro s vs X hl
    obtain ⟨a0, a1, a2, a3, rfl⟩ := len4 hl
    exact BindsTo.of_eq rfl

noncomputable def D_PlainChannels_wait_for : { F // ∀ w pq lo mean mg mb, FnI (GG w pq lo mean mg mb) 1 701 F } := by
  refine' ⟨?F, fun w pq lo mean mg mb => ?_⟩
  rotate_left
  refine' FnI.fnB (d := 0) (tbl := ["self", "goroutine", "deeds", "case", "kind", "number", "value"]) (nm := ["self", "goroutine", "deeds"]) (n := 3) (k := 4) (dm := []) (dv := []) ?ho ?hb ?h1 ?hc ?hx
  case ho => rfl
  case h1 => exact fun _ => rfl
  case hc => kernel_rfl
  case hx =>
    exact (ExI.cons (StI.forEnum (EvI.bltn (v := .type "enumerate") (by kernel_rfl) (by kernel_rfl) (by kernel_rfl) (by decide) (by decide) rfl) (AsI.tup (AssI.cons (AsI.var 3 rfl (by decide) (by kernel_rfl)) (AssI.cons (AsI.tup (AssI.cons (AsI.var 4 rfl (by decide) (by kernel_rfl)) (AssI.cons (AsI.var 5 rfl (by decide) (by kernel_rfl)) (AssI.cons (AsI.var 6 rfl (by decide) (by kernel_rfl)) AssI.nil)))) AssI.nil))) (EvI.var 2 rfl (by kernel_rfl) rfl) ⟨fun _ => rfl, trivial⟩ (ExI.cons (StI.ife (TsI.cmp (EvI.var 5 rfl (by kernel_rfl) rfl) EvI.cnone Op2I.notNone) (ExI.cons (StI.expr (EvI.meth (EvI.attr 70 [209, 704] rfl (ga_waiting _) (EvI.var 0 rfl (by kernel_rfl) rfl)) (MetI.lst F.slot_list_append F.type_list_append) (KeepsI.bltn _) (EvsI.cons (EvI.tup (EvsI.cons (EvI.var 1 rfl (by kernel_rfl) rfl) (EvsI.cons (EvI.var 4 rfl (by kernel_rfl) rfl) (EvsI.cons (EvI.var 5 rfl (by kernel_rfl) rfl) (EvsI.cons (EvI.var 6 rfl (by kernel_rfl) rfl) (EvsI.cons (EvI.var 3 rfl (by kernel_rfl) rfl) EvsI.nil)))))) EvsI.nil) ClI.append (fun _ => _))) ExI.nil) ExI.nil) ExI.nil)) ExI.nil)
  case hb =>
    intro s vs X hl
    obtain ⟨a0, a1, a2, rfl⟩ := len3 hl
    exact BindsTo.of_eq rfl

noncomputable def D__law_reel : { F // ∀ w pq lo mean mg mb, FnI (GG w pq lo mean mg mb) 1 1038 F } := by
  refine' ⟨?F, fun w pq lo mean mg mb => ?_⟩
  rotate_left
  refine' FnI.fnB (d := 0) (tbl := ["script", "told", "size"]) (nm := ["script"]) (n := 1) (k := 2) (dm := []) (dv := []) ?ho ?hb ?h1 ?hc ?hx
  case ho => rfl
  case h1 => exact fun _ => rfl
  case hc => kernel_rfl
  case hx =>
    exact (ExI.cons (StI.var 1 rfl (by decide) (by kernel_rfl) (EvI.ife (TsI.cmp (EvI.call (EvI.bltn (v := .builtin "len") (by kernel_rfl) (by kernel_rfl) (by kernel_rfl) (by decide) (by decide) rfl) (KeepsI.bltn _) (EvsI.cons (EvI.var 0 rfl (by kernel_rfl) rfl) EvsI.nil) ClI.len) EvI.cint Op2I.gt) (EvI.idx (EvI.var 0 rfl (by kernel_rfl) rfl) EvI.cint) EvI.cint)) (ExI.cons (StI.var 2 rfl (by decide) (by kernel_rfl) (EvI.call (EvI.bltn (v := .builtin "max") (by kernel_rfl) (by kernel_rfl) (by kernel_rfl) (by decide) (by decide) rfl) (KeepsI.bltn _) (EvsI.cons (EvI.var 1 rfl (by kernel_rfl) rfl) (EvsI.cons (EvI.bin (EvI.un EvI.cint Op1I.neg) (EvI.var 1 rfl (by kernel_rfl) rfl) Op2I.sub) EvsI.nil)) ClI.max2)) (ExI.cons (StI.ret (EvI.lst (EvsI.cons (EvI.ife (TsI.cmp (EvI.var 2 rfl (by kernel_rfl) rfl) (EvI.bin EvI.cint EvI.cint Op2I.pow) Op2I.ge) (EvI.var 2 rfl (by kernel_rfl) rfl) EvI.cint) (EvsI.cons (EvI.bin (EvI.bin (EvI.bin (EvI.bin (EvI.var 2 rfl (by kernel_rfl) rfl) EvI.cint Op2I.mod) EvI.cint Op2I.addA) EvI.cint Op2I.mulA) EvI.cint Op2I.mod) EvsI.nil)))) ExI.nil)))
  case hb =>
    intro s vs X hl
    obtain ⟨a0, rfl⟩ := len1 hl
    exact BindsTo.of_eq rfl

noncomputable def D__law_wound : { F // ∀ w pq lo mean mg mb, FnI (GG w pq lo mean mg mb) 1 1045 F } := by
  refine' ⟨?F, fun w pq lo mean mg mb => ?_⟩
  rotate_left
  refine' FnI.fnB (d := 0) (tbl := ["reel", "many", "found"]) (nm := ["reel", "many"]) (n := 2) (k := 1) (dm := []) (dv := []) ?ho ?hb ?h1 ?hc ?hx
  case ho => rfl
  case h1 => exact fun _ => rfl
  case hc => kernel_rfl
  case hx =>
    exact (ExI.cons (StI.ife (TsI.cmp (EvI.idx (EvI.var 0 rfl (by kernel_rfl) rfl) EvI.cint) EvI.cint Op2I.gt) (ExI.cons (StI.var 2 rfl (by decide) (by kernel_rfl) (EvI.bin (EvI.idx (EvI.var 0 rfl (by kernel_rfl) rfl) EvI.cint) (EvI.var 1 rfl (by kernel_rfl) rfl) Op2I.mod)) (ExI.cons (StI.setI (EvI.bin (EvI.idx (EvI.var 0 rfl (by kernel_rfl) rfl) EvI.cint) (EvI.var 1 rfl (by kernel_rfl) rfl) Op2I.div) (EvI.var 0 rfl (by kernel_rfl) rfl) EvI.cint) (ExI.cons (StI.ret (EvI.var 2 rfl (by kernel_rfl) rfl)) ExI.nil))) ExI.nil) (ExI.cons (StI.setI (EvI.bin (EvI.bin (EvI.bin (EvI.idx (EvI.var 0 rfl (by kernel_rfl) rfl) EvI.cint) EvI.cint Op2I.mulA) EvI.cint Op2I.addA) EvI.cint Op2I.mod) (EvI.var 0 rfl (by kernel_rfl) rfl) EvI.cint) (ExI.cons (StI.ret (EvI.bin (EvI.bin (EvI.bin (EvI.bin (EvI.idx (EvI.var 0 rfl (by kernel_rfl) rfl) EvI.cint) (EvI.idx (EvI.var 0 rfl (by kernel_rfl) rfl) EvI.cint) Op2I.mulA) EvI.cint Op2I.mod) EvI.cint Op2I.div) (EvI.var 1 rfl (by kernel_rfl) rfl) Op2I.mod)) ExI.nil)))
  case hb =>
    intro s vs X hl
    obtain ⟨a0, a1, rfl⟩ := len2 hl
    exact BindsTo.of_eq rfl

noncomputable def D__law_one : { F // ∀ w pq lo mean mg mb, FnI (GG w pq lo mean mg mb) 3 1052 F } := by
  refine' ⟨?F, fun w pq lo mean mg mb => ?_⟩
  rotate_left
  refine' FnI.fnB (d := 2) (tbl := ["reel", "some"]) (nm := ["reel", "some"]) (n := 2) (k := 0) (dm := []) (dv := []) ?ho ?hb ?h1 ?hc ?hx
  case ho => rfl
  case h1 => exact fun _ => rfl
  case hc => kernel_rfl
  case hx =>
    exact (ExI.cons (StI.ret (EvI.idx (EvI.var 1 rfl (by kernel_rfl) rfl) (EvI.call (EvI.glob (m := .gv (.ref 1045)) (v := .ref 1045) (by kernel_rfl) (by kernel_rfl) (vr_gv 1045) rfl) (KeepsI.K (by kernel_rfl)) (EvsI.cons (EvI.var 0 rfl (by kernel_rfl) rfl) (EvsI.cons (EvI.call (EvI.bltn (v := .builtin "len") (by kernel_rfl) (by kernel_rfl) (by kernel_rfl) (by decide) (by decide) rfl) (KeepsI.bltn _) (EvsI.cons (EvI.var 1 rfl (by kernel_rfl) rfl) EvsI.nil) ClI.len) EvsI.nil)) (ClI.fn ((D__law_wound.2 w pq lo mean mg mb).less (by decide)))))) ExI.nil)
  case hb =>
    intro s vs X hl
    obtain ⟨a0, a1, rfl⟩ := len2 hl
    exact BindsTo.of_eq rfl

noncomputable def D__law_waits_right : { F // ∀ w pq lo mean mg mb, FnI (GG w pq lo mean mg mb) 5 1057 F } := by
  refine' ⟨?F, fun w pq lo mean mg mb => ?_⟩
  rotate_left
  refine' FnI.fnC (d := 4) (tbl := ["reel", "channels", "book", "room", "turn", "who", "deeds", "case", "kind", "number", "some", "gone", "due", "row"]) (nm := ["reel"]) (n := 1) (k := 13) (dm := []) (dv := []) [12, 11, 9, 8, 6, 5] ?ho ?hcd ?hb ?h1 ?h2 ?h3 ?h4 ?h5 ?h6 ?h7 ?h8 ?h9 ?h10 ?h11 ?h12 ?h13 ?hx
  case ho => rfl
  case hcd => kernel_rfl
  case h1 => exact fun _ => rfl
  case h2 => rfl
  case h3 => rfl
  case h4 => rfl
  case h5 => decide
  case h6 => kernel_rfl
  case h7 => kernel_rfl
  case h8 => kernel_rfl
  case h9 => exact nodup_of (m := ["due", "gone", "number", "kind", "deeds", "who"]) (by kernel_rfl) (by decide)
  case h10 => kernel_rfl
  case h11 => kernel_rfl
  case h12 => kernel_rfl
  case h13 => kernel_rfl
  case hx =>
    exact (ExI.cons (StI.swp (xs := ["channels", "book"]) [1, 2] (NamesAt.cons rfl (by kernel_rfl) (NamesAt.cons rfl (by kernel_rfl) NamesAt.nil)) (by decide) (EvI.tup (EvsI.cons (EvI.call (EvI.glob (m := .gv (.ref 704)) (v := .ref 704) (by kernel_rfl) (by kernel_rfl) (vr_gv 704) rfl) (KeepsI.K (by kernel_rfl)) EvsI.nil (ClI.cls (fI := 605) (by kernel_rfl) (by kernel_rfl) (by kernel_rfl) ((D_PlainChannels___init__.2 w pq lo mean mg mb).less (by decide)))) (EvsI.cons (EvI.lst EvsI.nil) EvsI.nil))) (h2 := by intro env h; obtain ⟨sc1, _, _, _, _, _, _, _, _⟩ := env; dsimp only at h; subst h; kernel_rfl)) (ExI.cons (StI.for (AsI.var 3 rfl (by decide) (by kernel_rfl)) (EvI.call (EvI.bltn (v := .type "range") (by kernel_rfl) (by kernel_rfl) (by kernel_rfl) (by decide) (by decide) rfl) (KeepsI.type _) (EvsI.cons EvI.cint EvsI.nil) ClI.range) (ExI.cons (StI.expr (EvI.meth (EvI.var 1 rfl (by kernel_rfl) rfl) (MetI.inst (C := 704) (f := 612) 42 rfl (by kernel_rfl) (by kernel_rfl) (by kernel_rfl)) (KeepsI.K (by kernel_rfl)) (EvsI.cons (EvI.var 3 rfl (by kernel_rfl) rfl) EvsI.nil) (ClI.fn ((D_PlainChannels_make_one.2 w pq lo mean mg mb).less (by decide))) (fun _ => _))) ExI.nil)) (ExI.cons (StI.for (AsI.var 4 rfl (by decide) (by kernel_rfl)) (EvI.call (EvI.bltn (v := .type "range") (by kernel_rfl) (by kernel_rfl) (by kernel_rfl) (by decide) (by decide) rfl) (KeepsI.type _) (EvsI.cons (EvI.call (EvI.glob (m := .gv (.ref 1045)) (v := .ref 1045) (by kernel_rfl) (by kernel_rfl) (vr_gv 1045) rfl) (KeepsI.K (by kernel_rfl)) (EvsI.cons (EvI.var 0 rfl (by kernel_rfl) rfl) (EvsI.cons EvI.cint EvsI.nil)) (ClI.fn ((D__law_wound.2 w pq lo mean mg mb).less (by decide)))) EvsI.nil) ClI.range) (ExI.cons (StI.unp (AssI.cons (AsI.cvar 5 rfl (by kernel_rfl)) (AssI.cons (AsI.cvar 6 rfl (by kernel_rfl)) AssI.nil)) (EvI.tup (EvsI.cons (EvI.call (EvI.glob (m := .gv (.ref 1045)) (v := .ref 1045) (by kernel_rfl) (by kernel_rfl) (vr_gv 1045) rfl) (KeepsI.K (by kernel_rfl)) (EvsI.cons (EvI.var 0 rfl (by kernel_rfl) rfl) (EvsI.cons EvI.cint EvsI.nil)) (ClI.fn ((D__law_wound.2 w pq lo mean mg mb).less (by decide)))) (EvsI.cons (EvI.lst EvsI.nil) EvsI.nil))) (h2 := by intro env h; obtain ⟨sc1, _, _, _, _, _, _, _, _⟩ := env; dsimp only at h; subst h; kernel_rfl)) (ExI.cons (StI.for (AsI.var 7 rfl (by decide) (by kernel_rfl)) (EvI.call (EvI.bltn (v := .type "range") (by kernel_rfl) (by kernel_rfl) (by kernel_rfl) (by decide) (by decide) rfl) (KeepsI.type _) (EvsI.cons (EvI.bin EvI.cint (EvI.call (EvI.glob (m := .gv (.ref 1045)) (v := .ref 1045) (by kernel_rfl) (by kernel_rfl) (vr_gv 1045) rfl) (KeepsI.K (by kernel_rfl)) (EvsI.cons (EvI.var 0 rfl (by kernel_rfl) rfl) (EvsI.cons EvI.cint EvsI.nil)) (ClI.fn ((D__law_wound.2 w pq lo mean mg mb).less (by decide)))) Op2I.addA) EvsI.nil) ClI.range) (ExI.cons (StI.expr (EvI.meth (EvI.cvar 6 rfl (by kernel_rfl) rfl rfl) (MetI.lst F.slot_list_append F.type_list_append) (KeepsI.bltn _) (EvsI.cons (EvI.tup (EvsI.cons (EvI.call (EvI.glob (m := .gv (.ref 1052)) (v := .ref 1052) (by kernel_rfl) (by kernel_rfl) (vr_gv 1052) rfl) (KeepsI.K (by kernel_rfl)) (EvsI.cons (EvI.var 0 rfl (by kernel_rfl) rfl) (EvsI.cons (EvI.lst (EvsI.cons EvI.cstr (EvsI.cons EvI.cstr EvsI.nil))) EvsI.nil)) (ClI.fn ((D__law_one.2 w pq lo mean mg mb).less (by decide)))) (EvsI.cons (EvI.call (EvI.glob (m := .gv (.ref 1052)) (v := .ref 1052) (by kernel_rfl) (by kernel_rfl) (vr_gv 1052) rfl) (KeepsI.K (by kernel_rfl)) (EvsI.cons (EvI.var 0 rfl (by kernel_rfl) rfl) (EvsI.cons (EvI.lst (EvsI.cons EvI.cint (EvsI.cons EvI.cint (EvsI.cons EvI.cint (EvsI.cons EvI.cnone EvsI.nil))))) EvsI.nil)) (ClI.fn ((D__law_one.2 w pq lo mean mg mb).less (by decide)))) (EvsI.cons (EvI.bin (EvI.bin EvI.cint (EvI.var 4 rfl (by kernel_rfl) rfl) Op2I.mulA) (EvI.var 7 rfl (by kernel_rfl) rfl) Op2I.addA) EvsI.nil)))) EvsI.nil) ClI.append (fun _ => _))) ExI.nil)) (ExI.cons (StI.ife (TsI.cmp (EvI.cvar 5 rfl (by kernel_rfl) rfl rfl) (EvI.comp (t := none) (ys := []) [] (by kernel_rfl) CapsAt.nil (EvI.var 2 rfl (by kernel_rfl) rfl) CondI.none (EvI.idx (EvI.var 0 rfl (by kernel_rfl) rfl) EvI.cint)) Op2I.notIn) (ExI.cons (StI.expr (EvI.meth (EvI.var 1 rfl (by kernel_rfl) rfl) (MetI.inst (C := 704) (f := 701) 69 rfl (by kernel_rfl) (by kernel_rfl) (by kernel_rfl)) (KeepsI.K (by kernel_rfl)) (EvsI.cons (EvI.cvar 5 rfl (by kernel_rfl) rfl rfl) (EvsI.cons (EvI.cvar 6 rfl (by kernel_rfl) rfl rfl) EvsI.nil)) (ClI.fn ((D_PlainChannels_wait_for.2 w pq lo mean mg mb).less (by decide))) (fun _ => _))) (ExI.cons (StI.var 2 rfl (by decide) (by kernel_rfl) (EvI.bin (EvI.var 2 rfl (by kernel_rfl) rfl) (EvI.comp (t := (some _)) (ys := ["who", "deeds"]) [5, 6] (by kernel_rfl) (CapsAt.cons rfl (by kernel_rfl) (CapsAt.cons rfl (by kernel_rfl) CapsAt.nil)) (EvI.call (EvI.bltn (v := .type "range") (by kernel_rfl) (by kernel_rfl) (by kernel_rfl) (by decide) (by decide) rfl) (KeepsI.type _) (EvsI.cons (EvI.call (EvI.bltn (v := .builtin "len") (by kernel_rfl) (by kernel_rfl) (by kernel_rfl) (by decide) (by decide) rfl) (KeepsI.bltn _) (EvsI.cons (EvI.cvar 6 rfl (by kernel_rfl) rfl rfl) EvsI.nil) ClI.len) EvsI.nil) ClI.range) (CondI.one (TsI.cmp (EvI.idx (EvI.idx (EvI.cvar 2 rfl (by kernel_rfl) rfl rfl) (EvI.var 0 rfl (by kernel_rfl) rfl)) EvI.cint) EvI.cnone Op2I.notNone)) (EvI.bin (EvI.bin (EvI.tup (EvsI.cons (EvI.cvar 1 rfl (by kernel_rfl) rfl rfl) EvsI.nil)) (EvI.idx (EvI.cvar 2 rfl (by kernel_rfl) rfl rfl) (EvI.var 0 rfl (by kernel_rfl) rfl)) Op2I.addA) (EvI.tup (EvsI.cons (EvI.var 0 rfl (by kernel_rfl) rfl) EvsI.nil)) Op2I.addA)) Op2I.addA)) ExI.nil)) ExI.nil) ExI.nil)))) (ExI.cons (StI.ife (TsI.cmp (EvI.attr 70 [209, 704] rfl (ga_waiting _) (EvI.var 1 rfl (by kernel_rfl) rfl)) (EvI.var 2 rfl (by kernel_rfl) rfl) Op2I.ne) (ExI.cons (StI.ret EvI.cbool) ExI.nil) ExI.nil) (ExI.cons (StI.for (AsI.cvar 8 rfl (by kernel_rfl)) (EvI.lst (EvsI.cons EvI.cstr (EvsI.cons EvI.cstr EvsI.nil))) (ExI.cons (StI.for (AsI.cvar 9 rfl (by kernel_rfl)) (EvI.call (EvI.bltn (v := .type "range") (by kernel_rfl) (by kernel_rfl) (by kernel_rfl) (by decide) (by decide) rfl) (KeepsI.type _) (EvsI.cons EvI.cint EvsI.nil) ClI.range) (ExI.cons (StI.compVar 10 rfl (by decide) (by kernel_rfl) (t := (some _)) (ys := ["kind", "number"]) [8, 9] (by kernel_rfl) (CapsAt.cons rfl (by kernel_rfl) (CapsAt.cons rfl (by kernel_rfl) CapsAt.nil)) (EvI.var 2 rfl (by kernel_rfl) rfl) (CondI.one (TsI.cmp (EvI.slice 1 (some 3) (EvI.var 0 rfl (by kernel_rfl) rfl) EvI.cint (PartI.some EvI.cint)) (EvI.tup (EvsI.cons (EvI.cvar 1 rfl (by kernel_rfl) rfl rfl) (EvsI.cons (EvI.cvar 2 rfl (by kernel_rfl) rfl rfl) EvsI.nil))) Op2I.eq)) (EvI.var 0 rfl (by kernel_rfl) rfl) (by intro env h; obtain ⟨sc1, _, _, _, _, _, _, _, _⟩ := env; dsimp only at h; subst h; kernel_rfl)) (ExI.cons (StI.ife (TsI.cmp (EvI.meth (EvI.var 1 rfl (by kernel_rfl) rfl) (MetI.inst (C := 704) (f := 633) 18 rfl (by kernel_rfl) (by kernel_rfl) (by kernel_rfl)) (KeepsI.K (by kernel_rfl)) (EvsI.cons (EvI.cvar 8 rfl (by kernel_rfl) rfl rfl) (EvsI.cons (EvI.cvar 9 rfl (by kernel_rfl) rfl rfl) EvsI.nil)) (ClI.fn ((D_PlainChannels_first_waiting.2 w pq lo mean mg mb).less (by decide))) (fun _ => _)) (EvI.idx (EvI.bin (EvI.var 10 rfl (by kernel_rfl) rfl) (EvI.lst (EvsI.cons EvI.cnone EvsI.nil)) Op2I.addA) EvI.cint) Op2I.ne) (ExI.cons (StI.ret EvI.cbool) ExI.nil) ExI.nil) ExI.nil))) ExI.nil)) (ExI.cons (StI.unp (AssI.cons (AsI.cvar 11 rfl (by kernel_rfl)) (AssI.cons (AsI.cvar 8 rfl (by kernel_rfl)) (AssI.cons (AsI.cvar 9 rfl (by kernel_rfl)) AssI.nil))) (EvI.tup (EvsI.cons (EvI.call (EvI.glob (m := .gv (.ref 1045)) (v := .ref 1045) (by kernel_rfl) (by kernel_rfl) (vr_gv 1045) rfl) (KeepsI.K (by kernel_rfl)) (EvsI.cons (EvI.var 0 rfl (by kernel_rfl) rfl) (EvsI.cons EvI.cint EvsI.nil)) (ClI.fn ((D__law_wound.2 w pq lo mean mg mb).less (by decide)))) (EvsI.cons (EvI.call (EvI.glob (m := .gv (.ref 1052)) (v := .ref 1052) (by kernel_rfl) (by kernel_rfl) (vr_gv 1052) rfl) (KeepsI.K (by kernel_rfl)) (EvsI.cons (EvI.var 0 rfl (by kernel_rfl) rfl) (EvsI.cons (EvI.lst (EvsI.cons EvI.cstr (EvsI.cons EvI.cstr EvsI.nil))) EvsI.nil)) (ClI.fn ((D__law_one.2 w pq lo mean mg mb).less (by decide)))) (EvsI.cons (EvI.call (EvI.glob (m := .gv (.ref 1045)) (v := .ref 1045) (by kernel_rfl) (by kernel_rfl) (vr_gv 1045) rfl) (KeepsI.K (by kernel_rfl)) (EvsI.cons (EvI.var 0 rfl (by kernel_rfl) rfl) (EvsI.cons EvI.cint EvsI.nil)) (ClI.fn ((D__law_wound.2 w pq lo mean mg mb).less (by decide)))) EvsI.nil)))) (h2 := by intro env h; obtain ⟨sc1, _, _, _, _, _, _, _, _⟩ := env; dsimp only at h; subst h; kernel_rfl)) (ExI.cons (StI.expr (EvI.meth (EvI.var 1 rfl (by kernel_rfl) rfl) (MetI.inst (C := 704) (f := 638) 37 rfl (by kernel_rfl) (by kernel_rfl) (by kernel_rfl)) (KeepsI.K (by kernel_rfl)) (EvsI.cons (EvI.cvar 11 rfl (by kernel_rfl) rfl rfl) EvsI.nil) (ClI.fn ((D_PlainChannels_let_go.2 w pq lo mean mg mb).less (by decide))) (fun _ => _))) (ExI.cons (StI.compVar 2 rfl (by decide) (by kernel_rfl) (t := (some _)) (ys := ["gone"]) [11] (by kernel_rfl) (CapsAt.cons rfl (by kernel_rfl) CapsAt.nil) (EvI.var 2 rfl (by kernel_rfl) rfl) (CondI.one (TsI.cmp (EvI.idx (EvI.var 0 rfl (by kernel_rfl) rfl) EvI.cint) (EvI.cvar 1 rfl (by kernel_rfl) rfl rfl) Op2I.ne)) (EvI.var 0 rfl (by kernel_rfl) rfl) (by intro env h; obtain ⟨sc1, _, _, _, _, _, _, _, _⟩ := env; dsimp only at h; subst h; kernel_rfl)) (ExI.cons (StI.ife (TsI.cmp (EvI.attr 70 [209, 704] rfl (ga_waiting _) (EvI.var 1 rfl (by kernel_rfl) rfl)) (EvI.var 2 rfl (by kernel_rfl) rfl) Op2I.ne) (ExI.cons (StI.ret EvI.cbool) ExI.nil) ExI.nil) (ExI.cons (StI.cvar 12 rfl (by kernel_rfl) (EvI.lst EvsI.nil)) (ExI.cons (StI.for (AsI.var 13 rfl (by decide) (by kernel_rfl)) (EvI.var 2 rfl (by kernel_rfl) rfl) (ExI.cons (StI.ife (TsI.and (TsI.cmp (EvI.slice 1 (some 3) (EvI.var 13 rfl (by kernel_rfl) rfl) EvI.cint (PartI.some EvI.cint)) (EvI.tup (EvsI.cons (EvI.cvar 8 rfl (by kernel_rfl) rfl rfl) (EvsI.cons (EvI.cvar 9 rfl (by kernel_rfl) rfl rfl) EvsI.nil))) Op2I.eq) (TsI.cmp (EvI.idx (EvI.var 13 rfl (by kernel_rfl) rfl) EvI.cint) (EvI.comp (t := none) (ys := []) [] (by kernel_rfl) CapsAt.nil (EvI.cvar 12 rfl (by kernel_rfl) rfl rfl) CondI.none (EvI.idx (EvI.var 0 rfl (by kernel_rfl) rfl) EvI.cint)) Op2I.notIn)) (ExI.cons (StI.expr (EvI.meth (EvI.cvar 12 rfl (by kernel_rfl) rfl rfl) (MetI.lst F.slot_list_append F.type_list_append) (KeepsI.bltn _) (EvsI.cons (EvI.tup (EvsI.cons (EvI.idx (EvI.var 13 rfl (by kernel_rfl) rfl) EvI.cint) (EvsI.cons (EvI.idx (EvI.var 13 rfl (by kernel_rfl) rfl) EvI.cint) (EvsI.cons (EvI.tup (EvsI.cons EvI.cstr EvsI.nil)) EvsI.nil)))) EvsI.nil) ClI.append (fun _ => _))) ExI.nil) ExI.nil) ExI.nil)) (ExI.cons (StI.ife (TsI.cmp (EvI.meth (EvI.var 1 rfl (by kernel_rfl) rfl) (MetI.inst (C := 704) (f := 694) 16 rfl (by kernel_rfl) (by kernel_rfl) (by kernel_rfl)) (KeepsI.K (by kernel_rfl)) (EvsI.cons (EvI.cvar 8 rfl (by kernel_rfl) rfl rfl) (EvsI.cons (EvI.cvar 9 rfl (by kernel_rfl) rfl rfl) (EvsI.cons (EvI.tup (EvsI.cons EvI.cstr EvsI.nil)) EvsI.nil))) (ClI.fn ((D_PlainChannels_ended.2 w pq lo mean mg mb).less (by decide))) (fun _ => _)) (EvI.cvar 12 rfl (by kernel_rfl) rfl rfl) Op2I.ne) (ExI.cons (StI.ret EvI.cbool) ExI.nil) ExI.nil) (ExI.cons (StI.ret (EvI.cmp (EvI.attr 70 [209, 704] rfl (ga_waiting _) (EvI.var 1 rfl (by kernel_rfl) rfl)) (EvI.comp (t := (some _)) (ys := ["due"]) [12] (by kernel_rfl) (CapsAt.cons rfl (by kernel_rfl) CapsAt.nil) (EvI.var 2 rfl (by kernel_rfl) rfl) (CondI.one (TsI.cmp (EvI.idx (EvI.var 0 rfl (by kernel_rfl) rfl) EvI.cint) (EvI.comp (t := none) (ys := []) [] (by kernel_rfl) CapsAt.nil (EvI.cvar 1 rfl (by kernel_rfl) rfl rfl) CondI.none (EvI.idx (EvI.var 0 rfl (by kernel_rfl) rfl) EvI.cint)) Op2I.notIn)) (EvI.var 0 rfl (by kernel_rfl) rfl)) Op2I.eq)) ExI.nil)))))))))))))
  case hb =>
    intro s vs X hl
    obtain ⟨a0, rfl⟩ := len1 hl
    exact BindsTo.of_eq rfl

end
end Mine
end

section
open PySem PySem.W PySem.Calls PyProof.Rows
set_option maxRecDepth 100000
set_option maxHeartbeats 0
namespace Mine
theorem noPylong {x m : Int} (hm : 0 < m) (hm2 : m ≤ 64) : Builtin.divisionGoesByPylong x m = false := by
  have h : m.natAbs.log2 < 30 := by
    have h1 : m.natAbs < 2 ^ 30 := by omega
    exact (Nat.log2_lt (by omega)).mpr h1
  unfold Builtin.divisionGoesByPylong
  have h2 : (m == 0) = false := by rw [beq_eq_false_iff_ne]; omega
  simp only [h2]
  have h3 : m.natAbs.log2 / 30 = 0 := Nat.div_eq_of_lt h
  simp [h3]
theorem mulOk_of {a b : Int} (h1 : a.natAbs < 2 ^ 64) (h2 : b.natAbs < 2 ^ 64) : mulOk a b = true := by
  unfold mulOk
  simp [h1, h2]
theorem seq_next {f g : SFun} {loc l : Locs} {hp h : MHeap} (e : f loc hp = some (.next, l, h)) : sSeq f g loc hp = g l h := by unfold sSeq; rw [e]; rfl
theorem seq_ret {f g : SFun} {loc l : Locs} {hp h : MHeap} {v : MV} (e : f loc hp = some (.ret v, l, h)) : sSeq f g loc hp = some (.ret v, l, h) := by unfold sSeq; rw [e]; rfl
theorem run_ret {n k : Nat} {dm mvs : List MV} {fb : SFun} {hp h : MHeap} {l : Locs} {v : MV} (hl : mvs.length = n) (e : fb ((mvs ++ dm).map some ++ List.replicate k none) hp = some (.ret v, l, h)) : fnRun n dm k fb mvs hp = some (v, h) := by
  unfold fnRun; rw [if_pos hl, e]; rfl
theorem e2_of {op : O2} {f g : EFun} {loc : Locs} {hp h h' : MHeap} {a b : MV} (h1 : f loc hp = some (a, h)) (h2 : g loc h = some (b, h')) : e2 op f g loc hp = op a b h' := by
  unfold e2; rw [h1]; simp only [Option.bind_some]; rw [h2]; rfl
theorem tP_of {f : EFun} {loc : Locs} {hp h : MHeap} {b : Bool} (h1 : f loc hp = some (.bool b, h)) : tP f loc hp = some (b, h) := by
  unfold tP; rw [h1]; rfl
theorem ev_of {i : Nat} {loc : Locs} {hp : MHeap} {m : MV} (h : loc[i]? = some (some m)) : eV i loc hp = some (m, hp) := by
  unfold eV; rw [h]
theorem sif_t {t : TFun} {f g : SFun} {loc : Locs} {hp h : MHeap} (e : t loc hp = some (true, h)) : sIf t f g loc hp = f loc h := by unfold sIf; rw [e]; rfl
theorem sif_f {t : TFun} {f g : SFun} {loc : Locs} {hp h : MHeap} (e : t loc hp = some (false, h)) : sIf t f g loc hp = g loc h := by unfold sIf; rw [e]; rfl
theorem var_of {i : Nat} {f : EFun} {loc l : Locs} {hp h : MHeap} {m : MV} (e : f loc hp = some (m, h)) (hs : setV i m loc = some l) : sVar i f loc hp = some (.next, l, h) := by unfold sVar; rw [e]; simp only [Option.bind_some]; rw [hs]; rfl
theorem ret_of {f : EFun} {loc : Locs} {hp h : MHeap} {m : MV} (e : f loc hp = some (m, h)) : sRet f loc hp = some (.ret m, loc, h) := by unfold sRet; rw [e]; rfl
theorem seti_of {f g k : EFun} {loc : Locs} {hp h1 h2 h3 h4 : MHeap} {v o i : MV} (e1 : f loc hp = some (v, h1)) (e2 : g loc h1 = some (o, h2)) (e3 : k loc h2 = some (i, h3)) (e4 : setAt o i v h3 = some h4) : sSetI f g k loc hp = some (.next, loc, h4) := by
  unfold sSetI; rw [e1]; simp only [Option.bind_some]; rw [e2]; simp only [Option.bind_some]; rw [e3]; simp only [Option.bind_some]; rw [e4]; rfl
theorem setat_of {hp : MHeap} {l : Nat} {k : Int} {v : MV} {o o' : MObj} (h : hp[l]? = some o) (e : setO k v o = some o') : setAt (.loc l) (.int k) v hp = some (hp.set l o') := by
  show ((hp[l]?).bind fun o => (setO k v o).bind fun o => some (hp.set l o)) = _
  rw [h]
  show (setO k v o).bind _ = _
  rw [e]; rfl
theorem mod_int {hp : MHeap} {a b : Int} (h : b ≠ 0) : iMod (.int a) (.int b) hp = some (.int (a.fmod b), hp) := if_neg h
theorem div_int {hp : MHeap} {a b : Int} (h : b ≠ 0) (k : Builtin.divisionGoesByPylong a b = false) : iDiv (.int a) (.int b) hp = some (.int (a.fdiv b), hp) := by
  show (if b = 0 then none else if Builtin.divisionGoesByPylong a b = true then none else _) = _
  rw [if_neg h, k]; rfl
theorem mul_int' {hp : MHeap} {a b : Int} (h : mulOk a b = true) : oMul (.int a) (.int b) hp = some (.int (a * b), hp) := if_pos h
theorem gt_t {hp : MHeap} {a b : Int} (h : b < a) : iGt (.int a) (.int b) hp = some (.bool true, hp) := congrArg (fun c => some (MV.bool c, hp)) (decide_eq_true h)
theorem gt_f {hp : MHeap} {a b : Int} (h : ¬ b < a) : iGt (.int a) (.int b) hp = some (.bool false, hp) := congrArg (fun c => some (MV.bool c, hp)) (decide_eq_false h)
theorem wound_WndF : WndF D__law_wound.1 := by
  intro l hp x y m hr hm hm2 hl
  have hlt := (List.getElem?_eq_some_iff.mp hl).1
  have h0 : m ≠ 0 := by omega
  obtain ⟨r1, r2, r3⟩ := hr
  have i0 : ∀ loc : Locs, loc[0]? = some (some (.loc l)) → e2 oIdx (eV 0) (eC (.int 0)) loc hp = some (.int x, hp) := fun loc e => (e2_of (ev_of e) rfl).trans (idx_at (k := 0) hl (m := .int x) rfl)
  have i1 : ∀ (hp : MHeap) (y : Int) (loc : Locs), hp[l]? = some (.lst [.int x, .int y]) → loc[0]? = some (some (.loc l)) → e2 oIdx (eV 0) (eC (.int 1)) loc hp = some (.int y, hp) := fun hp y loc hl e => (e2_of (ev_of e) rfl).trans (idx_at (k := 1) hl (m := .int y) rfl)
  unfold D__law_wound wnd
  dsimp only
  by_cases hx : 0 < x
  · rw [if_pos hx]
    have hdiv := noPylong (x := x) hm hm2
    refine run_ret rfl (l := [some (.loc l), some (.int m), some (.int (x.fmod m))]) (seq_ret ?_)
    refine (sif_t (h := hp) ?_).trans ?_
    · exact tP_of ((e2_of (i0 _ rfl) rfl).trans (gt_t hx))
    refine (seq_next (l := [some (.loc l), some (.int m), some (.int (x.fmod m))]) (h := hp) ?_).trans ?_
    · exact var_of ((e2_of (i0 _ rfl) (ev_of rfl)).trans (mod_int h0)) rfl
    refine (seq_next (l := [some (.loc l), some (.int m), some (.int (x.fmod m))]) (h := hp.set l (.lst [.int (x.fdiv m), .int y])) ?_).trans ?_
    · exact seti_of ((e2_of (i0 _ rfl) (ev_of rfl)).trans (div_int h0 hdiv)) (ev_of rfl) rfl (setat_of (k := 0) hl rfl)
    · exact seq_ret (ret_of (ev_of rfl))
  · rw [if_neg hx]
    have mul1 : mulOk y 39373 = true := mulOk_of (by omega) (by decide)
    generalize hz : (y * 39373 + 7).fmod 2147483647 = z
    have z1 : 0 ≤ z := hz ▸ Int.fmod_nonneg_of_pos _ (by decide)
    have z2 : z < 2147483647 := hz ▸ Int.fmod_lt_of_pos _ (by decide)
    have mul2 : mulOk z z = true := mulOk_of (by omega) (by omega)
    have hdiv : Builtin.divisionGoesByPylong ((z * z).fmod 2147483629) 32 = false := noPylong (by decide) (by decide)
    have hset : (hp.set l (MObj.lst [.int x, .int z]))[l]? = some (MObj.lst [.int x, .int z]) := List.getElem?_set_self hlt
    have e1 := i1 (hp.set l (MObj.lst [.int x, .int z])) z [some (.loc l), some (.int m), none] hset rfl
    refine run_ret rfl (l := [some (.loc l), some (.int m), none]) ?_
    refine (seq_next (l := [some (.loc l), some (.int m), none]) (h := hp) ?_).trans ?_
    · refine (sif_f (h := hp) ?_).trans rfl
      exact tP_of ((e2_of (i0 _ rfl) rfl).trans (gt_f hx))
    refine (seq_next (l := [some (.loc l), some (.int m), none]) (h := hp.set l (.lst [.int x, .int z])) ?_).trans ?_
    · refine seti_of (v := .int z) (h1 := hp) ?_ (ev_of rfl) rfl (setat_of (k := 1) hl rfl)
      refine (e2_of (h := hp) (h' := hp) (a := .int (y * 39373 + 7)) ?_ rfl).trans ((mod_int (by decide)).trans (by rw [hz]))
      exact (e2_of ((e2_of (i1 _ _ _ hl rfl) rfl).trans (mul_int' mul1)) rfl).trans rfl
    · refine seq_ret (ret_of ?_)
      refine (e2_of ?_ (ev_of rfl)).trans (mod_int h0)
      refine (e2_of ?_ rfl).trans (div_int (by decide) hdiv)
      refine (e2_of ?_ rfl).trans (mod_int (by decide))
      exact (e2_of e1 e1).trans (mul_int' mul2)
noncomputable def D__law_woundO : { F // ∀ w pq lo mean mg mb, FnI (GG w pq lo mean mg mb) 1 1045 F } :=
  ⟨fOrc D__law_wound.1, fun w pq lo mean mg mb => FnI.orc (lp := lamPar) (lb := lamBody) (ls := lamScope) rfl (D__law_wound.2 w pq lo mean mg mb) wound_WndF⟩
end Mine
end

section
open PySem PySem.W PySem.Calls PyProof.Rows
set_option maxRecDepth 100000
set_option maxHeartbeats 1000000
namespace Mine

theorem next_some {hp : MHeap} {l i : Nat} {ms : List MV} {m : MV} (h : hp[l]? = some (.lst ms)) (k : ms[i]? = some m) : nextM (.seq l i) hp = some (some (m, .seq l (i + 1))) := by rw [next_seq h, k]; rfl
theorem next_none {hp : MHeap} {l i : Nat} {ms : List MV} (h : hp[l]? = some (.lst ms)) (k : ms[i]? = none) : nextM (.seq l i) hp = some none := by rw [next_seq h, k]; rfl
theorem rng_some {hp : MHeap} {i n : Nat} (h : i < n) : nextM (.rng i n) hp = some (some (.int i, .rng (i + 1) n)) := congrArg some (if_pos h)
theorem rng_none {hp : MHeap} {i n : Nat} (h : ¬ i < n) : nextM (.rng i n) hp = some none := congrArg some (if_neg h)
theorem it_lst {hp : MHeap} {l : Nat} {ms : List MV} (h : hp[l]? = some (.lst ms)) : mkIt (.loc l) hp = some (.seq l 0, ms.length) := it_at h
theorem it_rng {hp : MHeap} {l n : Nat} (h : hp[l]? = some (.rng n)) (hn : n ≤ 1000) : mkIt (.loc l) hp = some (.rng 0 n, n) := (it_at h).trans (if_pos hn)
theorem isLst_at {hp : MHeap} {l : Nat} {ms : List MV} (h : hp[l]? = some (.lst ms)) : isLst (.loc l) hp = true := by
  show (lstAt hp l).isSome = true
  rw [at_lst h]; rfl
theorem setcv_of {i l : Nat} {loc : Locs} {hp : MHeap} {m : MV} {m0 : Option MV} (h1 : loc[i]? = some (some (.loc l))) (h2 : hp[l]? = some (.cel m0)) : setCV i m loc hp = some (hp.set l (.cel (some m))) := by
  unfold setCV; rw [h1]; dsimp only; rw [h2]
theorem acv_of {i l : Nat} {loc : Locs} {hp : MHeap} {m : MV} {m0 : Option MV} (h1 : loc[i]? = some (some (.loc l))) (h2 : hp[l]? = some (.cel m0)) : aCV i m loc hp = some (loc, hp.set l (.cel (some m))) := by
  unfold aCV; rw [setcv_of h1 h2]; rfl
theorem atup_of {fs : List AFun} {l : Nat} {loc : Locs} {hp : MHeap} {ms : List MV} (h : hp[l]? = some (.tup ms)) : aTup fs (.loc l) loc hp = goA fs ms loc hp := by
  show (tupAt hp l).bind _ = _
  rw [at_tup h]; rfl
theorem range_run {hp : MHeap} {n : Int} (h : 0 ≤ n ∧ n ≤ 1000) : fRange [.int n] hp = some (.loc hp.length, hp ++ [.rng n.toNat]) := if_pos h
theorem add_int' {hp : MHeap} (a b : Int) : oAdd (.int a) (.int b) hp = some (.int (a + b), hp) := rfl
theorem nat_step {P : Nat → Prop} (h : ∀ j, (∀ j', j = j' + 1 → P j') → P j) : ∀ j, P j
  | 0 => h 0 (fun _ e => nomatch e)
  | j + 1 => h (j + 1) (fun j' e => by cases e; exact nat_step h j)

noncomputable def Kp (S : List Nat) (hp hp' : MHeap) : Prop := ∀ (i : Nat) (o : MObj), i ∉ S → hp[i]? = some o → hp'[i]? = some o
theorem Kp.refl (S : List Nat) (hp : MHeap) : Kp S hp hp := fun _ _ _ e => e
theorem Kp.trans {S : List Nat} {a b c : MHeap} (h : Kp S a b) (k : Kp S b c) : Kp S a c := fun i o n e => k i o n (h i o n e)
theorem Kp.app (S : List Nat) (hp g : MHeap) : Kp S hp (hp ++ g) := fun i o _ e => by
  rw [List.getElem?_append_left (List.getElem?_eq_some_iff.mp e).1]; exact e
theorem Kp.set {S : List Nat} {i : Nat} {o : MObj} (hp : MHeap) (h : i ∈ S) : Kp S hp (hp.set i o) := fun j p n e => by
  rw [List.getElem?_set_ne (fun (q : i = j) => n (by rw [← q]; exact h))]; exact e
theorem Kp.mono {S T : List Nat} {a b : MHeap} (h : Kp S a b) (s : ∀ i ∈ S, i ∈ T) : Kp T a b := fun i o n e => h i o (fun q => n (s i q)) e
theorem app_get {hp : MHeap} {i : Nat} {o : MObj} (g : MHeap) (e : hp[i]? = some o) : (hp ++ g)[i]? = some o := Kp.app [] hp g i o List.not_mem_nil e
theorem app_last (hp : MHeap) (o : MObj) (g : MHeap) : (hp ++ o :: g)[hp.length]? = some o := by simp

structure Row where
  who : Int
  kind : Str
  num : Int
  val : Int
  case : Int
noncomputable def rowM (r : Row) : List MV := [.int r.who, .str r.kind, .int r.num, .int r.val, .int r.case]
noncomputable def RowAt (hp : MHeap) (m : MV) (r : Row) : Prop := ∃ t, m = .loc t ∧ hp[t]? = some (.tup (rowM r))
noncomputable def RowsAt (hp : MHeap) : List MV → List Row → Prop
  | [], rs => rs = []
  | m :: ms, rs => ∃ r q, rs = r :: q ∧ RowAt hp m r ∧ RowsAt hp ms q

noncomputable def TK (hp hp' : MHeap) : Prop := ∀ (t : Nat) (vs : List MV), hp[t]? = some (.tup vs) → hp'[t]? = some (.tup vs)
theorem TK.refl (hp : MHeap) : TK hp hp := fun _ _ e => e
theorem TK.trans {a b c : MHeap} (h : TK a b) (k : TK b c) : TK a c := fun t vs e => k t vs (h t vs e)
theorem TK.app (hp g : MHeap) : TK hp (hp ++ g) := fun _ _ e => app_get g e
theorem TK.set {hp : MHeap} {i : Nat} {o o' : MObj} (h : hp[i]? = some o) (n : ∀ vs, o ≠ .tup vs) : TK hp (hp.set i o') := fun t vs e => by
  by_cases q : i = t
  · subst q; rw [h] at e; cases e; exact absurd rfl (n vs)
  · rw [List.getElem?_set_ne q]; exact e
theorem TK.kp {S : List Nat} {a b : MHeap} (h : Kp S a b) (n : ∀ i ∈ S, ∀ vs, a[i]? ≠ some (.tup vs)) : TK a b := fun t vs e => h t _ (fun q => n t q vs e) e
theorem RowAt.mono {hp hp' : MHeap} (k : TK hp hp') {m : MV} {r : Row} (h : RowAt hp m r) : RowAt hp' m r := let ⟨t, e, q⟩ := h; ⟨t, e, k t _ q⟩
theorem RowsAt.mono {hp hp' : MHeap} (k : TK hp hp') {ms : List MV} : ∀ {rs : List Row}, RowsAt hp ms rs → RowsAt hp' ms rs := by
  induction ms with
  | nil => exact fun h => h
  | cons m ms ih => rintro rs ⟨r, q, e, a, b⟩; exact ⟨r, q, e, a.mono k, ih b⟩
theorem RowsAt.len {hp : MHeap} {ms : List MV} : ∀ {rs : List Row}, RowsAt hp ms rs → ms.length = rs.length := by
  induction ms with
  | nil => intro rs h; cases h; rfl
  | cons m ms ih => rintro _ ⟨r, q, rfl, a, b⟩; exact congrArg (· + 1) (ih b)
theorem RowsAt.app {hp : MHeap} {ms ms' : List MV} {rs rs' : List Row} (h : RowsAt hp ms rs) (k : RowsAt hp ms' rs') : RowsAt hp (ms ++ ms') (rs ++ rs') := by
  induction ms generalizing rs with
  | nil => cases h; exact k
  | cons m ms ih => obtain ⟨r, q, rfl, a, b⟩ := h; exact ⟨r, q ++ _, rfl, a, ih b⟩
theorem RowsAt.one {hp : MHeap} {m : MV} {r : Row} (h : RowAt hp m r) : RowsAt hp [m] [r] := ⟨r, [], rfl, h, rfl⟩

theorem RowsAt.filter {hp : MHeap} {p : MV → Bool} {q : Row → Bool} (hpq : ∀ m r, RowAt hp m r → p m = q r) {ms : List MV} : ∀ {rs : List Row}, RowsAt hp ms rs → RowsAt hp (ms.filter p) (rs.filter q) := by
  induction ms with
  | nil => intro rs h; cases h; rfl
  | cons m ms ih =>
    rintro _ ⟨r, t, rfl, a, b⟩
    rw [List.filter_cons, List.filter_cons, hpq m r a]
    cases q r with
    | true => exact ⟨r, _, rfl, a, ih b⟩
    | false => exact ih b
theorem RowsAt.mem {hp : MHeap} {m : MV} {ms : List MV} : ∀ {rs : List Row}, RowsAt hp ms rs → m ∈ ms → ∃ r ∈ rs, RowAt hp m r := by
  induction ms with
  | nil => intro rs _ h; cases h
  | cons m0 ms ih =>
    rintro _ ⟨r, t, rfl, a, b⟩ h
    rcases List.mem_cons.mp h with rfl | h
    · exact ⟨r, .head _, a⟩
    · obtain ⟨r', h1, h2⟩ := ih b h
      exact ⟨r', .tail _ h1, h2⟩

noncomputable def strOk (x : Str) : Prop := PyData.canLay0 (.str x) = true
noncomputable def Row.ok (r : Row) : Prop := strOk r.kind
noncomputable def rowD (r : Row) : PyData := .tuple [.int r.who, .str r.kind, .int r.num, .int r.val, .int r.case]
theorem data_row {n : Nat} {hp : MHeap} {m : MV} {r : Row} (h : RowAt hp m r) (ho : r.ok) : dataOf (n + 1) hp m = some (rowD r) := by
  obtain ⟨t, rfl, e⟩ := h
  have ho' : PyData.canLay0 (.str r.kind) = true := ho
  exact data_tup e (by unfold rowM mapO mapO mapO mapO mapO mapO; rw [data_int, data_str _ _ ho', data_int, data_int, data_int]; rfl)
theorem data_rows {n : Nat} {hp : MHeap} {ms : List MV} : ∀ {rs : List Row}, RowsAt hp ms rs → (∀ r ∈ rs, r.ok) → mapO (dataOf (n + 1) hp) ms = some (rs.map rowD) := by
  induction ms with
  | nil => intro rs h _; cases h; rfl
  | cons m ms ih =>
    rintro _ ⟨r, q, rfl, a, b⟩ ho
    unfold mapO
    rw [data_row a (ho r (.head _)), ih b (fun r hr => ho r (.tail _ hr))]
    rfl
theorem eqv_int (a b : Int) : PyData.eqv (.int a) (.int b) = (a == b) := by simp [PyData.eqv]
theorem eqv_str (a b : Str) : PyData.eqv (.str a) (.str b) = (a == b) := by simp [PyData.eqv]
end Mine
end

section
open PySem PySem.W PySem.Calls PyProof.Rows
set_option maxRecDepth 100000
set_option maxHeartbeats 1000000
namespace Mine

theorem for_eq {asg : AFun} {f : EFun} {fb : SFun} {loc : Locs} {hp h : MHeap} {m : MV} {it : MIt} {n : Nat} (e : f loc hp = some (m, h)) (i : mkIt m h = some (it, n)) : sFor asg f fb loc hp = forL asg fb n it loc h := by
  unfold sFor; rw [e]; simp only [Option.bind_some]; rw [i]; rfl
theorem run_next {n k : Nat} {dm mvs : List MV} {fb : SFun} {hp h : MHeap} {l : Locs} (hl : mvs.length = n) (e : fb ((mvs ++ dm).map some ++ List.replicate k none) hp = some (.next, l, h)) : fnRun n dm k fb mvs hp = some (.none, h) := by
  unfold fnRun; rw [if_pos hl, e]; rfl

theorem compL_eq {acc n : Nat} {t : Option TFun} {f : EFun} {caps : Locs} {it : MIt} {hp : MHeap} : compL acc t f caps (n + 1) it hp = (nextM it hp).bind fun r => match r with
    | none => some hp
    | some (m, it') => (condT t (some m :: caps) hp).bind fun b => match b with
      | (false, h) => compL acc t f caps n it' h
      | (true, h) => (f (some m :: caps) h).bind fun v => (fAppend [.loc acc, v.1] v.2).bind fun q => compL acc t f caps n it' q.2 := by
  first | (rw [compL]; done) | (rw [compL]; rfl)
theorem set_at (hp : MHeap) (o o' : MObj) (g : MHeap) : (hp ++ o :: g).set hp.length o' = hp ++ o' :: g := by simp
theorem kp_acc (hp0 : MHeap) (o : MObj) (g : MHeap) : Kp [] hp0 (hp0 ++ o :: g) := Kp.app [] hp0 (o :: g)

theorem comp_go {w : Nat} {t : Option TFun} {f : EFun} {caps : Locs} {hp0 : MHeap} {ms : List MV} {p : MV → Bool} {val : MV → MV} (hw : hp0[w]? = some (.lst ms))
    (ht : ∀ m ∈ ms, ∀ hp', Kp [] hp0 hp' → ∃ g, condT t (some m :: caps) hp' = some (p m, hp' ++ g))
    (hf : ∀ m ∈ ms, ∀ hp', Kp [] hp0 hp' → ∃ g, f (some m :: caps) hp' = some (val m, hp' ++ g)) (hc : ms.length ≤ cap) :
    ∀ (n i : Nat) (out : List MV) (g : MHeap), n + i = ms.length → out.length ≤ i → ∃ g', compL hp0.length t f caps n (.seq w i) (hp0 ++ .lst out :: g) = some (hp0 ++ .lst (out ++ ((ms.drop i).filter p).map val) :: g') := by
  refine nat_step fun n ih => ?_
  intro i out g hn ho
  have hlw : (hp0 ++ MObj.lst out :: g)[w]? = some (.lst ms) := app_get _ hw
  cases hm : ms[i]? with
  | none =>
    have hi : ms.length ≤ i := List.getElem?_eq_none_iff.mp hm
    unfold compL
    rw [next_none hlw hm]
    simp only [Option.bind_some]
    exact ⟨g, by rw [List.drop_eq_nil_of_le hi]; simp⟩
  | some m =>
    obtain ⟨hi, hmi⟩ := List.getElem?_eq_some_iff.mp hm
    cases n with
    | zero => omega
    | succ n =>
      have hmem : m ∈ ms := hmi ▸ List.getElem_mem hi
      have hd : ms.drop i = m :: ms.drop (i + 1) := by rw [List.drop_eq_getElem_cons hi, hmi]
      rw [compL_eq]
      rw [next_some hlw hm]
      simp only [Option.bind_some]
      obtain ⟨g1, h1⟩ := ht m hmem _ (kp_acc hp0 (.lst out) g)
      rw [h1]
      have e1 : (hp0 ++ MObj.lst out :: g) ++ g1 = hp0 ++ MObj.lst out :: (g ++ g1) := by simp
      rw [e1]
      simp only [Option.bind_some]
      rw [hd, List.filter_cons]
      cases hp : p m with
      | false =>
        simp only [Bool.false_eq_true, if_false]
        exact ih n rfl (i + 1) out (g ++ g1) (by omega) (by omega)
      | true =>
        simp only [if_true]
        obtain ⟨g2, h2⟩ := hf m hmem _ (kp_acc hp0 (.lst out) (g ++ g1))
        rw [h2]
        have e2 : (hp0 ++ MObj.lst out :: (g ++ g1)) ++ g2 = hp0 ++ MObj.lst out :: (g ++ g1 ++ g2) := by simp
        rw [e2]
        simp only [Option.bind_some]
        have hap : fAppend [.loc hp0.length, val m] (hp0 ++ MObj.lst out :: (g ++ g1 ++ g2)) = some (.none, hp0 ++ MObj.lst (out ++ [val m]) :: (g ++ g1 ++ g2)) := by
          rw [append_run (app_last hp0 (.lst out) _) (by omega), set_at]
        rw [hap]
        simp only [Option.bind_some]
        obtain ⟨g', h'⟩ := ih n rfl (i + 1) (out ++ [val m]) (g ++ g1 ++ g2) (by omega) (by simp; omega)
        exact ⟨g', by rw [h']; simp⟩
theorem comp_seq {is : List Nat} {w : Nat} {t : Option TFun} {f gf : EFun} {loc : Locs} {hp hp0 : MHeap} {ms : List MV} {p : MV → Bool} {val : MV → MV} (hg : gf loc hp = some (.loc w, hp0)) (hw : hp0[w]? = some (.lst ms))
    (ht : ∀ m ∈ ms, ∀ hp', Kp [] hp0 hp' → ∃ g, condT t (some m :: capsOf is loc) hp' = some (p m, hp' ++ g))
    (hf : ∀ m ∈ ms, ∀ hp', Kp [] hp0 hp' → ∃ g, f (some m :: capsOf is loc) hp' = some (val m, hp' ++ g)) (hc : ms.length ≤ cap) :
    ∃ g, eComp is t f gf loc hp = some (.loc hp0.length, hp0 ++ .lst ((ms.filter p).map val) :: g) := by
  obtain ⟨g', h⟩ := comp_go hw ht hf hc ms.length 0 [] [] (by omega) (Nat.le_refl _)
  refine ⟨g', ?_⟩
  unfold eComp
  rw [hg]
  simp only [Option.bind_some, it_lst hw]
  rw [h]
  simp

theorem idx_tup {hp : MHeap} {t : Nat} {ms : List MV} {k : Nat} {m : MV} (h : hp[t]? = some (.tup ms)) (hk : ms[k]? = some m) (hl : ms.length ≤ 1000) : oIdx (.loc t) (.int k) hp = some (m, hp) := by
  have hlt := (List.getElem?_eq_some_iff.mp hk).1
  have h1 : -(2 ^ 63) ≤ (k : Int) ∧ (k : Int) < 2 ^ 63 := by omega
  refine idx_at h ?_
  refine (show idxO (k : Int) (.tup ms) = if -(2 ^ 63) ≤ (k : Int) ∧ (k : Int) < 2 ^ 63 then nth ms k else none from rfl).trans ?_
  rw [if_pos h1]
  unfold nth seqIndex?
  have h2 : ¬ ((k : Int) < 0) := by omega
  have h3 : (0 ≤ (k : Int) && (k : Int) < (ms.length : Int)) = true := by simp; omega
  simp only [h2, if_false, h3, if_true, Option.bind_some, Int.toNat_natCast, hk]
theorem idx_who {hp : MHeap} {m : MV} {r : Row} (h : RowAt hp m r) : oIdx m (.int 0) hp = some (.int r.who, hp) := by
  obtain ⟨t, rfl, e⟩ := h; exact idx_tup (k := 0) e rfl (by simp [rowM])
theorem idx_kind {hp : MHeap} {m : MV} {r : Row} (h : RowAt hp m r) : oIdx m (.int 1) hp = some (.str r.kind, hp) := by
  obtain ⟨t, rfl, e⟩ := h; exact idx_tup (k := 1) e rfl (by simp [rowM])
theorem idx_num {hp : MHeap} {m : MV} {r : Row} (h : RowAt hp m r) : oIdx m (.int 2) hp = some (.int r.num, hp) := by
  obtain ⟨t, rfl, e⟩ := h; exact idx_tup (k := 2) e rfl (by simp [rowM])
theorem idx_case {hp : MHeap} {m : MV} {r : Row} (h : RowAt hp m r) : oIdx m (.int 4) hp = some (.int r.case, hp) := by
  obtain ⟨t, rfl, e⟩ := h; exact idx_tup (k := 4) e rfl (by simp [rowM])
theorem RowAt.kp {hp hp' : MHeap} (k : Kp [] hp hp') {m : MV} {r : Row} (h : RowAt hp m r) : RowAt hp' m r := h.mono (fun t vs e => k t _ List.not_mem_nil e)

noncomputable def isP (k : Str) (n : Int) (r : Row) : Bool := r.kind == k && decide (r.num = n)
noncomputable def FoundAt (hp : MHeap) (m : MV) : Option Row → Prop
  | none => m = .none
  | some r => RowAt hp m r
theorem FoundAt.mono {hp hp' : MHeap} (k : TK hp hp') {m : MV} {r : Option Row} (h : FoundAt hp m r) : FoundAt hp' m r := by
  cases r with
  | none => exact h
  | some _ => exact RowAt.mono k h

noncomputable def Chans (hp : MHeap) (c x w : Nat) : Prop := hp[c]? = some (.inst 704 [(6, .loc x), (70, .loc w)])
theorem chans_get {hp : MHeap} {c x w : Nat} (h : Chans hp c x w) : aGet 70 [209, 704] (.loc c) hp = some (.loc w, hp) := by
  have h' : hp[c]? = some (.inst 704 [(6, .loc x), (70, .loc w)]) := h
  show (instAt hp c).bind _ = _
  rw [at_inst h']
  rfl

theorem eq_int {hp : MHeap} (a b : Int) : oEq (.int a) (.int b) hp = some (.bool (a == b), hp) := by unfold oEq; rw [data_int, data_int]; simp only [Option.bind_some, eqv_int]
theorem ne_int {hp : MHeap} (a b : Int) : oNe (.int a) (.int b) hp = some (.bool (!(a == b)), hp) := by unfold oNe; rw [data_int, data_int]; simp only [Option.bind_some, eqv_int]
theorem eq_str {hp : MHeap} {a b : Str} (ha : strOk a) (hb : strOk b) : oEq (.str a) (.str b) hp = some (.bool (a == b), hp) := by
  have ha' : PyData.canLay0 (.str a) = true := ha
  have hb' : PyData.canLay0 (.str b) = true := hb
  unfold oEq; rw [data_str _ _ ha', data_str _ _ hb']; simp only [Option.bind_some, eqv_str]

noncomputable abbrev fw := D_PlainChannels_first_waiting.1
theorem fw_go {hp : MHeap} {c w : Nat} {k : Str} {n : Int} {ms : List MV} (hk : strOk k) (hw : hp[w]? = some (.lst ms)) : ∀ (j i : Nat) (x : Option MV) (rs : List Row), j + i = ms.length → RowsAt hp (ms.drop i) rs → (∀ r ∈ rs, r.ok) →
    ∃ v loc, FoundAt hp v (rs.find? (isP k n)) ∧ forL (aVar 3)
      (sSeq (sIf (tAnd (tP (e2 oEq (e2 oIdx (eV 3) (eC (.int 1))) (eV 1))) (tP (e2 oEq (e2 oIdx (eV 3) (eC (.int 2))) (eV 2)))) (sSeq (sRet (eV 3)) sNil) sNil) sNil)
      j (.seq w i) [some (.loc c), some (.str k), some (.int n), x] hp = some (if (rs.find? (isP k n)).isSome then .ret v else .next, loc, hp) := by
  refine nat_step fun j ih => ?_
  intro i x rs hj hr ho
  unfold forL
  cases hm : ms[i]? with
  | none =>
    rw [next_none hw hm]
    have hi : ms.length ≤ i := List.getElem?_eq_none_iff.mp hm
    rw [List.drop_eq_nil_of_le hi] at hr
    cases hr
    exact ⟨.none, _, rfl, rfl⟩
  | some m =>
    rw [next_some hw hm]
    obtain ⟨hi, hmi⟩ := List.getElem?_eq_some_iff.mp hm
    cases j with
    | zero => omega
    | succ j =>
      have hd : ms.drop i = m :: ms.drop (i + 1) := by rw [List.drop_eq_getElem_cons hi, hmi]
      rw [hd] at hr
      obtain ⟨r, q, rfl, hra, hrq⟩ := hr
      have hrk : strOk r.kind := ho r (.head _)
      have ih := ih j rfl (i + 1) (some m) q (by omega) hrq (fun r' hr' => ho r' (.tail _ hr'))
      have hbody : (sSeq (sIf (tAnd (tP (e2 oEq (e2 oIdx (eV 3) (eC (.int 1))) (eV 1))) (tP (e2 oEq (e2 oIdx (eV 3) (eC (.int 2))) (eV 2)))) (sSeq (sRet (eV 3)) sNil) sNil) sNil)
          [some (.loc c), some (.str k), some (.int n), some m] hp = some (if isP k n r then .ret m else .next, [some (.loc c), some (.str k), some (.int n), some m], hp) := by
        by_cases e1 : r.kind == k
        · by_cases e2' : r.num = n
          · simp [sSeq, sIf, tAnd, tP, e2, eV, eC, idx_kind hra, idx_num hra, eq_str hrk hk, eq_int, tOf, e1, e2', sRet, isP]
          · have e3 : (r.num == n) = false := beq_eq_false_iff_ne.mpr e2'
            simp [sSeq, sIf, tAnd, tP, e2, eV, eC, idx_kind hra, idx_num hra, eq_str hrk hk, eq_int, tOf, e1, e2', e3, sNil, isP]
        · rw [Bool.not_eq_true] at e1
          simp [sSeq, sIf, tAnd, tP, e2, eV, eC, idx_kind hra, eq_str hrk hk, tOf, e1, sNil, isP]
      have hset : aVar 3 m [some (.loc c), some (.str k), some (.int n), x] hp = some ([some (.loc c), some (.str k), some (.int n), some m], hp) := rfl
      simp only [Option.bind_some, hset, hbody]
      cases hp' : isP k n r with
      | true =>
        simp only [if_true, List.find?_cons, hp', Option.isSome_some]
        exact ⟨m, _, hra, rfl⟩
      | false =>
        simp only [Bool.false_eq_true, if_false, List.find?_cons, hp']
        exact ih
theorem fw_run {hp : MHeap} {c x w : Nat} {k : Str} {n : Int} {ms : List MV} {rs : List Row} (hc : Chans hp c x w) (hk : strOk k) (hw : hp[w]? = some (.lst ms)) (hr : RowsAt hp ms rs) (ho : ∀ r ∈ rs, r.ok) :
    ∃ v, FoundAt hp v (rs.find? (isP k n)) ∧ fw [.loc c, .str k, .int n] hp = some (v, hp) := by
  obtain ⟨v, loc, h1, h2⟩ := fw_go (c := c) (n := n) hk hw ms.length 0 none rs (by omega) (by simpa using hr) ho
  refine ⟨v, h1, ?_⟩
  unfold fw D_PlainChannels_first_waiting
  dsimp only
  have hat : eAttr 70 [209, 704] (eV 0) [some (.loc c), some (.str k), some (.int n), none] hp = some (.loc w, hp) := by simp [eAttr, eV, chans_get hc]
  have hit : mkIt (.loc w) hp = some (.seq w 0, ms.length) := it_lst hw
  have hfor := (for_eq (asg := aVar 3) (fb := sSeq (sIf (tAnd (tP (e2 oEq (e2 oIdx (eV 3) (eC (.int 1))) (eV 1))) (tP (e2 oEq (e2 oIdx (eV 3) (eC (.int 2))) (eV 2)))) (sSeq (sRet (eV 3)) sNil) sNil) sNil) hat hit).trans h2
  cases hf : rs.find? (isP k n) with
  | none =>
    rw [hf] at h1 hfor
    cases h1
    exact run_ret rfl ((seq_next hfor).trans rfl)
  | some r =>
    rw [hf] at hfor
    exact run_ret rfl (seq_ret hfor)
end Mine
end

section
open PySem PySem.W PySem.Calls PyProof.Rows
set_option maxRecDepth 100000
set_option maxHeartbeats 1000000
namespace Mine

noncomputable def whoOf (hp : MHeap) (m : MV) : Int := match m with
  | .loc t => match hp[t]? with
    | some (.tup (.int a :: _)) => a
    | _ => 0
  | _ => 0
theorem whoOf_row {hp : MHeap} {m : MV} {r : Row} (h : RowAt hp m r) : whoOf hp m = r.who := by
  obtain ⟨t, rfl, e⟩ := h
  simp [whoOf, e, rowM]
theorem runC_next {n k : Nat} {dm mvs : List MV} {cn : List Nat} {fb : SFun} {hp h : MHeap} {l loc : Locs} {cells : MHeap} (hl : mvs.length = n) (e1 : locC hp.length cn ((mvs ++ dm).map some ++ List.replicate k none) = loc)
    (e2 : (cn.map fun i => MObj.cel ((((mvs ++ dm).map some ++ List.replicate k none)[i]?).join)) = cells) (e : fb loc (hp ++ cells) = some (.next, l, h)) : fnRunC n dm k cn fb mvs hp = some (.none, h) := by
  unfold fnRunC; rw [if_pos hl, e1, e2, e]; rfl
theorem runC_ret {n k : Nat} {dm mvs : List MV} {cn : List Nat} {fb : SFun} {hp h : MHeap} {l loc : Locs} {cells : MHeap} {v : MV} (hl : mvs.length = n) (e1 : locC hp.length cn ((mvs ++ dm).map some ++ List.replicate k none) = loc)
    (e2 : (cn.map fun i => MObj.cel ((((mvs ++ dm).map some ++ List.replicate k none)[i]?).join)) = cells) (e : fb loc (hp ++ cells) = some (.ret v, l, h)) : fnRunC n dm k cn fb mvs hp = some (v, h) := by
  unfold fnRunC; rw [if_pos hl, e1, e2, e]; rfl

theorem ecv_of {i l : Nat} {loc : Locs} {hp : MHeap} {m : MV} (h1 : loc[i]? = some (some (.loc l))) (h2 : hp[l]? = some (.cel (some m))) : eCV i loc hp = some (m, hp) := by
  simp [eCV, h1, h2]

theorem who_comp {is : List Nat} {hp0 : MHeap} {loc : Locs} {gf : EFun} {hp : MHeap} {w lg : Nat} {g : Int} {ms : List MV} {rs : List Row} (hg : gf loc hp = some (.loc w, hp0)) (hw : hp0[w]? = some (.lst ms)) (hr : RowsAt hp0 ms rs)
    (hcap : capsOf is loc = [some (.loc lg)]) (hgo : hp0[lg]? = some (.cel (some (.int g)))) (hlen : ms.length ≤ cap) :
    ∃ g', eComp is (some (tP (e2 oNe (e2 oIdx (eV 0) (eC (.int 0))) (eCV 1)))) (eV 0) gf loc hp = some (.loc hp0.length, hp0 ++ .lst (ms.filter fun m => !(whoOf hp0 m == g)) :: g') := by
  have h := comp_seq (is := is) (t := some (tP (e2 oNe (e2 oIdx (eV 0) (eC (.int 0))) (eCV 1)))) (f := eV 0) (p := fun m => !(whoOf hp0 m == g)) (val := fun m => m) hg hw (fun m hm hp' k => ?_) (fun m hm hp' k => ⟨[], by simp [eV]⟩) hlen
  · obtain ⟨g', h⟩ := h
    exact ⟨g', by rw [h]; simp⟩
  · obtain ⟨r, hr1, hr2⟩ := hr.mem hm
    have hr3 := hr2.kp k
    have hgo' := k lg _ List.not_mem_nil hgo
    refine ⟨[], ?_⟩
    have hc : eCV 1 (some m :: capsOf is loc) hp' = some (.int g, hp') := ecv_of (by rw [hcap]; rfl) hgo'
    simp [condT, tP, e2, eV, eC, idx_who hr3, hc, ne_int, tOf, whoOf_row hr2]
noncomputable abbrev lg := D_PlainChannels_let_go.1
theorem lg_run {hp : MHeap} {c x w : Nat} {g : Int} {ms : List MV} {rs : List Row} (hc : Chans hp c x w) (hw : hp[w]? = some (.lst ms)) (hr : RowsAt hp ms rs) (hlen : ms.length ≤ cap) :
    ∃ hp' w' ms', lg [.loc c, .int g] hp = some (.none, hp') ∧ Chans hp' c x w' ∧ hp'[w']? = some (.lst ms') ∧ RowsAt hp' ms' (rs.filter fun r => !(r.who == g)) ∧ Kp [c] hp hp' ∧ hp.length ≤ w' := by
  have hc0 : (hp ++ [MObj.cel (some (.int g))])[c]? = some (.inst 704 [(6, .loc x), (70, .loc w)]) := app_get _ hc
  have hat : eAttr 70 [209, 704] (eV 0) [some (.loc c), some (.loc hp.length)] (hp ++ [MObj.cel (some (.int g))]) = some (.loc w, hp ++ [MObj.cel (some (.int g))]) := by
    simp [eAttr, eV, chans_get (show Chans (hp ++ [MObj.cel (some (.int g))]) c x w from hc0)]
  have hw0 : (hp ++ [MObj.cel (some (.int g))])[w]? = some (.lst ms) := app_get _ hw
  have hr0 : RowsAt (hp ++ [MObj.cel (some (.int g))]) ms rs := hr.mono (TK.app _ _)
  obtain ⟨g', hcomp⟩ := who_comp (is := [1]) (lg := hp.length) (g := g) hat hw0 hr0 rfl (app_last hp _ []) hlen
  have hlt := (List.getElem?_eq_some_iff.mp hc).1
  generalize hH : (hp ++ [MObj.cel (some (.int g))]) ++ .lst (ms.filter fun m => !(whoOf (hp ++ [MObj.cel (some (.int g))]) m == g)) :: g' = H at hcomp
  have kH : Kp [] (hp ++ [MObj.cel (some (.int g))]) H := hH ▸ Kp.app [] _ _
  have hcH : H[c]? = some (.inst 704 [(6, .loc x), (70, .loc w)]) := kH c _ List.not_mem_nil hc0
  have hlstH : H[hp.length + 1]? = some (.lst (ms.filter fun m => !(whoOf (hp ++ [MObj.cel (some (.int g))]) m == g))) := by
    have := app_last (hp ++ [MObj.cel (some (.int g))]) (.lst (ms.filter fun m => !(whoOf (hp ++ [MObj.cel (some (.int g))]) m == g))) g'
    rw [hH] at this
    simpa using this
  have hcl : c < H.length := (List.getElem?_eq_some_iff.mp hcH).1
  have ne : c ≠ hp.length + 1 := by omega
  have hf : RowsAt H (ms.filter fun m => !(whoOf (hp ++ [MObj.cel (some (.int g))]) m == g)) (rs.filter fun r => !(r.who == g)) :=
    (RowsAt.filter (fun m r h => by rw [whoOf_row h]) hr0).mono (hH ▸ TK.app _ _)
  refine ⟨H.set c (.inst 704 [(6, .loc x), (70, .loc (hp.length + 1))]), hp.length + 1, ms.filter (fun m => !(whoOf (hp ++ [MObj.cel (some (.int g))]) m == g)), ?_, ?_, ?_, ?_, ?_, by omega⟩
  · unfold lg D_PlainChannels_let_go
    dsimp only
    refine runC_next (loc := [some (.loc c), some (.loc hp.length)]) (cells := [.cel (some (.int g))]) rfl rfl rfl (l := [some (.loc c), some (.loc hp.length)]) ((seq_next (l := [some (.loc c), some (.loc hp.length)]) (h := H.set c (.inst 704 [(6, .loc x), (70, .loc (hp.length + 1))])) ?_).trans rfl)
    unfold sSetA
    rw [hcomp]
    have hlen1 : (hp ++ [MObj.cel (some (.int g))]).length = hp.length + 1 := by simp
    rw [hlen1]
    simp only [eV, List.getElem?_cons_zero, Option.bind_some]
    have hset : aSet 70 [209, 704] (.loc c) (.loc (hp.length + 1)) H = some (H.set c (.inst 704 [(6, .loc x), (70, .loc (hp.length + 1))])) := by
      show (instAt H c).bind _ = _
      rw [at_inst hcH]
      rfl
    rw [hset]
    rfl
  · exact List.getElem?_set_self hcl
  · rw [List.getElem?_set_ne ne]; exact hlstH
  · exact hf.mono (TK.set hcH (fun vs => nofun))
  · exact ((Kp.app [c] hp _).trans (kH.mono (fun _ h => nomatch h))).trans (Kp.set _ (.head _))

noncomputable def OutAt (hp : MHeap) (T : Nat) : List MV → List (Int × Int) → Prop
  | [], os => os = []
  | m :: ms, os => ∃ o q t, os = o :: q ∧ m = .loc t ∧ hp[t]? = some (.tup [.int o.1, .int o.2, .loc T]) ∧ OutAt hp T ms q
theorem OutAt.mono {hp hp' : MHeap} {T : Nat} (k : TK hp hp') {ms : List MV} : ∀ {os : List (Int × Int)}, OutAt hp T ms os → OutAt hp' T ms os := by
  induction ms with
  | nil => exact fun h => h
  | cons m ms ih => rintro os ⟨o, q, t, e, e2, a, b⟩; exact ⟨o, q, t, e, e2, k t _ a, ih b⟩
theorem OutAt.len {hp : MHeap} {T : Nat} {ms : List MV} : ∀ {os : List (Int × Int)}, OutAt hp T ms os → ms.length = os.length := by
  induction ms with
  | nil => intro os h; cases h; rfl
  | cons m ms ih => rintro _ ⟨o, q, t, rfl, e2, a, b⟩; exact congrArg (· + 1) (ih b)
theorem OutAt.snoc {hp : MHeap} {T t : Nat} {o : Int × Int} (h : hp[t]? = some (.tup [.int o.1, .int o.2, .loc T])) {ms : List MV} : ∀ {os : List (Int × Int)}, OutAt hp T ms os → OutAt hp T (ms ++ [.loc t]) (os ++ [o]) := by
  induction ms with
  | nil => intro os k; cases k; exact ⟨o, [], t, rfl, rfl, h, rfl⟩
  | cons m ms ih => rintro _ ⟨o', q, t', rfl, e2, a, b⟩; exact ⟨o', q ++ [o], t', rfl, e2, a, ih b⟩
noncomputable def endedN (k : Str) (n : Int) : Nat → List Row → List (Int × Int) × List Row
  | 0, rs => ([], rs)
  | j + 1, rs => match rs.find? (isP k n) with
    | none => ([], rs)
    | some r => ((r.who, r.case) :: (endedN k n j (rs.filter fun q => !(q.who == r.who))).1, (endedN k n j (rs.filter fun q => !(q.who == r.who))).2)

theorem append_new {hp : MHeap} {fl : Nat} {out : List MV} {m : MV} (h : hp[fl]? = some (.lst out)) (hc : out.length ≤ cap) : fAppend [.loc fl, m] hp = some (.none, hp.set fl (.lst (out ++ [m]))) := by
  exact append_run h hc

noncomputable def enBody : SFun := sSeq (sExpr (eMeth isLst fAppend (eV 4) (vCons (eTup (vCons (e2 oIdx (eV 5) (eC (.int 0))) (vCons (e2 oIdx (eV 5) (eC (.int 4))) (vCons (eV 3) vNil)))) vNil)))
  (sSeq (sExpr (eMeth (isInst 37 704) lg (eV 0) (vCons (e2 oIdx (eV 5) (eC (.int 0))) vNil)))
    (sSeq (sVar 5 (eMeth (isInst 18 704) fw (eV 0) (vCons (eV 1) (vCons (eV 2) vNil)))) sNil))

theorem isInst_ch {hp : MHeap} {c x w i : Nat} (h : Chans hp c x w) (hi : i ≠ 6) (hi2 : i ≠ 70) : isInst i 704 (.loc c) hp = true := by
  have h' : hp[c]? = some (.inst 704 [(6, .loc x), (70, .loc w)]) := h
  have a1 : (i == 6) = false := beq_eq_false_iff_ne.mpr hi
  have a2 : (i == 70) = false := beq_eq_false_iff_ne.mpr hi2
  show ((instAt hp c).bind _).isSome = true
  rw [at_inst h']
  simp [fGet, a1, a2]
theorem chans_set {hp : MHeap} {c x w i : Nat} {o o' : MObj} (h : Chans hp c x w) (hi : hp[i]? = some o) (hn : ∀ C fs, o ≠ .inst C fs) : Chans (hp.set i o') c x w := by
  have h' : hp[c]? = some (.inst 704 [(6, .loc x), (70, .loc w)]) := h
  show (hp.set i o')[c]? = _
  rw [List.getElem?_set_ne]
  · exact h'
  · intro q; subst q; rw [h'] at hi; cases hi; exact hn _ _ rfl

theorem en_body {hp : MHeap} {c x w fl T : Nat} {k : Str} {n : Int} {ms out : List MV} {rs : List Row} {os : List (Int × Int)} {v : MV} {r : Row} (hc : Chans hp c x w) (hk : strOk k) (hw : hp[w]? = some (.lst ms)) (hr : RowsAt hp ms rs) (ho : ∀ r ∈ rs, r.ok)
    (hfl : hp[fl]? = some (.lst out)) (hwf : w ≠ fl) (hout : OutAt hp T out os) (hv : RowAt hp v r) (hl1 : ms.length ≤ cap) (hl2 : out.length ≤ cap) :
    ∃ v' hp' w' ms' out', enBody [some (.loc c), some (.str k), some (.int n), some (.loc T), some (.loc fl), some v] hp = some (.next, [some (.loc c), some (.str k), some (.int n), some (.loc T), some (.loc fl), some v'], hp') ∧
      Chans hp' c x w' ∧ hp'[w']? = some (.lst ms') ∧ RowsAt hp' ms' (rs.filter fun q => !(q.who == r.who)) ∧ hp'[fl]? = some (.lst out') ∧ w' ≠ fl ∧ OutAt hp' T out' (os ++ [(r.who, r.case)]) ∧ FoundAt hp' v' ((rs.filter fun q => !(q.who == r.who)).find? (isP k n)) ∧ Kp [c, fl] hp hp' := by

  let hp1 := hp ++ [MObj.tup [.int r.who, .int r.case, .loc T]]
  have hfl1 : hp1[fl]? = some (.lst out) := app_get _ hfl
  let hp2 := hp1.set fl (.lst (out ++ [.loc hp.length]))
  have hltf : fl < hp1.length := (List.getElem?_eq_some_iff.mp hfl1).1
  have hcl := (List.getElem?_eq_some_iff.mp hfl).1
  have tk2 : TK hp hp2 := (TK.app _ _).trans (TK.set hfl1 (fun vs => nofun))
  have hc1 : Chans hp1 c x w := show hp1[c]? = _ from app_get _ hc
  have hc2 : Chans hp2 c x w := chans_set hc1 hfl1 (fun _ _ => nofun)
  have hw2 : hp2[w]? = some (.lst ms) := by
    show (hp1.set fl _)[w]? = _
    rw [List.getElem?_set_ne hwf.symm]; exact app_get _ hw
  have hr2 := hr.mono tk2
  have hv2 := hv.mono tk2
  have s1 : sExpr (eMeth isLst fAppend (eV 4) (vCons (eTup (vCons (e2 oIdx (eV 5) (eC (.int 0))) (vCons (e2 oIdx (eV 5) (eC (.int 4))) (vCons (eV 3) vNil)))) vNil))
      [some (.loc c), some (.str k), some (.int n), some (.loc T), some (.loc fl), some v] hp = some (.next, [some (.loc c), some (.str k), some (.int n), some (.loc T), some (.loc fl), some v], hp2) := by
    have ha := append_new (m := .loc hp.length) hfl1 hl2
    simp only [sExpr, eMeth, eV, isLst_at hfl, vCons, vNil, eTup, e2, eC, idx_who hv, idx_case hv, mkTup, Option.bind_some, List.getElem?_cons_succ, List.getElem?_cons_zero, List.length_cons, List.length_nil]
    rw [if_pos (by unfold cap; omega)]
    simp only [Option.bind_some]
    show (fAppend [.loc fl, .loc hp.length] hp1).bind _ = _
    rw [ha]
    rfl

  obtain ⟨hp3, w3, ms3, l1, l2, l3, l4, l5, l6⟩ := lg_run (g := r.who) hc2 hw2 hr2 hl1
  have s2 : sExpr (eMeth (isInst 37 704) lg (eV 0) (vCons (e2 oIdx (eV 5) (eC (.int 0))) vNil))
      [some (.loc c), some (.str k), some (.int n), some (.loc T), some (.loc fl), some v] hp2 = some (.next, [some (.loc c), some (.str k), some (.int n), some (.loc T), some (.loc fl), some v], hp3) := by
    simp only [sExpr, eMeth, eV, isInst_ch (i := 37) hc2 (by decide) (by decide), vCons, vNil, e2, eC, idx_who hv2, Option.bind_some, List.getElem?_cons_succ, List.getElem?_cons_zero, l1]

  have ho3 : ∀ q ∈ (rs.filter fun q => !(q.who == r.who)), q.ok := fun q hq => ho q ((List.mem_filter.mp hq).1)
  obtain ⟨v3, f1, f2⟩ := fw_run (n := n) l2 hk l3 l4 ho3
  have s3 : sVar 5 (eMeth (isInst 18 704) fw (eV 0) (vCons (eV 1) (vCons (eV 2) vNil)))
      [some (.loc c), some (.str k), some (.int n), some (.loc T), some (.loc fl), some v] hp3 = some (.next, [some (.loc c), some (.str k), some (.int n), some (.loc T), some (.loc fl), some v3], hp3) := by
    simp only [sVar, eMeth, eV, isInst_ch (i := 18) l2 (by decide) (by decide), vCons, vNil, Option.bind_some, List.getElem?_cons_succ, List.getElem?_cons_zero, f2]
    rfl
  have hcf : c ≠ fl := fun q => by
    have h' : hp[c]? = some (.inst 704 [(6, .loc x), (70, .loc w)]) := hc
    rw [q, hfl] at h'; cases h'
  have hfl2 : hp2[fl]? = some (.lst (out ++ [.loc hp.length])) := List.getElem?_set_self hltf
  have hfl3 : hp3[fl]? = some (.lst (out ++ [.loc hp.length])) := l5 fl _ (by simp [hcf.symm]) hfl2
  have tk3 : TK hp2 hp3 := TK.kp l5 (fun i hi vs e => by
    rw [List.mem_singleton.mp hi] at e
    have h' : hp2[c]? = some (.inst 704 [(6, .loc x), (70, .loc w)]) := hc2
    rw [h'] at e; cases e)
  have htup : hp2[hp.length]? = some (.tup [.int r.who, .int r.case, .loc T]) := by
    show (hp1.set fl _)[hp.length]? = _
    rw [List.getElem?_set_ne (by omega)]
    exact app_last hp _ []
  have hl2' : fl < hp2.length := (List.getElem?_eq_some_iff.mp hfl2).1
  refine ⟨v3, hp3, w3, ms3, out ++ [.loc hp.length], ?_, l2, l3, l4, hfl3, by omega, ((hout.mono tk2).snoc (o := (r.who, r.case)) htup).mono tk3, f1, ?_⟩
  · unfold enBody
    exact (seq_next s1).trans ((seq_next s2).trans ((seq_next s3).trans rfl))
  · exact (((Kp.app [c, fl] hp _).trans (Kp.set _ (by simp))).trans (l5.mono (by simp)))

theorem filter_lt {rs : List Row} {p : Row → Bool} {r : Row} (h : rs.find? p = some r) : (rs.filter fun q => !(q.who == r.who)).length < rs.length := by
  refine List.length_filter_lt_length_iff_exists.mpr ⟨r, List.mem_of_find?_eq_some h, by simp⟩

theorem en_go {c x fl T : Nat} {k : Str} {n : Int} (hk : strOk k) : ∀ (j : Nat) {hp : MHeap} {w : Nat} {ms out : List MV} {rs : List Row} {os : List (Int × Int)} {v : MV}, Chans hp c x w → hp[w]? = some (.lst ms) → RowsAt hp ms rs → (∀ r ∈ rs, r.ok) →
    hp[fl]? = some (.lst out) → w ≠ fl → OutAt hp T out os → FoundAt hp v (rs.find? (isP k n)) → rs.length ≤ j → out.length + rs.length ≤ 100 →
    ∃ v' hp' w' ms' out', whL (tP (e2 notNone (eV 5) (eC .none))) enBody j [some (.loc c), some (.str k), some (.int n), some (.loc T), some (.loc fl), some v] hp = some (.next, [some (.loc c), some (.str k), some (.int n), some (.loc T), some (.loc fl), some v'], hp') ∧
      Chans hp' c x w' ∧ hp'[w']? = some (.lst ms') ∧ RowsAt hp' ms' (endedN k n j rs).2 ∧ hp'[fl]? = some (.lst out') ∧ OutAt hp' T out' (os ++ (endedN k n j rs).1) ∧ Kp [c, fl] hp hp' := by
  refine nat_step fun j ih => ?_
  intro hp w ms out rs os v hc hw hr ho hfl hwf hout hv hj hl
  cases hfd : rs.find? (isP k n) with
  | none =>
    rw [hfd] at hv
    cases hv
    refine ⟨.none, hp, w, ms, out, ?_, hc, hw, ?_, hfl, ?_, Kp.refl _ _⟩
    · unfold whL
      simp [tP, e2, notNone, isN, eV, eC, tOf]
    · cases j <;> simp only [endedN, hfd] <;> exact hr
    · cases j <;> simp only [endedN, hfd, List.append_nil] <;> exact hout
  | some r =>
    rw [hfd] at hv
    have hv' : RowAt hp v r := hv
    have hlt := filter_lt hfd
    cases j with
    | zero => omega
    | succ j =>
      have hm := hr.len
      obtain ⟨v', hp', w', ms', out', b1, b2, b3, b4, b5, b6, b7, b8, b9⟩ := en_body hc hk hw hr ho hfl hwf hout hv' (by unfold cap; omega) (by unfold cap; omega)
      have hol := b7.len
      have hol2 := hout.len
      simp only [List.length_append, List.length_cons, List.length_nil] at hol
      obtain ⟨v2, hp2, w2, ms2, out2, d1, d2, d3, d4, d5, d6, d7⟩ := ih j rfl b2 b3 b4 (fun q hq => ho q ((List.mem_filter.mp hq).1)) b5 b6 b7 b8 (by omega) (by omega)
      refine ⟨v2, hp2, w2, ms2, out2, ?_, d2, d3, ?_, d5, ?_, b9.trans d7⟩
      · obtain ⟨tv, rfl, _⟩ := hv'
        unfold whL
        simp only [tP, e2, notNone, isN, Bool.not_false, eV, eC, tOf, Option.bind_some, List.getElem?_cons_succ, List.getElem?_cons_zero]
        rw [b1]
        exact d1
      · simp only [endedN, hfd]; exact d4
      · simp only [endedN, hfd]
        rw [List.append_assoc] at d6
        exact d6
end Mine
end

section
open PySem PySem.W PySem.Calls PyProof.Rows
set_option maxRecDepth 100000
set_option maxHeartbeats 1000000
namespace Mine

theorem ended_run {hp : MHeap} {c x w T : Nat} {k : Str} {n : Int} {ms : List MV} {rs : List Row} (hc : Chans hp c x w) (hk : strOk k) (hw : hp[w]? = some (.lst ms)) (hr : RowsAt hp ms rs) (ho : ∀ r ∈ rs, r.ok) (hl : rs.length ≤ 50) :
    ∃ fl hp' w' ms' out, D_PlainChannels_ended.1 [.loc c, .str k, .int n, .loc T] hp = some (.loc fl, hp') ∧ Chans hp' c x w' ∧ hp'[w']? = some (.lst ms') ∧ RowsAt hp' ms' (endedN k n 60 rs).2 ∧
      hp'[fl]? = some (.lst out) ∧ OutAt hp' T out (endedN k n 60 rs).1 ∧ Kp [c] hp hp' := by
  have hc1 : Chans (hp ++ [MObj.lst []]) c x w := show (hp ++ [MObj.lst []])[c]? = _ from app_get _ hc
  have hw1 : (hp ++ [MObj.lst []])[w]? = some (.lst ms) := app_get _ hw
  have hr1 : RowsAt (hp ++ [MObj.lst []]) ms rs := hr.mono (TK.app _ _)
  obtain ⟨v, f1, f2⟩ := fw_run (n := n) hc1 hk hw1 hr1 ho
  let hp2 := (hp ++ [MObj.lst []]) ++ [MObj.tup [.loc hp.length, v]]
  have hc2 : Chans hp2 c x w := show hp2[c]? = _ from app_get _ hc1
  have hw2 : hp2[w]? = some (.lst ms) := app_get _ hw1
  have hwl := (List.getElem?_eq_some_iff.mp hw).1
  have hfl : hp2[hp.length]? = some (.lst []) := app_get _ (app_last hp _ [])
  have htl : hp2[hp.length + 1]? = some (.tup [.loc hp.length, v]) := by
    have h := app_last (hp ++ [MObj.lst []]) (.tup [.loc hp.length, v]) []
    rw [show (hp ++ [MObj.lst []]).length = hp.length + 1 by simp] at h
    exact h
  have hm := hr.len
  obtain ⟨v', hp', w', ms', out', e1', e2', e3, e4, e5, e6, e7⟩ := en_go (T := T) (fl := hp.length) hk 60 hc2 hw2 (hr1.mono (TK.app _ _)) ho hfl (by omega) rfl (f1.mono (TK.app _ _)) (by omega) (by simp; omega)
  refine ⟨hp.length, hp', w', ms', out', ?_, e2', e3, e4, e5, by simpa using e6, ?_⟩
  · unfold D_PlainChannels_ended
    dsimp only
    refine run_ret rfl (l := [some (.loc c), some (.str k), some (.int n), some (.loc T), some (.loc hp.length), some v']) ((seq_next (l := [some (.loc c), some (.str k), some (.int n), some (.loc T), some (.loc hp.length), some v]) (h := hp2) ?_).trans ((seq_next e1').trans (seq_ret rfl)))
    have hf2 : (eMeth (isInst 18 704) fw (eV 0) (vCons (eV 1) (vCons (eV 2) vNil))) [some (.loc c), some (.str k), some (.int n), some (.loc T), none, none] (hp ++ [MObj.lst []]) = some (v, hp ++ [MObj.lst []]) := by
      simp only [eMeth, eV, isInst_ch (i := 18) hc1 (by decide) (by decide), vCons, vNil, Option.bind_some, List.getElem?_cons_succ, List.getElem?_cons_zero, f2]
    have htup : eTup (vCons (eLst vNil) (vCons (eMeth (isInst 18 704) fw (eV 0) (vCons (eV 1) (vCons (eV 2) vNil))) vNil)) [some (.loc c), some (.str k), some (.int n), some (.loc T), none, none] hp = some (.loc (hp.length + 1), hp2) := by
      have hm0 : mkLst ([], hp) = some (.loc hp.length, hp ++ [MObj.lst []]) := by simp [mkLst]
      simp only [eTup, vCons, eLst, vNil, Option.bind_some, hm0, hf2]
      simp [mkTup, cap, hp2]
    show sSwp [4, 5] _ [some (.loc c), some (.str k), some (.int n), some (.loc T), none, none] hp = _
    unfold sSwp
    have htup' := htup
    rw [show (eTup (vCons (eLst vNil) (vCons (eMeth (isInst 18 704) fw (eV 0) (vCons (eV 1) (vCons (eV 2) vNil))) vNil)) [some (.loc c), some (.str k), some (.int n), some (.loc T), none, none] hp) = _ from htup']
    simp only [Option.bind_some, locOf, at_tup htl]
    rfl
  · intro i o hi he
    have hil := (List.getElem?_eq_some_iff.mp he).1
    refine e7 i o ?_ (app_get _ (app_get _ he))
    simp only [List.mem_cons, List.not_mem_nil, or_false] at hi ⊢
    omega

noncomputable def dueR (k : Str) (n : Int) : List Row → List (Int × Int) → List (Int × Int)
  | [], acc => acc
  | r :: rs, acc => if isP k n r && !(acc.any fun o => o.1 == r.who) then dueR k n rs (acc ++ [(r.who, r.case)]) else dueR k n rs acc

theorem filter_tt (rs : List Row) : rs.filter (fun _ => true) = rs := List.filter_eq_self.mpr fun _ _ => rfl
theorem find_skip {k : Str} {n : Int} {r : Row} (h : isP k n r = false) (rs : List Row) : (r :: rs).find? (isP k n) = rs.find? (isP k n) := by
  rw [List.find?_cons, h]
theorem ended_skip {k : Str} {n : Int} {r : Row} (h : isP k n r = false) : ∀ (j : Nat) (rs : List Row), (endedN k n j (r :: rs)).1 = (endedN k n j rs).1
  | 0, rs => rfl
  | j + 1, rs => by
    unfold endedN
    rw [find_skip h]
    cases hf : rs.find? (isP k n) with
    | none => rfl
    | some q =>
      dsimp only
      rw [List.filter_cons]
      split
      · rw [ended_skip h j]
      · rfl
theorem ended_rows {k : Str} {n : Int} : ∀ (j : Nat) (rs : List Row), (endedN k n j rs).2 = rs.filter fun q => !((endedN k n j rs).1.any fun o => o.1 == q.who)
  | 0, rs => by
    have : ∀ rs : List Row, rs = rs.filter fun q => !(([] : List (Int × Int)).any fun o => o.1 == q.who) := fun rs => (filter_tt rs).symm
    exact this rs
  | j + 1, rs => by
    unfold endedN
    cases hf : rs.find? (isP k n) with
    | none => exact (filter_tt rs).symm
    | some q =>
      dsimp only
      rw [ended_rows j, List.filter_filter]
      congr 1
      funext r
      rw [List.any_cons, Bool.not_or, Bool.and_comm]
      congr 1
      congr 1
      exact Bool.eq_iff_iff.mpr (by simp only [beq_iff_eq]; exact ⟨Eq.symm, Eq.symm⟩)
theorem ended_fuel {k : Str} {n : Int} : ∀ (j i : Nat) (rs : List Row), rs.length ≤ j → rs.length ≤ i → endedN k n j rs = endedN k n i rs
  | j, i, [], _, _ => by cases j <;> cases i <;> rfl
  | 0, _, _ :: _, h, _ => by simp at h
  | _, 0, _ :: _, _, h => by simp at h
  | j + 1, i + 1, r :: rs, h1, h2 => by
    unfold endedN
    cases hf : (r :: rs).find? (isP k n) with
    | none => rfl
    | some q =>
      dsimp only
      have := filter_lt hf
      rw [ended_fuel j i _ (by omega) (by omega)]
theorem due_ended {k : Str} {n : Int} : ∀ (j : Nat) (rs : List Row) (acc : List (Int × Int)), rs.length ≤ j → dueR k n rs acc = acc ++ (endedN k n j (rs.filter fun q => !(acc.any fun o => o.1 == q.who))).1
  | j, [], acc, _ => by cases j <;> simp [dueR, endedN]
  | j, r :: rs, acc, hj => by
    have hjl : rs.length + 1 ≤ j := by simpa using hj
    unfold dueR
    rw [List.filter_cons]
    cases hm : acc.any fun o => o.1 == r.who with
    | true =>
      simp only [Bool.not_true, Bool.and_false, Bool.false_eq_true, if_false]
      exact due_ended j rs acc (by omega)
    | false =>
      simp only [Bool.not_false, Bool.and_true, if_true]
      cases hp : isP k n r with
      | false =>
        simp only [Bool.false_eq_true, if_false]
        rw [ended_skip hp]
        exact due_ended j rs acc (by omega)
      | true =>
        simp only [if_true]
        cases j with
        | zero => omega
        | succ j =>
          have ih := due_ended (k := k) (n := n) j rs (acc ++ [(r.who, r.case)]) (by omega)
          rw [ih]
          have hfind : (r :: rs.filter fun q => !(acc.any fun o => o.1 == q.who)).find? (isP k n) = some r := by rw [List.find?_cons, hp]
          rw [endedN, hfind]
          dsimp only
          rw [List.append_assoc, List.filter_cons]
          simp only [beq_self_eq_true, Bool.not_true, Bool.false_eq_true, if_false, List.filter_filter]
          congr 1
          rw [List.singleton_append]
          congr 1
          congr 1
          congr 1
          congr 1
          funext q
          rw [List.any_append, Bool.not_or, Bool.and_comm]
          congr 1
          simp only [List.any_cons, List.any_nil, Bool.or_false]
          congr 1
          exact Bool.eq_iff_iff.mpr (by simp only [beq_iff_eq]; exact ⟨Eq.symm, Eq.symm⟩)
theorem due_all {k : Str} {n : Int} {rs : List Row} (h : rs.length ≤ 60) : dueR k n rs [] = (endedN k n 60 rs).1 := by
  rw [due_ended 60 rs [] h, List.nil_append]
  exact congrArg (fun l => (endedN k n 60 l).1) (filter_tt rs)
end Mine
end

section
open PySem PySem.W PySem.Calls PyProof.Rows
set_option maxRecDepth 100000
set_option maxHeartbeats 1000000
namespace Mine

noncomputable abbrev wnF := D__law_wound.1
noncomputable abbrev oneF := D__law_one.1
noncomputable abbrev wfF := D_PlainChannels_wait_for.1
noncomputable def sT : Str := Str.ofString "send"
noncomputable def tT : Str := Str.ofString "take"
noncomputable def vKinds : Locs → MHeap → Option (List MV × MHeap) := vCons (eC (.str sT)) (vCons (eC (.str tT)) vNil)
noncomputable def wDraw (m : Int) : EFun := eCall wnF (vCons (eV 0) (vCons (eC (.int m)) vNil))
noncomputable def wCase : SFun := sSeq (sExpr (eMeth isLst fAppend (eCV 6) (vCons (eTup (vCons (eCall oneF (vCons (eV 0) (vCons (eLst vKinds) vNil)))
  (vCons (eCall oneF (vCons (eV 0) (vCons (eLst (vCons (eC (.int 0)) (vCons (eC (.int 1)) (vCons (eC (.int 1)) (vCons (eC .none) vNil))))) vNil)))
    (vCons (e2 oAdd (e2 oMul (eC (.int 10)) (eV 4)) (eV 7)) vNil)))) vNil))) sNil
noncomputable def wElt : EFun := e2 oAdd (e2 oAdd (eTup (vCons (eCV 1) vNil)) (e2 oIdx (eCV 2) (eV 0))) (eTup (vCons (eV 0) vNil))
noncomputable def wTst : TFun := tP (e2 notNone (e2 oIdx (e2 oIdx (eCV 2) (eV 0)) (eC (.int 1))) (eC .none))
noncomputable def wNew : SFun := sSeq (sExpr (eMeth (isInst 69 704) wfF (eV 1) (vCons (eCV 5) (vCons (eCV 6) vNil))))
  (sSeq (sVar 2 (e2 oAdd (eV 2) (eComp [5, 6] (some wTst) wElt (eCall fRange (vCons (eCall fLen (vCons (eCV 6) vNil)) vNil))))) sNil)
noncomputable def wWho : EFun := eComp [] none (e2 oIdx (eV 0) (eC (.int 0))) (eV 2)
noncomputable def wTurn : SFun := sSeq (sUnp [aCV 5, aCV 6] (eTup (vCons (wDraw 5) (vCons (eLst vNil) vNil))))
  (sSeq (sFor (aVar 7) (eCall fRange (vCons (e2 oAdd (eC (.int 1)) (wDraw 2)) vNil)) wCase)
    (sSeq (sIf (tP (e2 oNotIn (eCV 5) wWho)) wNew sNil) sNil))
noncomputable def wTurns : SFun := sFor (aVar 4) (eCall fRange (vCons (wDraw 6) vNil)) wTurn
noncomputable def wBad : SFun := sSeq (sRet (eC (.bool false))) sNil
noncomputable def wCheck : SFun := sIf (tP (e2 oNe (eAttr 70 [209, 704] (eV 1)) (eV 2))) wBad sNil
noncomputable def wSome : EFun := eComp [8, 9] (some (tP (e2 oEq (eSl 1 (some 3) (eV 0)) (eTup (vCons (eCV 1) (vCons (eCV 2) vNil)))))) (eV 0) (eV 2)
noncomputable def wKind : SFun := sSeq (sVar 10 wSome)
  (sSeq (sIf (tP (e2 oNe (eMeth (isInst 18 704) fw (eV 1) (vCons (eCV 8) (vCons (eCV 9) vNil))) (e2 oIdx (e2 oAdd (eV 10) (eLst (vCons (eC .none) vNil))) (eC (.int 0))))) wBad sNil) sNil)
noncomputable def wKinds : SFun := sFor (aCV 8) (eLst vKinds) (sSeq (sFor (aCV 9) (eCall fRange (vCons (eC (.int 2)) vNil)) wKind) sNil)
noncomputable def wUnp : SFun := sUnp [aCV 11, aCV 8, aCV 9] (eTup (vCons (wDraw 6) (vCons (eCall oneF (vCons (eV 0) (vCons (eLst vKinds) vNil))) (vCons (wDraw 2) vNil))))
noncomputable def wGo : SFun := sExpr (eMeth (isInst 37 704) lg (eV 1) (vCons (eCV 11) vNil))
noncomputable def wBook2 : SFun := sVar 2 (eComp [11] (some (tP (e2 oNe (e2 oIdx (eV 0) (eC (.int 0))) (eCV 1)))) (eV 0) (eV 2))
noncomputable def wOver : EFun := eTup (vCons (eC (.str (Str.ofString "over"))) vNil)
noncomputable def wDueB : SFun := sSeq (sIf (tAnd (tP (e2 oEq (eSl 1 (some 3) (eV 13)) (eTup (vCons (eCV 8) (vCons (eCV 9) vNil)))))
    (tP (e2 oNotIn (e2 oIdx (eV 13) (eC (.int 0))) (eComp [] none (e2 oIdx (eV 0) (eC (.int 0))) (eCV 12)))))
  (sSeq (sExpr (eMeth isLst fAppend (eCV 12) (vCons (eTup (vCons (e2 oIdx (eV 13) (eC (.int 0))) (vCons (e2 oIdx (eV 13) (eC (.int 4))) (vCons wOver vNil)))) vNil))) sNil) sNil) sNil
noncomputable def wDue : SFun := sFor (aVar 13) (eV 2) wDueB
noncomputable def wEnd : SFun := sIf (tP (e2 oNe (eMeth (isInst 16 704) D_PlainChannels_ended.1 (eV 1) (vCons (eCV 8) (vCons (eCV 9) (vCons wOver vNil)))) (eCV 12))) wBad sNil
noncomputable def wFin : SFun := sRet (e2 oEq (eAttr 70 [209, 704] (eV 1)) (eComp [12] (some (tP (e2 oNotIn (e2 oIdx (eV 0) (eC (.int 0))) (eComp [] none (e2 oIdx (eV 0) (eC (.int 0))) (eCV 1))))) (eV 0) (eV 2)))
noncomputable def wRest : SFun := sSeq wTurns (sSeq wCheck (sSeq wKinds (sSeq wUnp (sSeq wGo (sSeq wBook2 (sSeq wCheck (sSeq (sCV 12 (eLst vNil)) (sSeq wDue (sSeq wEnd (sSeq wFin sNil))))))))))

noncomputable def wLoc0 : Locs := [some (.loc 0), none, none, none, none, some (.loc 6), some (.loc 5), none, some (.loc 4), some (.loc 3), none, some (.loc 2), some (.loc 1), none]
noncomputable def wHp0 (x y : Int) : MHeap := [.lst [.int x, .int y], .cel none, .cel none, .cel none, .cel none, .cel none, .cel none]
noncomputable def wHp1 (x y : Int) : MHeap := [.lst [.int x, .int y], .cel none, .cel none, .cel none, .cel none, .cel none, .cel none, .inst 704 [(6, .loc 8), (70, .loc 9)], .lst [.loc 13, .loc 15], .lst [], .lst [], .tup [.loc 7, .loc 10], .rng 2,
  .inst 587 [(52, .int 0), (29, .loc 14), (31, .bool false)], .lst [], .inst 587 [(52, .int 1), (29, .loc 16), (31, .bool false)], .lst []]

noncomputable def wL (b : Nat) (x3 x4 x7 x10 x13 : Option MV) : Locs := [some (.loc 0), some (.loc 7), some (.loc b), x3, x4, some (.loc 6), some (.loc 5), x7, some (.loc 4), some (.loc 3), x10, some (.loc 2), some (.loc 1), x13]
noncomputable def wHpA (x y : Int) : MHeap := [.lst [.int x, .int y], .cel none, .cel none, .cel none, .cel none, .cel none, .cel none, .inst 704 [(6, .loc 8), (70, .loc 9)], .lst [], .lst [], .lst [], .tup [.loc 7, .loc 10]]
noncomputable def wLocA : Locs := [some (.loc 0), some (.loc 7), some (.loc 10), none, none, some (.loc 6), some (.loc 5), none, some (.loc 4), some (.loc 3), none, some (.loc 2), some (.loc 1), none]
theorem w_form : ∃ A B, D__law_waits_right.1 = fnRunC 1 [] 13 [12, 11, 9, 8, 6, 5] (sSeq A (sSeq B wRest)) ∧ (∀ x y, A wLoc0 (wHp0 x y) = some (.next, wLocA, wHpA x y)) ∧ ∀ x y, B wLocA (wHpA x y) = some (.next, wL 10 (some (.int 1)) none none none none, wHp1 x y) := by
  refine' ⟨?A, ?B, ?h1, ?h2, ?h3⟩
  rotate_left 2
  · unfold D__law_waits_right
    dsimp only
    exact rfl
  · intro x y; kernel_rfl
  · intro x y; kernel_rfl
end Mine
end

section
open PySem PySem.W PySem.Calls PyProof.Rows
set_option maxRecDepth 100000
set_option maxHeartbeats 1000000
namespace Mine

structure Deed where
  kind : Str
  num : Option Int
  val : Int
noncomputable def numM : Option Int → MV
  | none => .none
  | some n => .int n
noncomputable def DeedAt (hp : MHeap) (m : MV) (q : Deed) : Prop := ∃ t, m = .loc t ∧ hp[t]? = some (.tup [.str q.kind, numM q.num, .int q.val])
noncomputable def DeedsAt (hp : MHeap) : List MV → List Deed → Prop
  | [], qs => qs = []
  | m :: ms, qs => ∃ q r, qs = q :: r ∧ DeedAt hp m q ∧ DeedsAt hp ms r
theorem DeedsAt.mono {hp hp' : MHeap} (k : TK hp hp') : ∀ {ms : List MV} {qs : List Deed}, DeedsAt hp ms qs → DeedsAt hp' ms qs
  | [], _, h => h
  | _ :: _, _, ⟨q, r, e, ⟨t, e2, a⟩, b⟩ => ⟨q, r, e, ⟨t, e2, k t _ a⟩, DeedsAt.mono k b⟩
theorem DeedsAt.len {hp : MHeap} : ∀ {ms : List MV} {qs : List Deed}, DeedsAt hp ms qs → ms.length = qs.length
  | [], _, h => by cases h; rfl
  | _ :: _, _, ⟨q, r, e, a, b⟩ => by subst e; simp [DeedsAt.len b]
theorem DeedsAt.snoc {hp : MHeap} {m : MV} {q : Deed} (h : DeedAt hp m q) : ∀ {ms : List MV} {qs : List Deed}, DeedsAt hp ms qs → DeedsAt hp (ms ++ [m]) (qs ++ [q])
  | [], _, k => by cases k; exact ⟨q, [], rfl, h, rfl⟩
  | _ :: _, _, ⟨q', r, e, a, b⟩ => by subst e; exact ⟨q', r ++ [q], rfl, a, DeedsAt.snoc h b⟩
theorem DeedsAt.get {hp : MHeap} : ∀ {ms : List MV} {qs : List Deed} {i : Nat} {q : Deed}, DeedsAt hp ms qs → qs[i]? = some q → ∃ m, ms[i]? = some m ∧ DeedAt hp m q
  | [], _, _, _, h, e => by cases h; simp at e
  | m :: _, _, 0, _, ⟨q, r, e, a, b⟩, h => by subst e; cases h; exact ⟨m, rfl, a⟩
  | _ :: _, _, i + 1, _, ⟨q, r, e, a, b⟩, h => by
    subst e
    obtain ⟨m, h1, h2⟩ := DeedsAt.get b (by simpa using h)
    exact ⟨m, by simpa using h1, h2⟩
noncomputable def Deed.ok (q : Deed) : Prop := strOk q.kind

structure WSt (hp : MHeap) (b w : Nat) (rs rb : List Row) : Prop where
  reel : ∃ x y, rOk x y ∧ hp[0]? = some (.lst [.int x, .int y])
  cells : ∀ i, 1 ≤ i → i ≤ 6 → ∃ m, hp[i]? = some (.cel m)
  ch : Chans hp 7 8 w
  wl : ∃ ws, hp[w]? = some (.lst ws) ∧ RowsAt hp ws rs
  bl : ∃ bs, hp[b]? = some (.lst bs) ∧ RowsAt hp bs rb
  ok : ∀ r ∈ rs, r.ok
  okb : ∀ r ∈ rb, r.ok
  ne : w ≠ b
  w0 : 0 < w
  b0 : 0 < b

section
variable {hp : MHeap} {b w : Nat} {rs rb : List Row}
theorem WSt.app (h : WSt hp b w rs rb) (g : MHeap) : WSt (hp ++ g) b w rs rb := by
  obtain ⟨⟨x, y, h1, h2⟩, h3, h4, ⟨ws, h5, h6⟩, ⟨bs, h7, h8⟩, h9, h9b, h10, h11, h12⟩ := h
  exact ⟨⟨x, y, h1, app_get g h2⟩, fun i a c => let ⟨m, e⟩ := h3 i a c; ⟨m, app_get g e⟩, show (hp ++ g)[7]? = _ from app_get g h4, ⟨ws, app_get g h5, h6.mono (TK.app _ _)⟩, ⟨bs, app_get g h7, h8.mono (TK.app _ _)⟩, h9, h9b, h10, h11, h12⟩
theorem WSt.set (h : WSt hp b w rs rb) {i : Nat} {o o' : MObj} (hi : hp[i]? = some o) (ht : ∀ vs, o ≠ .tup vs) (h7 : i ≠ 7) (hw : i ≠ w) (hb : i ≠ b) (h0 : i = 0 → ∃ x y, rOk x y ∧ o' = .lst [.int x, .int y]) (hc : 1 ≤ i → i ≤ 6 → ∃ m, o' = .cel m) : WSt (hp.set i o') b w rs rb := by
  obtain ⟨⟨x, y, h1, h2⟩, h3, h4, ⟨ws, h5, h6⟩, ⟨bs, h7', h8⟩, h9, h9b, h10, h11, h12⟩ := h
  have hlt := (List.getElem?_eq_some_iff.mp hi).1
  have tk : TK hp (hp.set i o') := TK.set hi ht
  refine ⟨?_, ?_, ?_, ⟨ws, by rw [List.getElem?_set_ne hw]; exact h5, h6.mono tk⟩, ⟨bs, by rw [List.getElem?_set_ne hb]; exact h7', h8.mono tk⟩, h9, h9b, h10, h11, h12⟩
  · by_cases e : i = 0
    · obtain ⟨x', y', r, rfl⟩ := h0 e
      subst e
      exact ⟨x', y', r, List.getElem?_set_self hlt⟩
    · exact ⟨x, y, h1, by rw [List.getElem?_set_ne e]; exact h2⟩
  · intro j a c
    by_cases e : i = j
    · subst e
      obtain ⟨m, rfl⟩ := hc a c
      exact ⟨m, List.getElem?_set_self hlt⟩
    · obtain ⟨m, e2⟩ := h3 j a c
      exact ⟨m, by rw [List.getElem?_set_ne e]; exact e2⟩
  · show (hp.set i o')[7]? = _
    rw [List.getElem?_set_ne h7]; exact h4
theorem kp_get {S : List Nat} {hp hp' : MHeap} {i : Nat} {o : MObj} (k : Kp S hp hp') (hi : i ∉ S) (e : hp[i]? = some o) : hp'[i]? = some o := k i o hi e

theorem draw_run (h : WSt hp b w rs rb) {m : Int} (hm : 0 < m) (hm2 : m ≤ 64) : ∃ n hp', wnF [.loc 0, .int m] hp = some (.int n, hp') ∧ 0 ≤ n ∧ n < m ∧ WSt hp' b w rs rb ∧ Kp [0] hp hp' ∧ hp'.length = hp.length ∧ TK hp hp' := by
  obtain ⟨x, y, h1, h2⟩ := h.reel
  have hw := wound_WndF 0 hp x y m h1 hm hm2 h2
  refine ⟨_, _, hw, (wnd_bound hm).1, (wnd_bound hm).2, h.set h2 (fun _ => nofun) (by decide) (Nat.ne_of_lt h.w0) (Nat.ne_of_lt h.b0) (fun _ => ⟨_, _, wnd_ok h1 hm, rfl⟩) (fun a => by omega), Kp.set _ (.head _), by simp, TK.set h2 (fun _ => nofun)⟩
theorem wDraw_run (h : WSt hp b w rs rb) {m : Int} (hm : 0 < m) (hm2 : m ≤ 64) {loc : Locs} (hl : loc[0]? = some (some (.loc 0))) : ∃ n hp', wDraw m loc hp = some (.int n, hp') ∧ 0 ≤ n ∧ n < m ∧ WSt hp' b w rs rb ∧ Kp [0] hp hp' ∧ hp'.length = hp.length ∧ TK hp hp' := by
  obtain ⟨n, hp', h1, h2⟩ := draw_run h hm hm2
  refine ⟨n, hp', ?_, h2⟩
  simp only [wDraw, eCall, vCons, vNil, eV, hl, eC, Option.bind_some]
  exact h1
theorem idx_lst {hp : MHeap} {t : Nat} {ms : List MV} {k : Int} {m : MV} (h : hp[t]? = some (.lst ms)) (h0 : 0 ≤ k) (h1 : k < 1000) (hk : ms[k.toNat]? = some m) : oIdx (.loc t) (.int k) hp = some (m, hp) := by
  refine idx_at h ((show idxO k (.lst ms) = if 0 ≤ k ∧ k < 2 ^ 63 then ms[k.toNat]? else none from rfl).trans ?_)
  rw [if_pos (by omega)]
  exact hk
theorem one_run (h : WSt hp b w rs rb) {t : Nat} {ms : List MV} (ht : hp[t]? = some (.lst ms)) (ht0 : t ≠ 0) (h1 : 0 < ms.length) (h2 : ms.length ≤ 64) : ∃ m hp', oneF [.loc 0, .loc t] hp = some (m, hp') ∧ m ∈ ms ∧ WSt hp' b w rs rb ∧ Kp [0] hp hp' ∧ hp'.length = hp.length ∧ TK hp hp' := by
  obtain ⟨n, hp', e, a1, a2, a3, a4, a5, a6⟩ := draw_run h (m := (ms.length : Int)) (by omega) (by omega)
  have ht' : hp'[t]? = some (.lst ms) := kp_get a4 (by simp [ht0]) ht
  have hn : n.toNat < ms.length := by omega
  have hidx := idx_lst ht' a1 (by omega) (List.getElem?_eq_getElem hn)
  refine ⟨ms[n.toNat], hp', ?_, List.getElem_mem hn, a3, a4, a5, a6⟩
  unfold oneF D__law_one
  dsimp only
  refine run_ret rfl (l := [some (.loc 0), some (.loc t)]) (seq_ret ?_)
  have hlen : fLen [.loc t] hp = some (.int ms.length, hp) := by
    exact len_at ht rfl (by unfold cap; omega)
  have hc : eCall wnF (vCons (eV 0) (vCons (eCall fLen (vCons (eV 1) vNil)) vNil)) [some (.loc 0), some (.loc t)] hp = some (.int n, hp') := by
    simp only [eCall, vCons, vNil, eV, Option.bind_some, List.getElem?_cons_succ, List.getElem?_cons_zero, hlen]
    exact e
  show sRet (e2 oIdx (eV 1) (eCall wnF (vCons (eV 0) (vCons (eCall fLen (vCons (eV 1) vNil)) vNil)))) [some (.loc 0), some (.loc t)] hp = _
  unfold sRet e2
  simp only [eV, Option.bind_some, List.getElem?_cons_succ, List.getElem?_cons_zero]
  rw [hc]
  simp only [Option.bind_some]
  rw [hidx]
  rfl
theorem oneOf_run (h : WSt hp b w rs rb) {ms : List MV} {vs : Locs → MHeap → Option (List MV × MHeap)} {loc : Locs} (hv : vs loc hp = some (ms, hp)) (hl : loc[0]? = some (some (.loc 0))) (h1 : 0 < ms.length) (h2 : ms.length ≤ 64) :
    ∃ m hp', eCall oneF (vCons (eV 0) (vCons (eLst vs) vNil)) loc hp = some (m, hp') ∧ m ∈ ms ∧ WSt hp' b w rs rb ∧ Kp [0] hp hp' ∧ TK hp hp' ∧ hp.length ≤ hp'.length := by
  have h0 : 0 < hp.length := by
    obtain ⟨x, y, _, e⟩ := h.reel
    exact (List.getElem?_eq_some_iff.mp e).1
  obtain ⟨m, hp', a1, a2, a3, a4, a5, a6⟩ := one_run (h.app [.lst ms]) (t := hp.length) (app_last hp _ []) (by omega) h1 h2
  refine ⟨m, hp', ?_, a2, a3, (Kp.app [0] _ _).trans a4, (TK.app _ _).trans a6, by rw [a5]; simp⟩
  have hm : mkLst (ms, hp) = some (.loc hp.length, hp ++ [.lst ms]) := by
    unfold mkLst; rw [if_pos (by dsimp only; unfold cap; omega)]
  simp only [eCall, vCons, vNil, eV, hl, eLst, hv, Option.bind_some, hm]
  exact a1
end
theorem sT_ok : strOk sT := by show PyData.canLay0 (.str sT) = true; kernel_rfl
theorem tT_ok : strOk tT := by show PyData.canLay0 (.str tT) = true; kernel_rfl

theorem case_run {hp : MHeap} {b w d : Nat} {rs rb : List Row} {ds : List MV} {qs : List Deed} {x3 x10 x13 : Option MV} {tn cs : Int} (h : WSt hp b w rs rb) (h5 : hp[5]? = some (.cel (some (.loc d)))) (hd : hp[d]? = some (.lst ds)) (hq : DeedsAt hp ds qs)
    (dw : d ≠ w) (db : d ≠ b) (d0 : d ≠ 0) (hl : ds.length ≤ 10) (ht : 0 ≤ tn ∧ tn < 1000) :
    ∃ hp' ds' q, wCase (wL b x3 (some (.int tn)) (some (.int cs)) x10 x13) hp = some (.next, wL b x3 (some (.int tn)) (some (.int cs)) x10 x13, hp') ∧ WSt hp' b w rs rb ∧ hp'[d]? = some (.lst ds') ∧ DeedsAt hp' ds' (qs ++ [q]) ∧ q.ok ∧ Kp [0, d] hp hp' := by
  have hvk : vKinds (wL b x3 (some (.int tn)) (some (.int cs)) x10 x13) hp = some ([.str sT, .str tT], hp) := rfl
  obtain ⟨m1, hp1, a1, a2, a3, a4, a5, a6⟩ := oneOf_run h hvk rfl (by decide) (by decide)
  have hvn : (vCons (eC (.int 0)) (vCons (eC (.int 1)) (vCons (eC (.int 1)) (vCons (eC .none) vNil)))) (wL b x3 (some (.int tn)) (some (.int cs)) x10 x13) hp1 = some ([.int 0, .int 1, .int 1, .none], hp1) := rfl
  obtain ⟨m2, hp2, b1, b2, b3, b4, b5, b6⟩ := oneOf_run a3 hvn rfl (by decide) (by decide)
  have k2 : Kp [0] hp hp2 := a4.trans b4
  have tk2 : TK hp hp2 := a5.trans b5
  obtain ⟨k, hk, rfl⟩ : ∃ k, strOk k ∧ m1 = .str k := by
    simp only [List.mem_cons, List.not_mem_nil, or_false] at a2
    rcases a2 with rfl | rfl
    · exact ⟨_, sT_ok, rfl⟩
    · exact ⟨_, tT_ok, rfl⟩
  obtain ⟨nm, rfl⟩ : ∃ nm, m2 = numM nm := by
    simp only [List.mem_cons, List.not_mem_nil, or_false] at b2
    rcases b2 with rfl | rfl | rfl | rfl
    · exact ⟨some 0, rfl⟩
    · exact ⟨some 1, rfl⟩
    · exact ⟨some 1, rfl⟩
    · exact ⟨none, rfl⟩
  have hd2 : hp2[d]? = some (.lst ds) := kp_get k2 (by simp [d0]) hd
  have h7d : d ≠ 7 := fun e => by
    have h' : hp[7]? = some (.inst 704 [(6, .loc 8), (70, .loc w)]) := h.ch
    rw [e, h'] at hd; cases hd
  have hcd : ¬ (1 ≤ d ∧ d ≤ 6) := fun ⟨u, v⟩ => by
    obtain ⟨m, e⟩ := h.cells d u v
    rw [hd] at e; cases e
  let tp : MObj := .tup [.str k, numM nm, .int (10 * tn + cs)]
  have hd3 : (hp2 ++ [tp])[d]? = some (.lst ds) := app_get _ hd2
  have W3 := (b3.app [tp]).set (o' := .lst (ds ++ [.loc hp2.length])) hd3 (fun _ => nofun) h7d dw db (fun e => absurd e d0) (fun u v => absurd ⟨u, v⟩ hcd)
  have tk3 : TK (hp2 ++ [tp]) ((hp2 ++ [tp]).set d (.lst (ds ++ [.loc hp2.length]))) := TK.set hd3 (fun _ => nofun)
  have hlt : d < (hp2 ++ [tp]).length := (List.getElem?_eq_some_iff.mp hd3).1
  have hmul : mulOk 10 tn = true := mulOk_of (by decide) (by omega)
  refine ⟨_, ds ++ [.loc hp2.length], ⟨k, nm, 10 * tn + cs⟩, ?_, W3, List.getElem?_set_self hlt, ?_, hk, ?_⟩
  · unfold wCase
    refine (seq_next (l := wL b x3 (some (.int tn)) (some (.int cs)) x10 x13) (h := (hp2 ++ [tp]).set d (.lst (ds ++ [.loc hp2.length]))) ?_).trans rfl
    have hcv : eCV 6 (wL b x3 (some (.int tn)) (some (.int cs)) x10 x13) hp = some (.loc d, hp) := ecv_of rfl h5
    have hval : (e2 oAdd (e2 oMul (eC (.int 10)) (eV 4)) (eV 7)) (wL b x3 (some (.int tn)) (some (.int cs)) x10 x13) hp2 = some (.int (10 * tn + cs), hp2) := by
      exact (e2_of ((e2_of rfl rfl).trans (mul_int' hmul)) rfl).trans rfl
    have hap := append_new (m := .loc hp2.length) hd3 (by unfold cap; omega)
    simp only [sExpr, eMeth, hcv, Option.bind_some, isLst_at hd]
    simp only [vCons, eTup]
    rw [a1]
    simp only [Option.bind_some]
    rw [show (eCall oneF (vCons (eV 0) (vCons (eLst (vCons (eC (.int 0)) (vCons (eC (.int 1)) (vCons (eC (.int 1)) (vCons (eC .none) vNil))))) vNil))) (wL b x3 (some (.int tn)) (some (.int cs)) x10 x13) hp1 = _ from b1]
    simp only [Option.bind_some, hval, vNil]
    have hmk : mkTup ([.str k, numM nm, .int (10 * tn + cs)], hp2) = some (.loc hp2.length, hp2 ++ [tp]) := by simp [mkTup, cap, tp]
    rw [hmk]
    simp only [Option.bind_some]
    rw [hap]
    rfl
  · refine ((hq.mono tk2).mono (TK.app _ _)).mono tk3 |>.snoc ?_
    exact ⟨hp2.length, rfl, tk3 _ _ (app_last hp2 tp [])⟩
  · exact ((k2.mono (by simp)).trans (Kp.app _ _ _)).trans (Kp.set _ (by simp))
end Mine
end

section
open PySem PySem.W PySem.Calls PyProof.Rows
set_option maxRecDepth 100000
set_option maxHeartbeats 1000000
namespace Mine

theorem cases_go {b w d N : Nat} {rs rb : List Row} {x3 x10 x13 : Option MV} {tn : Int} (hN : N ≤ 10) (dw : d ≠ w) (db : d ≠ b) (d0 : d ≠ 0) (ht : 0 ≤ tn ∧ tn < 1000) : ∀ (j i : Nat) {hp : MHeap} {ds : List MV} {qs : List Deed} {x7 : Option MV},
    WSt hp b w rs rb → hp[5]? = some (.cel (some (.loc d))) → hp[d]? = some (.lst ds) → DeedsAt hp ds qs → (∀ q ∈ qs, q.ok) → j + i = N → qs.length = i →
    ∃ x7' hp' ds' qs', forL (aVar 7) wCase j (.rng i N) (wL b x3 (some (.int tn)) x7 x10 x13) hp = some (.next, wL b x3 (some (.int tn)) x7' x10 x13, hp') ∧ WSt hp' b w rs rb ∧ hp'[d]? = some (.lst ds') ∧ DeedsAt hp' ds' qs' ∧ (∀ q ∈ qs', q.ok) ∧ Kp [0, d] hp hp' ∧ qs'.length = N := by
  refine nat_step fun j ih => ?_
  intro i hp ds qs x7 h h5 hd hq hqo hj hl
  unfold forL
  by_cases hi : i < N
  · rw [rng_some hi]
    cases j with
    | zero => omega
    | succ j =>
      have hdl := hq.len
      obtain ⟨hp1, ds1, q, a1, a2, a3, a4, a5, a6⟩ := case_run (x3 := x3) (x10 := x10) (x13 := x13) (cs := (i : Int)) h h5 hd hq dw db d0 (by omega) ht
      have d5 : (5 : Nat) ≠ d := fun e => by rw [e, hd] at h5; cases h5
      have h51 : hp1[5]? = some (.cel (some (.loc d))) := kp_get a6 (by simp [d5]) h5
      obtain ⟨x7', hp', ds', qs', b1, b2, b3, b4, b5, b6, b7⟩ := ih j rfl (i + 1) (x7 := some (.int (i : Int))) a2 h51 a3 a4 (fun q' hq' => by
        rcases List.mem_append.mp hq' with z | z
        · exact hqo q' z
        · rw [List.mem_singleton.mp z]; exact a5) (by omega) (by simp [hl])
      refine ⟨x7', hp', ds', qs', ?_, b2, b3, b4, b5, a6.trans b6, b7⟩
      have hs : aVar 7 (.int (i : Int)) (wL b x3 (some (.int tn)) x7 x10 x13) hp = some (wL b x3 (some (.int tn)) (some (.int (i : Int))) x10 x13, hp) := rfl
      simp only [Option.bind_some, hs]
      rw [a1]
      exact b1
  · rw [rng_none hi]
    simp only [Option.bind_some]
    exact ⟨x7, hp, ds, qs, rfl, h, hd, hq, hqo, Kp.refl _ _, by omega⟩

theorem data_ints (n : Nat) (hp : MHeap) (is : List Int) : mapO (dataOf n hp) (is.map MV.int) = some (is.map PyData.int) := by
  induction is with
  | nil => rfl
  | cons i is ih =>
    show (dataOf n hp (.int i)).bind _ = _
    rw [data_int, ih]
    rfl
theorem notin_ints {hp : MHeap} {l : Nat} {is : List Int} {a : Int} (h : hp[l]? = some (.lst (is.map MV.int))) : oNotIn (.int a) (.loc l) hp = some (.bool !(is.any fun z => z == a), hp) := by
  have e : ((is.map PyData.int).any fun z => PyData.eqv z (.int a)) = is.any fun z => z == a := by
    rw [List.any_map]
    congr 1
  unfold oNotIn inL
  rw [data_int, data_lst h (data_ints _ _ _)]
  simp only [Option.bind_some, lstD, e]

noncomputable def FirstI (hp : MHeap) (m : MV) : Prop := ∃ t r, m = .loc t ∧ ∃ a : Int, hp[t]? = some (.tup (.int a :: r)) ∧ r.length < 1000
theorem FirstI.of_row {hp : MHeap} {m : MV} {r : Row} (h : RowAt hp m r) : FirstI hp m := by
  obtain ⟨t, rfl, e⟩ := h
  exact ⟨t, _, rfl, r.who, e, by simp⟩
theorem first_idx {hp hp' : MHeap} {m : MV} (h : FirstI hp m) (k : Kp [] hp hp') : oIdx m (.int 0) hp' = some (.int (whoOf hp m), hp') := by
  obtain ⟨t, r, rfl, a, e, hl⟩ := h
  have e' := k t _ List.not_mem_nil e
  have hw : whoOf hp (.loc t) = a := by simp [whoOf, e]
  rw [hw]
  exact idx_tup (k := 0) e' rfl (by simp; omega)
theorem whos_run {hp hp0 : MHeap} {loc : Locs} {gf : EFun} {l : Nat} {ms : List MV} (hg : gf loc hp = some (.loc l, hp0)) (hl : hp0[l]? = some (.lst ms)) (hf : ∀ m ∈ ms, FirstI hp0 m) (hc : ms.length ≤ cap) :
    ∃ g, eComp [] none (e2 oIdx (eV 0) (eC (.int 0))) gf loc hp = some (.loc hp0.length, hp0 ++ .lst ((ms.map (whoOf hp0)).map MV.int) :: g) := by
  obtain ⟨g, h⟩ := comp_seq (is := []) (t := none) (f := e2 oIdx (eV 0) (eC (.int 0))) (p := fun _ => true) (val := fun m => .int (whoOf hp0 m)) hg hl (fun m hm hp' k => ⟨[], by simp [condT]⟩)
    (fun m hm hp' k => ⟨[], by simp [e2, eV, eC, first_idx (hf m hm) k]⟩) hc
  refine ⟨g, ?_⟩
  rw [h]
  have : ms.filter (fun _ => true) = ms := List.filter_eq_self.mpr fun _ _ => rfl
  rw [this, List.map_map]
  rfl

noncomputable def deedRows (who : Int) : Nat → List Deed → List Row
  | _, [] => []
  | i, q :: qs => match q.num with
    | none => deedRows who (i + 1) qs
    | some n => ⟨who, q.kind, n, q.val, i⟩ :: deedRows who (i + 1) qs
theorem deedRows_ok {who : Int} : ∀ {i : Nat} {qs : List Deed}, (∀ q ∈ qs, q.ok) → ∀ r ∈ deedRows who i qs, r.ok
  | _, [], _, _, h => nomatch h
  | i, q :: qs, hq, r, h => by
    unfold deedRows at h
    cases hn : q.num with
    | none => rw [hn] at h; exact deedRows_ok (fun q' z => hq q' (.tail _ z)) r h
    | some n =>
      rw [hn] at h
      rcases List.mem_cons.mp h with rfl | h
      · exact hq q (.head _)
      · exact deedRows_ok (fun q' z => hq q' (.tail _ z)) r h
theorem deedRows_len {who : Int} : ∀ (i : Nat) (qs : List Deed), (deedRows who i qs).length ≤ qs.length
  | _, [] => Nat.le_refl _
  | i, q :: qs => by
    unfold deedRows
    have := deedRows_len (who := who) (i + 1) qs
    cases q.num <;> simp <;> omega

theorem WSt.push {hp : MHeap} {b w : Nat} {rs rb : List Row} (h : WSt hp b w rs rb) {r : Row} (hr : r.ok) {ws : List MV} (hw : hp[w]? = some (.lst ws)) : WSt ((hp ++ [MObj.tup (rowM r)]).set w (MObj.lst (ws ++ [MV.loc hp.length]))) b w (rs ++ [r]) rb := by
  obtain ⟨⟨x, y, h1, h2⟩, h3, h4, ⟨ws', h5, h6⟩, ⟨bs, h7', h8⟩, h9, h9b, h10, h11, h12⟩ := h
  rw [hw] at h5; cases h5
  have hw1 : (hp ++ [MObj.tup (rowM r)])[w]? = some (.lst ws) := app_get _ hw
  have hlt : w < (hp ++ [MObj.tup (rowM r)]).length := (List.getElem?_eq_some_iff.mp hw1).1
  have tk1 : TK (hp ++ [MObj.tup (rowM r)]) ((hp ++ [MObj.tup (rowM r)]).set w (.lst (ws ++ [.loc hp.length]))) := TK.set hw1 (fun _ => nofun)
  have tk : TK hp ((hp ++ [MObj.tup (rowM r)]).set w (.lst (ws ++ [.loc hp.length]))) := (TK.app _ _).trans tk1
  have h7 : w ≠ 7 := fun e => by
    have h' : hp[7]? = some (.inst 704 [(6, .loc 8), (70, .loc w)]) := h4
    rw [e, h'] at hw; cases hw
  have hc : ∀ i, 1 ≤ i → i ≤ 6 → w ≠ i := fun i u v e => by
    obtain ⟨m, z⟩ := h3 i u v
    rw [← e, hw] at z; cases z
  refine ⟨⟨x, y, h1, ?_⟩, fun i u v => ?_, ?_, ⟨_, List.getElem?_set_self hlt, (h6.mono tk).app (.one ⟨hp.length, rfl, tk1 _ _ (app_last hp _ [])⟩)⟩, ⟨bs, ?_, h8.mono tk⟩, ?_, h9b, h10, h11, h12⟩
  · rw [List.getElem?_set_ne (Nat.ne_of_gt h11)]; exact app_get _ h2
  · obtain ⟨m, e⟩ := h3 i u v
    exact ⟨m, by rw [List.getElem?_set_ne (hc i u v)]; exact app_get _ e⟩
  · show ((hp ++ [MObj.tup (rowM r)]).set w _)[7]? = _
    rw [List.getElem?_set_ne h7]; exact app_get _ h4
  · rw [List.getElem?_set_ne h10]; exact app_get _ h7'
  · intro q hq
    rcases List.mem_append.mp hq with z | z
    · exact h9 q z
    · rw [List.mem_singleton.mp z]; exact hr

noncomputable def wfB : SFun := sSeq (sIf (tP (e2 notNone (eV 5) (eC .none))) (sSeq (sExpr (eMeth isLst fAppend (eAttr 70 [209, 704] (eV 0)) (vCons (eTup (vCons (eV 1) (vCons (eV 4) (vCons (eV 5) (vCons (eV 6) (vCons (eV 3) vNil)))))) vNil))) sNil) sNil) sNil
noncomputable def wfA : AFun := aTup [aVar 3, aTup [aVar 4, aVar 5, aVar 6]]
theorem wf_go {b w d : Nat} {rb : List Row} {who : Int} {ds : List MV} {qs : List Deed} (dw : d ≠ w) (hqo : ∀ q ∈ qs, q.ok) : ∀ (n i : Nat) {hp : MHeap} {rs : List Row} {x3 x4 x5 x6 : Option MV},
    WSt hp b w rs rb → hp[d]? = some (.lst ds) → DeedsAt hp ds qs → n + i = ds.length → rs.length + n ≤ 100 →
    ∃ l' hp', enL wfA wfB d n i [some (.loc 7), some (.int who), some (.loc d), x3, x4, x5, x6] hp = some (.next, l', hp') ∧ WSt hp' b w (rs ++ deedRows who i (qs.drop i)) rb ∧ Kp [w] hp hp' ∧ TK hp hp' := by
  refine nat_step fun n ih => ?_
  intro i hp rs x3 x4 x5 x6 h hd hq hn hl
  have hlen := hq.len
  unfold enL
  rw [at_lst hd]
  simp only [Option.bind_some]
  cases hmi : ds[i]? with
  | none =>
    have hi : qs.length ≤ i := by rw [← hlen]; exact List.getElem?_eq_none_iff.mp hmi
    refine ⟨_, hp, rfl, ?_, Kp.refl _ _, TK.refl _⟩
    rw [List.drop_eq_nil_of_le hi]
    simpa [deedRows] using h
  | some m =>
    obtain ⟨hi, hm⟩ := List.getElem?_eq_some_iff.mp hmi
    cases n with
    | zero => omega
    | succ n =>
      have hqi : qs[i]? = some (qs[i]'(by omega)) := List.getElem?_eq_getElem _
      generalize hqq : qs[i]'(by omega) = q at hqi
      have hdr : qs.drop i = q :: qs.drop (i + 1) := by rw [List.drop_eq_getElem_cons (by omega), hqq]
      obtain ⟨m', hm1, t, rfl, ht⟩ := hq.get hqi
      rw [hmi] at hm1; cases hm1
      let hp1 := hp ++ [MObj.tup [.int (i : Int), .loc t]]
      have ht1 : hp1[t]? = some (.tup [.str q.kind, numM q.num, .int q.val]) := app_get _ ht
      have hT : hp1[hp.length]? = some (.tup [.int (i : Int), .loc t]) := app_last hp _ []
      have W1 : WSt hp1 b w rs rb := h.app _
      have hasg : wfA (.loc hp.length) [some (.loc 7), some (.int who), some (.loc d), x3, x4, x5, x6] hp1 = some ([some (.loc 7), some (.int who), some (.loc d), some (.int (i : Int)), some (.str q.kind), some (numM q.num), some (.int q.val)], hp1) := by
        refine (atup_of hT).trans ?_
        simp only [goA, aVar, setV, atup_of ht1, List.length_cons, List.length_nil, Option.bind_some, List.set_cons_succ, List.set_cons_zero, Nat.reduceAdd, Nat.reduceLT, if_true]
      have hd1 : hp1[d]? = some (.lst ds) := app_get _ hd
      have hq1 : DeedsAt hp1 ds qs := hq.mono (TK.app _ _)
      simp only [Option.bind_some]
      rw [show wfA (.loc hp.length) [some (.loc 7), some (.int who), some (.loc d), x3, x4, x5, x6] (hp ++ [MObj.tup [.int (i : Int), .loc t]]) = _ from hasg]
      simp only [Option.bind_some]
      cases hnum : q.num with
      | none =>
        have hb : wfB [some (.loc 7), some (.int who), some (.loc d), some (.int (i : Int)), some (.str q.kind), some (numM none), some (.int q.val)] hp1 = some (.next, [some (.loc 7), some (.int who), some (.loc d), some (.int (i : Int)), some (.str q.kind), some (numM none), some (.int q.val)], hp1) := by
          simp [wfB, sSeq, sIf, tP, e2, notNone, isN, eV, eC, tOf, numM, sNil]
        rw [hb]
        obtain ⟨l', hp', c1, c2, c3, c4⟩ := ih n rfl (i + 1) (x3 := some (.int (i : Int))) (x4 := some (.str q.kind)) (x5 := some (numM none)) (x6 := some (.int q.val)) W1 hd1 hq1 (by omega) (by omega)
        refine ⟨l', hp', c1, ?_, (Kp.app _ _ _).trans c3, (TK.app _ _).trans c4⟩
        rw [hdr, deedRows, hnum]
        exact c2
      | some nn =>
        obtain ⟨ws, hw, hws⟩ := W1.wl
        have hqk : q.ok := hqo q (List.mem_of_getElem? hqi)
        let r : Row := ⟨who, q.kind, nn, q.val, (i : Int)⟩
        have W2 := W1.push (r := r) hqk hw
        have hw2 : (hp1 ++ [MObj.tup (rowM r)])[w]? = some (.lst ws) := app_get _ hw
        have hwsl := hws.len
        have tk2 : TK hp1 ((hp1 ++ [MObj.tup (rowM r)]).set w (.lst (ws ++ [.loc hp1.length]))) := (TK.app _ _).trans (TK.set hw2 (fun _ => nofun))
        have hb : wfB [some (.loc 7), some (.int who), some (.loc d), some (.int (i : Int)), some (.str q.kind), some (numM (some nn)), some (.int q.val)] hp1 = some (.next, [some (.loc 7), some (.int who), some (.loc d), some (.int (i : Int)), some (.str q.kind), some (numM (some nn)), some (.int q.val)], (hp1 ++ [MObj.tup (rowM r)]).set w (.lst (ws ++ [.loc hp1.length]))) := by
          have hat : eAttr 70 [209, 704] (eV 0) [some (.loc 7), some (.int who), some (.loc d), some (.int (i : Int)), some (.str q.kind), some (numM (some nn)), some (.int q.val)] hp1 = some (.loc w, hp1) := by
            simp [eAttr, eV, chans_get W1.ch]
          have hap := append_new (m := .loc hp1.length) hw2 (by unfold cap; omega)
          have hmk : mkTup ([.int who, .str q.kind, numM (some nn), .int q.val, .int (i : Int)], hp1) = some (.loc hp1.length, hp1 ++ [.tup (rowM r)]) := by
            simp [mkTup, cap, rowM, r, numM]
          unfold wfB
          refine (seq_next (l := [some (.loc 7), some (.int who), some (.loc d), some (.int (i : Int)), some (.str q.kind), some (numM (some nn)), some (.int q.val)]) (h := (hp1 ++ [MObj.tup (rowM r)]).set w (.lst (ws ++ [.loc hp1.length]))) ?_).trans rfl
          have hcond : tP (e2 notNone (eV 5) (eC .none)) [some (.loc 7), some (.int who), some (.loc d), some (.int (i : Int)), some (.str q.kind), some (numM (some nn)), some (.int q.val)] hp1 = some (true, hp1) := rfl
          unfold sIf
          rw [hcond]
          simp only [Option.bind_some]
          refine (seq_next (l := [some (.loc 7), some (.int who), some (.loc d), some (.int (i : Int)), some (.str q.kind), some (numM (some nn)), some (.int q.val)]) (h := (hp1 ++ [MObj.tup (rowM r)]).set w (.lst (ws ++ [.loc hp1.length]))) ?_).trans rfl
          unfold sExpr eMeth
          rw [hat]
          simp only [Option.bind_some, isLst_at hw, vCons, vNil, eTup, eV, List.getElem?_cons_succ, List.getElem?_cons_zero, hmk, hap]
        rw [hb]
        have hd2 : ((hp1 ++ [MObj.tup (rowM r)]).set w (.lst (ws ++ [.loc hp1.length])))[d]? = some (.lst ds) := by
          rw [List.getElem?_set_ne dw.symm]; exact app_get _ hd1
        obtain ⟨l', hp', c1, c2, c3, c4⟩ := ih n rfl (i + 1) (x3 := some (.int (i : Int))) (x4 := some (.str q.kind)) (x5 := some (numM (some nn))) (x6 := some (.int q.val)) (rs := rs ++ [r]) W2 hd2 (hq1.mono tk2) (by omega) (by simp; omega)
        refine ⟨l', hp', c1, ?_, ((Kp.app _ _ _).trans ((Kp.app _ _ _).trans (Kp.set _ (.head _)))).trans c3, ((TK.app _ _).trans tk2).trans c4⟩
        rw [hdr, deedRows, hnum]
        rw [List.append_assoc] at c2
        exact c2
theorem wf_run {hp : MHeap} {b w d : Nat} {rs rb : List Row} {who : Int} {ds : List MV} {qs : List Deed} (h : WSt hp b w rs rb) (hd : hp[d]? = some (.lst ds)) (hq : DeedsAt hp ds qs) (hqo : ∀ q ∈ qs, q.ok) (dw : d ≠ w) (hl : rs.length + ds.length ≤ 100) :
    ∃ hp', wfF [.loc 7, .int who, .loc d] hp = some (.none, hp') ∧ WSt hp' b w (rs ++ deedRows who 0 qs) rb ∧ Kp [w] hp hp' ∧ TK hp hp' := by
  obtain ⟨l', hp', c1, c2, c3, c4⟩ := wf_go (who := who) dw hqo ds.length 0 (x3 := none) (x4 := none) (x5 := none) (x6 := none) h hd hq (by omega) hl
  refine ⟨hp', ?_, c2, c3, c4⟩
  unfold wfF D_PlainChannels_wait_for
  dsimp only
  refine run_next rfl ((seq_next (l := l') (h := hp') ?_).trans rfl)
  have hs : sEnum wfA (eV 2) wfB [some (.loc 7), some (.int who), some (.loc d), none, none, none, none] hp = some (.next, l', hp') := by
    unfold sEnum
    simp only [eV, Option.bind_some, List.getElem?_cons_succ, List.getElem?_cons_zero, locOf, at_lst hd]
    exact c1
  exact hs
end Mine
end

section
open PySem PySem.W PySem.Calls PyProof.Rows
set_option maxRecDepth 100000
set_option maxHeartbeats 1000000
namespace Mine

theorem comp_rng {acc n i N : Nat} {t : TFun} {f : EFun} {caps : Locs} {hp : MHeap} : compL acc (some t) f caps (n + 1) (.rng i N) hp = if i < N then (t (some (.int (i : Int)) :: caps) hp).bind fun b => match b with
      | (false, h) => compL acc (some t) f caps n (.rng (i + 1) N) h
      | (true, h) => (f (some (.int (i : Int)) :: caps) h).bind fun v => (fAppend [.loc acc, v.1] v.2).bind fun q => compL acc (some t) f caps n (.rng (i + 1) N) q.2
    else some hp := by
  rw [compL_eq]
  by_cases h : i < N
  · rw [rng_some h, if_pos h]; rfl
  · rw [rng_none h, if_neg h]; rfl
theorem comp_rng0 {acc N : Nat} {t : Option TFun} {f : EFun} {caps : Locs} {n : Nat} {hp : MHeap} : compL acc t f caps n (.rng N N) hp = some hp := by
  unfold compL
  rw [rng_none (Nat.lt_irrefl N)]; rfl

theorem rows_go {d acc : Nat} {who : Int} {ds : List MV} {qs : List Deed} (hc : ds.length ≤ 100) : ∀ (n i : Nat) {hp : MHeap} {out : List MV} {rr : List Row},
    hp[6]? = some (.cel (some (.int who))) → hp[5]? = some (.cel (some (.loc d))) → hp[d]? = some (.lst ds) → DeedsAt hp ds qs → hp[acc]? = some (.lst out) → RowsAt hp out rr → acc ≠ d → n + i = ds.length → out.length + n ≤ 200 →
    ∃ hp' out', compL acc (some wTst) wElt [some (.loc 6), some (.loc 5)] n (.rng i ds.length) hp = some hp' ∧ hp'[acc]? = some (.lst out') ∧ RowsAt hp' out' (rr ++ deedRows who i (qs.drop i)) ∧ Kp [acc] hp hp' ∧ TK hp hp' := by
  refine nat_step fun n ih => ?_
  intro i hp out rr h6 h5 hd hq ha hr hne hn hl
  have hlen := hq.len
  cases n with
  | zero =>
    have hi : i = ds.length := by omega
    subst hi
    refine ⟨hp, out, comp_rng0, ha, ?_, Kp.refl _ _, TK.refl _⟩
    rw [List.drop_eq_nil_of_le (by omega)]
    simpa [deedRows] using hr
  | succ n =>
    have hi : i < ds.length := by omega
    have hqi : qs[i]? = some (qs[i]'(by omega)) := List.getElem?_eq_getElem _
    generalize hqq : qs[i]'(by omega) = q at hqi
    have hdr : qs.drop i = q :: qs.drop (i + 1) := by rw [List.drop_eq_getElem_cons (by omega), hqq]
    obtain ⟨m, hm, t, rfl, ht⟩ := hq.get hqi
    have hidx : ∀ h' : MHeap, h'[d]? = some (.lst ds) → oIdx (.loc d) (.int (i : Int)) h' = some (.loc t, h') := fun h' e => idx_lst e (by omega) (by omega) (by simpa using hm)
    have hcv : ∀ h' : MHeap, h'[5]? = some (.cel (some (.loc d))) → eCV 2 [some (.int (i : Int)), some (.loc 6), some (.loc 5)] h' = some (.loc d, h') := fun h' e => ecv_of rfl e
    rw [comp_rng, if_pos hi]
    have htst : wTst [some (.int (i : Int)), some (.loc 6), some (.loc 5)] hp = some (q.num.isSome, hp) := by
      have h1 : oIdx (.loc t) (.int 1) hp = some (numM q.num, hp) := idx_tup (k := 1) ht rfl (by simp)
      unfold wTst tP e2
      simp only [hcv hp h5, Option.bind_some, eV, List.getElem?_cons_zero, hidx hp hd, eC]
      rw [h1]
      cases q.num <;> rfl
    rw [htst]
    simp only [Option.bind_some]
    cases hnum : q.num with
    | none =>
      simp only [Option.isSome_none]
      obtain ⟨hp', out', c1, c2, c3, c4, c5⟩ := ih n rfl (i + 1) h6 h5 hd hq ha hr hne (by omega) (by omega)
      refine ⟨hp', out', c1, c2, ?_, c4, c5⟩
      rw [hdr, deedRows, hnum]
      exact c3
    | some nn =>
      simp only [Option.isSome_some]
      rw [hnum] at ht
      let hA := hp ++ [MObj.tup [.int who]]
      let hB := hA ++ [MObj.tup [.int who, .str q.kind, .int nn, .int q.val]]
      let hC := hB ++ [MObj.tup [.int (i : Int)]]
      let r : Row := ⟨who, q.kind, nn, q.val, (i : Int)⟩
      let hD := hC ++ [MObj.tup (rowM r)]
      have lA : hA.length = hp.length + 1 := by simp [hA]
      have lB : hB.length = hp.length + 2 := by simp [hB, hA]
      have lC : hC.length = hp.length + 3 := by simp [hC, hB, hA]
      have a1 : hA[hp.length]? = some (.tup [.int who]) := app_last hp _ []
      have a2 : hB[hA.length]? = some (.tup [.int who, .str q.kind, .int nn, .int q.val]) := app_last hA _ []
      have a3 : hC[hB.length]? = some (.tup [.int (i : Int)]) := app_last hB _ []
      have a4 : hD[hC.length]? = some (.tup (rowM r)) := app_last hC _ []
      have htA : hA[t]? = some (.tup [.str q.kind, numM (some nn), .int q.val]) := app_get _ ht
      have helt : wElt [some (.int (i : Int)), some (.loc 6), some (.loc 5)] hp = some (.loc hC.length, hD) := by
        have hw6 : eCV 1 [some (.int (i : Int)), some (.loc 6), some (.loc 5)] hp = some (.int who, hp) := ecv_of rfl h6
        have e1 : mkTup ([.int who], hp) = some (.loc hp.length, hA) := by simp [mkTup, cap, hA]
        have e2' : oAdd (.loc hp.length) (.loc t) hA = some (.loc hA.length, hB) := by
          exact add_tup a1 htA (Nat.le_of_ble_eq_true rfl)
        have e3 : mkTup ([.int (i : Int)], hB) = some (.loc hB.length, hC) := by simp [mkTup, cap, hC]
        have a2C : hC[hA.length]? = some (.tup [.int who, .str q.kind, .int nn, .int q.val]) := app_get _ a2
        have e4 : oAdd (.loc hA.length) (.loc hB.length) hC = some (.loc hC.length, hD) := by
          exact add_tup a2C a3 (Nat.le_of_ble_eq_true rfl)
        unfold wElt e2
        simp only [eTup, vCons, vNil, hw6, Option.bind_some, e1, hcv hA (app_get _ h5), eV, List.getElem?_cons_zero, hidx hA (app_get _ hd), e2', e3, e4]
      rw [helt]
      simp only [Option.bind_some]
      have haD : hD[acc]? = some (.lst out) := app_get _ (app_get _ (app_get _ (app_get _ ha)))
      rw [append_new haD (by unfold cap; omega)]
      simp only [Option.bind_some]
      have tkD : TK hp hD := (TK.app _ _).trans ((TK.app _ _).trans ((TK.app _ _).trans (TK.app _ _)))
      have kpD : Kp [acc] hp hD := (Kp.app _ _ _).trans ((Kp.app _ _ _).trans ((Kp.app _ _ _).trans (Kp.app _ _ _)))
      have tkE : TK hD (hD.set acc (.lst (out ++ [.loc hC.length]))) := TK.set haD (fun _ => nofun)
      have kpE : Kp [acc] hD (hD.set acc (.lst (out ++ [.loc hC.length]))) := Kp.set _ (.head _)
      have kp1 := kpD.trans kpE
      have tk1 := tkD.trans tkE
      have n6 : (6 : Nat) ∉ [acc] := fun e => by rw [← List.mem_singleton.mp e, h6] at ha; cases ha
      have n5 : (5 : Nat) ∉ [acc] := fun e => by rw [← List.mem_singleton.mp e, h5] at ha; cases ha
      have nd : d ∉ [acc] := fun e => hne (List.mem_singleton.mp e).symm
      have hltD : acc < hD.length := (List.getElem?_eq_some_iff.mp haD).1
      obtain ⟨hp', out', c1, c2, c3, c4, c5⟩ := ih n rfl (i + 1) (out := out ++ [.loc hC.length]) (rr := rr ++ [r]) (kp1 6 _ n6 h6) (kp1 5 _ n5 h5) (kp1 d _ nd hd) (hq.mono tk1) (List.getElem?_set_self hltD)
        ((hr.mono tk1).app (.one ⟨hC.length, rfl, tkE _ _ a4⟩)) hne (by omega) (by simp; omega)
      refine ⟨hp', out', c1, c2, ?_, kp1.trans c4, tk1.trans c5⟩
      rw [hdr, deedRows, hnum]
      rw [List.append_assoc] at c3
      exact c3

theorem turn_run {hp : MHeap} {b w : Nat} {rs : List Row} {x3 x7 x10 x13 : Option MV} {tn : Int} (h : WSt hp b w rs rs) (ht : 0 ≤ tn ∧ tn < 1000) (hl : rs.length ≤ 80) :
    ∃ hp' b' rs' x7', wTurn (wL b x3 (some (.int tn)) x7 x10 x13) hp = some (.next, wL b' x3 (some (.int tn)) x7' x10 x13, hp') ∧ WSt hp' b' w rs' rs' ∧ rs'.length ≤ rs.length + 2 := by

  obtain ⟨who, hp1, a1, a2, a3, a4, a5, a6, a7⟩ := wDraw_run (loc := wL b x3 (some (.int tn)) x7 x10 x13) h (m := 5) (by decide) (by decide) rfl
  let d := hp1.length
  let hp2 := hp1 ++ [MObj.lst []]
  let hp3 := hp2 ++ [MObj.tup [.int who, .loc d]]
  have W3 : WSt hp3 b w rs rs := (a4.app _).app _
  obtain ⟨m6, c6⟩ := W3.cells 6 (by decide) (by decide)
  have W4 := W3.set (o' := .cel (some (.int who))) c6 (fun _ => nofun) (by decide) (fun e => by obtain ⟨ws, q, _⟩ := W3.wl; rw [← e, c6] at q; cases q) (fun e => by obtain ⟨ws, q, _⟩ := W3.bl; rw [← e, c6] at q; cases q) (fun e => by cases e) (fun _ _ => ⟨_, rfl⟩)
  obtain ⟨m5, c5⟩ := W4.cells 5 (by decide) (by decide)
  have W5 := W4.set (o' := .cel (some (.loc d))) c5 (fun _ => nofun) (by decide) (fun e => by obtain ⟨ws, q, _⟩ := W4.wl; rw [← e, c5] at q; cases q) (fun e => by obtain ⟨ws, q, _⟩ := W4.bl; rw [← e, c5] at q; cases q) (fun e => by cases e) (fun _ _ => ⟨_, rfl⟩)
  let hp5 := (hp3.set 6 (.cel (some (.int who)))).set 5 (.cel (some (.loc d)))
  have W5' : WSt hp5 b w rs rs := W5
  have hl6 : 6 < hp3.length := (List.getElem?_eq_some_iff.mp c6).1
  have h6 : hp5[6]? = some (.cel (some (.int who))) := by
    show ((hp3.set 6 _).set 5 _)[6]? = _
    rw [List.getElem?_set_ne (by decide)]
    exact List.getElem?_set_self hl6
  have h5 : hp5[5]? = some (.cel (some (.loc d))) := by
    show ((hp3.set 6 _).set 5 _)[5]? = _
    exact List.getElem?_set_self (by rw [List.length_set]; omega)
  have d7 : 7 < d := by
    have h7 : hp1[7]? = some (.inst 704 [(6, .loc 8), (70, .loc w)]) := a4.ch
    exact (List.getElem?_eq_some_iff.mp h7).1
  have hd2 : hp2[d]? = some (.lst []) := app_last hp1 _ []
  have hd5 : hp5[d]? = some (.lst []) := by
    show ((hp3.set 6 _).set 5 _)[d]? = _
    rw [List.getElem?_set_ne (by omega), List.getElem?_set_ne (by omega)]
    exact app_get _ hd2
  have dw : d ≠ w := fun e => by
    obtain ⟨ws, q, _⟩ := a4.wl
    have := (List.getElem?_eq_some_iff.mp q).1
    omega
  have db : d ≠ b := fun e => by
    obtain ⟨ws, q, _⟩ := a4.bl
    have := (List.getElem?_eq_some_iff.mp q).1
    omega
  have s1 : sUnp [aCV 5, aCV 6] (eTup (vCons (wDraw 5) (vCons (eLst vNil) vNil))) (wL b x3 (some (.int tn)) x7 x10 x13) hp = some (.next, wL b x3 (some (.int tn)) x7 x10 x13, hp5) := by
    have hmk : mkLst ([], hp1) = some (.loc d, hp2) := by simp [mkLst, hp2, d]
    have l2 : hp2.length = d + 1 := by simp [hp2, d]
    have hmt : mkTup ([.int who, .loc d], hp2) = some (.loc hp2.length, hp3) := by simp [mkTup, cap, hp3]
    have htp : hp3[hp2.length]? = some (.tup [.int who, .loc d]) := app_last hp2 _ []
    unfold sUnp
    simp only [eTup, vCons, vNil, a1, eLst, Option.bind_some, hmk, hmt, atup_of htp, goA]
    have e1 : aCV 5 (.int who) (wL b x3 (some (.int tn)) x7 x10 x13) hp3 = some (wL b x3 (some (.int tn)) x7 x10 x13, hp3.set 6 (.cel (some (.int who)))) := by
      exact acv_of rfl c6
    rw [e1]
    simp only [Option.bind_some]
    have e2' : aCV 6 (.loc d) (wL b x3 (some (.int tn)) x7 x10 x13) (hp3.set 6 (.cel (some (.int who)))) = some (wL b x3 (some (.int tn)) x7 x10 x13, hp5) := by
      exact acv_of rfl c5
    rw [e2']
    rfl

  obtain ⟨n2, hp6, b1, b2, b3, b4, b5, b6, b7⟩ := wDraw_run (loc := wL b x3 (some (.int tn)) x7 x10 x13) W5' (m := 2) (by decide) (by decide) rfl
  let N := (1 + n2).toNat
  have hN : N ≤ 10 := by omega
  have hNi : ((N : Nat) : Int) = 1 + n2 := by omega
  have W7 : WSt (hp6 ++ [MObj.rng N]) b w rs rs := b4.app _
  have d0 : d ≠ 0 := by omega
  have n60 : (6 : Nat) ∉ [(0 : Nat)] := by decide
  have n50 : (5 : Nat) ∉ [(0 : Nat)] := by decide
  have nd0 : d ∉ [(0 : Nat)] := by simp [d0]
  have h57 : (hp6 ++ [MObj.rng N])[5]? = some (.cel (some (.loc d))) := app_get _ (b5 5 _ n50 h5)
  have h67 : (hp6 ++ [MObj.rng N])[6]? = some (.cel (some (.int who))) := app_get _ (b5 6 _ n60 h6)
  have hd7 : (hp6 ++ [MObj.rng N])[d]? = some (.lst []) := app_get _ (b5 d _ nd0 hd5)
  obtain ⟨x7', hp8, ds, qs, e1, e2', e3, e4, e5, e6, e7⟩ := cases_go (x3 := x3) (x10 := x10) (x13 := x13) (tn := tn) hN dw db d0 ht N 0 (x7 := x7) (qs := []) W7 h57 hd7 rfl (fun _ z => nomatch z) (by omega) rfl
  have s2 : sFor (aVar 7) (eCall fRange (vCons (e2 oAdd (eC (.int 1)) (wDraw 2)) vNil)) wCase (wL b x3 (some (.int tn)) x7 x10 x13) hp5 = some (.next, wL b x3 (some (.int tn)) x7' x10 x13, hp8) := by
    have hr : eCall fRange (vCons (e2 oAdd (eC (.int 1)) (wDraw 2)) vNil) (wL b x3 (some (.int tn)) x7 x10 x13) hp5 = some (.loc hp6.length, hp6 ++ [MObj.rng N]) := by
      simp only [eCall, vCons, vNil, e2, eC, Option.bind_some, b1, add_int']
      exact range_run (by omega)
    have hit : mkIt (.loc hp6.length) (hp6 ++ [MObj.rng N]) = some (.rng 0 N, N) := by
      exact it_rng (app_last hp6 (MObj.rng N) []) (by omega)
    rw [for_eq hr hit]
    exact e1
  have n6d : (6 : Nat) ∉ [0, d] := by simp; omega
  have n5d : (5 : Nat) ∉ [0, d] := by simp; omega
  have h68 : hp8[6]? = some (.cel (some (.int who))) := e6 6 _ n6d h67
  have h58 : hp8[5]? = some (.cel (some (.loc d))) := e6 5 _ n5d h57

  obtain ⟨bs, hb1, hb2⟩ := e2'.bl
  have hbl := hb2.len
  obtain ⟨g9, t1⟩ := whos_run (loc := wL b x3 (some (.int tn)) x7' x10 x13) (gf := eV 2) (hp := hp8) (hp0 := hp8) rfl hb1 (fun m hm => by obtain ⟨r, _, hr⟩ := hb2.mem hm; exact .of_row hr) (by unfold cap; omega)
  let hp9 := hp8 ++ MObj.lst ((bs.map (whoOf hp8)).map MV.int) :: g9
  have W9 : WSt hp9 b w rs rs := e2'.app _
  have hcv5 : eCV 5 (wL b x3 (some (.int tn)) x7' x10 x13) hp8 = some (.int who, hp8) := ecv_of rfl h68
  have htest : ∃ c, tP (e2 oNotIn (eCV 5) wWho) (wL b x3 (some (.int tn)) x7' x10 x13) hp8 = some (c, hp9) := by
    refine ⟨!((bs.map (whoOf hp8)).any fun z => z == who), ?_⟩
    unfold tP e2
    rw [hcv5]
    simp only [Option.bind_some]
    rw [show wWho (wL b x3 (some (.int tn)) x7' x10 x13) hp8 = _ from t1]
    simp only [Option.bind_some]
    rw [notin_ints (app_last hp8 _ g9)]
    rfl
  obtain ⟨c, htest⟩ := htest
  have hfin : ∀ {l' : Locs} {h' : MHeap}, (if c = true then wNew (wL b x3 (some (.int tn)) x7' x10 x13) hp9 else some (.next, wL b x3 (some (.int tn)) x7' x10 x13, hp9)) = some (.next, l', h') → wTurn (wL b x3 (some (.int tn)) x7 x10 x13) hp = some (.next, l', h') := by
    intro l' h' e
    unfold wTurn
    refine (seq_next s1).trans ((seq_next s2).trans ((seq_next (l := l') (h := h') ?_).trans rfl))
    unfold sIf
    rw [htest]
    simp only [Option.bind_some]
    cases c with
    | true => exact e
    | false => exact e
  cases c with
  | false => exact ⟨hp9, b, rs, x7', hfin rfl, W9, by omega⟩
  | true =>

    have hd9 : hp9[d]? = some (.lst ds) := app_get _ e3
    have hq9 : DeedsAt hp9 ds qs := e4.mono (TK.app _ _)
    have hdl := e4.len
    obtain ⟨hp10, f1, f2, f3, f4⟩ := wf_run (who := who) W9 hd9 hq9 e5 dw (by omega)
    have h69 : hp9[6]? = some (.cel (some (.int who))) := app_get _ h68
    have h59 : hp9[5]? = some (.cel (some (.loc d))) := app_get _ h58
    obtain ⟨ws9, hw9, _⟩ := W9.wl
    have n6w : (6 : Nat) ∉ [w] := fun e => by rw [← List.mem_singleton.mp e, h69] at hw9; cases hw9
    have n5w : (5 : Nat) ∉ [w] := fun e => by rw [← List.mem_singleton.mp e, h59] at hw9; cases hw9
    have ndw : d ∉ [w] := by simp [dw]
    have h610 := f3 6 _ n6w h69
    have h510 := f3 5 _ n5w h59
    have hd10 := f3 d _ ndw hd9
    have hq10 := hq9.mono f4
    have u1 : sExpr (eMeth (isInst 69 704) wfF (eV 1) (vCons (eCV 5) (vCons (eCV 6) vNil))) (wL b x3 (some (.int tn)) x7' x10 x13) hp9 = some (.next, wL b x3 (some (.int tn)) x7' x10 x13, hp10) := by
      have q5 : eCV 5 (wL b x3 (some (.int tn)) x7' x10 x13) hp9 = some (.int who, hp9) := ecv_of rfl h69
      have q6 : eCV 6 (wL b x3 (some (.int tn)) x7' x10 x13) hp9 = some (.loc d, hp9) := ecv_of rfl h59
      have q1 : eV 1 (wL b x3 (some (.int tn)) x7' x10 x13) hp9 = some (.loc 7, hp9) := rfl
      unfold sExpr eMeth
      simp only [q1, Option.bind_some, isInst_ch (i := 69) W9.ch (by decide) (by decide), vCons, vNil, q5, q6, f1]

    let hpR := hp10 ++ [MObj.rng ds.length]
    let hpA := hpR ++ [MObj.lst []]
    have WA : WSt hpA b w (rs ++ deedRows who 0 qs) rs := (f2.app _).app _
    have lA : hpR.length = hp10.length + 1 := by simp [hpR]
    have hacc : hpA[hpR.length]? = some (.lst []) := app_last hpR _ []
    have hdA : hpA[d]? = some (.lst ds) := app_get _ (app_get _ hd10)
    have hdlt := (List.getElem?_eq_some_iff.mp hd10).1
    obtain ⟨hp11, out, r1, r2, r3, r4, r5⟩ := rows_go (who := who) (acc := hpR.length) (by omega) ds.length 0 (rr := []) (app_get _ (app_get _ h610)) (app_get _ (app_get _ h510)) hdA (hq10.mono ((TK.app _ _).trans (TK.app _ _))) hacc rfl (by omega) (by omega) (by simp; omega)
    obtain ⟨ws10, hw10, hws10⟩ := f2.wl
    obtain ⟨bs10, hb10, hbs10⟩ := f2.bl
    have hwA : hpA[w]? = some (.lst ws10) := app_get _ (app_get _ hw10)
    have hbA : hpA[b]? = some (.lst bs10) := app_get _ (app_get _ hb10)
    have wlt := (List.getElem?_eq_some_iff.mp hw10).1
    have blt := (List.getElem?_eq_some_iff.mp hb10).1
    have nacc : ∀ i, i < hp10.length → i ∉ [hpR.length] := fun i hi => by simp; omega
    have hw11 : hp11[w]? = some (.lst ws10) := r4 w _ (nacc w wlt) hwA
    have hb11 : hp11[b]? = some (.lst bs10) := r4 b _ (nacc b blt) hbA
    have lens := hbs10.len
    have lens2 := r3.len
    have drl := deedRows_len (who := who) 0 qs
    have hadd : oAdd (.loc b) (.loc hpR.length) hp11 = some (.loc hp11.length, hp11 ++ [.lst (bs10 ++ out)]) := by
      exact add_lst hb11 r2 (by simp [cap]; simp at lens2; omega)
    have u2 : sVar 2 (e2 oAdd (eV 2) (eComp [5, 6] (some wTst) wElt (eCall fRange (vCons (eCall fLen (vCons (eCV 6) vNil)) vNil)))) (wL b x3 (some (.int tn)) x7' x10 x13) hp10 = some (.next, wL hp11.length x3 (some (.int tn)) x7' x10 x13, hp11 ++ [.lst (bs10 ++ out)]) := by
      have q6 : eCV 6 (wL b x3 (some (.int tn)) x7' x10 x13) hp10 = some (.loc d, hp10) := ecv_of rfl h510
      have hlen : fLen [.loc d] hp10 = some (.int ds.length, hp10) := by
        exact len_at hd10 rfl (by unfold cap; omega)
      have hrg : fRange [.int (ds.length : Int)] hp10 = some (.loc hp10.length, hpR) := by
        exact range_run (by omega)
      have hit : mkIt (.loc hp10.length) hpR = some (.rng 0 ds.length, ds.length) := by
        have : hpR[hp10.length]? = some (.rng ds.length) := app_last hp10 _ []
        exact it_rng this (by omega)
      have hcomp : eComp [5, 6] (some wTst) wElt (eCall fRange (vCons (eCall fLen (vCons (eCV 6) vNil)) vNil)) (wL b x3 (some (.int tn)) x7' x10 x13) hp10 = some (.loc hpR.length, hp11) := by
        unfold eComp
        simp only [eCall, vCons, vNil, q6, Option.bind_some, hlen, hrg, hit]
        rw [show capsOf [5, 6] (wL b x3 (some (.int tn)) x7' x10 x13) = [some (.loc 6), some (.loc 5)] from rfl]
        rw [show compL hpR.length (some wTst) wElt [some (.loc 6), some (.loc 5)] ds.length (.rng 0 ds.length) (hpR ++ [MObj.lst []]) = _ from r1]
        rfl
      unfold sVar e2
      rw [show eV 2 (wL b x3 (some (.int tn)) x7' x10 x13) hp10 = some (.loc b, hp10) from rfl]
      simp only [Option.bind_some]
      rw [hcomp]
      simp only [Option.bind_some]
      rw [hadd]
      rfl
    have tkA : TK hp10 hp11 := (TK.app _ _).trans ((TK.app _ _).trans r5)
    have kA : ∀ i o, i < hp10.length → hp10[i]? = some o → (hp11 ++ [MObj.lst (bs10 ++ out)])[i]? = some o := fun i o hi e => app_get _ (r4 i o (nacc i hi) (app_get _ (app_get _ e)))
    have ltK : ∀ {i : Nat} {o : MObj}, hp10[i]? = some o → i < hp10.length := fun e => (List.getElem?_eq_some_iff.mp e).1
    have b11 : hp10.length ≤ hp11.length := by
      have := (List.getElem?_eq_some_iff.mp r2).1
      omega
    refine ⟨hp11 ++ [.lst (bs10 ++ out)], hp11.length, rs ++ deedRows who 0 qs, x7', hfin ?_, ?_, by simp; omega⟩
    · show wNew _ hp9 = _
      unfold wNew
      exact (seq_next u1).trans ((seq_next u2).trans rfl)
    · obtain ⟨⟨x, y, k1, k2⟩, k3, k4, _, _, k7, k8, k9, k10, k11⟩ := f2
      have tkF : TK hp10 (hp11 ++ [MObj.lst (bs10 ++ out)]) := tkA.trans (TK.app _ _)
      refine ⟨⟨x, y, k1, kA _ _ (ltK k2) k2⟩, fun i u v => ?_, kA _ _ (ltK k4) k4, ⟨ws10, kA _ _ wlt hw10, hws10.mono tkF⟩, ⟨bs10 ++ out, app_last _ _ _, (hbs10.mono tkF).app ?_⟩, k7, ?_, by omega, k10, by omega⟩
      · obtain ⟨m, e⟩ := k3 i u v
        exact ⟨m, kA _ _ (ltK e) e⟩
      · simpa using r3.mono (TK.app _ _)
      · exact k7
end Mine
end

section
open PySem PySem.W PySem.Calls PyProof.Rows
set_option maxRecDepth 100000
set_option maxHeartbeats 1000000
namespace Mine

theorem turns_go {w N : Nat} {x3 x10 x13 : Option MV} (hN : N ≤ 6) : ∀ (j i : Nat) {hp : MHeap} {b : Nat} {rs : List Row} {x4 x7 : Option MV}, WSt hp b w rs rs → j + i = N → rs.length ≤ 2 * i →
    ∃ hp' b' rs' x4' x7', forL (aVar 4) wTurn j (.rng i N) (wL b x3 x4 x7 x10 x13) hp = some (.next, wL b' x3 x4' x7' x10 x13, hp') ∧ WSt hp' b' w rs' rs' ∧ rs'.length ≤ 12 := by
  refine nat_step fun j ih => ?_
  intro i hp b rs x4 x7 h hj hl
  unfold forL
  by_cases hi : i < N
  · rw [rng_some hi]
    cases j with
    | zero => omega
    | succ j =>
      obtain ⟨hp1, b1, rs1, x7', a1, a2, a3⟩ := turn_run (x3 := x3) (x7 := x7) (x10 := x10) (x13 := x13) (tn := (i : Int)) h (by omega) (by omega)
      obtain ⟨hp', b', rs', x4', x7'', c1, c2, c3⟩ := ih j rfl (i + 1) (x4 := some (.int (i : Int))) (x7 := x7') a2 (by omega) (by omega)
      refine ⟨hp', b', rs', x4', x7'', ?_, c2, c3⟩
      have hs : aVar 4 (.int (i : Int)) (wL b x3 x4 x7 x10 x13) hp = some (wL b x3 (some (.int (i : Int))) x7 x10 x13, hp) := rfl
      simp only [Option.bind_some, hs]
      rw [a1]
      exact c1
  · rw [rng_none hi]
    simp only [Option.bind_some]
    exact ⟨hp, b, rs, x4, x7, rfl, h, by omega⟩
theorem turns_run {hp : MHeap} {b w : Nat} {x3 x4 x7 x10 x13 : Option MV} (h : WSt hp b w [] []) :
    ∃ hp' b' rs' x4' x7', wTurns (wL b x3 x4 x7 x10 x13) hp = some (.next, wL b' x3 x4' x7' x10 x13, hp') ∧ WSt hp' b' w rs' rs' ∧ rs'.length ≤ 12 := by
  obtain ⟨n, hp1, a1, a2, a3, a4, a5, a6, a7⟩ := wDraw_run (loc := wL b x3 x4 x7 x10 x13) h (m := 6) (by decide) (by decide) rfl
  have hn : ((n.toNat : Nat) : Int) = n := by omega
  obtain ⟨hp', b', rs', x4', x7', c1, c2, c3⟩ := turns_go (x3 := x3) (x10 := x10) (x13 := x13) (N := n.toNat) (by omega) n.toNat 0 (x4 := x4) (x7 := x7) (a4.app [MObj.rng n.toNat]) (by omega) (Nat.zero_le _)
  refine ⟨hp', b', rs', x4', x7', ?_, c2, c3⟩
  have hr : eCall fRange (vCons (wDraw 6) vNil) (wL b x3 x4 x7 x10 x13) hp = some (.loc hp1.length, hp1 ++ [MObj.rng n.toNat]) := by
    simp only [eCall, vCons, vNil, a1, Option.bind_some]
    exact range_run (by omega)
  have hit : mkIt (.loc hp1.length) (hp1 ++ [MObj.rng n.toNat]) = some (.rng 0 n.toNat, n.toNat) := by
    exact it_rng (app_last hp1 (MObj.rng n.toNat) []) (by omega)
  exact (for_eq hr hit).trans c1

theorem lay_row {r : Row} (h : r.ok) : PyData.canLay0 (rowD r) = true := by
  have h' : PyData.canLay0 (.str r.kind) = true := h
  simp [rowD, PyData.canLay0, PyData.canLayAll0] at h' ⊢
  exact h'
theorem lay_rows {rs : List Row} : (∀ r ∈ rs, r.ok) → PyData.canLayAll0 (rs.map rowD) = true := by
  induction rs with
  | nil => exact fun _ => rfl
  | cons r rs ih =>
    intro h
    show (PyData.canLay0 (rowD r) && PyData.canLayAll0 (rs.map rowD)) = true
    rw [lay_row (h r (.head _)), ih (fun q z => h q (.tail _ z))]; rfl
theorem eqv_rows {rs : List Row} (h : ∀ r ∈ rs, r.ok) : PyData.eqv (.list (rs.map rowD)) (.list (rs.map rowD)) = true :=
  PySem.SeqAt.eqv_refl _ (by simp only [PyData.canLay0, lay_rows h])
theorem data_list {hp : MHeap} {l : Nat} {ms : List MV} {rs : List Row} (hl : hp[l]? = some (.lst ms)) (hr : RowsAt hp ms rs) (ho : ∀ r ∈ rs, r.ok) : dataOf dDepth hp (.loc l) = some (.list (rs.map rowD)) := by
  exact data_lst hl (data_rows (n := 4) hr ho)
theorem check_run {hp : MHeap} {b w : Nat} {rs : List Row} {x3 x4 x7 x10 x13 : Option MV} (h : WSt hp b w rs rs) : wCheck (wL b x3 x4 x7 x10 x13) hp = some (.next, wL b x3 x4 x7 x10 x13, hp) := by
  obtain ⟨ws, h1, h2⟩ := h.wl
  obtain ⟨bs, h3, h4⟩ := h.bl
  have hat : eAttr 70 [209, 704] (eV 1) (wL b x3 x4 x7 x10 x13) hp = some (.loc w, hp) := by
    unfold eAttr
    rw [show eV 1 (wL b x3 x4 x7 x10 x13) hp = some (.loc 7, hp) from rfl]
    simp only [Option.bind_some, chans_get h.ch]
  unfold wCheck sIf tP e2
  rw [hat]
  simp only [Option.bind_some]
  rw [show eV 2 (wL b x3 x4 x7 x10 x13) hp = some (.loc b, hp) from rfl]
  simp only [Option.bind_some, oNe, data_list h1 h2 h.ok, data_list h3 h4 h.okb, eqv_rows h.ok, Bool.not_true, tOf]
  rfl

theorem eqv_pair (a b : Str) (x y : Int) : PyData.eqv (.tuple [.str a, .int x]) (.tuple [.str b, .int y]) = (a == b && x == y) := by
  simp [PyData.eqv, PyData.eqvAll]
theorem sl_eq {hp : MHeap} {m : MV} {r : Row} {k : Str} {n : Int} {loc : Locs} {f g1 g2 : EFun} (h : RowAt hp m r) (hr : r.ok) (hk : strOk k) (hf : f loc hp = some (m, hp)) (h1 : ∀ g, g1 loc (hp ++ g) = some (.str k, hp ++ g)) (h2 : ∀ g, g2 loc (hp ++ g) = some (.int n, hp ++ g)) :
    ∃ g, tP (e2 oEq (eSl 1 (some 3) f) (eTup (vCons g1 (vCons g2 vNil)))) loc hp = some (isP k n r, hp ++ g) := by
  obtain ⟨t, rfl, ht⟩ := h
  let hA := hp ++ [MObj.tup [.str r.kind, .int r.num]]
  let hB := hA ++ [MObj.tup [.str k, .int n]]
  have e1 : oSl 1 (some 3) (.loc t) hp = some (.loc hp.length, hA) := by
    exact sl_at ht rfl
  have e3 : mkTup ([.str k, .int n], hA) = some (.loc hA.length, hB) := by simp [mkTup, cap, hB]
  have a1 : hB[hp.length]? = some (.tup [.str r.kind, .int r.num]) := app_get _ (app_last hp _ [])
  have a2 : hB[hA.length]? = some (.tup [.str k, .int n]) := app_last hA _ []
  have hr' : PyData.canLay0 (.str r.kind) = true := hr
  have hk' : PyData.canLay0 (.str k) = true := hk
  refine ⟨[MObj.tup [.str r.kind, .int r.num], MObj.tup [.str k, .int n]], ?_⟩
  have hg1 : g1 loc hA = some (.str k, hA) := h1 _
  have hg2 : g2 loc hA = some (.int n, hA) := h2 _
  have hd1 : dataOf dDepth hB (.loc hp.length) = some (.tuple [.str r.kind, .int r.num]) := by
    exact data_tup (n := 5) a1 (by unfold mapO mapO mapO; rw [data_str _ _ hr', data_int]; rfl)
  have hd2 : dataOf dDepth hB (.loc hA.length) = some (.tuple [.str k, .int n]) := by
    exact data_tup (n := 5) a2 (by unfold mapO mapO mapO; rw [data_str _ _ hk', data_int]; rfl)
  unfold tP e2
  simp only [eSl, hf, Option.bind_some, e1, eTup, vCons, vNil, hg1, hg2, e3, oEq, hd1, hd2, eqv_pair, tOf]
  have : hB = hp ++ [MObj.tup [.str r.kind, .int r.num], MObj.tup [.str k, .int n]] := by simp [hB, hA]
  rw [this]
  congr 2
noncomputable def pOf (hp : MHeap) (k : Str) (n : Int) (m : MV) : Bool := match m with
  | .loc t => match hp[t]? with
    | some (.tup [_, .str k', .int n', _, _]) => k' == k && decide (n' = n)
    | _ => false
  | _ => false
theorem pOf_row {hp : MHeap} {k : Str} {n : Int} {m : MV} {r : Row} (h : RowAt hp m r) : pOf hp k n m = isP k n r := by
  obtain ⟨t, rfl, e⟩ := h
  simp [pOf, e, rowM, isP]
theorem some_run {hp : MHeap} {b w : Nat} {rs : List Row} {k : Str} {n : Int} {x3 x4 x7 x10 x13 : Option MV} (h : WSt hp b w rs rs) (hk : strOk k) (h4 : hp[4]? = some (.cel (some (.str k)))) (h3 : hp[3]? = some (.cel (some (.int n)))) (hl : rs.length ≤ 100) :
    ∃ g ms, wSome (wL b x3 x4 x7 x10 x13) hp = some (.loc hp.length, hp ++ .lst ms :: g) ∧ RowsAt hp ms (rs.filter (isP k n)) := by
  obtain ⟨bs, hb1, hb2⟩ := h.bl
  have hbl := hb2.len
  obtain ⟨g, e⟩ := comp_seq (is := [8, 9]) (t := some (tP (e2 oEq (eSl 1 (some 3) (eV 0)) (eTup (vCons (eCV 1) (vCons (eCV 2) vNil)))))) (f := eV 0) (gf := eV 2) (loc := wL b x3 x4 x7 x10 x13) (hp := hp) (hp0 := hp) (p := pOf hp k n) (val := fun m => m) rfl hb1
    (fun m hm hp' kp => by
      obtain ⟨r, hr1, hr2⟩ := hb2.mem hm
      have h4' := kp 4 _ List.not_mem_nil h4
      have h3' := kp 3 _ List.not_mem_nil h3
      obtain ⟨g, q⟩ := sl_eq (k := k) (n := n) (loc := some m :: capsOf [8, 9] (wL b x3 x4 x7 x10 x13)) (f := eV 0) (g1 := eCV 1) (g2 := eCV 2) (hr2.kp kp) (h.okb r hr1) hk rfl (fun g => ecv_of rfl (app_get g h4')) (fun g => ecv_of rfl (app_get g h3'))
      exact ⟨g, by rw [pOf_row hr2]; exact q⟩)
    (fun m hm hp' kp => ⟨[], by simp [eV]⟩) (by unfold cap; omega)
  refine ⟨g, bs.filter (pOf hp k n), ?_, hb2.filter fun m r => pOf_row⟩
  show eComp [8, 9] _ _ _ _ _ = _
  rw [e]
  simp

theorem found_ne {hp : MHeap} {v v' : MV} {o : Option Row} (ho : ∀ r, o = some r → r.ok) (h : FoundAt hp v o) (h' : FoundAt hp v' o) : oNe v v' hp = some (.bool false, hp) := by
  cases o with
  | none => cases h; cases h'; rfl
  | some r =>
    have e1 : dataOf dDepth hp v = some (rowD r) := data_row (n := 5) h (ho r rfl)
    have e2' : dataOf dDepth hp v' = some (rowD r) := data_row (n := 5) h' (ho r rfl)
    simp only [oNe, e1, e2', Option.bind_some, PySem.SeqAt.eqv_refl _ (lay_row (ho r rfl)), Bool.not_true]
theorem kind_run {hp : MHeap} {b w : Nat} {rs : List Row} {k : Str} {n : Int} {x3 x4 x7 x10 x13 : Option MV} (h : WSt hp b w rs rs) (hk : strOk k) (h4 : hp[4]? = some (.cel (some (.str k)))) (h3 : hp[3]? = some (.cel (some (.int n)))) (hl : rs.length ≤ 100) :
    ∃ x10' g, wKind (wL b x3 x4 x7 x10 x13) hp = some (.next, wL b x3 x4 x7 x10' x13, hp ++ g) := by
  obtain ⟨g, ms, e1, e2'⟩ := some_run (x3 := x3) (x4 := x4) (x7 := x7) (x10 := x10) (x13 := x13) h hk h4 h3 hl
  let hA := hp ++ MObj.lst ms :: g
  have WA : WSt hA b w rs rs := h.app _
  obtain ⟨ws, hw1, hw2⟩ := WA.wl
  obtain ⟨v, f1, f2⟩ := fw_run (n := n) WA.ch hk hw1 hw2 WA.ok
  have h4A : hA[4]? = some (.cel (some (.str k))) := app_get _ h4
  have h3A : hA[3]? = some (.cel (some (.int n))) := app_get _ h3
  have hmA : hA[hp.length]? = some (.lst ms) := app_last hp _ g
  let hB := hA ++ [MObj.lst [.none]]
  let hC := hB ++ [MObj.lst (ms ++ [.none])]
  have hmB : hB[hp.length]? = some (.lst ms) := app_get _ hmA
  have hnB : hB[hA.length]? = some (.lst [.none]) := app_last hA _ []
  have hC1 : hC[hB.length]? = some (.lst (ms ++ [.none])) := app_last hB _ []
  have lens := e2'.len
  have lenf : (rs.filter (isP k n)).length ≤ rs.length := List.length_filter_le _ _
  have s1 : sVar 10 wSome (wL b x3 x4 x7 x10 x13) hp = some (.next, wL b x3 x4 x7 (some (.loc hp.length)) x13, hA) := by
    unfold sVar
    rw [e1]
    rfl
  have hadd : oAdd (.loc hp.length) (.loc hA.length) hB = some (.loc hB.length, hC) := by
    exact add_lst hmB hnB (by simp [cap]; omega)
  obtain ⟨v', hv', hfd⟩ : ∃ v', (ms ++ [MV.none])[0]? = some v' ∧ FoundAt hC v' (rs.find? (isP k n)) := by
    have hh : (rs.filter (isP k n)).head? = rs.find? (isP k n) := List.head?_filter
    have rC : RowsAt hC ms (rs.filter (isP k n)) := e2'.mono ((TK.app _ _).trans ((TK.app _ _).trans (TK.app _ _)))
    cases hq : rs.filter (isP k n) with
    | nil =>
      rw [hq] at rC hh
      cases ms with
      | nil => exact ⟨.none, rfl, by rw [← hh]; rfl⟩
      | cons m ms => obtain ⟨_, _, z, _⟩ := rC; cases z
    | cons r q =>
      rw [hq] at rC hh
      cases ms with
      | nil => cases rC
      | cons m ms =>
        obtain ⟨_, _, z, a, _⟩ := rC
        cases z
        exact ⟨m, rfl, by rw [← hh]; exact a⟩
  have hidx : oIdx (.loc hB.length) (.int 0) hC = some (v', hC) := idx_lst hC1 (by decide) (by decide) hv'
  have hne : oNe v v' hC = some (.bool false, hC) := found_ne (o := rs.find? (isP k n)) (fun r hr => h.ok r (List.mem_of_find?_eq_some hr)) (f1.mono ((TK.app _ _).trans (TK.app _ _))) hfd
  refine ⟨some (.loc hp.length), MObj.lst ms :: g ++ [MObj.lst [.none], MObj.lst (ms ++ [.none])], ?_⟩
  have hCe : hC = hp ++ (MObj.lst ms :: g ++ [MObj.lst [.none], MObj.lst (ms ++ [.none])]) := by simp [hC, hB, hA]
  rw [← hCe]
  unfold wKind
  refine (seq_next s1).trans ((seq_next (l := wL b x3 x4 x7 (some (.loc hp.length)) x13) (h := hC) ?_).trans rfl)
  have hmeth : eMeth (isInst 18 704) fw (eV 1) (vCons (eCV 8) (vCons (eCV 9) vNil)) (wL b x3 x4 x7 (some (.loc hp.length)) x13) hA = some (v, hA) := by
    have q8 : eCV 8 (wL b x3 x4 x7 (some (.loc hp.length)) x13) hA = some (.str k, hA) := ecv_of rfl h4A
    have q9 : eCV 9 (wL b x3 x4 x7 (some (.loc hp.length)) x13) hA = some (.int n, hA) := ecv_of rfl h3A
    unfold eMeth
    rw [show eV 1 (wL b x3 x4 x7 (some (.loc hp.length)) x13) hA = some (.loc 7, hA) from rfl]
    simp only [Option.bind_some, isInst_ch (i := 18) WA.ch (by decide) (by decide), vCons, vNil, q8, q9, f2]
  have hmk : mkLst ([.none], hA) = some (.loc hA.length, hB) := by simp [mkLst, cap, hB]
  unfold sIf tP
  rw [show e2 oNe (eMeth (isInst 18 704) fw (eV 1) (vCons (eCV 8) (vCons (eCV 9) vNil))) (e2 oIdx (e2 oAdd (eV 10) (eLst (vCons (eC .none) vNil))) (eC (.int 0))) (wL b x3 x4 x7 (some (.loc hp.length)) x13) hA = some (.bool false, hC) from by
    unfold e2
    rw [hmeth]
    simp only [Option.bind_some]
    rw [show eV 10 (wL b x3 x4 x7 (some (.loc hp.length)) x13) hA = some (.loc hp.length, hA) from rfl]
    simp only [Option.bind_some, eLst, vCons, vNil, eC, hmk, hadd, hidx, hne]]
  rfl

theorem WSt.cel {hp : MHeap} {b w : Nat} {rs rb : List Row} (h : WSt hp b w rs rb) {i : Nat} (h1 : 1 ≤ i) (h2 : i ≤ 6) (m : MV) : WSt (hp.set i (.cel (some m))) b w rs rb ∧ (hp.set i (MObj.cel (some m)))[i]? = some (.cel (some m)) ∧ ∃ m0, hp[i]? = some (.cel m0) := by
  obtain ⟨m0, e⟩ := h.cells i h1 h2
  refine ⟨h.set e (fun _ => nofun) (by omega) (fun q => ?_) (fun q => ?_) (by omega) (fun _ _ => ⟨_, rfl⟩), List.getElem?_set_self (List.getElem?_eq_some_iff.mp e).1, m0, e⟩
  · obtain ⟨ws, z, _⟩ := h.wl; rw [← q, e] at z; cases z
  · obtain ⟨ws, z, _⟩ := h.bl; rw [← q, e] at z; cases z
theorem nums_go {b w : Nat} {rs : List Row} {k : Str} {x3 x4 x7 x13 : Option MV} (hk : strOk k) (hl : rs.length ≤ 100) : ∀ (j i : Nat) {hp : MHeap} {x10 : Option MV}, WSt hp b w rs rs → hp[4]? = some (.cel (some (.str k))) → j + i = 2 →
    ∃ x10' hp', forL (aCV 9) wKind j (.rng i 2) (wL b x3 x4 x7 x10 x13) hp = some (.next, wL b x3 x4 x7 x10' x13, hp') ∧ WSt hp' b w rs rs ∧ Kp [3] hp hp' := by
  refine nat_step fun j ih => ?_
  intro i hp x10 h h4 hj
  unfold forL
  by_cases hi : i < 2
  · rw [rng_some hi]
    cases j with
    | zero => omega
    | succ j =>
      obtain ⟨W1, c1, m0, c0⟩ := h.cel (i := 3) (by decide) (by decide) (.int (i : Int))
      have hs : aCV 9 (.int (i : Int)) (wL b x3 x4 x7 x10 x13) hp = some (wL b x3 x4 x7 x10 x13, hp.set 3 (.cel (some (.int (i : Int))))) := by
        exact acv_of rfl c0
      have h41 : (hp.set 3 (MObj.cel (some (.int (i : Int)))))[4]? = some (.cel (some (.str k))) := by
        rw [List.getElem?_set_ne (by decide)]; exact h4
      obtain ⟨x10', g, e⟩ := kind_run (x3 := x3) (x4 := x4) (x7 := x7) (x10 := x10) (x13 := x13) W1 hk h41 c1 hl
      obtain ⟨x10'', hp', d1, d2, d3⟩ := ih j rfl (i + 1) (x10 := x10') (W1.app g) (app_get g h41) (by omega)
      refine ⟨x10'', hp', ?_, d2, ((Kp.set _ (.head _)).trans (Kp.app _ _ _)).trans d3⟩
      simp only [Option.bind_some, hs]
      rw [e]
      exact d1
  · rw [rng_none hi]
    simp only [Option.bind_some]
    exact ⟨x10, hp, rfl, h, Kp.refl _ _⟩
theorem kinds_go {b w l : Nat} {rs : List Row} {x3 x4 x7 x13 : Option MV} (hl : rs.length ≤ 100) (l4 : 7 < l) : ∀ (j i : Nat) {hp : MHeap} {x10 : Option MV}, WSt hp b w rs rs → hp[l]? = some (.lst [.str sT, .str tT]) → j + i = 2 →
    ∃ x10' hp', forL (aCV 8) (sSeq (sFor (aCV 9) (eCall fRange (vCons (eC (.int 2)) vNil)) wKind) sNil) j (.seq l i) (wL b x3 x4 x7 x10 x13) hp = some (.next, wL b x3 x4 x7 x10' x13, hp') ∧ WSt hp' b w rs rs := by
  refine nat_step fun j ih => ?_
  intro i hp x10 h hll hj
  unfold forL
  cases hm : [MV.str sT, MV.str tT][i]? with
  | none =>
    rw [next_none hll hm]
    simp only [Option.bind_some]
    exact ⟨x10, hp, rfl, h⟩
  | some m =>
    rw [next_some hll hm]
    have hi := (List.getElem?_eq_some_iff.mp hm).1
    simp only [List.length_cons, List.length_nil] at hi
    cases j with
    | zero => omega
    | succ j =>
      obtain ⟨k, hk, rfl⟩ : ∃ k, strOk k ∧ m = .str k := by
        have := List.mem_of_getElem? hm
        simp only [List.mem_cons, List.not_mem_nil, or_false] at this
        rcases this with rfl | rfl
        · exact ⟨_, sT_ok, rfl⟩
        · exact ⟨_, tT_ok, rfl⟩
      obtain ⟨W1, c1, m0, c0⟩ := h.cel (i := 4) (by decide) (by decide) (.str k)
      have hs : aCV 8 (.str k) (wL b x3 x4 x7 x10 x13) hp = some (wL b x3 x4 x7 x10 x13, hp.set 4 (.cel (some (.str k)))) := by
        exact acv_of rfl c0
      let hp1 := hp.set 4 (MObj.cel (some (.str k)))
      obtain ⟨x10', hp2, d1, d2, d3⟩ := nums_go (x3 := x3) (x4 := x4) (x7 := x7) (x13 := x13) hk hl 2 0 (x10 := x10) (W1.app [MObj.rng 2]) (app_get _ c1) (by omega)
      have hb : sSeq (sFor (aCV 9) (eCall fRange (vCons (eC (.int 2)) vNil)) wKind) sNil (wL b x3 x4 x7 x10 x13) hp1 = some (.next, wL b x3 x4 x7 x10' x13, hp2) := by
        have hr : eCall fRange (vCons (eC (.int 2)) vNil) (wL b x3 x4 x7 x10 x13) hp1 = some (.loc hp1.length, hp1 ++ [MObj.rng 2]) := rfl
        have hit : mkIt (.loc hp1.length) (hp1 ++ [MObj.rng 2]) = some (.rng 0 2, 2) := by
          exact it_rng (app_last hp1 (MObj.rng 2) []) (by decide)
        exact (seq_next ((for_eq hr hit).trans d1)).trans rfl
      have hl2 : hp2[l]? = some (.lst [.str sT, .str tT]) := by
        refine d3 l _ (by simp; omega) (app_get _ ?_)
        rw [List.getElem?_set_ne (by omega)]; exact hll
      obtain ⟨x10'', hp', e1, e2'⟩ := ih j rfl (i + 1) (x10 := x10') d2 hl2 (by omega)
      refine ⟨x10'', hp', ?_, e2'⟩
      simp only [Option.bind_some, hs]
      rw [show sSeq (sFor (aCV 9) (eCall fRange (vCons (eC (.int 2)) vNil)) wKind) sNil (wL b x3 x4 x7 x10 x13) (hp.set 4 (MObj.cel (some (.str k)))) = _ from hb]
      exact e1
theorem kinds_run {hp : MHeap} {b w : Nat} {rs : List Row} {x3 x4 x7 x10 x13 : Option MV} (h : WSt hp b w rs rs) (hl : rs.length ≤ 100) :
    ∃ x10' hp', wKinds (wL b x3 x4 x7 x10 x13) hp = some (.next, wL b x3 x4 x7 x10' x13, hp') ∧ WSt hp' b w rs rs := by
  have h7 : 7 < hp.length := by
    have e : hp[7]? = some (.inst 704 [(6, .loc 8), (70, .loc w)]) := h.ch
    exact (List.getElem?_eq_some_iff.mp e).1
  obtain ⟨x10', hp', e1, e2'⟩ := kinds_go (x3 := x3) (x4 := x4) (x7 := x7) (x13 := x13) hl h7 2 0 (x10 := x10) (h.app [MObj.lst [.str sT, .str tT]]) (app_last hp _ []) (by omega)
  refine ⟨x10', hp', ?_, e2'⟩
  have hr : eLst vKinds (wL b x3 x4 x7 x10 x13) hp = some (.loc hp.length, hp ++ [MObj.lst [.str sT, .str tT]]) := by
    simp [eLst, vKinds, vCons, vNil, eC, mkLst, cap]
  have hit : mkIt (.loc hp.length) (hp ++ [MObj.lst [.str sT, .str tT]]) = some (.seq hp.length 0, 2) := by
    exact it_lst (app_last hp (MObj.lst [.str sT, .str tT]) [])
  exact (for_eq hr hit).trans e1
end Mine
end

section
open PySem PySem.W PySem.Calls PyProof.Rows
set_option maxRecDepth 100000
set_option maxHeartbeats 1000000
namespace Mine

theorem unp_run {hp : MHeap} {b w : Nat} {rs : List Row} {x3 x4 x7 x10 x13 : Option MV} (h : WSt hp b w rs rs) :
    ∃ hp' g k n, wUnp (wL b x3 x4 x7 x10 x13) hp = some (.next, wL b x3 x4 x7 x10 x13, hp') ∧ WSt hp' b w rs rs ∧ strOk k ∧ hp'[2]? = some (.cel (some (.int g))) ∧ hp'[4]? = some (.cel (some (.str k))) ∧ hp'[3]? = some (.cel (some (.int n))) := by
  obtain ⟨g, hp1, a1, a2, a3, a4, a5, a6, a7⟩ := wDraw_run (loc := wL b x3 x4 x7 x10 x13) h (m := 6) (by decide) (by decide) rfl
  have hvk : vKinds (wL b x3 x4 x7 x10 x13) hp1 = some ([.str sT, .str tT], hp1) := rfl
  obtain ⟨m1, hp2, b1, b2, b3, b4, b5, b6⟩ := oneOf_run a4 hvk rfl (by decide) (by decide)
  obtain ⟨k, hk, rfl⟩ : ∃ k, strOk k ∧ m1 = .str k := by
    simp only [List.mem_cons, List.not_mem_nil, or_false] at b2
    rcases b2 with rfl | rfl
    · exact ⟨_, sT_ok, rfl⟩
    · exact ⟨_, tT_ok, rfl⟩
  obtain ⟨n, hp3, c1, c2, c3, c4, c5, c6, c7⟩ := wDraw_run (loc := wL b x3 x4 x7 x10 x13) b3 (m := 2) (by decide) (by decide) rfl
  let hp4 := hp3 ++ [MObj.tup [.int g, .str k, .int n]]
  have htp : hp4[hp3.length]? = some (.tup [.int g, .str k, .int n]) := app_last hp3 _ []
  have W4 : WSt hp4 b w rs rs := c4.app _
  obtain ⟨W5, d1, m0, e0⟩ := W4.cel (i := 2) (by decide) (by decide) (.int g)
  obtain ⟨W6, d2, m1, e1⟩ := W5.cel (i := 4) (by decide) (by decide) (.str k)
  obtain ⟨W7, d3, m2, e2'⟩ := W6.cel (i := 3) (by decide) (by decide) (.int n)
  refine ⟨_, g, k, n, ?_, W7, hk, ?_, ?_, d3⟩
  · have hmk : mkTup ([.int g, .str k, .int n], hp3) = some (.loc hp3.length, hp4) := by simp [mkTup, cap, hp4]
    unfold wUnp sUnp
    simp only [eTup, vCons]
    rw [a1]
    simp only [Option.bind_some]
    rw [b1]
    simp only [Option.bind_some]
    rw [c1]
    simp only [Option.bind_some, vNil, hmk, atup_of htp, goA]
    rw [show aCV 11 (.int g) (wL b x3 x4 x7 x10 x13) hp4 = some (wL b x3 x4 x7 x10 x13, hp4.set 2 (.cel (some (.int g)))) from acv_of rfl e0]
    simp only [Option.bind_some]
    rw [show aCV 8 (.str k) (wL b x3 x4 x7 x10 x13) (hp4.set 2 (.cel (some (.int g)))) = some (wL b x3 x4 x7 x10 x13, (hp4.set 2 (.cel (some (.int g)))).set 4 (.cel (some (.str k)))) from acv_of rfl e1]
    simp only [Option.bind_some]
    rw [show aCV 9 (.int n) (wL b x3 x4 x7 x10 x13) ((hp4.set 2 (.cel (some (.int g)))).set 4 (.cel (some (.str k)))) = some (wL b x3 x4 x7 x10 x13, ((hp4.set 2 (.cel (some (.int g)))).set 4 (.cel (some (.str k)))).set 3 (.cel (some (.int n)))) from acv_of rfl e2']
    rfl
  · rw [List.getElem?_set_ne (by decide), List.getElem?_set_ne (by decide)]; exact d1
  · rw [List.getElem?_set_ne (by decide)]; exact d2

theorem go_run {hp : MHeap} {b w : Nat} {rs : List Row} {g : Int} {x3 x4 x7 x10 x13 : Option MV} (h : WSt hp b w rs rs) (h2 : hp[2]? = some (.cel (some (.int g)))) (hl : rs.length ≤ 100) :
    ∃ hp' w', wGo (wL b x3 x4 x7 x10 x13) hp = some (.next, wL b x3 x4 x7 x10 x13, hp') ∧ WSt hp' b w' (rs.filter fun r => !(r.who == g)) rs ∧ Kp [7] hp hp' := by
  obtain ⟨ws, hw1, hw2⟩ := h.wl
  have hwl := hw2.len
  obtain ⟨hp', w', ms', l1, l2, l3, l4, l5, l6⟩ := lg_run (g := g) h.ch hw1 hw2 (by unfold cap; omega)
  have q : eCV 11 (wL b x3 x4 x7 x10 x13) hp = some (.int g, hp) := ecv_of rfl h2
  have tk : TK hp hp' := TK.kp l5 (fun i hi vs e => by
    rw [List.mem_singleton.mp hi] at e
    have z : hp[7]? = some (.inst 704 [(6, .loc 8), (70, .loc w)]) := h.ch
    rw [z] at e; cases e)
  obtain ⟨⟨x, y, k1, k2⟩, k3, k4, _, ⟨bs, k6, k7⟩, k8, k9, k10, k11, k12⟩ := h
  have b7 : b ≠ 7 := fun e => by
    have z : hp[7]? = some (.inst 704 [(6, .loc 8), (70, .loc w)]) := k4
    rw [e, z] at k6; cases k6
  have blt := (List.getElem?_eq_some_iff.mp k6).1
  refine ⟨hp', w', ?_, ⟨⟨x, y, k1, l5 0 _ (by decide) k2⟩, fun i u v => ?_, l2, ⟨ms', l3, l4⟩, ⟨bs, l5 b _ (by simp [b7]) k6, k7.mono tk⟩, fun r hr => k8 r (List.mem_filter.mp hr).1, k9, by omega, by omega, k12⟩, l5⟩
  · unfold wGo sExpr eMeth
    rw [show eV 1 (wL b x3 x4 x7 x10 x13) hp = some (.loc 7, hp) from rfl]
    simp only [Option.bind_some, isInst_ch (i := 37) k4 (by decide) (by decide), vCons, vNil, q, l1]
  · obtain ⟨m, e⟩ := k3 i u v
    exact ⟨m, l5 i _ (by simp; omega) e⟩
theorem book2_run {hp : MHeap} {b w : Nat} {rs rs2 : List Row} {g : Int} {x3 x4 x7 x10 x13 : Option MV} (h : WSt hp b w rs2 rs) (h2 : hp[2]? = some (.cel (some (.int g)))) (hl : rs.length ≤ 100) :
    ∃ b' gg, wBook2 (wL b x3 x4 x7 x10 x13) hp = some (.next, wL b' x3 x4 x7 x10 x13, hp ++ gg) ∧ WSt (hp ++ gg) b' w rs2 (rs.filter fun r => !(r.who == g)) := by
  obtain ⟨bs, hb1, hb2⟩ := h.bl
  have hbl := hb2.len
  obtain ⟨g', e⟩ := who_comp (is := [11]) (loc := wL b x3 x4 x7 x10 x13) (gf := eV 2) (hp := hp) (hp0 := hp) (lg := 2) (g := g) rfl hb1 hb2 rfl h2 (by unfold cap; omega)
  obtain ⟨ws, w1, w2⟩ := h.wl
  have wlt := (List.getElem?_eq_some_iff.mp w1).1
  have W := h.app (MObj.lst (bs.filter fun m => !(whoOf hp m == g)) :: g')
  refine ⟨hp.length, MObj.lst (bs.filter fun m => !(whoOf hp m == g)) :: g', ?_, ⟨W.reel, W.cells, W.ch, W.wl, ⟨_, app_last hp _ g', (RowsAt.filter (fun m r z => by rw [whoOf_row z]) hb2).mono (TK.app _ _)⟩, W.ok, fun r hr => W.okb r (List.mem_filter.mp hr).1, by omega, W.w0, by have := h.w0; omega⟩⟩
  unfold wBook2 sVar
  rw [e]
  rfl

noncomputable def OutD (hp : MHeap) (m : MV) (o : Int × Int) : Prop := ∃ t T, m = .loc t ∧ hp[t]? = some (.tup [.int o.1, .int o.2, .loc T]) ∧ hp[T]? = some (.tup [.str (Str.ofString "over")])
noncomputable def OutsD (hp : MHeap) : List MV → List (Int × Int) → Prop
  | [], os => os = []
  | m :: ms, os => ∃ o q, os = o :: q ∧ OutD hp m o ∧ OutsD hp ms q
theorem OutD.mono {hp hp' : MHeap} (k : TK hp hp') {m : MV} {o : Int × Int} (h : OutD hp m o) : OutD hp' m o := let ⟨t, T, e, a, b⟩ := h; ⟨t, T, e, k _ _ a, k _ _ b⟩
theorem OutsD.mono {hp hp' : MHeap} (k : TK hp hp') {ms : List MV} : ∀ {os : List (Int × Int)}, OutsD hp ms os → OutsD hp' ms os := by
  induction ms with
  | nil => exact fun h => h
  | cons m ms ih => rintro os ⟨o, q, e, a, b⟩; exact ⟨o, q, e, a.mono k, ih b⟩
theorem OutsD.snoc {hp : MHeap} {m : MV} {o : Int × Int} (h : OutD hp m o) {ms : List MV} : ∀ {os : List (Int × Int)}, OutsD hp ms os → OutsD hp (ms ++ [m]) (os ++ [o]) := by
  induction ms with
  | nil => intro os k; cases k; exact ⟨o, [], rfl, h, rfl⟩
  | cons m0 ms ih => rintro _ ⟨o', q, rfl, a, b⟩; exact ⟨o', q ++ [o], rfl, a, ih b⟩
theorem OutsD.len {hp : MHeap} {ms : List MV} : ∀ {os : List (Int × Int)}, OutsD hp ms os → ms.length = os.length := by
  induction ms with
  | nil => intro os h; cases h; rfl
  | cons m ms ih => rintro _ ⟨o, q, rfl, a, b⟩; exact congrArg (· + 1) (ih b)
theorem OutsD.first {hp : MHeap} {ms : List MV} : ∀ {os : List (Int × Int)}, OutsD hp ms os → (∀ m ∈ ms, FirstI hp m) ∧ ms.map (whoOf hp) = os.map (·.1) := by
  induction ms with
  | nil => intro os h; cases h; exact ⟨fun _ z => (nomatch z), rfl⟩
  | cons m ms ih =>
    rintro _ ⟨o, q, rfl, ⟨t, T, rfl, a, b⟩, c⟩
    obtain ⟨i1, i2⟩ := ih c
    refine ⟨fun m' hm => ?_, ?_⟩
    · rcases List.mem_cons.mp hm with rfl | hm
      · exact ⟨t, _, rfl, o.1, a, by simp⟩
      · exact i1 m' hm
    · simp [i2, whoOf, a]
theorem OutAt.outs {hp : MHeap} {T : Nat} (hT : hp[T]? = some (.tup [.str (Str.ofString "over")])) {ms : List MV} : ∀ {os : List (Int × Int)}, OutAt hp T ms os → OutsD hp ms os := by
  induction ms with
  | nil => exact fun h => h
  | cons m ms ih => rintro os ⟨o, q, t, e, e2', a, b⟩; exact ⟨o, q, e, ⟨t, T, e2', a, hT⟩, ih b⟩
noncomputable def outP (o : Int × Int) : PyData := .tuple [.int o.1, .int o.2, .tuple [.str (Str.ofString "over")]]
theorem over_ok : PyData.canLay0 (.str (Str.ofString "over")) = true := by kernel_rfl
theorem data_outs {hp : MHeap} {ms : List MV} : ∀ {os : List (Int × Int)}, OutsD hp ms os → mapO (dataOf 5 hp) ms = some (os.map outP) := by
  induction ms with
  | nil => intro os h; cases h; rfl
  | cons m ms ih =>
    rintro _ ⟨o, q, rfl, ⟨t, T, rfl, a, b⟩, c⟩
    have : dataOf 5 hp (.loc t) = some (outP o) := data_tup (n := 4) a (by
      unfold mapO mapO mapO mapO
      rw [data_int, data_int, data_tup (n := 3) b (by unfold mapO mapO; rw [data_str _ _ over_ok]; rfl)]; rfl)
    show (dataOf 5 hp (.loc t)).bind _ = _
    rw [this, ih c]
    rfl
theorem data_outl {hp : MHeap} {l : Nat} {ms : List MV} {os : List (Int × Int)} (hl : hp[l]? = some (.lst ms)) (h : OutsD hp ms os) : dataOf dDepth hp (.loc l) = some (.list (os.map outP)) := by
  exact data_lst (n := 5) hl (data_outs h)
theorem lay_outs (os : List (Int × Int)) : PyData.canLayAll0 (os.map outP) = true := by
  induction os with
  | nil => rfl
  | cons o os ih =>
    have h : PyData.canLay0 (outP o) = true := by
      have := over_ok
      simp [outP, PyData.canLay0, PyData.canLayAll0] at this ⊢
      exact this
    show (PyData.canLay0 (outP o) && PyData.canLayAll0 (os.map outP)) = true
    rw [h, ih]; rfl
theorem eqv_outs (os : List (Int × Int)) : PyData.eqv (.list (os.map outP)) (.list (os.map outP)) = true := PySem.SeqAt.eqv_refl _ (by simp only [PyData.canLay0, lay_outs])

theorem notdue_run {hp : MHeap} {dl : Nat} {out : List MV} {os : List (Int × Int)} {loc : Locs} {f gf : EFun} {who : Int} (hf : f loc hp = some (.int who, hp)) (hg : gf loc hp = some (.loc dl, hp)) (hd : hp[dl]? = some (.lst out)) (ho : OutsD hp out os) (hl : out.length ≤ 100) :
    ∃ g, tP (e2 oNotIn f (eComp [] none (e2 oIdx (eV 0) (eC (.int 0))) gf)) loc hp = some (!(os.any fun o => o.1 == who), hp ++ g) := by
  obtain ⟨i1, i2⟩ := ho.first
  obtain ⟨g, e⟩ := whos_run hg hd i1 (by unfold cap; omega)
  refine ⟨MObj.lst ((out.map (whoOf hp)).map MV.int) :: g, ?_⟩
  have h1 : e2 oNotIn f (eComp [] none (e2 oIdx (eV 0) (eC (.int 0))) gf) loc hp = some (.bool !((out.map (whoOf hp)).any fun z => z == who), hp ++ MObj.lst ((out.map (whoOf hp)).map MV.int) :: g) := (e2_of hf e).trans (notin_ints (app_last hp _ g))
  rw [tP_of h1, i2, List.any_map]
  rfl
theorem due_go {b w dl : Nat} {rs : List Row} {k : Str} {n : Int} {bs : List MV} {x3 x4 x7 x10 : Option MV} (hk : strOk k) (hbl : bs.length ≤ 50) : ∀ (j i : Nat) {hp : MHeap} {rest : List Row} {out : List MV} {os : List (Int × Int)} {x13 : Option MV},
    WSt hp b w rs rs → hp[b]? = some (.lst bs) → RowsAt hp (bs.drop i) rest → (∀ r ∈ rest, r.ok) → hp[4]? = some (.cel (some (.str k))) → hp[3]? = some (.cel (some (.int n))) → hp[1]? = some (.cel (some (.loc dl))) → hp[dl]? = some (.lst out) → OutsD hp out os →
    dl ≠ b → dl ≠ w → dl ≠ 0 → j + i = bs.length → out.length + j ≤ 100 →
    ∃ hp' out' x13', forL (aVar 13) wDueB j (.seq b i) (wL b x3 x4 x7 x10 x13) hp = some (.next, wL b x3 x4 x7 x10 x13', hp') ∧ WSt hp' b w rs rs ∧ hp'[dl]? = some (.lst out') ∧ OutsD hp' out' (dueR k n rest os) ∧ Kp [dl] hp hp' := by
  refine nat_step fun j ih => ?_
  intro i hp rest out os x13 h hb hr hro h4 h3 h1 hd ho db dw d0 hj hl
  unfold forL
  cases hm : bs[i]? with
  | none =>
    rw [next_none hb hm]
    have hi : bs.length ≤ i := List.getElem?_eq_none_iff.mp hm
    rw [List.drop_eq_nil_of_le hi] at hr
    cases hr
    simp only [Option.bind_some]
    exact ⟨hp, out, x13, rfl, h, hd, ho, Kp.refl _ _⟩
  | some m =>
    rw [next_some hb hm]
    obtain ⟨hi, hmi⟩ := List.getElem?_eq_some_iff.mp hm
    cases j with
    | zero => omega
    | succ j =>
      have hdr : bs.drop i = m :: bs.drop (i + 1) := by rw [List.drop_eq_getElem_cons hi, hmi]
      rw [hdr] at hr
      obtain ⟨r, q, rfl, hra, hrq⟩ := hr
      have hs : aVar 13 m (wL b x3 x4 x7 x10 x13) hp = some (wL b x3 x4 x7 x10 (some m), hp) := rfl
      simp only [Option.bind_some, hs]

      obtain ⟨g1, t1⟩ := sl_eq (k := k) (n := n) (loc := wL b x3 x4 x7 x10 (some m)) (f := eV 13) (g1 := eCV 8) (g2 := eCV 9) hra (hro r (.head _)) hk rfl (fun g => ecv_of rfl (app_get g h4)) (fun g => ecv_of rfl (app_get g h3))
      have n1 : ∀ S : List Nat, S = [dl] → (∀ i, 1 ≤ i → i ≤ 6 → i ∉ S) := fun S e i u v z => by
        subst e
        obtain ⟨mm, ee⟩ := h.cells i u v
        rw [List.mem_singleton.mp z, hd] at ee; cases ee
      have nb : b ∉ [dl] := by simp [Ne.symm db]
      have step : ∀ {hp1 : MHeap} {out1 : List MV} {os1 : List (Int × Int)}, wDueB (wL b x3 x4 x7 x10 (some m)) hp = some (.next, wL b x3 x4 x7 x10 (some m), hp1) → WSt hp1 b w rs rs → Kp [dl] hp hp1 → TK hp hp1 → hp1[dl]? = some (.lst out1) → OutsD hp1 out1 os1 → out1.length ≤ out.length + 1 → dueR k n (r :: q) os = dueR k n q os1 →
          ∃ hp' out' x13', ((wDueB (wL b x3 x4 x7 x10 (some m)) hp).bind fun r => match r with
            | (.next, l, h) => forL (aVar 13) wDueB j (.seq b (i + 1)) l h
            | (.cont, l, h) => forL (aVar 13) wDueB j (.seq b (i + 1)) l h
            | (.brk, l, h) => some (.next, l, h)
            | (.ret v, l, h) => some (.ret v, l, h)) = some (.next, wL b x3 x4 x7 x10 x13', hp') ∧ WSt hp' b w rs rs ∧ hp'[dl]? = some (.lst out') ∧ OutsD hp' out' (dueR k n (r :: q) os) ∧ Kp [dl] hp hp' := by
        intro hp1 out1 os1 e W1 kp tk hd1 ho1 hlen hdue
        obtain ⟨hp', out', x13', c1, c2, c3, c4, c5⟩ := ih j rfl (i + 1) (x13 := some m) W1 (kp b _ nb hb) (hrq.mono tk) (fun r' z => hro r' (.tail _ z)) (kp 4 _ (n1 _ rfl 4 (by decide) (by decide)) h4) (kp 3 _ (n1 _ rfl 3 (by decide) (by decide)) h3) (kp 1 _ (n1 _ rfl 1 (by decide) (by decide)) h1) hd1 ho1 db dw d0 (by omega) (by omega)
        refine ⟨hp', out', x13', ?_, c2, c3, by rw [hdue]; exact c4, kp.trans c5⟩
        rw [e]
        exact c1
      cases hP : isP k n r with
      | false =>
        rw [hP] at t1
        refine step (hp1 := hp ++ g1) ?_ (h.app _) (Kp.app _ _ _) (TK.app _ _) (app_get _ hd) (ho.mono (TK.app _ _)) (by omega) (by simp [dueR, hP])
        unfold wDueB
        refine (seq_next (l := wL b x3 x4 x7 x10 (some m)) (h := hp ++ g1) ?_).trans rfl
        unfold sIf tAnd
        rw [t1]
        rfl
      | true =>
        rw [hP] at t1
        let hA := hp ++ g1
        have hraA : RowAt hA m r := hra.mono (TK.app _ _)
        have hdA : hA[dl]? = some (.lst out) := app_get _ hd
        obtain ⟨g2, t2⟩ := notdue_run (loc := wL b x3 x4 x7 x10 (some m)) (f := e2 oIdx (eV 13) (eC (.int 0))) (gf := eCV 12) (who := r.who) (hp := hA) (by
            unfold e2
            rw [show eV 13 (wL b x3 x4 x7 x10 (some m)) hA = some (m, hA) from rfl]
            simp only [Option.bind_some, eC, idx_who hraA]) (ecv_of rfl (app_get _ h1)) hdA (ho.mono (TK.app _ _)) (by omega)
        let hB := hA ++ g2
        have tkB : TK hp hB := (TK.app _ _).trans (TK.app _ _)
        have kpB : Kp [dl] hp hB := (Kp.app _ _ _).trans (Kp.app _ _ _)
        cases hA' : os.any fun o => o.1 == r.who with
        | true =>
          rw [hA'] at t2
          refine step (hp1 := hB) ?_ ((h.app _).app _) kpB tkB (app_get _ hdA) (ho.mono tkB) (by omega) (by simp [dueR, hP, hA'])
          unfold wDueB
          refine (seq_next (l := wL b x3 x4 x7 x10 (some m)) (h := hB) ?_).trans rfl
          unfold sIf tAnd
          rw [t1]
          simp only [Option.bind_some]
          rw [t2]
          rfl
        | false =>
          rw [hA'] at t2
          let hC := hB ++ [MObj.tup [.str (Str.ofString "over")]]
          let hD := hC ++ [MObj.tup [.int r.who, .int r.case, .loc hB.length]]
          have hraB : RowAt hB m r := hra.mono tkB
          have hdB : hB[dl]? = some (.lst out) := app_get _ hdA
          have hdD : hD[dl]? = some (.lst out) := app_get _ (app_get _ hdB)
          have tkD : TK hp hD := tkB.trans ((TK.app _ _).trans (TK.app _ _))
          have WD : WSt hD b w rs rs := (((h.app _).app _).app _).app _
          have hltD := (List.getElem?_eq_some_iff.mp hdD).1
          have d7 : dl ≠ 7 := fun e => by
            have z : hp[7]? = some (.inst 704 [(6, .loc 8), (70, .loc w)]) := h.ch
            rw [e, z] at hd; cases hd
          have WE := WD.set (o' := .lst (out ++ [.loc hC.length])) hdD (fun _ => nofun) d7 dw db (fun e => absurd e d0) (fun u v => by
            obtain ⟨mm, ee⟩ := h.cells dl u v
            rw [hd] at ee; cases ee)
          have tkE : TK hD (hD.set dl (.lst (out ++ [.loc hC.length]))) := TK.set hdD (fun _ => nofun)
          have x1 : hD[hB.length]? = some (.tup [.str (Str.ofString "over")]) := app_get _ (app_last hB _ [])
          have x2 : hD[hC.length]? = some (.tup [.int r.who, .int r.case, .loc hB.length]) := app_last hC _ []
          refine step (hp1 := hD.set dl (.lst (out ++ [.loc hC.length]))) ?_ WE (kpB.trans (((Kp.app _ _ _).trans (Kp.app _ _ _)).trans (Kp.set _ (.head _)))) (tkD.trans tkE) (List.getElem?_set_self hltD) (((ho.mono tkD).snoc (o := (r.who, r.case)) ⟨hC.length, hB.length, rfl, x2, x1⟩).mono tkE) (by simp) (by simp [dueR, hP, hA'])
          unfold wDueB
          refine (seq_next (l := wL b x3 x4 x7 x10 (some m)) (h := hD.set dl (.lst (out ++ [.loc hC.length]))) ?_).trans rfl
          unfold sIf tAnd
          rw [t1]
          simp only [Option.bind_some]
          rw [t2]
          simp only [Option.bind_some, Bool.not_false]
          refine (seq_next (l := wL b x3 x4 x7 x10 (some m)) (h := hD.set dl (.lst (out ++ [.loc hC.length]))) ?_).trans rfl
          have q12 : eCV 12 (wL b x3 x4 x7 x10 (some m)) hB = some (.loc dl, hB) := ecv_of rfl (app_get _ (app_get _ h1))
          have q13 : eV 13 (wL b x3 x4 x7 x10 (some m)) hB = some (m, hB) := rfl
          have hov : wOver (wL b x3 x4 x7 x10 (some m)) hB = some (.loc hB.length, hC) := by simp [wOver, eTup, vCons, vNil, eC, mkTup, cap, hC]
          have hmk : mkTup ([.int r.who, .int r.case, .loc hB.length], hC) = some (.loc hC.length, hD) := by simp [mkTup, cap, hD]
          have hap := append_new (m := .loc hC.length) hdD (by unfold cap; omega)
          show sExpr _ (wL b x3 x4 x7 x10 (some m)) hB = _
          unfold sExpr eMeth
          rw [q12]
          simp only [Option.bind_some, isLst_at hdB]
          simp only [vCons, eTup, e2, q13, Option.bind_some, eC, idx_who hraB, idx_case hraB, hov, vNil, hmk, hap]
end Mine
end

section
open PySem PySem.W PySem.Calls PyProof.Rows
set_option maxRecDepth 100000
set_option maxHeartbeats 1000000
namespace Mine

theorem end_run {hp : MHeap} {b w dl : Nat} {rs : List Row} {k : Str} {n : Int} {out : List MV} {x3 x4 x7 x10 x13 : Option MV} (h : WSt hp b w rs rs) (hk : strOk k) (h4 : hp[4]? = some (.cel (some (.str k)))) (h3 : hp[3]? = some (.cel (some (.int n)))) (h1 : hp[1]? = some (.cel (some (.loc dl))))
    (hd : hp[dl]? = some (.lst out)) (ho : OutsD hp out (dueR k n rs [])) (hl : rs.length ≤ 50) :
    ∃ hp' w' ms', wEnd (wL b x3 x4 x7 x10 x13) hp = some (.next, wL b x3 x4 x7 x10 x13, hp') ∧ Chans hp' 7 8 w' ∧ hp'[w']? = some (.lst ms') ∧ RowsAt hp' ms' (endedN k n 60 rs).2 ∧ Kp [7] hp hp' ∧ TK hp hp' := by
  let hA := hp ++ [MObj.tup [.str (Str.ofString "over")]]
  have WA : WSt hA b w rs rs := h.app _
  obtain ⟨ws, w1, w2⟩ := WA.wl
  obtain ⟨fl, hp', w', ms', o', e1, e2', e3, e4, e5, e6, e7⟩ := ended_run (T := hp.length) (n := n) WA.ch hk w1 w2 WA.ok hl
  have tkA : TK hA hp' := TK.kp e7 (fun i hi vs e => by
    rw [List.mem_singleton.mp hi] at e
    have z : hA[7]? = some (.inst 704 [(6, .loc 8), (70, .loc w)]) := WA.ch
    rw [z] at e; cases e)
  have tk : TK hp hp' := (TK.app _ _).trans tkA
  have kp : Kp [7] hp hp' := (Kp.app _ _ _).trans e7
  have hT : hA[hp.length]? = some (.tup [.str (Str.ofString "over")]) := app_last hp _ []
  have d7 : dl ∉ [7] := fun e => by
    have z : hp[7]? = some (.inst 704 [(6, .loc 8), (70, .loc w)]) := h.ch
    rw [List.mem_singleton.mp e, z] at hd; cases hd
  have h1' : hp'[1]? = some (.cel (some (.loc dl))) := kp 1 _ (by decide) h1
  have hd' : hp'[dl]? = some (.lst out) := kp dl _ d7 hd
  have ho1 : OutsD hp' o' (endedN k n 60 rs).1 := e6.outs (tkA _ _ hT)
  have ho2 : OutsD hp' out (endedN k n 60 rs).1 := by
    rw [← due_all (by omega)]
    exact ho.mono tk
  refine ⟨hp', w', ms', ?_, e2', e3, e4, kp, tk⟩
  have hov : wOver (wL b x3 x4 x7 x10 x13) hp = some (.loc hp.length, hA) := by simp [wOver, eTup, vCons, vNil, eC, mkTup, cap, hA]
  have q8 : eCV 8 (wL b x3 x4 x7 x10 x13) hp = some (.str k, hp) := ecv_of rfl h4
  have q9 : eCV 9 (wL b x3 x4 x7 x10 x13) hp = some (.int n, hp) := ecv_of rfl h3
  have q12 : eCV 12 (wL b x3 x4 x7 x10 x13) hp' = some (.loc dl, hp') := ecv_of rfl h1'
  have hm : eMeth (isInst 16 704) D_PlainChannels_ended.1 (eV 1) (vCons (eCV 8) (vCons (eCV 9) (vCons wOver vNil))) (wL b x3 x4 x7 x10 x13) hp = some (.loc fl, hp') := by
    unfold eMeth
    rw [show eV 1 (wL b x3 x4 x7 x10 x13) hp = some (.loc 7, hp) from rfl]
    simp only [Option.bind_some, isInst_ch (i := 16) h.ch (by decide) (by decide), vCons, vNil, q8, q9, hov, e1]
  have hne : oNe (.loc fl) (.loc dl) hp' = some (.bool false, hp') := by
    simp only [oNe, data_outl e5 ho1, data_outl hd' ho2, Option.bind_some, eqv_outs, Bool.not_true]
  unfold wEnd sIf
  rw [tP_of ((e2_of hm q12).trans hne)]
  rfl

theorem fin_run {hp : MHeap} {b w' dl : Nat} {rs : List Row} {k : Str} {n : Int} {out ms' bs : List MV} {x3 x4 x7 x10 x13 : Option MV} (hc : Chans hp 7 8 w') (hw : hp[w']? = some (.lst ms')) (hr : RowsAt hp ms' (endedN k n 60 rs).2) (hb : hp[b]? = some (.lst bs)) (hbr : RowsAt hp bs rs) (hok : ∀ r ∈ rs, r.ok)
    (h1 : hp[1]? = some (.cel (some (.loc dl)))) (hd : hp[dl]? = some (.lst out)) (ho : OutsD hp out (endedN k n 60 rs).1) (hl : rs.length ≤ 50) (hol : out.length ≤ 100) :
    ∃ g, wFin (wL b x3 x4 x7 x10 x13) hp = some (.ret (.bool true), wL b x3 x4 x7 x10 x13, hp ++ g) := by
  have hbl := hbr.len
  obtain ⟨g, e⟩ := comp_seq (is := [12]) (t := some (tP (e2 oNotIn (e2 oIdx (eV 0) (eC (.int 0))) (eComp [] none (e2 oIdx (eV 0) (eC (.int 0))) (eCV 1))))) (f := eV 0) (gf := eV 2) (loc := wL b x3 x4 x7 x10 x13) (hp := hp) (hp0 := hp)
    (p := fun m => !((endedN k n 60 rs).1.any fun o => o.1 == whoOf hp m)) (val := fun m => m) rfl hb
    (fun m hm hp' kp => by
      obtain ⟨r, hr1, hr2⟩ := hbr.mem hm
      have hr3 := hr2.kp kp
      have tk : TK hp hp' := fun t vs e => kp t _ List.not_mem_nil e
      obtain ⟨g, q⟩ := notdue_run (loc := some m :: capsOf [12] (wL b x3 x4 x7 x10 x13)) (f := e2 oIdx (eV 0) (eC (.int 0))) (gf := eCV 1) (who := r.who) (hp := hp') ((e2_of (a := m) (b := .int 0) rfl rfl).trans (idx_who hr3)) (ecv_of rfl (kp 1 _ List.not_mem_nil h1)) (kp dl _ List.not_mem_nil hd) (ho.mono tk) hol
      refine ⟨g, ?_⟩
      rw [whoOf_row hr2]
      exact q)
    (fun m hm hp' kp => ⟨[], by simp [eV]⟩) (by unfold cap; omega)
  rw [List.map_id'] at e
  let hE := hp ++ MObj.lst (bs.filter fun m => !((endedN k n 60 rs).1.any fun o => o.1 == whoOf hp m)) :: g
  have tkE : TK hp hE := TK.app _ _
  have hrE : RowsAt hE (bs.filter fun m => !((endedN k n 60 rs).1.any fun o => o.1 == whoOf hp m)) (endedN k n 60 rs).2 := by
    rw [ended_rows]
    exact (RowsAt.filter (fun m r z => by rw [whoOf_row z]) hbr).mono tkE
  have hokE : ∀ r ∈ (endedN k n 60 rs).2, r.ok := fun r z => by
    rw [ended_rows] at z
    exact hok r (List.mem_filter.mp z).1
  have hat : eAttr 70 [209, 704] (eV 1) (wL b x3 x4 x7 x10 x13) hp = some (.loc w', hp) := by
    unfold eAttr
    rw [show eV 1 (wL b x3 x4 x7 x10 x13) hp = some (.loc 7, hp) from rfl]
    simp only [Option.bind_some, chans_get hc]
  have heq : oEq (.loc w') (.loc hp.length) hE = some (.bool true, hE) := by
    have dd1 : dataOf dDepth hE (.loc w') = some (.list ((endedN k n 60 rs).2.map rowD)) := data_list (app_get _ hw) (hr.mono tkE) hokE
    have dd2 : dataOf dDepth hE (.loc hp.length) = some (.list ((endedN k n 60 rs).2.map rowD)) := data_list (app_last hp _ g) hrE hokE
    simp only [oEq, dd1, dd2, Option.bind_some, eqv_rows hokE]
  refine ⟨MObj.lst (bs.filter fun m => !((endedN k n 60 rs).1.any fun o => o.1 == whoOf hp m)) :: g, ?_⟩
  unfold wFin sRet
  rw [(e2_of hat e).trans heq]
  rfl

theorem wst0 {x y : Int} (h : rOk x y) : WSt (wHp1 x y) 10 9 [] [] where
  reel := ⟨x, y, h, rfl⟩
  cells := fun i h1 h2 => by
    match i, h1, h2 with
    | 1, _, _ => exact ⟨_, rfl⟩
    | 2, _, _ => exact ⟨_, rfl⟩
    | 3, _, _ => exact ⟨_, rfl⟩
    | 4, _, _ => exact ⟨_, rfl⟩
    | 5, _, _ => exact ⟨_, rfl⟩
    | 6, _, _ => exact ⟨_, rfl⟩
    | i + 7, _, h2 => omega
  ch := rfl
  wl := ⟨[], rfl, rfl⟩
  bl := ⟨[], rfl, rfl⟩
  ok := fun _ z => nomatch z
  okb := fun _ z => nomatch z
  ne := by decide
  w0 := by decide
  b0 := by decide

theorem rest_run {x y : Int} (h : rOk x y) : ∃ l' hp' x' y', wRest (wL 10 (some (.int 1)) none none none none) (wHp1 x y) = some (.ret (.bool true), l', hp') ∧ rOk x' y' ∧ hp'[0]? = some (.lst [.int x', .int y']) := by
  obtain ⟨hp1, b1, rs, x4, x7, a1, a2, a3⟩ := turns_run (x3 := some (.int 1)) (x4 := none) (x7 := none) (x10 := none) (x13 := none) (wst0 h)
  have c1 := check_run (x3 := some (.int 1)) (x4 := x4) (x7 := x7) (x10 := none) (x13 := none) a2
  obtain ⟨x10, hp2, k1, k2⟩ := kinds_run (x3 := some (.int 1)) (x4 := x4) (x7 := x7) (x10 := none) (x13 := none) a2 (by omega)
  obtain ⟨hp3, g, k, n, u1, u2, u3, u4, u5, u6⟩ := unp_run (x3 := some (.int 1)) (x4 := x4) (x7 := x7) (x10 := x10) (x13 := none) k2
  obtain ⟨hp4, w4, g1, g2, g3⟩ := go_run (x3 := some (.int 1)) (x4 := x4) (x7 := x7) (x10 := x10) (x13 := none) u2 u4 (by omega)
  obtain ⟨b5, gg, f1, f2⟩ := book2_run (x3 := some (.int 1)) (x4 := x4) (x7 := x7) (x10 := x10) (x13 := none) g2 (g3 2 _ (by decide) u4) (by omega)
  have hrl : (rs.filter fun r => !(r.who == g)).length ≤ rs.length := List.length_filter_le _ _
  generalize hrs2 : (rs.filter fun r => !(r.who == g)) = rs2 at f2 hrl
  have c2 := check_run (x3 := some (.int 1)) (x4 := x4) (x7 := x7) (x10 := x10) (x13 := none) f2
  let hp5 := hp4 ++ gg
  have W5 : WSt hp5 b5 w4 rs2 rs2 := f2
  have h45 : hp5[4]? = some (.cel (some (.str k))) := app_get _ (g3 4 _ (by decide) u5)
  have h35 : hp5[3]? = some (.cel (some (.int n))) := app_get _ (g3 3 _ (by decide) u6)

  let hp6 := hp5 ++ [MObj.lst []]
  have W6 : WSt hp6 b5 w4 rs2 rs2 := W5.app _
  obtain ⟨W7, d1, m0, d0⟩ := W6.cel (i := 1) (by decide) (by decide) (.loc hp5.length)
  let hp7 := hp6.set 1 (MObj.cel (some (.loc hp5.length)))
  have s12 : sCV 12 (eLst vNil) (wL b5 (some (.int 1)) x4 x7 x10 none) hp5 = some (.next, wL b5 (some (.int 1)) x4 x7 x10 none, hp7) := by
    have hmk : eLst vNil (wL b5 (some (.int 1)) x4 x7 x10 none) hp5 = some (.loc hp5.length, hp6) := by simp [eLst, vNil, mkLst, hp6]
    unfold sCV
    rw [hmk]
    simp only [Option.bind_some]
    rw [show setCV 12 (.loc hp5.length) (wL b5 (some (.int 1)) x4 x7 x10 none) hp6 = some hp7 from setcv_of rfl d0]
    rfl
  have l7 : 7 < hp5.length := by
    have z : hp5[7]? = some (.inst 704 [(6, .loc 8), (70, .loc w4)]) := W5.ch
    exact (List.getElem?_eq_some_iff.mp z).1
  obtain ⟨bs, hb1, hb2⟩ := W7.bl
  obtain ⟨bs5, hb5, _⟩ := W5.bl
  obtain ⟨ws5, hw5, _⟩ := W5.wl
  have blt := (List.getElem?_eq_some_iff.mp hb5).1
  have wlt := (List.getElem?_eq_some_iff.mp hw5).1
  have hbl := hb2.len
  have hd7 : hp7[hp5.length]? = some (.lst []) := by
    show (hp6.set 1 _)[hp5.length]? = _
    rw [List.getElem?_set_ne (by omega)]
    exact app_last hp5 _ []
  have h47 : hp7[4]? = some (.cel (some (.str k))) := by
    show (hp6.set 1 _)[4]? = _
    rw [List.getElem?_set_ne (by decide)]; exact app_get _ h45
  have h37 : hp7[3]? = some (.cel (some (.int n))) := by
    show (hp6.set 1 _)[3]? = _
    rw [List.getElem?_set_ne (by decide)]; exact app_get _ h35
  obtain ⟨hp8, out, x13, e1, e2', e3, e4, e5⟩ := due_go (x3 := some (.int 1)) (x4 := x4) (x7 := x7) (x10 := x10) (dl := hp5.length) u3 (by omega) bs.length 0 (rest := rs2) (out := []) (os := []) (x13 := none) W7 hb1 (by simpa using hb2) W7.ok h47 h37 d1 hd7 rfl (by omega) (by omega) (by omega) (by omega) (by simp; omega)
  have sdue : wDue (wL b5 (some (.int 1)) x4 x7 x10 none) hp7 = some (.next, wL b5 (some (.int 1)) x4 x7 x10 x13, hp8) := by
    have hit : mkIt (.loc b5) hp7 = some (.seq b5 0, bs.length) := by
      exact it_lst hb1
    exact (for_eq (show eV 2 (wL b5 (some (.int 1)) x4 x7 x10 none) hp7 = some (.loc b5, hp7) from rfl) hit).trans e1
  have nm : ∀ i, i ≤ 7 → i ∉ [hp5.length] := fun i hi => by simp; omega
  have h18 : hp8[1]? = some (.cel (some (.loc hp5.length))) := e5 1 _ (nm 1 (by decide)) d1
  have h48 := e5 4 _ (nm 4 (by decide)) h47
  have h38 := e5 3 _ (nm 3 (by decide)) h37
  obtain ⟨hp9, w9, ms9, p1, p2, p3, p4, p5, p6⟩ := end_run (x3 := some (.int 1)) (x4 := x4) (x7 := x7) (x10 := x10) (x13 := x13) e2' u3 h48 h38 h18 e3 e4 (by omega)
  obtain ⟨bs8, hb8, hbr8⟩ := e2'.bl
  have b7 : b5 ∉ [7] := fun z => by
    have zz : hp8[7]? = some (.inst 704 [(6, .loc 8), (70, .loc w4)]) := e2'.ch
    rw [List.mem_singleton.mp z, zz] at hb8; cases hb8
  have hol := e4.len
  have hdl : (dueR k n rs2 []).length ≤ 60 := by
    rw [due_all (by omega)]
    have : ∀ (j : Nat) (rs : List Row), (endedN k n j rs).1.length ≤ j := fun j => by
      induction j with
      | zero => intro rs; simp [endedN]
      | succ j ih =>
        intro rs
        unfold endedN
        cases rs.find? (isP k n) with
        | none => simp
        | some r => have := ih (rs.filter fun q => !(q.who == r.who)); simp; omega
    exact this 60 rs2
  obtain ⟨gF, q1⟩ := fin_run (x3 := some (.int 1)) (x4 := x4) (x7 := x7) (x10 := x10) (x13 := x13) (k := k) (n := n) p2 p3 p4 (p5 b5 _ b7 hb8) (hbr8.mono p6) e2'.okb (p5 1 _ (by decide) h18) (p5 hp5.length _ (by simp; omega) e3) (by rw [← due_all (by omega)]; exact e4.mono p6) (by omega) (by omega)
  obtain ⟨x', y', r1, r2⟩ := e2'.reel
  refine ⟨wL b5 (some (.int 1)) x4 x7 x10 x13, hp9 ++ gF, x', y', ?_, r1, app_get gF (p5 0 _ (by decide) r2)⟩
  unfold wRest
  exact (seq_next a1).trans ((seq_next c1).trans ((seq_next k1).trans ((seq_next u1).trans ((seq_next g1).trans ((seq_next f1).trans ((seq_next c2).trans ((seq_next s12).trans ((seq_next sdue).trans ((seq_next p1).trans (seq_ret q1))))))))))

theorem waits_run {x y : Int} (h : rOk x y) : ∃ x' y' rest, rOk x' y' ∧ D__law_waits_right.1 [.loc 0] [.lst [.int x, .int y]] = some (.bool true, .lst [.int x', .int y'] :: rest) := by
  obtain ⟨A, B, hf, hA, hB⟩ := w_form
  obtain ⟨l', hp', x', y', e1, e2', e3⟩ := rest_run h
  obtain ⟨rest, rfl⟩ : ∃ rest, hp' = .lst [.int x', .int y'] :: rest := by
    cases hp' with
    | nil => simp at e3
    | cons o r => simp at e3; exact ⟨r, by rw [e3]⟩
  refine ⟨x', y', rest, e2', ?_⟩
  rw [hf]
  exact runC_ret (loc := wLoc0) (cells := [.cel none, .cel none, .cel none, .cel none, .cel none, .cel none]) rfl rfl rfl ((seq_next (hA x y)).trans ((seq_next (hB x y)).trans e1))
end Mine
end

section
open PySem PySem.W PySem.Calls PyProof.Rows
set_option maxRecDepth 100000
set_option maxHeartbeats 1000000
namespace Mine
theorem fmod_bounds (a : Int) {m : Int} (h : 0 < m) : 0 ≤ a.fmod m ∧ a.fmod m < m := ⟨Int.fmod_nonneg_of_pos _ h, Int.fmod_lt_of_pos _ h⟩
theorem ints_head {vs : List Value} {ns : List Int} (h : IntsAre vs ns) (h0 : 0 < vs.length) : ∃ i t, vs[0]? = some (.int i t) := by
  cases h with
  | nil => simp at h0
  | cons n t h => exact ⟨n, t, rfl⟩
theorem reel_run {so : Obj} {vs : List Value} {ns : List Int} (hso : rawList so = some vs.toArray) (hI : IntsAre vs ns) (hl : ns.length ≤ 63) :
    ∃ x y, rOk x y ∧ D__law_reel.1 [.loc 1] [.opq 1 [], .raw so] = some (.loc 2, [.opq 1 [], .raw so, .lst [.int x, .int y]]) := by
  have hlen : vs.length ≤ 63 := by rw [hI.length]; exact hl
  obtain ⟨told, h1⟩ : ∃ told : Int, eIf (tP (e2 iGt (eCall fLen (vCons (eV 0) vNil)) (eC (.int 0)))) (e2 oIdx (eV 0) (eC (.int 0))) (eC (.int 0)) [some (.loc 1), none, none] [.opq 1 [], .raw so] = some (.int told, [.opq 1 [], .raw so]) := by
    have hfl : eCall fLen (vCons (eV 0) vNil) [some (.loc 1), none, none] [.opq 1 [], .raw so] = some (.int vs.length, [.opq 1 [], .raw so]) := by
      have : vs.length ≤ cap := by unfold cap; omega
      refine len_at (hp := [.opq 1 [], .raw so]) (l := 1) (o := .raw so) rfl ?_ this
      show (rawList so).bind _ = _
      rw [hso]
      rfl
    by_cases h0 : 0 < vs.length
    · obtain ⟨i, t, hi⟩ := ints_head hI h0
      refine ⟨i, ?_⟩
      have hi2 : vs.toArray[0]? = some (.int i t) := by simpa using hi
      have ht : tP (e2 iGt (eCall fLen (vCons (eV 0) vNil)) (eC (.int 0))) [some (.loc 1), none, none] [.opq 1 [], .raw so] = some (true, [.opq 1 [], .raw so]) := tP_of ((e2_of hfl rfl).trans (gt_t (by omega)))
      unfold eIf
      rw [ht]
      show e2 oIdx (eV 0) (eC (.int 0)) [some (.loc 1), none, none] [.opq 1 [], .raw so] = _
      refine Eq.trans (e2_of (op := oIdx) (f := eV 0) (g := eC (.int 0)) (h := [.opq 1 [], .raw so]) (a := .loc 1) (b := .int 0) rfl rfl) (idx_at (hp := [.opq 1 [], .raw so]) (l := 1) (o := .raw so) rfl ?_)
      show (rawList so).bind (fun us => (us[0]?).bind mvInt) = _
      rw [hso]
      show (vs.toArray[0]?).bind mvInt = _
      rw [hi2]
      rfl
    · have : vs.length = 0 := by omega
      have ht : tP (e2 iGt (eCall fLen (vCons (eV 0) vNil)) (eC (.int 0))) [some (.loc 1), none, none] [.opq 1 [], .raw so] = some (false, [.opq 1 [], .raw so]) := tP_of ((e2_of hfl rfl).trans (gt_f (by omega)))
      refine ⟨0, ?_⟩
      unfold eIf
      rw [ht]
      rfl
  let size : Int := if -1 - told > told then -1 - told else told
  have hs0 : 0 ≤ size := by
    show 0 ≤ (if -1 - told > told then -1 - told else told)
    split <;> omega
  let x : Int := if size ≥ 10 ^ 18 then size else 0
  let y : Int := ((size.fmod 2147483629 + 17) * 48271).fmod 2147483647
  have hx : 0 ≤ x := by
    show 0 ≤ (if size ≥ 10 ^ 18 then size else 0)
    split <;> omega
  obtain ⟨b1, b2⟩ := fmod_bounds size (m := 2147483629) (by decide)
  obtain ⟨b3, b4⟩ := fmod_bounds ((size.fmod 2147483629 + 17) * 48271) (m := 2147483647) (by decide)
  have hmul : mulOk (size.fmod 2147483629 + 17) 48271 = true := mulOk_of (by omega) (by decide)
  refine ⟨x, y, ⟨hx, b3, Int.lt_trans b4 (by decide)⟩, ?_⟩
  unfold D__law_reel
  dsimp only
  have s1 : sVar 1 (eIf (tP (e2 iGt (eCall fLen (vCons (eV 0) vNil)) (eC (.int 0)))) (e2 oIdx (eV 0) (eC (.int 0))) (eC (.int 0))) [some (.loc 1), none, none] [.opq 1 [], .raw so] = some (.next, [some (.loc 1), some (.int told), none], [.opq 1 [], .raw so]) := by
    unfold sVar; rw [h1]; rfl
  have s2 : sVar 2 (eCall fMax (vCons (eV 1) (vCons (e2 iSub (e1 iNeg (eC (.int 1))) (eV 1)) vNil))) [some (.loc 1), some (.int told), none] [.opq 1 [], .raw so] = some (.next, [some (.loc 1), some (.int told), some (.int size)], [.opq 1 [], .raw so]) := by
    rfl
  refine run_ret rfl (l := [some (.loc 1), some (.int told), some (.int size)]) ((seq_next s1).trans ((seq_next s2).trans (seq_ret ?_)))
  have hp10 : iPow (.int 10) (.int 18) [MObj.opq 1 [], .raw so] = some (.int (10 ^ 18), [MObj.opq 1 [], .raw so]) := by
    have hc : (0 : Int) ≤ 18 ∧ (18 : Int) ≤ 100 ∧ Builtin.Int.intBits 10 ≤ 100 := ⟨by decide, by decide, by decide +kernel⟩
    show (if (0 : Int) ≤ 18 ∧ (18 : Int) ≤ 100 ∧ Builtin.Int.intBits 10 ≤ 100 then some (MV.int ((10 : Int) ^ (18 : Int).toNat), _) else none) = _
    rw [if_pos hc]
    rfl
  have h2 : eIf (tP (e2 iGe (eV 2) (e2 iPow (eC (.int 10)) (eC (.int 18))))) (eV 2) (eC (.int 0)) [some (.loc 1), some (.int told), some (.int size)] [.opq 1 [], .raw so] = some (.int x, [.opq 1 [], .raw so]) := by
    have ht : tP (e2 iGe (eV 2) (e2 iPow (eC (.int 10)) (eC (.int 18)))) [some (.loc 1), some (.int told), some (.int size)] [.opq 1 [], .raw so] = some (decide (size ≥ 10 ^ 18), [.opq 1 [], .raw so]) :=
      tP_of ((e2_of (a := .int size) rfl ((e2_of (a := .int 10) (b := .int 18) rfl rfl).trans hp10)).trans rfl)
    unfold eIf
    rw [ht]
    show _ = some (MV.int (if size ≥ 10 ^ 18 then size else 0), _)
    by_cases hc : size ≥ 10 ^ 18
    · simp only [hc, decide_true, if_true, Option.bind_some]; rfl
    · simp only [hc, decide_false, if_false, Option.bind_some]; rfl
  have h3 : e2 iMod (e2 oMul (e2 oAdd (e2 iMod (eV 2) (eC (.int 2147483629))) (eC (.int 17))) (eC (.int 48271))) (eC (.int 2147483647)) [some (.loc 1), some (.int told), some (.int size)] [.opq 1 [], .raw so] = some (.int y, [.opq 1 [], .raw so]) := by
    exact (e2_of ((e2_of ((e2_of ((e2_of (a := .int size) rfl rfl).trans (mod_int (by decide))) rfl).trans rfl) rfl).trans (mul_int' hmul)) rfl).trans (mod_int (by decide))
  show sRet (eLst (vCons _ (vCons _ vNil))) [some (.loc 1), some (.int told), some (.int size)] [.opq 1 [], .raw so] = _
  unfold sRet
  simp only [eLst, vCons, h2, h3, vNil, Option.bind_some]
  simp [mkLst, cap]
end Mine
end

section
open PySem PySem.W PySem.Calls PyProof.Rows
set_option maxRecDepth 100000
set_option maxHeartbeats 0
namespace Mine
noncomputable section

noncomputable def D__law_begun : { F // ∀ w pq lo mean mg mb, FnI (GG w pq lo mean mg mb) 9 1064 F } := by
  refine' ⟨?F, fun w pq lo mean mg mb => ?_⟩
  rotate_left
  refine' FnI.fnB (d := 8) (tbl := ["room", "heap", "scheduler", "told", "own", "number", "turn", "watch", "child"]) (nm := ["room"]) (n := 1) (k := 8) (dm := []) (dv := []) ?ho ?hb ?h1 ?hc ?hx
  case ho => rfl
  case h1 => exact fun _ => rfl
  case hc => kernel_rfl
  case hx =>
    exact (ExI.cons (StI.unp (AssI.cons (AsI.var 1 rfl (by decide) (by kernel_rfl)) (AssI.cons (AsI.var 2 rfl (by decide) (by kernel_rfl)) (AssI.cons (AsI.var 3 rfl (by decide) (by kernel_rfl)) (AssI.cons (AsI.var 4 rfl (by decide) (by kernel_rfl)) AssI.nil)))) (EvI.tup (EvsI.cons (EvI.call (EvI.glob (m := .gv (.ref 566)) (v := .ref 566) (by kernel_rfl) (by kernel_rfl) (vr_gv 566) rfl) (KeepsI.K (by kernel_rfl)) EvsI.nil (ClI.cls (fI := 452) (by kernel_rfl) (by kernel_rfl) (by kernel_rfl) ((D_Heap___init__.2 w pq lo mean mg mb).less (by decide)))) (EvsI.cons (EvI.call (EvI.glob (m := .gv (.ref 1027)) (v := .ref 1027) (by kernel_rfl) (by kernel_rfl) (vr_gv 1027) rfl) (KeepsI.K (by kernel_rfl)) (EvsI.cons (EvI.call (EvI.glob (m := .gv (.ref 324)) (v := .ref 324) (by kernel_rfl) (by kernel_rfl) (vr_gv 324) rfl) (KeepsI.K (by kernel_rfl)) (EvsI.cons (EvI.lst EvsI.nil) EvsI.nil) (ClI.cls (fI := 314) (by kernel_rfl) (by kernel_rfl) (by kernel_rfl) ((D_Choices___init__.2 w pq lo mean mg mb).less (by decide)))) EvsI.nil) (ClI.cls (fI := 953) (by kernel_rfl) (by kernel_rfl) (by kernel_rfl) ((D_Scheduler___init__.2 w pq lo mean mg mb).less (by decide)))) (EvsI.cons (EvI.call (EvI.glob (m := .gv (.ref 914)) (v := .ref 914) (by kernel_rfl) (by kernel_rfl) (vr_gv 914) rfl) (KeepsI.K (by kernel_rfl)) EvsI.nil (ClI.cls (fI := 799) (by kernel_rfl) (by kernel_rfl) (by kernel_rfl) ((D_Watch___init__.2 w pq lo mean mg mb).less (by decide)))) (EvsI.cons (EvI.call (EvI.glob (m := .gv (.ref 914)) (v := .ref 914) (by kernel_rfl) (by kernel_rfl) (vr_gv 914) rfl) (KeepsI.K (by kernel_rfl)) EvsI.nil (ClI.cls (fI := 799) (by kernel_rfl) (by kernel_rfl) (by kernel_rfl) ((D_Watch___init__.2 w pq lo mean mg mb).less (by decide)))) EvsI.nil)))))) (ExI.cons (StI.var 5 rfl (by decide) (by kernel_rfl) (EvI.meth (EvI.var 1 rfl (by kernel_rfl) rfl) (MetI.inst (C := 566) (f := 460) 41 rfl (by kernel_rfl) (by kernel_rfl) (by kernel_rfl)) (KeepsI.K (by kernel_rfl)) (EvsI.cons EvI.cstr (EvsI.cons (EvI.call (EvI.glob (m := .gv (.ref 296)) (v := .ref 296) (by kernel_rfl) (by kernel_rfl) (vr_gv 296) rfl) (KeepsI.K (by kernel_rfl)) (EvsI.cons (EvI.var 0 rfl (by kernel_rfl) rfl) EvsI.nil) (ClI.cls (fI := 241) (by kernel_rfl) (by kernel_rfl) (by kernel_rfl) ((D_Channel___init__.2 w pq lo mean mg mb).less (by decide)))) EvsI.nil)) (ClI.fn ((D_Heap_make.2 w pq lo mean mg mb).less (by decide))) (fun _ => _))) (ExI.cons (StI.for (AsI.var 6 rfl (by decide) (by kernel_rfl)) (EvI.call (EvI.bltn (v := .type "range") (by kernel_rfl) (by kernel_rfl) (by kernel_rfl) (by decide) (by decide) rfl) (KeepsI.type _) (EvsI.cons EvI.cint EvsI.nil) ClI.range) (ExI.cons (StI.expr (EvI.meth (EvI.var 2 rfl (by kernel_rfl) rfl) (MetI.inst (C := 1027) (f := 960) 61 rfl (by kernel_rfl) (by kernel_rfl) (by kernel_rfl)) (KeepsI.K (by kernel_rfl)) EvsI.nil (ClI.fn ((D_Scheduler_spawn.2 w pq lo mean mg mb).less (by decide))) (fun _ => _))) ExI.nil)) (ExI.cons (StI.for (AsI.var 7 rfl (by decide) (by kernel_rfl)) (EvI.lst (EvsI.cons (EvI.var 3 rfl (by kernel_rfl) rfl) (EvsI.cons (EvI.var 4 rfl (by kernel_rfl) rfl) EvsI.nil))) (ExI.cons (StI.for (AsI.var 8 rfl (by decide) (by kernel_rfl)) (EvI.lst (EvsI.cons EvI.cint (EvsI.cons EvI.cint EvsI.nil))) (ExI.cons (StI.expr (EvI.meth (EvI.var 7 rfl (by kernel_rfl) rfl) (MetI.inst (C := 914) (f := 827) 24 rfl (by kernel_rfl) (by kernel_rfl) (by kernel_rfl)) (KeepsI.K (by kernel_rfl)) (EvsI.cons EvI.cint (EvsI.cons (EvI.var 8 rfl (by kernel_rfl) rfl) EvsI.nil)) (ClI.fn ((D_Watch_go.2 w pq lo mean mg mb).less (by decide))) (fun _ => _))) ExI.nil)) ExI.nil)) (ExI.cons (StI.ret (EvI.tup (EvsI.cons (EvI.var 1 rfl (by kernel_rfl) rfl) (EvsI.cons (EvI.call (EvI.glob (m := .gv (.ref 209)) (v := .ref 209) (by kernel_rfl) (by kernel_rfl) (vr_gv 209) rfl) (KeepsI.K (by kernel_rfl)) (EvsI.cons (EvI.var 1 rfl (by kernel_rfl) rfl) (EvsI.cons (EvI.var 2 rfl (by kernel_rfl) rfl) (EvsI.cons (EvI.var 3 rfl (by kernel_rfl) rfl) EvsI.nil))) (ClI.cls (fI := 82) (by kernel_rfl) (by kernel_rfl) (by kernel_rfl) ((D_Meetings___init__.2 w pq lo mean mg mb).less (by decide)))) (EvsI.cons (EvI.var 3 rfl (by kernel_rfl) rfl) (EvsI.cons (EvI.var 4 rfl (by kernel_rfl) rfl) (EvsI.cons (EvI.var 5 rfl (by kernel_rfl) rfl) EvsI.nil))))))) ExI.nil)))))
  case hb =>
    intro s vs X hl
    obtain ⟨a0, rfl⟩ := len1 hl
    exact BindsTo.of_eq rfl

end
end Mine
end

section
open PySem PySem.W PySem.Calls PyProof.Rows
set_option maxRecDepth 100000
set_option maxHeartbeats 0
namespace Mine
noncomputable section

noncomputable def D__law_alike : { F // ∀ w pq lo mean mg mb, FnI (GG w pq lo mean mg mb) 3 1069 F } := by
  refine' ⟨?F, fun w pq lo mean mg mb => ?_⟩
  rotate_left
  refine' FnI.fnC (d := 2) (tbl := ["told", "own", "number", "who", "lines"]) (nm := ["told", "own", "number"]) (n := 3) (k := 2) (dm := []) (dv := []) [2] ?ho ?hcd ?hb ?h1 ?h2 ?h3 ?h4 ?h5 ?h6 ?h7 ?h8 ?h9 ?h10 ?h11 ?h12 ?h13 ?hx
  case ho => rfl
  case hcd => kernel_rfl
  case h1 => exact fun _ => rfl
  case h2 => rfl
  case h3 => rfl
  case h4 => rfl
  case h5 => decide
  case h6 => kernel_rfl
  case h7 => kernel_rfl
  case h8 => kernel_rfl
  case h9 => exact nodup_of (m := ["number"]) (by kernel_rfl) (by decide)
  case h10 => kernel_rfl
  case h11 => kernel_rfl
  case h12 => kernel_rfl
  case h13 => kernel_rfl
  case hx =>
    exact (ExI.cons (StI.for (AsI.var 3 rfl (by decide) (by kernel_rfl)) (EvI.call (EvI.bltn (v := .type "range") (by kernel_rfl) (by kernel_rfl) (by kernel_rfl) (by decide) (by decide) rfl) (KeepsI.type _) (EvsI.cons EvI.cint EvsI.nil) ClI.range) (ExI.cons (StI.ife (TsI.cmp (EvI.meth (EvI.var 0 rfl (by kernel_rfl) rfl) (MetI.inst (C := 914) (f := 806) 8 rfl (by kernel_rfl) (by kernel_rfl) (by kernel_rfl)) (KeepsI.K (by kernel_rfl)) (EvsI.cons (EvI.var 3 rfl (by kernel_rfl) rfl) EvsI.nil) (ClI.fn ((D_Watch_clock.2 w pq lo mean mg mb).less (by decide))) (fun _ => _)) (EvI.meth (EvI.var 1 rfl (by kernel_rfl) rfl) (MetI.inst (C := 914) (f := 806) 8 rfl (by kernel_rfl) (by kernel_rfl) (by kernel_rfl)) (KeepsI.K (by kernel_rfl)) (EvsI.cons (EvI.var 3 rfl (by kernel_rfl) rfl) EvsI.nil) (ClI.fn ((D_Watch_clock.2 w pq lo mean mg mb).less (by decide))) (fun _ => _)) Op2I.ne) (ExI.cons (StI.ret EvI.cbool) ExI.nil) ExI.nil) ExI.nil)) (ExI.cons (StI.compVar 4 rfl (by decide) (by kernel_rfl) (t := none) (ys := ["number"]) [2] (by kernel_rfl) (CapsAt.cons rfl (by kernel_rfl) CapsAt.nil) (EvI.lst (EvsI.cons (EvI.var 0 rfl (by kernel_rfl) rfl) (EvsI.cons (EvI.var 1 rfl (by kernel_rfl) rfl) EvsI.nil))) CondI.none (EvI.meth (EvI.attr 39 [914] rfl (ga_lines _) (EvI.var 0 rfl (by kernel_rfl) rfl)) (MetI.dct F.slot_dict_get F.type_dict_get) (KeepsI.bltn _) (EvsI.cons (EvI.cvar 1 rfl (by kernel_rfl) rfl rfl) EvsI.nil) (ClI.get1 (by kernel_rfl)) (fun _ => _)) (by intro env h; obtain ⟨sc1, _, _, _, _, _, _, _, _⟩ := env; dsimp only at h; subst h; kernel_rfl)) (ExI.cons (StI.ife (TsI.or (TsI.cmp (EvI.idx (EvI.var 4 rfl (by kernel_rfl) rfl) EvI.cint) EvI.cnone Op2I.isNone) (TsI.cmp (EvI.idx (EvI.var 4 rfl (by kernel_rfl) rfl) EvI.cint) EvI.cnone Op2I.isNone)) (ExI.cons (StI.ret EvI.cbool) ExI.nil) ExI.nil) (ExI.cons (StI.ret (EvI.cmp (EvI.tup (EvsI.cons (EvI.attr 59 [760] rfl (ga_sent _) (EvI.idx (EvI.var 4 rfl (by kernel_rfl) rfl) EvI.cint)) (EvsI.cons (EvI.attr 50 [760] rfl (ga_received _) (EvI.idx (EvI.var 4 rfl (by kernel_rfl) rfl) EvI.cint)) (EvsI.cons (EvI.attr 15 [760] rfl (ga_end _) (EvI.idx (EvI.var 4 rfl (by kernel_rfl) rfl) EvI.cint)) EvsI.nil)))) (EvI.tup (EvsI.cons (EvI.attr 59 [760] rfl (ga_sent _) (EvI.idx (EvI.var 4 rfl (by kernel_rfl) rfl) EvI.cint)) (EvsI.cons (EvI.attr 50 [760] rfl (ga_received _) (EvI.idx (EvI.var 4 rfl (by kernel_rfl) rfl) EvI.cint)) (EvsI.cons (EvI.attr 15 [760] rfl (ga_end _) (EvI.idx (EvI.var 4 rfl (by kernel_rfl) rfl) EvI.cint)) EvsI.nil)))) Op2I.eq)) ExI.nil))))
  case hb =>
    intro s vs X hl
    obtain ⟨a0, a1, a2, rfl⟩ := len3 hl
    exact BindsTo.of_eq rfl

end
end Mine
end

section
open PySem PySem.W PySem.Calls PyProof.Rows
set_option maxRecDepth 100000
set_option maxHeartbeats 0
namespace Mine
noncomputable section

noncomputable def D__law_forgotten_right : { F // ∀ w pq lo mean mg mb, FnI (GG w pq lo mean mg mb) 11 1088 F } := by
  refine' ⟨?F, fun w pq lo mean mg mb => ?_⟩
  rotate_left
  refine' FnI.fnC (d := 10) (tbl := ["reel", "heap", "scheduler", "line", "numbers", "meetings", "told", "kept", "number", "way"]) (nm := ["reel"]) (n := 1) (k := 9) (dm := []) (dv := []) [3, 7, 1] ?ho ?hcd ?hb ?h1 ?h2 ?h3 ?h4 ?h5 ?h6 ?h7 ?h8 ?h9 ?h10 ?h11 ?h12 ?h13 ?hx
  case ho => rfl
  case hcd => kernel_rfl
  case h1 => exact fun _ => rfl
  case h2 => rfl
  case h3 => rfl
  case h4 => rfl
  case h5 => decide
  case h6 => kernel_rfl
  case h7 => kernel_rfl
  case h8 => kernel_rfl
  case h9 => exact nodup_of (m := ["line", "kept", "heap"]) (by kernel_rfl) (by decide)
  case h10 => kernel_rfl
  case h11 => kernel_rfl
  case h12 => kernel_rfl
  case h13 => kernel_rfl
  case hx =>
    exact (ExI.cons (StI.unp (AssI.cons (AsI.cvar 1 rfl (by kernel_rfl)) (AssI.cons (AsI.var 2 rfl (by decide) (by kernel_rfl)) AssI.nil)) (EvI.tup (EvsI.cons (EvI.call (EvI.glob (m := .gv (.ref 566)) (v := .ref 566) (by kernel_rfl) (by kernel_rfl) (vr_gv 566) rfl) (KeepsI.K (by kernel_rfl)) EvsI.nil (ClI.cls (fI := 452) (by kernel_rfl) (by kernel_rfl) (by kernel_rfl) ((D_Heap___init__.2 w pq lo mean mg mb).less (by decide)))) (EvsI.cons (EvI.call (EvI.glob (m := .gv (.ref 1027)) (v := .ref 1027) (by kernel_rfl) (by kernel_rfl) (vr_gv 1027) rfl) (KeepsI.K (by kernel_rfl)) (EvsI.cons (EvI.call (EvI.glob (m := .gv (.ref 324)) (v := .ref 324) (by kernel_rfl) (by kernel_rfl) (vr_gv 324) rfl) (KeepsI.K (by kernel_rfl)) (EvsI.cons (EvI.lst EvsI.nil) EvsI.nil) (ClI.cls (fI := 314) (by kernel_rfl) (by kernel_rfl) (by kernel_rfl) ((D_Choices___init__.2 w pq lo mean mg mb).less (by decide)))) EvsI.nil) (ClI.cls (fI := 953) (by kernel_rfl) (by kernel_rfl) (by kernel_rfl) ((D_Scheduler___init__.2 w pq lo mean mg mb).less (by decide)))) EvsI.nil))) (h2 := by intro env h; obtain ⟨sc1, _, _, _, _, _, _, _, _⟩ := env; dsimp only at h; subst h; kernel_rfl)) (ExI.cons (StI.cvar 3 rfl (by kernel_rfl) (EvI.tup (EvsI.cons EvI.cstr (EvsI.cons (EvI.meth (EvI.cvar 1 rfl (by kernel_rfl) rfl rfl) (MetI.inst (C := 566) (f := 460) 41 rfl (by kernel_rfl) (by kernel_rfl) (by kernel_rfl)) (KeepsI.K (by kernel_rfl)) (EvsI.cons EvI.cstr (EvsI.cons (EvI.call (EvI.glob (m := .gv (.ref 296)) (v := .ref 296) (by kernel_rfl) (by kernel_rfl) (vr_gv 296) rfl) (KeepsI.K (by kernel_rfl)) (EvsI.cons EvI.cint EvsI.nil) (ClI.cls (fI := 241) (by kernel_rfl) (by kernel_rfl) (by kernel_rfl) ((D_Channel___init__.2 w pq lo mean mg mb).less (by decide)))) EvsI.nil)) (ClI.fn ((D_Heap_make.2 w pq lo mean mg mb).less (by decide))) (fun _ => _)) EvsI.nil)))) (ExI.cons (StI.compVar 4 rfl (by decide) (by kernel_rfl) (t := none) (ys := ["heap"]) [1] (by kernel_rfl) (CapsAt.cons rfl (by kernel_rfl) CapsAt.nil) (EvI.call (EvI.bltn (v := .type "range") (by kernel_rfl) (by kernel_rfl) (by kernel_rfl) (by decide) (by decide) rfl) (KeepsI.type _) (EvsI.cons EvI.cint EvsI.nil) ClI.range) CondI.none (EvI.meth (EvI.cvar 1 rfl (by kernel_rfl) rfl rfl) (MetI.inst (C := 566) (f := 460) 41 rfl (by kernel_rfl) (by kernel_rfl) (by kernel_rfl)) (KeepsI.K (by kernel_rfl)) (EvsI.cons EvI.cstr (EvsI.cons (EvI.var 0 rfl (by kernel_rfl) rfl) EvsI.nil)) (ClI.fn ((D_Heap_make.2 w pq lo mean mg mb).less (by decide))) (fun _ => _)) (by intro env h; obtain ⟨sc1, _, _, _, _, _, _, _, _⟩ := env; dsimp only at h; subst h; kernel_rfl)) (ExI.cons (StI.expr (EvI.meth (EvI.var 2 rfl (by kernel_rfl) rfl) (MetI.inst (C := 1027) (f := 960) 61 rfl (by kernel_rfl) (by kernel_rfl) (by kernel_rfl)) (KeepsI.K (by kernel_rfl)) EvsI.nil (ClI.fn ((D_Scheduler_spawn.2 w pq lo mean mg mb).less (by decide))) (fun _ => _))) (ExI.cons (StI.unp (AssI.cons (AsI.var 5 rfl (by decide) (by kernel_rfl)) (AssI.cons (AsI.var 6 rfl (by decide) (by kernel_rfl)) (AssI.cons (AsI.cvar 7 rfl (by kernel_rfl)) AssI.nil))) (EvI.tup (EvsI.cons (EvI.call (EvI.glob (m := .gv (.ref 209)) (v := .ref 209) (by kernel_rfl) (by kernel_rfl) (vr_gv 209) rfl) (KeepsI.K (by kernel_rfl)) (EvsI.cons (EvI.cvar 1 rfl (by kernel_rfl) rfl rfl) (EvsI.cons (EvI.var 2 rfl (by kernel_rfl) rfl) (EvsI.cons EvI.cnone EvsI.nil))) (ClI.cls (fI := 82) (by kernel_rfl) (by kernel_rfl) (by kernel_rfl) ((D_Meetings___init__.2 w pq lo mean mg mb).less (by decide)))) (EvsI.cons (EvI.lst EvsI.nil) (EvsI.cons (EvI.lst EvsI.nil) EvsI.nil)))) (h2 := by intro env h; obtain ⟨sc1, _, _, _, _, _, _, _, _⟩ := env; dsimp only at h; subst h; kernel_rfl)) (ExI.cons (StI.setA 12 [566] rfl (gs_collector _) (EvI.call (EvI.glob (m := .gv (.ref 407)) (v := .ref 407) (by kernel_rfl) (by kernel_rfl) (vr_gv 407) rfl) (KeepsI.K (by kernel_rfl)) (EvsI.cons (EvI.cvar 1 rfl (by kernel_rfl) rfl rfl) (EvsI.cons (EvI.of_eq (e := .Lambda lamPar lamBody lamScope lamP0) (by kernel_rfl) (EvI.lam (lp := lamPar) (lb := lamBody) (ls := lamScope) (dr := drawsT) 3 (opq_K0 _ _ _ _ _ _) rfl (by kernel_rfl) (by kernel_rfl) (by kernel_rfl) lamDef_K (codeHd_K _))) EvsI.nil)) (ClI.cls (fI := 350) (by kernel_rfl) (by kernel_rfl) (by kernel_rfl) ((D_Collector___init__.2 w pq lo mean mg mb).less (by decide)))) (EvI.cvar 1 rfl (by kernel_rfl) rfl rfl)) (ExI.cons (StI.expr (EvI.meth (EvI.attr 12 [566] rfl (ga_collector _) (EvI.cvar 1 rfl (by kernel_rfl) rfl rfl)) (MetI.inst (C := 407) (f := 357) 4 rfl (by kernel_rfl) (by kernel_rfl) (by kernel_rfl)) (KeepsI.K (by kernel_rfl)) EvsI.nil (ClI.fn ((D_Collector_begin.2 w pq lo mean mg mb).less (by decide))) (fun _ => _))) (ExI.cons (StI.for (AsI.var 8 rfl (by decide) (by kernel_rfl)) (EvI.var 4 rfl (by kernel_rfl) rfl) (ExI.cons (StI.var 9 rfl (by decide) (by kernel_rfl) (EvI.call (EvI.glob (m := .gv (.ref 1045)) (v := .ref 1045) (by kernel_rfl) (by kernel_rfl) (vr_gv 1045) rfl) (KeepsI.K (by kernel_rfl)) (EvsI.cons (EvI.var 0 rfl (by kernel_rfl) rfl) (EvsI.cons EvI.cint EvsI.nil)) (ClI.fn ((D__law_woundO.2 w pq lo mean mg mb).less (by decide))))) (ExI.cons (StI.ife (TsI.cmp (EvI.var 9 rfl (by kernel_rfl) rfl) EvI.cint Op2I.eq) (ExI.cons (StI.expr (EvI.meth (EvI.var 6 rfl (by kernel_rfl) rfl) (MetI.lst F.slot_list_append F.type_list_append) (KeepsI.bltn _) (EvsI.cons (EvI.tup (EvsI.cons EvI.cstr (EvsI.cons (EvI.cvar 3 rfl (by kernel_rfl) rfl rfl) EvsI.nil))) EvsI.nil) ClI.append (fun _ => _))) ExI.nil) (ExI.cons (StI.expr (EvI.meth (EvI.var 6 rfl (by kernel_rfl) rfl) (MetI.lst F.slot_list_append F.type_list_append) (KeepsI.bltn _) (EvsI.cons (EvI.tup (EvsI.cons EvI.cstr (EvsI.cons (EvI.ife (TsI.cmp (EvI.var 9 rfl (by kernel_rfl) rfl) EvI.cint Op2I.eq) (EvI.cvar 3 rfl (by kernel_rfl) rfl rfl) EvI.cnone) (EvsI.cons (EvI.tup (EvsI.cons EvI.cstr (EvsI.cons (EvI.var 8 rfl (by kernel_rfl) rfl) (EvsI.cons (EvI.tup EvsI.nil) EvsI.nil)))) EvsI.nil)))) EvsI.nil) ClI.append (fun _ => _))) (ExI.cons (StI.expr (EvI.meth (EvI.cvar 7 rfl (by kernel_rfl) rfl rfl) (MetI.lst F.slot_list_extend F.type_list_extend) (KeepsI.bltn _) (EvsI.cons (EvI.bin (EvI.lst (EvsI.cons (EvI.var 8 rfl (by kernel_rfl) rfl) EvsI.nil)) (EvI.call (EvI.bltn (v := .type "int") (by kernel_rfl) (by kernel_rfl) (by kernel_rfl) (by decide) (by decide) rfl) (KeepsI.type _) (EvsI.cons (EvI.cmp (EvI.var 9 rfl (by kernel_rfl) rfl) EvI.cint Op2I.eq) EvsI.nil) ClI.intb) Op2I.mulA) EvsI.nil) ClI.extend (fun _ => _))) ExI.nil))) ExI.nil))) (ExI.cons (StI.expr (EvI.meth (EvI.var 5 rfl (by kernel_rfl) rfl) (MetI.inst (C := 209) (f := 157) 19 rfl (by kernel_rfl) (by kernel_rfl) (by kernel_rfl)) (KeepsI.K (by kernel_rfl)) (EvsI.cons (EvI.var 6 rfl (by kernel_rfl) rfl) EvsI.nil) (ClI.fn ((D_Meetings_forgotten.2 w pq lo mean mg mb).less (by decide))) (fun _ => _))) (ExI.cons (StI.ret (EvI.cmp (EvI.meth (EvI.attr 12 [566] rfl (ga_collector _) (EvI.cvar 1 rfl (by kernel_rfl) rfl rfl)) (MetI.inst (C := 407) (f := 404) 17 rfl (by kernel_rfl) (by kernel_rfl) (by kernel_rfl)) (KeepsI.K (by kernel_rfl)) EvsI.nil (ClI.fn ((D_Collector_finish.2 w pq lo mean mg mb).less (by decide))) (fun _ => _)) (EvI.comp (t := (some _)) (ys := ["kept"]) [7] (by kernel_rfl) (CapsAt.cons rfl (by kernel_rfl) CapsAt.nil) (EvI.var 4 rfl (by kernel_rfl) rfl) (CondI.one (TsI.cmp (EvI.var 0 rfl (by kernel_rfl) rfl) (EvI.cvar 1 rfl (by kernel_rfl) rfl rfl) Op2I.notIn)) (EvI.var 0 rfl (by kernel_rfl) rfl)) Op2I.eq)) ExI.nil))))))))))
  case hb =>
    intro s vs X hl
    obtain ⟨a0, rfl⟩ := len1 hl
    exact BindsTo.of_eq rfl

end
end Mine
end

section
open PySem PySem.W PySem.Calls PyProof.Rows
set_option maxRecDepth 100000
set_option maxHeartbeats 0
namespace Mine
noncomputable section

noncomputable def sRows : Stmt := (bodyS (fnS 55)).getD 1 (.Pass ⟨0, 0, 0, 0⟩)
noncomputable def opRows : Expr := match sRows with
  | .Assign _ (.BinOp l _ _ _) _ => l
  | _ => .Constant .none 0 ⟨0, 0, 0, 0⟩
noncomputable def opRowsR : Expr := match sRows with
  | .Assign _ (.BinOp _ _ r _) _ => r
  | _ => .Constant .none 0 ⟨0, 0, 0, 0⟩
noncomputable def pRows1 : Pos := match sRows with
  | .Assign (.Name _ p :: _) _ _ => p
  | _ => ⟨0, 0, 0, 0⟩
noncomputable def pRows2 : Pos := match sRows with
  | .Assign _ (.BinOp _ _ _ p) _ => p
  | _ => ⟨0, 0, 0, 0⟩
noncomputable def pRows3 : Pos := match sRows with
  | .Assign _ _ p => p
  | _ => ⟨0, 0, 0, 0⟩
theorem body55 : bodyS (fnS 55) = (bodyS (fnS 55)).getD 0 (.Pass ⟨0, 0, 0, 0⟩) :: .Assign [.Name (Str.ofString "rows") pRows1] (.BinOp opRows .Mult opRowsR pRows2) pRows3 :: (bodyS (fnS 55)).drop 2 := by kernel_rfl
noncomputable def fRows : EFun := eLst (vCons (eTup (vCons (eC (.str (Str.ofString "woken"))) (vCons (eC (.int 1)) (vCons (eC .none) (vCons (eC .none) (vCons (eTup (vCons (eC (.str (Str.ofString "received"))) (vCons (eC (.int 5)) (vCons (eC (.bool true)) vNil)))) vNil)))))) vNil)
theorem rows_I {G : Glo} {sc : Scope} {tbl : List Str} {d : Nat} : EvI G sc tbl d opRows fRows := (EvI.lst (EvsI.cons (EvI.tup (EvsI.cons EvI.cstr (EvsI.cons EvI.cint (EvsI.cons EvI.cnone (EvsI.cons EvI.cnone (EvsI.cons (EvI.tup (EvsI.cons EvI.cstr (EvsI.cons EvI.cint (EvsI.cons EvI.cbool EvsI.nil)))) EvsI.nil)))))) EvsI.nil))
noncomputable def D__law_send_right : { F // ∀ w pq lo mean mg mb, FnI (GG w pq lo mean mg mb) 11 1076 F } := by
  refine' ⟨?F, fun w pq lo mean mg mb => ?_⟩
  rotate_left
  refine' FnI.fnB (d := 10) (tbl := ["room", "is_waiting", "heap", "meetings", "told", "own", "number", "rows"]) (nm := ["room", "is_waiting"]) (n := 2) (k := 6) (dm := []) (dv := []) ?ho ?hb ?h1 ?hc ?hx
  case ho => rfl
  case h1 => exact fun _ => rfl
  case hc => kernel_rfl
  case hx =>
    have h1 : EvI (GG w pq lo mean mg mb) (scopeS (fnS 55)) ["room", "is_waiting", "heap", "meetings", "told", "own", "number", "rows"] 10 opRows fRows := rows_I
    rw [body55]
    revert h1
    generalize opRows = e1
    intro h1
    exact (ExI.cons (StI.unp (AssI.cons (AsI.var 2 rfl (by decide) (by kernel_rfl)) (AssI.cons (AsI.var 3 rfl (by decide) (by kernel_rfl)) (AssI.cons (AsI.var 4 rfl (by decide) (by kernel_rfl)) (AssI.cons (AsI.var 5 rfl (by decide) (by kernel_rfl)) (AssI.cons (AsI.var 6 rfl (by decide) (by kernel_rfl)) AssI.nil))))) (EvI.call (EvI.glob (m := .gv (.ref 1064)) (v := .ref 1064) (by kernel_rfl) (by kernel_rfl) (vr_gv 1064) rfl) (KeepsI.K (by kernel_rfl)) (EvsI.cons (EvI.var 0 rfl (by kernel_rfl) rfl) EvsI.nil) (ClI.fn ((D__law_begun.2 w pq lo mean mg mb).less (by decide))))) (ExI.cons (StI.var 7 rfl (by decide) (by kernel_rfl) (EvI.bin h1 (EvI.call (EvI.bltn (v := .type "int") (by kernel_rfl) (by kernel_rfl) (by kernel_rfl) (by decide) (by decide) rfl) (KeepsI.type _) (EvsI.cons (EvI.var 1 rfl (by kernel_rfl) rfl) EvsI.nil) ClI.intb) Op2I.mulA) (hs := by intro env; kernel_rfl)) (ExI.cons (StI.ife (TsI.and (TsI.cmp (EvI.var 0 rfl (by kernel_rfl) rfl) EvI.cint Op2I.eq) (TsI.not (TsI.plain (EvI.var 1 rfl (by kernel_rfl) rfl)))) (ExI.cons (StI.ret EvI.cbool) ExI.nil) ExI.nil) (ExI.cons (StI.expr (EvI.meth (EvI.var 3 rfl (by kernel_rfl) rfl) (MetI.inst (C := 209) (f := 117) 67 rfl (by kernel_rfl) (by kernel_rfl) (by kernel_rfl)) (KeepsI.K (by kernel_rfl)) (EvsI.cons (EvI.var 6 rfl (by kernel_rfl) rfl) (EvsI.cons (EvI.var 7 rfl (by kernel_rfl) rfl) EvsI.nil)) (ClI.fn ((D_Meetings_told_send.2 w pq lo mean mg mb).less (by decide))) (fun _ => _))) (ExI.cons (StI.ife (TsI.cmp (EvI.var 0 rfl (by kernel_rfl) rfl) EvI.cint Op2I.eq) (ExI.cons (StI.expr (EvI.meth (EvI.var 5 rfl (by kernel_rfl) rfl) (MetI.inst (C := 914) (f := 855) 27 rfl (by kernel_rfl) (by kernel_rfl) (by kernel_rfl)) (KeepsI.K (by kernel_rfl)) (EvsI.cons EvI.cint (EvsI.cons EvI.cint (EvsI.cons (EvI.var 6 rfl (by kernel_rfl) rfl) EvsI.nil))) (ClI.fn ((D_Watch_hand.2 w pq lo mean mg mb).less (by decide))) (fun _ => _))) ExI.nil) (ExI.cons (StI.expr (EvI.meth (EvI.var 5 rfl (by kernel_rfl) rfl) (MetI.inst (C := 914) (f := 841) 57 rfl (by kernel_rfl) (by kernel_rfl) (by kernel_rfl)) (KeepsI.K (by kernel_rfl)) (EvsI.cons EvI.cint (EvsI.cons (EvI.var 6 rfl (by kernel_rfl) rfl) (EvsI.cons (EvI.var 0 rfl (by kernel_rfl) rfl) EvsI.nil))) (ClI.fn ((D_Watch_send.2 w pq lo mean mg mb).less (by decide))) (fun _ => _))) (ExI.cons (StI.ife (TsI.plain (EvI.var 1 rfl (by kernel_rfl) rfl)) (ExI.cons (StI.expr (EvI.meth (EvI.var 5 rfl (by kernel_rfl) rfl) (MetI.inst (C := 914) (f := 848) 48 rfl (by kernel_rfl) (by kernel_rfl) (by kernel_rfl)) (KeepsI.K (by kernel_rfl)) (EvsI.cons EvI.cint (EvsI.cons (EvI.var 6 rfl (by kernel_rfl) rfl) (EvsI.cons (EvI.var 0 rfl (by kernel_rfl) rfl) EvsI.nil))) (ClI.fn ((D_Watch_receive.2 w pq lo mean mg mb).less (by decide))) (fun _ => _))) ExI.nil) ExI.nil) ExI.nil))) (ExI.cons (StI.ret (EvI.call (EvI.glob (m := .gv (.ref 1069)) (v := .ref 1069) (by kernel_rfl) (by kernel_rfl) (vr_gv 1069) rfl) (KeepsI.K (by kernel_rfl)) (EvsI.cons (EvI.var 4 rfl (by kernel_rfl) rfl) (EvsI.cons (EvI.var 5 rfl (by kernel_rfl) rfl) (EvsI.cons (EvI.var 6 rfl (by kernel_rfl) rfl) EvsI.nil))) (ClI.fn ((D__law_alike.2 w pq lo mean mg mb).less (by decide))))) ExI.nil))))))
  case hb =>
    intro s vs X hl
    obtain ⟨a0, a1, rfl⟩ := len2 hl
    exact BindsTo.of_eq rfl

end
end Mine
end

section
open PySem PySem.W PySem.Calls PyProof.Rows
set_option maxRecDepth 100000
set_option maxHeartbeats 0
namespace Mine
noncomputable section

noncomputable def D__law_receive_right : { F // ∀ w pq lo mean mg mb, FnI (GG w pq lo mean mg mb) 11 1083 F } := by
  refine' ⟨?F, fun w pq lo mean mg mb => ?_⟩
  rotate_left
  refine' FnI.fnB (d := 10) (tbl := ["room", "way", "heap", "meetings", "told", "own", "number", "woken", "watch", "turn"]) (nm := ["room", "way"]) (n := 2) (k := 8) (dm := []) (dv := []) ?ho ?hb ?h1 ?hc ?hx
  case ho => rfl
  case h1 => exact fun _ => rfl
  case hc => kernel_rfl
  case hx =>
    exact (ExI.cons (StI.unp (AssI.cons (AsI.var 2 rfl (by decide) (by kernel_rfl)) (AssI.cons (AsI.var 3 rfl (by decide) (by kernel_rfl)) (AssI.cons (AsI.var 4 rfl (by decide) (by kernel_rfl)) (AssI.cons (AsI.var 5 rfl (by decide) (by kernel_rfl)) (AssI.cons (AsI.var 6 rfl (by decide) (by kernel_rfl)) AssI.nil))))) (EvI.call (EvI.glob (m := .gv (.ref 1064)) (v := .ref 1064) (by kernel_rfl) (by kernel_rfl) (vr_gv 1064) rfl) (KeepsI.K (by kernel_rfl)) (EvsI.cons (EvI.var 0 rfl (by kernel_rfl) rfl) EvsI.nil) (ClI.fn ((D__law_begun.2 w pq lo mean mg mb).less (by decide))))) (ExI.cons (StI.var 7 rfl (by decide) (by kernel_rfl) (EvI.tup (EvsI.cons EvI.cstr (EvsI.cons EvI.cint (EvsI.cons EvI.cnone (EvsI.cons EvI.cnone (EvsI.cons (EvI.tup (EvsI.cons EvI.cstr EvsI.nil)) EvsI.nil))))))) (ExI.cons (StI.ife (TsI.cmp (EvI.var 1 rfl (by kernel_rfl) rfl) EvI.cint Op2I.eq) (ExI.cons (StI.for (AsI.var 8 rfl (by decide) (by kernel_rfl)) (EvI.lst (EvsI.cons (EvI.var 4 rfl (by kernel_rfl) rfl) (EvsI.cons (EvI.var 5 rfl (by kernel_rfl) rfl) EvsI.nil))) (ExI.cons (StI.expr (EvI.meth (EvI.var 8 rfl (by kernel_rfl) rfl) (MetI.inst (C := 914) (f := 862) 10 rfl (by kernel_rfl) (by kernel_rfl) (by kernel_rfl)) (KeepsI.K (by kernel_rfl)) (EvsI.cons EvI.cint (EvsI.cons (EvI.var 6 rfl (by kernel_rfl) rfl) (EvsI.cons (EvI.var 0 rfl (by kernel_rfl) rfl) EvsI.nil))) (ClI.fn ((D_Watch_close.2 w pq lo mean mg mb).less (by decide))) (fun _ => _))) ExI.nil)) (ExI.cons (StI.expr (EvI.meth (EvI.var 3 rfl (by kernel_rfl) rfl) (MetI.inst (C := 209) (f := 138) 66 rfl (by kernel_rfl) (by kernel_rfl) (by kernel_rfl)) (KeepsI.K (by kernel_rfl)) (EvsI.cons (EvI.var 6 rfl (by kernel_rfl) rfl) (EvsI.cons (EvI.lst (EvsI.cons (EvI.tup (EvsI.cons EvI.cstr (EvsI.cons EvI.cnone (EvsI.cons EvI.cbool EvsI.nil)))) EvsI.nil)) EvsI.nil)) (ClI.fn ((D_Meetings_told_receive.2 w pq lo mean mg mb).less (by decide))) (fun _ => _))) (ExI.cons (StI.expr (EvI.meth (EvI.var 5 rfl (by kernel_rfl) rfl) (MetI.inst (C := 914) (f := 869) 49 rfl (by kernel_rfl) (by kernel_rfl) (by kernel_rfl)) (KeepsI.K (by kernel_rfl)) (EvsI.cons EvI.cint (EvsI.cons (EvI.var 6 rfl (by kernel_rfl) rfl) (EvsI.cons (EvI.var 0 rfl (by kernel_rfl) rfl) EvsI.nil))) (ClI.fn ((D_Watch_receive_closed.2 w pq lo mean mg mb).less (by decide))) (fun _ => _))) (ExI.cons (StI.ret (EvI.call (EvI.glob (m := .gv (.ref 1069)) (v := .ref 1069) (by kernel_rfl) (by kernel_rfl) (vr_gv 1069) rfl) (KeepsI.K (by kernel_rfl)) (EvsI.cons (EvI.var 4 rfl (by kernel_rfl) rfl) (EvsI.cons (EvI.var 5 rfl (by kernel_rfl) rfl) (EvsI.cons (EvI.var 6 rfl (by kernel_rfl) rfl) EvsI.nil))) (ClI.fn ((D__law_alike.2 w pq lo mean mg mb).less (by decide))))) ExI.nil)))) ExI.nil) (ExI.cons (StI.ife (TsI.cmp (EvI.var 0 rfl (by kernel_rfl) rfl) EvI.cint Op2I.eq) (ExI.cons (StI.expr (EvI.meth (EvI.var 3 rfl (by kernel_rfl) rfl) (MetI.inst (C := 209) (f := 138) 66 rfl (by kernel_rfl) (by kernel_rfl) (by kernel_rfl)) (KeepsI.K (by kernel_rfl)) (EvsI.cons (EvI.var 6 rfl (by kernel_rfl) rfl) (EvsI.cons (EvI.lst (EvsI.cons (EvI.tup (EvsI.cons EvI.cstr (EvsI.cons EvI.cint (EvsI.cons EvI.cbool EvsI.nil)))) (EvsI.cons (EvI.var 7 rfl (by kernel_rfl) rfl) EvsI.nil))) EvsI.nil)) (ClI.fn ((D_Meetings_told_receive.2 w pq lo mean mg mb).less (by decide))) (fun _ => _))) (ExI.cons (StI.expr (EvI.meth (EvI.var 5 rfl (by kernel_rfl) rfl) (MetI.inst (C := 914) (f := 855) 27 rfl (by kernel_rfl) (by kernel_rfl) (by kernel_rfl)) (KeepsI.K (by kernel_rfl)) (EvsI.cons EvI.cint (EvsI.cons EvI.cint (EvsI.cons (EvI.var 6 rfl (by kernel_rfl) rfl) EvsI.nil))) (ClI.fn ((D_Watch_hand.2 w pq lo mean mg mb).less (by decide))) (fun _ => _))) (ExI.cons (StI.ret (EvI.call (EvI.glob (m := .gv (.ref 1069)) (v := .ref 1069) (by kernel_rfl) (by kernel_rfl) (vr_gv 1069) rfl) (KeepsI.K (by kernel_rfl)) (EvsI.cons (EvI.var 4 rfl (by kernel_rfl) rfl) (EvsI.cons (EvI.var 5 rfl (by kernel_rfl) rfl) (EvsI.cons (EvI.var 6 rfl (by kernel_rfl) rfl) EvsI.nil))) (ClI.fn ((D__law_alike.2 w pq lo mean mg mb).less (by decide))))) ExI.nil))) ExI.nil) (ExI.cons (StI.for (AsI.var 8 rfl (by decide) (by kernel_rfl)) (EvI.lst (EvsI.cons (EvI.var 4 rfl (by kernel_rfl) rfl) (EvsI.cons (EvI.var 5 rfl (by kernel_rfl) rfl) EvsI.nil))) (ExI.cons (StI.for (AsI.var 9 rfl (by decide) (by kernel_rfl)) (EvI.call (EvI.bltn (v := .type "range") (by kernel_rfl) (by kernel_rfl) (by kernel_rfl) (by decide) (by decide) rfl) (KeepsI.type _) (EvsI.cons (EvI.var 0 rfl (by kernel_rfl) rfl) EvsI.nil) ClI.range) (ExI.cons (StI.expr (EvI.meth (EvI.var 8 rfl (by kernel_rfl) rfl) (MetI.inst (C := 914) (f := 841) 57 rfl (by kernel_rfl) (by kernel_rfl) (by kernel_rfl)) (KeepsI.K (by kernel_rfl)) (EvsI.cons EvI.cint (EvsI.cons (EvI.var 6 rfl (by kernel_rfl) rfl) (EvsI.cons (EvI.var 0 rfl (by kernel_rfl) rfl) EvsI.nil))) (ClI.fn ((D_Watch_send.2 w pq lo mean mg mb).less (by decide))) (fun _ => _))) ExI.nil)) ExI.nil)) (ExI.cons (StI.expr (EvI.meth (EvI.var 3 rfl (by kernel_rfl) rfl) (MetI.inst (C := 209) (f := 138) 66 rfl (by kernel_rfl) (by kernel_rfl) (by kernel_rfl)) (KeepsI.K (by kernel_rfl)) (EvsI.cons (EvI.var 6 rfl (by kernel_rfl) rfl) (EvsI.cons (EvI.bin (EvI.lst (EvsI.cons (EvI.tup (EvsI.cons EvI.cstr (EvsI.cons EvI.cint (EvsI.cons EvI.cbool EvsI.nil)))) EvsI.nil)) (EvI.bin (EvI.lst (EvsI.cons (EvI.var 7 rfl (by kernel_rfl) rfl) EvsI.nil)) (EvI.var 1 rfl (by kernel_rfl) rfl) Op2I.mulA) Op2I.addA) EvsI.nil)) (ClI.fn ((D_Meetings_told_receive.2 w pq lo mean mg mb).less (by decide))) (fun _ => _))) (ExI.cons (StI.expr (EvI.meth (EvI.var 5 rfl (by kernel_rfl) rfl) (MetI.inst (C := 914) (f := 848) 48 rfl (by kernel_rfl) (by kernel_rfl) (by kernel_rfl)) (KeepsI.K (by kernel_rfl)) (EvsI.cons EvI.cint (EvsI.cons (EvI.var 6 rfl (by kernel_rfl) rfl) (EvsI.cons (EvI.var 0 rfl (by kernel_rfl) rfl) EvsI.nil))) (ClI.fn ((D_Watch_receive.2 w pq lo mean mg mb).less (by decide))) (fun _ => _))) (ExI.cons (StI.ife (TsI.cmp (EvI.var 1 rfl (by kernel_rfl) rfl) EvI.cint Op2I.eq) (ExI.cons (StI.expr (EvI.meth (EvI.var 5 rfl (by kernel_rfl) rfl) (MetI.inst (C := 914) (f := 841) 57 rfl (by kernel_rfl) (by kernel_rfl) (by kernel_rfl)) (KeepsI.K (by kernel_rfl)) (EvsI.cons EvI.cint (EvsI.cons (EvI.var 6 rfl (by kernel_rfl) rfl) (EvsI.cons (EvI.var 0 rfl (by kernel_rfl) rfl) EvsI.nil))) (ClI.fn ((D_Watch_send.2 w pq lo mean mg mb).less (by decide))) (fun _ => _))) ExI.nil) ExI.nil) (ExI.cons (StI.ret (EvI.call (EvI.glob (m := .gv (.ref 1069)) (v := .ref 1069) (by kernel_rfl) (by kernel_rfl) (vr_gv 1069) rfl) (KeepsI.K (by kernel_rfl)) (EvsI.cons (EvI.var 4 rfl (by kernel_rfl) rfl) (EvsI.cons (EvI.var 5 rfl (by kernel_rfl) rfl) (EvsI.cons (EvI.var 6 rfl (by kernel_rfl) rfl) EvsI.nil))) (ClI.fn ((D__law_alike.2 w pq lo mean mg mb).less (by decide))))) ExI.nil)))))))))
  case hb =>
    intro s vs X hl
    obtain ⟨a0, a1, rfl⟩ := len2 hl
    exact BindsTo.of_eq rfl

end
end Mine
end

section
open PySem PySem.W PySem.Calls PyProof.Rows
set_option maxRecDepth 100000
set_option maxHeartbeats 0
namespace Mine
noncomputable section

noncomputable def D_law : { F // ∀ w pq lo mean mg mb, ExI (GG w pq lo mean mg mb) (scopeS (fnS 58)) ["script", "reel"] 12 (bodyS (fnS 58)) F } := by
  refine' ⟨?F, fun w pq lo mean mg mb => ?_⟩
  rotate_left
  refine' ExI.self ?hx
  case hx =>
    exact (ExI.cons (StI.ife (TsI.not (TsI.plain (EvI.call (EvI.glob (m := .gv (.ref 1083)) (v := .ref 1083) (by kernel_rfl) (by kernel_rfl) (vr_gv 1083) rfl) (KeepsI.K (by kernel_rfl)) (EvsI.cons EvI.cint (EvsI.cons EvI.cint EvsI.nil)) (ClI.frame (ClI.fn ((D__law_receive_right.2 w pq lo mean mg mb).less (by decide))))))) (ExI.cons (StI.ret EvI.cbool) ExI.nil) ExI.nil) (ExI.cons (StI.var 1 rfl (by decide) (by kernel_rfl) (EvI.call (EvI.glob (m := .gv (.ref 1038)) (v := .ref 1038) (by kernel_rfl) (by kernel_rfl) (vr_gv 1038) rfl) (KeepsI.K (by kernel_rfl)) (EvsI.cons (EvI.var 0 rfl (by kernel_rfl) rfl) EvsI.nil) (ClI.fn ((D__law_reel.2 w pq lo mean mg mb).less (by decide))))) (ExI.cons (StI.ife (TsI.or (TsI.not (TsI.plain (EvI.call (EvI.glob (m := .gv (.ref 1057)) (v := .ref 1057) (by kernel_rfl) (by kernel_rfl) (vr_gv 1057) rfl) (KeepsI.K (by kernel_rfl)) (EvsI.cons (EvI.var 1 rfl (by kernel_rfl) rfl) EvsI.nil) (ClI.waits (ClI.fn ((D__law_waits_right.2 w pq lo mean mg mb).less (by decide))))))) (TsI.not (TsI.plain (EvI.call (EvI.glob (m := .gv (.ref 1076)) (v := .ref 1076) (by kernel_rfl) (by kernel_rfl) (vr_gv 1076) rfl) (KeepsI.K (by kernel_rfl)) (EvsI.cons (EvI.call (EvI.glob (m := .gv (.ref 1045)) (v := .ref 1045) (by kernel_rfl) (by kernel_rfl) (vr_gv 1045) rfl) (KeepsI.K (by kernel_rfl)) (EvsI.cons (EvI.var 1 rfl (by kernel_rfl) rfl) (EvsI.cons EvI.cint EvsI.nil)) (ClI.fn ((D__law_wound.2 w pq lo mean mg mb).less (by decide)))) (EvsI.cons (EvI.cmp (EvI.call (EvI.glob (m := .gv (.ref 1045)) (v := .ref 1045) (by kernel_rfl) (by kernel_rfl) (vr_gv 1045) rfl) (KeepsI.K (by kernel_rfl)) (EvsI.cons (EvI.var 1 rfl (by kernel_rfl) rfl) (EvsI.cons EvI.cint EvsI.nil)) (ClI.fn ((D__law_wound.2 w pq lo mean mg mb).less (by decide)))) EvI.cint Op2I.eq) EvsI.nil)) (ClI.frame (ClI.fn ((D__law_send_right.2 w pq lo mean mg mb).less (by decide)))))))) (ExI.cons (StI.ret EvI.cbool) ExI.nil) ExI.nil) (ExI.cons (StI.ret (EvI.and (EvI.call (EvI.glob (m := .gv (.ref 1083)) (v := .ref 1083) (by kernel_rfl) (by kernel_rfl) (vr_gv 1083) rfl) (KeepsI.K (by kernel_rfl)) (EvsI.cons (EvI.call (EvI.glob (m := .gv (.ref 1045)) (v := .ref 1045) (by kernel_rfl) (by kernel_rfl) (vr_gv 1045) rfl) (KeepsI.K (by kernel_rfl)) (EvsI.cons (EvI.var 1 rfl (by kernel_rfl) rfl) (EvsI.cons EvI.cint EvsI.nil)) (ClI.fn ((D__law_wound.2 w pq lo mean mg mb).less (by decide)))) (EvsI.cons (EvI.call (EvI.glob (m := .gv (.ref 1045)) (v := .ref 1045) (by kernel_rfl) (by kernel_rfl) (vr_gv 1045) rfl) (KeepsI.K (by kernel_rfl)) (EvsI.cons (EvI.var 1 rfl (by kernel_rfl) rfl) (EvsI.cons EvI.cint EvsI.nil)) (ClI.fn ((D__law_wound.2 w pq lo mean mg mb).less (by decide)))) EvsI.nil)) (ClI.frame (ClI.fn ((D__law_receive_right.2 w pq lo mean mg mb).less (by decide))))) (EvI.call (EvI.glob (m := .gv (.ref 1088)) (v := .ref 1088) (by kernel_rfl) (by kernel_rfl) (vr_gv 1088) rfl) (KeepsI.K (by kernel_rfl)) (EvsI.cons (EvI.var 1 rfl (by kernel_rfl) rfl) EvsI.nil) (ClI.forgot (lp := lamPar) (lb := lamBody) (ls := lamScope) (opq_K0 _ _ _ _ _ _) (ClI.fn ((D__law_forgotten_right.2 w pq lo mean mg mb).less (by decide))))))) ExI.nil))))

end
end Mine
end

section
open PySem PySem.W PySem.Calls PyProof.Rows
set_option maxRecDepth 100000
set_option maxHeartbeats 0
namespace Mine
noncomputable def isT : Option (MV × MHeap) → Bool
  | some (.bool b, _) => b
  | _ => false
noncomputable def okF : Option (MV × MHeap) → Bool
  | some (.bool true, .opq 2 [] :: .opq 4 [] :: _) => true
  | _ => false
theorem ev_recv0 : (([0, 1, 2] : List Int).all fun b => isT (D__law_receive_right.1 [.int 0, .int b] [])) = true := by kernel_rfl
theorem ev_recv1 : (([0, 1, 2] : List Int).all fun b => isT (D__law_receive_right.1 [.int 1, .int b] [])) = true := by kernel_rfl
theorem ev_recv2 : (([0, 1, 2] : List Int).all fun b => isT (D__law_receive_right.1 [.int 2, .int b] [])) = true := by kernel_rfl
theorem ev_send0 : ([true, false].all fun b => isT (D__law_send_right.1 [.int 0, .bool b] [])) = true := by kernel_rfl
theorem ev_send1 : ([true, false].all fun b => isT (D__law_send_right.1 [.int 1, .bool b] [])) = true := by kernel_rfl
theorem ev_send2 : ([true, false].all fun b => isT (D__law_send_right.1 [.int 2, .bool b] [])) = true := by kernel_rfl
noncomputable def nine : List (Int × Int) := [(0, 0), (0, 1), (0, 2), (1, 0), (1, 1), (1, 2), (2, 0), (2, 1), (2, 2)]
theorem ev_forgot0 : (nine.all fun p => okF (D__law_forgotten_right.1 [.loc 1] [.opq 1 [], .opq 4 [.int 0, .int p.1, .int p.2]])) = true := by kernel_rfl
theorem ev_forgot1 : (nine.all fun p => okF (D__law_forgotten_right.1 [.loc 1] [.opq 1 [], .opq 4 [.int 1, .int p.1, .int p.2]])) = true := by kernel_rfl
theorem ev_forgot2 : (nine.all fun p => okF (D__law_forgotten_right.1 [.loc 1] [.opq 1 [], .opq 4 [.int 2, .int p.1, .int p.2]])) = true := by kernel_rfl
end Mine
end

section
open PySem PySem.W PySem.Calls PyProof.Rows
set_option maxRecDepth 100000
set_option maxHeartbeats 1000000
namespace Mine
theorem digit {a : Int} (h1 : 0 ≤ a) (h2 : a < 3) : a = 0 ∨ a = 1 ∨ a = 2 := by omega
theorem isT_of {r : Option (MV × MHeap)} (h : isT r = true) : ∃ h', r = some (.bool true, h') := by
  unfold isT at h
  split at h
  · cases h; exact ⟨_, rfl⟩
  · cases h
theorem okF_of {r : Option (MV × MHeap)} (h : okF r = true) : ∃ q, r = some (.bool true, .opq 2 [] :: .opq 4 [] :: q) := by
  unfold okF at h
  split at h
  · exact ⟨_, rfl⟩
  · cases h
theorem recv_ok {a b : Int} (a1 : 0 ≤ a) (a2 : a < 3) (b1 : 0 ≤ b) (b2 : b < 3) : ∃ h, D__law_receive_right.1 [.int a, .int b] [] = some (.bool true, h) := by
  have hm : b ∈ ([0, 1, 2] : List Int) := by
    rcases digit b1 b2 with rfl | rfl | rfl <;> simp
  have h : isT (D__law_receive_right.1 [.int a, .int b] []) = true := by
    rcases digit a1 a2 with rfl | rfl | rfl
    · exact List.all_eq_true.mp ev_recv0 b hm
    · exact List.all_eq_true.mp ev_recv1 b hm
    · exact List.all_eq_true.mp ev_recv2 b hm
  exact isT_of h
theorem send_ok {a : Int} (a1 : 0 ≤ a) (a2 : a < 3) (b : Bool) : ∃ h, D__law_send_right.1 [.int a, .bool b] [] = some (.bool true, h) := by
  have hm : b ∈ [true, false] := by cases b <;> simp
  have h : isT (D__law_send_right.1 [.int a, .bool b] []) = true := by
    rcases digit a1 a2 with rfl | rfl | rfl
    · exact List.all_eq_true.mp ev_send0 b hm
    · exact List.all_eq_true.mp ev_send1 b hm
    · exact List.all_eq_true.mp ev_send2 b hm
  exact isT_of h
theorem forgot_ok {a b c : Int} (a1 : 0 ≤ a) (a2 : a < 3) (b1 : 0 ≤ b) (b2 : b < 3) (c1 : 0 ≤ c) (c2 : c < 3) : ∃ q, D__law_forgotten_right.1 [.loc 1] [.opq 1 [], .opq 4 [.int a, .int b, .int c]] = some (.bool true, .opq 2 [] :: .opq 4 [] :: q) := by
  have hm : (b, c) ∈ nine := by
    rcases digit b1 b2 with rfl | rfl | rfl <;> rcases digit c1 c2 with rfl | rfl | rfl <;> simp [nine]
  have h : okF (D__law_forgotten_right.1 [.loc 1] [.opq 1 [], .opq 4 [.int a, .int b, .int c]]) = true := by
    rcases digit a1 a2 with rfl | rfl | rfl
    · exact List.all_eq_true.mp ev_forgot0 (b, c) hm
    · exact List.all_eq_true.mp ev_forgot1 (b, c) hm
    · exact List.all_eq_true.mp ev_forgot2 (b, c) hm
  exact okF_of h

theorem frame_ok {F : List MV → MHeap → Option (MV × MHeap)} {vs : List MV} {hp h : MHeap} (e : F vs [] = some (.bool true, h)) (hv : vs.all flatM = true) : fFrame F vs hp = some (.bool true, hp) := by
  unfold fFrame
  rw [if_pos hv, e]
  rfl

noncomputable abbrev PF := List MV → MHeap → Option (MV × MHeap)
noncomputable def lWound (WN : PF) (m : Int) : EFun := eCall WN (vCons (eV 1) (vCons (eC (.int m)) vNil))
noncomputable def lawF (R S W RL FG WN : PF) : SFun := sSeq (sIf (tN (tP (eCall (fFrame R) (vCons (eC (.int 1)) (vCons (eC (.int 1)) vNil))))) (sSeq (sRet (eC (.bool false))) sNil) sNil)
      (sSeq (sVar 1 (eCall RL (vCons (eV 0) vNil)))
        (sSeq (sIf (tOr (tN (tP (eCall (fWaits W) (vCons (eV 1) vNil)))) (tN (tP (eCall (fFrame S) (vCons (lWound WN 3) (vCons (e2 oEq (lWound WN 2) (eC (.int 0))) vNil)))))) (sSeq (sRet (eC (.bool false))) sNil) sNil)
          (sSeq (sRet (eAnd (eCall (fFrame R) (vCons (lWound WN 3) (vCons (lWound WN 3) vNil))) (eCall FG (vCons (eV 1) vNil)))) sNil)))
theorem law_form : D_law.1 = lawF D__law_receive_right.1 D__law_send_right.1 D__law_waits_right.1 D__law_reel.1 (fForgot2 D__law_forgotten_right.1) D__law_wound.1 := by
  unfold D_law lawF lWound
  with_reducible rfl
theorem forgot2_run {Fo : PF} {x y : Int} {m1 : MObj} (h : rOk x y) (hFo : ∀ a b c : Int, 0 ≤ a → a < 3 → 0 ≤ b → b < 3 → 0 ≤ c → c < 3 → ∃ q, Fo [.loc 1] [.opq 1 [], .opq 4 [.int a, .int b, .int c]] = some (.bool true, .opq 2 [] :: .opq 4 [] :: q)) :
    fForgot2 Fo [.loc 2] [.opq 1 [], m1, .lst [.int x, .int y]] = some (.bool true, [.opq 2 [], m1, .opq 4 []]) := by
  have d1 := wnd_bound (x := x) (y := y) (m := 3) (by decide)
  have d2 := wnd_bound (x := (wnd x y 3).2.1) (y := (wnd x y 3).2.2) (m := 3) (by decide)
  have d3 := wnd_bound (x := (wnd (wnd x y 3).2.1 (wnd x y 3).2.2 3).2.1) (y := (wnd (wnd x y 3).2.1 (wnd x y 3).2.2 3).2.2) (m := 3) (by decide)
  obtain ⟨q, r9⟩ := hFo _ _ _ d1.1 d1.2 d2.1 d2.2 d3.1 d3.2
  have e : (draws3 x y).map MV.int = [.int (wnd x y 3).1, .int (wnd (wnd x y 3).2.1 (wnd x y 3).2.2 3).1, .int (wnd (wnd (wnd x y 3).2.1 (wnd x y 3).2.2 3).2.1 (wnd (wnd x y 3).2.1 (wnd x y 3).2.2 3).2.2 3).1] := rfl
  unfold fForgot2
  rw [if_pos (show isL2 [.loc 2] = true from rfl)]
  show (if (0 ≤ x ∧ 0 ≤ y ∧ y < 4294967296) ∧ isOpq 1 (.opq 1 []) = true then _ else none) = _
  rw [if_pos ⟨h, rfl⟩]
  dsimp only
  rw [e, r9]
  rfl

section
variable {R S W RL FG WN : PF} {so : Obj}
theorem lWound_run (hWN : WndF WN) {x y m : Int} (h : rOk x y) (h1 : 0 < m) (h2 : m ≤ 64) : ∃ n x' y', lWound WN m [some (.loc 1), some (.loc 2)] [.opq 1 [], .raw so, .lst [.int x, .int y]] = some (.int n, [.opq 1 [], .raw so, .lst [.int x', .int y']]) ∧ 0 ≤ n ∧ n < m ∧ rOk x' y' := by
  have hw := hWN 2 [.opq 1 [], .raw so, .lst [.int x, .int y]] x y m h h1 h2 rfl
  exact ⟨_, _, _, hw, (wnd_bound h1).1, (wnd_bound h1).2, wnd_ok h h1⟩
theorem law_abs (hR : ∀ a b : Int, 0 ≤ a → a < 3 → 0 ≤ b → b < 3 → ∃ h, R [.int a, .int b] [] = some (.bool true, h)) (hS : ∀ (a : Int) (b : Bool), 0 ≤ a → a < 3 → ∃ h, S [.int a, .bool b] [] = some (.bool true, h))
    (hW : ∀ x y, rOk x y → ∃ x' y' rest, rOk x' y' ∧ W [.loc 0] [.lst [.int x, .int y]] = some (.bool true, .lst [.int x', .int y'] :: rest)) (hRL : ∃ x y, rOk x y ∧ RL [.loc 1] [.opq 1 [], .raw so] = some (.loc 2, [.opq 1 [], .raw so, .lst [.int x, .int y]]))
    (hWN : WndF WN)
    (hFG : ∀ x y m1, rOk x y → FG [.loc 2] [.opq 1 [], m1, .lst [.int x, .int y]] = some (.bool true, [.opq 2 [], m1, .opq 4 []])) :
    ∃ loc' m2, lawF R S W RL FG WN [some (.loc 1), none] [.opq 1 [], .raw so] = some (.ret (.bool true), loc', [.opq 2 [], .raw so, m2]) := by

  obtain ⟨h1, r1⟩ := hR 1 1 (by decide) (by decide) (by decide) (by decide)
  have s1 : sIf (tN (tP (eCall (fFrame R) (vCons (eC (.int 1)) (vCons (eC (.int 1)) vNil))))) (sSeq (sRet (eC (.bool false))) sNil) sNil [some (.loc 1), none] [.opq 1 [], .raw so] = some (.next, [some (.loc 1), none], [.opq 1 [], .raw so]) := by
    have hf := frame_ok (hp := [.opq 1 [], .raw so]) r1 rfl
    unfold sIf tN
    rw [tP_of (show eCall (fFrame R) (vCons (eC (.int 1)) (vCons (eC (.int 1)) vNil)) [some (.loc 1), none] [.opq 1 [], .raw so] = some (.bool true, [.opq 1 [], .raw so]) from hf)]
    rfl

  obtain ⟨x, y, hr, e1⟩ := hRL
  have s2 : sVar 1 (eCall RL (vCons (eV 0) vNil)) [some (.loc 1), none] [.opq 1 [], .raw so] = some (.next, [some (.loc 1), some (.loc 2)], [.opq 1 [], .raw so, .lst [.int x, .int y]]) := by
    unfold sVar
    rw [show eCall RL (vCons (eV 0) vNil) [some (.loc 1), none] [.opq 1 [], .raw so] = some (.loc 2, [.opq 1 [], .raw so, .lst [.int x, .int y]]) from e1]
    rfl

  obtain ⟨x2, y2, rest, hr2, e2'⟩ := hW x y hr
  have w1 : eCall (fWaits W) (vCons (eV 1) vNil) [some (.loc 1), some (.loc 2)] [.opq 1 [], .raw so, .lst [.int x, .int y]] = some (.bool true, [.opq 1 [], .raw so, .lst [.int x2, .int y2]]) := by
    show fWaits W [.loc 2] [.opq 1 [], .raw so, .lst [.int x, .int y]] = _
    unfold fWaits
    rw [if_pos (show isL2 [.loc 2] = true from rfl)]
    show ((W [.loc 0] [.lst [.int x, .int y]]).bind _) = _
    rw [e2']
    rfl

  obtain ⟨n3, x3, y3, e3, a3, b3, hr3⟩ := lWound_run (so := so) hWN hr2 (m := 3) (by decide) (by decide)
  obtain ⟨n4, x4, y4, e4, a4, b4, hr4⟩ := lWound_run (so := so) hWN hr3 (m := 2) (by decide) (by decide)
  obtain ⟨h5, r5⟩ := hS n3 (n4 == 0) a3 b3
  have w2 : eCall (fFrame S) (vCons (lWound WN 3) (vCons (e2 oEq (lWound WN 2) (eC (.int 0))) vNil)) [some (.loc 1), some (.loc 2)] [.opq 1 [], .raw so, .lst [.int x2, .int y2]] = some (.bool true, [.opq 1 [], .raw so, .lst [.int x4, .int y4]]) := by
    have hq : e2 oEq (lWound WN 2) (eC (.int 0)) [some (.loc 1), some (.loc 2)] [.opq 1 [], .raw so, .lst [.int x3, .int y3]] = some (.bool (n4 == 0), [.opq 1 [], .raw so, .lst [.int x4, .int y4]]) := (e2_of e4 rfl).trans (eq_int n4 0)
    simp only [eCall, vCons, e3, hq, vNil, Option.bind_some]
    exact frame_ok r5 rfl
  have s3 : sIf (tOr (tN (tP (eCall (fWaits W) (vCons (eV 1) vNil)))) (tN (tP (eCall (fFrame S) (vCons (lWound WN 3) (vCons (e2 oEq (lWound WN 2) (eC (.int 0))) vNil)))))) (sSeq (sRet (eC (.bool false))) sNil) sNil [some (.loc 1), some (.loc 2)] [.opq 1 [], .raw so, .lst [.int x, .int y]] = some (.next, [some (.loc 1), some (.loc 2)], [.opq 1 [], .raw so, .lst [.int x4, .int y4]]) := by
    unfold sIf tOr tN
    rw [tP_of w1]
    simp only [Option.bind_some, Bool.not_true]
    rw [tP_of w2]
    rfl

  obtain ⟨n6, x6, y6, e6, a6, b6, hr6⟩ := lWound_run (so := so) hWN hr4 (m := 3) (by decide) (by decide)
  obtain ⟨n7, x7, y7, e7, a7, b7, hr7⟩ := lWound_run (so := so) hWN hr6 (m := 3) (by decide) (by decide)
  obtain ⟨h8, r8⟩ := hR n6 n7 a6 b6 a7 b7
  have w3 : eCall (fFrame R) (vCons (lWound WN 3) (vCons (lWound WN 3) vNil)) [some (.loc 1), some (.loc 2)] [.opq 1 [], .raw so, .lst [.int x4, .int y4]] = some (.bool true, [.opq 1 [], .raw so, .lst [.int x7, .int y7]]) := by
    simp only [eCall, vCons, e6, e7, vNil, Option.bind_some]
    exact frame_ok r8 rfl
  have w4 : eCall FG (vCons (eV 1) vNil) [some (.loc 1), some (.loc 2)] [.opq 1 [], .raw so, .lst [.int x7, .int y7]] = some (.bool true, [.opq 2 [], .raw so, .opq 4 []]) := hFG x7 y7 _ hr7
  refine ⟨[some (.loc 1), some (.loc 2)], .opq 4 [], ?_⟩
  unfold lawF
  refine (seq_next s1).trans ((seq_next s2).trans ((seq_next s3).trans (seq_ret ?_)))
  unfold sRet eAnd
  rw [w3]
  simp only [Option.bind_some, tOf]
  rw [w4]
  rfl
end
theorem law_pure (so : Obj) (vs : List Value) (ns : List Int) (hso : rawList so = some vs.toArray) (hI : IntsAre vs ns) (hl : ns.length ≤ 63) :
    ∃ loc' m2, D_law.1 [some (.loc 1), none] [.opq 1 [], .raw so] = some (.ret (.bool true), loc', [.opq 2 [], .raw so, m2]) := by
  rw [law_form]
  exact law_abs (fun a b a1 a2 b1 b2 => recv_ok a1 a2 b1 b2) (fun a b a1 a2 => send_ok a1 a2 b) (fun x y h => waits_run h) (reel_run hso hI hl) wound_WndF (fun x y m1 h => forgot2_run h fun a b c a1 a2 b1 b2 c1 c2 => forgot_ok a1 a2 b1 b2 c1 c2)
end Mine
end

section
open PySem PySem.W PySem.Calls PyProof.Rows
set_option maxRecDepth 100000
set_option maxHeartbeats 0
namespace Mine
section
variable {h₁ h : Heap} {L a : Addr} {m mg mb : Str → Option Value} {p : Program} {loose : List Str} {mean : ExcName → Option Value} {as : List Addr}

noncomputable def Hid (h₁ : Heap) (as : List Addr) : Prop := ∀ a ∈ as, ∃ o, h₁.get? a = some o ∧ (o.cls = .none ∨ o.cls = .type "list") ∧ ∀ es ep, o.data ≠ .dict es ep
theorem Hid.ne (hT : Hid h₁ as) {b : Addr} {o : Obj} (e : h₁.get? b = some o) (hn : (∃ es ep, o.data = .dict es ep) ∨ (o.cls ≠ .none ∧ o.cls ≠ .type "list")) : (hideAll h₁ as).get? b = some o := hideAll_get _ e fun q => by
  obtain ⟨o', e', hc, hd⟩ := hT b q
  rw [e] at e'; cases e'
  rcases hn with ⟨es, ep, hn⟩ | ⟨n1, n2⟩
  · exact hd es ep hn
  · rcases hc with hc | hc
    · exact n1 hc
    · exact n2 hc
theorem hide_ns {x : Addr} {mm : Str → Option Value} (hT : Hid h₁ as) (y : h₁.Ns x mm) : (hideAll h₁ as).Ns x mm :=
  let ⟨o, es, ep, e, hd, r⟩ := y; ⟨o, es, ep, hT.ne e (.inl ⟨es, ep, hd⟩), hd, r⟩
theorem hide_top (hT : Hid h₁ as) (T : Top p loose mean mg mb h₁) : Top topProg (loose ++ (recsOf p).map (·.name) ++ (litsOf p).map (·.1) ++ (clssOf p loose).map (·.name)) mean mg mb (hideAll h₁ as) where
  g := hide_ns hT T.g
  b := hide_ns hT T.b
  nolimit := let ⟨mc, x, r⟩ := T.nolimit; ⟨mc, hide_ns hT x, r⟩
  nodigits := let ⟨mc, x, r⟩ := T.nodigits; ⟨mc, hide_ns hT x, r⟩
  fn := fun d hd => absurd (show d ∈ ([] : List DefRec) from hd) List.not_mem_nil
  own := fun o ho => absurd (show o ∈ ([] : List OwnSpec) from ho) List.not_mem_nil
  const := fun x d e => by cases (show (none : Option PyData) = some d from e)
  free := fun x h1 h2 _ _ _ => T.free x h1 (fun q => h2 (List.mem_append_left _ (List.mem_append_left _ (List.mem_append_left _ q))))
    (fun q => h2 (List.mem_append_left _ (List.mem_append_left _ (List.mem_append_right _ q)))) (fun q => h2 (List.mem_append_left _ (List.mem_append_right _ q))) fun q => h2 (List.mem_append_right _ q)
  builtins := T.builtins
  tab := fun d hd => absurd (show d ∈ ([] : List DefRec) from hd) List.not_mem_nil
  bmain := let ⟨bm, ob, a1, a2, a3, a4, r⟩ := T.bmain; ⟨bm, ob, a1, a2, hT.ne a3 (.inr ⟨by rw [a4]; nofun, by rw [a4]; simp⟩), a4, r⟩
  seer := fun e => absurd (show false = true from e) Bool.false_ne_true
noncomputable def noLists (K : Frag) : Bool := K.all fun p => match p.2.cls with
  | .none => false
  | .type t => t != "list"
  | _ => true
theorem hide_K {K : Frag} (hT : Hid h₁ as) (X : K.In h₁) (hK : noLists K = true) : K.In (hideAll h₁ as) := fun a o e => by
  refine hT.ne (X a o e) (.inr ?_)
  have h2 := List.all_eq_true.mp hK (a, o) (mem_of_lookupK e)
  constructor
  · intro q
    simp [q] at h2
  · intro q
    simp [q] at h2
end

theorem fn58_kind : (scopeS (fnS 58)).kind = .function := by kernel_rfl
theorem fn58_cells : ((scopeS (fnS 58)).names.all fun x => x.2 != .cell) = true := by kernel_rfl
theorem fn58_lam : lamN (scopeS (fnS 58)) = false := by kernel_rfl
theorem fn58_script : (scopeS (fnS 58)).names.lookup (Str.ofString "script") = some .local := by kernel_rfl
theorem atn_nodup : atnV.Nodup := by decide +kernel
theorem kt_nolists (P : Params) : noLists (KT P) = true := by kernel_rfl

theorem law_walk {w : World} {s₁ : Shared} {h₁ : Heap} {a fa : Addr} {cd : Value} {vs : List Value} {mean : ExcName → Option Value} {mg mb mf : Str → Option Value} {loose : List Str} {p : Program} {tk : Nat} {Q : Flow → Shared → Prop} {E : Value → Shared → Prop}
    (HP : ∀ so : Obj, rawList so = some vs.toArray → ∃ loc' m2, D_law.1 [some (.loc 1), none] [.opq 1 [], .raw so] = some (.ret (.bool true), loc', [.opq 2 [], .raw so, m2]))
    (KX : (KU w.params).In s₁.heap) (T : Top p loose mean mg mb s₁.heap) (hL : s₁.heap.IsList a vs.toArray) (F : Fr s₁.heap s₁.heap.objs.size h₁ mf) (hmf : mf (Str.ofString "script") = some (.ref a))
    (hend : ∀ s', (∀ b o, (ghostOf s₁.heap [(1087, 1085)]).get? b = some o → s'.heap.get? b = some o) → s'.gens = s₁.gens → s'.os = s₁.os → GrownAll [(1087, 1085)] s'.heap → Q (.ret (.bool true)) s') :
    wpAny (model pw w) (callerA.deeper (envOf (Str.ofString "law") (scopeS (fnS 58)) s₁.heap.objs.size fa cd)) (execs (bodyS (fnS 58)) (envOf (Str.ofString "law") (scopeS (fnS 58)) s₁.heap.objs.size fa cd)) Q E { s₁ with heap := h₁, toks := tk } := by
  obtain ⟨so, hso, hcl, n, hda⟩ := hL
  have h85 : s₁.heap.get? 1085 = some (tabObj #[]) := KX 1085 _ (by unfold KU; rfl)
  have ne : (1085 : Addr) ≠ a := fun e => by rw [e, hso] at h85; cases h85; cases hcl
  have hT : Hid s₁.heap [1085, a] := by
    intro b hb
    rcases List.mem_cons.mp hb with rfl | hb
    · exact ⟨_, h85, .inl rfl, fun _ _ => nofun⟩
    · rw [List.mem_singleton.mp hb]; exact ⟨so, hso, .inr hcl, fun _ _ => by rw [hda]; nofun⟩
  have KT0 : (KT w.params).In s₁.heap := fun b o e => KX b o (by
    unfold KU
    rw [List.lookup_cons]
    cases hb : b == 1085 with
    | false => exact e
    | true =>
      rw [beq_iff_eq.mp hb] at e
      have z : (KT w.params).lookup 1085 = none := by kernel_rfl
      rw [z] at e; cases e)
  have hraw : rawList so = some vs.toArray := by unfold rawList; rw [hcl, hda]; rfl
  obtain ⟨loc', m2, hrun⟩ := HP so hraw
  let L := s₁.heap.objs.size
  let env := envOf (Str.ofString "law") (scopeS (fnS 58)) s₁.heap.objs.size fa cd
  let D : Dyn := { A := callerA.deeper env, A₀ := callerA, base := hideAll s₁.heap [1085, a], h₀ := hideAll s₁.heap [1085, a], outer := [], L := L, fenv := env, env := env, mf := mf, ce := [], xs := [], s₀ := { s₁ with heap := h₁, toks := tk } }
  let G := GG w topProg (loose ++ (recsOf p).map (·.name) ++ (litsOf p).map (·.1) ++ (clssOf p loose).map (·.name)) mean mg mb
  have ok : Ok G _ D := ⟨below_caller _, hide_K hT KT0 (kt_nolists _), hide_top hT T, rfl, rfl, rfl, fn58_kind, by show callerA.depth + 1 + 12 < _; decide, by show callerA.units + 3 + 8 * 12 + 200 < _; decide, atn_nodup, rfl, rfl, fn58_kind,
    fun x e => absurd (List.all_eq_true.mp fn58_cells _ (mem_lookup e)) (by simp), fun e => by rw [show lamN D.env.scope = false from fn58_lam] at e; cases e⟩
  have F' : Fr D.h₀ D.L h₁ mf := ⟨F.ns, fun b o e => F.keep b o (of_hideAll _ e), Nat.le_trans (Nat.le_of_eq (hideAll_size _ _)) F.above⟩
  have lt : ∀ b o, s₁.heap.get? b = some o → b ≠ L := fun b o e => Nat.ne_of_lt (Heap.lt_size e)
  have H : HRel G D [1085, a] [[(1085, tabObj #[])], [(a, so)]] [.opq 1 [], .raw so] { s₁ with heap := h₁, toks := tk } := by
    refine ⟨F', fun q hq => ?_, ?_, rfl, rfl, fun l mo hm => ?_, rfl, rfl, rfl⟩
    · have hq' : q ∈ [((1085 : Addr), tabObj #[]), (a, so)] := by simpa [Dyn.led, D] using hq
      rcases List.mem_cons.mp hq' with rfl | hq'
      · exact ⟨F.keep _ _ h85, lt _ _ h85, hideAll_none _ (.head _)⟩
      · rw [List.mem_singleton.mp hq']
        exact ⟨F.keep _ _ hso, lt _ _ hso, hideAll_none _ (.tail _ (.head _))⟩
    · show ((D.led [[((1085 : Addr), tabObj #[])], [(a, so)]]).map (·.1)).Nodup
      have : D.led [[((1085 : Addr), tabObj #[])], [(a, so)]] = [(1085, tabObj #[]), (a, so)] := rfl
      rw [this]
      simp [ne]
    · match l, hm with
      | 0, hm => cases hm; exact ⟨1085, _, rfl, rfl, [], rfl, rfl, rfl, rfl⟩
      | 1, hm => cases hm; exact ⟨a, _, rfl, rfl, rfl⟩
      | l + 2, hm => simp at hm
  refine D_law.2 w topProg _ mean mg mb D [some (.loc 1), none] [.opq 1 [], .raw so] [1085, a] _ _ _ _ _ Q E ok rfl rfl rfl hrun ?_ H fun fv as' cs' mf' ce' s' x r k L1 H1 => ?_
  · intro i m hi
    match i, hi with
    | 0, hi => cases hi; exact ⟨_, .ref a, rfl, ⟨a, rfl, rfl⟩, .inl ⟨rfl, fn58_script, hmf⟩⟩
    | 1, hi => cases hi
    | i + 2, hi => simp at hi
  · obtain ⟨v, rfl, hv⟩ := r
    cases hv
    have e0 := x 0 1085 rfl
    have e1 := x 1 a rfl
    obtain ⟨a0, c0, f1, f2, vs0, hvs0, -, hop, ps, rfl⟩ := H1.cel 0 _ rfl
    obtain ⟨a1, c1, g1, g2, rfl⟩ := H1.cel 1 _ rfl
    rw [e1] at g1; cases g1
    have m0 := (H1.nw _ (mem_led (D := D.turn mf' ce') f2 (List.mem_singleton.mpr rfl))).1
    have m1 := (H1.nw _ (mem_led (D := D.turn mf' ce') g2 (List.mem_singleton.mpr rfl))).1
    refine hend s' (fun b o hb => ?_) H1.st.1 H1.st.2.2 ⟨⟨ps, m0⟩, trivial⟩
    by_cases hba : b = a
    · subst hba
      have : s₁.heap.get? b = some o := of_hideAll _ hb
      rw [hso] at this; cases this
      exact m1
    · refine H1.fr.keep b o (hideAll_get _ (of_hideAll _ hb) fun q => ?_)
      rcases List.mem_cons.mp q with rfl | q
      · rw [show (ghostOf s₁.heap [(1087, 1085)]).get? 1085 = none from hideAll_none _ (.head _)] at hb; cases hb
      · exact hba (List.mem_singleton.mp q)
end Mine
end

section
open PySem PySem.W PySem.Calls PyProof.Rows
set_option maxRecDepth 100000
set_option maxHeartbeats 0
namespace Mine
theorem tabs_at {w : World} {h : Heap} (X : (KU w.params).In h) : TabsAt [(1087, 1085)] h := by
  intro q hq
  rw [List.mem_singleton.mp hq]
  have h85 : h.get? 1085 = some (tabObj #[]) := X 1085 _ (by unfold KU; rfl)
  refine ⟨codeHd_K w.params h fun b o e => X b o ?_, h85⟩
  unfold KU
  rw [List.lookup_cons]
  cases hb : b == 1085 with
  | false => exact e
  | true =>
    rw [beq_iff_eq.mp hb] at e
    have z : (KT w.params).lookup 1085 = none := by kernel_rfl
    rw [z] at e; cases e
theorem holds (HP : ∀ (so : Obj) (vs : List Value) (ns : List Int), rawList so = some vs.toArray → IntsAre vs ns → ns.length ≤ 63 → ∃ loc' m2, D_law.1 [some (.loc 1), none] [.opq 1 [], .raw so] = some (.ret (.bool true), loc', [.opq 2 [], .raw so, m2])) : PySem.Challenge.rw_xm0186_01.Holds := by
  refine holds_law h_said fun said => ?_
  refine holds_open (q := qT) (loose := looseT) (Xt := XtT) (XP := XL qT []) (Yf := hookT.obs) (Ya := hookT.val) (YP := hookT.says) (N := 14630) h_left hookT.of hookT.keeps (fun s e => xl_of s (Bool.and_eq_true_iff.mp e).1) XL.keeps (by rfl) (by rfl) (by rfl) (fun s e => recFacts_of (Bool.and_eq_true_iff.mp e).2) (by rfl) said h_ok h_bare ?hw ?hc
  case hw => w_witness2
  case hc =>
    intro w s₀ s₁ mg mb G Y fa o pm cd doc dV kV ho hd hcd hD hmg hg args vals as hpre hlay hrd hwl hlo
    have KX : (KU w.params).In s₁.heap := Y
    refine Ground.open G ?_
    intro T B D TE TW
    clear G Y B D TE TW
    have hT9 := tabs_at KX
    wrow_args hpre hlay hrd hwl hlo
    refine enter_call ?_
    w_top on
    refine kn_post hT9 (fun _ _ => rfl) ?_
    w_call any ho hd hcd hD T F
    clear ho hd hcd hD hmg
    rename List Int => nsI
    rename IntsAre _ _ => hI
    rename Heap.IsList _ _ _ => hL
    have hlen : nsI.length ≤ 63 := by omega
    refine law_walk (fun so h => HP so _ nsI h hI hlen) KX T hL F rfl fun s' k1 k2 k3 k4 => ?_
    refine ⟨⟨.inl ⟨.bool true, .bool true, [], rfl, fun _ => rfl, .bool _, by kernel_rfl, fun _ => ⟨List.nodup_nil, fun _ h => nomatch h⟩⟩, k1, k3, k2.trans hg⟩, k4⟩
end Mine
end

theorem PySem.Challenge.cw_xm0186_01_holds : PySem.Challenge.rw_xm0186_01.Holds :=
  Mine.holds Mine.law_pure
