import PyProof.Rows.All
import Wide.All
import OpenK.AllK
import Wide.FinOn
import PyProof.ExcArgsOwn
import Lean
import PySem.Challenge.RW_xm0176_01
set_option Elab.async false
set_option maxRecDepth 100000
set_option rowWalk.seconds 0
set_option compiler.extract_closed false
namespace Mine
section
open PySem PySem.W PySem.Calls PyProof.Rows
set_option maxRecDepth 1000000
set_option maxHeartbeats 0
abbrev pw : Program := PySem.Challenge.pw_xm0176_01
abbrev rl : OpenLaw := PySem.Challenge.rw_xm0176_01
noncomputable def qv : Program := view pw [44]
noncomputable def loose : List Str := [Str.ofString "_wall", Str.ofString "ChanError", Str.ofString "MachineFault", Str.ofString "FuelFault", Str.ofString "GoPanic", Str.ofString "RUNTIME_ERROR", Str.ofString "runtime_panic", Str.ofString "inner_of", Str.ofString "part_behind", Str.ofString "with_part", Str.ofString "led_flat", Str.ofString "Kept", Str.ofString "held_values", Str.ofString "Heap", Str.ofString "SEND_ON_CLOSED", Str.ofString "CLOSE_OF_CLOSED", Str.ofString "woken_row", Str.ofString "once_a_select", Str.ofString "Channel", Str.ofString "LOOSE_TAGS", Str.ofString "MOST_PARTS", Str.ofString "need_few", Str.ofString "value_tag", Str.ofString "value_key", Str.ofString "Table", Str.ofString "entry_number", Str.ofString "TableWalk", Str.ofString "_law_pool", Str.ofString "_law_take", Str.ofString "_law_one", Str.ofString "_law_value", Str.ofString "_law_led", Str.ofString "_law_with", Str.ofString "_law_kind", Str.ofString "_law_steps", Str.ofString "_law_parts_right", Str.ofString "_law_object", Str.ofString "_law_objects_right"]
noncomputable def topDef (i : Nat) : Arguments × List Stmt × Scope := match pw.main.body[i]? with
  | some (.FunctionDef _ a b _ _ _ s _ _ _) => (a, b, s)
  | _ => default
noncomputable def inDef (i j : Nat) : Arguments × List Stmt × Scope := match pw.main.body[i]? with
  | some (.ClassDef _ _ _ body ..) => (match body[j]? with
    | some (.FunctionDef _ a b _ _ _ s _ _ _) => (a, b, s)
    | _ => default)
  | _ => default
noncomputable abbrev de (P : Params) (x : String) (t : Tok) (v : Value) : DictEntry := ⟨PyData.keyHash P (Str.ofString x), .str (Str.ofString x) t, v⟩
noncomputable abbrev M2_0 : {x : Arguments × List Stmt × Scope // x = inDef 2 0} := ⟨_, by conv => rhs; whnf⟩
noncomputable abbrev M3_0 : {x : Arguments × List Stmt × Scope // x = inDef 3 0} := ⟨_, by conv => rhs; whnf⟩
noncomputable abbrev T9 : {x : Arguments × List Stmt × Scope // x = topDef 9} := ⟨_, by conv => rhs; whnf⟩
noncomputable abbrev T10 : {x : Arguments × List Stmt × Scope // x = topDef 10} := ⟨_, by conv => rhs; whnf⟩
noncomputable abbrev T11 : {x : Arguments × List Stmt × Scope // x = topDef 11} := ⟨_, by conv => rhs; whnf⟩
noncomputable abbrev T12 : {x : Arguments × List Stmt × Scope // x = topDef 12} := ⟨_, by conv => rhs; whnf⟩
noncomputable abbrev M13_0 : {x : Arguments × List Stmt × Scope // x = inDef 13 0} := ⟨_, by conv => rhs; whnf⟩
noncomputable abbrev T14 : {x : Arguments × List Stmt × Scope // x = topDef 14} := ⟨_, by conv => rhs; whnf⟩
noncomputable abbrev M15_0 : {x : Arguments × List Stmt × Scope // x = inDef 15 0} := ⟨_, by conv => rhs; whnf⟩
noncomputable abbrev M15_1 : {x : Arguments × List Stmt × Scope // x = inDef 15 1} := ⟨_, by conv => rhs; whnf⟩
noncomputable abbrev M15_3 : {x : Arguments × List Stmt × Scope // x = inDef 15 3} := ⟨_, by conv => rhs; whnf⟩
noncomputable abbrev M15_4 : {x : Arguments × List Stmt × Scope // x = inDef 15 4} := ⟨_, by conv => rhs; whnf⟩
noncomputable abbrev M15_5 : {x : Arguments × List Stmt × Scope // x = inDef 15 5} := ⟨_, by conv => rhs; whnf⟩
noncomputable abbrev M15_7 : {x : Arguments × List Stmt × Scope // x = inDef 15 7} := ⟨_, by conv => rhs; whnf⟩
noncomputable abbrev M15_8 : {x : Arguments × List Stmt × Scope // x = inDef 15 8} := ⟨_, by conv => rhs; whnf⟩
noncomputable abbrev M21_0 : {x : Arguments × List Stmt × Scope // x = inDef 21 0} := ⟨_, by conv => rhs; whnf⟩
noncomputable abbrev M21_3 : {x : Arguments × List Stmt × Scope // x = inDef 21 3} := ⟨_, by conv => rhs; whnf⟩
noncomputable abbrev T25 : {x : Arguments × List Stmt × Scope // x = topDef 25} := ⟨_, by conv => rhs; whnf⟩
noncomputable abbrev T26 : {x : Arguments × List Stmt × Scope // x = topDef 26} := ⟨_, by conv => rhs; whnf⟩
noncomputable abbrev T27 : {x : Arguments × List Stmt × Scope // x = topDef 27} := ⟨_, by conv => rhs; whnf⟩
noncomputable abbrev M29_0 : {x : Arguments × List Stmt × Scope // x = inDef 29 0} := ⟨_, by conv => rhs; whnf⟩
noncomputable abbrev M29_1 : {x : Arguments × List Stmt × Scope // x = inDef 29 1} := ⟨_, by conv => rhs; whnf⟩
noncomputable abbrev M29_4 : {x : Arguments × List Stmt × Scope // x = inDef 29 4} := ⟨_, by conv => rhs; whnf⟩
noncomputable abbrev M29_6 : {x : Arguments × List Stmt × Scope // x = inDef 29 6} := ⟨_, by conv => rhs; whnf⟩
noncomputable abbrev T30 : {x : Arguments × List Stmt × Scope // x = topDef 30} := ⟨_, by conv => rhs; whnf⟩
noncomputable abbrev M31_0 : {x : Arguments × List Stmt × Scope // x = inDef 31 0} := ⟨_, by conv => rhs; whnf⟩
noncomputable abbrev M31_1 : {x : Arguments × List Stmt × Scope // x = inDef 31 1} := ⟨_, by conv => rhs; whnf⟩
noncomputable abbrev T33 : {x : Arguments × List Stmt × Scope // x = topDef 33} := ⟨_, by conv => rhs; whnf⟩
noncomputable abbrev T34 : {x : Arguments × List Stmt × Scope // x = topDef 34} := ⟨_, by conv => rhs; whnf⟩
noncomputable abbrev T35 : {x : Arguments × List Stmt × Scope // x = topDef 35} := ⟨_, by conv => rhs; whnf⟩
noncomputable abbrev T36 : {x : Arguments × List Stmt × Scope // x = topDef 36} := ⟨_, by conv => rhs; whnf⟩
noncomputable abbrev T37 : {x : Arguments × List Stmt × Scope // x = topDef 37} := ⟨_, by conv => rhs; whnf⟩
noncomputable abbrev T38 : {x : Arguments × List Stmt × Scope // x = topDef 38} := ⟨_, by conv => rhs; whnf⟩
noncomputable abbrev T39 : {x : Arguments × List Stmt × Scope // x = topDef 39} := ⟨_, by conv => rhs; whnf⟩
noncomputable abbrev T40 : {x : Arguments × List Stmt × Scope // x = topDef 40} := ⟨_, by conv => rhs; whnf⟩
noncomputable abbrev T41 : {x : Arguments × List Stmt × Scope // x = topDef 41} := ⟨_, by conv => rhs; whnf⟩
noncomputable abbrev T42 : {x : Arguments × List Stmt × Scope // x = topDef 42} := ⟨_, by conv => rhs; whnf⟩
noncomputable abbrev T43 : {x : Arguments × List Stmt × Scope // x = topDef 43} := ⟨_, by conv => rhs; whnf⟩
noncomputable abbrev T44 : {x : Arguments × List Stmt × Scope // x = topDef 44} := ⟨_, by conv => rhs; whnf⟩
noncomputable def KP : Params → Frag := fun P =>
  (nat_lit 2, ⟨.none, none, .dict #[de P "type.__subclasses__.Exception.0" 224 (.int 39 0), de P "type.__subclasses__.Exception.n" 225 (.int 1 0)] 2, #[]⟩) ::
  (nat_lit 3, ⟨(.type "dict"), none, .dict #[de P "__name__" 165 (.str (Str.ofString "law_xm0176_01") 846), de P "__doc__" 166 .none, de P "__package__" 167 .none, de P "__loader__" 168 (.builtin "__main__.__loader__#opaque"), de P "__spec__" 169 .none, de P "__annotations__" 170 (.ref 6), de P "__builtins__" 171 (.ref 4), de P "__file__" 173 (.str (Str.ofString "/claim/cut.py") 172), de P "__cached__" 174 .none, de P "_wall" 193 (.ref 21), de P "ChanError" 227 (.ref 39), de P "MachineFault" 253 (.ref 59), de P "FuelFault" 269 (.ref 71), de P "GoPanic" 294 (.ref 90), de P "RUNTIME_ERROR" 297 (.ref 93), de P "runtime_panic" 304 (.ref 100), de P "inner_of" 314 (.ref 107), de P "part_behind" 323 (.ref 114), de P "with_part" 337 (.ref 121), de P "led_flat" 346 (.ref 128), de P "Kept" 379 (.ref 145), de P "held_values" 385 (.ref 154), de P "Heap" 553 (.ref 283), de P "SEND_ON_CLOSED" 557 (.str (Str.ofString "send on closed channel") 556), de P "CLOSE_OF_CLOSED" 559 (.str (Str.ofString "close of closed channel") 558), de P "woken_row" 567 (.ref 294), de P "once_a_select" 578 (.ref 301), de P "Channel" 670 (.ref 372), de P "LOOSE_TAGS" 676 (.ref 377), de P "MOST_PARTS" 680 (.int 1048576 679), de P "need_few" 688 (.ref 384), de P "value_tag" 695 (.ref 391), de P "value_key" 708 (.ref 399), de P "Table" 791 (.ref 458), de P "entry_number" 798 (.ref 469), de P "TableWalk" 845 (.ref 499), de P "_law_pool" 856 (.ref 510), de P "_law_take" 865 (.ref 517), de P "_law_one" 873 (.ref 524), de P "_law_value" 879 (.ref 529), de P "_law_led" 888 (.ref 536), de P "_law_with" 898 (.ref 543), de P "_law_kind" 906 (.ref 550), de P "_law_steps" 915 (.ref 557), de P "_law_parts_right" 928 (.ref 564), de P "_law_object" 934 (.ref 569), de P "_law_objects_right" 947 (.ref 576), de P "law" 958 (.ref 583)] 48, #[]⟩) ::
  (nat_lit 29, ⟨(.type "tuple"), none, .seq #[(.int 0 208)] 0, #[]⟩) ::
  (nat_lit 35, ⟨(.type "code"), none, .fields #[(.str (Str.ofString "__init__") 209), (.str (Str.ofString "ChanError.__init__") 210), (.str (Str.ofString "/claim/cut.py") 211), (.int 7 0), (.int 3 0), (.int 0 0), (.int 0 0), (.int 3 0), (.ref 30), (.bool true), (.int 181 0), (.ref 31), .none, (.ref 32), (.ref 33), (.ref 34), (.int 215 0), (.int 7 0), (.str (Str.ofString "/claim/cut.py") 216)], #[]⟩) ::
  (nat_lit 36, ⟨(.type "function"), none, .func (fnOf (Str.ofString "__init__") (Str.ofString "ChanError.__init__") M2_0.1.1 M2_0.1.2.1 M2_0.1.2.2 (.ref 29) .none .none (.str (Str.ofString "chancore.errors") 194) none (.ref 35) .none), #[]⟩) ::
  (nat_lit 38, ⟨(.type "dict"), none, .dict #[de P "__module__" 203 (.str (Str.ofString "chancore.errors") 194), de P "__firstlineno__" 207 (.int 5 206), de P "__init__" 217 (.ref 36), de P "__static_attributes__" 220 (.ref 37), de P "__weakref__" 222 (.ref 40), de P "__doc__" 223 .none] 3, #[]⟩) ::
  (nat_lit 39, ⟨(.type "type"), none, .cls { name := (Str.ofString "ChanError"), bases := [(.type "Exception")], mro := [(.ref 39), (.type "Exception"), (.type "BaseException"), (.type "object")], ns := 38, qualname := (Str.ofString "ChanError"), hasDict := true, slotNames := [], subclasses := [(.ref 59), (.ref 71), (.ref 90)], abstract := false, collection := none, hasDel := false }, #[(some (.ref 22)), none, (some (.str (Str.ofString "ChanError") 196)), (some (.str (Str.ofString "ChanError") 204)), (some (.builtin "Exception.__new__")), (some (.bool true))]⟩) ::
  (nat_lit 55, ⟨(.type "code"), none, .fields #[(.str (Str.ofString "__init__") 240), (.str (Str.ofString "MachineFault.__init__") 241), (.str (Str.ofString "/claim/cut.py") 242), (.int 13 0), (.int 3 0), (.int 0 0), (.int 0 0), (.int 3 0), (.ref 50), (.bool true), (.int 181 0), (.ref 51), .none, (.ref 52), (.ref 53), (.ref 54), (.int 246 0), (.int 13 0), (.str (Str.ofString "/claim/cut.py") 247)], #[]⟩) ::
  (nat_lit 56, ⟨(.type "function"), none, .func (fnOf (Str.ofString "__init__") (Str.ofString "MachineFault.__init__") M3_0.1.1 M3_0.1.2.1 M3_0.1.2.2 .none .none .none (.str (Str.ofString "chancore.errors") 194) none (.ref 55) .none), #[]⟩) ::
  (nat_lit 58, ⟨(.type "dict"), none, .dict #[de P "__module__" 235 (.str (Str.ofString "chancore.errors") 194), de P "__firstlineno__" 239 (.int 11 238), de P "__init__" 248 (.ref 56), de P "__static_attributes__" 250 (.ref 57), de P "__doc__" 251 .none] 2, #[]⟩) ::
  (nat_lit 59, ⟨(.type "type"), none, .cls { name := (Str.ofString "MachineFault"), bases := [(.ref 39)], mro := [(.ref 59), (.ref 39), (.type "Exception"), (.type "BaseException"), (.type "object")], ns := 58, qualname := (Str.ofString "MachineFault"), hasDict := true, slotNames := [], subclasses := [], abstract := false, collection := none, hasDel := false }, #[(some (.ref 43)), none, (some (.str (Str.ofString "MachineFault") 228)), (some (.str (Str.ofString "MachineFault") 236)), (some (.builtin "Exception.__new__")), (some (.bool true))]⟩) ::
  (nat_lit 106, ⟨(.type "code"), none, .fields #[(.str (Str.ofString "inner_of") 307), (.str (Str.ofString "inner_of") 308), (.str (Str.ofString "/claim/cut.py") 309), (.int 27 0), (.int 2 0), (.int 0 0), (.int 0 0), (.int 3 0), (.ref 101), (.bool true), (.int 181 0), (.ref 102), .none, (.ref 103), (.ref 104), (.ref 105), (.int 312 0), (.int 27 0), (.str (Str.ofString "/claim/cut.py") 313)], #[]⟩) ::
  (nat_lit 107, ⟨(.type "function"), none, .func (fnOf (Str.ofString "inner_of") (Str.ofString "inner_of") T9.1.1 T9.1.2.1 T9.1.2.2 .none .none .none (.str (Str.ofString "chancore.heap") 305) none (.ref 106) .none), #[]⟩) ::
  (nat_lit 113, ⟨(.type "code"), none, .fields #[(.str (Str.ofString "part_behind") 315), (.str (Str.ofString "part_behind") 316), (.str (Str.ofString "/claim/cut.py") 317), (.int 31 0), (.int 2 0), (.int 0 0), (.int 0 0), (.int 3 0), (.ref 108), (.bool true), (.int 181 0), (.ref 109), .none, (.ref 110), (.ref 111), (.ref 112), (.int 321 0), (.int 31 0), (.str (Str.ofString "/claim/cut.py") 322)], #[]⟩) ::
  (nat_lit 114, ⟨(.type "function"), none, .func (fnOf (Str.ofString "part_behind") (Str.ofString "part_behind") T10.1.1 T10.1.2.1 T10.1.2.2 .none .none .none (.str (Str.ofString "chancore.heap") 305) none (.ref 113) .none), #[]⟩) ::
  (nat_lit 120, ⟨(.type "code"), none, .fields #[(.str (Str.ofString "with_part") 324), (.str (Str.ofString "with_part") 325), (.str (Str.ofString "/claim/cut.py") 326), (.int 35 0), (.int 3 0), (.int 0 0), (.int 0 0), (.int 3 0), (.ref 115), (.bool true), (.int 181 0), (.ref 116), .none, (.ref 117), (.ref 118), (.ref 119), (.int 335 0), (.int 35 0), (.str (Str.ofString "/claim/cut.py") 336)], #[]⟩) ::
  (nat_lit 121, ⟨(.type "function"), none, .func (fnOf (Str.ofString "with_part") (Str.ofString "with_part") T11.1.1 T11.1.2.1 T11.1.2.2 .none .none .none (.str (Str.ofString "chancore.heap") 305) none (.ref 120) .none), #[]⟩) ::
  (nat_lit 127, ⟨(.type "code"), none, .fields #[(.str (Str.ofString "led_flat") 338), (.str (Str.ofString "led_flat") 339), (.str (Str.ofString "/claim/cut.py") 340), (.int 45 0), (.int 1 0), (.int 0 0), (.int 0 0), (.int 3 0), (.ref 122), (.bool true), (.int 181 0), (.ref 123), .none, (.ref 124), (.ref 125), (.ref 126), (.int 344 0), (.int 45 0), (.str (Str.ofString "/claim/cut.py") 345)], #[]⟩) ::
  (nat_lit 128, ⟨(.type "function"), none, .func (fnOf (Str.ofString "led_flat") (Str.ofString "led_flat") T12.1.1 T12.1.2.1 T12.1.2.2 .none .none .none (.str (Str.ofString "chancore.heap") 305) none (.ref 127) .none), #[]⟩) ::
  (nat_lit 141, ⟨(.type "code"), none, .fields #[(.str (Str.ofString "__init__") 359), (.str (Str.ofString "Kept.__init__") 360), (.str (Str.ofString "/claim/cut.py") 361), (.int 50 0), (.int 4 0), (.int 0 0), (.int 0 0), (.int 3 0), (.ref 136), (.bool true), (.int 181 0), (.ref 137), .none, (.ref 138), (.ref 139), (.ref 140), (.int 366 0), (.int 50 0), (.str (Str.ofString "/claim/cut.py") 367)], #[]⟩) ::
  (nat_lit 142, ⟨(.type "function"), none, .func (fnOf (Str.ofString "__init__") (Str.ofString "Kept.__init__") M13_0.1.1 M13_0.1.2.1 M13_0.1.2.2 .none .none .none (.str (Str.ofString "chancore.heap") 305) none (.ref 141) .none), #[]⟩) ::
  (nat_lit 144, ⟨(.type "dict"), none, .dict #[de P "__module__" 354 (.str (Str.ofString "chancore.heap") 305), de P "__firstlineno__" 358 (.int 48 357), de P "__init__" 368 (.ref 142), de P "__static_attributes__" 372 (.ref 143), de P "__dict__" 374 (.ref 146), de P "__weakref__" 376 (.ref 147), de P "__doc__" 377 .none] 4, #[]⟩) ::
  (nat_lit 145, ⟨(.type "type"), none, .cls { name := (Str.ofString "Kept"), bases := [(.type "object")], mro := [(.ref 145), (.type "object")], ns := 144, qualname := (Str.ofString "Kept"), hasDict := true, slotNames := [], subclasses := [], abstract := false, collection := none, hasDel := false }, #[none, none, (some (.str (Str.ofString "Kept") 347)), (some (.str (Str.ofString "Kept") 355)), (some (.builtin "object.__new__")), (some (.bool true))]⟩) ::
  (nat_lit 153, ⟨(.type "code"), none, .fields #[(.str (Str.ofString "held_values") 380), (.str (Str.ofString "held_values") 381), (.str (Str.ofString "/claim/cut.py") 382), (.int 54 0), (.int 2 0), (.int 0 0), (.int 0 0), (.int 3 0), (.ref 150), (.bool true), (.int 181 0), (.ref 151), .none, .none, .none, (.ref 152), (.int 383 0), (.int 54 0), (.str (Str.ofString "/claim/cut.py") 384)], #[]⟩) ::
  (nat_lit 154, ⟨(.type "function"), none, .func (fnOf (Str.ofString "held_values") (Str.ofString "held_values") T14.1.1 T14.1.2.1 T14.1.2.2 .none .none .none (.str (Str.ofString "chancore.heap") 305) none (.ref 153) .none), #[]⟩) ::
  (nat_lit 162, ⟨(.type "tuple"), none, .seq #[.none] 0, #[]⟩) ::
  (nat_lit 168, ⟨(.type "code"), none, .fields #[(.str (Str.ofString "__init__") 398), (.str (Str.ofString "Heap.__init__") 399), (.str (Str.ofString "/claim/cut.py") 400), (.int 65 0), (.int 2 0), (.int 0 0), (.int 0 0), (.int 3 0), (.ref 163), (.bool true), (.int 181 0), (.ref 164), .none, (.ref 165), (.ref 166), (.ref 167), (.int 403 0), (.int 65 0), (.str (Str.ofString "/claim/cut.py") 404)], #[]⟩) ::
  (nat_lit 169, ⟨(.type "function"), none, .func (fnOf (Str.ofString "__init__") (Str.ofString "Heap.__init__") M15_0.1.1 M15_0.1.2.1 M15_0.1.2.2 (.ref 162) .none .none (.str (Str.ofString "chancore.heap") 305) none (.ref 168) .none), #[]⟩) ::
  (nat_lit 170, ⟨(.type "tuple"), none, .seq #[(.str (Str.ofString "heap") 406)] 0, #[]⟩) ::
  (nat_lit 176, ⟨(.type "code"), none, .fields #[(.str (Str.ofString "make") 407), (.str (Str.ofString "Heap.make") 408), (.str (Str.ofString "/claim/cut.py") 409), (.int 72 0), (.int 4 0), (.int 0 0), (.int 0 0), (.int 3 0), (.ref 171), (.bool true), (.int 181 0), (.ref 172), .none, (.ref 173), (.ref 174), (.ref 175), (.int 414 0), (.int 72 0), (.str (Str.ofString "/claim/cut.py") 415)], #[]⟩) ::
  (nat_lit 177, ⟨(.type "function"), none, .func (fnOf (Str.ofString "make") (Str.ofString "Heap.make") M15_1.1.1 M15_1.1.2.1 M15_1.1.2.2 (.ref 170) .none .none (.str (Str.ofString "chancore.heap") 305) none (.ref 176) .none), #[]⟩) ::
  (nat_lit 190, ⟨(.type "code"), none, .fields #[(.str (Str.ofString "kept_at") 426), (.str (Str.ofString "Heap.kept_at") 427), (.str (Str.ofString "/claim/cut.py") 428), (.int 82 0), (.int 2 0), (.int 0 0), (.int 0 0), (.int 3 0), (.ref 185), (.bool true), (.int 181 0), (.ref 186), .none, (.ref 187), (.ref 188), (.ref 189), (.int 431 0), (.int 82 0), (.str (Str.ofString "/claim/cut.py") 432)], #[]⟩) ::
  (nat_lit 191, ⟨(.type "function"), none, .func (fnOf (Str.ofString "kept_at") (Str.ofString "Heap.kept_at") M15_3.1.1 M15_3.1.2.1 M15_3.1.2.2 .none .none .none (.str (Str.ofString "chancore.heap") 305) none (.ref 190) .none), #[]⟩) ::
  (nat_lit 197, ⟨(.type "code"), none, .fields #[(.str (Str.ofString "kind") 434), (.str (Str.ofString "Heap.kind") 435), (.str (Str.ofString "/claim/cut.py") 436), (.int 87 0), (.int 2 0), (.int 0 0), (.int 0 0), (.int 3 0), (.ref 192), (.bool true), (.int 181 0), (.ref 193), .none, (.ref 194), (.ref 195), (.ref 196), (.int 439 0), (.int 87 0), (.str (Str.ofString "/claim/cut.py") 440)], #[]⟩) ::
  (nat_lit 198, ⟨(.type "function"), none, .func (fnOf (Str.ofString "kind") (Str.ofString "Heap.kind") M15_4.1.1 M15_4.1.2.1 M15_4.1.2.2 .none .none .none (.str (Str.ofString "chancore.heap") 305) none (.ref 197) .none), #[]⟩) ::
  (nat_lit 204, ⟨(.type "code"), none, .fields #[(.str (Str.ofString "content") 442), (.str (Str.ofString "Heap.content") 443), (.str (Str.ofString "/claim/cut.py") 444), (.int 90 0), (.int 2 0), (.int 0 0), (.int 0 0), (.int 3 0), (.ref 199), (.bool true), (.int 181 0), (.ref 200), .none, (.ref 201), (.ref 202), (.ref 203), (.int 447 0), (.int 90 0), (.str (Str.ofString "/claim/cut.py") 448)], #[]⟩) ::
  (nat_lit 205, ⟨(.type "function"), none, .func (fnOf (Str.ofString "content") (Str.ofString "Heap.content") M15_5.1.1 M15_5.1.2.1 M15_5.1.2.2 .none .none .none (.str (Str.ofString "chancore.heap") 305) none (.ref 204) .none), #[]⟩) ::
  (nat_lit 216, ⟨(.type "code"), none, .fields #[(.str (Str.ofString "values_in") 456), (.str (Str.ofString "Heap.values_in") 457), (.str (Str.ofString "/claim/cut.py") 458), (.int 97 0), (.int 2 0), (.int 0 0), (.int 0 0), (.int 3 0), (.ref 211), (.bool true), (.int 181 0), (.ref 212), .none, (.ref 213), (.ref 214), (.ref 215), (.int 462 0), (.int 97 0), (.str (Str.ofString "/claim/cut.py") 463)], #[]⟩) ::
  (nat_lit 217, ⟨(.type "function"), none, .func (fnOf (Str.ofString "values_in") (Str.ofString "Heap.values_in") M15_7.1.1 M15_7.1.2.1 M15_7.1.2.2 .none .none .none (.str (Str.ofString "chancore.heap") 305) none (.ref 216) .none), #[]⟩) ::
  (nat_lit 223, ⟨(.type "code"), none, .fields #[(.str (Str.ofString "free") 465), (.str (Str.ofString "Heap.free") 466), (.str (Str.ofString "/claim/cut.py") 467), (.int 101 0), (.int 2 0), (.int 0 0), (.int 0 0), (.int 3 0), (.ref 218), (.bool true), (.int 181 0), (.ref 219), .none, (.ref 220), (.ref 221), (.ref 222), (.int 471 0), (.int 101 0), (.str (Str.ofString "/claim/cut.py") 472)], #[]⟩) ::
  (nat_lit 224, ⟨(.type "function"), none, .func (fnOf (Str.ofString "free") (Str.ofString "Heap.free") M15_8.1.1 M15_8.1.2.1 M15_8.1.2.2 .none .none .none (.str (Str.ofString "chancore.heap") 305) none (.ref 223) .none), #[]⟩) ::
  (nat_lit 282, ⟨(.type "dict"), none, .dict #[de P "__module__" 393 (.str (Str.ofString "chancore.heap") 305), de P "__firstlineno__" 397 (.int 63 396), de P "__init__" 405 (.ref 169), de P "make" 416 (.ref 177), de P "make_named" 425 (.ref 184), de P "kept_at" 433 (.ref 191), de P "kind" 441 (.ref 198), de P "content" 449 (.ref 205), de P "numbers" 455 (.ref 210), de P "values_in" 464 (.ref 217), de P "free" 473 (.ref 224), de P "drop" 481 (.ref 231), de P "looked" 489 (.ref 238), de P "touched" 497 (.ref 245), de P "overwritten" 506 (.ref 252), de P "cell" 515 (.ref 259), de P "peek" 523 (.ref 266), de P "load" 531 (.ref 273), de P "store" 540 (.ref 280), de P "__static_attributes__" 546 (.ref 281), de P "__dict__" 548 (.ref 284), de P "__weakref__" 550 (.ref 285), de P "__doc__" 551 .none] 4, #[]⟩) ::
  (nat_lit 283, ⟨(.type "type"), none, .cls { name := (Str.ofString "Heap"), bases := [(.type "object")], mro := [(.ref 283), (.type "object")], ns := 282, qualname := (Str.ofString "Heap"), hasDict := true, slotNames := [], subclasses := [], abstract := false, collection := none, hasDel := false }, #[none, none, (some (.str (Str.ofString "Heap") 386)), (some (.str (Str.ofString "Heap") 394)), (some (.builtin "object.__new__")), (some (.bool true))]⟩) ::
  (nat_lit 314, ⟨(.type "code"), none, .fields #[(.str (Str.ofString "__init__") 591), (.str (Str.ofString "Channel.__init__") 592), (.str (Str.ofString "/claim/cut.py") 593), (.int 148 0), (.int 2 0), (.int 0 0), (.int 0 0), (.int 3 0), (.ref 309), (.bool true), (.int 181 0), (.ref 310), .none, (.ref 311), (.ref 312), (.ref 313), (.int 596 0), (.int 148 0), (.str (Str.ofString "/claim/cut.py") 597)], #[]⟩) ::
  (nat_lit 315, ⟨(.type "function"), none, .func (fnOf (Str.ofString "__init__") (Str.ofString "Channel.__init__") M21_0.1.1 M21_0.1.2.1 M21_0.1.2.2 .none .none .none (.str (Str.ofString "chancore.channels") 554) none (.ref 314) .none), #[]⟩) ::
  (nat_lit 335, ⟨(.type "code"), none, .fields #[(.str (Str.ofString "offer") 613), (.str (Str.ofString "Channel.offer") 614), (.str (Str.ofString "/claim/cut.py") 615), (.int 161 0), (.int 2 0), (.int 0 0), (.int 0 0), (.int 3 0), (.ref 330), (.bool true), (.int 181 0), (.ref 331), .none, (.ref 332), (.ref 333), (.ref 334), (.int 619 0), (.int 161 0), (.str (Str.ofString "/claim/cut.py") 620)], #[]⟩) ::
  (nat_lit 336, ⟨(.type "function"), none, .func (fnOf (Str.ofString "offer") (Str.ofString "Channel.offer") M21_3.1.1 M21_3.1.2.1 M21_3.1.2.2 .none .none .none (.str (Str.ofString "chancore.channels") 554) none (.ref 335) .none), #[]⟩) ::
  (nat_lit 371, ⟨(.type "dict"), none, .dict #[de P "__module__" 586 (.str (Str.ofString "chancore.channels") 554), de P "__firstlineno__" 590 (.int 146 589), de P "__init__" 598 (.ref 315), de P "can_send" 605 (.ref 322), de P "can_receive" 612 (.ref 329), de P "offer" 621 (.ref 336), de P "take" 629 (.ref 343), de P "filled" 636 (.ref 350), de P "close" 642 (.ref 355), de P "forget" 650 (.ref 362), de P "size" 657 (.ref 369), de P "__static_attributes__" 663 (.ref 370), de P "__dict__" 665 (.ref 373), de P "__weakref__" 667 (.ref 374), de P "__doc__" 668 .none] 4, #[]⟩) ::
  (nat_lit 372, ⟨(.type "type"), none, .cls { name := (Str.ofString "Channel"), bases := [(.type "object")], mro := [(.ref 372), (.type "object")], ns := 371, qualname := (Str.ofString "Channel"), hasDict := true, slotNames := [], subclasses := [], abstract := false, collection := none, hasDel := false }, #[none, none, (some (.str (Str.ofString "Channel") 579)), (some (.str (Str.ofString "Channel") 587)), (some (.builtin "object.__new__")), (some (.bool true))]⟩) ::
  (nat_lit 377, ⟨(.type "tuple"), none, .seq #[(.str (Str.ofString "slice") 673), (.str (Str.ofString "map") 674), (.str (Str.ofString "func") 675)] 0, #[]⟩) ::
  (nat_lit 383, ⟨(.type "code"), none, .fields #[(.str (Str.ofString "need_few") 681), (.str (Str.ofString "need_few") 682), (.str (Str.ofString "/claim/cut.py") 683), (.int 196 0), (.int 2 0), (.int 0 0), (.int 0 0), (.int 3 0), (.ref 378), (.bool true), (.int 181 0), (.ref 379), .none, (.ref 380), (.ref 381), (.ref 382), (.int 686 0), (.int 196 0), (.str (Str.ofString "/claim/cut.py") 687)], #[]⟩) ::
  (nat_lit 384, ⟨(.type "function"), none, .func (fnOf (Str.ofString "need_few") (Str.ofString "need_few") T25.1.1 T25.1.2.1 T25.1.2.2 .none .none .none (.str (Str.ofString "chancore.values") 671) none (.ref 383) .none), #[]⟩) ::
  (nat_lit 390, ⟨(.type "code"), none, .fields #[(.str (Str.ofString "value_tag") 689), (.str (Str.ofString "value_tag") 690), (.str (Str.ofString "/claim/cut.py") 691), (.int 199 0), (.int 1 0), (.int 0 0), (.int 0 0), (.int 3 0), (.ref 385), (.bool true), (.int 181 0), (.ref 386), .none, (.ref 387), (.ref 388), (.ref 389), (.int 693 0), (.int 199 0), (.str (Str.ofString "/claim/cut.py") 694)], #[]⟩) ::
  (nat_lit 391, ⟨(.type "function"), none, .func (fnOf (Str.ofString "value_tag") (Str.ofString "value_tag") T26.1.1 T26.1.2.1 T26.1.2.2 .none .none .none (.str (Str.ofString "chancore.values") 671) none (.ref 390) .none), #[]⟩) ::
  (nat_lit 392, ⟨(.type "tuple"), none, .seq #[.none] 0, #[]⟩) ::
  (nat_lit 398, ⟨(.type "code"), none, .fields #[(.str (Str.ofString "value_key") 696), (.str (Str.ofString "value_key") 697), (.str (Str.ofString "/claim/cut.py") 698), (.int 207 0), (.int 3 0), (.int 0 0), (.int 0 0), (.int 3 0), (.ref 393), (.bool true), (.int 181 0), (.ref 394), .none, (.ref 395), (.ref 396), (.ref 397), (.int 706 0), (.int 207 0), (.str (Str.ofString "/claim/cut.py") 707)], #[]⟩) ::
  (nat_lit 399, ⟨(.type "function"), none, .func (fnOf (Str.ofString "value_key") (Str.ofString "value_key") T27.1.1 T27.1.2.1 T27.1.2.2 (.ref 392) .none .none (.str (Str.ofString "chancore.values") 671) none (.ref 398) .none), #[]⟩) ::
  (nat_lit 412, ⟨(.type "code"), none, .fields #[(.str (Str.ofString "__init__") 723), (.str (Str.ofString "Table.__init__") 724), (.str (Str.ofString "/claim/cut.py") 725), (.int 227 0), (.int 2 0), (.int 0 0), (.int 0 0), (.int 3 0), (.ref 407), (.bool true), (.int 181 0), (.ref 408), .none, (.ref 409), (.ref 410), (.ref 411), (.int 728 0), (.int 227 0), (.str (Str.ofString "/claim/cut.py") 729)], #[]⟩) ::
  (nat_lit 413, ⟨(.type "function"), none, .func (fnOf (Str.ofString "__init__") (Str.ofString "Table.__init__") M29_0.1.1 M29_0.1.2.1 M29_0.1.2.2 .none .none .none (.str (Str.ofString "chancore.maps") 709) none (.ref 412) .none), #[]⟩) ::
  (nat_lit 419, ⟨(.type "code"), none, .fields #[(.str (Str.ofString "mark_of") 731), (.str (Str.ofString "Table.mark_of") 732), (.str (Str.ofString "/claim/cut.py") 733), (.int 232 0), (.int 2 0), (.int 0 0), (.int 0 0), (.int 3 0), (.ref 414), (.bool true), (.int 181 0), (.ref 415), .none, (.ref 416), (.ref 417), (.ref 418), (.int 736 0), (.int 232 0), (.str (Str.ofString "/claim/cut.py") 737)], #[]⟩) ::
  (nat_lit 420, ⟨(.type "function"), none, .func (fnOf (Str.ofString "mark_of") (Str.ofString "Table.mark_of") M29_1.1.1 M29_1.1.2.1 M29_1.1.2.2 .none .none .none (.str (Str.ofString "chancore.maps") 709) none (.ref 419) .none), #[]⟩) ::
  (nat_lit 440, ⟨(.type "code"), none, .fields #[(.str (Str.ofString "put") 755), (.str (Str.ofString "Table.put") 756), (.str (Str.ofString "/claim/cut.py") 757), (.int 242 0), (.int 3 0), (.int 0 0), (.int 0 0), (.int 3 0), (.ref 435), (.bool true), (.int 181 0), (.ref 436), .none, (.ref 437), (.ref 438), (.ref 439), (.int 763 0), (.int 242 0), (.str (Str.ofString "/claim/cut.py") 764)], #[]⟩) ::
  (nat_lit 441, ⟨(.type "function"), none, .func (fnOf (Str.ofString "put") (Str.ofString "Table.put") M29_4.1.1 M29_4.1.2.1 M29_4.1.2.2 .none .none .none (.str (Str.ofString "chancore.maps") 709) none (.ref 440) .none), #[]⟩) ::
  (nat_lit 454, ⟨(.type "code"), none, .fields #[(.str (Str.ofString "rows") 774), (.str (Str.ofString "Table.rows") 775), (.str (Str.ofString "/claim/cut.py") 776), (.int 254 0), (.int 1 0), (.int 0 0), (.int 0 0), (.int 3 0), (.ref 449), (.bool true), (.int 181 0), (.ref 450), .none, (.ref 451), (.ref 452), (.ref 453), (.int 778 0), (.int 254 0), (.str (Str.ofString "/claim/cut.py") 779)], #[]⟩) ::
  (nat_lit 455, ⟨(.type "function"), none, .func (fnOf (Str.ofString "rows") (Str.ofString "Table.rows") M29_6.1.1 M29_6.1.2.1 M29_6.1.2.2 .none .none .none (.str (Str.ofString "chancore.maps") 709) none (.ref 454) .none), #[]⟩) ::
  (nat_lit 457, ⟨(.type "dict"), none, .dict #[de P "__module__" 718 (.str (Str.ofString "chancore.maps") 709), de P "__firstlineno__" 722 (.int 225 721), de P "__init__" 730 (.ref 413), de P "mark_of" 738 (.ref 420), de P "size" 745 (.ref 427), de P "get" 754 (.ref 434), de P "put" 765 (.ref 441), de P "remove" 773 (.ref 448), de P "rows" 780 (.ref 455), de P "__static_attributes__" 784 (.ref 456), de P "__dict__" 786 (.ref 459), de P "__weakref__" 788 (.ref 460), de P "__doc__" 789 .none] 4, #[]⟩) ::
  (nat_lit 458, ⟨(.type "type"), none, .cls { name := (Str.ofString "Table"), bases := [(.type "object")], mro := [(.ref 458), (.type "object")], ns := 457, qualname := (Str.ofString "Table"), hasDict := true, slotNames := [], subclasses := [], abstract := false, collection := none, hasDel := false }, #[none, none, (some (.str (Str.ofString "Table") 711)), (some (.str (Str.ofString "Table") 719)), (some (.builtin "object.__new__")), (some (.bool true))]⟩) ::
  (nat_lit 468, ⟨(.type "code"), none, .fields #[(.str (Str.ofString "entry_number") 792), (.str (Str.ofString "entry_number") 793), (.str (Str.ofString "/claim/cut.py") 794), (.int 256 0), (.int 1 0), (.int 0 0), (.int 0 0), (.int 3 0), (.ref 463), (.bool true), (.int 181 0), (.ref 464), .none, (.ref 465), (.ref 466), (.ref 467), (.int 796 0), (.int 256 0), (.str (Str.ofString "/claim/cut.py") 797)], #[]⟩) ::
  (nat_lit 469, ⟨(.type "function"), none, .func (fnOf (Str.ofString "entry_number") (Str.ofString "entry_number") T30.1.1 T30.1.2.1 T30.1.2.2 .none .none .none (.str (Str.ofString "chancore.maps") 709) none (.ref 468) .none), #[]⟩) ::
  (nat_lit 477, ⟨(.type "tuple"), none, .seq #[.none] 0, #[]⟩) ::
  (nat_lit 483, ⟨(.type "code"), none, .fields #[(.str (Str.ofString "__init__") 811), (.str (Str.ofString "TableWalk.__init__") 812), (.str (Str.ofString "/claim/cut.py") 813), (.int 260 0), (.int 3 0), (.int 0 0), (.int 0 0), (.int 3 0), (.ref 478), (.bool true), (.int 181 0), (.ref 479), .none, (.ref 480), (.ref 481), (.ref 482), (.int 817 0), (.int 260 0), (.str (Str.ofString "/claim/cut.py") 818)], #[]⟩) ::
  (nat_lit 484, ⟨(.type "function"), none, .func (fnOf (Str.ofString "__init__") (Str.ofString "TableWalk.__init__") M31_0.1.1 M31_0.1.2.1 M31_0.1.2.2 (.ref 477) .none .none (.str (Str.ofString "chancore.maps") 709) none (.ref 483) .none), #[]⟩) ::
  (nat_lit 488, ⟨(.type "code"), none, .fields #[(.str (Str.ofString "left_rows") 820), (.str (Str.ofString "TableWalk.left_rows") 821), (.str (Str.ofString "/claim/cut.py") 822), (.int 266 0), (.int 1 0), (.int 0 0), (.int 0 0), (.int 3 0), (.ref 485), (.bool true), (.int 181 0), (.ref 486), .none, .none, .none, (.ref 487), (.int 823 0), (.int 266 0), (.str (Str.ofString "/claim/cut.py") 824)], #[]⟩) ::
  (nat_lit 489, ⟨(.type "function"), none, .func (fnOf (Str.ofString "left_rows") (Str.ofString "TableWalk.left_rows") M31_1.1.1 M31_1.1.2.1 M31_1.1.2.2 .none .none .none (.str (Str.ofString "chancore.maps") 709) none (.ref 488) .none), #[]⟩) ::
  (nat_lit 498, ⟨(.type "dict"), none, .dict #[de P "__module__" 806 (.str (Str.ofString "chancore.maps") 709), de P "__firstlineno__" 810 (.int 258 809), de P "__init__" 819 (.ref 484), de P "left_rows" 825 (.ref 489), de P "next_row" 833 (.ref 496), de P "__static_attributes__" 838 (.ref 497), de P "__dict__" 840 (.ref 500), de P "__weakref__" 842 (.ref 501), de P "__doc__" 843 .none] 4, #[]⟩) ::
  (nat_lit 499, ⟨(.type "type"), none, .cls { name := (Str.ofString "TableWalk"), bases := [(.type "object")], mro := [(.ref 499), (.type "object")], ns := 498, qualname := (Str.ofString "TableWalk"), hasDict := true, slotNames := [], subclasses := [], abstract := false, collection := none, hasDel := false }, #[none, none, (some (.str (Str.ofString "TableWalk") 799)), (some (.str (Str.ofString "TableWalk") 807)), (some (.builtin "object.__new__")), (some (.bool true))]⟩) ::
  (nat_lit 509, ⟨(.type "code"), none, .fields #[(.str (Str.ofString "_law_pool") 848), (.str (Str.ofString "_law_pool") 849), (.str (Str.ofString "/claim/cut.py") 850), (.int 274 0), (.int 1 0), (.int 0 0), (.int 0 0), (.int 3 0), (.ref 504), (.bool true), (.int 181 0), (.ref 505), .none, (.ref 506), (.ref 507), (.ref 508), (.int 854 0), (.int 274 0), (.str (Str.ofString "/claim/cut.py") 855)], #[]⟩) ::
  (nat_lit 510, ⟨(.type "function"), none, .func (fnOf (Str.ofString "_law_pool") (Str.ofString "_law_pool") T33.1.1 T33.1.2.1 T33.1.2.2 .none .none .none (.str (Str.ofString "law_xm0176_01") 846) none (.ref 509) .none), #[]⟩) ::
  (nat_lit 516, ⟨(.type "code"), none, .fields #[(.str (Str.ofString "_law_take") 857), (.str (Str.ofString "_law_take") 858), (.str (Str.ofString "/claim/cut.py") 859), (.int 278 0), (.int 2 0), (.int 0 0), (.int 0 0), (.int 3 0), (.ref 511), (.bool true), (.int 181 0), (.ref 512), .none, (.ref 513), (.ref 514), (.ref 515), (.int 863 0), (.int 278 0), (.str (Str.ofString "/claim/cut.py") 864)], #[]⟩) ::
  (nat_lit 517, ⟨(.type "function"), none, .func (fnOf (Str.ofString "_law_take") (Str.ofString "_law_take") T34.1.1 T34.1.2.1 T34.1.2.2 .none .none .none (.str (Str.ofString "law_xm0176_01") 846) none (.ref 516) .none), #[]⟩) ::
  (nat_lit 523, ⟨(.type "code"), none, .fields #[(.str (Str.ofString "_law_one") 866), (.str (Str.ofString "_law_one") 867), (.str (Str.ofString "/claim/cut.py") 868), (.int 285 0), (.int 2 0), (.int 0 0), (.int 0 0), (.int 3 0), (.ref 518), (.bool true), (.int 181 0), (.ref 519), .none, (.ref 520), (.ref 521), (.ref 522), (.int 871 0), (.int 285 0), (.str (Str.ofString "/claim/cut.py") 872)], #[]⟩) ::
  (nat_lit 524, ⟨(.type "function"), none, .func (fnOf (Str.ofString "_law_one") (Str.ofString "_law_one") T35.1.1 T35.1.2.1 T35.1.2.2 .none .none .none (.str (Str.ofString "law_xm0176_01") 846) none (.ref 523) .none), #[]⟩) ::
  (nat_lit 528, ⟨(.type "code"), none, .fields #[(.str (Str.ofString "_law_value") 874), (.str (Str.ofString "_law_value") 875), (.str (Str.ofString "/claim/cut.py") 876), (.int 287 0), (.int 2 0), (.int 0 0), (.int 0 0), (.int 3 0), (.ref 525), (.bool true), (.int 181 0), (.ref 526), .none, .none, .none, (.ref 527), (.int 877 0), (.int 287 0), (.str (Str.ofString "/claim/cut.py") 878)], #[]⟩) ::
  (nat_lit 529, ⟨(.type "function"), none, .func (fnOf (Str.ofString "_law_value") (Str.ofString "_law_value") T36.1.1 T36.1.2.1 T36.1.2.2 .none .none .none (.str (Str.ofString "law_xm0176_01") 846) none (.ref 528) .none), #[]⟩) ::
  (nat_lit 535, ⟨(.type "code"), none, .fields #[(.str (Str.ofString "_law_led") 880), (.str (Str.ofString "_law_led") 881), (.str (Str.ofString "/claim/cut.py") 882), (.int 293 0), (.int 2 0), (.int 0 0), (.int 0 0), (.int 3 0), (.ref 530), (.bool true), (.int 181 0), (.ref 531), .none, (.ref 532), (.ref 533), (.ref 534), (.int 886 0), (.int 293 0), (.str (Str.ofString "/claim/cut.py") 887)], #[]⟩) ::
  (nat_lit 536, ⟨(.type "function"), none, .func (fnOf (Str.ofString "_law_led") (Str.ofString "_law_led") T37.1.1 T37.1.2.1 T37.1.2.2 .none .none .none (.str (Str.ofString "law_xm0176_01") 846) none (.ref 535) .none), #[]⟩) ::
  (nat_lit 542, ⟨(.type "code"), none, .fields #[(.str (Str.ofString "_law_with") 889), (.str (Str.ofString "_law_with") 890), (.str (Str.ofString "/claim/cut.py") 891), (.int 299 0), (.int 3 0), (.int 0 0), (.int 0 0), (.int 3 0), (.ref 537), (.bool true), (.int 181 0), (.ref 538), .none, (.ref 539), (.ref 540), (.ref 541), (.int 896 0), (.int 299 0), (.str (Str.ofString "/claim/cut.py") 897)], #[]⟩) ::
  (nat_lit 543, ⟨(.type "function"), none, .func (fnOf (Str.ofString "_law_with") (Str.ofString "_law_with") T38.1.1 T38.1.2.1 T38.1.2.2 .none .none .none (.str (Str.ofString "law_xm0176_01") 846) none (.ref 542) .none), #[]⟩) ::
  (nat_lit 549, ⟨(.type "code"), none, .fields #[(.str (Str.ofString "_law_kind") 899), (.str (Str.ofString "_law_kind") 900), (.str (Str.ofString "/claim/cut.py") 901), (.int 305 0), (.int 1 0), (.int 0 0), (.int 0 0), (.int 3 0), (.ref 544), (.bool true), (.int 181 0), (.ref 545), .none, (.ref 546), (.ref 547), (.ref 548), (.int 904 0), (.int 305 0), (.str (Str.ofString "/claim/cut.py") 905)], #[]⟩) ::
  (nat_lit 550, ⟨(.type "function"), none, .func (fnOf (Str.ofString "_law_kind") (Str.ofString "_law_kind") T39.1.1 T39.1.2.1 T39.1.2.2 .none .none .none (.str (Str.ofString "law_xm0176_01") 846) none (.ref 549) .none), #[]⟩) ::
  (nat_lit 556, ⟨(.type "code"), none, .fields #[(.str (Str.ofString "_law_steps") 907), (.str (Str.ofString "_law_steps") 908), (.str (Str.ofString "/claim/cut.py") 909), (.int 310 0), (.int 2 0), (.int 0 0), (.int 0 0), (.int 3 0), (.ref 551), (.bool true), (.int 181 0), (.ref 552), .none, (.ref 553), (.ref 554), (.ref 555), (.int 913 0), (.int 310 0), (.str (Str.ofString "/claim/cut.py") 914)], #[]⟩) ::
  (nat_lit 557, ⟨(.type "function"), none, .func (fnOf (Str.ofString "_law_steps") (Str.ofString "_law_steps") T40.1.1 T40.1.2.1 T40.1.2.2 .none .none .none (.str (Str.ofString "law_xm0176_01") 846) none (.ref 556) .none), #[]⟩) ::
  (nat_lit 563, ⟨(.type "code"), none, .fields #[(.str (Str.ofString "_law_parts_right") 916), (.str (Str.ofString "_law_parts_right") 917), (.str (Str.ofString "/claim/cut.py") 918), (.int 316 0), (.int 1 0), (.int 0 0), (.int 0 0), (.int 3 0), (.ref 558), (.bool true), (.int 181 0), (.ref 559), .none, (.ref 560), (.ref 561), (.ref 562), (.int 926 0), (.int 316 0), (.str (Str.ofString "/claim/cut.py") 927)], #[]⟩) ::
  (nat_lit 564, ⟨(.type "function"), none, .func (fnOf (Str.ofString "_law_parts_right") (Str.ofString "_law_parts_right") T41.1.1 T41.1.2.1 T41.1.2.2 .none .none .none (.str (Str.ofString "law_xm0176_01") 846) none (.ref 563) .none), #[]⟩) ::
  (nat_lit 568, ⟨(.type "code"), none, .fields #[(.str (Str.ofString "_law_object") 929), (.str (Str.ofString "_law_object") 930), (.str (Str.ofString "/claim/cut.py") 931), (.int 327 0), (.int 1 0), (.int 0 0), (.int 0 0), (.int 3 0), (.ref 565), (.bool true), (.int 181 0), (.ref 566), .none, .none, .none, (.ref 567), (.int 932 0), (.int 327 0), (.str (Str.ofString "/claim/cut.py") 933)], #[]⟩) ::
  (nat_lit 569, ⟨(.type "function"), none, .func (fnOf (Str.ofString "_law_object") (Str.ofString "_law_object") T42.1.1 T42.1.2.1 T42.1.2.2 .none .none .none (.str (Str.ofString "law_xm0176_01") 846) none (.ref 568) .none), #[]⟩) ::
  (nat_lit 575, ⟨(.type "code"), none, .fields #[(.str (Str.ofString "_law_objects_right") 935), (.str (Str.ofString "_law_objects_right") 936), (.str (Str.ofString "/claim/cut.py") 937), (.int 352 0), (.int 1 0), (.int 0 0), (.int 0 0), (.int 3 0), (.ref 570), (.bool true), (.int 181 0), (.ref 571), .none, (.ref 572), (.ref 573), (.ref 574), (.int 945 0), (.int 352 0), (.str (Str.ofString "/claim/cut.py") 946)], #[]⟩) ::
  (nat_lit 576, ⟨(.type "function"), none, .func (fnOf (Str.ofString "_law_objects_right") (Str.ofString "_law_objects_right") T43.1.1 T43.1.2.1 T43.1.2.2 .none .none .none (.str (Str.ofString "law_xm0176_01") 846) none (.ref 575) .none), #[]⟩) ::
  (nat_lit 582, ⟨(.type "code"), none, .fields #[(.str (Str.ofString "law") 948), (.str (Str.ofString "law") 949), (.str (Str.ofString "/claim/cut.py") 950), (.int 365 0), (.int 1 0), (.int 0 0), (.int 0 0), (.int 3 0), (.ref 577), (.bool true), (.int 181 0), (.ref 578), .none, (.ref 579), (.ref 580), (.ref 581), (.int 956 0), (.int 365 0), (.str (Str.ofString "/claim/cut.py") 957)], #[]⟩) ::
  (nat_lit 583, ⟨(.type "function"), none, .func (fnOf (Str.ofString "law") (Str.ofString "law") T44.1.1 T44.1.2.1 T44.1.2.2 .none .none .none (.str (Str.ofString "law_xm0176_01") 846) none (.ref 582) .none), #[]⟩) :: []
noncomputable def Xt (s : Shared) : Bool := xlAt qv [] s && recOk rl.row.toRowW.records s
noncomputable def obsK (as ts : List Addr) (s : Shared) : List (Option Obj) × List (Option Obj) := (as.map s.heap.get?, ts.map s.heap.get?)
noncomputable def valK (K : Params → Frag) (ts : List Addr) (w : World) : List (Option Obj) × List (Option Obj) := ((K w.params).map fun p => some p.2, ts.map fun _ => some (tabObj #[]))
noncomputable def tabsK : List Addr := [566, 571, 559]
noncomputable def addrsK : List Addr := 2 :: 3 :: 29 :: 35 :: 36 :: 38 :: 39 :: 55 :: 56 :: 58 :: 59 :: 106 :: 107 :: 113 :: 114 :: 120 :: 121 :: 127 :: 128 :: 141 :: 142 :: 144 :: 145 :: 153 :: 154 :: 162 :: 168 :: 169 :: 170 :: 176 :: 177 :: 190 :: 191 :: 197 :: 198 :: 204 :: 205 :: 216 :: 217 :: 223 :: 224 :: 282 :: 283 :: 314 :: 315 :: 335 :: 336 :: 371 :: 372 :: 377 :: 383 :: 384 :: 390 :: 391 :: 392 :: 398 :: 399 :: 412 :: 413 :: 419 :: 420 :: 440 :: 441 :: 454 :: 455 :: 457 :: 458 :: 468 :: 469 :: 477 :: 483 :: 484 :: 488 :: 489 :: 498 :: 499 :: 509 :: 510 :: 516 :: 517 :: 523 :: 524 :: 528 :: 529 :: 535 :: 536 :: 542 :: 543 :: 549 :: 550 :: 556 :: 557 :: 563 :: 564 :: 568 :: 569 :: 575 :: 576 :: 582 :: 583 :: []
noncomputable def topRunT (st : SharedT → Thread → Option (SharedT × Thread)) (ok : Thread → Bool) : Nat → SharedT → Thread → Option SharedT
  | 0, _, _ => none
  | n + 1, s, t => match through t with
    | true => some s
    | false => match ok t with
      | false => none
      | true => match st s t with
        | some x => topRunT st ok n x.1 x.2
        | none => none
theorem topRunT_spec {p : Program} {w : World} {n₀ : Nat} {ann : Option Value} : ∀ (n : Nat) (s s' : SharedT) (t : Thread), topRunT (stepT (denote treeTable) p w) (stepOk n₀ ann) n s t = some s' → topRun treeTable p w n₀ ann n s.abs t = some s'.abs
  | 0, _, _, _, h => nomatch h
  | n + 1, s, s', t, h => by
    unfold topRunT at h
    unfold topRun
    cases e : through t with
    | true => rw [e] at h; cases h; rfl
    | false =>
      rw [e] at h
      dsimp only at h ⊢
      cases e2 : stepOk n₀ ann t with
      | false => rw [e2] at h; cases h
      | true =>
        rw [e2] at h
        dsimp only at h ⊢
        cases e3 : stepT (denote treeTable) p w s t with
        | none => rw [e3] at h; cases h
        | some x =>
          rw [e3] at h
          rw [stepT_spec e3]
          exact topRunT_spec n _ _ _ h
noncomputable def bootT (P : Params) : BT := (boot_heap P).objs.toList.zipIdx.foldl (fun t x => t.ins x.2 x.1) .nil
noncomputable def startT (w : World) (o : OsState) : SharedT := ⟨bootT w.params, 11, (boot_heap w.params).life, #[], boot_drawn, boot_toks, o⟩
theorem startT_abs (w : World) (o : OsState) : (startT w o).abs = ⟨boot_heap w.params, #[], boot_drawn, boot_toks, o⟩ := by kernel_rfl!
noncomputable def endG {α : Type} (os : Program → List Str → List Str → (Shared → Bool) → Bool → Shared → α) (w : World) (s₁ : Shared) : Bool × α × (List (Option Obj) × List (Option Obj)) :=
  ((staticsOk (importedModules pw.main.body) (boot_heap w.params) s₁.heap && namesBound pw s₁.heap && gensDone s₁ && laidKept (boot_heap w.params) s₁.heap), os qv loose (importedModules pw.main.body) Xt true s₁, obsK addrsK tabsK s₁)
noncomputable def runG {α : Type} (st : (Code → Sem Fin) → Program → World → SharedT → Thread → Option (SharedT × Thread)) (ok : Nat → Option Value → Thread → Bool) (den : (String → Option Builtin) → Code → Sem Fin) (tb : String → Option Builtin) (os : Program → List Str → List Str → (Shared → Bool) → Bool → Shared → α) (w : World) (o : OsState) : Option (Bool × α × (List (Option Obj) × List (Option Obj))) :=
  (topRunT (st (den tb) pw w) (ok 11 (some (.ref 6))) 4050 (startT w o) (topStub pw)).map fun s => endG os w s.abs
theorem run_fast (w : World) (o : OsState) : runG PySem.W.Fast.tw10156331382660048174 PySem.W.Fast.tw6613529449190102663 PySem.W.Fast.tw11892475500146522536 PySem.W.Fast.tw14364793385576792824 PySem.W.Fast.tw4187177175401517315 w o = some (true, openGood qv loose, valK KP tabsK w) := by
  kernel_rfl!
theorem run_slow (w : World) (o : OsState) : runG stepT stepOk denote treeTable openSeen w o = some (true, openGood qv loose, valK KP tabsK w) := by
  rw [PySem.W.Fast.te10156331382660048174, PySem.W.Fast.te6613529449190102663, PySem.W.Fast.te11892475500146522536, PySem.W.Fast.te14364793385576792824, PySem.W.Fast.te4187177175401517315]
  exact run_fast w o
theorem run_eq (w : World) (o : OsState) : (topRun treeTable pw w 11 (some (.ref 6)) 4050 ⟨boot_heap w.params, #[], boot_drawn, boot_toks, o⟩ (topStub pw)).map (endG openSeen w) = some (true, openGood qv loose, valK KP tabsK w) := by
  have h := run_slow w o
  unfold runG at h
  obtain ⟨s, e, q⟩ := Option.map_eq_some_iff.mp h
  rw [← startT_abs, topRunT_spec _ _ _ _ e]
  exact congrArg some q
end
section
open PySem PySem.W PySem.Calls PyProof.Rows PySem.Spec
/-- the names that the head leaves loose, once the code tables are hidden -/
noncomputable abbrev lsT : List Str := looseW qv loose ++ (recsOf qv).map (·.name) ++ (litsOf qv).map (·.1) ++ (clssOf qv (looseW qv loose)).map (·.name)
/-- memberships, written short -/
theorem mm0 {a0 : Addr × Obj} {r : List (Addr × Obj)} : a0 ∈ a0 :: r := (.head _)
theorem mm1 {a0 a1 : Addr × Obj} {r : List (Addr × Obj)} : a1 ∈ a0 :: a1 :: r := .tail _ ((.head _))
theorem mm2 {a0 a1 a2 : Addr × Obj} {r : List (Addr × Obj)} : a2 ∈ a0 :: a1 :: a2 :: r := .tail _ (.tail _ ((.head _)))
theorem mm3 {a0 a1 a2 a3 : Addr × Obj} {r : List (Addr × Obj)} : a3 ∈ a0 :: a1 :: a2 :: a3 :: r := .tail _ (.tail _ (.tail _ ((.head _))))
theorem mm4 {a0 a1 a2 a3 a4 : Addr × Obj} {r : List (Addr × Obj)} : a4 ∈ a0 :: a1 :: a2 :: a3 :: a4 :: r := .tail _ (.tail _ (.tail _ (.tail _ ((.head _)))))
theorem mm5 {a0 a1 a2 a3 a4 a5 : Addr × Obj} {r : List (Addr × Obj)} : a5 ∈ a0 :: a1 :: a2 :: a3 :: a4 :: a5 :: r := .tail _ (.tail _ (.tail _ (.tail _ (.tail _ ((.head _))))))
theorem mm6 {a0 a1 a2 a3 a4 a5 a6 : Addr × Obj} {r : List (Addr × Obj)} : a6 ∈ a0 :: a1 :: a2 :: a3 :: a4 :: a5 :: a6 :: r := .tail _ (.tail _ (.tail _ (.tail _ (.tail _ (.tail _ ((.head _)))))))
theorem mm7 {a0 a1 a2 a3 a4 a5 a6 a7 : Addr × Obj} {r : List (Addr × Obj)} : a7 ∈ a0 :: a1 :: a2 :: a3 :: a4 :: a5 :: a6 :: a7 :: r := .tail _ (.tail _ (.tail _ (.tail _ (.tail _ (.tail _ (.tail _ ((.head _))))))))
theorem mm8 {a0 a1 a2 a3 a4 a5 a6 a7 a8 : Addr × Obj} {r : List (Addr × Obj)} : a8 ∈ a0 :: a1 :: a2 :: a3 :: a4 :: a5 :: a6 :: a7 :: a8 :: r := .tail _ (.tail _ (.tail _ (.tail _ (.tail _ (.tail _ (.tail _ (.tail _ ((.head _)))))))))
theorem mm9 {a0 a1 a2 a3 a4 a5 a6 a7 a8 a9 : Addr × Obj} {r : List (Addr × Obj)} : a9 ∈ a0 :: a1 :: a2 :: a3 :: a4 :: a5 :: a6 :: a7 :: a8 :: a9 :: r := .tail _ (.tail _ (.tail _ (.tail _ (.tail _ (.tail _ (.tail _ (.tail _ (.tail _ ((.head _))))))))))
theorem mm10 {a0 a1 a2 a3 a4 a5 a6 a7 a8 a9 a10 : Addr × Obj} {r : List (Addr × Obj)} : a10 ∈ a0 :: a1 :: a2 :: a3 :: a4 :: a5 :: a6 :: a7 :: a8 :: a9 :: a10 :: r := .tail _ (.tail _ (.tail _ (.tail _ (.tail _ (.tail _ (.tail _ (.tail _ (.tail _ (.tail _ ((.head _)))))))))))
theorem mm11 {a0 a1 a2 a3 a4 a5 a6 a7 a8 a9 a10 a11 : Addr × Obj} {r : List (Addr × Obj)} : a11 ∈ a0 :: a1 :: a2 :: a3 :: a4 :: a5 :: a6 :: a7 :: a8 :: a9 :: a10 :: a11 :: r := .tail _ (.tail _ (.tail _ (.tail _ (.tail _ (.tail _ (.tail _ (.tail _ (.tail _ (.tail _ (.tail _ ((.head _))))))))))))
theorem mm12 {a0 a1 a2 a3 a4 a5 a6 a7 a8 a9 a10 a11 a12 : Addr × Obj} {r : List (Addr × Obj)} : a12 ∈ a0 :: a1 :: a2 :: a3 :: a4 :: a5 :: a6 :: a7 :: a8 :: a9 :: a10 :: a11 :: a12 :: r := .tail _ (.tail _ (.tail _ (.tail _ (.tail _ (.tail _ (.tail _ (.tail _ (.tail _ (.tail _ (.tail _ (.tail _ ((.head _)))))))))))))
theorem sub_nil {l : List (Addr × Obj)} : ∀ p ∈ ([] : List (Addr × Obj)), p ∈ l := fun _ h => nomatch h
theorem sub_cons {a : Addr × Obj} {l' l : List (Addr × Obj)} (h : a ∈ l) (k : ∀ p ∈ l', p ∈ l) : ∀ p ∈ a :: l', p ∈ l := fun p hp => (List.mem_cons.mp hp).elim (fun e => e ▸ h) (k p)
theorem sub_app {l1 l2 l : List (Addr × Obj)} (h : ∀ p ∈ l1, p ∈ l) (k : ∀ p ∈ l2, p ∈ l) : ∀ p ∈ l1 ++ l2, p ∈ l := fun p hp => (List.mem_append.mp hp).elim (h p) (k p)
theorem sub_at {p : Addr × Obj} {l' l : List (Addr × Obj)} (k : ∀ p ∈ l', p ∈ l) (h : p ∈ l') : p ∈ l := k p h
@[elab_as_elim] theorem mem_case {α : Type} {motive : α → Prop} {a : α} {l : List α} {p : α} (hp : p ∈ a :: l) (h : motive a) (k : ∀ p, p ∈ l → motive p) : motive p := (List.mem_cons.mp hp).elim (fun e => e ▸ h) (k p)
@[elab_as_elim] theorem mem_all {α : Type} {motive : α → Prop} {l : List α} {p : α} (hp : p ∈ l) (k : ∀ p ∈ l, motive p) : motive p := k p hp
theorem all_cons {α : Type} {P : α → Prop} {a : α} {l : List α} (h : P a) (k : ∀ p ∈ l, P p) : ∀ p ∈ a :: l, P p := fun _ hp => mem_case (motive := P) hp h k
theorem all_app {α : Type} {P : α → Prop} {l1 l2 : List α} (h : ∀ p ∈ l1, P p) (k : ∀ p ∈ l2, P p) : ∀ p ∈ l1 ++ l2, P p := fun p hp => (List.mem_append.mp hp).elim (h p) (k p)
theorem all_nil {α : Type} {P : α → Prop} : ∀ p ∈ ([] : List α), P p := fun _ h => nomatch h
/-- the room that a call has below it -/
structure Rm (A : Around) (n : Nat) : Prop where
  hh : A.handled = none
  dp : A.depth + n < recursionLimit
  un : A.units + 16 * n < cLine
theorem callG {w : World} {mean : ExcName → Option Value} {mg mb : Str → Option Value} {G : Heap} {A : Around} {s : Shared} {L : Addr} {m : Str → Option Value} {R : Result → Shared → Prop} {name qual : Str} {params : Arguments} {body : List Stmt} {scope : Scope} {dV kV doc pm cdv ct oc : Value} {an od : Option Addr}
    {osl : Array (Option Value)} {f : Addr} {args : Args} {binds : List (Str × Value)}
    (X : (KP w.params).In G) (T : Top topProg lsT mean mg mb G) (F : Fr G L s.heap m) (hroom : A.depth < recursionLimit)
    (ho : (KP w.params).lookup f = some ⟨oc, od, .func (fnOf name qual params body scope dV kV doc pm an cdv ct), osl⟩) (hcd : codeIn (KP w.params) cdv qual = true)
    (hbind : BindsTo s (fnOf name qual params body scope dV kV doc pm an cdv ct) args binds) (hloc : ∀ y ∈ binds, scope.names.lookup y.1 = some .local)
    (hco : scope.isCoroutine = false) (hgen : scope.isGenerator = false) (hk : scope.kind = .function) (hcell : ∀ x ∈ scope.names, x.2 ≠ .cell)
    (h : ∀ L' h₁ oL, s.heap.get? L = some oL → L' = s.heap.objs.size → Fr G L' h₁ (fun y => binds.reverse.lookup y) → (∀ b o, s.heap.get? b = some o → h₁.get? b = some o) →
      wpAny (model pw w) (A.deeper (envOf qual scope L' f cdv)) (execs body (envOf qual scope L' f cdv))
        (fun fl s' => R (.ok (.ret (match fl with | .ret v => v | _ => .none))) s')
        (fun e s' => wpAny (model pw w) (A.deeper (envOf qual scope L' f cdv)) (leaving (envOf qual scope L' f cdv) e) (fun _ s'' => R (.error e) s'') (fun e' s'' => R (.error e') s'') s')
        { s with heap := h₁, toks := s.toks + binds.length }) : codeAny (model pw w) A (.call (.ref f) args) R s := by
  obtain ⟨oL, es, ep, hL, hLd, hLk, hLf⟩ := F.ns
  refine codeAny_call_def (fd := fnOf name qual params body scope dV kV doc pm an cdv ct) (body := body) (binds := binds) hroom ((X.keeps F.keep) _ _ ho) rfl (T.nolimit.keeps F.keep) (codeRec_of (X.keeps F.keep) hcd) rfl hbind hcell hloc (fun h₁ hns hk₁ => ?_) hco hgen hk
  exact h s.heap.objs.size h₁ oL hL rfl ⟨hns, fun b o e => hk₁ b o (F.keep b o e), Nat.le_trans F.above (Nat.le_of_lt (Heap.lt_size hL))⟩ hk₁
/-- the same, for a call that never raises -/
theorem callE {w : World} {mean : ExcName → Option Value} {mg mb : Str → Option Value} {G : Heap} {A : Around} {s : Shared} {L : Addr} {m : Str → Option Value} {R : Result → Shared → Prop} {name qual : Str} {params : Arguments} {body : List Stmt} {scope : Scope} {dV kV doc pm cdv ct oc : Value} {an od : Option Addr}
    {osl : Array (Option Value)} {f : Addr} {args : Args} {binds : List (Str × Value)}
    (X : (KP w.params).In G) (T : Top topProg lsT mean mg mb G) (F : Fr G L s.heap m) (hroom : A.depth < recursionLimit)
    (ho : (KP w.params).lookup f = some ⟨oc, od, .func (fnOf name qual params body scope dV kV doc pm an cdv ct), osl⟩) (hcd : codeIn (KP w.params) cdv qual = true)
    (hbind : BindsTo s (fnOf name qual params body scope dV kV doc pm an cdv ct) args binds) (hloc : ∀ y ∈ binds, scope.names.lookup y.1 = some .local)
    (hco : scope.isCoroutine = false) (hgen : scope.isGenerator = false) (hk : scope.kind = .function) (hcell : ∀ x ∈ scope.names, x.2 ≠ .cell)
    (h : ∀ L' h₁ oL (E' : Value → Shared → Prop), s.heap.get? L = some oL → L' = s.heap.objs.size → Fr G L' h₁ (fun y => binds.reverse.lookup y) → (∀ b o, s.heap.get? b = some o → h₁.get? b = some o) →
      wpAny (model pw w) (A.deeper (envOf qual scope L' f cdv)) (execs body (envOf qual scope L' f cdv))
        (fun fl s' => R (.ok (.ret (match fl with | .ret v => v | _ => .none))) s')
        E'
        { s with heap := h₁, toks := s.toks + binds.length }) : codeAny (model pw w) A (.call (.ref f) args) R s :=
  callG X T F hroom ho hcd hbind hloc hco hgen hk hcell fun L' h₁ oL hL eL F₁ k₁ => h L' h₁ oL _ hL eL F₁ k₁
theorem ar_dn {n i : Nat} (h : i < n) : ∃ q, n - i = q + 1 ∧ q < n ∧ (n : Int) - 1 + (i : Int) * (-1) = (q : Int) ∧ n - (i + 1) = q := by
  obtain ⟨q, rfl⟩ := Nat.exists_eq_add_of_lt h
  refine ⟨q, ?_, Nat.lt_succ_of_le (Nat.le_add_left q i), ?_, ?_⟩
  · rw [Nat.add_assoc, Nat.add_sub_cancel_left]
  · omega
  · rw [Nat.add_right_comm, Nat.add_sub_cancel_left]
theorem ar_sm {q n : Nat} (h : q < n) (h' : n ≤ 100) : 0 ≤ (q : Int) ∧ (q : Int) < 2 ^ 63 ∧ -(2 ^ 63) ≤ (q : Int) :=
  ⟨Int.natCast_nonneg q, Int.lt_of_lt_of_le (Int.ofNat_lt.mpr (Nat.lt_of_lt_of_le h h')) (by decide), Int.le_trans (by decide) (Int.natCast_nonneg q)⟩
theorem ar_t1 {α : Type} {a : List α} {j : Nat} {b : α} (h : a.length ≤ 3) : (a.take j).length + [b].length ≤ 1000 ∧ (a.take j ++ [b]).length + (a.drop (j + 1)).length ≤ 1000 := by
  have h1 : (a.take j).length ≤ 3 := Nat.le_trans (List.length_take_le' j a) h
  have h2 : (a.drop (j + 1)).length ≤ 3 := by rw [List.length_drop]; exact Nat.le_trans (Nat.sub_le _ _) h
  refine ⟨Nat.le_trans (Nat.add_le_add_right h1 1) (by decide), ?_⟩
  rw [List.length_append]
  exact Nat.le_trans (Nat.add_le_add (Nat.add_le_add_right h1 1) h2) (by decide)
theorem ar_lp {k i n : Nat} (h : k + i = n) (hi : i < n) : k - 1 < k ∧ k - 1 + (i + 1) = n := by
  cases k with
  | zero => exact absurd hi (by rw [← h, Nat.zero_add]; exact Nat.lt_irrefl i)
  | succ k => exact ⟨Nat.lt_succ_self k, by rw [← h]; show k + (i + 1) = k + 1 + i; rw [Nat.add_right_comm, Nat.add_assoc]⟩
theorem ar_un {u k n c : Nat} (h : u + 16 * k < c) (hn : n ≤ 16 * k) : u + n < c := Nat.lt_of_le_of_lt (Nat.add_le_add_left hn u) h
theorem ar_16 {n : Nat} (h : n ≤ 3) : (n : Int) ≤ 16384 := Int.le_trans (Int.ofNat_le.mpr h) (by decide)
theorem ar_tn {i : Int} {n : Nat} (h : 0 ≤ i) (h' : i < (n : Int)) : i.toNat < n := (Int.toNat_lt h).mpr h'
theorem ar_5 {i : Int} (h0 : 0 ≤ i) (h : i < 5) : i = 0 ∨ i = 1 ∨ i = 2 ∨ i = 3 ∨ i = 4 := by
  obtain ⟨n, rfl⟩ := Int.eq_ofNat_of_zero_le h0
  exact (show ∀ n : Fin 5, ((n.val : Nat) : Int) = 0 ∨ ((n.val : Nat) : Int) = 1 ∨ ((n.val : Nat) : Int) = 2 ∨ ((n.val : Nat) : Int) = 3 ∨ ((n.val : Nat) : Int) = 4 by decide) ⟨n, Int.ofNat_lt.mp h⟩
theorem ar_3 {i : Int} (h0 : 0 ≤ i) (h : i < 3) : i = 0 ∨ i = 1 ∨ i = 2 := by
  obtain ⟨n, rfl⟩ := Int.eq_ofNat_of_zero_le h0
  exact (show ∀ n : Fin 3, ((n.val : Nat) : Int) = 0 ∨ ((n.val : Nat) : Int) = 1 ∨ ((n.val : Nat) : Int) = 2 by decide) ⟨n, Int.ofNat_lt.mp h⟩
/-- what is left behind a statement -/
noncomputable def Then (M : Model) (A : Around) (rest : List Stmt) (env : Env) (Q : Flow → Shared → Prop) (E : Value → Shared → Prop) (f : Flow) (s : Shared) : Prop := match f with
  | .next => wpAny M A (execs rest env) Q E s
  | f => Q f s
theorem execs_cut {M : Model} {A : Around} {st : Stmt} {rest : List Stmt} {env : Env} {Q : Flow → Shared → Prop} {E : Value → Shared → Prop} {s : Shared}
    (h : ∀ K : Flow → Shared → Prop, (∀ f s', Then M A rest env Q E f s' → K f s') → wpAny M A (exec st env) K E s) : wpAny M A (execs (st :: rest) env) Q E s :=
  wpAny_execs_cons (h _ fun f s' z => by cases f <;> exact z)
theorem Then.next {M : Model} {A : Around} {rest : List Stmt} {env : Env} {Q K : Flow → Shared → Prop} {E : Value → Shared → Prop} {s : Shared} (hK : ∀ f s', Then M A rest env Q E f s' → K f s') (h : wpAny M A (execs rest env) Q E s) : K .next s := hK _ _ h
theorem Then.ret {M : Model} {A : Around} {rest : List Stmt} {env : Env} {Q K : Flow → Shared → Prop} {E : Value → Shared → Prop} {s : Shared} {v : Value} (hK : ∀ f s', Then M A rest env Q E f s' → K f s') (h : Q (.ret v) s) : K (.ret v) s := hK _ _ h
theorem Then.brk {M : Model} {A : Around} {rest : List Stmt} {env : Env} {Q K : Flow → Shared → Prop} {E : Value → Shared → Prop} {s : Shared} (hK : ∀ f s', Then M A rest env Q E f s' → K f s') (h : Q .brk s) : K .brk s := hK _ _ h
theorem Then.cont {M : Model} {A : Around} {rest : List Stmt} {env : Env} {Q K : Flow → Shared → Prop} {E : Value → Shared → Prop} {s : Shared} (hK : ∀ f s', Then M A rest env Q E f s' → K f s') (h : Q .cont s) : K .cont s := hK _ _ h
/-- a for enters its source -/
inductive IvIn (P : Nat → (Str → Option Value) → List (Addr × Obj) → Prop) (G : Heap) (L : Addr) (g : Array GenState) (d : Drawn) (os : OsState) (t : Addr) (v : Value) (s₁ : Shared) : Prop
  | mk (m : Str → Option Value) (l : List (Addr × Obj)) (h : Heap) (tk : Nat) (ev : v = .ref t) (es : s₁ = ⟨h, g, d, tk, os⟩) (p : P 0 m l) (F : Fr G L h m) (N : News G L h l)
/-- a turn of a for ends -/
inductive IvOn (P : Nat → (Str → Option Value) → List (Addr × Obj) → Prop) (G : Heap) (L : Addr) (g : Array GenState) (d : Drawn) (os : OsState) (i : Nat) (I : Addr) (oI : Obj) (s₃ : Shared) : Prop
  | mk (m' : Str → Option Value) (l' : List (Addr × Obj)) (h' : Heap) (tk' : Nat) (es : s₃ = ⟨h', g, d, tk', os⟩) (p : P (i + 1) m' l') (F : Fr G L h' m') (N : News G L h' ((I, oI) :: l')) (off : ∀ p ∈ l', p.1 ≠ I)
/-- a loop's turns -/
inductive IvLp (n : Nat) (P : Nat → (Str → Option Value) → List (Addr × Obj) → Prop) (G : Heap) (L : Addr) (g : Array GenState) (d : Drawn) (os : OsState) (I : Addr) (It : Nat → Obj → Prop) (k : Nat) (s : Shared) : Prop
  | mk (i : Nat) (m : Str → Option Value) (l : List (Addr × Obj)) (h : Heap) (tk : Nat) (oI : Obj) (hk : k + i = n) (es : s = ⟨h, g, d, tk, os⟩) (p : P i m l) (F : Fr G L h m) (N : News G L h ((I, oI) :: l)) (it : It i oI) (off : ∀ p ∈ l, p.1 ≠ I)
end
section
open PySem PySem.W PySem.Calls PyProof.Rows PySem.Spec
local macro_rules | `(tactic| walk_at "MEM") => `(tactic| first | (with_reducible assumption) | (with_reducible first | exact mm0 | exact mm1 | exact mm2 | exact mm3 | exact mm4 | exact mm5 | exact mm6 | exact mm7 | exact mm8 | exact mm9 | exact mm10 | exact mm11 | exact mm12) | (refine List.mem_append_left _ ?_; walk_at "MEM") | (refine List.mem_append_right _ ?_; walk_at "MEM") | (exact List.Mem.head _) | (refine List.mem_cons_of_mem _ ?_; walk_at "MEM"))
local macro_rules | `(tactic| walk_at "SUB") => `(tactic| first | (with_reducible exact sub_nil) | ((with_reducible refine sub_cons ?_ ?_); (walk_at "MEM"); (walk_at "SUB")) | ((with_reducible refine sub_app ?_ ?_); (walk_at "SUB"); (walk_at "SUB")) | (intro p hp; walk_at "MEM"))
set_option hygiene false in
local macro_rules | `(tactic| walk_at "execs cons") => `(tactic| ((try k_gentoks); refine execs_cut fun Kq hKq => ?_))
set_option hygiene false in
local macro_rules | `(tactic| walk_at "THEN") => `(tactic| (first | refine Then.next hKq ?_ | refine Then.ret hKq ?_ | refine Then.cont hKq ?_ | refine Then.brk hKq ?_); (try clear hKq Kq); try dsimp only)
section
open PySem PySem.W PySem.Calls PyProof.Rows PySem.Spec
theorem filled (w : World) : KP w.params = KP w.params ∧ PySem.Challenge.rw_xm0176_01.prog = PySem.Challenge.rw_xm0176_01.prog := by
  k_fill
  exact ⟨rfl, rfl⟩
theorem news_in {G : Heap} {L L' : Addr} {h h₁ : Heap} {l : List (Addr × Obj)} {oL : Obj} {m : Str → Option Value} (F : Fr G L h m) (N : News G L h l) (hL : h.get? L = some oL) (e : L' = h.objs.size) (k : ∀ b o, h.get? b = some o → h₁.get? b = some o) :
    News G L' h₁ (l ++ [(L, oL)]) := by
  intro p hp
  rcases List.mem_append.mp hp with hp | hp
  · exact ⟨k _ _ (N p hp).1, fun q => absurd (Heap.lt_size (N p hp).1) (by rw [q, e]; exact Nat.lt_irrefl _), (N p hp).2.2⟩
  · rw [List.mem_singleton.mp hp]
    refine ⟨k _ _ hL, fun q => absurd (Heap.lt_size hL) (by rw [show L = L' from q, e]; exact Nat.lt_irrefl _), ?_⟩
    cases q : G.get? L with
    | none => rfl
    | some o => exact absurd (Nat.lt_of_lt_of_le (Heap.lt_size q) F.above) (Nat.lt_irrefl _)
theorem fr_out {G : Heap} {L L' : Addr} {h h' : Heap} {oL : Obj} {m m' : Str → Option Value} (F : Fr G L h m) (hL : h.get? L = some oL) (F' : Fr G L' h' m') (hL' : h'.get? L = some oL) : Fr G L h' m := by
  obtain ⟨o, es, ep, a, r⟩ := F.ns
  rw [hL] at a
  cases a
  exact ⟨⟨oL, es, ep, hL', r⟩, F'.keep, F.above⟩
theorem out_src {G : Heap} {L L' src : Addr} {h h' : Heap} {m m' : Str → Option Value} {l new : List (Addr × Obj)} {so so' oL : Obj} (F : Fr G L h m) (N : News G L h ((src, so) :: l)) (hL : h.get? L = some oL)
    (F' : Fr G L' h' m') (N' : News G L' h' ((src, so') :: (new ++ (l ++ [(L, oL)])))) (hn : ∀ p ∈ new, p.1 ≠ L) : Fr G L h' m ∧ News G L h' ((src, so') :: (new ++ l)) := by
  refine ⟨fr_out F hL F' (N' (L, oL) (by first | walk_at "MEM" | simp)).1, fun p hp => ?_⟩
  refine mem_case hp ?_ fun p hp => ?_
  · exact ⟨(N' _ (.head _)).1, (N _ (.head _)).2.1, (N' _ (.head _)).2.2⟩
  · rcases List.mem_append.mp hp with hp | hp
    · have z := N' p (.tail _ (List.mem_append_left _ hp))
      exact ⟨z.1, hn p hp, z.2.2⟩
    · have z := N' p (.tail _ (List.mem_append_right _ (List.mem_append_left _ hp)))
      exact ⟨z.1, (N p (.tail _ hp)).2.1, z.2.2⟩
noncomputable def SrcO (M : Int) (so : Obj) : Prop := ∃ a ta b tb n, so = listOf #[.int a ta, .int b tb] n ∧ 0 ≤ a ∧ a ≤ M ∧ 0 ≤ b ∧ b < 2147483647
local macro_rules | `(tactic| walk_at "setItem ref int int") => `(tactic| ((with_unfolding_all refine' ksa_set ?F ?N (Upd.head ?U) (.cons _ _ (.cons _ _ .nil)) (by decide) (by first | walk_at "MEM" | simp) (by decide) ?_; (case F => assumption); (case N => assumption); (case U => assumption)); intro h' F' N' _ _ _; (try dsimp only [Int.toNat, List.set] at N')))
set_option maxHeartbeats 1000000 in
theorem take_ok {w : World} {mean : ExcName → Option Value} {mg mb : Str → Option Value} {G : Heap} {A : Around} {s : Shared} {L src : Addr} {m : Str → Option Value} {l : List (Addr × Obj)} {so : Obj} {M top : Int} {tt : Tok} {Q E : Value → Shared → Prop}
    (hA : Rm A 3) (X : (KP w.params).In G) (T : Top topProg lsT mean mg mb G) (F : Fr G L s.heap m) (N : News G L s.heap ((src, so) :: l)) (hso : SrcO M so) (off : ∀ p ∈ l, p.1 ≠ src) (ht : 0 < top) (ht' : top ≤ 100)
    (ret : ∀ (r : Int) (t : Tok) so' h' tk', Fr G L h' m → News G L h' ((src, so') :: l) → SrcO M so' → 0 ≤ r → r < top → Q (.int r t) { s with heap := h', toks := tk' }) :
    wpAny (model pw w) A (call (.ref 517) [.ref src, .int top tt]) Q E s := by
  refine wpAny_call (callE (binds := [(Str.ofString "source", .ref src), (Str.ofString "top", .int top tt)]) X T F (Nat.lt_of_le_of_lt (Nat.le_add_right _ _) hA.dp) (by k_is) (by k_is) (BindsTo.of_eq rfl) (locs rfl) rfl rfl rfl (by decide) fun L' h₁ oL E' hL eL F₁ k₁ => ?_)
  have N₁ := news_in F N hL eL k₁
  obtain ⟨a, ta, b, tb, n, rfl, a0, aM, b0, b1⟩ := hso
  try dsimp only [List.cons_append] at N₁
  have off' : ∀ p ∈ l ++ [(L, oL)], p.1 ≠ src := fun p hp => (List.mem_append.mp hp).elim (off p) fun hp => by rw [List.mem_singleton.mp hp]; exact fun q => (N (src, _) (.head _)).2.1 q.symm
  try dsimp only
  repeat' (first | walk1 | (dsimp only; walk1) | walk_at "THEN")
  · have h1 := out_src (new := []) F N hL (by assumption) (by assumption) (fun _ h => nomatch h)
    refine ret _ _ _ _ _ h1.1 h1.2 ⟨_, _, _, _, _, rfl, ?_, ?_, b0, b1⟩ ?_ ?_
    · show 0 ≤ a.fdiv top
      exact Int.fdiv_nonneg a0 (Int.le_of_lt ht)
    · show a.fdiv top ≤ M
      rw [Int.fdiv_eq_ediv_of_nonneg _ (Int.le_of_lt ht)]
      exact Int.le_trans (Int.ediv_le_self _ a0) aM
    · exact Int.fmod_nonneg_of_pos _ ht
    · exact Int.fmod_lt_of_pos _ ht
  · have h1 := out_src (new := []) F N hL (by assumption) (by assumption) (fun _ h => nomatch h)
    refine ret _ _ _ _ _ h1.1 h1.2 ⟨_, _, _, _, _, rfl, a0, aM, ?_, ?_⟩ ?_ ?_
    · exact Int.fmod_nonneg_of_pos _ (by decide)
    · exact Int.fmod_lt_of_pos _ (by decide)
    · exact Int.fmod_nonneg_of_pos _ ht
    · exact Int.fmod_lt_of_pos _ ht
end
section
open PySem PySem.W PySem.Calls PyProof.Rows PySem.Spec
noncomputable abbrev fltCls : Obj := excClassObj (Str.ofString "MachineFault") (Str.ofString "MachineFault") 59 58 [.ref 39] [.ref 39, .type "Exception", .type "BaseException", .type "object"] true [] [] false none none
  (some (.ref 43)) none (some (.str (Str.ofString "MachineFault") 228)) (some (.str (Str.ofString "MachineFault") 236)) (some (.bool true)) "Exception.__new__"
theorem flt_at {w : World} {h : Heap} (X : (KP w.params).In h) : h.get? 59 = some fltCls := X 59 _ rfl
noncomputable abbrev excNew (t : Addr) : Obj := { cls := .ref 59, data := .fields #[.ref t, .none, .none, .none, .bool false, .none] }
section
variable {w : World} {A : Around} {R : Result → Shared → Prop} {h : Heap} {g : Array GenState} {d : Drawn} {t : Nat} {os : OsState}
theorem flt_check_new {M : Model} {E : Value → Shared → Prop} {rest : List Value} {Q : Unit → Shared → Prop} (hC : h.get? 59 = some fltCls) (hq : Q () ⟨h, g, d, t, os⟩) : wpAny M A (checkBuiltinCall "Exception.__new__" ⟨.ref 59 :: rest, []⟩) Q E ⟨h, g, d, t, os⟩ := by
  have F := PySem.F.excBase_Exception
  have hstar := F.noStar
  simp only [checkBuiltinCall, F.newKind, F.newSplit, F.newRow]
  repeat (first | refine wpAny_loadPart_at hC ?_ | refine wpAny_isSubtype_exc hC ?_ | refine wpAny_staticBase_exc hC ?_ | refine wpAny_madeBy_exc hC ?_ | simp only [bne_self_eq_false, Bool.false_eq_true, if_false] | wp_step)
  exact hq
theorem flt_new {rest : List Value} (hC : h.get? 59 = some fltCls)
    (hq : R (.ok (.ret (.ref (h.objs.size + 1)))) ⟨(h.push { cls := .type "tuple", data := .seq rest.toArray }).push (excNew h.objs.size), g, d, t, os⟩) (hrest : rest.length ≤ sizeLine) :
    codeAny (model pw w) A (.builtin "Exception.__new__" ⟨.ref 59 :: rest, []⟩) R ⟨h, g, d, t, os⟩ := by
  have F := PySem.F.excBase_Exception
  have hends := F.ends
  refine codeAny_builtinAt F.entry ?_
  unfold Builtin.«BaseException.__new__»
  refine PySem.wpAt_bind ?_
  show PySem.wpAt _ _ _ (stack >>= _) _ _ _
  refine PySem.wpAt_bind (PySem.wpAt_stack fun p below => PySem.wpAt_of_wpAny ?_)
  wp_walk
  refine PySem.wpAt_of_wpAny ?_
  rw [F.owner]
  repeat (first | with_reducible refine wpAny_madeHere_exc F.canon hC ?_ | with_reducible refine wpAny_loadPart_at hC ?_ | with_reducible refine wpAny_isSubtype_exc hC ?_ | wp_step)
  show R _ _
  rw [Heap.size_push]
  exact hq
theorem flt_make {rest : List Value} (X : (KP w.params).In h) (hrest : rest.length ≤ sizeLine)
    (hq : codeAny (model pw w) (A.under (.builtin "type.__call__" ⟨.ref 59 :: rest, []⟩)) (.call (.ref 56) ⟨.ref (h.objs.size + 1) :: rest, []⟩) (InitBack (h.objs.size + 1) R)
      ⟨(h.push { cls := .type "tuple", data := .seq rest.toArray }).push (excNew h.objs.size), g, d, t, os⟩) :
    codeAny (model pw w) A (.call (.ref 59) ⟨rest, []⟩) R ⟨h, g, d, t, os⟩ := by
  have hC := flt_at X
  have call : Looks (model pw w) h (specialOf (.ref 59) "__call__") (some (.builtin "type.__call__")) := looks_specialIn X (by k_is)
  have typ : Looks (model pw w) h (isInstance (.ref 59) (.type "type")) true := looks_instIn X (by k_is)
  have self : Looks (model pw w) h (isSubtype (.ref 59) (.ref 59)) true := looks_mroIn X (by k_is)
  have hi : Looks (model pw w) h (typeLookup (.ref 59) "__init__") (some (.ref 56)) := looks_findIn X (by k_is)
  have hb : ∀ self, Looks (model pw w) h (bindSpecial (.ref 56) self) (.ref 56, [self]) := fun self => bind_fn X self (by k_is)
  refine codeAny_of_tree ?_
  show wpAny _ _ (callAny (.ref 59) _) _ _ _
  refine nd_load hC ?_
  show wpAny _ _ (callAny.viaDunder (.ref 59) _) _ _ _
  unfold callAny.viaDunder
  refine wpAny_bind (call.at ?_)
  dsimp only
  rw [tc_bind]
  refine wpAny_bind (wpAny_pure (wpAny_bind (wpAny_pure ?_)))
  refine wpAny_pure (a := PySem.Fin.again (.call (.builtin "type.__call__") ⟨.ref 59 :: rest, []⟩)) (And.intro rfl ?_)
  refine codeAny_call_builtin_at (Code.quiet_builtin _ (by decide +kernel)) entry_typeCall (check_slot tc_kind tc_split typ (tc_args _ _ _) ?_)
  unfold Builtin.«type.__call__»
  repeat (first | with_reducible refine wpAny_loadPart_at hC ?_ | with_reducible refine wpAny_madeBy_exc hC ?_ | wp_step)
  refine codeAny_call_builtin_code (Code.quiet_builtin _ PySem.F.excBase_Exception.quiet) (flt_check_new hC ?_)
  refine flt_new hC ?_ hrest
  have k : ∀ b o, h.get? b = some o → ((h.push { cls := .type "tuple", data := .seq rest.toArray }).push (excNew h.objs.size)).get? b = some o := fun b o e => Heap.get?_push_of_some _ (Heap.get?_push_of_some _ e)
  have hx : ((h.push { cls := .type "tuple", data := .seq rest.toArray }).push (excNew h.objs.size)).get? (h.objs.size + 1) = some (excNew h.objs.size) := by heap_get
  have t1 : Looks (model pw w) ((h.push { cls := .type "tuple", data := .seq rest.toArray }).push (excNew h.objs.size)) (typeOf (.ref (h.objs.size + 1))) (.ref 59) := (Looks.ld hx).andThen .now
  have s1 := self.keeps k
  have i1 := hi.keeps k
  have b1 := (hb (.ref (h.objs.size + 1))).keeps k
  show wpAny _ _ _ _ _ _
  unfold isInstance callSpecial? specialOf
  repeat (first | with_reducible refine wpAny_call ?_ | lk)
  refine codeAny_mono hq fun r s' z => ?_
  rcases r with e | (v | _ | _ | _) <;> first | exact z | exact z.elim | skip
  obtain ⟨rfl, z⟩ := z
  exact wpAny_pure (wpAny_pure z)
end
end
section
open PySem PySem.W PySem.Calls PySem.Spec
section
variable {w : World} {A : Around} {E : Value → Shared → Prop} {h : Heap} {g : Array GenState} {d : Drawn} {t : Nat} {os : OsState} {x : Addr} {mA : Str → Option Value} {name : Str} {v : Value}
/-- what a store into an exception's own dict leaves -/
noncomputable def FltKept (x : Addr) (h h' : Heap) : Prop :=
  (∀ b o, b ≠ x → (∀ o₀ dx, h.get? x = some o₀ → o₀.dict = some dx → b ≠ dx) → h.get? b = some o → h'.get? b = some o) ∧
  (∀ o₀, h.get? x = some o₀ → ∃ o₁, h'.get? x = some o₁ ∧ o₁.cls = o₀.cls ∧ o₁.data = o₀.data ∧ o₁.slots = o₀.slots ∧ ∀ dx, o₀.dict = some dx → o₁.dict = some dx) ∧
  (∀ o₁ dx, h'.get? x = some o₁ → o₁.dict = some dx → (∃ o₀, h.get? x = some o₀ ∧ o₀.dict = some dx) ∨ h.get? dx = none)
theorem flt_store_entry {tk : Tok} {Q : PySem.Fin → Shared → Prop} {ns : List Str} (X : (KP w.params).In h) (hname : findIn (KP w.params) (.ref 59) name = some none) (I : h.Inst x 59 mA)
    (hq : ∀ h' tk', h'.Inst x 59 (fun y => if y = name then some v else mA y) → FltKept x h h' → Q (.done (.ret .none)) ⟨h', g, d, tk', os⟩) (hw : Within mA ns) (hsz : ns.length ≤ 100) :
    wpAny (model pw w) A (Builtin.«object.__setattr__» ⟨[.ref x, .str name tk, v], []⟩) Q E ⟨h, g, d, t, os⟩ := by
  have hC := flt_at X
  obtain ⟨o, hx, hc, hnc, hd⟩ := I
  have hpass := PySem.F.store_Exception.passes (.ref x)
  have hl : Looks (model pw w) h (typeLookup (.ref 59) name) none := looks_findIn X hname
  have ht : Looks (model pw w) h (typeOf (.ref x)) (.ref 59) := by
    refine (Looks.ld hx).andThen ?_
    rw [hc]
    exact .now
  unfold Builtin.«object.__setattr__»
  repeat (first | rw [refuse_eq] | rw [refuseLoop_ref, refuseLoop_ref, hpass] | with_reducible refine ht.at ?_ | with_reducible refine hl.at ?_ | with_reducible refine wpAny_mroOf_exc hC ?_ | wp_step)
  rw [hc]
  refine wpAny_bind ?_
  repeat (first | with_reducible refine wpAny_loadPart_at hC ?_ | wp_step)
  rcases hd with ⟨hdn, hmA⟩ | ⟨dx, hdx, hne, hns⟩
  · rw [hdn]
    dsimp only
    rw [if_neg (by simp [typeHasDict])]
    split
    · rename_i c hcd
      exact absurd hcd (hnc c)
    · have hx₁ : (h.push { cls := .type "dict", data := .dict #[] }).get? x = some o := Heap.get?_push_of_some _ hx
      have hxs : x ≠ h.objs.size := Nat.ne_of_lt (Heap.lt_size hx)
      refine wpAny_bind (wpAny_alloc' ?_)
      refine wpAny_bind (wpAny_update' hx₁ ?_)
      refine wpAny_pure ?_
      have hgd : ((h.push { cls := .type "dict", data := .dict #[] }).update x fun o => { cls := o.cls, dict := some h.objs.size, data := o.data, slots := o.slots }).get? h.objs.size
          = some { cls := .type "dict", data := .dict #[] } :=
        (Heap.get?_update_ne _ _ _ _ hxs.symm).trans (Heap.get?_push_at rfl rfl)
      have hnd : ((h.push { cls := .type "dict", data := .dict #[] }).update x fun o => { cls := o.cls, dict := some h.objs.size, data := o.data, slots := o.slots }).Ns h.objs.size (fun _ => none) :=
        ⟨_, #[], _, hgd, rfl, fun e he => absurd he (by simp), fun _ => rfl⟩
      show wpAny _ _ (Builtin.ObjectAttr.storeInDict h.objs.size (.str name tk) name v) _ _ _
      unfold Builtin.ObjectAttr.storeInDict Builtin.ObjectAttr.newKeyGuard
      refine wpAny_bind (wpAny_pure (wpAny_bind (wpAny_nsSet1 (Heap.Ns1.of_empty hnd) fun h' hn' hs => ?_)))
      obtain ⟨oD, esD, epD, hoD, hdD, hcD⟩ := hn'.count (Within.cons name v Within.nil)
      refine wpAny_bind (wpAny_lookBehind hoD (by rw [hdD]; exact pastItsLine_dict (Nat.le_trans hcD (by rw [List.length_cons, List.length_nil, sizeLine_eq]; omega))) ?_)
      wp_walk
      have hx' : h'.get? x = some { cls := o.cls, dict := some h.objs.size, data := o.data, slots := o.slots } := by
        refine (hs.2 x hxs).trans (Heap.get?_update_self _ hx₁ ?_)
        have hfr := (Heap.get?_some_iff.mp hx).2
        obtain ⟨oc, od, odt, osl⟩ := o
        cases odt <;> first | rfl | exact hfr
      refine hq h' _ ⟨{ cls := o.cls, dict := some h.objs.size, data := o.data, slots := o.slots }, hx', hc, hnc, .inr ⟨h.objs.size, rfl, hxs.symm, ?_⟩⟩ ⟨fun b ob hbx _ hb => ?_,
        fun o₀ h₀ => by obtain rfl : o = o₀ := Option.some.inj (hx.symm.trans h₀); exact ⟨_, hx', rfl, rfl, rfl, fun dx e => by rw [hdn] at e; cases e⟩,
        fun o₁ dx e1 e2 => by
          rw [hx'] at e1
          cases e1
          cases e2
          exact .inr (Heap.get?_none_of_le (Nat.le_refl _))⟩
      · obtain ⟨o', es, ep, e1, e2, e3, eu, e4⟩ := hn'
        exact ⟨o', es, ep, e1, e2, e3, eu, fun y => by rw [e4 y]; by_cases hy : y = name <;> simp [hy, hmA]⟩
      · exact (hs.2 b (Nat.ne_of_lt (Heap.lt_size hb))).trans ((Heap.get?_update_ne _ _ _ _ hbx).trans (Heap.get?_push_of_some _ hb))
  · rw [hdx]
    refine wpAny_pure ?_
    show wpAny _ _ (Builtin.ObjectAttr.storeInDict dx (.str name tk) name v) _ _ _
    unfold Builtin.ObjectAttr.storeInDict Builtin.ObjectAttr.newKeyGuard
    refine wpAny_bind (wpAny_pure (wpAny_bind (wpAny_nsSet1 hns fun h' hn' hs => ?_)))
    obtain ⟨oD, esD, epD, hoD, hdD, hcD⟩ := hn'.count (Within.cons name v hw)
    refine wpAny_bind (wpAny_lookBehind hoD (by rw [hdD]; exact pastItsLine_dict (Nat.le_trans hcD (by rw [List.length_cons, sizeLine_eq]; omega))) ?_)
    wp_walk
    have hx' : h'.get? x = some o := (hs.2 x hne.symm).trans hx
    refine hq h' _ ⟨o, hx', hc, hnc, .inr ⟨dx, hdx, hne, hn'⟩⟩ ⟨fun b ob _ hbd hb => ?_,
      fun o₀ h₀ => ⟨o₀, (hs.2 x hne.symm).trans h₀, rfl, rfl, rfl, fun _ e => e⟩,
      fun o₁ dx' e1 e2 => .inl ⟨o, hx, by rw [hx'] at e1; cases e1; exact e2⟩⟩
    exact (hs.2 b (hbd o dx hx hdx)).trans hb
end
end
section
open PySem PySem.W PySem.Calls PySem.Spec
section
variable {w : World} {A : Around} {E : Value → Shared → Prop} {h : Heap} {g : Array GenState} {d : Drawn} {t : Nat} {os : OsState} {x : Addr} {mA : Str → Option Value} {name : Str} {v : Value}
theorem flt_hl (X : (KP w.params).In h) : Looks (model pw w) h (typeLookup (.ref 59) "__setattr__") (some (.builtin "object.__setattr__")) := looks_findIn X (by k_is)
theorem flt_hi (X : (KP w.params).In h) : Looks (model pw w) h (isSubtype (.ref 59) (.type "object")) true := looks_mroIn X (by k_is)
theorem flt_set {Q : Unit → Shared → Prop} {ns : List Str} (X : (KP w.params).In h) (hname : findIn (KP w.params) (.ref 59) name = some none) (I : h.Inst x 59 mA)
    (hq : ∀ h' tk', h'.Inst x 59 (fun y => if y = name then some v else mA y) → FltKept x h h' → Q () ⟨h', g, d, tk', os⟩) (hw : Within mA ns) (hsz : ns.length ≤ 100) :
    wpAny (model pw w) A (setAttr (.ref x) name v) Q E ⟨h, g, d, t, os⟩ := by
  have SF := PySem.F.store_Exception
  obtain ⟨o, hx, hc, _⟩ := id I
  have f3 := SF.slot.bind (.ref x)
  have ht : Looks (model pw w) h (typeOf (.ref x)) (.ref 59) := by
    refine (Looks.ld hx).andThen ?_
    rw [hc]
    exact .now
  have hl := flt_hl X
  have hi : Looks (model pw w) h (isInstance (.ref x) (.type "object")) true := ht.andThen (flt_hi X)
  unfold setAttr callSpecial? specialOf
  repeat (first | with_reducible refine ht.at ?_ | with_reducible refine hl.at ?_ | wp_step)
  show codeAny _ _ (.call (.builtin "object.__setattr__") ⟨[.ref x, .str name t, v], []⟩) _ _
  have ha : argsOk "object.__setattr__" ⟨.ref x :: [.str name t, v], []⟩ := SF.args (.ref x) (.str name t) v
  refine codeAny_call_builtin SF.slot.plain SF.entry ?_
  trace "A"
  have c := @check_slot (model pw w) A.in1 (fun e s' => E e s') ⟨h, g, d, t+1, os⟩ "object.__setattr__" "object" "__setattr__" (.ref x) [.str name t, v] []
  trace "C"
  have c1 := fun Q => @c Q SF.kind SF.split
  trace "D"
  have c2 := fun Q => c1 Q hi
  trace "E"
  have c3 := fun Q => c2 Q ha
  trace "F"
  have c4 := fun (Q : Unit → Shared → Prop) (q : Q () ⟨h, g, d, t+1, os⟩) => c3 Q q
  trace "G"
  with_reducible refine c4 _ ?_
  trace "H"
  refine flt_store_entry X hname I (fun h' tk' I' hk => ?_) hw hsz
  repeat wp_step
  exact hq h' tk' I' hk
end
end
section
open PySem PySem.W PySem.Calls PySem.Spec
section
variable {w : World} {A : Around} {E : Value → Shared → Prop} {h : Heap} {g : Array GenState} {d : Drawn} {t : Nat} {os : OsState} {x : Addr} {mA : Str → Option Value} {name : Str} {v : Value}
theorem exc_init_entry {Q : PySem.Fin → Shared → Prop} {ta : Addr} {dd : Option Addr} {sl : Array (Option Value)} (hx : h.get? x = some ⟨.ref 59, dd, .fields #[.ref ta, .none, .none, .none, .bool false, .none], sl⟩)
    (hq : ∀ h', (∀ b o, b ≠ x → h.get? b = some o → h'.get? b = some o) → h'.get? x = some ⟨.ref 59, dd, .fields #[.ref h.objs.size, .none, .none, .none, .bool false, .none], sl⟩ → Q (.done (.ret .none)) ⟨h', g, d, t, os⟩) :
    wpAny (model pw w) A (Builtin.«BaseException.__init__» ⟨[.ref x, v], []⟩) Q E ⟨h, g, d, t, os⟩ := by
  unfold Builtin.«BaseException.__init__» Builtin.BaseException.bexcPut
  repeat (first | with_reducible refine wpAny_loadPart_at hx ?_ | wp_step)
  refine hq _ (fun b o hb e => (Heap.get?_update_ne _ _ _ _ hb).trans (Heap.get?_push_of_some _ e)) ?_
  exact Heap.get?_update_self _ (Heap.get?_push_of_some _ hx) rfl
theorem exc_init {R : Result → Shared → Prop} {ta : Addr} {dd : Option Addr} {sl : Array (Option Value)} (X : (KP w.params).In h) (hx : h.get? x = some ⟨.ref 59, dd, .fields #[.ref ta, .none, .none, .none, .bool false, .none], sl⟩)
    (hq : ∀ h', (∀ b o, b ≠ x → h.get? b = some o → h'.get? b = some o) → h'.get? x = some ⟨.ref 59, dd, .fields #[.ref h.objs.size, .none, .none, .none, .bool false, .none], sl⟩ → R (.ok (.ret .none)) ⟨h', g, d, t, os⟩) :
    codeAny (model pw w) A (.call (.builtin "Exception.__init__") ⟨[.ref x, v], []⟩) R ⟨h, g, d, t, os⟩ := by
  have F := PySem.F.excCall_Exception
  have ht : Looks (model pw w) h (typeOf (.ref x)) (.ref 59) := (Looks.ld hx).andThen .now
  have hm : Looks (model pw w) h (isSubtype (.ref 59) (.type "Exception")) true := looks_mroIn X (by k_is)
  have hi : Looks (model pw w) h (isInstance (.ref x) (.type "Exception")) true := ht.andThen hm
  have hstar := F.noStar
  refine codeAny_call_builtin (by decide +kernel) F.initEntry ?_
  simp only [checkBuiltinCall, F.initKind, F.initSplit, F.initRow]
  have hC := flt_at X
  have hcB : ((Value.ref 59) :: [.ref 39, .type "Exception", .type "BaseException", .type "object"]).contains (.type "Exception") = true := by decide +kernel
  repeat (first | (with_reducible refine wpAny_loadPart_at hx ?_) | with_reducible refine wpAny_loadPart_at hC ?_ | (with_reducible refine wpAny_isSubtype_exc hC ?_; rw [hcB]) | wp_step)
  exact hq _ (fun b o hb e => (Heap.get?_update_ne _ _ _ _ hb).trans (Heap.get?_push_of_some _ e)) (Heap.get?_update_self _ (Heap.get?_push_of_some _ hx) rfl)
end
end
section
open PySem PySem.W PySem.Calls PyProof.Rows PySem.Spec
theorem exc_m1 : typeOf (.type "Exception") = pure (.type "type") := by kernel_rfl
theorem exc_m2 : Manifest.isStub "Exception" = false := by decide +kernel
theorem exc_m3 (w : World) : findCls (KP w.params) (.type "Exception") (.type "type") (Str.ofString "__init__") = some (.val (.builtin "Exception.__init__")) := by k_is
theorem exc_m4 : handedIn (.builtin "Exception.__init__") = true := by decide +kernel
theorem fr_keep {G : Heap} {L : Addr} {h h' : Heap} {m : Str → Option Value} (F : Fr G L h m) (k : ∀ o, h.get? L = some o → h'.get? L = some o) (kG : ∀ b o, G.get? b = some o → h'.get? b = some o) : Fr G L h' m :=
  let ⟨o, es, ep, a, r⟩ := F.ns
  ⟨⟨o, es, ep, k _ a, r⟩, kG, F.above⟩
noncomputable def FD (x : Addr) (h : Heap) : Prop := ∃ o t, h.get? x = some o ∧ o.data = .fields #[.ref t, .none, .none, .none, .bool false, .none]
theorem FD.store {x : Addr} {h h' : Heap} (D : FD x h) (K : FltKept x h h') : FD x h' := by
  obtain ⟨o, t, a, b⟩ := D
  obtain ⟨o₁, c, _, e, _⟩ := K.2.1 o a
  exact ⟨o₁, t, c, e.trans b⟩
/-- what building the exception x has kept of h -/
noncomputable def Bld (x : Addr) (h h' : Heap) : Prop := (∀ b o, b ≠ x → h.get? b = some o → h'.get? b = some o) ∧ ∀ o dx, h'.get? x = some o → o.dict = some dx → h.get? dx = none
theorem Bld.store {x : Addr} {h h₁ h₂ : Heap} (B : Bld x h h₁) {o₁ : Obj} (hx : h₁.get? x = some o₁) (K : FltKept x h₁ h₂) : Bld x h h₂ := by
  refine ⟨fun b o hb e => K.1 b o hb (fun o₀ dx e₀ e₁ q => ?_) (B.1 b o hb e), fun o dx e e₁ => ?_⟩
  · rw [q, B.2 o₀ dx e₀ e₁] at e
    cases e
  · rcases K.2.2 o dx e e₁ with ⟨o₀, a, b⟩ | n
    · exact B.2 o₀ dx a b
    · cases q : h.get? dx with
      | none => rfl
      | some o' =>
        have ne : dx ≠ x := fun r => by rw [r, hx] at n; cases n
        rw [B.1 dx o' ne q] at n
        cases n
set_option maxHeartbeats 1000000 in
theorem chan_init {w : World} {mean : ExcName → Option Value} {mg mb : Str → Option Value} {G : Heap} {A : Around} {h : Heap} {g : Array GenState} {d : Drawn} {t : Nat} {os : OsState} {L x : Addr} {m : Str → Option Value} {v : Value} {R : Result → Shared → Prop}
    (hA : Rm A 3) (X : (KP w.params).In G) (T : Top topProg lsT mean mg mb G) (F : Fr G L h m) {ta : Addr} (hx : h.get? x = some (excNew ta)) (hG : G.get? x = none) (hLx : L ≠ x)
    (ret : ∀ h' tk', Fr G L h' m → (∀ b o, b ≠ x → h.get? b = some o → h'.get? b = some o) → (∀ o dx, h'.get? x = some o → o.dict = some dx → h.get? dx = none) → FD x h' → h'.Inst x 59 (fun y => if y = Str.ofString "spot" then some (.int 0 208) else if y = Str.ofString "message" then some v else none) → R (.ok (.ret .none)) ⟨h', g, d, tk', os⟩) :
    codeAny (model pw w) A (.call (.ref 36) ⟨[.ref x, v], []⟩) R ⟨h, g, d, t, os⟩ := by
  refine callG (s := ⟨h, g, d, t, os⟩) (binds := [(Str.ofString "self", .ref x), (Str.ofString "message", v), (Str.ofString "spot", .int 0 208)]) X T F (Nat.lt_of_le_of_lt (Nat.le_add_right _ _) hA.dp) (by k_is) (by k_is) (binds_K (X.keeps F.keep) rfl (by k_is) rfl rfl rfl) (locs rfl) rfl rfl rfl (by decide) fun L' h₁ oL hL eL F₁ k₁ => ?_
  try dsimp only
  repeat' (first | walk1 | (dsimp only; walk1) | walk_at "THEN")
  refine' method_type (K := KP w.params) (v := .builtin "Exception.__init__") (h₀ := G) ?F ?X ?m ?n ?e ?hh ?h
  case F => exact F₁
  case X => exact X
  case m => exact exc_m1
  case n => exact exc_m2
  case e => exact exc_m3 w
  case hh => exact exc_m4
  repeat (first | walk1 | walk_at "THEN")
  refine wpAny_call (exc_init (X.keeps F₁.keep) (k₁ _ _ hx) fun h2 k2 hx2 => ?_)
  try dsimp only
  have hLx' : L' ≠ x := fun q => Nat.lt_irrefl h.objs.size (Nat.lt_of_le_of_lt (Nat.le_of_eq (show h.objs.size = x from eL.symm.trans q)) (Heap.lt_size hx))
  have F2 : Fr G L' h2 _ := fr_keep F₁ (fun o => k2 _ o hLx') (fun b o e => k2 b o (fun q => by rw [q, hG] at e; cases e) (F₁.keep b o e))
  repeat' (first | walk1 | (dsimp only; walk1) | walk_at "THEN")
  have I2 : h2.Inst x 59 (fun _ => none) := ⟨_, hx2, rfl, fun c => nofun, .inl ⟨rfl, fun _ => rfl⟩⟩
  have B2 : Bld x h₁ h2 := ⟨k2, fun o dx e e' => by rw [hx2] at e; cases e; cases e'⟩
  refine flt_set (ns := []) (X.keeps F2.keep) (by k_is) I2 (fun h3 tk3 I3 K3 => ?_) Within.nil (by decide)
  have B3 := B2.store hx2 K3
  have F3 : Fr G L' h3 _ := fr_keep F₁ (fun o => B3.1 _ o hLx') (fun b o e => B3.1 b o (fun q => by rw [q, hG] at e; cases e) (F₁.keep b o e))
  repeat' (first | walk1 | (dsimp only; walk1) | walk_at "THEN")
  obtain ⟨o3, hx3, r3⟩ := id I3
  refine flt_set (ns := [Str.ofString "message"]) (X.keeps F3.keep) (by k_is) I3 (fun h4 tk4 I4 K4 => ?_) (Within.cons _ _ Within.nil) (by decide)
  have B4 := B3.store hx3 K4
  have F4 : Fr G L' h4 _ := fr_keep F₁ (fun o => B4.1 _ o hLx') (fun b o e => B4.1 b o (fun q => by rw [q, hG] at e; cases e) (F₁.keep b o e))
  repeat' (first | walk1 | (dsimp only; walk1) | walk_at "THEN")
  refine ret _ _ (fr_keep F (fun o e => B4.1 _ o hLx (k₁ _ _ e)) F4.keep) (fun b o hb e => B4.1 b o hb (k₁ _ _ e)) (fun o dx e e' => ?_) ((FD.store ⟨_, _, hx2, rfl⟩ K3).store K4) I4
  cases q : h.get? dx with
  | none => rfl
  | some o' => exact absurd (k₁ _ _ q) (by rw [B4.2 o dx e e']; nofun)
end
section
open PySem PySem.W PySem.Calls PyProof.Rows PySem.Spec
theorem Rm.deeper {A : Around} {n : Nat} {env : Env} (h : Rm A (n + 1)) : Rm (A.deeper env) n :=
  ⟨h.hh, Nat.lt_of_le_of_lt (Nat.le_of_eq (by show A.depth + 1 + n = A.depth + (n + 1); omega)) h.dp, Nat.lt_of_le_of_lt (by show A.units + 3 + 16 * n ≤ A.units + 16 * (n + 1); omega) h.un⟩
theorem Rm.le {A : Around} {n k : Nat} (h : Rm A n) (le : k ≤ n) : Rm A k :=
  ⟨h.hh, Nat.lt_of_le_of_lt (Nat.add_le_add_left le _) h.dp, Nat.lt_of_le_of_lt (by omega) h.un⟩
noncomputable def fltM (kind msg : Value) : Str → Option Value := fun y => if y = Str.ofString "kind" then some kind else if y = Str.ofString "spot" then some (.int 0 208) else if y = Str.ofString "message" then some msg else none
inductive Halt (p : Prop) : Prop
  | mk (h : p)
  | mk2 (h : p)
theorem halt {p : Prop} (h : Halt p) : p := by cases h <;> assumption
local macro_rules | `(tactic| walk_at "callWith ref") => `(tactic| (with_unfolding_all (refine' callWith_K ?k1 ?k2 ?_; (case k1 => assumption); (case k2 => k_is))))
local macro_rules | `(tactic| walk_at "call ref") => `(tactic| (with_reducible refine halt ?_))
set_option maxHeartbeats 1000000 in
theorem fault_init {w : World} {mean : ExcName → Option Value} {mg mb : Str → Option Value} {G : Heap} {A : Around} {h : Heap} {g : Array GenState} {d : Drawn} {t : Nat} {os : OsState} {L x : Addr} {m : Str → Option Value} {kind msg : Value} {R : Result → Shared → Prop}
    (hA : Rm A 4) (X : (KP w.params).In G) (T : Top topProg lsT mean mg mb G) (F : Fr G L h m) {ta : Addr} (hx : h.get? x = some (excNew ta)) (hG : G.get? x = none) (hLx : L ≠ x)
    (ret : ∀ h' tk', Fr G L h' m → (∀ b o, b ≠ x → h.get? b = some o → h'.get? b = some o) → (∀ o dx, h'.get? x = some o → o.dict = some dx → h.get? dx = none) → FD x h' → h'.Inst x 59 (fltM kind msg) → R (.ok (.ret .none)) ⟨h', g, d, tk', os⟩) :
    codeAny (model pw w) A (.call (.ref 56) ⟨[.ref x, kind, msg], []⟩) R ⟨h, g, d, t, os⟩ := by
  refine callG (s := ⟨h, g, d, t, os⟩) (binds := [(Str.ofString "self", .ref x), (Str.ofString "kind", kind), (Str.ofString "message", msg)]) X T F (Nat.lt_of_le_of_lt (Nat.le_add_right _ _) hA.dp) (by k_is) (by k_is) (BindsTo.of_eq rfl) (locs rfl) rfl rfl rfl (by decide) fun L' h₁ oL hL eL F₁ k₁ => ?_
  try dsimp only
  repeat' (first | walk1 | (dsimp only; walk1) | walk_at "THEN")
  have hLx' : L' ≠ x := fun q => Nat.lt_irrefl h.objs.size (Nat.lt_of_le_of_lt (Nat.le_of_eq (show h.objs.size = x from eL.symm.trans q)) (Heap.lt_size hx))
  refine Halt.mk ?_
  refine wpAny_call (chan_init hA.deeper X T F₁ (k₁ _ _ hx) hG hLx' fun h3 tk3 F3 k3 n3 D3 I3 => ?_)
  have B3 : Bld x h₁ h3 := ⟨k3, n3⟩
  obtain ⟨o3, hx3, r3⟩ := id I3
  repeat' (first | walk1 | (dsimp only; walk1) | walk_at "THEN")
  refine flt_set (ns := [Str.ofString "spot", Str.ofString "message"]) (X.keeps F3.keep) (by k_is) I3 (fun h4 tk4 I4 K4 => ?_) (Within.cons _ _ (Within.cons _ _ Within.nil)) (by decide)
  have B4 := B3.store hx3 K4
  have F4 : Fr G L' h4 _ := fr_keep F₁ (fun o => B4.1 _ o hLx') (fun b o e => B4.1 b o (fun q => by rw [q, hG] at e; cases e) (F₁.keep b o e))
  repeat' (first | walk1 | (dsimp only; walk1) | walk_at "THEN")
  refine ret _ _ (fr_keep F (fun o e => B4.1 _ o hLx (k₁ _ _ e)) F4.keep) (fun b o hb e => B4.1 b o hb (k₁ _ _ e)) (fun o dx e e' => ?_) (D3.store K4) I4
  cases q : h.get? dx with
  | none => rfl
  | some o' => exact absurd (k₁ _ _ q) (by rw [B4.2 o dx e e']; nofun)
end
section
open PySem PySem.W PySem.Calls PyProof.Rows PySem.Spec
local macro_rules | `(tactic| walk_at "callWith ref") => `(tactic| (with_unfolding_all (refine' callWith_K ?k1 ?k2 ?_; (case k1 => assumption); (case k2 => k_is))))
local macro_rules | `(tactic| walk_at "call ref") => `(tactic| (with_reducible refine halt ?_))
section
open PySem PySem.W PySem.Calls PyProof.Rows PySem.Spec
theorem Rm.under {A : Around} {n : Nat} {c : Code} (h : Rm A (n + 1)) (hw : c.weight ≤ 1) (hu : c.cUnits ≤ 16) : Rm (A.under c) n :=
  ⟨h.hh, Nat.lt_of_le_of_lt (by show A.depth + c.weight + n ≤ A.depth + (n + 1); omega) h.dp, Nat.lt_of_le_of_lt (by show A.units + c.cUnits + 16 * n ≤ A.units + 16 * (n + 1); omega) h.un⟩
theorem tc_weight (rest : List Value) : (Code.builtin "type.__call__" ⟨.ref 59 :: rest, []⟩).weight ≤ 1 := by
  have : (Code.builtin "type.__call__" ⟨.ref 59 :: rest, []⟩).weight = 1 := by kernel_rfl
  omega
theorem tc_units (rest : List Value) : (Code.builtin "type.__call__" ⟨.ref 59 :: rest, []⟩).cUnits ≤ 16 := by
  have : (Code.builtin "type.__call__" ⟨.ref 59 :: rest, []⟩).cUnits = 1 := by kernel_rfl
  omega
theorem fault_new {w : World} {mean : ExcName → Option Value} {mg mb : Str → Option Value} {G : Heap} {A : Around} {h : Heap} {g : Array GenState} {d : Drawn} {t : Nat} {os : OsState} {L : Addr} {m : Str → Option Value} {kind msg : Value} {Q E : Value → Shared → Prop}
    (hA : Rm A 5) (X : (KP w.params).In G) (T : Top topProg lsT mean mg mb G) (F : Fr G L h m)
    (ret : ∀ h' e tk', (∀ b o, h.get? b = some o → h'.get? b = some o) → h.get? e = none → (∀ o dx, h'.get? e = some o → o.dict = some dx → h.get? dx = none) → FD e h' → h'.Inst e 59 (fltM kind msg) → Q (.ref e) ⟨h', g, d, tk', os⟩) :
    wpAny (model pw w) A (call (.ref 59) [kind, msg]) Q E ⟨h, g, d, t, os⟩ := by
  have k : ∀ b o, h.get? b = some o → ((h.push { cls := .type "tuple", data := .seq [kind, msg].toArray }).push (excNew h.objs.size)).get? b = some o := fun b o e => Heap.get?_push_of_some _ (Heap.get?_push_of_some _ e)
  have hx : ((h.push { cls := .type "tuple", data := .seq [kind, msg].toArray }).push (excNew h.objs.size)).get? (h.objs.size + 1) = some (excNew h.objs.size) := by heap_get
  have nx : h.get? (h.objs.size + 1) = none := Heap.get?_none_of_le (Nat.le_succ _)
  have hL := F.ns
  obtain ⟨oL, es, ep, hL, r⟩ := hL
  refine wpAny_call (flt_make (X.keeps F.keep) (by rw [sizeLine_eq]; show 2 ≤ _; omega) ?_)
  refine fault_init (hA.under (tc_weight _) (tc_units _)) X T (fr_keep F (fun o e => k _ _ e) (fun b o e => k _ _ (F.keep b o e))) hx ?_ ?_ fun h' tk' F' k' n' D' I' => ?_
  · cases q : G.get? (h.objs.size + 1) with
    | none => rfl
    | some o => rw [F.keep _ _ q] at nx; cases nx
  · exact fun q => by rw [q, nx] at hL; cases hL
  · refine And.intro rfl (ret h' _ tk' (fun b o e => k' b o (fun q => by rw [q, nx] at e; cases e) (k b o e)) nx (fun o dx e e' => ?_) D' I')
    have q := n' o dx e e'
    cases z : h.get? dx with
    | none => rfl
    | some o' => rw [k _ _ z] at q; cases q
end
section
open PySem PySem.W PySem.Calls PySem.Spec
/-- e flies (or stands at a frame) with its own dict known -/
structure Fly (B : Heap) (l : List Env) (e : Addr) (cls : Value) (dd : Option Addr) (fl : Value) (h : Heap) : Prop where
  st : B.StaysIn h
  en : B.get? e = none
  ff : h.FunFrames B l
  tb : ∃ oe vs T oT ts, h.get? e = some oe ∧ oe.cls = cls ∧ oe.dict = dd ∧ oe.data = .fields vs ∧ vs[1]? = some (.ref T) ∧ B.get? T = none ∧ T ≠ e ∧ h.get? T = some oT ∧ oT.data = .fields ts ∧ ts[3]? = some fl
theorem dict_mf (f : Array Value → Array Value) (o : Obj) : (Obj.mapFields f o).dict = o.dict := by
  obtain ⟨c, d, dt, sl⟩ := o
  cases dt <;> rfl
variable {M : Model} {A : Around} {E : Value → Shared → Prop} {s : Shared}
theorem fly_entry {B : Heap} {env : Env} {outer : List Env} {L e : Addr} {oe : Obj} {vs : Array Value} {head : Value} {hn : Bool} {Q : Unit → Shared → Prop}
    (hfr : A.frames = some (env :: outer)) (hf : env.frame = some L) (ff : s.heap.FunFrames B (env :: outer)) (st : B.StaysIn s.heap) (en : B.get? e = none)
    (he : s.heap.get? e = some oe) (hd : oe.data = .fields vs) (hz : 1 < vs.size)
    (q : ∀ h', Fly B (env :: outer) e oe.cls oe.dict (rawInt L) h' → s.heap.UpToSlots h' → Q () { s with heap := h' }) :
    wpAny M A (do let a ← frameOf env; let pl ← entryPlaceOf L hn; let b ← EntryCells.newEntry head a .none (rawInt L) .none pl; setField (.ref e) 1 b) Q E s := by
  have off : e ∉ (env :: outer).filterMap (·.frame) := fun i => by
    obtain ⟨_, o, a, b⟩ := ff.mem i
    rw [he] at a
    cases a
    exact b vs hd
  refine wpAny_bind (wpAny_frameOf_fun hfr ff hf fun h₁ hs => ?_)
  refine wpAny_bind (wpAny_entryPlaceOf fun pl hpl => ?_)
  unfold EntryCells.newEntry newFields
  refine wpAny_bind (wpAny_newObj_type ?_ (hpl.sizeOk5 _ _ _ _ _))
  have he1 : h₁.get? e = some oe := (hs.2.1 e off).trans he
  have st1 : B.StaysIn h₁ := fun b o hb => (hs.2.1 b fun i => by rw [(ff.mem i).1] at hb; cases hb).trans (st b o hb)
  generalize hTo : ({ cls := .type "traceback", dict := none, data := .fields ([head, .ref L, .none, rawInt L, .none] ++ (if pl.isEmpty then List.replicate 6 Value.none else pl)).toArray } : Obj) = oT
  have hTd : oT.data = .fields ([head, .ref L, .none, rawInt L, .none] ++ (if pl.isEmpty then List.replicate 6 Value.none else pl)).toArray := by rw [← hTo]
  have hTn : oT.isFreed = false := Obj.isFreed_of_fields hTd
  have he2 := Heap.get?_push_of_some oT he1
  refine wpAny_setField he2 hd hz ?_
  have ne : h₁.objs.size ≠ e := Nat.ne_of_gt (Heap.lt_size he1)
  have hd3 := Obj.data_mapFields hd (·.setIfInBounds 1 (Value.ref h₁.objs.size))
  have keep : ∀ b o, b ≠ e → h₁.get? b = some o → ((h₁.push oT).update e (Obj.mapFields (·.setIfInBounds 1 (Value.ref h₁.objs.size)))).get? b = some o := fun b o hb g => by
    rw [Heap.get?_update_other _ _ (Ne.symm hb)]
    exact Heap.get?_push_of_some _ g
  have noRec : ∀ b o, s.heap.get? b = some o → (∀ vs, o.data ≠ .fields vs) → b ≠ e := fun b o hb hnf q => by
    rw [q, he] at hb
    cases hb
    exact hnf vs hd
  have up : s.heap.UpToSlots ((h₁.push oT).update e (Obj.mapFields (·.setIfInBounds 1 (Value.ref h₁.objs.size)))) := fun b o hb hnf => by
    obtain ⟨sl, g⟩ := hs.2.2 b o hb
    exact ⟨sl, keep b _ (noRec b o hb hnf) g⟩
  refine q _ ⟨fun b o hb => keep b o (fun z => by rw [z, en] at hb; cases hb) (st1 b o hb), en, ff.of_keeps fun b o hb hnf => ?_, ?_⟩ up
  · obtain ⟨sl, g⟩ := up b o hb hnf
    exact ⟨_, g, rfl⟩
  · refine ⟨_, _, h₁.objs.size, oT, _, Heap.get?_update_self _ he2 (Obj.isFreed_of_fields hd3), Obj.cls_mapFields _ _, ?_, hd3, by simp [hz], st1.fresh, ne, ?_, hTd, ?_⟩
    · exact dict_mf _ _
    · rw [Heap.get?_update_other _ _ (Ne.symm ne)]
      exact Heap.get?_push_size h₁ hTn
    · first | (simp; done) | (rcases hpl with rfl | ⟨_, _, _, _, _, _, _, rfl⟩ <;> simp)
/-- the mark of flight is taken off -/
theorem fly_lands {B : Heap} {l : List Env} {e : Addr} {cls : Value} {dd : Option Addr} {fl : Value} {Q : Unit → Shared → Prop} (F : Fly B l e cls dd fl s.heap)
    (q : ∀ h', Fly B l e cls dd .none h' → s.heap.UpToSlots h' → Q () { s with heap := h' }) : wpAny M A (setFlight (.ref e) none) Q E s := by
  obtain ⟨st, en, ff, oe, vs, T, oT, ts, he, hc, hdd, hd, h1, hnT, hTe, hT, hdT, h3⟩ := F
  have z3 : 3 < ts.size := (Array.getElem?_eq_some_iff.mp h3).1
  have other : ∀ b, b ≠ T → (s.heap.update T (Obj.mapFields (·.setIfInBounds 3 ((none : Option Addr).elim Value.none fun f => rawInt f)))).get? b = s.heap.get? b :=
    fun b hb => Heap.get?_update_other _ _ (Ne.symm hb)
  have noRec : ∀ b o, s.heap.get? b = some o → (∀ vs, o.data ≠ .fields vs) → b ≠ T := fun b o hb hnf z => by
    rw [z, hT] at hb
    cases hb
    exact hnf ts hdT
  unfold setFlight
  refine wpAny_bind (wpAny_field he hd h1 ?_)
  rw [if_pos (show (Value.ref T != Value.none) = true from by simp)]
  refine wpAny_setField hT hdT z3 (q _ ⟨fun b o hb => (other b fun z => by rw [z, hnT] at hb; cases hb).trans (st b o hb), en,
    ff.of_keeps fun b o hb hnf => ⟨o, (other b (noRec b o hb hnf)).trans hb, rfl⟩,
    oe, vs, T, _, _, (other e (Ne.symm hTe)).trans he, hc, hdd, hd, h1, hnT, hTe, Heap.get?_update_self _ hT (Obj.isFreed_of_fields (Obj.data_mapFields hdT _)), Obj.data_mapFields hdT _, by simp [z3]⟩
    fun b o hb hnf => ⟨o.slots, (other b (noRec b o hb hnf)).trans hb⟩)
/-- a frame is noted on e that has none yet -/
theorem fly_note0 {B : Heap} {env : Env} {outer : List Env} {L e : Addr} {oe : Obj} {vs : Array Value} {Q : Unit → Shared → Prop}
    (hfr : A.frames = some (env :: outer)) (hf : env.frame = some L) (ff : s.heap.FunFrames B (env :: outer)) (st : B.StaysIn s.heap) (en : B.get? e = none)
    (he : s.heap.get? e = some oe) (hd : oe.data = .fields vs) (h1 : vs[1]? = some .none)
    (q : ∀ h', Fly B (env :: outer) e oe.cls oe.dict (rawInt L) h' → s.heap.UpToSlots h' → Q () { s with heap := h' }) : wpAny M A (noteFrame (.ref e) env) Q E s := by
  unfold noteFrame
  simp only [hf]
  refine wpAny_bind (wpAny_field he hd h1 ?_)
  rw [if_neg (by decide)]
  exact fly_entry hfr hf ff st en he hd (Array.getElem?_eq_some_iff.mp h1).1 q
theorem fly_note {B : Heap} {env : Env} {outer : List Env} {L e : Addr} {cls : Value} {dd : Option Addr} {Q : Unit → Shared → Prop}
    (hfr : A.frames = some (env :: outer)) (hf : env.frame = some L) (F : Fly B (env :: outer) e cls dd .none s.heap)
    (q : ∀ h', Fly B (env :: outer) e cls dd (rawInt L) h' → s.heap.UpToSlots h' → Q () { s with heap := h' }) : wpAny M A (noteFrame (.ref e) env) Q E s := by
  obtain ⟨st, en, ff, oe, vs, T, oT, ts, he, hc, hdd, hd, h1, hnT, hTe, hT, hdT, h3⟩ := F
  subst hc
  subst hdd
  unfold noteFrame
  simp only [hf]
  refine wpAny_bind (wpAny_field he hd h1 ?_)
  rw [if_pos (show (Value.ref T != Value.none) = true from by simp)]
  refine wpAny_bind (wpAny_field hT hdT h3 ?_)
  rw [if_neg (show ¬ ((Value.none == rawInt L) = true) from by simp [rawInt])]
  refine wpAny_bind (wpAny_setField hT hdT (Array.getElem?_eq_some_iff.mp h3).1 ?_)
  have other : ∀ b, b ≠ T → (s.heap.update T (Obj.mapFields (·.setIfInBounds 3 Value.none))).get? b = s.heap.get? b := fun b hb => Heap.get?_update_other _ _ (Ne.symm hb)
  have noRec : ∀ b o, s.heap.get? b = some o → (∀ vs, o.data ≠ .fields vs) → b ≠ T := fun b o hb hnf z => by
    rw [z, hT] at hb
    cases hb
    exact hnf ts hdT
  exact fly_entry hfr hf (ff.of_keeps fun b o hb hnf => ⟨o, (other b (noRec b o hb hnf)).trans hb, rfl⟩) (fun b o hb => (other b fun z => by rw [z, hnT] at hb; cases hb).trans (st b o hb)) en
    ((other e (Ne.symm hTe)).trans he) hd (Array.getElem?_eq_some_iff.mp h1).1 fun h' F' up => q h' F' fun b o hb hnf => up b o ((other b (noRec b o hb hnf)).trans hb) hnf
theorem Fly.less {B : Heap} {env : Env} {outer : List Env} {e : Addr} {cls : Value} {dd : Option Addr} {fl : Value} {h : Heap} (F : Fly B (env :: outer) e cls dd fl h) : Fly B outer e cls dd fl h :=
  ⟨F.st, F.en, F.ff.2.2, F.tb⟩
theorem fly_leave0 {B : Heap} {env : Env} {outer : List Env} {L e : Addr} {oe : Obj} {vs : Array Value} {Q : Unit → Shared → Prop}
    (hfr : A.frames = some (env :: outer)) (hf : env.frame = some L) (ff : s.heap.FunFrames B (env :: outer)) (st : B.StaysIn s.heap) (en : B.get? e = none)
    (he : s.heap.get? e = some oe) (hd : oe.data = .fields vs) (h1 : vs[1]? = some .none)
    (q : ∀ h', Fly B outer e oe.cls oe.dict .none h' → s.heap.UpToSlots h' → Q () { s with heap := h' }) : wpAny M A (leaving env (.ref e)) Q E s := by
  unfold leaving
  refine wpAny_bind (fly_note0 hfr hf ff st en he hd h1 fun h' F up => ?_)
  exact fly_lands (s := { s with heap := h' }) F fun h2 F2 up2 => q h2 F2.less (up.trans up2)
theorem fly_leave {B : Heap} {env : Env} {outer : List Env} {L e : Addr} {cls : Value} {dd : Option Addr} {Q : Unit → Shared → Prop}
    (hfr : A.frames = some (env :: outer)) (hf : env.frame = some L) (F : Fly B (env :: outer) e cls dd .none s.heap)
    (q : ∀ h', Fly B outer e cls dd .none h' → s.heap.UpToSlots h' → Q () { s with heap := h' }) : wpAny M A (leaving env (.ref e)) Q E s := by
  unfold leaving
  refine wpAny_bind (fly_note hfr hf F fun h' F up => ?_)
  exact fly_lands (s := { s with heap := h' }) F fun h2 F2 up2 => q h2 F2.less (up.trans up2)
/-- noted again at the frame where it stands -/
theorem fly_again {B : Heap} {env : Env} {l : List Env} {L e : Addr} {cls : Value} {dd : Option Addr} {Q : Unit → Shared → Prop} (hf : env.frame = some L) (F : Fly B l e cls dd (rawInt L) s.heap) (q : Q () s) :
    wpAny M A (noteFrame (.ref e) env) Q E s := by
  obtain ⟨st, en, ff, oe, vs, T, oT, ts, he, hc, hdd, hd, h1, hnT, hTe, hT, hdT, h3⟩ := F
  unfold noteFrame
  simp only [hf]
  refine wpAny_bind (wpAny_field he hd h1 ?_)
  rw [if_pos (show (Value.ref T != Value.none) = true from by simp)]
  refine wpAny_bind (wpAny_field hT hdT h3 ?_)
  rw [if_pos (show (rawInt L == rawInt L) = true from by simp)]
  exact wpAny_pure q
end
section
open PySem PySem.W PySem.Calls PyProof.Rows PySem.Spec
theorem raise_own {M : Model} {A : Around} {E : Value → Shared → Prop} {s : Shared} {env : Env} {x : Sem Value} {Q : Flow → Shared → Prop} (hh : A.handled = none)
    (h : wpAny M A x (fun v s₁ => ∃ e o t, v = .ref e ∧ s₁.heap.get? 59 = some fltCls ∧ s₁.heap.get? e = some o ∧ o.cls = .ref 59 ∧ o.data = .fields #[.ref t, .none, .none, .none, .bool false, .none] ∧ E (.ref e) s₁) E s) :
    wpAny M A (raiseStmt env (some x) none) Q E s := by
  have hcB : ((Value.ref 59) :: [.ref 39, .type "Exception", .type "BaseException", .type "object"]).contains (.type "BaseException") = true := by decide +kernel
  unfold raiseStmt
  refine wpAny_bind (wpAny_mono h (fun v s₁ h₁ => ?_) fun _ _ x => x)
  obtain ⟨e, o, t, rfl, hC, he, hc, hd, hE⟩ := h₁
  obtain ⟨oc, odd, odt, osl⟩ := o
  dsimp only at hc hd
  subst hc
  subst hd
  obtain ⟨hp, g, d, tk, os⟩ := s₁
  repeat (first | with_reducible refine wpAny_loadPart_at he ?_ | with_reducible refine wpAny_loadPart_at hC ?_ | (with_reducible refine wpAny_isSubtype_exc hC ?_; rw [hcB]) | wp_step)
  exact wpAny_raiseNew_none hh hE
theorem Raise_own {M : Model} {A : Around} {E : Value → Shared → Prop} {s : Shared} {env : Env} {x : Expr} {pos : Pos} {Q : Flow → Shared → Prop} (hh : A.handled = none)
    (h : wpAny M A (eval x env) (fun v s₁ => ∃ e o t, v = .ref e ∧ s₁.heap.get? 59 = some fltCls ∧ s₁.heap.get? e = some o ∧ o.cls = .ref 59 ∧ o.data = .fields #[.ref t, .none, .none, .none, .bool false, .none] ∧ E (.ref e) s₁) E s) :
    wpAny M A (exec (.Raise (some x) none pos) env) Q E s := by
  rw [arm_exec_Raise]
  first
    | exact wpAny_bind (wpAny_standAt (raise_own hh (wpAny_bind (wpAny_mono h (fun v s₁ h₁ => wpAny_bind (wpAny_standAt (wpAny_pure h₁))) fun _ _ x => x))))
    | (simp only [evalOpt, Option.map]; exact wpAny_bind (wpAny_standAt (raise_own hh (wpAny_bind (wpAny_mono h (fun v s₁ h₁ => wpAny_bind (wpAny_standAt (wpAny_pure h₁))) fun _ _ x => x)))))
    | (show wpAny M A (do standAt pos; raiseStmt env (some (do let v ← eval x env; standAt pos; pure v)) none) Q E s; exact wpAny_bind (wpAny_standAt (raise_own hh (wpAny_bind (wpAny_mono h (fun v s₁ h₁ => wpAny_bind (wpAny_standAt (wpAny_pure h₁))) fun _ _ x => x)))))
end
section
open PySem PySem.W PySem.Calls PyProof.Rows PySem.Spec
/-- what stands apart from the frames: a ground of its own for an exception's way -/
structure Base (B G : Heap) (L : Addr) (l : List (Addr × Obj)) (fs : List Env) : Prop where
  sub : ∀ b o, B.get? b = some o → G.get? b = some o ∨ (b, o) ∈ l
  fr : ∀ env ∈ fs, env.scope.kind ≠ .module ∧ ∃ Lf, env.frame = some Lf ∧ B.get? Lf = none ∧ (Lf = L ∨ ∃ o, (Lf, o) ∈ l ∧ ∀ vs, o.data ≠ .fields vs)
theorem Base.stays {B G : Heap} {L : Addr} {l : List (Addr × Obj)} {fs : List Env} {h : Heap} {m : Str → Option Value} (S : Base B G L l fs) (F : Fr G L h m) (N : News G L h l) : B.StaysIn h := fun b o e =>
  (S.sub b o e).elim (F.keep b o) fun i => (N _ i).1
theorem funs_of {B h : Heap} : ∀ {fs : List Env}, (∀ env ∈ fs, env.scope.kind ≠ .module ∧ ∃ Lf, env.frame = some Lf ∧ B.get? Lf = none ∧ ∃ o, h.get? Lf = some o ∧ ∀ vs, o.data ≠ .fields vs) → h.FunFrames B fs
  | [], _ => trivial
  | env :: fs, k => by
    obtain ⟨a, Lf, b, c, o, d, e⟩ := k env (.head _)
    exact ⟨a, ⟨Lf, o, b, c, d, e⟩, funs_of fun x hx => k x (.tail _ hx)⟩
theorem fr_obj {G h : Heap} {L : Addr} {m : Str → Option Value} (F : Fr G L h m) : ∃ o, h.get? L = some o ∧ ∀ vs, o.data ≠ .fields vs := by
  obtain ⟨o, es, ep, a, b, _⟩ := F.ns
  exact ⟨o, a, fun vs q => by rw [b] at q; cases q⟩
theorem Base.funs {B G : Heap} {L : Addr} {l : List (Addr × Obj)} {fs : List Env} {h : Heap} {m : Str → Option Value} (S : Base B G L l fs) (F : Fr G L h m) (N : News G L h l) : h.FunFrames B fs := by
  refine funs_of fun env hx => ?_
  obtain ⟨a, Lf, b, c, d⟩ := S.fr env hx
  refine ⟨a, Lf, b, c, ?_⟩
  rcases d with rfl | ⟨o, d, e⟩
  · exact fr_obj F
  · exact ⟨o, (N _ d).1, e⟩
theorem Base.deeper {B G : Heap} {L L' : Addr} {l : List (Addr × Obj)} {fs : List Env} {h : Heap} {m : Str → Option Value} {oL : Obj} {env : Env} (S : Base B G L l fs) (F : Fr G L h m) (N : News G L h l) (hL : h.get? L = some oL)
    (eL : L' = h.objs.size) (hf : env.frame = some L') (hk : env.scope.kind ≠ .module) : Base B G L' (l ++ [(L, oL)]) (env :: fs) := by
  refine ⟨fun b o e => (S.sub b o e).imp id fun i => List.mem_append_left _ i, fun x hx => ?_⟩
  rcases List.mem_cons.mp hx with rfl | hx
  · refine ⟨hk, L', hf, ?_, .inl rfl⟩
    cases q : B.get? L' with
    | none => rfl
    | some o => exact absurd (Heap.lt_size (S.stays F N _ _ q)) (by rw [eL]; exact Nat.lt_irrefl _)
  · obtain ⟨a, Lf, b, c, d⟩ := S.fr x hx
    refine ⟨a, Lf, b, c, .inr ?_⟩
    rcases d with rfl | ⟨o, d, e⟩
    · obtain ⟨o, a, b⟩ := fr_obj F
      rw [hL] at a
      cases a
      exact ⟨oL, List.mem_append_right _ (.head _), b⟩
    · exact ⟨o, List.mem_append_left _ d, e⟩
theorem Base.more {B G : Heap} {L : Addr} {l l' : List (Addr × Obj)} {fs : List Env} (S : Base B G L l fs) (k : ∀ p ∈ l, p ∈ l') : Base B G L l' fs :=
  ⟨fun b o e => (S.sub b o e).imp id (k _), fun x hx => let ⟨a, Lf, b, c, d⟩ := S.fr x hx; ⟨a, Lf, b, c, d.imp id fun ⟨o, p, q⟩ => ⟨o, k _ p, q⟩⟩⟩
noncomputable def Up (l : List (Addr × Obj)) (h : Heap) : Prop := ∀ p ∈ l, (∀ vs, p.2.data ≠ .fields vs) → ∃ sl, h.get? p.1 = some { p.2 with slots := sl }
theorem Up.then {l : List (Addr × Obj)} {h h' : Heap} (U : Up l h) (k : h.UpToSlots h') : Up l h' := fun p hp hn => by
  obtain ⟨sl, a⟩ := U p hp hn
  obtain ⟨sl', b⟩ := k _ _ a hn
  exact ⟨sl', b⟩
theorem Up.sub {l l' : List (Addr × Obj)} {h : Heap} (U : Up l' h) (k : ∀ p ∈ l, p ∈ l') : Up l h := fun p hp => U p (k p hp)
theorem up_news {G : Heap} {L : Addr} {l : List (Addr × Obj)} {h h' : Heap} (N : News G L h l) (k : h.UpToSlots h') : Up l h' := fun p hp hn => k _ _ (N p hp).1 hn
theorem ns_up {L : Addr} {h h' : Heap} {m : Str → Option Value} {oL : Obj} (n : h.Ns L m) (hL : h.get? L = some oL) {sl : Array (Option Value)} (a : h'.get? L = some { oL with slots := sl }) : h'.Ns L m := by
  obtain ⟨o, es, ep, b, r⟩ := n
  rw [hL] at b
  cases b
  exact ⟨_, es, ep, a, r⟩
theorem ns1_up {dx : Addr} {h h' : Heap} {m : Str → Option Value} (n : h.Ns1 dx m) (k : h.UpToSlots h') : h'.Ns1 dx m := by
  obtain ⟨o, es, ep, b, d, r⟩ := n
  obtain ⟨sl, a⟩ := k _ _ b fun vs q => by rw [d] at q; cases q
  exact ⟨_, es, ep, a, d, r⟩
/-- a MachineFault that has left the frames above L -/
structure Err (B : Heap) (fs : List Env) (l : List (Addr × Obj)) (L : Addr) (m : Str → Option Value) (e : Addr) (km : Str → Option Value) (h : Heap) : Prop where
  ex : ∃ dx, Fly B fs e (.ref 59) (some dx) .none h ∧ h.Ns1 dx km ∧ B.get? dx = none ∧ dx ≠ L ∧ ∀ p ∈ l, p.1 ≠ dx
  up : Up l h
  ns : h.Ns L m
variable {M : Model} {A : Around} {E : Value → Shared → Prop} {s : Shared}
theorem err_leave {B G h : Heap} {env : Env} {fs : List Env} {l l' : List (Addr × Obj)} {L L' e : Addr} {m m' km : Str → Option Value} {oL : Obj} {Q : Unit → Shared → Prop}
    (hfr : A.frames = some (env :: fs)) (hf : env.frame = some L') (er : Err B (env :: fs) l' L' m' e km s.heap) (F : Fr G L h m) (hL : h.get? L = some oL) (sub : ∀ p ∈ l, p ∈ l') (hl : (L, oL) ∈ l')
    (q : ∀ h', Err B fs l L m e km h' → Q () { s with heap := h' }) : wpAny M A (leaving env (.ref e)) Q E s := by
  obtain ⟨⟨dx, fl, n, bn, _, off⟩, up, ns⟩ := er
  obtain ⟨o, a, b⟩ := fr_obj F
  rw [hL] at a
  cases a
  refine fly_leave hfr hf fl fun h' fl' k => q h' ⟨⟨dx, fl', ns1_up n k, bn, (off _ hl).symm, fun p hp => off p (sub p hp)⟩, (up.then k).sub sub, ?_⟩
  obtain ⟨sl, g⟩ := (up.then k) _ hl b
  exact ns_up F.ns hL g
/-- the first frame that it leaves -/
theorem err_first {B G h : Heap} {env : Env} {fs : List Env} {l l' : List (Addr × Obj)} {L L' e : Addr} {m m' km : Str → Option Value} {oL : Obj} {Q : Unit → Shared → Prop}
    (hfr : A.frames = some (env :: fs)) (hf : env.frame = some L') (S : Base B G L' l' (env :: fs)) (F' : Fr G L' s.heap m') (N' : News G L' s.heap l') (en : ∀ o, B.get? e ≠ some o) (D : FD e s.heap) (I : s.heap.Inst e 59 km) (hk : km (Str.ofString "kind") ≠ none) (hdn : ∀ o dx, s.heap.get? e = some o → o.dict = some dx → B.get? dx = none ∧ ∀ p ∈ l', p.1 ≠ dx)
    (F : Fr G L h m) (hL : h.get? L = some oL) (sub : ∀ p ∈ l, p ∈ l') (hl : (L, oL) ∈ l')
    (q : ∀ h', Err B fs l L m e km h' → Q () { s with heap := h' }) : wpAny M A (leaving env (.ref e)) Q E s := by
  obtain ⟨o, t, he, hd⟩ := D
  obtain ⟨o', he', hc, _, hdict⟩ := I
  rw [he] at he'
  cases he'
  rcases hdict with ⟨_, hn⟩ | ⟨dx, hdd, _, n⟩
  · exact absurd (hn _) hk
  obtain ⟨o2, a, b⟩ := fr_obj F
  rw [hL] at a
  cases a
  have en' : B.get? e = none := by
    cases z : B.get? e with
    | none => rfl
    | some o => exact absurd z (en o)
  refine fly_leave0 hfr hf (S.funs F' N') (S.stays F' N') en' he hd rfl fun h' fl' k => q h' ⟨⟨dx, by rw [hc, hdd] at fl'; exact fl', ns1_up n k, (hdn _ _ he hdd).1, ((hdn _ _ he hdd).2 _ hl).symm, fun p hp => (hdn _ _ he hdd).2 p (sub p hp)⟩, (up_news N' k).sub sub, ?_⟩
  obtain ⟨sl, g⟩ := up_news N' k _ hl b
  exact ns_up F.ns hL g
/-- a MachineFault is made and leaves the frame where it was made -/
theorem fault_flies {w : World} {mean : ExcName → Option Value} {mg mb : Str → Option Value} {B G h h₁ : Heap} {A : Around} {g : Array GenState} {d : Drawn} {t : Nat} {os : OsState} {env : Env} {fs : List Env} {l l₁ : List (Addr × Obj)} {L L' : Addr} {m m' : Str → Option Value} {oL : Obj}
    {kind msg : Value} {E₀ E₁ E₂ : Value → Shared → Prop} (hA : Rm A 5) (X : (KP w.params).In G) (T : Top topProg lsT mean mg mb G) (F' : Fr G L' h₁ m') (N' : News G L' h₁ l₁)
    (hfr : A.frames = some (env :: fs)) (hf : env.frame = some L') (S : Base B G L' l₁ (env :: fs)) (F : Fr G L h m) (hL : h.get? L = some oL) (sub : ∀ p ∈ l, p ∈ l₁) (hl : (L, oL) ∈ l₁)
    (q : ∀ e h' tk', Err B fs l L m e (fltM kind msg) h' → E₀ (.ref e) ⟨h', g, d, tk', os⟩) :
    wpAny (model pw w) A (call (.ref 59) [kind, msg]) (fun v s₁ => ∃ e o t, v = .ref e ∧ s₁.heap.get? 59 = some fltCls ∧ s₁.heap.get? e = some o ∧ o.cls = .ref 59 ∧ o.data = .fields #[.ref t, .none, .none, .none, .bool false, .none] ∧
      wpAny (model pw w) A (leaving env (.ref e)) (fun _ s'' => E₀ (.ref e) s'') E₁ s₁) E₂ ⟨h₁, g, d, t, os⟩ := by
  refine fault_new hA X T F' fun h2 e tk2 k2 ne nd D I => ?_
  obtain ⟨o, ta, he, hd⟩ := id D
  obtain ⟨o', he', hc, _⟩ := id I
  rw [he] at he'
  cases he'
  have F2 : Fr G L' h2 m' := fr_keep F' (fun o => k2 _ o) fun b o z => k2 _ _ (F'.keep b o z)
  have N2 : News G L' h2 l₁ := fun p hp => ⟨k2 _ _ (N' p hp).1, (N' p hp).2⟩
  refine ⟨e, o, ta, rfl, flt_at (X.keeps F2.keep), he, hc, hd, ?_⟩
  refine err_first (s := ⟨h2, g, d, tk2, os⟩) hfr hf S F2 N2 (fun o z => ?_) D I (by unfold fltM; rw [if_pos rfl]; nofun) (fun o dx a b => ⟨by cases q : B.get? dx with | none => rfl | some o' => (have z := nd o dx a b; rw [S.stays F' N' _ _ q] at z; cases z), fun p hp q => by have z := nd o dx a b; rw [← q, (N' p hp).1] at z; cases z⟩) F hL sub hl fun h' er => q e h' tk2 er
  rw [S.stays F' N' _ _ z] at ne
  cases ne
end
section
open PySem PySem.W PySem.Calls PyProof.Rows PySem.Spec
inductive PV where
  | int (n : Int)
  | node (st : Bool) (cs : List PV)
noncomputable abbrev tupO (vs : List Value) (n : Nat) : Obj := { cls := .type "tuple", data := .seq vs.toArray n }
noncomputable def tagS (b : Bool) : Str := if b then Str.ofString "struct" else Str.ofString "array"
mutual
inductive VIn (l : List (Addr × Obj)) : Value → PV → Prop
  | int (n : Int) (t : Tok) : VIn l (.int n t) (.int n)
  | node {a b : Addr} {st : Bool} {tk : Tok} {vs : List Value} {cs : List PV} {na nb : Nat} : (a, tupO [.str (tagS st) tk, .ref b] na) ∈ l → (b, tupO vs nb) ∈ l → VsIn l vs cs → cs.length ≤ 3 → VIn l (.ref a) (.node st cs)
inductive VsIn (l : List (Addr × Obj)) : List Value → List PV → Prop
  | nil : VsIn l [] []
  | cons {v : Value} {vs : List Value} {c : PV} {cs : List PV} : VIn l v c → VsIn l vs cs → VsIn l (v :: vs) (c :: cs)
end
noncomputable def PV.child : PV → Int → Option PV
  | .int _, _ => none
  | .node _ cs, i => if 0 ≤ i ∧ i < cs.length then cs[i.toNat]? else none
theorem VsIn.len {l : List (Addr × Obj)} : ∀ {vs : List Value} {cs : List PV}, VsIn l vs cs → vs.length = cs.length
  | _, _, .nil => rfl
  | _, _, .cons _ h => congrArg (· + 1) h.len
theorem VsIn.get {l : List (Addr × Obj)} : ∀ {vs : List Value} {cs : List PV}, VsIn l vs cs → ∀ {i : Nat} {c : PV}, cs[i]? = some c → ∃ v, vs[i]? = some v ∧ VIn l v c
  | _, _, .nil, i, c, h => by simp at h
  | _, _, .cons (v := v) a b, 0, c, h => ⟨v, rfl, by simp at h; exact h ▸ a⟩
  | _, _, .cons a b, i + 1, c, h => by
    obtain ⟨v, p, q⟩ := b.get (i := i) (c := c) (by simpa using h)
    exact ⟨v, by simpa using p, q⟩
theorem seqIndex_ok {i : Int} {n : Nat} (h0 : 0 ≤ i) (h1 : i < n) : seqIndex? i n = some i.toNat := by
  have e : (if i < 0 then i + (n : Int) else i) = i := if_neg (by omega)
  show (if (decide (0 ≤ (if i < 0 then i + (n : Int) else i)) && decide ((if i < 0 then i + (n : Int) else i) < (n : Int))) = true then some (if i < 0 then i + (n : Int) else i).toNat else none) = _
  rw [e, if_pos (by rw [decide_eq_true h0, decide_eq_true h1]; rfl)]
theorem child_node {st : Bool} {cs : List PV} {i : Int} {c : PV} (h0 : 0 ≤ i) (h1 : i < cs.length) (hc : cs[i.toNat]? = some c) : (PV.node st cs).child i = some c := by
  show (if 0 ≤ i ∧ i < cs.length then cs[i.toNat]? else none) = _
  rw [if_pos ⟨h0, h1⟩, hc]
theorem child_out {st : Bool} {cs : List PV} {i : Int} (h : ¬ (0 ≤ i ∧ i < cs.length)) : (PV.node st cs).child i = none := by
  show (if 0 ≤ i ∧ i < cs.length then cs[i.toNat]? else none) = _
  rw [if_neg h]
theorem out_any {G : Heap} {L L' : Addr} {h h' : Heap} {m m' : Str → Option Value} {l l' : List (Addr × Obj)} {oL : Obj} (F : Fr G L h m) (N : News G L h l) (hL : h.get? L = some oL)
    (F' : Fr G L' h' m') (N' : News G L' h' l') (hl : (L, oL) ∈ l') (sub : ∀ p ∈ l, p ∈ l') : Fr G L h' m ∧ News G L h' l :=
  ⟨fr_out F hL F' (N' _ hl).1, fun p hp => ⟨(N' p (sub p hp)).1, (N p hp).2.1, (N p hp).2.2⟩⟩
theorem VIn.mono {l l' : List (Addr × Obj)} (k : ∀ p ∈ l, p ∈ l') {v : Value} {d : PV} (h : VIn l v d) : VIn l' v d := by
  refine VIn.rec (motive_1 := fun v d _ => VIn l' v d) (motive_2 := fun vs cs _ => VsIn l' vs cs) ?_ ?_ ?_ ?_ h
  · exact fun n t => .int n t
  · exact fun a b _ z ih => .node (k _ a) (k _ b) ih z
  · exact .nil
  · exact fun _ _ a b => .cons a b
local macro_rules | `(tactic| walk_at "exec Raise some none") => `(tactic| (with_reducible refine halt ?_))
local macro_rules | `(tactic| walk_at "subscriptTail Name Name ref int") => `(tactic| (with_reducible refine halt ?_))
local macro_rules | `(tactic| walk_at "call builtin:len") => `(tactic| (refine kun_lenT (News.isTup (by assumption) (by k_mem)) (by assumption) (by assumption) ?_))
set_option maxHeartbeats 4000000 in
theorem inner_ok {w : World} {mean : ExcName → Option Value} {mg mb : Str → Option Value} {G B : Heap} {A : Around} {h : Heap} {g : Array GenState} {dr : Drawn} {t : Nat} {os : OsState} {L : Addr} {m : Str → Option Value} {l lv : List (Addr × Obj)} {fs : List Env} {v : Value} {d : PV} {i : Int} {ti : Tok} {Q E : Value → Shared → Prop}
    (hA : Rm A 8) (X : (KP w.params).In G) (T : Top topProg lsT mean mg mb G) (F : Fr G L h m) (N : News G L h l) (hfr : A.frames = some fs) (S : Base B G L l fs) (V : VIn lv v d) (lvs : ∀ p ∈ lv, p ∈ l)
    (ret : ∀ c cv h' tk', d.child i = some c → VIn lv cv c → Fr G L h' m → News G L h' l → Q cv ⟨h', g, dr, tk', os⟩)
    (err : d.child i = none → ∀ e k1 k2 h' tk', Err B fs l L m e (fltM (.str (Str.ofString "place") k1) (.str (Str.ofString "no such part of a value") k2)) h' → E (.ref e) ⟨h', g, dr, tk', os⟩) :
    wpAny (model pw w) A (call (.ref 107) [v, .int i ti]) Q E ⟨h, g, dr, t, os⟩ := by
  refine wpAny_call (callG (s := ⟨h, g, dr, t, os⟩) (binds := [(Str.ofString "V", v), (Str.ofString "step", .int i ti)]) X T F (Nat.lt_of_le_of_lt (Nat.le_add_right _ _) hA.dp) (by k_is) (by k_is) (BindsTo.of_eq rfl) (locs rfl) rfl rfl rfl (by decide) fun L' h₁ oL hL eL F₁ k₁ => ?_)
  have N₁ := news_in F N hL eL k₁
  try dsimp only
  cases V with
  | int n t =>
    repeat' (first | walk1 | (dsimp only; walk1) | walk_at "THEN")
    refine Halt.mk ?_
    refine Raise_own hA.hh ?_
    repeat' (first | walk1 | (dsimp only; walk1) | walk_at "THEN")
    refine Halt.mk ?_
    refine fault_flies (E₀ := E) (l := l) (L := L) (m := m) (hA.deeper.le (by decide)) X T (by assumption) (by assumption) (by show (A.frames.map _) = _; rw [hfr]; rfl) rfl (S.deeper F N hL eL rfl (show ScopeKind.function ≠ .module by decide)) F hL (fun p hp => List.mem_append_left _ hp) (List.mem_append_right _ (.head _)) fun e h' tk' er => ?_
    exact err rfl e _ _ h' tk' er
  | node ha hb hs hz =>
    rename_i a b st tk vs cs na nb
    have hlen : ((vs.toArray).size : Int) = (cs.length : Int) := by rw [List.size_toArray, hs.len]
    have hlen' : (cs.length : Int) ≤ 16384 := ar_16 hz
    have N₂ : News G L' h₁ ((a, tupO [.str (tagS st) tk, .ref b] na) :: (b, tupO vs nb) :: (l ++ [(L, oL)])) := fun p hp => by
      refine mem_case hp ?_ fun p hp => ?_
      · exact N₁ _ (List.mem_append_left _ (lvs _ ha))
      · refine mem_case hp ?_ fun p hp => ?_
        · exact N₁ _ (List.mem_append_left _ (lvs _ hb))
        · exact N₁ p hp
    clear N₁
    cases st
    all_goals dsimp only [tagS] at N₂
    repeat' (first | walk1 | (dsimp only; walk1) | walk_at "THEN")
    all_goals first
      | (refine Halt.mk ?_
         refine Raise_own hA.hh ?_
         repeat' (first | walk1 | (dsimp only; walk1) | walk_at "THEN")
         refine Halt.mk ?_
         refine fault_flies (E₀ := E) (l := l) (L := L) (m := m) (hA.deeper.le (by decide)) X T (by assumption) (by assumption) (by show (A.frames.map _) = _; rw [hfr]; rfl) rfl ((S.deeper F N hL eL rfl (show ScopeKind.function ≠ .module by decide)).more ?_) F hL ?_ ?_ fun e h' tk' er => ?_
         · intro p hp; first | (refine sub_at ?_ hp; walk_at "SUB") | (simp only [List.mem_cons, List.mem_append] at hp ⊢; grind)
         · intro p hp; simp only [List.mem_cons, List.mem_append]; grind
         · simp
         · exact err (child_out (by omega)) e _ _ h' tk' er)
      | (obtain ⟨c, hc⟩ : ∃ c, cs[i.toNat]? = some c := ⟨_, List.getElem?_eq_getElem (show i.toNat < cs.length by omega)⟩
         obtain ⟨v, hv, Vv⟩ := hs.get hc
         refine Halt.mk ?_
         refine item_tupleT (l := vs) (j := i.toNat) (x := v) (News.isTup (by assumption) (by k_mem)) (by omega) (by omega) (seqIndex_ok (by omega) (by rw [hs.len]; omega)) hv ?_
         repeat' (first | walk1 | (dsimp only; walk1) | walk_at "THEN")
         have o := out_any F N hL (by assumption) (by assumption) (by first | walk_at "MEM" | simp) (fun p hp => by simp only [List.mem_cons, List.mem_append]; grind)
         exact ret c v _ _ (child_node (by omega) (by omega) hc) Vv o.1 o.2)
end
section
open PySem PySem.W PySem.Calls PyProof.Rows PySem.Spec
noncomputable def ItO (t : Addr) (i : Nat) (o : Obj) : Prop := o.cls = .type "tuple_iterator" ∧ o.data = .fields #[.ref t, .int i 0]
theorem news_step {G h h' : Heap} {L I : Addr} {l : List (Addr × Obj)} {o o' : Obj} (N : News G L h ((I, o) :: l)) (off : ∀ p ∈ l, p.1 ≠ I) (k : ∀ b q, b ≠ I → h.get? b = some q → h'.get? b = some q) (hI : h'.get? I = some o') : News G L h' ((I, o') :: l) := fun p hp => by
  refine mem_case hp ?_ fun p hp => ?_
  · exact ⟨hI, (N (I, o) (.head _)).2⟩
  · exact ⟨k _ _ (off p hp) (N p (.tail _ hp)).1, (N p (.tail _ hp)).2⟩
theorem fr_step {G h h' : Heap} {L I : Addr} {l : List (Addr × Obj)} {o : Obj} {m : Str → Option Value} (F : Fr G L h m) (N : News G L h ((I, o) :: l)) (k : ∀ b q, b ≠ I → h.get? b = some q → h'.get? b = some q) : Fr G L h' m :=
  fr_keep F (fun o' => k _ o' fun q => (N (I, o) (.head _)).2.1 q.symm) fun b q e => k b q (fun z => by rw [← z] at N; exact absurd (N (b, o) (.head _)).2.2 (by rw [e]; nofun)) (F.keep b q e)
theorem forTup {w : World} {A : Around} {G : Heap} {L t : Addr} {env : Env} {x : Str} {p : Pos} {vs : List Value} {n : Nat} {body : List Stmt} {R : Result → Shared → Prop} {g : Array GenState} {d : Drawn} {os : OsState}
    (hh : A.handled = none) (P : Nat → (Str → Option Value) → List (Addr × Obj) → Prop) (ht : ∀ i m l, P i m l → (t, tupO vs n) ∈ l) (I : Addr)
    (turn : ∀ i m l h tk v oI, vs[i]? = some v → P i m l → Fr G L h m → News G L h ((I, oI) :: l) → (∀ p ∈ l, p.1 ≠ I) →
      wpAny (model pw w) A (assign (.Name x p) env v) (fun _ s₂ => wpAny (model pw w) A (execs body env) (fun f s₃ => match f with
        | .next | .cont => IvOn P G L g d os i I oI s₃
        | .brk => R (.ok .next) s₃
        | .ret v => R (.ok (.ret v)) s₃) (notedBy (model pw w) A env fun e s' => R (.error e) s') s₂) (notedBy (model pw w) A env fun e s' => R (.error e) s') ⟨h, g, d, tk, os⟩)
    (done : ∀ m l h tk, P vs.length m l → Fr G L h m → News G L h l → R (.ok .next) ⟨h, g, d, tk, os⟩) {m : Str → Option Value} {l : List (Addr × Obj)} {h : Heap} {tk : Nat} {oI : Obj}
    (hP : P 0 m l) (F : Fr G L h m) (N : News G L h ((I, oI) :: l)) (hO : ItO t 0 oI) (off : ∀ p ∈ l, p.1 ≠ I) : codeAny (model pw w) A (.forLoop (.Name x p) (.ref I) body [] env) R ⟨h, g, d, tk, os⟩ := by
  refine codeAny_forLoop_any (IvLp vs.length P G L g d os I (ItO t)) (fun k s hI => ?_) vs.length ⟨0, m, l, h, tk, oI, rfl, rfl, hP, F, N, hO, off⟩
  obtain ⟨i, m, l, h, tk, oI, hk, rfl, hP, F, N, hO, off⟩ := hI
  have hit : h.IsTupleIter I t i := ⟨_, (N _ (.head _)).1, hO.1, hO.2⟩
  have hm := ht i m l hP
  have htu : h.IsTuple t vs.toArray := ⟨_, (N _ (.tail _ hm)).1, rfl, _, rfl⟩
  cases hx : vs[i]? with
  | none =>
    have hi : i = vs.length := by
      have := List.getElem?_eq_none_iff.mp hx
      omega
    subst hi
    refine wpAny_pyNext_tuple_end hh hit htu (by simpa using hx) fun h' ke => ?_
    refine wpAny_pure (done m l h' tk hP (fr_step F N ke) fun p hp => ⟨ke _ _ (off p hp) (N p (.tail _ hp)).1, (N p (.tail _ hp)).2⟩)
  | some v =>
    have hi : i < vs.length := (List.getElem?_eq_some_iff.mp hx).1
    refine wpAny_pyNext_tuple_item hit htu (by simpa using hx) fun h' hit' sb => ?_
    have kk : ∀ b q, b ≠ I → h.get? b = some q → h'.get? b = some q := fun b q hb e => (sb.2 b hb).trans e
    obtain ⟨o', hI, c1, c2⟩ := hit'
    have N' := news_step N off kk hI
    refine wpAny_pure ?_
    refine wpAny_mono (turn i m l h' tk v o' hx hP (fr_step F N kk) N' off) (fun _ s₂ q => wpAny_mono q (fun f s₃ r => ?_) fun _ _ e => e) fun _ _ e => e
    cases f with
    | next => obtain ⟨m', l', h2, tk2, rfl, a, b, c, e⟩ := r; exact ⟨k - 1, (ar_lp hk hi).1, i + 1, m', l', h2, tk2, o', (ar_lp hk hi).2, rfl, a, b, c, ⟨c1, c2⟩, e⟩
    | cont => obtain ⟨m', l', h2, tk2, rfl, a, b, c, e⟩ := r; exact ⟨k - 1, (ar_lp hk hi).1, i + 1, m', l', h2, tk2, o', (ar_lp hk hi).2, rfl, a, b, c, ⟨c1, c2⟩, e⟩
    | brk => exact r
    | ret v => exact r
/-- a for over a tuple of the ledger -/
theorem for_tup {w : World} {A : Around} {G : Heap} {L t : Addr} {env : Env} {x : Str} {p fp : Pos} {iter : Expr} {vs : List Value} {n : Nat} {body : List Stmt} {Q : Flow → Shared → Prop} {E : Value → Shared → Prop} {g : Array GenState} {d : Drawn} {os : OsState} {s : Shared}
    (hh : A.handled = none) (P : Nat → (Str → Option Value) → List (Addr × Obj) → Prop) (ht : ∀ i m l, P i m l → (t, tupO vs n) ∈ l)
    (start : wpAny (model pw w) A (eval iter env) (fun v s₁ => Halt (IvIn P G L g d os t v s₁)) E s)
    (turn : ∀ i m l h tk v I oI, vs[i]? = some v → P i m l → Fr G L h m → News G L h ((I, oI) :: l) → (∀ p ∈ l, p.1 ≠ I) →
      wpAny (model pw w) A (assign (.Name x p) env v) (fun _ s₂ => wpAny (model pw w) A (execs body env) (fun f s₃ => match f with
        | .next | .cont => Halt (IvOn P G L g d os i I oI s₃)
        | .brk => Q .next s₃
        | .ret v => Q (.ret v) s₃) (notedBy (model pw w) A env (cameBackBy (model pw w) A env E)) s₂) (notedBy (model pw w) A env (cameBackBy (model pw w) A env E)) ⟨h, g, d, tk, os⟩)
    (done : ∀ m l h tk, P vs.length m l → Fr G L h m → News G L h l → Q .next ⟨h, g, d, tk, os⟩) (hs : ∀ x, foldedSetIterable iter env x = pure x := by intro _; rfl) :
    wpAny (model pw w) A (exec (.For (.Name x p) iter body [] fp) env) Q E s := by
  refine wpAny_For (wpAny_mono start (fun v s₁ z => ?_) fun _ _ e => e) hs
  replace z := halt z
  obtain ⟨m, l, h, tk, rfl, rfl, hP, F, N⟩ := z
  refine wpAny_pyIter_tuple ⟨_, (N _ (ht _ _ _ hP)).1, rfl, _, rfl⟩ ?_
  refine forTup (m := m) (l := l) hh P ht h.objs.size (fun i m l h tk v oI hx hP F N off => wpAny_mono (turn i m l h tk v _ oI hx hP F N off) (fun _ s₂ q => wpAny_mono q (fun f s₃ r => by cases f <;> first | exact halt r | exact r) fun _ _ e => e) fun _ _ e => e) (fun m l h tk hP F N => done m l h tk hP F N) hP (F.push _) (News.push F N _) ⟨rfl, rfl⟩ fun p hp => Nat.ne_of_lt (Heap.lt_size (N p hp).1)
end
section
open PySem PySem.W PySem.Calls PyProof.Rows PySem.Spec
section
variable {M : Model} {A : Around} {E : Value → Shared → Prop} {s : Shared}
theorem fly_sets {B : Heap} {l : List Env} {e L : Addr} {cls : Value} {dd : Option Addr} {fl : Value} {Q : Unit → Shared → Prop} (F : Fly B l e cls dd fl s.heap)
    (q : ∀ h', Fly B l e cls dd (rawInt L) h' → s.heap.UpToSlots h' → Q () { s with heap := h' }) : wpAny M A (setFlight (.ref e) (some L)) Q E s := by
  obtain ⟨st, en, ff, oe, vs, T, oT, ts, he, hc, hdd, hd, h1, hnT, hTe, hT, hdT, h3⟩ := F
  have z3 : 3 < ts.size := (Array.getElem?_eq_some_iff.mp h3).1
  have other : ∀ b, b ≠ T → (s.heap.update T (Obj.mapFields (·.setIfInBounds 3 ((some L : Option Addr).elim Value.none fun f => rawInt f)))).get? b = s.heap.get? b :=
    fun b hb => Heap.get?_update_other _ _ (Ne.symm hb)
  have noRec : ∀ b o, s.heap.get? b = some o → (∀ vs, o.data ≠ .fields vs) → b ≠ T := fun b o hb hnf z => by
    rw [z, hT] at hb
    cases hb
    exact hnf ts hdT
  unfold setFlight
  refine wpAny_bind (wpAny_field he hd h1 ?_)
  rw [if_pos (show (Value.ref T != Value.none) = true from by first | walk_at "MEM" | simp)]
  refine wpAny_setField hT hdT z3 (q _ ⟨fun b o hb => (other b fun z => by rw [z, hnT] at hb; cases hb).trans (st b o hb), en,
    ff.of_keeps fun b o hb hnf => ⟨o, (other b (noRec b o hb hnf)).trans hb, rfl⟩,
    oe, vs, T, _, _, (other e (Ne.symm hTe)).trans he, hc, hdd, hd, h1, hnT, hTe, Heap.get?_update_self _ hT (Obj.isFreed_of_fields (Obj.data_mapFields hdT _)), Obj.data_mapFields hdT _, by simp [z3]⟩
    fun b o hb hnf => ⟨o.slots, (other b (noRec b o hb hnf)).trans hb⟩)
theorem fly_back {B : Heap} {l : List Env} {env : Env} {e L : Addr} {cls : Value} {dd : Option Addr} {fl : Value} (hf : env.frame = some L) (F : Fly B l e cls dd fl s.heap)
    (q : ∀ h', Fly B l e cls dd (rawInt L) h' → s.heap.UpToSlots h' → E (.ref e) { s with heap := h' }) : cameBackBy M A env E (.ref e) s := by
  obtain ⟨oe, vs, T, oT, ts, he, hc, hdd, hd, h1, _⟩ := F.tb
  unfold cameBackBy
  refine wpAny_bind (wpAny_field he hd h1 ?_)
  rw [if_neg (show ¬ ((Value.ref T == Value.none) = true) from by first | walk_at "MEM" | simp), hf]
  exact fly_sets F q
/-- out of a loop, then out of the frame -/
theorem err_loop {B G h : Heap} {env : Env} {fs : List Env} {l l' : List (Addr × Obj)} {L L' e : Addr} {m m' km : Str → Option Value} {oL : Obj} {E₀ E₁ : Value → Shared → Prop}
    (hfr : A.frames = some (env :: fs)) (hf : env.frame = some L') (er : Err B (env :: fs) l' L' m' e km s.heap) (F : Fr G L h m) (hL : h.get? L = some oL) (sub : ∀ p ∈ l, p ∈ l') (hl : (L, oL) ∈ l')
    (q : ∀ h', Err B fs l L m e km h' → E₀ (.ref e) { s with heap := h' }) :
    notedBy M A env (cameBackBy M A env fun e s' => wpAny M A (leaving env e) (fun _ s'' => E₀ e s'') E₁ s') (.ref e) s := by
  obtain ⟨⟨dx, fl, n, bn, _, off⟩, up, ns⟩ := er
  obtain ⟨o, a, b⟩ := fr_obj F
  rw [hL] at a
  cases a
  unfold notedBy
  refine fly_note hfr hf fl fun h1 fl1 k1 => ?_
  refine fly_back (s := { s with heap := h1 }) hf fl1 fun h2 fl2 k2 => ?_
  unfold leaving
  refine wpAny_bind (fly_again hf fl2 ?_)
  refine fly_lands (s := { s with heap := h2 }) fl2 fun h3 fl3 k3 => ?_
  have k := (k1.trans k2).trans k3
  refine q h3 ⟨⟨dx, fl3.less, ns1_up n k, bn, (off _ hl).symm, fun p hp => off p (sub p hp)⟩, (up.then k).sub sub, ?_⟩
  obtain ⟨sl, g⟩ := (up.then k) _ hl b
  exact ns_up F.ns hL g
end
theorem fr_m {G h : Heap} {L : Addr} {m m' : Str → Option Value} (F : Fr G L h m) (k : ∀ y, m y = m' y) : Fr G L h m' := (funext k : m = m') ▸ F
noncomputable def PV.path (d : PV) : List Int → Option PV
  | [] => some d
  | i :: is => (d.child i).bind fun c => c.path is
theorem PV.path_snoc (i : Int) : ∀ (is : List Int) (d : PV), d.path (is ++ [i]) = (d.path is).bind fun c => c.child i
  | [], d => by cases h : d.child i <;> simp [PV.path, h]
  | j :: is, d => by cases h : d.child j with
    | none => simp [PV.path, h]
    | some c => simp [PV.path, h, path_snoc i is c]
theorem PV.path_append (b : List Int) : ∀ (a : List Int) (d : PV), d.path (a ++ b) = (d.path a).bind fun c => c.path b
  | [], d => by simp [PV.path]
  | j :: is, d => by cases h : d.child j with
    | none => simp [PV.path, h]
    | some c => simp [PV.path, h, path_append b is c]
theorem PV.path_none {d : PV} {is : List Int} {k : Nat} (h : d.path (is.take k) = none) : d.path is = none := by
  rw [← List.take_append_drop k is, path_append, h]
  rfl
theorem PV.path_next {d d' : PV} {is : List Int} {k : Nat} {j : Int} (h : d.path (is.take k) = some d') (hj : is[k]? = some j) : d.path (is.take (k + 1)) = d'.child j := by
  rw [List.take_succ, hj]
  show d.path (is.take k ++ [j]) = _
  rw [path_snoc, h]
  rfl
noncomputable def IntVs : List Value → List Int → Prop
  | [], [] => True
  | v :: vs, i :: is => (∃ t, v = .int i t) ∧ IntVs vs is
  | _, _ => False
theorem IntVs.len : ∀ {vs : List Value} {is : List Int}, IntVs vs is → vs.length = is.length
  | [], [], _ => rfl
  | _ :: _, _ :: _, h => congrArg (· + 1) h.2.len
  | [], _ :: _, h => h.elim
  | _ :: _, [], h => h.elim
theorem IntVs.get : ∀ {vs : List Value} {is : List Int}, IntVs vs is → ∀ {k : Nat} {v : Value}, vs[k]? = some v → ∃ i t, is[k]? = some i ∧ v = .int i t
  | [], [], _, k, v, e => by simp at e
  | _ :: _, _ :: _, ⟨⟨t, h⟩, _⟩, 0, v, e => ⟨_, t, rfl, by simp at e; rw [← e]; exact h⟩
  | _ :: _, _ :: _, ⟨_, h⟩, k + 1, v, e => by
    obtain ⟨i, t, a, b⟩ := h.get (k := k) (v := v) (by simpa using e)
    exact ⟨i, t, by simpa using a, b⟩
  | [], _ :: _, h, _, _, _ => h.elim
  | _ :: _, [], h, _, _, _ => h.elim
end
section
open PySem PySem.W PySem.Calls PyProof.Rows PySem.Spec
noncomputable def mPB (V : Value) (st : Option Value) (t : Value) : Str → Option Value := fun y => if y = Str.ofString "V" then some V else if y = Str.ofString "step" then st else if y = Str.ofString "steps" then some t else none
theorem lookup_if (y a : Str) (u : Value) (r : List (Str × Value)) : List.lookup y ((a, u) :: r) = if y = a then some u else List.lookup y r := by
  rw [List.lookup]
  by_cases h : y = a
  · subst h
    simp
  · have : (y == a) = false := beq_false_of_ne h
    rw [this, if_neg h]
local macro_rules | `(tactic| walk_at "exec For") => `(tactic| (with_reducible refine halt ?_))
inductive IvPart (lx lv : List (Addr × Obj)) (t : Addr) (d : PV) (is : List Int) (i : Nat) (m' : Str → Option Value) (l' : List (Addr × Obj)) : Prop
  | mk (el : l' = lx) (V' : Value) (d' : PV) (st : Option Value) (em : m' = mPB V' st (.ref t)) (hV : VIn lv V' d') (hd : d.path (is.take i) = some d')
set_option maxHeartbeats 1000000 in
theorem part_ok {w : World} {mean : ExcName → Option Value} {mg mb : Str → Option Value} {G B : Heap} {A : Around} {h : Heap} {g : Array GenState} {dr : Drawn} {tk : Nat} {os : OsState} {L t : Addr} {m : Str → Option Value} {l lv : List (Addr × Obj)} {fs : List Env} {v : Value} {d : PV} {is : List Int} {svs : List Value} {n : Nat} {Q E : Value → Shared → Prop}
    (hA : Rm A 10) (X : (KP w.params).In G) (T : Top topProg lsT mean mg mb G) (F : Fr G L h m) (N : News G L h l) (hfr : A.frames = some fs) (S : Base B G L l fs) (V : VIn lv v d) (lvs : ∀ p ∈ lv, p ∈ l) (hst : (t, tupO svs n) ∈ l) (hi : IntVs svs is)
    (ret : ∀ c cv h' tk', d.path is = some c → VIn lv cv c → Fr G L h' m → News G L h' l → Q cv ⟨h', g, dr, tk', os⟩)
    (err : d.path is = none → ∀ e k1 k2 h' tk', Err B fs l L m e (fltM (.str (Str.ofString "place") k1) (.str (Str.ofString "no such part of a value") k2)) h' → E (.ref e) ⟨h', g, dr, tk', os⟩) :
    wpAny (model pw w) A (call (.ref 114) [v, .ref t]) Q E ⟨h, g, dr, tk, os⟩ := by
  refine wpAny_call (callG (s := ⟨h, g, dr, tk, os⟩) (binds := [(Str.ofString "V", v), (Str.ofString "steps", .ref t)]) X T F (Nat.lt_of_le_of_lt (Nat.le_add_right _ _) hA.dp) (by k_is) (by k_is) (BindsTo.of_eq rfl) (locs rfl) rfl rfl rfl (by decide) fun L' h₁ oL hL eL F₁ k₁ => ?_)
  have N₁ := news_in F N hL eL k₁
  try dsimp only
  repeat' (first | walk1 | (dsimp only; walk1) | walk_at "THEN")
  refine Halt.mk ?_
  refine for_tup (L := L') (G := G) (t := t) (vs := svs) (n := n) (g := g) (d := dr) (os := os) hA.hh (IvPart (l ++ [(L, oL)]) lv t d is) ?_ ?_ ?_ ?_
  · rintro i m' l' ⟨rfl, _⟩
    exact List.mem_append_left _ hst
  · walk1
    refine Halt.mk ⟨mPB v none (.ref t), l ++ [(L, oL)], _, _, rfl, rfl, ⟨rfl, v, d, none, rfl, V, rfl⟩, fr_m F₁ ?_, N₁⟩
    intro y
    show List.lookup y [(Str.ofString "steps", Value.ref t), (Str.ofString "V", v)] = mPB v none (.ref t) y
    simp only [lookup_if, List.lookup_nil, mPB]
    by_cases h1 : y = Str.ofString "V"
    · subst h1; rfl
    · by_cases h2 : y = Str.ofString "steps"
      · subst h2; rfl
      · simp only [h1, h2, if_false, ite_self]
  · rintro i m' l' h' tk' v' I oI hv ⟨rfl, V', d', st, rfl, hV, hd⟩ F' N' off
    obtain ⟨j, tj, hj, rfl⟩ := hi.get hv
    repeat' (first | walk1 | (dsimp only; walk1) | walk_at "THEN")
    refine Halt.mk ?_
    have S' := (S.deeper F N hL eL (env := envOf (Str.ofString "part_behind") T10.1.2.2 L' 114 (.ref 113)) rfl (show ScopeKind.function ≠ .module by decide)).more (l' := (I, oI) :: (l ++ [(L, oL)])) (fun p hp => List.mem_cons_of_mem _ hp)
    refine inner_ok (hA.deeper.le (by decide)) X T (by assumption) (by assumption) (by show (A.frames.map _) = _; rw [hfr]; rfl) S' hV (fun p hp => List.mem_cons_of_mem _ (List.mem_append_left _ (lvs p hp))) ?_ ?_
    · intro c cv h2 tk2 hc Vc F2 N2
      repeat' (first | walk1 | (dsimp only; walk1) | walk_at "THEN")
      rename_i F3 N3
      refine Halt.mk ⟨_, l ++ [(L, oL)], _, _, rfl, ⟨rfl, cv, c, some (.int j tj), rfl, Vc, (PV.path_next hd hj).trans hc⟩, fr_m F3 fun y => ?_, N3, off⟩
      simp only [mPB]
      by_cases h1 : y = Str.ofString "V"
      · simp only [h1, if_true]
      · by_cases h2 : y = Str.ofString "step"
        · simp only [h1, h2, if_true, if_false]
        · simp only [h1, h2, if_false]
    · intro hc e k1 k2 h2 tk2 er
      refine err_loop (s := ⟨h2, g, dr, tk2, os⟩) (l := l) (fs := fs) (by show (A.frames.map _) = _; rw [hfr]; rfl) rfl er F hL ?_ ?_ fun h3 er3 => ?_
      · exact fun p hp => List.mem_cons_of_mem _ (List.mem_append_left _ hp)
      · simp
      · exact err (PV.path_none (k := i + 1) ((PV.path_next hd hj).trans hc)) e k1 k2 h3 tk2 er3
  · rintro m' l' h' tk' ⟨rfl, V', d', st, rfl, hV, hd⟩ F' N'
    try dsimp only
    repeat' (first | walk1 | (dsimp only; walk1) | walk_at "THEN")
    have o := out_any F N hL F' N' (by first | walk_at "MEM" | simp) (fun p hp => List.mem_append_left _ hp)
    rw [List.take_of_length_le (by rw [hi.len]; exact Nat.le_refl _)] at hd
    exact ret d' V' _ _ hd hV o.1 o.2
end
section
open PySem PySem.W PySem.Calls PyProof.Rows PySem.Spec
section
variable {w : World} {A : Around} {E : Value → Shared → Prop} {s : Shared}
theorem adjust_upto (b n : Nat) (hb : b ≤ n) : Builtin.Slice.sliceAdjust none (some (b : Int)) 1 (n : Int) = (0, (b : Int)) := by
  unfold Builtin.Slice.sliceAdjust
  have h1 : ¬ ((1 : Int) < 0) := by omega
  have h2 : ¬ ((b : Int) < 0) := by omega
  simp only [h1, h2, if_false]
  congr 1
  omega
theorem places_upto (b : Nat) : Builtin.Slice.slicePlaces 0 (b : Int) 1 = b := by
  unfold Builtin.Slice.slicePlaces
  have h1 : (1 : Int) > 0 := by omega
  simp only [h1, if_true, Int.ediv_one]
  split <;> omega
theorem applied_upto {sl : Addr} {b n : Nat} {u : Tok} {Q : Int × Int × Nat → Shared → Prop} (hs : s.heap.IsSliceOf sl .none (.int b u) .none) (hb : b ≤ n) (h : Q (0, 1, b) s) :
    wpAny (model pw w) A (Builtin.Slice.sliceApplied (.ref sl) (pure (n : Int))) Q E s := by
  obtain ⟨os, hos, hcs, hds⟩ := id hs
  unfold Builtin.Slice.sliceApplied Builtin.Slice.sliceFields
  refine wpAny_bind (wpAny_bind (wpAny_field hos hds (x := .none) rfl (wpAny_bind (wpAny_field hos hds (x := .int b u) rfl (wpAny_bind (wpAny_field hos hds (x := .none) rfl (wpAny_pure ?_)))))))
  refine wpAny_bind (slicePart_none ?_)
  show wpAny _ _ (if ((1 : Int) == 0) = true then _ else _) _ _ s
  rw [if_neg (by decide)]
  refine wpAny_bind (slicePart_none (wpAny_bind (slicePart_int (wpAny_bind (wpAny_pure ?_)))))
  show wpAny _ _ (match Builtin.Slice.sliceAdjust none (some (b : Int)) 1 (n : Int) with | (lo, hi) => pure (lo, (1 : Int), Builtin.Slice.slicePlaces lo hi 1)) _ _ s
  rw [adjust_upto b n hb]
  show wpAny _ _ (pure ((0 : Int), (1 : Int), Builtin.Slice.slicePlaces 0 (b : Int) 1)) _ _ s
  rw [places_upto b]
  exact wpAny_pure h
theorem pick_upto (xs : Array Value) (b : Nat) : ((List.range b).filterMap fun (k : Nat) => xs[((0 : Int) + (k : Int) * 1).toNat]?).toArray = (xs.toList.take b).toArray := by
  have e : (fun (k : Nat) => xs[((0 : Int) + (k : Int) * 1).toNat]?) = fun k => xs[0 + k]? := by
    funext k
    have : ((0 : Int) + (k : Int) * 1).toNat = 0 + k := by rw [Int.zero_add, Int.mul_one, Nat.zero_add]; rfl
    rw [this]
  rw [e]
  have := pick_run xs 0 b
  rw [List.filterMap_map] at this
  have e2 : ((fun x => xs[x]?) ∘ fun x => 0 + x) = fun k => xs[0 + k]? := rfl
  rw [e2] at this
  rw [this, List.drop_zero]
theorem getItem_tuple_upto {t sl : Addr} {items : Array Value} {b : Nat} {u : Tok} {Q : Value → Shared → Prop} (ht : IsTup s.heap t items) (hs : s.heap.IsSliceOf sl .none (.int b u) .none) (hb : b < items.size)
    (h : Q (.ref s.heap.objs.size) { s with heap := s.heap.push { cls := .type "tuple", data := .seq (items.toList.take b).toArray } })
    (hsz : items.size ≤ sizeLine := by size_fits) : wpAny (model pw w) A (getItem (.ref t) (.ref sl)) Q E s := by
  have hz : sizeOk (.seq (items.toList.take b).toArray) := by
    show (items.toList.take b).toArray.size ≤ sizeLine
    rw [List.size_toArray, List.length_take, Array.length_toList]
    omega
  obtain ⟨os, hos, hcs, hds⟩ := id hs
  have hTs : s.TypeIs (.ref sl) "slice" := ⟨os, hos, hcs⟩
  unfold getItem
  try with_reducible refine wpAny_holding ?_
  first | refine wpAny_bind (wpAny_pure ?_) | skip
  refine wpAny_bind (wpAny_sequenceKey ht.typeIs (by decide) ?_)
  refine wpAny_bind (wpAny_callSpecial?_slot (name := Str.ofString "__getitem__") ht.typeIs slot_tuple_getitem
    (wpAny_call_entry slot_tuple_getitem ht.typeIs entry_tuple_getitem ?_ (args_tuple_getitem _ _)))
  show wpAny _ _ (Builtin.Tuple.tupleItemsOf (.ref t) >>= _) _ _ s
  refine wpAny_bind (tupleItemsOf_ ht ?_)
  refine wpAny_bind (wpAny_typeOf hTs ?_)
  rw [if_pos (by decide)]
  refine wpAny_bind (applied_upto hs (Nat.le_of_lt hb) ?_)
  have hno : ¬ (((0 : Int) == 0 && (1 : Int) == 1 && b == items.size) = true) := by
    have : (b == items.size) = false := by rw [beq_eq_false_iff_ne]; omega
    rw [this]; simp
  show wpAny _ _ (if ((0 : Int) == 0 && (1 : Int) == 1 && b == items.size) = true then _ else _) _ _ s
  rw [if_neg hno, pick_upto items b]
  first
    | exact wpAny_bind (m := Builtin.Tuple.tupleExact _) (wpAny_newObj_type (wpAny_pure ⟨_, rfl, wpAny_pure h⟩) hz)
    | exact wpAny_bind (m := Builtin.Tuple.tupleExact _) (wpAny_newObj_type (wpAny_bind (wpAny_pure (wpAny_pure ⟨_, rfl, wpAny_pure h⟩))) hz)
    | exact wpAny_bind (wpAny_bind (m := Builtin.Tuple.tupleExact _) (wpAny_newObj_type (wpAny_pure (wpAny_pure ⟨_, rfl, wpAny_pure h⟩)) hz))
end
end
section
open PySem PySem.W PySem.Calls PyProof.Rows PySem.Spec
inductive IvRng (P : Nat → (Str → Option Value) → List (Addr × Obj) → Prop) (G : Heap) (L : Addr) (g : Array GenState) (d : Drawn) (os : OsState) (a b c : Int) (v : Value) (s₁ : Shared) : Prop
  | mk (r : Addr) (tt tu tv : Tok) (m : Str → Option Value) (l : List (Addr × Obj)) (h : Heap) (tk : Nat) (ev : v = .ref r) (es : s₁ = ⟨h, g, d, tk, os⟩) (hr : IsRange h r a b c tt tu tv) (p : P 0 m l) (F : Fr G L h m) (N : News G L h l)
inductive IvRg (n : Nat) (P : Nat → (Str → Option Value) → List (Addr × Obj) → Prop) (G : Heap) (L : Addr) (g : Array GenState) (d : Drawn) (os : OsState) (I : Addr) (a c : Int) (k : Nat) (s : Shared) : Prop
  | mk (i : Nat) (m : Str → Option Value) (l : List (Addr × Obj)) (h : Heap) (tk : Nat) (hk : k + i = n) (es : s = ⟨h, g, d, tk, os⟩) (p : P i m l) (F : Fr G L h m) (N : News G L h ((I, { cls := .type "range_iterator", data := .fields #[rawInt (a + i * c), rawInt k, rawInt c] }) :: l)) (off : ∀ p ∈ l, p.1 ≠ I)
/-- a for over a range -/
theorem for_rng {w : World} {A : Around} {G : Heap} {L : Addr} {env : Env} {x : Str} {p fp : Pos} {iter : Expr} {a b c : Int} {n : Nat} {body : List Stmt} {Q : Flow → Shared → Prop} {E : Value → Shared → Prop} {g : Array GenState} {d : Drawn} {os : OsState} {s : Shared}
    (hh : A.handled = none) (P : Nat → (Str → Option Value) → List (Addr × Obj) → Prop) (hn : Builtin.Range.rangeSize a b c = n) (hsm : Builtin.Range.small a b c = true)
    (start : wpAny (model pw w) A (eval iter env) (fun v s₁ => Halt (IvRng P G L g d os a b c v s₁)) E s)
    (turn : ∀ i m l h tk tv I oI, i < n → P i m l → Fr G L h m → News G L h ((I, oI) :: l) → (∀ p ∈ l, p.1 ≠ I) →
      wpAny (model pw w) A (assign (.Name x p) env (.int (a + i * c) tv)) (fun _ s₂ => wpAny (model pw w) A (execs body env) (fun f s₃ => match f with
        | .next | .cont => Halt (IvOn P G L g d os i I oI s₃)
        | .brk => Q .next s₃
        | .ret v => Q (.ret v) s₃) (notedBy (model pw w) A env (cameBackBy (model pw w) A env E)) s₂) (notedBy (model pw w) A env (cameBackBy (model pw w) A env E)) ⟨h, g, d, tk, os⟩)
    (done : ∀ m l h tk, P n m l → Fr G L h m → News G L h l → Q .next ⟨h, g, d, tk, os⟩) (hs : ∀ x, foldedSetIterable iter env x = pure x := by intro _; rfl) :
    wpAny (model pw w) A (exec (.For (.Name x p) iter body [] fp) env) Q E s := by
  refine wpAny_For (wpAny_mono start (fun v s₁ z => ?_) fun _ _ e => e) hs
  obtain ⟨r, tt, tu, tv, m, l, h, tk, rfl, rfl, hr, hP, F, N⟩ := halt z
  refine wpAny_pyIter_range hr hsm ?_
  generalize hI : h.objs.size = I
  have N0 := News.push F N { cls := .type "range_iterator", data := .fields #[rawInt a, rawInt (Builtin.Range.rangeSize a b c), rawInt c] }
  have F0 := F.push { cls := .type "range_iterator", data := .fields #[rawInt a, rawInt (Builtin.Range.rangeSize a b c), rawInt c] }
  have off0 : ∀ p ∈ l, p.1 ≠ I := fun p hp => hI ▸ Nat.ne_of_lt (Heap.lt_size (N p hp).1)
  rw [hI, hn] at N0
  rw [hn] at F0
  rw [hn]
  refine codeAny_forLoop_any (IvRg n P G L g d os I a c)
    (fun k s hJ => ?_) n ⟨0, m, l, _, tk, rfl, rfl, hP, F0, by simpa using N0, off0⟩
  obtain ⟨i, m, l, h, tk, hk, rfl, hP, F, N, off⟩ := hJ
  have hit : IsRangeIter h I (a + i * c) k c := (N _ (.head _)).1
  cases k with
  | zero =>
    obtain rfl : i = n := by omega
    refine wpAny_pyNext_range_end hh hit (by omega) fun h' ke => ?_
    exact wpAny_pure (done m l h' tk hP (fr_step F N ke) fun p hp => ⟨ke _ _ (off p hp) (N p (.tail _ hp)).1, (N p (.tail _ hp)).2⟩)
  | succ k =>
    refine wpAny_pyNext_range_item hit (by omega) fun h' hit' sb => ?_
    have kk : ∀ b q, b ≠ I → h.get? b = some q → h'.get? b = some q := fun b q hb e => (sb.2 b hb).trans e
    have e1 : a + (i : Int) * c + c = a + ((i + 1 : Nat) : Int) * c := by rw [Int.natCast_add, Int.add_mul]; omega
    have e2 : ((k + 1 : Nat) : Int) - 1 = (k : Int) := by omega
    rw [e1, e2] at hit'
    have N' := news_step N off kk hit'
    refine wpAny_pure ?_
    refine wpAny_mono (turn i m l h' (tk + 1) tk I _ (by omega) hP (fr_step F N kk) N' off) (fun _ s₂ q => wpAny_mono q (fun f s₃ r => ?_) fun _ _ e => e) fun _ _ e => e
    cases f with
    | next => obtain ⟨m', l', h2, tk2, rfl, a, b, c, e⟩ := halt r; exact ⟨k, by omega, i + 1, m', l', h2, tk2, by omega, rfl, a, b, c, e⟩
    | cont => obtain ⟨m', l', h2, tk2, rfl, a, b, c, e⟩ := halt r; exact ⟨k, by omega, i + 1, m', l', h2, tk2, by omega, rfl, a, b, c, e⟩
    | brk => exact r
    | ret v => exact r
section
variable {w : World} {A : Around} {E : Value → Shared → Prop} {s : Shared} {G : Heap} {L t : Addr} {m : Str → Option Value} {l : List (Addr × Obj)} {vs : List Value} {value slice : Expr} {Q : Value → Shared → Prop}
theorem slice_push {vl vu : Value} {o : Obj} (hf : o.isFreed = false) (F : Fr G L s.heap m) (N : News G L s.heap l) :
    Fr G L ((s.heap.push { cls := .type "slice", data := .fields #[vl, vu, .none] }).push o) m ∧ News G L ((s.heap.push { cls := .type "slice", data := .fields #[vl, vu, .none] }).push o) ((s.heap.objs.size + 1, o) :: l) := by
  have N1 := News.push (F.push { cls := .type "slice", data := .fields #[vl, vu, .none] }) (N.grown fun _ _ e => Heap.get?_push_of_some _ e) o hf
  rw [Heap.size_push] at N1
  exact ⟨(F.push _).push _, N1⟩
theorem tup_upto {b : Nat} {u : Tok} (F : Fr G L s.heap m) (N : News G L s.heap l) (ht : IsTup s.heap t vs.toArray) (hb : b < vs.length) (hz : vs.length ≤ 1000)
    (h : ∀ D h', Fr G L h' m → News G L h' ((D, tupO (vs.take b) 0) :: l) → (∀ p ∈ l, p.1 < D) → Q (.ref D) { s with heap := h' })
    (hs : subscripted slice false (.ref t) (.ref s.heap.objs.size) = operate [.ref s.heap.objs.size, .ref t] (getItem (.ref t) (.ref s.heap.objs.size)) := by with_unfolding_all rfl)
    (hg : ∀ r, letTemporaryGo value (.ref t) r = pure () := by intro _; with_unfolding_all rfl) :
    wpAny (model pw w) A (subscriptTail value slice (.ref t) (.ref s.heap.objs.size)) Q E { s with heap := s.heap.push { cls := .type "slice", data := .fields #[.none, .int b u, .none] } } := by
  have ht' : IsTup (s.heap.push { cls := .type "slice", data := .fields #[.none, .int b u, .none] }) t vs.toArray := ht.push _
  refine subscriptTail_ops ht'.typeIs slot_tuple_getitem.lookup (getItem_tuple_upto ht' (Heap.IsSliceOf.new ..) (by simpa using hb) ?_ (by rw [List.size_toArray, sizeLine_eq]; omega)) hs hg
  have o := slice_push (vl := .none) (vu := .int b u) (o := tupO (vs.take b) 0) rfl F N
  show Q (.ref (s.heap.push _).objs.size) _
  rw [Heap.size_push]
  exact h _ _ o.1 o.2 fun p hp => Nat.lt_succ_of_lt (Heap.lt_size (N p hp).1)
theorem tup_from {a : Nat} {u : Tok} (F : Fr G L s.heap m) (N : News G L s.heap l) (ht : IsTup s.heap t vs.toArray) (ha : 1 ≤ a) (hb : a ≤ vs.length) (hz : vs.length ≤ 1000)
    (h : ∀ D h', Fr G L h' m → News G L h' ((D, tupO (vs.drop a) 0) :: l) → (∀ p ∈ l, p.1 < D) → Q (.ref D) { s with heap := h' })
    (hs : subscripted slice false (.ref t) (.ref s.heap.objs.size) = operate [.ref s.heap.objs.size, .ref t] (getItem (.ref t) (.ref s.heap.objs.size)) := by with_unfolding_all rfl)
    (hg : ∀ r, letTemporaryGo value (.ref t) r = pure () := by intro _; with_unfolding_all rfl) :
    wpAny (model pw w) A (subscriptTail value slice (.ref t) (.ref s.heap.objs.size)) Q E { s with heap := s.heap.push { cls := .type "slice", data := .fields #[.int a u, .none, .none] } } := by
  have ht' : IsTup (s.heap.push { cls := .type "slice", data := .fields #[.int a u, .none, .none] }) t vs.toArray := ht.push _
  refine subscriptTail_ops ht'.typeIs slot_tuple_getitem.lookup (getItem_tuple_from ht' (Heap.IsSliceOf.new ..) ha (by simpa using hb) ?_ (by rw [List.size_toArray, sizeLine_eq]; omega)) hs hg
  have o := slice_push (vl := .int a u) (vu := .none) (o := tupO (vs.drop a) 0) rfl F N
  show Q (.ref (s.heap.push _).objs.size) _
  rw [Heap.size_push]
  exact h _ _ o.1 o.2 fun p hp => Nat.lt_succ_of_lt (Heap.lt_size (N p hp).1)
theorem tup_fromI {k : Int} {a : Nat} {u : Tok} (hk : k = (a : Int)) (F : Fr G L s.heap m) (N : News G L s.heap l) (ht : IsTup s.heap t vs.toArray) (ha : 1 ≤ a) (hb : a ≤ vs.length) (hz : vs.length ≤ 1000)
    (h : ∀ D h', Fr G L h' m → News G L h' ((D, tupO (vs.drop a) 0) :: l) → (∀ p ∈ l, p.1 < D) → Q (.ref D) { s with heap := h' })
    (hs : subscripted slice false (.ref t) (.ref s.heap.objs.size) = operate [.ref s.heap.objs.size, .ref t] (getItem (.ref t) (.ref s.heap.objs.size)) := by with_unfolding_all rfl)
    (hg : ∀ r, letTemporaryGo value (.ref t) r = pure () := by intro _; with_unfolding_all rfl) :
    wpAny (model pw w) A (subscriptTail value slice (.ref t) (.ref s.heap.objs.size)) Q E { s with heap := s.heap.push { cls := .type "slice", data := .fields #[.int k u, .none, .none] } } := by
  subst hk
  exact tup_from F N ht ha hb hz h hs hg
theorem add_tup {t b : Addr} {vs ws : List Value} {n1 n2 : Nat} (F : Fr G L s.heap m) (N : News G L s.heap l) (ht : (t, tupO vs n1) ∈ l) (hb : (b, tupO ws n2) ∈ l)
    (h : ∀ D n h', Fr G L h' m → News G L h' ((D, tupO (vs ++ ws) n) :: l) → (D = t ∨ D = b ∨ ∀ p ∈ l, p.1 < D) → Q (.ref D) { s with heap := h' }) (hz : vs.length + ws.length ≤ 1000) :
    wpAny (model pw w) A (binaryOp .Add (.ref t) (.ref b)) Q E s := by
  have dup : ∀ {p : Addr × Obj}, p ∈ l → News G L s.heap (p :: l) := fun {p} hp q hq => (List.mem_cons.mp hq).elim (fun e => e ▸ N p hp) (N q)
  refine add_tuples F N (News.isTup N ht) (News.isTup N hb) (fun e => ?_) (fun _ e => ?_) (fun _ _ h' F' N' => h _ 0 h' F' N' (.inr (.inr fun p hp => Heap.lt_size (N p hp).1))) (by rw [sizeLine_eq]; omega)
  · subst e
    exact h b n2 _ F (dup hb) (.inr (.inl rfl))
  · subst e
    refine h t n1 _ F ?_ (.inl rfl)
    rw [List.append_nil]
    exact dup ht
end
end
section
open PySem PySem.W PySem.Calls PyProof.Rows PySem.Spec
theorem allLt_mem {d : Nat} {l : List (Addr × Obj)} (h : AllLt d l) {p : Addr × Obj} (m : p ∈ l) : p.1 < d := by
  induction l with
  | nil => cases m
  | cons q r ih =>
    obtain ⟨h1, h2⟩ := h
    rcases List.mem_cons.mp m with e | m
    · rw [e]; exact h1
    · exact ih h2 m
noncomputable def PV.setC : PV → Int → PV → PV
  | .node st cs, i, c => .node st (cs.set i.toNat c)
  | d, _, _ => d
noncomputable def PV.put (pd : PV) : List Int → PV → Option PV
  | [], _ => some pd
  | i :: is, d => (d.child i).bind fun c => (put pd is c).map fun c' => d.setC i c'
theorem VsIn.set {l : List (Addr × Obj)} {v : Value} {c : PV} (h : VIn l v c) : ∀ {vs : List Value} {cs : List PV}, VsIn l vs cs → ∀ j, j < cs.length → VsIn l (vs.take j ++ [v] ++ vs.drop (j + 1)) (cs.set j c)
  | _, _, .nil, j, hj => absurd hj (Nat.not_lt_zero _)
  | _, _, .cons a b, 0, _ => .cons h b
  | _, _, .cons a b, j + 1, hj => .cons a (b.set h j (Nat.lt_of_succ_lt_succ hj))
theorem rsize (n : Nat) : Builtin.Range.rangeSize ((n : Int) - 1) (-1) (-1) = n := by
  unfold Builtin.Range.rangeSize
  rw [if_neg (by decide)]
  by_cases h : n = 0
  · subst h
    decide
  · rw [if_pos (by omega)]
    show ((n : Int) - 1 - -1 - 1) / 1 + 1 = _
    rw [Int.ediv_one]
    omega
theorem rfits {i : Int} (h : -1000 ≤ i) (h' : i ≤ 1000) : Builtin.Range.rangeFitsLong i = true := by
  unfold Builtin.Range.rangeFitsLong
  rw [decide_eq_true (by omega), decide_eq_true (by omega)]
  rfl
theorem rsmall {n : Nat} (h : n ≤ 100) : Builtin.Range.small ((n : Int) - 1) (-1) (-1) = true := by
  unfold Builtin.Range.small
  rw [rsize, rfits (by omega) (by omega), rfits (by omega) (by omega), rfits (by omega) (by omega), if_neg (by decide), rfits (by omega) (by omega), Bool.or_true]
  rfl
theorem VsIn.mono {l l' : List (Addr × Obj)} (k : ∀ p ∈ l, p ∈ l') : ∀ {vs : List Value} {cs : List PV}, VsIn l vs cs → VsIn l' vs cs
  | _, _, .nil => .nil
  | _, _, .cons a b => .cons (a.mono k) (b.mono k)
structure WM where
  V : Value
  step : Option Value := none
  found : Option Value := none
  at_ : Option Value := none
  here : Option Value := none
noncomputable def mW (t p ab : Value) (x : WM) : Str → Option Value := fun y => if y = Str.ofString "V" then some x.V else if y = Str.ofString "step" then x.step else if y = Str.ofString "found" then x.found else if y = Str.ofString "at" then x.at_ else if y = Str.ofString "here" then x.here
  else if y = Str.ofString "above" then some ab else if y = Str.ofString "steps" then some t else if y = Str.ofString "part" then some p else none
local macro_rules | `(tactic| walk_at "call builtin:len") => `(tactic| (refine kun_lenT (News.isTup (by assumption) (by k_mem)) (by assumption) (by assumption) ?_))
local macro_rules | `(tactic| walk_at "exec For Name Call cons nil") => `(tactic| (with_reducible refine halt ?_))
local macro_rules | `(tactic| walk_at "subscriptTail") => `(tactic| ((with_reducible show wpAny _ _ (subscriptTail _ _ (Value.ref _) (Value.int _ _)) _ _ _); first
  | (refine' item_list ?a ?b ?c ?d ?_; (case a => exact News.isList (by assumption) (by k_mem)); (case b => first | (with_reducible assumption) | omega); (case c => first | (with_reducible assumption) | omega); (case d => assumption))
  | (refine' item_tupleT ?t ?a ?b ?c ?d ?_; (case t => exact News.isTup (by assumption) (by k_mem)); (case a => first | (with_reducible assumption) | omega); (case b => first | (with_reducible assumption) | omega); (case c => assumption); (case d => assumption))))
local macro_rules | `(tactic| walk_at "subscriptTail") => `(tactic| ((with_reducible show wpAny _ _ (subscriptTail _ _ (Value.ref _) (Value.ref _)) _ _ _); first
  | (refine tup_upto (by assumption) (by assumption) (News.isTup (by assumption) (by k_mem)) (by assumption) (by assumption) ?_; intro D' h' F' N' l1)
  | (refine tup_fromI (by assumption) (by assumption) (by assumption) (News.isTup (by assumption) (by k_mem)) (by assumption) (by assumption) (by assumption) ?_; intro D' h' F' N' l1)))
local macro_rules | `(tactic| walk_at "binaryOp Add ref ref") => `(tactic| (refine' add_tup ?F ?N ?x ?y ?_ ?z; (case F => assumption); (case N => assumption); (case x => k_mem); (case y => k_mem); (case z => first | (with_reducible assumption) | (simp only [List.length_append, List.length_take, List.length_drop, List.length_cons, List.length_nil]; omega)); intro D' n' h' F' N' dl))
noncomputable def Ab (lv : List (Addr × Obj)) (d : PV) (is : List Int) (items : List Value) : Prop := ∀ j, j < items.length → ∃ v dj, items[j]? = some v ∧ d.path (is.take j) = some dj ∧ VIn lv v dj
local macro_rules | `(tactic| walk_at "exec For") => `(tactic| (with_reducible refine halt ?_))
inductive IvUp (t ab : Addr) (pv : Value) (lx lv : List (Addr × Obj)) (d : PV) (is : List Int) (i : Nat) (m' : Str → Option Value) (l' : List (Addr × Obj)) : Prop
  | mk (items : List Value) (k : Nat) (V' : Value) (d' : PV) (st : Option Value) (el : l' = (ab, PySem.W.listOf items.toArray k) :: lx) (em : m' = mW (.ref t) pv (.ref ab) { V := V', step := st }) (hil : items.length = i) (hab : Ab lv d is items) (hV : VIn lv V' d') (hd : d.path (is.take i) = some d')
inductive IvDn (t ab : Addr) (pv : Value) (pd : PV) (V' : Value) (st : Option Value) (L : Addr) (lx lv : List (Addr × Obj)) (d : PV) (is : List Int) (i : Nat) (m' : Str → Option Value) (l' : List (Addr × Obj)) : Prop
  | mk (new : List (Addr × Obj)) (fv : Value) (fd : PV) (atv hv : Option Value) (x : PV) (el : l' = new ++ lx) (em : m' = mW (.ref t) pv (.ref ab) { V := V', step := st, found := some fv, at_ := atv, here := hv }) (hx : d.path (is.take (is.length - i)) = some x) (hfd : PV.put pd (is.drop (is.length - i)) x = some fd) (Vf : VIn (new ++ lv) fv fd) (nT : ∀ p ∈ new, ∃ vs n, p.2 = tupO vs n) (nL : ∀ p ∈ new, p.1 ≠ L)
set_option maxHeartbeats 1000000 in
theorem with_ok {w : World} {mean : ExcName → Option Value} {mg mb : Str → Option Value} {G B : Heap} {A : Around} {h : Heap} {g : Array GenState} {dr : Drawn} {tk : Nat} {os : OsState} {L t : Addr} {m : Str → Option Value} {l lv : List (Addr × Obj)} {fs : List Env} {v pv : Value} {d pd : PV} {is : List Int} {svs : List Value} {n : Nat} {Q E : Value → Shared → Prop}
    (hA : Rm A 10) (X : (KP w.params).In G) (T : Top topProg lsT mean mg mb G) (F : Fr G L h m) (N : News G L h l) (hfr : A.frames = some fs) (S : Base B G L l fs) (V : VIn lv v d) (W : VIn lv pv pd) (lvs : ∀ p ∈ lv, p ∈ l) (hst : (t, tupO svs n) ∈ l) (hi : IntVs svs is) (hlen : is.length ≤ 100)
    (ret : ∀ rd rv new h' tk', PV.put pd is d = some rd → VIn (new ++ lv) rv rd → (∀ p ∈ new, ∃ vs n, p.2 = tupO vs n) → Fr G L h' m → News G L h' (new ++ l) → Q rv ⟨h', g, dr, tk', os⟩)
    (err : d.path is = none → ∀ e k1 k2 h' tk', Err B fs l L m e (fltM (.str (Str.ofString "place") k1) (.str (Str.ofString "no such part of a value") k2)) h' → E (.ref e) ⟨h', g, dr, tk', os⟩) :
    wpAny (model pw w) A (call (.ref 121) [v, .ref t, pv]) Q E ⟨h, g, dr, tk, os⟩ := by
  refine wpAny_call (callG (s := ⟨h, g, dr, tk, os⟩) (binds := [(Str.ofString "V", v), (Str.ofString "steps", .ref t), (Str.ofString "part", pv)]) X T F (Nat.lt_of_le_of_lt (Nat.le_add_right _ _) hA.dp) (by k_is) (by k_is) (BindsTo.of_eq rfl) (locs rfl) rfl rfl rfl (by decide) fun L' h₁ oL hL eL F₁ k₁ => ?_)
  have N₁ := news_in F N hL eL k₁
  try dsimp only
  repeat' (first | walk1 | (dsimp only; walk1) | walk_at "THEN")
  refine Halt.mk ?_
  rename_i ab _ lab h2 F2 N2
  refine for_tup (L := L') (G := G) (t := t) (vs := svs) (n := n) (g := g) (d := dr) (os := os) hA.hh (IvUp t ab pv (l ++ [(L, oL)]) lv d is) ?_ ?_ ?_ ?_
  · rintro i m' l' ⟨items, k, V', d', st, rfl, _⟩
    exact .tail _ (List.mem_append_left _ hst)
  · walk1
    refine Halt.mk ⟨_, _, _, _, rfl, rfl, ⟨[], 0, v, d, none, rfl, rfl, rfl, fun j hj => absurd hj (Nat.not_lt_zero _), V, rfl⟩, fr_m F2 fun y => ?_, N2⟩
    show (if y = Str.ofString "above" then some (Value.ref ab) else List.lookup y [(Str.ofString "part", pv), (Str.ofString "steps", Value.ref t), (Str.ofString "V", v)]) = mW (.ref t) pv (.ref ab) { V := v } y
    simp only [lookup_if, List.lookup_nil, mW]
    by_cases h1 : y = Str.ofString "V"
    · subst h1; rfl
    · by_cases h2 : y = Str.ofString "above"
      · subst h2; rfl
      · by_cases h3 : y = Str.ofString "steps"
        · subst h3; rfl
        · by_cases h4 : y = Str.ofString "part"
          · subst h4; rfl
          · simp only [h1, h2, h3, h4, if_false, ite_self]
  · rintro i m' l' h' tk' v' I oI hv ⟨items, k, V', d', st, rfl, rfl, hil, hab, hV, hd⟩ F' N' off
    obtain ⟨j, tj, hj, rfl⟩ := hi.get hv
    clear N2 F2
    repeat' (first | walk1 | (dsimp only; walk1) | walk_at "THEN")
    have hi' : i < is.length := (List.getElem?_eq_some_iff.mp hj).1
    refine append_K (D := ab) (its := items.toArray) (n := k) (by assumption) (by assumption) (.tail (fun q => off _ (.head _) q.symm) (.head (fun p hp => Nat.ne_of_lt (lab p hp)))) (fun h3 F3 N3 => ?_) (by rw [List.size_toArray, sizeLine_eq]; omega)
    repeat' (first | walk1 | (dsimp only; walk1) | walk_at "THEN")
    refine Halt.mk ?_
    have S' := (S.deeper F N hL eL (env := envOf (Str.ofString "with_part") T11.1.2.2 L' 121 (.ref 120)) rfl (show ScopeKind.function ≠ .module by decide)).more (l' := (I, oI) :: (ab, PySem.W.listOf (items.toArray.push V') (k + 1)) :: (l ++ [(L, oL)])) (fun p hp => List.mem_cons_of_mem _ (List.mem_cons_of_mem _ hp))
    refine inner_ok (hA.deeper.le (by decide)) X T (by assumption) (by assumption) (by show (A.frames.map _) = _; rw [hfr]; rfl) S' hV (fun p hp => List.mem_cons_of_mem _ (List.mem_cons_of_mem _ (List.mem_append_left _ (lvs p hp)))) ?_ ?_
    · intro c cv h4 tk4 hc Vc F4 N4
      repeat' (first | walk1 | (dsimp only; walk1) | walk_at "THEN")
      rename_i F5 N5
      rw [List.push_toArray] at N5
      refine Halt.mk ⟨_, _, _, _, rfl, ⟨items ++ [V'], k + 1, cv, c, some (.int j tj), rfl, rfl, by simp [hil], ?_, Vc, (PV.path_next hd hj).trans hc⟩, fr_m F5 fun y => ?_, N5, ?_⟩
      · intro q hq
        by_cases e : q < items.length
        · obtain ⟨u, du, a1, a2, a3⟩ := hab q e
          exact ⟨u, du, by rw [List.getElem?_append_left e]; exact a1, a2, a3⟩
        · obtain rfl : q = items.length := by simp at hq; omega
          exact ⟨V', d', by first | walk_at "MEM" | simp, hil ▸ hd, hV⟩
      · simp only [mW]
        by_cases h1 : y = Str.ofString "V"
        · simp only [h1, if_true]
        · by_cases h2 : y = Str.ofString "step"
          · simp only [h1, h2, if_true, if_false]
          · simp only [h1, h2, if_false]
      · intro p hp
        refine mem_case hp ?_ fun p hp => ?_
        · exact show ab ≠ I from off (ab, PySem.W.listOf items.toArray k) (.head _)
        · exact off p (.tail _ hp)
    · intro hc e k1 k2 h4 tk4 er
      refine err_loop (s := ⟨h4, g, dr, tk4, os⟩) (l := l) (fs := fs) (by show (A.frames.map _) = _; rw [hfr]; rfl) rfl er F hL ?_ ?_ fun h5 er5 => ?_
      · exact fun p hp => List.mem_cons_of_mem _ (List.mem_cons_of_mem _ (List.mem_append_left _ hp))
      · simp
      · exact err (PV.path_none (k := i + 1) ((PV.path_next hd hj).trans hc)) e k1 k2 h5 tk4 er5
  · rintro m' l' h' tk' ⟨items, k, V', d', st, rfl, rfl, hil, hab, hV, hd⟩ F' N'
    clear N2 F2
    have hsz : ((svs.toArray).size : Int) = (is.length : Int) := by rw [List.size_toArray, hi.len]
    have hsz' : (is.length : Int) ≤ 16384 := by omega
    replace N' : News G L' h' ((t, tupO svs n) :: (ab, PySem.W.listOf items.toArray k) :: (l ++ [(L, oL)])) := fun p hp => by
      refine mem_case hp ?_ fun p hp => ?_
      · exact N' _ (.tail _ (List.mem_append_left _ hst))
      · exact N' p hp
    repeat' (first | walk1 | (dsimp only; walk1) | walk_at "THEN")
    refine Halt.mk ?_
    rename_i F3 N3
    have hil : items.length = is.length := hil.trans hi.len
    refine for_rng (L := L') (G := G) (g := g) (d := dr) (os := os) (a := (is.length : Int) - 1) (b := -1) (c := -1) (n := is.length) hA.hh (IvDn t ab pv pd V' st L ((ab, PySem.W.listOf items.toArray k) :: (l ++ [(L, oL)])) lv d is) ?_ ?_ ?_ ?_ ?_
    · exact rsize _
    · exact rsmall (by omega)
    · repeat (first | walk1 | walk_at "THEN")
      refine Halt.mk ⟨_, _, _, _, _, _, _, _, rfl, rfl, by assumption, ⟨[], pv, pd, none, none, d', rfl, rfl, ?_, ?_, W, (fun p hp => nomatch hp), fun p hp => nomatch hp⟩, fr_m (by assumption) fun y => ?_, fun p hp => ?_⟩
      · rw [hi.len] at hd
        exact hd
      · rw [Nat.sub_zero, List.drop_of_length_le (Nat.le_refl _)]
        rfl
      · simp only [mW]
        by_cases h1 : y = Str.ofString "V"
        · subst h1; rfl
        · by_cases h2 : y = Str.ofString "step"
          · subst h2; rfl
          · by_cases h3 : y = Str.ofString "found"
            · subst h3; rfl
            · simp only [h1, h2, h3, if_false]
      · rename_i N5 _
        exact N5 p (.tail _ hp)
    · rintro i m' l' h4 tk4 tv I oI hin ⟨new, fv, fd, atv, hv, x, rfl, rfl, hx, hfd, Vf, nT, nL⟩ F4 N4 off
      obtain ⟨q, hq, hq', eat, hqn⟩ := ar_dn hin
      obtain ⟨hq0, hq3, hq4⟩ := ar_sm hq' hlen
      rw [eat]
      rw [hq] at hx hfd
      obtain ⟨hev, dk, hab1, hab2, hab3⟩ := hab q (by rw [hil]; exact hq')
      have hjq : is[q]? = some is[q] := List.getElem?_eq_getElem hq'
      have hch := (PV.path_next hab2 hjq).symm.trans hx
      cases hab3 with
      | int n t => cases hch
      | node ha hb hs hz =>
        rename_i na_ nb_ nst ntk nvs ncs nna nnb
        have hrng : 0 ≤ is[q] ∧ is[q] < ncs.length := by
          by_cases e : 0 ≤ is[q] ∧ is[q] < ncs.length
          · exact e
          · rw [child_out e] at hch
            cases hch
        obtain ⟨jn, hjn⟩ := Int.eq_ofNat_of_zero_le hrng.1
        obtain ⟨tj, hsv⟩ : ∃ tj, svs[q]? = some (.int (jn : Int) tj) := by
          have : q < svs.length := by rw [hi.len]; exact hq'
          obtain ⟨i', t', a1, a2⟩ := hi.get (List.getElem?_eq_getElem this)
          rw [hjq] at a1
          cases a1
          exact ⟨t', by rw [List.getElem?_eq_getElem this, a2, hjn]⟩
        have hx1 : items.toArray[((q : Nat) : Int).toNat]? = some (Value.ref na_) := by simpa using hab1
        have hx2 : seqIndex? (q : Int) svs.length = some q := seqIndex_ok hq0 (by rw [hi.len]; exact Int.ofNat_lt.mpr hq')
        have hnl := hs.len
        have hb1 : jn < nvs.length := by rw [hnl]; exact Int.ofNat_lt.mp (hjn ▸ hrng.2)
        have hb2 : (jn : Int) + 1 = ((jn + 1 : Nat) : Int) := rfl
        have hb3 : jn + 1 ≤ nvs.length := hb1
        have hb6 : nvs.length ≤ 3 := hnl ▸ hz
        have hb4 : nvs.length ≤ 1000 := Nat.le_trans hb6 (by decide)
        have hb5 : 1 ≤ jn + 1 := Nat.succ_le_succ (Nat.zero_le jn)
        obtain ⟨hb7, hb8⟩ := ar_t1 (j := jn) (b := fv) hb6
        have N6 : News G L' h4 ((na_, tupO [.str (tagS nst) ntk, .ref nb_] nna) :: (nb_, tupO nvs nnb) :: (t, tupO svs n) :: (ab, PySem.W.listOf items.toArray k) :: (I, oI) :: (new ++ ((ab, PySem.W.listOf items.toArray k) :: (l ++ [(L, oL)])))) := by
          intro p hp
          refine mem_case hp ?_ fun p hp => ?_
          · exact N4 _ (.tail _ (List.mem_append_right _ (.tail _ (List.mem_append_left _ (lvs _ ha)))))
          · refine mem_case hp ?_ fun p hp => ?_
            · exact N4 _ (.tail _ (List.mem_append_right _ (.tail _ (List.mem_append_left _ (lvs _ hb)))))
            · refine mem_case hp ?_ fun p hp => ?_
              · exact N4 _ (.tail _ (List.mem_append_right _ (.tail _ (List.mem_append_left _ hst))))
              · refine mem_case hp ?_ fun p hp => ?_
                · exact N4 _ (.tail _ (List.mem_append_right _ (.head _)))
                · exact N4 _ hp
        clear N4 N3 F3
        repeat' (first | walk1 | (dsimp only; walk1) | walk_at "THEN")
        rename_i D5 h6 l13 D4 h5 l12 D3 n1 h4' dl1 D2 h3' l11 D1 n0 h2' dl0 D0 h1' l10 h0' F7 N7
        have mL : (L, oL) ∈ new ++ ((ab, PySem.W.listOf items.toArray k) :: (l ++ [(L, oL)])) := List.mem_append_right _ (.tail _ (List.mem_append_right _ (.head _)))
        have z5 : I < D5 ∧ L < D5 := ⟨l13 (I, oI) (by first | walk_at "MEM" | simp), l13 (L, oL) (by first | walk_at "MEM" | simp)⟩
        have z4 : I < D4 ∧ L < D4 := ⟨l12.2.2.2.2.2.1, allLt_mem l12.2.2.2.2.2.2 mL⟩
        have z3 : I < D3 ∧ L < D3 := by
          rcases dl1 with e | e | e
          · rw [e]; exact z5
          · rw [e]; exact z4
          · exact ⟨e (I, oI) (by first | walk_at "MEM" | simp), e (L, oL) (by first | walk_at "MEM" | simp)⟩
        have z2 : I < D2 ∧ L < D2 := ⟨l11 (I, oI) (by first | walk_at "MEM" | simp), l11 (L, oL) (by first | walk_at "MEM" | simp)⟩
        have z1 : I < D1 ∧ L < D1 := by
          rcases dl0 with e | e | e
          · rw [e]; exact z3
          · rw [e]; exact z2
          · exact ⟨e (I, oI) (by first | walk_at "MEM" | simp), e (L, oL) (by first | walk_at "MEM" | simp)⟩
        have z0 : I < D0 ∧ L < D0 := ⟨l10.2.2.2.2.2.2.2.2.2.1, allLt_mem l10.2.2.2.2.2.2.2.2.2.2 mL⟩
        refine Halt.mk ⟨_, _, _, _, rfl, ⟨(D0, tupO [.str (tagS nst) ntk, .ref D1] 0) :: (D1, tupO (nvs.take jn ++ [fv] ++ nvs.drop (jn + 1)) n0) :: new, .ref D0, .node nst (ncs.set jn fd), some (.int q tv), some (.ref na_), .node nst ncs, rfl, rfl, ?_, ?_, ?_, ?_, ?_⟩, fr_m F7 fun y => ?_, ?_, ?_⟩
        · rw [hqn]
          exact hab2
        · rw [hqn, List.drop_eq_getElem_cons hq']
          show ((PV.node nst ncs).child is[q]).bind _ = _
          rw [hch]
          show (PV.put pd (is.drop (q + 1)) x).map _ = _
          rw [hfd]
          show some (PV.node nst (ncs.set (is[q]).toNat fd)) = _
          rw [hjn]
          rfl
        · have mo : ∀ p ∈ lv, p ∈ ((D0, tupO [.str (tagS nst) ntk, .ref D1] 0) :: (D1, tupO (nvs.take jn ++ [fv] ++ nvs.drop (jn + 1)) n0) :: new) ++ lv := fun p hp => List.mem_append_right _ hp
          exact .node (.head _) (.tail _ (.head _)) (VsIn.set (Vf.mono fun p hp => .tail _ (.tail _ hp)) (hs.mono mo) jn (hnl ▸ hb1)) (by rw [List.length_set]; exact hz)
        · intro p hp
          refine mem_case hp ?_ fun p hp => ?_
          · exact ⟨_, _, rfl⟩
          · refine mem_case hp ?_ fun p hp => ?_
            · exact ⟨_, _, rfl⟩
            · exact nT p hp
        · intro p hp
          refine mem_case hp ?_ fun p hp => ?_
          · exact Nat.ne_of_gt z0.2
          · refine mem_case hp ?_ fun p hp => ?_
            · exact Nat.ne_of_gt z1.2
            · exact nL p hp
        · simp only [mW]
          by_cases h1 : y = Str.ofString "found"
          · subst h1; rfl
          · by_cases h2 : y = Str.ofString "here"
            · subst h2; rfl
            · by_cases h3 : y = Str.ofString "at"
              · subst h3; rfl
              · simp only [h1, h2, h3, if_false]
        · intro p hp
          refine mem_case hp ?_ fun p hp => ?_
          · exact N7 _ (by first | walk_at "MEM" | simp)
          · rcases List.mem_append.mp hp with hp | hp
            · refine mem_case hp ?_ fun p hp => ?_
              · exact N7 _ (.head _)
              · refine mem_case hp ?_ fun p hp => ?_
                · exact N7 _ (.tail _ (.head _))
                · exact N7 p (by first | walk_at "MEM" | simp [hp])
            · refine N7 p ?_
              first | (refine sub_at ?_ hp; walk_at "SUB") | (simp only [List.mem_cons, List.mem_append] at hp ⊢; grind)
        · intro p hp
          rcases List.mem_append.mp hp with hp | hp
          · refine mem_case hp ?_ fun p hp => ?_
            · exact Nat.ne_of_gt z0.1
            · refine mem_case hp ?_ fun p hp => ?_
              · exact Nat.ne_of_gt z1.1
              · exact off p (List.mem_append_left _ hp)
          · exact off p (List.mem_append_right _ hp)
    · rintro m' l' h4 tk4 ⟨new, fv, fd, atv, hv, x, rfl, rfl, hx, hfd, Vf, nT, nL⟩ F4 N4
      repeat' (first | walk1 | (dsimp only; walk1) | walk_at "THEN")
      rw [Nat.sub_self] at hx hfd
      cases hx
      have o := fr_out F hL F4 (N4 (L, oL) (by first | walk_at "MEM" | simp)).1
      refine ret fd fv new _ _ hfd Vf nT o fun p hp => ?_
      rcases List.mem_append.mp hp with hp | hp
      · exact ⟨(N4 p (List.mem_append_left _ hp)).1, nL p hp, (N4 p (List.mem_append_left _ hp)).2.2⟩
      · exact ⟨(N4 p (by first | walk_at "MEM" | simp [hp])).1, (N p hp).2⟩
end
section
open PySem PySem.W PySem.Calls PySem.Spec
section
variable {w : World} {A : Around} {E : Value → Shared → Prop} {h : Heap} {g : Array GenState} {d : Drawn} {t : Nat} {os : OsState} {x dx : Addr} {o : Obj} {km : Str → Option Value} {v : Value} {vs : Array Value}
theorem flt_ga (X : (KP w.params).In h) : Looks (model pw w) h (typeLookup (.ref 59) "__getattribute__") (some (.builtin "BaseException.__getattribute__")) := looks_findIn X (by k_is)
theorem flt_hook (X : (KP w.params).In h) : Looks (model pw w) h (typeLookup (.ref 59) "__getattr__") none := looks_findIn X (by k_is)
theorem flt_nokind (X : (KP w.params).In h) : Looks (model pw w) h (typeLookup (.ref 59) (Str.ofString "kind")) none := looks_findIn X (by k_is)
theorem flt_base (X : (KP w.params).In h) : Looks (model pw w) h (isSubtype (.ref 59) (.type "BaseException")) true := looks_mroIn X (by k_is)
theorem kind_entry {tk : Tok} {Q : PySem.Fin → Shared → Prop} (X : (KP w.params).In h) (hx : h.get? x = some o) (hc : o.cls = .ref 59) (hd : o.data = .fields vs) (hdd : o.dict = some dx) (n : h.Ns1 dx km) (hk : km (Str.ofString "kind") = some v)
    (hq : Q (.done (.ret v)) ⟨h, g, d, t, os⟩) : wpAny (model pw w) A (Builtin.«object.__getattribute__» ⟨[.ref x, .str (Str.ofString "kind") tk], []⟩) Q E ⟨h, g, d, t, os⟩ := by
  have hC := flt_at X
  have ht : Looks (model pw w) h (typeOf (.ref x)) (.ref 59) := by
    refine (Looks.ld hx).andThen ?_
    rw [hc]
    exact .now
  have hl := flt_nokind X
  unfold Builtin.«object.__getattribute__»
  repeat (first | with_reducible refine ht.at ?_ | with_reducible refine hl.at ?_ | (with_reducible refine wpAny_loadPart_at hx ?_; rw [hc]) | wp_step)
  rw [hd]
  dsimp only
  unfold instanceDict
  repeat (first | (with_reducible refine wpAny_loadPart_at hx ?_; rw [hc]) | with_reducible refine wpAny_loadPart_at hC ?_ | wp_step)
  rw [hdd]
  repeat (first | (with_reducible refine wpAny_nsGet n.ns ?_; rw [hk]) | wp_step)
  exact hq
theorem kind_call {tk : Tok} {R : Result → Shared → Prop} (X : (KP w.params).In h) (hx : h.get? x = some o) (hc : o.cls = .ref 59) (hd : o.data = .fields vs) (hdd : o.dict = some dx) (n : h.Ns1 dx km) (hk : km (Str.ofString "kind") = some v)
    (hq : R (.ok (.ret v)) ⟨h, g, d, t, os⟩) : codeAny (model pw w) A (.call (.builtin "BaseException.__getattribute__") ⟨[.ref x, .str (Str.ofString "kind") tk], []⟩) R ⟨h, g, d, t, os⟩ := by
  have FB := PySem.F.attrBase_Exception
  have ht : Looks (model pw w) h (typeOf (.ref x)) (.ref 59) := by
    refine (Looks.ld hx).andThen ?_
    rw [hc]
    exact .now
  have hi : Looks (model pw w) h (isInstance (.ref x) (.type "BaseException")) true := ht.andThen (flt_base X)
  refine codeAny_call_builtin FB.ga.plain PySem.F.entry_bexc_ga ?_
  with_reducible refine check_slot (owner := "BaseException") (n := "__getattribute__") (by decide +kernel) (by decide +kernel) hi (PySem.F.args_bexc_ga _ _) ?_
  refine kind_entry X hx hc hd hdd n hk ?_
  exact hq
theorem kind_attr {expr : Bool} {Q : Value → Shared → Prop} (X : (KP w.params).In h) (hx : h.get? x = some o) (hc : o.cls = .ref 59) (hd : o.data = .fields vs) (hdd : o.dict = some dx) (n : h.Ns1 dx km) (hk : km (Str.ofString "kind") = some v) (hh : handedOut v = pure v)
    (hq : Q v ⟨h, g, d, t + 1, os⟩) : wpAny (model pw w) A (getAttr (.ref x) (Str.ofString "kind") expr) Q E ⟨h, g, d, t, os⟩ := by
  have FB := PySem.F.attrBase_Exception
  have f3 := FB.ga.bind (.ref x)
  have ht : Looks (model pw w) h (typeOf (.ref x)) (.ref 59) := by
    refine (Looks.ld hx).andThen ?_
    rw [hc]
    exact .now
  have hl := flt_ga X
  have hl2 := flt_hook X
  have hx0 : (expr && onTheHeap (Value.builtin "BaseException.__getattribute__")) = false := by cases expr <;> rfl
  have hx2 : (Value.builtin "BaseException.__getattribute__" == Value.builtin "object.__getattribute__") = false := by decide +kernel
  have hx1 : (onTheHeap (Value.ref 59) && Value.builtin "BaseException.__getattribute__" == Value.builtin "object.__getattribute__") = false := by rw [hx2]; rfl
  unfold getAttr getAttrBy
  repeat (first | with_reducible refine ht.at ?_ | with_reducible refine hl.at ?_ | with_reducible refine hl2.at ?_ | wp_step)
  refine kind_call X hx hc hd hdd n hk ?_
  show wpAny _ _ (handedOut v) _ _ _
  rw [hh]
  exact wpAny_pure hq
end
section
variable {w : World} {A : Around} {E : Value → Shared → Prop} {s : Shared} {env : Env}
/-- a clause for MachineFault by name -/
theorem handle_fault {e : Addr} {t : Expr} {n : Str} {b₀ : Stmt} {suite : List Stmt} {pos : Pos} {rest : List ExceptHandler} {Q : Flow → Shared → Prop}
    (h : wpAny (model pw w) (A.mark (some (.ref e))) (eval t env) (fun c s₁ => Halt (c = .ref 59 ∧ (∃ oe, s₁.heap.get? 59 = some fltCls ∧ s₁.heap.get? e = some oe ∧ oe.cls = .ref 59) ∧
      wpAny (model pw w) (A.mark (some (.ref e))) (setFlight (.ref e) none) (fun _ s₂ =>
          wpAny (model pw w) (A.mark (some (.ref e))) (storeName env n (.ref e)) (fun _ s₃ =>
            wpAny (model pw w) (A.mark (some (.ref e))) (execs (b₀ :: suite) env)
              (fun f s₄ => wpAny (model pw w) A (do bindName env n .none; unbindBehindTheSuite env n pos) (fun _ s₅ => Q f s₅) E s₄)
              (fun _ _ => False) s₃)
            (fun _ _ => False) s₂)
          (fun _ _ => False) s₁))
      (fun _ _ => False) s) :
    wpAny (model pw w) A (handleBy (.ref e) env (.ExceptHandler (some t) (some n) (b₀ :: suite) pos :: rest)) Q E s := by
  refine wpAny_handleBy_cons (codeAny_handlers_test (wpAny_mono h (fun c s₁ h₁ => ?_) fun _ _ x => x.elim)) (by intro q; cases q)
  obtain ⟨rfl, ⟨oe, hC, he, hc⟩, hk⟩ := halt h₁
  refine wpAny_excMatches_sub_self (h := s₁.heap) (g := s₁.gens) (d := s₁.drawn) (t := s₁.toks) (os := s₁.os) hC he hc (by decide +kernel) ?_
  refine codeAny_handlers_suite_as (wpAny_mono hk (fun _ s₂ h₂ => wpAny_mono h₂ (fun _ s₃ h₃ => wpAny_mono h₃ (fun f s₄ h₄ => h₄) fun _ _ x => x.elim) fun _ _ x => x.elim) fun _ _ x => x.elim)
end
end
section
open PySem PySem.W PySem.Calls PyProof.Rows PySem.Spec
/-- what a call without arguments does: answers, or raises a MachineFault -/
noncomputable def CSpec (w : World) (G B : Heap) (c : Value) (l : List (Addr × Obj)) (n : Nat) (g : Array GenState) (d : Drawn) (os : OsState) (OK : List (Addr × Obj) → Value → Prop) (Bad : Prop) (kd : Str) : Prop :=
  ∀ {A : Around} {L : Addr} {m : Str → Option Value} {h : Heap} {l' : List (Addr × Obj)} {fs : List Env} {t : Nat} {Q E : Value → Shared → Prop}, Rm A n → Fr G L h m → News G L h l' → (∀ p ∈ l, p ∈ l') → A.frames = some fs → Base B G L l' fs →
    (∀ v new h' tk', OK new v → (∀ p ∈ new, ∃ vs n, p.2 = tupO vs n) → Fr G L h' m → News G L h' (new ++ l') → Q v ⟨h', g, d, tk', os⟩) →
    (∀ e k1 mv h' tk', Bad → Err B fs l' L m e (fltM (.str kd k1) mv) h' → E (.ref e) ⟨h', g, d, tk', os⟩) → wpAny (model pw w) A (call c []) Q E ⟨h, g, d, t, os⟩
local macro_rules | `(tactic| walk_at "callWith ref") => `(tactic| (with_reducible refine halt ?_))
set_option maxHeartbeats 1000000 in
theorem kind_ok {w : World} {mean : ExcName → Option Value} {mg mb : Str → Option Value} {G B : Heap} {A : Around} {g : Array GenState} {d : Drawn} {os : OsState} {h : Heap} {tk : Nat} {L c : Addr} {m : Str → Option Value} {l : List (Addr × Obj)} {fs : List Env} {Q E : Value → Shared → Prop} {n : Nat} {OK : List (Addr × Obj) → Value → Prop} {Bad : Prop} {kd : Str}
    (hA : Rm A (n + 1)) (X : (KP w.params).In G) (T : Top topProg lsT mean mg mb G) (F : Fr G L h m) (N : News G L h l) (hfr : A.frames = some fs) (S : Base B G L l fs) (hGB : ∀ b o, G.get? b = some o → B.get? b = some o)
    (C : CSpec w G B (.ref c) l n g d os OK Bad kd) (hcf : ∃ oc od fd sl, (c, (⟨oc, od, .func fd, sl⟩ : Obj)) ∈ l)
    (ok : ∀ v new D h' tk', OK new v → Fr G L h' m → News G L h' ((D, tupO [.none, v] 0) :: (new ++ l)) → Q (.ref D) ⟨h', g, d, tk', os⟩)
    (bad : ∀ k1 D h' tk', Bad → Fr G L h' m → B.StaysIn h' → Up l h' → h'.get? D = some (tupO [.str kd k1, .none] 0) → D ≠ L → G.get? D = none → Q (.ref D) ⟨h', g, d, tk', os⟩) :
    wpAny (model pw w) A (call (.ref 550) [.ref c]) Q E ⟨h, g, d, tk, os⟩ := by
  refine wpAny_call (callG (s := ⟨h, g, d, tk, os⟩) (binds := [(Str.ofString "call", .ref c)]) X T F (Nat.lt_of_le_of_lt (Nat.le_add_right _ _) hA.dp) (by k_is) (by k_is) (BindsTo.of_eq rfl) (locs rfl) rfl rfl rfl (by decide) fun L' h₁ oL hL eL F₁ k₁ => ?_)
  have N₁ := news_in F N hL eL k₁
  try dsimp only
  refine wpAny_execs_cons ?_
  refine wpAny_Try_except ?_
  repeat' (first | walk1 | (dsimp only; walk1) | walk_at "THEN")
  refine Halt.mk ?_
  obtain ⟨oc, od, fd, sl, hcf⟩ := hcf
  refine callWith_F0 ⟨oc, od, fd, sl, (N₁ _ (List.mem_append_left _ hcf)).1⟩ ?_
  have S' := S.deeper F N hL eL (env := envOf (Str.ofString "_law_kind") T39.1.2.2 L' 550 (.ref 549)) rfl (show ScopeKind.function ≠ .module by decide)
  have hfr' : (A.deeper (envOf (Str.ofString "_law_kind") T39.1.2.2 L' 550 (.ref 549))).frames = some (envOf (Str.ofString "_law_kind") T39.1.2.2 L' 550 (.ref 549) :: fs) := by show (A.frames.map _) = _; rw [hfr]; rfl
  refine C (l' := l ++ [(L, oL)]) hA.deeper F₁ N₁ (fun p hp => List.mem_append_left _ hp) hfr' S' ?_ ?_
  · intro v new h2 tk2 hok hnt F2 N2
    repeat' (first | walk1 | (dsimp only; walk1) | walk_at "THEN")
    rename_i D h3 F3 N3 l3
    have o := fr_out F hL F3 (N3 (L, oL) (by first | walk_at "MEM" | simp)).1
    refine ok v new D _ _ hok o fun p hp => ?_
    have nf : ∀ p : Addr × Obj, (∃ vs n, p.2 = tupO vs n) → p ∈ ((D, tupO [.none, v] 0) :: (new ++ (l ++ [(L, oL)]))) → p.1 ≠ L := fun p ⟨vs, n, q⟩ hp r => by
      obtain ⟨o', a, b⟩ := fr_obj F
      have e1 := (N3 p hp).1
      have e2 := (N3 (L, oL) (by first | walk_at "MEM" | simp)).1
      rw [r, e2, q] at e1
      obtain ⟨oo, es, ep, a, b, _⟩ := F.ns
      rw [hL] at a
      cases a
      dsimp only at e1
      rw [Option.some.inj e1] at b
      cases b
    refine mem_case hp ?_ fun p hp => ?_
    · exact ⟨(N3 _ (.head _)).1, nf _ ⟨_, _, rfl⟩ (.head _), (N3 _ (.head _)).2.2⟩
    · rcases List.mem_append.mp hp with hp | hp
      · have i3 : p ∈ ((D, tupO [.none, v] 0) :: (new ++ (l ++ [(L, oL)]))) := .tail _ (List.mem_append_left _ hp)
        exact ⟨(N3 p i3).1, nf p (hnt p hp) i3, (N3 p i3).2.2⟩
      · exact ⟨(N3 p (by first | walk_at "MEM" | simp [hp])).1, (N p hp).2⟩
  · intro e k1 mv h2 tk2 hbad er
    obtain ⟨⟨dx, fl, ns1, bn, dL, doff⟩, up, ns⟩ := er
    refine fly_note (s := ⟨h2, g, d, tk2, os⟩) hfr' rfl fl fun h3 fl3 k3 => ?_
    refine fly_lands (s := ⟨h3, g, d, tk2, os⟩) fl3 fun h4 fl4 k4 => ?_
    refine handle_fault ?_
    have k34 := k3.trans k4
    have F4 : Fr G L' h4 (fun y => List.lookup y [(Str.ofString "call", Value.ref c)].reverse) := ⟨k34.ns ns, fun b o z => fl4.st b o (hGB b o z), F₁.above⟩
    walk1
    refine Halt.mk ⟨rfl, ?_, ?_⟩
    · obtain ⟨oe, vs, _, _, _, he, hc, _⟩ := fl4.tb
      exact ⟨oe, flt_at (X.keeps F4.keep), he, hc⟩
    refine fly_lands fl4 fun h5 fl5 k5 => ?_
    have k35 := k34.trans k5
    have F5 : Fr G L' h5 (fun y => List.lookup y [(Str.ofString "call", Value.ref c)].reverse) := ⟨k35.ns ns, fun b o z => fl5.st b o (hGB b o z), F₁.above⟩
    have n5 := ns1_up ns1 k35
    have up5 := up.then k35
    obtain ⟨oe, vs, _, _, _, he, hc, hdd, hd, _⟩ := fl5.tb
    obtain ⟨od, es, ep, hod, hodd, rn5⟩ := id n5
    have eL' : e ≠ L' := fun q => by
      obtain ⟨o', a, b⟩ := fr_obj F5
      rw [← q, he] at a
      cases a
      exact b vs hd
    have gnone : ∀ {b : Addr}, B.get? b = none → G.get? b = none := fun {b} z => by
      cases q : G.get? b with
      | none => rfl
      | some o => rw [hGB b o q] at z; cases z
    have N5 : News G L' h5 ((e, oe) :: (dx, od) :: ((l ++ [(L, oL)]).filterMap fun p => (h5.get? p.1).map fun o => (p.1, o))) := by
      intro p hp
      refine mem_case hp ?_ fun p hp => ?_
      · exact ⟨he, eL', gnone fl5.en⟩
      · refine mem_case hp ?_ fun p hp => ?_
        · exact ⟨hod, dL, gnone bn⟩
        · obtain ⟨q, hq, z⟩ := List.mem_filterMap.mp hp
          obtain ⟨o', a, rfl⟩ := Option.map_eq_some_iff.mp z
          exact ⟨a, (N₁ q hq).2⟩
    repeat' (first | walk1 | (dsimp only; walk1) | walk_at "THEN")
    rename_i h6 F6 N6
    have n6 : h6.Ns1 dx (fltM (.str kd k1) mv) := ⟨od, es, ep, (N6 (dx, od) (by first | walk_at "MEM" | simp)).1, hodd, rn5⟩
    refine kind_attr (v := .str kd k1) (X.keeps F6.keep) (N6 (e, oe) (by first | walk_at "MEM" | simp)).1 hc hd hdd n6 rfl rfl ?_
    repeat' (first | walk1 | (dsimp only; walk1) | walk_at "THEN")
    have lo : ∀ p ∈ l ++ [(L, oL)], (∀ vs, p.2.data ≠ .fields vs) → ∃ sl, (p.1, { p.2 with slots := sl }) ∈ (l ++ [(L, oL)]).filterMap (fun p => (h5.get? p.1).map fun o => (p.1, o)) := fun p hp hn => by
      obtain ⟨sl, a⟩ := up5 p hp hn
      exact ⟨sl, List.mem_filterMap.mpr ⟨p, hp, by rw [a]; rfl⟩⟩
    rename_i F8 N8
    have noL : ∀ vs, oL.data ≠ .fields vs := by
      obtain ⟨o', a, b⟩ := fr_obj F
      rw [hL] at a
      cases a
      exact b
    obtain ⟨slL, mL⟩ := lo (L, oL) (by first | walk_at "MEM" | simp) noL
    have hDL := (N8 _ (.tail _ (.tail _ (.tail _ mL)))).1
    refine bad k1 _ _ _ hbad ⟨ns_up F.ns hL hDL, F8.keep, F.above⟩ (fun b o z => ?_) (fun p hp hn => ?_) (N8 _ (.head _)).1 (fun q => ?_) (N8 _ (.head _)).2.2
    · rcases S'.sub b o z with r | r
      · exact F8.keep _ _ r
      · exact (N8 (b, o) (.tail _ (.tail _ (.tail _ (List.mem_filterMap.mpr ⟨(b, o), r, by show (h5.get? b).map _ = _; rw [fl5.st b o z]; rfl⟩))))).1
    · obtain ⟨sl, a⟩ := lo p (List.mem_append_left _ hp) hn
      exact ⟨sl, (N8 _ (.tail _ (.tail _ (.tail _ a)))).1⟩
    · have e1 := (N8 _ (.head _)).1
      rw [show _ = L from q, hDL] at e1
      obtain ⟨o', es', ep', a, b, _⟩ := F.ns
      rw [hL] at a
      cases a
      have e2 : oL.data = Data.seq #[Value.str kd k1, Value.none] 0 := congrArg Obj.data (Option.some.inj e1)
      rw [e2] at b
      cases b
end
section
open PySem PySem.W PySem.Calls PyProof.Rows PySem.Spec
theorem out_new {G : Heap} {L L' src : Addr} {h h' : Heap} {m m' : Str → Option Value} {l l' : List (Addr × Obj)} (new : List (Addr × Obj)) {so so' oL : Obj} (F : Fr G L h m) (N : News G L h ((src, so) :: l)) (hL : h.get? L = some oL)
    (F' : Fr G L' h' m') (N' : News G L' h' l') (h1 : (src, so') ∈ l') (h2 : (L, oL) ∈ l') (sub : ∀ p ∈ l, p ∈ l') (hn : ∀ p ∈ new, p ∈ l' ∧ p.1 ≠ L) : Fr G L h' m ∧ News G L h' ((src, so') :: (new ++ l)) := by
  refine ⟨fr_out F hL F' (N' _ h2).1, fun p hp => ?_⟩
  refine mem_case hp ?_ fun p hp => ?_
  · exact ⟨(N' _ h1).1, (N _ (.head _)).2.1, (N' _ h1).2.2⟩
  · rcases List.mem_append.mp hp with hp | hp
    · exact ⟨(N' _ (hn p hp).1).1, (hn p hp).2, (N' _ (hn p hp).1).2.2⟩
    · exact ⟨(N' _ (sub p hp)).1, (N p (.tail _ hp)).2⟩
set_option maxHeartbeats 1000000 in
theorem one_ok {w : World} {mean : ExcName → Option Value} {mg mb : Str → Option Value} {G : Heap} {A : Around} {h : Heap} {g : Array GenState} {d : Drawn} {tk : Nat} {os : OsState} {L src q : Addr} {m : Str → Option Value} {l : List (Addr × Obj)} {so : Obj} {M : Int} {t1 t2 t3 : Tok} {n : Nat} {Q E : Value → Shared → Prop}
    (hA : Rm A 5) (X : (KP w.params).In G) (T : Top topProg lsT mean mg mb G) (F : Fr G L h m) (N : News G L h ((src, so) :: l)) (hso : SrcO M so) (off : ∀ p ∈ l, p.1 ≠ src)
    (hq : (q, PySem.W.listOf #[.int (-1) t1, .int 3 t2, .int 9 t3] n) ∈ l)
    (ret : ∀ (r : Int) (t : Tok) so' h' tk', Fr G L h' m → News G L h' ((src, so') :: l) → SrcO M so' → -1 ≤ r → r ≤ 9 → Q (.int r t) ⟨h', g, d, tk', os⟩) :
    wpAny (model pw w) A (call (.ref 524) [.ref src, .ref q]) Q E ⟨h, g, d, tk, os⟩ := by
  refine wpAny_call (callE (s := ⟨h, g, d, tk, os⟩) (binds := [(Str.ofString "source", .ref src), (Str.ofString "things", .ref q)]) X T F (Nat.lt_of_le_of_lt (Nat.le_add_right _ _) hA.dp) (by k_is) (by k_is) (BindsTo.of_eq rfl) (locs rfl) rfl rfl rfl (by decide) fun L' h₁ oL E' hL eL F₁ k₁ => ?_)
  have N₁ : News G L' h₁ ((src, so) :: (q, PySem.W.listOf #[.int (-1) t1, .int 3 t2, .int 9 t3] n) :: (l ++ [(L, oL)])) := fun p hp => by
    have N₀ := news_in F N hL eL k₁
    refine mem_case hp ?_ fun p hp => ?_
    · exact N₀ _ (.head _)
    · refine mem_case hp ?_ fun p hp => ?_
      · exact N₀ _ (.tail _ (List.mem_append_left _ hq))
      · exact N₀ p (.tail _ hp)
  have off' : ∀ p ∈ (q, PySem.W.listOf #[.int (-1) t1, .int 3 t2, .int 9 t3] n) :: (l ++ [(L, oL)]), p.1 ≠ src := fun p hp => by
    refine mem_case hp ?_ fun p hp => ?_
    · exact off _ hq
    · rcases List.mem_append.mp hp with hp | hp
      · exact off p hp
      · rw [List.mem_singleton.mp hp]; exact fun r => (N (src, so) (.head _)).2.1 r.symm
  try dsimp only
  repeat' (first | walk1 | (dsimp only; walk1) | walk_at "THEN")
  refine Halt.mk ?_
  refine take_ok (hA.deeper.le (by decide)) X T (by assumption) (by assumption) hso off' (by decide) (by decide) fun r t so' h2 tk2 F2 N2 hso' r0 r1 => ?_
  obtain rfl | rfl | rfl : r = 0 ∨ r = 1 ∨ r = 2 := ar_3 r0 r1
  all_goals
    repeat' (first | walk1 | (dsimp only; walk1) | walk_at "THEN")
    have o := out_new (l' := (src, so') :: (q, PySem.W.listOf #[.int (-1) t1, .int 3 t2, .int 9 t3] n) :: (l ++ [(L, oL)])) [] F N hL (by assumption) (by assumption) (.head _) (by first | walk_at "MEM" | simp) (fun p hp => .tail _ (.tail _ (List.mem_append_left _ hp))) (fun p hp => nomatch hp)
    exact ret _ _ so' _ _ o.1 o.2 hso' (by decide) (by decide)
end
section
open PySem PySem.W PySem.Calls PyProof.Rows PySem.Spec
noncomputable def ItL (t : Addr) (i : Nat) (o : Obj) : Prop := o.cls = .type "list_iterator" ∧ o.data = .fields #[.ref t, .int i 0]
theorem forLst {w : World} {A : Around} {G : Heap} {L t : Addr} {env : Env} {x : Str} {p : Pos} {vs : List Value} {n : Nat} {body : List Stmt} {R : Result → Shared → Prop} {g : Array GenState} {d : Drawn} {os : OsState}
    (hh : A.handled = none) (P : Nat → (Str → Option Value) → List (Addr × Obj) → Prop) (ht : ∀ i m l, P i m l → (t, PySem.W.listOf vs.toArray n) ∈ l) (I : Addr)
    (turn : ∀ i m l h tk v oI, vs[i]? = some v → P i m l → Fr G L h m → News G L h ((I, oI) :: l) → (∀ p ∈ l, p.1 ≠ I) →
      wpAny (model pw w) A (assign (.Name x p) env v) (fun _ s₂ => wpAny (model pw w) A (execs body env) (fun f s₃ => match f with
        | .next | .cont => IvOn P G L g d os i I oI s₃
        | .brk => R (.ok .next) s₃
        | .ret v => R (.ok (.ret v)) s₃) (notedBy (model pw w) A env fun e s' => R (.error e) s') s₂) (notedBy (model pw w) A env fun e s' => R (.error e) s') ⟨h, g, d, tk, os⟩)
    (done : ∀ m l h tk, P vs.length m l → Fr G L h m → News G L h l → R (.ok .next) ⟨h, g, d, tk, os⟩) {m : Str → Option Value} {l : List (Addr × Obj)} {h : Heap} {tk : Nat} {oI : Obj}
    (hP : P 0 m l) (F : Fr G L h m) (N : News G L h ((I, oI) :: l)) (hO : ItL t 0 oI) (off : ∀ p ∈ l, p.1 ≠ I) : codeAny (model pw w) A (.forLoop (.Name x p) (.ref I) body [] env) R ⟨h, g, d, tk, os⟩ := by
  refine codeAny_forLoop_any (IvLp vs.length P G L g d os I (ItL t)) (fun k s hI => ?_) vs.length ⟨0, m, l, h, tk, oI, rfl, rfl, hP, F, N, hO, off⟩
  obtain ⟨i, m, l, h, tk, oI, hk, rfl, hP, F, N, hO, off⟩ := hI
  have hit : h.IsListIter I t i := ⟨_, (N _ (.head _)).1, hO.1, hO.2⟩
  have hm := ht i m l hP
  have htu : h.IsList t vs.toArray := ⟨_, (N _ (.tail _ hm)).1, rfl, _, rfl⟩
  cases hx : vs[i]? with
  | none =>
    have hi : i = vs.length := by
      have := List.getElem?_eq_none_iff.mp hx
      omega
    subst hi
    refine wpAny_pyNext_list_end hh hit htu (by simpa using hx) fun h' ke => ?_
    refine wpAny_pure (done m l h' tk hP (fr_step F N ke) fun p hp => ⟨ke _ _ (off p hp) (N p (.tail _ hp)).1, (N p (.tail _ hp)).2⟩)
  | some v =>
    have hi : i < vs.length := (List.getElem?_eq_some_iff.mp hx).1
    refine wpAny_pyNext_list_item hit htu (by simpa using hx) fun h' hit' sb => ?_
    have kk : ∀ b q, b ≠ I → h.get? b = some q → h'.get? b = some q := fun b q hb e => (sb.2 b hb).trans e
    obtain ⟨o', hI, c1, c2⟩ := hit'
    have N' := news_step N off kk hI
    refine wpAny_pure ?_
    refine wpAny_mono (turn i m l h' tk v o' hx hP (fr_step F N kk) N' off) (fun _ s₂ q => wpAny_mono q (fun f s₃ r => ?_) fun _ _ e => e) fun _ _ e => e
    cases f with
    | next => obtain ⟨m', l', h2, tk2, rfl, a, b, c, e⟩ := r; exact ⟨k - 1, (ar_lp hk hi).1, i + 1, m', l', h2, tk2, o', (ar_lp hk hi).2, rfl, a, b, c, ⟨c1, c2⟩, e⟩
    | cont => obtain ⟨m', l', h2, tk2, rfl, a, b, c, e⟩ := r; exact ⟨k - 1, (ar_lp hk hi).1, i + 1, m', l', h2, tk2, o', (ar_lp hk hi).2, rfl, a, b, c, ⟨c1, c2⟩, e⟩
    | brk => exact r
    | ret v => exact r
/-- a for over a tuple of the ledger -/
theorem for_lst {w : World} {A : Around} {G : Heap} {L t : Addr} {env : Env} {x : Str} {p fp : Pos} {iter : Expr} {vs : List Value} {n : Nat} {body : List Stmt} {Q : Flow → Shared → Prop} {E : Value → Shared → Prop} {g : Array GenState} {d : Drawn} {os : OsState} {s : Shared}
    (hh : A.handled = none) (P : Nat → (Str → Option Value) → List (Addr × Obj) → Prop) (ht : ∀ i m l, P i m l → (t, PySem.W.listOf vs.toArray n) ∈ l)
    (start : wpAny (model pw w) A (eval iter env) (fun v s₁ => Halt (IvIn P G L g d os t v s₁)) E s)
    (turn : ∀ i m l h tk v I oI, vs[i]? = some v → P i m l → Fr G L h m → News G L h ((I, oI) :: l) → (∀ p ∈ l, p.1 ≠ I) →
      wpAny (model pw w) A (assign (.Name x p) env v) (fun _ s₂ => wpAny (model pw w) A (execs body env) (fun f s₃ => match f with
        | .next | .cont => Halt (IvOn P G L g d os i I oI s₃)
        | .brk => Q .next s₃
        | .ret v => Q (.ret v) s₃) (notedBy (model pw w) A env (cameBackBy (model pw w) A env E)) s₂) (notedBy (model pw w) A env (cameBackBy (model pw w) A env E)) ⟨h, g, d, tk, os⟩)
    (done : ∀ m l h tk, P vs.length m l → Fr G L h m → News G L h l → Q .next ⟨h, g, d, tk, os⟩) (hs : ∀ x, foldedSetIterable iter env x = pure x := by intro _; rfl) :
    wpAny (model pw w) A (exec (.For (.Name x p) iter body [] fp) env) Q E s := by
  refine wpAny_For (wpAny_mono start (fun v s₁ z => ?_) fun _ _ e => e) hs
  replace z := halt z
  obtain ⟨m, l, h, tk, rfl, rfl, hP, F, N⟩ := z
  refine wpAny_pyIter_list ⟨_, (N _ (ht _ _ _ hP)).1, rfl, _, rfl⟩ ?_
  refine forLst (m := m) (l := l) hh P ht h.objs.size (fun i m l h tk v oI hx hP F N off => wpAny_mono (turn i m l h tk v _ oI hx hP F N off) (fun _ s₂ q => wpAny_mono q (fun f s₃ r => by cases f <;> first | exact halt r | exact r) fun _ _ e => e) fun _ _ e => e) (fun m l h tk hP F N => done m l h tk hP F N) hP (F.push _) (News.push F N _) ⟨rfl, rfl⟩ fun p hp => Nat.ne_of_lt (Heap.lt_size (N p hp).1)
end
section
open PySem PySem.W PySem.Calls PyProof.Rows PySem.Spec
local macro_rules | `(tactic| walk_at "subscriptTail Name Name ref int") => `(tactic| (with_reducible refine halt ?_))
local macro_rules | `(tactic| walk_at "exec For") => `(tactic| (with_reducible refine halt ?_))
local macro_rules | `(tactic| walk_at "call builtin:len") => `(tactic| (refine kun_lenT (News.isTup (by assumption) (by k_mem)) (by assumption) (by assumption) ?_))
noncomputable def mLd (V : Value) (st : Option Value) (t : Value) : Str → Option Value := fun y => if y = Str.ofString "value" then some V else if y = Str.ofString "step" then st else if y = Str.ofString "steps" then some t else none
noncomputable def Led (lv : List (Addr × Obj)) (d : Option PV) (v : Value) : Prop := match d with | some c => VIn lv v c | none => v = .none
inductive IvLed (lx lv : List (Addr × Obj)) (t : Addr) (d : PV) (is : List Int) (i : Nat) (m' : Str → Option Value) (l' : List (Addr × Obj)) : Prop
  | mk (el : l' = lx) (V' : Value) (d' : PV) (st : Option Value) (em : m' = mLd V' st (.ref t)) (hV : VIn lv V' d') (hd : d.path (is.take i) = some d')
set_option maxHeartbeats 1000000 in
theorem led_ok {w : World} {mean : ExcName → Option Value} {mg mb : Str → Option Value} {G : Heap} {A : Around} {h : Heap} {g : Array GenState} {dr : Drawn} {tk : Nat} {os : OsState} {L t : Addr} {m : Str → Option Value} {l lv : List (Addr × Obj)} {v : Value} {d : PV} {is : List Int} {svs : List Value} {n : Nat} {Q E : Value → Shared → Prop}
    (hA : Rm A 4) (X : (KP w.params).In G) (T : Top topProg lsT mean mg mb G) (F : Fr G L h m) (N : News G L h l) (V : VIn lv v d) (lvs : ∀ p ∈ lv, p ∈ l) (hst : (t, PySem.W.listOf svs.toArray n) ∈ l) (hi : IntVs svs is)
    (ret : ∀ cv h' tk', Led lv (d.path is) cv → Fr G L h' m → News G L h' l → Q cv ⟨h', g, dr, tk', os⟩) :
    wpAny (model pw w) A (call (.ref 536) [v, .ref t]) Q E ⟨h, g, dr, tk, os⟩ := by
  refine wpAny_call (callE (s := ⟨h, g, dr, tk, os⟩) (binds := [(Str.ofString "value", v), (Str.ofString "steps", .ref t)]) X T F (Nat.lt_of_le_of_lt (Nat.le_add_right _ _) hA.dp) (by k_is) (by k_is) (BindsTo.of_eq rfl) (locs rfl) rfl rfl rfl (by decide) fun L' h₁ oL E' hL eL F₁ k₁ => ?_)
  have N₁ := news_in F N hL eL k₁
  try dsimp only
  repeat' (first | walk1 | (dsimp only; walk1) | walk_at "THEN")
  refine Halt.mk ?_
  refine for_lst (L := L') (G := G) (t := t) (vs := svs) (n := n) (g := g) (d := dr) (os := os) hA.hh (IvLed (l ++ [(L, oL)]) lv t d is) ?_ ?_ ?_ ?_
  · rintro i m' l' ⟨rfl, _⟩
    exact List.mem_append_left _ hst
  · walk1
    refine Halt.mk ⟨mLd v none (.ref t), l ++ [(L, oL)], _, _, rfl, rfl, ⟨rfl, v, d, none, rfl, V, rfl⟩, fr_m F₁ ?_, N₁⟩
    intro y
    show List.lookup y [(Str.ofString "steps", Value.ref t), (Str.ofString "value", v)] = mLd v none (.ref t) y
    simp only [lookup_if, List.lookup_nil, mLd]
    by_cases h1 : y = Str.ofString "value"
    · subst h1; rfl
    · by_cases h2 : y = Str.ofString "steps"
      · subst h2; rfl
      · simp only [h1, h2, if_false, ite_self]
  · rintro i m' l' h' tk' v' I oI hv ⟨rfl, V', d', st, rfl, hV, hd⟩ F' N' off
    obtain ⟨j, tj, hj, rfl⟩ := hi.get hv
    have hnx := PV.path_next hd hj
    cases hV with
    | int z tz =>
      repeat' (first | walk1 | (dsimp only; walk1) | walk_at "THEN")
      have o := out_any F N hL (by assumption) (by assumption) (l' := (I, oI) :: (l ++ [(L, oL)])) (by first | walk_at "MEM" | simp) (fun p hp => .tail _ (List.mem_append_left _ hp))
      refine ret _ _ _ ?_ o.1 o.2
      rw [PV.path_none (k := i + 1) hnx]
      rfl
    | node ha hb hs hz =>
      rename_i a b st' tk'' vs cs na nb
      have hlen : ((vs.toArray).size : Int) = (cs.length : Int) := by rw [List.size_toArray, hs.len]
      have hlen' : (cs.length : Int) ≤ 16384 := ar_16 hz
      have N₂ : News G L' h' ((a, tupO [.str (tagS st') tk'', .ref b] na) :: (b, tupO vs nb) :: (I, oI) :: (l ++ [(L, oL)])) := fun p hp => by
        refine mem_case hp ?_ fun p hp => ?_
        · exact N' _ (.tail _ (List.mem_append_left _ (lvs _ ha)))
        · refine mem_case hp ?_ fun p hp => ?_
          · exact N' _ (.tail _ (List.mem_append_left _ (lvs _ hb)))
          · exact N' p hp
      clear N' N₁
      repeat' (first | walk1 | (dsimp only; walk1) | walk_at "THEN")
      all_goals first
        | (have o := out_any F N hL (by assumption) (by assumption) (l' := (a, tupO [.str (tagS st') tk'', .ref b] na) :: (b, tupO vs nb) :: (I, oI) :: (l ++ [(L, oL)])) (by first | walk_at "MEM" | simp) (fun p hp => .tail _ (.tail _ (.tail _ (List.mem_append_left _ hp))))
           refine ret _ _ _ ?_ o.1 o.2
           rw [PV.path_none (k := i + 1) (hnx.trans (child_out (by omega)))]
           rfl)
        | (obtain ⟨c, hc⟩ : ∃ c, cs[j.toNat]? = some c := ⟨_, List.getElem?_eq_getElem (show j.toNat < cs.length by omega)⟩
           obtain ⟨v, hv, Vv⟩ := hs.get hc
           refine Halt.mk ?_
           refine item_tupleT (l := vs) (j := j.toNat) (x := v) (News.isTup (by assumption) (by k_mem)) (by omega) (by omega) (seqIndex_ok (by omega) (by rw [hs.len]; omega)) hv ?_
           repeat' (first | walk1 | (dsimp only; walk1) | walk_at "THEN")
           rename_i F5 N5
           refine Halt.mk ⟨_, l ++ [(L, oL)], _, _, rfl, ⟨rfl, v, c, some (.int j tj), rfl, Vv, hnx.trans (child_node (by omega) (by omega) hc)⟩, fr_m F5 fun y => ?_, fun p hp => N5 p (.tail _ (.tail _ hp)), off⟩
           simp only [mLd]
           by_cases h1 : y = Str.ofString "value"
           · simp only [h1, if_true]
           · by_cases h2 : y = Str.ofString "step"
             · simp only [h1, h2, if_true, if_false]
             · simp only [h1, h2, if_false])
  · rintro m' l' h' tk' ⟨rfl, V', d', st, rfl, hV, hd⟩ F' N'
    try dsimp only
    repeat' (first | walk1 | (dsimp only; walk1) | walk_at "THEN")
    have o := out_any F N hL F' N' (by first | walk_at "MEM" | simp) (fun p hp => List.mem_append_left _ hp)
    rw [List.take_of_length_le (by rw [hi.len]; exact Nat.le_refl _)] at hd
    refine ret V' _ _ ?_ o.1 o.2
    rw [hd]
    exact hV
end
section
open PySem PySem.W PySem.Calls PyProof.Rows PySem.Spec
local macro_rules | `(tactic| walk_at "compareOp Eq ref ref") => `(tactic| (with_reducible refine halt ?_))
local macro_rules | `(tactic| walk_at "call builtin:len") => `(tactic| (refine kun_lenT (News.isTup (by assumption) (by k_mem)) (by assumption) (by assumption) ?_))
local macro_rules | `(tactic| walk_at "subscriptTail") => `(tactic| ((with_reducible show wpAny _ _ (subscriptTail _ _ (Value.ref _) (Value.int _ _)) _ _ _); refine item_list (News.isList (by assumption) (by k_mem)) (by omega) (by omega) (by assumption) ?_))
theorem tup_off {G : Heap} {L L' : Addr} {h h' : Heap} {m : Str → Option Value} {l' : List (Addr × Obj)} {oL : Obj} (F : Fr G L h m) (hL : h.get? L = some oL) (N' : News G L' h' l') (hl : (L, oL) ∈ l') {p : Addr × Obj} (hp : p ∈ l') (ht : ∃ vs n, p.2 = tupO vs n) : p.1 ≠ L := fun q => by
  obtain ⟨us, un, r⟩ := ht
  have e1 := (N' p hp).1
  have e2 : h'.get? L = some oL := (N' _ hl).1
  rw [q, e2, r] at e1
  obtain ⟨oo, es, ep, a1, b1, _⟩ := F.ns
  rw [hL] at a1
  cases a1
  rw [congrArg Obj.data (Option.some.inj e1)] at b1
  cases b1
theorem set_any {w : World} {A : Around} {E : Value → Shared → Prop} {s : Shared} {G : Heap} {L D : Addr} {m : Str → Option Value} {l l' : List (Addr × Obj)} {vs : List Value} {n : Nat} {k : Int} {t : Tok} {x : Value} {Q : Unit → Shared → Prop} (F : Fr G L s.heap m) (N : News G L s.heap l)
    (U : Upd D (PySem.W.listOf vs.toArray n) (PySem.W.listOf (vs.set k.toNat x).toArray n) l l') (h0 : 0 ≤ k) (h1 : k < vs.length) (hfit : k < 2 ^ 63) (h : ∀ h', Fr G L h' m → News G L h' l' → Q () { s with heap := h' }) :
    wpAny (model pw w) A (setItem (.ref D) (.int k t) x) Q E s := by
  obtain ⟨pre, post, rfl, rfl, a, b⟩ := U.split
  have z := N (D, PySem.W.listOf vs.toArray n) (List.mem_append.mpr (.inr (.head _)))
  refine ki_setAt z.1 h0 hfit (by rw [List.size_toArray]; exact h1) (h _ (F.change (Heap.SameBut.update ..) z.2.1 z.2.2) (ki_turn _ N a b ?_ ?_))
  · show vs.toArray.setIfInBounds k.toNat x = (vs.set k.toNat x).toArray
    apply Array.toList_inj.mp
    simp
  · simp
theorem VsIn.put {l : List (Addr × Obj)} {v : Value} {c : PV} (h : VIn l v c) : ∀ {vs : List Value} {cs : List PV}, VsIn l vs cs → ∀ j, VsIn l (vs.set j v) (cs.set j c)
  | _, _, .nil, _ => .nil
  | _, _, .cons _ b, 0 => .cons h b
  | _, _, .cons a b, j + 1 => .cons a (b.put h j)
theorem lst_pick1 (x : Value) (svs : List Value) : (slicePick (x :: svs).toArray (some 1) none none).toList = svs := by
  have e : sliceBounds (some 1) none none (x :: svs).toArray.size = (((1 : Nat) : Int), (((x :: svs).toArray.size : Nat) : Int), 1) := by
    simp only [sliceBounds, Option.getD_none, show (1 : Int) > 0 by decide, if_true, if_neg (show ¬ ((1 : Int) < 0) by decide), List.size_toArray, List.length_cons]
    congr 1
    rw [Int.min_eq_left (show (1 : Int) ≤ ((svs.length + 1 : Nat) : Int) from Int.ofNat_le.mpr (Nat.succ_le_succ (Nat.zero_le _)))]
    rfl
  rw [kmk_pick_nat _ e]
  show ((x :: svs).drop 1).take ((x :: svs).toArray.size - 1) = _
  rw [List.size_toArray, List.length_cons]
  show svs.take (svs.length + 1 - 1) = svs
  rw [Nat.add_sub_cancel, List.take_length]
local macro_rules | `(tactic| walk_at "subscriptTail") => `(tactic| ((with_reducible show wpAny _ _ (subscriptTail _ _ (Value.ref _) (Value.ref _)) _ _ _); refine' kmk_slice_lit ?F ?N ?a (.int _ _) .none (lst_pick1 _ _) ?_ ?hs ?ht ?z; (case F => assumption); (case N => assumption); (case a => exact News.isList (by assumption) (by k_mem)); (case hs => with_unfolding_all rfl); (case ht => (intro _; with_unfolding_all rfl)); (case z => (simp only [List.size_toArray, List.length_cons, sizeLine_eq]; omega)); intro D' h' F' N' l1))
set_option maxHeartbeats 1000000 in
theorem lw_ok {w : World} {mean : ExcName → Option Value} {mg mb : Str → Option Value} {G : Heap} (X : (KP w.params).In G) (T : Top topProg lsT mean mg mb G) {pv : Value} {pd : PV} {lv : List (Addr × Obj)} (W : VIn lv pv pd) :
    ∀ (is : List Int) {A : Around} {s : Shared} {L t : Addr} {m : Str → Option Value} {l : List (Addr × Obj)} {v : Value} {d rd : PV} {svs : List Value} {n : Nat} {Q E : Value → Shared → Prop},
    Rm A (is.length + 8) → Fr G L s.heap m → News G L s.heap l → VIn lv v d → (∀ p ∈ lv, p ∈ l) → (t, PySem.W.listOf svs.toArray n) ∈ l → IntVs svs is → is.length ≤ 100 → PV.put pd is d = some rd →
    (∀ rv new h' tk', VIn (new ++ lv) rv rd → (∀ p ∈ new, ∃ vs n, p.2 = tupO vs n) → Fr G L h' m → News G L h' (new ++ l) → Q rv { s with heap := h', toks := tk' }) →
    wpAny (model pw w) A (call (.ref 543) [v, .ref t, pv]) Q E s
  | [], A, s, L, t, m, l, v, d, rd, svs, n, Q, E, hA, F, N, V, lvs, hst, hi, hz, hput, ret => by
    obtain ⟨h, g, dr, tk, os⟩ := s
    obtain rfl : svs = [] := by cases svs with | nil => rfl | cons _ _ => exact hi.elim
    refine wpAny_call (callE (s := ⟨h, g, dr, tk, os⟩) (binds := [(Str.ofString "value", v), (Str.ofString "steps", .ref t), (Str.ofString "part", pv)]) X T F (Nat.lt_of_le_of_lt (Nat.le_add_right _ _) hA.dp) (by k_is) (by k_is) (BindsTo.of_eq rfl) (locs rfl) rfl rfl rfl (by decide) fun L' h₁ oL E' hL eL F₁ k₁ => ?_)
    have N₁ : News G L' h₁ ((t, PySem.W.listOf #[] n) :: (l ++ [(L, oL)])) := fun p hp => (List.mem_cons.mp hp).elim (fun e => e ▸ news_in F N hL eL k₁ _ (List.mem_append_left _ hst)) (news_in F N hL eL k₁ p)
    try dsimp only
    repeat' (first | walk1 | (dsimp only; walk1) | walk_at "THEN")
    refine Halt.mk ?_
    refine PySem.SeqAt.eq_listAt (e := fun _ => true) (News.isList (by assumption) (.tail _ (.head _))) (News.isList (by assumption) (.head _)) rfl (Nat.lt_of_le_of_lt (by show A.units + 3 ≤ A.units + 16 * (0 + 8); omega) hA.un) (fun j h1 => absurd h1 (Nat.not_lt_zero _)) ?_
    show wpAny _ _ (truthy (.bool true)) _ _ _
    repeat' (first | walk1 | (dsimp only; walk1) | walk_at "THEN")
    rename_i F3 N3 _
    have o := out_any F N hL F3 N3 (by first | walk_at "MEM" | simp) (fun p hp => .tail _ (.tail _ (List.mem_append_left _ hp)))
    cases hput
    exact ret pv [] _ _ W (fun p hp => nomatch hp) o.1 o.2
  | j :: is, A, s, L, t, m, l, v, d, rd, svs, n, Q, E, hA, F, N, V, lvs, hst, hi, hz, hput, ret => by
    obtain ⟨h, g, dr, tk, os⟩ := s
    refine wpAny_call (callE (s := ⟨h, g, dr, tk, os⟩) (binds := [(Str.ofString "value", v), (Str.ofString "steps", .ref t), (Str.ofString "part", pv)]) X T F (Nat.lt_of_le_of_lt (Nat.le_add_right _ _) hA.dp) (by k_is) (by k_is) (BindsTo.of_eq rfl) (locs rfl) rfl rfl rfl (by decide) fun L' h₁ oL E' hL eL F₁ k₁ => ?_)
    have N₁ : News G L' h₁ ((t, PySem.W.listOf svs.toArray n) :: (l ++ [(L, oL)])) := fun p hp => (List.mem_cons.mp hp).elim (fun e => e ▸ news_in F N hL eL k₁ _ (List.mem_append_left _ hst)) (news_in F N hL eL k₁ p)
    cases svs with
    | nil => exact hi.elim
    | cons sv svs =>
    obtain ⟨⟨tj, rfl⟩, hi⟩ := hi
    cases V with
    | int z tz => cases hput
    | node ha hb hs hz3 =>
    rename_i a b st tk' vs cs na nb
    have hrng : 0 ≤ j ∧ j < cs.length := by
      by_cases e : 0 ≤ j ∧ j < cs.length
      · exact e
      · have := child_out (st := st) e
        simp only [PV.put, this] at hput
        cases hput
    obtain ⟨jn, rfl⟩ := Int.eq_ofNat_of_zero_le hrng.1
    obtain ⟨c, hc⟩ : ∃ c, cs[jn]? = some c := ⟨_, List.getElem?_eq_getElem (show jn < cs.length by omega)⟩
    have hch : (PV.node st cs).child (jn : Int) = some c := child_node hrng.1 hrng.2 hc
    obtain ⟨cv, hcv, Vc⟩ := hs.get hc
    have hnl := hs.len
    have hsl : svs.length = is.length := hi.len
    have hsz : is.length + 1 ≤ 100 := hz
    have hx1 : vs.toArray[((jn : Nat) : Int).toNat]? = some cv := by simpa using hcv
    replace N₁ : News G L' h₁ ((a, tupO [.str (tagS st) tk', .ref b] na) :: (b, tupO vs nb) :: (t, PySem.W.listOf (Value.int (jn : Int) tj :: svs).toArray n) :: (l ++ [(L, oL)])) := fun p hp => by
      refine mem_case hp ?_ fun p hp => ?_
      · exact N₁ _ (.tail _ (List.mem_append_left _ (lvs _ ha)))
      · refine mem_case hp ?_ fun p hp => ?_
        · exact N₁ _ (.tail _ (List.mem_append_left _ (lvs _ hb)))
        · exact N₁ p hp
    try dsimp only
    repeat' (first | walk1 | (dsimp only; walk1) | walk_at "THEN")
    refine Halt.mk ?_
    refine PySem.SeqAt.eq_list_lengthsAt (News.isList (by assumption) (.tail _ (.tail _ (.tail _ (.head _))))) (News.isList (by assumption) (.head _)) (by first | walk_at "MEM" | simp) (Nat.lt_of_le_of_lt (by show A.units + 3 ≤ A.units + 16 * (is.length + 1 + 8); omega) hA.un) ?_
    repeat' (first | walk1 | (dsimp only; walk1) | walk_at "THEN")
    refine Halt.mk ?_
    rename_i lE l0 h3 l01 D1 c1 h4 l12 h5 h6 h6' D2 h7 F7 N7 l7
    obtain ⟨c', hput', rfl⟩ : ∃ c', PV.put pd is c = some c' ∧ rd = PV.node st (cs.set jn c') := by
      have e : PV.put pd ((jn : Int) :: is) (PV.node st cs) = ((PV.node st cs).child (jn : Int)).bind fun c => (PV.put pd is c).map fun c' => (PV.node st cs).setC (jn : Int) c' := rfl
      rw [e, hch] at hput
      cases q : PV.put pd is c with
      | none => rw [show ((some c).bind fun c => (PV.put pd is c).map fun c' => (PV.node st cs).setC (jn : Int) c') = (PV.put pd is c).map _ from rfl, q] at hput; cases hput
      | some c' =>
        rw [show ((some c).bind fun c => (PV.put pd is c).map fun c' => (PV.node st cs).setC (jn : Int) c') = (PV.put pd is c).map _ from rfl, q] at hput
        exact ⟨c', rfl, (Option.some.inj hput).symm⟩
    refine lw_ok X T W is (hA.deeper.le (Nat.le_refl _)) (by assumption) N7 Vc (fun p hp => by first | walk_at "MEM" | simp [lvs p hp]) (.head _) hi (by omega) hput' fun rv new h8 tk8 Vr hnt F8 N8 => ?_
    have mD1 : (D1, PySem.W.listOf vs.toArray c1) ∈ new ++ ((D2, PySem.W.listOf svs.toArray 0) :: (D1, PySem.W.listOf vs.toArray c1) :: (lE, PySem.W.listOf #[] 0) :: (a, tupO [.str (tagS st) tk', .ref b] na) :: (b, tupO vs nb) :: (t, PySem.W.listOf (Value.int (jn : Int) tj :: svs).toArray n) :: (l ++ [(L, oL)])) := List.mem_append_right _ (.tail _ (.head _))
    have nD1 : ∀ p ∈ new, p.1 ≠ D1 := fun p hp q => by
      obtain ⟨us, un, r⟩ := hnt p hp
      have e1 := (N8 p (List.mem_append_left _ hp)).1
      rw [q, (N8 _ mD1).1, r] at e1
      exact absurd (congrArg Obj.cls (Option.some.inj e1)) (by first | walk_at "MEM" | simp)
    have nL1 : ∀ p : Addr × Obj, (∃ vs n, p.2 = tupO vs n) → h8.get? p.1 = some p.2 → p.1 ≠ L := fun p ⟨us, un, r⟩ e1 q => by
      have e2 := (N8 (L, oL) (by first | walk_at "MEM" | simp)).1
      rw [q, e2, r] at e1
      obtain ⟨oo, es, ep, a1, b1, _⟩ := F.ns
      rw [hL] at a1
      cases a1
      rw [congrArg Obj.data (Option.some.inj e1)] at b1
      cases b1
    have N9 : News G L' h8 ((D1, PySem.W.listOf vs.toArray c1) :: (t, PySem.W.listOf (Value.int (jn : Int) tj :: svs).toArray n) :: (a, tupO [.str (tagS st) tk', .ref b] na) :: (new ++ (l ++ [(L, oL)]))) := fun p hp => N8 p (by
      first | (refine sub_at ?_ hp; walk_at "SUB") | (simp only [List.mem_cons, List.mem_append] at hp ⊢; grind))
    have U : Upd D1 (PySem.W.listOf vs.toArray c1) (PySem.W.listOf (vs.set ((jn : Nat) : Int).toNat rv).toArray c1) ((D1, PySem.W.listOf vs.toArray c1) :: (t, PySem.W.listOf (Value.int (jn : Int) tj :: svs).toArray n) :: (a, tupO [.str (tagS st) tk', .ref b] na) :: (new ++ (l ++ [(L, oL)])))
        ((D1, PySem.W.listOf (vs.set ((jn : Nat) : Int).toNat rv).toArray c1) :: (t, PySem.W.listOf (Value.int (jn : Int) tj :: svs).toArray n) :: (a, tupO [.str (tagS st) tk', .ref b] na) :: (new ++ (l ++ [(L, oL)]))) := .head fun p hp => by
      refine mem_case hp ?_ fun p hp => ?_
      · exact Nat.ne_of_lt l12.2.2.2.1
      · refine mem_case hp ?_ fun p hp => ?_
        · exact Nat.ne_of_lt l12.2.1
        · rcases List.mem_append.mp hp with hp | hp
          · exact nD1 p hp
          · exact Nat.ne_of_lt (allLt_mem l12.2.2.2.2 hp)
    clear N8 N7 F7
    repeat' (first | walk1 | (dsimp only; walk1) | walk_at "THEN")
    refine set_any (by assumption) (by assumption) U (by omega) (by omega) (by omega) fun h9 F9 N10 => ?_
    have hcz : (vs.set ((jn : Nat) : Int).toNat rv).length ≤ 100 := by rw [List.length_set]; omega
    repeat' (first | walk1 | (dsimp only; walk1) | walk_at "THEN")
    rename_i D3 h10 _ D4 h11 F11 N11 l11
    have mL : (L, oL) ∈ (D4, tupO [.str (tagS st) tk', .ref D3] 0) :: (D3, tupO (vs.set ((jn : Nat) : Int).toNat rv) 0) :: (D1, PySem.W.listOf (vs.set ((jn : Nat) : Int).toNat rv).toArray c1) :: (t, PySem.W.listOf (Value.int (jn : Int) tj :: svs).toArray n) :: (a, tupO [.str (tagS st) tk', .ref b] na) :: (new ++ (l ++ [(L, oL)])) := by simp
    have hnt' : ∀ p ∈ (D4, tupO [.str (tagS st) tk', .ref D3] 0) :: (D3, tupO (vs.set ((jn : Nat) : Int).toNat rv) 0) :: new, ∃ vs n, p.2 = tupO vs n := fun p hp => by
      refine mem_case hp ?_ fun p hp => ?_
      · exact ⟨_, _, rfl⟩
      · refine mem_case hp ?_ fun p hp => ?_
        · exact ⟨_, _, rfl⟩
        · exact hnt p hp
    have sub' : ∀ p ∈ (D4, tupO [.str (tagS st) tk', .ref D3] 0) :: (D3, tupO (vs.set ((jn : Nat) : Int).toNat rv) 0) :: new, p ∈ (D4, tupO [.str (tagS st) tk', .ref D3] 0) :: (D3, tupO (vs.set ((jn : Nat) : Int).toNat rv) 0) :: (D1, PySem.W.listOf (vs.set ((jn : Nat) : Int).toNat rv).toArray c1) :: (t, PySem.W.listOf (Value.int (jn : Int) tj :: svs).toArray n) :: (a, tupO [.str (tagS st) tk', .ref b] na) :: (new ++ (l ++ [(L, oL)])) := fun p hp => by
      first | (refine sub_at ?_ hp; walk_at "SUB") | (simp only [List.mem_cons, List.mem_append] at hp ⊢; grind)
    refine ret (.ref D4) ((D4, tupO [.str (tagS st) tk', .ref D3] 0) :: (D3, tupO (vs.set ((jn : Nat) : Int).toNat rv) 0) :: new) _ _ ?_ hnt' (fr_out F hL F11 (N11 _ mL).1) fun p hp => ?_
    · exact .node (.head _) (.tail _ (.head _)) (VsIn.put (Vr.mono fun p hp => .tail _ (.tail _ hp)) (hs.mono fun p hp => .tail _ (.tail _ (List.mem_append_right _ hp))) jn) (by rw [List.length_set]; exact hz3)
    · rcases List.mem_append.mp hp with hp | hp
      · exact ⟨(N11 p (sub' p hp)).1, tup_off F hL N11 mL (sub' p hp) (hnt' p hp), (N11 p (sub' p hp)).2.2⟩
      · exact ⟨(N11 p (by first | walk_at "MEM" | simp [hp])).1, (N p hp).2⟩
end
section
open PySem PySem.W PySem.Calls PyProof.Rows PySem.Spec
theorem callGC {w : World} {mean : ExcName → Option Value} {mg mb : Str → Option Value} {G : Heap} {A : Around} {s : Shared} {L : Addr} {m : Str → Option Value} {R : Result → Shared → Prop} {name qual : Str} {params : Arguments} {body : List Stmt} {scope : Scope} {dV kV doc pm cdv ct oc : Value} {an od : Option Addr}
    {osl : Array (Option Value)} {f : Addr} {args : Args} {binds : List (Str × Value)}
    (X : (KP w.params).In G) (T : Top topProg lsT mean mg mb G) (F : Fr G L s.heap m) (hroom : A.depth < recursionLimit)
    (ho : (KP w.params).lookup f = some ⟨oc, od, .func (fnOf name qual params body scope dV kV doc pm an cdv ct), osl⟩) (hcd : codeIn (KP w.params) cdv qual = true)
    (hbind : BindsTo s (fnOf name qual params body scope dV kV doc pm an cdv ct) args binds) (hkind : (binds.all fun y => scope.names.lookup y.1 == some .local || scope.names.lookup y.1 == some .cell) = true)
    (hnd : ((cellsFrom 0 scope.names []).map (·.1)).Nodup) (hco : scope.isCoroutine = false) (hgen : scope.isGenerator = false) (hk : scope.kind = .function)
    (h : ∀ L' h₁ oL tk cells, s.heap.get? L = some oL → L' = s.heap.objs.size → Fr G L' h₁ (bindL (envOfC qual scope L' f cdv).kindOf binds fun _ => none) → News G L' h₁ cells → (∀ p ∈ cells, s.heap.get? p.1 = none) →
      CellsAre (bindC (envOfC qual scope L' f cdv).kindOf binds fun _ => none) (cellsFrom (L' + 1) scope.names []) cells → (∀ b o, s.heap.get? b = some o → h₁.get? b = some o) →
      wpAny (model pw w) (A.deeper (envOfC qual scope L' f cdv)) (execs body (envOfC qual scope L' f cdv))
        (fun fl s' => R (.ok (.ret (match fl with | .ret v => v | _ => .none))) s')
        (fun e s' => wpAny (model pw w) (A.deeper (envOfC qual scope L' f cdv)) (leaving (envOfC qual scope L' f cdv) e) (fun _ s'' => R (.error e) s'') (fun e' s'' => R (.error e') s'') s')
        { s with heap := h₁, toks := tk }) : codeAny (model pw w) A (.call (.ref f) args) R s := by
  obtain ⟨oL, es, ep, hL, hLd, hLk, hLf⟩ := F.ns
  refine codeAny_call_function hroom ((X.keeps F.keep) _ _ ho) rfl hco hgen rfl (codeRec_of (X.keeps F.keep) hcd) (hbind _ _ _ _ ?_)
  refine wpAny_newFunctionEnv_cells hk (kindsX hkind _) fun env' he s' x => ?_
  subst he
  refine ⟨(T.nolimit.keeps F.keep).keeps x.toInCall.keep, codeAny_func ?_⟩
  obtain ⟨h₁, tk, rfl, _⟩ := x.done
  have hk₁ := x.toInCall.keep
  obtain ⟨cells, NC, Y⟩ := Cl.news (h₀ := s.heap) (Nat.le_refl _) fun n c hm => ⟨x.cell n c (lookup_of_mem_nodup (cellsFrom_names scope.names 0 (s.heap.objs.size + 1) [] [] rfl ▸ hnd) hm), x.above n c hm⟩
  refine h s.heap.objs.size h₁ oL tk cells hL rfl ⟨x.toInCall.ns, fun b o e => hk₁ b o (F.keep b o e), Nat.le_trans F.above (Nat.le_of_lt (Heap.lt_size hL))⟩ (fun p hp => ⟨(NC p hp).1, (NC p hp).2.1, ?_⟩) (fun p hp => (NC p hp).2.2) Y hk₁
  cases q : G.get? p.1 with
  | none => rfl
  | some o => have := F.keep _ _ q; rw [(NC p hp).2.2] at this; cases this
/-- the same, for a call that never raises -/
theorem callCE {w : World} {mean : ExcName → Option Value} {mg mb : Str → Option Value} {G : Heap} {A : Around} {s : Shared} {L : Addr} {m : Str → Option Value} {R : Result → Shared → Prop} {name qual : Str} {params : Arguments} {body : List Stmt} {scope : Scope} {dV kV doc pm cdv ct oc : Value} {an od : Option Addr}
    {osl : Array (Option Value)} {f : Addr} {args : Args} {binds : List (Str × Value)}
    (X : (KP w.params).In G) (T : Top topProg lsT mean mg mb G) (F : Fr G L s.heap m) (hroom : A.depth < recursionLimit)
    (ho : (KP w.params).lookup f = some ⟨oc, od, .func (fnOf name qual params body scope dV kV doc pm an cdv ct), osl⟩) (hcd : codeIn (KP w.params) cdv qual = true)
    (hbind : BindsTo s (fnOf name qual params body scope dV kV doc pm an cdv ct) args binds) (hkind : (binds.all fun y => scope.names.lookup y.1 == some .local || scope.names.lookup y.1 == some .cell) = true)
    (hnd : ((cellsFrom 0 scope.names []).map (·.1)).Nodup) (hco : scope.isCoroutine = false) (hgen : scope.isGenerator = false) (hk : scope.kind = .function)
    (h : ∀ L' h₁ oL tk cells (E' : Value → Shared → Prop), s.heap.get? L = some oL → L' = s.heap.objs.size → Fr G L' h₁ (bindL (envOfC qual scope L' f cdv).kindOf binds fun _ => none) → News G L' h₁ cells → (∀ p ∈ cells, s.heap.get? p.1 = none) →
      CellsAre (bindC (envOfC qual scope L' f cdv).kindOf binds fun _ => none) (cellsFrom (L' + 1) scope.names []) cells → (∀ b o, s.heap.get? b = some o → h₁.get? b = some o) →
      wpAny (model pw w) (A.deeper (envOfC qual scope L' f cdv)) (execs body (envOfC qual scope L' f cdv))
        (fun fl s' => R (.ok (.ret (match fl with | .ret v => v | _ => .none))) s')
        E'
        { s with heap := h₁, toks := tk }) : codeAny (model pw w) A (.call (.ref f) args) R s :=
  callGC X T F hroom ho hcd hbind hkind hnd hco hgen hk fun L' h₁ oL tk cells hL eL F₁ NC hcn Y k₁ => h L' h₁ oL tk cells _ hL eL F₁ NC hcn Y k₁
end
section
open PySem PySem.W PySem.Calls PyProof.Rows PySem.Spec
/-- a comprehension's turns, with an invariant -/
theorem comp_all {prog : Program} {w : World} {A : Around} {h₀ : Heap} {L : Addr} {m : Str → Option Value} {env : Env} {elt : Expr} {x : Str} {scope : Scope} {cl : List (Str × Addr)} {s : Shared} {S : List (Addr × Obj) → Prop} {P : Nat → Value → Prop} {Fin : List Value → List (Addr × Obj) → Prop} {n : Nat} {news : List (Addr × Obj)}
    (J : Nat → List Value → List (Addr × Obj) → Prop) (h0 : J 0 [] news)
    (turn : ∀ i ys news, i < n → J i ys news → ∀ v I oI C oC D m₂ h tk (E' : Value → Shared → Prop), P i v → LCg.NsObj oC m₂ → m₂ x = some v → Fr h₀ L h m → News h₀ L h ((I, oI) :: (C, oC) :: (D, LCg.lst ys) :: news) → LCg.Off3 I C D news → ((@Ne Nat I C) ∧ (@Ne Nat I D) ∧ (@Ne Nat C D)) →
      wpAny (model prog w) A (eval elt (compEnvC scope cl C env)) (fun y s₂ => Halt (LCg.CompEnd h₀ L m { s with heap := h, toks := tk } I oI C oC D (LCg.lst ys) S (fun y news' => J (i + 1) (ys ++ [y]) news') y s₂)) E' { s with heap := h, toks := tk })
    (fin : ∀ ys news, J n ys news → Fin ys news) : LCg.CompRest prog w A h₀ L m env elt x scope cl s S P Fin n 0 [] news := by
  have key : ∀ k i ys news, k + i = n → J i ys news → LCg.CompRest prog w A h₀ L m env elt x scope cl s S P Fin k i ys news := by
    intro k
    induction k with
    | zero =>
      intro i ys news e j
      obtain rfl : i = n := by omega
      exact fin _ _ j
    | succ k ih =>
      intro i ys news e j
      refine LCg.CompRest.succ fun v I oI C oC D m₂ h tk E' p1 p2 p3 F N off ne => ?_
      refine wpAny_mono (turn i ys news (by omega) j v I oI C oC D m₂ h tk E' p1 p2 p3 F N off ne) (fun y s₂ z => ?_) fun _ _ z => z
      obtain ⟨h', tk', news', a, b, c, d, e', f⟩ := halt z
      exact ⟨h', tk', news', a, b, c, d, e', ih _ _ _ (by omega) f⟩
  exact key n 0 [] news (by omega) h0
end
section
open PySem PySem.W PySem.Calls PyProof.Rows PySem.Spec
inductive Dp : Nat → PV → Prop
  | int (n : Nat) (i : Int) : Dp n (.int i)
  | node {n : Nat} {st : Bool} {cs : List PV} : (∀ c ∈ cs, Dp n c) → Dp (n + 1) (.node st cs)
theorem tup_of {w : World} {A : Around} {E : Value → Shared → Prop} {s : Shared} {G : Heap} {L D : Addr} {m : Str → Option Value} {l : List (Addr × Obj)} {vs : List Value} {n : Nat} {Q : Value → Shared → Prop} (F : Fr G L s.heap m) (N : News G L s.heap l) (hm : (D, PySem.W.listOf vs.toArray n) ∈ l) (hz : vs.length ≤ 100)
    (h : ∀ D' h', Fr G L h' m → News G L h' ((D', tupO vs 0) :: l) → (∀ p ∈ l, p.1 < D') → Q (.ref D') { s with heap := h' }) : wpAny (model pw w) A (call (.type "tuple") [.ref D]) Q E s := by
  refine call_tuple_list (News.isList N hm) (fun h' k => ?_) (by rw [List.size_toArray, sizeLine_eq]; omega)
  have F1 : Fr G L h' m := fr_keep F (fun o => k _ o) (fun b o e => k _ _ (F.keep b o e))
  have N1 : News G L h' l := fun p hp => ⟨k _ _ (N p hp).1, (N p hp).2⟩
  exact h _ _ (F1.push _) (News.push F1 N1 _) fun p hp => Heap.lt_size (N1 p hp).1
local macro_rules | `(tactic| walk_at "call type:tuple") => `(tactic| (with_reducible refine halt ?_))
theorem VsIn.snoc {l : List (Addr × Obj)} {v : Value} {c : PV} : ∀ {vs : List Value} {cs : List PV}, VsIn l vs cs → VIn l v c → VsIn l (vs ++ [v]) (cs ++ [c])
  | _, _, .nil, h => .cons h .nil
  | _, _, .cons a b, h => .cons a (b.snoc h)
local macro_rules | `(tactic| walk_at "eval Name") => `(tactic| ((with_reducible show wpAny _ _ (eval (Expr.Name _ _) (compEnvC _ _ _ _)) _ _ _); refine' lcf_free ?N ?c ?m ?d ?_ ?a ?b; (case a => rfl); (case b => rfl); (case N => with_reducible assumption); (case c => rfl); (case m => with_reducible assumption); (case d => with_reducible assumption)))
inductive IvVal (src : Addr) (deep : Nat) (M : Int) (lx l : List (Addr × Obj)) (i : Nat) (ys : List Value) (news : List (Addr × Obj)) : Prop
  | mk (ds : List PV) (new : List (Addr × Obj)) (so' : Obj) (en : news = (src, so') :: (new ++ lx)) (hv : VsIn new ys ds) (hd : ∀ c ∈ ds, Dp deep c) (hl : ys.length = i) (hn : ∀ p ∈ new, ∃ vs n, p.2 = tupO vs n) (hs : ∀ p ∈ new, p.1 ≠ src ∧ ∀ q ∈ l, p.1 ≠ q.1) (hso : SrcO M so')
set_option maxHeartbeats 1000000 in
theorem value_ok {w : World} {mean : ExcName → Option Value} {mg mb : Str → Option Value} {G : Heap} (X : (KP w.params).In G) (T : Top topProg lsT mean mg mb G) {M : Int} :
    ∀ (deep : Nat) {A : Around} {s : Shared} {L src : Addr} {m : Str → Option Value} {l : List (Addr × Obj)} {so : Obj} {tt : Tok} {Q E : Value → Shared → Prop},
    deep ≤ 3 → Rm A (3 * deep + 6) → Fr G L s.heap m → News G L s.heap ((src, so) :: l) → SrcO M so → (∀ p ∈ l, p.1 ≠ src) →
    (∀ v d new so' h' tk', VIn new v d → Dp deep d → (∀ p ∈ new, ∃ vs n, p.2 = tupO vs n) → (∀ p ∈ new, p.1 ≠ src ∧ ∀ q ∈ l, p.1 ≠ q.1) → Fr G L h' m → News G L h' ((src, so') :: (new ++ l)) → SrcO M so' → Q v { s with heap := h', toks := tk' }) →
    wpAny (model pw w) A (call (.ref 529) [.ref src, .int deep tt]) Q E s := by
  intro deep
  induction deep with
  | zero =>
    intro A s L src m l so tt Q E hdp hA F N hso off ret
    obtain ⟨h, g, dr, tk, os⟩ := s
    refine wpAny_call (callCE (s := ⟨h, g, dr, tk, os⟩) (binds := [(Str.ofString "source", .ref src), (Str.ofString "deep", .int ((0 : Nat) : Int) tt)]) X T F (Nat.lt_of_le_of_lt (Nat.le_add_right _ _) hA.dp) (by k_is) (by k_is) (BindsTo.of_eq rfl) rfl (by decide +kernel) rfl rfl rfl fun L' h₁ oL tk1 cells E' hL eL F₁ NC hcn Y k₁ => ?_)
    k_cells Y
    rename_i o1 o2 d1 d2
    have N₁ : News G L' h₁ ((src, so) :: (L' + 1 + 1, o1) :: (L' + 1, o2) :: (l ++ [(L, oL)])) := fun p hp => by
      refine mem_case hp ?_ fun p hp => ?_
      · exact news_in F N hL eL k₁ _ (.head _)
      · refine mem_case hp ?_ fun p hp => ?_
        · exact NC _ (.head _)
        · refine mem_case hp ?_ fun p hp => ?_
          · exact NC _ (.tail _ (.head _))
          · exact news_in F N hL eL k₁ _ (.tail _ hp)
    have nsrc : h.get? src = some so := (N (src, so) (.head _)).1
    have off' : ∀ p ∈ (L' + 1 + 1, o1) :: (L' + 1, o2) :: (l ++ [(L, oL)]), p.1 ≠ src := fun p hp => by
      refine mem_case hp ?_ fun p hp => ?_
      · exact fun q => by have := hcn (L' + 1 + 1, o1) (.head _); rw [show L' + 1 + 1 = src from q, nsrc] at this; cases this
      · refine mem_case hp ?_ fun p hp => ?_
        · exact fun q => by have := hcn (L' + 1, o2) (.tail _ (.head _)); rw [show L' + 1 = src from q, nsrc] at this; cases this
        · exact (List.mem_append.mp hp).elim (off p) fun hp => by rw [List.mem_singleton.mp hp]; exact fun r => (N (src, so) (.head _)).2.1 r.symm
    clear NC
    try dsimp only
    repeat' (first | walk1 | (dsimp only; walk1) | walk_at "THEN")
    refine Halt.mk ?_
    refine take_ok (hA.deeper.le (by omega)) X T (by assumption) (by assumption) hso off' (by decide) (by decide) fun r t so1 h2 tk2 F2 N2 hso1 r0 r1 => ?_
    repeat' (first | walk1 | (dsimp only; walk1) | walk_at "THEN")
    all_goals first
      | exact absurd rfl ‹((0 : Nat) : Int) ≠ 0›
      | (refine Halt.mk ?_
         refine take_ok (hA.deeper.le (by omega)) X T (by assumption) (by assumption) hso1 off' (by decide) (by decide) fun r2 t2 so2 h3 tk3 F3 N3 hso2 r20 r21 => ?_
         repeat' (first | walk1 | (dsimp only; walk1) | walk_at "THEN")
         have o := out_new [] F N hL F3 N3 (.head _) (by first | walk_at "MEM" | simp) (fun p hp => by first | walk_at "MEM" | simp [hp]) (fun p hp => nomatch hp)
         exact ret _ _ [] so2 _ _ (.int r2 t2) (.int _ _) (fun p hp => nomatch hp) (fun p hp => nomatch hp) o.1 o.2 hso2)
  | succ deep ih =>
    intro A s L src m l so tt Q E hdp hA F N hso off ret
    obtain ⟨h, g, dr, tk, os⟩ := s
    refine wpAny_call (callCE (s := ⟨h, g, dr, tk, os⟩) (binds := [(Str.ofString "source", .ref src), (Str.ofString "deep", .int ((deep + 1 : Nat) : Int) tt)]) X T F (Nat.lt_of_le_of_lt (Nat.le_add_right _ _) hA.dp) (by k_is) (by k_is) (BindsTo.of_eq rfl) rfl (by decide +kernel) rfl rfl rfl fun L' h₁ oL tk1 cells E' hL eL F₁ NC hcn Y k₁ => ?_)
    k_cells Y
    rename_i o1 o2 d1 d2
    have N₁ : News G L' h₁ ((src, so) :: (L' + 1 + 1, o1) :: (L' + 1, o2) :: (l ++ [(L, oL)])) := fun p hp => by
      refine mem_case hp ?_ fun p hp => ?_
      · exact news_in F N hL eL k₁ _ (.head _)
      · refine mem_case hp ?_ fun p hp => ?_
        · exact NC _ (.head _)
        · refine mem_case hp ?_ fun p hp => ?_
          · exact NC _ (.tail _ (.head _))
          · exact news_in F N hL eL k₁ _ (.tail _ hp)
    have nsrc : h.get? src = some so := (N (src, so) (.head _)).1
    have off' : ∀ p ∈ (L' + 1 + 1, o1) :: (L' + 1, o2) :: (l ++ [(L, oL)]), p.1 ≠ src := fun p hp => by
      refine mem_case hp ?_ fun p hp => ?_
      · exact fun q => by have := hcn (L' + 1 + 1, o1) (.head _); rw [show L' + 1 + 1 = src from q, nsrc] at this; cases this
      · refine mem_case hp ?_ fun p hp => ?_
        · exact fun q => by have := hcn (L' + 1, o2) (.tail _ (.head _)); rw [show L' + 1 = src from q, nsrc] at this; cases this
        · exact (List.mem_append.mp hp).elim (off p) fun hp => by rw [List.mem_singleton.mp hp]; exact fun r => (N (src, so) (.head _)).2.1 r.symm
    clear NC
    try dsimp only
    repeat' (first | walk1 | (dsimp only; walk1) | walk_at "THEN")
    refine Halt.mk ?_
    refine take_ok (hA.deeper.le (by omega)) X T (by assumption) (by assumption) hso off' (by decide) (by decide) fun r t so1 h2 tk2 F2 N2 hso1 r0 r1 => ?_
    have hd1 : ¬ ((deep + 1 : Nat) : Int) = 0 := by omega
    repeat' (first | walk1 | (dsimp only; walk1) | walk_at "THEN")
    · exact absurd ‹((deep + 1 : Nat) : Int) = 0› hd1
    · refine Halt.mk ?_
      refine take_ok (hA.deeper.le (by omega)) X T (by assumption) (by assumption) hso1 off' (by decide) (by decide) fun r2 t2 so2 h3 tk3 F3 N3 hso2 r20 r21 => ?_
      repeat' (first | walk1 | (dsimp only; walk1) | walk_at "THEN")
      have o := out_new [] F N hL F3 N3 (.head _) (by first | walk_at "MEM" | simp) (fun p hp => by first | walk_at "MEM" | simp [hp]) (fun p hp => nomatch hp)
      exact ret _ _ [] so2 _ _ (.int r2 t2) (.int _ _) (fun p hp => nomatch hp) (fun p hp => nomatch hp) o.1 o.2 hso2
    · refine Halt.mk ?_
      refine take_ok (hA.deeper.le (by omega)) X T (by assumption) (by assumption) hso1 off' (by decide) (by decide) fun r2 t2 so2 h3 tk3 F3 N3 hso2 r20 r21 => ?_
      obtain ⟨n2, rfl⟩ := Int.eq_ofNat_of_zero_le r20
      repeat' (first | walk1 | (dsimp only; walk1) | walk_at "THEN")
      refine LCg.CompSrc.range (n := n2) hA.hh (by assumption) (by assumption) (by assumption) (small_one (by decide) (by decide) (by omega) (by omega)) (by rw [rangeSize_one]; split <;> omega) (by rw [sizeLine_eq]; omega) fun g' => ?_
      refine comp_all (IvVal src deep M ((L' + 1 + 1, o1) :: (L' + 1, o2) :: (l ++ [(L, oL)])) l) ⟨[], [], so2, rfl, .nil, (fun c hc => nomatch hc), rfl, (fun p hp => nomatch hp), (fun p hp => nomatch hp), hso2⟩ ?_ ?_
      · rintro i ys news hi ⟨ds, new, so3, rfl, hys, hds, hyl, hnt, hns, hso3⟩ v I oI C oC D m2 h5 tk5 E5 hv hC hx F5 N5 off5 ne5
        clear ret
        have d2' : o2.data = Data.cell (some (Value.ref src)) := d2
        have d1' : o1.data = Data.cell (some (Value.int ((deep + 1 : Nat) : Int) tt)) := d1
        have m1 : (L' + 1, o2) ∈ (I, oI) :: (C, oC) :: (D, LCg.lst ys) :: ((src, so3) :: (new ++ ((L' + 1 + 1, o1) :: (L' + 1, o2) :: (l ++ [(L, oL)])))) := .tail _ (.tail _ (.tail _ (.tail _ (List.mem_append_right _ (.tail _ (.head _))))))
        have m2 : (L' + 1 + 1, o1) ∈ (I, oI) :: (C, oC) :: (D, LCg.lst ys) :: ((src, so3) :: (new ++ ((L' + 1 + 1, o1) :: (L' + 1, o2) :: (l ++ [(L, oL)])))) := .tail _ (.tail _ (.tail _ (.tail _ (List.mem_append_right _ (.head _)))))
        repeat' (first | walk1 | (dsimp only; walk1) | walk_at "THEN")
        refine Halt.mk ?_
        have ed : ((deep + 1 : Nat) : Int) - 1 = (deep : Int) := by omega
        rw [ed]
        have N6 : News G L' h5 ((src, so3) :: ((I, oI) :: (C, oC) :: (D, LCg.lst ys) :: (new ++ ((L' + 1 + 1, o1) :: (L' + 1, o2) :: (l ++ [(L, oL)]))))) := fun p hp => N5 p (by
          first | (refine sub_at ?_ hp; walk_at "SUB") | (simp only [List.mem_cons, List.mem_append] at hp ⊢; grind))
        have offs : ∀ p ∈ (I, oI) :: (C, oC) :: (D, LCg.lst ys) :: (new ++ ((L' + 1 + 1, o1) :: (L' + 1, o2) :: (l ++ [(L, oL)]))), p.1 ≠ src := fun p hp => by
          have z := off5.1
          refine mem_case hp ?_ fun p hp => ?_
          · exact fun q => z.1 q.symm
          · refine mem_case hp ?_ fun p hp => ?_
            · exact fun q => z.2.1 q.symm
            · refine mem_case hp ?_ fun p hp => ?_
              · exact fun q => z.2.2 q.symm
              · rcases List.mem_append.mp hp with hp | hp
                · exact (hns p hp).1
                · exact off' p hp
        refine ih (by omega) (hA.deeper.le (by omega)) (by assumption) N6 hso3 offs fun v2 d2v new2 so4 h7 tk7 V2 dp2 nt2 ns2 F7 N7 hso4 => ?_
        repeat' (first | walk1 | (dsimp only; walk1) | walk_at "THEN")
        refine Halt.mk (LCg.CompEnd.intro F7 N7 ((src, so4) :: ((new2 ++ new) ++ ((L' + 1 + 1, o1) :: (L' + 1, o2) :: (l ++ [(L, oL)])))) ?_ ?_ trivial ⟨ds ++ [d2v], new2 ++ new, so4, rfl, ?_, (fun c hc => (List.mem_append.mp hc).elim (hds c) fun hc => List.mem_singleton.mp hc ▸ dp2), ?_, ?_, ?_, hso4⟩)
        · intro p hp
          first | (refine sub_at ?_ hp; walk_at "SUB") | (simp only [List.mem_cons, List.mem_append] at hp ⊢; grind)
        · refine LCg.Off3.of fun p hp => ?_
          refine mem_case hp ?_ fun p hp => ?_
          · exact off5.1
          · rcases List.mem_append.mp hp with hp | hp
            · rcases List.mem_append.mp hp with hp | hp
              · exact ⟨(ns2 p hp).2 (I, oI) (.head _), (ns2 p hp).2 (C, oC) (.tail _ (.head _)), (ns2 p hp).2 (D, LCg.lst ys) (.tail _ (.tail _ (.head _)))⟩
              · exact LCg.Off3.mem off5 p (.tail _ (List.mem_append_left _ hp))
            · exact LCg.Off3.mem off5 p (.tail _ (List.mem_append_right _ hp))
        · exact VsIn.snoc (hys.mono fun p hp => List.mem_append_right _ hp) (V2.mono fun p hp => List.mem_append_left _ hp)
        · simp [hyl]
        · intro p hp
          rcases List.mem_append.mp hp with hp | hp
          · exact nt2 p hp
          · exact hnt p hp
        · intro p hp
          rcases List.mem_append.mp hp with hp | hp
          · exact ⟨(ns2 p hp).1, fun q hq => (ns2 p hp).2 q (.tail _ (.tail _ (.tail _ (List.mem_append_right _ (.tail _ (.tail _ (List.mem_append_left _ hq)))))))⟩
          · exact hns p hp
      · rintro ys news ⟨ds, new, so3, rfl, hys, hds, hyl, hnt, hns, hso3⟩
        unfold LCg.FinA
        intro D h8 tk8 F8 N8 o8
        have hys100 : ys.length ≤ 100 := by omega
        have N9 : News G L' h8 ((D, PySem.W.listOf ys.toArray ys.length) :: (src, so3) :: (new ++ ((L' + 1 + 1, o1) :: (L' + 1, o2) :: (l ++ [(L, oL)])))) := N8
        clear N8
        repeat' (first | walk1 | (dsimp only; walk1) | walk_at "THEN")
        all_goals refine Halt.mk (tup_of (n := ys.length) (vs := ys) (D := D) (by assumption) N9 (.head _) hys100 fun D1 h9 F9 N9' l9 => ?_)
        all_goals clear N9
        all_goals repeat' (first | walk1 | (dsimp only; walk1) | walk_at "THEN")
        · rename_i D2 h10 F10 N10 l10
          have lt1 : ∀ p ∈ (src, so3) :: (new ++ ((L' + 1 + 1, o1) :: (L' + 1, o2) :: (l ++ [(L, oL)]))), p.1 < D1 := fun p hp => l9 p (.tail _ hp)
          have lt2 : ∀ p ∈ (src, so3) :: (new ++ ((L' + 1 + 1, o1) :: (L' + 1, o2) :: (l ++ [(L, oL)]))), p.1 < D2 := fun p hp => Nat.lt_trans (lt1 p hp) l10.1
          have inl : ∀ q ∈ l, q ∈ (src, so3) :: (new ++ ((L' + 1 + 1, o1) :: (L' + 1, o2) :: (l ++ [(L, oL)]))) := fun q hq => by simp [hq]
          have o := out_new ((D2, tupO [.str (tagS true) (tk8 + 1), .ref D1] 0) :: (D1, tupO ys 0) :: new) F N hL F10 N10 (.tail _ (.tail _ (.tail _ (.head _)))) (by first | walk_at "MEM" | simp) (fun p hp => by first | walk_at "MEM" | simp [hp]) (fun p hp => by
            refine mem_case hp ?_ fun p hp => ?_
            · exact ⟨.head _, Nat.ne_of_gt (lt2 (L, oL) (by first | walk_at "MEM" | simp))⟩
            · refine mem_case hp ?_ fun p hp => ?_
              · exact ⟨.tail _ (.head _), Nat.ne_of_gt (lt1 (L, oL) (by first | walk_at "MEM" | simp))⟩
              · exact ⟨by first | walk_at "MEM" | simp [hp], tup_off F hL N10 (by first | walk_at "MEM" | simp) (by first | walk_at "MEM" | simp [hp]) (hnt p hp)⟩)
          refine ret (.ref D2) (.node true ds) ((D2, tupO [.str (tagS true) (tk8 + 1), .ref D1] 0) :: (D1, tupO ys 0) :: new) so3 _ _ (.node (.head _) (.tail _ (.head _)) (hys.mono fun p hp => .tail _ (.tail _ hp)) (by rw [← hys.len]; omega)) (.node hds) ?_ ?_ o.1 o.2 hso3
          · intro p hp
            refine mem_case hp ?_ fun p hp => ?_
            · exact ⟨_, _, rfl⟩
            · refine mem_case hp ?_ fun p hp => ?_
              · exact ⟨_, _, rfl⟩
              · exact hnt p hp
          · intro p hp
            refine mem_case hp ?_ fun p hp => ?_
            · exact ⟨Nat.ne_of_gt (lt2 (src, so3) (.head _)), fun q hq => Nat.ne_of_gt (lt2 q (inl q hq))⟩
            · refine mem_case hp ?_ fun p hp => ?_
              · exact ⟨Nat.ne_of_gt (lt1 (src, so3) (.head _)), fun q hq => Nat.ne_of_gt (lt1 q (inl q hq))⟩
              · exact hns p hp
        · rename_i D2 h10 F10 N10 l10
          have lt1 : ∀ p ∈ (src, so3) :: (new ++ ((L' + 1 + 1, o1) :: (L' + 1, o2) :: (l ++ [(L, oL)]))), p.1 < D1 := fun p hp => l9 p (.tail _ hp)
          have lt2 : ∀ p ∈ (src, so3) :: (new ++ ((L' + 1 + 1, o1) :: (L' + 1, o2) :: (l ++ [(L, oL)]))), p.1 < D2 := fun p hp => Nat.lt_trans (lt1 p hp) l10.1
          have inl : ∀ q ∈ l, q ∈ (src, so3) :: (new ++ ((L' + 1 + 1, o1) :: (L' + 1, o2) :: (l ++ [(L, oL)]))) := fun q hq => by simp [hq]
          have o := out_new ((D2, tupO [.str (tagS false) (tk8 + 1), .ref D1] 0) :: (D1, tupO ys 0) :: new) F N hL F10 N10 (.tail _ (.tail _ (.tail _ (.head _)))) (by first | walk_at "MEM" | simp) (fun p hp => by first | walk_at "MEM" | simp [hp]) (fun p hp => by
            refine mem_case hp ?_ fun p hp => ?_
            · exact ⟨.head _, Nat.ne_of_gt (lt2 (L, oL) (by first | walk_at "MEM" | simp))⟩
            · refine mem_case hp ?_ fun p hp => ?_
              · exact ⟨.tail _ (.head _), Nat.ne_of_gt (lt1 (L, oL) (by first | walk_at "MEM" | simp))⟩
              · exact ⟨by first | walk_at "MEM" | simp [hp], tup_off F hL N10 (by first | walk_at "MEM" | simp) (by first | walk_at "MEM" | simp [hp]) (hnt p hp)⟩)
          refine ret (.ref D2) (.node false ds) ((D2, tupO [.str (tagS false) (tk8 + 1), .ref D1] 0) :: (D1, tupO ys 0) :: new) so3 _ _ (.node (.head _) (.tail _ (.head _)) (hys.mono fun p hp => .tail _ (.tail _ hp)) (by rw [← hys.len]; omega)) (.node hds) ?_ ?_ o.1 o.2 hso3
          · intro p hp
            refine mem_case hp ?_ fun p hp => ?_
            · exact ⟨_, _, rfl⟩
            · refine mem_case hp ?_ fun p hp => ?_
              · exact ⟨_, _, rfl⟩
              · exact hnt p hp
          · intro p hp
            refine mem_case hp ?_ fun p hp => ?_
            · exact ⟨Nat.ne_of_gt (lt2 (src, so3) (.head _)), fun q hq => Nat.ne_of_gt (lt2 q (inl q hq))⟩
            · refine mem_case hp ?_ fun p hp => ?_
              · exact ⟨Nat.ne_of_gt (lt1 (src, so3) (.head _)), fun q hq => Nat.ne_of_gt (lt1 q (inl q hq))⟩
              · exact hns p hp
end
section
open PySem PySem.W PySem.Calls PyProof.Rows PySem.Spec
mutual
noncomputable def PV.data : PV → PyData
  | .int n => .int n
  | .node st cs => .tuple [.str (tagS st), .tuple (PV.datas cs)]
noncomputable def PV.datas : List PV → List PyData
  | [] => []
  | c :: cs => c.data :: PV.datas cs
end
theorem VIn.reads {G h : Heap} {L : Addr} {l lv : List (Addr × Obj)} {v : Value} {d : PV} (N : News G L h l) (sub : ∀ p ∈ lv, p ∈ l) (V : VIn lv v d) : ∃ as, Reads h v d.data as := by
  refine VIn.rec (motive_1 := fun v d _ => ∃ as, Reads h v d.data as) (motive_2 := fun vs cs _ => ∃ as, ReadsAll h vs (PV.datas cs) as) ?_ ?_ ?_ ?_ V
  · intro n t
    refine ⟨[], ?_⟩
    rw [PV.data]
    exact .int n t
  · rintro a b st tk vs cs na nb ha hb _ _ ⟨as, ih⟩
    have r := reads_tuple_at (h := h) (N _ (sub _ ha)).1 rfl rfl (.cons (.str _ _) (.cons (reads_tuple_at (N _ (sub _ hb)).1 rfl rfl ih) .nil))
    exact ⟨_, by rw [PV.data]; exact r⟩
  · refine ⟨[], ?_⟩
    rw [PV.datas]
    exact .nil
  · rintro v vs c cs _ _ ⟨as, ih⟩ ⟨bs, ih2⟩
    have r := ReadsAll.cons ih ih2
    exact ⟨_, by rw [PV.datas]; exact r⟩
theorem VsIn.reads {G h : Heap} {L : Addr} {l lv : List (Addr × Obj)} (N : News G L h l) (sub : ∀ p ∈ lv, p ∈ l) : ∀ {vs : List Value} {cs : List PV}, VsIn lv vs cs → ∃ as, ReadsAll h vs (PV.datas cs) as
  | _, _, .nil => ⟨[], by rw [PV.datas]; exact .nil⟩
  | _, _, .cons a b => by
    obtain ⟨as, x⟩ := a.reads N sub
    obtain ⟨bs, y⟩ := b.reads N sub
    have r := ReadsAll.cons x y
    exact ⟨_, by rw [PV.datas]; exact r⟩
theorem PV.datas_lay {n : Nat} : ∀ {cs : List PV}, (∀ c ∈ cs, c.data.canLay0 = true ∧ c.data.depth ≤ n) → PyData.canLayAll0 (PV.datas cs) = true ∧ PyData.depthAll (PV.datas cs) ≤ n
  | [], _ => by simp [PV.datas, PyData.canLayAll0, PyData.depthAll]
  | c :: cs, h => by
    have a := h c (.head _)
    have b := PV.datas_lay fun x hx => h x (.tail _ hx)
    simp only [PV.datas, PyData.canLayAll0, PyData.depthAll, a.1, b.1, Bool.and_true]
    exact ⟨trivial, Nat.max_le.mpr ⟨a.2, b.2⟩⟩
theorem tag_strOk (st : Bool) : PyData.strOk (tagS st) = true := by cases st <;> decide +kernel
theorem Dp.lay : ∀ {k : Nat} {d : PV}, Dp k d → d.data.canLay0 = true ∧ d.data.depth ≤ 2 * k := by
  intro k d h
  induction h with
  | int n i => simp [PV.data, PyData.canLay0, PyData.depth]
  | @node n st cs _ ih =>
    have a := PV.datas_lay ih
    simp only [PV.data, PyData.canLay0, PyData.canLayAll0, PyData.depth, PyData.depthAll, a.1, tag_strOk, Bool.and_true]
    refine ⟨trivial, ?_⟩
    rw [Nat.zero_max, Nat.max_zero]
    exact Nat.add_le_add_right a.2 2
mutual
theorem PV.eqv_refl : ∀ d : PV, PyData.eqv d.data d.data = true
  | .int n => by simp [PV.data, PyData.eqv]
  | .node st cs => by simp [PV.data, PyData.eqv, PyData.eqvAll, PV.eqv_refls cs]
theorem PV.eqv_refls : ∀ cs : List PV, PyData.eqvAll (PV.datas cs) (PV.datas cs) = true
  | [] => by simp [PV.datas, PyData.eqvAll]
  | c :: cs => by simp [PV.datas, PyData.eqvAll, PV.eqv_refl c, PV.eqv_refls cs]
end
theorem IntVs.reads {h : Heap} : ∀ {vs : List Value} {is : List Int}, IntVs vs is → ReadsAll h vs (is.map PyData.int) []
  | [], [], _ => .nil
  | _ :: _, _ :: _, ⟨⟨t, e⟩, r⟩ => by subst e; exact .cons (as := []) (.int _ t) (IntVs.reads r)
  | [], _ :: _, h => h.elim
  | _ :: _, [], h => h.elim
theorem shaped_ints (is : List Int) : PySem.SeqAt.shaped (.list (is.map PyData.int)) = true := ke_shaped_ints is
theorem shaped_datas {k : Nat} {cs : List PV} (h : ∀ c ∈ cs, Dp k c) (hk : k ≤ 10) : PySem.SeqAt.shaped (.tuple (PV.datas cs)) = true := by
  have a := PV.datas_lay fun c hc => (h c hc).lay
  unfold PySem.SeqAt.shaped
  simp only [PyData.canLay0, PyData.depth, a.1, Bool.true_and]
  exact decide_eq_true (by have := a.2; omega)
section
variable {w : World} {A : Around} {E : Value → Shared → Prop} {s : Shared} {G : Heap} {L : Addr} {l lv : List (Addr × Obj)} {Q : Value → Shared → Prop}
/-- value[1] != () -/
theorem ne_unit {b D : Addr} {vs : List Value} {cs : List PV} {nb n k : Nat} (N : News G L s.heap l) (mb : (b, tupO vs nb) ∈ l) (mD : (D, tupO [] n) ∈ l) (hs : VsIn lv vs cs) (sub : ∀ p ∈ lv, p ∈ l) (hd : ∀ c ∈ cs, Dp k c) (hk : k ≤ 10) (hu : A.units + 64 < cLine)
    (h : Q (.bool (!cs.isEmpty)) s) : wpAny (model pw w) A (compareOp .NotEq (.ref b) (.ref D)) Q E s := by
  obtain ⟨as, r⟩ := hs.reads N sub
  refine ne_dataH (reads_tuple_at (N _ mb).1 rfl rfl r) (reads_tuple_at (N _ mD).1 rfl rfl .nil) (shaped_datas hd hk) (by decide +kernel) hu ?_
  cases cs with
  | nil => simpa [PV.datas, PyData.eqv, PyData.eqvAll] using h
  | cons c cs => simpa [PV.datas, PyData.eqv, PyData.eqvAll] using h
/-- steps != [] -/
theorem ne_nil {b D : Addr} {vs : List Value} {is : List Int} {nb n : Nat} (N : News G L s.heap l) (mb : (b, PySem.W.listOf vs.toArray nb) ∈ l) (mD : (D, PySem.W.listOf #[] n) ∈ l) (hs : IntVs vs is) (hu : A.units + 64 < cLine)
    (h : Q (.bool (!is.isEmpty)) s) : wpAny (model pw w) A (compareOp .NotEq (.ref b) (.ref D)) Q E s := by
  refine ne_dataH (reads_list_at (N _ mb).1 rfl rfl hs.reads) (reads_list_at (N _ mD).1 rfl rfl .nil) (shaped_ints is) (by decide +kernel) hu ?_
  cases is with
  | nil => simpa [PyData.eqv, PyData.eqvAll] using h
  | cons c cs => simpa [PyData.eqv, PyData.eqvAll] using h
end
end
section
open PySem PySem.W PySem.Calls PyProof.Rows PySem.Spec
local macro_rules | `(tactic| walk_at "subscriptTail Name UnaryOp ref int") => `(tactic| (with_reducible refine halt ?_))
local macro_rules | `(tactic| walk_at "subscriptTail Name Subscript ref int") => `(tactic| (with_reducible refine halt ?_))
local macro_rules | `(tactic| walk_at "call builtin:list.append") => `(tactic| (with_reducible refine halt ?_))
local macro_rules | `(tactic| walk_at "exec While") => `(tactic| (with_reducible refine halt ?_))
local macro_rules | `(tactic| walk_at "compareOp NotEq") => `(tactic| (with_reducible refine halt ?_))
local macro_rules | `(tactic| walk_at "call builtin:len") => `(tactic| (refine kun_lenT (News.isTup (by assumption) (by k_mem)) (by assumption) (by assumption) ?_))
theorem Dp.up {n : Nat} {d : PV} (h : Dp n d) : Dp (n + 1) d := by
  induction h with
  | int n i => exact .int _ i
  | node _ ih => exact .node ih
inductive IvLess (I : Nat → Shared → Prop) (n : Nat) (s : Shared) : Prop
  | mk (m : Nat) (lt : m < n) (i : I m s)
theorem whileH {w : World} {A : Around} {R : Result → Shared → Prop} {s : Shared} {test : Expr} {body orelse : List Stmt} {env : Env} (I : Nat → Shared → Prop)
    (turn : ∀ n s, I n s →
      wpAny (model pw w) A (isTrue test env (eval test env)) (fun b s₂ =>
        if b then wpAny (model pw w) A (execs body env) (fun f s₃ => match f with
            | .next | .cont => Halt (IvLess I n s₃)
            | .brk => R (.ok .next) s₃
            | .ret v => R (.ok (.ret v)) s₃) (notedBy (model pw w) A env fun e s' => R (.error e) s') s₂
        else wpAny (model pw w) A (execs orelse env) (fun f s₃ => R (.ok f) s₃) (notedBy (model pw w) A env fun e s' => R (.error e) s') s₂)
        (notedBy (model pw w) A env fun e s' => R (.error e) s') s)
    (n : Nat) (h : I n s) : codeAny (model pw w) A (.whileLoop test body orelse env) R s := by
  refine codeAny_whileLoop I (fun n s hI => wpAny_mono (turn n s hI) (fun b s₂ q => ?_) fun _ _ e => e) n h
  cases b with
  | false => exact q
  | true => exact wpAny_mono q (fun f s₃ r => by cases f <;> first | (obtain ⟨m, a, b⟩ := halt r; exact ⟨m, a, b⟩) | exact r) fun _ _ e => e
theorem news_mem {G h : Heap} {L : Addr} {l l' : List (Addr × Obj)} (N : News G L h l) (k : ∀ p ∈ l', p ∈ l) : News G L h l' := fun p hp => N p (k p hp)
theorem item_last {w : World} {A : Around} {E : Value → Shared → Prop} {s : Shared} {value slice : Expr} {l : Addr} {xs : Array Value} {k : Int} {u : Tok} {x : Value} {Q : Value → Shared → Prop} (hl : s.heap.IsList l (xs.push x)) (hk : k = -1) (h : Q x s)
    (hs : subscripted slice false (.ref l) (.int k u) = operate [.ref l, .int k u] (getItem (.ref l) (.int k u)) := by with_unfolding_all rfl) (hg : ∀ r, letTemporaryGo value (.ref l) r = pure () := by intro _; with_unfolding_all rfl) :
    wpAny (model pw w) A (subscriptTail value slice (.ref l) (.int k u)) Q E s := by
  subst hk
  have e : (-1 + ((xs.size + 1 : Nat) : Int)).toNat = xs.size := by rw [Int.natCast_succ, Int.add_comm, Int.add_neg_cancel_right]; rfl
  exact subscriptTail_builtin hl.typeIs slot_list_getitem.lookup (wpAny_getItem_list_neg hl (by decide) (by rw [Array.size_push]; omega) (by decide) (by rw [Array.size_push, e]; simp) h) hs hg
theorem IntVs.snoc {i : Int} {t : Tok} : ∀ {vs : List Value} {is : List Int}, IntVs vs is → IntVs (vs ++ [.int i t]) (is ++ [i])
  | [], [], _ => ⟨⟨t, rfl⟩, trivial⟩
  | _ :: _, _ :: _, h => ⟨h.1, h.2.snoc⟩
  | [], _ :: _, h => h.elim
  | _ :: _, [], h => h.elim
theorem PV.path_drop {d d' : PV} {is : List Int} (h : d.path is = some d') : ∃ d1, d.path is.dropLast = some d1 := by
  cases q : d.path is.dropLast with
  | some d1 => exact ⟨d1, rfl⟩
  | none =>
    rw [List.dropLast_eq_take] at q
    rw [PV.path_none q] at h
    cases h
noncomputable def mSt (src V t : Value) : Str → Option Value := fun y => if y = Str.ofString "value" then some V else if y = Str.ofString "steps" then some t else if y = Str.ofString "source" then some src else none
inductive IvSt1 (G : Heap) (L' : Addr) (g : Array GenState) (dr : Drawn) (os : OsState) (d : PV) (k : Nat) (src ls : Addr) (lx : List (Addr × Obj)) (M : Int) (f : Flow) (s' : Shared) : Prop
  | mk (ef : f = .next) (h : Heap) (tk : Nat) (V' : Value) (d' : PV) (svs : List Value) (is : List Int) (c : Nat) (so' : Obj) (es : s' = ⟨h, g, dr, tk, os⟩) (hd : d.path is = some d') (hk : is.length ≤ k) (hi : IntVs svs is) (F : Fr G L' h (mSt (.ref src) V' (.ref ls))) (N : News G L' h ((ls, PySem.W.listOf svs.toArray c) :: (src, so') :: lx)) (hso : SrcO M so')
inductive IvSt2 (G : Heap) (L' : Addr) (g : Array GenState) (dr : Drawn) (os : OsState) (d : PV) (k : Nat) (src ls : Addr) (lx lv : List (Addr × Obj)) (M : Int) (n : Nat) (s : Shared) : Prop
  | mk (h : Heap) (tk : Nat) (V' : Value) (d' : PV) (svs : List Value) (is : List Int) (c : Nat) (so' : Obj) (es : s = ⟨h, g, dr, tk, os⟩) (hn : n + is.length = k) (hd : d.path is = some d') (hdp : Dp n d') (hV : VIn lv V' d') (hi : IntVs svs is) (F : Fr G L' h (mSt (.ref src) V' (.ref ls))) (N : News G L' h ((ls, PySem.W.listOf svs.toArray c) :: (src, so') :: lx)) (hso : SrcO M so')
set_option maxHeartbeats 1000000 in
theorem steps_ok {w : World} {mean : ExcName → Option Value} {mg mb : Str → Option Value} {G : Heap} {A : Around} {h : Heap} {g : Array GenState} {dr : Drawn} {tk : Nat} {os : OsState} {L src : Addr} {m : Str → Option Value} {l lv : List (Addr × Obj)} {so : Obj} {M : Int} {v : Value} {d : PV} {Q E : Value → Shared → Prop}
    (hA : Rm A 8) (X : (KP w.params).In G) (T : Top topProg lsT mean mg mb G) (F : Fr G L h m) (N : News G L h ((src, so) :: l)) (hso : SrcO M so) (off : ∀ p ∈ l, p.1 ≠ src) (V : VIn lv v d) (lvs : ∀ p ∈ lv, p ∈ l) {k : Nat} (hdp : Dp k d) (hk : k ≤ 3)
    (ret : ∀ t svs is n so' h' tk', IntVs svs is → is.length ≤ 100 → (∃ d1, d.path is.dropLast = some d1) → Fr G L h' m → News G L h' ((src, so') :: (t, PySem.W.listOf svs.toArray n) :: l) → SrcO M so' → t ≠ src → (∀ q ∈ l, t ≠ q.1) → Q (.ref t) ⟨h', g, dr, tk', os⟩) :
    wpAny (model pw w) A (call (.ref 557) [.ref src, v]) Q E ⟨h, g, dr, tk, os⟩ := by
  refine wpAny_call (callE (s := ⟨h, g, dr, tk, os⟩) (binds := [(Str.ofString "source", .ref src), (Str.ofString "value", v)]) X T F (Nat.lt_of_le_of_lt (Nat.le_add_right _ _) hA.dp) (by k_is) (by k_is) (BindsTo.of_eq rfl) (locs rfl) rfl rfl rfl (by decide) fun L' h₁ oL E' hL eL F₁ k₁ => ?_)
  have N₁ : News G L' h₁ ((src, so) :: (l ++ [(L, oL)])) := news_in F N hL eL k₁
  have hsrc : src ≠ L := (N (src, so) (.head _)).2.1
  have off1 : ∀ p ∈ l ++ [(L, oL)], p.1 ≠ src := fun p hp => (List.mem_append.mp hp).elim (off p) fun hp => by rw [List.mem_singleton.mp hp]; exact fun r => hsrc r.symm
  try dsimp only
  repeat' (first | walk1 | (dsimp only; walk1) | walk_at "THEN")
  rename_i ls h2 l2 h3 F3 N3
  have nsrc : ls ≠ src := Nat.ne_of_gt l2.1
  have ns : ∀ p ∈ l ++ [(L, oL)], p.1 ≠ ls := fun p hp => Nat.ne_of_lt (allLt_mem l2.2 hp)
  refine Halt.mk (wpAny_mono (Q := fun f s' => Halt (IvSt1 G L' g dr os d k src ls (l ++ [(L, oL)]) M f s'))
    (wpAny_While (whileH (IvSt2 G L' g dr os d k src ls (l ++ [(L, oL)]) lv M) ?_ k ⟨_, _, v, d, [], [], 0, so, rfl, rfl, rfl, hdp, V, trivial, fr_m F3 fun y => ?_, N3, hso⟩)) (fun f s' hs => ?_) fun _ _ e => e)
  · rintro n s ⟨h4, tk4, V', d', svs, is, c, so', rfl, hn, hpd, hdp', hV, hi, F4, N4, hso'⟩
    cases hV with
    | int z tz =>
      repeat' (first | walk1 | (dsimp only; walk1) | walk_at "THEN")
      exact Halt.mk ⟨rfl, h4, _, _, _, svs, is, c, so', rfl, hpd, by omega, hi, F4, N4, hso'⟩
    | node ha hb hs hz =>
      rename_i a b st tk' vs cs na nb
      have hlen : ((vs.toArray).size : Int) = (cs.length : Int) := by rw [List.size_toArray, hs.len]
      have hlen' : (cs.length : Int) ≤ 16384 := ar_16 hz
      replace N4 : News G L' h4 ((a, tupO [.str (tagS st) tk', .ref b] na) :: (b, tupO vs nb) :: (ls, PySem.W.listOf svs.toArray c) :: (src, so') :: (l ++ [(L, oL)])) := fun p hp => by
        refine mem_case hp ?_ fun p hp => ?_
        · exact N4 _ (.tail _ (.tail _ (List.mem_append_left _ (lvs _ ha))))
        · refine mem_case hp ?_ fun p hp => ?_
          · exact N4 _ (.tail _ (.tail _ (List.mem_append_left _ (lvs _ hb))))
          · exact N4 p hp
      repeat' (first | walk1 | (dsimp only; walk1) | walk_at "THEN")
      rename_i D h5 F5 N5 l5
      refine Halt.mk (ne_unit (cs := cs) (vs := vs) N5 (.tail _ (.tail _ (.head _))) (.head _) hs (fun p hp => by first | walk_at "MEM" | simp [lvs p hp]) (k := n) ?_ (by omega) ?_ ?_)
      · cases hdp' with
        | node hc => exact fun c hx => by rename_i n; exact Dp.up (hc c hx)
      · have := hA.un
        show A.units + 3 + 64 < cLine
        omega
      repeat' (first | walk1 | (dsimp only; walk1) | walk_at "THEN")
      case' _ =>
        skip
      · exact Halt.mk ⟨rfl, _, _, _, _, svs, is, c, so', rfl, hpd, by omega, hi, F5, fun p hp => N5 p (.tail _ (.tail _ (.tail _ hp))), hso'⟩
      have ma : a ≠ src := off1 (a, _) (List.mem_append_left _ (lvs _ ha))
      have mb : b ≠ src := off1 (b, _) (List.mem_append_left _ (lvs _ hb))
      have nD : D ≠ src := Nat.ne_of_gt l5.2.2.2.1
      have N6 : News G L' h5 ((src, so') :: ((D, tupO [] 0) :: (a, tupO [.str (tagS st) tk', .ref b] na) :: (b, tupO vs nb) :: (ls, PySem.W.listOf svs.toArray c) :: (l ++ [(L, oL)]))) := fun p hp => N5 p (by
        first | (refine sub_at ?_ hp; walk_at "SUB") | (simp only [List.mem_cons, List.mem_append] at hp ⊢; grind))
      have off6 : ∀ p ∈ (D, tupO [] 0) :: (a, tupO [.str (tagS st) tk', .ref b] na) :: (b, tupO vs nb) :: (ls, PySem.W.listOf svs.toArray c) :: (l ++ [(L, oL)]), p.1 ≠ src := fun p hp => by
        refine mem_case hp ?_ fun p hp => ?_
        · exact nD
        · refine mem_case hp ?_ fun p hp => ?_
          · exact ma
          · refine mem_case hp ?_ fun p hp => ?_
            · exact mb
            · refine mem_case hp ?_ fun p hp => ?_
              · exact nsrc
              · exact off1 p hp
      clear N5
      refine Halt.mk (take_ok (hA.deeper.le (by decide)) X T F5 N6 hso' off6 (by decide) (by decide) fun r t so2 h7 tk7 F7 N7 hso2 r0 r1 => ?_)
      clear N6
      repeat' (first | walk1 | (dsimp only; walk1) | walk_at "THEN")
      · obtain ⟨c0, cs', rfl⟩ : ∃ c0 cs', cs = c0 :: cs' := by cases cs with | nil => simp at * | cons c0 cs' => exact ⟨_, _, rfl⟩
        refine Halt.mk (take_ok (hA.deeper.le (by decide)) X T F7 N7 hso2 off6 (by simp only [List.length_cons]; omega) (by omega) fun r3 t3 so3 h8 tk8 F8 N8 hso3 r30 r31 => ?_)
        clear N7
        have N9 : News G L' h8 ((ls, PySem.W.listOf svs.toArray c) :: (src, so3) :: (D, tupO [] 0) :: (a, tupO [.str (tagS st) tk', .ref b] na) :: (b, tupO vs nb) :: (l ++ [(L, oL)])) := fun p hp => N8 p (by
          first | (refine sub_at ?_ hp; walk_at "SUB") | (simp only [List.mem_cons, List.mem_append] at hp ⊢; grind))
        clear N8
        have hls : ∀ p ∈ (src, so3) :: (D, tupO [] 0) :: (a, tupO [.str (tagS st) tk', .ref b] na) :: (b, tupO vs nb) :: (l ++ [(L, oL)]), p.1 ≠ ls := fun p hp => by
          refine mem_case hp ?_ fun p hp => ?_
          · exact fun q => nsrc q.symm
          · refine mem_case hp ?_ fun p hp => ?_
            · exact Nat.ne_of_gt l5.2.2.1
            · refine mem_case hp ?_ fun p hp => ?_
              · exact ns _ (List.mem_append_left _ (lvs _ ha))
              · refine mem_case hp ?_ fun p hp => ?_
                · exact ns _ (List.mem_append_left _ (lvs _ hb))
                · exact ns p hp
        repeat' (first | walk1 | (dsimp only; walk1) | walk_at "THEN")
        refine Halt.mk ?_
        refine append_K (D := ls) (its := svs.toArray) (n := c) F8 N9 (.head hls) (fun h10 F10 N10 => ?_) (by have := hi.len; rw [List.size_toArray, sizeLine_eq]; omega)
        clear N9
        repeat' (first | walk1 | (dsimp only; walk1) | walk_at "THEN")
        refine Halt.mk ?_
        refine item_last (News.isList N10 (.head _)) rfl ?_
        repeat' (first | walk1 | (dsimp only; walk1) | walk_at "THEN")
        obtain ⟨rn, rfl⟩ := Int.eq_ofNat_of_zero_le r30
        obtain ⟨c1, hc1⟩ : ∃ c1, (c0 :: cs')[rn]? = some c1 := ⟨_, List.getElem?_eq_getElem (show rn < (c0 :: cs').length by omega)⟩
        obtain ⟨v1, hv1, Vv1⟩ := hs.get hc1
        have hvl : vs.length = (c0 :: cs').length := hs.len
        obtain ⟨n', rfl, hcs⟩ : ∃ n', n = n' + 1 ∧ ∀ c ∈ c0 :: cs', Dp n' c := by
          cases hdp' with
          | node h => exact ⟨_, rfl, h⟩
        refine Halt.mk ?_
        refine item_tupleT (l := vs) (j := rn) (x := v1) (News.isTup N10 (by k_mem)) (by omega) (by omega) (seqIndex_ok (by omega) (by rw [hvl]; omega)) hv1 ?_
        repeat' (first | walk1 | (dsimp only; walk1) | walk_at "THEN")
        refine Halt.mk ⟨n', Nat.lt_succ_self _, _, _, v1, c1, svs ++ [Value.int (rn : Int) t3], is ++ [(rn : Int)], c + 1, so3, rfl, by rw [List.length_append, List.length_singleton]; omega, (PV.path_snoc _ _ _).trans (by rw [hpd]; exact child_node (st := st) (by omega) r31 hc1), hcs _ (List.mem_of_getElem? hc1), Vv1, hi.snoc, fr_m (by assumption) fun y => ?_, news_mem (by assumption) fun p hp => ?_, hso3⟩
        · simp only [mSt]
          by_cases h1 : y = Str.ofString "value"
          · simp only [h1, if_true]
          · simp only [h1, if_false]
        · have e : PySem.W.listOf (svs ++ [Value.int (rn : Int) t3]).toArray (c + 1) = PySem.W.listOf (svs.toArray.push (Value.int (rn : Int) t3)) (c + 1) := by rw [List.push_toArray]
          rw [e] at hp
          first | (refine sub_at ?_ hp; walk_at "SUB") | (simp only [List.mem_cons, List.mem_append] at hp ⊢; grind)
      · exact Halt.mk ⟨rfl, _, _, _, _, svs, is, c, so2, rfl, hpd, by omega, hi, F7, fun p hp => N7 p (by
          first | (refine sub_at ?_ hp; walk_at "SUB") | (simp only [List.mem_cons, List.mem_append] at hp ⊢; grind)), hso2⟩
  · show (if y = Str.ofString "steps" then some (Value.ref ls) else List.lookup y [(Str.ofString "value", v), (Str.ofString "source", Value.ref src)]) = mSt (.ref src) v (.ref ls) y
    simp only [lookup_if, List.lookup_nil, mSt]
    by_cases h1 : y = Str.ofString "value"
    · subst h1; rfl
    · by_cases h2 : y = Str.ofString "steps"
      · subst h2; rfl
      · simp only [h1, h2, if_false]
  · obtain ⟨rfl, h4, tk4, V', d', svs, is, c, so', rfl, hpd, hil, hi, F4, N4, hso'⟩ := halt hs
    repeat' (first | walk1 | (dsimp only; walk1) | walk_at "THEN")
    rename_i lo h6 F6 N6 l6
    have N7 : News G L' h6 ((src, so') :: ((lo, PySem.W.listOf #[Value.int (-1) (tk4 + 1), Value.int 3 (tk4 + 1 + 1), Value.int 9 (tk4 + 1 + 1 + 1)] 0) :: (ls, PySem.W.listOf svs.toArray c) :: (l ++ [(L, oL)]))) := fun p hp => N6 p (by
      first | (refine sub_at ?_ hp; walk_at "SUB") | (simp only [List.mem_cons, List.mem_append] at hp ⊢; grind))
    have off7 : ∀ p ∈ (lo, PySem.W.listOf #[Value.int (-1) (tk4 + 1), Value.int 3 (tk4 + 1 + 1), Value.int 9 (tk4 + 1 + 1 + 1)] 0) :: (ls, PySem.W.listOf svs.toArray c) :: (l ++ [(L, oL)]), p.1 ≠ src := fun p hp => by
      refine mem_case hp ?_ fun p hp => ?_
      · exact Nat.ne_of_gt l6.2.1
      · refine mem_case hp ?_ fun p hp => ?_
        · exact nsrc
        · exact off1 p hp
    refine Halt.mk (one_ok (hA.deeper.le (by decide)) X T F6 N7 hso' off7 (.head _) fun r t1 so2 h8 tk8 F8 N8 hso2 r0 r1 => ?_)
    clear N7 N6
    repeat' (first | walk1 | (dsimp only; walk1) | walk_at "THEN")
    rename_i lq h9 F9 N9 l9
    have N10 : News G L' h9 ((src, so2) :: ((lq, PySem.W.listOf #[Value.int r t1] 0) :: (ls, PySem.W.listOf svs.toArray c) :: (l ++ [(L, oL)]))) := fun p hp => N9 p (by
      first | (refine sub_at ?_ hp; walk_at "SUB") | (simp only [List.mem_cons, List.mem_append] at hp ⊢; grind))
    have off10 : ∀ p ∈ (lq, PySem.W.listOf #[Value.int r t1] 0) :: (ls, PySem.W.listOf svs.toArray c) :: (l ++ [(L, oL)]), p.1 ≠ src := fun p hp => by
      refine mem_case hp ?_ fun p hp => ?_
      · exact Nat.ne_of_gt l9.1
      · refine mem_case hp ?_ fun p hp => ?_
        · exact nsrc
        · exact off1 p hp
    clear N9
    refine Halt.mk (take_ok (hA.deeper.le (by decide)) X T F9 N10 hso2 off10 (by decide) (by decide) fun r2 t2 so3 h11 tk11 F11 N11 hso3 r20 r21 => ?_)
    clear N10
    repeat' (first | walk1 | (dsimp only; walk1) | walk_at "THEN")
    have hil3 : svs.length ≤ 3 := by have := hi.len; omega
    refine kmk_add_lit (zs := svs ++ (List.replicate (if (r2 == 0) = true then 1 else 0 : Int).toNat [Value.int r t1]).flatten) (by assumption) (by assumption) (News.isList (by assumption) (by k_mem)) (News.isList (by assumption) (.head _)) (by first | walk_at "MEM" | simp) (fun D6 h13 F13 N13 l13 => ?_) ?_
    · repeat' (first | walk1 | (dsimp only; walk1) | walk_at "THEN")
      have hnD : D6 ≠ L := Nat.ne_of_gt (l13 (L, oL) (by first | walk_at "MEM" | simp))
      have o := out_new (so' := so3) [(D6, PySem.W.listOf (svs ++ (List.replicate (if (r2 == 0) = true then 1 else 0 : Int).toNat [Value.int r t1]).flatten).toArray 0)] F N hL F13 N13 (.tail _ (.tail _ (.head _))) (by first | walk_at "MEM" | simp) (fun p hp => by first | walk_at "MEM" | simp [hp]) (fun p hp => by rw [List.mem_singleton.mp hp]; exact ⟨.head _, hnD⟩)
      have fin : ∃ is', IntVs (svs ++ (List.replicate (if (r2 == 0) = true then 1 else 0 : Int).toNat [Value.int r t1]).flatten) is' ∧ is'.length ≤ 100 ∧ ∃ d1, d.path is'.dropLast = some d1 := by
        by_cases z : r2 = 0
        · refine ⟨is ++ [r], ?_, by rw [List.length_append, List.length_singleton]; omega, d', by rw [List.dropLast_concat]; exact hpd⟩
          have e : (List.replicate (if (r2 == 0) = true then 1 else 0 : Int).toNat [Value.int r t1]).flatten = [Value.int r t1] := by simp [z]
          rw [e]
          exact hi.snoc
        · refine ⟨is, ?_, by omega, PV.path_drop hpd⟩
          have e : (List.replicate (if (r2 == 0) = true then 1 else 0 : Int).toNat [Value.int r t1]).flatten = [] := by simp [z]
          rw [e, List.append_nil]
          exact hi
      obtain ⟨is', hi', hl', hp'⟩ := fin
      exact ret D6 _ is' 0 so3 _ _ hi' hl' hp' o.1 o.2 hso3 (Nat.ne_of_gt (l13 (src, so3) (by first | walk_at "MEM" | simp))) (fun q hq => Nat.ne_of_gt (l13 q (by first | walk_at "MEM" | simp [hq])))
    · rw [sizeLine_eq]
      by_cases z : r2 = 0
      · simp [z]; omega
      · simp [z]; omega
end
section
open PySem PySem.W PySem.Calls PyProof.Rows PySem.Spec
theorem hideAll_keep : ∀ (as : List Addr) {h : Heap} {b : Addr}, b ∉ as → (hideAll h as).get? b = h.get? b := fun as h b hb => by
  cases q : h.get? b with
  | some o => exact hideAll_get as q hb
  | none =>
    cases r : (hideAll h as).get? b with
    | none => rfl
    | some o => rw [of_hideAll as r] at q; cases q
/-- a ground that keeps chosen data alone -/
theorem base_of {G h : Heap} {L : Addr} {m : Str → Option Value} {l dl : List (Addr × Obj)} {fs : List Env} (F : Fr G L h m) (N : News G L h l) (hd : ∀ p ∈ dl, p ∈ l)
    (hfs : ∀ env ∈ fs, env.scope.kind ≠ .module ∧ ∃ Lf, env.frame = some Lf ∧ G.get? Lf = none ∧ (∀ p ∈ dl, p.1 ≠ Lf) ∧ (Lf = L ∨ ∃ o, (Lf, o) ∈ l ∧ ∀ vs, o.data ≠ .fields vs)) :
    ∃ B, Base B G L l fs ∧ (∀ b o, G.get? b = some o → B.get? b = some o) ∧ ∀ p ∈ dl, B.get? p.1 = some p.2 := by
  let hs : List Addr := (List.range h.objs.size).filter fun b => (G.get? b).isNone && !(dl.map (·.1)).contains b
  have inside : ∀ {b : Addr}, b ∈ hs → G.get? b = none ∧ b ∉ dl.map (·.1) := fun {b} hb => by
    have := (List.mem_filter.mp hb).2
    simp only [Bool.and_eq_true, Option.isNone_iff_eq_none, Bool.not_eq_true', List.contains_eq_mem, decide_eq_false_iff_not] at this
    exact this
  have out : ∀ {b : Addr} {o : Obj}, h.get? b = some o → b ∉ hs → (∃ o', G.get? b = some o') ∨ b ∈ dl.map (·.1) := fun {b o} e hb => by
    by_cases q : b ∈ dl.map (·.1)
    · exact .inr q
    · cases r : G.get? b with
      | some o' => exact .inl ⟨o', rfl⟩
      | none => exact absurd (List.mem_filter.mpr ⟨List.mem_range.mpr (Heap.lt_size e), by rw [r]; simpa using q⟩) hb
  have hG : ∀ b o, G.get? b = some o → (hideAll h hs).get? b = some o := fun b o e => hideAll_get hs (F.keep b o e) fun hb => by rw [(inside hb).1] at e; cases e
  refine ⟨hideAll h hs, ⟨fun b o e => ?_, fun env hx => ?_⟩, hG, fun p hp => hideAll_get hs (N p (hd p hp)).1 fun hb => (inside hb).2 (List.mem_map_of_mem hp)⟩
  · have e' := of_hideAll hs e
    have nb : b ∉ hs := fun hb => by rw [hideAll_none hs hb] at e; cases e
    rcases out e' nb with ⟨o', q⟩ | q
    · have := F.keep b o' q
      rw [e'] at this
      cases this
      exact .inl q
    · obtain ⟨p, hp, rfl⟩ := List.mem_map.mp q
      have := (N p (hd p hp)).1
      rw [e'] at this
      cases this
      exact .inr (hd p hp)
  · obtain ⟨a, Lf, b, c, d, e⟩ := hfs env hx
    refine ⟨a, Lf, b, ?_, e⟩
    cases r : (hideAll h hs).get? Lf with
    | none => rfl
    | some o =>
      have e' := of_hideAll hs r
      have nb : Lf ∉ hs := fun hb => by rw [hideAll_none hs hb] at r; cases r
      rcases out e' nb with ⟨o', q⟩ | q
      · rw [c] at q; cases q
      · obtain ⟨p, hp, q⟩ := List.mem_map.mp q
        exact absurd q (d p hp)
theorem news_ne {G h : Heap} {L : Addr} {l : List (Addr × Obj)} (N : News G L h l) {p q : Addr × Obj} (hp : p ∈ l) (hq : q ∈ l) (ne : p.2 ≠ q.2) : p.1 ≠ q.1 := fun e => by
  have a := (N p hp).1
  rw [e, (N q hq).1] at a
  exact ne (Option.some.inj a).symm
section
variable {M : Model} {A : Around} {E : Value → Shared → Prop} {s : Shared} {h₀ : Heap} {L a c : Addr} {m : Str → Option Value} {cn : Str} {cs : Scope} {ccd : Value} {cl : List (Str × Addr)} {x : Str} {v : Value} {v₀ : Option Value} {o : Obj} {news : List (Addr × Obj)}
/-- a cell of the ledger is set; it comes to the head -/
theorem cell_put {Q : Unit → Shared → Prop} (l' : List (Addr × Obj)) (F : Fr h₀ L s.heap m) (N : News h₀ L s.heap news) (hc : cl.lookup x = some c) (hm : (c, o) ∈ news) (hd : o.data = .cell v₀) (hl : ∀ p ∈ l', p ∈ news ∧ (p.1 ≠ c ∨ ∀ v, p.2.data ≠ .cell v))
    (h : ∀ h' o', Fr h₀ L h' m → News h₀ L h' ((c, o') :: l') → o'.data = .cell (some v) → Q () { s with heap := h' })
    (hk : cs.kind = .function := by rfl) (hx : (envX cn cs L a ccd cl).kindOf x = some .cell := by rfl) : wpAny M A (storeName (envX cn cs L a ccd cl) x v) Q E s := by
  have N' : News h₀ L s.heap ((c, o) :: l') := fun p hp => (List.mem_cons.mp hp).elim (fun e => e ▸ N _ hm) fun hp => N p (hl p hp).1
  refine storeX_C F N' hc (.head fun p hp => ?_) hd h hk hx
  rcases (hl p hp).2 with r | r
  · exact r
  · exact news_ne N (hl p hp).1 hm fun q => r v₀ (by rw [q]; exact hd)
end
end
section
open PySem PySem.W PySem.Calls PyProof.Rows PySem.Spec
/-- a call of a lambda that stands on the ledger -/
theorem callGL {w : World} {mean : ExcName → Option Value} {mg mb : Str → Option Value} {G : Heap} {A : Around} {s : Shared} {L : Addr} {m : Str → Option Value} {l : List (Addr × Obj)} {R : Result → Shared → Prop} {name qual : Str} {params : Arguments} {body : Expr} {scope : Scope} {cl : List (Str × Addr)} {pm ctv : Value} {c' : Addr}
    {f : Addr} {args : Args} {binds : List (Str × Value)} {oc : Obj} {vs : Array Value} {t : Tok}
    (T : Top topProg lsT mean mg mb G) (F : Fr G L s.heap m) (N : News G L s.heap l) (hroom : A.depth < recursionLimit)
    (ho : (f, kla_obj name qual params body scope cl pm c' ctv) ∈ l) (hc : (c', oc) ∈ l) (hcd : oc.data = .fields vs) (hcv : vs[1]? = some (.str qual t))
    (hbind : bindArgs (kla_fn name qual params body scope cl pm (.ref c') ctv) args = pure binds) (hloc : ∀ y ∈ binds, scope.names.lookup y.1 = some .local)
    (hco : scope.isCoroutine = false) (hgen : scope.isGenerator = false) (hk : scope.kind = .function) (hcell : ∀ x ∈ scope.names, x.2 ≠ .cell)
    (h : ∀ L' h₁ oL, s.heap.get? L = some oL → L' = s.heap.objs.size → Fr G L' h₁ (fun y => binds.reverse.lookup y) → (∀ b o, s.heap.get? b = some o → h₁.get? b = some o) →
      wpAny (model pw w) (A.deeper (envX qual scope L' f (.ref c') cl)) (eval body (envX qual scope L' f (.ref c') cl))
        (fun v s' => R (.ok (.ret v)) s')
        (fun e s' => wpAny (model pw w) (A.deeper (envX qual scope L' f (.ref c') cl)) (leaving (envX qual scope L' f (.ref c') cl) e) (fun _ s'' => R (.error e) s'') (fun e' s'' => R (.error e') s'') s')
        { s with heap := h₁, toks := s.toks + binds.length }) : codeAny (model pw w) A (.call (.ref f) args) R s := by
  obtain ⟨oL, es, ep, hL, hLd, hLk, hLf⟩ := F.ns
  refine kla_callFunE hroom (N _ ho).1 rfl hco hgen rfl ⟨c', oc, vs, t, rfl, (N _ hc).1, hcd, hcv⟩ ?_
  rw [hbind]
  refine wpAny_pure (wpAny_newFunctionEnv hcell hloc (fun h₁ hns hsb => ⟨((T.nolimit).keeps F.keep).fresh _ hsb, ?_⟩) hk)
  show codeAny _ _ (.expr body (envX qual scope s.heap.objs.size f (.ref c') cl)) _ _
  have hk₁ : ∀ b o, s.heap.get? b = some o → h₁.get? b = some o := fun b o e => hsb.extBut b o (Nat.ne_of_lt (Heap.lt_size e)) (Heap.get?_push_of_some _ e)
  exact kla_codeExpr (h _ h₁ oL hL rfl ⟨hns, fun b o e => hk₁ b o (F.keep b o e), Nat.le_trans F.above (Nat.le_of_lt F.ns.lt)⟩ hk₁)
end
section
open PySem PySem.W PySem.Calls PyProof.Rows PySem.Spec
theorem Dp.mono {k n : Nat} (h : k ≤ n) {d : PV} (x : Dp k d) : Dp n d := by
  induction h with
  | refl => exact x
  | step _ ih => exact ih.up
theorem Dp.child {k : Nat} {d c : PV} {i : Int} (x : Dp k d) (h : d.child i = some c) : Dp k c := by
  cases x with
  | int n j => cases h
  | node hc =>
    rename_i n st cs
    have h' : (if 0 ≤ i ∧ i < cs.length then cs[i.toNat]? else none) = some c := h
    split at h'
    · exact (hc c (List.mem_of_getElem? h')).up
    · cases h'
theorem Dp.path {k : Nat} : ∀ {is : List Int} {d c : PV}, Dp k d → d.path is = some c → Dp k c
  | [], d, c, x, h => by cases h; exact x
  | i :: is, d, c, x, h => by
    have h' : (d.child i).bind (fun c => c.path is) = some c := h
    obtain ⟨c1, a, b⟩ := Option.bind_eq_some_iff.mp h'
    exact Dp.path (x.child a) b
theorem put_some {pd : PV} : ∀ {is : List Int} {d : PV}, (PV.put pd is d).isSome = (d.path is).isSome
  | [], d => rfl
  | i :: is, d => by
    have e : PV.put pd (i :: is) d = (d.child i).bind fun c => (PV.put pd is c).map fun c' => d.setC i c' := rfl
    have e2 : d.path (i :: is) = (d.child i).bind fun c => c.path is := rfl
    rw [e, e2]
    cases d.child i with
    | none => rfl
    | some c =>
      show ((PV.put pd is c).map _).isSome = (c.path is).isSome
      rw [Option.isSome_map, put_some]
theorem Dp.put {pd : PV} (hp : Dp 1 pd) : ∀ {is : List Int} {k : Nat} {d rd : PV}, Dp k d → PV.put pd is d = some rd → Dp (k + 1) rd
  | [], k, d, rd, x, h => by cases h; exact hp.mono (by omega)
  | i :: is, k, d, rd, x, h => by
    have e : (d.child i).bind (fun c => (PV.put pd is c).map fun c' => d.setC i c') = some rd := h
    obtain ⟨c, a, b⟩ := Option.bind_eq_some_iff.mp e
    obtain ⟨c', b1, b2⟩ := Option.map_eq_some_iff.mp b
    cases x with
    | int n j => cases a
    | node hc =>
      rename_i n st cs
      subst b2
      have a' : (if 0 ≤ i ∧ i < cs.length then cs[i.toNat]? else none) = some c := a
      split at a'
      · have hc' := Dp.put hp (hc c (List.mem_of_getElem? a')) b1
        show Dp (n + 1 + 1) (.node st (cs.set i.toNat c'))
        refine .node fun y hy => ?_
        rcases List.mem_or_eq_of_mem_set hy with q | q
        · exact (hc y q).up
        · rw [q]; exact hc'
      · cases a'
noncomputable def ShownIs (lv : List (Addr × Obj)) (r : Option PV) (a b : Value) : Prop := match r with
  | none => (∃ t, a = .str (Str.ofString "place") t) ∧ b = .none
  | some c => a = .none ∧ VIn lv b c
noncomputable def shD : Option PV → PyData
  | none => .tuple [.str (Str.ofString "place"), .none]
  | some c => .tuple [.none, c.data]
theorem shown_reads {G h : Heap} {L D : Addr} {l lv : List (Addr × Obj)} {r : Option PV} {a b : Value} {n : Nat} (N : News G L h l) (hD : (D, tupO [a, b] n) ∈ l) (sub : ∀ p ∈ lv, p ∈ l) (S : ShownIs lv r a b) : ∃ as, Reads h (.ref D) (shD r) as := by
  cases r with
  | none =>
    obtain ⟨⟨t, rfl⟩, rfl⟩ := S
    exact ⟨_, reads_tuple_at (N _ hD).1 rfl rfl (.cons (.str _ _) (.cons .none .nil))⟩
  | some c =>
    obtain ⟨rfl, V⟩ := S
    obtain ⟨as, x⟩ := V.reads N sub
    exact ⟨_, reads_tuple_at (N _ hD).1 rfl rfl (.cons .none (.cons x .nil))⟩
theorem shD_shaped {r : Option PV} (h : ∀ c, r = some c → Dp 20 c) : PySem.SeqAt.shaped (shD r) = true := by
  cases r with
  | none => decide +kernel
  | some c =>
    have a := (h c rfl).lay
    unfold PySem.SeqAt.shaped shD
    simp only [PyData.canLay0, PyData.canLayAll0, PyData.depth, PyData.depthAll, a.1, Bool.true_and, Bool.and_true]
    exact decide_eq_true (by rw [Nat.zero_max, Nat.max_zero]; exact Nat.le_trans (Nat.add_le_add_right a.2 1) (by decide))
theorem shD_eqv (r : Option PV) : PyData.eqv (shD r) (shD r) = true := by
  cases r with
  | none => simp [shD, PyData.eqv, PyData.eqvAll]
  | some c => simp [shD, PyData.eqv, PyData.eqvAll, PV.eqv_refl]
section
variable {w : World} {A : Around} {E : Value → Shared → Prop} {s : Shared} {G : Heap} {L D D' : Addr} {l lv lv' : List (Addr × Obj)} {r : Option PV} {a b a' b' : Value} {n n' : Nat} {Q : Value → Shared → Prop}
theorem shown_ne (N : News G L s.heap l) (hD : (D, tupO [a, b] n) ∈ l) (hD' : (D', tupO [a', b'] n') ∈ l) (S : ShownIs lv r a b) (S' : ShownIs lv' r a' b') (sub : ∀ p ∈ lv, p ∈ l) (sub' : ∀ p ∈ lv', p ∈ l) (hd : ∀ c, r = some c → Dp 20 c) (hu : A.units + 64 < cLine)
    (h : Q (.bool false) s) : wpAny (model pw w) A (compareOp .NotEq (.ref D) (.ref D')) Q E s := by
  obtain ⟨as, x⟩ := shown_reads N hD sub S
  obtain ⟨bs, y⟩ := shown_reads N hD' sub' S'
  exact ne_dataH x y (shD_shaped hd) (shD_shaped hd) hu (by rw [shD_eqv]; exact h)
theorem shown_eq (N : News G L s.heap l) (hD : (D, tupO [a, b] n) ∈ l) (hD' : (D', tupO [a', b'] n') ∈ l) (S : ShownIs lv r a b) (S' : ShownIs lv' r a' b') (sub : ∀ p ∈ lv, p ∈ l) (sub' : ∀ p ∈ lv', p ∈ l) (hd : ∀ c, r = some c → Dp 20 c) (hu : A.units + 64 < cLine)
    (h : Q (.bool true) s) : wpAny (model pw w) A (compareOp .Eq (.ref D) (.ref D')) Q E s := by
  obtain ⟨as, x⟩ := shown_reads N hD sub S
  obtain ⟨bs, y⟩ := shown_reads N hD' sub' S'
  exact eq_dataH x y (shD_shaped hd) (shD_shaped hd) hu (by rw [shD_eqv]; exact h)
end
theorem kind_step {w : World} {mean : ExcName → Option Value} {mg mb : Str → Option Value} {G : Heap} {A : Around} {g : Array GenState} {d : Drawn} {os : OsState} {h : Heap} {tk : Nat} {L L0 c : Addr} {o0 : Obj} {m : Str → Option Value} {dl : List (Addr × Obj)} {env0 : Env} {fs : List Env} {Q E : Value → Shared → Prop} {n : Nat} {OK : List (Addr × Obj) → Value → Prop} {Bad : Prop} {kd : Str}
    (hA : Rm A (n + 1)) (X : (KP w.params).In G) (T : Top topProg lsT mean mg mb G) (F : Fr G L h m) (N : News G L h (dl ++ [(L0, o0)])) (hfr : A.frames = some (env0 :: fs)) (h0 : env0.frame = some L) (hk0 : env0.scope.kind ≠ .module)
    (hfs : ∀ env ∈ fs, env.scope.kind ≠ .module ∧ env.frame = some L0) (ho0 : ∀ vs, o0.data ≠ .fields vs) (hd0 : ∀ p ∈ dl, p.1 ≠ L0)
    (C : ∀ B, CSpec w G B (.ref c) (dl ++ [(L0, o0)]) n g d os OK Bad kd) (hcf : ∃ oc od fd sl, (c, (⟨oc, od, .func fd, sl⟩ : Obj)) ∈ dl)
    (ret : ∀ D a b new sl h' tk', ((a = .none ∧ OK new b) ∨ (Bad ∧ (∃ k1, a = .str kd k1) ∧ b = .none ∧ new = [])) → Fr G L h' m → News G L h' ((D, tupO [a, b] 0) :: (new ++ (dl ++ [(L0, { o0 with slots := sl })]))) → Q (.ref D) ⟨h', g, d, tk', os⟩) :
    wpAny (model pw w) A (call (.ref 550) [.ref c]) Q E ⟨h, g, d, tk, os⟩ := by
  have m0 : (L0, o0) ∈ dl ++ [(L0, o0)] := List.mem_append_right _ (.head _)
  obtain ⟨B, S, hGB, hB⟩ := base_of (dl := dl) (fs := env0 :: fs) F N (fun p hp => List.mem_append_left _ hp) (fun env hx => by
    rcases List.mem_cons.mp hx with rfl | hx
    · exact ⟨hk0, L, h0, Heap.get?_none_of_le F.above, fun p hp => (N p (List.mem_append_left _ hp)).2.1, .inl rfl⟩
    · obtain ⟨a, b⟩ := hfs env hx
      exact ⟨a, L0, b, (N _ m0).2.2, hd0, .inr ⟨o0, m0, ho0⟩⟩)
  refine kind_ok hA X T F N hfr S hGB (C B) (by obtain ⟨oc, od, fd, sl, q⟩ := hcf; exact ⟨oc, od, fd, sl, List.mem_append_left _ q⟩) (fun v new D h' tk' ok F' N' => ?_) (fun k1 D h' tk' bad F' st up hD hDL hDG => ?_)
  · exact ret D .none v new o0.slots h' tk' (.inl ⟨rfl, ok⟩) F' N'
  · obtain ⟨sl, e⟩ := up _ m0 ho0
    refine ret D (.str kd k1) .none [] sl h' tk' (.inr ⟨bad, ⟨k1, rfl⟩, rfl, rfl⟩) F' fun p hp => ?_
    refine mem_case hp ?_ fun p hp => ?_
    · exact ⟨hD, hDL, hDG⟩
    · rcases List.mem_append.mp hp with hp | hp
      · cases hp
      · rcases List.mem_append.mp hp with hp | hp
        · exact ⟨st _ _ (hB p hp), (N p (List.mem_append_left _ hp)).2⟩
        · rw [List.mem_singleton.mp hp]
          exact ⟨e, (N _ m0).2⟩
end
section
open PySem PySem.W PySem.Calls PyProof.Rows PySem.Spec
local macro_rules | `(tactic| walk_at "unpackItems ref") => `(tactic| (refine unpackItemsN_ (by assumption) (by assumption) (News.isTup (by assumption) (by k_mem)) (by assumption) rfl ?_; intro h' F' N'))
local macro_rules | `(tactic| walk_at "compareOp NotEq ref ref") => `(tactic| (refine ne_dataH (by ke_read) (by ke_read) (by ke_shaped) (by ke_shaped) (by assumption) ?_; ke_norm))
theorem tup_offV {G : Heap} {L L' : Addr} {h h' : Heap} {m : Str → Option Value} {l' : List (Addr × Obj)} {oL : Obj} (F : Fr G L h m) (hL : h.get? L = some oL) (N' : News G L' h' l') (hl : (L, oL) ∈ l') {p : Addr × Obj} (hp : p ∈ l') (ht : ∃ vs n, p.2 = tupO vs n) : p.1 ≠ L := fun q => by
  obtain ⟨us, un, r⟩ := ht
  have e1 := (N' p hp).1
  have e2 : h'.get? L = some oL := (N' _ hl).1
  rw [q, e2, r] at e1
  obtain ⟨oo, es, ep, a1, b1, _⟩ := F.ns
  rw [hL] at a1
  cases a1
  rw [congrArg Obj.data (Option.some.inj e1)] at b1
  cases b1
/-- a call is back: new tuples come along -/
theorem out_sub {G : Heap} {L L' : Addr} {h h' : Heap} {m m' : Str → Option Value} {l l' : List (Addr × Obj)} (new : List (Addr × Obj)) {oL : Obj} (F : Fr G L h m) (N : News G L h l) (hL : h.get? L = some oL)
    (F' : Fr G L' h' m') (N' : News G L' h' l') (hl : (L, oL) ∈ l') (sub : ∀ p ∈ l, p ∈ l') (hn : ∀ p ∈ new, p ∈ l' ∧ ∃ vs n, p.2 = tupO vs n) : Fr G L h' m ∧ News G L h' (new ++ l) := by
  refine ⟨fr_out F hL F' (N' _ hl).1, fun p hp => ?_⟩
  rcases List.mem_append.mp hp with hp | hp
  · exact ⟨(N' _ (hn p hp).1).1, tup_offV F hL N' hl (hn p hp).1 (hn p hp).2, (N' _ (hn p hp).1).2.2⟩
  · exact ⟨(N' _ (sub p hp)).1, (N p hp).2⟩
theorem key_out {G : Heap} {L L' : Addr} {h h' : Heap} {m m' : Str → Option Value} {l rest : List (Addr × Obj)} {oL : Obj} (F : Fr G L h m) (N : News G L h l) (hL : h.get? L = some oL)
    (F' : Fr G L' h' m') {D C x1 : Addr} {o1 : Obj} {a : Str} {k : Int} {t u : Tok} (N' : News G L' h' ((D, tupO [.ref C] 0) :: (x1, o1) :: (C, tupO [.str a t, .int k u] 0) :: rest)) (hl : (L, oL) ∈ rest) (sub : ∀ p ∈ l, p ∈ rest) :
    Fr G L h' m ∧ News G L h' ((D, tupO [.ref C] 0) :: (C, tupO [.str a t, .int k u] 0) :: l) :=
  out_sub [(D, tupO [.ref C] 0), (C, tupO [.str a t, .int k u] 0)] F N hL F' N' (by first | walk_at "MEM" | simp [hl]) (fun p hp => by first | walk_at "MEM" | simp [sub p hp]) (fun p hp => by
    refine mem_all hp (all_cons ?_ (all_cons ?_ (all_nil)))
    · exact ⟨.head _, _, _, rfl⟩
    · exact ⟨by first | walk_at "MEM" | simp, _, _, rfl⟩)
theorem loose_at {w : World} {h : Heap} (X : (KP w.params).In h) : ∃ as, Reads h (.ref 377) (.tuple [.str (Str.ofString "slice"), .str (Str.ofString "map"), .str (Str.ofString "func")]) as :=
  ⟨_, reads_tuple_at (X 377 _ (by k_is)) rfl rfl (.cons (.str _ _) (.cons (.str _ _) (.cons (.str _ _) .nil)))⟩
set_option maxHeartbeats 1000000 in
theorem few_ok {w : World} {mean : ExcName → Option Value} {mg mb : Str → Option Value} {G : Heap} {A : Around} {h : Heap} {g : Array GenState} {dr : Drawn} {tk : Nat} {os : OsState} {L : Addr} {m : Str → Option Value} {l : List (Addr × Obj)} {k : Int} {t : Tok} {Q E : Value → Shared → Prop}
    (hA : Rm A 3) (X : (KP w.params).In G) (T : Top topProg lsT mean mg mb G) (F : Fr G L h m) (N : News G L h l) (hk : k ≤ 10)
    (ret : ∀ h' tk', Fr G L h' m → News G L h' l → Q .none ⟨h', g, dr, tk', os⟩) :
    wpAny (model pw w) A (call (.ref 384) [.int k t, .none]) Q E ⟨h, g, dr, tk, os⟩ := by
  refine wpAny_call (callE (s := ⟨h, g, dr, tk, os⟩) (binds := [(Str.ofString "many", .int k t), (Str.ofString "most", .none)]) X T F (Nat.lt_of_le_of_lt (Nat.le_add_right _ _) hA.dp) (by k_is) (by k_is) (BindsTo.of_eq rfl) (locs rfl) rfl rfl rfl (by decide) fun L' h₁ oL E' hL eL F₁ k₁ => ?_)
  have N₁ := news_in F N hL eL k₁
  try dsimp only
  repeat' (first | walk1 | (dsimp only; walk1) | walk_at "THEN")
  have o := out_any F N hL (by assumption) (by assumption) (by first | walk_at "MEM" | simp) (fun p hp => List.mem_append_left _ hp)
  exact ret _ _ o.1 o.2
set_option maxHeartbeats 1000000 in
theorem tag_ok {w : World} {mean : ExcName → Option Value} {mg mb : Str → Option Value} {G : Heap} {A : Around} {h : Heap} {g : Array GenState} {dr : Drawn} {tk : Nat} {os : OsState} {L : Addr} {m : Str → Option Value} {l : List (Addr × Obj)} {k : Int} {t : Tok} {Q E : Value → Shared → Prop}
    (hA : Rm A 3) (X : (KP w.params).In G) (T : Top topProg lsT mean mg mb G) (F : Fr G L h m) (N : News G L h l)
    (ret : ∀ t h' tk', Fr G L h' m → News G L h' l → Q (.str (Str.ofString "int") t) ⟨h', g, dr, tk', os⟩) :
    wpAny (model pw w) A (call (.ref 391) [.int k t]) Q E ⟨h, g, dr, tk, os⟩ := by
  refine wpAny_call (callE (s := ⟨h, g, dr, tk, os⟩) (binds := [(Str.ofString "value", .int k t)]) X T F (Nat.lt_of_le_of_lt (Nat.le_add_right _ _) hA.dp) (by k_is) (by k_is) (BindsTo.of_eq rfl) (locs rfl) rfl rfl rfl (by decide) fun L' h₁ oL E' hL eL F₁ k₁ => ?_)
  have N₁ := news_in F N hL eL k₁
  try dsimp only
  repeat' (first | walk1 | (dsimp only; walk1) | walk_at "THEN")
  have o := out_any F N hL (by assumption) (by assumption) (by first | walk_at "MEM" | simp) (fun p hp => List.mem_append_left _ hp)
  exact ret _ _ _ o.1 o.2
set_option maxHeartbeats 1000000 in
theorem key_ok {w : World} {mean : ExcName → Option Value} {mg mb : Str → Option Value} {G : Heap} {A : Around} {h : Heap} {g : Array GenState} {dr : Drawn} {tk : Nat} {os : OsState} {L may : Addr} {m : Str → Option Value} {l : List (Addr × Obj)} {k : Int} {t : Tok} {Q E : Value → Shared → Prop}
    (hA : Rm A 5) (X : (KP w.params).In G) (T : Top topProg lsT mean mg mb G) (F : Fr G L h m) (N : News G L h l)
    (ret : ∀ D C t1 t2 h' tk', Fr G L h' m → News G L h' ((D, tupO [.ref C] 0) :: (C, tupO [.str (Str.ofString "int") t1, .int k t2] 0) :: l) → Q (.ref D) ⟨h', g, dr, tk', os⟩) :
    wpAny (model pw w) A (call (.ref 399) [.int k t, .ref may]) Q E ⟨h, g, dr, tk, os⟩ := by
  refine wpAny_call (callG (s := ⟨h, g, dr, tk, os⟩) (binds := [(Str.ofString "value", .int k t), (Str.ofString "may_compare", .ref may), (Str.ofString "most", .none)]) X T F (Nat.lt_of_le_of_lt (Nat.le_add_right _ _) hA.dp) (by k_is) (by k_is) (binds_K (X.keeps F.keep) rfl (by k_is) rfl rfl rfl) (locs rfl) rfl rfl rfl (by decide) fun L' h₁ oL hL eL F₁ k₁ => ?_)
  have N₁ := news_in F N hL eL k₁
  have hh : A.handled = none := hA.hh
  have hu : A.units + 3 + 64 < cLine := ar_un (n := 67) hA.un (by decide)
  try dsimp only
  repeat' (first | walk1 | (dsimp only; walk1) | walk_at "THEN")
  refine Halt.mk (few_ok (hA.deeper.le (by decide)) X T (by assumption) (by assumption) (by decide) fun h2 tk2 F2 N2 => ?_)
  repeat' (first | walk1 | (dsimp only; walk1) | walk_at "THEN")
  refine Halt.mk (tag_ok (hA.deeper.le (by decide)) X T (by assumption) (by assumption) fun t3 h3 tk3 F3 N3 => ?_)
  clear N2
  repeat' (first | walk1 | (dsimp only; walk1) | walk_at "THEN")
  obtain ⟨as, hl⟩ := loose_at (X.keeps (Fr.keep (by assumption)))
  refine PySem.SeqAt.in_tuple_reads hl (.str _ _) (by decide +kernel) (by decide +kernel) (Nat.lt_of_le_of_lt (Nat.add_le_add_left (Nat.min_le_right _ 0) _) (ar_un (n := 4) hA.un (by decide))) ?_
  repeat' (first | walk1 | (dsimp only; walk1) | walk_at "THEN")
  have o := key_out F N hL (by assumption) (by assumption) (by first | walk_at "MEM" | simp) (fun p hp => by first | walk_at "MEM" | simp [hp])
  exact ret _ _ _ _ _ _ o.1 o.2
end
section
open PySem PySem.W PySem.Calls PyProof.Rows PySem.Spec
noncomputable def mixIs : Str ⊕ Int → Value → Bool
  | .inl x, v => Value.isStrOf x v
  | .inr n, v => Value.isInt n v
noncomputable def mixHash (w : World) : Str ⊕ Int → Int
  | .inl x => hashStr w x
  | .inr n => hashInt n
theorem mix_shape {k : Str ⊕ Int} {v : Value} (h : mixIs k v = true) : (∃ x t, k = .inl x ∧ v = .str x t) ∨ ∃ n t, k = .inr n ∧ v = .int n t := by
  cases k with
  | inl x => obtain ⟨t, rfl⟩ := Value.isStrOf_shape h; exact .inl ⟨x, t, rfl, rfl⟩
  | inr n => obtain ⟨t, rfl⟩ := Value.isInt_shape h; exact .inr ⟨n, t, rfl, rfl⟩
noncomputable def mixKind (w : World) : KeyKind pw w (Str ⊕ Int) where
  is := mixIs
  hash := mixHash w
  inj := fun v a b ha hb => by
    rcases mix_shape ha with ⟨x, t, rfl, rfl⟩ | ⟨n, t, rfl, rfl⟩
    · rcases mix_shape hb with ⟨y, u, rfl, e⟩ | ⟨k, u, rfl, e⟩
      · cases e; rfl
      · cases e
    · rcases mix_shape hb with ⟨y, u, rfl, e⟩ | ⟨k, u, rfl, e⟩
      · cases e
      · cases e; rfl
  byValue := fun k v h => by rcases mix_shape h with ⟨x, t, rfl, rfl⟩ | ⟨n, t, rfl, rfl⟩ <;> rfl
  pyHash := fun hv h => by
    rcases mix_shape hv with ⟨x, t, rfl, rfl⟩ | ⟨n, t, rfl, rfl⟩
    · exact wpAny_pyHash_str h
    · exact wpAny_pyHash_int h
  eqBool := fun {A E s a b u v Q} hu hv h => by
    rcases mix_shape hu with ⟨x, t, rfl, rfl⟩ | ⟨n, t, rfl, rfl⟩
    · rcases mix_shape hv with ⟨y, u, rfl, rfl⟩ | ⟨k, u, rfl, rfl⟩
      · have e : decide (Sum.inl x = (Sum.inl y : Str ⊕ Int)) = decide (x = y) := by simp
        rw [e] at h
        exact wpAny_eqBool_str h
      · exact (PySem.SeqAt.EqAt.str_int x t k u) pw w E Q (by simpa using h)
    · rcases mix_shape hv with ⟨y, u, rfl, rfl⟩ | ⟨k, u, rfl, rfl⟩
      · exact (PySem.SeqAt.EqAt.int_str n t y u) pw w E Q (by simpa using h)
      · have e : decide (Sum.inr n = (Sum.inr k : Str ⊕ Int)) = decide (n = k) := by simp
        rw [e] at h
        exact wpAny_eqBool_int h
  «strs» := fun k x t v h => by
    rcases mix_shape h with ⟨y, u, rfl, e⟩ | ⟨k, u, rfl, e⟩
    · cases e
      cases v <;> rfl
    · cases e
noncomputable def inK (n : Int) : List (Str ⊕ Int) := [.inl (Str.ofString "int"), .inr n]
noncomputable def IsMark (w : World) (h : Heap) (n : Int) (a : Addr) : Prop := ∃ o c k, h.get? a = some o ∧ o.cls = .type "tuple" ∧ o.data = .seq #[.ref c] k ∧ IsTupleKey (mixKind w) h (inK n) c
theorem IsMark.typeIs {w : World} {s : Shared} {n : Int} {a : Addr} (x : IsMark w s.heap n a) : s.TypeIs (.ref a) "tuple" := let ⟨o, _, _, ho, hc, _⟩ := x; ⟨o, ho, hc⟩
noncomputable def markHash (w : World) (n : Int) : Int := reduceHash (Builtin.Tuple.tupleHashOf [tupleKeyHash (mixKind w) (inK n)])
section
variable {w : World} {A : Around} {E : Value → Shared → Prop} {s : Shared}
theorem mark_hash {n : Int} {a : Addr} {Q : Int → Shared → Prop} (hu : A.units + 8 < cLine) (hk : IsMark w s.heap n a) (h : Q (markHash w n) { s with toks := s.toks + 4 }) : wpAny (model pw w) A (pyHash (.ref a)) Q E s := by
  have hT := hk.typeIs
  obtain ⟨o, c, k, ho, _, hd, hi⟩ := hk
  have hu0 : A.units < cLine := by omega
  have hu1 : A.in1.units < cLine := by show A.units + 1 < cLine; omega
  unfold pyHash
  first | unfold pyHashByItsType | skip
  first | refine wpAny_bind (wpAny_cRoomFor_or (.inr hu0) ?_) | skip
  refine wpAny_bind (wpAny_specialOf hT F.slot_tuple_hash.lookup ?_)
  show wpAny _ _ (if (some (Value.builtin "tuple.__hash__") == some Value.none) = true then _ else _) Q E s
  rw [if_neg (by rw [beq_builtin_none]; exact Bool.false_ne_true)]
  refine wpAny_bind (wpAny_specialOf hT F.slot_tuple_hash.lookup ?_)
  show wpAny _ _ (callSpecialIfBoundUnlessNone? (.ref a) "__hash__" _ >>= _) Q E s
  refine wpAny_bind (wpAny_callSpecialIfBoundUnlessNone?_slot hT F.slot_tuple_hash (wpAny_call_entry F.slot_tuple_hash hT F.entry_tuple_hash ?_ (F.args_tuple_hash_1 _)))
  show wpAny _ _ (Builtin.Tuple.tupleItemsOf (.ref a) >>= _) _ _ s
  refine wpAny_bind (wpAny_tupleItemsOf ho hd ?_)
  refine wpAny_bind ?_
  rw [← Array.forIn_toList]
  refine wpAny_forIn_list _ (fun rest (b : Array Int) s' => (rest = [.ref c] ∧ b = #[] ∧ s' = s) ∨ (rest = [] ∧ b = #[tupleKeyHash (mixKind w) (inK n)] ∧ s' = { s with toks := s.toks + 3 })) _ ?_ ?_ _ _ (.inl ⟨rfl, rfl, rfl⟩)
  · rintro x rest b s' (⟨e, rfl, rfl⟩ | ⟨e, _⟩)
    · cases e
      refine wpAny_bind (wpAny_pyHash_tuple (by first | exact hu1 | exact hu0) hi ?_)
      first
        | exact wpAny_pure (.inr ⟨rfl, rfl, rfl⟩)
        | exact wpAny_bind (wpAny_pure (wpAny_pure (.inr ⟨rfl, rfl, rfl⟩)))
    · cases e
  · rintro b s' (⟨e, _⟩ | ⟨_, rfl, rfl⟩)
    · cases e
    show wpAny _ _ (retInt (Builtin.Tuple.tupleHashOf [tupleKeyHash (mixKind w) (inK n)])) _ _ _
    refine wpAny_ret_mkInt ?_
    show wpAny _ _ (if (decide (-(2 : Int) ^ 63 ≤ Builtin.Tuple.tupleHashOf [tupleKeyHash (mixKind w) (inK n)]) && decide (Builtin.Tuple.tupleHashOf [tupleKeyHash (mixKind w) (inK n)] < 2 ^ 63)) = true then _ else _) Q E _
    unfold markHash reduceHash at h
    by_cases hr : (decide (-(2 : Int) ^ 63 ≤ Builtin.Tuple.tupleHashOf [tupleKeyHash (mixKind w) (inK n)]) && decide (Builtin.Tuple.tupleHashOf [tupleKeyHash (mixKind w) (inK n)] < 2 ^ 63)) = true
    · rw [if_pos hr]
      rw [if_pos hr] at h
      exact wpAny_pure (by simpa [Nat.add_assoc] using h)
    · rw [if_neg hr]
      rw [if_neg hr] at h
      exact wpAny_bind (wpAny_rule (wpAny_pure (by simpa [Nat.add_assoc] using h)))
theorem inK_eq (x y : Int) : decide (inK x = inK y) = decide (x = y) := by simp [inK]
theorem mark_tree {x y : Int} {a b : Addr} {P : PySem.Fin → Shared → Prop} (hu : A.units < cLine) (hx : IsMark w s.heap x a) (hy : IsMark w s.heap y b) (h : P (.done (.ret (.bool (decide (x = y))))) s) :
    wpAny (model pw w) A (Builtin.«tuple.__eq__» ⟨[.ref a, .ref b], []⟩) P E s := by
  have hTb := hy.typeIs
  obtain ⟨oa, ca, na, hoa, _, hda, hia⟩ := hx
  obtain ⟨ob, cb, nb, hob, _, hdb, hib⟩ := hy
  show wpAny _ _ (isInstance (.ref b) (.type "tuple") >>= _) _ _ s
  refine wpAny_bind (wpAny_isInstance hTb isSubtype_tuple_tuple ?_)
  simp only [Bool.not_true, Bool.false_eq_true, if_false]
  refine wpAny_bind (wpAny_tupleItemsOf hoa hda ?_)
  refine wpAny_bind (wpAny_tupleItemsOf hob hdb ?_)
  refine wpAny_bind ?_
  refine wpAny_forIn_list _ (fun rest r s' => r.1 = none ∧ s' = s ∧ (rest = [(.ref ca, .ref cb)] ∨ (rest = [] ∧ x = y))) _ ?_ ?_ _ _ ⟨rfl, rfl, .inl rfl⟩
  · rintro ⟨u, v⟩ rest r s' ⟨hr, rfl, e | ⟨e, _⟩⟩
    · cases e
      refine wpAny_bind (wpAny_eqBool_tuple hu hia hib ?_)
      rw [inK_eq]
      by_cases hk : x = y
      · subst hk
        rw [decide_eq_true rfl]
        simp only [Bool.not_true, Bool.false_eq_true, if_false]
        exact wpAny_pure ⟨rfl, rfl, by simp⟩
      · rw [decide_eq_false hk] at h ⊢
        simp only [Bool.not_false, if_true]
        exact wpAny_bind (wpAny_pure (wpAny_pure (wpAny_pure h)))
    · cases e
  · rintro ⟨r1, r2⟩ s' ⟨hr, rfl, e | ⟨_, rfl⟩⟩
    · cases e
    · simp only at hr
      subst hr
      refine wpAny_pure ?_
      rw [decide_eq_true rfl] at h
      exact h
theorem IsMark.inj {h : Heap} {a : Addr} {x y : Int} (hx : IsMark w h x a) (hy : IsMark w h y a) : x = y := by
  obtain ⟨o, c, n, ho, _, hd, hi⟩ := hx
  obtain ⟨o', c', n', ho', _, hd', hi'⟩ := hy
  obtain rfl : o = o' := Option.some.inj (ho.symm.trans ho')
  rw [hd] at hd'
  injection hd' with h1 _
  obtain rfl : c = c' := by simpa using h1
  have := IsTupleKey.inj hi hi'
  simpa [inK] using this
theorem mark_eqBool {x y : Int} {a b : Addr} {Q : Bool → Shared → Prop} (hu : A.units + 8 < cLine) (hx : IsMark w s.heap x a) (hy : IsMark w s.heap y b) (h : Q (decide (x = y)) s) : wpAny (model pw w) A (eqBool (.ref a) (.ref b)) Q E s := by
  have hu0 : A.units < cLine := by omega
  unfold eqBool
  try with_reducible refine wpAny_holding ?_
  show wpAny _ _ (if (Value.ref a == Value.ref b) = true then _ else _) Q E s
  by_cases hab : (Value.ref a == Value.ref b) = true
  · rw [if_pos hab]
    have e : a = b := by have := eq_of_beq hab; injection this
    subst e
    obtain rfl := hx.inj hy
    exact wpAny_bind (wpAny_rule (wpAny_pure (by simpa using h)))
  · rw [if_neg hab]
    exact wpAny_bind (wpAny_richCompare_same_room (op := .Eq) hx.typeIs hy.typeIs F.slot_tuple_eq
      (wpAny_call_entry F.slot_tuple_eq hx.typeIs F.entry_tuple_eq (mark_tree (by first | exact hu0 | (show A.units + 1 < cLine; omega) | (show A.units + 1 + 1 < cLine; omega)) hx hy ⟨_, rfl, (fun e => nomatch e), wpAny_truthy_bool h⟩) (F.args_tuple_eq_2 _ _)) hu0)
theorem quiet_in {n : Nat} {ks : List (Str ⊕ Int)} {a : Addr} {Q : Bool → Shared → Prop} (hk : IsTupleKey (mixKind w) s.heap ks a) (h : Q true s) : wpAny (model pw w) A (eqIsQuiet (n + 1) (.ref a)) Q E s := by
  have hT := hk.typeIs
  obtain ⟨o, items, n, ho, _, hd, hi⟩ := hk
  unfold eqIsQuiet
  refine wpAny_bind (wpAny_specialOf hT F.slot_tuple_eq.lookup ?_)
  show wpAny _ _ (isInstance (.ref a) (.type "tuple") >>= _) _ _ s
  refine wpAny_bind (wpAny_isInstance hT isSubtype_tuple_tuple ?_)
  simp only [Bool.not_true, Bool.false_eq_true, if_false]
  refine wpAny_bind (wpAny_seqItems ho hd ?_)
  refine wpAny_bind ?_
  show wpAny _ _ (forIn items _ _) _ _ s
  rw [← Array.forIn_toList]
  refine wpAny_forIn_list _ (fun rest r s' => r.1 = none ∧ s' = s ∧ ∀ v ∈ rest, carriedByValue v = true) _ ?_ ?_ _ _ ⟨rfl, rfl, hi.byValue⟩
  · rintro v rest r s' ⟨hr, rfl, hall⟩
    rw [eqIsQuiet_byValue _ (hall v List.mem_cons_self)]
    refine wpAny_bind (wpAny_pure ?_)
    simp only [Bool.not_true, Bool.false_eq_true, if_false]
    exact wpAny_pure ⟨rfl, rfl, fun u hu' => hall u (List.mem_cons_of_mem _ hu')⟩
  · rintro ⟨r1, r2⟩ s' ⟨hr, rfl, _⟩
    simp only at hr
    subst hr
    exact wpAny_pure h
theorem mark_quiet {x : Int} {a : Addr} {Q : Bool → Shared → Prop} (hk : IsMark w s.heap x a) (h : Q true s) : wpAny (model pw w) A (eqIsQuiet 8 (.ref a)) Q E s := by
  have hT := hk.typeIs
  obtain ⟨o, c, n, ho, _, hd, hi⟩ := hk
  unfold eqIsQuiet
  refine wpAny_bind (wpAny_specialOf hT F.slot_tuple_eq.lookup ?_)
  show wpAny _ _ (isInstance (.ref a) (.type "tuple") >>= _) _ _ s
  refine wpAny_bind (wpAny_isInstance hT isSubtype_tuple_tuple ?_)
  simp only [Bool.not_true, Bool.false_eq_true, if_false]
  refine wpAny_bind (wpAny_seqItems ho hd ?_)
  refine wpAny_bind ?_
  show wpAny _ _ (forIn #[Value.ref c] _ _) _ _ s
  rw [← Array.forIn_toList]
  refine wpAny_forIn_list _ (fun rest r s' => r.1 = none ∧ s' = s ∧ (rest = [.ref c] ∨ rest = [])) _ ?_ ?_ _ _ ⟨rfl, rfl, .inl rfl⟩
  · rintro v rest r s' ⟨hr, rfl, e | e⟩
    · cases e
      refine wpAny_bind (quiet_in hi ?_)
      simp only [Bool.not_true, Bool.false_eq_true, if_false]
      exact wpAny_pure ⟨rfl, rfl, by simp⟩
    · cases e
  · rintro ⟨r1, r2⟩ s' ⟨hr, rfl, _⟩
    simp only at hr
    subst hr
    exact wpAny_pure h
end
noncomputable def markKind (w : World) : HeapKind pw w Int where
  is := IsMark w
  hash := markHash w
  draws := fun _ => 4
  room := fun A => A.units + 8 < cLine
  inj := fun hx hy => hx.inj hy
  keeps := fun {h h' k a d o es ep} x ho hd hs => by
    obtain ⟨oa, c, n, e, hc, hda, hi⟩ := x
    have hne : a ≠ d := by
      rintro rfl
      obtain rfl : oa = o := Option.some.inj (e.symm.trans ho)
      rw [hd] at hda; exact nomatch hda
    exact ⟨oa, c, n, (hs.2 a hne).trans e, hc, hda, hi.keeps ho hd hs⟩
  pyHash := fun hu hk h => mark_hash hu hk h
  eqBool := fun hu hx hy h => mark_eqBool hu hx hy h
  quiet := fun hk h => mark_quiet hk h
end
section
open PySem PySem.W PySem.Calls PyProof.Rows PySem.Spec
local macro_rules | `(tactic| k_all) => `(tactic| first | (with_reducible assumption) | (refine List.forall_mem_cons.mpr ⟨by k_ne, by k_all⟩))
section
open PySem PySem.W PySem.Calls PyProof.Rows PySem.Spec
noncomputable abbrev ent (w : World) (n : Str) (t : Tok) (v : Value) : DictEntry := { hash := PyData.keyHash w.params n, key := .str n t, val := v }
noncomputable abbrev tabD (w : World) (t1 t2 t3 tc : Tok) (may de : Addr) (n : Int) : Obj := dictOf [ent w (Str.ofString "may_compare") t1 (.ref may), ent w (Str.ofString "entries") t2 (.ref de), ent w (Str.ofString "coming") t3 (.int n tc)] 3
noncomputable def EntO (w : World) (xs : List (Int × Addr × Value)) (o : Obj) : Prop := o.ExactDict ∧ ∃ es ep, o.data = .dict es ep ∧ es.toList = xs.map (entryOfKey (markKind w)) ∧ (xs.map (·.1)).Nodup
noncomputable def MarkIn (l : List (Addr × Obj)) (n : Int) (a : Addr) : Prop := ∃ c t1 t2, (a, tupO [.ref c] 0) ∈ l ∧ (c, tupO [.str (Str.ofString "int") t1, .int n t2] 0) ∈ l
theorem MarkIn.is {w : World} {G h : Heap} {L a : Addr} {l : List (Addr × Obj)} {n : Int} (N : News G L h l) (m : MarkIn l n a) : IsMark w h n a := by
  obtain ⟨c, t1, t2, h1, h2⟩ := m
  refine ⟨_, c, 0, (N _ h1).1, rfl, rfl, _, _, 0, (N _ h2).1, rfl, rfl, ?_⟩
  exact .cons (k := Sum.inl (Str.ofString "int")) (show Value.isStrOf (Str.ofString "int") (.str (Str.ofString "int") t1) = true by first | walk_at "MEM" | simp [Value.isStrOf]) (.cons (k := Sum.inr n) (show Value.isInt n (.int n t2) = true by first | walk_at "MEM" | simp [Value.isInt]) .nil)
theorem EntO.at {w : World} {G h : Heap} {L d : Addr} {l : List (Addr × Obj)} {xs : List (Int × Addr × Value)} {o : Obj} (N : News G L h l) (hm : (d, o) ∈ l) (e : EntO w xs o) (mk : ∀ x ∈ xs, MarkIn l x.1 x.2.1) : h.DictOfH (markKind w) d xs := by
  obtain ⟨ex, es, ep, hd, he, hn⟩ := e
  exact ⟨o, es, ep, (N _ hm).1, ex, hd, he, fun x hx => (mk x hx).is N, hn⟩
theorem atKey_none {xs : List (Int × Addr × Value)} {k : Int} (h : k ∉ xs.map (·.1)) : atKey xs k = none := atKey_none_of_get fun j p e => h (List.mem_map.mpr ⟨(k, p), List.mem_of_getElem? e, rfl⟩)
section
variable {w : World} {A : Around} {E : Value → Shared → Prop} {s : Shared} {G : Heap} {L d a : Addr} {m : Str → Option Value} {l : List (Addr × Obj)} {xs : List (Int × Addr × Value)} {o : Obj} {k : Int}
theorem ent_method {name : Str} {id : String} {pl : Sem Bool} {Q : Value × List Value → Shared → Prop} (slot : Slot "dict" name id) (ty : typeOf (.builtin id) = pure (.type "method_descriptor")) (N : News G L s.heap l) (hp : (d, o) ∈ l) (e : EntO w xs o) (h : Q (.builtin id, [.ref d]) s) :
    wpAny (model pw w) A (getMethod (.ref d) name pl) Q E s :=
  getMethod_builtin ⟨o, (N _ hp).1, e.1.1⟩ PySem.F.plainAttrs_dict slot ty (fun b q => by cases q; exact ⟨o, (N _ hp).1, e.1.2.1⟩) h
theorem ent_get {Q : Value → Shared → Prop} (hu : A.units + 10 < cLine) (hsm : (d == sysModules) = false) (N : News G L s.heap l) (hm : (d, o) ∈ l) (e : EntO w xs o) (mk : ∀ x ∈ xs, MarkIn l x.1 x.2.1) (hk : MarkIn l k a) (hnew : k ∉ xs.map (·.1))
    (h : Q .none { s with toks := s.toks + 4 }) : wpAny (model pw w) A (call (.builtin "dict.get") [.ref d, .ref a]) Q E s := by
  refine call_meetsIn PySem.F.slot_dict_get ⟨o, (N _ hm).1, e.1.1⟩ PySem.F.entry_dict_get (PySem.F.args_dict_get_2 _ _) (meetsH_dict_get (markKind w) d a hsm) ⟨?_, k, xs, hk.is N, e.at N hm mk, ?_⟩
  · show A.units + 1 + 8 < cLine
    omega
  · rw [atKey_none hnew]
    exact h
theorem ent_set {v : Value} {Q : Unit → Shared → Prop} (l' : List (Addr × Obj)) (hu : A.units + 9 < cLine) (F : Fr G L s.heap m) (N : News G L s.heap l) (hm : (d, o) ∈ l) (e : EntO w xs o) (mk : ∀ x ∈ xs, MarkIn l x.1 x.2.1) (hk : MarkIn l k a) (hnew : k ∉ xs.map (·.1)) (hl : ∀ p ∈ l', p ∈ l ∧ p.1 ≠ d) (hz : xs.length ≤ 100)
    (h : ∀ h' o' tk, Fr G L h' m → News G L h' ((d, o') :: l') → EntO w (xs ++ [(k, a, v)]) o' → Q () { s with heap := h', toks := tk }) : wpAny (model pw w) A (setItem (.ref d) (.ref a) v) Q E s := by
  have hn := N _ hm
  refine wpAny_setItem_heap (knd := markKind w) (k := k) (xs := xs) (show A.units + 1 + 8 < cLine by omega) (hk.is N) (e.at N hm mk) (fun h' hd' hs => ?_) (by rw [sizeLine_eq]; omega)
  rw [storedH_new (atKey_none hnew)] at hd'
  obtain ⟨o', es, ep, ho', ex, hdd, hes, _, hnd⟩ := hd'
  refine h h' o' _ (F.change hs hn.2.1 hn.2.2) (fun p hp => ?_) ⟨ex, es, ep, hdd, hes, hnd⟩
  refine mem_case hp ?_ fun p hp => ?_
  · exact ⟨ho', hn.2⟩
  · exact ⟨(hs.2 _ (hl p hp).2).trans (N p (hl p hp).1).1, (N p (hl p hp).1).2⟩
end
set_option maxHeartbeats 1000000 in
theorem mark_ok {w : World} {mean : ExcName → Option Value} {mg mb : Str → Option Value} {G : Heap} {A : Around} {h : Heap} {g : Array GenState} {dr : Drawn} {tk : Nat} {os : OsState} {L x dx may de : Addr} {m : Str → Option Value} {l : List (Addr × Obj)} {n k : Int} {t t1 t2 t3 tc : Tok} {Q E : Value → Shared → Prop}
    (hA : Rm A 8) (X : (KP w.params).In G) (T : Top topProg lsT mean mg mb G) (F : Fr G L h m) (N : News G L h l) (hx : (x, instObj 458 dx) ∈ l) (hdx : (dx, tabD w t1 t2 t3 tc may de n) ∈ l)
    (ret : ∀ a new h' tk', MarkIn new k a → (∀ p ∈ new, ∃ vs n, p.2 = tupO vs n) → Fr G L h' m → News G L h' (new ++ l) → Q (.ref a) ⟨h', g, dr, tk', os⟩) :
    wpAny (model pw w) A (call (.ref 420) [.ref x, .int k t]) Q E ⟨h, g, dr, tk, os⟩ := by
  refine wpAny_call (callE (s := ⟨h, g, dr, tk, os⟩) (binds := [(Str.ofString "self", .ref x), (Str.ofString "key", .int k t)]) X T F (Nat.lt_of_le_of_lt (Nat.le_add_right _ _) hA.dp) (by k_is) (by k_is) (BindsTo.of_eq rfl) (locs rfl) rfl rfl rfl (by decide) fun L' h₁ oL E' hL eL F₁ k₁ => ?_)
  have N₁ : News G L' h₁ ((x, instObj 458 dx) :: (dx, tabD w t1 t2 t3 tc may de n) :: (l ++ [(L, oL)])) := fun p hp => by
    have N₀ := news_in F N hL eL k₁
    refine mem_case hp ?_ fun p hp => ?_
    · exact N₀ _ (List.mem_append_left _ hx)
    · refine mem_case hp ?_ fun p hp => ?_
      · exact N₀ _ (List.mem_append_left _ hdx)
      · exact N₀ p hp
  try dsimp only
  repeat' (first | walk1 | (dsimp only; walk1) | walk_at "THEN")
  refine Halt.mk (key_ok (hA.deeper.le (by decide)) X T (by assumption) (by assumption) fun D C u1 u2 h2 tk2 F2 N2 => ?_)
  clear N₁
  repeat' (first | walk1 | (dsimp only; walk1) | walk_at "THEN")
  have o := out_sub [(D, tupO [.ref C] 0), (C, tupO [.str (Str.ofString "int") u1, .int k u2] 0)] F N hL (by assumption) N2 (by first | walk_at "MEM" | simp) (fun p hp => by first | walk_at "MEM" | simp [hp]) (fun p hp => by
    refine mem_all hp (all_cons ?_ (all_cons ?_ (all_nil)))
    · exact ⟨.head _, _, _, rfl⟩
    · exact ⟨.tail _ (.head _), _, _, rfl⟩)
  refine ret D [(D, tupO [.ref C] 0), (C, tupO [.str (Str.ofString "int") u1, .int k u2] 0)] _ _ ⟨C, u1, u2, .head _, .tail _ (.head _)⟩ (fun p hp => ?_) o.1 o.2
  refine mem_all hp (all_cons ?_ (all_cons ?_ (all_nil)))
  · exact ⟨_, _, rfl⟩
  · exact ⟨_, _, rfl⟩
noncomputable def RowIn (l : List (Addr × Obj)) (i k v : Int) (u : Value) : Prop := ∃ r t1 t2 t3, u = .ref r ∧ (r, tupO [.int i t1, .int k t2, .int v t3] 0) ∈ l
theorem put_fin {w : World} {G : Heap} {L L' x dx may de D : Addr} {h h' : Heap} {m : Str → Option Value} {l new : List (Addr × Obj)} {n n' k v : Int} {t tv tc t1 t2 t3 tc0 t4 tc' : Tok} {oE oE' oL : Obj} (F : Fr G L h m) (N : News G L h ((dx, tabD w t1 t2 t3 tc0 may de n') :: (de, oE) :: l)) (hL : h.get? L = some oL)
    (hnt : ∀ p ∈ new, ∃ vs n, p.2 = tupO vs n) (N7 : News G L' h' ((de, oE') :: (D, tupO [.int n tc, .int k t, .int v tv] 0) :: (dx, tabD w t1 t2 t4 tc' may de (n + 1)) :: (x, instObj 458 dx) :: (new ++ (l ++ [(L, oL)])))) :
    News G L h' ((dx, tabD w t1 t2 t4 tc' may de (n + 1)) :: (de, oE') :: (((D, tupO [.int n tc, .int k t, .int v tv] 0) :: new) ++ l)) := fun p hp => by
  have mL : (L, oL) ∈ new ++ (l ++ [(L, oL)]) := by simp
  refine mem_case hp ?_ fun p hp => ?_
  · exact ⟨(N7 _ (.tail _ (.tail _ (.head _)))).1, (N _ (.head _)).2⟩
  · refine mem_case hp ?_ fun p hp => ?_
    · exact ⟨(N7 _ (.head _)).1, (N _ (.tail _ (.head _))).2⟩
    · rcases List.mem_append.mp hp with hp | hp
      · have ht : ∃ vs n, p.2 = tupO vs n := by
          refine mem_case hp ?_ fun p hp => ?_
          · exact ⟨_, _, rfl⟩
          · exact hnt p hp
        have hin : p ∈ (de, oE') :: (D, tupO [.int n tc, .int k t, .int v tv] 0) :: (dx, tabD w t1 t2 t4 tc' may de (n + 1)) :: (x, instObj 458 dx) :: (new ++ (l ++ [(L, oL)])) := by
          refine mem_case hp ?_ fun p hp => ?_
          · exact .tail _ (.head _)
          · exact .tail _ (.tail _ (.tail _ (.tail _ (List.mem_append_left _ hp))))
        exact ⟨(N7 p hin).1, tup_offV F hL N7 (.tail _ (.tail _ (.tail _ (.tail _ mL)))) hin ht, (N7 p hin).2.2⟩
      · exact ⟨(N7 p (.tail _ (.tail _ (.tail _ (.tail _ (List.mem_append_right _ (List.mem_append_left _ hp))))))).1, (N p (.tail _ (.tail _ hp))).2⟩
set_option maxHeartbeats 1000000 in
theorem put_ok {w : World} {mean : ExcName → Option Value} {mg mb : Str → Option Value} {G : Heap} {A : Around} {h : Heap} {g : Array GenState} {dr : Drawn} {tk : Nat} {os : OsState} {L x dx may de : Addr} {m : Str → Option Value} {l : List (Addr × Obj)} {n k v : Int} {t tv t1 t2 t3 tc : Tok} {oE : Obj} {xs : List (Int × Addr × Value)} {Q E : Value → Shared → Prop}
    (hA : Rm A 12) (X : (KP w.params).In G) (T : Top topProg lsT mean mg mb G) (F : Fr G L h m) (N : News G L h ((dx, tabD w t1 t2 t3 tc may de n) :: (de, oE) :: l)) (hx : (x, instObj 458 dx) ∈ l) (e : EntO w xs oE) (mk : ∀ y ∈ xs, MarkIn l y.1 y.2.1) (hnew : k ∉ xs.map (·.1)) (hz : xs.length ≤ 50) (h0 : 0 ≤ n) (h1 : n ≤ 100)
    (xd : @Ne Nat x dx) (xe : @Ne Nat x de) (dde : @Ne Nat dx de) (lo : ∀ p ∈ l, p.1 ≠ dx ∧ p.1 ≠ de) (hsm : (de == sysModules) = false)
    (ret : ∀ a r new oE' t4 tc' h' tk', MarkIn new k a → RowIn new n k v r → (∀ p ∈ new, ∃ vs n, p.2 = tupO vs n) → EntO w (xs ++ [(k, a, r)]) oE' → Fr G L h' m → News G L h' ((dx, tabD w t1 t2 t4 tc' may de (n + 1)) :: (de, oE') :: (new ++ l)) → Q .none ⟨h', g, dr, tk', os⟩) :
    wpAny (model pw w) A (call (.ref 441) [.ref x, .int k t, .int v tv]) Q E ⟨h, g, dr, tk, os⟩ := by
  refine wpAny_call (callE (s := ⟨h, g, dr, tk, os⟩) (binds := [(Str.ofString "self", .ref x), (Str.ofString "key", .int k t), (Str.ofString "value", .int v tv)]) X T F (Nat.lt_of_le_of_lt (Nat.le_add_right _ _) hA.dp) (by k_is) (by k_is) (BindsTo.of_eq rfl) (locs rfl) rfl rfl rfl (by decide) fun L' h₁ oL E' hL eL F₁ k₁ => ?_)
  have N₁ : News G L' h₁ ((dx, tabD w t1 t2 t3 tc may de n) :: (de, oE) :: (x, instObj 458 dx) :: (l ++ [(L, oL)])) := fun p hp => by
    have N₀ := news_in F N hL eL k₁
    refine mem_case hp ?_ fun p hp => ?_
    · exact N₀ _ (.head _)
    · refine mem_case hp ?_ fun p hp => ?_
      · exact N₀ _ (.tail _ (.head _))
      · refine mem_case hp ?_ fun p hp => ?_
        · exact N₀ _ (.tail _ (.tail _ (List.mem_append_left _ hx)))
        · exact N₀ p (.tail _ (.tail _ hp))
  try dsimp only
  repeat' (first | walk1 | (dsimp only; walk1) | walk_at "THEN")
  refine Halt.mk (mark_ok (hA.deeper.le (by decide)) X T (by assumption) N₁ (.tail _ (.tail _ (.head _))) (.head _) fun a new h2 tk2 hmk hnt F2 N2 => ?_)
  clear N₁
  obtain ⟨c0, u1, u2, hm1, hm2⟩ := id hmk
  have N3 : News G L' h2 ((dx, tabD w t1 t2 t3 tc may de n) :: (de, oE) :: (x, instObj 458 dx) :: (new ++ (l ++ [(L, oL)]))) := news_mem N2 fun p hp => by
    first | (refine sub_at ?_ hp; walk_at "SUB") | (simp only [List.mem_cons, List.mem_append] at hp ⊢; grind)
  clear N2
  repeat' (first | walk1 | (dsimp only; walk1) | walk_at "THEN")
  have hu : A.units + 3 + 10 < cLine := ar_un (n := 13) hA.un (by decide)
  have mkN : ∀ y ∈ xs, MarkIn ((dx, tabD w t1 t2 t3 tc may de n) :: (de, oE) :: (x, instObj 458 dx) :: (new ++ (l ++ [(L, oL)]))) y.1 y.2.1 := fun y hy => by
    obtain ⟨c, v1, v2, a1, a2⟩ := mk y hy
    exact ⟨c, v1, v2, by simp [a1], by simp [a2]⟩
  have mkK : MarkIn ((dx, tabD w t1 t2 t3 tc may de n) :: (de, oE) :: (x, instObj 458 dx) :: (new ++ (l ++ [(L, oL)]))) k a := ⟨c0, u1, u2, by simp [hm1], by simp [hm2]⟩
  refine ent_method PySem.F.slot_dict_get PySem.F.type_dict_get (by assumption) (.tail _ (.head _)) e ?_
  repeat' (first | walk1 | (dsimp only; walk1) | walk_at "THEN")
  refine ent_get hu hsm (by assumption) (.tail _ (.head _)) e mkN mkK hnew ?_
  repeat' (first | walk1 | (dsimp only; walk1) | walk_at "THEN")
  rename_i D h5 F5 N5 l5
  have offd : ∀ p ∈ new ++ (l ++ [(L, oL)]), p.1 ≠ dx := fun p hp => by
    rcases List.mem_append.mp hp with hq | hq
    · obtain ⟨us, un, q⟩ := hnt p hq
      refine news_ne N5 (q := (dx, tabD w t1 t2 t3 tc may de n)) (by first | walk_at "MEM" | simp [hq]) (by first | walk_at "MEM" | simp) fun z => ?_
      rw [q] at z
      exact absurd (congrArg Obj.cls z) (by first | walk_at "MEM" | simp [dictOf])
    · rcases List.mem_append.mp hq with hq | hq
      · exact (lo p hq).1
      · rw [List.mem_singleton.mp hq]; exact fun z => (N _ (.head _)).2.1 z.symm
  have offe : ∀ p ∈ new ++ (l ++ [(L, oL)]), p.1 ≠ de := fun p hp => by
    rcases List.mem_append.mp hp with hq | hq
    · obtain ⟨us, un, q⟩ := hnt p hq
      refine news_ne N5 (q := (de, oE)) (by first | walk_at "MEM" | simp [hq]) (by first | walk_at "MEM" | simp) fun z => ?_
      rw [q] at z
      exact absurd ((congrArg Obj.cls z).trans e.1.1) (by first | walk_at "MEM" | simp)
    · rcases List.mem_append.mp hq with hq | hq
      · exact (lo p hq).2
      · rw [List.mem_singleton.mp hq]; exact fun z => (N _ (.tail _ (.head _))).2.1 z.symm
  refine ent_set ((D, tupO [.int n tc, .int k t, .int v tv] 0) :: (dx, tabD w t1 t2 t3 tc may de n) :: (x, instObj 458 dx) :: (new ++ (l ++ [(L, oL)]))) (ar_un (n := 12) hA.un (by decide)) F5 N5 (.tail _ (.tail _ (.head _))) e (fun y hy => ?_) ?_ hnew (fun p hp => ?_) (by omega) fun h6 oE' tk6 F6 N6 e6 => ?_
  · obtain ⟨c, v1, v2, a1, a2⟩ := mkN y hy
    exact ⟨c, v1, v2, .tail _ a1, .tail _ a2⟩
  · obtain ⟨c, v1, v2, a1, a2⟩ := mkK
    exact ⟨c, v1, v2, .tail _ a1, .tail _ a2⟩
  · refine ⟨by first | (refine sub_at ?_ hp; walk_at "SUB") | (simp only [List.mem_cons, List.mem_append] at hp ⊢; grind), ?_⟩
    refine mem_case hp ?_ fun p hp => ?_
    · exact Nat.ne_of_gt l5.2.1
    · refine mem_case hp ?_ fun p hp => ?_
      · exact dde
      · refine mem_case hp ?_ fun p hp => ?_
        · exact xe
        · exact offe p hp
  have dD : @Ne Nat D dx := Nat.ne_of_gt l5.1
  clear N5
  repeat' (first | walk1 | (dsimp only; walk1) | walk_at "THEN")
  rename_i h7 F7 N7
  have mL : (L, oL) ∈ new ++ (l ++ [(L, oL)]) := by simp
  exact ret a (.ref D) ((D, tupO [.int n tc, .int k t, .int v tv] 0) :: new) oE' t3 _ _ _ ⟨c0, u1, u2, .tail _ hm1, .tail _ hm2⟩ ⟨D, tc, t, tv, rfl, .head _⟩ (fun p hp => by
    refine mem_case hp ?_ fun p hp => ?_
    · exact ⟨_, _, rfl⟩
    · exact hnt p hp) e6 (fr_out F hL F7 (N7 _ (.tail _ (.tail _ (.tail _ (.tail _ mL))))).1) (put_fin F N hL hnt N7)
end
section
open PySem PySem.W PySem.Calls PyProof.Rows PySem.Spec
theorem tcw (C : Addr) (rest : List Value) (h : (Code.builtin "type.__call__" ⟨.ref C :: rest, []⟩).weight = 1 := by kernel_rfl) : (Code.builtin "type.__call__" ⟨.ref C :: rest, []⟩).weight ≤ 1 := by omega
theorem tcu (C : Addr) (rest : List Value) (h : (Code.builtin "type.__call__" ⟨.ref C :: rest, []⟩).cUnits = 1 := by kernel_rfl) : (Code.builtin "type.__call__" ⟨.ref C :: rest, []⟩).cUnits ≤ 16 := by omega
theorem Rm.made {A : Around} {n : Nat} (h : Rm A (n + 1)) (C : Addr) (rest : List Value) : Rm (A.under (.builtin "type.__call__" ⟨.ref C :: rest, []⟩)) n := h.under (tcw C rest) (tcu C rest)
theorem ent_nil {w : World} {o : Obj} (h : o.IsDictOf (PySem.strKind pw w) []) : EntO w [] o := by
  obtain ⟨es, ep, ex, hd, hk, hp, hn⟩ := h
  refine ⟨ex, es, ep, hd, ?_, List.nodup_nil⟩
  cases q : es.toList with
  | nil => rfl
  | cons e r => rw [q] at hp; cases hp
theorem table_fin {w : World} {G h1 h' : Heap} {L L' x dx may de : Addr} {m m' : Str → Option Value} {l : List (Addr × Obj)} {oE oL : Obj} {t1 t2 t3 tc : Tok} (F1 : Fr G L h1 m) (N1 : News G L h1 ((x, instObj 458 dx) :: (dx, emptyDict) :: l)) (hL : h1.get? L = some oL) (F' : Fr G L' h' m')
    (N3 : News G L' h' ((de, oE) :: (x, instObj 458 dx) :: (dx, tabD w t1 t2 t3 tc may de 0) :: (l ++ [(L, oL)]))) (hx : AllLt de (l ++ [(L, oL)])) : Fr G L h' m ∧ News G L h' ((dx, tabD w t1 t2 t3 tc may de 0) :: (de, oE) :: (x, instObj 458 dx) :: l) := by
  refine ⟨fr_out F1 hL F' (N3 (L, oL) (by first | walk_at "MEM" | simp)).1, fun p hp => ?_⟩
  refine mem_case hp ?_ fun p hp => ?_
  · exact ⟨(N3 _ (.tail _ (.tail _ (.head _)))).1, (N1 _ (.tail _ (.head _))).2⟩
  · refine mem_case hp ?_ fun p hp => ?_
    · exact ⟨(N3 _ (.head _)).1, Nat.ne_of_gt (allLt_mem hx (p := (L, oL)) (by first | walk_at "MEM" | simp)), (N3 _ (.head _)).2.2⟩
    · refine mem_case hp ?_ fun p hp => ?_
      · exact ⟨(N3 _ (.tail _ (.head _))).1, (N1 _ (.head _)).2⟩
      · exact ⟨(N3 p (by first | walk_at "MEM" | simp [hp])).1, (N1 p (.tail _ (.tail _ hp))).2⟩
set_option maxHeartbeats 1000000 in
theorem table_new {w : World} {mean : ExcName → Option Value} {mg mb : Str → Option Value} {G : Heap} {A : Around} {h : Heap} {g : Array GenState} {dr : Drawn} {tk : Nat} {os : OsState} {L may : Addr} {m : Str → Option Value} {l : List (Addr × Obj)} {Q E : Value → Shared → Prop}
    (hA : Rm A 6) (X : (KP w.params).In G) (T : Top topProg lsT mean mg mb G) (F : Fr G L h m) (N : News G L h l)
    (ret : ∀ x dx de oE t1 t2 t3 tc h' tk', (∀ p ∈ l, p.1 < dx) → @LT.lt Nat _ dx x → @LT.lt Nat _ x de → (de == sysModules) = false → EntO w [] oE → Fr G L h' m → News G L h' ((dx, tabD w t1 t2 t3 tc may de 0) :: (de, oE) :: (x, instObj 458 dx) :: l) → Q (.ref x) ⟨h', g, dr, tk', os⟩) :
    wpAny (model pw w) A (call (.ref 458) [.ref may]) Q E ⟨h, g, dr, tk, os⟩ := by
  refine wpAny_call (make_K (s := ⟨h, g, dr, tk, os⟩) (fI := 413) F N (X.keeps F.keep) (by k_is) (by k_is) (by k_is) fun x dx h1 F1 N1 l1 lx => ?_)
  have hA1 := hA.made 458 [.ref may]
  refine callE (s := ⟨h1, g, dr, tk, os⟩) (binds := [(Str.ofString "self", .ref x), (Str.ofString "may_compare", .ref may)]) X T F1 (Nat.lt_of_le_of_lt (Nat.le_add_right _ _) hA1.dp) (by k_is) (by k_is) (BindsTo.of_eq rfl) (locs rfl) rfl rfl rfl (by decide) fun L' h₁ oL E' hL eL F₁ k₁ => ?_
  have N₁ : News G L' h₁ ((x, instObj 458 dx) :: (dx, emptyDict) :: (l ++ [(L, oL)])) := news_in F1 N1 hL eL k₁
  have lx1 : @LT.lt Nat _ dx x := lx
  have od : ∀ p ∈ l ++ [(L, oL)], p.1 ≠ dx := fun p hp => by
    rcases List.mem_append.mp hp with hp | hp
    · exact Nat.ne_of_lt (l1 p hp)
    · rw [List.mem_singleton.mp hp]; exact fun q => (N1 _ (.tail _ (.head _))).2.1 q.symm
  try dsimp only
  repeat' (first | walk1 | (dsimp only; walk1) | walk_at "THEN")
  refine ⟨rfl, ?_⟩
  have hlt2 : ∀ {de : Addr}, (x < de ∧ dx < de ∧ AllLt de (l ++ [(L, oL)])) → @LT.lt Nat _ x de := fun h => h.1
  have hlt : ∀ {de : Addr}, (x < de ∧ dx < de ∧ AllLt de (l ++ [(L, oL)])) → AllLt de (l ++ [(L, oL)]) := fun h => h.2.2
  refine (fun (z : _ ∧ _) => ret x dx _ _ _ _ _ _ _ _ l1 lx ?_ ?_ ?_ z.1 z.2) (table_fin F1 N1 hL (by assumption) (by assumption) (hlt (by assumption)))
  · exact hlt2 (by assumption)
  · assumption
  · exact ent_nil (by assumption)
end
section
open PySem PySem.W PySem.Calls PyProof.Rows PySem.Spec
noncomputable abbrev comp2 (elt t0 e0 t1 e1 : Expr) (scope : Scope) (pos : Pos) : Expr := .ListComp elt [⟨t0, e0, [], 0⟩, ⟨t1, e1, [], 0⟩] scope pos
theorem turn_outer (elt t0 e0 t1 e1 : Expr) (scope : Scope) (pos : Pos) (it acc : Value) (env : Env) :
    compTurn (comp2 elt t0 e0 t1 e1 scope pos) 0 it acc env = (standAt e0.pos >>= fun _ => pyNext it >>= fun r => match r with
      | none => pure (.done .next)
      | some v => letOwnedTupleGo t0 it v >>= fun _ => assign t0 env v >>= fun _ =>
        eval e1 env >>= fun x => standAt e1.pos >>= fun _ => foldedSetIterable e1 env x >>= fun x => holding [x] (pyIter x) >>= fun it1 => runOwn (.compStart (comp2 elt t0 e0 t1 e1 scope pos) 1 it1 acc env) env >>= fun _ =>
          again (.compLoop (comp2 elt t0 e0 t1 e1 scope pos) 0 it acc env)) := by rfl
theorem turn_inner (elt t0 e0 t1 e1 : Expr) (scope : Scope) (pos : Pos) (it acc : Value) (env : Env) :
    compTurn (comp2 elt t0 e0 t1 e1 scope pos) 1 it acc env = (standAt e1.pos >>= fun _ => pyNext it >>= fun r => match r with
      | none => pure (.done .next)
      | some v => letOwnedTupleGo t1 it v >>= fun _ => assign t1 env v >>= fun _ =>
        (eval elt env >>= fun x => call (.builtin "list.append") [acc, x] >>= fun _ => pure ()) >>= fun _ =>
          again (.compLoop (comp2 elt t0 e0 t1 e1 scope pos) 1 it acc env)) := by rfl
section
variable {w : World} {A : Around} {E : Value → Shared → Prop} {s : Shared} {R : Result → Shared → Prop}
theorem loop_inner {elt t0 e0 t1 e1 : Expr} {scope : Scope} {pos : Pos} {it acc : Value} {env : Env} (I : Nat → Shared → Prop)
    (turn : ∀ n s, I n s → wpAny (model pw w) A (pyNext it) (fun r s₁ => match r with
      | none => R (.ok .next) s₁
      | some v => wpAny (model pw w) A (assign t1 env v) (fun _ s₂ => wpAny (model pw w) A (eval elt env) (fun x s₃ =>
          wpAny (model pw w) A (call (.builtin "list.append") [acc, x]) (fun _ s₄ => ∃ m, m < n ∧ I m s₄) (notedBy (model pw w) A env fun e s' => R (.error e) s') s₃)
          (notedBy (model pw w) A env fun e s' => R (.error e) s') s₂) (notedBy (model pw w) A env fun e s' => R (.error e) s') s₁) (notedBy (model pw w) A env fun e s' => R (.error e) s') s)
    (n : Nat) (h : I n s) (ht : ∀ v, letOwnedTupleGo t1 it v = pure () := by intro _; rfl) :
    codeAny (model pw w) A (.compLoop (comp2 elt t0 e0 t1 e1 scope pos) 1 it acc env) R s := by
  refine codeAny_loop rfl I (fun n s hI => ?_) n h
  show wpAny _ _ ((compTurn (comp2 elt t0 e0 t1 e1 scope pos) 1 it acc env).onRaise (fun x => do noteFrame x env; theTreesLotGoes x)) _ _ s
  refine wpAny_noted ?_
  rw [turn_inner]
  refine wpAny_bind (wpAny_standAt (wpAny_bind (wpAny_mono (turn n s hI) (fun r s₁ h₁ => ?_) fun _ _ h' => h')))
  cases r with
  | none => exact wpAny_pure h₁
  | some v =>
    refine wpAny_bind (wpAny_of_eq (ht v) ?_)
    exact wpAny_bind (wpAny_mono h₁ (fun _ s₂ h₂ => wpAny_bind (wpAny_bind (wpAny_mono h₂ (fun x s₃ h₃ => wpAny_bind (wpAny_mono h₃
      (fun _ s₄ h₄ => wpAny_pure (wpAny_pure ⟨rfl, h₄⟩)) fun _ _ h' => h')) fun _ _ h' => h'))) fun _ _ h' => h')
theorem start_any {elt t0 e0 t1 e1 : Expr} {scope : Scope} {pos : Pos} {it acc : Value} {env : Env} (d : Nat) (hd : d = 0 ∨ d = 1)
    (h0 : codeAny (model pw w) A (.compLoop (comp2 elt t0 e0 t1 e1 scope pos) d it acc env) R s)
    (h : wpAny (model pw w) A (pyIter it) (fun it' s' => codeAny (model pw w) A (.compLoop (comp2 elt t0 e0 t1 e1 scope pos) d it' acc env) R s') (notedBy (model pw w) A env fun x s' => R (.error x) s') s) :
    codeAny (model pw w) A (.compStart (comp2 elt t0 e0 t1 e1 scope pos) d it acc env) R s := by
  refine codeAny_of_tree ?_
  show wpAny _ _ ((compStart (comp2 elt t0 e0 t1 e1 scope pos) d it acc env).onRaise (fun x => do noteFrame x env; standAt theWindowsPlace)) _ _ s
  refine wpAny_notedAt ?_
  unfold compStart
  rcases hd with rfl | rfl
  · show wpAny _ _ (ask >>= _) _ _ s
    refine wpAny_bind (wpAny_askSetting (wpAny_ite ?_))
    split
    · first
        | exact wpAny_bind (wpAny_pure (wpAny_pure (And.intro rfl h0)))
        | exact wpAny_pure (And.intro rfl h0)
    · first
        | exact wpAny_bind (wpAny_rule (wpAny_bind (wpAny_standAt (wpAny_bind (wpAny_mono h (fun it' s' h' => wpAny_pure (And.intro rfl h')) fun _ _ x => x)))))
        | (refine wpAny_bind (wpAny_rule ?_); show wpAny _ _ (standAt e0.pos >>= _) _ _ s; exact wpAny_bind (wpAny_standAt (wpAny_bind (wpAny_mono h (fun it' s' h' => wpAny_pure (And.intro rfl h')) fun _ _ x => x))))
  · show wpAny _ _ (ask >>= _) _ _ s
    refine wpAny_bind (wpAny_askSetting (wpAny_ite ?_))
    split
    · first
        | exact wpAny_bind (wpAny_pure (wpAny_pure (And.intro rfl h0)))
        | exact wpAny_pure (And.intro rfl h0)
    · first
        | exact wpAny_bind (wpAny_rule (wpAny_bind (wpAny_standAt (wpAny_bind (wpAny_mono h (fun it' s' h' => wpAny_pure (And.intro rfl h')) fun _ _ x => x)))))
        | (refine wpAny_bind (wpAny_rule ?_); show wpAny _ _ (standAt e1.pos >>= _) _ _ s; exact wpAny_bind (wpAny_standAt (wpAny_bind (wpAny_mono h (fun it' s' h' => wpAny_pure (And.intro rfl h')) fun _ _ x => x))))
theorem loop_outer {elt t0 e0 t1 e1 : Expr} {scope : Scope} {pos : Pos} {it acc : Value} {env : Env} (I : Nat → Shared → Prop)
    (turn : ∀ n s, I n s → wpAny (model pw w) A (pyNext it) (fun r s₁ => match r with
      | none => R (.ok .next) s₁
      | some v => wpAny (model pw w) A (letOwnedTupleGo t0 it v) (fun _ s₁' => wpAny (model pw w) A (assign t0 env v) (fun _ s₂ => wpAny (model pw w) A (eval e1 env) (fun x s₃ => wpAny (model pw w) A (pyIter x) (fun it1 s₄ =>
          codeAny (model pw w) A (.compStart (comp2 elt t0 e0 t1 e1 scope pos) 1 it1 acc env) (fun r s₅ => match r with
            | .ok _ => ∃ m, m < n ∧ I m s₅
            | .error e => cameBackBy (model pw w) A env (notedBy (model pw w) A env fun e s' => R (.error e) s') e s₅) s₄)
          (notedBy (model pw w) A env fun e s' => R (.error e) s') s₃) (notedBy (model pw w) A env fun e s' => R (.error e) s') s₂) (notedBy (model pw w) A env fun e s' => R (.error e) s') s₁') (notedBy (model pw w) A env fun e s' => R (.error e) s') s₁)
        (notedBy (model pw w) A env fun e s' => R (.error e) s') s)
    (n : Nat) (h : I n s) (hs : ∀ x, foldedSetIterable e1 env x = pure x := by intro _; rfl) :
    codeAny (model pw w) A (.compLoop (comp2 elt t0 e0 t1 e1 scope pos) 0 it acc env) R s := by
  refine codeAny_loop rfl I (fun n s hI => ?_) n h
  show wpAny _ _ ((compTurn (comp2 elt t0 e0 t1 e1 scope pos) 0 it acc env).onRaise (fun x => do noteFrame x env; theTreesLotGoes x)) _ _ s
  refine wpAny_noted ?_
  rw [turn_outer]
  refine wpAny_bind (wpAny_standAt (wpAny_bind (wpAny_mono (turn n s hI) (fun r s₁ h₁ => ?_) fun _ _ h' => h')))
  cases r with
  | none => exact wpAny_pure h₁
  | some v =>
    refine wpAny_bind (wpAny_mono h₁ (fun _ s₁' h₁' => wpAny_bind (wpAny_mono h₁' (fun _ s₂ h₂ => ?_) fun _ _ h' => h')) fun _ _ h' => h')
    refine wpAny_bind (wpAny_mono h₂ (fun x s₃ h₃ => ?_) fun _ _ h' => h')
    refine wpAny_bind (wpAny_standAt ?_)
    refine wpAny_bind (wpAny_of_eq (hs x) ?_)
    refine wpAny_bind (wpAny_holding (wpAny_mono h₃ (fun it1 s₄ h₄ => ?_) fun _ _ h' => h'))
    refine wpAny_bind (wpAny_runOwn (codeAny_mono h₄ fun r s₅ z => ?_))
    cases r with
    | ok f => exact wpAny_pure ⟨rfl, z⟩
    | error e => exact z
end
end
section
open PySem PySem.W PySem.Calls PyProof.Rows PySem.Spec
/-- a source of items: a list, or an enumerate of a list -/
structure Src (w : World) (A : Around) (it : Addr) (t0 : Expr) (fp wr : List Addr) (n : Nat) (V : Nat → Value → List (Addr × Obj) → Prop) (St : Nat → Heap → Prop) : Prop where
  sub : ∀ b ∈ wr, b ∈ fp
  frame : ∀ i h h', St i h → (∀ b ∈ fp, ∀ o, h.get? b = some o → h'.get? b = some o) → St i h'
  has : ∀ i h, St i h → ∀ b ∈ fp, ∃ o, h.get? b = some o
  item : ∀ i (s : Shared) (Q : Value → Shared → Prop) (E : Value → Shared → Prop), i < n → St i s.heap →
    (∀ v h' tk new, V i v new → St (i + 1) h' → (∀ p ∈ new, h'.get? p.1 = some p.2 ∧ s.heap.objs.size ≤ p.1) → (∀ b o, b ∉ wr → s.heap.get? b = some o → h'.get? b = some o) → Q v { s with heap := h', toks := tk }) →
    wpAny (model pw w) A (pyNext (.ref it)) (fun r s₁ => match r with
      | none => False
      | some v => wpAny (model pw w) A (letOwnedTupleGo t0 (.ref it) v) (fun _ s₂ => Q v s₂) E s₁) E s
  done : ∀ (s : Shared) (Q : Shared → Prop) (E : Value → Shared → Prop), St n s.heap →
    (∀ h' tk, (∀ b o, b ∉ wr → s.heap.get? b = some o → h'.get? b = some o) → Q { s with heap := h', toks := tk }) →
    wpAny (model pw w) A (pyNext (.ref it)) (fun r s₁ => match r with
      | none => Q s₁
      | some _ => False) E s
  self : ∀ i (s : Shared) (Q : Value → Shared → Prop) (E : Value → Shared → Prop), St i s.heap → Q (.ref it) s → wpAny (model pw w) A (pyIter (.ref it)) Q E s
theorem Src.list {w : World} {A : Around} (hh : A.handled = none) (I ax : Addr) (hne : ax ≠ I) (items : Array Value) {x : Str} {p : Pos} :
    Src w A I (.Name x p) [I, ax] [I] items.size (fun i v new => items[i]? = some v ∧ new = []) (fun i h => h.IsListIter I ax i ∧ h.IsList ax items) where
  sub := fun b hb => by simp at hb; simp [hb]
  frame := fun _ _ _ st hk => ⟨st.1.at fun o e => hk I (by simp) o e, st.2.at fun o e => hk ax (by simp) o e⟩
  has := fun i h st b hb => by
    rcases List.mem_cons.mp hb with rfl | hb
    · obtain ⟨o, e, _⟩ := st.1; exact ⟨o, e⟩
    · rw [List.mem_singleton.mp hb]; obtain ⟨o, e, _⟩ := st.2; exact ⟨o, e⟩
  item := fun i s Q E hi st hQ => by
    refine (Walks.list (prog := pw) (w := w) hh I ax hne items).item i s _ E hi st fun v h' tk hv st' hk => ?_
    show wpAny _ _ (letOwnedTupleGo (.Name x p) (.ref I) v) _ _ _
    have e : letOwnedTupleGo (.Name x p) (.ref I) v = pure () := rfl
    rw [e]
    exact wpAny_pure (hQ v h' tk [] ⟨hv, rfl⟩ st' (fun p hp => nomatch hp) hk)
  done := fun s Q E st hQ => (Walks.list (prog := pw) (w := w) hh I ax hne items).done s _ E st fun h' tk hk => hQ h' tk hk
  self := fun i s Q E st hQ => (Walks.list (prog := pw) (w := w) hh I ax hne items).self i s Q E st hQ
theorem Src.enum {w : World} {A : Around} (hh : A.handled = none) (e it l : Addr) (hei : e ≠ it) (hle : l ≠ e) (hli : l ≠ it) (items : Array Value) {elts : List Expr} {k : Nat} {p : Pos} :
    Src w A e (.Tuple elts k p) [e, it, l] [e, it] items.size (fun i v new => ∃ T tk x, v = .ref T ∧ items[i]? = some x ∧ new = [(T, tupO [.int i tk, x] 0)]) (fun i h => (∃ old, IsEnum h e it i old) ∧ h.IsListIter it l i ∧ h.IsList l items) where
  sub := fun b hb => by simp at hb ⊢; rcases hb with h | h <;> simp [h]
  frame := fun i h h' st hk => by
    obtain ⟨⟨old, he⟩, a, b⟩ := st
    exact ⟨⟨old, hk e (by simp) _ he⟩, a.at fun o z => hk it (by simp) o z, b.at fun o z => hk l (by simp) o z⟩
  has := fun i h st b hb => by
    obtain ⟨⟨old, he⟩, ⟨o1, e1, _⟩, ⟨o2, e2, _⟩⟩ := st
    simp only [List.mem_cons, List.not_mem_nil, or_false] at hb
    rcases hb with rfl | rfl | rfl
    · exact ⟨_, he⟩
    · exact ⟨_, e1⟩
    · exact ⟨_, e2⟩
  item := fun i s Q E hi st hQ => by
    obtain ⟨⟨old, he⟩, hit, hl⟩ := st
    have hlt : e < s.heap.objs.size := Heap.lt_size he
    refine wpAny_pyNext_enum_item he hit hl (x := items[i]) (by simp [hi]) hei fun h₁ heo hit₁ ht₁ hz₁ hk₁ => ?_
    refine wpAny_letOwnedTupleGo_enum heo fun h₂ he₂ hs₂ => ?_
    have hs : Heap.SameBut e h₁ h₂ := hs₂
    refine hQ (.ref s.heap.objs.size) h₂ _ [(s.heap.objs.size, tupO [.int i s.toks, items[i]] 0)] ⟨_, _, _, rfl, by simp [hi], rfl⟩ ⟨⟨_, he₂⟩, hit₁.at fun o z => (hs.2 it (Ne.symm hei)).trans z, hl.at fun o z => (hs.2 l hle).trans (hk₁ l o hle hli z)⟩ (fun p hp => ?_) (fun b o hb z => ?_)
    · rw [List.mem_singleton.mp hp]
      exact ⟨(hs.2 _ (Nat.ne_of_gt hlt)).trans ht₁, Nat.le_refl _⟩
    · simp only [List.mem_cons, List.not_mem_nil, or_false, not_or] at hb
      exact (hs.2 b hb.1).trans (hk₁ b o hb.1 hb.2 z)
  done := fun s Q E st hQ => by
    obtain ⟨⟨old, he⟩, hit, hl⟩ := st
    exact wpAny_pyNext_enum_end hh he hit hl (by simp) fun h' hk => hQ h' s.toks fun b o hb z => hk b o (fun q => hb (by simp [q])) z
  self := fun i s Q E st hQ => by
    obtain ⟨⟨old, he⟩, _, _⟩ := st
    exact wpAny_pyIter_enum he hQ
noncomputable def ownOf (h : Heap) (fp : List Addr) : List (Addr × Obj) := fp.filterMap fun b => (h.get? b).map fun o => (b, o)
theorem ownOf_get {h : Heap} {fp : List Addr} {p : Addr × Obj} (hp : p ∈ ownOf h fp) : p.1 ∈ fp ∧ h.get? p.1 = some p.2 := by
  obtain ⟨b, hb, e⟩ := List.mem_filterMap.mp hp
  obtain ⟨o, e1, rfl⟩ := Option.map_eq_some_iff.mp e
  exact ⟨hb, e1⟩
theorem ownOf_has {h : Heap} {fp : List Addr} {b : Addr} {o : Obj} (hb : b ∈ fp) (e : h.get? b = some o) : (b, o) ∈ ownOf h fp := List.mem_filterMap.mpr ⟨b, hb, by rw [e]; rfl⟩
end
section
open PySem PySem.W PySem.Calls PyProof.Rows PySem.Spec
inductive IvC1 (items ys : List Value) (s : Shared) (St : Nat → Heap → Prop) (G : Heap) (L : Addr) (m : Str → Option Value) (C D : Addr) (l : List (Addr × Obj)) (k : Nat) (s' : Shared) : Prop
  | mk (j : Nat) (h' : Heap) (tk : Nat) (mC' : Str → Option Value) (hk : k = items.length + 1 - j) (hj : j ≤ items.length) (es : s' = { s with heap := h', toks := tk }) (st : St j h') (F : Fr G L h' m) (hn : h'.Ns C mC') (N : News G L h' ((D, LCg.lst (ys ++ items.take j)) :: l))
theorem inner_all {w : World} {A : Around} {G : Heap} {L C D it1 ax : Addr} {m mC : Str → Option Value} {env : Env} {scope : Scope} {cl : List (Str × Addr)} {y : Str} {ye yp : Pos} {t0 e0 e1 : Expr} {pos : Pos} {items ys : List Value} {St : Nat → Heap → Prop} {l : List (Addr × Obj)} {R : Result → Shared → Prop} {s : Shared}
    (hk : scope.kind = .function) (hy : scope.names.lookup y = some .local) (hyd : (y == ("__debug__" : Str)) = false) (W : Walks pw w A it1 [it1, ax] [it1] items.length (fun i v => items[i]? = some v) St) (hst : St 0 s.heap)
    (F : Fr G L s.heap m) (hn : s.heap.Ns C mC) (N : News G L s.heap ((D, LCg.lst ys) :: l)) (offI : ∀ p ∈ l, p.1 ≠ it1) (offC : ∀ p ∈ l, p.1 ≠ C) (offD : ∀ p ∈ l, p.1 ≠ D) (itC : it1 ≠ C) (itD : it1 ≠ D) (axC : ax ≠ C) (axD : ax ≠ D) (CD : C ≠ D) (itL : it1 ≠ L) (CL : C ≠ L)
    (Git : G.get? it1 = none) (GC : G.get? C = none) (hz : ys.length + items.length ≤ 1000)
    (fin : ∀ h' tk mC', Fr G L h' m → h'.Ns C mC' → News G L h' ((D, LCg.lst (ys ++ items)) :: l) → R (.ok .next) { s with heap := h', toks := tk }) :
    codeAny (model pw w) A (.compLoop (comp2 (.Name y ye) t0 e0 (.Name y yp) e1 scope pos) 1 (.ref it1) (.ref D) (compEnvC scope cl C env)) R s := by
  refine loop_inner (IvC1 items ys s St G L m C D l) (fun k s' hI => ?_) (items.length + 1)
    ⟨0, s.heap, s.toks, mC, rfl, Nat.zero_le _, rfl, hst, F, hn, by simpa using N⟩
  obtain ⟨j, h', tk, mC', rfl, hj, rfl, hst', F', hn', N'⟩ := hI
  by_cases hlt : j < items.length
  · refine W.item j _ _ _ hlt hst' fun v h₂ tk₂ hv st₂ hk₂ => ?_
    have nI : ∀ b, b ≠ it1 → b ∉ [it1] := fun b hb hm => hb (List.mem_singleton.mp hm)
    have F₂ : Fr G L h₂ m := fr_keep F' (fun o => hk₂ _ o (nI _ (Ne.symm itL))) fun b o e => hk₂ b o (nI _ fun q => by rw [q, Git] at e; cases e) (F'.keep b o e)
    have N₂ : News G L h₂ ((D, LCg.lst (ys ++ items.take j)) :: l) := fun p hp => ⟨hk₂ _ _ (nI _ (by
      refine mem_case hp ?_ fun p hp => ?_
      · exact Ne.symm itD
      · exact offI p hp)) (N' p hp).1, (N' p hp).2⟩
    have hn₂ : h₂.Ns C mC' := hn'.at' fun o e => hk₂ _ o (nI _ (Ne.symm itC)) e
    refine wpAny_assign_Name (wpAny_storeName_local (lookup_relabel_local hy) hn₂ (fun h₃ hn₃ hs₃ => ?_) (by simp [compEnvC, relabel, hk]))
    have hs₃' : Heap.SameBut C h₂ h₃ := hs₃
    have hn₃' : h₃.Ns C _ := hn₃
    have F₃ : Fr G L h₃ m := F₂.change hs₃' CL GC
    have N₃ : News G L h₃ ((D, LCg.lst (ys ++ items.take j)) :: l) := fun p hp => ⟨(hs₃'.2 _ (by
      refine mem_case hp ?_ fun p hp => ?_
      · exact Ne.symm CD
      · exact offC p hp)).trans (N₂ p hp).1, (N₂ p hp).2⟩
    have st₃ : St (j + 1) h₃ := W.frame _ _ _ st₂ fun b hb o e => (hs₃'.2 b (by
      rcases List.mem_cons.mp hb with rfl | hb
      · exact itC
      · rw [List.mem_singleton.mp hb]; exact axC)).trans e
    refine wpAny_Name (wpAny_loadName_local (m := fun z => if z = y then some v else mC' z) (v := v) (by simp [compEnvC, relabel, hk]) (lookup_relabel_local hy) hn₃ (by simp) ?_) hyd
    have hlen : (items.take j).length = j := by rw [List.length_take]; omega
    refine append_at (hsz := by rw [List.size_toArray, List.length_append, hlen, sizeLine_eq]; omega) (N₃ _ (.head _)).1 fun h₄ hs₄ hD₄ => ?_
    refine ⟨items.length + 1 - (j + 1), by omega, j + 1, h₄, _, _, rfl, hlt, rfl, W.frame _ _ _ st₃ fun b hb o e => (hs₄.2 b (by
      rcases List.mem_cons.mp hb with rfl | hb
      · exact itD
      · rw [List.mem_singleton.mp hb]; exact axD)).trans e, F₃.change hs₄ (N₃ _ (.head _)).2.1 (N₃ _ (.head _)).2.2, hn₃'.sameBut hs₄ CD, fun p hp => ?_⟩
    refine mem_case hp ?_ fun p hp => ?_
    · refine ⟨hD₄.trans ?_, (N₃ _ (.head _)).2⟩
      have e1 : items.take (j + 1) = items.take j ++ [v] := by rw [List.take_add_one, hv]; rfl
      rw [e1, ← List.append_assoc]
      exact congrArg some (LCg.lst_snoc _ v)
    · exact ⟨(hs₄.2 _ (offD p hp)).trans (N₃ p (.tail _ hp)).1, (N₃ p (.tail _ hp)).2⟩
  · obtain rfl : j = items.length := by omega
    refine W.done _ _ _ hst' fun h₂ tk₂ hk₂ => ?_
    have nI : ∀ b, b ≠ it1 → b ∉ [it1] := fun b hb hm => hb (List.mem_singleton.mp hm)
    rw [List.take_length] at N'
    exact fin h₂ tk₂ mC' (fr_keep F' (fun o => hk₂ _ o (nI _ (Ne.symm itL))) fun b o e => hk₂ b o (nI _ fun q => by rw [q, Git] at e; cases e) (F'.keep b o e)) (hn'.at' fun o e => hk₂ _ o (nI _ (Ne.symm itC)) e) fun p hp => ⟨hk₂ _ _ (nI _ (by
      refine mem_case hp ?_ fun p hp => ?_
      · exact Ne.symm itD
      · exact offI p hp)) (N' p hp).1, (N' p hp).2⟩
inductive IvComp (G : Heap) (L : Addr) (m : Str → Option Value) (J : Nat → List Value → List (Addr × Obj) → Prop) (i : Nat) (ys : List Value) (sB : Shared) (C : Addr) (oC : Obj) (D : Addr) (own : List (Addr × Obj)) (wr : List Addr) (x : Value) (s₃ : Shared) : Prop
  | mk (ax : Addr) (isT : Bool) (items : List Value) (k : Nat) (l' : List (Addr × Obj)) (h' : Heap) (tk' : Nat) (ev : x = .ref ax) (es : s₃ = { sB with heap := h', toks := tk' }) (F : Fr G L h' m) (N : News G L h' ((C, oC) :: (D, LCg.lst ys) :: (own ++ l'))) (ht : (ax, (if isT = true then tupO items k else PySem.W.listOf items.toArray k)) ∈ l') (off : ∀ p ∈ l', p.1 ∉ wr ∧ p.1 ≠ C ∧ p.1 ≠ D) (hl : ys.length + items.length ≤ 1000) (hJ : J (i + 1) (ys ++ items) l')
inductive IvC2 (n : Nat) (sB : Shared) (J : Nat → List Value → List (Addr × Obj) → Prop) (G : Heap) (L : Addr) (m : Str → Option Value) (C D : Addr) (St : Nat → Heap → Prop) (wr : List Addr) (k : Nat) (s : Shared) : Prop
  | mk (i : Nat) (ys : List Value) (l : List (Addr × Obj)) (h : Heap) (tk : Nat) (mC : Str → Option Value) (hk : k + i = n) (es : s = { sB with heap := h, toks := tk }) (p : J i ys l) (F : Fr G L h m) (hn : h.Ns C mC) (N : News G L h ((D, LCg.lst ys) :: l)) (st : St i h) (off : ∀ p ∈ l, p.1 ∉ wr ∧ p.1 ≠ C ∧ p.1 ≠ D)
theorem comp2_block {w : World} {A : Around} {E : Value → Shared → Prop} {G : Heap} {L I : Addr} {m : Str → Option Value} {env : Env} {scope : Scope} {cl : List (Str × Addr)} {y : Str} {ye yp : Pos} {t0 e0 e1 : Expr} {pos : Pos} {fp wr : List Addr} {n : Nat} {V : Nat → Value → List (Addr × Obj) → Prop} {St : Nat → Heap → Prop} {l : List (Addr × Obj)} {RR : Value → Addr → Result → Shared → Prop} {sB : Shared}
    (hh : A.handled = none) (hs1 : ∀ C x, foldedSetIterable e1 (compEnvC scope cl C env) x = pure x) (S : Src w A I t0 fp wr n V St) (hcell : ∀ z ∈ scope.names, z.2 ≠ .cell) (hk : scope.kind = .function) (hy : scope.names.lookup y = some .local) (hyd : (y == ("__debug__" : Str)) = false) (hst : St 0 sB.heap) (hfp : ∀ b ∈ fp, b ≠ L ∧ G.get? b = none ∧ b < sB.heap.objs.size)
    (F : Fr G L sB.heap m) (N : News G L sB.heap l) (off : ∀ p ∈ l, p.1 ∉ wr) (Bd : Nat → Value → List (Addr × Obj) → (Str → Option Value) → Prop)
    (asg : ∀ i v new C s mC (Q : Unit → Shared → Prop) (E : Value → Shared → Prop), V i v new → (∀ p ∈ new, s.heap.get? p.1 = some p.2) → s.heap.Ns C mC → (∀ h' tk m₂, Bd i v new m₂ → h'.Ns C m₂ → (∀ b o, b ≠ C → s.heap.get? b = some o → h'.get? b = some o) → Q () { s with heap := h', toks := tk }) →
      wpAny (model pw w) A (assign t0 (compEnvC scope cl C env) v) Q E s)
    (J : Nat → List Value → List (Addr × Obj) → Prop) (h0 : J 0 [] l)
    (turn : ∀ i ys l own C oC D m₂ h tk v new E', i < n → V i v new → Bd i v new m₂ → LCg.NsObj oC m₂ → J i ys l → Fr G L h m → News G L h ((C, oC) :: (D, LCg.lst ys) :: (new ++ (own ++ l))) → (∀ p ∈ new ++ (own ++ l), p.1 ≠ C ∧ p.1 ≠ D) → C ≠ D → (∀ p ∈ own, p.1 ∈ fp) → (∀ b ∈ fp, ∃ o, (b, o) ∈ own) → (∀ p ∈ l, p.1 ∉ wr) → (∀ p ∈ new, p.1 ∉ fp) →
      wpAny (model pw w) A (eval e1 (compEnvC scope cl C env)) (fun x s₃ => Halt (IvComp G L m J i ys sB C oC D own wr x s₃)) E' { sB with heap := h, toks := tk })
    (hRR : ∀ D C h tk m' ys l', J n ys l' → Fr G L h m → News G L h ((D, LCg.lst ys) :: l') → h.Ns C m' → G.get? C = none → C ≠ L → C ≠ D → (∀ p ∈ l', p.1 ≠ C) → RR (.ref D) C (.ok .next) { sB with heap := h, toks := tk }) :
    wpAny (model pw w) A (newList []) (fun acc s₃ => wpAny (model pw w) A (newFunctionEnv scope env.globals cl [] env.qual none .none (some env)) (fun cenv s₄ =>
      codeAny (model pw w) A (.compStart (comp2 (.Name y ye) t0 e0 (.Name y yp) e1 scope pos) 0 (.ref I) acc { cenv with scope := relabel scope env }) (RR acc cenv.locals) s₄) E s₃) E sB := by
  refine wpAny_newObj_type (wpAny_newFunctionEnv hcell (by intro y hy; simp at hy) (fun h₁ hns₁ hsb₁ => ?_) hk)
  dsimp only at hns₁ hsb₁ ⊢
  generalize hH2 : sB.heap.push { cls := .type "list", dict := none, data := .seq ([] : List Value).toArray } = H2 at hns₁ hsb₁ ⊢
  have hC : H2.objs.size = sB.heap.objs.size + 1 := by rw [← hH2, Heap.size_push]
  have hDC : H2.objs.size ≠ sB.heap.objs.size := by rw [hC]; exact Nat.succ_ne_self _
  have below : ∀ b, b < sB.heap.objs.size → b ≠ H2.objs.size ∧ b ≠ sB.heap.objs.size := fun b hb => ⟨by rw [hC]; exact Nat.ne_of_lt (Nat.lt_succ_of_lt hb), Nat.ne_of_lt hb⟩
  have old : ∀ b o, sB.heap.get? b = some o → h₁.get? b = some o := fun b o e => hsb₁.extBut b o (below b (Heap.lt_size e)).1 (Heap.get?_push_of_some _ (hH2 ▸ Heap.get?_push_of_some _ e))
  have hacc : h₁.get? sB.heap.objs.size = some (LCg.lst []) := hsb₁.extBut _ _ (Ne.symm hDC) (Heap.get?_push_of_some _ (hH2 ▸ Heap.get?_push_size _ rfl))
  have fresh₀ : ∀ a, sB.heap.objs.size ≤ a → G.get? a = none := fun a ha => Heap.get?_none_of_le (Nat.le_trans F.above (Nat.le_trans (Nat.le_of_lt F.ns.lt) ha))
  have hC₀ : G.get? H2.objs.size = none := fresh₀ _ (by rw [hC]; exact Nat.le_succ _)
  have hD₀ : G.get? sB.heap.objs.size = none := fresh₀ _ (Nat.le_refl _)
  have hLlt : L < sB.heap.objs.size := F.ns.lt
  have hDL : sB.heap.objs.size ≠ L := Ne.symm (below L hLlt).2
  have hCL : H2.objs.size ≠ L := Ne.symm (below L hLlt).1
  have hCf : H2.objs.size ∉ fp := fun q => (below _ (hfp _ q).2.2).1 rfl
  have hDf : sB.heap.objs.size ∉ fp := fun q => (below _ (hfp _ q).2.2).2 rfl
  have hst₁ : St 0 h₁ := S.frame _ _ _ hst fun b _ o e => old b o e
  generalize hCe : H2.objs.size = C at *
  generalize hDe : sB.heap.objs.size = D at *
  have loop : ∀ tk₀, codeAny (model pw w) A (.compLoop (comp2 (.Name y ye) t0 e0 (.Name y yp) e1 scope pos) 0 (.ref I) (.ref D) (compEnvC scope cl C env)) (RR (.ref D) C) { sB with heap := h₁, toks := tk₀ } := by
    intro tk₀
    refine loop_outer (hs := hs1 C) (IvC2 n sB J G L m C D St wr) (fun k s hI => ?_) n
      ⟨0, [], l, h₁, tk₀, _, rfl, rfl, h0, F.keeps old, hns₁, fun p hp => ?_, hst₁, fun p hp => ⟨off p hp, ?_⟩⟩
    · obtain ⟨i, ys, l, h, tk, mC, hki, rfl, hJ, F, hn, N, hst, offl⟩ := hI
      have Lw : L ∉ wr := fun q => (hfp L (S.sub L q)).1 rfl
      have Cw : C ∉ wr := fun q => hCf (S.sub C q)
      have Dw : D ∉ wr := fun q => hDf (S.sub D q)
      by_cases hi : i < n
      · refine wpAny_mono (S.item i { sB with heap := h, toks := tk } (fun v s₂' => wpAny (model pw w) A (assign t0 (compEnvC scope cl C env) v) (fun _ s₂ => wpAny (model pw w) A (eval e1 (compEnvC scope cl C env)) (fun x s₃ => wpAny (model pw w) A (pyIter x) (fun it1 s₄ =>
          codeAny (model pw w) A (.compStart (comp2 (.Name y ye) t0 e0 (.Name y yp) e1 scope pos) 1 it1 (.ref D) (compEnvC scope cl C env)) (fun r s₅ => match r with
            | .ok _ => ∃ m_1, m_1 < k ∧ IvC2 n sB J G L m C D St wr m_1 s₅
            | .error e => cameBackBy (model pw w) A (compEnvC scope cl C env) (notedBy (model pw w) A (compEnvC scope cl C env) fun e s' => RR (.ref D) C (.error e) s') e s₅) s₄)
          (notedBy (model pw w) A (compEnvC scope cl C env) fun e s' => RR (.ref D) C (.error e) s') s₃) (notedBy (model pw w) A (compEnvC scope cl C env) fun e s' => RR (.ref D) C (.error e) s') s₂) (notedBy (model pw w) A (compEnvC scope cl C env) fun e s' => RR (.ref D) C (.error e) s') s₂') _ hi hst fun v h' tk' new hV hst' hnew hkeep => ?_) (fun r s₁ z => ?_) fun _ _ e => e
        · have F' : Fr G L h' m := fr_keep F (fun o => hkeep _ o Lw) fun b o e => hkeep b o (fun q => by rw [(hfp b (S.sub b q)).2.1] at e; cases e) (F.keep b o e)
          have Lh : L < h.objs.size := F.ns.lt
          have Ch : C < h.objs.size := hn.lt
          have Dh : D < h.objs.size := Heap.lt_size (N _ (.head _)).1
          refine asg i v new C _ mC _ _ hV (fun p hp => (hnew p hp).1) (hn.at' fun o e => hkeep _ o Cw e) fun h2 tk2 m₂ hB hn2 hk2 => ?_
          obtain ⟨oC, eC, hoC⟩ := LCg.ns_obj hn2
          have nC : ∀ p ∈ new, p.1 ≠ C := fun p hp => Nat.ne_of_gt (Nat.lt_of_lt_of_le Ch (hnew p hp).2)
          have nD : ∀ p ∈ new, p.1 ≠ D := fun p hp => Nat.ne_of_gt (Nat.lt_of_lt_of_le Dh (hnew p hp).2)
          have F2 : Fr G L h2 m := fr_keep F' (fun o => hk2 _ o (Ne.symm hCL)) fun b o e => hk2 b o (fun q => by rw [q, hC₀] at e; cases e) (F'.keep b o e)
          have hst2 : St (i + 1) h2 := S.frame _ _ _ hst' fun b hb o e => hk2 b o (fun q => hCf (q ▸ hb)) e
          have ownC : ∀ p ∈ ownOf h2 fp, p.1 ≠ C ∧ p.1 ≠ D := fun p hp => ⟨fun q => hCf (q ▸ (ownOf_get hp).1), fun q => hDf (q ▸ (ownOf_get hp).1)⟩
          have N2 : News G L h2 ((C, oC) :: (D, LCg.lst ys) :: (new ++ (ownOf h2 fp ++ l))) := fun p hp => by
            refine mem_case hp ?_ fun p hp => ?_
            · exact ⟨eC, hCL, hC₀⟩
            · refine mem_case hp ?_ fun p hp => ?_
              · exact ⟨hk2 _ _ (Ne.symm hDC) (hkeep _ _ Dw (N _ (.head _)).1), (N _ (.head _)).2⟩
              · rcases List.mem_append.mp hp with hp | hp
                · have z := hnew p hp
                  exact ⟨hk2 _ _ (nC p hp) z.1, Nat.ne_of_gt (Nat.lt_of_lt_of_le Lh z.2), Heap.get?_none_of_le (Nat.le_trans F.above (Nat.le_of_lt (Nat.lt_of_lt_of_le Lh z.2)))⟩
                · rcases List.mem_append.mp hp with hp | hp
                  · exact ⟨(ownOf_get hp).2, (hfp _ (ownOf_get hp).1).1, (hfp _ (ownOf_get hp).1).2.1⟩
                  · exact ⟨hk2 _ _ (offl p hp).2.1 (hkeep _ _ (offl p hp).1 (N p (.tail _ hp)).1), (N p (.tail _ hp)).2⟩
          refine wpAny_mono (turn i ys l (ownOf h2 fp) C oC D m₂ h2 tk2 v new _ hi hV hB hoC hJ F2 N2 (fun p hp => ?_) hDC (fun p hp => (ownOf_get hp).1) (fun b hb => ?_) (fun p hp => (offl p hp).1) (fun p hp q => ?_)) (fun x s₃ z => ?_) fun _ _ e => e
          · rcases List.mem_append.mp hp with hp | hp
            · exact ⟨nC p hp, nD p hp⟩
            · rcases List.mem_append.mp hp with hp | hp
              · exact ownC p hp
              · exact (offl p hp).2
          · obtain ⟨o, e⟩ := S.has _ _ hst2 b hb
            exact ⟨o, ownOf_has hb e⟩
          · obtain ⟨o, e⟩ := S.has i h hst _ q
            exact Nat.lt_irrefl _ (Nat.lt_of_lt_of_le (Heap.lt_size e) (hnew p hp).2)
          · obtain ⟨ax, isT, items, kk, l', h3, tk3, rfl, rfl, F3, N3, hax, offl', hz, hJ'⟩ := halt z
            have hst3 : St (i + 1) h3 := S.frame _ _ _ hst2 fun b hb o e => (N3 _ (.tail _ (.tail _ (List.mem_append_left _ (ownOf_has hb e))))).1
            have gax := (N3 _ (.tail _ (.tail _ (List.mem_append_right _ hax)))).1
            have hns3 : h3.Ns C m₂ := hoC.ns (N3 _ (.head _)).1
            have sub3 : ∀ p ∈ (D, LCg.lst ys) :: l', p ∈ (C, oC) :: (D, LCg.lst ys) :: (ownOf h2 fp ++ l') := fun p hp => by
              refine mem_case hp ?_ fun p hp => ?_
              · exact .tail _ (.head _)
              · exact .tail _ (.tail _ (List.mem_append_right _ hp))
            have axC := (offl' _ hax).2.1
            have axD := (offl' _ hax).2.2
            have step : ∀ (oI : Obj) (Si : Nat → Heap → Prop), oI.isFreed = false → Walks pw w A h3.objs.size [h3.objs.size, ax] [h3.objs.size] items.length (fun i v => items[i]? = some v) Si → Si 0 (h3.push oI) →
                codeAny (model pw w) A (.compStart (comp2 (.Name y ye) t0 e0 (.Name y yp) e1 scope pos) 1 (.ref h3.objs.size) (.ref D) (compEnvC scope cl C env)) (fun r s₅ => match r with
                  | .ok _ => ∃ m_1, m_1 < k ∧ IvC2 n sB J G L m C D St wr m_1 s₅
                  | .error e => cameBackBy (model pw w) A (compEnvC scope cl C env) (notedBy (model pw w) A (compEnvC scope cl C env) fun e s' => RR (.ref D) C (.error e) s') e s₅) { sB with heap := h3.push oI, toks := tk3 } := by
              intro oI Si hfree W st0
              have up : ∀ b o, h3.get? b = some o → (h3.push oI).get? b = some o := fun b o e => Heap.get?_push_of_some _ e
              have lt3 : ∀ {p : Addr × Obj}, p ∈ (C, oC) :: (D, LCg.lst ys) :: (ownOf h2 fp ++ l') → p.1 < h3.objs.size := fun hp => Heap.lt_size (N3 _ hp).1
              have inn : codeAny (model pw w) A (.compLoop (comp2 (.Name y ye) t0 e0 (.Name y yp) e1 scope pos) 1 (.ref h3.objs.size) (.ref D) (compEnvC scope cl C env)) (fun r s₅ => match r with
                  | .ok _ => ∃ m_1, m_1 < k ∧ IvC2 n sB J G L m C D St wr m_1 s₅
                  | .error e => cameBackBy (model pw w) A (compEnvC scope cl C env) (notedBy (model pw w) A (compEnvC scope cl C env) fun e s' => RR (.ref D) C (.error e) s') e s₅) { sB with heap := h3.push oI, toks := tk3 } := by
                refine inner_all (G := G) (L := L) (m := m) (mC := m₂) (l := ownOf h2 fp ++ l') hk hy hyd W st0 (F3.keeps up) (hns3.at' fun o e => up _ o e) (fun p hp => ?_) (fun p hp => ?_) (fun p hp => ?_) (fun p hp => ?_) (Nat.ne_of_gt (lt3 (.head _))) (Nat.ne_of_gt (lt3 (.tail _ (.head _)))) axC axD hDC (Nat.ne_of_gt F3.ns.lt)
                  hCL (Heap.get?_none_of_le (Nat.le_trans F3.above (Nat.le_of_lt F3.ns.lt))) hC₀ hz fun h4 tk4 mC4 F4 hn4 N4 => ?_
                · refine mem_case hp ?_ fun p hp => ?_
                  · exact ⟨up _ _ (N3 _ (.tail _ (.head _))).1, (N3 _ (.tail _ (.head _))).2⟩
                  · exact ⟨up _ _ (N3 p (.tail _ (.tail _ hp))).1, (N3 p (.tail _ (.tail _ hp))).2⟩
                · exact Nat.ne_of_lt (lt3 (.tail _ (.tail _ hp)))
                · rcases List.mem_append.mp hp with hp | hp
                  · exact (ownC p hp).1
                  · exact (offl' p hp).2.1
                · rcases List.mem_append.mp hp with hp | hp
                  · exact (ownC p hp).2
                  · exact (offl' p hp).2.2
                · exact ⟨k - 1, (ar_lp hki hi).1, i + 1, ys ++ items, l', h4, tk4, mC4, (ar_lp hki hi).2, rfl, hJ', F4, hn4, fun p hp => by
                    refine mem_case hp ?_ fun p hp => ?_
                    · exact N4 _ (.head _)
                    · exact N4 p (.tail _ (List.mem_append_right _ hp)), S.frame _ _ _ hst2 fun b hb o e => (N4 (b, o) (.tail _ (List.mem_append_left _ (ownOf_has hb e)))).1, offl'⟩
              exact start_any 1 (.inr rfl) inn (W.self 0 _ _ _ st0 inn)
            cases isT with
            | true =>
              refine wpAny_pyIter_tuple ⟨_, gax, rfl, _, rfl⟩ ?_
              have W := Walks.tuple (prog := pw) (w := w) hh h3.objs.size ax (Nat.ne_of_lt (Heap.lt_size gax)) items.toArray
              refine step _ _ rfl ⟨W.sub, W.frame, fun i s Q E hi st hQ => W.item i s Q E (by simpa using hi) st fun v h' tk hv => hQ v h' tk (by simpa using hv), fun s Q E st hQ => W.done s Q E (by simpa using st) hQ, W.self⟩ ⟨⟨_, Heap.get?_push_size _ rfl, rfl, rfl⟩, _, Heap.get?_push_of_some _ gax, rfl, _, rfl⟩
            | false =>
              refine wpAny_pyIter_list ⟨_, gax, rfl, _, rfl⟩ ?_
              have W := Walks.list (prog := pw) (w := w) hh h3.objs.size ax (Nat.ne_of_lt (Heap.lt_size gax)) items.toArray
              refine step _ _ rfl ⟨W.sub, W.frame, fun i s Q E hi st hQ => W.item i s Q E (by simpa using hi) st fun v h' tk hv => hQ v h' tk (by simpa using hv), fun s Q E st hQ => W.done s Q E (by simpa using st) hQ, W.self⟩ ⟨⟨_, Heap.get?_push_size _ rfl, rfl, rfl⟩, _, Heap.get?_push_of_some _ gax, rfl, _, rfl⟩
        · cases r with
          | none => exact z.elim
          | some v => exact z
      · obtain rfl : i = n := by omega
        refine wpAny_mono (S.done { sB with heap := h, toks := tk } (fun s₁ => RR (.ref D) C (.ok .next) s₁) _ hst fun h' tk' hkeep => ?_) (fun r s₁ z => ?_) fun _ _ e => e
        · refine hRR D C h' tk' mC ys l hJ (fr_keep F (fun o => hkeep _ o Lw) fun b o e => hkeep b o (fun q => by rw [(hfp b (S.sub b q)).2.1] at e; cases e) (F.keep b o e)) (fun p hp => ?_) (hn.at' fun o e => hkeep _ o Cw e) hC₀ hCL hDC (fun p hp => (offl p hp).2.1)
          refine mem_case hp ?_ fun p hp => ?_
          · exact ⟨hkeep _ _ Dw (N _ (.head _)).1, (N _ (.head _)).2⟩
          · exact ⟨hkeep _ _ (offl p hp).1 (N p (.tail _ hp)).1, (N p (.tail _ hp)).2⟩
        · cases r with
          | none => exact z
          | some v => exact z.elim
    · refine mem_case hp ?_ fun p hp => ?_
      · exact ⟨hacc, hDL, hD₀⟩
      · exact ⟨old _ _ (N p hp).1, (N p hp).2⟩
    · exact below _ (hDe ▸ Heap.lt_size (N p hp).1)
  exact start_any 0 (.inl rfl) (loop _) (S.self 0 _ _ _ hst₁ (loop _))
end
section
open PySem PySem.W PySem.Calls PyProof.Rows PySem.Spec
section
variable {w : World} {A : Around} {E : Value → Shared → Prop} {s : Shared} {G : Heap} {L : Addr} {m : Str → Option Value} {env : Env} {elt t0 e0 t1 e1 : Expr} {scope : Scope} {cl : List (Str × Addr)} {pos : Pos}
noncomputable def Rest2 (w : World) (A : Around) (env : Env) (elt t0 e0 t1 e1 : Expr) (scope : Scope) (cl : List (Str × Addr)) (pos : Pos) (use : Option (Value → Sem Unit)) (Q : Value → Shared → Prop) (E : Value → Shared → Prop) (it : Value) (s₂ : Shared) : Prop :=
  wpAny (model pw w) A (newList []) (fun acc s₃ => wpAny (model pw w) A (newFunctionEnv scope env.globals cl [] env.qual none .none (some env)) (fun cenv s₄ =>
      codeAny (model pw w) A (.compStart (comp2 elt t0 e0 t1 e1 scope pos) 0 it acc { cenv with scope := relabel scope env }) (compPost (model pw w) A E use Q acc cenv.locals) s₄) E s₃) E s₂
theorem comp2_eval {Q : Value → Shared → Prop} (hclos : closureFor scope env = pure cl) (hkind : scope.kind = .function) (hnames : ∀ y ∈ scope.names, y.2 = .local → scope.names.lookup y.1 = some .local)
    (h : wpAny (model pw w) A (eval e0 env) (fun x s₁ => Halt (wpAny (model pw w) A (pyIter x) (fun it s₂ => Rest2 w A env elt t0 e0 t1 e1 scope cl pos none Q E it s₂) E s₁)) E s)
    (hs : ∀ x, foldedSetIterable e0 env x = pure x := by intro _; rfl) : wpAny (model pw w) A (eval (comp2 elt t0 e0 t1 e1 scope pos) env) Q E s := by
  rw [eval_ListComp]
  exact wpAny_comprehension_free (use := none) rfl hs hclos hkind hnames (wpAny_mono h (fun xv s₁ h₁ => halt h₁) fun _ _ e => e)
theorem comp2_assign {y : Str} {py spos : Pos} {Q : Flow → Shared → Prop} (hsw : swapsWith (comp2 elt t0 e0 t1 e1 scope pos) (some (.Name y py)) spos.line env = pure true) (hclos : closureFor scope env = pure cl) (hkind : scope.kind = .function) (hnames : ∀ y ∈ scope.names, y.2 = .local → scope.names.lookup y.1 = some .local)
    (h : wpAny (model pw w) A (eval e0 env) (fun x s₁ => Halt (wpAny (model pw w) A (pyIter x) (fun it s₂ => Rest2 w A env elt t0 e0 t1 e1 scope cl pos (some (assign (.Name y py) env)) (fun _ s' => Q .next s') E it s₂) E s₁)) E s)
    (hs : ∀ x, foldedSetIterable e0 env x = pure x := by intro _; rfl) : wpAny (model pw w) A (exec (.Assign [.Name y py] (comp2 elt t0 e0 t1 e1 scope pos) spos) env) Q E s := by
  rw [exec_Assign_Name_used _ _ _ _ hsw]
  refine wpAny_bind (wpAny_standAt (wpAny_bind ?_))
  show wpAny _ A (do let _ ← comprehension (comp2 elt t0 e0 t1 e1 scope pos) scope env _ (newList []) false (eval e0 env) (some (assign (.Name y py) env))) _ _ s
  exact wpAny_bind (wpAny_mono (wpAny_comprehension_free (use := some (assign (.Name y py) env)) (Q := fun _ s' => Q .next s') rfl hs hclos hkind hnames
    (wpAny_mono h (fun xv s₁ h₁ => halt h₁) fun _ _ e => e)) (fun _ s' hq => wpAny_pure (wpAny_pure hq)) fun _ _ e => e)
theorem rr_eval {Q : Value → Shared → Prop} {D C : Addr} {h : Heap} {tk : Nat} {m' : Str → Option Value} {ys : List Value} {l' : List (Addr × Obj)} {s₂ : Shared} (F : Fr G L h m) (N : News G L h ((D, LCg.lst ys) :: l')) (hn : h.Ns C m') (GC : G.get? C = none) (CL : C ≠ L) (CD : C ≠ D) (lC : ∀ p ∈ l', p.1 ≠ C)
    (q : ∀ h', Fr G L h' m → News G L h' ((D, LCg.lst ys) :: l') → Q (.ref D) { s₂ with heap := h', toks := tk }) : compPost (model pw w) A E none Q (.ref D) C (.ok .next) { s₂ with heap := h, toks := tk } :=
  ⟨m', hn, fun h' hs => q h' (F.change hs CL GC) fun p hp => ⟨(hs.2 _ (by
    refine mem_case hp ?_ fun p hp => ?_
    · exact Ne.symm CD
    · exact lC p hp)).trans (N p hp).1, (N p hp).2⟩⟩
theorem rr_assign {y : Str} {py : Pos} {Q : Flow → Shared → Prop} {D C : Addr} {h : Heap} {tk : Nat} {m' : Str → Option Value} {ys : List Value} {l' : List (Addr × Obj)} {s₂ : Shared} (hLe : env.locals = L) (hy : env.kindOf y = some .local) (hp : (env.scope.kind == .class || (env.scope.kind == .module && env.locals != env.globals)) = false)
    (F : Fr G L h m) (N : News G L h ((D, LCg.lst ys) :: l')) (hn : h.Ns C m') (GC : G.get? C = none) (CL : C ≠ L) (CD : C ≠ D) (lC : ∀ p ∈ l', p.1 ≠ C)
    (q : ∀ h' tk', Fr G L h' (fun z => if z = y then some (.ref D) else m z) → News G L h' ((D, LCg.lst ys) :: l') → Q .next { s₂ with heap := h', toks := tk' }) :
    compPost (model pw w) A E (some (assign (.Name y py) env)) (fun _ s' => Q .next s') (.ref D) C (.ok .next) { s₂ with heap := h, toks := tk } := by
  subst hLe
  show wpAny _ _ (assign (.Name y py) env (.ref D)) _ _ _
  refine wpAny_assign_Name (wpAny_storeName_local hy F.ns (fun h₁ hn₁ hs₁ => ?_) hp)
  have hs₁' : Heap.SameBut env.locals h h₁ := hs₁
  refine ⟨m', hn.sameBut hs₁' CL, fun h' hs => q h' _ ((F.set hn₁ hs₁').change hs CL GC) fun p hp => ⟨(hs.2 _ (by
    refine mem_case hp ?_ fun p hp => ?_
    · exact Ne.symm CD
    · exact lC p hp)).trans ((N.set hs₁') p hp).1, (N p hp).2⟩⟩
theorem asg_name {x : Str} {px : Pos} {items : Array Value} (hk : scope.kind = .function) (hx : scope.names.lookup x = some .local) : ∀ (i : Nat) (v : Value) (new : List (Addr × Obj)) (C : Addr) (s : Shared) (mC : Str → Option Value) (Q : Unit → Shared → Prop) (E : Value → Shared → Prop), (items[i]? = some v ∧ new = ([] : List (Addr × Obj))) → (∀ p ∈ new, s.heap.get? p.1 = some p.2) → s.heap.Ns C mC →
      (∀ h' tk m₂, m₂ x = some v → h'.Ns C m₂ → (∀ b o, b ≠ C → s.heap.get? b = some o → h'.get? b = some o) → Q () { s with heap := h', toks := tk }) →
      wpAny (model pw w) A (assign (.Name x px) (compEnvC scope cl C env) v) Q E s := fun i v new C s mC Q E hv hnew hn hQ =>
  wpAny_assign_Name (wpAny_storeName_local (lookup_relabel_local hx) hn (fun h₃ hn₃ hs₃ => hQ h₃ _ _ (by simp) hn₃ fun b o hb e => (hs₃.2 b hb).trans e) (by simp [compEnvC, relabel, hk]))
theorem asg_pair {a b : Str} {pa pb tp : Pos} {kk : Nat} {items : Array Value} (hh : A.handled = none) (hab : b ≠ a) (hk : scope.kind = .function) (ha : scope.names.lookup a = some .local) (hb : scope.names.lookup b = some .local) : ∀ (i : Nat) (v : Value) (new : List (Addr × Obj)) (C : Addr) (s : Shared) (mC : Str → Option Value) (Q : Unit → Shared → Prop) (E : Value → Shared → Prop),
      (∃ T tk x, v = .ref T ∧ items[i]? = some x ∧ new = [(T, tupO [.int i tk, x] 0)]) → (∀ p ∈ new, s.heap.get? p.1 = some p.2) → s.heap.Ns C mC →
      (∀ h' tk m₂, (∃ T tk x, v = .ref T ∧ items[i]? = some x ∧ new = [(T, tupO [.int i tk, x] 0)] ∧ m₂ a = some (.int i tk) ∧ m₂ b = some x) → h'.Ns C m₂ → (∀ b o, b ≠ C → s.heap.get? b = some o → h'.get? b = some o) → Q () { s with heap := h', toks := tk }) →
      wpAny (model pw w) A (assign (.Tuple [.Name a pa, .Name b pb] kk tp) (compEnvC scope cl C env) v) Q E s := by
  rintro i v new C s mC Q E ⟨T, tk, x, rfl, hx, rfl⟩ hnew hn hQ
  refine kcp_assign hh ⟨_, hnew _ (.head _), rfl, _, rfl⟩ (lookup_relabel_local ha) (lookup_relabel_local hb) (by simp [compEnvC, relabel, hk]) hn fun h' tk' hn' hk' => hQ h' tk' _ ⟨T, tk, x, rfl, hx, rfl, ?_, by simp⟩ hn' hk'
  simp [Ne.symm hab]
end
end
section
open PySem PySem.W PySem.Calls PyProof.Rows PySem.Spec
set_option maxHeartbeats 1000000 in
/-- entry_number -/
theorem entry_ok {w : World} {mean : ExcName → Option Value} {mg mb : Str → Option Value} {G : Heap} {A : Around} {h : Heap} {g : Array GenState} {dr : Drawn} {tk : Nat} {os : OsState} {L r : Addr} {m : Str → Option Value} {l : List (Addr × Obj)} {i : Int} {t : Tok} {v2 v3 : Value} {Q E : Value → Shared → Prop}
    (hA : Rm A 3) (X : (KP w.params).In G) (T : Top topProg lsT mean mg mb G) (F : Fr G L h m) (N : News G L h l) (hr : (r, tupO [.int i t, v2, v3] 0) ∈ l)
    (ret : ∀ h' tk', Fr G L h' m → News G L h' l → Q (.int i t) ⟨h', g, dr, tk', os⟩) :
    wpAny (model pw w) A (call (.ref 469) [.ref r]) Q E ⟨h, g, dr, tk, os⟩ := by
  refine wpAny_call (callE (s := ⟨h, g, dr, tk, os⟩) (binds := [(Str.ofString "entry", .ref r)]) X T F (Nat.lt_of_le_of_lt (Nat.le_add_right _ _) hA.dp) (by k_is) (by k_is) (BindsTo.of_eq rfl) (locs rfl) rfl rfl rfl (by decide) fun L' h₁ oL E' hL eL F₁ k₁ => ?_)
  have N₁ : News G L' h₁ ((r, tupO [.int i t, v2, v3] 0) :: (l ++ [(L, oL)])) := fun p hp => (List.mem_cons.mp hp).elim (fun e => e ▸ news_in F N hL eL k₁ _ (List.mem_append_left _ hr)) (news_in F N hL eL k₁ p)
  try dsimp only
  repeat' (first | walk1 | (dsimp only; walk1) | walk_at "THEN")
  have o := out_any F N hL (by assumption) N₁ (by first | walk_at "MEM" | simp) (fun p hp => by first | walk_at "MEM" | simp [hp])
  exact ret _ _ o.1 o.2
/-- a dict as it lies, whatever its keys -/
noncomputable def Raw (h : Heap) (d : Addr) (es : Array DictEntry) (ep : Nat) : Prop := ∃ o, h.get? d = some o ∧ o.ExactDict ∧ o.data = .dict es ep
theorem Raw.type {s : Shared} {d : Addr} {es : Array DictEntry} {ep : Nat} (x : Raw s.heap d es ep) : s.TypeIs (.ref d) "dict" := let ⟨o, ho, hc, _⟩ := x; ⟨o, ho, hc.1⟩
section
variable {w : World} {A : Around} {E : Value → Shared → Prop} {s : Shared}
theorem raw_values (d : Addr) (hd : (d == sysModules) = false) :
    MeetsIn pw w (Builtin.«dict.values» ⟨[.ref d], []⟩) (fun _ R s => (∃ es ep, Raw s.heap d es ep) ∧ R (.ok (.ret (.ref s.heap.objs.size))) { s with heap := s.heap.push { cls := .type "dict_values", data := .fields #[.ref d] } }) :=
  .of_wp fun A R s ⟨⟨es, ep, hm⟩, h⟩ => by
    refine wpAny_bind ?_
    unfold Builtin.Dict.noArgs
    refine wpAny_bind (wpAny_notOrdered_dict hm.type ?_)
    show wpAny _ _ (pure d) _ _ s
    refine wpAny_pure ?_
    show wpAny _ _ (Builtin.Dict.showsAll d >>= _) _ _ s
    unfold Builtin.Dict.showsAll
    rw [if_neg (by rw [hd]; exact Bool.false_ne_true)]
    refine wpAny_bind (wpAny_pure ?_)
    exact wpAny_bind (wpAny_newObj_type (wpAny_pure ⟨_, rfl, h⟩))
theorem raw_iter {v d : Addr} {es : Array DictEntry} {ep : Nat} {Q : Value → Shared → Prop} (hv : s.heap.IsValuesView v d) (hm : Raw s.heap d es ep)
    (hQ : Q (.ref s.heap.objs.size) { s with heap := s.heap.push { cls := .type "dict_valueiterator", data := .fields #[.ref d, .int 0 0, .int es.size 0, .int ep 0] } }) : wpAny (model pw w) A (pyIter (.ref v)) Q E s := by
  obtain ⟨ov, hov, hcv, hdv⟩ := id hv
  obtain ⟨o, ho, hc, hdat⟩ := id hm
  refine wpAny_pyIter_slot hv.typeIs F.slot_dict_values_iter (wpAny_call_entry F.slot_dict_values_iter hv.typeIs F.entry_dict_values_iter ?_ (F.args_dict_values_iter_1 _))
  unfold Builtin.«dict_values.__iter__»
  refine wpAny_bind (wpAny_pure ?_)
  refine wpAny_bind ?_
  unfold Builtin.Dict_items.dictOf
  refine wpAny_bind (wpAny_field hov hdv (x := .ref d) rfl (wpAny_pure ?_))
  refine wpAny_bind ?_
  unfold Builtin.Dict_items.newIterator
  refine wpAny_bind (wpAny_dictEntries ho hdat ?_)
  refine wpAny_bind (wpAny_dictEpoch ho hdat ?_)
  have hown : Builtin.Dict_items.ownsTuple "dict_valueiterator" = false := by decide
  simp only [hown, Bool.false_eq_true, if_false]
  refine wpAny_newObj_type (wpAny_pure ⟨_, rfl, "dict_valueiterator", _, ⟨_, Heap.get?_push_size _ rfl, rfl⟩, F.slot_dict_valueiterator_next.lookup, ?_⟩)
  simpa [rawInt] using hQ
theorem raw_item {it d : Addr} {i ep : Nat} {es : Array DictEntry} {v : Value} {Q : Option Value → Shared → Prop} (hit : s.heap.IsValIter it d i es.size ep) (hm : Raw s.heap d es ep) (hx : (es[i]?).map (·.val) = some v)
    (hQ : ∀ h', h'.IsValIter it d (i + 1) es.size ep → Heap.SameBut it s.heap h' → Q (some v) { s with heap := h' }) : wpAny (model pw w) A (pyNext (.ref it)) Q E s := by
  obtain ⟨o, ho, hc, hd⟩ := id hit
  obtain ⟨od, hod, hcd, hdd⟩ := id hm
  unfold pyNext
  refine wpAny_bind (wpAny_attempt (wpAny_callSpecial?_slot (name := Str.ofString "__next__") hit.typeIs F.slot_dict_valueiterator_next
    (wpAny_call_entry F.slot_dict_valueiterator_next hit.typeIs F.entry_dict_valueiterator_next ?_ (F.args_dict_valueiterator_next_1 _))))
  refine wpAny_bind (wpAny_pure ?_)
  refine wpAny_bind ?_
  refine wpAny_bind ?_
  first | refine wpAny_bind (wpAny_typeNameOfWhole_valiter hit.typeIs (wpAny_pure ?_)) | refine wpAny_bind (wpAny_typeNameOf_valiter hit.typeIs (wpAny_pure ?_))
  refine wpAny_bind (wpAny_fieldsOf ho hd ?_)
  have hown : Builtin.Dict_items.ownsTuple "dict_valueiterator" = false := by decide
  rw [if_neg (show ¬ (Builtin.Dict_items.ownsTuple "dict_valueiterator" = true) from hown ▸ Bool.false_ne_true)]
  show wpAny _ _ (if (Value.ref d == Value.none) = true then _ else _) _ _ s
  rw [if_neg (show ¬ ((Value.ref d == Value.none) = true) from Bool.false_ne_true)]
  refine wpAny_bind (wpAny_pure ?_)
  refine wpAny_bind (wpAny_dictEntries hod hdd ?_)
  rw [if_neg (by first | walk_at "MEM" | simp)]
  refine wpAny_bind (wpAny_pure ?_)
  refine wpAny_bind (wpAny_dictEpoch hod hdd ?_)
  rw [if_neg (by first | walk_at "MEM" | simp)]
  refine wpAny_pure ?_
  obtain ⟨en, hen, hval⟩ := Option.map_eq_some_iff.mp hx
  have hlt' : i < es.size := (Array.getElem?_eq_some_iff.mp hen).1
  have hval' : es[i].val = v := by rw [Array.getElem?_eq_getElem hlt'] at hen; cases hen; exact hval
  simp only [show ¬ ((i : Int) < 0) from by omega, if_false, Int.toNat_natCast, Array.getElem?_eq_getElem hlt']
  refine wpAny_bind ?_
  first | refine wpAny_bind (wpAny_typeNameOfWhole_valiter hit.typeIs (wpAny_pure ?_)) | refine wpAny_bind (wpAny_typeNameOf_valiter hit.typeIs (wpAny_pure ?_))
  refine wpAny_bind (wpAny_isOneOf_valiter hit.typeIs ?_)
  show wpAny _ _ (setField (.ref it) 1 (rawInt ((i : Int) + 1)) >>= _) _ _ s
  refine wpAny_bind (wpAny_setField ho hd (by first | walk_at "MEM" | simp) ?_)
  have hit' : (s.heap.update it (Obj.mapFields (·.setIfInBounds 1 (rawInt ((i : Int) + 1))))).IsValIter it d (i + 1) es.size ep :=
    ⟨_, Heap.get?_update_self _ ho (Obj.isFreed_of_fields (Obj.data_mapFields hd _)), (Obj.cls_mapFields ..).trans hc, by rw [Obj.data_mapFields hd]; simp [rawInt]⟩
  refine wpAny_bind (wpAny_holding ?_)
  refine wpAny_bind (wpAny_isOneOf_valiter (s := { s with heap := s.heap.update it (Obj.mapFields (·.setIfInBounds 1 (rawInt ((i : Int) + 1)))) }) hit'.typeIs ?_)
  refine wpAny_bind (wpAny_isOneOf_valiter (s := { s with heap := s.heap.update it (Obj.mapFields (·.setIfInBounds 1 (rawInt ((i : Int) + 1)))) }) hit'.typeIs ?_)
  show wpAny _ _ (pure es[i].val) _ _ _
  exact wpAny_pure (wpAny_pure ⟨_, rfl, wpAny_pure (hval' ▸ hQ _ hit' (Heap.SameBut.update ..))⟩)
theorem raw_end {it d : Addr} {i ep : Nat} {es : Array DictEntry} {Q : Option Value → Shared → Prop} (hh : A.handled = none) (hit : s.heap.IsValIter it d i es.size ep) (hm : Raw s.heap d es ep) (hge : es.size ≤ i)
    (hQ : ∀ h', Heap.ExtBut it s.heap h' → Q none { s with heap := h' }) : wpAny (model pw w) A (pyNext (.ref it)) Q E s := by
  obtain ⟨o, ho, hc, hd⟩ := id hit
  obtain ⟨od, hod, hcd, hdd⟩ := id hm
  unfold pyNext
  refine wpAny_bind (wpAny_attempt (wpAny_callSpecial?_slot (name := Str.ofString "__next__") hit.typeIs F.slot_dict_valueiterator_next
    (wpAny_call_entry F.slot_dict_valueiterator_next hit.typeIs F.entry_dict_valueiterator_next ?_ (F.args_dict_valueiterator_next_1 _))))
  refine wpAny_bind (wpAny_pure ?_)
  refine wpAny_bind ?_
  refine wpAny_bind ?_
  first | refine wpAny_bind (wpAny_typeNameOfWhole_valiter hit.typeIs (wpAny_pure ?_)) | refine wpAny_bind (wpAny_typeNameOf_valiter hit.typeIs (wpAny_pure ?_))
  refine wpAny_bind (wpAny_fieldsOf ho hd ?_)
  have hown : Builtin.Dict_items.ownsTuple "dict_valueiterator" = false := by decide
  rw [if_neg (show ¬ (Builtin.Dict_items.ownsTuple "dict_valueiterator" = true) from hown ▸ Bool.false_ne_true)]
  show wpAny _ _ (if (Value.ref d == Value.none) = true then _ else _) _ _ s
  rw [if_neg (show ¬ ((Value.ref d == Value.none) = true) from Bool.false_ne_true)]
  refine wpAny_bind (wpAny_pure ?_)
  refine wpAny_bind (wpAny_dictEntries hod hdd ?_)
  rw [if_neg (by first | walk_at "MEM" | simp)]
  refine wpAny_bind (wpAny_pure ?_)
  refine wpAny_bind (wpAny_dictEpoch hod hdd ?_)
  rw [if_neg (by first | walk_at "MEM" | simp)]
  refine wpAny_pure ?_
  simp only [show ¬ ((i : Int) < 0) from by omega, if_false, Int.toNat_natCast, Array.getElem?_eq_none hge]
  refine wpAny_bind ?_
  first | refine wpAny_bind (wpAny_typeNameOfWhole_valiter hit.typeIs (wpAny_pure ?_)) | refine wpAny_bind (wpAny_typeNameOf_valiter hit.typeIs (wpAny_pure ?_))
  show wpAny _ _ (setField (.ref it) 0 .none >>= _) _ _ s
  refine wpAny_bind (wpAny_setField ho hd (by first | walk_at "MEM" | simp) ?_)
  show wpAny _ _ (newExc (.type "StopIteration") [] >>= _) _ _ _
  refine wpAny_bind ?_
  simp only [newExc, newTuple]
  refine wpAny_bind (wpAny_newObj_type ?_ (by size_fits))
  refine wpAny_bind (m := firstArgMember _ _) (wpAny_of_eq (a := Value.none) (by first | rfl | (simp only [firstArgMember]; rfl)) ?_)
  refine wpAny_newObj_type ?_ (by size_fits)
  simp only [raiseNew]
  refine wpAny_bind (wpAny_handled ?_)
  rw [show A.in1.handled = none from hh]
  refine wpAny_bind (wpAny_pure (wpAny_throw ?_))
  refine wpAny_bind (wpAny_isInstance (T := "StopIteration") (b := true) ⟨_, Heap.get?_push_size _ rfl, rfl⟩ isSubtype_stop ?_)
  exact wpAny_pure (hQ _ (((Heap.SameBut.update ..).extBut.push _).push _))
theorem Raw.at {h h' : Heap} {d : Addr} {es : Array DictEntry} {ep : Nat} (x : Raw h d es ep) (k : ∀ o, h.get? d = some o → h'.get? d = some o) : Raw h' d es ep := let ⟨o, ho, r⟩ := x; ⟨o, k o ho, r⟩
theorem raw_walks (hh : A.handled = none) (I d : Addr) (hne : d ≠ I) (es : Array DictEntry) (ep : Nat) :
    Walks pw w A I [I, d] [I] es.size (fun i v => (es[i]?).map (·.val) = some v) (fun i h => h.IsValIter I d i es.size ep ∧ Raw h d es ep) where
  sub := fun b hb => by simp at hb; simp [hb]
  frame := fun _ _ _ st hk => ⟨st.1.at fun o e => hk I (by first | walk_at "MEM" | simp) o e, st.2.at fun o e => hk d (by first | walk_at "MEM" | simp) o e⟩
  item := fun i s Q E hi st hQ => by
    refine raw_item st.1 st.2 (v := es[i].val) (by first | walk_at "MEM" | simp [hi]) fun h' hit' hs' => ?_
    exact hQ _ h' s.toks (by first | walk_at "MEM" | simp [hi]) ⟨hit', st.2.at fun o e => (hs'.2 d hne).trans e⟩ fun b o hb e => hs'.extBut b o (fun h => hb (by first | walk_at "MEM" | simp [h])) e
  done := fun s Q E st hQ => raw_end hh st.1 st.2 (Nat.le_refl _) fun h' he' => hQ h' s.toks fun b o hb e => he' b o (fun h => hb (by first | walk_at "MEM" | simp [h])) e
  self := fun _ _ _ _ st hQ => wpAny_pyIter_valiter st.1 hQ
theorem raw_src {r d : Addr} {es : Array DictEntry} {ep : Nat} : KdlSrc pw w "dict_values" r d es.size (fun i v => (es[i]?).map (·.val) = some v) (fun h => h.IsValuesView r d ∧ Raw h d es ep) where
  type := fun _ hm => hm.1.typeIs
  there := fun _ hm => ⟨let ⟨_, ho, _⟩ := hm.1; Heap.lt_size ho, let ⟨_, ho, _⟩ := hm.2; Heap.lt_size ho⟩
  keep := fun _ _ hm hk => ⟨let ⟨o, ho, x⟩ := hm.1; ⟨o, hk r (.inl rfl) o ho, x⟩, hm.2.at fun o e => hk d (.inr rfl) o e⟩
  notList := by decide
  notTuple := by decide
  hint := fun _ _ _ _ hm hq => kdl_hint_values hm.1.typeIs hq
  iter := fun _ s hh hm => ⟨_, _, (fun _ _ hq => raw_iter hm.1 hm.2 hq), raw_walks hh _ d (let ⟨_, ho, _⟩ := hm.2; Nat.ne_of_lt (Heap.lt_size ho)) es ep, ⟨⟨_, Heap.get?_push_size _ rfl, rfl, rfl⟩, hm.2.at fun o e => Heap.get?_push_of_some _ e⟩⟩
end
end
section
open PySem PySem.W PySem.Calls PyProof.Rows PySem.Spec
theorem Rm.in1 {A : Around} {n : Nat} (h : Rm A (n + 1)) : Rm A.in1 n := ⟨h.hh, Nat.lt_of_le_of_lt (Nat.add_le_add_left (Nat.le_succ n) _) h.dp, Nat.lt_of_le_of_lt (by show A.units + 1 + 16 * n ≤ A.units + 16 * (n + 1); omega) h.un⟩
section
variable {w : World} {A : Around} {E : Value → Shared → Prop} {s : Shared}
theorem vals_collect {R : List Value → Shared → Prop} {T : String} {r d : Addr} {n : Nat} {P : Nat → Value → Prop} {OK : Heap → Prop} (K : KdlSrc pw w T r d n P OK) (hh : A.handled = none) (hok : OK s.heap) (hn : n ≤ sizeLine)
    (h : ∀ h' tk vs, (∀ b o, s.heap.get? b = some o → h'.get? b = some o) → vs.length = n → (∀ j v, vs[j]? = some v → P j v) → R vs { s with heap := h', toks := tk }) : wpAny (model pw w) A (collect (.ref r)) R E s := by
  have hlt := K.there _ hok
  unfold collect
  refine wpAny_bind (wpAny_runValue (codeAny_builtin entry_proto_collect' ?_))
  rw [Around.under_plainId PySem.F.plain_proto_collect _]
  show wpAny _ A.in1 (newList [] >>= fun l => again (.builtin "list.__iadd__" ⟨[l, .ref r], []⟩)) _ _ s
  refine wpAny_bind (wpAny_newObj_type ?_)
  refine wpAny_pure ⟨plainId_quiet PySem.F.plain_list_iadd _, codeAny_builtin entry_list_iadd' ?_⟩
  rw [Around.under_plainId PySem.F.plain_list_iadd _]
  have hS₁ : (s.heap.push { cls := .type "list", data := .seq ([] : List Value).toArray }).get? s.heap.objs.size = some { cls := .type "list", data := .seq #[] } := Heap.get?_push_size _ rfl
  show wpAny _ A.in1 (Builtin.List.listExtendWith (.ref s.heap.objs.size) (.ref r) (.ref s.heap.objs.size)) _ _ _
  have key := kdl_extend (A := A) (s := { s with heap := s.heap.push { cls := .type "list", data := .seq ([] : List Value).toArray } })
    (R := fun (q : Result) (s' : Shared) => ∃ (h' : Heap) (tk : Nat) (acc' : Array Value) (c' : Nat), q = .ok (.ret (.ref s.heap.objs.size)) ∧ s' = { s with heap := h', toks := tk } ∧
      (∀ b o, s.heap.get? b = some o → h'.get? b = some o) ∧ h'.get? s.heap.objs.size = some { cls := .type "list", dict := none, data := .seq acc' c', slots := #[] } ∧ ItemsOf P acc' n)
    K hh (K.keep _ _ hok fun b _ o e => Heap.get?_push_of_some _ e) s.heap.objs.size (Nat.ne_of_gt hlt.1) (Nat.ne_of_gt hlt.2) (.ref s.heap.objs.size) 0 hS₁
    (fun h' tk acc' c' hk hS' hacc => ⟨h', tk, acc', c', rfl, rfl, fun b o e => hk b o (Nat.ne_of_lt (Heap.lt_size e)) (Heap.get?_push_of_some _ e), hS', hacc⟩) hn
  have out : ∀ (h' : Heap) (tk : Nat) (acc' : Array Value) (c' : Nat), (∀ b o, s.heap.get? b = some o → h'.get? b = some o) → h'.get? s.heap.objs.size = some { cls := .type "list", dict := none, data := .seq acc' c', slots := #[] } → ItemsOf P acc' n → R acc'.toList { s with heap := h', toks := tk } :=
    fun h' tk acc' c' hk hS' hacc => h h' tk acc'.toList hk (by rw [Array.length_toList]; exact hacc.1) fun j v e => hacc.2 j v (by rw [← Array.getElem?_toList]; exact e)
  refine wpAny_mono key (fun fin s' x => ?_) fun e s' x => ?_
  · cases fin with
    | done f =>
      obtain ⟨h', tk, acc', c', e, rfl, hk, hS', hacc⟩ := x
      cases e
      show wpAny _ A (load s.heap.objs.size >>= _) _ _ _
      exact wpAny_bind (wpAny_load hS' (wpAny_pure (out h' tk acc' c' hk hS' hacc)))
    | again c₁ =>
      refine ⟨x.1, codeAny_mono x.2 fun q s₂ y => ?_⟩
      obtain ⟨h', tk, acc', c', rfl, rfl, hk, hS', hacc⟩ := y
      show wpAny _ A (load s.heap.objs.size >>= _) _ _ _
      exact wpAny_bind (wpAny_load hS' (wpAny_pure (out h' tk acc' c' hk hS' hacc)))
  · obtain ⟨_, _, _, _, e', _⟩ := x
    cases e'
end
theorem sort_same : ∀ {qs ps : List (Int × Value)}, ps.Perm qs → ps.Pairwise (fun p q => p.1 ≤ q.1) → qs.Pairwise (fun p q => p.1 < q.1) → ps = qs
  | [], ps, h, _, _ => by rw [List.Perm.eq_nil h]
  | q :: qs, [], h, _, _ => by have := h.length_eq; simp at this
  | q :: qs, p :: ps, h, hp, hq => by
    have hp' := List.pairwise_cons.mp hp
    have hq' := List.pairwise_cons.mp hq
    have e : p = q := by
      have m1 : p ∈ q :: qs := h.mem_iff.mp (.head _)
      have m2 : q ∈ p :: ps := h.mem_iff.mpr (.head _)
      rcases List.mem_cons.mp m1 with r | r
      · exact r
      · rcases List.mem_cons.mp m2 with r2 | r2
        · exact r2.symm
        · have a := hq'.1 p r
          have b := hp'.1 q r2
          omega
    subst e
    rw [sort_same (List.Perm.cons_inv h) hp'.2 hq'.2]
theorem zip_inc : ∀ (n : Nat) (vs : List Value), (((List.range' n vs.length).map fun (i : Nat) => (i : Int)).zip vs).Pairwise (fun p q => p.1 < q.1)
  | _, [] => by simp
  | n, v :: vs => by
    rw [List.length_cons, List.range'_succ, List.map_cons, List.zip_cons_cons, List.pairwise_cons]
    refine ⟨fun p hp => ?_, zip_inc (n + 1) vs⟩
    have := (List.of_mem_zip hp).1
    obtain ⟨i, hi, e⟩ := List.mem_map.mp this
    have := List.mem_range'_1.mp hi
    show (n : Int) < p.1
    omega
theorem out_same {vs out : List Value} (h : KskOut false ((List.range' 0 vs.length).map fun (i : Nat) => (i : Int)) vs out) : out = vs := by
  obtain ⟨ps, hp, rfl, hs⟩ := h
  have e := sort_same hp (by simpa using hs) (zip_inc 0 vs)
  rw [e, List.map_snd_zip]
  simp
set_option maxHeartbeats 1000000 in
theorem sorted_vals {w : World} {mean : ExcName → Option Value} {mg mb : Str → Option Value} {G : Heap} {A : Around} {s : Shared} {L r d : Addr} {m : Str → Option Value} {l : List (Addr × Obj)} {es : Array DictEntry} {ep : Nat} {Q E : Value → Shared → Prop}
    (hA : Rm A 8) (X : (KP w.params).In G) (T : Top topProg lsT mean mg mb G) (F : Fr G L s.heap m) (N : News G L s.heap l) (hv : s.heap.IsValuesView r d) (hm : Raw s.heap d es ep) (h64 : es.size < 64)
    (rows : ∀ i v, (es.toList.map (·.val))[i]? = some v → ∃ a t v2 v3, v = .ref a ∧ (a, tupO [.int (i : Nat) t, v2, v3] 0) ∈ l)
    (ret : ∀ D c h' tk', Fr G L h' m → News G L h' ((D, PySem.W.listOf (es.toList.map (·.val)).toArray c) :: l) → (∀ q ∈ l, q.1 < D) → Q (.ref D) { s with heap := h', toks := tk' }) :
    wpAny (model pw w) A (call (.builtin "sorted") [.ref r] [(Str.ofString "key", .ref 469)]) Q E s := by
  refine call_function_entry_kw kind_sorted plain_sorted entry_sorted (ksk_s1 _ _) ?_
  unfold Builtin.«sorted»
  refine wpAny_bind (m := checkCount "sorted" 1 1 _) (wpAny_pure ?_)
  refine wpAny_bind (vals_collect raw_src hA.in1.hh ⟨hv, hm⟩ (by rw [sizeLine_eq]; omega) fun h1 tk1 vs k1 hlen hvs => ?_)
  have evs : vs = es.toList.map (·.val) := by
    apply List.ext_getElem?
    intro j
    cases q : vs[j]? with
    | some v =>
      have := hvs j v q
      rw [List.getElem?_map, Array.getElem?_toList]
      exact this.symm
    | none =>
      have := List.getElem?_eq_none_iff.mp q
      rw [List.getElem?_eq_none (by rw [List.length_map, Array.length_toList]; omega)]
  have hz : vs.length < 64 := by omega
  refine wpAny_bind (wpAny_newList ?_ (by rw [sizeLine_eq]; omega))
  have F1 : Fr G L h1 m := F.keeps k1
  have N1 : News G L h1 l := N.grown k1
  have hLs : L < h1.objs.size := F1.ns.lt
  refine wpAny_bind (wpAny_holding (wpAny_call_entry_kw slot_list_sort ⟨_, Heap.get?_push_size h1 (o := { cls := .type "list", data := .seq vs.toArray }) rfl, rfl⟩ entry_list_sort ?body (ksk_l1 _ _)))
  case body =>
    show wpAny (model pw w) A.in1.in1 (Builtin.«list.sort» ⟨[.ref h1.objs.size], [(Str.ofString "key", .ref 469)]⟩) _ _ _
    rw [ksk_t1]
    refine ksk_sort (s := { s with heap := h1.push { cls := .type "list", data := .seq vs.toArray }, toks := tk1 }) (n := 0) (kz := (List.range' 0 vs.length).map fun (i : Nat) => (i : Int)) (F1.push _) (N1.grown fun b o e => Heap.get?_push_of_some _ e) (Heap.get?_push_size _ rfl) (Nat.ne_of_gt hLs)
      (Heap.get?_none_of_le (Nat.le_trans F1.above (Nat.le_of_lt hLs))) (fun p hp => Nat.ne_of_lt (Heap.lt_size (N1 p hp).1)) (by first | walk_at "MEM" | simp) hz (fun i v k hv' hk h2 tk2 own F2 N2 => ?_) fun h' tk out c F' N' ko => ⟨_, rfl, ?_⟩
    · obtain ⟨a, t, v2, v3, rfl, hma⟩ := rows i v (by rw [← evs]; exact hv')
      obtain rfl : k = (i : Int) := by
        rw [List.getElem?_map, List.getElem?_range'] at hk
        · simp at hk; exact hk.symm
        · exact (List.getElem?_eq_some_iff.mp hv').1
      exact entry_ok (hA.in1.in1.le (by decide)) X T F2 N2 (List.mem_append_left _ hma) fun h3 tk3 F3 N3 => ⟨h3, tk3, t, rfl, rfl, F3, N3⟩
    · have eo := out_same ko
      have N3 : News G L h' ((h1.objs.size, PySem.W.listOf (es.toList.map (·.val)).toArray c) :: l) := by
        rw [← evs, ← eo]
        simpa using N'
      exact wpAny_pure ⟨_, rfl, ret _ c h' tk F' N3 fun q hq => Heap.lt_size (N1 q hq).1⟩
end
section
open PySem PySem.W PySem.Calls PyProof.Rows PySem.Spec
local macro_rules | `(tactic| walk_at "getMethod ref") => `(tactic| ((with_reducible show wpAny _ _ (getMethod (Value.ref _) (Str.ofString "values") _) _ _ _); with_reducible refine halt ?_))
theorem EntO.raw {w : World} {G h : Heap} {L d : Addr} {l : List (Addr × Obj)} {xs : List (Int × Addr × Value)} {o : Obj} (N : News G L h l) (hm : (d, o) ∈ l) (e : EntO w xs o) : ∃ es ep, Raw h d es ep ∧ es.toList.map (·.val) = xs.map (·.2.2) := by
  obtain ⟨ex, es, ep, hd, he, hn⟩ := e
  exact ⟨es, ep, ⟨o, (N _ hm).1, ex, hd⟩, by rw [he, List.map_map]; rfl⟩
noncomputable def Rows (l : List (Addr × Obj)) (vs : List Value) (ps : List (Int × Int)) : Prop := vs.length = ps.length ∧ ∀ (i : Nat) (p : Int × Int), ps[i]? = some p → ∃ u, vs[i]? = some u ∧ RowIn l i p.1 p.2 u
set_option maxHeartbeats 1000000 in
/-- Table.rows -/
theorem rows_ok {w : World} {mean : ExcName → Option Value} {mg mb : Str → Option Value} {G : Heap} {A : Around} {h : Heap} {g : Array GenState} {dr : Drawn} {tk : Nat} {os : OsState} {L x dx may de : Addr} {m : Str → Option Value} {l : List (Addr × Obj)} {n : Int} {t1 t2 t3 tc : Tok} {oE : Obj} {xs : List (Int × Addr × Value)} {ps : List (Int × Int)} {Q E : Value → Shared → Prop}
    (hA : Rm A 12) (X : (KP w.params).In G) (T : Top topProg lsT mean mg mb G) (F : Fr G L h m) (N : News G L h l) (hx : (x, instObj 458 dx) ∈ l) (hdx : (dx, tabD w t1 t2 t3 tc may de n) ∈ l) (hde : (de, oE) ∈ l) (e : EntO w xs oE) (hz : xs.length < 64) (hsm : (de == sysModules) = false) (hr : Rows l (xs.map (·.2.2)) ps)
    (ret : ∀ D c h' tk', Fr G L h' m → News G L h' ((D, PySem.W.listOf (xs.map (·.2.2)).toArray c) :: l) → Q (.ref D) ⟨h', g, dr, tk', os⟩) :
    wpAny (model pw w) A (call (.ref 455) [.ref x]) Q E ⟨h, g, dr, tk, os⟩ := by
  refine wpAny_call (callE (s := ⟨h, g, dr, tk, os⟩) (binds := [(Str.ofString "self", .ref x)]) X T F (Nat.lt_of_le_of_lt (Nat.le_add_right _ _) hA.dp) (by k_is) (by k_is) (BindsTo.of_eq rfl) (locs rfl) rfl rfl rfl (by decide) fun L' h₁ oL E' hL eL F₁ k₁ => ?_)
  have N₁ : News G L' h₁ ((dx, tabD w t1 t2 t3 tc may de n) :: (de, oE) :: (x, instObj 458 dx) :: (l ++ [(L, oL)])) := fun p hp => by
    have N₀ := news_in F N hL eL k₁
    refine mem_case hp ?_ fun p hp => ?_
    · exact N₀ _ (List.mem_append_left _ hdx)
    · refine mem_case hp ?_ fun p hp => ?_
      · exact N₀ _ (List.mem_append_left _ hde)
      · refine mem_case hp ?_ fun p hp => ?_
        · exact N₀ _ (List.mem_append_left _ hx)
        · exact N₀ p hp
  try dsimp only
  repeat' (first | walk1 | (dsimp only; walk1) | walk_at "THEN")
  refine Halt.mk ?_
  refine ent_method PySem.F.slot_dict_values PySem.F.type_dict_values (by assumption) (.tail _ (.head _)) e ?_
  repeat' (first | walk1 | (dsimp only; walk1) | walk_at "THEN")
  obtain ⟨es, ep, hraw, hvals⟩ := e.raw N₁ (.tail _ (.head _))
  refine call_meetsIn PySem.F.slot_dict_values hraw.type PySem.F.entry_dict_values (PySem.F.args_dict_values_1 _) (raw_values de hsm) ⟨⟨es, ep, hraw⟩, ?_⟩
  have N2 := News.push F₁ N₁ { cls := .type "dict_values", data := .fields #[.ref de] }
  have F2 := F₁.push { cls := .type "dict_values", data := .fields #[.ref de] }
  dsimp only at N2 F2 ⊢
  clear N₁
  repeat' (first | walk1 | (dsimp only; walk1) | walk_at "THEN")
  show wpAny _ _ (call (.builtin "sorted") [.ref h₁.objs.size] [(Str.ofString "key", .ref 469)]) _ _ _
  have hsz : es.size = xs.length := by have := congrArg List.length hvals; simpa using this
  refine sorted_vals (d := de) (es := es) (ep := ep) (hA.deeper.le (by decide)) X T F2 N2 ⟨_, (N2 _ (.head _)).1, rfl, rfl⟩ (hraw.at fun o z => Heap.get?_push_of_some _ z) (by omega) (fun i v hv => ?_) fun D c h3 tk3 F3 N3 l3 => ?_
  · rw [hvals] at hv
    obtain ⟨hl, hrow⟩ := hr
    have hi : i < ps.length := by rw [← hl]; exact (List.getElem?_eq_some_iff.mp hv).1
    obtain ⟨u, hu, a, v1, v2, v3, rfl, hm⟩ := hrow i ps[i] (List.getElem?_eq_getElem hi)
    rw [hv] at hu
    cases hu
    exact ⟨a, v1, _, _, rfl, .tail _ (.tail _ (.tail _ (.tail _ (List.mem_append_left _ hm))))⟩
  · rw [hvals] at N3
    repeat' (first | walk1 | (dsimp only; walk1) | walk_at "THEN")
    have hDL : D ≠ L := Nat.ne_of_gt (l3 (L, oL) (by first | walk_at "MEM" | simp))
    have o := out_any F N hL F3 N3 (by first | walk_at "MEM" | simp) (fun p hp => by first | walk_at "MEM" | simp [hp])
    exact ret D c _ _ o.1 fun p hp => by
      refine mem_case hp ?_ fun p hp => ?_
      · exact ⟨(N3 _ (.head _)).1, hDL, (N3 _ (.head _)).2.2⟩
      · exact o.2 p hp
end
section
open PySem PySem.W PySem.Calls PyProof.Rows PySem.Spec
noncomputable abbrev walkD (w : World) (t1 t2 t3 t4 tc : Tok) (x dt : Addr) (n : Int) : Obj := dictOf [ent w (Str.ofString "table") t1 (.ref x), ent w (Str.ofString "number") t2 .none, ent w (Str.ofString "end") t3 (.int n tc), ent w (Str.ofString "told") t4 (.ref dt)] 4
theorem walk_fin {w : World} {G h1 h' : Heap} {L L' y dy dt x : Addr} {m m' : Str → Option Value} {l : List (Addr × Obj)} {p1 p2 : Addr × Obj} {oT oL : Obj} {t1 t2 t3 t4 tc : Tok} {n : Int} (F1 : Fr G L h1 m) (N1 : News G L h1 ((y, instObj 499 dy) :: (dy, emptyDict) :: l)) (hL : h1.get? L = some oL) (F' : Fr G L' h' m')
    (N3 : News G L' h' ((dt, oT) :: p1 :: p2 :: (y, instObj 499 dy) :: (dy, walkD w t1 t2 t3 t4 tc x dt n) :: (l ++ [(L, oL)]))) (hx : AllLt dt (l ++ [(L, oL)])) : Fr G L h' m ∧ News G L h' ((dy, walkD w t1 t2 t3 t4 tc x dt n) :: (dt, oT) :: (y, instObj 499 dy) :: l) := by
  refine ⟨fr_out F1 hL F' (N3 (L, oL) (by first | walk_at "MEM" | simp)).1, fun p hp => ?_⟩
  refine mem_case hp ?_ fun p hp => ?_
  · exact ⟨(N3 _ (by first | walk_at "MEM" | simp)).1, (N1 _ (.tail _ (.head _))).2⟩
  · refine mem_case hp ?_ fun p hp => ?_
    · exact ⟨(N3 _ (.head _)).1, Nat.ne_of_gt (allLt_mem hx (p := (L, oL)) (by first | walk_at "MEM" | simp)), (N3 _ (.head _)).2.2⟩
    · refine mem_case hp ?_ fun p hp => ?_
      · exact ⟨(N3 _ (by first | walk_at "MEM" | simp)).1, (N1 _ (.head _)).2⟩
      · exact ⟨(N3 p (by first | walk_at "MEM" | simp [hp])).1, (N1 p (.tail _ (.tail _ hp))).2⟩
set_option maxHeartbeats 1000000 in
theorem walk_new {w : World} {mean : ExcName → Option Value} {mg mb : Str → Option Value} {G : Heap} {A : Around} {h : Heap} {g : Array GenState} {dr : Drawn} {tk : Nat} {os : OsState} {L x dx may de : Addr} {m : Str → Option Value} {l : List (Addr × Obj)} {n : Int} {t1 t2 t3 tc : Tok} {Q E : Value → Shared → Prop}
    (hA : Rm A 6) (X : (KP w.params).In G) (T : Top topProg lsT mean mg mb G) (F : Fr G L h m) (N : News G L h l) (hx : (x, instObj 458 dx) ∈ l) (hdx : (dx, tabD w t1 t2 t3 tc may de n) ∈ l)
    (ret : ∀ y dy dt oT u1 u2 u3 u4 uc h' tk', (∀ p ∈ l, p.1 < dy) → @LT.lt Nat _ dy y → @LT.lt Nat _ y dt → (dt == sysModules) = false → oT.IsDictOf (intKind pw w) [] → Fr G L h' m → News G L h' ((dy, walkD w u1 u2 u3 u4 uc x dt n) :: (dt, oT) :: (y, instObj 499 dy) :: l) → Q (.ref y) ⟨h', g, dr, tk', os⟩) :
    wpAny (model pw w) A (call (.ref 499) [.ref x]) Q E ⟨h, g, dr, tk, os⟩ := by
  refine wpAny_call (make_K (s := ⟨h, g, dr, tk, os⟩) (fI := 484) F N (X.keeps F.keep) (by k_is) (by k_is) (by k_is) fun y dy h1 F1 N1 l1 ly => ?_)
  have hA1 := hA.made 499 [.ref x]
  refine callE (s := ⟨h1, g, dr, tk, os⟩) (binds := [(Str.ofString "self", .ref y), (Str.ofString "table", .ref x), (Str.ofString "number", .none)]) X T F1 (Nat.lt_of_le_of_lt (Nat.le_add_right _ _) hA1.dp) (by k_is) (by k_is) (binds_K (X.keeps F1.keep) rfl (by k_is) rfl rfl rfl) (locs rfl) rfl rfl rfl (by decide) fun L' h₁ oL E' hL eL F₁ k₁ => ?_
  have N₁ : News G L' h₁ ((x, instObj 458 dx) :: (dx, tabD w t1 t2 t3 tc may de n) :: (y, instObj 499 dy) :: (dy, emptyDict) :: (l ++ [(L, oL)])) := fun p hp => by
    have N₀ : News G L' h₁ ((y, instObj 499 dy) :: (dy, emptyDict) :: (l ++ [(L, oL)])) := news_in F1 N1 hL eL k₁
    refine mem_case hp ?_ fun p hp => ?_
    · exact N₀ _ (by first | walk_at "MEM" | simp [hx])
    · refine mem_case hp ?_ fun p hp => ?_
      · exact N₀ _ (by first | walk_at "MEM" | simp [hdx])
      · exact N₀ p hp
  have lx1 : @LT.lt Nat _ dy y := ly
  have xy : @LT.lt Nat _ x dy := l1 _ hx
  have dxy : @LT.lt Nat _ dx dy := l1 _ hdx
  have od : ∀ p ∈ l ++ [(L, oL)], p.1 ≠ dy := fun p hp => by
    rcases List.mem_append.mp hp with hp | hp
    · exact Nat.ne_of_lt (l1 p hp)
    · rw [List.mem_singleton.mp hp]; exact fun q => (N1 _ (.tail _ (.head _))).2.1 q.symm
  try dsimp only
  repeat' (first | walk1 | (dsimp only; walk1) | walk_at "THEN")
  refine ⟨rfl, ?_⟩
  have hlt : ∀ {dt : Addr}, (x < dt ∧ dx < dt ∧ y < dt ∧ dy < dt ∧ AllLt dt (l ++ [(L, oL)])) → AllLt dt (l ++ [(L, oL)]) := fun h => h.2.2.2.2
  have hlt2 : ∀ {dt : Addr}, (x < dt ∧ dx < dt ∧ y < dt ∧ dy < dt ∧ AllLt dt (l ++ [(L, oL)])) → @LT.lt Nat _ y dt := fun h => h.2.2.1
  refine (fun (z : _ ∧ _) => ret y dy _ _ _ _ _ _ _ _ _ l1 ly ?_ ?_ ?_ z.1 z.2) (walk_fin F1 N1 hL (by assumption) (by assumption) (hlt (by assumption)))
  · exact hlt2 (by assumption)
  · assumption
  · assumption
theorem compT_all {prog : Program} {w : World} {A : Around} {h₀ : Heap} {L : Addr} {m : Str → Option Value} {env : Env} {ct elt : Expr} {x : Str} {scope : Scope} {cl : List (Str × Addr)} {s : Shared} {S : List (Addr × Obj) → Prop} {P : Nat → Value → Prop} {Fin : List Value → List (Addr × Obj) → Prop} {n : Nat} {news : List (Addr × Obj)}
    (J : Nat → List Value → List (Addr × Obj) → Prop) (h0 : J 0 [] news)
    (turn : ∀ i ys news, i < n → J i ys news → ∀ v I oI C oC D m₂ h tk (E' : Value → Shared → Prop), P i v → LCg.NsObj oC m₂ → m₂ x = some v → Fr h₀ L h m → News h₀ L h ((I, oI) :: (C, oC) :: (D, LCg.lst ys) :: news) → LCg.Off3 I C D news → ((@Ne Nat I C) ∧ (@Ne Nat I D) ∧ (@Ne Nat C D)) →
      wpAny (model prog w) A (isTrue ct (compEnvC scope cl C env) (eval ct (compEnvC scope cl C env))) (fun ok s' => if ok = true then
        wpAny (model prog w) A (eval elt (compEnvC scope cl C env)) (fun y s₂ => Halt (LCg.CompEnd h₀ L m { s with heap := h, toks := tk } I oI C oC D (LCg.lst ys) S (fun y news' => J (i + 1) (ys ++ [y]) news') y s₂)) E' s'
        else Halt (LCg.CompEnd h₀ L m { s with heap := h, toks := tk } I oI C oC D (LCg.lst ys) S (fun _ news' => J (i + 1) ys news') Value.none s')) E' { s with heap := h, toks := tk })
    (fin : ∀ ys news, J n ys news → Fin ys news) : LCt.CompRestT prog w A h₀ L m env ct elt x scope cl s S P Fin n 0 [] news := by
  have key : ∀ k i ys news, k + i = n → J i ys news → LCt.CompRestT prog w A h₀ L m env ct elt x scope cl s S P Fin k i ys news := by
    intro k
    induction k with
    | zero =>
      intro i ys news e j
      obtain rfl : i = n := by omega
      exact fin _ _ j
    | succ k ih =>
      intro i ys news e j
      refine LCt.CompRestT.succ fun v I oI C oC D m₂ h tk E' p1 p2 p3 F N off ne => ?_
      refine wpAny_mono (turn i ys news (by omega) j v I oI C oC D m₂ h tk E' p1 p2 p3 F N off ne) (fun ok s₂ z => ?_) fun _ _ z => z
      cases ok with
      | true =>
        refine wpAny_mono z (fun y s₃ z => ?_) fun _ _ z => z
        obtain ⟨h', tk', news', a, b, c, d, e', f⟩ := halt z
        exact ⟨h', tk', news', a, b, c, d, e', ih _ _ _ (by omega) f⟩
      | false =>
        obtain ⟨h', tk', news', a, b, c, d, e', f⟩ := halt z
        exact ⟨h', tk', news', a, b, c, d, e', ih _ _ _ (by omega) f⟩
  exact key n 0 [] news (by omega) h0
theorem take_yes {vs : List Value} {i : Nat} {v : Value} {nn : Int} (h : vs[i]? = some v) (hi : (i : Int) < nn) : (vs.take i).take nn.toNat ++ [v] = (vs.take (i + 1)).take nn.toNat := by
  have h1 : i < nn.toNat := Int.lt_toNat.mpr hi
  rw [List.take_of_length_le (by rw [List.length_take]; exact Nat.le_trans (Nat.min_le_left _ _) (Nat.le_of_lt h1)), List.take_of_length_le (l := vs.take (i + 1)) (by rw [List.length_take]; exact Nat.le_trans (Nat.min_le_left _ _) h1), List.take_add_one, h]
  rfl
theorem take_no {vs : List Value} {i : Nat} {nn : Int} (hi : ¬ (i : Int) < nn) : (vs.take i).take nn.toNat = (vs.take (i + 1)).take nn.toNat := by
  have h1 : nn.toNat ≤ i := Int.toNat_le.mpr (Int.not_lt.mp hi)
  rw [List.take_take, List.take_take, Nat.min_eq_left h1, Nat.min_eq_left (Nat.le_succ_of_le h1)]
set_option maxHeartbeats 1000000 in
theorem left_ok {w : World} {mean : ExcName → Option Value} {mg mb : Str → Option Value} {G : Heap} {A : Around} {h : Heap} {g : Array GenState} {dr : Drawn} {tk : Nat} {os : OsState} {L x dx may de y dy dt : Addr} {m : Str → Option Value} {l : List (Addr × Obj)} {n nn : Int} {t1 t2 t3 tc u1 u2 u3 u4 uc : Tok} {oE oT : Obj} {xs : List (Int × Addr × Value)} {ps : List (Int × Int)} {Q E : Value → Shared → Prop}
    (hA : Rm A 20) (X : (KP w.params).In G) (T : Top topProg lsT mean mg mb G) (F : Fr G L h m) (N : News G L h l) (hx : (x, instObj 458 dx) ∈ l) (hdx : (dx, tabD w t1 t2 t3 tc may de n) ∈ l) (hde : (de, oE) ∈ l) (e : EntO w xs oE) (hz : xs.length < 64) (hsm : (de == sysModules) = false) (hr : Rows l (xs.map (·.2.2)) ps)
    (hy : (y, instObj 499 dy) ∈ l) (hdy : (dy, walkD w u1 u2 u3 u4 uc x dt nn) ∈ l) (hdt : (dt, oT) ∈ l) (hT : oT.IsDictOf (intKind pw w) []) (hsm2 : (dt == sysModules) = false)
    (ret : ∀ D c h' tk', Fr G L h' m → News G L h' ((D, PySem.W.listOf ((xs.map (·.2.2)).take nn.toNat).toArray c) :: l) → Q (.ref D) ⟨h', g, dr, tk', os⟩) :
    wpAny (model pw w) A (call (.ref 489) [.ref y]) Q E ⟨h, g, dr, tk, os⟩ := by
  refine wpAny_call (callCE (s := ⟨h, g, dr, tk, os⟩) (binds := [(Str.ofString "self", .ref y)]) X T F (Nat.lt_of_le_of_lt (Nat.le_add_right _ _) hA.dp) (by k_is) (by k_is) (BindsTo.of_eq rfl) rfl (by decide +kernel) rfl rfl rfl fun L' h₁ oL tk1 cells E' hL eL F₁ NC hcn Y k₁ => ?_)
  k_cells Y
  rename_i cs ds
  have N₁ : News G L' h₁ ((L' + 1, cs) :: (y, instObj 499 dy) :: (dy, walkD w u1 u2 u3 u4 uc x dt nn) :: (dt, oT) :: (x, instObj 458 dx) :: (dx, tabD w t1 t2 t3 tc may de n) :: (de, oE) :: (l ++ [(L, oL)])) := fun p hp => by
    have N₀ := news_in F N hL eL k₁
    refine mem_all hp (all_cons ?_ (all_cons ?_ (all_cons ?_ (all_cons ?_ (all_cons ?_ (all_cons ?_ (all_cons ?_ (fun p hp => ?_))))))))
    · exact NC _ (.head _)
    · exact N₀ _ (by first | walk_at "MEM" | simp [hy])
    · exact N₀ _ (by first | walk_at "MEM" | simp [hdy])
    · exact N₀ _ (by first | walk_at "MEM" | simp [hdt])
    · exact N₀ _ (by first | walk_at "MEM" | simp [hx])
    · exact N₀ _ (by first | walk_at "MEM" | simp [hdx])
    · exact N₀ _ (by first | walk_at "MEM" | simp [hde])
    · exact N₀ p hp
  have hh : A.handled = none := hA.hh
  clear NC
  try dsimp only
  repeat' (first | walk1 | (dsimp only; walk1) | walk_at "THEN")
  refine LCt.ListComp_T (F₀ := F₁) (by with_unfolding_all rfl) (by decide) (by rfl) (by decide) (by rfl) ?_
  repeat' (first | walk1 | (dsimp only; walk1) | walk_at "THEN")
  refine Halt.mk (rows_ok (hA.deeper.le (by decide)) X T (by assumption) N₁ (.tail _ (.tail _ (.tail _ (.tail _ (.head _))))) (.tail _ (.tail _ (.tail _ (.tail _ (.tail _ (.head _)))))) (.tail _ (.tail _ (.tail _ (.tail _ (.tail _ (.tail _ (.head _))))))) e hz hsm (ps := ps) ⟨hr.1, fun i p hp => ?_⟩ fun D0 c0 h2 tk2 F2 N2 => ?_)
  · obtain ⟨u, hu, a, v1, v2, v3, rfl, hm⟩ := hr.2 i p hp
    exact ⟨_, hu, a, v1, v2, v3, rfl, by first | walk_at "MEM" | simp [hm]⟩
  refine LCt.CompSrcT.ledger (k := c0) hh F2 N2 (.head _) (by rw [List.size_toArray, List.length_map, sizeLine_eq]; omega) fun g2 => ?_
  refine compT_all (fun i ys news => news = (D0, PySem.W.listOf (xs.map (·.2.2)).toArray c0) :: (L' + 1, cs) :: (y, instObj 499 dy) :: (dy, walkD w u1 u2 u3 u4 uc x dt nn) :: (dt, oT) :: (x, instObj 458 dx) :: (dx, tabD w t1 t2 t3 tc may de n) :: (de, oE) :: (l ++ [(L, oL)]) ∧ ys = ((xs.map (·.2.2)).take i).take nn.toNat) ⟨rfl, by first | walk_at "MEM" | simp⟩ ?_ ?_
  · rintro i ys news hi ⟨rfl, rfl⟩ v I oI C oC D m2 h5 tk5 E5 hv hC hx5 F5 N5 off5 ne5
    have hv' : (xs.map (·.2.2))[i]? = some v := by simpa using hv
    have hip : i < ps.length := by rw [← hr.1]; exact (List.getElem?_eq_some_iff.mp hv').1
    obtain ⟨u, hu, a, v1, v2, v3, rfl, hm⟩ := hr.2 i ps[i] (List.getElem?_eq_getElem hip)
    rw [hv'] at hu
    cases hu
    have fi : PyProof.V.FlatPairs PyData.int ([] : List (Int × Value)) [] := .nil
    have N6 : News G L' h5 ((I, oI) :: (C, oC) :: (D, LCg.lst (((xs.map (·.2.2)).take i).take nn.toNat)) :: (a, tupO [.int (i : Nat) v1, .int ps[i].1 v2, .int ps[i].2 v3] 0) :: (D0, PySem.W.listOf (xs.map (·.2.2)).toArray c0) :: (L' + 1, cs) :: (y, instObj 499 dy) :: (dy, walkD w u1 u2 u3 u4 uc x dt nn) :: (dt, oT) :: (x, instObj 458 dx) :: (dx, tabD w t1 t2 t3 tc may de n) :: (de, oE) :: (l ++ [(L, oL)])) := fun p hp => by
      refine mem_case hp ?_ fun p hp => ?_
      · exact N5 _ (.head _)
      refine mem_case hp ?_ fun p hp => ?_
      · exact N5 _ (.tail _ (.head _))
      refine mem_case hp ?_ fun p hp => ?_
      · exact N5 _ (.tail _ (.tail _ (.head _)))
      refine mem_case hp ?_ fun p hp => ?_
      · exact N5 _ (by first | walk_at "MEM" | simp [hm])
      · exact N5 p (.tail _ (.tail _ (.tail _ hp)))
    clear N5 N2
    have hi16 : (i : Int) < 2 ^ 60 := by have := (List.getElem?_eq_some_iff.mp hv').1; rw [List.length_map] at this; omega
    repeat' (first | walk1 | (dsimp only; walk1) | walk_at "THEN")
    all_goals first
      | exact Halt.mk (LCg.CompEnd.intro (by assumption) (by assumption) ((D0, PySem.W.listOf (xs.map (·.2.2)).toArray c0) :: (L' + 1, cs) :: (y, instObj 499 dy) :: (dy, walkD w u1 u2 u3 u4 uc x dt nn) :: (dt, oT) :: (x, instObj 458 dx) :: (dx, tabD w t1 t2 t3 tc may de n) :: (de, oE) :: (l ++ [(L, oL)])) (fun p hp => by
          first | (refine sub_at ?_ hp; walk_at "SUB") | (simp only [List.mem_cons] at hp ⊢; grind)) off5 (.inr ⟨_, .head _, rfl, _, rfl⟩) ⟨rfl, take_yes hv' (by assumption)⟩)
      | exact Halt.mk (LCg.CompEnd.intro (by assumption) (by assumption) ((D0, PySem.W.listOf (xs.map (·.2.2)).toArray c0) :: (L' + 1, cs) :: (y, instObj 499 dy) :: (dy, walkD w u1 u2 u3 u4 uc x dt nn) :: (dt, oT) :: (x, instObj 458 dx) :: (dx, tabD w t1 t2 t3 tc may de n) :: (de, oE) :: (l ++ [(L, oL)])) (fun p hp => by
          first | (refine sub_at ?_ hp; walk_at "SUB") | (simp only [List.mem_cons] at hp ⊢; grind)) off5 (.inr ⟨_, .head _, rfl, _, rfl⟩) ⟨rfl, take_no (by assumption)⟩)
  · rintro ys news ⟨rfl, rfl⟩
    intro D h8 tk8 F8 N8 o8
    repeat' (first | walk1 | (dsimp only; walk1) | walk_at "THEN")
    have mL : (L, oL) ∈ (D0, PySem.W.listOf (xs.map (·.2.2)).toArray c0) :: (L' + 1, cs) :: (y, instObj 499 dy) :: (dy, walkD w u1 u2 u3 u4 uc x dt nn) :: (dt, oT) :: (x, instObj 458 dx) :: (dx, tabD w t1 t2 t3 tc may de n) :: (de, oE) :: (l ++ [(L, oL)]) := by simp
    have o := out_any F N hL F8 N8 (.tail _ mL) (fun p hp => by first | walk_at "MEM" | simp [hp])
    have ev : (LCg.lst ((List.take (List.map (fun x => x.2.2) xs).toArray.size (xs.map (·.2.2))).take nn.toNat)) = PySem.W.listOf ((xs.map (·.2.2)).take nn.toNat).toArray ((xs.map (·.2.2)).take nn.toNat).length := by
      have e1 : List.take (List.map (fun x => x.2.2) xs).toArray.size (xs.map (·.2.2)) = xs.map (·.2.2) := by rw [List.size_toArray, List.take_length]
      rw [e1]
    have g8 := (N8 _ (.head _)).1
    rw [ev] at g8
    refine ret D ((xs.map (·.2.2)).take nn.toNat).length _ _ o.1 fun p hp => ?_
    refine mem_case hp ?_ fun p hp => ?_
    · refine ⟨g8, fun q => ?_, (N8 _ (.head _)).2.2⟩
      have e1 := (N8 _ (.tail _ mL)).1
      have q' : D = L := q
      rw [q', e1] at g8
      obtain ⟨oo, es, ep, a1, b1, _⟩ := F.ns
      rw [hL] at a1
      cases a1
      rw [congrArg Obj.data (Option.some.inj g8)] at b1
      cases b1
    · exact o.2 p hp
end
section
open PySem PySem.W PySem.Calls PyProof.Rows PySem.Spec
local macro_rules | `(tactic| walk_at "compareOp NotEq ref ref") => `(tactic| (refine ne_dataH (by ke_read) (by ke_read) (by ke_shaped) (by ke_shaped) (by assumption) ?_; ke_norm))
local macro_rules | `(tactic| walk_at "call builtin:list.append") => `(tactic| (with_reducible refine halt ?_))
noncomputable abbrev chanD (w : World) (t1 t2 t3 t4 t5 tr : Tok) (r : Int) (b sn rc : Addr) : Obj := dictOf [ent w (Str.ofString "room") t1 (.int r tr), ent w (Str.ofString "buffer") t2 (.ref b), ent w (Str.ofString "senders") t3 (.ref sn), ent w (Str.ofString "receivers") t4 (.ref rc), ent w (Str.ofString "closed") t5 (.bool false)] 5
theorem chan_fin {w : World} {G h1 h' : Heap} {L L' ch dc b sn rc : Addr} {m m' : Str → Option Value} {l : List (Addr × Obj)} {oL : Obj} {t1 t2 t3 t4 t5 tr : Tok} {r : Int} (F1 : Fr G L h1 m) (N1 : News G L h1 ((ch, instObj 372 dc) :: (dc, emptyDict) :: l)) (hL : h1.get? L = some oL) (F' : Fr G L' h' m')
    (N3 : News G L' h' ((rc, PySem.W.listOf #[] 0) :: (sn, PySem.W.listOf #[] 0) :: (b, PySem.W.listOf #[] 0) :: (ch, instObj 372 dc) :: (dc, chanD w t1 t2 t3 t4 t5 tr r b sn rc) :: (l ++ [(L, oL)]))) (x1 : AllLt b (l ++ [(L, oL)])) (x2 : AllLt sn (l ++ [(L, oL)])) (x3 : AllLt rc (l ++ [(L, oL)])) :
    Fr G L h' m ∧ News G L h' ((rc, PySem.W.listOf #[] 0) :: (sn, PySem.W.listOf #[] 0) :: (b, PySem.W.listOf #[] 0) :: (ch, instObj 372 dc) :: (dc, chanD w t1 t2 t3 t4 t5 tr r b sn rc) :: l) := by
  have mL : (L, oL) ∈ l ++ [(L, oL)] := by simp
  refine ⟨fr_out F1 hL F' (N3 (L, oL) (by first | walk_at "MEM" | simp)).1, fun p hp => ?_⟩
  refine mem_case hp ?_ fun p hp => ?_
  · exact ⟨(N3 _ (.head _)).1, Nat.ne_of_gt (allLt_mem x3 mL), (N3 _ (.head _)).2.2⟩
  refine mem_case hp ?_ fun p hp => ?_
  · exact ⟨(N3 _ (.tail _ (.head _))).1, Nat.ne_of_gt (allLt_mem x2 mL), (N3 _ (.tail _ (.head _))).2.2⟩
  refine mem_case hp ?_ fun p hp => ?_
  · exact ⟨(N3 _ (.tail _ (.tail _ (.head _)))).1, Nat.ne_of_gt (allLt_mem x1 mL), (N3 _ (.tail _ (.tail _ (.head _)))).2.2⟩
  refine mem_case hp ?_ fun p hp => ?_
  · exact ⟨(N3 _ (by first | walk_at "MEM" | simp)).1, (N1 _ (.head _)).2⟩
  refine mem_case hp ?_ fun p hp => ?_
  · exact ⟨(N3 _ (by first | walk_at "MEM" | simp)).1, (N1 _ (.tail _ (.head _))).2⟩
  · exact ⟨(N3 p (by first | walk_at "MEM" | simp [hp])).1, (N1 p (.tail _ (.tail _ hp))).2⟩
set_option maxHeartbeats 1000000 in
theorem chan_new {w : World} {mean : ExcName → Option Value} {mg mb : Str → Option Value} {G : Heap} {A : Around} {h : Heap} {g : Array GenState} {dr : Drawn} {tk : Nat} {os : OsState} {L : Addr} {m : Str → Option Value} {l : List (Addr × Obj)} {r : Int} {tr : Tok} {Q E : Value → Shared → Prop}
    (hA : Rm A 6) (X : (KP w.params).In G) (T : Top topProg lsT mean mg mb G) (F : Fr G L h m) (N : News G L h l)
    (ret : ∀ ch dc b sn rc t1 t2 t3 t4 t5 h' tk', (∀ p ∈ l, p.1 < dc) → @LT.lt Nat _ dc ch → @LT.lt Nat _ ch b → @LT.lt Nat _ b sn → @LT.lt Nat _ sn rc → Fr G L h' m → News G L h' ((rc, PySem.W.listOf #[] 0) :: (sn, PySem.W.listOf #[] 0) :: (b, PySem.W.listOf #[] 0) :: (ch, instObj 372 dc) :: (dc, chanD w t1 t2 t3 t4 t5 tr r b sn rc) :: l) → Q (.ref ch) ⟨h', g, dr, tk', os⟩) :
    wpAny (model pw w) A (call (.ref 372) [.int r tr]) Q E ⟨h, g, dr, tk, os⟩ := by
  refine wpAny_call (make_K (s := ⟨h, g, dr, tk, os⟩) (fI := 315) F N (X.keeps F.keep) (by k_is) (by k_is) (by k_is) fun ch dc h1 F1 N1 l1 lc => ?_)
  have hA1 := hA.made 372 [.int r tr]
  refine callE (s := ⟨h1, g, dr, tk, os⟩) (binds := [(Str.ofString "self", .ref ch), (Str.ofString "room", .int r tr)]) X T F1 (Nat.lt_of_le_of_lt (Nat.le_add_right _ _) hA1.dp) (by k_is) (by k_is) (BindsTo.of_eq rfl) (locs rfl) rfl rfl rfl (by decide) fun L' h₁ oL E' hL eL F₁ k₁ => ?_
  have N₁ : News G L' h₁ ((ch, instObj 372 dc) :: (dc, emptyDict) :: (l ++ [(L, oL)])) := news_in F1 N1 hL eL k₁
  have lc1 : @LT.lt Nat _ dc ch := lc
  have od : ∀ p ∈ l ++ [(L, oL)], p.1 ≠ dc := fun p hp => by
    rcases List.mem_append.mp hp with hp | hp
    · exact Nat.ne_of_lt (l1 p hp)
    · rw [List.mem_singleton.mp hp]; exact fun q => (N1 _ (.tail _ (.head _))).2.1 q.symm
  try dsimp only
  repeat' (first | walk1 | (dsimp only; walk1) | walk_at "THEN")
  refine ⟨rfl, ?_⟩
  have h1 : ∀ {b : Addr}, (ch < b ∧ dc < b ∧ AllLt b (l ++ [(L, oL)])) → AllLt b (l ++ [(L, oL)]) ∧ @LT.lt Nat _ ch b := fun h => ⟨h.2.2, h.1⟩
  have h2 : ∀ {b sn : Addr}, (b < sn ∧ ch < sn ∧ dc < sn ∧ AllLt sn (l ++ [(L, oL)])) → AllLt sn (l ++ [(L, oL)]) ∧ @LT.lt Nat _ b sn := fun h => ⟨h.2.2.2, h.1⟩
  have h3 : ∀ {b sn rc : Addr}, (sn < rc ∧ b < rc ∧ ch < rc ∧ dc < rc ∧ AllLt rc (l ++ [(L, oL)])) → AllLt rc (l ++ [(L, oL)]) ∧ @LT.lt Nat _ sn rc := fun h => ⟨h.2.2.2.2, h.1⟩
  refine (fun (z : _ ∧ _) => ret ch dc _ _ _ _ _ _ _ _ _ _ l1 lc ?_ ?_ ?_ z.1 z.2) (chan_fin F1 N1 hL (by assumption) (by assumption) (h1 (by assumption)).1 (h2 (by assumption)).1 (h3 (by assumption)).1)
  · exact (h1 (by assumption)).2
  · exact (h2 (by assumption)).2
  · exact (h3 (by assumption)).2
end
end
section
open PySem PySem.W PySem.Calls PyProof.Rows PySem.Spec
local macro_rules | `(tactic| walk_at "compareOp NotEq ref ref") => `(tactic| (refine ne_dataH (by ke_read) (by ke_read) (by ke_shaped) (by ke_shaped) (by assumption) ?_; ke_norm))
local macro_rules | `(tactic| walk_at "call builtin:list.append") => `(tactic| (with_reducible refine halt ?_))
theorem fr_no_seq {G h : Heap} {L : Addr} {m : Str → Option Value} {oL : Obj} (F : Fr G L h m) (hL : h.get? L = some oL) {a : Array Value} {b : Nat} (e : oL.data = .seq a b) : False := by
  obtain ⟨oo, es, ep, a1, b1, _⟩ := F.ns
  rw [hL] at a1
  cases a1
  rw [e] at b1
  cases b1
/-- back in the caller's frame: whatever lies on the callee's ledger and is the caller's address or a row of values -/
theorem out_gen {G : Heap} {L L' : Addr} {h h' : Heap} {m m' : Str → Option Value} {l l' l2 : List (Addr × Obj)} {oL : Obj} (F : Fr G L h m) (N : News G L h l) (hL : h.get? L = some oL)
    (F' : Fr G L' h' m') (N' : News G L' h' l') (hl : (L, oL) ∈ l') (hn : ∀ p ∈ l2, p ∈ l' ∧ ((∃ o, (p.1, o) ∈ l) ∨ ∃ a b, p.2.data = .seq a b)) : Fr G L h' m ∧ News G L h' l2 := by
  refine ⟨fr_out F hL F' (N' _ hl).1, fun p hp => ?_⟩
  obtain ⟨a, b⟩ := hn p hp
  refine ⟨(N' p a).1, ?_, (N' p a).2.2⟩
  rcases b with ⟨o, b⟩ | ⟨x, y, b⟩
  · exact (N _ b).2.1
  · intro q
    have e1 := (N' p a).1
    rw [q, (N' _ hl).1] at e1
    exact fr_no_seq F hL (Option.some.inj e1 ▸ b)
set_option maxHeartbeats 1000000 in
/-- offer where there is room: the value goes to the buffer -/
theorem offer_room {w : World} {mean : ExcName → Option Value} {mg mb : Str → Option Value} {G : Heap} {A : Around} {h : Heap} {g : Array GenState} {dr : Drawn} {tk : Nat} {os : OsState} {L ch dc b sn rc wt : Addr} {m : Str → Option Value} {l : List (Addr × Obj)} {t1 t2 t3 t4 t5 tr : Tok} {bs : List Value} {k : Nat} {a v n1 n2 : Value} {Q E : Value → Shared → Prop}
    (hA : Rm A 8) (X : (KP w.params).In G) (T : Top topProg lsT mean mg mb G) (F : Fr G L h m) (N : News G L h ((b, PySem.W.listOf bs.toArray k) :: l)) (ob : ∀ p ∈ l, p.1 ≠ b)
    (hch : (ch, instObj 372 dc) ∈ l) (hdc : (dc, chanD w t1 t2 t3 t4 t5 tr 9 b sn rc) ∈ l) (hrc : (rc, PySem.W.listOf #[] 0) ∈ l) (hwt : (wt, tupO [a, v, n1, n2] 0) ∈ l) (hbs : bs.length < 9)
    (ret : ∀ D h' tk', Fr G L h' m → News G L h' ((b, PySem.W.listOf (bs ++ [v]).toArray (k + 1)) :: l) → Q (.ref D) ⟨h', g, dr, tk', os⟩) :
    wpAny (model pw w) A (call (.ref 336) [.ref ch, .ref wt]) Q E ⟨h, g, dr, tk, os⟩ := by
  refine wpAny_call (callE (s := ⟨h, g, dr, tk, os⟩) (binds := [(Str.ofString "self", .ref ch), (Str.ofString "waiter", .ref wt)]) X T F (Nat.lt_of_le_of_lt (Nat.le_add_right _ _) hA.dp) (by k_is) (by k_is) (BindsTo.of_eq rfl) (locs rfl) rfl rfl rfl (by decide) fun L' h₁ oL E' hL eL F₁ k₁ => ?_)
  have N₁ : News G L' h₁ ((b, PySem.W.listOf bs.toArray k) :: (ch, instObj 372 dc) :: (dc, chanD w t1 t2 t3 t4 t5 tr 9 b sn rc) :: (rc, PySem.W.listOf #[] 0) :: (wt, tupO [a, v, n1, n2] 0) :: (l ++ [(L, oL)])) := fun p hp => by
    have N₀ := news_in F N hL eL k₁
    refine mem_all hp (all_cons ?_ (all_cons ?_ (all_cons ?_ (all_cons ?_ (all_cons ?_ (fun p hp => ?_))))))
    · exact N₀ _ (by first | walk_at "MEM" | simp)
    · exact N₀ _ (by first | walk_at "MEM" | simp [hch])
    · exact N₀ _ (by first | walk_at "MEM" | simp [hdc])
    · exact N₀ _ (by first | walk_at "MEM" | simp [hrc])
    · exact N₀ _ (by first | walk_at "MEM" | simp [hwt])
    · exact N₀ p (List.mem_cons_of_mem _ hp)
  have hh : A.handled = none := hA.hh
  have hu : A.units + 3 + 64 < cLine := ar_un (n := 67) hA.un (by decide)
  have hb60 : ((bs.toArray.size : Nat) : Int) < 2 ^ 60 := by rw [List.size_toArray]; omega
  try dsimp only
  repeat' (first | walk1 | (dsimp only; walk1) | walk_at "THEN")
  rename News _ _ _ _ => N2
  rename Fr _ _ _ _ => F2
  rename _ ∧ _ => lb
  refine Halt.mk (append_K (its := bs.toArray) (n := k) F2 N2 (.tail (Nat.ne_of_gt lb.1) (.head (by
    intro p hp
    refine mem_all hp (all_cons ?_ (all_cons ?_ (all_cons ?_ (all_cons ?_ (fun p hp => ?_)))))
    · exact ob _ hch
    · exact ob _ hdc
    · exact ob _ hrc
    · exact ob _ hwt
    rcases List.mem_append.mp hp with hp | hp
    · exact ob p hp
    · rw [List.mem_singleton.mp hp]; exact fun q => (N _ (.head _)).2.1 q.symm))) (fun h5 F5 N5 => ?_) (by rw [List.size_toArray, sizeLine_eq]; omega))
  rw [List.push_toArray] at N5
  repeat' (first | walk1 | (dsimp only; walk1) | walk_at "THEN")
  rename News _ _ _ _ => N6
  rename Fr _ _ _ _ => F6
  have o := out_gen (l2 := (b, PySem.W.listOf (bs ++ [v]).toArray (k + 1)) :: l) F N hL F6 N6 (by first | walk_at "MEM" | simp) (fun p hp => by
    refine mem_case hp ?_ fun p hp => ?_
    · exact ⟨by first | walk_at "MEM" | simp, .inl ⟨_, .head _⟩⟩
    · exact ⟨by first | walk_at "MEM" | simp [hp], .inl ⟨_, .tail _ hp⟩⟩)
  exact ret _ _ _ o.1 o.2
set_option maxHeartbeats 1000000 in
/-- offer where there is no room: the waiter goes to the senders -/
theorem offer_wait {w : World} {mean : ExcName → Option Value} {mg mb : Str → Option Value} {G : Heap} {A : Around} {h : Heap} {g : Array GenState} {dr : Drawn} {tk : Nat} {os : OsState} {L ch dc b sn rc wt : Addr} {m : Str → Option Value} {l : List (Addr × Obj)} {t1 t2 t3 t4 t5 tr : Tok} {a v n1 n2 : Value} {Q E : Value → Shared → Prop}
    (hA : Rm A 8) (X : (KP w.params).In G) (T : Top topProg lsT mean mg mb G) (F : Fr G L h m) (N : News G L h ((sn, PySem.W.listOf #[] 0) :: l)) (ob : ∀ p ∈ l, p.1 ≠ sn)
    (hch : (ch, instObj 372 dc) ∈ l) (hdc : (dc, chanD w t1 t2 t3 t4 t5 tr 0 b sn rc) ∈ l) (hrc : (rc, PySem.W.listOf #[] 0) ∈ l) (hb : (b, PySem.W.listOf #[] 0) ∈ l) (hwt : (wt, tupO [a, v, n1, n2] 0) ∈ l)
    (ret : ∀ D h' tk', Fr G L h' m → News G L h' ((sn, PySem.W.listOf #[.ref wt] 1) :: l) → Q (.ref D) ⟨h', g, dr, tk', os⟩) :
    wpAny (model pw w) A (call (.ref 336) [.ref ch, .ref wt]) Q E ⟨h, g, dr, tk, os⟩ := by
  refine wpAny_call (callE (s := ⟨h, g, dr, tk, os⟩) (binds := [(Str.ofString "self", .ref ch), (Str.ofString "waiter", .ref wt)]) X T F (Nat.lt_of_le_of_lt (Nat.le_add_right _ _) hA.dp) (by k_is) (by k_is) (BindsTo.of_eq rfl) (locs rfl) rfl rfl rfl (by decide) fun L' h₁ oL E' hL eL F₁ k₁ => ?_)
  have N₁ : News G L' h₁ ((sn, PySem.W.listOf #[] 0) :: (b, PySem.W.listOf #[] 0) :: (ch, instObj 372 dc) :: (dc, chanD w t1 t2 t3 t4 t5 tr 0 b sn rc) :: (rc, PySem.W.listOf #[] 0) :: (wt, tupO [a, v, n1, n2] 0) :: (l ++ [(L, oL)])) := fun p hp => by
    have N₀ := news_in F N hL eL k₁
    refine mem_all hp (all_cons ?_ (all_cons ?_ (all_cons ?_ (all_cons ?_ (all_cons ?_ (all_cons ?_ (fun p hp => ?_)))))))
    · exact N₀ _ (by first | walk_at "MEM" | simp)
    · exact N₀ _ (by first | walk_at "MEM" | simp [hb])
    · exact N₀ _ (by first | walk_at "MEM" | simp [hch])
    · exact N₀ _ (by first | walk_at "MEM" | simp [hdc])
    · exact N₀ _ (by first | walk_at "MEM" | simp [hrc])
    · exact N₀ _ (by first | walk_at "MEM" | simp [hwt])
    · exact N₀ p (List.mem_cons_of_mem _ hp)
  have hh : A.handled = none := hA.hh
  have hu : A.units + 3 + 64 < cLine := ar_un (n := 67) hA.un (by decide)
  try dsimp only
  repeat' (first | walk1 | (dsimp only; walk1) | walk_at "THEN")
  rename News _ _ _ _ => N2
  rename Fr _ _ _ _ => F2
  rename _ ∧ _ => lb
  refine Halt.mk (append_K (its := #[]) (n := 0) F2 N2 (.tail (Nat.ne_of_gt lb.1) (.head (by
    intro p hp
    refine mem_all hp (all_cons ?_ (all_cons ?_ (all_cons ?_ (all_cons ?_ (all_cons ?_ (fun p hp => ?_))))))
    · exact ob _ hb
    · exact ob _ hch
    · exact ob _ hdc
    · exact ob _ hrc
    · exact ob _ hwt
    rcases List.mem_append.mp hp with hp | hp
    · exact ob p hp
    · rw [List.mem_singleton.mp hp]; exact fun q => (N _ (.head _)).2.1 q.symm))) (fun h5 F5 N5 => ?_))
  repeat' (first | walk1 | (dsimp only; walk1) | walk_at "THEN")
  rename News _ _ _ _ => N6
  rename Fr _ _ _ _ => F6
  have o := out_gen (l2 := (sn, PySem.W.listOf #[.ref wt] 1) :: l) F N hL F6 N6 (by first | walk_at "MEM" | simp) (fun p hp => by
    refine mem_case hp ?_ fun p hp => ?_
    · exact ⟨by first | walk_at "MEM" | simp, .inl ⟨_, .head _⟩⟩
    · exact ⟨by first | walk_at "MEM" | simp [hp], .inl ⟨_, .tail _ hp⟩⟩)
  exact ret _ _ _ o.1 o.2
end
section
open PySem PySem.W PySem.Calls PyProof.Rows PySem.Spec
set_option maxHeartbeats 1000000 in
theorem held_var {w : World} {mean : ExcName → Option Value} {mg mb : Str → Option Value} {G : Heap} {A : Around} {h : Heap} {g : Array GenState} {dr : Drawn} {tk : Nat} {os : OsState} {L : Addr} {m : Str → Option Value} {l : List (Addr × Obj)} {t0 : Tok} {v : Value} {Q E : Value → Shared → Prop}
    (hA : Rm A 30) (X : (KP w.params).In G) (T : Top topProg lsT mean mg mb G) (F : Fr G L h m) (N : News G L h l)
    (ret : ∀ D c h' tk', Fr G L h' m → News G L h' ((D, PySem.W.listOf #[v] c) :: l) → Q (.ref D) ⟨h', g, dr, tk', os⟩) :
    wpAny (model pw w) A (call (.ref 154) [.str (Str.ofString "var") t0, v]) Q E ⟨h, g, dr, tk, os⟩ := by
  refine wpAny_call (callE (s := ⟨h, g, dr, tk, os⟩) (binds := [(Str.ofString "kind", .str (Str.ofString "var") t0), (Str.ofString "content", v)]) X T F (Nat.lt_of_le_of_lt (Nat.le_add_right _ _) hA.dp) (by k_is) (by k_is) (BindsTo.of_eq rfl) (locs rfl) rfl rfl rfl (by decide) fun L' h₁ oL E' hL eL F₁ k₁ => ?_)
  have N₁ : News G L' h₁ (l ++ [(L, oL)]) := news_in F N hL eL k₁
  try dsimp only
  repeat' (first | walk1 | (dsimp only; walk1) | walk_at "THEN")
  rename News _ _ _ _ => N6
  rename Fr _ _ _ _ => F6
  have o := out_gen (l2 := (_, PySem.W.listOf #[v] 0) :: l) F N hL F6 N6 (by first | walk_at "MEM" | simp) (fun p hp => by
    refine mem_case hp ?_ fun p hp => ?_
    · exact ⟨.head _, .inr ⟨_, _, rfl⟩⟩
    · exact ⟨by first | walk_at "MEM" | simp [hp], .inl ⟨_, hp⟩⟩)
  exact ret _ _ _ _ o.1 o.2
set_option maxHeartbeats 1000000 in
theorem held_row {w : World} {mean : ExcName → Option Value} {mg mb : Str → Option Value} {G : Heap} {A : Around} {h : Heap} {g : Array GenState} {dr : Drawn} {tk : Nat} {os : OsState} {L a : Addr} {m : Str → Option Value} {l : List (Addr × Obj)} {t0 : Tok} {vs : List Value} {k : Nat} {Q E : Value → Shared → Prop}
    (hA : Rm A 30) (X : (KP w.params).In G) (T : Top topProg lsT mean mg mb G) (F : Fr G L h m) (N : News G L h l) (ha : (a, PySem.W.listOf vs.toArray k) ∈ l) (hv : vs.length ≤ 100)
    (ret : ∀ D c h' tk', Fr G L h' m → News G L h' ((D, PySem.W.listOf vs.toArray c) :: l) → Q (.ref D) ⟨h', g, dr, tk', os⟩) :
    wpAny (model pw w) A (call (.ref 154) [.str (Str.ofString "row") t0, .ref a]) Q E ⟨h, g, dr, tk, os⟩ := by
  refine wpAny_call (callE (s := ⟨h, g, dr, tk, os⟩) (binds := [(Str.ofString "kind", .str (Str.ofString "row") t0), (Str.ofString "content", .ref a)]) X T F (Nat.lt_of_le_of_lt (Nat.le_add_right _ _) hA.dp) (by k_is) (by k_is) (BindsTo.of_eq rfl) (locs rfl) rfl rfl rfl (by decide) fun L' h₁ oL E' hL eL F₁ k₁ => ?_)
  have N₁ : News G L' h₁ ((a, PySem.W.listOf vs.toArray k) :: (l ++ [(L, oL)])) := fun p hp => (List.mem_cons.mp hp).elim (fun e => e ▸ news_in F N hL eL k₁ _ (List.mem_append_left _ ha)) (news_in F N hL eL k₁ p)
  have hh : A.handled = none := hA.hh
  try dsimp only
  repeat' (first | walk1 | (dsimp only; walk1) | walk_at "THEN")
  rename News _ _ _ _ => N6
  rename Fr _ _ _ _ => F6
  have o := out_gen (l2 := (_, PySem.W.listOf vs.toArray _) :: l) F N hL F6 N6 (by first | walk_at "MEM" | simp) (fun p hp => by
    refine mem_case hp ?_ fun p hp => ?_
    · exact ⟨.head _, .inr ⟨_, _, rfl⟩⟩
    · exact ⟨by first | walk_at "MEM" | simp [hp], .inl ⟨_, hp⟩⟩)
  exact ret _ _ _ _ o.1 o.2
local macro_rules | `(tactic| walk_at "eval ListComp") => `(tactic| (with_reducible refine halt ?_))
set_option maxHeartbeats 1000000 in
theorem held_chan {w : World} {mean : ExcName → Option Value} {mg mb : Str → Option Value} {G : Heap} {A : Around} {h : Heap} {g : Array GenState} {dr : Drawn} {tk : Nat} {os : OsState} {L ch dc b sn rc : Addr} {m : Str → Option Value} {l : List (Addr × Obj)} {t0 t1 t2 t3 t4 t5 tr : Tok} {r : Int} {bs ss us : List Value} {k k2 : Nat} {Q E : Value → Shared → Prop}
    (hA : Rm A 30) (X : (KP w.params).In G) (T : Top topProg lsT mean mg mb G) (F : Fr G L h m) (N : News G L h l) 
    (hch : (ch, instObj 372 dc) ∈ l) (hdc : (dc, chanD w t1 t2 t3 t4 t5 tr r b sn rc) ∈ l) (hb : (b, PySem.W.listOf bs.toArray k) ∈ l) (hsn : (sn, PySem.W.listOf ss.toArray k2) ∈ l) (hbl : bs.length ≤ 100) (hsl : ss.length ≤ 100)
    (hs : ss.length = us.length ∧ ∀ (i : Nat) (v : Value), us[i]? = some v → ∃ wt a n1 n2, ss[i]? = some (.ref wt) ∧ (wt, tupO [a, v, n1, n2] 0) ∈ l)
    (ret : ∀ D c h' tk', Fr G L h' m → News G L h' ((D, PySem.W.listOf (bs ++ us).toArray c) :: l) → Q (.ref D) ⟨h', g, dr, tk', os⟩) :
    wpAny (model pw w) A (call (.ref 154) [.str (Str.ofString "chan") t0, .ref ch]) Q E ⟨h, g, dr, tk, os⟩ := by
  refine wpAny_call (callE (s := ⟨h, g, dr, tk, os⟩) (binds := [(Str.ofString "kind", .str (Str.ofString "chan") t0), (Str.ofString "content", .ref ch)]) X T F (Nat.lt_of_le_of_lt (Nat.le_add_right _ _) hA.dp) (by k_is) (by k_is) (BindsTo.of_eq rfl) (locs rfl) rfl rfl rfl (by decide) fun L' h₁ oL E' hL eL F₁ k₁ => ?_)
  have N₁ : News G L' h₁ ((ch, instObj 372 dc) :: (dc, chanD w t1 t2 t3 t4 t5 tr r b sn rc) :: (b, PySem.W.listOf bs.toArray k) :: (sn, PySem.W.listOf ss.toArray k2) :: (l ++ [(L, oL)])) := fun p hp => by
    have N₀ := news_in F N hL eL k₁
    refine mem_all hp (all_cons ?_ (all_cons ?_ (all_cons ?_ (all_cons ?_ (fun p hp => ?_)))))
    · exact N₀ _ (by first | walk_at "MEM" | simp [hch])
    · exact N₀ _ (by first | walk_at "MEM" | simp [hdc])
    · exact N₀ _ (by first | walk_at "MEM" | simp [hb])
    · exact N₀ _ (by first | walk_at "MEM" | simp [hsn])
    · exact N₀ p hp
  have hh : A.handled = none := hA.hh
  try dsimp only
  repeat' (first | walk1 | (dsimp only; walk1) | walk_at "THEN")
  rename News _ _ _ _ => N2
  rename Fr _ _ _ _ => F2
  refine Halt.mk (LCg.ListComp_U (F₀ := F2) (by rfl) (by decide) (by rfl) (by decide) (by rfl) ?_)
  repeat' (first | walk1 | (dsimp only; walk1) | walk_at "THEN")
  rename_i D1 c1 h2 lb
  refine LCg.CompSrc.ledger (k := k2) hh F2 N2 (.tail _ (.tail _ (.tail _ (.tail _ (.head _))))) (by rw [List.size_toArray, sizeLine_eq]; omega) fun g' => ?_
  refine comp_all (fun i ys news => news = (D1, PySem.W.listOf bs.toArray c1) :: (ch, instObj 372 dc) :: (dc, chanD w t1 t2 t3 t4 t5 tr r b sn rc) :: (b, PySem.W.listOf bs.toArray k) :: (sn, PySem.W.listOf ss.toArray k2) :: (l ++ [(L, oL)]) ∧ ys = us.take i) ⟨rfl, by first | walk_at "MEM" | simp⟩ ?_ ?_
  · rintro i ys news hi ⟨rfl, rfl⟩ v I oI C oC D m2 h5 tk5 E5 hv hC hx5 F5 N5 off5 ne5
    have hi' : i < us.length := by rw [← hs.1]; simpa using hi
    obtain ⟨wt, a, n1, n2, hw1, hw2⟩ := hs.2 i us[i] (List.getElem?_eq_getElem hi')
    have hv' : ss[i]? = some v := by simpa using hv
    rw [hv'] at hw1
    cases hw1
    have N6 : News G L' h5 ((I, oI) :: (C, oC) :: (D, LCg.lst (us.take i)) :: (wt, tupO [a, us[i], n1, n2] 0) :: (D1, PySem.W.listOf bs.toArray c1) :: (ch, instObj 372 dc) :: (dc, chanD w t1 t2 t3 t4 t5 tr r b sn rc) :: (b, PySem.W.listOf bs.toArray k) :: (sn, PySem.W.listOf ss.toArray k2) :: (l ++ [(L, oL)])) := fun p hp => by
      refine mem_case hp ?_ fun p hp => ?_
      · exact N5 _ (.head _)
      refine mem_case hp ?_ fun p hp => ?_
      · exact N5 _ (.tail _ (.head _))
      refine mem_case hp ?_ fun p hp => ?_
      · exact N5 _ (.tail _ (.tail _ (.head _)))
      refine mem_case hp ?_ fun p hp => ?_
      · exact N5 _ (by first | walk_at "MEM" | simp [hw2])
      · exact N5 p (.tail _ (.tail _ (.tail _ hp)))
    clear N5 N2
    repeat' (first | walk1 | (dsimp only; walk1) | walk_at "THEN")
    exact Halt.mk (LCg.CompEnd.intro (by assumption) (by assumption) ((D1, PySem.W.listOf bs.toArray c1) :: (ch, instObj 372 dc) :: (dc, chanD w t1 t2 t3 t4 t5 tr r b sn rc) :: (b, PySem.W.listOf bs.toArray k) :: (sn, PySem.W.listOf ss.toArray k2) :: (l ++ [(L, oL)])) (fun p hp => by
      first | (refine sub_at ?_ hp; walk_at "SUB") | (simp only [List.mem_cons] at hp ⊢; grind)) off5 (.inr ⟨_, .tail _ (.tail _ (.tail _ (.tail _ (.head _)))), rfl, _, rfl⟩) ⟨rfl, by rw [List.take_add_one, List.getElem?_eq_getElem hi']; rfl⟩)
  · rintro ys news ⟨rfl, rfl⟩
    intro D h8 tk8 F8 N8 o8
    repeat' (first | walk1 | (dsimp only; walk1) | walk_at "THEN")
    have eu : List.take ss.toArray.size us = us := List.take_of_length_le (by rw [List.size_toArray, hs.1]; exact Nat.le_refl _)
    rw [eu] at N8
    refine add_lists (vs := bs) (ws := us) F8 N8 ⟨_, (N8 _ (.tail _ (.head _))).1, rfl, _, rfl⟩ ⟨_, (N8 _ (.head _)).1, rfl, _, rfl⟩ (fun h9 F9 N9 => ?_) (by rw [sizeLine_eq, ← hs.1]; omega)
    repeat' (first | walk1 | (dsimp only; walk1) | walk_at "THEN")
    have o := out_gen (l2 := (_, PySem.W.listOf (bs ++ us).toArray 0) :: l) F N hL F9 N9 (by first | walk_at "MEM" | simp) (fun p hp => by
      refine mem_case hp ?_ fun p hp => ?_
      · exact ⟨.head _, .inr ⟨_, _, rfl⟩⟩
      · exact ⟨by first | walk_at "MEM" | simp [hp], .inl ⟨_, hp⟩⟩)
    exact ret _ _ _ _ o.1 o.2
end
section
open PySem PySem.W PySem.Calls PyProof.Rows PySem.Spec
local macro_rules | `(tactic| walk_at "eval ListComp") => `(tactic| (with_reducible refine halt ?_))
noncomputable def flatP (ps : List (Int × Int)) : List Int := ps.flatMap fun p => [p.1, p.2]
theorem IntVs.app : ∀ {vs : List Value} {is : List Int} {us : List Value} {js : List Int}, IntVs vs is → IntVs us js → IntVs (vs ++ us) (is ++ js)
  | [], [], _, _, _, h => h
  | _ :: _, _ :: _, _, _, ⟨a, b⟩, h => ⟨a, IntVs.app b h⟩
  | [], _ :: _, _, _, h, _ => h.elim
  | _ :: _, [], _, _, h, _ => h.elim
theorem flatP_snoc {ps : List (Int × Int)} {i : Nat} (h : i < ps.length) : flatP (ps.take (i + 1)) = flatP (ps.take i) ++ [ps[i].1, ps[i].2] := by
  unfold flatP
  rw [List.take_add_one, List.getElem?_eq_getElem h, List.flatMap_append]
  rfl
local macro_rules | `(tactic| walk_at "subscriptTail") => `(tactic| (with_reducible refine halt ?_))
set_option maxHeartbeats 1000000 in
/-- a map: its rows, flat -/
theorem held_map {w : World} {mean : ExcName → Option Value} {mg mb : Str → Option Value} {G : Heap} {A : Around} {h : Heap} {g : Array GenState} {dr : Drawn} {tk : Nat} {os : OsState} {L x dx may de : Addr} {m : Str → Option Value} {l : List (Addr × Obj)} {n : Int} {t0 t1 t2 t3 tc : Tok} {oE : Obj} {xs : List (Int × Addr × Value)} {ps : List (Int × Int)} {Q E : Value → Shared → Prop}
    (hA : Rm A 30) (X : (KP w.params).In G) (T : Top topProg lsT mean mg mb G) (F : Fr G L h m) (N : News G L h l) (hx : (x, instObj 458 dx) ∈ l) (hdx : (dx, tabD w t1 t2 t3 tc may de n) ∈ l) (hde : (de, oE) ∈ l) (e : EntO w xs oE) (hz : xs.length < 64) (hsm : (de == sysModules) = false) (hr : Rows l (xs.map (·.2.2)) ps)
    (ret : ∀ D c vs h' tk', IntVs vs (flatP ps) → Fr G L h' m → News G L h' ((D, PySem.W.listOf vs.toArray c) :: l) → Q (.ref D) ⟨h', g, dr, tk', os⟩) :
    wpAny (model pw w) A (call (.ref 154) [.str (Str.ofString "map") t0, .ref x]) Q E ⟨h, g, dr, tk, os⟩ := by
  refine wpAny_call (callE (s := ⟨h, g, dr, tk, os⟩) (binds := [(Str.ofString "kind", .str (Str.ofString "map") t0), (Str.ofString "content", .ref x)]) X T F (Nat.lt_of_le_of_lt (Nat.le_add_right _ _) hA.dp) (by k_is) (by k_is) (BindsTo.of_eq rfl) (locs rfl) rfl rfl rfl (by decide) fun L' h₁ oL E' hL eL F₁ k₁ => ?_)
  have N₁ : News G L' h₁ ((dx, tabD w t1 t2 t3 tc may de n) :: (de, oE) :: (x, instObj 458 dx) :: (l ++ [(L, oL)])) := fun p hp => by
    have N₀ := news_in F N hL eL k₁
    refine mem_case hp ?_ fun p hp => ?_
    · exact N₀ _ (List.mem_append_left _ hdx)
    · refine mem_case hp ?_ fun p hp => ?_
      · exact N₀ _ (List.mem_append_left _ hde)
      · refine mem_case hp ?_ fun p hp => ?_
        · exact N₀ _ (List.mem_append_left _ hx)
        · exact N₀ p hp
  have hh : A.handled = none := hA.hh
  try dsimp only
  repeat' (first | walk1 | (dsimp only; walk1) | walk_at "THEN")
  refine Halt.mk (rows_ok (hA.deeper.le (by decide)) X T (by assumption) N₁ (.tail _ (.tail _ (.head _))) (.head _) (.tail _ (.head _)) e hz hsm (ps := ps) ⟨hr.1, fun i p hp => ?_⟩ fun D c h2 tk2 F2 N2 => ?_)
  · obtain ⟨u, hu, a, v1, v2, v3, rfl, hm⟩ := hr.2 i p hp
    exact ⟨_, hu, a, v1, v2, v3, rfl, by first | walk_at "MEM" | simp [hm]⟩
  repeat' (first | walk1 | (dsimp only; walk1) | walk_at "THEN")
  rename_i h3 F3 N3
  have hD3 : h3.IsList D (xs.map (·.2.2)).toArray := ⟨_, (N3 _ (.head _)).1, rfl, _, rfl⟩
  have hlt : D < h3.objs.size := Heap.lt_size (N3 _ (.head _)).1
  refine Halt.mk (comp2_eval (by rfl) (by rfl) (by decide) ?_)
  repeat' (first | walk1 | (dsimp only; walk1) | walk_at "THEN")
  refine Halt.mk (wpAny_pyIter_list hD3 ?_)
  have up : ∀ b o, h3.get? b = some o → (h3.push { cls := .type "list_iterator", data := .fields #[.ref D, .int 0 0] }).get? b = some o := fun b o e => Heap.get?_push_of_some _ e
  unfold Rest2
  refine comp2_block (G := G) (L := L') (l := (D, PySem.W.listOf (xs.map (·.2.2)).toArray c) :: (dx, tabD w t1 t2 t3 tc may de n) :: (de, oE) :: (x, instObj 458 dx) :: (l ++ [(L, oL)])) (by exact hh) (fun _ _ => rfl) (Src.list (by exact hh) h3.objs.size D (Nat.ne_of_lt hlt) (xs.map (·.2.2)).toArray) (by decide) rfl rfl (by decide)
    ⟨⟨_, Heap.get?_push_size _ rfl, rfl, rfl⟩, hD3.push _⟩ (fun b hb => ?_) (F3.keeps up) (N3.grown up) (fun p hp q => ?_) (fun i v new m₂ => m₂ (Str.ofString "row") = some v) (asg_name rfl rfl)
    (fun i ys l' => IntVs ys (flatP (ps.take i)) ∧ ys.length = 2 * i ∧ ∀ p ∈ (D, PySem.W.listOf (xs.map (·.2.2)).toArray c) :: (dx, tabD w t1 t2 t3 tc may de n) :: (de, oE) :: (x, instObj 458 dx) :: (l ++ [(L, oL)]), p ∈ l') ⟨trivial, rfl, fun p hp => hp⟩ ?_ ?_
  · have nb : h3.objs.size ≠ L' ∧ G.get? h3.objs.size = none := ⟨Nat.ne_of_gt F3.ns.lt, Heap.get?_none_of_le (Nat.le_trans F3.above (Nat.le_of_lt F3.ns.lt))⟩
    show b ≠ L' ∧ G.get? b = none ∧ b < (h3.push _).objs.size
    rw [Heap.size_push]
    rcases List.mem_cons.mp hb with rfl | hb
    · exact ⟨nb.1, nb.2, Nat.lt_succ_self _⟩
    · rw [List.mem_singleton.mp hb]
      exact ⟨(N3 _ (.head _)).2.1, (N3 _ (.head _)).2.2, Nat.lt_succ_of_lt hlt⟩
  · have := Heap.lt_size (N3 p hp).1
    rw [List.mem_singleton.mp q] at this
    exact Nat.lt_irrefl _ this
  · rintro i ys l5 own C oC D5 m₂ h5 tk5 v new E5 hi ⟨hv, rfl⟩ hB hoC ⟨hys, hi64, hsub⟩ F5 N5 hCD CD hown hfp5 hwr hnf
    have hv' : (xs.map (·.2.2))[i]? = some v := by simpa using hv
    have hip : i < ps.length := by rw [← hr.1]; exact (List.getElem?_eq_some_iff.mp hv').1
    obtain ⟨u, hu, a, v1, v2, v3, rfl, hm⟩ := hr.2 i ps[i] (List.getElem?_eq_getElem hip)
    rw [hv'] at hu
    cases hu
    have hm5 : (a, tupO [.int (i : Nat) v1, .int ps[i].1 v2, .int ps[i].2 v3] 0) ∈ l5 := hsub _ (by first | walk_at "MEM" | simp [hm])
    have N6 : News G L' h5 ((a, tupO [.int (i : Nat) v1, .int ps[i].1 v2, .int ps[i].2 v3] 0) :: (C, oC) :: (D5, LCg.lst ys) :: (own ++ l5)) := fun p hp => by
      refine mem_case hp ?_ fun p hp => ?_
      · exact N5 _ (.tail _ (.tail _ (List.mem_append_right _ (List.mem_append_right _ hm5))))
      · exact N5 p hp
    have hns := hoC.ns (N6 _ (.tail _ (.head _))).1
    repeat' (first | walk1 | (dsimp only; walk1) | walk_at "THEN")
    refine Halt.mk (tup_fromI (k := 1) (a := 1) rfl (by assumption) N6 ⟨_, (N6 _ (.head _)).1, rfl, _, rfl⟩ (Nat.le_refl _) (show 1 ≤ 3 by decide) (show 3 ≤ 1000 by decide) fun T h7 F7 N7 l7 => ?_)
    refine Halt.mk ⟨T, true, [.int ps[i].1 v2, .int ps[i].2 v3], 0, (T, tupO [.int ps[i].1 v2, .int ps[i].2 v3] 0) :: l5, h7, _, rfl, rfl, F7, fun p hp => N7 p ?_, .head _, fun p hp => ?_, ?_, ?_, ?_, fun p hp => .tail _ (hsub p hp)⟩
    · simp only [List.mem_cons, List.mem_append] at hp ⊢
      rcases hp with hp | hp | hp | hp | hp
      · exact .inr (.inr (.inl hp))
      · exact .inr (.inr (.inr (.inl hp)))
      · exact .inr (.inr (.inr (.inr (.inl hp))))
      · exact .inl hp
      · exact .inr (.inr (.inr (.inr (.inr hp))))
    · refine mem_case hp ?_ fun p hp => ?_
      · obtain ⟨oI, hI⟩ := hfp5 h3.objs.size (.head _)
        have l8 : h3.objs.size < T := l7 (_, oI) (.tail _ (.tail _ (.tail _ (List.mem_append_left _ hI))))
        exact ⟨fun q => Nat.ne_of_gt l8 (List.mem_singleton.mp q), Nat.ne_of_gt (l7 _ (.tail _ (.head _))), Nat.ne_of_gt (l7 _ (.tail _ (.tail _ (.head _))))⟩
      · exact ⟨hwr p hp, hCD p (List.mem_append_right _ (List.mem_append_right _ hp))⟩
    · show ys.length + 2 ≤ 1000
      have hx1 := hr.1
      rw [List.length_map] at hx1
      omega
    · rw [flatP_snoc hip]
      exact hys.app ⟨⟨v2, rfl⟩, ⟨v3, rfl⟩, trivial⟩
    · rw [List.length_append, hi64]; rfl
  · rintro D5 C h5 tk5 m' ys l5 ⟨hys, _, hsub⟩ F5 N5 hn5 GC CL CD hlC
    refine rr_eval F5 N5 hn5 GC CL CD hlC fun h6 F6 N6 => ?_
    repeat' (first | walk1 | (dsimp only; walk1) | walk_at "THEN")
    try dsimp only
    have ep : ps.take (xs.map (·.2.2)).toArray.size = ps := List.take_of_length_le (by rw [List.size_toArray, hr.1]; exact Nat.le_refl _)
    rw [ep] at hys
    have o := out_gen (l2 := (D5, PySem.W.listOf ys.toArray ys.length) :: l) F N hL F6 N6 (.tail _ (hsub _ (by first | walk_at "MEM" | simp))) (fun p hp => by
      refine mem_case hp ?_ fun p hp => ?_
      · exact ⟨.head _, .inr ⟨_, _, rfl⟩⟩
      · exact ⟨.tail _ (hsub _ (by first | walk_at "MEM" | simp [hp])), .inl ⟨_, hp⟩⟩)
    exact ret _ _ _ _ _ hys o.1 o.2
set_option maxHeartbeats 1000000 in
/-- an iterator: the rows that are left, flat -/
theorem held_iter {w : World} {mean : ExcName → Option Value} {mg mb : Str → Option Value} {G : Heap} {A : Around} {h : Heap} {g : Array GenState} {dr : Drawn} {tk : Nat} {os : OsState} {L x dx may de y dy dt : Addr} {m : Str → Option Value} {l : List (Addr × Obj)} {n nn : Int} {t0 t1 t2 t3 tc u1 u2 u3 u4 uc : Tok} {oE oT : Obj} {xs : List (Int × Addr × Value)} {ps : List (Int × Int)} {Q E : Value → Shared → Prop}
    (hA : Rm A 30) (X : (KP w.params).In G) (T : Top topProg lsT mean mg mb G) (F : Fr G L h m) (N : News G L h l) (hx : (x, instObj 458 dx) ∈ l) (hdx : (dx, tabD w t1 t2 t3 tc may de n) ∈ l) (hde : (de, oE) ∈ l) (e : EntO w xs oE) (hz : xs.length < 64) (hsm : (de == sysModules) = false) (hr : Rows l (xs.map (·.2.2)) ps)
    (hy : (y, instObj 499 dy) ∈ l) (hdy : (dy, walkD w u1 u2 u3 u4 uc x dt nn) ∈ l) (hdt : (dt, oT) ∈ l) (hT : oT.IsDictOf (intKind pw w) []) (hsm2 : (dt == sysModules) = false)
    (ret : ∀ D c vs h' tk', IntVs vs (flatP (ps.take nn.toNat)) → Fr G L h' m → News G L h' ((D, PySem.W.listOf vs.toArray c) :: l) → Q (.ref D) ⟨h', g, dr, tk', os⟩) :
    wpAny (model pw w) A (call (.ref 154) [.str (Str.ofString "iter") t0, .ref y]) Q E ⟨h, g, dr, tk, os⟩ := by
  refine wpAny_call (callE (s := ⟨h, g, dr, tk, os⟩) (binds := [(Str.ofString "kind", .str (Str.ofString "iter") t0), (Str.ofString "content", .ref y)]) X T F (Nat.lt_of_le_of_lt (Nat.le_add_right _ _) hA.dp) (by k_is) (by k_is) (BindsTo.of_eq rfl) (locs rfl) rfl rfl rfl (by decide) fun L' h₁ oL E' hL eL F₁ k₁ => ?_)
  have hr0 : Rows l ((xs.map (·.2.2)).take nn.toNat) (ps.take nn.toNat) := ⟨by rw [List.length_take, List.length_take, hr.1], fun i p hp => by
    rw [List.getElem?_take] at hp ⊢
    split at hp
    · rename_i hi
      obtain ⟨u, hu, z⟩ := hr.2 i p hp
      exact ⟨u, by rw [if_pos hi]; exact hu, z⟩
    · cases hp⟩
  have hz0 : ((xs.map (·.2.2)).take nn.toNat).length < 64 := by rw [List.length_take, List.length_map]; omega
  have N₁ : News G L' h₁ (l ++ [(L, oL)]) := news_in F N hL eL k₁
  have hh : A.handled = none := hA.hh
  try dsimp only
  repeat' (first | walk1 | (dsimp only; walk1) | walk_at "THEN")
  refine Halt.mk (left_ok (hA.deeper.le (by decide)) X T (by assumption) N₁ (List.mem_append_left _ hx) (List.mem_append_left _ hdx) (List.mem_append_left _ hde) e hz hsm (ps := ps) ⟨hr.1, fun i p hp => ?_⟩ (List.mem_append_left _ hy) (List.mem_append_left _ hdy) (List.mem_append_left _ hdt) hT hsm2 fun D c h2 tk2 F2 N2 => ?_)
  · obtain ⟨u, hu, a, v1, v2, v3, rfl, hm⟩ := hr.2 i p hp
    exact ⟨_, hu, a, v1, v2, v3, rfl, by first | walk_at "MEM" | simp [hm]⟩
  repeat' (first | walk1 | (dsimp only; walk1) | walk_at "THEN")
  rename_i h3 F3 N3
  have hD3 : h3.IsList D ((xs.map (·.2.2)).take nn.toNat).toArray := ⟨_, (N3 _ (.head _)).1, rfl, _, rfl⟩
  have hlt : D < h3.objs.size := Heap.lt_size (N3 _ (.head _)).1
  refine Halt.mk (comp2_eval (by rfl) (by rfl) (by decide) ?_)
  repeat' (first | walk1 | (dsimp only; walk1) | walk_at "THEN")
  refine Halt.mk (wpAny_pyIter_list hD3 ?_)
  have up : ∀ b o, h3.get? b = some o → (h3.push { cls := .type "list_iterator", data := .fields #[.ref D, .int 0 0] }).get? b = some o := fun b o e => Heap.get?_push_of_some _ e
  unfold Rest2
  refine comp2_block (G := G) (L := L') (l := (D, PySem.W.listOf ((xs.map (·.2.2)).take nn.toNat).toArray c) :: (l ++ [(L, oL)])) (by exact hh) (fun _ _ => rfl) (Src.list (by exact hh) h3.objs.size D (Nat.ne_of_lt hlt) ((xs.map (·.2.2)).take nn.toNat).toArray) (by decide) rfl rfl (by decide)
    ⟨⟨_, Heap.get?_push_size _ rfl, rfl, rfl⟩, hD3.push _⟩ (fun b hb => ?_) (F3.keeps up) (N3.grown up) (fun p hp q => ?_) (fun i v new m₂ => m₂ (Str.ofString "row") = some v) (asg_name rfl rfl)
    (fun i ys l' => IntVs ys (flatP ((ps.take nn.toNat).take i)) ∧ ys.length = 2 * i ∧ ∀ p ∈ (D, PySem.W.listOf ((xs.map (·.2.2)).take nn.toNat).toArray c) :: (l ++ [(L, oL)]), p ∈ l') ⟨trivial, rfl, fun p hp => hp⟩ ?_ ?_
  · have nb : h3.objs.size ≠ L' ∧ G.get? h3.objs.size = none := ⟨Nat.ne_of_gt F3.ns.lt, Heap.get?_none_of_le (Nat.le_trans F3.above (Nat.le_of_lt F3.ns.lt))⟩
    show b ≠ L' ∧ G.get? b = none ∧ b < (h3.push _).objs.size
    rw [Heap.size_push]
    rcases List.mem_cons.mp hb with rfl | hb
    · exact ⟨nb.1, nb.2, Nat.lt_succ_self _⟩
    · rw [List.mem_singleton.mp hb]
      exact ⟨(N3 _ (.head _)).2.1, (N3 _ (.head _)).2.2, Nat.lt_succ_of_lt hlt⟩
  · have := Heap.lt_size (N3 p hp).1
    rw [List.mem_singleton.mp q] at this
    exact Nat.lt_irrefl _ this
  · rintro i ys l5 own C oC D5 m₂ h5 tk5 v new E5 hi ⟨hv, rfl⟩ hB hoC ⟨hys, hi64, hsub⟩ F5 N5 hCD CD hown hfp5 hwr hnf
    have hv' : ((xs.map (·.2.2)).take nn.toNat)[i]? = some v := by simpa using hv
    have hip : i < (ps.take nn.toNat).length := by rw [← hr0.1]; exact (List.getElem?_eq_some_iff.mp hv').1
    obtain ⟨u, hu, a, v1, v2, v3, rfl, hm⟩ := hr0.2 i (ps.take nn.toNat)[i] (List.getElem?_eq_getElem hip)
    rw [hv'] at hu
    cases hu
    have hm5 : (a, tupO [.int (i : Nat) v1, .int (ps.take nn.toNat)[i].1 v2, .int (ps.take nn.toNat)[i].2 v3] 0) ∈ l5 := hsub _ (.tail _ (List.mem_append_left _ hm))
    have N6 : News G L' h5 ((a, tupO [.int (i : Nat) v1, .int (ps.take nn.toNat)[i].1 v2, .int (ps.take nn.toNat)[i].2 v3] 0) :: (C, oC) :: (D5, LCg.lst ys) :: (own ++ l5)) := fun p hp => by
      refine mem_case hp ?_ fun p hp => ?_
      · exact N5 _ (.tail _ (.tail _ (List.mem_append_right _ (List.mem_append_right _ hm5))))
      · exact N5 p hp
    have hns := hoC.ns (N6 _ (.tail _ (.head _))).1
    repeat' (first | walk1 | (dsimp only; walk1) | walk_at "THEN")
    refine Halt.mk (tup_fromI (k := 1) (a := 1) rfl (by assumption) N6 ⟨_, (N6 _ (.head _)).1, rfl, _, rfl⟩ (Nat.le_refl _) (show 1 ≤ 3 by decide) (show 3 ≤ 1000 by decide) fun T h7 F7 N7 l7 => ?_)
    refine Halt.mk ⟨T, true, [.int (ps.take nn.toNat)[i].1 v2, .int (ps.take nn.toNat)[i].2 v3], 0, (T, tupO [.int (ps.take nn.toNat)[i].1 v2, .int (ps.take nn.toNat)[i].2 v3] 0) :: l5, h7, _, rfl, rfl, F7, fun p hp => N7 p ?_, .head _, fun p hp => ?_, ?_, ?_, ?_, fun p hp => .tail _ (hsub p hp)⟩
    · simp only [List.mem_cons, List.mem_append] at hp ⊢
      rcases hp with hp | hp | hp | hp | hp
      · exact .inr (.inr (.inl hp))
      · exact .inr (.inr (.inr (.inl hp)))
      · exact .inr (.inr (.inr (.inr (.inl hp))))
      · exact .inl hp
      · exact .inr (.inr (.inr (.inr (.inr hp))))
    · refine mem_case hp ?_ fun p hp => ?_
      · obtain ⟨oI, hI⟩ := hfp5 h3.objs.size (.head _)
        have l8 : h3.objs.size < T := l7 (_, oI) (.tail _ (.tail _ (.tail _ (List.mem_append_left _ hI))))
        exact ⟨fun q => Nat.ne_of_gt l8 (List.mem_singleton.mp q), Nat.ne_of_gt (l7 _ (.tail _ (.head _))), Nat.ne_of_gt (l7 _ (.tail _ (.tail _ (.head _))))⟩
      · exact ⟨hwr p hp, hCD p (List.mem_append_right _ (List.mem_append_right _ hp))⟩
    · show ys.length + 2 ≤ 1000
      have hx1 := hr0.1
      omega
    · rw [flatP_snoc hip]
      exact hys.app ⟨⟨v2, rfl⟩, ⟨v3, rfl⟩, trivial⟩
    · rw [List.length_append, hi64]; rfl
  · rintro D5 C h5 tk5 m' ys l5 ⟨hys, _, hsub⟩ F5 N5 hn5 GC CL CD hlC
    refine rr_eval F5 N5 hn5 GC CL CD hlC fun h6 F6 N6 => ?_
    repeat' (first | walk1 | (dsimp only; walk1) | walk_at "THEN")
    try dsimp only
    have ep : (ps.take nn.toNat).take ((xs.map (·.2.2)).take nn.toNat).toArray.size = ps.take nn.toNat := List.take_of_length_le (by rw [List.size_toArray, hr0.1]; exact Nat.le_refl _)
    rw [ep] at hys
    have o := out_gen (l2 := (D5, PySem.W.listOf ys.toArray ys.length) :: l) F N hL F6 N6 (.tail _ (hsub _ (by first | walk_at "MEM" | simp))) (fun p hp => by
      refine mem_case hp ?_ fun p hp => ?_
      · exact ⟨.head _, .inr ⟨_, _, rfl⟩⟩
      · exact ⟨.tail _ (hsub _ (by first | walk_at "MEM" | simp [hp])), .inl ⟨_, hp⟩⟩)
    exact ret _ _ _ _ _ hys o.1 o.2
end
section
open PySem PySem.W PySem.Calls PyProof.Rows PySem.Spec
/-- what an object holds, by its kind -/
inductive Held (w : World) (l : List (Addr × Obj)) : Str → Value → List Int → Prop
  | var (n : Int) (u : Tok) : Held w l (Str.ofString "var") (.int n u) [n]
  | row (a : Addr) (vs : List Value) (k : Nat) (is : List Int) : (a, PySem.W.listOf vs.toArray k) ∈ l → vs.length ≤ 100 → IntVs vs is → Held w l (Str.ofString "row") (.ref a) is
  | chan (ch dc b sn rc : Addr) (t1 t2 t3 t4 t5 tr : Tok) (r : Int) (bs ss us : List Value) (k k2 : Nat) (is : List Int) : (ch, instObj 372 dc) ∈ l → (dc, chanD w t1 t2 t3 t4 t5 tr r b sn rc) ∈ l → (b, PySem.W.listOf bs.toArray k) ∈ l → (sn, PySem.W.listOf ss.toArray k2) ∈ l →
      bs.length ≤ 100 → ss.length ≤ 100 → (ss.length = us.length ∧ ∀ (i : Nat) (v : Value), us[i]? = some v → ∃ wt a n1 n2, ss[i]? = some (.ref wt) ∧ (wt, tupO [a, v, n1, n2] 0) ∈ l) → IntVs (bs ++ us) is → Held w l (Str.ofString "chan") (.ref ch) is
  | map (x dx may de : Addr) (t1 t2 t3 tc : Tok) (n : Int) (oE : Obj) (xs : List (Int × Addr × Value)) (ps : List (Int × Int)) : (x, instObj 458 dx) ∈ l → (dx, tabD w t1 t2 t3 tc may de n) ∈ l → (de, oE) ∈ l → EntO w xs oE → xs.length < 64 → (de == sysModules) = false → Rows l (xs.map (·.2.2)) ps → Held w l (Str.ofString "map") (.ref x) (flatP ps)
  | iter (x dx may de y dy dt : Addr) (t1 t2 t3 tc u1 u2 u3 u4 uc : Tok) (n nn : Int) (oE oT : Obj) (xs : List (Int × Addr × Value)) (ps : List (Int × Int)) : (x, instObj 458 dx) ∈ l → (dx, tabD w t1 t2 t3 tc may de n) ∈ l → (de, oE) ∈ l → EntO w xs oE → xs.length < 64 → (de == sysModules) = false → Rows l (xs.map (·.2.2)) ps →
      (y, instObj 499 dy) ∈ l → (dy, walkD w u1 u2 u3 u4 uc x dt nn) ∈ l → (dt, oT) ∈ l → oT.IsDictOf (intKind pw w) [] → (dt == sysModules) = false → Held w l (Str.ofString "iter") (.ref y) (flatP (ps.take nn.toNat))
theorem Rows.mono {l l' : List (Addr × Obj)} (k : ∀ p ∈ l, p ∈ l') {vs : List Value} {ps : List (Int × Int)} (h : Rows l vs ps) : Rows l' vs ps := ⟨h.1, fun i p hp => by
  obtain ⟨u, hu, a, v1, v2, v3, rfl, hm⟩ := h.2 i p hp
  exact ⟨_, hu, a, v1, v2, v3, rfl, k _ hm⟩⟩
theorem Held.mono {w : World} {l l' : List (Addr × Obj)} (k : ∀ p ∈ l, p ∈ l') {ks : Str} {c : Value} {is : List Int} (h : Held w l ks c is) : Held w l' ks c is := by
  cases h with
  | var n u => exact .var n u
  | row a vs kk _ h1 h2 h3 => exact .row a vs kk is (k _ h1) h2 h3
  | chan ch dc b sn rc t1 t2 t3 t4 t5 tr r bs ss us k1 k2 _ h1 h2 h3 h4 h5 h6 h7 h8 =>
    exact .chan ch dc b sn rc t1 t2 t3 t4 t5 tr r bs ss us k1 k2 is (k _ h1) (k _ h2) (k _ h3) (k _ h4) h5 h6 ⟨h7.1, fun i v hv => by
      obtain ⟨wt, a, n1, n2, z1, z2⟩ := h7.2 i v hv
      exact ⟨wt, a, n1, n2, z1, k _ z2⟩⟩ h8
  | map x dx may de t1 t2 t3 tc n oE xs ps h1 h2 h3 h4 h5 h6 h7 => exact .map x dx may de t1 t2 t3 tc n oE xs ps (k _ h1) (k _ h2) (k _ h3) h4 h5 h6 (h7.mono k)
  | iter x dx may de y dy dt t1 t2 t3 tc u1 u2 u3 u4 uc n nn oE oT xs ps h1 h2 h3 h4 h5 h6 h7 h8 h9 h10 h11 h12 => exact .iter x dx may de y dy dt t1 t2 t3 tc u1 u2 u3 u4 uc n nn oE oT xs ps (k _ h1) (k _ h2) (k _ h3) h4 h5 h6 (h7.mono k) (k _ h8) (k _ h9) (k _ h10) h11 h12
/-- held_values -/
theorem held_ok {w : World} {mean : ExcName → Option Value} {mg mb : Str → Option Value} {G : Heap} {A : Around} {s : Shared} {L : Addr} {m : Str → Option Value} {l : List (Addr × Obj)} {ks : Str} {t0 : Tok} {c : Value} {is : List Int} {Q E : Value → Shared → Prop}
    (hA : Rm A 30) (X : (KP w.params).In G) (T : Top topProg lsT mean mg mb G) (F : Fr G L s.heap m) (N : News G L s.heap l) (H : Held w l ks c is)
    (ret : ∀ D k vs h' tk', IntVs vs is → Fr G L h' m → News G L h' ((D, PySem.W.listOf vs.toArray k) :: l) → Q (.ref D) { s with heap := h', toks := tk' }) :
    wpAny (model pw w) A (call (.ref 154) [.str ks t0, c]) Q E s := by
  cases H with
  | var n u => exact held_var hA X T F N fun D k h' tk' F' N' => ret D k [.int n u] h' tk' ⟨⟨u, rfl⟩, trivial⟩ F' N'
  | row a vs kk _ h1 h2 h3 => exact held_row hA X T F N h1 h2 fun D k h' tk' F' N' => ret D k vs h' tk' h3 F' N'
  | chan ch dc b sn rc t1 t2 t3 t4 t5 tr r bs ss us k1 k2 _ h1 h2 h3 h4 h5 h6 h7 h8 => exact held_chan hA X T F N h1 h2 h3 h4 h5 h6 h7 fun D k h' tk' F' N' => ret D k _ h' tk' h8 F' N'
  | map x dx may de t1 t2 t3 tc n oE xs ps h1 h2 h3 h4 h5 h6 h7 => exact held_map hA X T F N h1 h2 h3 h4 h5 h6 h7 fun D k vs h' tk' hv F' N' => ret D k vs h' tk' hv F' N'
  | iter x dx may de y dy dt t1 t2 t3 tc u1 u2 u3 u4 uc n nn oE oT xs ps h1 h2 h3 h4 h5 h6 h7 h8 h9 h10 h11 h12 => exact held_iter hA X T F N h1 h2 h3 h4 h5 h6 h7 h8 h9 h10 h11 h12 fun D k vs h' tk' hv F' N' => ret D k vs h' tk' hv F' N'
end
section
open PySem PySem.W PySem.Calls PyProof.Rows PySem.Spec
noncomputable def NewOk (l new : List (Addr × Obj)) : Prop := ∀ p ∈ new, (∃ a b, p.2.data = .seq a b) ∨ ∀ q ∈ l, q.1 < p.1
noncomputable abbrev oEnv (L' : Addr) : Env := envOfC (Str.ofString "_law_object") T42.1.2.2 L' 569 (.ref 568)
set_option maxHeartbeats 1000000 in
theorem obj_way0 {w : World} {mean : ExcName → Option Value} {mg mb : Str → Option Value} {G : Heap} {A : Around} {h : Heap} {g : Array GenState} {dr : Drawn} {tk : Nat} {os : OsState} {L' S : Addr} {mq : Str → Option Value} {l : List (Addr × Obj)} {tw : Tok} {ys : List Value} {Q : Flow → Shared → Prop} {E : Value → Shared → Prop}
    {s0 s1 : Stmt} {rst : List Stmt} (hst : T42.1.2.1 = s0 :: s1 :: rst)
    (hA : Rm A 39) (X : (KP w.params).In G) (T : Top topProg lsT mean mg mb G)
    (F : Fr G L' h (fun y => if y = Str.ofString "way" then some (.int 0 tw) else if y = Str.ofString "some" then some (.ref S) else mq y)) (N : News G L' h ((S, PySem.W.listOf ys.toArray ys.length) :: l))
    (ret : ∀ D t c dl ds k new h' tk' m', Held w new (Str.ofString "var") c [7] → (dl, PySem.W.listOf ds k) ∈ new → IntVs ds.toList [7] → NewOk l new → Fr G L' h' m' → News G L' h' ((D, tupO [.str (Str.ofString "var") t, c, .ref dl] 0) :: (new ++ l)) → Q (.ret (.ref D)) ⟨h', g, dr, tk', os⟩) :
    wpAny (model pw w) (A.deeper (oEnv L')) (execs rst (oEnv L')) Q E ⟨h, g, dr, tk, os⟩ := by
  have hh : A.handled = none := hA.hh
  simp only [List.cons.injEq] at hst
  obtain ⟨-, -, rfl⟩ := hst
  repeat' (first | walk1 | (dsimp only; walk1) | walk_at "THEN")
  rename News _ _ _ _ => N6
  rename Fr _ _ _ _ => F6
  refine ret _ _ _ _ _ _ [(_, _), (_, _)] _ _ _ (.var 7 _) (.head _) (show IntVs [_] [7] from ⟨⟨_, rfl⟩, trivial⟩) ?_ F6 N6
  · intro p hp
    refine mem_case hp ?_ fun p hp => ?_
    · exact .inl ⟨_, _, rfl⟩
    · rw [List.mem_singleton.mp hp]; exact .inl ⟨_, _, rfl⟩
set_option maxHeartbeats 1000000 in
theorem obj_way1 {w : World} {mean : ExcName → Option Value} {mg mb : Str → Option Value} {G : Heap} {A : Around} {h : Heap} {g : Array GenState} {dr : Drawn} {tk : Nat} {os : OsState} {L' S : Addr} {mq : Str → Option Value} {l : List (Addr × Obj)} {tw : Tok} {ys : List Value} {is : List Int} {Q : Flow → Shared → Prop} {E : Value → Shared → Prop}
    {s0 s1 : Stmt} {rst : List Stmt} (hst : T42.1.2.1 = s0 :: s1 :: rst)
    (hA : Rm A 39) (X : (KP w.params).In G) (T : Top topProg lsT mean mg mb G) (hys : IntVs ys is) (hyl : ys.length ≤ 3)
    (F : Fr G L' h (fun y => if y = Str.ofString "way" then some (.int 1 tw) else if y = Str.ofString "some" then some (.ref S) else mq y)) (N : News G L' h ((S, PySem.W.listOf ys.toArray ys.length) :: l))
    (ret : ∀ D t c dl ds k new h' tk' m', Held w new (Str.ofString "row") c is → (dl, PySem.W.listOf ds k) ∈ new → IntVs ds.toList is → NewOk l new → Fr G L' h' m' → News G L' h' ((D, tupO [.str (Str.ofString "row") t, c, .ref dl] 0) :: (new ++ l)) → Q (.ret (.ref D)) ⟨h', g, dr, tk', os⟩) :
    wpAny (model pw w) (A.deeper (oEnv L')) (execs rst (oEnv L')) Q E ⟨h, g, dr, tk, os⟩ := by
  have hh : A.handled = none := hA.hh
  simp only [List.cons.injEq] at hst
  obtain ⟨-, -, rfl⟩ := hst
  repeat' (first | walk1 | (dsimp only; walk1) | walk_at "THEN")
  rename News _ _ _ _ => N6
  rename Fr _ _ _ _ => F6
  refine ret _ _ _ _ _ _ [(_, _), (_, _)] _ _ _ (.row _ ys _ is (.tail _ (.head _)) (by omega) hys) (.head _) hys ?_ F6 N6
  · intro p hp
    refine mem_case hp ?_ fun p hp => ?_
    · exact .inl ⟨_, _, rfl⟩
    · rw [List.mem_singleton.mp hp]; exact .inl ⟨_, _, rfl⟩
end
section
open PySem PySem.W PySem.Calls PyProof.Rows PySem.Spec
local macro_rules | `(tactic| walk_at "exec For") => `(tactic| (with_reducible refine halt ?_))
noncomputable def mWay (n : Int) (tw : Tok) (S ch : Addr) (one : Option Value) (mq : Str → Option Value) : Str → Option Value := fun y => if y = Str.ofString "one" then one else if y = Str.ofString "channel" then some (.ref ch) else if y = Str.ofString "way" then some (.int n tw) else if y = Str.ofString "some" then some (.ref S) else mq y
theorem chan_order {G h : Heap} {L rc sn b S : Addr} {o1 o2 o3 oS : Obj} {c d : Addr × Obj} {l : List (Addr × Obj)} (N : News G L h ((rc, o1) :: (sn, o2) :: (b, o3) :: c :: d :: (S, oS) :: l)) : News G L h ((b, o3) :: (S, oS) :: (rc, o1) :: (sn, o2) :: c :: d :: l) := fun p hp => N p (by
  refine sub_at ?_ hp; walk_at "SUB")
theorem chan_order2 {G h : Heap} {L rc sn b D : Addr} {o1 o2 o3 oD : Obj} {c d x1 x2 x3 x4 x5 x6 : Addr × Obj} {l : List (Addr × Obj)} (N : News G L h ((D, oD) :: (rc, o1) :: (sn, o2) :: (b, o3) :: c :: d :: x1 :: x2 :: x3 :: x4 :: x5 :: x6 :: l)) : News G L h ((sn, o2) :: (D, oD) :: (rc, o1) :: (b, o3) :: c :: d :: l) := fun p hp => N p (by
  refine sub_at ?_ hp; walk_at "SUB")
theorem wait_one {l : List (Addr × Obj)} {D : Addr} {a v n1 n2 : Value} (h : (D, tupO [a, v, n1, n2] 0) ∈ l) : [Value.ref D].length = [v].length ∧ ∀ (i : Nat) (u : Value), [v][i]? = some u → ∃ wt a n1 n2, [Value.ref D][i]? = some (.ref wt) ∧ (wt, tupO [a, u, n1, n2] 0) ∈ l := ⟨rfl, fun i u q => by
  cases i with
  | zero => cases q; exact ⟨D, a, n1, n2, rfl, h⟩
  | succ i => cases q⟩
inductive IvWay (w : World) (tw : Tok) (S ch b rc sn dc : Addr) (t1 t2 t3 t4 t5 : Tok) (mq : Str → Option Value) (ys : List Value) (l : List (Addr × Obj)) (i : Nat) (m' : Str → Option Value) (l' : List (Addr × Obj)) : Prop
  | mk (one : Option Value) (k : Nat) (tr : Tok) (em : m' = mWay 2 tw S ch one mq) (el : l' = (b, PySem.W.listOf (ys.take i).toArray k) :: (S, PySem.W.listOf ys.toArray ys.length) :: (rc, PySem.W.listOf #[] 0) :: (sn, PySem.W.listOf #[] 0) :: (ch, instObj 372 dc) :: (dc, chanD w t1 t2 t3 t4 t5 tr 9 b sn rc) :: l)
set_option maxHeartbeats 1000000 in
theorem obj_way2 {w : World} {mean : ExcName → Option Value} {mg mb : Str → Option Value} {G : Heap} {A : Around} {h : Heap} {g : Array GenState} {dr : Drawn} {tk : Nat} {os : OsState} {L' S : Addr} {mq : Str → Option Value} {l : List (Addr × Obj)} {tw : Tok} {ys : List Value} {is : List Int} {Q : Flow → Shared → Prop} {E : Value → Shared → Prop}
    {s0 s1 : Stmt} {rst : List Stmt} (hst : T42.1.2.1 = s0 :: s1 :: rst)
    (hA : Rm A 39) (X : (KP w.params).In G) (T : Top topProg lsT mean mg mb G) (hys : IntVs ys is) (hyl : ys.length ≤ 3)
    (F : Fr G L' h (fun y => if y = Str.ofString "way" then some (.int 2 tw) else if y = Str.ofString "some" then some (.ref S) else mq y)) (N : News G L' h ((S, PySem.W.listOf ys.toArray ys.length) :: l))
    (ret : ∀ D t c dl ds k is' new h' tk' m', Held w new (Str.ofString "chan") c is' → (dl, PySem.W.listOf ds k) ∈ new → IntVs ds.toList is' → NewOk l new → Fr G L' h' m' → News G L' h' ((D, tupO [.str (Str.ofString "chan") t, c, .ref dl] 0) :: (new ++ l)) → Q (.ret (.ref D)) ⟨h', g, dr, tk', os⟩) :
    wpAny (model pw w) (A.deeper (oEnv L')) (execs rst (oEnv L')) Q E ⟨h, g, dr, tk, os⟩ := by
  have hh : A.handled = none := hA.hh
  simp only [List.cons.injEq] at hst
  obtain ⟨-, -, rfl⟩ := hst
  repeat' (first | walk1 | (dsimp only; walk1) | walk_at "THEN")
  refine Halt.mk (chan_new (hA.deeper.le (by decide)) X T (by assumption) (by assumption) fun ch dc b sn rc t1 t2 t3 t4 t5 h2 tk2 q1 q2 q3 q4 q5 F2 N2 => ?_)
  repeat' (first | walk1 | (dsimp only; walk1) | walk_at "THEN")
  rename News _ _ _ _ => N3
  rename Fr _ _ _ _ => F3
  refine Halt.mk ?_
  refine for_lst (L := L') (G := G) (t := S) (vs := ys) (n := ys.length) (g := g) (d := dr) (os := os) hA.hh (IvWay w tw S ch b rc sn dc t1 t2 t3 t4 t5 mq ys l) ?_ ?_ ?_ ?_
  · rintro i m' l' ⟨one, k, tr, rfl, rfl⟩
    exact .tail _ (.head _)
  · repeat' (first | walk1 | (dsimp only; walk1) | walk_at "THEN")
    refine Halt.mk ⟨mWay 2 tw S ch (mq (Str.ofString "one")) mq, _, _, _, rfl, rfl, ⟨_, 0, _, rfl, rfl⟩, fr_m F3 fun y => ?_, chan_order N3⟩
    unfold mWay
    by_cases h1 : y = Str.ofString "one"
    · subst h1; rfl
    · simp only [h1, if_false]
  · rintro i m' l' h' tk' v' I oI hv ⟨one, k, tr, rfl, rfl⟩ F' N' off
    have hmW : ∀ y, mWay 2 tw S ch one mq y = if y = Str.ofString "one" then one else if y = Str.ofString "channel" then some (.ref ch) else if y = Str.ofString "way" then some (.int 2 tw) else if y = Str.ofString "some" then some (.ref S) else mq y := fun y => rfl
    have F4 := fr_m F' hmW
    clear F' N3 F3
    have b1 : ∀ p ∈ (S, PySem.W.listOf ys.toArray ys.length) :: l, @Ne Nat p.1 b := fun p hp => Nat.ne_of_lt (Nat.lt_trans (Nat.lt_trans (q1 p hp) q2) q3)
    repeat' (first | walk1 | (dsimp only; walk1) | walk_at "THEN")
    rename_i D1 h5 F5 N5 lb
    have N6 : News G L' h5 ((b, PySem.W.listOf (ys.take i).toArray k) :: (D1, tupO [.int 0 tk, v', .none, .none] 0) :: (I, oI) :: (S, PySem.W.listOf ys.toArray ys.length) :: (rc, PySem.W.listOf #[] 0) :: (sn, PySem.W.listOf #[] 0) :: (ch, instObj 372 dc) :: (dc, chanD w t1 t2 t3 t4 t5 tr 9 b sn rc) :: l) := fun p hp => N5 p (by
      first | (refine sub_at ?_ hp; walk_at "SUB") | (simp only [List.mem_cons] at hp ⊢; grind))
    have hlen : (ys.take i).length < 9 := by rw [List.length_take]; omega
    have iI : @Ne Nat b I := off _ (.head _)
    have ob : ∀ p ∈ (D1, tupO [.int 0 tk, v', .none, .none] 0) :: (I, oI) :: (S, PySem.W.listOf ys.toArray ys.length) :: (rc, PySem.W.listOf #[] 0) :: (sn, PySem.W.listOf #[] 0) :: (ch, instObj 372 dc) :: (dc, chanD w t1 t2 t3 t4 t5 tr 9 b sn rc) :: l, p.1 ≠ b := fun p hp => by
      refine mem_case hp ?_ fun p hp => ?_
      · exact Nat.ne_of_gt lb.2.1
      refine mem_case hp ?_ fun p hp => ?_
      · exact fun q => iI q.symm
      refine mem_case hp ?_ fun p hp => ?_
      · exact b1 _ (.head _)
      refine mem_case hp ?_ fun p hp => ?_
      · exact Nat.ne_of_gt (Nat.lt_trans q4 q5)
      refine mem_case hp ?_ fun p hp => ?_
      · exact Nat.ne_of_gt q4
      refine mem_case hp ?_ fun p hp => ?_
      · exact Nat.ne_of_lt q3
      refine mem_case hp ?_ fun p hp => ?_
      · exact Nat.ne_of_lt (Nat.lt_trans q2 q3)
      · exact b1 p (.tail _ hp)
    refine Halt.mk (offer_room (hA.deeper.le (by decide)) X T F5 N6 ob (.tail _ (.tail _ (.tail _ (.tail _ (.tail _ (.head _)))))) (.tail _ (.tail _ (.tail _ (.tail _ (.tail _ (.tail _ (.head _))))))) (.tail _ (.tail _ (.tail _ (.head _)))) (.head _) hlen fun D2 h6 tk6 F6 N7 => ?_)
    repeat' (first | walk1 | (dsimp only; walk1) | walk_at "THEN")
    refine Halt.mk ⟨mWay 2 tw S ch (some v') mq, _, _, _, rfl, ⟨some v', k + 1, tr, rfl, rfl⟩, fr_m F6 fun y => ?_, fun p hp => ?_, fun p hp => ?_⟩
    · unfold mWay
      by_cases h1 : y = Str.ofString "one"
      · simp only [h1, if_true]
      · simp only [h1, if_false]
    · have e1 : ys.take (i + 1) = ys.take i ++ [v'] := by rw [List.take_add_one, hv]; rfl
      rw [e1] at hp
      refine N7 p ?_
      first | (refine sub_at ?_ hp; walk_at "SUB") | (simp only [List.mem_cons] at hp ⊢; grind)
    · refine mem_case hp ?_ fun p hp => ?_
      · exact iI
      · exact off p (.tail _ hp)
  · rintro m' l' h' tk' ⟨one, k, tr, rfl, rfl⟩ F' N'
    have hmW : ∀ y, mWay 2 tw S ch one mq y = if y = Str.ofString "one" then one else if y = Str.ofString "channel" then some (.ref ch) else if y = Str.ofString "way" then some (.int 2 tw) else if y = Str.ofString "some" then some (.ref S) else mq y := fun y => rfl
    have F4 := fr_m F' hmW
    clear F' N3 F3
    rw [List.take_length] at N'
    have hys60 : ((ys.toArray.size : Nat) : Int) < 2 ^ 60 := by rw [List.size_toArray]; omega
    repeat' (first | walk1 | (dsimp only; walk1) | walk_at "THEN")
    · refine Halt.mk (chan_new (hA.deeper.le (by decide)) X T (by assumption) (by assumption) fun ch2 dc2 b2 sn2 rc2 z1 z2 z3 z4 z5 h3 tk3 r1 r2 r3 r4 r5 F5 N5 => ?_)
      repeat' (first | walk1 | (dsimp only; walk1) | walk_at "THEN")
      rename_i D1 h5 F6 N6 lb
      refine Halt.mk (offer_wait (b := b2) (rc := rc2) (dc := dc2) (hA.deeper.le (by decide)) X T F6 (chan_order2 N6) (fun p hp => ?_) (.tail _ (.tail _ (.tail _ (.head _)))) (.tail _ (.tail _ (.tail _ (.tail _ (.head _))))) (.tail _ (.head _)) (.tail _ (.tail _ (.head _))) (.head _) fun D2 h6 tk6 F7 N7 => ?_)
      · refine mem_case hp ?_ fun p hp => ?_
        · exact Nat.ne_of_gt lb.2.1
        refine mem_case hp ?_ fun p hp => ?_
        · exact Nat.ne_of_gt r5
        refine mem_case hp ?_ fun p hp => ?_
        · exact Nat.ne_of_lt r4
        refine mem_case hp ?_ fun p hp => ?_
        · exact Nat.ne_of_lt (Nat.lt_trans r3 r4)
        refine mem_case hp ?_ fun p hp => ?_
        · exact Nat.ne_of_lt (Nat.lt_trans r2 (Nat.lt_trans r3 r4))
        · exact Nat.ne_of_lt (Nat.lt_trans (Nat.lt_trans (Nat.lt_trans (r1 p (.tail _ (.tail _ (.tail _ (.tail _ (.tail _ (.tail _ hp))))))) r2) r3) r4)
      repeat' (first | walk1 | (dsimp only; walk1) | walk_at "THEN")
      rename News _ _ _ _ => N8
      rename Fr _ _ _ _ => F8
      refine ret _ _ _ _ _ _ [8] [(_, _), (_, _), (_, _), (_, _), (_, _), (_, _), (_, _)] _ _ _ (.chan ch2 dc2 b2 sn2 rc2 _ _ _ _ _ _ 0 [] [.ref D1] [_] _ _ _ (.tail _ (.tail _ (.tail _ (.tail _ (.tail _ (.head _)))))) (.tail _ (.tail _ (.tail _ (.tail _ (.tail _ (.tail _ (.head _))))))) (.tail _ (.tail _ (.tail _ (.tail _ (.head _))))) (.tail _ (.head _)) (by decide) (show 1 ≤ 100 by decide) (wait_one (.tail _ (.tail _ (.head _)))) (show IntVs [_] [8] from ⟨⟨_, rfl⟩, trivial⟩)) (.head _) (show IntVs [_] [8] from ⟨⟨_, rfl⟩, trivial⟩) ?_ F8 N8
      · intro p hp
        have d1 : ∀ q ∈ l, @LT.lt Nat _ q.1 dc2 := fun q hq => r1 q (.tail _ (.tail _ (.tail _ (.tail _ (.tail _ (.tail _ hq))))))
        refine mem_case hp ?_ fun p hp => ?_
        · exact .inl ⟨_, _, rfl⟩
        refine mem_case hp ?_ fun p hp => ?_
        · exact .inl ⟨_, _, rfl⟩
        refine mem_case hp ?_ fun p hp => ?_
        · exact .inl ⟨_, _, rfl⟩
        refine mem_case hp ?_ fun p hp => ?_
        · exact .inl ⟨_, _, rfl⟩
        refine mem_case hp ?_ fun p hp => ?_
        · exact .inl ⟨_, _, rfl⟩
        refine mem_case hp ?_ fun p hp => ?_
        · exact .inr fun q hq => Nat.lt_trans (d1 q hq) r2
        · rw [List.mem_singleton.mp hp]; exact .inr d1
    · rename_i F8 N8 _
      refine ret _ _ _ _ _ _ is [(_, _), (_, _), (_, _), (_, _), (_, _), (_, _)] _ _ _ (.chan ch dc b sn rc _ _ _ _ _ _ 9 ys [] [] _ _ _ (.tail _ (.tail _ (.tail _ (.tail _ (.head _))))) (.tail _ (.tail _ (.tail _ (.tail _ (.tail _ (.head _)))))) (.head _) (.tail _ (.tail _ (.tail _ (.head _)))) (by omega) (by decide) ⟨rfl, fun i v q => by cases q⟩ (by rw [List.append_nil]; exact hys)) (.tail _ (.head _)) hys ?_ F8 N8
      intro p hp
      have d1 : ∀ q ∈ l, @LT.lt Nat _ q.1 dc := fun q hq => q1 q (.tail _ hq)
      refine mem_case hp ?_ fun p hp => ?_
      · exact .inl ⟨_, _, rfl⟩
      refine mem_case hp ?_ fun p hp => ?_
      · exact .inl ⟨_, _, rfl⟩
      refine mem_case hp ?_ fun p hp => ?_
      · exact .inl ⟨_, _, rfl⟩
      refine mem_case hp ?_ fun p hp => ?_
      · exact .inl ⟨_, _, rfl⟩
      refine mem_case hp ?_ fun p hp => ?_
      · exact .inr fun q hq => Nat.lt_trans (d1 q hq) q2
      · rw [List.mem_singleton.mp hp]; exact .inr d1
end
section
open PySem PySem.W PySem.Calls PyProof.Rows PySem.Spec
local macro_rules | `(tactic| walk_at "call type:enumerate") => `(tactic| (with_reducible refine halt ?_))
local macro_rules | `(tactic| walk_at "unpackItems ref") => `(tactic| (refine unpackItemsN_ (by assumption) (by assumption) (News.isTup (by assumption) (by k_mem)) (by assumption) rfl ?_; intro h' F' N'))
local macro_rules | `(tactic| walk_at "assign Tuple") => `(tactic| (refine unpackN_ (by assumption) (by assumption) (News.isTup (by assumption) (by k_mem)) (by assumption) rfl rfl ?_; intro h' F' N'))
inductive IvOnS (P : Nat → (Str → Option Value) → List (Addr × Obj) → Prop) (G : Heap) (L : Addr) (g : Array GenState) (d : Drawn) (os : OsState) (i : Nat) (own : List (Addr × Obj)) (wr : List Addr) (s₃ : Shared) : Prop
  | mk (m' : Str → Option Value) (l' : List (Addr × Obj)) (h' : Heap) (tk' : Nat) (es : s₃ = ⟨h', g, d, tk', os⟩) (p : P (i + 1) m' l') (F : Fr G L h' m') (N : News G L h' (own ++ l')) (off : ∀ p ∈ l', p.1 ∉ wr)
inductive IvSr (n : Nat) (P : Nat → (Str → Option Value) → List (Addr × Obj) → Prop) (G : Heap) (L : Addr) (g : Array GenState) (d : Drawn) (os : OsState) (St : Nat → Heap → Prop) (wr : List Addr) (k : Nat) (s : Shared) : Prop
  | mk (i : Nat) (m : Str → Option Value) (l : List (Addr × Obj)) (h : Heap) (tk : Nat) (hk : k + i = n) (es : s = ⟨h, g, d, tk, os⟩) (p : P i m l) (F : Fr G L h m) (N : News G L h l) (st : St i h) (off : ∀ p ∈ l, p.1 ∉ wr)
/-- a for over a source -/
theorem for_src2 {w : World} {A : Around} {G : Heap} {L it : Addr} {env : Env} {t0 : Expr} {fp wr : List Addr} {n : Nat} {V : Nat → Value → List (Addr × Obj) → Prop} {St : Nat → Heap → Prop} {body : List Stmt} {R : Result → Shared → Prop} {g : Array GenState} {d : Drawn} {os : OsState}
    (S : Src w A it t0 fp wr n V St) (hfp : ∀ b ∈ fp, b ≠ L ∧ G.get? b = none) (P : Nat → (Str → Option Value) → List (Addr × Obj) → Prop)
    (turn : ∀ i m l own h tk v new, i < n → V i v new → P i m l → Fr G L h m → News G L h (new ++ (own ++ l)) → (∀ p ∈ own, p.1 ∈ fp) → (∀ p ∈ l, p.1 ∉ wr) → (∀ p ∈ new, ∀ q ∈ own ++ l, q.1 < p.1) → (∀ p ∈ new, L < p.1) → (∀ b ∈ fp, ∃ o, h.get? b = some o ∧ (b, o) ∈ own) → St (i + 1) h →
      wpAny (model pw w) A (assign t0 env v) (fun _ s₂ => wpAny (model pw w) A (execs body env) (fun f s₃ => match f with
        | .next | .cont => Halt (IvOnS P G L g d os i own wr s₃)
        | .brk => R (.ok .next) s₃
        | .ret v => R (.ok (.ret v)) s₃) (notedBy (model pw w) A env fun e s' => R (.error e) s') s₂) (notedBy (model pw w) A env fun e s' => R (.error e) s') ⟨h, g, d, tk, os⟩)
    (done : ∀ m l h tk, P n m l → Fr G L h m → News G L h l → R (.ok .next) ⟨h, g, d, tk, os⟩) {m : Str → Option Value} {l : List (Addr × Obj)} {h : Heap} {tk : Nat}
    (hP : P 0 m l) (F : Fr G L h m) (N : News G L h l) (hst : St 0 h) (off : ∀ p ∈ l, p.1 ∉ wr) : codeAny (model pw w) A (.forLoop t0 (.ref it) body [] env) R ⟨h, g, d, tk, os⟩ := by
  refine codeAny_forLoop_any (IvSr n P G L g d os St wr) (fun k s hI => ?_) n ⟨0, m, l, h, tk, rfl, rfl, hP, F, N, hst, off⟩
  obtain ⟨i, m, l, h, tk, hk, rfl, hP, F, N, hst, off⟩ := hI
  by_cases hi : i < n
  · refine wpAny_mono (S.item i ⟨h, g, d, tk, os⟩ (fun v s₂ => wpAny (model pw w) A (assign t0 env v) (fun _ s₂ => wpAny (model pw w) A (execs body env) (fun f s₃ => match f with
        | .next | .cont => ∃ m, m < k ∧ IvSr n P G L g d os St wr m s₃
        | .brk => R (.ok .next) s₃
        | .ret v => R (.ok (.ret v)) s₃) (notedBy (model pw w) A env fun e s' => R (.error e) s') s₂) (notedBy (model pw w) A env fun e s' => R (.error e) s') s₂) _ hi hst fun v h' tk' new hV hst' hnew hkeep => ?_) (fun r s₁ z => ?_) fun _ _ e => e
    · have Lw : L ∉ wr := fun q => (hfp L (S.sub L q)).1 rfl
      have F' : Fr G L h' m := fr_keep F (fun o => hkeep _ o Lw) fun b o e => hkeep b o (fun q => by rw [(hfp b (S.sub b q)).2] at e; cases e) (F.keep b o e)
      have Lh : L < h.objs.size := F.ns.lt
      have N' : News G L h' (new ++ (ownOf h' fp ++ l)) := fun p hp => by
        rcases List.mem_append.mp hp with hp | hp
        · have z := hnew p hp
          exact ⟨z.1, Nat.ne_of_gt (Nat.lt_of_lt_of_le Lh z.2), Heap.get?_none_of_le (Nat.le_trans F.above (Nat.le_of_lt (Nat.lt_of_lt_of_le Lh z.2)))⟩
        · rcases List.mem_append.mp hp with hp | hp
          · exact ⟨(ownOf_get hp).2, hfp _ (ownOf_get hp).1⟩
          · exact ⟨hkeep _ _ (off p hp) (N p hp).1, (N p hp).2⟩
      refine wpAny_mono (turn i m l (ownOf h' fp) h' tk' v new hi hV hP F' N' (fun p hp => (ownOf_get hp).1) off (fun p hp q hq => ?_) (fun p hp => Nat.lt_of_lt_of_le Lh (hnew p hp).2) (fun b hb => let ⟨o, e⟩ := S.has _ _ hst' b hb; ⟨o, e, ownOf_has hb e⟩) hst') (fun _ s₂ q => wpAny_mono q (fun f s₃ r => ?_) fun _ _ e => e) fun _ _ e => e
      · refine Nat.lt_of_lt_of_le ?_ (hnew p hp).2
        rcases List.mem_append.mp hq with hq | hq
        · obtain ⟨o, e⟩ := S.has i h hst _ (ownOf_get hq).1
          exact Heap.lt_size e
        · exact Heap.lt_size (N q hq).1
      · cases f with
        | next =>
          obtain ⟨m', l', h2, tk2, rfl, a, b, c, e⟩ := halt r
          exact ⟨k - 1, (ar_lp hk hi).1, i + 1, m', l', h2, tk2, (ar_lp hk hi).2, rfl, a, b, fun p hp => c p (List.mem_append_right _ hp), S.frame _ _ _ hst' fun b hb o z => (c (b, o) (List.mem_append_left _ (ownOf_has hb z))).1, e⟩
        | cont =>
          obtain ⟨m', l', h2, tk2, rfl, a, b, c, e⟩ := halt r
          exact ⟨k - 1, (ar_lp hk hi).1, i + 1, m', l', h2, tk2, (ar_lp hk hi).2, rfl, a, b, fun p hp => c p (List.mem_append_right _ hp), S.frame _ _ _ hst' fun b hb o z => (c (b, o) (List.mem_append_left _ (ownOf_has hb z))).1, e⟩
        | brk => exact r
        | ret v => exact r
    · cases r with
      | none => exact z.elim
      | some v => exact wpAny_mono z (fun _ _ q => q) fun _ _ e => e
  · obtain rfl : i = n := by omega
    refine wpAny_mono (S.done ⟨h, g, d, tk, os⟩ (fun s₁ => wpAny (model pw w) A (execs [] env) (fun f s₃ => R (.ok f) s₃) (notedBy (model pw w) A env fun e s' => R (.error e) s') s₁) _ hst fun h' tk' hkeep => ?_) (fun r s₁ z => ?_) fun _ _ e => e
    · have Lw : L ∉ wr := fun q => (hfp L (S.sub L q)).1 rfl
      refine wpAny_execs_nil (done m l h' tk' hP (fr_keep F (fun o => hkeep _ o Lw) fun b o e => hkeep b o (fun q => by rw [(hfp b (S.sub b q)).2] at e; cases e) (F.keep b o e)) fun p hp => ⟨hkeep _ _ (off p hp) (N p hp).1, (N p hp).2⟩)
    · cases r with
      | none => exact z
      | some v => exact z.elim
noncomputable def psOf (is : List Int) : List (Int × Int) := is.mapIdx fun j v => ((j : Int), v + 20)
noncomputable def mTab (wy : Int) (tw : Tok) (S x : Addr) (pl on : Option Value) (mq : Str → Option Value) : Str → Option Value := fun y => if y = Str.ofString "one" then on else if y = Str.ofString "place" then pl else if y = Str.ofString "table" then some (.ref x) else if y = Str.ofString "way" then some (.int wy tw) else if y = Str.ofString "some" then some (.ref S) else mq y
inductive TabL (w : World) (t1 t2 t3 tc : Tok) (may de dx x S : Addr) (ys : List Value) (i : Nat) (oE : Obj) (xs : List (Int × Addr × Value)) (new l l' : List (Addr × Obj)) (is : List Int) : Prop
  | mk (el : l' = (dx, tabD w t1 t2 t3 tc may de (i : Int)) :: (de, oE) :: (x, instObj 458 dx) :: (S, PySem.W.listOf ys.toArray ys.length) :: (new ++ l)) (he : EntO w xs oE) (hk : xs.map (·.1) = (psOf (is.take i)).map (·.1)) (hm : ∀ y ∈ xs, MarkIn new y.1 y.2.1) (hr : Rows new (xs.map (·.2.2)) (psOf (is.take i))) (hn : ∀ p ∈ new, ∃ vs n, p.2 = tupO vs n)
inductive IvTab (w : World) (wy : Int) (tw : Tok) (may de dx x S : Addr) (mq : Str → Option Value) (ys : List Value) (l : List (Addr × Obj)) (is : List Int) (i : Nat) (m' : Str → Option Value) (l' : List (Addr × Obj)) : Prop
  | mk (pl on : Option Value) (u1 u2 u3 uc : Tok) (oE' : Obj) (xs : List (Int × Addr × Value)) (new : List (Addr × Obj)) (em : m' = mTab wy tw S x pl on mq) (hT : TabL w u1 u2 u3 uc may de dx x S ys i oE' xs new l l' is)
theorem psOf_snoc (l : List Int) (v : Int) : psOf (l ++ [v]) = psOf l ++ [((l.length : Int), v + 20)] := by
  unfold psOf
  rw [List.mapIdx_append]
  simp
theorem psOf_len (l : List Int) : (psOf l).length = l.length := by unfold psOf; rw [List.length_mapIdx]
theorem psOf_lt {l : List Int} {k : Int} (h : k ∈ (psOf l).map (·.1)) : k < l.length := by
  obtain ⟨p, hp, rfl⟩ := List.mem_map.mp h
  obtain ⟨i, hi, rfl⟩ := List.mem_iff_getElem.mp hp
  have e : (psOf l)[i] = ((i : Int), l[i]'(by rw [psOf_len] at hi; exact hi) + 20) := by simp [psOf]
  rw [e]
  rw [psOf_len] at hi
  exact Int.ofNat_lt.mpr hi
theorem rows_snoc {new newp : List (Addr × Obj)} {vs : List Value} {ps : List (Int × Int)} {k v : Int} {r : Value} (h : Rows new vs ps) (hr : RowIn newp (vs.length : Int) k v r) : Rows (newp ++ new) (vs ++ [r]) (ps ++ [(k, v)]) := by
  refine ⟨by rw [List.length_append, List.length_append, h.1]; rfl, fun i p hp => ?_⟩
  by_cases hi : i < ps.length
  · rw [List.getElem?_append_left hi] at hp
    obtain ⟨u, hu, a, v1, v2, v3, rfl, hm⟩ := h.2 i p hp
    exact ⟨_, by rw [List.getElem?_append_left (by rw [h.1]; exact hi)]; exact hu, a, v1, v2, v3, rfl, List.mem_append_right _ hm⟩
  · have hi' : i = ps.length := by
      have := (List.getElem?_eq_some_iff.mp hp).1
      rw [List.length_append, List.length_singleton] at this
      omega
    subst hi'
    rw [List.getElem?_append_right (Nat.le_refl _), Nat.sub_self] at hp
    cases hp
    obtain ⟨a, v1, v2, v3, rfl, hm⟩ := hr
    rw [h.1] at hm
    exact ⟨.ref a, by rw [← h.1, List.getElem?_append_right (Nat.le_refl _), Nat.sub_self]; rfl, a, v1, v2, v3, rfl, List.mem_append_left _ hm⟩
theorem MarkIn.mono {l l' : List (Addr × Obj)} (k : ∀ p ∈ l, p ∈ l') {n : Int} {a : Addr} (h : MarkIn l n a) : MarkIn l' n a := by
  obtain ⟨c, t1, t2, h1, h2⟩ := h
  exact ⟨c, t1, t2, k _ h1, k _ h2⟩
theorem tup_ne_dict {G h : Heap} {L a : Addr} {l : List (Addr × Obj)} {o : Obj} (N : News G L h l) (hm : (a, o) ∈ l) (hd : ∃ es ep, o.data = .dict es ep) {p : Addr × Obj} (hp : p ∈ l) (ht : ∃ vs n, p.2 = tupO vs n) : p.1 ≠ a := fun q => by
  obtain ⟨us, un, r⟩ := ht
  obtain ⟨es, ep, hd⟩ := hd
  have e1 := (N p hp).1
  rw [q, (N _ hm).1, r] at e1
  have e2 : o = tupO us un := Option.some.inj e1
  rw [e2] at hd
  cases hd
set_option maxHeartbeats 1000000 in
theorem for34 {w : World} {mean : ExcName → Option Value} {mg mb : Str → Option Value} {G : Heap} {A : Around} {h : Heap} {g : Array GenState} {dr : Drawn} {tk : Nat} {os : OsState} {L' S x dx may de : Addr} {mq : Str → Option Value} {l : List (Addr × Obj)} {wy : Int} {tw t1 t2 t3 tc : Tok} {oE : Obj} {ys : List Value} {is : List Int} {Q : Flow → Shared → Prop} {E : Value → Shared → Prop}
    {s0 s1 s2 s3 s4 s5 s6 : Stmt} {rst : List Stmt} (hst : T42.1.2.1 = s0 :: s1 :: s2 :: s3 :: s4 :: s5 :: s6 :: rst)
    (hA : Rm A 39) (X : (KP w.params).In G) (T : Top topProg lsT mean mg mb G) (hys : IntVs ys is) (hyl : ys.length ≤ 3)
    (F : Fr G L' h (fun y => if y = Str.ofString "table" then some (.ref x) else if y = Str.ofString "way" then some (.int wy tw) else if y = Str.ofString "some" then some (.ref S) else mq y))
    (N : News G L' h ((dx, tabD w t1 t2 t3 tc may de 0) :: (de, oE) :: (x, instObj 458 dx) :: (S, PySem.W.listOf ys.toArray ys.length) :: l)) (e : EntO w [] oE)
    (q1 : ∀ p ∈ (S, PySem.W.listOf ys.toArray ys.length) :: l, p.1 < dx) (q2 : @LT.lt Nat _ dx x) (q3 : @LT.lt Nat _ x de) (hsm : (de == sysModules) = false)
    (ret : ∀ h' tk' pl on l' u1 u2 u3 uc oE' xs new, TabL w u1 u2 u3 uc may de dx x S ys ys.length oE' xs new l l' is → Fr G L' h' (mTab wy tw S x pl on mq) → News G L' h' l' → Q .next ⟨h', g, dr, tk', os⟩) :
    wpAny (model pw w) (A.deeper (oEnv L')) (exec s6 (oEnv L')) Q E ⟨h, g, dr, tk, os⟩ := by
  have hh : A.handled = none := hA.hh
  simp only [List.cons.injEq] at hst
  obtain ⟨-, -, -, -, -, -, rfl, -⟩ := hst
  refine wpAny_For ?_ (by intro _; rfl)
  repeat' (first | walk1 | (dsimp only; walk1) | walk_at "THEN")
  have hL : h.IsList S ys.toArray := ⟨_, (N _ (.tail _ (.tail _ (.tail _ (.head _))))).1, rfl, _, rfl⟩
  refine Halt.mk (call_enumerate_list hL fun h2 he hi hz hk => ?_)
  dsimp only at he hi hz ⊢
  have hSlt : S < h.objs.size := Heap.lt_size (N _ (.tail _ (.tail _ (.tail _ (.head _))))).1
  have nb : ∀ a, h.objs.size ≤ a → a ≠ L' ∧ G.get? a = none := fun a ha => ⟨Nat.ne_of_gt (Nat.lt_of_lt_of_le F.ns.lt ha), Heap.get?_none_of_le (Nat.le_trans F.above (Nat.le_trans (Nat.le_of_lt F.ns.lt) ha))⟩
  refine wpAny_pyIter_enum he ?_
  refine for_src2 (G := G) (L := L') (Src.enum (by exact hh) (h.objs.size + 1) h.objs.size S (Nat.succ_ne_self _) (Nat.ne_of_lt (Nat.lt_succ_of_lt hSlt)) (Nat.ne_of_lt hSlt) ys.toArray) (fun b hb => ?_)
    (IvTab w wy tw may de dx x S mq ys l is) ?_ ?_ ⟨mq (Str.ofString "place"), mq (Str.ofString "one"), _, _, _, _, _, [], [], rfl, rfl, e, rfl, (fun y hy => nomatch hy), ⟨rfl, fun i p hp => by cases hp⟩, fun p hp => nomatch hp⟩ (fr_m (F.keeps hk) fun y => ?_) (N.grown hk) ⟨⟨_, he⟩, hi, hL.at fun o z => hk _ o z⟩ (fun p hp q => ?_)
  · simp only [List.mem_cons, List.not_mem_nil, or_false] at hb
    rcases hb with rfl | rfl | rfl
    · exact nb _ (Nat.le_succ _)
    · exact nb _ (Nat.le_refl _)
    · exact (N _ (.tail _ (.tail _ (.tail _ (.head _))))).2
  · rintro i m' l' own h5 tk5 v new5 hi5 ⟨T5, tk6, x5, rfl, hx5, rfl⟩ ⟨pl, on, u1, u2, u3, uc, oE', xs, new, rfl, rfl, e5, hk5, hm5, hr5, hn5⟩ F5 N5 hown hoff hfr hfL hhas ⟨⟨old5, he5⟩, hi6, hl6⟩
    obtain ⟨j, tj, hj, rfl⟩ := hys.get (k := i) (v := x5) (by simpa using hx5)
    have hF : ∀ y, mTab wy tw S x pl on mq y = if y = Str.ofString "one" then on else if y = Str.ofString "place" then pl else if y = Str.ofString "table" then some (.ref x) else if y = Str.ofString "way" then some (.int wy tw) else if y = Str.ofString "some" then some (.ref S) else mq y := fun y => rfl
    have F6 := fr_m F5 hF
    have i3 : i < 3 := by rw [List.size_toArray] at hi5; omega
    have hi60 : (i : Int) < 2 ^ 60 := by omega
    have N6 : News G L' h5 ((T5, tupO [.int (i : Int) tk6, .int j tj] 0) :: (dx, tabD w u1 u2 u3 uc may de (i : Int)) :: (de, oE') :: (x, instObj 458 dx) :: (S, PySem.W.listOf ys.toArray ys.length) :: (own ++ (new ++ l))) := fun p hp => N5 p (by
      first | (refine sub_at ?_ hp; walk_at "SUB") | (simp only [List.mem_cons, List.mem_append, List.not_mem_nil, or_false] at hp ⊢; grind))
    have hde : de < h.objs.size := Heap.lt_size (N _ (.tail _ (.head _))).1
    clear F5
    repeat' (first | walk1 | (dsimp only; walk1) | walk_at "THEN")
    rename_i h7 F7 N7
    have isl : is.length = ys.length := hys.len.symm
    have hil : i < is.length := by rw [isl, ← List.size_toArray]; exact hi5
    have tk1 : is.take (i + 1) = is.take i ++ [j] := by rw [List.take_add_one, hj]; rfl
    have tl : (is.take i).length = i := by rw [List.length_take]; omega
    have xl : xs.length = i := by
      have := congrArg List.length hk5
      rw [List.length_map, List.length_map, psOf_len, tl] at this
      exact this
    have dxe : @LT.lt Nat _ dx de := Nat.lt_trans q2 q3
    have N8 : News G L' h7 ((dx, tabD w u1 u2 u3 uc may de (i : Int)) :: (de, oE') :: ((T5, tupO [.int (i : Int) tk6, .int j tj] 0) :: (x, instObj 458 dx) :: (S, PySem.W.listOf ys.toArray ys.length) :: (own ++ (new ++ l)))) := fun p hp => N7 p (by
      first | (refine sub_at ?_ hp; walk_at "SUB") | (simp only [List.mem_cons] at hp ⊢; grind))
    refine Halt.mk (put_ok (hA.deeper.le (by decide)) X T F7 N8 (.tail _ (.head _)) e5 (fun y hy => (hm5 y hy).mono fun p hp => .tail _ (.tail _ (.tail _ (List.mem_append_right _ (List.mem_append_left _ hp))))) (fun q => ?_) (by omega) (by omega) (by omega) (Nat.ne_of_gt q2) (Nat.ne_of_lt q3) (Nat.ne_of_lt dxe) (fun p hp => ?_) hsm fun a r newp oE2 u4 uc2 h8 tk8 hM hR hnt e8 F8 N9 => ?_)
    · rw [hk5] at q
      have := psOf_lt q
      rw [tl] at this
      exact Int.lt_irrefl _ this
    · refine mem_case hp ?_ fun p hp => ?_
      · exact ⟨Nat.ne_of_gt (hfr _ (.head _) (dx, _) (List.mem_append_right _ (.head _))), Nat.ne_of_gt (hfr _ (.head _) (de, _) (List.mem_append_right _ (.tail _ (.head _))))⟩
      refine mem_case hp ?_ fun p hp => ?_
      · exact ⟨Nat.ne_of_gt q2, Nat.ne_of_lt q3⟩
      refine mem_case hp ?_ fun p hp => ?_
      · have := q1 _ (.head _)
        exact ⟨Nat.ne_of_lt this, Nat.ne_of_lt (Nat.lt_trans this dxe)⟩
      rcases List.mem_append.mp hp with hp | hp
      · have := hown p hp
        simp only [List.mem_cons, List.not_mem_nil, or_false] at this
        rcases this with q | q | q
        · rw [q]; exact ⟨Nat.ne_of_gt (Nat.lt_succ_of_lt (Nat.lt_trans dxe hde)), Nat.ne_of_gt (Nat.lt_succ_of_lt hde)⟩
        · rw [q]; exact ⟨Nat.ne_of_gt (Nat.lt_trans dxe hde), Nat.ne_of_gt hde⟩
        · rw [q]
          have := q1 _ (.head _)
          exact ⟨Nat.ne_of_lt this, Nat.ne_of_lt (Nat.lt_trans this dxe)⟩
      rcases List.mem_append.mp hp with hp | hp
      · have pm : p ∈ (dx, tabD w u1 u2 u3 uc may de (i : Int)) :: (de, oE') :: ((T5, tupO [.int (i : Int) tk6, .int j tj] 0) :: (x, instObj 458 dx) :: (S, PySem.W.listOf ys.toArray ys.length) :: (own ++ (new ++ l))) := .tail _ (.tail _ (.tail _ (.tail _ (.tail _ (List.mem_append_right _ (List.mem_append_left _ hp))))))
        exact ⟨tup_ne_dict N8 (.head _) ⟨_, _, rfl⟩ pm (hn5 p hp), tup_ne_dict N8 (.tail _ (.head _)) (by obtain ⟨_, es, ep, hd, _⟩ := e5; exact ⟨es, ep, hd⟩) pm (hn5 p hp)⟩
      · have := q1 p (.tail _ hp)
        exact ⟨Nat.ne_of_lt this, Nat.ne_of_lt (Nat.lt_trans this dxe)⟩
    repeat' (first | walk1 | (dsimp only; walk1) | walk_at "THEN")
    try dsimp only
    have own1 : ∀ b ∈ [h.objs.size + 1, h.objs.size], ∃ o vs, (b, o) ∈ own ∧ o.data = .fields vs := fun b hb => by
      rcases List.mem_cons.mp hb with rfl | hb
      · obtain ⟨o, g1, g2⟩ := hhas _ (.head _)
        have he6 : h5.get? (h.objs.size + 1) = _ := he5
        rw [he6] at g1
        exact ⟨o, _, g2, by rw [← Option.some.inj g1]⟩
      · rw [List.mem_singleton.mp hb]
        obtain ⟨o, g1, g2⟩ := hhas _ (.tail _ (.head _))
        obtain ⟨o2, g3, g4, g5⟩ := hi6
        rw [g3] at g1
        exact ⟨o, _, g2, by rw [← Option.some.inj g1]; exact g5⟩
    refine Halt.mk ⟨mTab wy tw S x (some (.int (i : Int) tk6)) (some (.int j tj)) mq, _, h8, _, rfl, ⟨_, _, u1, u2, u4, uc2, oE2, xs ++ [((i : Int), a, r)], newp ++ new, rfl, rfl, e8, ?_, ?_, ?_, ?_⟩, fr_m F8 fun y => ?_, fun p hp => N9 p ?_, fun p hp q => ?_⟩
    · rw [tk1, psOf_snoc, List.map_append, List.map_append, hk5, tl]; rfl
    · intro y hy
      rcases List.mem_append.mp hy with hy | hy
      · exact (hm5 y hy).mono fun p hp => List.mem_append_right _ hp
      · rw [List.mem_singleton.mp hy]; exact hM.mono fun p hp => List.mem_append_left _ hp
    · rw [tk1, psOf_snoc, List.map_append, tl]
      exact rows_snoc hr5 (by rw [List.length_map, xl]; exact hR)
    · intro p hp
      rcases List.mem_append.mp hp with hp | hp
      · exact hnt p hp
      · exact hn5 p hp
    · unfold mTab
      by_cases h1 : y = Str.ofString "one"
      · simp only [h1, if_true]
      · by_cases h2 : y = Str.ofString "place"
        · simp only [h2, if_true]
        · simp only [h1, h2, if_false]
    · have ei : ((i + 1 : Nat) : Int) = (i : Int) + 1 := rfl
      rw [ei] at hp
      first | (refine sub_at ?_ hp; walk_at "SUB") | (simp only [List.mem_append, List.mem_cons] at hp ⊢; grind)
    · have old : ∀ r ∈ (dx, tabD w u1 u2 u3 uc may de (i : Int)) :: (de, oE') :: (x, instObj 458 dx) :: (S, PySem.W.listOf ys.toArray ys.length) :: (new ++ l), r.1 ∉ [h.objs.size + 1, h.objs.size] := hoff
      revert q
      refine mem_case hp ?_ fun p hp => ?_
      · exact fun q => old _ (.head _) q
      refine mem_case hp ?_ fun p hp => ?_
      · exact fun q => old _ (.tail _ (.head _)) q
      refine mem_case hp ?_ fun p hp => ?_
      · exact fun q => old _ (.tail _ (.tail _ (.head _))) q
      refine mem_case hp ?_ fun p hp => ?_
      · exact fun q => old _ (.tail _ (.tail _ (.tail _ (.head _)))) q
      intro q
      rcases List.mem_append.mp hp with hp | hp
      · rcases List.mem_append.mp hp with hp | hp
        · obtain ⟨o, vs, g2, g3⟩ := own1 _ q
          obtain ⟨us, un, g4⟩ := hnt p hp
          have z1 := (N9 p (.tail _ (.tail _ (List.mem_append_left _ hp)))).1
          have z2 := (N9 (p.1, o) (.tail _ (.tail _ (List.mem_append_right _ (.tail _ (.tail _ (.tail _ (List.mem_append_left _ g2)))))))).1
          have z3 : h8.get? p.1 = some o := z2
          rw [z3, g4] at z1
          rw [Option.some.inj z1] at g3
          cases g3
        · exact old _ (.tail _ (.tail _ (.tail _ (.tail _ (List.mem_append_left _ hp))))) q
      · exact old _ (.tail _ (.tail _ (.tail _ (.tail _ (List.mem_append_right _ hp))))) q
  · rintro m' l' h5 tk5 ⟨pl, on, u1, u2, u3, uc, oE', xs, new, rfl, hT⟩ F5 N5
    rw [List.size_toArray] at hT
    exact ret _ _ _ _ _ _ _ _ _ _ _ _ hT F5 N5
  · unfold mTab
    by_cases h1 : y = Str.ofString "one"
    · subst h1; rfl
    · by_cases h2 : y = Str.ofString "place"
      · subst h2; rfl
      · simp only [h1, h2, if_false]
  · have := Heap.lt_size (N p hp).1
    simp only [List.mem_cons, List.not_mem_nil, or_false] at q
    rcases q with q | q
    · rw [q] at this; exact Nat.lt_irrefl _ (Nat.lt_of_succ_lt this)
    · rw [q] at this; exact Nat.lt_irrefl _ this
end
section
open PySem PySem.W PySem.Calls PyProof.Rows PySem.Spec
local macro_rules | `(tactic| walk_at "call type:enumerate") => `(tactic| (with_reducible refine halt ?_))
local macro_rules | `(tactic| walk_at "eval Name") => `(tactic| ((with_reducible show wpAny _ _ (eval (Expr.Name _ _) (compEnvC _ _ _ _)) _ _ _); refine' lcf_free ?N ?c ?m ?d ?_ ?a ?b; (case a => rfl); (case b => rfl); (case N => with_reducible assumption); (case c => rfl); (case m => with_reducible assumption); (case d => with_reducible assumption)))
set_option maxHeartbeats 1000000 in
theorem rows34 {w : World} {mean : ExcName → Option Value} {mg mb : Str → Option Value} {G : Heap} {A : Around} {h : Heap} {g : Array GenState} {dr : Drawn} {tk : Nat} {os : OsState} {L' S x : Addr} {mq : Str → Option Value} {l : List (Addr × Obj)} {wy : Int} {tw : Tok} {pl on : Option Value} {ys : List Value} {is : List Int} {Q : Flow → Shared → Prop} {E : Value → Shared → Prop}
    {s0 s1 s2 s3 s4 s5 s6 s7 : Stmt} {rst : List Stmt} (hst : T42.1.2.1 = s0 :: s1 :: s2 :: s3 :: s4 :: s5 :: s6 :: s7 :: rst)
    (hA : Rm A 39) (X : (KP w.params).In G) (T : Top topProg lsT mean mg mb G) (hys : IntVs ys is) (hyl : ys.length ≤ 3)
    (F : Fr G L' h (mTab wy tw S x pl on mq)) (N : News G L' h l) (hS : (S, PySem.W.listOf ys.toArray ys.length) ∈ l)
    (ret : ∀ R rv h' tk', IntVs rv (flatP (psOf is)) → Fr G L' h' (fun y => if y = Str.ofString "rows" then some (.ref R) else mTab wy tw S x pl on mq y) → News G L' h' ((R, PySem.W.listOf rv.toArray rv.length) :: l) → Q .next ⟨h', g, dr, tk', os⟩) :
    wpAny (model pw w) (A.deeper (oEnv L')) (exec s7 (oEnv L')) Q E ⟨h, g, dr, tk, os⟩ := by
  have hh : A.handled = none := hA.hh
  simp only [List.cons.injEq] at hst
  obtain ⟨-, -, -, -, -, -, -, rfl, -⟩ := hst
  have hF : ∀ y, mTab wy tw S x pl on mq y = if y = Str.ofString "one" then on else if y = Str.ofString "place" then pl else if y = Str.ofString "table" then some (.ref x) else if y = Str.ofString "way" then some (.int wy tw) else if y = Str.ofString "some" then some (.ref S) else mq y := fun y => rfl
  have F6 := fr_m F hF
  clear F
  refine comp2_assign (by rfl) (by rfl) (by rfl) (by decide) ?_ (by intro _; rfl)
  repeat' (first | walk1 | (dsimp only; walk1) | walk_at "THEN")
  have hL : h.IsList S ys.toArray := ⟨_, (N _ hS).1, rfl, _, rfl⟩
  refine Halt.mk (call_enumerate_list hL fun h2 he hi hz hk => ?_)
  dsimp only at he hi hz ⊢
  have hSlt : S < h.objs.size := Heap.lt_size (N _ hS).1
  have nb : ∀ a, h.objs.size ≤ a → a ≠ L' ∧ G.get? a = none := fun a ha => ⟨Nat.ne_of_gt (Nat.lt_of_lt_of_le F6.ns.lt ha), Heap.get?_none_of_le (Nat.le_trans F6.above (Nat.le_trans (Nat.le_of_lt F6.ns.lt) ha))⟩
  refine Halt.mk (wpAny_pyIter_enum he ?_)
  unfold Rest2
  refine comp2_block (G := G) (L := L') (l := l) (by exact hh) (fun _ _ => rfl) (Src.enum (by exact hh) (h.objs.size + 1) h.objs.size S (Nat.succ_ne_self _) (Nat.ne_of_lt (Nat.lt_succ_of_lt hSlt)) (Nat.ne_of_lt hSlt) ys.toArray) (by decide) rfl rfl (by decide)
    ⟨⟨_, he⟩, hi, hL.at fun o z => hk _ o z⟩ (fun b hb => ?_) (F6.keeps hk) (N.grown hk) (fun p hp q => ?_)
    (fun i v new m₂ => ∃ T tk x, v = .ref T ∧ ys.toArray[i]? = some x ∧ new = [(T, tupO [.int i tk, x] 0)] ∧ m₂ (Str.ofString "place") = some (.int i tk) ∧ m₂ (Str.ofString "value") = some x) (asg_pair (by exact hh) (by decide) rfl rfl rfl)
    (fun i zs l' => IntVs zs (flatP (psOf (is.take i))) ∧ zs.length = 2 * i ∧ ∀ p ∈ l, p ∈ l') ⟨trivial, rfl, fun p hp => hp⟩ ?_ ?_
  · show b ≠ L' ∧ G.get? b = none ∧ b < h2.objs.size
    rw [hz]
    simp only [List.mem_cons, List.not_mem_nil, or_false] at hb
    rcases hb with rfl | rfl | rfl
    · exact ⟨(nb _ (Nat.le_succ _)).1, (nb _ (Nat.le_succ _)).2, Nat.lt_succ_self _⟩
    · exact ⟨(nb _ (Nat.le_refl _)).1, (nb _ (Nat.le_refl _)).2, Nat.lt_succ_of_lt (Nat.lt_succ_self _)⟩
    · exact ⟨(N _ hS).2.1, (N _ hS).2.2, Nat.lt_succ_of_lt (Nat.lt_succ_of_lt hSlt)⟩
  · have := Heap.lt_size (N p hp).1
    simp only [List.mem_cons, List.not_mem_nil, or_false] at q
    rcases q with q | q
    · rw [q] at this; exact Nat.lt_irrefl _ (Nat.lt_of_succ_lt this)
    · rw [q] at this; exact Nat.lt_irrefl _ this
  · rintro i zs l5 own C oC D5 m₂ h5 tk5 v new E5 hi5 - ⟨T5, tk6, x5, rfl, hx5, rfl, hp5, hv5⟩ hoC ⟨hzs, hzl, hsub⟩ F5 N5 hCD CD hown hfp5 hwr hnf
    obtain ⟨j, tj, hj, rfl⟩ := hys.get (k := i) (v := x5) (by simpa using hx5)
    have i3 : i < 3 := by rw [List.size_toArray] at hi5; omega
    have isl : is.length = ys.length := hys.len.symm
    have hil : i < is.length := by rw [isl, ← List.size_toArray]; exact hi5
    have tk1 : is.take (i + 1) = is.take i ++ [j] := by rw [List.take_add_one, hj]; rfl
    have tl : (is.take i).length = i := by rw [List.length_take]; omega
    have hwl : ∀ b ∈ [h.objs.size + 1, h.objs.size], ∃ o, (b, o) ∈ own := fun b hb => hfp5 b (by
      simp only [List.mem_cons, List.not_mem_nil, or_false] at hb ⊢
      rcases hb with hb | hb
      · exact .inl hb
      · exact .inr (.inl hb))
    clear F6 N
    have hns := hoC.ns (N5 _ (.head _)).1
    repeat' (first | walk1 | (dsimp only; walk1) | walk_at "THEN")
    rename_i R h7 F7 N7 lb
    refine Halt.mk ⟨R, false, [.int (i : Int) tk6, .int (j + 20) (tk5 + 1)], 0, (R, PySem.W.listOf #[.int (i : Int) tk6, .int (j + 20) (tk5 + 1)] 0) :: l5, h7, _, rfl, rfl, F7, fun p hp => N7 p ?_, .head _, fun p hp => ?_, ?_, ?_, ?_, fun p hp => .tail _ (hsub p hp)⟩
    · refine mem_case hp ?_ fun p hp => ?_
      · exact .tail _ (.head _)
      refine mem_case hp ?_ fun p hp => ?_
      · exact .tail _ (.tail _ (.head _))
      rcases List.mem_append.mp hp with hp | hp
      · exact .tail _ (.tail _ (.tail _ (List.mem_append_right _ (List.mem_append_left _ hp))))
      refine mem_case hp ?_ fun p hp => ?_
      · exact .head _
      · exact .tail _ (.tail _ (.tail _ (List.mem_append_right _ (List.mem_append_right _ hp))))
    · refine mem_case hp ?_ fun p hp => ?_
      · refine ⟨fun q => ?_, Nat.ne_of_gt lb.1, Nat.ne_of_gt lb.2.1⟩
        obtain ⟨o, ho⟩ := hwl _ q
        exact Nat.lt_irrefl _ (allLt_mem lb.2.2 (List.mem_append_right _ (List.mem_append_left _ ho)))
      · exact ⟨hwr p hp, hCD p (List.mem_append_right _ (List.mem_append_right _ hp))⟩
    · show zs.length + 2 ≤ 1000
      omega
    · rw [tk1, psOf_snoc, tl]
      have e : flatP (psOf (is.take i) ++ [((i : Int), j + 20)]) = flatP (psOf (is.take i)) ++ [(i : Int), j + 20] := by unfold flatP; rw [List.flatMap_append]; rfl
      rw [e]
      exact hzs.app ⟨⟨tk6, rfl⟩, ⟨_, rfl⟩, trivial⟩
    · rw [List.length_append, hzl]; rfl
  · rintro D5 C h5 tk5 m' zs l5 ⟨hzs, _, hsub⟩ F5 N5 hn5 GC CL CD hlC
    refine rr_assign rfl rfl rfl F5 N5 hn5 GC CL CD hlC fun h6 tk6 F6 N6 => ?_
    have ei : is.take ys.toArray.size = is := List.take_of_length_le (by rw [List.size_toArray, hys.len]; exact Nat.le_refl _)
    rw [ei] at hzs
    refine ret D5 zs _ _ hzs (fr_m F6 fun y => rfl) fun p hp => N6 p ?_
    refine mem_case hp ?_ fun p hp => ?_
    · exact .head _
    · exact .tail _ (hsub p hp)
end
section
open PySem PySem.W PySem.Calls PyProof.Rows PySem.Spec
local macro_rules | `(tactic| walk_at "exec For") => `(tactic| (with_reducible refine halt ?_))
local macro_rules | `(tactic| walk_at "eval Lambda") => `(tactic| (with_reducible refine halt ?_))
inductive StopA (n : Nat) : Prop
  | mk
theorem StopA.stop {n : Nat} {p : Prop} (_ : StopA n) (h : Halt p) : p := halt h
local macro_rules | `(tactic| walk_at "exec Assign") => `(tactic| (with_reducible refine StopA.stop (n := 1) (by assumption) ?_))
theorem tab_order {G h : Heap} {L : Addr} {d r a b c s q : Addr × Obj} {new l : List (Addr × Obj)} (N : News G L h (d :: r :: a :: b :: c :: s :: (new ++ (q :: l)))) : News G L h (q :: d :: ((r :: a :: b :: c :: new) ++ l)) := fun p hp => N p (by
  refine mem_case hp ?_ fun p hp => ?_
  · exact .tail _ (.tail _ (.tail _ (.tail _ (.tail _ (.tail _ (List.mem_append_right _ (.head _)))))))
  refine mem_case hp ?_ fun p hp => ?_
  · exact .head _
  refine mem_case hp ?_ fun p hp => ?_
  · exact .tail _ (.head _)
  refine mem_case hp ?_ fun p hp => ?_
  · exact .tail _ (.tail _ (.head _))
  refine mem_case hp ?_ fun p hp => ?_
  · exact .tail _ (.tail _ (.tail _ (.head _)))
  refine mem_case hp ?_ fun p hp => ?_
  · exact .tail _ (.tail _ (.tail _ (.tail _ (.head _))))
  · refine .tail _ (.tail _ (.tail _ (.tail _ (.tail _ (.tail _ ?_)))))
    rcases List.mem_append.mp hp with hp | hp
    · exact List.mem_append_left _ hp
    · exact List.mem_append_right _ (.tail _ hp))
set_option maxHeartbeats 1000000 in
theorem obj_way3 {w : World} {mean : ExcName → Option Value} {mg mb : Str → Option Value} {G : Heap} {A : Around} {h : Heap} {g : Array GenState} {dr : Drawn} {tk : Nat} {os : OsState} {L' S : Addr} {mq : Str → Option Value} {l : List (Addr × Obj)} {tw : Tok} {ys : List Value} {is : List Int} {Q : Flow → Shared → Prop} {E : Value → Shared → Prop}
    {s0 s1 : Stmt} {rst : List Stmt} (hst : T42.1.2.1 = s0 :: s1 :: rst)
    (hA : Rm A 39) (X : (KP w.params).In G) (T : Top topProg lsT mean mg mb G) (hC : CodeHd G 568 566) (hys : IntVs ys is) (hyl : ys.length ≤ 3)
    (F : Fr G L' h (fun y => if y = Str.ofString "way" then some (.int 3 tw) else if y = Str.ofString "some" then some (.ref S) else mq y)) (N : News G L' h ((566, tabObj #[]) :: (S, PySem.W.listOf ys.toArray ys.length) :: l)) (o566 : ∀ p ∈ (S, PySem.W.listOf ys.toArray ys.length) :: l, p.1 ≠ 566)
    (ret : ∀ D t c dl ds k is' new ps h' tk' m', Held w new (Str.ofString "map") c is' → (dl, PySem.W.listOf ds k) ∈ new → IntVs ds.toList is' → NewOk l new → Fr G L' h' m' → News G L' h' ((566, tabObj ps) :: (D, tupO [.str (Str.ofString "map") t, c, .ref dl] 0) :: (new ++ l)) → Q (.ret (.ref D)) ⟨h', g, dr, tk', os⟩) :
    wpAny (model pw w) (A.deeper (oEnv L')) (execs rst (oEnv L')) Q E ⟨h, g, dr, tk, os⟩ := by
  have hh : A.handled = none := hA.hh
  simp only [List.cons.injEq] at hst
  obtain ⟨-, -, rfl⟩ := hst
  repeat' (first | walk1 | (dsimp only; walk1) | walk_at "THEN")
  refine Halt.mk (kla_eval rfl ?_)
  refine kla_nest (ps := #[]) F N T hC rfl (.head fun p hp => o566 p hp) trivial rfl rfl fun f c' oc vs tq ctv h15 tk15 F15 N15 hoc hov l15 lf15 => ?_
  obtain ⟨ps1, N15'⟩ : ∃ ps1, News G L' h15 ((566, tabObj ps1) :: (S, PySem.W.listOf ys.toArray ys.length) :: l) := ⟨_, fun p hp => N15 p (.tail _ (.tail _ hp))⟩
  clear N15
  repeat' (first | walk1 | (dsimp only; walk1) | walk_at "THEN")
  refine Halt.mk (table_new (hA.deeper.le (by decide)) X T F15 N15' fun x dx de oE t1 t2 t3 tc h16 tk16 q1 q2 q3 hsm e16 F16 N16 => ?_)
  repeat' (first | walk1 | (dsimp only; walk1) | walk_at "THEN")
  rename News _ _ _ _ => N17
  rename Fr _ _ _ _ => F17
  have hS17 : ∀ p ∈ (S, PySem.W.listOf ys.toArray ys.length) :: (566, tabObj ps1) :: l, p.1 < dx := fun p hp => q1 p (by
    simp only [List.mem_cons] at hp ⊢
    rcases hp with h | h | h <;> simp [h])
  refine Halt.mk (for34 (t1 := t1) (t2 := t2) (t3 := t3) (tc := tc) (may := f) (de := de) (dx := dx) (x := x) (S := S) (ys := ys) (oE := oE) (mq := mq) (wy := 3) (tw := tw) (l := (566, tabObj ps1) :: l) rfl hA X T hys hyl F17 (fun p hp => N17 p (by
    simp only [List.mem_cons] at hp ⊢
    rcases hp with h | h | h | h | h | h <;> simp [h])) e16 hS17 q2 q3 hsm fun h18 tk18 pl on l' u1 u2 u3 uc oE' xs new ht F18 N18 => ?_)
  have st : StopA 1 := .mk
  repeat' (first | walk1 | (dsimp only; walk1) | walk_at "THEN")
  clear N17 F17
  obtain ⟨rfl, e18, hk18, hm18, hr18, hn18⟩ := ht
  refine Halt.mk (rows34 (S := S) (ys := ys) rfl hA X T hys hyl F18 N18 (.tail _ (.tail _ (.tail _ (.head _)))) fun R rv h19 tk19 hrv F19 N19 => ?_)
  have F20 := fr_m F19 (m' := fun y => if y = Str.ofString "rows" then some (.ref R) else if y = Str.ofString "one" then on else if y = Str.ofString "place" then pl else if y = Str.ofString "table" then some (.ref x) else if y = Str.ofString "way" then some (.int 3 tw) else if y = Str.ofString "some" then some (.ref S) else mq y) (fun y => rfl)
  clear F19 F18 N18
  repeat' (first | walk1 | (dsimp only; walk1) | walk_at "THEN")
  rename News _ _ _ _ => N21
  rename Fr _ _ _ _ => F21
  have et : is.take ys.length = is := List.take_of_length_le (by rw [hys.len]; exact Nat.le_refl _)
  rw [et] at hk18 hr18
  have xl : xs.length < 64 := by
    have := congrArg List.length hk18
    rw [List.length_map, List.length_map, psOf_len, ← hys.len] at this
    omega
  have dl : ∀ q ∈ l, @LT.lt Nat _ q.1 dx := fun q hq => q1 q (.tail _ (.tail _ hq))
  refine ret _ _ _ _ _ _ (flatP (psOf is)) ((R, PySem.W.listOf rv.toArray rv.length) :: (dx, tabD w u1 u2 u3 uc f de (ys.length : Int)) :: (de, oE') :: (x, instObj 458 dx) :: new) ps1 _ _ _
    (.map x dx f de u1 u2 u3 uc _ oE' xs (psOf is) (.tail _ (.tail _ (.tail _ (.head _)))) (.tail _ (.head _)) (.tail _ (.tail _ (.head _))) e18 xl hsm (hr18.mono fun p hp => .tail _ (.tail _ (.tail _ (.tail _ hp))))) (.head _) hrv (fun p hp => ?_) F21 (tab_order N21)
  · refine mem_case hp ?_ fun p hp => ?_
    · exact .inl ⟨_, _, rfl⟩
    refine mem_case hp ?_ fun p hp => ?_
    · exact .inr dl
    refine mem_case hp ?_ fun p hp => ?_
    · exact .inr fun q hq => Nat.lt_trans (dl q hq) (Nat.lt_trans q2 q3)
    refine mem_case hp ?_ fun p hp => ?_
    · exact .inr fun q hq => Nat.lt_trans (dl q hq) q2
    · obtain ⟨us, un, z⟩ := hn18 p hp
      exact .inl ⟨us.toArray, un, by rw [z]⟩
end
section
open PySem PySem.W PySem.Calls PyProof.Rows PySem.Spec
local macro_rules | `(tactic| walk_at "exec For") => `(tactic| (with_reducible refine halt ?_))
local macro_rules | `(tactic| walk_at "eval Lambda") => `(tactic| (with_reducible refine halt ?_))
local macro_rules | `(tactic| walk_at "exec Assign") => `(tactic| (with_reducible refine StopA.stop (n := 1) (by assumption) ?_))
theorem iter_order {G h : Heap} {L : Addr} {a b c d e f g s : Addr × Obj} {r : List (Addr × Obj)} (N : News G L h (a :: b :: c :: d :: e :: f :: g :: s :: r)) : News G L h (e :: f :: (a :: b :: c :: d :: g :: r)) := fun p hp => N p (by
  first | (refine sub_at ?_ hp; walk_at "SUB") | (simp only [List.mem_cons] at hp ⊢; (rcases hp with h | h | h | h | h | h | h | h <;> simp only [h, true_or, or_true])))
theorem iter_order2 {G h : Heap} {L : Addr} {d a b c1 c2 c3 r x q : Addr × Obj} {newp new l : List (Addr × Obj)} (N : News G L h (d :: a :: b :: (newp ++ (c1 :: c2 :: c3 :: r :: x :: (new ++ (q :: l)))))) : News G L h (q :: d :: ((r :: a :: b :: c1 :: c2 :: c3 :: x :: (newp ++ new)) ++ l)) := fun p hp => N p (by
  refine sub_at ?_ hp; walk_at "SUB")
theorem seq_ne_dict {G h : Heap} {L a : Addr} {l : List (Addr × Obj)} {o : Obj} (N : News G L h l) (hm : (a, o) ∈ l) (hd : ∃ es ep, o.data = .dict es ep) {p : Addr × Obj} (hp : p ∈ l) (ht : ∃ vs n, p.2.data = .seq vs n) : p.1 ≠ a := fun q => by
  obtain ⟨us, un, r⟩ := ht
  obtain ⟨es, ep, hd⟩ := hd
  have e1 := (N p hp).1
  rw [q, (N _ hm).1] at e1
  have e2 : o = p.2 := Option.some.inj e1
  rw [e2, r] at hd
  cases hd
set_option maxHeartbeats 1000000 in
theorem obj_way4 {w : World} {mean : ExcName → Option Value} {mg mb : Str → Option Value} {G : Heap} {A : Around} {h : Heap} {g : Array GenState} {dr : Drawn} {tk : Nat} {os : OsState} {L' S : Addr} {mq : Str → Option Value} {l : List (Addr × Obj)} {tw : Tok} {ys : List Value} {is : List Int} {Q : Flow → Shared → Prop} {E : Value → Shared → Prop}
    {s0 s1 : Stmt} {rst : List Stmt} (hst : T42.1.2.1 = s0 :: s1 :: rst)
    (hA : Rm A 39) (X : (KP w.params).In G) (T : Top topProg lsT mean mg mb G) (hC : CodeHd G 568 566) (hys : IntVs ys is) (hyl : ys.length ≤ 3)
    (F : Fr G L' h (fun y => if y = Str.ofString "way" then some (.int 4 tw) else if y = Str.ofString "some" then some (.ref S) else mq y)) (N : News G L' h ((566, tabObj #[]) :: (S, PySem.W.listOf ys.toArray ys.length) :: l)) (o566 : ∀ p ∈ (S, PySem.W.listOf ys.toArray ys.length) :: l, p.1 ≠ 566)
    (ret : ∀ D t c dl ds k is' new ps h' tk' m', Held w new (Str.ofString "iter") c is' → (dl, PySem.W.listOf ds k) ∈ new → IntVs ds.toList is' → NewOk l new → Fr G L' h' m' → News G L' h' ((566, tabObj ps) :: (D, tupO [.str (Str.ofString "iter") t, c, .ref dl] 0) :: (new ++ l)) → Q (.ret (.ref D)) ⟨h', g, dr, tk', os⟩) :
    wpAny (model pw w) (A.deeper (oEnv L')) (execs rst (oEnv L')) Q E ⟨h, g, dr, tk, os⟩ := by
  have hh : A.handled = none := hA.hh
  simp only [List.cons.injEq] at hst
  obtain ⟨-, -, rfl⟩ := hst
  repeat' (first | walk1 | (dsimp only; walk1) | walk_at "THEN")
  refine Halt.mk (kla_eval rfl ?_)
  refine kla_nest (ps := #[]) F N T hC rfl (.head fun p hp => o566 p hp) trivial rfl rfl fun f c' oc vs tq ctv h15 tk15 F15 N15 hoc hov l15 lf15 => ?_
  obtain ⟨ps1, N15'⟩ : ∃ ps1, News G L' h15 ((566, tabObj ps1) :: (S, PySem.W.listOf ys.toArray ys.length) :: l) := ⟨_, fun p hp => N15 p (.tail _ (.tail _ hp))⟩
  clear N15
  repeat' (first | walk1 | (dsimp only; walk1) | walk_at "THEN")
  refine Halt.mk (table_new (hA.deeper.le (by decide)) X T F15 N15' fun x dx de oE t1 t2 t3 tc h16 tk16 q1 q2 q3 hsm e16 F16 N16 => ?_)
  repeat' (first | walk1 | (dsimp only; walk1) | walk_at "THEN")
  rename News _ _ _ _ => N17
  rename Fr _ _ _ _ => F17
  have hS17 : ∀ p ∈ (S, PySem.W.listOf ys.toArray ys.length) :: (566, tabObj ps1) :: l, p.1 < dx := fun p hp => q1 p (by
    simp only [List.mem_cons] at hp ⊢
    rcases hp with h | h | h <;> simp [h])
  refine Halt.mk (for34 (t1 := t1) (t2 := t2) (t3 := t3) (tc := tc) (may := f) (de := de) (dx := dx) (x := x) (S := S) (ys := ys) (oE := oE) (mq := mq) (wy := 4) (tw := tw) (l := (566, tabObj ps1) :: l) rfl hA X T hys hyl F17 (fun p hp => N17 p (by
    simp only [List.mem_cons] at hp ⊢
    rcases hp with h | h | h | h | h | h <;> simp [h])) e16 hS17 q2 q3 hsm fun h18 tk18 pl on l' u1 u2 u3 uc oE' xs new ht F18 N18 => ?_)
  have st : StopA 1 := .mk
  repeat' (first | walk1 | (dsimp only; walk1) | walk_at "THEN")
  clear N17 F17
  obtain ⟨rfl, e18, hk18, hm18, hr18, hn18⟩ := ht
  refine Halt.mk (rows34 (S := S) (ys := ys) rfl hA X T hys hyl F18 N18 (.tail _ (.tail _ (.tail _ (.head _)))) fun R rv h19 tk19 hrv F19 N19 => ?_)
  have F20 := fr_m F19 (m' := fun y => if y = Str.ofString "rows" then some (.ref R) else if y = Str.ofString "one" then on else if y = Str.ofString "place" then pl else if y = Str.ofString "table" then some (.ref x) else if y = Str.ofString "way" then some (.int 4 tw) else if y = Str.ofString "some" then some (.ref S) else mq y) (fun y => rfl)
  clear F19 F18 N18 st
  repeat' (first | walk1 | (dsimp only; walk1) | walk_at "THEN")
  refine Halt.mk (walk_new (hA.deeper.le (by decide)) X T (by assumption) (by assumption) (.tail _ (.tail _ (.tail _ (.head _)))) (.tail _ (.head _)) fun y dy dt oT v1 v2 v3 v4 vc h21 tk21 r1 r2 r3 hsm2 hT F21 N21 => ?_)
  repeat' (first | walk1 | (dsimp only; walk1) | walk_at "THEN")
  have xd : ∀ p ∈ (566, tabObj ps1) :: l, p.1 < dx := fun p hp => hS17 p (.tail _ hp)
  have et : is.take ys.length = is := List.take_of_length_le (by rw [hys.len]; exact Nat.le_refl _)
  rw [et] at hk18 hr18
  have xl : xs.length = ys.length := by
    have := congrArg List.length hk18
    rw [List.length_map, List.length_map, psOf_len, ← hys.len] at this
    exact this
  have dxe : @LT.lt Nat _ dx de := Nat.lt_trans q2 q3
  have ddy : @LT.lt Nat _ dx dy := r1 _ (.tail _ (.head _))
  have edy : @LT.lt Nat _ de dy := r1 _ (.tail _ (.tail _ (.head _)))
  rename News _ _ _ _ => N22
  rename Fr _ _ _ _ => F22
  have N23 := iter_order N22
  clear N22
  refine Halt.mk (put_ok (hA.deeper.le (by decide)) X T F22 N23 (.tail _ (.tail _ (.tail _ (.tail _ (.head _))))) e18 (fun y hy => (hm18 y hy).mono fun p hp => .tail _ (.tail _ (.tail _ (.tail _ (.tail _ (List.mem_append_left _ hp)))))) (fun q => ?_) (by omega) (by omega) (by omega) (Nat.ne_of_gt q2) (Nat.ne_of_lt q3) (Nat.ne_of_lt dxe) (fun p hp => ?_) hsm fun a r newp oE2 u4 uc2 h24 tk24 hM hR hnt e24 F24 N24 => ?_)
  · rw [hk18] at q
    have := psOf_lt q
    rw [← hys.len] at this
    omega
  · have hp0 := hp
    have hdE : ∃ es ep, oE'.data = .dict es ep := by obtain ⟨_, es, ep, hd, _⟩ := e18; exact ⟨es, ep, hd⟩
    rcases List.mem_cons.mp hp with rfl | hp
    · exact ⟨Nat.ne_of_gt ddy, Nat.ne_of_gt edy⟩
    rcases List.mem_cons.mp hp with rfl | hp
    · exact ⟨Nat.ne_of_gt (Nat.lt_trans ddy (Nat.lt_trans r2 r3)), Nat.ne_of_gt (Nat.lt_trans edy (Nat.lt_trans r2 r3))⟩
    rcases List.mem_cons.mp hp with rfl | hp
    · exact ⟨Nat.ne_of_gt (Nat.lt_trans ddy r2), Nat.ne_of_gt (Nat.lt_trans edy r2)⟩
    rcases List.mem_cons.mp hp with rfl | hp
    · exact ⟨seq_ne_dict N23 (.head _) ⟨_, _, rfl⟩ (.tail _ (.tail _ hp0)) ⟨_, _, rfl⟩, seq_ne_dict N23 (.tail _ (.head _)) hdE (.tail _ (.tail _ hp0)) ⟨_, _, rfl⟩⟩
    rcases List.mem_cons.mp hp with rfl | hp
    · exact ⟨Nat.ne_of_gt q2, Nat.ne_of_lt q3⟩
    rcases List.mem_append.mp hp with hp | hp
    · exact ⟨tup_ne_dict N23 (.head _) ⟨_, _, rfl⟩ (.tail _ (.tail _ hp0)) (hn18 p hp), tup_ne_dict N23 (.tail _ (.head _)) hdE (.tail _ (.tail _ hp0)) (hn18 p hp)⟩
    · exact ⟨Nat.ne_of_lt (xd p hp), Nat.ne_of_lt (Nat.lt_trans (xd p hp) dxe)⟩
  repeat' (first | walk1 | (dsimp only; walk1) | walk_at "THEN")
  rename News _ _ _ _ => N25
  rename Fr _ _ _ _ => F25
  have dl : ∀ q ∈ l, @LT.lt Nat _ q.1 dx := fun q hq => xd q (.tail _ hq)
  have en : (psOf is ++ [((70 : Int), (71 : Int))]).take ((ys.length : Nat) : Int).toNat = psOf is := by
    rw [Int.toNat_natCast, hys.len, ← psOf_len, List.take_left]
  have hrw : Rows (newp ++ new) ((xs ++ [((70 : Int), a, r)]).map (·.2.2)) (psOf is ++ [((70 : Int), (71 : Int))]) := by
    rw [List.map_append]
    exact rows_snoc hr18 (by rw [List.length_map, xl]; exact hR)
  have H := Held.iter (w := w) (l := (R, PySem.W.listOf rv.toArray rv.length) :: (dx, tabD w u1 u2 u4 uc2 f de ((ys.length : Int) + 1)) :: (de, oE2) :: (dy, walkD w v1 v2 v3 v4 vc x dt (ys.length : Int)) :: (dt, oT) :: (y, instObj 499 dy) :: (x, instObj 458 dx) :: (newp ++ new)) x dx f de y dy dt u1 u2 u4 uc2 v1 v2 v3 v4 vc _ _ oE2 oT (xs ++ [((70 : Int), a, r)]) (psOf is ++ [((70 : Int), (71 : Int))])
    (.tail _ (.tail _ (.tail _ (.tail _ (.tail _ (.tail _ (.head _))))))) (.tail _ (.head _)) (.tail _ (.tail _ (.head _))) e24 (by rw [List.length_append, List.length_singleton]; omega) hsm (hrw.mono fun p hp => .tail _ (.tail _ (.tail _ (.tail _ (.tail _ (.tail _ (.tail _ (hp)))))))) (.tail _ (.tail _ (.tail _ (.tail _ (.tail _ (.head _)))))) (.tail _ (.tail _ (.tail _ (.head _)))) (.tail _ (.tail _ (.tail _ (.tail _ (.head _))))) hT hsm2
  rw [en] at H
  refine ret _ _ _ _ _ _ _ _ ps1 _ _ _ H (.head _) hrv (fun p hp => ?_) F25 (iter_order2 N25)
  refine mem_case hp ?_ fun p hp => ?_
  · exact .inl ⟨_, _, rfl⟩
  refine mem_case hp ?_ fun p hp => ?_
  · exact .inr dl
  refine mem_case hp ?_ fun p hp => ?_
  · exact .inr fun q hq => Nat.lt_trans (dl q hq) dxe
  refine mem_case hp ?_ fun p hp => ?_
  · exact .inr fun q hq => Nat.lt_trans (dl q hq) ddy
  refine mem_case hp ?_ fun p hp => ?_
  · exact .inr fun q hq => Nat.lt_trans (dl q hq) (Nat.lt_trans ddy (Nat.lt_trans r2 r3))
  refine mem_case hp ?_ fun p hp => ?_
  · exact .inr fun q hq => Nat.lt_trans (dl q hq) (Nat.lt_trans ddy r2)
  refine mem_case hp ?_ fun p hp => ?_
  · exact .inr fun q hq => Nat.lt_trans (dl q hq) q2
  · obtain ⟨us, un, z⟩ := (List.mem_append.mp hp).elim (hnt p) (hn18 p)
    exact .inl ⟨us.toArray, un, by rw [z]⟩
end
section
open PySem PySem.W PySem.Calls PyProof.Rows PySem.Spec
local macro_rules | `(tactic| walk_at "eval Name") => `(tactic| ((with_reducible show wpAny _ _ (eval (Expr.Name _ _) (compEnvC _ _ _ _)) _ _ _); refine' lcf_free ?N ?c ?m ?d ?_ ?a ?b; (case a => rfl); (case b => rfl); (case N => with_reducible assumption); (case c => rfl); (case m => with_reducible assumption); (case d => with_reducible assumption)))
inductive Stop5 (n : Nat) : Prop
  | mk
theorem Stop5.stop {n : Nat} {p : Prop} (_ : Stop5 n) (h : Halt p) : p := halt h
local macro_rules | `(tactic| walk_at "execs cons If cons") => `(tactic| (with_reducible refine Stop5.stop (n := 1) (by assumption) ?_))
theorem obj_fin {G h h' : Heap} {L L' D : Addr} {m m' : Str → Option Value} {l new : List (Addr × Obj)} {oL : Obj} {ps : Array Value} {vs : List Value} (F : Fr G L h m) (N : News G L h l) (hL : h.get? L = some oL) (L566 : L ≠ 566) (F' : Fr G L' h' m') (ok : NewOk (l ++ [(L, oL)]) new)
    (N' : News G L' h' ((566, tabObj ps) :: (D, tupO vs 0) :: (new ++ (l ++ [(L, oL)])))) : NewOk l new ∧ Fr G L h' m ∧ News G L h' ((566, tabObj ps) :: (D, tupO vs 0) :: (new ++ l)) := by
  have mL : (L, oL) ∈ (566, tabObj ps) :: (D, tupO vs 0) :: (new ++ (l ++ [(L, oL)])) := by simp
  have sq : ∀ p ∈ (566, tabObj ps) :: (D, tupO vs 0) :: (new ++ (l ++ [(L, oL)])), (∃ a b, p.2.data = .seq a b) → p.1 ≠ L := fun p hp hs q => by
    obtain ⟨a, b, hs⟩ := hs
    have e1 := (N' p hp).1
    rw [q, (N' _ mL).1] at e1
    exact fr_no_seq F hL (Option.some.inj e1 ▸ hs)
  refine ⟨fun p hp => (ok p hp).imp id fun k q hq => k q (List.mem_append_left _ hq), fr_out F hL F' (N' _ mL).1, fun p hp => ?_⟩
  have hp' : p ∈ (566, tabObj ps) :: (D, tupO vs 0) :: (new ++ (l ++ [(L, oL)])) := by
    first | (refine sub_at ?_ hp; walk_at "SUB") | (simp only [List.mem_cons, List.mem_append] at hp ⊢; (rcases hp with h | h | h | h <;> simp only [h, true_or, or_true]))
  refine ⟨(N' p hp').1, ?_, (N' p hp').2.2⟩
  rcases List.mem_cons.mp hp with rfl | hp
  · exact fun q => L566 q.symm
  rcases List.mem_cons.mp hp with rfl | hp
  · exact sq _ hp' ⟨_, _, rfl⟩
  rcases List.mem_append.mp hp with hp | hp
  · rcases ok p hp with k | k
    · exact sq p hp' k
    · exact Nat.ne_of_gt (k (L, oL) (by first | walk_at "MEM" | simp))
  · exact (N p hp).2.1
theorem obj_swap {G h : Heap} {L : Addr} {d q : Addr × Obj} {new l : List (Addr × Obj)} (N : News G L h (d :: (new ++ (q :: l)))) : News G L h (q :: d :: (new ++ l)) := fun p hp => N p (by
  first | (refine sub_at ?_ hp; walk_at "SUB") | (simp only [List.mem_cons, List.mem_append] at hp ⊢; (rcases hp with h | h | h | h <;> simp only [h, true_or, or_true])))
theorem NewOk.tail {q : Addr × Obj} {l new : List (Addr × Obj)} (h : NewOk (q :: l) new) : NewOk l new := fun p hp => (h p hp).imp id fun k r hr => k r (.tail _ hr)
inductive IvObj (src : Addr) (M : Int) (lx : List (Addr × Obj)) (i : Nat) (ys : List Value) (news : List (Addr × Obj)) : Prop
  | mk (is : List Int) (so' : Obj) (en : news = (src, so') :: lx) (hi : IntVs ys is) (hl : ys.length = i) (hso : SrcO M so')
set_option maxHeartbeats 1000000 in
theorem object_ok {w : World} {mean : ExcName → Option Value} {mg mb : Str → Option Value} {G : Heap} {A : Around} {h : Heap} {g : Array GenState} {dr : Drawn} {tk : Nat} {os : OsState} {L src : Addr} {m : Str → Option Value} {l : List (Addr × Obj)} {so : Obj} {M : Int} {Q E : Value → Shared → Prop}
    (hA : Rm A 40) (X : (KP w.params).In G) (T : Top topProg lsT mean mg mb G) (F : Fr G L h m) (N : News G L h ((src, so) :: (566, tabObj #[]) :: l)) (hso : SrcO M so) (off : ∀ p ∈ (566, tabObj #[]) :: l, p.1 ≠ src) (hC : CodeHd G 568 566) (o566 : ∀ p ∈ l, p.1 ≠ 566) (L566 : L ≠ 566)
    (ret : ∀ D ks t c dl ds k is new ps h' tk', Held w new ks c is → (dl, PySem.W.listOf ds k) ∈ new → IntVs ds.toList is → NewOk l new → Fr G L h' m → News G L h' ((566, tabObj ps) :: (D, tupO [.str ks t, c, .ref dl] 0) :: (new ++ l)) → Q (.ref D) ⟨h', g, dr, tk', os⟩) :
    wpAny (model pw w) A (call (.ref 569) [.ref src]) Q E ⟨h, g, dr, tk, os⟩ := by
  refine wpAny_call (callCE (s := ⟨h, g, dr, tk, os⟩) (binds := [(Str.ofString "source", .ref src)]) X T F (Nat.lt_of_le_of_lt (Nat.le_add_right _ _) hA.dp) (by k_is) (by k_is) (BindsTo.of_eq rfl) rfl (by decide +kernel) rfl rfl rfl fun L' h₁ oL tk1 cells E' hL eL F₁ NC hcn Y k₁ => ?_)
  k_cells Y
  rename_i cs ds
  have hh : A.handled = none := hA.hh
  have nsrc : h.get? src = some so := (N _ (.head _)).1
  have c2 : h.get? (L' + 1) = none := hcn (L' + 1, cs) (.head _)
  obtain ⟨K, hK⟩ : ∃ K, K = (566, tabObj #[]) :: (l ++ [(L, oL)]) := ⟨_, rfl⟩
  have Ks : ∀ p ∈ K, p.1 ≠ src := fun p hp => by
    rw [hK] at hp
    refine mem_case hp ?_ fun p hp => ?_
    · exact off _ (.head _)
    · rcases List.mem_append.mp hp with hp | hp
      · exact off p (.tail _ hp)
      · rw [List.mem_singleton.mp hp]; exact fun q => (N (src, so) (.head _)).2.1 q.symm
  have N₁ : News G L' h₁ ((src, so) :: (L' + 1, cs) :: K) := fun p hp => by
    have N₀ := news_in F N hL eL k₁
    rw [hK] at hp
    refine mem_case hp ?_ fun p hp => ?_
    · exact N₀ _ (.head _)
    · refine mem_case hp ?_ fun p hp => ?_
      · exact NC _ (.head _)
      · exact N₀ p (.tail _ hp)
  have off1 : ∀ p ∈ (L' + 1, cs) :: K, p.1 ≠ src := fun p hp => by
    refine mem_case hp ?_ fun p hp => ?_
    · exact fun q => by rw [← show L' + 1 = src from q, c2] at nsrc; cases nsrc
    · exact Ks p hp
  clear NC
  try dsimp only
  repeat' (first | walk1 | (dsimp only; walk1) | walk_at "THEN")
  refine Halt.mk (take_ok (hA.deeper.le (by omega)) X T (by assumption) (by assumption) hso off1 (by decide) (by decide) fun r2 t2 so1 h3 tk3 F3 N3 hso1 r20 r21 => ?_)
  obtain ⟨n2, rfl⟩ := Int.eq_ofNat_of_zero_le r20
  repeat' (first | walk1 | (dsimp only; walk1) | walk_at "THEN")
  refine LCg.CompSrc.range (n := n2) hA.hh (by assumption) (by assumption) (by assumption) (small_one (by decide) (by decide) (by omega) (by omega)) (by rw [rangeSize_one]; split <;> omega) (by rw [sizeLine_eq]; omega) fun g' => ?_
  refine comp_all (IvObj src M ((L' + 1, cs) :: K)) ⟨[], so1, rfl, trivial, rfl, hso1⟩ ?_ ?_
  · rintro i ys news hi ⟨is, so3, rfl, hys, hyl, hso3⟩ v I oI C oC D m2 h5 tk5 E5 hv hC hx F5 N5 off5 ne5
    have d2' : cs.data = Data.cell (some (Value.ref src)) := ds
    have m1 : (L' + 1, cs) ∈ (I, oI) :: (C, oC) :: (D, LCg.lst ys) :: ((src, so3) :: (L' + 1, cs) :: K) := .tail _ (.tail _ (.tail _ (.tail _ (.head _))))
    repeat' (first | walk1 | (dsimp only; walk1) | walk_at "THEN")
    have N6 : News G L' h5 ((src, so3) :: ((I, oI) :: (C, oC) :: (D, LCg.lst ys) :: (L' + 1, cs) :: K)) := fun p hp => N5 p (by
      first | (refine sub_at ?_ hp; walk_at "SUB") | (simp only [List.mem_cons] at hp ⊢; grind))
    refine Halt.mk (take_ok (hA.deeper.le (by omega)) X T (by assumption) N6 hso3 (fun p hp => ?_) (by decide) (by decide) fun r4 t4 so4 h7 tk7 F7 N7 hso4 r40 r41 => ?_)
    · have z := off5.1
      refine mem_case hp ?_ fun p hp => ?_
      · exact fun q => z.1 q.symm
      · refine mem_case hp ?_ fun p hp => ?_
        · exact fun q => z.2.1 q.symm
        · refine mem_case hp ?_ fun p hp => ?_
          · exact fun q => z.2.2 q.symm
          · exact off1 p hp
    refine Halt.mk (LCg.CompEnd.intro F7 N7 ((src, so4) :: (L' + 1, cs) :: K) (fun p hp => by
      first | (refine sub_at ?_ hp; walk_at "SUB") | (simp only [List.mem_cons] at hp ⊢; grind)) (LCg.Off3.of fun p hp => ?_) trivial ⟨is ++ [r4], so4, rfl, hys.snoc, by simp [hyl], hso4⟩)
    refine mem_case hp ?_ fun p hp => ?_
    · exact off5.1
    · exact LCg.Off3.mem off5 p (.tail _ hp)
  · rintro ys news ⟨is, so3, rfl, hys, hyl, hso3⟩
    unfold LCg.FinA
    intro D h8 tk8 F8 N8 o8
    have N9 : News G L' h8 ((src, so3) :: (D, PySem.W.listOf ys.toArray ys.length) :: (L' + 1, cs) :: K) := fun p hp => N8 p (by
      first | (refine sub_at ?_ hp; walk_at "SUB") | (simp only [List.mem_cons] at hp ⊢; grind))
    clear N8
    repeat' (first | walk1 | (dsimp only; walk1) | walk_at "THEN")
    refine Halt.mk (take_ok (hA.deeper.le (by omega)) X T F8 N9 hso3 (fun p hp => ?_) (by decide) (by decide) fun wy tw so4 h9 tk9 F9 N10 hso4 w0 w1 => ?_)
    · refine mem_case hp ?_ fun p hp => ?_
      · exact fun q => o8.1 q.symm
      · exact off1 p hp
    have st1 : Stop5 1 := .mk
    repeat' (first | walk1 | (dsimp only; walk1) | walk_at "THEN")
    rename News _ _ _ _ => N11
    rename Fr _ _ _ _ => F11
    have Nl : News G L h l := fun p hp => N p (.tail _ (.tail _ hp))
    subst hK
    have N12 := news_mem (l' := (D, PySem.W.listOf ys.toArray ys.length) :: (566, tabObj #[]) :: (l ++ [(L, oL)])) N11 (fun p hp => by
      refine mem_case hp ?_ fun p hp => ?_
      · exact .tail _ (.head _)
      · exact .tail _ (.tail _ (.tail _ hp)))
    have N13 := news_mem (l' := (566, tabObj #[]) :: (D, PySem.W.listOf ys.toArray ys.length) :: (l ++ [(L, oL)])) N12 (fun p hp => by
      refine mem_case hp ?_ fun p hp => ?_
      · exact .tail _ (.head _)
      refine mem_case hp ?_ fun p hp => ?_
      · exact .head _
      · exact .tail _ (.tail _ hp))
    have hyl3 : ys.length ≤ 3 := by omega
    have hw : wy = 0 ∨ wy = 1 ∨ wy = 2 ∨ wy = 3 ∨ wy = 4 := ar_5 (by assumption) (by assumption)
    clear st1
    rcases hw with rfl | rfl | rfl | rfl | rfl
    · refine Halt.mk (obj_way0 rfl (hA.le (by decide)) X T F11 N12 fun D2 t c dl ds2 k new h20 tk20 m20 H hd hi ok F20 N20 => ?_)
      have o := obj_fin F Nl hL L566 F20 ok.tail (obj_swap N20)
      exact ret _ _ _ _ _ _ _ _ _ _ _ _ H hd hi o.1 o.2.1 o.2.2
    · refine Halt.mk (obj_way1 rfl (hA.le (by decide)) X T hys hyl3 F11 N12 fun D2 t c dl ds2 k new h20 tk20 m20 H hd hi ok F20 N20 => ?_)
      have o := obj_fin F Nl hL L566 F20 ok.tail (obj_swap N20)
      exact ret _ _ _ _ _ _ _ _ _ _ _ _ H hd hi o.1 o.2.1 o.2.2
    · refine Halt.mk (obj_way2 rfl (hA.le (by decide)) X T hys hyl3 F11 N12 fun D2 t c dl ds2 k is2 new h20 tk20 m20 H hd hi ok F20 N20 => ?_)
      have o := obj_fin F Nl hL L566 F20 ok.tail (obj_swap N20)
      exact ret _ _ _ _ _ _ _ _ _ _ _ _ H hd hi o.1 o.2.1 o.2.2
    · have o566' : ∀ p ∈ (D, PySem.W.listOf ys.toArray ys.length) :: (l ++ [(L, oL)]), p.1 ≠ 566 := fun p hp => by
        refine mem_case hp ?_ fun p hp => ?_
        · exact news_ne N13 (p := (D, PySem.W.listOf ys.toArray ys.length)) (q := (566, tabObj #[])) (.tail _ (.head _)) (.head _) (by intro q; exact absurd (congrArg Obj.cls q) (by first | walk_at "MEM" | simp))
        rcases List.mem_append.mp hp with hp | hp
        · exact o566 p hp
        · rw [List.mem_singleton.mp hp]; exact L566
      refine Halt.mk (obj_way3 rfl (hA.le (by decide)) X T hC hys hyl3 F11 N13 o566' fun D2 t c dl ds2 k is2 new ps h20 tk20 m20 H hd hi ok F20 N20 => ?_)
      have o := obj_fin F Nl hL L566 F20 ok N20
      exact ret _ _ _ _ _ _ _ _ _ _ _ _ H hd hi o.1 o.2.1 o.2.2
    · have o566' : ∀ p ∈ (D, PySem.W.listOf ys.toArray ys.length) :: (l ++ [(L, oL)]), p.1 ≠ 566 := fun p hp => by
        refine mem_case hp ?_ fun p hp => ?_
        · exact news_ne N13 (p := (D, PySem.W.listOf ys.toArray ys.length)) (q := (566, tabObj #[])) (.tail _ (.head _)) (.head _) (by intro q; exact absurd (congrArg Obj.cls q) (by first | walk_at "MEM" | simp))
        rcases List.mem_append.mp hp with hp | hp
        · exact o566 p hp
        · rw [List.mem_singleton.mp hp]; exact L566
      refine Halt.mk (obj_way4 rfl (hA.le (by decide)) X T hC hys hyl3 F11 N13 o566' fun D2 t c dl ds2 k is2 new ps h20 tk20 m20 H hd hi ok F20 N20 => ?_)
      have o := obj_fin F Nl hL L566 F20 ok N20
      exact ret _ _ _ _ _ _ _ _ _ _ _ _ H hd hi o.1 o.2.1 o.2.2
end
section
open PySem PySem.W PySem.Calls PyProof.Rows PySem.Spec
local macro_rules | `(tactic| k_all) => `(tactic| first | (with_reducible assumption) | (refine List.forall_mem_cons.mpr ⟨by k_ne, by k_all⟩))
section
open PySem PySem.W PySem.Calls PyProof.Rows PySem.Spec
noncomputable abbrev heapD (w : World) (t1 t2 t3 t4 t5 tg th : Tok) (kp : Addr) (gv : Int) : Obj := dictOf [ent w (Str.ofString "kept") t1 (.ref kp), ent w (Str.ofString "given") t2 (.int gv tg), ent w (Str.ofString "here") t3 (.int 0 th), ent w (Str.ofString "watch") t4 .none, ent w (Str.ofString "collector") t5 .none] 5
noncomputable abbrev keptD (w : World) (t1 t2 t3 : Tok) (k c wh : Value) : Obj := dictOf [ent w (Str.ofString "kind") t1 k, ent w (Str.ofString "content") t2 c, ent w (Str.ofString "where") t3 wh] 3
theorem kept_fin {w : World} {G h1 h' : Heap} {L L' x dx : Addr} {m m' : Str → Option Value} {l : List (Addr × Obj)} {oL : Obj} {t1 t2 t3 : Tok} {k c wh : Value} (F1 : Fr G L h1 m) (N1 : News G L h1 ((x, instObj 145 dx) :: (dx, emptyDict) :: l)) (hL : h1.get? L = some oL) (F' : Fr G L' h' m')
    (N3 : News G L' h' ((x, instObj 145 dx) :: (dx, keptD w t1 t2 t3 k c wh) :: (l ++ [(L, oL)]))) : Fr G L h' m ∧ News G L h' ((dx, keptD w t1 t2 t3 k c wh) :: (x, instObj 145 dx) :: l) := by
  refine ⟨fr_out F1 hL F' (N3 (L, oL) (by first | walk_at "MEM" | simp)).1, fun p hp => ?_⟩
  refine mem_case hp ?_ fun p hp => ?_
  · exact ⟨(N3 _ (by first | walk_at "MEM" | simp)).1, (N1 _ (.tail _ (.head _))).2⟩
  · refine mem_case hp ?_ fun p hp => ?_
    · exact ⟨(N3 _ (by first | walk_at "MEM" | simp)).1, (N1 _ (.head _)).2⟩
    · exact ⟨(N3 p (by first | walk_at "MEM" | simp [hp])).1, (N1 p (.tail _ (.tail _ hp))).2⟩
set_option maxHeartbeats 1000000 in
theorem kept_new {w : World} {mean : ExcName → Option Value} {mg mb : Str → Option Value} {G : Heap} {A : Around} {h : Heap} {g : Array GenState} {dr : Drawn} {tk : Nat} {os : OsState} {L : Addr} {m : Str → Option Value} {l : List (Addr × Obj)} {k c wh : Value} {Q E : Value → Shared → Prop}
    (hA : Rm A 6) (X : (KP w.params).In G) (T : Top topProg lsT mean mg mb G) (F : Fr G L h m) (N : News G L h l)
    (ret : ∀ x dx t1 t2 t3 h' tk', (∀ p ∈ l, p.1 < dx) → @LT.lt Nat _ dx x → Fr G L h' m → News G L h' ((dx, keptD w t1 t2 t3 k c wh) :: (x, instObj 145 dx) :: l) → Q (.ref x) ⟨h', g, dr, tk', os⟩) :
    wpAny (model pw w) A (call (.ref 145) [k, c, wh]) Q E ⟨h, g, dr, tk, os⟩ := by
  refine wpAny_call (make_K (s := ⟨h, g, dr, tk, os⟩) (fI := 142) F N (X.keeps F.keep) (by k_is) (by k_is) (by k_is) fun x dx h1 F1 N1 l1 lx => ?_)
  have hA1 := hA.made 145 [k, c, wh]
  refine callE (s := ⟨h1, g, dr, tk, os⟩) (binds := [(Str.ofString "self", .ref x), (Str.ofString "kind", k), (Str.ofString "content", c), (Str.ofString "where", wh)]) X T F1 (Nat.lt_of_le_of_lt (Nat.le_add_right _ _) hA1.dp) (by k_is) (by k_is) (BindsTo.of_eq rfl) (locs rfl) rfl rfl rfl (by decide) fun L' h₁ oL E' hL eL F₁ k₁ => ?_
  have N₁ : News G L' h₁ ((x, instObj 145 dx) :: (dx, emptyDict) :: (l ++ [(L, oL)])) := news_in F1 N1 hL eL k₁
  have lx1 : @LT.lt Nat _ dx x := lx
  have od : ∀ p ∈ l ++ [(L, oL)], p.1 ≠ dx := fun p hp => by
    rcases List.mem_append.mp hp with hp | hp
    · exact Nat.ne_of_lt (l1 p hp)
    · rw [List.mem_singleton.mp hp]; exact fun q => (N1 _ (.tail _ (.head _))).2.1 q.symm
  try dsimp only
  repeat' (first | walk1 | (dsimp only; walk1) | walk_at "THEN")
  refine ⟨rfl, ?_⟩
  exact (fun (z : _ ∧ _) => ret x dx _ _ _ _ _ l1 lx z.1 z.2) (kept_fin F1 N1 hL (by assumption) (by assumption))
theorem heap_fin {w : World} {G h1 h' : Heap} {L L' x dx kp : Addr} {m m' : Str → Option Value} {l : List (Addr × Obj)} {oL oK : Obj} {t1 t2 t3 t4 t5 tg th : Tok} (F1 : Fr G L h1 m) (N1 : News G L h1 ((x, instObj 283 dx) :: (dx, emptyDict) :: l)) (hL : h1.get? L = some oL) (F' : Fr G L' h' m')
    (N3 : News G L' h' ((kp, oK) :: (x, instObj 283 dx) :: (dx, heapD w t1 t2 t3 t4 t5 tg th kp 0) :: (l ++ [(L, oL)]))) (hx : AllLt kp (l ++ [(L, oL)])) : Fr G L h' m ∧ News G L h' ((dx, heapD w t1 t2 t3 t4 t5 tg th kp 0) :: (kp, oK) :: (x, instObj 283 dx) :: l) := by
  refine ⟨fr_out F1 hL F' (N3 (L, oL) (by first | walk_at "MEM" | simp)).1, fun p hp => ?_⟩
  refine mem_case hp ?_ fun p hp => ?_
  · exact ⟨(N3 _ (by first | walk_at "MEM" | simp)).1, (N1 _ (.tail _ (.head _))).2⟩
  · refine mem_case hp ?_ fun p hp => ?_
    · exact ⟨(N3 _ (.head _)).1, Nat.ne_of_gt (allLt_mem hx (p := (L, oL)) (by first | walk_at "MEM" | simp)), (N3 _ (.head _)).2.2⟩
    · refine mem_case hp ?_ fun p hp => ?_
      · exact ⟨(N3 _ (by first | walk_at "MEM" | simp)).1, (N1 _ (.head _)).2⟩
      · exact ⟨(N3 p (by first | walk_at "MEM" | simp [hp])).1, (N1 p (.tail _ (.tail _ hp))).2⟩
set_option maxHeartbeats 1000000 in
theorem heap_new {w : World} {mean : ExcName → Option Value} {mg mb : Str → Option Value} {G : Heap} {A : Around} {h : Heap} {g : Array GenState} {dr : Drawn} {tk : Nat} {os : OsState} {L : Addr} {m : Str → Option Value} {l : List (Addr × Obj)} {Q E : Value → Shared → Prop}
    (hA : Rm A 6) (X : (KP w.params).In G) (T : Top topProg lsT mean mg mb G) (F : Fr G L h m) (N : News G L h l)
    (ret : ∀ x dx kp oK t1 t2 t3 t4 t5 tg th h' tk', (∀ p ∈ l, p.1 < dx) → @LT.lt Nat _ dx x → @LT.lt Nat _ x kp → (kp == sysModules) = false → oK.IsDictOf (intKind pw w) [] → Fr G L h' m → News G L h' ((dx, heapD w t1 t2 t3 t4 t5 tg th kp 0) :: (kp, oK) :: (x, instObj 283 dx) :: l) → Q (.ref x) ⟨h', g, dr, tk', os⟩) :
    wpAny (model pw w) A (call (.ref 283) []) Q E ⟨h, g, dr, tk, os⟩ := by
  refine wpAny_call (make_K (s := ⟨h, g, dr, tk, os⟩) (fI := 169) F N (X.keeps F.keep) (by k_is) (by k_is) (by k_is) fun x dx h1 F1 N1 l1 lx => ?_)
  have hA1 := hA.made 283 []
  refine callE (s := ⟨h1, g, dr, tk, os⟩) (binds := [(Str.ofString "self", .ref x), (Str.ofString "watch", .none)]) X T F1 (Nat.lt_of_le_of_lt (Nat.le_add_right _ _) hA1.dp) (by k_is) (by k_is) (binds_K (X.keeps F1.keep) rfl (by k_is) rfl rfl rfl) (locs rfl) rfl rfl rfl (by decide) fun L' h₁ oL E' hL eL F₁ k₁ => ?_
  have N₁ : News G L' h₁ ((x, instObj 283 dx) :: (dx, emptyDict) :: (l ++ [(L, oL)])) := news_in F1 N1 hL eL k₁
  have lx1 : @LT.lt Nat _ dx x := lx
  have od : ∀ p ∈ l ++ [(L, oL)], p.1 ≠ dx := fun p hp => by
    rcases List.mem_append.mp hp with hp | hp
    · exact Nat.ne_of_lt (l1 p hp)
    · rw [List.mem_singleton.mp hp]; exact fun q => (N1 _ (.tail _ (.head _))).2.1 q.symm
  try dsimp only
  repeat' (first | walk1 | (dsimp only; walk1) | walk_at "THEN")
  refine ⟨rfl, ?_⟩
  have h1' : ∀ {b : Addr}, (x < b ∧ dx < b ∧ AllLt b (l ++ [(L, oL)])) → AllLt b (l ++ [(L, oL)]) ∧ @LT.lt Nat _ x b := fun h => ⟨h.2.2, h.1⟩
  refine (fun (z : _ ∧ _) => ret x dx _ _ _ _ _ _ _ _ _ _ _ l1 lx ?_ ?_ ?_ z.1 z.2) (heap_fin F1 N1 hL (by assumption) (by assumption) (h1' (by assumption)).1)
  · exact (h1' (by assumption)).2
  · assumption
  · assumption
end
section
open PySem PySem.W PySem.Calls PyProof.Rows PySem.Spec
theorem kept_set {G h h' : Heap} {L dx kp : Addr} {a b : Addr × Obj} {o oK oK2 : Obj} {r : List (Addr × Obj)} (N : News G L h (a :: b :: (dx, o) :: (kp, oK) :: r)) (hs : Heap.SameBut kp h h') (g2 : h'.get? kp = some oK2) (ha : a.1 ≠ kp) (hb : b.1 ≠ kp) (hd : @Ne Nat dx kp) (hr : ∀ p ∈ r, p.1 ≠ kp) : News G L h' ((dx, o) :: (kp, oK2) :: a :: b :: r) := fun p hp => by
  have keep : ∀ q, q ∈ a :: b :: (dx, o) :: (kp, oK) :: r → q.1 ≠ kp → h'.get? q.1 = some q.2 ∧ q.1 ≠ L ∧ G.get? q.1 = none := fun q hq hne => ⟨(hs.2 _ hne).trans (N q hq).1, (N q hq).2⟩
  refine mem_case hp ?_ fun p hp => ?_
  · exact keep _ (.tail _ (.tail _ (.head _))) hd
  refine mem_case hp ?_ fun p hp => ?_
  · exact ⟨g2, (N _ (.tail _ (.tail _ (.tail _ (.head _))))).2⟩
  refine mem_case hp ?_ fun p hp => ?_
  · exact keep _ (.head _) ha
  refine mem_case hp ?_ fun p hp => ?_
  · exact keep _ (.tail _ (.head _)) hb
  · exact keep p (.tail _ (.tail _ (.tail _ (.tail _ hp)))) (hr p hp)
theorem make_fin {G h h' : Heap} {L L' x dx kp kd kx : Addr} {m m' : Str → Option Value} {l : List (Addr × Obj)} {oL oK oK2 oD oD2 okd okx : Obj} (F : Fr G L h m) (N : News G L h ((dx, oD) :: (kp, oK) :: (x, instObj 283 dx) :: l)) (hL : h.get? L = some oL) (F' : Fr G L' h' m')
    (N' : News G L' h' ((dx, oD2) :: (kp, oK2) :: (kd, okd) :: (kx, okx) :: (x, instObj 283 dx) :: (l ++ [(L, oL)]))) (h1 : @LT.lt Nat _ L kd) (h2 : @LT.lt Nat _ kd kx) : Fr G L h' m ∧ News G L h' ((dx, oD2) :: (kp, oK2) :: (x, instObj 283 dx) :: (kd, okd) :: (kx, okx) :: l) := by
  refine ⟨fr_out F hL F' (N' (L, oL) (by first | walk_at "MEM" | simp)).1, fun p hp => ?_⟩
  refine mem_case hp ?_ fun p hp => ?_
  · exact ⟨(N' _ (.head _)).1, (N _ (.head _)).2⟩
  refine mem_case hp ?_ fun p hp => ?_
  · exact ⟨(N' _ (.tail _ (.head _))).1, (N _ (.tail _ (.head _))).2⟩
  refine mem_case hp ?_ fun p hp => ?_
  · exact ⟨(N' _ (.tail _ (.tail _ (.tail _ (.tail _ (.head _)))))).1, (N _ (.tail _ (.tail _ (.head _)))).2⟩
  refine mem_case hp ?_ fun p hp => ?_
  · exact ⟨(N' _ (.tail _ (.tail _ (.head _)))).1, Nat.ne_of_gt h1, (N' _ (.tail _ (.tail _ (.head _)))).2.2⟩
  refine mem_case hp ?_ fun p hp => ?_
  · exact ⟨(N' _ (.tail _ (.tail _ (.tail _ (.head _))))).1, Nat.ne_of_gt (Nat.lt_trans h1 h2), (N' _ (.tail _ (.tail _ (.tail _ (.head _))))).2.2⟩
  · exact ⟨(N' p (.tail _ (.tail _ (.tail _ (.tail _ (.tail _ (List.mem_append_left _ hp))))))).1, (N p (.tail _ (.tail _ (.tail _ hp)))).2⟩
set_option maxHeartbeats 1000000 in
theorem make_ok {w : World} {mean : ExcName → Option Value} {mg mb : Str → Option Value} {G : Heap} {A : Around} {h : Heap} {g : Array GenState} {dr : Drawn} {tk : Nat} {os : OsState} {L x dx kp : Addr} {m : Str → Option Value} {l : List (Addr × Obj)} {t1 t2 t3 t4 t5 tg th tk0 : Tok} {gv : Int} {oK : Obj} {ps : List (Int × Value)} {ks wh : Str} {tw : Tok} {c : Value} {Q E : Value → Shared → Prop}
    (hA : Rm A 12) (X : (KP w.params).In G) (T : Top topProg lsT mean mg mb G) (F : Fr G L h m) (N : News G L h ((dx, heapD w t1 t2 t3 t4 t5 tg th kp gv) :: (kp, oK) :: (x, instObj 283 dx) :: l)) (hK : oK.IsDictOf (intKind pw w) ps) (hn : gv + 1 ∉ ps.map (·.1)) (g0 : 0 ≤ gv) (g1 : gv ≤ 5) (hpl : ps.length ≤ 5)
    (lo : ∀ p ∈ l, p.1 ≠ dx ∧ p.1 ≠ kp) (dk : @Ne Nat dx kp) (xk : @Ne Nat x kp) (dxx : @Ne Nat dx x) (hsm : (kp == sysModules) = false)
    (ret : ∀ tr tg' kx kd z1 z2 z3 oK2 h' tk', (∀ p ∈ l, p.1 < kd) → @LT.lt Nat _ kp kd → @LT.lt Nat _ dx kd → @LT.lt Nat _ x kd → @LT.lt Nat _ kd kx → oK2.IsDictOf (intKind pw w) (ps ++ [(gv + 1, .ref kx)]) → Fr G L h' m → News G L h' ((dx, heapD w t1 t2 t3 t4 t5 tg' th kp (gv + 1)) :: (kp, oK2) :: (x, instObj 283 dx) :: (kd, keptD w z1 z2 z3 (.str ks tk0) c (.str wh tw)) :: (kx, instObj 145 kd) :: l) → Q (.int (gv + 1) tr) ⟨h', g, dr, tk', os⟩) :
    wpAny (model pw w) A (call (.ref 177) [.ref x, .str ks tk0, c, .str wh tw]) Q E ⟨h, g, dr, tk, os⟩ := by
  refine wpAny_call (callE (s := ⟨h, g, dr, tk, os⟩) (binds := [(Str.ofString "self", .ref x), (Str.ofString "kind", .str ks tk0), (Str.ofString "content", c), (Str.ofString "where", .str wh tw)]) X T F (Nat.lt_of_le_of_lt (Nat.le_add_right _ _) hA.dp) (by k_is) (by k_is) (binds_K (X.keeps F.keep) rfl (by k_is) rfl rfl rfl) (locs rfl) rfl rfl rfl (by decide) fun L' h₁ oL E' hL eL F₁ k₁ => ?_)
  have N₁ : News G L' h₁ ((dx, heapD w t1 t2 t3 t4 t5 tg th kp gv) :: (kp, oK) :: (x, instObj 283 dx) :: (l ++ [(L, oL)])) := news_in F N hL eL k₁
  have od : ∀ p ∈ l ++ [(L, oL)], p.1 ≠ dx := fun p hp => by
    rcases List.mem_append.mp hp with hp | hp
    · exact (lo p hp).1
    · rw [List.mem_singleton.mp hp]; exact fun q => (N _ (.head _)).2.1 q.symm
  have ok : ∀ p ∈ l ++ [(L, oL)], p.1 ≠ kp := fun p hp => by
    rcases List.mem_append.mp hp with hp | hp
    · exact (lo p hp).2
    · rw [List.mem_singleton.mp hp]; exact fun q => (N _ (.tail _ (.head _))).2.1 q.symm
  have hh : A.handled = none := hA.hh
  have dk' : @Ne Nat kp dx := fun q => dk q.symm
  have xd' : @Ne Nat x dx := fun q => dxx q.symm
  try dsimp only
  repeat' (first | walk1 | (dsimp only; walk1) | walk_at "THEN")
  refine Halt.mk (kept_new (hA.deeper.le (by decide)) X T (by assumption) (by assumption) fun kx kd z1 z2 z3 h3 tk3 q1 q2 F3 N3 => ?_)
  repeat' (first | walk1 | (dsimp only; walk1) | walk_at "THEN")
  have sd : stored ps (gv + 1) (.ref kx) = ps ++ [(gv + 1, .ref kx)] := by
    unfold stored
    rw [if_neg]
    intro q
    obtain ⟨kv, a1, a2⟩ := List.any_eq_true.mp q
    exact hn (List.mem_map.mpr ⟨kv, a1, of_decide_eq_true a2⟩)
  have nK := N3 _ (.tail _ (.tail _ (.tail _ (.head _))))
  obtain ⟨es, ep, ex, hd, hk, hp, hnn⟩ := hK
  have lkd : ∀ p ∈ l ++ [(L, oL)], p.1 < kd := fun p hp => q1 p (.tail _ (.tail _ (.tail _ hp)))
  have kkd : @LT.lt Nat _ kp kd := q1 _ (.tail _ (.head _))
  refine wpAny_setItem_pairs (knd := intKind pw w) (k := gv + 1) (kvs := ps) (by simp [intKind, Value.isInt]) ⟨oK, es, ep, nK.1, ex, hd, hk, hp, hnn⟩ (fun h7 hd7 hs7 => ?_) (by rw [sizeLine_eq]; omega)
  rw [sd] at hd7
  obtain ⟨oK2, es2, ep2, gK2, r2⟩ := hd7
  have hK2 : oK2.IsDictOf (intKind pw w) (ps ++ [(gv + 1, .ref kx)]) := ⟨es2, ep2, r2⟩
  have F7 := F3.change hs7 nK.2.1 nK.2.2
  have N7 := kept_set N3 hs7 gK2 (Nat.ne_of_gt kkd) (Nat.ne_of_gt (Nat.lt_trans kkd q2)) dk (fun p hp => by
    refine mem_case hp ?_ fun p hp => ?_
    · exact xk
    · exact ok p hp)
  clear N3 F3
  repeat' (first | walk1 | (dsimp only; walk1) | walk_at "THEN")
  try dsimp only
  refine (fun (z : _ ∧ _) => ret _ _ kx kd z1 z2 z3 oK2 h7 _ (fun p hp => lkd p (List.mem_append_left _ hp)) kkd (q1 _ (.head _)) (q1 _ (.tail _ (.tail _ (.head _)))) q2 hK2 z.1 z.2) (make_fin F N hL F7 N7 (lkd (L, oL) (by first | walk_at "MEM" | simp)) q2)
end
section
open PySem PySem.W PySem.Calls PyProof.Rows PySem.Spec
set_option maxHeartbeats 1000000 in
theorem make_ok2 {w : World} {mean : ExcName → Option Value} {mg mb : Str → Option Value} {G : Heap} {A : Around} {h : Heap} {g : Array GenState} {dr : Drawn} {tk : Nat} {os : OsState} {L x dx kp : Addr} {m : Str → Option Value} {l : List (Addr × Obj)} {t1 t2 t3 t4 t5 tg th tk0 : Tok} {gv : Int} {oK : Obj} {ps : List (Int × Value)} {ks : Str} {c : Value} {Q E : Value → Shared → Prop}
    (hA : Rm A 12) (X : (KP w.params).In G) (T : Top topProg lsT mean mg mb G) (F : Fr G L h m) (N : News G L h ((dx, heapD w t1 t2 t3 t4 t5 tg th kp gv) :: (kp, oK) :: (x, instObj 283 dx) :: l)) (hK : oK.IsDictOf (intKind pw w) ps) (hn : gv + 1 ∉ ps.map (·.1)) (g0 : 0 ≤ gv) (g1 : gv ≤ 5) (hpl : ps.length ≤ 5)
    (lo : ∀ p ∈ l, p.1 ≠ dx ∧ p.1 ≠ kp) (dk : @Ne Nat dx kp) (xk : @Ne Nat x kp) (dxx : @Ne Nat dx x) (hsm : (kp == sysModules) = false)
    (ret : ∀ tr tg' kx kd z1 z2 z3 oK2 h' tk', (∀ p ∈ l, p.1 < kd) → @LT.lt Nat _ kp kd → @LT.lt Nat _ dx kd → @LT.lt Nat _ x kd → @LT.lt Nat _ kd kx → oK2.IsDictOf (intKind pw w) (ps ++ [(gv + 1, .ref kx)]) → Fr G L h' m → News G L h' ((dx, heapD w t1 t2 t3 t4 t5 tg' th kp (gv + 1)) :: (kp, oK2) :: (x, instObj 283 dx) :: (kd, keptD w z1 z2 z3 (.str ks tk0) c (.str (Str.ofString "heap") 406)) :: (kx, instObj 145 kd) :: l) → Q (.int (gv + 1) tr) ⟨h', g, dr, tk', os⟩) :
    wpAny (model pw w) A (call (.ref 177) [.ref x, .str ks tk0, c]) Q E ⟨h, g, dr, tk, os⟩ := by
  refine wpAny_call (callE (s := ⟨h, g, dr, tk, os⟩) (binds := [(Str.ofString "self", .ref x), (Str.ofString "kind", .str ks tk0), (Str.ofString "content", c), (Str.ofString "where", .str (Str.ofString "heap") 406)]) X T F (Nat.lt_of_le_of_lt (Nat.le_add_right _ _) hA.dp) (by k_is) (by k_is) (binds_K (X.keeps F.keep) rfl (by k_is) rfl rfl rfl) (locs rfl) rfl rfl rfl (by decide) fun L' h₁ oL E' hL eL F₁ k₁ => ?_)
  have N₁ : News G L' h₁ ((dx, heapD w t1 t2 t3 t4 t5 tg th kp gv) :: (kp, oK) :: (x, instObj 283 dx) :: (l ++ [(L, oL)])) := news_in F N hL eL k₁
  have od : ∀ p ∈ l ++ [(L, oL)], p.1 ≠ dx := fun p hp => by
    rcases List.mem_append.mp hp with hp | hp
    · exact (lo p hp).1
    · rw [List.mem_singleton.mp hp]; exact fun q => (N _ (.head _)).2.1 q.symm
  have ok : ∀ p ∈ l ++ [(L, oL)], p.1 ≠ kp := fun p hp => by
    rcases List.mem_append.mp hp with hp | hp
    · exact (lo p hp).2
    · rw [List.mem_singleton.mp hp]; exact fun q => (N _ (.tail _ (.head _))).2.1 q.symm
  have hh : A.handled = none := hA.hh
  have dk' : @Ne Nat kp dx := fun q => dk q.symm
  have xd' : @Ne Nat x dx := fun q => dxx q.symm
  try dsimp only
  repeat' (first | walk1 | (dsimp only; walk1) | walk_at "THEN")
  refine Halt.mk (kept_new (hA.deeper.le (by decide)) X T (by assumption) (by assumption) fun kx kd z1 z2 z3 h3 tk3 q1 q2 F3 N3 => ?_)
  repeat' (first | walk1 | (dsimp only; walk1) | walk_at "THEN")
  have sd : stored ps (gv + 1) (.ref kx) = ps ++ [(gv + 1, .ref kx)] := by
    unfold stored
    rw [if_neg]
    intro q
    obtain ⟨kv, a1, a2⟩ := List.any_eq_true.mp q
    exact hn (List.mem_map.mpr ⟨kv, a1, of_decide_eq_true a2⟩)
  have nK := N3 _ (.tail _ (.tail _ (.tail _ (.head _))))
  obtain ⟨es, ep, ex, hd, hk, hp, hnn⟩ := hK
  have lkd : ∀ p ∈ l ++ [(L, oL)], p.1 < kd := fun p hp => q1 p (.tail _ (.tail _ (.tail _ hp)))
  have kkd : @LT.lt Nat _ kp kd := q1 _ (.tail _ (.head _))
  refine wpAny_setItem_pairs (knd := intKind pw w) (k := gv + 1) (kvs := ps) (by simp [intKind, Value.isInt]) ⟨oK, es, ep, nK.1, ex, hd, hk, hp, hnn⟩ (fun h7 hd7 hs7 => ?_) (by rw [sizeLine_eq]; omega)
  rw [sd] at hd7
  obtain ⟨oK2, es2, ep2, gK2, r2⟩ := hd7
  have hK2 : oK2.IsDictOf (intKind pw w) (ps ++ [(gv + 1, .ref kx)]) := ⟨es2, ep2, r2⟩
  have F7 := F3.change hs7 nK.2.1 nK.2.2
  have N7 := kept_set N3 hs7 gK2 (Nat.ne_of_gt kkd) (Nat.ne_of_gt (Nat.lt_trans kkd q2)) dk (fun p hp => by
    refine mem_case hp ?_ fun p hp => ?_
    · exact xk
    · exact ok p hp)
  clear N3 F3
  repeat' (first | walk1 | (dsimp only; walk1) | walk_at "THEN")
  try dsimp only
  refine (fun (z : _ ∧ _) => ret _ _ kx kd z1 z2 z3 oK2 h7 _ (fun p hp => lkd p (List.mem_append_left _ hp)) kkd (q1 _ (.head _)) (q1 _ (.tail _ (.tail _ (.head _)))) q2 hK2 z.1 z.2) (make_fin F N hL F7 N7 (lkd (L, oL) (by first | walk_at "MEM" | simp)) q2)
end
end
section
open PySem PySem.W PySem.Calls PyProof.Rows PySem.Spec
set_option maxHeartbeats 1000000 in
/-- kept_at, where the object is there -/
theorem at_ok {w : World} {mean : ExcName → Option Value} {mg mb : Str → Option Value} {G : Heap} {A : Around} {h : Heap} {g : Array GenState} {dr : Drawn} {tk : Nat} {os : OsState} {L x dx kp kx : Addr} {m : Str → Option Value} {l : List (Addr × Obj)} {t1 t2 t3 t4 t5 tg th tn : Tok} {gv n : Int} {oK : Obj} {ps : List (Int × Value)} {Q E : Value → Shared → Prop}
    (hA : Rm A 12) (X : (KP w.params).In G) (T : Top topProg lsT mean mg mb G) (F : Fr G L h m) (N : News G L h l) (hx : (x, instObj 283 dx) ∈ l) (hdx : (dx, heapD w t1 t2 t3 t4 t5 tg th kp gv) ∈ l) (hkp : (kp, oK) ∈ l) (hK : oK.IsDictOf (intKind pw w) ps) (hn : valueAt ps n = some (.ref kx)) (hsm : (kp == sysModules) = false)
    (ret : ∀ h' tk', Fr G L h' m → News G L h' l → Q (.ref kx) ⟨h', g, dr, tk', os⟩) :
    wpAny (model pw w) A (call (.ref 191) [.ref x, .int n tn]) Q E ⟨h, g, dr, tk, os⟩ := by
  refine wpAny_call (callE (s := ⟨h, g, dr, tk, os⟩) (binds := [(Str.ofString "self", .ref x), (Str.ofString "number", .int n tn)]) X T F (Nat.lt_of_le_of_lt (Nat.le_add_right _ _) hA.dp) (by k_is) (by k_is) (BindsTo.of_eq rfl) (locs rfl) rfl rfl rfl (by decide) fun L' h₁ oL E' hL eL F₁ k₁ => ?_)
  have N₁ : News G L' h₁ ((dx, heapD w t1 t2 t3 t4 t5 tg th kp gv) :: (kp, oK) :: (x, instObj 283 dx) :: (l ++ [(L, oL)])) := fun p hp => by
    have N₀ := news_in F N hL eL k₁
    refine mem_case hp ?_ fun p hp => ?_
    · exact N₀ _ (List.mem_append_left _ hdx)
    refine mem_case hp ?_ fun p hp => ?_
    · exact N₀ _ (List.mem_append_left _ hkp)
    refine mem_case hp ?_ fun p hp => ?_
    · exact N₀ _ (List.mem_append_left _ hx)
    · exact N₀ p hp
  have hh : A.handled = none := hA.hh
  try dsimp only
  repeat' (first | walk1 | (dsimp only; walk1) | walk_at "THEN")
  have hD : h₁.DictOf (intKind pw w) kp ps := by
    obtain ⟨es, ep, r⟩ := hK
    exact ⟨oK, es, ep, (N₁ _ (.tail _ (.head _))).1, r⟩
  refine wpAny_notIn_of (knd := intKind pw w) (k := n) (by simp [intKind, Value.isInt]) hsm hD.mapOf ?_
  rw [show (!(valueAt ps n).isSome) = false by rw [hn]; rfl]
  repeat' (first | walk1 | (dsimp only; walk1) | walk_at "THEN")
  refine wpAny_getItem_of (knd := intKind pw w) (k := n) (by simp [intKind, Value.isInt]) hD.mapOf hn ?_
  repeat' (first | walk1 | (dsimp only; walk1) | walk_at "THEN")
  have o := out_any F N hL F₁ N₁ (by first | walk_at "MEM" | simp) (fun p hp => by first | walk_at "MEM" | simp [hp])
  exact ret _ _ o.1 o.2
end
section
open PySem PySem.W PySem.Calls PyProof.Rows PySem.Spec
local macro_rules | `(tactic| k_handed) => `(tactic| with_reducible assumption)
set_option maxHeartbeats 1000000 in
theorem kind_get {w : World} {mean : ExcName → Option Value} {mg mb : Str → Option Value} {G : Heap} {A : Around} {h : Heap} {g : Array GenState} {dr : Drawn} {tk : Nat} {os : OsState} {L x dx kp kx kd : Addr} {m : Str → Option Value} {l : List (Addr × Obj)} {t1 t2 t3 t4 t5 tg th tn z1 z2 z3 : Tok} {gv n : Int} {oK : Obj} {ps : List (Int × Value)} {k c wh : Value} {Q E : Value → Shared → Prop}
    (hA : Rm A 14) (X : (KP w.params).In G) (T : Top topProg lsT mean mg mb G) (F : Fr G L h m) (N : News G L h l) (hx : (x, instObj 283 dx) ∈ l) (hdx : (dx, heapD w t1 t2 t3 t4 t5 tg th kp gv) ∈ l) (hkp : (kp, oK) ∈ l) (hK : oK.IsDictOf (intKind pw w) ps) (hn : valueAt ps n = some (.ref kx)) (hsm : (kp == sysModules) = false)
    (hkx : (kx, instObj 145 kd) ∈ l) (hkd : (kd, keptD w z1 z2 z3 k c wh) ∈ l) (hnd : handedIn k = true)
    (ret : ∀ h' tk', Fr G L h' m → News G L h' l → Q k ⟨h', g, dr, tk', os⟩) :
    wpAny (model pw w) A (call (.ref 198) [.ref x, .int n tn]) Q E ⟨h, g, dr, tk, os⟩ := by
  refine wpAny_call (callE (s := ⟨h, g, dr, tk, os⟩) (binds := [(Str.ofString "self", .ref x), (Str.ofString "number", .int n tn)]) X T F (Nat.lt_of_le_of_lt (Nat.le_add_right _ _) hA.dp) (by k_is) (by k_is) (BindsTo.of_eq rfl) (locs rfl) rfl rfl rfl (by decide) fun L' h₁ oL E' hL eL F₁ k₁ => ?_)
  have N₁ : News G L' h₁ ((dx, heapD w t1 t2 t3 t4 t5 tg th kp gv) :: (x, instObj 283 dx) :: (kd, keptD w z1 z2 z3 k c wh) :: (kx, instObj 145 kd) :: (l ++ [(L, oL)])) := fun p hp => by
    have N₀ := news_in F N hL eL k₁
    refine mem_case hp ?_ fun p hp => ?_
    · exact N₀ _ (List.mem_append_left _ hdx)
    refine mem_case hp ?_ fun p hp => ?_
    · exact N₀ _ (List.mem_append_left _ hx)
    refine mem_case hp ?_ fun p hp => ?_
    · exact N₀ _ (List.mem_append_left _ hkd)
    refine mem_case hp ?_ fun p hp => ?_
    · exact N₀ _ (List.mem_append_left _ hkx)
    · exact N₀ p hp
  have mm : ∀ p ∈ l, p ∈ (dx, heapD w t1 t2 t3 t4 t5 tg th kp gv) :: (x, instObj 283 dx) :: (kd, keptD w z1 z2 z3 k c wh) :: (kx, instObj 145 kd) :: (l ++ [(L, oL)]) := fun p hp => .tail _ (.tail _ (.tail _ (.tail _ (List.mem_append_left _ hp))))
  have hh : A.handled = none := hA.hh
  try dsimp only
  repeat' (first | walk1 | (dsimp only; walk1) | walk_at "THEN")
  rename Fr _ L' _ _ => F9
  rename News _ L' _ _ => N9
  refine Halt.mk (at_ok (hA.deeper.le (by decide)) X T F9 N9 (mm _ hx) (mm _ hdx) (mm _ hkp) hK hn hsm fun h2 tk2 F2 N2 => ?_)
  repeat' (first | walk1 | (dsimp only; walk1) | walk_at "THEN")
  rename Fr _ L' _ _ => F8
  rename News _ L' _ _ => N8
  have o := out_any F N hL F8 N8 (by first | walk_at "MEM" | simp) mm
  exact ret _ _ o.1 o.2
set_option maxHeartbeats 1000000 in
theorem content_get {w : World} {mean : ExcName → Option Value} {mg mb : Str → Option Value} {G : Heap} {A : Around} {h : Heap} {g : Array GenState} {dr : Drawn} {tk : Nat} {os : OsState} {L x dx kp kx kd : Addr} {m : Str → Option Value} {l : List (Addr × Obj)} {t1 t2 t3 t4 t5 tg th tn z1 z2 z3 : Tok} {gv n : Int} {oK : Obj} {ps : List (Int × Value)} {k c wh : Value} {Q E : Value → Shared → Prop}
    (hA : Rm A 14) (X : (KP w.params).In G) (T : Top topProg lsT mean mg mb G) (F : Fr G L h m) (N : News G L h l) (hx : (x, instObj 283 dx) ∈ l) (hdx : (dx, heapD w t1 t2 t3 t4 t5 tg th kp gv) ∈ l) (hkp : (kp, oK) ∈ l) (hK : oK.IsDictOf (intKind pw w) ps) (hn : valueAt ps n = some (.ref kx)) (hsm : (kp == sysModules) = false)
    (hkx : (kx, instObj 145 kd) ∈ l) (hkd : (kd, keptD w z1 z2 z3 k c wh) ∈ l) (hnd : handedIn c = true)
    (ret : ∀ h' tk', Fr G L h' m → News G L h' l → Q c ⟨h', g, dr, tk', os⟩) :
    wpAny (model pw w) A (call (.ref 205) [.ref x, .int n tn]) Q E ⟨h, g, dr, tk, os⟩ := by
  refine wpAny_call (callE (s := ⟨h, g, dr, tk, os⟩) (binds := [(Str.ofString "self", .ref x), (Str.ofString "number", .int n tn)]) X T F (Nat.lt_of_le_of_lt (Nat.le_add_right _ _) hA.dp) (by k_is) (by k_is) (BindsTo.of_eq rfl) (locs rfl) rfl rfl rfl (by decide) fun L' h₁ oL E' hL eL F₁ k₁ => ?_)
  have N₁ : News G L' h₁ ((dx, heapD w t1 t2 t3 t4 t5 tg th kp gv) :: (x, instObj 283 dx) :: (kd, keptD w z1 z2 z3 k c wh) :: (kx, instObj 145 kd) :: (l ++ [(L, oL)])) := fun p hp => by
    have N₀ := news_in F N hL eL k₁
    refine mem_case hp ?_ fun p hp => ?_
    · exact N₀ _ (List.mem_append_left _ hdx)
    refine mem_case hp ?_ fun p hp => ?_
    · exact N₀ _ (List.mem_append_left _ hx)
    refine mem_case hp ?_ fun p hp => ?_
    · exact N₀ _ (List.mem_append_left _ hkd)
    refine mem_case hp ?_ fun p hp => ?_
    · exact N₀ _ (List.mem_append_left _ hkx)
    · exact N₀ p hp
  have mm : ∀ p ∈ l, p ∈ (dx, heapD w t1 t2 t3 t4 t5 tg th kp gv) :: (x, instObj 283 dx) :: (kd, keptD w z1 z2 z3 k c wh) :: (kx, instObj 145 kd) :: (l ++ [(L, oL)]) := fun p hp => .tail _ (.tail _ (.tail _ (.tail _ (List.mem_append_left _ hp))))
  have hh : A.handled = none := hA.hh
  try dsimp only
  repeat' (first | walk1 | (dsimp only; walk1) | walk_at "THEN")
  rename Fr _ L' _ _ => F9
  rename News _ L' _ _ => N9
  refine Halt.mk (at_ok (hA.deeper.le (by decide)) X T F9 N9 (mm _ hx) (mm _ hdx) (mm _ hkp) hK hn hsm fun h2 tk2 F2 N2 => ?_)
  repeat' (first | walk1 | (dsimp only; walk1) | walk_at "THEN")
  rename Fr _ L' _ _ => F8
  rename News _ L' _ _ => N8
  have o := out_any F N hL F8 N8 (by first | walk_at "MEM" | simp) mm
  exact ret _ _ o.1 o.2
end
section
open PySem PySem.W PySem.Calls PyProof.Rows PySem.Spec
local macro_rules | `(tactic| walk_at "exec Raise some none") => `(tactic| (with_reducible refine halt ?_))
local macro_rules | `(tactic| k_handed) => `(tactic| with_reducible assumption)
set_option maxHeartbeats 1000000 in
/-- kept_at, where the object is gone -/
theorem at_miss {w : World} {mean : ExcName → Option Value} {mg mb : Str → Option Value} {G B : Heap} {A : Around} {h : Heap} {g : Array GenState} {dr : Drawn} {tk : Nat} {os : OsState} {L x dx kp : Addr} {m : Str → Option Value} {l : List (Addr × Obj)} {fs : List Env} {t1 t2 t3 t4 t5 tg th tn : Tok} {gv n : Int} {oK : Obj} {ps : List (Int × Value)} {Q E : Value → Shared → Prop}
    (hA : Rm A 12) (X : (KP w.params).In G) (T : Top topProg lsT mean mg mb G) (F : Fr G L h m) (N : News G L h l) (hfr : A.frames = some fs) (S : Base B G L l fs) (hx : (x, instObj 283 dx) ∈ l) (hdx : (dx, heapD w t1 t2 t3 t4 t5 tg th kp gv) ∈ l) (hkp : (kp, oK) ∈ l) (hK : oK.IsDictOf (intKind pw w) ps) (hn : valueAt ps n = none) (hsm : (kp == sysModules) = false)
    (err : ∀ e k1 k2 h' tk', Err B fs l L m e (fltM (.str (Str.ofString "escaped") k1) (.str (Str.ofString "an object is used behind its end") k2)) h' → E (.ref e) ⟨h', g, dr, tk', os⟩) :
    wpAny (model pw w) A (call (.ref 191) [.ref x, .int n tn]) Q E ⟨h, g, dr, tk, os⟩ := by
  refine wpAny_call (callG (s := ⟨h, g, dr, tk, os⟩) (binds := [(Str.ofString "self", .ref x), (Str.ofString "number", .int n tn)]) X T F (Nat.lt_of_le_of_lt (Nat.le_add_right _ _) hA.dp) (by k_is) (by k_is) (BindsTo.of_eq rfl) (locs rfl) rfl rfl rfl (by decide) fun L' h₁ oL hL eL F₁ k₁ => ?_)
  have N₁ : News G L' h₁ ((dx, heapD w t1 t2 t3 t4 t5 tg th kp gv) :: (kp, oK) :: (x, instObj 283 dx) :: (l ++ [(L, oL)])) := fun p hp => by
    have N₀ := news_in F N hL eL k₁
    refine mem_case hp ?_ fun p hp => ?_
    · exact N₀ _ (List.mem_append_left _ hdx)
    refine mem_case hp ?_ fun p hp => ?_
    · exact N₀ _ (List.mem_append_left _ hkp)
    refine mem_case hp ?_ fun p hp => ?_
    · exact N₀ _ (List.mem_append_left _ hx)
    · exact N₀ p hp
  have hh : A.handled = none := hA.hh
  try dsimp only
  repeat' (first | walk1 | (dsimp only; walk1) | walk_at "THEN")
  have hD : h₁.DictOf (intKind pw w) kp ps := by
    obtain ⟨es, ep, r⟩ := hK
    exact ⟨oK, es, ep, (N₁ _ (.tail _ (.head _))).1, r⟩
  refine wpAny_notIn_of (knd := intKind pw w) (k := n) (by simp [intKind, Value.isInt]) hsm hD.mapOf ?_
  rw [show (!(valueAt ps n).isSome) = true by rw [hn]; rfl]
  repeat' (first | walk1 | (dsimp only; walk1) | walk_at "THEN")
  refine Halt.mk ?_
  refine Raise_own hA.hh ?_
  repeat' (first | walk1 | (dsimp only; walk1) | walk_at "THEN")
  refine Halt.mk ?_
  refine fault_flies (E₀ := E) (l := l) (L := L) (m := m) (hA.deeper.le (by decide)) X T (by assumption) (by assumption) (by show (A.frames.map _) = _; rw [hfr]; rfl) rfl ((S.deeper F N hL eL rfl (show ScopeKind.function ≠ .module by decide)).more fun p hp => .tail _ (.tail _ (.tail _ hp))) F hL (fun p hp => .tail _ (.tail _ (.tail _ (List.mem_append_left _ hp)))) (.tail _ (.tail _ (.tail _ (List.mem_append_right _ (.head _))))) fun e h' tk' er => ?_
  exact err e _ _ h' tk' er
set_option maxHeartbeats 1000000 in
/-- kind, where the object is gone -/
theorem kind_miss {w : World} {mean : ExcName → Option Value} {mg mb : Str → Option Value} {G B : Heap} {A : Around} {h : Heap} {g : Array GenState} {dr : Drawn} {tk : Nat} {os : OsState} {L x dx kp : Addr} {m : Str → Option Value} {l : List (Addr × Obj)} {fs : List Env} {t1 t2 t3 t4 t5 tg th tn : Tok} {gv n : Int} {oK : Obj} {ps : List (Int × Value)} {Q E : Value → Shared → Prop}
    (hA : Rm A 14) (X : (KP w.params).In G) (T : Top topProg lsT mean mg mb G) (F : Fr G L h m) (N : News G L h l) (hfr : A.frames = some fs) (S : Base B G L l fs) (hx : (x, instObj 283 dx) ∈ l) (hdx : (dx, heapD w t1 t2 t3 t4 t5 tg th kp gv) ∈ l) (hkp : (kp, oK) ∈ l) (hK : oK.IsDictOf (intKind pw w) ps) (hn : valueAt ps n = none) (hsm : (kp == sysModules) = false)
    (err : ∀ e k1 k2 h' tk', Err B fs l L m e (fltM (.str (Str.ofString "escaped") k1) (.str (Str.ofString "an object is used behind its end") k2)) h' → E (.ref e) ⟨h', g, dr, tk', os⟩) :
    wpAny (model pw w) A (call (.ref 198) [.ref x, .int n tn]) Q E ⟨h, g, dr, tk, os⟩ := by
  refine wpAny_call (callG (s := ⟨h, g, dr, tk, os⟩) (binds := [(Str.ofString "self", .ref x), (Str.ofString "number", .int n tn)]) X T F (Nat.lt_of_le_of_lt (Nat.le_add_right _ _) hA.dp) (by k_is) (by k_is) (BindsTo.of_eq rfl) (locs rfl) rfl rfl rfl (by decide) fun L' h₁ oL hL eL F₁ k₁ => ?_)
  have N₁ : News G L' h₁ ((dx, heapD w t1 t2 t3 t4 t5 tg th kp gv) :: (x, instObj 283 dx) :: (l ++ [(L, oL)])) := fun p hp => by
    have N₀ := news_in F N hL eL k₁
    refine mem_case hp ?_ fun p hp => ?_
    · exact N₀ _ (List.mem_append_left _ hdx)
    refine mem_case hp ?_ fun p hp => ?_
    · exact N₀ _ (List.mem_append_left _ hx)
    · exact N₀ p hp
  have mm : ∀ p ∈ l, p ∈ (dx, heapD w t1 t2 t3 t4 t5 tg th kp gv) :: (x, instObj 283 dx) :: (l ++ [(L, oL)]) := fun p hp => .tail _ (.tail _ (List.mem_append_left _ hp))
  have hh : A.handled = none := hA.hh
  try dsimp only
  repeat' (first | walk1 | (dsimp only; walk1) | walk_at "THEN")
  rename Fr _ L' _ _ => F9
  rename News _ L' _ _ => N9
  refine Halt.mk (at_miss (B := B) (hA.deeper.le (by decide)) X T F9 N9 (by show (A.frames.map _) = _; rw [hfr]; rfl) ((S.deeper F N hL eL rfl (show ScopeKind.function ≠ .module by decide)).more fun p hp => .tail _ (.tail _ hp)) (mm _ hx) (mm _ hdx) (mm _ hkp) hK hn hsm fun e k1 k2 h2 tk2 er => ?_)
  exact err_leave (l := l) (by show (A.frames.map _) = _; rw [hfr]; rfl) rfl er F hL mm (by first | walk_at "MEM" | simp) fun h7 er7 => err e k1 k2 h7 tk2 er7
set_option maxHeartbeats 1000000 in
/-- values_in -/
theorem values_get {w : World} {mean : ExcName → Option Value} {mg mb : Str → Option Value} {G : Heap} {A : Around} {h : Heap} {g : Array GenState} {dr : Drawn} {tk : Nat} {os : OsState} {L x dx kp kx kd : Addr} {m : Str → Option Value} {l : List (Addr × Obj)} {t1 t2 t3 t4 t5 tg th tn z1 z2 z3 tkk : Tok} {gv n : Int} {oK : Obj} {ps : List (Int × Value)} {c wh : Value} {ks : Str} {is : List Int} {Q E : Value → Shared → Prop}
    (hA : Rm A 38) (X : (KP w.params).In G) (T : Top topProg lsT mean mg mb G) (F : Fr G L h m) (N : News G L h l) (hx : (x, instObj 283 dx) ∈ l) (hdx : (dx, heapD w t1 t2 t3 t4 t5 tg th kp gv) ∈ l) (hkp : (kp, oK) ∈ l) (hK : oK.IsDictOf (intKind pw w) ps) (hn : valueAt ps n = some (.ref kx)) (hsm : (kp == sysModules) = false)
    (hkx : (kx, instObj 145 kd) ∈ l) (hkd : (kd, keptD w z1 z2 z3 (.str ks tkk) c wh) ∈ l) (hnd : handedIn c = true) (H : Held w l ks c is)
    (ret : ∀ D k vs h' tk', IntVs vs is → Fr G L h' m → News G L h' ((D, PySem.W.listOf vs.toArray k) :: l) → Q (.ref D) ⟨h', g, dr, tk', os⟩) :
    wpAny (model pw w) A (call (.ref 217) [.ref x, .int n tn]) Q E ⟨h, g, dr, tk, os⟩ := by
  refine wpAny_call (callE (s := ⟨h, g, dr, tk, os⟩) (binds := [(Str.ofString "self", .ref x), (Str.ofString "number", .int n tn)]) X T F (Nat.lt_of_le_of_lt (Nat.le_add_right _ _) hA.dp) (by k_is) (by k_is) (BindsTo.of_eq rfl) (locs rfl) rfl rfl rfl (by decide) fun L' h₁ oL E' hL eL F₁ k₁ => ?_)
  have N₁ : News G L' h₁ ((dx, heapD w t1 t2 t3 t4 t5 tg th kp gv) :: (x, instObj 283 dx) :: (kd, keptD w z1 z2 z3 (.str ks tkk) c wh) :: (kx, instObj 145 kd) :: (l ++ [(L, oL)])) := fun p hp => by
    have N₀ := news_in F N hL eL k₁
    refine mem_case hp ?_ fun p hp => ?_
    · exact N₀ _ (List.mem_append_left _ hdx)
    refine mem_case hp ?_ fun p hp => ?_
    · exact N₀ _ (List.mem_append_left _ hx)
    refine mem_case hp ?_ fun p hp => ?_
    · exact N₀ _ (List.mem_append_left _ hkd)
    refine mem_case hp ?_ fun p hp => ?_
    · exact N₀ _ (List.mem_append_left _ hkx)
    · exact N₀ p hp
  have mm : ∀ p ∈ l, p ∈ (dx, heapD w t1 t2 t3 t4 t5 tg th kp gv) :: (x, instObj 283 dx) :: (kd, keptD w z1 z2 z3 (.str ks tkk) c wh) :: (kx, instObj 145 kd) :: (l ++ [(L, oL)]) := fun p hp => .tail _ (.tail _ (.tail _ (.tail _ (List.mem_append_left _ hp))))
  have hh : A.handled = none := hA.hh
  try dsimp only
  repeat' (first | walk1 | (dsimp only; walk1) | walk_at "THEN")
  rename Fr _ L' _ _ => F9
  rename News _ L' _ _ => N9
  refine Halt.mk (at_ok (hA.deeper.le (by decide)) X T F9 N9 (mm _ hx) (mm _ hdx) (mm _ hkp) hK hn hsm fun h2 tk2 F2 N2 => ?_)
  repeat' (first | walk1 | (dsimp only; walk1) | walk_at "THEN")
  refine Halt.mk (held_ok (is := is) (hA.deeper.le (by decide)) X T (by assumption) (by assumption) (H.mono mm) fun D k vs h3 tk3 hv F3 N3 => ?_)
  repeat' (first | walk1 | (dsimp only; walk1) | walk_at "THEN")
  have o := out_gen (l2 := (D, PySem.W.listOf vs.toArray k) :: l) F N hL F3 N3 (by first | walk_at "MEM" | simp) (fun p hp => by
    refine mem_case hp ?_ fun p hp => ?_
    · exact ⟨.head _, .inr ⟨_, _, rfl⟩⟩
    · exact ⟨.tail _ (mm p hp), .inl ⟨_, hp⟩⟩)
  exact ret _ _ _ _ _ hv o.1 o.2
end
section
open PySem PySem.W PySem.Calls PyProof.Rows PySem.Spec
local macro_rules | `(tactic| walk_at "exec For") => `(tactic| (with_reducible refine halt ?_))
local macro_rules | `(tactic| walk_at "call builtin:dict.pop") => `(tactic| (with_reducible refine halt ?_))
/-- a key goes, where it is there -/
noncomputable def stp (ps : List (Int × Value)) (j : Int) : List (Int × Value) := if (valueAt ps j).isSome then without ps j else ps
theorem stp_len (ps : List (Int × Value)) (j : Int) : (stp ps j).length ≤ ps.length := by
  unfold stp without
  split
  · exact List.length_filter_le _ _
  · exact Nat.le_refl _
theorem stps_len : ∀ (is : List Int) (ps : List (Int × Value)), (is.foldl stp ps).length ≤ ps.length
  | [], ps => Nat.le_refl _
  | i :: is, ps => Nat.le_trans (stps_len is (stp ps i)) (stp_len ps i)
noncomputable def mFree (x : Addr) (st : Option Value) (t : Addr) : Str → Option Value := fun y => if y = Str.ofString "self" then some (.ref x) else if y = Str.ofString "number" then st else if y = Str.ofString "numbers" then some (.ref t) else none
theorem mFree_num (x : Addr) (st : Option Value) (t : Addr) (v : Value) (y : Str) : (if y = Str.ofString "number" then some v else mFree x st t y) = mFree x (some v) t y := by
  unfold mFree
  by_cases h1 : y = Str.ofString "number"
  · subst h1; rfl
  · by_cases h2 : y = Str.ofString "self"
    · subst h2; rfl
    · simp only [h1, h2, if_false]
inductive IvFree (w : World) (kp x t : Addr) (rest : List (Addr × Obj)) (ps : List (Int × Value)) (is : List Int) (i : Nat) (m' : Str → Option Value) (l' : List (Addr × Obj)) : Prop
  | mk (oK' : Obj) (st : Option Value) (el : l' = (kp, oK') :: rest) (hK : oK'.IsDictOf (intKind pw w) ((is.take i).foldl stp ps)) (em : m' = mFree x st t)
set_option maxHeartbeats 1000000 in
/-- free -/
theorem free_ok {w : World} {mean : ExcName → Option Value} {mg mb : Str → Option Value} {G : Heap} {A : Around} {h : Heap} {g : Array GenState} {dr : Drawn} {tk : Nat} {os : OsState} {L x dx kp t : Addr} {m : Str → Option Value} {l : List (Addr × Obj)} {t1 t2 t3 t4 t5 tg th : Tok} {gv : Int} {oK : Obj} {ps : List (Int × Value)} {vs : List Value} {is : List Int} {n : Nat} {Q E : Value → Shared → Prop}
    (hA : Rm A 12) (X : (KP w.params).In G) (T : Top topProg lsT mean mg mb G) (F : Fr G L h m) (N : News G L h ((kp, oK) :: l)) (off : ∀ p ∈ l, p.1 ≠ kp) (hx : (x, instObj 283 dx) ∈ l) (hdx : (dx, heapD w t1 t2 t3 t4 t5 tg th kp gv) ∈ l) (ht : (t, PySem.W.listOf vs.toArray n) ∈ l) (hi : IntVs vs is) (hK : oK.IsDictOf (intKind pw w) ps) (hpl : ps.length ≤ 5) (hsm : (kp == sysModules) = false)
    (ret : ∀ oK' h' tk', oK'.IsDictOf (intKind pw w) (is.foldl stp ps) → Fr G L h' m → News G L h' ((kp, oK') :: l) → Q .none ⟨h', g, dr, tk', os⟩) :
    wpAny (model pw w) A (call (.ref 224) [.ref x, .ref t]) Q E ⟨h, g, dr, tk, os⟩ := by
  refine wpAny_call (callE (s := ⟨h, g, dr, tk, os⟩) (binds := [(Str.ofString "self", .ref x), (Str.ofString "numbers", .ref t)]) X T F (Nat.lt_of_le_of_lt (Nat.le_add_right _ _) hA.dp) (by k_is) (by k_is) (BindsTo.of_eq rfl) (locs rfl) rfl rfl rfl (by decide) fun L' h₁ oL E' hL eL F₁ k₁ => ?_)
  obtain ⟨rest, hrest⟩ : ∃ rest, rest = (dx, heapD w t1 t2 t3 t4 t5 tg th kp gv) :: (x, instObj 283 dx) :: (l ++ [(L, oL)]) := ⟨_, rfl⟩
  have N₁ : News G L' h₁ ((kp, oK) :: rest) := fun p hp => by
    have N₀ := news_in F N hL eL k₁
    rw [hrest] at hp
    refine mem_case hp ?_ fun p hp => ?_
    · exact N₀ _ (.head _)
    refine mem_case hp ?_ fun p hp => ?_
    · exact N₀ _ (.tail _ (List.mem_append_left _ hdx))
    refine mem_case hp ?_ fun p hp => ?_
    · exact N₀ _ (.tail _ (List.mem_append_left _ hx))
    · exact N₀ p (.tail _ hp)
  have offr : ∀ p ∈ rest, p.1 ≠ kp := fun p hp => by
    rw [hrest] at hp
    refine mem_case hp ?_ fun p hp => ?_
    · exact off _ hdx
    refine mem_case hp ?_ fun p hp => ?_
    · exact off _ hx
    rcases List.mem_append.mp hp with hp | hp
    · exact off p hp
    · rw [List.mem_singleton.mp hp]; exact fun q => (N _ (.head _)).2.1 q.symm
  have hh : A.handled = none := hA.hh
  try dsimp only
  repeat' (first | walk1 | (dsimp only; walk1) | walk_at "THEN")
  refine Halt.mk ?_
  refine for_lst (L := L') (G := G) (t := t) (vs := vs) (n := n) (g := g) (d := dr) (os := os) hA.hh (IvFree w kp x t rest ps is) ?_ ?_ ?_ ?_
  · rintro i m' l' ⟨oK', st, rfl, _⟩
    rw [hrest]
    simp [ht]
  · walk1
    refine Halt.mk ⟨mFree x none t, (kp, oK) :: rest, _, _, rfl, rfl, ⟨oK, none, rfl, hK, rfl⟩, fr_m F₁ ?_, N₁⟩
    intro y
    show List.lookup y [(Str.ofString "numbers", Value.ref t), (Str.ofString "self", Value.ref x)] = mFree x none t y
    simp only [lookup_if, List.lookup_nil, mFree]
    by_cases h1 : y = Str.ofString "numbers"
    · subst h1; rfl
    · by_cases h2 : y = Str.ofString "self"
      · subst h2; rfl
      · simp only [h1, h2, if_false, ite_self]
  · rintro i m' l' h' tk' v' I oI hv ⟨oK', st, rfl, hK', rfl⟩ F' N' offI
    obtain ⟨j, tj, hj, rfl⟩ := hi.get hv
    have hnext : (is.take (i + 1)).foldl stp ps = stp ((is.take i).foldl stp ps) j := by
      rw [List.take_succ, hj]
      simp only [Option.toList_some, List.foldl_append, List.foldl_cons, List.foldl_nil]
    have hlen := stps_len (is.take i) ps
    generalize (is.take i).foldl stp ps = ps' at hK' hnext hlen
    have N2 : News G L' h' ((I, oI) :: (dx, heapD w t1 t2 t3 t4 t5 tg th kp gv) :: (x, instObj 283 dx) :: (kp, oK') :: rest) := fun p hp => N' p (by
      rw [hrest] at hp ⊢
      first | (refine sub_at ?_ hp; walk_at "SUB") | (simp only [List.mem_cons] at hp ⊢; grind))
    clear N'
    repeat' (first | walk1 | (dsimp only; walk1) | walk_at "THEN")
    rename News _ L' _ _ => N3
    rename Fr _ L' _ _ => F3
    refine wpAny_in_of (knd := intKind pw w) (k := j) (by simp [intKind, Value.isInt]) hsm (kda_dict N3 (.tail _ (.tail _ (.tail _ (.head _)))) hK').mapOf ?_
    cases hva : valueAt ps' j with
    | none =>
      rw [show (none : Option Value).isSome = false from rfl]
      repeat' (first | walk1 | (dsimp only; walk1) | walk_at "THEN")
      have e2 : stp ps' j = ps' := by unfold stp; rw [hva]; rfl
      refine Halt.mk ⟨_, (kp, oK') :: rest, _, _, rfl, ⟨oK', some (.int j tj), rfl, (by rw [hnext, e2]; exact hK'), rfl⟩, fr_m F3 (mFree_num x st t _), news_mem N3 fun p hp => ?_, offI⟩
      refine mem_case hp ?_ fun p hp => ?_
      · exact .head _
      · exact .tail _ (.tail _ (.tail _ hp))
    | some u =>
      rw [show (some u : Option Value).isSome = true from rfl]
      repeat' (first | walk1 | (dsimp only; walk1) | walk_at "THEN")
      rename News _ L' _ _ => N4
      rename Fr _ L' _ _ => F4
      have N5 := news_mem (l' := (kp, oK') :: (I, oI) :: rest) N4 fun p hp => by
        refine mem_case hp ?_ fun p hp => ?_
        · exact .tail _ (.tail _ (.tail _ (.head _)))
        refine mem_case hp ?_ fun p hp => ?_
        · exact .head _
        · exact .tail _ (.tail _ (.tail _ (.tail _ hp)))
      refine Halt.mk (kob_pop (knd := intKind pw w) (more := []) F4 N5 (.head fun p hp => ?_) hK' (intKind_is _ _ _ _) (.inl rfl) (by rfl) (PySem.F.args_dict_pop_2 _ _) hva (by rw [sizeLine_eq]; omega) fun h9 oK2 F6 N6 hK2 => ?_)
      · refine mem_case hp ?_ fun p hp => ?_
        · exact fun q => offI (kp, oK') (.head _) q.symm
        · exact offr p hp
      have e2 : stp ps' j = without ps' j := by unfold stp; rw [hva]; rfl
      try clear N5
      try clear N4
      try clear F4
      repeat' (first | walk1 | (dsimp only; walk1) | walk_at "THEN")
      refine Halt.mk ⟨_, (kp, oK2) :: rest, _, _, rfl, ⟨oK2, some (.int j tj), rfl, (by rw [hnext, e2]; exact hK2), rfl⟩, fr_m F6 (mFree_num x st t _), news_mem N6 fun p hp => ?_, fun p hp => ?_⟩
      · refine mem_case hp ?_ fun p hp => ?_
        · exact .tail _ (.head _)
        refine mem_case hp ?_ fun p hp => ?_
        · exact .head _
        · exact .tail _ (.tail _ hp)
      · refine mem_case hp ?_ fun p hp => ?_
        · exact offI (kp, oK') (.head _)
        · exact offI p (.tail _ hp)
  · rintro m' l' h' tk' ⟨oK', st, rfl, hK', rfl⟩ F' N'
    rw [List.take_of_length_le (by rw [hi.len]; exact Nat.le_refl _)] at hK'
    try dsimp only
    repeat' (first | walk1 | (dsimp only; walk1) | walk_at "THEN")
    have o := out_any F (l := l) (l' := (kp, oK') :: rest) (fun p hp => N p (.tail _ hp)) hL F' N' (by rw [hrest]; first | walk_at "MEM" | simp) (fun p hp => by rw [hrest]; first | walk_at "MEM" | simp [hp])
    refine ret oK' _ _ hK' o.1 fun p hp => ?_
    refine mem_case hp ?_ fun p hp => ?_
    · exact ⟨(N' _ (.head _)).1, (N _ (.head _)).2⟩
    · exact o.2 p hp
end
section
open PySem PySem.W PySem.Calls PyProof.Rows PySem.Spec
inductive StopP (n : Nat) : Prop
  | mk
theorem StopP.stop {n : Nat} {p : Prop} (_ : StopP n) (h : Halt p) : p := halt h
local macro_rules | `(tactic| walk_at "eval IfExp") => `(tactic| (with_reducible refine StopP.stop (n := 1) (by assumption) ?_))
inductive IvPool (G : Heap) (L' : Addr) (g : Array GenState) (dr : Drawn) (os : OsState) (a : Addr) (lx : List (Addr × Obj)) (v : Value) (s' : Shared) : Prop
  | mk (c : Int) (t : Tok) (h' : Heap) (tk' : Nat) (ev : v = .int c t) (es : s' = ⟨h', g, dr, tk', os⟩) (F : Fr G L' h' (fun y => List.lookup y [(Str.ofString "script", Value.ref a)].reverse)) (N : News G L' h' lx)
set_option maxHeartbeats 1000000 in
/-- the pool of figures -/
theorem pool_ok {w : World} {mean : ExcName → Option Value} {mg mb : Str → Option Value} {G : Heap} {A : Around} {h : Heap} {g : Array GenState} {dr : Drawn} {tk : Nat} {os : OsState} {L a : Addr} {m : Str → Option Value} {l : List (Addr × Obj)} {vs : List Value} {is : List Int} {Q E : Value → Shared → Prop}
    (hA : Rm A 5) (X : (KP w.params).In G) (T : Top topProg lsT mean mg mb G) (F : Fr G L h m) (N : News G L h l) (ha : G.IsList a vs.toArray) (hI : IntsAre vs is) (hlen : is.length ≤ 63)
    (ret : ∀ D so M h' tk', SrcO M so → (∀ p ∈ l, p.1 < D) → Fr G L h' m → News G L h' ((D, so) :: l) → Q (.ref D) ⟨h', g, dr, tk', os⟩) :
    wpAny (model pw w) A (call (.ref 510) [.ref a]) Q E ⟨h, g, dr, tk, os⟩ := by
  refine wpAny_call (callE (s := ⟨h, g, dr, tk, os⟩) (binds := [(Str.ofString "script", .ref a)]) X T F (Nat.lt_of_le_of_lt (Nat.le_add_right _ _) hA.dp) (by k_is) (by k_is) (BindsTo.of_eq rfl) (locs rfl) rfl rfl rfl (by decide) fun L' h₁ oL E' hL eL F₁ k₁ => ?_)
  have N₁ : News G L' h₁ (l ++ [(L, oL)]) := news_in F N hL eL k₁
  have hh : A.handled = none := hA.hh
  have hlen63 : ¬ ((63 : Nat) : Int) < (is.length : Int) := by omega
  have stp : StopP 1 := .mk
  try dsimp only
  repeat' (first | walk1 | (dsimp only; walk1) | walk_at "THEN")
  clear stp
  refine Halt.mk (wpAny_mono (Q := fun v s' => Halt (IvPool G L' g dr os a (l ++ [(L, oL)]) v s')) ?_ (fun v s' hs => ?_) fun _ _ e => e)
  · repeat' (first | walk1 | (dsimp only; walk1) | walk_at "THEN")
    all_goals exact Halt.mk ⟨_, _, _, _, rfl, rfl, by assumption, by assumption⟩
  obtain ⟨cl, tc, h2, tk2, rfl, rfl, F2, N2⟩ := halt hs
  clear ha hI N₁ F₁
  repeat' (first | walk1 | (dsimp only; walk1) | walk_at "THEN")
  refine max_two_ints hh fun h3 tk3 hk => ?_
  rename Fr _ L' _ _ => F3
  rename News _ L' _ _ => N3
  have F4 : Fr G L' h3 _ := fr_keep F3 (fun o => hk _ o) fun b o z => hk _ _ (F3.keep b o z)
  have N4 : News G L' h3 _ := fun p hp => ⟨hk _ _ (N3 p hp).1, (N3 p hp).2⟩
  have key : ∀ u : Tok, ∃ (sz : Int) (ts : Tok), 0 ≤ sz ∧ (if -1 - cl > cl then Value.int (-1 - cl) u else Value.int cl tc) = Value.int sz ts := fun u => by
    by_cases hc : -1 - cl > cl
    · exact ⟨_, _, by omega, if_pos hc⟩
    · exact ⟨_, _, by omega, if_neg hc⟩
  generalize hmx : (if -1 - cl > cl then Value.int (-1 - cl) _ else Value.int cl tc) = mx
  obtain ⟨sz, ts, hsz, e⟩ := key _
  rw [hmx] at e
  subst e
  clear N3 F3
  repeat' (first | walk1 | (dsimp only; walk1) | walk_at "THEN")
  rename Fr _ L' _ _ => F6
  rename News _ L' _ _ => N6
  have o := out_gen (l2 := _ :: l) F N hL F6 N6 (by first | walk_at "MEM" | simp) (fun p hp => by
    refine mem_case hp ?_ fun p hp => ?_
    · exact ⟨.head _, .inr ⟨_, _, rfl⟩⟩
    · exact ⟨.tail _ (List.mem_append_left _ hp), .inl ⟨_, hp⟩⟩)
  refine ret _ _ _ _ _ ⟨_, _, _, _, _, rfl, ?_, Int.le_refl _, ?_, ?_⟩ (fun p hp => (show ∀ p ∈ l ++ [(L, oL)], p.1 < _ by assumption) p (List.mem_append_left _ hp)) o.1 o.2
  · refine Int.mul_nonneg hsz ?_
    split <;> decide
  · exact Int.fmod_nonneg_of_pos _ (by decide)
  · exact Int.fmod_lt_of_pos _ (by decide)
end
section
open PySem PySem.W PySem.Calls PyProof.Rows PySem.Spec
section
variable {w : World} {A : Around} {E : Value → Shared → Prop} {s : Shared}
/-- a subscript of any expression, a temporary too -/
theorem tail_tmp {value slice : Expr} {o i : Value} {T id : String} {ops : List Value} {Q : Value → Shared → Prop} (hT : s.TypeIs o T)
    (hl : typeLookup (.type T) "__getitem__" = pure (some (.builtin id))) (h : wpAny (model pw w) A (getItem o i) Q E s)
    (hs : subscripted slice false o i = operate ops (getItem o i)) :
    wpAny (model pw w) A (subscriptTail value slice o i) Q E s := by
  unfold subscriptTail
  refine wpAny_bind ?_
  rw [getitemInPython_of_ne hT.not_modules]
  refine wpAny_bind (wpAny_specialOf hT hl ?_)
  have fin : wpAny (model pw w) A (subscripted slice false o i) (fun r s₃ => wpAny (model pw w) A (letTemporaryGo value o r >>= fun _ => pure r) Q E s₃) E s := by
    rw [hs]
    exact wpAny_operating (wpAny_mono h (fun r s₃ h₃ => wpAny_bind (wpAny_letTemporaryGo (wpAny_pure h₃))) fun _ _ x => x)
  first
    | exact wpAny_pure (wpAny_bind fin)
    | exact wpAny_bind (wpAny_pure (wpAny_bind fin))
    | exact wpAny_bind fin
theorem getItem_tuple_all {t sl : Addr} {items : Array Value} {b : Nat} {u : Tok} {Q : Value → Shared → Prop} (ht : IsTup s.heap t items) (hs : s.heap.IsSliceOf sl .none (.int b u) .none) (hb : b = items.size)
    (h : Q (.ref t) s) : wpAny (model pw w) A (getItem (.ref t) (.ref sl)) Q E s := by
  obtain ⟨os, hos, hcs, hds⟩ := id hs
  have hTs : s.TypeIs (.ref sl) "slice" := ⟨os, hos, hcs⟩
  unfold getItem
  try with_reducible refine wpAny_holding ?_
  first | refine wpAny_bind (wpAny_pure ?_) | skip
  refine wpAny_bind (wpAny_sequenceKey ht.typeIs (by decide) ?_)
  refine wpAny_bind (wpAny_callSpecial?_slot (name := Str.ofString "__getitem__") ht.typeIs slot_tuple_getitem
    (wpAny_call_entry slot_tuple_getitem ht.typeIs entry_tuple_getitem ?_ (args_tuple_getitem _ _)))
  show wpAny _ _ (Builtin.Tuple.tupleItemsOf (.ref t) >>= _) _ _ s
  refine wpAny_bind (tupleItemsOf_ ht ?_)
  refine wpAny_bind (wpAny_typeOf hTs ?_)
  rw [if_pos (by decide)]
  refine wpAny_bind (applied_upto hs (Nat.le_of_eq hb) ?_)
  have hyes : ((0 : Int) == 0 && (1 : Int) == 1 && b == items.size) = true := by rw [hb]; first | walk_at "MEM" | simp
  show wpAny _ _ (if ((0 : Int) == 0 && (1 : Int) == 1 && b == items.size) = true then _ else _) _ _ s
  rw [if_pos hyes]
  refine wpAny_bind ?_
  unfold Builtin.Tuple.tupleIsExact
  refine wpAny_bind (wpAny_typeOf ht.typeIs (wpAny_pure ?_))
  rw [if_pos (by decide)]
  exact wpAny_bind (wpAny_rule (wpAny_pure ⟨_, rfl, wpAny_pure h⟩))
end
section
variable {w : World} {A : Around} {E : Value → Shared → Prop} {s : Shared} {G : Heap} {L t : Addr} {m : Str → Option Value} {l : List (Addr × Obj)} {vs : List Value} {value slice : Expr} {Q : Value → Shared → Prop}
/-- (..)[:b], of a tuple just made -/
theorem tmp_tup {k : Int} {b n : Nat} {u : Tok} (hk : k = (b : Int)) (F : Fr G L s.heap m) (N : News G L s.heap l) (ht : (t, tupO vs n) ∈ l) (hb : b ≤ vs.length) (hz : vs.length ≤ 1000)
    (h : ∀ D k h', Fr G L h' m → News G L h' ((D, tupO (vs.take b) k) :: l) → (D = t ∨ ∀ p ∈ l, p.1 < D) → Q (.ref D) { s with heap := h' })
    (hs : subscripted slice false (.ref t) (.ref s.heap.objs.size) = operate [.ref s.heap.objs.size, .ref t] (getItem (.ref t) (.ref s.heap.objs.size)) := by with_unfolding_all rfl) :
    wpAny (model pw w) A (subscriptTail value slice (.ref t) (.ref s.heap.objs.size)) Q E { s with heap := s.heap.push { cls := .type "slice", data := .fields #[.none, .int k u, .none] } } := by
  subst hk
  have ht' : IsTup (s.heap.push { cls := .type "slice", data := .fields #[.none, .int b u, .none] }) t vs.toArray := (News.isTup N ht).push _
  by_cases e : b = vs.length
  · refine tail_tmp ht'.typeIs slot_tuple_getitem.lookup (getItem_tuple_all ht' (Heap.IsSliceOf.new ..) (by simpa using e) ?_) hs
    refine h t n _ (F.push _) ?_ (.inl rfl)
    rw [e, List.take_length]
    have N' := N.grown (h' := s.heap.push { cls := .type "slice", data := .fields #[.none, .int (vs.length : Int) u, .none] }) fun _ _ e => Heap.get?_push_of_some _ e
    intro p hp
    refine mem_case hp ?_ fun p hp => ?_
    · exact N' _ ht
    · exact N' p hp
  · refine tail_tmp ht'.typeIs slot_tuple_getitem.lookup (getItem_tuple_upto ht' (Heap.IsSliceOf.new ..) (by simp; omega) ?_ (by rw [List.size_toArray, sizeLine_eq]; omega)) hs
    have o := slice_push (vl := .none) (vu := .int b u) (o := tupO (vs.take b) 0) rfl F N
    show Q (.ref (s.heap.push _).objs.size) _
    rw [Heap.size_push]
    exact h _ _ _ o.1 o.2 (.inr fun p hp => Nat.lt_succ_of_lt (Heap.lt_size (N p hp).1))
/-- [..][:b], of a list just made -/
theorem tmp_lst {k : Int} {b n : Nat} {u : Tok} (hk : k = (b : Int)) (F : Fr G L s.heap m) (N : News G L s.heap l) (ht : (t, PySem.W.listOf vs.toArray n) ∈ l) (hb : b ≤ vs.length) (hz : vs.length ≤ 1000)
    (h : ∀ D h', Fr G L h' m → News G L h' ((D, PySem.W.listOf (vs.take b).toArray 0) :: l) → (∀ p ∈ l, p.1 < D) → Q (.ref D) { s with heap := h' })
    (hs : subscripted slice false (.ref t) (.ref s.heap.objs.size) = operate [.ref s.heap.objs.size, .ref t] (getItem (.ref t) (.ref s.heap.objs.size)) := by with_unfolding_all rfl) :
    wpAny (model pw w) A (subscriptTail value slice (.ref t) (.ref s.heap.objs.size)) Q E { s with heap := s.heap.push { cls := .type "slice", data := .fields #[.none, .int k u, .none] } } := by
  subst hk
  have hl : s.heap.IsList t vs.toArray := News.isList N ht
  have hsz : vs.toArray.size ≤ sizeLine := by rw [List.size_toArray, sizeLine_eq]; omega
  have ee : slicePick vs.toArray none (some (b : Int)) none = (vs.take b).toArray := by
    have e : sliceBounds none (some (b : Int)) none vs.toArray.size = (((0 : Nat) : Int), ((b : Nat) : Int), 1) := by
      simp only [sliceBounds, Option.getD_none, show (1 : Int) > 0 by decide, if_true, List.size_toArray]
      refine Prod.ext (by first | walk_at "MEM" | simp) (Prod.ext ?_ rfl)
      show max 0 (min (if (b : Int) < 0 then (b : Int) + (vs.length : Int) else (b : Int)) (vs.length : Int)) = (b : Int)
      rw [if_neg (Int.not_lt.mpr (Int.natCast_nonneg b)), Int.min_eq_left (Int.ofNat_le.mpr hb), Int.max_eq_right (Int.natCast_nonneg b)]
    refine Array.toList_inj.mp ?_
    rw [kmk_pick_nat _ e]
    simp
  refine tail_tmp (Heap.IsList.typeIs (s := { s with heap := s.heap.push { cls := .type "slice", data := .fields #[.none, .int b u, .none] } }) (hl.push _)) list_getitem_lookup
    (wpAny_getItem_list_slice (lo := none) (hi := some (b : Int)) (st := none) (hl.push _) (Heap.IsSliceOf.new ..) .none (.int _ _) .none (by first | walk_at "MEM" | simp) ?_ hsz) hs
  have N1 := News.push (F.push { cls := .type "slice", data := .fields #[.none, .int b u, .none] }) (N.grown fun _ _ e => Heap.get?_push_of_some _ e) { cls := .type "list", data := .seq (slicePick vs.toArray none (some (b : Int)) none) }
  rw [Heap.size_push] at N1
  show Q (.ref (s.heap.push _).objs.size) _
  rw [Heap.size_push]
  refine h _ _ ((F.push _).push _) ?_ fun p hp => Nat.lt_succ_of_lt (Heap.lt_size (N p hp).1)
  rw [ee] at N1 ⊢
  exact N1
end
end
section
open PySem PySem.W PySem.Calls PyProof.Rows PySem.Spec
noncomputable def keysStr (es : List DictEntry) : Bool := es.all fun e => match e.key with | .str _ _ => true | _ => false
theorem keys_of {es : Array DictEntry} (h : keysStr es.toList = true) : StrKeys es := fun e he => by
  have z := List.all_eq_true.mp h e (Array.mem_def.mp he)
  revert z
  cases e.key <;> intro z <;> first | exact ⟨_, _, rfl⟩ | cases z
theorem cmp_own {h : Heap} {x dx C N : Addr} {nm q : Str} {bs bm : List Value} {hdct : Bool} {sn : List Str} {sub : List Value} {ab : Bool} {col : Option Bool} {dd : Option Addr} {k0 k1 k2 k3 k5 : Option Value} {newId : String} {oN : Obj} {es : Array DictEntry} {ep : Nat}
    (hx : h.get? x = some (instObj C dx)) (hC : h.get? C = some (excClassObj nm q C N bs bm hdct sn sub ab col dd k0 k1 k2 k3 k5 newId)) (hN : h.get? N = some oN) (hd : oN.data = .dict es ep) (hk : keysStr es.toList = true) (h1 : nsFind es "__eq__" = none) (h2 : nsFind es "__ne__" = none) : h.CmpInst x C bm :=
  ⟨_, _, _, N, _, _, _, _, _, _, _, _, _, _, _, _, _, nsFind es, hx, rfl, hC, ⟨oN, es, ep, hN, hd, keys_of hk, fun _ => rfl⟩, h1, h2⟩
theorem cmp_chan {w : World} {h : Heap} {x dx : Addr} (X : (KP w.params).In h) (hx : h.get? x = some (instObj 372 dx)) : h.CmpInst x 372 [.type "object"] :=
  cmp_own hx (X 372 _ rfl) (X 371 _ rfl) rfl rfl (by kernel_rfl) (by kernel_rfl)
theorem cmp_tab {w : World} {h : Heap} {x dx : Addr} (X : (KP w.params).In h) (hx : h.get? x = some (instObj 458 dx)) : h.CmpInst x 458 [.type "object"] :=
  cmp_own hx (X 458 _ rfl) (X 457 _ rfl) rfl rfl (by kernel_rfl) (by kernel_rfl)
theorem cmp_walk {w : World} {h : Heap} {x dx : Addr} (X : (KP w.params).In h) (hx : h.get? x = some (instObj 499 dx)) : h.CmpInst x 499 [.type "object"] :=
  cmp_own hx (X 499 _ rfl) (X 498 _ rfl) rfl rfl (by kernel_rfl) (by kernel_rfl)
end
section
open PySem PySem.W PySem.Calls PyProof.Rows PySem.Spec
local macro_rules | `(tactic| walk_at "unpackItems ref") => `(tactic| (refine unpackItemsN_ (by assumption) (by assumption) (News.isTup (by assumption) (by k_mem)) (by assumption) rfl ?_; intro h' F' N'))
local macro_rules | `(tactic| walk_at "assign Tuple") => `(tactic| (refine unpackN_ (by assumption) (by assumption) (News.isTup (by assumption) (by k_mem)) (by assumption) rfl rfl ?_; intro h' F' N'))
local macro_rules | `(tactic| walk_at "eval Lambda") => `(tactic| (with_reducible refine halt ?_))
local macro_rules | `(tactic| walk_at "compareOp NotEq ref ref") => `(tactic| (with_reducible refine halt ?_))
local macro_rules | `(tactic| walk_at "compareOp Eq ref ref") => `(tactic| (with_reducible refine halt ?_))
inductive StopAt (n : Nat) : Prop
  | mk
section
open PySem PySem.W PySem.Calls PyProof.Rows PySem.Spec
theorem eqv_ints : ∀ is : List Int, PyData.eqvAll (is.map PyData.int) (is.map PyData.int) = true
  | [] => by simp [PyData.eqvAll]
  | i :: is => by simp [PyData.eqvAll, PyData.eqv, eqv_ints is]
section
variable {w : World} {A : Around} {E : Value → Shared → Prop} {s : Shared} {G : Heap} {L : Addr} {l : List (Addr × Obj)} {Q : Value → Shared → Prop}
/-- two lists of the same ints -/
theorem ne_ints {a b : Addr} {vs us : List Value} {is : List Int} {n k : Nat} (N : News G L s.heap l) (ha : (a, PySem.W.listOf vs.toArray n) ∈ l) (hb : (b, PySem.W.listOf us.toArray k) ∈ l) (hv : IntVs vs is) (hu' : IntVs us is) (hu : A.units + 64 < cLine)
    (h : Q (.bool false) s) : wpAny (model pw w) A (compareOp .NotEq (.ref a) (.ref b)) Q E s := by
  refine ne_dataH (reads_list_at (N _ ha).1 rfl rfl hv.reads) (reads_list_at (N _ hb).1 rfl rfl hu'.reads) (shaped_ints is) (shaped_ints is) hu ?_
  simpa [PyData.eqv, eqv_ints] using h
/-- what an object holds is what it was given -/
theorem ne_content {ks : Str} {c : Value} {is : List Int} {m : Str → Option Value} (X : (KP w.params).In G) (F : Fr G L s.heap m) (N : News G L s.heap l) (H : Held w l ks c is) (hu : A.units + 64 < cLine)
    (h : Q (.bool false) s) : wpAny (model pw w) A (compareOp .NotEq c c) Q E s := by
  obtain ⟨hp, g, d, t, os⟩ := s
  have hu1 : A.units + 1 < cLine := by omega
  cases H with
  | var n u => exact ne_int (by simpa using h)
  | row a vs kk _ h1 h2 h3 => exact ne_ints N h1 h1 h3 h3 hu h
  | chan ch dc b sn rc t1 t2 t3 t4 t5 tr r bs ss us k1 k2 _ h1 => exact compareOp_ne_same PySem.F.cmp_object (cmp_chan (X.keeps F.keep) (N _ h1).1) hu1 h
  | map x dx may de t1 t2 t3 tc n oE xs ps h1 => exact compareOp_ne_same PySem.F.cmp_object (cmp_tab (X.keeps F.keep) (N _ h1).1) hu1 h
  | iter x dx may de y dy dt t1 t2 t3 tc u1 u2 u3 u4 uc n nn oE oT xs ps h1 h2 h3 h4 h5 h6 h7 h8 => exact compareOp_ne_same PySem.F.cmp_object (cmp_walk (X.keeps F.keep) (N _ h8).1) hu1 h
end
theorem news_cons {G h : Heap} {L : Addr} {l : List (Addr × Obj)} {p : Addr × Obj} (N : News G L h l) (hp : p ∈ l) : News G L h (p :: l) := fun q hq => (List.mem_cons.mp hq).elim (fun e => e ▸ N p hp) (N q)
theorem Held.handed {w : World} {l : List (Addr × Obj)} {ks : Str} {c : Value} {is : List Int} (H : Held w l ks c is) : handedIn c = true := by
  cases H <;> rfl
theorem Held.strOk {w : World} {l : List (Addr × Obj)} {ks : Str} {c : Value} {is : List Int} (H : Held w l ks c is) : PyData.strOk ks = true := by
  cases H <;> decide +kernel
local macro_rules | `(tactic| walk_at "compareOp NotEq str str") => `(tactic| (with_reducible refine halt ?_))
noncomputable abbrev hEnv (L' : Addr) : Env := envOfC (Str.ofString "_law_objects_right") T43.1.2.2 L' 576 (.ref 575)
set_option maxHeartbeats 1000000 in
/-- kind, content and values of the object -/
theorem objs5 {w : World} {mean : ExcName → Option Value} {mg mb : Str → Option Value} {G : Heap} {A : Around} {h : Heap} {g : Array GenState} {dr : Drawn} {tk : Nat} {os : OsState} {L L' x dx kp kx kd dl : Addr} {cH cN oK oL : Obj} {mq : Str → Option Value} {R : List (Addr × Obj)} {t1 t2 t3 t4 t5 tg th tn z1 z2 z3 tk0 tk1 : Tok} {gv : Int} {ps : List (Int × Value)} {ks : Str} {c wh gn : Value} {is : List Int} {ds : List Value} {kk : Nat} {Q : Flow → Shared → Prop} {E : Value → Shared → Prop}
    {s0 s1 s2 s3 s4 st : Stmt} {rst : List Stmt} (hst : T43.1.2.1 = s0 :: s1 :: s2 :: s3 :: s4 :: st :: rst)
    (hA : Rm A 60) (X : (KP w.params).In G) (T : Top topProg lsT mean mg mb G)
    (F : Fr G L' h (fun y => if y = Str.ofString "due" then some (.ref dl) else if y = Str.ofString "content" then some c else if y = Str.ofString "kind" then some (.str ks tk1) else if y = Str.ofString "gone" then some gn else mq y))
    (N : News G L' h ((571, tabObj #[]) :: (kp, oK) :: (R ++ [(L, oL)]))) (mH : (L' + 1, cH) ∈ R) (mN : (L' + 1 + 1, cN) ∈ R) (dH : cH.data = .cell (some (.ref x))) (dN : cN.data = .cell (some (.int 2 tn)))
    (hx : (x, instObj 283 dx) ∈ R) (hdx : (dx, heapD w t1 t2 t3 t4 t5 tg th kp gv) ∈ R) (hK : oK.IsDictOf (intKind pw w) ps) (hn : valueAt ps 2 = some (.ref kx)) (hsm : (kp == sysModules) = false) (hkx : (kx, instObj 145 kd) ∈ R) (hkd : (kd, keptD w z1 z2 z3 (.str ks tk0) c wh) ∈ R)
    (H : Held w R ks c is) (hdl : (dl, PySem.W.listOf ds.toArray kk) ∈ R) (hds : IntVs ds is)
    (ret : ∀ h' tk', Fr G L' h' (fun y => if y = Str.ofString "due" then some (.ref dl) else if y = Str.ofString "content" then some c else if y = Str.ofString "kind" then some (.str ks tk1) else if y = Str.ofString "gone" then some gn else mq y) → News G L' h' ((571, tabObj #[]) :: (kp, oK) :: (R ++ [(L, oL)])) → Q .next ⟨h', g, dr, tk', os⟩) :
    wpAny (model pw w) (A.deeper (hEnv L')) (exec st (hEnv L')) Q E ⟨h, g, dr, tk, os⟩ := by
  have hh : A.handled = none := hA.hh
  have hu : (A.deeper (hEnv L')).units + 64 < cLine := ar_un (n := 67) hA.un (by decide)
  have mR : ∀ p ∈ R, p ∈ (571, tabObj #[]) :: (kp, oK) :: (R ++ [(L, oL)]) := fun p hp => .tail _ (.tail _ (List.mem_append_left _ hp))
  have N0 := news_cons (news_cons (news_cons (news_cons N (mR _ hx)) (.tail _ (mR _ hdx))) (.tail _ (.tail _ (mR _ mN)))) (.tail _ (.tail _ (.tail _ (mR _ mH))))
  clear N
  have mm : ∀ p ∈ R, p ∈ (L' + 1, cH) :: (L' + 1 + 1, cN) :: (dx, heapD w t1 t2 t3 t4 t5 tg th kp gv) :: (x, instObj 283 dx) :: (571, tabObj #[]) :: (kp, oK) :: (R ++ [(L, oL)]) := fun p hp => .tail _ (.tail _ (.tail _ (.tail _ (mR p hp))))
  simp only [List.cons.injEq] at hst
  obtain ⟨-, -, -, -, -, rfl, -⟩ := hst
  try dsimp only
  repeat' (first | walk1 | (dsimp only; walk1) | walk_at "THEN")
  rename News _ L' _ _ => N9
  rename Fr _ L' _ _ => F9
  refine Halt.mk (kind_get (hA.deeper.le (by decide)) X T F9 N9 (mm _ hx) (mm _ hdx) (.tail _ (.tail _ (.tail _ (.tail _ (.tail _ (.head _)))))) hK hn hsm (mm _ hkx) (mm _ hkd) rfl fun h2 tk2 F2 N2 => ?_)
  repeat' (first | walk1 | (dsimp only; walk1) | walk_at "THEN")
  refine Halt.mk (ne_str ?_)
  rw [show (ks != ks) = false from by simp]
  clear N9 F9
  repeat' (first | walk1 | (dsimp only; walk1) | walk_at "THEN")
  rename News _ L' _ _ => N9
  rename Fr _ L' _ _ => F9
  refine Halt.mk (content_get (hA.deeper.le (by decide)) X T F9 N9 (mm _ hx) (mm _ hdx) (.tail _ (.tail _ (.tail _ (.tail _ (.tail _ (.head _)))))) hK hn hsm (mm _ hkx) (mm _ hkd) H.handed fun h3 tk3 F3 N3 => ?_)
  clear N9 F9
  repeat' (first | walk1 | (dsimp only; walk1) | walk_at "THEN")
  rename News _ L' _ _ => N9
  rename Fr _ L' _ _ => F9
  refine ne_content X F9 N9 (H.mono mm) hu ?_
  repeat' (first | walk1 | (dsimp only; walk1) | walk_at "THEN")
  rename News _ L' _ _ => N9
  rename Fr _ L' _ _ => F9
  refine Halt.mk (values_get (hA.deeper.le (by decide)) X T F9 N9 (mm _ hx) (mm _ hdx) (.tail _ (.tail _ (.tail _ (.tail _ (.tail _ (.head _)))))) hK hn hsm (mm _ hkx) (mm _ hkd) H.handed (H.mono mm) fun D k vs h4 tk4 hv F4 N4 => ?_)
  clear N9 F9
  repeat' (first | walk1 | (dsimp only; walk1) | walk_at "THEN")
  rename News _ L' _ _ => N9
  rename Fr _ L' _ _ => F9
  refine Halt.mk (ne_ints N9 (.head _) (.tail _ (mm _ hdl)) hv hds hu ?_)
  repeat' (first | walk1 | (dsimp only; walk1) | walk_at "THEN")
  rename News _ L' _ _ => N9
  rename Fr _ L' _ _ => F9
  exact ret _ _ F9 (news_mem N9 fun p hp => .tail _ (.tail _ (.tail _ (.tail _ (.tail _ hp)))))
end
section
open PySem PySem.W PySem.Calls PyProof.Rows PySem.Spec
set_option maxHeartbeats 1000000 in
/-- where the object stands; what was never made raises -/
theorem objs6 {w : World} {mean : ExcName → Option Value} {mg mb : Str → Option Value} {G : Heap} {A : Around} {h : Heap} {g : Array GenState} {dr : Drawn} {tk : Nat} {os : OsState} {L L' x dx kp kx kd : Addr} {cH cN oK oL : Obj} {mq : Str → Option Value} {R : List (Addr × Obj)} {t1 t2 t3 t4 t5 tg th tn z1 z2 z3 tw : Tok} {gv : Int} {ps : List (Int × Value)} {k c : Value} {fs : List Env} {Q : Flow → Shared → Prop} {E : Value → Shared → Prop}
    {s0 s1 s2 s3 s4 s5 st : Stmt} {rst : List Stmt} (hst : T43.1.2.1 = s0 :: s1 :: s2 :: s3 :: s4 :: s5 :: st :: rst)
    (hA : Rm A 60) (X : (KP w.params).In G) (T : Top topProg lsT mean mg mb G) (hC : CodeHd G 575 571) (hfr : A.frames = some fs) (hfs : ∀ env ∈ fs, env.scope.kind ≠ .module ∧ env.frame = some L) (oLd : ∀ vs, oL.data ≠ .fields vs)
    (F : Fr G L' h mq) (N : News G L' h ((571, tabObj #[]) :: (kp, oK) :: (R ++ [(L, oL)]))) (rR : ∀ p ∈ R, p.1 ≠ 571 ∧ p.1 ≠ L) (kp5 : kp ≠ 571) (kpL : kp ≠ L) (L5 : L ≠ 571)
    (mH : (L' + 1, cH) ∈ R) (mN : (L' + 1 + 1, cN) ∈ R) (dH : cH.data = .cell (some (.ref x))) (dN : cN.data = .cell (some (.int 2 tn)))
    (hx : (x, instObj 283 dx) ∈ R) (hdx : (dx, heapD w t1 t2 t3 t4 t5 tg th kp gv) ∈ R) (hK : oK.IsDictOf (intKind pw w) ps) (hn : valueAt ps 2 = some (.ref kx)) (hn3 : valueAt ps 3 = none) (hsm : (kp == sysModules) = false) (hkx : (kx, instObj 145 kd) ∈ R) (hkd : (kd, keptD w z1 z2 z3 k c (.str (Str.ofString "frame") tw)) ∈ R)
    (ret : ∀ h' tk' ps1 oL1, (TriplesOk ps1.toList ∧ ∀ pos : Pos, pos.line = 364 → codeAmong pos ps1.toList = none) → (∃ sl, oL1 = { oL with slots := sl }) → Fr G L' h' mq → News G L' h' ((571, tabObj ps1) :: (kp, oK) :: (R ++ [(L, oL1)])) → Q .next ⟨h', g, dr, tk', os⟩) :
    wpAny (model pw w) (A.deeper (hEnv L')) (exec st (hEnv L')) Q E ⟨h, g, dr, tk, os⟩ := by
  have hh : A.handled = none := hA.hh
  have hu : (A.deeper (hEnv L')).units + 64 < cLine := ar_un (n := 67) hA.un (by decide)
  have mR : ∀ p ∈ R, p ∈ (571, tabObj #[]) :: (kp, oK) :: (R ++ [(L, oL)]) := fun p hp => .tail _ (.tail _ (List.mem_append_left _ hp))
  have N0 := news_cons (news_cons (news_cons (news_cons (news_cons (news_cons N (mR _ hx)) (.tail _ (mR _ hdx))) (.tail _ (.tail _ (mR _ mN)))) (.tail _ (.tail _ (.tail _ (mR _ mH))))) (.tail _ (.tail _ (.tail _ (.tail _ (mR _ hkx)))))) (.tail _ (.tail _ (.tail _ (.tail _ (.tail _ (mR _ hkd))))))
  clear N
  simp only [List.cons.injEq] at hst
  obtain ⟨-, -, -, -, -, -, rfl, -⟩ := hst
  try dsimp only
  repeat' (first | walk1 | (dsimp only; walk1) | walk_at "THEN")
  rename News _ L' _ _ => N9
  rename Fr _ L' _ _ => F9
  refine Halt.mk (at_ok (hA.deeper.le (by decide)) X T F9 N9 (.tail _ (.tail _ (.tail _ (.tail _ (.tail _ (.tail _ (mR _ hx))))))) (.tail _ (.tail _ (.tail _ (.tail _ (.tail _ (.tail _ (mR _ hdx))))))) (.tail _ (.tail _ (.tail _ (.tail _ (.tail _ (.tail _ (.tail _ (.head _)))))))) hK hn hsm fun h2 tk2 F2 N2 => ?_)
  clear N9 F9
  repeat' (first | walk1 | (dsimp only; walk1) | walk_at "THEN")
  have N10 : News G L' h2 ((571, tabObj #[]) :: (((kp, oK) :: R) ++ [(L, oL)])) := news_mem N2 fun p hp => .tail _ (.tail _ (.tail _ (.tail _ (.tail _ (.tail _ hp)))))
  refine Halt.mk (kla_eval rfl ?_)
  refine kla_nest (ps := #[]) (news := (571, tabObj #[]) :: (((kp, oK) :: R) ++ [(L, oL)])) F2 N10 T hC rfl (.head fun p hp => ?_) trivial rfl rfl fun f c2 oc vs tq ctv h15 tk15 F15 N15 hoc hov l15 lf15 => ?_
  · rcases List.mem_append.mp hp with hp | hp
    · refine mem_case hp ?_ fun p hp => ?_
      · exact kp5
      · exact (rR p hp).1
    · rw [List.mem_singleton.mp hp]; exact L5
  clear N2 N10 F2
  dsimp only at N15
  repeat' (first | walk1 | (dsimp only; walk1) | walk_at "THEN")
  have Lc15 : L < c2 := l15 (L, oL) (by first | walk_at "MEM" | simp)
  refine Halt.mk (kind_step (n := 30) (env0 := hEnv L') (fs := fs) (L0 := L) (o0 := oL) (dl := (f, _) :: (c2, oc) :: (571, _) :: (kp, oK) :: R) (hA.deeper.le (by decide)) X T F15 N15 (by show (A.frames.map _) = _; rw [hfr]; rfl) rfl (show ScopeKind.function ≠ .module by decide) hfs oLd (fun p hp => ?_)
    (OK := fun _ _ => False) (Bad := True) (kd := Str.ofString "escaped") (fun B => ?_) ⟨_, _, _, _, .head _⟩ (fun D a b new sl2 h16 tk16 hab F16 N16 => ?_))
  · refine mem_case hp ?_ fun p hp => ?_
    · exact Nat.ne_of_gt (Nat.lt_trans Lc15 lf15)
    refine mem_case hp ?_ fun p hp => ?_
    · exact Nat.ne_of_gt Lc15
    refine mem_case hp ?_ fun p hp => ?_
    · exact fun q => L5 q.symm
    refine mem_case hp ?_ fun p hp => ?_
    · exact kpL
    · exact (rR p hp).2
  · intro A2 L2 m2 h2 l2 fs2 u2 Q2 E2 hA2 F2 N2 sub2 hfr2 S2 ok2 bad2
    refine wpAny_call (callGL (s := ⟨h2, g, dr, u2, os⟩) T F2 N2 (Nat.lt_of_le_of_lt (Nat.le_add_right _ _) hA2.dp) (sub2 _ (.head _)) (sub2 _ (.tail _ (.head _))) hoc hov rfl (fun y hy => nomatch hy) rfl rfl rfl (by decide) fun L3 h3 oL3 hL3 eL3 F3 k3 => ?_)
    have N3' := news_in F2 N2 hL3 eL3 k3
    have mm : ∀ p ∈ R, p ∈ l2 := fun p hp => sub2 p (.tail _ (.tail _ (.tail _ (.tail _ (List.mem_append_left _ hp)))))
    have mk : (kp, oK) ∈ l2 := sub2 _ (.tail _ (.tail _ (.tail _ (.head _))))
    have m3 : ∀ p ∈ l2, p ∈ l2 ++ [(L2, oL3)] := fun p hp => List.mem_append_left _ hp
    have N3 := news_cons (news_cons (news_cons (news_cons N3' (m3 _ (mm _ hx))) (.tail _ (m3 _ (mm _ hdx)))) (.tail _ (.tail _ (m3 _ (mm _ mN))))) (.tail _ (.tail _ (.tail _ (m3 _ (mm _ mH)))))
    clear N3' N15
    have hh2 : A2.handled = none := hA2.hh
    try dsimp only
    repeat' (first | walk1 | (dsimp only; walk1) | walk_at "THEN")
    rename News _ L3 _ _ => N9
    rename Fr _ L3 _ _ => F9
    have m4 : ∀ p ∈ l2, p ∈ (L' + 1, cH) :: (L' + 1 + 1, cN) :: (dx, heapD w t1 t2 t3 t4 t5 tg th kp gv) :: (x, instObj 283 dx) :: (l2 ++ [(L2, oL3)]) := fun p hp => .tail _ (.tail _ (.tail _ (.tail _ (m3 p hp))))
    refine Halt.mk (at_miss (B := B) (hA2.deeper.le (by decide)) X T F9 N9 (by show (A2.frames.map _) = _; rw [hfr2]; rfl) ((S2.deeper F2 N2 hL3 eL3 rfl (show ScopeKind.function ≠ .module by decide)).more fun p hp => .tail _ (.tail _ (.tail _ (.tail _ hp)))) (m4 _ (mm _ hx)) (m4 _ (mm _ hdx)) (m4 _ mk) hK hn3 hsm fun e k1 kk2 h6 tk6 er => ?_)
    exact err_leave (l := l2) (by show (A2.frames.map _) = _; rw [hfr2]; rfl) rfl er F2 hL3 m4 (by first | walk_at "MEM" | simp) fun h7 er7 => bad2 e k1 _ h7 tk6 trivial er7
  · rcases hab with ⟨_, r⟩ | ⟨_, ⟨k1, rfl⟩, rfl, rfl⟩
    · exact r.elim
    clear N15
    rw [List.nil_append] at N16
    repeat' (first | walk1 | (dsimp only; walk1) | walk_at "THEN")
    rename News _ L' _ _ => N17
    rename Fr _ L' _ _ => F17
    have e : PyData.eqv (.tuple [.str (Str.ofString "escaped"), .none]) (.tuple [.str (Str.ofString "escaped"), .none]) = true := by simp [PyData.eqv, PyData.eqvAll]
    refine Halt.mk (ne_dataH (da := .tuple [.str (Str.ofString "escaped"), .none]) (db := .tuple [.str (Str.ofString "escaped"), .none]) (reads_tuple_at (N17 _ (.tail _ (.head _))).1 rfl rfl (.cons (.str _ _) (.cons .none .nil))) (reads_tuple_at (N17 _ (.head _)).1 rfl rfl (.cons (.str _ _) (.cons .none .nil))) (by decide +kernel) (by decide +kernel) hu ?_)
    rw [e]
    repeat' (first | walk1 | (dsimp only; walk1) | walk_at "THEN")
    rename News _ L' _ _ => N18
    rename Fr _ L' _ _ => F18
    refine ret _ _ _ _ ⟨?_, ?_⟩ ⟨sl2, rfl⟩ F18 (news_mem N18 fun p hp => .tail _ (.tail _ (.tail _ (.tail _ hp))))
    · simp [TriplesOk, rawInt]
    · exact fun pos hp => by simp [codeAmong, rawInt, hp]
end
section
open PySem PySem.W PySem.Calls PyProof.Rows PySem.Spec
theorem gone_at (u v : Value) : ∀ b : Nat, b ≤ 2 → valueAt ((List.take b [1, 2]).foldl stp [((1 : Int), u), (2, v)]) 2 = if b = 2 then none else some v
  | 0, _ => by rfl
  | 1, _ => by rfl
  | 2, _ => by rfl
  | b + 3, h => by omega
theorem kind_shaped {ks : Str} (h : PyData.strOk ks = true) : PySem.SeqAt.shaped (.tuple [.none, .str ks]) = true := by
  unfold PySem.SeqAt.shaped
  simp [PyData.canLay0, PyData.canLayAll0, PyData.depth, PyData.depthAll, h]
theorem IntVs.take : ∀ {vs : List Value} {is : List Int} (b : Nat), IntVs vs is → IntVs (vs.take b) (is.take b)
  | _, _, 0, _ => trivial
  | [], [], b + 1, _ => trivial
  | _ :: _, _ :: _, b + 1, ⟨a, h⟩ => ⟨a, IntVs.take b h⟩
  | [], _ :: _, b + 1, h => h.elim
  | _ :: _, [], b + 1, h => h.elim
local macro_rules | `(tactic| walk_at "subscriptTail") => `(tactic| ((with_reducible show wpAny _ _ (subscriptTail _ _ (Value.ref _) (Value.ref _)) _ _ _); with_reducible refine halt ?_))
set_option maxHeartbeats 1000000 in
/-- what was given up raises -/
theorem objs7 {w : World} {mean : ExcName → Option Value} {mg mb : Str → Option Value} {G : Heap} {A : Around} {h : Heap} {g : Array GenState} {dr : Drawn} {tk : Nat} {os : OsState} {L L' x dx kp kx kx1 kd : Addr} {cH cN oK oL : Obj} {mq : Str → Option Value} {R : List (Addr × Obj)} {t1 t2 t3 t4 t5 tg th tn z1 z2 z3 tk0 tk1 tgo : Tok} {gv : Int} {b : Nat} {ks : Str} {c wh dv : Value} {ps1 : Array Value} {fs : List Env} {Q : Flow → Shared → Prop} {E : Value → Shared → Prop}
    {s0 s1 s2 s3 s4 s5 s6 : Stmt} {rst : List Stmt} (hst : T43.1.2.1 = s0 :: s1 :: s2 :: s3 :: s4 :: s5 :: s6 :: rst)
    (hA : Rm A 60) (X : (KP w.params).In G) (T : Top topProg lsT mean mg mb G) (hC : CodeHd G 575 571) (hfr : A.frames = some fs) (hfs : ∀ env ∈ fs, env.scope.kind ≠ .module ∧ env.frame = some L) (oLd : ∀ vs, oL.data ≠ .fields vs) (hb : b ≤ 2) (hks : PyData.strOk ks = true)
    (F : Fr G L' h (fun y => if y = Str.ofString "due" then some dv else if y = Str.ofString "content" then some c else if y = Str.ofString "kind" then some (.str ks tk1) else if y = Str.ofString "gone" then some (.int b tgo) else mq y))
    (N : News G L' h ((571, tabObj ps1) :: (kp, oK) :: (R ++ [(L, oL)]))) (hps1 : TriplesOk ps1.toList ∧ ∀ pos : Pos, pos.line = 364 → codeAmong pos ps1.toList = none) (rR : ∀ p ∈ R, p.1 ≠ 571 ∧ p.1 ≠ L ∧ p.1 ≠ kp) (kp5 : kp ≠ 571) (kpL : kp ≠ L) (L5 : L ≠ 571)
    (mH : (L' + 1, cH) ∈ R) (mN : (L' + 1 + 1, cN) ∈ R) (dH : cH.data = .cell (some (.ref x))) (dN : cN.data = .cell (some (.int 2 tn)))
    (hx : (x, instObj 283 dx) ∈ R) (hdx : (dx, heapD w t1 t2 t3 t4 t5 tg th kp gv) ∈ R) (hK : oK.IsDictOf (intKind pw w) [(1, .ref kx1), (2, .ref kx)]) (hsm : (kp == sysModules) = false) (hkx : (kx, instObj 145 kd) ∈ R) (hkd : (kd, keptD w z1 z2 z3 (.str ks tk0) c wh) ∈ R)
    (ret : ∀ h' tk' ps2 oL2 m', (∃ sl, oL2 = { oL with slots := sl }) → Fr G L' h' m' → News G L' h' ((571, tabObj ps2) :: (R ++ [(L, oL2)])) → Q (.ret (.bool true)) ⟨h', g, dr, tk', os⟩) :
    wpAny (model pw w) (A.deeper (hEnv L')) (execs rst (hEnv L')) Q E ⟨h, g, dr, tk, os⟩ := by
  have hh : A.handled = none := hA.hh
  have hu : (A.deeper (hEnv L')).units + 64 < cLine := ar_un (n := 67) hA.un (by decide)
  have mR : ∀ p ∈ R, p ∈ (571, tabObj ps1) :: (kp, oK) :: (R ++ [(L, oL)]) := fun p hp => .tail _ (.tail _ (List.mem_append_left _ hp))
  have N0 := news_cons (news_cons (news_cons (news_cons N (mR _ hx)) (.tail _ (mR _ hdx))) (.tail _ (.tail _ (mR _ mN)))) (.tail _ (.tail _ (.tail _ (mR _ mH))))
  clear N
  simp only [List.cons.injEq] at hst
  obtain ⟨-, -, -, -, -, -, -, rfl⟩ := hst
  try dsimp only
  repeat' (first | walk1 | (dsimp only; walk1) | walk_at "THEN")
  rename News _ L' _ _ => N9
  rename Fr _ L' _ _ => F9
  refine Halt.mk (tmp_lst (k := (b : Int)) (b := b) (vs := [_, _]) rfl F9 N9 (.head _) hb (by show 2 ≤ 1000; decide) (fun D h2 F2 N2 l2 => ?_))
  clear N9 F9
  repeat' (first | walk1 | (dsimp only; walk1) | walk_at "THEN")
  rename News _ L' _ _ => N9
  rename Fr _ L' _ _ => F9
  obtain ⟨R2, hR2⟩ : ∃ R2, R2 = (D, PySem.W.listOf (List.take b [Value.int 1 tk, Value.int 2 tn]).toArray 0) :: (571, tabObj ps1) :: (R ++ [(L, oL)]) := ⟨_, rfl⟩
  have N10 : News G L' _ ((kp, oK) :: R2) := news_mem N9 fun p hp => by
    rw [hR2] at hp
    first | (refine sub_at ?_ hp; walk_at "SUB") | (simp only [List.mem_cons] at hp ⊢; (rcases hp with h | h | h | h <;> simp only [h, true_or, or_true]))
  have offK : ∀ p ∈ R2, p.1 ≠ kp := fun p hp => by
    rw [hR2] at hp
    refine mem_case hp ?_ fun p hp => ?_
    · exact Nat.ne_of_gt (l2 (kp, oK) (by first | walk_at "MEM" | simp))
    refine mem_case hp ?_ fun p hp => ?_
    · exact fun q => kp5 q.symm
    rcases List.mem_append.mp hp with hp | hp
    · exact (rR p hp).2.2
    · rw [List.mem_singleton.mp hp]; exact fun q => kpL q.symm
  have m2 : ∀ p ∈ R, p ∈ R2 := fun p hp => by rw [hR2]; first | walk_at "MEM" | simp [hp]
  refine Halt.mk (free_ok (t := D) (vs := List.take b [Value.int 1 tk, Value.int 2 tn]) (is := List.take b [1, 2]) (n := 0) (hA.deeper.le (by decide)) X T F9 N10 offK (m2 _ hx) (m2 _ hdx) (by rw [hR2]; exact .head _) (IntVs.take b ⟨⟨_, rfl⟩, ⟨_, rfl⟩, trivial⟩) hK (by show 2 ≤ 5; decide) hsm fun oK' h3 tk3 hK' F3 N3 => ?_)
  clear N9 N10 F9
  try clear N2
  have N4 : News G L' h3 ((571, tabObj ps1) :: (((kp, oK') :: R) ++ [(L, oL)])) := news_mem N3 fun p hp => by
    rw [hR2]
    first | (refine sub_at ?_ hp; walk_at "SUB") | (simp only [List.cons_append, List.mem_cons, List.mem_append] at hp ⊢; grind)
  clear N3
  repeat' (first | walk1 | (dsimp only; walk1) | walk_at "THEN")
  have hgone := gone_at (.ref kx1) (.ref kx) b hb
  refine Halt.mk (kla_eval rfl ?_)
  refine kla_nest (ps := ps1) (news := (571, tabObj ps1) :: (((kp, oK') :: R) ++ [(L, oL)])) F3 N4 T hC rfl (.head fun p hp => ?_) hps1.1 (hps1.2 _ rfl) rfl fun f c2 oc vs tq ctv h15 tk15 F15 N15 hoc hov l15 lf15 => ?_
  · rcases List.mem_append.mp hp with hp | hp
    · refine mem_case hp ?_ fun p hp => ?_
      · exact kp5
      · exact (rR p hp).1
    · rw [List.mem_singleton.mp hp]; exact L5
  clear N4 F3
  dsimp only at N15
  repeat' (first | walk1 | (dsimp only; walk1) | walk_at "THEN")
  have Lc15 : L < c2 := l15 (L, oL) (by first | walk_at "MEM" | simp)
  refine Halt.mk (kind_step (n := 30) (env0 := hEnv L') (fs := fs) (L0 := L) (o0 := oL) (dl := (f, _) :: (c2, oc) :: (571, _) :: (kp, oK') :: R) (hA.deeper.le (by decide)) X T F15 N15 (by show (A.frames.map _) = _; rw [hfr]; rfl) rfl (show ScopeKind.function ≠ .module by decide) hfs oLd (fun p hp => ?_)
    (OK := fun new v => b ≠ 2 ∧ new = [] ∧ v = .str ks tk0) (Bad := b = 2) (kd := Str.ofString "escaped") (fun B => ?_) ⟨_, _, _, _, .head _⟩ (fun D2 a2 b2 new sl2 h16 tk16 hab F16 N16 => ?_))
  · refine mem_case hp ?_ fun p hp => ?_
    · exact Nat.ne_of_gt (Nat.lt_trans Lc15 lf15)
    refine mem_case hp ?_ fun p hp => ?_
    · exact Nat.ne_of_gt Lc15
    refine mem_case hp ?_ fun p hp => ?_
    · exact fun q => L5 q.symm
    refine mem_case hp ?_ fun p hp => ?_
    · exact kpL
    · exact (rR p hp).2.1
  · intro A2 L2 m2 h2 l2 fs2 u2 Q2 E2 hA2 F2 N2 sub2 hfr2 S2 ok2 bad2
    refine wpAny_call (callGL (s := ⟨h2, g, dr, u2, os⟩) T F2 N2 (Nat.lt_of_le_of_lt (Nat.le_add_right _ _) hA2.dp) (sub2 _ (.head _)) (sub2 _ (.tail _ (.head _))) hoc hov rfl (fun y hy => nomatch hy) rfl rfl rfl (by decide) fun L3 h3 oL3 hL3 eL3 F3 k3 => ?_)
    have N3' := news_in F2 N2 hL3 eL3 k3
    have mm : ∀ p ∈ R, p ∈ l2 := fun p hp => sub2 p (.tail _ (.tail _ (.tail _ (.tail _ (List.mem_append_left _ hp)))))
    have mk : (kp, oK') ∈ l2 := sub2 _ (.tail _ (.tail _ (.tail _ (.head _))))
    have m3 : ∀ p ∈ l2, p ∈ l2 ++ [(L2, oL3)] := fun p hp => List.mem_append_left _ hp
    have N3 := news_cons (news_cons (news_cons (news_cons N3' (m3 _ (mm _ hx))) (.tail _ (m3 _ (mm _ hdx)))) (.tail _ (.tail _ (m3 _ (mm _ mN))))) (.tail _ (.tail _ (.tail _ (m3 _ (mm _ mH)))))
    clear N3' N15
    have hh2 : A2.handled = none := hA2.hh
    try dsimp only
    repeat' (first | walk1 | (dsimp only; walk1) | walk_at "THEN")
    rename News _ L3 _ _ => N9
    rename Fr _ L3 _ _ => F9
    have m4 : ∀ p ∈ l2, p ∈ (L' + 1, cH) :: (L' + 1 + 1, cN) :: (dx, heapD w t1 t2 t3 t4 t5 tg th kp gv) :: (x, instObj 283 dx) :: (l2 ++ [(L2, oL3)]) := fun p hp => .tail _ (.tail _ (.tail _ (.tail _ (m3 p hp))))
    by_cases hb2 : b = 2
    · rw [if_pos hb2] at hgone
      refine Halt.mk (kind_miss (B := B) (hA2.deeper.le (by decide)) X T F9 N9 (by show (A2.frames.map _) = _; rw [hfr2]; rfl) ((S2.deeper F2 N2 hL3 eL3 rfl (show ScopeKind.function ≠ .module by decide)).more fun p hp => .tail _ (.tail _ (.tail _ (.tail _ hp)))) (m4 _ (mm _ hx)) (m4 _ (mm _ hdx)) (m4 _ mk) hK' hgone hsm fun e k1 kk2 h6 tk6 er => ?_)
      exact err_leave (l := l2) (by show (A2.frames.map _) = _; rw [hfr2]; rfl) rfl er F2 hL3 m4 (by first | walk_at "MEM" | simp) fun h7 er7 => bad2 e k1 _ h7 tk6 hb2 er7
    · rw [if_neg hb2] at hgone
      refine Halt.mk (kind_get (hA2.deeper.le (by decide)) X T F9 N9 (m4 _ (mm _ hx)) (m4 _ (mm _ hdx)) (m4 _ mk) hK' hgone hsm (m4 _ (mm _ hkx)) (m4 _ (mm _ hkd)) rfl fun h6 tk6 F6 N6 => ?_)
      clear N9 F9
      repeat' (first | walk1 | (dsimp only; walk1) | walk_at "THEN")
      rename News _ L3 _ _ => N9
      rename Fr _ L3 _ _ => F9
      have o := out_any F2 N2 hL3 F9 N9 (by first | walk_at "MEM" | simp) m4
      exact ok2 (.str ks tk0) [] _ _ ⟨hb2, rfl, rfl⟩ (fun p hp => nomatch hp) o.1 o.2
  · clear N15
    have hfin : ∀ (ps2 : Array Value) (l5 : List (Addr × Obj)) (h9 : Heap) (tk9 : Tok) (m9 : Str → Option Value), Fr G L' h9 m9 → News G L' h9 l5 → (∀ p ∈ (571, tabObj ps2) :: (R ++ [(L, { oL with slots := sl2 })]), p ∈ l5) → Q (.ret (.bool true)) ⟨h9, g, dr, tk9, os⟩ := fun ps2 l5 h9 tk9 m9 F9 N9 hm => ret h9 tk9 ps2 _ m9 ⟨sl2, rfl⟩ F9 (news_mem N9 hm)
    rcases hab with ⟨rfl, hb2, rfl, rfl⟩ | ⟨rfl, ⟨k1, rfl⟩, rfl, rfl⟩
    · have e : PyData.eqv (.tuple [.none, .str ks]) (.tuple [.none, .str ks]) = true := by simp [PyData.eqv, PyData.eqvAll]
      rw [List.nil_append] at N16
      rcases (show b = 0 ∨ b = 1 by omega) with rfl | rfl
      all_goals
        repeat' (first | walk1 | (dsimp only; walk1) | walk_at "THEN")
        rename News _ L' _ _ => N17
        rename Fr _ L' _ _ => F17
        refine Halt.mk (eq_dataH (da := .tuple [.none, .str ks]) (db := .tuple [.none, .str ks]) (reads_tuple_at (N17 _ (.tail _ (.head _))).1 rfl rfl (.cons .none (.cons (.str _ _) .nil))) (reads_tuple_at (N17 _ (.head _)).1 rfl rfl (.cons .none (.cons (.str _ _) .nil))) (kind_shaped hks) (kind_shaped hks) hu ?_)
        rw [e]
        repeat' (first | walk1 | (dsimp only; walk1) | walk_at "THEN")
        rename News _ L' _ _ => N18
        rename Fr _ L' _ _ => F18
        exact hfin _ _ _ _ _ F18 N18 fun p hp => (List.mem_cons.mp hp).elim (fun e => e ▸ .tail _ (.tail _ (.tail _ (.tail _ (.head _))))) fun hp => .tail _ (.tail _ (.tail _ (.tail _ (.tail _ (.tail _ hp)))))
    · have e : PyData.eqv (.tuple [.str (Str.ofString "escaped"), .none]) (.tuple [.str (Str.ofString "escaped"), .none]) = true := by simp [PyData.eqv, PyData.eqvAll]
      rw [List.nil_append] at N16
      repeat' (first | walk1 | (dsimp only; walk1) | walk_at "THEN")
      rename News _ L' _ _ => N17
      rename Fr _ L' _ _ => F17
      refine Halt.mk (eq_dataH (da := .tuple [.str (Str.ofString "escaped"), .none]) (db := .tuple [.str (Str.ofString "escaped"), .none]) (reads_tuple_at (N17 _ (.tail _ (.head _))).1 rfl rfl (.cons (.str _ _) (.cons .none .nil))) (reads_tuple_at (N17 _ (.head _)).1 rfl rfl (.cons (.str _ _) (.cons .none .nil))) (by decide +kernel) (by decide +kernel) hu ?_)
      rw [e]
      repeat' (first | walk1 | (dsimp only; walk1) | walk_at "THEN")
      rename News _ L' _ _ => N18
      rename Fr _ L' _ _ => F18
      exact hfin _ _ _ _ _ F18 N18 fun p hp => (List.mem_cons.mp hp).elim (fun e => e ▸ .tail _ (.tail _ (.tail _ (.tail _ (.head _))))) fun hp => .tail _ (.tail _ (.tail _ (.tail _ (.tail _ (.tail _ hp)))))
end
section
open PySem PySem.W PySem.Calls PyProof.Rows PySem.Spec
local macro_rules | `(tactic| walk_at "storeName") => `(tactic| (with_reducible refine halt ?_))
section
open PySem PySem.W PySem.Calls PyProof.Rows PySem.Spec
theorem lst_init (x : Value) (vs : List Value) : (slicePick (vs ++ [x]).toArray none (some (-1)) none).toList = vs := by
  have e : sliceBounds none (some (-1)) none (vs ++ [x]).toArray.size = (((0 : Nat) : Int), ((vs.length : Nat) : Int), 1) := by
    simp only [sliceBounds, Option.getD_none, show (1 : Int) > 0 by decide, if_true, show ((-1 : Int) < 0) by decide, List.size_toArray, List.length_append, List.length_singleton]
    refine Prod.ext (by first | walk_at "MEM" | simp) (Prod.ext ?_ rfl)
    show max 0 (min (-1 + ((vs.length + 1 : Nat) : Int)) ((vs.length + 1 : Nat) : Int)) = (vs.length : Int)
    rw [show (-1 : Int) + ((vs.length + 1 : Nat) : Int) = (vs.length : Int) by rw [Int.natCast_succ, Int.add_comm, Int.add_neg_cancel_right], Int.min_eq_left (Int.ofNat_le.mpr (Nat.le_succ _)), Int.max_eq_right (Int.natCast_nonneg _)]
  rw [kmk_pick_nat _ e]
  simp
theorem IntVs.last : ∀ {vs : List Value} {is : List Int}, IntVs vs is → is ≠ [] → ∃ vs' j t is', vs = vs' ++ [.int j t] ∧ is = is' ++ [j] ∧ IntVs vs' is'
  | [], [], _, h => absurd rfl h
  | [v], [i], ⟨⟨t, e⟩, _⟩, _ => ⟨[], i, t, [], by rw [e]; rfl, rfl, trivial⟩
  | v :: v2 :: vs, i :: i2 :: is, ⟨a, b⟩, _ => by
    obtain ⟨vs', j, t, is', e1, e2, h⟩ := IntVs.last (vs := v2 :: vs) (is := i2 :: is) b (by first | walk_at "MEM" | simp)
    exact ⟨v :: vs', j, t, i :: is', by rw [e1]; rfl, by rw [e2]; rfl, a, h⟩
  | [], _ :: _, h, _ => h.elim
  | _ :: _, [], h, _ => h.elim
  | [_], _ :: _ :: _, h, _ => h.2.elim
  | _ :: _ :: _, [_], h, _ => h.2.elim
local macro_rules | `(tactic| walk_at "subscriptTail") => `(tactic| ((with_reducible show wpAny _ _ (subscriptTail _ _ (Value.ref _) (Value.ref _)) _ _ _); refine' kmk_slice_lit ?F ?N ?a .none (.int _ _) (lst_init _ _) ?_ ?hs ?ht ?z; (case F => assumption); (case N => assumption); (case a => exact News.isList (by assumption) (by k_mem)); (case hs => with_unfolding_all rfl); (case ht => (intro _; with_unfolding_all rfl)); (case z => (simp only [List.size_toArray, List.length_append, List.length_singleton, sizeLine_eq]; omega)); intro D' h' F' N' l1))
theorem StopAt.stop {n : Nat} {p : Prop} (_ : StopAt n) (h : Halt p) : p := halt h
local macro_rules | `(tactic| walk_at "eval IfExp") => `(tactic| (with_reducible refine StopAt.stop (n := 1) (by assumption) ?_))
local macro_rules | `(tactic| walk_at "exec If") => `(tactic| (with_reducible refine StopAt.stop (n := 2) (by assumption) ?_))
set_option maxHeartbeats 1000000 in
theorem stmt5_ok {w : World} {mean : ExcName → Option Value} {mg mb : Str → Option Value} {G : Heap} {A : Around} {h : Heap} {g : Array GenState} {dr : Drawn} {tk : Nat} {os : OsState} {L L' sh t : Addr} {oL oL1 cs' cv' : Obj} {mq : Str → Option Value} {rest lv1 : List (Addr × Obj)} {ps1 : Array Value} {sl : Array (Option Value)} {sa sb v due : Value} {d : PV} {svs : List Value} {is : List Int} {nt : Nat} {fs : List Env} {Q : Flow → Shared → Prop} {E : Value → Shared → Prop}
    {c' : Addr} {s0 s1 s2 s3 s4 st : Stmt} {rst : List Stmt} (hst : T41.1.2.1 = s0 :: s1 :: s2 :: s3 :: s4 :: st :: rst)
    (hA : Rm A 40) (X : (KP w.params).In G) (T : Top topProg lsT mean mg mb G) (hC : CodeHd G 563 559) (hfr : A.frames = some fs) (hfs : ∀ env ∈ fs, env.scope.kind ≠ .module ∧ env.frame = some L) (oLd : ∀ vs, oL.data ≠ .fields vs)
    (F : Fr G L' h (fun y => if y = Str.ofString "shown" then some (.ref sh) else if y = Str.ofString "due" then some due else mq y)) (N : News G L' h ((559, tabObj ps1) :: (sh, tupO [sa, sb] 0) :: (rest ++ [(L, oL1)])))
    (hps1 : ps1 = #[] ++ #[rawInt 321, rawInt 17, .ref c']) (hoL1 : oL1 = { oL with slots := sl })
    (r559 : ∀ p ∈ rest, p.1 ≠ 559 ∧ p.1 ≠ L) (L559 : L ≠ 559) (sh5 : sh ≠ 559) (shL : sh ≠ L) (mcs : (L' + 1 + 1, cs') ∈ rest) (mt : (t, PySem.W.listOf svs.toArray nt) ∈ rest) (mcv : (L' + 1 + 1 + 1, cv') ∈ rest) (lvr : ∀ p ∈ lv1, p ∈ rest)
    (ds' : cs'.data = .cell (some (.ref t))) (dv' : cv'.data = .cell (some v)) (hi : IntVs svs is) (hil : is.length ≤ 100) (V : VIn lv1 v d) (dp1 : Dp 3 d) (hsh : ShownIs lv1 (d.path is) sa sb) (hpre : ∃ d1, d.path is.dropLast = some d1)
    (ret : ∀ h' tk' ps2 oL2, (TriplesOk ps2.toList ∧ ∀ pos : Pos, pos.line = 326 → codeAmong pos ps2.toList = none) → (∃ sl, oL2 = { oL with slots := sl }) → Fr G L' h' (fun y => if y = Str.ofString "shown" then some (.ref sh) else if y = Str.ofString "due" then some due else mq y) →
      News G L' h' ((559, tabObj ps2) :: (sh, tupO [sa, sb] 0) :: (rest ++ [(L, oL2)])) → Q .next ⟨h', g, dr, tk', os⟩) :
    wpAny (model pw w) (A.deeper (envOfC (Str.ofString "_law_parts_right") T41.1.2.2 L' 564 (.ref 563))) (exec st (envOfC (Str.ofString "_law_parts_right") T41.1.2.2 L' 564 (.ref 563))) Q E ⟨h, g, dr, tk, os⟩ := by
  have hh : A.handled = none := hA.hh
  have hu : A.units + 3 + 64 < cLine := ar_un (n := 67) hA.un (by decide)
  have hdp20 : ∀ c, d.path is = some c → Dp 20 c := fun c q => (dp1.path q).mono (by decide)
  have N0 : News G L' h ((L' + 1 + 1, cs') :: (t, PySem.W.listOf svs.toArray nt) :: (559, tabObj ps1) :: (sh, tupO [sa, sb] 0) :: (rest ++ [(L, oL1)])) := fun p hp => by
    refine mem_case hp ?_ fun p hp => ?_
    · exact N _ (by first | walk_at "MEM" | simp [mcs])
    · refine mem_case hp ?_ fun p hp => ?_
      · exact N _ (by first | walk_at "MEM" | simp [mt])
      · exact N p hp
  clear N
  simp only [List.cons.injEq] at hst
  obtain ⟨-, -, -, -, -, rfl, -⟩ := hst
  try dsimp only
  repeat' (first | walk1 | (dsimp only; walk1) | walk_at "THEN")
  refine Halt.mk (ne_nil (is := is) (vs := svs) (nb := nt) (n := 0) (by assumption) (.tail _ (.tail _ (.head _))) (.head _) hi hu ?_)
  by_cases his : is = []
  · have e : (!is.isEmpty) = false := by rw [his]; rfl
    rw [e]
    repeat' (first | walk1 | (dsimp only; walk1) | walk_at "THEN")
    exact ret _ _ ps1 oL1 ⟨by rw [hps1]; first | walk_at "MEM" | simp [TriplesOk, rawInt], fun pos hp => by rw [hps1]; first | walk_at "MEM" | simp [codeAmong, rawInt, hp]⟩ ⟨sl, hoL1⟩ (by assumption) (news_mem (by assumption) fun p hp => .tail _ (.tail _ (.tail _ hp)))
  · obtain ⟨sv1, j, tj, is1, rfl, rfl, hi1⟩ := hi.last his
    have e : (!(is1 ++ [j]).isEmpty) = true := by cases is1 <;> rfl
    rw [e]
    repeat' (first | walk1 | (dsimp only; walk1) | walk_at "THEN")
    refine Halt.mk (kla_eval rfl ?_)
    refine kla_nest (ps := ps1) (news := (559, tabObj ps1) :: (sh, tupO [sa, sb] 0) :: (rest ++ [(L, oL1)])) (by assumption) (news_mem (by assumption) fun p hp => .tail _ (.tail _ (.tail _ hp))) T hC rfl (.head fun p hp => ?_) (by rw [hps1]; first | walk_at "MEM" | simp [TriplesOk, rawInt]) (by rw [hps1]; first | walk_at "MEM" | simp [codeAmong, rawInt]) rfl fun f c2 oc vs tq ctv h15 tk15 F15 N15 hoc hov l15 lf15 => ?_
    · refine mem_case hp ?_ fun p hp => ?_
      · exact sh5
      · rcases List.mem_append.mp hp with hp | hp
        · exact (r559 p hp).1
        · rw [List.mem_singleton.mp hp]; exact L559
    dsimp only at N15
    repeat' (first | walk1 | (dsimp only; walk1) | walk_at "THEN")
    have Lc15 : L < c2 := l15 (L, oL1) (by first | walk_at "MEM" | simp)
    have oL1d : ∀ vs, oL1.data ≠ .fields vs := by rw [hoL1]; exact oLd
    refine Halt.mk (kind_step (n := 30) (env0 := envOfC (Str.ofString "_law_parts_right") T41.1.2.2 L' 564 (.ref 563)) (fs := fs) (L0 := L) (o0 := oL1) (dl := (f, _) :: (c2, oc) :: (559, _) :: (sh, _) :: rest) (hA.deeper.le (by decide)) X T F15 N15 (by show (A.frames.map _) = _; rw [hfr]; rfl) rfl (show ScopeKind.function ≠ .module by decide) hfs oL1d (fun p hp => ?_)
      (OK := fun new b => new = [] ∧ ∃ c, d.path (is1 ++ [j]) = some c ∧ VIn lv1 b c) (Bad := d.path (is1 ++ [j]) = none) (kd := Str.ofString "place") (fun B => ?_) ⟨_, _, _, _, .head _⟩ (fun D a b new sl2 h16 tk16 hab F16 N16 => ?_))
    · refine mem_case hp ?_ fun p hp => ?_
      · exact Nat.ne_of_gt (Nat.lt_trans Lc15 lf15)
      · refine mem_case hp ?_ fun p hp => ?_
        · exact Nat.ne_of_gt Lc15
        · refine mem_case hp ?_ fun p hp => ?_
          · exact fun q => L559 q.symm
          · refine mem_case hp ?_ fun p hp => ?_
            · exact shL
            · exact (r559 p hp).2
    · intro A2 L2 m2 h2 l2 fs2 t2 Q2 E2 hA2 F2 N2 sub2 hfr2 S2 ok2 bad2
      refine wpAny_call (callGL (s := ⟨h2, g, dr, t2, os⟩) T F2 N2 (Nat.lt_of_le_of_lt (Nat.le_add_right _ _) hA2.dp) (sub2 _ (.head _)) (sub2 _ (.tail _ (.head _))) hoc hov rfl (fun y hy => nomatch hy) rfl rfl rfl (by decide) fun L3 h3 oL3 hL3 eL3 F3 k3 => ?_)
      have N3' := news_in F2 N2 hL3 eL3 k3
      have mm : ∀ p ∈ rest, p ∈ l2 := fun p hp => sub2 p (.tail _ (.tail _ (.tail _ (.tail _ (List.mem_append_left _ hp)))))
      have N3 : News G L3 h3 ((L' + 1 + 1, cs') :: (t, PySem.W.listOf (sv1 ++ [Value.int j tj]).toArray nt) :: (L' + 1 + 1 + 1, cv') :: (l2 ++ [(L2, oL3)])) := fun p hp => by
        refine mem_case hp ?_ fun p hp => ?_
        · exact N3' _ (List.mem_append_left _ (mm _ mcs))
        · refine mem_case hp ?_ fun p hp => ?_
          · exact N3' _ (List.mem_append_left _ (mm _ mt))
          · refine mem_case hp ?_ fun p hp => ?_
            · exact N3' _ (List.mem_append_left _ (mm _ mcv))
            · exact N3' p hp
      clear N3'
      have hh2 : A2.handled = none := hA2.hh
      have hsz : sv1.length ≤ 100 := by have := hi1.len; rw [List.length_append] at hil; omega
      clear N15
      try dsimp only
      repeat' (first | walk1 | (dsimp only; walk1) | walk_at "THEN")
      obtain ⟨d1, hd1⟩ := hpre
      rw [List.dropLast_concat] at hd1
      have hpj : d.path (is1 ++ [j]) = d1.child j := by rw [PV.path_snoc, hd1]; rfl
      have epick : slicePick (sv1 ++ [Value.int j tj]).toArray none (some (-1)) none = sv1.toArray := Array.toList_inj.mp (by rw [lst_init])
      rename News _ _ _ _ => N4
      rw [epick] at N4
      refine Halt.mk (led_ok (lv := lv1) (svs := sv1) (is := is1) (n := 0) (hA2.deeper.le (by decide)) X T (by assumption) N4 V (fun p hp => .tail _ (.tail _ (.tail _ (.tail _ (List.mem_append_left _ (mm p (lvr p hp))))))) (.head _) hi1 fun cv1 h5 tk5 hled1 F5 N5 => ?_)
      rw [hd1] at hled1
      have V1 : VIn lv1 cv1 d1 := hled1
      repeat' (first | walk1 | (dsimp only; walk1) | walk_at "THEN")
      refine item_last (xs := sv1.toArray) (x := Value.int j tj) (by have := News.isList N5 (.tail _ (.tail _ (.head _))); simpa using this) rfl ?_
      repeat' (first | walk1 | (dsimp only; walk1) | walk_at "THEN")
      refine Halt.mk (inner_ok (lv := lv1) (hA2.deeper.le (by decide)) X T (by assumption) N5 (by show (A2.frames.map _) = _; rw [hfr2]; rfl) ((S2.deeper F2 N2 hL3 eL3 rfl (show ScopeKind.function ≠ .module by decide)).more (fun p hp => .tail _ (.tail _ (.tail _ (.tail _ hp))))) V1 (fun p hp => .tail _ (.tail _ (.tail _ (.tail _ (List.mem_append_left _ (mm p (lvr p hp))))))) ?_ ?_)
      · intro cc ccv h6 tk6 hcc Vcc F6 N6
        clear N5
        repeat' (first | walk1 | (dsimp only; walk1) | walk_at "THEN")
        have o := out_any F2 N2 hL3 (by assumption) N6 (by first | walk_at "MEM" | simp) (fun p hp => by first | walk_at "MEM" | simp [hp])
        exact ok2 ccv [] _ _ ⟨rfl, cc, hpj.trans hcc, Vcc⟩ (fun p hp => nomatch hp) o.1 o.2
      · intro hnone e k1 kk2 h6 tk6 er
        exact err_leave (l := l2) (by show (A2.frames.map _) = _; rw [hfr2]; rfl) rfl er F2 hL3 (fun p hp => by first | walk_at "MEM" | simp [hp]) (by first | walk_at "MEM" | simp) fun h7 er7 => bad2 e k1 _ h7 tk6 (hpj.trans hnone) er7
    · obtain ⟨hS, rfl⟩ : ShownIs lv1 (d.path (is1 ++ [j])) a b ∧ new = [] := by
        rcases hab with ⟨rfl, rfl, cc, hcc, Vcc⟩ | ⟨hn, ⟨k1, rfl⟩, rfl, rfl⟩
        · rw [hcc]; exact ⟨⟨rfl, Vcc⟩, rfl⟩
        · rw [hn]; exact ⟨⟨⟨k1, rfl⟩, rfl⟩, rfl⟩
      obtain ⟨oL2, hoL2⟩ : ∃ o, o = { oL1 with slots := sl2 } := ⟨_, rfl⟩
      rw [← hoL2] at N16
      obtain ⟨ps2, hps2⟩ : ∃ ps, ps = ps1 ++ #[rawInt 323, rawInt 33, .ref c2] := ⟨_, rfl⟩
      have N17 : News G L' h16 ((D, tupO [a, b] 0) :: (559, tabObj ps2) :: (sh, tupO [sa, sb] 0) :: (rest ++ [(L, oL2)])) := by
        rw [hps2]
        refine news_mem N16 fun p hp => ?_
        first | (refine sub_at ?_ hp; walk_at "SUB") | (simp only [List.nil_append, List.mem_cons, List.mem_append] at hp ⊢; grind)
      clear N16 N15
      repeat' (first | walk1 | (dsimp only; walk1) | walk_at "THEN")
      refine Halt.mk (shown_ne N17 (.head _) (n' := 0) (a' := sa) (b' := sb) (.tail _ (.tail _ (.head _))) hS hsh (fun p hp => by first | walk_at "MEM" | simp [lvr p hp]) (fun p hp => by first | walk_at "MEM" | simp [lvr p hp]) hdp20 hu ?_)
      repeat' (first | walk1 | (dsimp only; walk1) | walk_at "THEN")
      exact ret _ _ ps2 oL2 ⟨by rw [hps2, hps1]; simp [TriplesOk, rawInt], fun pos hp => by rw [hps2, hps1]; simp [codeAmong, rawInt, hp]⟩ ⟨sl2, by rw [hoL2, hoL1]⟩ (by assumption) (news_mem (by assumption) fun p hp => .tail _ hp)
end
section
open PySem PySem.W PySem.Calls PyProof.Rows PySem.Spec
local macro_rules | `(tactic| walk_at "subscriptTail") => `(tactic| ((with_reducible show wpAny _ _ (subscriptTail _ _ (Value.ref _) (Value.ref _)) _ _ _); refine' kmk_slice_lit ?F ?N ?a .none (.int _ _) (lst_init _ _) ?_ ?hs ?ht ?z; (case F => assumption); (case N => assumption); (case a => exact News.isList (by assumption) (by k_mem)); (case hs => with_unfolding_all rfl); (case ht => (intro _; with_unfolding_all rfl)); (case z => (simp only [List.size_toArray, List.length_append, List.length_singleton, sizeLine_eq]; omega)); intro D' h' F' N' l1))
local macro_rules | `(tactic| walk_at "eval IfExp") => `(tactic| (with_reducible refine StopAt.stop (n := 1) (by assumption) ?_))
local macro_rules | `(tactic| walk_at "exec If") => `(tactic| (with_reducible refine StopAt.stop (n := 2) (by assumption) ?_))
local macro_rules | `(tactic| walk_at "exec Return") => `(tactic| (with_reducible refine StopAt.stop (n := 3) (by assumption) ?_))
theorem triples_snoc {a b : Nat} {c : Value} (l : List Value) (h : TriplesOk l) : TriplesOk (l ++ [rawInt a, rawInt b, c]) := by
  fun_induction TriplesOk l with
  | case1 => exact trivial
  | case2 i t j u x r ih => exact ih h
  | case3 => exact h.elim
inductive IvMade (G : Heap) (L' : Addr) (g : Array GenState) (dr : Drawn) (os : OsState) (sh : Addr) (due : Value) (mq : Str → Option Value) (r : Option PV) (lv lx : List (Addr × Obj)) (v : Value) (s' : Shared) : Prop
  | mk (D : Addr) (a b : Value) (l2 new : List (Addr × Obj)) (h' : Heap) (tk' : Nat) (ev : v = .ref D) (es : s' = ⟨h', g, dr, tk', os⟩) (F : Fr G L' h' (fun y => if y = Str.ofString "shown" then some (.ref sh) else if y = Str.ofString "due" then some due else mq y)) (N : News G L' h' ((D, tupO [a, b] 0) :: l2)) (hn : ∀ p ∈ new, ∃ vs n, p.2 = tupO vs n) (hs : ShownIs (new ++ lv) r a b) (hl : ∀ p ∈ new ++ lx, p ∈ l2)
set_option maxHeartbeats 1000000 in
theorem stmt6_ok {w : World} {mean : ExcName → Option Value} {mg mb : Str → Option Value} {G : Heap} {A : Around} {h : Heap} {g : Array GenState} {dr : Drawn} {tk : Nat} {os : OsState} {L L' sh t : Addr} {oL oL1 cs' cv' cp' : Obj} {mq : Str → Option Value} {rest lv : List (Addr × Obj)} {ps1 : Array Value} {sa sb v due pv : Value} {d pd : PV} {svs : List Value} {is : List Int} {nt : Nat} {fs : List Env} {Q : Flow → Shared → Prop} {E : Value → Shared → Prop}
    {s0 s1 s2 s3 s4 s5 : Stmt} {rst : List Stmt} (hst : T41.1.2.1 = s0 :: s1 :: s2 :: s3 :: s4 :: s5 :: rst)
    (hA : Rm A 120) (X : (KP w.params).In G) (T : Top topProg lsT mean mg mb G) (hC : CodeHd G 563 559) (hfr : A.frames = some fs) (hfs : ∀ env ∈ fs, env.scope.kind ≠ .module ∧ env.frame = some L) (oLd : ∀ vs, oL.data ≠ .fields vs)
    (F : Fr G L' h (fun y => if y = Str.ofString "shown" then some (.ref sh) else if y = Str.ofString "due" then some due else mq y)) (N : News G L' h ((559, tabObj ps1) :: (sh, tupO [sa, sb] 0) :: (rest ++ [(L, oL1)])))
    (hps1 : TriplesOk ps1.toList ∧ ∀ pos : Pos, pos.line = 326 → codeAmong pos ps1.toList = none) (hoL1 : ∃ sl, oL1 = { oL with slots := sl }) (hseq : ∀ us un, oL1.data ≠ .seq us un)
    (r559 : ∀ p ∈ rest, p.1 ≠ 559 ∧ p.1 ≠ L) (L559 : L ≠ 559) (sh5 : sh ≠ 559) (shL : sh ≠ L) (mcs : (L' + 1 + 1, cs') ∈ rest) (mt : (t, PySem.W.listOf svs.toArray nt) ∈ rest) (mcv : (L' + 1 + 1 + 1, cv') ∈ rest) (mcp : (L' + 1, cp') ∈ rest) (lvr : ∀ p ∈ lv, p ∈ rest)
    (ds' : cs'.data = .cell (some (.ref t))) (dv' : cv'.data = .cell (some v)) (dp' : cp'.data = .cell (some pv)) (hi : IntVs svs is) (hil : is.length ≤ 100) (V : VIn lv v d) (W : VIn lv pv pd) (dp1 : Dp 3 d) (dp2 : Dp 1 pd) (hdue : Led lv (d.path is) due)
    (ret : ∀ h' tk' ps2 oL2 m', (∃ sl, oL2 = { oL with slots := sl }) → Fr G L' h' m' →
      TriplesOk ps2.toList → News G L' h' ((559, tabObj ps2) :: (rest ++ [(L, oL2)])) → Q (.ret (.bool true)) ⟨h', g, dr, tk', os⟩) :
    wpAny (model pw w) (A.deeper (envOfC (Str.ofString "_law_parts_right") T41.1.2.2 L' 564 (.ref 563))) (execs rst (envOfC (Str.ofString "_law_parts_right") T41.1.2.2 L' 564 (.ref 563))) Q E ⟨h, g, dr, tk, os⟩ := by
  have hh : A.handled = none := hA.hh
  have hu : A.units + 3 + 64 < cLine := ar_un (n := 67) hA.un (by decide)
  have N0 : News G L' h ((L' + 1 + 1, cs') :: (L' + 1 + 1 + 1, cv') :: (L' + 1, cp') :: (559, tabObj ps1) :: (sh, tupO [sa, sb] 0) :: (rest ++ [(L, oL1)])) := fun p hp => by
    refine mem_case hp ?_ fun p hp => ?_
    · exact N _ (by first | walk_at "MEM" | simp [mcs])
    · refine mem_case hp ?_ fun p hp => ?_
      · exact N _ (by first | walk_at "MEM" | simp [mcv])
      · refine mem_case hp ?_ fun p hp => ?_
        · exact N _ (by first | walk_at "MEM" | simp [mcp])
        · exact N p hp
  clear N
  simp only [List.cons.injEq] at hst
  obtain ⟨-, -, -, -, -, -, rfl⟩ := hst
  try dsimp only
  have st1 : StopAt 1 := .mk
  repeat' (first | walk1 | (dsimp only; walk1) | walk_at "THEN")
  clear st1
  refine Halt.mk (wpAny_mono (Q := fun v s' => Halt (IvMade G L' g dr os sh due mq (PV.put pd is d) lv ((559, tabObj ps1) :: (rest ++ [(L, oL1)])) v s')) ?_ (fun v s' hs => ?_) fun _ _ e => e)
  · cases q : d.path is with
    | none =>
      rw [q] at hdue
      obtain rfl : due = .none := hdue
      have q2 : PV.put pd is d = none := by
        have := put_some (pd := pd) (is := is) (d := d)
        rw [q] at this
        simpa using this
      repeat' (first | walk1 | (dsimp only; walk1) | walk_at "THEN")
      refine Halt.mk ⟨_, _, _, _, [], _, _, rfl, rfl, by assumption, by assumption, (fun p hp => nomatch hp), ?_, fun p hp => ?_⟩
      · rw [q2]; exact ⟨⟨_, rfl⟩, rfl⟩
      · first | (refine sub_at ?_ hp; walk_at "SUB") | (simp only [List.nil_append, List.mem_cons, List.mem_append] at hp ⊢; grind)
    | some c =>
      obtain ⟨rd, q2⟩ : ∃ rd, PV.put pd is d = some rd := Option.isSome_iff_exists.mp (by rw [put_some, q]; rfl)
      rw [q] at hdue
      cases (show VIn lv due c from hdue) with
      | int z tz =>
        repeat' (first | walk1 | (dsimp only; walk1) | walk_at "THEN")
        refine Halt.mk (lw_ok X T W is (hA.deeper.le (by omega)) (by assumption) N0 V (fun p hp => by first | walk_at "MEM" | simp [lvr p hp]) (n := nt) (by first | walk_at "MEM" | simp [mt]) hi hil q2 fun rv new h5 tk5 Vr hnt F5 N5 => ?_)
        repeat' (first | walk1 | (dsimp only; walk1) | walk_at "THEN")
        refine Halt.mk ⟨_, _, _, _, new, _, _, rfl, rfl, by assumption, by assumption, hnt, ?_, fun p hp => ?_⟩
        · rw [q2]; exact ⟨rfl, Vr⟩
        · first | (refine sub_at ?_ hp; walk_at "SUB") | (simp only [List.mem_cons, List.mem_append] at hp ⊢; grind)
      | node ha hb hs hz =>
        repeat' (first | walk1 | (dsimp only; walk1) | walk_at "THEN")
        refine Halt.mk (lw_ok X T W is (hA.deeper.le (by omega)) (by assumption) N0 V (fun p hp => by first | walk_at "MEM" | simp [lvr p hp]) (n := nt) (by first | walk_at "MEM" | simp [mt]) hi hil q2 fun rv new h5 tk5 Vr hnt F5 N5 => ?_)
        repeat' (first | walk1 | (dsimp only; walk1) | walk_at "THEN")
        refine Halt.mk ⟨_, _, _, _, new, _, _, rfl, rfl, by assumption, by assumption, hnt, ?_, fun p hp => ?_⟩
        · rw [q2]; exact ⟨rfl, Vr⟩
        · first | (refine sub_at ?_ hp; walk_at "SUB") | (simp only [List.mem_cons, List.mem_append] at hp ⊢; grind)
  obtain ⟨D, a, b, l2, new, h12, tk12, rfl, rfl, F12, N12l, hnt, hmade, hl2⟩ := halt hs
  have N12 : News G L' h12 ((D, tupO [a, b] 0) :: (new ++ ((559, tabObj ps1) :: (rest ++ [(L, oL1)])))) := news_mem N12l fun p hp => (List.mem_cons.mp hp).elim (fun e => e ▸ .head _) fun hp => .tail _ (hl2 p hp)
  clear N12l
  have mk5 : D ≠ 559 := news_ne N12 (p := (D, tupO [a, b] 0)) (q := (559, tabObj ps1)) (.head _) (by first | walk_at "MEM" | simp) (by intro q; exact absurd (congrArg Obj.cls q) (by first | walk_at "MEM" | simp))
  have mL1 : (L, oL1) ∈ (D, tupO [a, b] 0) :: (new ++ ((559, tabObj ps1) :: (rest ++ [(L, oL1)]))) := by simp
  have oL1d : ∀ vs, oL1.data ≠ .fields vs := by obtain ⟨sl, e⟩ := hoL1; rw [e]; exact oLd
  have oLseq : ∀ us un, oL1.data ≠ .seq us un := hseq
  have tupL : ∀ p ∈ (D, tupO [a, b] 0) :: (new ++ ((559, tabObj ps1) :: (rest ++ [(L, oL1)]))), (∃ vs n, p.2 = tupO vs n) → p.1 ≠ L := fun p hp ⟨us, un, e⟩ => news_ne N12 hp mL1 fun q => by rw [e] at q; exact oLseq _ _ (congrArg Obj.data q).symm
  have tup5 : ∀ p ∈ (D, tupO [a, b] 0) :: (new ++ ((559, tabObj ps1) :: (rest ++ [(L, oL1)]))), (∃ vs n, p.2 = tupO vs n) → p.1 ≠ 559 := fun p hp ⟨us, un, e⟩ => news_ne N12 (q := (559, tabObj ps1)) hp (by first | walk_at "MEM" | simp) fun q => by rw [e] at q; exact absurd (congrArg Obj.cls q) (by first | walk_at "MEM" | simp)
  repeat' (first | walk1 | (dsimp only; walk1) | walk_at "THEN")
  refine Halt.mk (storeX_L F12 N12 fun h13 F13 N13 => ?_)
  have N13' : News G L' h13 ((559, tabObj ps1) :: ((D, tupO [a, b] 0) :: (new ++ rest) ++ [(L, oL1)])) := news_mem N13 fun p hp => by
    first | (refine sub_at ?_ hp; walk_at "SUB") | (simp only [List.cons_append, List.mem_cons, List.mem_append] at hp ⊢; grind)
  try clear N13
  try clear N12
  try clear F12
  have N0' : News G L' h13 ((L' + 1 + 1, cs') :: (L' + 1 + 1 + 1, cv') :: (L' + 1, cp') :: (559, tabObj ps1) :: ((D, tupO [a, b] 0) :: (new ++ rest) ++ [(L, oL1)])) := fun p hp => by
    refine mem_case hp ?_ fun p hp => ?_
    · exact N13' _ (by first | walk_at "MEM" | simp [mcs])
    · refine mem_case hp ?_ fun p hp => ?_
      · exact N13' _ (by first | walk_at "MEM" | simp [mcv])
      · refine mem_case hp ?_ fun p hp => ?_
        · exact N13' _ (by first | walk_at "MEM" | simp [mcp])
        · exact N13' p hp
  clear N13'
  repeat' (first | walk1 | (dsimp only; walk1) | walk_at "THEN")
  refine Halt.mk (kla_eval rfl ?_)
  refine kla_nest (ps := ps1) (news := (559, tabObj ps1) :: ((D, tupO [a, b] 0) :: (new ++ rest) ++ [(L, oL1)])) (by assumption) (news_mem (by assumption) fun p hp => .tail _ (.tail _ (.tail _ hp))) T hC rfl (.head fun p hp => ?_) hps1.1 (hps1.2 _ rfl) rfl fun f c2 oc vs tq ctv h15 tk15 F15 N15 hoc hov l15 lf15 => ?_
  · simp only [List.cons_append, List.mem_cons, List.mem_append, List.not_mem_nil, or_false] at hp
    rcases hp with rfl | (hp | hp) | rfl
    · exact mk5
    · exact tup5 p (by first | walk_at "MEM" | simp [hp]) (hnt p hp)
    · exact (r559 p hp).1
    · exact L559
  dsimp only at N15
  repeat' (first | walk1 | (dsimp only; walk1) | walk_at "THEN")
  have Lc15 : L < c2 := l15 (L, oL1) (by first | walk_at "MEM" | simp)
  refine Halt.mk (kind_step (n := 30) (env0 := envOfC (Str.ofString "_law_parts_right") T41.1.2.2 L' 564 (.ref 563)) (fs := fs) (L0 := L) (o0 := oL1) (dl := (f, _) :: (c2, oc) :: (559, _) :: (D, tupO [a, b] 0) :: (new ++ rest)) (hA.deeper.le (by decide)) X T F15 N15 (by show (A.frames.map _) = _; rw [hfr]; rfl) rfl (show ScopeKind.function ≠ .module by decide) hfs oL1d (fun p hp => ?_)
    (OK := fun new2 b2 => ∃ rd, PV.put pd is d = some rd ∧ VIn (new2 ++ lv) b2 rd) (Bad := d.path is = none) (kd := Str.ofString "place") (fun B => ?_) ⟨_, _, _, _, .head _⟩ (fun D2 a2 b2 new2 sl2 h16 tk16 hab F16 N16 => ?_))
  · refine mem_case hp ?_ fun p hp => ?_
    · exact Nat.ne_of_gt (Nat.lt_trans Lc15 lf15)
    · refine mem_case hp ?_ fun p hp => ?_
      · exact Nat.ne_of_gt Lc15
      · refine mem_case hp ?_ fun p hp => ?_
        · exact fun q => L559 q.symm
        · refine mem_case hp ?_ fun p hp => ?_
          · exact tupL _ (.head _) ⟨_, _, rfl⟩
          · rcases List.mem_append.mp hp with hp | hp
            · exact tupL p (by first | walk_at "MEM" | simp [hp]) (hnt p hp)
            · exact (r559 p hp).2
  · intro A2 L2 m2 h2 l2 fs2 t2 Q2 E2 hA2 F2 N2 sub2 hfr2 S2 ok2 bad2
    refine wpAny_call (callGL (s := ⟨h2, g, dr, t2, os⟩) T F2 N2 (Nat.lt_of_le_of_lt (Nat.le_add_right _ _) hA2.dp) (sub2 _ (.head _)) (sub2 _ (.tail _ (.head _))) hoc hov rfl (fun y hy => nomatch hy) rfl rfl rfl (by decide) fun L3 h3 oL3 hL3 eL3 F3 k3 => ?_)
    have N3' := news_in F2 N2 hL3 eL3 k3
    have mm : ∀ p ∈ rest, p ∈ l2 := fun p hp => sub2 p (.tail _ (.tail _ (.tail _ (.tail _ (List.mem_append_left _ (List.mem_append_right _ hp))))))
    have N3 : News G L3 h3 ((L' + 1 + 1, cs') :: (t, PySem.W.listOf svs.toArray nt) :: (L' + 1 + 1 + 1, cv') :: (L' + 1, cp') :: (l2 ++ [(L2, oL3)])) := fun p hp => by
      refine mem_case hp ?_ fun p hp => ?_
      · exact N3' _ (List.mem_append_left _ (mm _ mcs))
      · refine mem_case hp ?_ fun p hp => ?_
        · exact N3' _ (List.mem_append_left _ (mm _ mt))
        · refine mem_case hp ?_ fun p hp => ?_
          · exact N3' _ (List.mem_append_left _ (mm _ mcv))
          · refine mem_case hp ?_ fun p hp => ?_
            · exact N3' _ (List.mem_append_left _ (mm _ mcp))
            · exact N3' p hp
    clear N3' N15
    have hh2 : A2.handled = none := hA2.hh
    try dsimp only
    repeat' (first | walk1 | (dsimp only; walk1) | walk_at "THEN")
    refine tup_of (vs := svs) (by assumption) N3 (.tail _ (.head _)) (by have := hi.len; omega) fun D4 h4 F4 N4 l4 => ?_
    clear N3
    repeat' (first | walk1 | (dsimp only; walk1) | walk_at "THEN")
    refine Halt.mk (with_ok (lv := lv) (hA2.deeper.le (by decide)) X T (by assumption) N4 (by show (A2.frames.map _) = _; rw [hfr2]; rfl) ((S2.deeper F2 N2 hL3 eL3 rfl (show ScopeKind.function ≠ .module by decide)).more (fun p hp => .tail _ (.tail _ (.tail _ (.tail _ (.tail _ hp)))))) V W
      (fun p hp => .tail _ (.tail _ (.tail _ (.tail _ (.tail _ (List.mem_append_left _ (mm p (lvr p hp)))))))) (.head _) hi hil ?_ ?_)
    · intro rd rv new3 h5 tk5 hput Vr hnt3 F5 N5
      clear N4
      repeat' (first | walk1 | (dsimp only; walk1) | walk_at "THEN")
      have o := out_sub new3 F2 N2 hL3 (by assumption) N5 (by first | walk_at "MEM" | simp) (fun p hp => by first | walk_at "MEM" | simp [hp]) (fun p hp => ⟨List.mem_append_left _ hp, hnt3 p hp⟩)
      exact ok2 rv new3 _ _ ⟨rd, hput, Vr⟩ hnt3 o.1 o.2
    · intro hnone e k1 kk2 h5 tk5 er
      exact err_leave (l := l2) (by show (A2.frames.map _) = _; rw [hfr2]; rfl) rfl er F2 hL3 (fun p hp => by first | walk_at "MEM" | simp [hp]) (by first | walk_at "MEM" | simp) fun h6 er6 => bad2 e k1 _ h6 tk5 hnone er6
  · have hS : ShownIs (new2 ++ lv) (PV.put pd is d) a2 b2 := by
      rcases hab with ⟨rfl, rd, hput, Vr⟩ | ⟨hn, ⟨k1, rfl⟩, rfl, rfl⟩
      · rw [hput]; exact ⟨rfl, Vr⟩
      · have q2 : PV.put pd is d = none := by
          have := put_some (pd := pd) (is := is) (d := d)
          rw [hn] at this
          simpa using this
        rw [q2]; exact ⟨⟨k1, rfl⟩, rfl⟩
    obtain ⟨oL2, hoL2⟩ : ∃ o, o = { oL1 with slots := sl2 } := ⟨_, rfl⟩
    rw [← hoL2] at N16
    obtain ⟨ps2, hps2⟩ : ∃ ps, ps = ps1 ++ #[rawInt 326, rawInt 21, .ref c2] := ⟨_, rfl⟩
    have N17 : News G L' h16 ((D2, tupO [a2, b2] 0) :: (D, tupO [a, b] 0) :: (559, tabObj ps2) :: (new2 ++ (new ++ (rest ++ [(L, oL2)])))) := by
      rw [hps2]
      refine news_mem N16 fun p hp => ?_
      first | (refine sub_at ?_ hp; walk_at "SUB") | (simp only [List.cons_append, List.mem_cons, List.mem_append] at hp ⊢; grind)
    have hdp20 : ∀ c, PV.put pd is d = some c → Dp 20 c := fun c q => (Dp.put dp2 dp1 q).mono (by decide)
    clear N16 N15
    repeat' (first | walk1 | (dsimp only; walk1) | walk_at "THEN")
    refine Halt.mk (shown_eq N17 (.head _) (n' := 0) (a' := a) (b' := b) (.tail _ (.head _)) hS hmade (fun p hp => ?_) (fun p hp => ?_) hdp20 hu ?_)
    · rcases List.mem_append.mp hp with hp | hp
      · simp [hp]
      · simp [lvr p hp]
    · rcases List.mem_append.mp hp with hp | hp
      · simp [hp]
      · simp [lvr p hp]
    repeat' (first | walk1 | (dsimp only; walk1) | walk_at "THEN")
    obtain ⟨sl0, hsl0⟩ := hoL1
    exact ret _ _ ps2 oL2 _ ⟨sl2, by rw [hoL2, hsl0]⟩ (by assumption) (by rw [hps2, Array.toList_append]; exact triples_snoc _ hps1.1) (news_mem N17 fun p hp => by
      first | (refine sub_at ?_ hp; walk_at "SUB") | (simp only [List.mem_cons, List.mem_append] at hp ⊢; grind))
end
section
open PySem PySem.W PySem.Calls PyProof.Rows PySem.Spec
local macro_rules | `(tactic| walk_at "eval IfExp") => `(tactic| (with_reducible refine StopAt.stop (n := 1) (by assumption) ?_))
local macro_rules | `(tactic| walk_at "exec If") => `(tactic| (with_reducible refine StopAt.stop (n := 2) (by assumption) ?_))
inductive IvSh (G : Heap) (L' : Addr) (g : Array GenState) (dr : Drawn) (os : OsState) (lv1 led : List (Addr × Obj)) (r : Option PV) (due : Value) (mq : Str → Option Value) (v : Value) (s' : Shared) : Prop
  | mk (D : Addr) (a b : Value) (h' : Heap) (tk' : Nat) (ev : v = .ref D) (es : s' = ⟨h', g, dr, tk', os⟩) (hs : ShownIs lv1 r a b) (F : Fr G L' h' (fun y => if y = Str.ofString "due" then some due else mq y)) (N : News G L' h' ((D, tupO [a, b] 0) :: led))
set_option maxHeartbeats 2000000 in
theorem parts_ok {w : World} {mean : ExcName → Option Value} {mg mb : Str → Option Value} {G : Heap} {A : Around} {h : Heap} {g : Array GenState} {dr : Drawn} {tk : Nat} {os : OsState} {L src : Addr} {m : Str → Option Value} {l : List (Addr × Obj)} {so : Obj} {M : Int} {fs : List Env} {Q E : Value → Shared → Prop}
    (hA : Rm A 121) (X : (KP w.params).In G) (T : Top topProg lsT mean mg mb G) (F : Fr G L h m) (N : News G L h ((src, so) :: (559, tabObj #[]) :: l)) (hso : SrcO M so) (off : ∀ p ∈ (559, tabObj #[]) :: l, p.1 ≠ src) (hC : CodeHd G 563 559)
    (o559 : ∀ p ∈ l, p.1 ≠ 559) (hfr : A.frames = some fs) (hfs : ∀ env ∈ fs, env.scope.kind ≠ .module ∧ env.frame = some L)
    (ret : ∀ so' ps h' tk', Fr G L h' m → News G L h' ((src, so') :: (559, tabObj ps) :: l) → SrcO M so' → Q (.bool true) ⟨h', g, dr, tk', os⟩) :
    wpAny (model pw w) A (call (.ref 564) [.ref src]) Q E ⟨h, g, dr, tk, os⟩ := by
  refine wpAny_call (callCE (s := ⟨h, g, dr, tk, os⟩) (binds := [(Str.ofString "source", .ref src)]) X T F (Nat.lt_of_le_of_lt (Nat.le_add_right _ _) hA.dp) (by k_is) (by k_is) (BindsTo.of_eq rfl) rfl (by decide +kernel) rfl rfl rfl fun L' h₁ oL tk1 cells E' hL eL F₁ NC hcn Y k₁ => ?_)
  k_cells Y
  rename_i cv cs cp dv ds dp
  have hh : A.handled = none := hA.hh
  have n559 : h.get? 559 = some (tabObj #[]) := (N _ (.tail _ (.head _))).1
  have nsrc : h.get? src = some so := (N _ (.head _)).1
  have c1 : h.get? (L' + 1 + 1 + 1) = none := hcn (L' + 1 + 1 + 1, cv) (.head _)
  have c2 : h.get? (L' + 1 + 1) = none := hcn (L' + 1 + 1, cs) (.tail _ (.head _))
  have c3 : h.get? (L' + 1) = none := hcn (L' + 1, cp) (.tail _ (.tail _ (.head _)))
  obtain ⟨K, hK⟩ : ∃ K, K = (559, tabObj #[]) :: (l ++ [(L, oL)]) := ⟨_, rfl⟩
  have KN : ∀ p ∈ K, h.get? p.1 = some p.2 := fun p hp => by
    rw [hK] at hp
    refine mem_case hp ?_ fun p hp => ?_
    · exact n559
    · rcases List.mem_append.mp hp with hp | hp
      · exact (N p (.tail _ (.tail _ hp))).1
      · rw [List.mem_singleton.mp hp]; exact hL
  have Kc : ∀ p ∈ K, p.1 ≠ L' + 1 + 1 + 1 ∧ p.1 ≠ L' + 1 + 1 ∧ p.1 ≠ L' + 1 := fun p hp => by
    refine ⟨fun q => ?_, fun q => ?_, fun q => ?_⟩
    · have := KN p hp; rw [q, c1] at this; cases this
    · have := KN p hp; rw [q, c2] at this; cases this
    · have := KN p hp; rw [q, c3] at this; cases this
  have Ks : ∀ p ∈ K, p.1 ≠ src := fun p hp => by
    rw [hK] at hp
    refine mem_case hp ?_ fun p hp => ?_
    · exact off _ (.head _)
    · rcases List.mem_append.mp hp with hp | hp
      · exact off p (.tail _ hp)
      · rw [List.mem_singleton.mp hp]; exact fun q => (N (src, so) (.head _)).2.1 q.symm
  have sc : src ≠ L' + 1 + 1 + 1 ∧ src ≠ L' + 1 + 1 ∧ src ≠ L' + 1 := by
    refine ⟨fun q => ?_, fun q => ?_, fun q => ?_⟩
    · rw [q, c1] at nsrc; cases nsrc
    · rw [q, c2] at nsrc; cases nsrc
    · rw [q, c3] at nsrc; cases nsrc
  have N₁ : News G L' h₁ ((src, so) :: (L' + 1 + 1 + 1, cv) :: (L' + 1 + 1, cs) :: (L' + 1, cp) :: K) := fun p hp => by
    have N₀ := news_in F N hL eL k₁
    rw [hK] at hp
    refine mem_case hp ?_ fun p hp => ?_
    · exact N₀ _ (.head _)
    · refine mem_case hp ?_ fun p hp => ?_
      · exact NC _ (.head _)
      · refine mem_case hp ?_ fun p hp => ?_
        · exact NC _ (.tail _ (.head _))
        · refine mem_case hp ?_ fun p hp => ?_
          · exact NC _ (.tail _ (.tail _ (.head _)))
          · exact N₀ p (.tail _ hp)
  have off1 : ∀ p ∈ (L' + 1 + 1 + 1, cv) :: (L' + 1 + 1, cs) :: (L' + 1, cp) :: K, p.1 ≠ src := fun p hp => by
    refine mem_case hp ?_ fun p hp => ?_
    · exact fun q => sc.1 q.symm
    · refine mem_case hp ?_ fun p hp => ?_
      · exact fun q => sc.2.1 q.symm
      · refine mem_case hp ?_ fun p hp => ?_
        · exact fun q => sc.2.2 q.symm
        · exact Ks p hp
  clear NC
  try dsimp only
  repeat' (first | walk1 | (dsimp only; walk1) | walk_at "THEN")
  refine Halt.mk (value_ok X T 3 (by decide) (hA.deeper.le (by decide)) F₁ N₁ hso off1 fun v d lv1 so1 h2 tk2 V dp1 nt1 ns1 F2 N2 hso1 => ?_)
  repeat' (first | walk1 | (dsimp only; walk1) | walk_at "THEN")
  refine Halt.mk (value_ok X T 1 (by decide) (hA.deeper.le (by decide)) F2 N2 hso1 (fun p hp => (List.mem_append.mp hp).elim (fun hp => (ns1 p hp).1) (off1 p)) fun pv pd lv2 so2 h3 tk3 W dp2 nt2 ns2 F3 N3 hso2 => ?_)
  try clear N2
  repeat' (first | walk1 | (dsimp only; walk1) | walk_at "THEN")
  refine Halt.mk ?_
  have tcell : ∀ {lx : List (Addr × Obj)} {c : Addr}, (∀ p ∈ lx, ∃ vs n, p.2 = tupO vs n) → ∀ p ∈ lx, p.1 ≠ c ∨ ∀ v, p.2.data ≠ .cell v := fun hx p hp => .inr fun v q => by obtain ⟨us, un, r⟩ := hx p hp; rw [r] at q; cases q
  have scell : ∀ {so : Obj} {c : Addr}, SrcO M so → (src ≠ c ∨ ∀ v, so.data ≠ .cell v) := fun {so} {c} hs => .inr fun v q => by obtain ⟨a, ta, b, tb, n, rfl, _⟩ := hs; cases q
  refine cell_put (c := L' + 1 + 1 + 1) (o := cv) (v₀ := none) ((src, so2) :: (L' + 1 + 1, cs) :: (L' + 1, cp) :: (lv2 ++ (lv1 ++ K))) (by assumption) (by assumption) rfl (by first | walk_at "MEM" | simp) dv (fun p hp => ?_) fun h5 cv' F5 N5 dv' => ?_
  · refine ⟨by first | (refine sub_at ?_ hp; walk_at "SUB") | (simp only [List.mem_cons, List.mem_append] at hp ⊢; grind), ?_⟩
    refine mem_all hp (all_cons ?_ (all_cons ?_ (all_cons ?_ (all_app (fun p hp => ?_) (all_app (fun p hp => ?_) (fun p hp => ?_))))))
    · exact scell hso2
    · exact .inl (by show (L' + 1 + 1 : Nat) ≠ L' + 1 + 1 + 1; omega)
    · exact .inl (by show (L' + 1 : Nat) ≠ L' + 1 + 1 + 1; omega)
    · exact tcell nt2 p hp
    · exact tcell nt1 p hp
    · exact .inl (Kc p hp).1
  try clear N3
  repeat' (first | walk1 | (dsimp only; walk1) | walk_at "THEN")
  refine Halt.mk ?_
  refine cell_put (c := L' + 1) (o := cp) (v₀ := none) ((L' + 1 + 1 + 1, cv') :: (src, so2) :: (L' + 1 + 1, cs) :: (lv2 ++ (lv1 ++ K))) (by assumption) (by assumption) rfl (by first | walk_at "MEM" | simp) dp (fun p hp => ?_) fun h6 cp' F6 N6 dp' => ?_
  · refine ⟨by first | (refine sub_at ?_ hp; walk_at "SUB") | (simp only [List.mem_cons, List.mem_append] at hp ⊢; grind), ?_⟩
    refine mem_all hp (all_cons ?_ (all_cons ?_ (all_cons ?_ (all_app (fun p hp => ?_) (all_app (fun p hp => ?_) (fun p hp => ?_))))))
    · exact .inl (by show (L' + 1 + 1 + 1 : Nat) ≠ L' + 1; omega)
    · exact scell hso2
    · exact .inl (by show (L' + 1 + 1 : Nat) ≠ L' + 1; omega)
    · exact tcell nt2 p hp
    · exact tcell nt1 p hp
    · exact .inl (Kc p hp).2.2
  try clear N5
  try clear F5
  repeat' (first | walk1 | (dsimp only; walk1) | walk_at "THEN")
  have N7 : News G L' h6 ((src, so2) :: (L' + 1, cp') :: (L' + 1 + 1 + 1, cv') :: (L' + 1 + 1, cs) :: (lv2 ++ (lv1 ++ K))) := news_mem N6 fun p hp => by first | (refine sub_at ?_ hp; walk_at "SUB") | (simp only [List.mem_cons, List.mem_append] at hp ⊢; grind)
  have off7 : ∀ p ∈ (L' + 1, cp') :: (L' + 1 + 1 + 1, cv') :: (L' + 1 + 1, cs) :: (lv2 ++ (lv1 ++ K)), p.1 ≠ src := fun p hp => by
    refine mem_all hp (all_cons ?_ (all_cons ?_ (all_cons ?_ (all_app (fun p hp => ?_) (all_app (fun p hp => ?_) (fun p hp => ?_))))))
    · exact fun q => sc.2.2 q.symm
    · exact fun q => sc.1 q.symm
    · exact fun q => sc.2.1 q.symm
    · exact (ns2 p hp).1
    · exact (ns1 p hp).1
    · exact Ks p hp
  refine Halt.mk (steps_ok (hA.deeper.le (by decide)) X T (by assumption) N7 hso2 off7 V (fun p hp => by first | walk_at "MEM" | simp [hp]) dp1 (by decide) fun t svs is nt so3 h8 tk8 hi hil hpre F8 N8 hso3 tsrc tl => ?_)
  try clear N6
  try clear N7
  try clear F6
  repeat' (first | walk1 | (dsimp only; walk1) | walk_at "THEN")
  refine Halt.mk ?_
  refine cell_put (c := L' + 1 + 1) (o := cs) (v₀ := none) ((src, so3) :: (t, PySem.W.listOf svs.toArray nt) :: (L' + 1, cp') :: (L' + 1 + 1 + 1, cv') :: (lv2 ++ (lv1 ++ K))) (by assumption) (by assumption) rfl (by first | walk_at "MEM" | simp) ds (fun p hp => ?_) fun h9 cs' F9 N9 ds' => ?_
  · refine ⟨by first | (refine sub_at ?_ hp; walk_at "SUB") | (simp only [List.mem_cons, List.mem_append] at hp ⊢; grind), ?_⟩
    refine mem_all hp (all_cons ?_ (all_cons ?_ (all_cons ?_ (all_cons ?_ (all_app (fun p hp => ?_) (all_app (fun p hp => ?_) (fun p hp => ?_)))))))
    · exact scell hso3
    · exact .inr fun v q => by cases q
    · exact .inl (by show (L' + 1 : Nat) ≠ L' + 1 + 1; omega)
    · exact .inl (by show (L' + 1 + 1 + 1 : Nat) ≠ L' + 1 + 1; omega)
    · exact tcell nt2 p hp
    · exact tcell nt1 p hp
    · exact .inl (Kc p hp).2.1
  try clear N8
  try clear F8
  repeat' (first | walk1 | (dsimp only; walk1) | walk_at "THEN")
  generalize bindL (envOfC (Str.ofString "_law_parts_right") T41.val.snd.snd L' 564 (Value.ref 563)).kindOf [(Str.ofString "source", Value.ref src)] (fun x => none) = mq at F9
  refine Halt.mk (led_ok (lv := lv1) (hA.deeper.le (by decide)) X T F9 N9 V (fun p hp => by first | walk_at "MEM" | simp [hp]) (.tail _ (.tail _ (.head _))) hi fun due h10 tk10 hdue F10 N10 => ?_)
  try clear N9
  try clear F9
  repeat' (first | walk1 | (dsimp only; walk1) | walk_at "THEN")
  refine Halt.mk (storeX_L F10 N10 fun h11 F11 N11 => ?_)
  try clear N10
  try clear F10
  have st1 : StopAt 1 := .mk
  repeat' (first | walk1 | (dsimp only; walk1) | walk_at "THEN")
  clear st1
  obtain ⟨led, hled⟩ : ∃ led, led = (L' + 1 + 1, cs') :: (src, so3) :: (t, PySem.W.listOf svs.toArray nt) :: (L' + 1, cp') :: (L' + 1 + 1 + 1, cv') :: (lv2 ++ (lv1 ++ K)) := ⟨_, rfl⟩
  refine Halt.mk (wpAny_mono (Q := fun v s' => Halt (IvSh G L' g dr os lv1 led (d.path is) due mq v s')) ?_ (fun v s' hs => ?_) fun _ _ e => e)
  · rw [hled]
    clear hled
    cases q : d.path is with
    | none =>
      rw [q] at hdue
      obtain rfl : due = .none := hdue
      repeat' (first | walk1 | (dsimp only; walk1) | walk_at "THEN")
      exact Halt.mk ⟨_, _, _, _, _, rfl, rfl, ⟨⟨_, rfl⟩, rfl⟩, by assumption, by assumption⟩
    | some c =>
      rw [q] at hdue
      cases (show VIn lv1 due c from hdue) with
      | int z tz =>
        repeat' (first | walk1 | (dsimp only; walk1) | walk_at "THEN")
        exact Halt.mk ⟨_, _, _, _, _, rfl, rfl, ⟨rfl, .int z tz⟩, by assumption, by assumption⟩
      | node ha hb hs hz =>
        repeat' (first | walk1 | (dsimp only; walk1) | walk_at "THEN")
        exact Halt.mk ⟨_, _, _, _, _, rfl, rfl, ⟨rfl, .node ha hb hs hz⟩, by assumption, by assumption⟩
  obtain ⟨sh, sa, sb, h12, tk12, rfl, rfl, hsh, F12, N12⟩ := halt hs
  try clear N11
  try clear F11
  repeat' (first | walk1 | (dsimp only; walk1) | walk_at "THEN")
  refine Halt.mk (storeX_L F12 N12 fun h13 F13 N13 => ?_)
  try clear N12
  try clear F12
  repeat' (first | walk1 | (dsimp only; walk1) | walk_at "THEN")
  obtain ⟨K2, hK2⟩ : ∃ K2, K2 = l := ⟨_, rfl⟩
  have oLd : ∀ vs, oL.data ≠ .fields vs := by
    obtain ⟨o', a, b⟩ := fr_obj F
    rw [hL] at a
    cases a
    exact b
  have L559 : L ≠ 559 := fun q => (N (559, tabObj #[]) (.tail _ (.head _))).2.1 q.symm
  have mLK : (L, oL) ∈ K := by rw [hK]; first | walk_at "MEM" | simp
  have m5K : (559, tabObj #[]) ∈ K := by rw [hK]; exact .head _
  obtain ⟨rest, hrest⟩ : ∃ rest, rest = (L' + 1 + 1, cs') :: (src, so3) :: (t, PySem.W.listOf svs.toArray nt) :: (L' + 1, cp') :: (L' + 1 + 1 + 1, cv') :: (lv2 ++ (lv1 ++ l)) := ⟨_, rfl⟩
  have r559 : ∀ p ∈ rest, p.1 ≠ 559 ∧ p.1 ≠ L := fun p hp => by
    rw [hrest] at hp
    refine mem_all hp (all_cons ?_ (all_cons ?_ (all_cons ?_ (all_cons ?_ (all_cons ?_ (all_app (fun p hp => ?_) (all_app (fun p hp => ?_) (fun p hp => ?_))))))))
    · exact ⟨fun q => (Kc _ m5K).2.1 q.symm, fun q => (Kc _ mLK).2.1 q.symm⟩
    · exact ⟨fun q => off _ (.head _) q.symm, (N _ (.head _)).2.1⟩
    · exact ⟨tl (559, tabObj #[]) (by first | walk_at "MEM" | simp [m5K]), tl (L, oL) (by first | walk_at "MEM" | simp [mLK])⟩
    · exact ⟨fun q => (Kc _ m5K).2.2 q.symm, fun q => (Kc _ mLK).2.2 q.symm⟩
    · exact ⟨fun q => (Kc _ m5K).1 q.symm, fun q => (Kc _ mLK).1 q.symm⟩
    · exact ⟨(ns2 p hp).2 (559, tabObj #[]) (by first | walk_at "MEM" | simp [m5K]), (ns2 p hp).2 (L, oL) (by first | walk_at "MEM" | simp [mLK])⟩
    · exact ⟨(ns1 p hp).2 (559, tabObj #[]) (by first | walk_at "MEM" | simp [m5K]), (ns1 p hp).2 (L, oL) (by first | walk_at "MEM" | simp [mLK])⟩
    · exact ⟨o559 p hp, (N p (.tail _ (.tail _ hp))).2.1⟩
  have hrl : ∀ p ∈ led, p ∈ (559, tabObj #[]) :: (rest ++ [(L, oL)]) := fun p hp => by
    rw [hled] at hp
    rw [hrest]
    rw [hK] at hp
    first | (refine sub_at ?_ hp; walk_at "SUB") | (simp only [List.mem_cons, List.mem_append] at hp ⊢; grind)
  have hlr : ∀ p ∈ (559, tabObj #[]) :: (rest ++ [(L, oL)]), p ∈ led := fun p hp => by
    rw [hrest] at hp
    rw [hled, hK]
    first | (refine sub_at ?_ hp; walk_at "SUB") | (simp only [List.mem_cons, List.mem_append] at hp ⊢; grind)
  have N14 : News G L' h13 ((559, tabObj #[]) :: ((sh, tupO [sa, sb] 0) :: (rest ++ [(L, oL)]))) := news_mem N13 fun p hp => by
    refine mem_case hp ?_ fun p hp => ?_
    · exact .tail _ (hlr _ (.head _))
    · refine mem_case hp ?_ fun p hp => ?_
      · exact .head _
      · exact .tail _ (hlr p (.tail _ hp))
  try clear N13
  have sh5 : sh ≠ 559 := news_ne N14 (p := (sh, tupO [sa, sb] 0)) (q := (559, tabObj #[])) (.tail _ (.head _)) (.head _) (by intro q; exact absurd (congrArg Obj.cls q) (by first | walk_at "MEM" | simp))
  refine Halt.mk (kla_eval rfl ?_)
  refine kla_nest (ps := #[]) F13 N14 T hC rfl (.head fun p hp => ?_) trivial rfl rfl fun f c' oc vs tq ctv h15 tk15 F15 N15 hoc hov l15 lf15 => ?_
  · refine mem_case hp ?_ fun p hp => ?_
    · exact sh5
    · rcases List.mem_append.mp hp with hp | hp
      · exact (r559 p hp).1
      · rw [List.mem_singleton.mp hp]; exact L559
  dsimp only at N15
  repeat' (first | walk1 | (dsimp only; walk1) | walk_at "THEN")
  have Lc15 : L < c' := l15 (L, oL) (by first | walk_at "MEM" | simp)
  have shL : sh ≠ L := by
    obtain ⟨oo, es, ep, a1, b1, _⟩ := F.ns
    rw [hL] at a1
    cases a1
    refine news_ne N14 (p := (sh, tupO [sa, sb] 0)) (q := (L, oL)) (.tail _ (.head _)) (by first | walk_at "MEM" | simp) fun q => ?_
    have := congrArg Obj.data q
    dsimp only at this
    rw [b1] at this
    cases this
  refine Halt.mk (kind_step (n := 30) (env0 := envOfC (Str.ofString "_law_parts_right") T41.1.2.2 L' 564 (.ref 563)) (fs := fs) (L0 := L) (o0 := oL) (dl := (f, _) :: (c', oc) :: (559, _) :: (sh, _) :: rest) (hA.deeper.le (by decide)) X T F15 N15 (by show (A.frames.map _) = _; rw [hfr]; rfl) rfl (show ScopeKind.function ≠ .module by decide) hfs oLd (fun p hp => ?_)
    (OK := fun new b => new = [] ∧ ∃ c, d.path is = some c ∧ VIn lv1 b c) (Bad := d.path is = none) (kd := Str.ofString "place") (fun B => ?_) ⟨_, _, _, _, .head _⟩ (fun D a b new sl h16 tk16 hab F16 N16 => ?_))
  · refine mem_case hp ?_ fun p hp => ?_
    · exact Nat.ne_of_gt (Nat.lt_trans Lc15 lf15)
    · refine mem_case hp ?_ fun p hp => ?_
      · exact Nat.ne_of_gt Lc15
      · refine mem_case hp ?_ fun p hp => ?_
        · exact fun q => L559 q.symm
        · refine mem_case hp ?_ fun p hp => ?_
          · exact shL
          · exact (r559 p hp).2
  · intro A2 L2 m2 h2 l2 fs2 t2 Q2 E2 hA2 F2 N2 sub2 hfr2 S2 ok2 bad2
    refine wpAny_call (callGL (s := ⟨h2, g, dr, t2, os⟩) T F2 N2 (Nat.lt_of_le_of_lt (Nat.le_add_right _ _) hA2.dp) (sub2 _ (.head _)) (sub2 _ (.tail _ (.head _))) hoc hov rfl (fun y hy => nomatch hy) rfl rfl rfl (by decide) fun L3 h3 oL3 hL3 eL3 F3 k3 => ?_)
    have N3' := news_in F2 N2 hL3 eL3 k3
    have mm : ∀ p ∈ rest, p ∈ l2 := fun p hp => sub2 p (.tail _ (.tail _ (.tail _ (.tail _ (List.mem_append_left _ hp)))))
    have N3 : News G L3 h3 ((L' + 1 + 1, cs') :: (t, PySem.W.listOf svs.toArray nt) :: (L' + 1 + 1 + 1, cv') :: (l2 ++ [(L2, oL3)])) := fun p hp => by
      refine mem_case hp ?_ fun p hp => ?_
      · exact N3' _ (List.mem_append_left _ (mm _ (by rw [hrest]; first | walk_at "MEM" | simp)))
      · refine mem_case hp ?_ fun p hp => ?_
        · exact N3' _ (List.mem_append_left _ (mm _ (by rw [hrest]; first | walk_at "MEM" | simp)))
        · refine mem_case hp ?_ fun p hp => ?_
          · exact N3' _ (List.mem_append_left _ (mm _ (by rw [hrest]; first | walk_at "MEM" | simp)))
          · exact N3' p hp
    clear N3'
    have hh2 : A2.handled = none := hA2.hh
    try dsimp only
    repeat' (first | walk1 | (dsimp only; walk1) | walk_at "THEN")
    refine tup_of (vs := svs) (by assumption) N3 (.tail _ (.head _)) (by have := hi.len; omega) fun D4 h4 F4 N4 l4 => ?_
    clear N3
    repeat' (first | walk1 | (dsimp only; walk1) | walk_at "THEN")
    refine Halt.mk (part_ok (lv := lv1) (hA2.deeper.le (by decide)) X T (by assumption) N4 (by show (A2.frames.map _) = _; rw [hfr2]; rfl) ((S2.deeper F2 N2 hL3 eL3 rfl (show ScopeKind.function ≠ .module by decide)).more (fun p hp => .tail _ (.tail _ (.tail _ (.tail _ hp))))) V
      (fun p hp => .tail _ (.tail _ (.tail _ (.tail _ (List.mem_append_left _ (mm p (by rw [hrest]; first | walk_at "MEM" | simp [hp]))))))) (.head _) hi ?_ ?_)
    · intro cc ccv h5 tk5 hcc Vcc F5 N5
      clear N4
      repeat' (first | walk1 | (dsimp only; walk1) | walk_at "THEN")
      have o := out_any F2 N2 hL3 (by assumption) N5 (by first | walk_at "MEM" | simp) (fun p hp => by first | walk_at "MEM" | simp [hp])
      exact ok2 ccv [] _ _ ⟨rfl, cc, hcc, Vcc⟩ (fun p hp => nomatch hp) o.1 o.2
    · intro hnone e k1 kk2 h5 tk5 er
      exact err_leave (l := l2) (by show (A2.frames.map _) = _; rw [hfr2]; rfl) rfl er F2 hL3 (fun p hp => by first | walk_at "MEM" | simp [hp]) (by first | walk_at "MEM" | simp) fun h6 er6 => bad2 e k1 _ h6 tk5 hnone er6
  · obtain ⟨hS, rfl⟩ : ShownIs lv1 (d.path is) a b ∧ new = [] := by
      rcases hab with ⟨rfl, rfl, cc, hcc, Vcc⟩ | ⟨hn, ⟨k1, rfl⟩, rfl, rfl⟩
      · rw [hcc]; exact ⟨⟨rfl, Vcc⟩, rfl⟩
      · rw [hn]; exact ⟨⟨⟨k1, rfl⟩, rfl⟩, rfl⟩
    have hdp20 : ∀ c, d.path is = some c → Dp 20 c := fun c q => (dp1.path q).mono (by decide)
    have lvr : ∀ p ∈ lv1, p ∈ rest := fun p hp => by rw [hrest]; first | walk_at "MEM" | simp [hp]
    have hu : A.units + 3 + 64 < cLine := ar_un (n := 67) hA.un (by decide)
    obtain ⟨oL1, hoL1⟩ : ∃ o, o = { oL with slots := sl } := ⟨_, rfl⟩
    rw [← hoL1] at N16
    obtain ⟨ps1, hps1⟩ : ∃ ps, ps = #[] ++ #[rawInt 321, rawInt 17, .ref c'] := ⟨_, rfl⟩
    have N17 : News G L' h16 ((D, tupO [a, b] 0) :: (559, tabObj ps1) :: (sh, tupO [sa, sb] 0) :: (rest ++ [(L, oL1)])) := by
      rw [hps1]
      refine news_mem N16 fun p hp => ?_
      first | (refine sub_at ?_ hp; walk_at "SUB") | (simp only [List.nil_append, List.mem_cons, List.mem_append] at hp ⊢; grind)
    clear N16 N15
    repeat' (first | walk1 | (dsimp only; walk1) | walk_at "THEN")
    refine Halt.mk (shown_ne N17 (.head _) (n' := 0) (a' := sa) (b' := sb) (.tail _ (.tail _ (.head _))) hS hsh (fun p hp => by first | walk_at "MEM" | simp [lvr p hp]) (fun p hp => by first | walk_at "MEM" | simp [lvr p hp]) hdp20 hu ?_)
    have st2 : StopAt 2 := .mk
    repeat' (first | walk1 | (dsimp only; walk1) | walk_at "THEN")
    clear st2
    have mcs : (L' + 1 + 1, cs') ∈ rest := by rw [hrest]; first | walk_at "MEM" | simp
    have mt : (t, PySem.W.listOf svs.toArray nt) ∈ rest := by rw [hrest]; first | walk_at "MEM" | simp
    have mcv : (L' + 1 + 1 + 1, cv') ∈ rest := by rw [hrest]; first | walk_at "MEM" | simp
    have mcp : (L' + 1, cp') ∈ rest := by rw [hrest]; first | walk_at "MEM" | simp
    refine Halt.mk (stmt5_ok (rest := rest) (lv1 := lv1) (due := due) (mq := mq) rfl (hA.le (by decide)) X T hC hfr hfs oLd (by assumption) (news_mem N17 fun p hp => .tail _ hp) hps1 hoL1 r559 L559 sh5 shL mcs mt mcv lvr ds' dv' hi hil V dp1 hsh hpre fun h20 tk20 ps2 oL2 htr hoL2 F20 N20 => ?_)
    clear N17
    first | walk_at "THEN" | dsimp only
    have hseq : ∀ us un, oL2.data ≠ .seq us un := by
      obtain ⟨sl2, e⟩ := hoL2
      obtain ⟨oo, es, ep, a1, b1, _⟩ := F.ns
      rw [hL] at a1
      cases a1
      rw [e]
      intro us un q
      rw [b1] at q
      cases q
    refine stmt6_ok (lv := lv2 ++ lv1) (pd := pd) (d := d) (is := is) rfl (hA.le (by decide)) X T hC hfr hfs oLd F20 N20 htr hoL2 hseq r559 L559 sh5 shL mcs mt mcv mcp (fun p hp => by rw [hrest]; first | (refine sub_at ?_ hp; walk_at "SUB") | (simp only [List.mem_append, List.mem_cons] at hp ⊢; grind)) ds' dv' dp' hi hil (V.mono fun p hp => List.mem_append_right _ hp) (W.mono fun p hp => List.mem_append_left _ hp) dp1 dp2 ?_ fun h21 tk21 ps3 oL3 m3 hoL3 F21 htr3 N21 => ?_
    · cases q : d.path is with
      | none => rw [q] at hdue; exact hdue
      | some c => rw [q] at hdue; exact VIn.mono (fun p hp => List.mem_append_right _ hp) hdue
    · obtain ⟨sl3, e3⟩ := hoL3
      have gL := (N21 (L, oL3) (by first | walk_at "MEM" | simp)).1
      rw [e3] at gL
      refine ret so3 ps3 _ _ ⟨ns_up F.ns hL gL, F21.keep, F.above⟩ (fun p hp => ?_) hso3
      refine mem_case hp ?_ fun p hp => ?_
      · exact ⟨(N21 _ (by rw [hrest]; first | walk_at "MEM" | simp)).1, (N _ (.head _)).2⟩
      · refine mem_case hp ?_ fun p hp => ?_
        · exact ⟨(N21 _ (.head _)).1, (N _ (.tail _ (.head _))).2⟩
        · exact ⟨(N21 p (by rw [hrest]; first | walk_at "MEM" | simp [hp])).1, (N p (.tail _ (.tail _ hp))).2⟩
end
section
open PySem PySem.W PySem.Calls PyProof.Rows PySem.Spec
local macro_rules | `(tactic| walk_at "exec If") => `(tactic| (with_reducible refine StopAt.stop (n := 2) (by assumption) ?_))
set_option maxHeartbeats 2000000 in
theorem objects_ok {w : World} {mean : ExcName → Option Value} {mg mb : Str → Option Value} {G : Heap} {A : Around} {h : Heap} {g : Array GenState} {dr : Drawn} {tk : Nat} {os : OsState} {L src : Addr} {m : Str → Option Value} {l : List (Addr × Obj)} {so : Obj} {M : Int} {fs : List Env} {Q E : Value → Shared → Prop}
    (hA : Rm A 121) (X : (KP w.params).In G) (T : Top topProg lsT mean mg mb G) (F : Fr G L h m) (N : News G L h ((src, so) :: (566, tabObj #[]) :: (571, tabObj #[]) :: l)) (hso : SrcO M so) (off : ∀ p ∈ (566, tabObj #[]) :: (571, tabObj #[]) :: l, p.1 ≠ src) (hC6 : CodeHd G 568 566) (hC7 : CodeHd G 575 571)
    (o6 : ∀ p ∈ l, p.1 ≠ 566) (o7 : ∀ p ∈ l, p.1 ≠ 571) (hfr : A.frames = some fs) (hfs : ∀ env ∈ fs, env.scope.kind ≠ .module ∧ env.frame = some L)
    (ret : ∀ p6 p7 h' tk', Fr G L h' m → News G L h' ((566, tabObj p6) :: (571, tabObj p7) :: l) → Q (.bool true) ⟨h', g, dr, tk', os⟩) :
    wpAny (model pw w) A (call (.ref 576) [.ref src]) Q E ⟨h, g, dr, tk, os⟩ := by
  refine wpAny_call (callCE (s := ⟨h, g, dr, tk, os⟩) (binds := [(Str.ofString "source", .ref src)]) X T F (Nat.lt_of_le_of_lt (Nat.le_add_right _ _) hA.dp) (by k_is) (by k_is) (BindsTo.of_eq rfl) rfl (by decide +kernel) rfl rfl rfl fun L' h₁ oL tk1 cells E' hL eL F₁ NC hcn Y k₁ => ?_)
  k_cells Y
  rename_i cn ch dn dh
  have hh : A.handled = none := hA.hh
  have hu : (A.deeper (hEnv L')).units + 64 < cLine := ar_un (n := 67) hA.un (by decide)
  have nsrc : h.get? src = some so := (N _ (.head _)).1
  have c1 : h.get? (L' + 1 + 1) = none := hcn (L' + 1 + 1, cn) (.head _)
  have c2 : h.get? (L' + 1) = none := hcn (L' + 1, ch) (.tail _ (.head _))
  obtain ⟨K, hK⟩ : ∃ K, K = (566, tabObj #[]) :: (571, tabObj #[]) :: (l ++ [(L, oL)]) := ⟨_, rfl⟩
  have m6K : (566, tabObj #[]) ∈ K := by rw [hK]; exact .head _
  have m7K : (571, tabObj #[]) ∈ K := by rw [hK]; exact .tail _ (.head _)
  have mLK : (L, oL) ∈ K := by rw [hK]; first | walk_at "MEM" | simp
  have lK : ∀ p ∈ l, p ∈ K := fun p hp => by rw [hK]; first | walk_at "MEM" | simp [hp]
  have KN : ∀ p ∈ K, h.get? p.1 = some p.2 := fun p hp => by
    rw [hK] at hp
    refine mem_case hp ?_ fun p hp => ?_
    · exact (N _ (.tail _ (.head _))).1
    refine mem_case hp ?_ fun p hp => ?_
    · exact (N _ (.tail _ (.tail _ (.head _)))).1
    rcases List.mem_append.mp hp with hp | hp
    · exact (N p (.tail _ (.tail _ (.tail _ hp)))).1
    · rw [List.mem_singleton.mp hp]; exact hL
  have Kc : ∀ p ∈ K, p.1 ≠ L' + 1 + 1 ∧ p.1 ≠ L' + 1 := fun p hp => by
    refine ⟨fun q => ?_, fun q => ?_⟩
    · have := KN p hp; rw [q, c1] at this; cases this
    · have := KN p hp; rw [q, c2] at this; cases this
  have Ks : ∀ p ∈ K, p.1 ≠ src := fun p hp => by
    rw [hK] at hp
    refine mem_case hp ?_ fun p hp => ?_
    · exact off _ (.head _)
    refine mem_case hp ?_ fun p hp => ?_
    · exact off _ (.tail _ (.head _))
    rcases List.mem_append.mp hp with hp | hp
    · exact off p (.tail _ (.tail _ hp))
    · rw [List.mem_singleton.mp hp]; exact fun q => (N (src, so) (.head _)).2.1 q.symm
  have sc : src ≠ L' + 1 + 1 ∧ src ≠ L' + 1 := ⟨fun q => (by rw [q, c1] at nsrc; cases nsrc), fun q => (by rw [q, c2] at nsrc; cases nsrc)⟩
  have N₁ : News G L' h₁ ((src, so) :: (L' + 1 + 1, cn) :: (L' + 1, ch) :: K) := fun p hp => by
    have N₀ := news_in F N hL eL k₁
    rw [hK] at hp
    refine mem_case hp ?_ fun p hp => ?_
    · exact N₀ _ (.head _)
    refine mem_case hp ?_ fun p hp => ?_
    · exact NC _ (.head _)
    refine mem_case hp ?_ fun p hp => ?_
    · exact NC _ (.tail _ (.head _))
    · exact N₀ p (.tail _ hp)
  clear NC
  try dsimp only
  repeat' (first | walk1 | (dsimp only; walk1) | walk_at "THEN")
  refine Halt.mk (heap_new (hA.deeper.le (by decide)) X T F₁ N₁ fun x dx kp oK t1 t2 t3 t4 t5 tg th h2 tk2 q1 q2 q3 hsm hD F2 N2 => ?_)
  have ltK : ∀ p ∈ K, p.1 < dx := fun p hp => q1 p (.tail _ (.tail _ (.tail _ hp)))
  have lts : src < dx := q1 _ (.head _)
  have ltn : L' + 1 + 1 < dx := q1 _ (.tail _ (.head _))
  have lth : L' + 1 < dx := q1 _ (.tail _ (.tail _ (.head _)))
  have dxkp : @LT.lt Nat _ dx kp := Nat.lt_trans q2 q3
  have N2' := news_mem (l' := (src, so) :: (dx, heapD w t1 t2 t3 t4 t5 tg th kp 0) :: (kp, oK) :: (x, instObj 283 dx) :: (L' + 1 + 1, cn) :: (L' + 1, ch) :: K) N2 fun p hp => by
    first | (refine sub_at ?_ hp; walk_at "SUB") | (simp only [List.mem_cons] at hp ⊢; (rcases hp with h | h | h | h | h | h | h <;> simp only [h, true_or, or_true]))
  clear N2
  repeat' (first | walk1 | (dsimp only; walk1) | walk_at "THEN")
  refine Halt.mk (take_ok (hA.deeper.le (by decide)) X T F2 N2' hso (fun p hp => ?_) (by decide) (by decide) fun r tgo so1 h3 tk3 F3 N3 hso1 r0 r1 => ?_)
  · refine mem_case hp ?_ fun p hp => ?_
    · exact Nat.ne_of_gt lts
    refine mem_case hp ?_ fun p hp => ?_
    · exact Nat.ne_of_gt (Nat.lt_trans lts dxkp)
    refine mem_case hp ?_ fun p hp => ?_
    · exact Nat.ne_of_gt (Nat.lt_trans lts q2)
    refine mem_case hp ?_ fun p hp => ?_
    · exact fun q => sc.1 q.symm
    refine mem_case hp ?_ fun p hp => ?_
    · exact fun q => sc.2 q.symm
    · exact Ks p hp
  clear N2' F2
  repeat' (first | walk1 | (dsimp only; walk1) | walk_at "THEN")
  rename News _ L' _ _ => N4
  rename Fr _ L' _ _ => F4
  obtain ⟨esK, epK, rK⟩ := id hD
  have scell : ∀ {so : Obj} {c : Addr}, SrcO M so → (src ≠ c ∨ ∀ v, so.data ≠ .cell v) := fun {so} {c} hs => .inr fun v q => by obtain ⟨a, ta, b, tb, n, rfl, _⟩ := hs; cases q
  refine Halt.mk (cell_put (c := L' + 1) (o := ch) (v₀ := none) ((src, so1) :: (dx, heapD w t1 t2 t3 t4 t5 tg th kp 0) :: (kp, oK) :: (x, instObj 283 dx) :: (L' + 1 + 1, cn) :: K) F4 N4 rfl (by first | walk_at "MEM" | simp) dh (fun p hp => ?_) fun h5 ch' F5 N5 dh' => ?_)
  · refine ⟨by first | (refine sub_at ?_ hp; walk_at "SUB") | (simp only [List.mem_cons] at hp ⊢; grind), ?_⟩
    refine mem_all hp (all_cons ?_ (all_cons ?_ (all_cons ?_ (all_cons ?_ (all_cons ?_ (fun p hp => ?_))))))
    · exact scell hso1
    · exact .inl (Nat.ne_of_gt lth)
    · exact .inl (Nat.ne_of_gt (Nat.lt_trans lth dxkp))
    · exact .inl (Nat.ne_of_gt (Nat.lt_trans lth q2))
    · exact .inl (by show (L' + 1 + 1 : Nat) ≠ L' + 1; omega)
    · exact .inl (Kc p hp).2
  clear N4 F4
  repeat' (first | walk1 | (dsimp only; walk1) | walk_at "THEN")
  refine Halt.mk (storeX_L F5 N5 fun h6 F6 N6 => ?_)
  clear N5 F5
  obtain ⟨W, hW⟩ : ∃ W, W = (L' + 1, ch') :: (dx, heapD w t1 t2 t3 t4 t5 tg th kp 0) :: (kp, oK) :: (x, instObj 283 dx) :: (L' + 1 + 1, cn) :: (571, tabObj #[]) :: (l ++ [(L, oL)]) := ⟨_, rfl⟩
  have N7 := news_mem (l' := (src, so1) :: (566, tabObj #[]) :: W) N6 fun p hp => by
    rw [hW] at hp
    rw [hK]
    first | (refine sub_at ?_ hp; walk_at "SUB") | (simp only [List.mem_cons] at hp ⊢; grind)
  clear N6
  have offW : ∀ p ∈ (566, tabObj #[]) :: W, p.1 ≠ src := fun p hp => by
    rw [hW] at hp
    refine mem_all hp (all_cons ?_ (all_cons ?_ (all_cons ?_ (all_cons ?_ (all_cons ?_ (all_cons ?_ (all_cons ?_ (fun p hp => ?_))))))))
    · exact Ks _ m6K
    · exact fun q => sc.2 q.symm
    · exact Nat.ne_of_gt lts
    · exact Nat.ne_of_gt (Nat.lt_trans lts dxkp)
    · exact Nat.ne_of_gt (Nat.lt_trans lts q2)
    · exact fun q => sc.1 q.symm
    · exact Ks _ m7K
    · exact Ks p (by rw [hK]; exact .tail _ (.tail _ hp))
  have L6 : L ≠ 566 := fun q => (N (566, tabObj #[]) (.tail _ (.head _))).2.1 q.symm
  have L7 : L ≠ 571 := fun q => (N (571, tabObj #[]) (.tail _ (.tail _ (.head _)))).2.1 q.symm
  have d6 : @LT.lt Nat _ 566 dx := ltK _ m6K
  have d7 : @LT.lt Nat _ 571 dx := ltK _ m7K
  have o6W : ∀ p ∈ W, p.1 ≠ 566 := fun p hp => by
    rw [hW] at hp
    refine mem_all hp (all_cons ?_ (all_cons ?_ (all_cons ?_ (all_cons ?_ (all_cons ?_ (all_cons ?_ (fun p hp => ?_)))))))
    · exact fun q => (Kc _ m6K).2 q.symm
    · exact Nat.ne_of_gt d6
    · exact Nat.ne_of_gt (Nat.lt_trans d6 dxkp)
    · exact Nat.ne_of_gt (Nat.lt_trans d6 q2)
    · exact fun q => (Kc _ m6K).1 q.symm
    · show (571 : Nat) ≠ 566; omega
    · rcases List.mem_append.mp hp with hp | hp
      · exact o6 p hp
      · rw [List.mem_singleton.mp hp]; exact L6
  repeat' (first | walk1 | (dsimp only; walk1) | walk_at "THEN")
  refine Halt.mk (object_ok (hA.deeper.le (by decide)) X T F6 N7 hso1 offW hC6 o6W (fun q => ?_) fun D ks t c dl ds k is new p6 h8 tk8 H hd hi ok F8 N8 => ?_)
  · exact absurd (Heap.lt_size (KN _ m6K)) (by rw [show L' = 566 from q] at eL; rw [← eL]; exact Nat.lt_irrefl _)
  clear N7 F6
  generalize bindL (envOfC (Str.ofString "_law_objects_right") T43.val.snd.snd L' 576 (Value.ref 575)).kindOf [(Str.ofString "source", Value.ref src)] (fun x => none) = mq at F8
  obtain ⟨dsl, rfl⟩ : ∃ dsl : List Value, ds = dsl.toArray := ⟨ds.toList, by first | walk_at "MEM" | simp⟩
  replace hi : IntVs dsl is := by simpa using hi
  repeat' (first | walk1 | (dsimp only; walk1) | walk_at "THEN")
  have hseq : ∀ a b, oL.data ≠ .seq a b := fun a b e => fr_no_seq F hL e
  have newW : ∀ p ∈ new, ∀ q ∈ W, (∀ a b, q.2.data ≠ .seq a b) → p.1 ≠ q.1 := fun p hp q hq hs => (ok p hp).elim (fun ⟨a, b, e⟩ => news_ne N8 (by first | walk_at "MEM" | simp [hp]) (by first | walk_at "MEM" | simp [hq]) fun r => hs a b (by rw [← r]; exact e)) fun k => Nat.ne_of_gt (k q hq)
  have new6 : ∀ p ∈ new, p.1 ≠ 566 := fun p hp => (ok p hp).elim (fun ⟨a, b, e⟩ => news_ne (q := (566, tabObj p6)) N8 (by first | walk_at "MEM" | simp [hp]) (by first | walk_at "MEM" | simp) fun r => by rw [r] at e; cases e) fun k => Nat.ne_of_gt (Nat.lt_trans d6 (k (dx, heapD w t1 t2 t3 t4 t5 tg th kp 0) (by rw [hW]; first | walk_at "MEM" | simp)))
  rename News _ L' _ _ => N9
  rename Fr _ L' _ _ => F9
  refine Halt.mk (storeX_L F9 N9 fun h10 F10 N10 => ?_)
  clear N9 F9 N8 F8
  repeat' (first | walk1 | (dsimp only; walk1) | walk_at "THEN")
  refine Halt.mk (storeX_L F10 N10 fun h11 F11 N11 => ?_)
  clear N10 F10
  repeat' (first | walk1 | (dsimp only; walk1) | walk_at "THEN")
  refine Halt.mk (storeX_L F11 N11 fun h12 F12 N12 => ?_)
  clear N11 F11
  repeat' (first | walk1 | (dsimp only; walk1) | walk_at "THEN")
  refine Halt.mk (held_ok (is := is) (hA.deeper.le (by decide)) X T F12 N12 (H.mono fun p hp => by first | walk_at "MEM" | simp [hp]) fun D2 k2 vs h13 tk13 hv F13 N13 => ?_)
  clear N12 F12
  repeat' (first | walk1 | (dsimp only; walk1) | walk_at "THEN")
  rename News _ L' _ _ => N14
  rename Fr _ L' _ _ => F14
  refine Halt.mk (ne_ints N14 (.head _) (.tail _ (.tail _ (.tail _ (List.mem_append_left _ hd)))) hv hi hu ?_)
  have N15 := news_mem (l' := (dx, heapD w t1 t2 t3 t4 t5 tg th kp 0) :: (kp, oK) :: (x, instObj 283 dx) :: (L' + 1, ch') :: (L' + 1 + 1, cn) :: (571, tabObj #[]) :: (566, tabObj p6) :: (new ++ (l ++ [(L, oL)]))) N14 fun p hp => by
    rw [hW]
    first | (refine sub_at ?_ hp; walk_at "SUB") | (simp only [List.mem_cons, List.mem_append] at hp ⊢; grind)
  clear N14
  repeat' (first | walk1 | (dsimp only; walk1) | walk_at "THEN")
  rename News _ L' _ _ => N16
  rename Fr _ L' _ _ => F16
  have dW : (dx, heapD w t1 t2 t3 t4 t5 tg th kp 0) ∈ W := by rw [hW]; first | walk_at "MEM" | simp
  have kW : (kp, oK) ∈ W := by rw [hW]; first | walk_at "MEM" | simp
  have xW : (x, instObj 283 dx) ∈ W := by rw [hW]; first | walk_at "MEM" | simp
  have hW' : (L' + 1, ch') ∈ W := by rw [hW]; first | walk_at "MEM" | simp
  have nW : (L' + 1 + 1, cn) ∈ W := by rw [hW]; first | walk_at "MEM" | simp
  have tW : (571, tabObj #[]) ∈ W := by rw [hW]; first | walk_at "MEM" | simp
  have LW : (L, oL) ∈ W := by rw [hW]; first | walk_at "MEM" | simp
  have newd : ∀ p ∈ new, p.1 ≠ dx := fun p hp => newW p hp _ dW fun a b e => by cases e
  have newk : ∀ p ∈ new, p.1 ≠ kp := fun p hp => newW p hp _ kW fun a b e => by rw [show oK.data = _ from rK.2.1] at e; cases e
  have newL : ∀ p ∈ new, p.1 ≠ L := fun p hp => newW p hp _ LW hseq
  have new7 : ∀ p ∈ new, p.1 ≠ 571 := fun p hp => newW p hp _ tW fun a b e => by cases e
  have lo : ∀ p ∈ (L' + 1, ch') :: (L' + 1 + 1, cn) :: (571, tabObj #[]) :: (566, tabObj p6) :: (new ++ (l ++ [(L, oL)])), p.1 ≠ dx ∧ p.1 ≠ kp := fun p hp => by
    have small : ∀ {a : Addr}, @LT.lt Nat _ a dx → a ≠ dx ∧ a ≠ kp := fun z => ⟨Nat.ne_of_lt z, Nat.ne_of_lt (Nat.lt_trans z dxkp)⟩
    refine mem_all hp (all_cons ?_ (all_cons ?_ (all_cons ?_ (all_cons ?_ (all_app (fun p hp => ?_) (fun p hp => ?_))))))
    · exact small lth
    · exact small ltn
    · exact small d7
    · exact small d6
    · exact ⟨newd p hp, newk p hp⟩
    · exact small (ltK p (by rw [hK]; first | walk_at "MEM" | simp only [List.mem_cons, List.mem_append]; exact .inr (.inr hp)))
  refine Halt.mk (make_ok2 (gv := 0) (ps := []) (hA.deeper.le (by decide)) X T F16 N16 hD (by first | walk_at "MEM" | simp) (by decide) (by decide) (by decide) lo (Nat.ne_of_lt dxkp) (Nat.ne_of_lt q3) (Nat.ne_of_lt q2) hsm fun tr1 tg1 kx1 kd1 y1 y2 y3 oK1 h17 tk17 a1 a2 a3 a4 a5 hK1 F17 N17 => ?_)
  clear N16 F16
  repeat' (first | walk1 | (dsimp only; walk1) | walk_at "THEN")
  rename News _ L' _ _ => N18
  rename Fr _ L' _ _ => F18
  refine Halt.mk (make_ok (gv := 0 + 1) (ps := [] ++ [(0 + 1, .ref kx1)]) (hA.deeper.le (by decide)) X T F18 N18 hK1 (by first | walk_at "MEM" | simp) (by decide) (by decide) (by show 1 ≤ 5; decide) (fun p hp => ?_) (Nat.ne_of_lt dxkp) (Nat.ne_of_lt q3) (Nat.ne_of_lt q2) hsm fun tr2 tg2 kx kd z1 z2 z3 oK2 h19 tk19 b1 b2 b3 b4 b5 hK2 F19 N19 => ?_)
  · refine mem_case hp ?_ fun p hp => ?_
    · exact ⟨Nat.ne_of_gt a3, Nat.ne_of_gt a2⟩
    refine mem_case hp ?_ fun p hp => ?_
    · exact ⟨Nat.ne_of_gt (Nat.lt_trans a3 a5), Nat.ne_of_gt (Nat.lt_trans a2 a5)⟩
    · exact lo p hp
  clear N18 F18
  have hKfin : oK2.IsDictOf (intKind pw w) [(1, .ref kx1), (2, .ref kx)] := hK2
  repeat' (first | walk1 | (dsimp only; walk1) | walk_at "THEN")
  rename News _ L' _ _ => N20
  rename Fr _ L' _ _ => F20
  have newc : ∀ p ∈ new, p.1 ≠ L' + 1 + 1 ∨ ∀ v, p.2.data ≠ .cell v := fun p hp => (ok p hp).elim (fun ⟨a, b, e⟩ => .inr fun v q => by rw [e] at q; cases q) fun k => .inl (Nat.ne_of_gt (k _ nW))
  have kd1n : @LT.lt Nat _ (L' + 1 + 1) kd1 := Nat.lt_trans ltn a3
  have kdn : @LT.lt Nat _ (L' + 1 + 1) kd := Nat.lt_trans ltn b3
  refine Halt.mk (cell_put (c := L' + 1 + 1) (o := cn) (v₀ := none) ((dx, heapD w t1 t2 t3 t4 t5 tg2 th kp (0 + 1 + 1)) :: (kp, oK2) :: (x, instObj 283 dx) :: (kd, keptD w z1 z2 z3 (.str ks t) c (.str (Str.ofString "frame") tk17)) :: (kx, instObj 145 kd) :: (kd1, keptD w y1 y2 y3 (Value.str (Str.ofString "var") tk13) (Value.int 1 (tk13 + 1)) (Value.str (Str.ofString "heap") 406)) :: (kx1, instObj 145 kd1) :: (L' + 1, ch') :: (571, tabObj #[]) :: (566, tabObj p6) :: (new ++ (l ++ [(L, oL)]))) F20 N20 rfl (by first | walk_at "MEM" | simp) dn (fun p hp => ?_) fun h21 cn' F21 N21 dn' => ?_)
  · refine ⟨by first | (refine sub_at ?_ hp; walk_at "SUB") | (simp only [List.mem_cons, List.mem_append] at hp ⊢; grind), ?_⟩
    refine mem_all hp (all_cons ?_ (all_cons ?_ (all_cons ?_ (all_cons ?_ (all_cons ?_ (all_cons ?_ (all_cons ?_ (all_cons ?_ (all_cons ?_ (all_cons ?_ (all_app (fun p hp => ?_) (fun p hp => ?_))))))))))))
    · exact .inl (Nat.ne_of_gt ltn)
    · exact .inl (Nat.ne_of_gt (Nat.lt_trans ltn dxkp))
    · exact .inl (Nat.ne_of_gt (Nat.lt_trans ltn q2))
    · exact .inl (Nat.ne_of_gt kdn)
    · exact .inl (Nat.ne_of_gt (Nat.lt_trans kdn b5))
    · exact .inl (Nat.ne_of_gt kd1n)
    · exact .inl (Nat.ne_of_gt (Nat.lt_trans kd1n a5))
    · exact .inl (by show (L' + 1 : Nat) ≠ L' + 1 + 1; omega)
    · exact .inl (Kc _ m7K).1
    · exact .inl (Kc _ m6K).1
    · exact newc p hp
    · exact .inl (Kc p (by rw [hK]; first | walk_at "MEM" | simp only [List.mem_cons, List.mem_append]; exact .inr (.inr hp))).1
  clear N20 F20
  obtain ⟨R, hR⟩ : ∃ R, R = (L' + 1, ch') :: (L' + 1 + 1, cn') :: (x, instObj 283 dx) :: (dx, heapD w t1 t2 t3 t4 t5 tg2 th kp (0 + 1 + 1)) :: (kd, keptD w z1 z2 z3 (.str ks t) c (.str (Str.ofString "frame") tk17)) :: (kx, instObj 145 kd) :: (566, tabObj p6) :: (new ++ l) := ⟨_, rfl⟩
  have N22 := news_mem (l' := (571, tabObj #[]) :: (kp, oK2) :: (R ++ [(L, oL)])) N21 fun p hp => by
    rw [hR] at hp
    first | (refine sub_at ?_ hp; walk_at "SUB") | (simp only [List.cons_append, List.mem_cons, List.mem_append] at hp ⊢; grind)
  clear N21
  have LL' : L < L' := by rw [eL]; exact Heap.lt_size hL
  have ltL : L < dx := ltK _ mLK
  have Lkd : L < kd := Nat.lt_trans ltL b3
  have d7kd : @LT.lt Nat _ 571 kd := Nat.lt_trans d7 b3
  have kpkd : @LT.lt Nat _ kp kd := b2
  have rR : ∀ p ∈ R, p.1 ≠ 571 ∧ p.1 ≠ L ∧ p.1 ≠ kp := fun p hp => by
    rw [hR] at hp
    refine mem_all hp (all_cons ?_ (all_cons ?_ (all_cons ?_ (all_cons ?_ (all_cons ?_ (all_cons ?_ (all_cons ?_ (all_app (fun p hp => ?_) (fun p hp => ?_)))))))))
    · exact ⟨fun q => (Kc _ m7K).2 q.symm, fun q => (Kc _ mLK).2 q.symm, Nat.ne_of_lt (Nat.lt_trans lth dxkp)⟩
    · exact ⟨fun q => (Kc _ m7K).1 q.symm, fun q => (Kc _ mLK).1 q.symm, Nat.ne_of_lt (Nat.lt_trans ltn dxkp)⟩
    · exact ⟨Nat.ne_of_gt (Nat.lt_trans d7 q2), Nat.ne_of_gt (Nat.lt_trans ltL q2), Nat.ne_of_lt q3⟩
    · exact ⟨Nat.ne_of_gt d7, Nat.ne_of_gt ltL, Nat.ne_of_lt dxkp⟩
    · exact ⟨Nat.ne_of_gt d7kd, Nat.ne_of_gt Lkd, Nat.ne_of_gt kpkd⟩
    · exact ⟨Nat.ne_of_gt (Nat.lt_trans d7kd b5), Nat.ne_of_gt (Nat.lt_trans Lkd b5), Nat.ne_of_gt (Nat.lt_trans kpkd b5)⟩
    · exact ⟨by show (566 : Nat) ≠ 571; omega, fun q => L6 q.symm, Nat.ne_of_lt (Nat.lt_trans d6 dxkp)⟩
    · exact ⟨new7 p hp, newL p hp, newk p hp⟩
    · exact ⟨o7 p hp, (N p (.tail _ (.tail _ (.tail _ hp)))).2.1, Nat.ne_of_lt (Nat.lt_trans (ltK p (lK p hp)) dxkp)⟩
  have kp5 : kp ≠ 571 := Nat.ne_of_gt (Nat.lt_trans d7 dxkp)
  have kpL : kp ≠ L := Nat.ne_of_gt (Nat.lt_trans ltL dxkp)
  have oLd : ∀ vs, oL.data ≠ .fields vs := by
    obtain ⟨o', a, b⟩ := fr_obj F
    rw [hL] at a
    cases a
    exact b
  have mH : (L' + 1, ch') ∈ R := by rw [hR]; first | walk_at "MEM" | simp
  have mN : (L' + 1 + 1, cn') ∈ R := by rw [hR]; first | walk_at "MEM" | simp
  have mx : (x, instObj 283 dx) ∈ R := by rw [hR]; first | walk_at "MEM" | simp
  have mdx : (dx, heapD w t1 t2 t3 t4 t5 tg2 th kp (0 + 1 + 1)) ∈ R := by rw [hR]; first | walk_at "MEM" | simp
  have mkd : (kd, keptD w z1 z2 z3 (.str ks t) c (.str (Str.ofString "frame") tk17)) ∈ R := by rw [hR]; first | walk_at "MEM" | simp
  have mkx : (kx, instObj 145 kd) ∈ R := by rw [hR]; first | walk_at "MEM" | simp
  have mnew : ∀ p ∈ new, p ∈ R := fun p hp => by rw [hR]; first | walk_at "MEM" | simp [hp]
  have dn2 : cn'.data = .cell (some (.int 2 tr2)) := dn'
  obtain ⟨b, rfl⟩ := Int.eq_ofNat_of_zero_le r0
  have hb : b ≤ 2 := by omega
  have st2 : StopAt 2 := .mk
  repeat' (first | walk1 | (dsimp only; walk1) | walk_at "THEN")
  clear st2
  refine Halt.mk (objs5 (c := c) (mq := mq) rfl (hA.le (by decide)) X T F21 N22 mH mN dh' dn2 mx mdx hKfin rfl hsm mkx mkd (H.mono mnew) (mnew _ hd) hi fun h23 tk23 F23 N23 => ?_)
  clear N22 F21
  have st3 : StopAt 2 := .mk
  try dsimp only
  repeat' (first | walk1 | (dsimp only; walk1) | walk_at "THEN")
  clear st3
  refine Halt.mk (objs6 (c := c) rfl (hA.le (by decide)) X T hC7 hfr hfs oLd F23 N23 (fun p hp => ⟨(rR p hp).1, (rR p hp).2.1⟩) kp5 kpL L7 mH mN dh' dn2 mx mdx hKfin rfl rfl hsm mkx mkd fun h24 tk24 ps1 oL1 htr hoL1 F24 N24 => ?_)
  clear N23 F23
  walk_at "THEN"
  obtain ⟨sl1, hoL1⟩ := hoL1
  refine objs7 (c := c) (mq := mq) (b := b) rfl (hA.le (by decide)) X T hC7 hfr hfs (by rw [hoL1]; exact oLd) hb H.strOk F24 N24 htr rR kp5 kpL L7 mH mN dh' dn2 mx mdx hKfin hsm mkx mkd fun h25 tk25 ps2 oL2 m25 hoL2 F25 N25 => ?_
  obtain ⟨sl2, hoL2⟩ := hoL2
  have gL := (N25 (L, oL2) (by first | walk_at "MEM" | simp)).1
  rw [hoL2, hoL1] at gL
  refine ret p6 ps2 _ _ ⟨ns_up F.ns hL gL, F25.keep, F.above⟩ fun p hp => ?_
  refine mem_case hp ?_ fun p hp => ?_
  · exact ⟨(N25 _ (by rw [hR]; first | walk_at "MEM" | simp)).1, (N (566, tabObj #[]) (.tail _ (.head _))).2⟩
  refine mem_case hp ?_ fun p hp => ?_
  · exact ⟨(N25 _ (.head _)).1, (N (571, tabObj #[]) (.tail _ (.tail _ (.head _)))).2⟩
  · exact ⟨(N25 p (by rw [hR]; first | walk_at "MEM" | simp [hp])).1, (N p (.tail _ (.tail _ (.tail _ hp)))).2⟩
end
end
section
open PySem PySem.W PySem.Calls PyProof.Rows PySem.Spec
local macro_rules | `(tactic| walk_at "binaryOp Add ref ref") => `(tactic| (with_reducible refine halt ?_))
set_option maxHeartbeats 1000000 in
/-- led_flat of a location within a location -/
theorem flat_in {w : World} {mean : ExcName → Option Value} {mg mb : Str → Option Value} {G : Heap} {A : Around} {h : Heap} {g : Array GenState} {dr : Drawn} {tk : Nat} {os : OsState} {L a b c f : Addr} {m : Str → Option Value} {l : List (Addr × Obj)} {num : Int} {tn : Tok} {fs cs : List Value} {na nb nf nc : Nat} {Q E : Value → Shared → Prop}
    (hA : Rm A 5) (X : (KP w.params).In G) (T : Top topProg lsT mean mg mb G) (F : Fr G L h m) (N : News G L h l) (ha : (a, tupO [.ref b, .ref c] na) ∈ l) (hb : (b, tupO [.int num tn, .ref f] nb) ∈ l) (hf : (f, tupO fs nf) ∈ l) (hc : (c, tupO cs nc) ∈ l) (hz : fs.length + cs.length ≤ 100)
    (ret : ∀ D D2 n2 h' tk', Fr G L h' m → News G L h' ((D, tupO [.int num tn, .ref D2] 0) :: (D2, tupO (fs ++ cs) n2) :: l) → Q (.ref D) ⟨h', g, dr, tk', os⟩) :
    wpAny (model pw w) A (call (.ref 128) [.ref a]) Q E ⟨h, g, dr, tk, os⟩ := by
  refine wpAny_call (callE (s := ⟨h, g, dr, tk, os⟩) (binds := [(Str.ofString "location", .ref a)]) X T F (Nat.lt_of_le_of_lt (Nat.le_add_right _ _) hA.dp) (by k_is) (by k_is) (BindsTo.of_eq rfl) (locs rfl) rfl rfl rfl (by decide) fun L' h₁ oL E' hL eL F₁ k₁ => ?_)
  have N₁ : News G L' h₁ ((a, tupO [.ref b, .ref c] na) :: (b, tupO [.int num tn, .ref f] nb) :: (f, tupO fs nf) :: (c, tupO cs nc) :: (l ++ [(L, oL)])) := fun p hp => by
    have N₀ := news_in F N hL eL k₁
    refine mem_case hp ?_ fun p hp => ?_
    · exact N₀ _ (List.mem_append_left _ ha)
    refine mem_case hp ?_ fun p hp => ?_
    · exact N₀ _ (List.mem_append_left _ hb)
    refine mem_case hp ?_ fun p hp => ?_
    · exact N₀ _ (List.mem_append_left _ hf)
    refine mem_case hp ?_ fun p hp => ?_
    · exact N₀ _ (List.mem_append_left _ hc)
    · exact N₀ p hp
  have hh : A.handled = none := hA.hh
  try dsimp only
  repeat' (first | walk1 | (dsimp only; walk1) | walk_at "THEN")
  refine Halt.mk (add_tup (vs := fs) (ws := cs) (by assumption) (by assumption) (.tail _ (.tail _ (.head _))) (.tail _ (.tail _ (.tail _ (.head _)))) (fun D n h5 F5 N5 _ => ?_) (by omega))
  repeat' (first | walk1 | (dsimp only; walk1) | walk_at "THEN")
  rename Fr _ L' _ _ => F6
  rename News _ L' _ _ => N6
  have o := out_gen (l2 := _ :: _ :: l) F N hL F6 N6 (by first | walk_at "MEM" | simp) (fun p hp => by
    refine mem_case hp ?_ fun p hp => ?_
    · exact ⟨.head _, .inr ⟨_, _, rfl⟩⟩
    refine mem_case hp ?_ fun p hp => ?_
    · exact ⟨.tail _ (.head _), .inr ⟨_, _, rfl⟩⟩
    · exact ⟨by first | walk_at "MEM" | simp [hp], .inl ⟨_, hp⟩⟩)
  exact ret _ _ _ _ _ o.1 o.2
set_option maxHeartbeats 1000000 in
/-- led_flat of a plain location -/
theorem flat_plain {w : World} {mean : ExcName → Option Value} {mg mb : Str → Option Value} {G : Heap} {A : Around} {h : Heap} {g : Array GenState} {dr : Drawn} {tk : Nat} {os : OsState} {L a c : Addr} {m : Str → Option Value} {l : List (Addr × Obj)} {num : Int} {tn : Tok} {na : Nat} {Q E : Value → Shared → Prop}
    (hA : Rm A 5) (X : (KP w.params).In G) (T : Top topProg lsT mean mg mb G) (F : Fr G L h m) (N : News G L h l) (ha : (a, tupO [.int num tn, .ref c] na) ∈ l)
    (ret : ∀ h' tk', Fr G L h' m → News G L h' l → Q (.ref a) ⟨h', g, dr, tk', os⟩) :
    wpAny (model pw w) A (call (.ref 128) [.ref a]) Q E ⟨h, g, dr, tk, os⟩ := by
  refine wpAny_call (callE (s := ⟨h, g, dr, tk, os⟩) (binds := [(Str.ofString "location", .ref a)]) X T F (Nat.lt_of_le_of_lt (Nat.le_add_right _ _) hA.dp) (by k_is) (by k_is) (BindsTo.of_eq rfl) (locs rfl) rfl rfl rfl (by decide) fun L' h₁ oL E' hL eL F₁ k₁ => ?_)
  have N₁ : News G L' h₁ ((a, tupO [.int num tn, .ref c] na) :: (l ++ [(L, oL)])) := fun p hp => by
    have N₀ := news_in F N hL eL k₁
    refine mem_case hp ?_ fun p hp => ?_
    · exact N₀ _ (List.mem_append_left _ ha)
    · exact N₀ p hp
  have hh : A.handled = none := hA.hh
  try dsimp only
  repeat' (first | walk1 | (dsimp only; walk1) | walk_at "THEN")
  rename Fr _ L' _ _ => F6
  rename News _ L' _ _ => N6
  have o := out_any F N hL F6 N6 (by first | walk_at "MEM" | simp) (fun p hp => by first | walk_at "MEM" | simp [hp])
  exact ret _ _ o.1 o.2
end
section
open PySem PySem.W PySem.Calls PyProof.Rows PySem.Spec
local macro_rules | `(tactic| walk_at "binaryOp Add ref ref") => `(tactic| (with_reducible refine halt ?_))
local macro_rules | `(tactic| walk_at "subscriptTail") => `(tactic| ((with_reducible show wpAny _ _ (subscriptTail _ _ (Value.ref _) (Value.ref _)) _ _ _); with_reducible refine halt ?_))
theorem with_lit {a b c e : Int} {rd : PV} (h : PV.put (.int e) [0, 1] (.node true [.node false [.int a, .int b], .int c]) = some rd) : rd = .node true [.node false [.int a, .int e], .int c] := by
  have : PV.put (.int e) [0, 1] (.node true [.node false [.int a, .int b], .int c]) = some (.node true [.node false [.int a, .int e], .int c]) := by rfl
  rw [this] at h
  exact (Option.some.inj h).symm
theorem dp_lit {a e c : Int} : Dp 2 (.node true [.node false [.int a, .int e], .int c]) := .node fun x hx => by
  rcases List.mem_cons.mp hx with rfl | hx
  · exact .node fun y hy => by
      rcases List.mem_cons.mp hy with rfl | hy
      · exact .int _ _
      · rw [List.mem_singleton.mp hy]; exact .int _ _
  · rw [List.mem_singleton.mp hx]; exact .int _ _
theorem lit_reads {G h : Heap} {L D1 D2 D3 D4 : Addr} {t1 t2 t3 t4 t5 : Tok} {n1 n2 n3 n4 : Nat} {r : List (Addr × Obj)} (N : News G L h ((D1, tupO [.str (Str.ofString "struct") t1, .ref D2] n1) :: (D2, tupO [.ref D3, .int 3 t2] n2) :: (D3, tupO [.str (Str.ofString "array") t3, .ref D4] n3) :: (D4, tupO [.int 1 t4, .int 9 t5] n4) :: r)) :
    ∃ as, Reads h (.ref D1) (PV.node true [.node false [.int 1, .int 9], .int 3]).data as :=
  VIn.reads N (fun p hp => hp) (.node (st := true) (.head _) (.tail _ (.head _)) (.cons (.node (st := false) (.tail _ (.tail _ (.head _))) (.tail _ (.tail _ (.tail _ (.head _)))) (.cons (.int 1 _) (.cons (.int 9 _) .nil)) (by decide)) (.cons (.int 3 _) .nil)) (by decide))
theorem pv_shaped {k : Nat} {d : PV} (h : Dp k d) (hk : k ≤ 10) : PySem.SeqAt.shaped d.data = true := by
  have a := h.lay
  unfold PySem.SeqAt.shaped
  simp only [a.1, Bool.true_and]
  exact decide_eq_true (by have := a.2; omega)
theorem src_tup {G h : Heap} {L src D : Addr} {l : List (Addr × Obj)} {so : Obj} {M : Int} {vs : List Value} {n : Nat} (N : News G L h l) (hso : SrcO M so) (h1 : (src, so) ∈ l) (h2 : (D, tupO vs n) ∈ l) : D ≠ src :=
  news_ne N h2 h1 fun e => by
    obtain ⟨a, ta, b, tb, n, rfl, _⟩ := hso
    exact absurd (congrArg Obj.cls e) (by first | walk_at "MEM" | simp)
theorem perm_a {G h : Heap} {L : Addr} {a b c : Addr × Obj} {r : List (Addr × Obj)} (N : News G L h (a :: b :: c :: r)) : News G L h (c :: b :: r) := news_mem N fun p hp => by
  first | (refine sub_at ?_ hp; walk_at "SUB") | (simp only [List.mem_cons] at hp ⊢; (rcases hp with h | h | h <;> simp only [h, true_or, or_true]))
theorem off_a {G h : Heap} {L src D : Addr} {a : Addr × Obj} {r : List (Addr × Obj)} {so : Obj} {M : Int} {vs : List Value} {n : Nat} (N : News G L h (a :: (D, tupO vs n) :: (src, so) :: r)) (hso : SrcO M so) (hr : ∀ p ∈ r, p.1 ≠ src) : ∀ p ∈ (D, tupO vs n) :: r, p.1 ≠ src := fun p hp => by
  refine mem_case hp ?_ fun p hp => ?_
  · exact src_tup N hso (.tail _ (.tail _ (.head _))) (.tail _ (.head _))
  · exact hr p hp
theorem perm_b {G h : Heap} {L : Addr} {a b : Addr × Obj} {r : List (Addr × Obj)} (N : News G L h (a :: b :: r)) : News G L h (b :: a :: r) := news_mem N fun p hp => by
  first | (refine sub_at ?_ hp; walk_at "SUB") | (simp only [List.mem_cons] at hp ⊢; (rcases hp with h | h | h <;> simp only [h, true_or, or_true]))
theorem off_b {G h : Heap} {L src D : Addr} {r : List (Addr × Obj)} {so : Obj} {M : Int} {vs : List Value} {n : Nat} (N : News G L h ((D, tupO vs n) :: (src, so) :: r)) (hso : SrcO M so) (hr : ∀ p ∈ r, p.1 ≠ src) : ∀ p ∈ (D, tupO vs n) :: r, p.1 ≠ src := fun p hp => by
  refine mem_case hp ?_ fun p hp => ?_
  · exact src_tup N hso (.tail _ (.head _)) (.head _)
  · exact hr p hp
theorem flat_shaped (n : Int) (is : List Int) : PySem.SeqAt.shaped (.tuple [.int n, .tuple (is.map PyData.int)]) = true := by
  simp [SeqAt.shaped, PyData.canLay0, PyData.canLayAll0, PyData.depth, PyData.depthAll, ke_canLayAll0, ke_depthAll]
theorem flat_ne {w : World} {A : Around} {E : Value → Shared → Prop} {s : Shared} {G : Heap} {L D4 D5 D6 D7 : Addr} {l : List (Addr × Obj)} {Q : Value → Shared → Prop} {num : Int} {t1 t2 : Tok} {n1 n2 n3 n4 : Nat} {vs us : List Value} {is : List Int} (N : News G L s.heap l) (h1 : (D4, tupO [.int num t1, .ref D5] n1) ∈ l) (h2 : (D5, tupO vs n2) ∈ l) (h3 : (D7, tupO [.int num t2, .ref D6] n3) ∈ l) (h4 : (D6, tupO us n4) ∈ l) (hv : IntVs vs is) (hv' : IntVs us is) (hu : A.units + 64 < cLine)
    (h : Q (.bool false) s) : wpAny (model pw w) A (compareOp .NotEq (.ref D4) (.ref D7)) Q E s := by
  refine ne_dataH (da := .tuple [.int num, .tuple (is.map PyData.int)]) (db := .tuple [.int num, .tuple (is.map PyData.int)]) (reads_tuple_at (N _ h1).1 rfl rfl (.cons (.int _ _) (.cons (reads_tuple_at (N _ h2).1 rfl rfl hv.reads) .nil))) (reads_tuple_at (N _ h3).1 rfl rfl (.cons (.int _ _) (.cons (reads_tuple_at (N _ h4).1 rfl rfl hv'.reads) .nil))) (flat_shaped _ _) (flat_shaped _ _) hu ?_
  simpa [PyData.eqv, PyData.eqvAll, eqv_ints] using h
theorem keep_a {G h : Heap} {L : Addr} {p0 p1 p2 p3 p4 p5 d s x y : Addr × Obj} {r : List (Addr × Obj)} (N : News G L h (p0 :: p1 :: p2 :: p3 :: p4 :: p5 :: d :: s :: x :: y :: r)) : News G L h (d :: s :: r) := news_mem N fun p hp => by
  first | (refine sub_at ?_ hp; walk_at "SUB") | (simp only [List.mem_cons] at hp ⊢; (rcases hp with h | h | h <;> simp only [h, true_or, or_true]))
theorem keep_b {G h : Heap} {L : Addr} {p0 p1 p2 s x y z : Addr × Obj} (N : News G L h [p0, p1, p2, s, x, y, z]) : News G L h [s, z, x, y] := news_mem N fun p hp => by
  first | (refine sub_at ?_ hp; walk_at "SUB") | (simp only [List.mem_cons, List.not_mem_nil, or_false] at hp ⊢; (rcases hp with h | h | h | h <;> simp only [h, true_or, or_true]))
theorem keep_c {G h : Heap} {L : Addr} {s x y z : Addr × Obj} (N : News G L h [s, z, x, y]) : News G L h [s, x, y, z] := news_mem N fun p hp => by
  first | (refine sub_at ?_ hp; walk_at "SUB") | (simp only [List.mem_cons, List.not_mem_nil, or_false] at hp ⊢; (rcases hp with h | h | h | h <;> simp only [h, true_or, or_true]))
set_option maxHeartbeats 4000000 in
theorem law_body {w : World} {mean : ExcName → Option Value} {mg mb : Str → Option Value} {G : Heap} {A : Around} {h : Heap} {g : Array GenState} {dr : Drawn} {tk : Nat} {os : OsState} {L a fa : Addr} {cd : Value} {vs : List Value} {is : List Int} {Q : Flow → Shared → Prop} {E : Value → Shared → Prop}
    (hA0 : Rm A 201) (hfr : A.frames = some []) (X : (KP w.params).In G) (T : Top topProg lsT mean mg mb G) (F : Fr G L h fun y => List.lookup y [(Str.ofString "script", Value.ref a)].reverse) (N : News G L h [(566, tabObj #[]), (571, tabObj #[]), (559, tabObj #[])])
    (PK : Halt ((G.IsList a vs.toArray ∧ IntsAre vs is ∧ is.length ≤ 63) ∧ CodeHd G 568 566 ∧ CodeHd G 575 571 ∧ CodeHd G 563 559))
    (ret : ∀ h' tk' m' p5 p6 p7, Fr G L h' m' → News G L h' [(566, tabObj p6), (571, tabObj p7), (559, tabObj p5)] → Q (.ret (.bool true)) ⟨h', g, dr, tk', os⟩) :
    wpAny (model pw w) (A.deeper (envOf (Str.ofString "law") T44.1.2.2 L fa cd)) (execs T44.1.2.1 (envOf (Str.ofString "law") T44.1.2.2 L fa cd)) Q E ⟨h, g, dr, tk, os⟩ := by
  have hh : A.handled = none := hA0.hh
  have hA : Rm (A.deeper (envOf (Str.ofString "law") T44.1.2.2 L fa cd)) 200 := hA0.deeper
  have hu : (A.deeper (envOf (Str.ofString "law") T44.1.2.2 L fa cd)).units + 64 < cLine := by have := hA.un; omega
  try dsimp only
  repeat' (first | walk1 | (dsimp only; walk1) | walk_at "THEN")
  rename News _ _ _ _ => N1
  rename Fr _ _ _ _ => F1
  have S1 : ∀ l, Base G G L l [envOf (Str.ofString "law") T44.1.2.2 L fa cd] := fun l => ⟨fun b o e => .inl e, fun env he => by
    rw [List.mem_singleton.mp he]
    exact ⟨(show ScopeKind.function ≠ .module by decide), L, rfl, Heap.get?_none_of_le F1.above, .inl rfl⟩⟩
  have hfr' : (A.deeper (envOf (Str.ofString "law") T44.1.2.2 L fa cd)).frames = some [envOf (Str.ofString "law") T44.1.2.2 L fa cd] := by show (A.frames.map _) = _; rw [hfr]; rfl
  refine Halt.mk (with_ok (B := G) (hA.le (by decide)) X T F1 N1 hfr' (S1 _) (d := .node true [.node false [.int 1, .int 2], .int 3]) (pd := .int 9) (is := [0, 1]) (lv := _)
    (.node (st := true) (.tail _ (.head _)) (.tail _ (.tail _ (.head _))) (.cons (.node (st := false) (.tail _ (.tail _ (.tail _ (.head _)))) (.tail _ (.tail _ (.tail _ (.tail _ (.head _))))) (.cons (.int 1 _) (.cons (.int 2 _) .nil)) (by decide)) (.cons (.int 3 _) .nil)) (by decide))
    (.int 9 _) (fun p hp => hp) (.head _) (svs := [_, _]) ⟨⟨_, rfl⟩, ⟨_, rfl⟩, trivial⟩ (by decide) ?_ (fun e => by cases e))
  intro rd rv new h2 tk2 hput Vr hnt F2 N2
  obtain rfl := with_lit hput
  clear N1 F1
  repeat' (first | walk1 | (dsimp only; walk1) | walk_at "THEN")
  rename News _ L _ _ => N3
  rename Fr _ L _ _ => F3
  obtain ⟨as1, rd1⟩ := Vr.reads N3 fun p hp => .tail _ (.tail _ (.tail _ (.tail _ hp)))
  obtain ⟨as2, rd2⟩ := lit_reads N3
  refine ne_dataH rd1 rd2 (pv_shaped dp_lit (by decide)) (pv_shaped dp_lit (by decide)) hu ?_
  rw [PV.eqv_refl]
  clear rd1 rd2 Vr
  have N4 := news_mem (l' := [(566, tabObj #[]), (571, tabObj #[]), (559, tabObj #[])]) N3 fun p hp => by refine sub_at ?_ hp; walk_at "SUB"
  clear N3
  repeat' (first | walk1 | (dsimp only; walk1) | walk_at "THEN")
  refine Halt.mk (pool_ok (hA.le (by decide)) X T F3 N4 (halt PK).1.1 (halt PK).1.2.1 (halt PK).1.2.2 fun src so M h5 tk5 hso lt5 F5 N5 => ?_)
  clear N4 F3
  have l566 : @LT.lt Nat _ 566 src := lt5 _ (.head _)
  have l571 : @LT.lt Nat _ 571 src := lt5 _ (.tail _ (.head _))
  have l559 : @LT.lt Nat _ 559 src := lt5 _ (.tail _ (.tail _ (.head _)))
  have off3 : ∀ p ∈ [(566, tabObj #[]), (571, tabObj #[]), (559, tabObj #[])], p.1 ≠ src := fun p hp => Nat.ne_of_lt (lt5 p hp)
  repeat' (first | walk1 | (dsimp only; walk1) | walk_at "THEN")
  rename News _ L _ _ => N6
  rename Fr _ L _ _ => F6
  refine Halt.mk (take_ok (hA.le (by decide)) X T F6 N6 hso off3 (by decide) (by decide) fun num tn so1 h7 tk7 F7 N7 hso1 n0 n1 => ?_)
  clear N6 F6
  repeat' (first | walk1 | (dsimp only; walk1) | walk_at "THEN")
  refine Halt.mk (take_ok (hA.le (by decide)) X T F7 N7 hso1 off3 (by decide) (by decide) fun ff tf so2 h8 tk8 F8 N8 hso2 f0 f1 => ?_)
  clear N7 F7
  repeat' (first | walk1 | (dsimp only; walk1) | walk_at "THEN")
  rename News _ L _ _ => N9
  rename Fr _ L _ _ => F9
  have off10 := off_a (vs := [_]) N9 hso2 off3
  have N10 := perm_a N9
  clear N9
  refine Halt.mk (take_ok (hA.le (by decide)) X T F9 N10 hso2 off10 (by decide) (by decide) fun sv ts so3 h11 tk11 F11 N11 hso3 s0 s1 => ?_)
  clear N10 F9
  repeat' (first | walk1 | (dsimp only; walk1) | walk_at "THEN")
  rename News _ L _ _ => N12
  rename Fr _ L _ _ => F12
  have off13 := off_b (vs := [_, _]) N12 hso3 off10
  have N13 := perm_b N12
  clear N12
  refine Halt.mk (take_ok (hA.le (by decide)) X T F12 N13 hso3 off13 (by decide) (by decide) fun bb tb so4 h14 tk14 F14 N14 hso4 b0 b1 => ?_)
  clear N13 F12
  repeat' (first | walk1 | (dsimp only; walk1) | walk_at "THEN")
  obtain ⟨b, rfl⟩ := Int.eq_ofNat_of_zero_le b0
  have hb : b ≤ 2 := by omega
  refine Halt.mk (tmp_tup (k := (b : Int)) (b := b) (vs := [_, _]) (n := 0) rfl F14 N14 (.tail _ (.head _)) hb (by show 2 ≤ 1000; decide) (fun D3 k3 h15 F15 N15 _ => ?_))
  clear N14 F14
  have hj : IntVs (List.take b [Value.int sv ts, Value.int 1 tk11]) (List.take b [sv, 1]) := IntVs.take b ⟨⟨_, rfl⟩, ⟨_, rfl⟩, trivial⟩
  have hcl : (List.take b [Value.int sv ts, Value.int 1 tk11]).length ≤ 2 := by rw [List.length_take]; exact Nat.le_trans (Nat.min_le_right _ _) (Nat.le_refl 2)
  generalize List.take b [Value.int sv ts, Value.int 1 tk11] = cs at N15 hj hcl
  generalize List.take b [sv, 1] = js at hj
  repeat' (first | walk1 | (dsimp only; walk1) | walk_at "THEN")
  rename News _ L _ _ => N16
  rename Fr _ L _ _ => F16
  have hi2 : IntVs ([Value.int ff tf] ++ cs) ([ff] ++ js) := ⟨⟨_, rfl⟩, hj⟩
  refine Halt.mk (flat_in (fs := [Value.int ff tf]) (cs := cs) (hA.le (by decide)) X T F16 N16 (.head _) (.tail _ (.head _)) (.tail _ (.tail _ (.tail _ (.tail _ (.tail _ (.head _)))))) (.tail _ (.tail _ (.head _))) (by show 1 + cs.length ≤ 100; omega) fun D4 D5 n5 h17 tk17 F17 N17 => ?_)
  clear N16 F16
  repeat' (first | walk1 | (dsimp only; walk1) | walk_at "THEN")
  rename News _ L _ _ => N18
  rename Fr _ L _ _ => F18
  refine Halt.mk (add_tup (vs := [Value.int ff tf]) (ws := cs) F18 N18 (.tail _ (.tail _ (.tail _ (.tail _ (.tail _ (.tail _ (.tail _ (.head _)))))))) (.tail _ (.tail _ (.tail _ (.tail _ (.head _))))) (fun D6 n6 h19 F19 N19 _ => ?_) (by show 1 + cs.length ≤ 1000; omega))
  clear N18 F18
  repeat' (first | walk1 | (dsimp only; walk1) | walk_at "THEN")
  rename News _ L _ _ => N20
  rename Fr _ L _ _ => F20
  refine Halt.mk (flat_ne (vs := [Value.int ff tf] ++ cs) (us := [Value.int ff tf] ++ cs) N20 (.tail _ (.tail _ (.head _))) (.tail _ (.tail _ (.tail _ (.head _)))) (.head _) (.tail _ (.head _)) hi2 hi2 hu ?_)
  have N21 := keep_a N20
  clear N20
  repeat' (first | walk1 | (dsimp only; walk1) | walk_at "THEN")
  rename News _ L _ _ => N22
  rename Fr _ L _ _ => F22
  refine Halt.mk (flat_plain (hA.le (by decide)) X T F22 N22 (.head _) fun h23 tk23 F23 N23 => ?_)
  clear N22 F22
  repeat' (first | walk1 | (dsimp only; walk1) | walk_at "THEN")
  rename News _ L _ _ => N24
  rename Fr _ L _ _ => F24
  refine Halt.mk (flat_ne (vs := cs) (us := cs) N24 (.tail _ (.head _)) (.tail _ (.tail _ (.head _))) (.head _) (.tail _ (.tail _ (.head _))) hj hj hu ?_)
  have N25 := keep_b N24
  clear N24
  repeat' (first | walk1 | (dsimp only; walk1) | walk_at "THEN")
  have hfs' : ∀ env ∈ [envOf (Str.ofString "law") T44.1.2.2 L fa cd], env.scope.kind ≠ .module ∧ env.frame = some L := fun env he => by
    rw [List.mem_singleton.mp he]
    exact ⟨(show ScopeKind.function ≠ .module by decide), rfl⟩
  have off5 : ∀ q : Array Value, ∀ p ∈ [(559, tabObj q), (566, tabObj #[]), (571, tabObj #[])], p.1 ≠ src := fun q p hp => by
    refine mem_all hp (all_cons ?_ (all_cons ?_ (all_cons ?_ (all_nil))))
    · exact Nat.ne_of_lt l559
    · exact Nat.ne_of_lt l566
    · exact Nat.ne_of_lt l571
  rename Fr _ L _ _ => F25
  refine Halt.mk (parts_ok (hA.le (by decide)) X T F25 N25 hso4 (off5 _) (halt PK).2.2.2 (fun p hp => ?_) hfr' hfs' fun so5 p5 h26 tk26 F26 N26 hso5 => ?_)
  · refine mem_all hp (all_cons ?_ (all_cons ?_ (all_nil)))
    · show (566 : Nat) ≠ 559; omega
    · show (571 : Nat) ≠ 559; omega
  have N27 := keep_c N26
  clear N25 N26 F25
  repeat' (first | walk1 | (dsimp only; walk1) | walk_at "THEN")
  rename News _ L _ _ => N28
  rename Fr _ L _ _ => F28
  refine Halt.mk (objects_ok (hA.le (by decide)) X T F28 N28 hso5 (fun p hp => ?_) (halt PK).2.1 (halt PK).2.2.1 (fun p hp => ?_) (fun p hp => ?_) hfr' hfs' fun p6 p7 h29 tk29 F29 N29 => ?_)
  · refine mem_all hp (all_cons ?_ (all_cons ?_ (all_cons ?_ (all_nil))))
    · exact Nat.ne_of_lt l566
    · exact Nat.ne_of_lt l571
    · exact Nat.ne_of_lt l559
  · rw [List.mem_singleton.mp hp]; show (559 : Nat) ≠ 566; omega
  · rw [List.mem_singleton.mp hp]; show (559 : Nat) ≠ 571; omega
  clear N28 F28
  repeat' (first | walk1 | (dsimp only; walk1) | walk_at "THEN")
  rename News _ L _ _ => N30
  rename Fr _ L _ _ => F30
  exact ret _ _ _ p5 p6 p7 F30 N30
end
end
end
end
section
open PySem PySem.W PySem.Calls PyProof.Rows
set_option maxRecDepth 1000000
set_option maxHeartbeats 0
noncomputable abbrev hookK : Hook := kmHook KP addrsK (fun _ => by kernel_rfl!) tabsK
theorem fenced_pw : ∀ w : World, (fencedOpening treeTable pw w (4050 + 4050)).map (fun s => (s.heap, s.gens, s.drawn, s.toks)) = some (boot_heap w.params, Array.mk [], boot_drawn, boot_toks) :=
  boot_open (by rfl) (by decide) (fun _ => by rfl)
theorem left_gen {p q : Program} {loose : List Str} {Xt : Shared → Bool} {α : Type} {Yf : Shared → α} {Ya : World → α} {M K m : Nat} {ann : Option Value} {H : Params → Heap} {gs : Array GenState} {d₀ : Drawn} {k₀ : Nat}
    (open_ : ∀ w : World, (fencedOpening treeTable p w (M + K)).map (fun s => (s.heap, s.gens, s.drawn, s.toks)) = some (H w.params, gs, d₀, k₀))
    (z1 : ∀ w : World, ((H w.params).isNs mainGlobals && gs.size == 0) = true) (z2 : ∀ w : World, (H w.params).objs.size = m) (z3 : ∀ w : World, (H w.params).nsMap mainGlobals "__annotations__" = ann)
    (run : ∀ (w : World) (o : OsState), (topRun treeTable p w m ann M ⟨H w.params, gs, d₀, k₀, o⟩ (topStub p)).map (fun s₁ =>
      ((staticsOk (importedModules p.main.body) (H w.params) s₁.heap && namesBound p s₁.heap && gensDone s₁ && laidKept (H w.params) s₁.heap), openSeen q loose (importedModules p.main.body) Xt true s₁, Yf s₁)) = some (true, openGood q loose, Ya w)) :
    LeftO p q loose Xt Yf Ya (M + K) := fun w => by
  obtain ⟨⟨h, gs', d, k, o⟩, e, e'⟩ := Option.map_eq_some_iff.mp (open_ w)
  simp only [Prod.mk.injEq] at e'
  obtain ⟨rfl, rfl, rfl, rfl⟩ := e'
  obtain ⟨s₁, r, q⟩ := Option.map_eq_some_iff.mp (run w o)
  have r := topRun_mono K _ _ _ _ r
  simp only [Prod.mk.injEq] at q
  obtain ⟨q1, q2, q3⟩ := q
  have t : topFrom treeTable p w (M + K) ⟨H w.params, gs', d, k, o⟩ = some s₁ := by
    unfold topFrom
    dsimp only
    rw [z1, z2, z3, r]
    show (match staticsOk (importedModules p.main.body) (H w.params) s₁.heap && namesBound p s₁.heap && gensDone s₁ && laidKept (H w.params) s₁.heap with | true => _ | false => _) = _
    rw [q1]
  unfold openEnds
  rw [e]
  show (topFrom treeTable p w (M + K) _).map _ = _
  rw [t]
  exact congrArg some (Prod.ext q2 q3)
theorem left : LeftO pw qv loose Xt (Hook.obs hookK) (Hook.val hookK) (4050 + 4050) :=
  left_gen (Yf := Hook.obs hookK) (Ya := Hook.val hookK) (m := 11) (ann := some (.ref 6)) fenced_pw (fun _ => by kernel_rfl!) (fun _ => by kernel_rfl!) (fun _ => by kernel_rfl!) run_eq
noncomputable abbrev dlaw : DefRec := { name := Str.ofString "law", params := T44.1.1, body := T44.1.2.1, scope := T44.1.2.2, pos := ⟨365, 0, 375, 66⟩ }
theorem hd (hc : WalkO qv loose (XL qv []) (Hook.says hookK) rl.row.toRowW dlaw [] fun f vs => PySem.call f vs) : rl.Holds := by
  w_on
  refine holds_law (by decide +kernel) fun said => ?_
  refine holds_open (r := rl.row) (q := qv) (loose := loose) (Xt := Xt) (XP := XL qv []) (Yf := Hook.obs hookK) (Ya := Hook.val hookK) (YP := Hook.says hookK) (N := 4050 + 4050) left (Hook.of hookK) (Hook.keeps hookK) (fun s e => xl_of s (Bool.and_eq_true_iff.mp e).1) XL.keeps
    (by rfl) (by rfl) (by rfl) (fun s e => recFacts_of (Bool.and_eq_true_iff.mp e).2) (by rfl) (by first | assumption | decide +kernel) (by decide +kernel) ⟨rfl, rfl, rfl, rfl, rfl, by decide +kernel⟩ ?hw hc
  w_witness2
end
section
open PySem PySem.W PySem.Calls PyProof.Rows PySem.Spec
local macro_rules | `(tactic| walk_at "call ref") => `(tactic| (fail "no"))
set_option maxHeartbeats 4000000 in
theorem law_holds : rl.Holds := by
  w_on
  refine hd ?_
  intro w s₀ s₁ mg mb G Y fa o pm cd doc dV kV ho hd hcd hD hmg hg args vals as hpre hlay hrd hwl hlo
  have KX := km_in_of Y
  km_tabs Y
  have X := (Ground.X G).1
  have V := (Ground.X G).2
  refine Ground.open G ?_
  intro T B D TE TW
  try (refine guard_noD D (by decide +kernel) ?_; clear D)
  have hmg' : mg (Str.ofString "law") = some (.ref fa) := hmg
  clear hmg
  have hmg := hmg'
  clear hmg'
  have hT9 : ∀ P ∈ ([566, 571, 559] : List Addr), s₁.heap.get? P = some (tabObj #[]) := hT8
  clear hT8
  have hT8 := hT9
  clear hT9
  km_lay T hmg ho hd cd
  clear hmg
  have hd' : o.data = Data.func { name := (Str.ofString "law"), qualname := (Str.ofString "law"), params := T44.1.1, body := .stmts T44.1.2.1, scope := T44.1.2.2, globals := mainGlobals, closure := [], defaults := dV, kwdefaults := kV, doc := doc, pyModule := pm, annotations := none, code := cd, closureTuple := .none, builtins := builtinsNs } := hd
  clear hd
  have hd := hd'
  clear hd'
  wrow_args hpre hlay hrd hwl hlo
  all_goals (
    first | refine callC_kw (enter_call ?_) | refine enter_call ?_
    w_top on
    kn_posts
    w_call any ho hd hcd hD T F
    clear hd
    kn_ghosts F T
    k_drop
    skip)
  rename Fr _ _ _ _ => FF
  rename News _ _ _ _ => NN
  rename Frag.In _ _ => XX
  rename Top topProg _ _ _ _ _ => TT
  rename IntsAre _ _ => II
  rename Heap.IsList (ghostOf _ _) _ _ => LL
  refine law_body (A := callerA) ⟨rfl, by decide, by decide⟩ rfl XX TT FF NN (Halt.mk ⟨⟨LL, II, by omega⟩, by assumption, by assumption, by assumption⟩) (fun h' tk' m' p5 p6 p7 F N => ?_)
  refine ⟨?_, ⟨p6, (N _ (.head _)).1⟩, ⟨p7, (N _ (.tail _ (.head _))).1⟩, ⟨p5, (N _ (.tail _ (.tail _ (.head _)))).1⟩, trivial⟩
  dsimp only
  refine goodW_bool F hg (raisesW_false ?_) ?_
  · wrow_none_raised
  · wrow_post
end
end Mine
theorem PySem.Challenge.cw_xm0176_01_holds : PySem.Challenge.rw_xm0176_01.Holds :=
  Mine.law_holds
