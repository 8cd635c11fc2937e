import PyProof.Rows.All
import Wide.All
import OpenK.AllK
import Wide.FinOn
import PySem.Challenge.RW_xw0350_01
set_option Elab.async false
set_option maxRecDepth 100000
set_option compiler.extract_closed false
section
set_option maxHeartbeats 200000

namespace Mine.H
open PySem PySem.W
/-- one of a list, by its place -/
noncomputable def nth {α : Type} (d : α) (l : List α) : Nat → α :=
  @List.rec α (fun _ => Nat → α) (fun _ => d) (fun a _ ih k => @Nat.rec (fun _ => α) a (fun m _ => ih m) k) l
noncomputable def tak {α : Type} (l : List α) : Nat → List α :=
  @List.rec α (fun _ => Nat → List α) (fun _ => []) (fun a _ ih k => @Nat.rec (fun _ => List α) [] (fun m _ => a :: ih m) k) l
noncomputable def app {α : Type} (l r : List α) : List α := @List.rec α (fun _ => List α) r (fun a _ ih => a :: ih) l
/-- every other one -/
noncomputable def alt (l : List Obj) : List Obj :=
  @List.rec Obj (fun _ => Bool → List Obj) (fun _ => []) (fun a _ ih b => @Bool.rec (fun _ => List Obj) (ih true) (a :: ih false) b) l true
noncomputable def tl (l : List Obj) : List Obj := @List.rec Obj (fun _ => List Obj) [] (fun _ r _ => r) l
noncomputable def treeA (d : Nat) : List Obj → BT :=
  @Nat.rec (fun _ => List Obj → BT) (fun _ => .nil) (fun _ ih l => @List.rec Obj (fun _ => BT) .nil (fun a r _ => .node a (ih (alt r)) (ih (alt (tl r)))) l) d
noncomputable def treeB (d : Nat) : List Obj → BT :=
  @Nat.rec (fun _ => List Obj → BT) (fun _ => .nil) (fun _ ih l => @List.rec Obj (fun _ => BT) .nil (fun a r _ => .node a (ih (alt r)) (ih (alt (tl r)))) l) d
noncomputable def st (p : Program) (k : Nat) : Stmt := nth (.Pass ⟨0, 0, 0, 0⟩) p.main.body k
noncomputable def mt (p : Program) (k j : Nat) : Stmt := match st p k with
  | .ClassDef _ _ _ b _ _ _ _ _ _ _ => nth (.Pass ⟨0, 0, 0, 0⟩) b j
  | x => x
noncomputable abbrev n : Value := .none
noncomputable abbrev b (x : Bool) : Value := .bool x
noncomputable abbrev i (x : Int) (t : Nat) : Value := .int x t
noncomputable abbrev z (x : Nat) : Value := .int (Int.ofNat x) 0
noncomputable abbrev s (x : Str) (t : Nat) : Value := .str x t
noncomputable abbrev y (x : String) : Value := .type x
noncomputable abbrev u (x : String) : Value := .builtin x
noncomputable abbrev f (a : Nat) : Value := .ref a
noncomputable abbrev e (P : Params) (x : Str) (t : Nat) (v : Value) : DictEntry := ⟨PyData.keyHash P x, .str x t, v⟩
noncomputable abbrev dPlain : PySem.Data := .plain
noncomputable abbrev dSeq (l : List Value) : PySem.Data := .seq ⟨l⟩ 0
noncomputable abbrev dDict (k : Nat) (l : List DictEntry) : PySem.Data := .dict ⟨l⟩ k
noncomputable abbrev dFields (l : List Value) : PySem.Data := .fields ⟨l⟩
noncomputable abbrev dCls (name : Str) (bases mro : List Value) (ns : Nat) (q : Str) (hd : Bool) (sub : List Value) (del : Bool) : PySem.Data :=
  .cls { name := name, bases := bases, mro := mro, ns := ns, qualname := q, hasDict := hd, subclasses := sub, hasDel := del }
noncomputable abbrev o (c : Value) (d : PySem.Data) : Obj := ⟨c, none, d, ⟨[]⟩⟩
noncomputable abbrev os (c : Value) (d : PySem.Data) (l : List (Option Value)) : Obj := ⟨c, none, d, ⟨l⟩⟩
/-- a list of names with their tokens -/
noncomputable def toks (l : List Str) : Nat → List Value := @List.rec Str (fun _ => Nat → List Value) (fun _ => []) (fun a _ ih t => .str a t :: ih (Nat.add t 1)) l
noncomputable def len (l : List Str) : Nat := @List.rec Str (fun _ => Nat) 0 (fun _ _ k => Nat.add k 1) l
noncomputable def fdt (x : Stmt) (q : Str) (glob : Nat) (dfl md code : Value) : FuncData := match x with
  | .FunctionDef name a b _ _ _ sc _ _ _ => { name := name, qualname := q, params := a, body := .stmts b, scope := sc, globals := glob, closure := [], defaults := dfl, kwdefaults := .none, pyModule := md, code := code }
  | _ => { name := q, qualname := q, params := ⟨[], [], none, [], [], none, []⟩, body := .stmts [], scope := ⟨.function, [], false, false, []⟩, globals := glob, closure := [], defaults := dfl, kwdefaults := .none }
noncomputable def nameOf (x : Stmt) : Str := match x with
  | .FunctionDef name _ _ _ _ _ _ _ _ _ => name
  | _ => "?"
/-- the seven objects of a def that has a list of names -/
noncomputable def f7 (a t : Nat) (x : Stmt) (q : Str) (md dfl : Value) (names : List Str) (argc line : Nat) (r : List Obj) : List Obj :=
  o (y "tuple") (dSeq []) :: o n (dFields []) :: o (y "tuple") (dSeq (toks names (Nat.add t 3))) :: o (y "tuple") (dSeq []) :: o n (.func (fdt x q builtinsNs .none .none .none)) ::
  o (y "code") (dFields [s (nameOf x) t, s q (Nat.add t 1), s "/claim/cut.py" (Nat.add t 2), z line, z argc, z 0, z 0, z 3, f a, b true, z 181, f (Nat.add a 1), n, f (Nat.add a 2), f (Nat.add a 3), f (Nat.add a 4), z (Nat.add t (Nat.add 3 (len names))), z line, s "/claim/cut.py" (Nat.add t (Nat.add 4 (len names)))]) ::
  o (y "function") (.func (fdt x q mainNs dfl md (f (Nat.add a 5)))) :: r
/-- the five of one that has none -/
noncomputable def f5 (a t : Nat) (x : Stmt) (q : Str) (md dfl : Value) (argc line : Nat) (r : List Obj) : List Obj :=
  o (y "tuple") (dSeq []) :: o n (dFields []) :: o n (.func (fdt x q builtinsNs .none .none .none)) ::
  o (y "code") (dFields [s (nameOf x) t, s q (Nat.add t 1), s "/claim/cut.py" (Nat.add t 2), z line, z argc, z 0, z 0, z 3, f a, b true, z 181, f (Nat.add a 1), n, n, n, f (Nat.add a 2), z (Nat.add t 3), z line, s "/claim/cut.py" (Nat.add t 4)]) ::
  o (y "function") (.func (fdt x q mainNs dfl md (f (Nat.add a 3)))) :: r

noncomputable def bound (P : Params) : List DictEntry := [e P "_wall" 193 (f 21), e P "plus" 204 (f 28), e P "distance" 213 (f 35), e P "is_before" 223 (f 42), e P "is_at_most" 232 (f 49), e P "latest" 241 (f 56), e P "Assembly" 394 (f 148), e P "Receiver" 563 (f 282), e P "StackError" 594 (f 303), e P "FormError" 610 (f 316), e P "SizeError" 626 (f 328), e P "StateError" 642 (f 340), e P "need" 653 (f 349), e P "get16" 661 (f 356), e P "OPTIONS_END" 665 (i 0 664), e P "OPTION_NOTHING" 667 (i 1 666), e P "OPTION_MSS" 669 (i 2 668), e P "MSS_SIZE" 671 (i 4 670), e P "Segment" 741 (f 395), e P "mss_of" 751 (f 406), e P "PLAIN_MSS" 755 (i 536 754), e P "take_syn" 765 (f 413), e P "AckPolicy" 838 (f 466), e P "Congestion" 958 (f 557), e P "MOST_SHIFT" 962 (i 7 961), e P "RetransmitClock" 1061 (f 634), e P "RttEstimate" 1137 (f 690), e P "SendQueue" 1209 (f 746), e P "PeerWindow" 1271 (f 788), e P "Sender" 1508 (f 979), e P "CLOSED" 1510 (s "closed" 1509), e P "Wheel" 1604 (f 1046), e P "Limits" 1653 (f 1067), e P "clock_of" 1661 (f 1078), e P "Tcb" 1724 (f 1110), e P "_law_pool" 1737 (f 1121), e P "_law_take" 1746 (f 1128), e P "_law_one" 1754 (f 1135), e P "_law_forms" 1763 (f 1142), e P "_law_right" 1780 (f 1149), e P "law" 1793 (f 1156)]
noncomputable def table : List Value := [(z 1), (z 0), (f 20), (z 5), (z 0), (f 27), (z 7), (z 0), (f 34), (z 9), (z 0), (f 41), (z 12), (z 0), (f 48), (z 14), (z 0), (f 55), (z 17), (z 0), (f 62), (z 107), (z 0), (f 158), (z 180), (z 0), (f 292), (z 184), (z 0), (f 312), (z 186), (z 0), (f 324), (z 188), (z 0), (f 336), (z 191), (z 0), (f 348), (z 194), (z 0), (f 355), (z 202), (z 0), (f 362), (z 223), (z 0), (f 405), (z 243), (z 0), (f 412), (z 250), (z 0), (f 419), (z 273), (z 0), (f 476), (z 337), (z 0), (f 567), (z 381), (z 0), (f 644), (z 419), (z 0), (f 700), (z 448), (z 0), (f 756), (z 465), (z 0), (f 798), (z 595), (z 0), (f 989), (z 649), (z 0), (f 1056), (z 662), (z 0), (f 1077), (z 665), (z 0), (f 1084), (z 689), (z 0), (f 1120), (z 694), (z 0), (f 1127), (z 701), (z 0), (f 1134), (z 703), (z 0), (f 1141), (z 708), (z 0), (f 1148), (z 721), (z 0), (f 1155)]
noncomputable def top11 : Obj := o (y "tuple") (dSeq [])
noncomputable def top13 : Obj := o (y "code") (dFields [(s "<module>" 182), (s "<module>" 183), (s "/claim/cut.py" 184), (z 1), (z 0), (z 0), (z 0), (z 0), (f 11), (b false), (z 181), (f 12), n, n, n, n, (z 185), (z 1), (s "/claim/cut.py" 186)])
noncomputable def top14 : Obj := os (y "frame") dPlain [some (f 13), some (f 3), some (f 3), none, some (s "__main__" 164), none, some (f 0)]
noncomputable def first8 (P : Params) : List DictEntry := [e P "__doc__" 166 n, e P "__package__" 167 n, e P "__loader__" 168 (u "__main__.__loader__#opaque"), e P "__spec__" 169 n, e P "__annotations__" 170 (f 6), e P "__builtins__" 171 (f 4), e P "__file__" 173 (s "/claim/cut.py" 172), e P "__cached__" 174 n]
noncomputable def stat2 (P : Params) : List DictEntry := [e P "type.__subclasses__.Exception.0" 591 (z 303), e P "type.__subclasses__.Exception.n" 592 (z 1)]
noncomputable def g0 (P : Params) (p : Program) (r : List Obj) : List Obj :=
  f7 15 187 (st p 0) "_wall" (s "__main__" 164) n ["k"] 1 1 ( r)
noncomputable def g2 (P : Params) (p : Program) (r : List Obj) : List Obj :=
  f7 22 196 (st p 2) "plus" (s "thinstack.sequence" 194) n ["a", "n", "ring"] 3 5 ( r)
noncomputable def g3 (P : Params) (p : Program) (r : List Obj) : List Obj :=
  f7 29 205 (st p 3) "distance" (s "thinstack.sequence" 194) n ["a", "b", "ring"] 3 7 ( r)
noncomputable def g4 (P : Params) (p : Program) (r : List Obj) : List Obj :=
  f7 36 214 (st p 4) "is_before" (s "thinstack.sequence" 194) n ["a", "b", "ring", "gap"] 3 9 ( r)
noncomputable def g5 (P : Params) (p : Program) (r : List Obj) : List Obj :=
  f7 43 224 (st p 5) "is_at_most" (s "thinstack.sequence" 194) n ["a", "b", "ring"] 3 12 ( r)
noncomputable def g6 (P : Params) (p : Program) (r : List Obj) : List Obj :=
  f7 50 233 (st p 6) "latest" (s "thinstack.sequence" 194) n ["a", "b", "ring"] 3 14 ( r)
noncomputable def g8 (P : Params) (p : Program) (r : List Obj) : List Obj :=
  (o (y "tuple") (dSeq [])) :: 
  (o (y "builtin_function_or_method") (dFields [(u "type.__prepare__"), (y "type")])) :: 
  (o (y "dict") (dDict 16 [e P "__module__" 251 (s "thinstack.assembly" 242), e P "__qualname__" 253 (s "Assembly" 252), e P "__firstlineno__" 255 (i 17 254), e P "__init__" 263 (f 70), e P "size" 269 (f 75), e P "is_empty" 276 (f 82), e P "offset" 285 (f 89), e P "put" 297 (f 96), e P "missing" 314 (f 103), e P "merged" 328 (f 110), e P "joined" 343 (f 117), e P "forget" 354 (f 124), e P "take" 362 (f 131), e P "holes" 375 (f 138), e P "cut_behind" 384 (f 145), e P "__static_attributes__" 387 (f 146)])) :: 
  (o (y "tuple") (dSeq [])) :: 
  (o n (dFields [(z 19), (z 4), (f 69), (z 23), (z 4), (f 74), (z 26), (z 4), (f 81), (z 29), (z 4), (f 88), (z 34), (z 4), (f 95), (z 44), (z 4), (f 102), (z 61), (z 4), (f 109), (z 70), (z 4), (f 116), (z 81), (z 4), (f 123), (z 92), (z 4), (f 130), (z 95), (z 4), (f 137), (z 104), (z 4), (f 144)])) :: 
  (o (y "code") (dFields [(s "Assembly" 246), (s "Assembly" 247), (s "/claim/cut.py" 248), (z 17), (z 0), (z 0), (z 0), (z 0), (f 60), (b false), (z 181), (f 61), n, n, n, n, (z 249), (z 17), (s "/claim/cut.py" 250)])) :: 
  (os (y "frame") dPlain [some (f 62), some (f 3), some (f 59), none, some (s "thinstack.assembly" 242), none, some (f 0)]) :: 
  f7 64 256 (mt p 8 0) "Assembly.__init__" (s "thinstack.assembly" 242) n ["self", "ring"] 2 19 (
  f5 71 264 (mt p 8 1) "Assembly.size" (s "thinstack.assembly" 242) n 1 23 (
  f7 76 270 (mt p 8 2) "Assembly.is_empty" (s "thinstack.assembly" 242) n ["self"] 1 26 (
  f7 83 277 (mt p 8 3) "Assembly.offset" (s "thinstack.assembly" 242) n ["self", "seq", "next"] 3 29 (
  f7 90 286 (mt p 8 4) "Assembly.put" (s "thinstack.assembly" 242) n ["self", "seq", "octets", "next", "begin", "fresh"] 4 34 (
  f7 97 298 (mt p 8 5) "Assembly.missing" (s "thinstack.assembly" 242) n ["self", "begin", "octets", "next", "end", "found", "at", "seq", "kept", "first", "last"] 4 44 (
  f7 104 315 (mt p 8 6) "Assembly.merged" (s "thinstack.assembly" 242) n ["self", "fresh", "next", "found", "rest", "seq", "kept", "first"] 3 61 (
  f7 111 329 (mt p 8 7) "Assembly.joined" (s "thinstack.assembly" 242) n ["self", "pieces", "next", "found", "end", "first", "octets", "seq", "ahead"] 3 70 (
  f7 118 344 (mt p 8 8) "Assembly.forget" (s "thinstack.assembly" 242) n ["self", "next", "seq", "octets", "begin"] 2 81 (
  f7 125 355 (mt p 8 9) "Assembly.take" (s "thinstack.assembly" 242) n ["self", "next"] 2 92 (
  f7 132 363 (mt p 8 10) "Assembly.holes" (s "thinstack.assembly" 242) n ["self", "next", "found", "at", "seq", "octets", "missing"] 2 95 (
  f7 139 376 (mt p 8 11) "Assembly.cut_behind" (s "thinstack.assembly" 242) n ["self", "edge", "next"] 3 104 (
  (o (y "tuple") (dSeq [(s "parts" 385), (s "ring" 386)])) :: 
  (o (y "dict") (dDict 4 [e P "__module__" 251 (s "thinstack.assembly" 242), e P "__firstlineno__" 255 (i 17 254), e P "__init__" 263 (f 70), e P "size" 269 (f 75), e P "is_empty" 276 (f 82), e P "offset" 285 (f 89), e P "put" 297 (f 96), e P "missing" 314 (f 103), e P "merged" 328 (f 110), e P "joined" 343 (f 117), e P "forget" 354 (f 124), e P "take" 362 (f 131), e P "holes" 375 (f 138), e P "cut_behind" 384 (f 145), e P "__static_attributes__" 387 (f 146), e P "__dict__" 389 (f 149), e P "__weakref__" 391 (f 150), e P "__doc__" 392 n])) :: 
  (os (y "type") (dCls "Assembly" [(y "object")] [(f 148), (y "object")] 147 "Assembly" true [] false) [none, none, some (s "Assembly" 244), some (s "Assembly" 252), some (u "object.__new__"), some (b true)]) :: 
  (o (y "getset_descriptor") (dFields [(s "__dict__" 388), (f 148), (u "function.__dict__"), (u "function.__dict__#set")])) :: 
  (o (y "getset_descriptor") (dFields [(s "__weakref__" 390), (f 148), (u "ExceptionGroup.__weakref__"), n])) :: 
  (o (y "super") (dFields [(f 148), (f 148), (f 148)])) :: 
  (o (y "builtin_function_or_method") (dFields [(u "object.__init_subclass__"), (f 148)])) ::  r))))))))))))
noncomputable def g10 (P : Params) (p : Program) (r : List Obj) : List Obj :=
  (o (y "tuple") (dSeq [])) :: 
  (o (y "builtin_function_or_method") (dFields [(u "type.__prepare__"), (y "type")])) :: 
  (o (y "dict") (dDict 21 [e P "__module__" 404 (s "thinstack.receiver" 395), e P "__qualname__" 406 (s "Receiver" 405), e P "__firstlineno__" 408 (i 107 407), e P "__init__" 420 (f 167), e P "free_edge" 427 (f 174), e P "should_tell" 435 (f 181), e P "told_window" 442 (f 188), e P "window" 449 (f 195), e P "arrive" 459 (f 202), e P "let_in" 468 (f 209), e P "note_fin" 476 (f 216), e P "ahead_of_fin" 485 (f 223), e P "gather" 492 (f 230), e P "has_holes" 499 (f 237), e P "available" 506 (f 244), e P "read" 515 (f 251), e P "is_over" 522 (f 258), e P "read_place" 530 (f 265), e P "urgent" 538 (f 272), e P "urgent_left" 545 (f 279), e P "__static_attributes__" 556 (f 280)])) :: 
  (o (y "tuple") (dSeq [])) :: 
  (o n (dFields [(z 109), (z 4), (f 166), (z 121), (z 4), (f 173), (z 124), (z 4), (f 180), (z 129), (z 4), (f 187), (z 134), (z 4), (f 194), (z 139), (z 4), (f 201), (z 142), (z 4), (f 208), (z 145), (z 4), (f 215), (z 148), (z 4), (f 222), (z 151), (z 4), (f 229), (z 154), (z 4), (f 236), (z 157), (z 4), (f 243), (z 160), (z 4), (f 250), (z 165), (z 4), (f 257), (z 168), (z 4), (f 264), (z 172), (z 4), (f 271), (z 177), (z 4), (f 278)])) :: 
  (o (y "code") (dFields [(s "Receiver" 399), (s "Receiver" 400), (s "/claim/cut.py" 401), (z 107), (z 0), (z 0), (z 0), (z 0), (f 156), (b false), (z 181), (f 157), n, n, n, n, (z 402), (z 107), (s "/claim/cut.py" 403)])) :: 
  (os (y "frame") dPlain [some (f 158), some (f 3), some (f 155), none, some (s "thinstack.receiver" 395), none, some (f 0)]) :: 
  (o (y "tuple") (dSeq [(i 1 409)])) :: 
  f7 161 410 (mt p 10 0) "Receiver.__init__" (s "thinstack.receiver" 395) (f 160) ["self", "irs", "ring", "room", "mss"] 5 109 (
  f7 168 421 (mt p 10 1) "Receiver.free_edge" (s "thinstack.receiver" 395) n ["self"] 1 121 (
  f7 175 428 (mt p 10 2) "Receiver.should_tell" (s "thinstack.receiver" 395) n ["self", "mss"] 2 124 (
  f7 182 436 (mt p 10 3) "Receiver.told_window" (s "thinstack.receiver" 395) n ["self"] 1 129 (
  f7 189 443 (mt p 10 4) "Receiver.window" (s "thinstack.receiver" 395) n ["self"] 1 134 (
  f7 196 450 (mt p 10 5) "Receiver.arrive" (s "thinstack.receiver" 395) n ["self", "seq", "octets", "has_fin"] 4 139 (
  f7 203 460 (mt p 10 6) "Receiver.let_in" (s "thinstack.receiver" 395) n ["self", "seq", "octets"] 3 142 (
  f7 210 469 (mt p 10 7) "Receiver.note_fin" (s "thinstack.receiver" 395) n ["self", "place"] 2 145 (
  f7 217 477 (mt p 10 8) "Receiver.ahead_of_fin" (s "thinstack.receiver" 395) n ["self", "seq", "octets"] 3 148 (
  f7 224 486 (mt p 10 9) "Receiver.gather" (s "thinstack.receiver" 395) n ["self"] 1 151 (
  f7 231 493 (mt p 10 10) "Receiver.has_holes" (s "thinstack.receiver" 395) n ["self"] 1 154 (
  f7 238 500 (mt p 10 11) "Receiver.available" (s "thinstack.receiver" 395) n ["self"] 1 157 (
  f7 245 507 (mt p 10 12) "Receiver.read" (s "thinstack.receiver" 395) n ["self", "many", "found"] 2 160 (
  f7 252 516 (mt p 10 13) "Receiver.is_over" (s "thinstack.receiver" 395) n ["self"] 1 165 (
  f7 259 523 (mt p 10 14) "Receiver.read_place" (s "thinstack.receiver" 395) n ["self", "behind"] 1 168 (
  f7 266 531 (mt p 10 15) "Receiver.urgent" (s "thinstack.receiver" 395) n ["self", "pointer"] 2 172 (
  f7 273 539 (mt p 10 16) "Receiver.urgent_left" (s "thinstack.receiver" 395) n ["self"] 1 177 (
  (o (y "tuple") (dSeq [(s "assembly" 546), (s "fin_at" 547), (s "has_fin" 548), (s "mss" 549), (s "next" 550), (s "ready" 551), (s "ring" 552), (s "room" 553), (s "told_edge" 554), (s "urgent_at" 555)])) :: 
  (o (y "dict") (dDict 4 [e P "__module__" 404 (s "thinstack.receiver" 395), e P "__firstlineno__" 408 (i 107 407), e P "__init__" 420 (f 167), e P "free_edge" 427 (f 174), e P "should_tell" 435 (f 181), e P "told_window" 442 (f 188), e P "window" 449 (f 195), e P "arrive" 459 (f 202), e P "let_in" 468 (f 209), e P "note_fin" 476 (f 216), e P "ahead_of_fin" 485 (f 223), e P "gather" 492 (f 230), e P "has_holes" 499 (f 237), e P "available" 506 (f 244), e P "read" 515 (f 251), e P "is_over" 522 (f 258), e P "read_place" 530 (f 265), e P "urgent" 538 (f 272), e P "urgent_left" 545 (f 279), e P "__static_attributes__" 556 (f 280), e P "__dict__" 558 (f 283), e P "__weakref__" 560 (f 284), e P "__doc__" 561 n])) :: 
  (os (y "type") (dCls "Receiver" [(y "object")] [(f 282), (y "object")] 281 "Receiver" true [] false) [none, none, some (s "Receiver" 397), some (s "Receiver" 405), some (u "object.__new__"), some (b true)]) :: 
  (o (y "getset_descriptor") (dFields [(s "__dict__" 557), (f 282), (u "function.__dict__"), (u "function.__dict__#set")])) :: 
  (o (y "getset_descriptor") (dFields [(s "__weakref__" 559), (f 282), (u "ExceptionGroup.__weakref__"), n])) :: 
  (o (y "super") (dFields [(f 282), (f 282), (f 282)])) :: 
  (o (y "builtin_function_or_method") (dFields [(u "object.__init_subclass__"), (f 282)])) ::  r)))))))))))))))))
noncomputable def g12 (P : Params) (p : Program) (sub : List Value) (r : List Obj) : List Obj :=
  (o (y "tuple") (dSeq [(y "Exception")])) :: 
  (o (y "builtin_function_or_method") (dFields [(u "type.__prepare__"), (y "type")])) :: 
  (o (y "dict") (dDict 5 [e P "__module__" 573 (s "thinstack.errors" 564), e P "__qualname__" 575 (s "StackError" 574), e P "__firstlineno__" 577 (i 180 576), e P "__init__" 585 (f 300), e P "__static_attributes__" 587 (f 301)])) :: 
  (o (y "tuple") (dSeq [])) :: 
  (o n (dFields [(z 182), (z 4), (f 299)])) :: 
  (o (y "code") (dFields [(s "StackError" 568), (s "StackError" 569), (s "/claim/cut.py" 570), (z 180), (z 0), (z 0), (z 0), (z 0), (f 290), (b false), (z 181), (f 291), n, n, n, n, (z 571), (z 180), (s "/claim/cut.py" 572)])) :: 
  (os (y "frame") dPlain [some (f 292), some (f 3), some (f 289), none, some (s "thinstack.errors" 564), none, some (f 0)]) :: 
  f7 294 578 (mt p 12 0) "StackError.__init__" (s "thinstack.errors" 564) n ["self", "message"] 2 182 (
  (o (y "tuple") (dSeq [(s "message" 586)])) :: 
  (o (y "dict") (dDict 3 [e P "__module__" 573 (s "thinstack.errors" 564), e P "__firstlineno__" 577 (i 180 576), e P "__init__" 585 (f 300), e P "__static_attributes__" 587 (f 301), e P "__weakref__" 589 (f 304), e P "__doc__" 590 n])) :: 
  (os (y "type") (dCls "StackError" [(y "Exception")] [(f 303), (y "Exception"), (y "BaseException"), (y "object")] 302 "StackError" true sub false) [some (f 287), none, some (s "StackError" 566), some (s "StackError" 574), some (u "Exception.__new__"), some (b true)]) :: 
  (o (y "getset_descriptor") (dFields [(s "__weakref__" 588), (f 303), (u "ExceptionGroup.__weakref__"), n])) :: 
  (o (y "super") (dFields [(f 303), (f 303), (f 303)])) :: 
  (o (y "builtin_function_or_method") (dFields [(u "object.__init_subclass__"), (f 303)])) ::  r)
noncomputable def g13 (P : Params) (p : Program) (r : List Obj) : List Obj :=
  (o (y "tuple") (dSeq [(f 303)])) :: 
  (o (y "builtin_function_or_method") (dFields [(u "type.__prepare__"), (y "type")])) :: 
  (o (y "dict") (dDict 4 [e P "__module__" 602 (s "thinstack.errors" 564), e P "__qualname__" 604 (s "FormError" 603), e P "__firstlineno__" 606 (i 184 605), e P "__static_attributes__" 607 (f 314)])) :: 
  (o (y "tuple") (dSeq [])) :: 
  (o n (dFields [])) :: 
  (o (y "code") (dFields [(s "FormError" 597), (s "FormError" 598), (s "/claim/cut.py" 599), (z 184), (z 0), (z 0), (z 0), (z 0), (f 310), (b false), (z 181), (f 311), n, n, n, n, (z 600), (z 184), (s "/claim/cut.py" 601)])) :: 
  (os (y "frame") dPlain [some (f 312), some (f 3), some (f 309), none, some (s "thinstack.errors" 564), none, some (f 0)]) :: 
  (o (y "tuple") (dSeq [])) :: 
  (o (y "dict") (dDict 2 [e P "__module__" 602 (s "thinstack.errors" 564), e P "__firstlineno__" 606 (i 184 605), e P "__static_attributes__" 607 (f 314), e P "__doc__" 608 n])) :: 
  (os (y "type") (dCls "FormError" [(f 303)] [(f 316), (f 303), (y "Exception"), (y "BaseException"), (y "object")] 315 "FormError" true [] false) [some (f 307), none, some (s "FormError" 595), some (s "FormError" 603), some (u "Exception.__new__"), some (b true)]) :: 
  (o (y "super") (dFields [(f 316), (f 316), (f 316)])) :: 
  (o (y "builtin_function_or_method") (dFields [(u "object.__init_subclass__"), (f 316)])) ::  r
noncomputable def g14 (P : Params) (p : Program) (r : List Obj) : List Obj :=
  (o (y "tuple") (dSeq [(f 303)])) :: 
  (o (y "builtin_function_or_method") (dFields [(u "type.__prepare__"), (y "type")])) :: 
  (o (y "dict") (dDict 4 [e P "__module__" 618 (s "thinstack.errors" 564), e P "__qualname__" 620 (s "SizeError" 619), e P "__firstlineno__" 622 (i 186 621), e P "__static_attributes__" 623 (f 326)])) :: 
  (o (y "tuple") (dSeq [])) :: 
  (o n (dFields [])) :: 
  (o (y "code") (dFields [(s "SizeError" 613), (s "SizeError" 614), (s "/claim/cut.py" 615), (z 186), (z 0), (z 0), (z 0), (z 0), (f 322), (b false), (z 181), (f 323), n, n, n, n, (z 616), (z 186), (s "/claim/cut.py" 617)])) :: 
  (os (y "frame") dPlain [some (f 324), some (f 3), some (f 321), none, some (s "thinstack.errors" 564), none, some (f 0)]) :: 
  (o (y "tuple") (dSeq [])) :: 
  (o (y "dict") (dDict 2 [e P "__module__" 618 (s "thinstack.errors" 564), e P "__firstlineno__" 622 (i 186 621), e P "__static_attributes__" 623 (f 326), e P "__doc__" 624 n])) :: 
  (os (y "type") (dCls "SizeError" [(f 303)] [(f 328), (f 303), (y "Exception"), (y "BaseException"), (y "object")] 327 "SizeError" true [] false) [some (f 319), none, some (s "SizeError" 611), some (s "SizeError" 619), some (u "Exception.__new__"), some (b true)]) :: 
  (o (y "super") (dFields [(f 328), (f 328), (f 328)])) :: 
  (o (y "builtin_function_or_method") (dFields [(u "object.__init_subclass__"), (f 328)])) ::  r
noncomputable def g15 (P : Params) (p : Program) (r : List Obj) : List Obj :=
  (o (y "tuple") (dSeq [(f 303)])) :: 
  (o (y "builtin_function_or_method") (dFields [(u "type.__prepare__"), (y "type")])) :: 
  (o (y "dict") (dDict 4 [e P "__module__" 634 (s "thinstack.errors" 564), e P "__qualname__" 636 (s "StateError" 635), e P "__firstlineno__" 638 (i 188 637), e P "__static_attributes__" 639 (f 338)])) :: 
  (o (y "tuple") (dSeq [])) :: 
  (o n (dFields [])) :: 
  (o (y "code") (dFields [(s "StateError" 629), (s "StateError" 630), (s "/claim/cut.py" 631), (z 188), (z 0), (z 0), (z 0), (z 0), (f 334), (b false), (z 181), (f 335), n, n, n, n, (z 632), (z 188), (s "/claim/cut.py" 633)])) :: 
  (os (y "frame") dPlain [some (f 336), some (f 3), some (f 333), none, some (s "thinstack.errors" 564), none, some (f 0)]) :: 
  (o (y "tuple") (dSeq [])) :: 
  (o (y "dict") (dDict 2 [e P "__module__" 634 (s "thinstack.errors" 564), e P "__firstlineno__" 638 (i 188 637), e P "__static_attributes__" 639 (f 338), e P "__doc__" 640 n])) :: 
  (os (y "type") (dCls "StateError" [(f 303)] [(f 340), (f 303), (y "Exception"), (y "BaseException"), (y "object")] 339 "StateError" true [] false) [some (f 331), none, some (s "StateError" 627), some (s "StateError" 635), some (u "Exception.__new__"), some (b true)]) :: 
  (o (y "super") (dFields [(f 340), (f 340), (f 340)])) :: 
  (o (y "builtin_function_or_method") (dFields [(u "object.__init_subclass__"), (f 340)])) ::  r
noncomputable def g17 (P : Params) (p : Program) (r : List Obj) : List Obj :=
  f7 343 645 (st p 17) "need" (s "thinstack.octets" 643) n ["octets", "at", "size"] 3 191 ( r)
noncomputable def g18 (P : Params) (p : Program) (r : List Obj) : List Obj :=
  f7 350 654 (st p 18) "get16" (s "thinstack.octets" 643) n ["octets", "at"] 2 194 ( r)
noncomputable def g24 (P : Params) (p : Program) (r : List Obj) : List Obj :=
  (o (y "tuple") (dSeq [])) :: 
  (o (y "builtin_function_or_method") (dFields [(u "type.__prepare__"), (y "type")])) :: 
  (o (y "dict") (dDict 8 [e P "__module__" 679 (s "thinstack.tcp_segment" 662), e P "__qualname__" 681 (s "Segment" 680), e P "__firstlineno__" 683 (i 202 682), e P "__init__" 702 (f 371), e P "has" 710 (f 378), e P "length" 717 (f 385), e P "row" 724 (f 392), e P "__static_attributes__" 734 (f 393)])) :: 
  (o (y "tuple") (dSeq [])) :: 
  (o n (dFields [(z 204), (z 4), (f 370), (z 215), (z 4), (f 377), (z 218), (z 4), (f 384), (z 221), (z 4), (f 391)])) :: 
  (o (y "code") (dFields [(s "Segment" 674), (s "Segment" 675), (s "/claim/cut.py" 676), (z 202), (z 0), (z 0), (z 0), (z 0), (f 360), (b false), (z 181), (f 361), n, n, n, n, (z 677), (z 202), (s "/claim/cut.py" 678)])) :: 
  (os (y "frame") dPlain [some (f 362), some (f 3), some (f 359), none, some (s "thinstack.tcp_segment" 662), none, some (f 0)]) :: 
  (o (y "tuple") (dSeq [(i 0 684), (.bytes #[] 685), (.bytes #[] 686)])) :: 
  f7 365 687 (mt p 24 0) "Segment.__init__" (s "thinstack.tcp_segment" 662) (f 364) ["self", "source_port", "target_port", "seq", "ack", "flags", "window", "urgent", "options", "payload"] 10 204 (
  f7 372 703 (mt p 24 1) "Segment.has" (s "thinstack.tcp_segment" 662) n ["self", "flag"] 2 215 (
  f7 379 711 (mt p 24 2) "Segment.length" (s "thinstack.tcp_segment" 662) n ["self"] 1 218 (
  f7 386 718 (mt p 24 3) "Segment.row" (s "thinstack.tcp_segment" 662) n ["self"] 1 221 (
  (o (y "tuple") (dSeq [(s "ack" 725), (s "flags" 726), (s "options" 727), (s "payload" 728), (s "seq" 729), (s "source_port" 730), (s "target_port" 731), (s "urgent" 732), (s "window" 733)])) :: 
  (o (y "dict") (dDict 4 [e P "__module__" 679 (s "thinstack.tcp_segment" 662), e P "__firstlineno__" 683 (i 202 682), e P "__init__" 702 (f 371), e P "has" 710 (f 378), e P "length" 717 (f 385), e P "row" 724 (f 392), e P "__static_attributes__" 734 (f 393), e P "__dict__" 736 (f 396), e P "__weakref__" 738 (f 397), e P "__doc__" 739 n])) :: 
  (os (y "type") (dCls "Segment" [(y "object")] [(f 395), (y "object")] 394 "Segment" true [] false) [none, none, some (s "Segment" 672), some (s "Segment" 680), some (u "object.__new__"), some (b true)]) :: 
  (o (y "getset_descriptor") (dFields [(s "__dict__" 735), (f 395), (u "function.__dict__"), (u "function.__dict__#set")])) :: 
  (o (y "getset_descriptor") (dFields [(s "__weakref__" 737), (f 395), (u "ExceptionGroup.__weakref__"), n])) :: 
  (o (y "super") (dFields [(f 395), (f 395), (f 395)])) :: 
  (o (y "builtin_function_or_method") (dFields [(u "object.__init_subclass__"), (f 395)])) ::  r))))
noncomputable def g25 (P : Params) (p : Program) (r : List Obj) : List Obj :=
  f7 400 742 (st p 25) "mss_of" (s "thinstack.tcp_segment" 662) n ["options", "at", "kind", "size"] 1 223 ( r)
noncomputable def g28 (P : Params) (p : Program) (r : List Obj) : List Obj :=
  f7 407 756 (st p 28) "take_syn" (s "thinstack.tcp_input" 752) n ["tcb", "segment", "limits", "told"] 2 243 ( r)
noncomputable def g30 (P : Params) (p : Program) (r : List Obj) : List Obj :=
  (o (y "tuple") (dSeq [])) :: 
  (o (y "builtin_function_or_method") (dFields [(u "type.__prepare__"), (y "type")])) :: 
  (o (y "dict") (dDict 10 [e P "__module__" 775 (s "thinstack.acks" 766), e P "__qualname__" 777 (s "AckPolicy" 776), e P "__firstlineno__" 779 (i 250 778), e P "__init__" 787 (f 427), e P "on_octets" 797 (f 435), e P "at_once" 804 (f 442), e P "is_due" 812 (f 449), e P "on_sent" 819 (f 456), e P "due_time" 826 (f 463), e P "__static_attributes__" 831 (f 464)])) :: 
  (o (y "tuple") (dSeq [])) :: 
  (o n (dFields [(z 252), (z 4), (f 426), (z 258), (z 4), (f 434), (z 261), (z 4), (f 441), (z 264), (z 4), (f 448), (z 267), (z 4), (f 455), (z 270), (z 4), (f 462)])) :: 
  (o (y "code") (dFields [(s "AckPolicy" 770), (s "AckPolicy" 771), (s "/claim/cut.py" 772), (z 250), (z 0), (z 0), (z 0), (z 0), (f 417), (b false), (z 181), (f 418), n, n, n, n, (z 773), (z 250), (s "/claim/cut.py" 774)])) :: 
  (os (y "frame") dPlain [some (f 419), some (f 3), some (f 416), none, some (s "thinstack.acks" 766), none, some (f 0)]) :: 
  f7 421 780 (mt p 30 0) "AckPolicy.__init__" (s "thinstack.acks" 766) n ["self", "delay"] 2 252 (
  (o (y "tuple") (dSeq [(b false)])) :: 
  f7 429 788 (mt p 30 1) "AckPolicy.on_octets" (s "thinstack.acks" 766) (f 428) ["self", "in_order", "now", "has_holes"] 4 258 (
  f7 436 798 (mt p 30 2) "AckPolicy.at_once" (s "thinstack.acks" 766) n ["self"] 1 261 (
  f7 443 805 (mt p 30 3) "AckPolicy.is_due" (s "thinstack.acks" 766) n ["self", "now"] 2 264 (
  f7 450 813 (mt p 30 4) "AckPolicy.on_sent" (s "thinstack.acks" 766) n ["self"] 1 267 (
  f7 457 820 (mt p 30 5) "AckPolicy.due_time" (s "thinstack.acks" 766) n ["self"] 1 270 (
  (o (y "tuple") (dSeq [(s "delay" 827), (s "due" 828), (s "has_gap" 829), (s "waiting" 830)])) :: 
  (o (y "dict") (dDict 4 [e P "__module__" 775 (s "thinstack.acks" 766), e P "__firstlineno__" 779 (i 250 778), e P "__init__" 787 (f 427), e P "on_octets" 797 (f 435), e P "at_once" 804 (f 442), e P "is_due" 812 (f 449), e P "on_sent" 819 (f 456), e P "due_time" 826 (f 463), e P "__static_attributes__" 831 (f 464), e P "__dict__" 833 (f 467), e P "__weakref__" 835 (f 468), e P "__doc__" 836 n])) :: 
  (os (y "type") (dCls "AckPolicy" [(y "object")] [(f 466), (y "object")] 465 "AckPolicy" true [] false) [none, none, some (s "AckPolicy" 768), some (s "AckPolicy" 776), some (u "object.__new__"), some (b true)]) :: 
  (o (y "getset_descriptor") (dFields [(s "__dict__" 832), (f 466), (u "function.__dict__"), (u "function.__dict__#set")])) :: 
  (o (y "getset_descriptor") (dFields [(s "__weakref__" 834), (f 466), (u "ExceptionGroup.__weakref__"), n])) :: 
  (o (y "super") (dFields [(f 466), (f 466), (f 466)])) :: 
  (o (y "builtin_function_or_method") (dFields [(u "object.__init_subclass__"), (f 466)])) ::  r))))))
noncomputable def g32 (P : Params) (p : Program) (r : List Obj) : List Obj :=
  (o (y "tuple") (dSeq [])) :: 
  (o (y "builtin_function_or_method") (dFields [(u "type.__prepare__"), (y "type")])) :: 
  (o (y "dict") (dDict 15 [e P "__module__" 848 (s "thinstack.congestion" 839), e P "__qualname__" 850 (s "Congestion" 849), e P "__firstlineno__" 852 (i 273 851), e P "__init__" 862 (f 484), e P "window" 869 (f 491), e P "told_mss" 878 (f 498), e P "grow" 886 (f 505), e P "halved" 894 (f 512), e P "acked" 902 (f 519), e P "slow_start" 911 (f 526), e P "avoid" 919 (f 533), e P "duplicate" 927 (f 540), e P "recovered" 934 (f 547), e P "timed_out" 942 (f 554), e P "__static_attributes__" 951 (f 555)])) :: 
  (o (y "tuple") (dSeq [])) :: 
  (o n (dFields [(z 275), (z 4), (f 483), (z 285), (z 4), (f 490), (z 288), (z 4), (f 497), (z 293), (z 4), (f 504), (z 298), (z 4), (f 511), (z 301), (z 4), (f 518), (z 311), (z 4), (f 525), (z 317), (z 4), (f 532), (z 323), (z 4), (f 539), (z 326), (z 4), (f 546), (z 333), (z 4), (f 553)])) :: 
  (o (y "code") (dFields [(s "Congestion" 843), (s "Congestion" 844), (s "/claim/cut.py" 845), (z 273), (z 0), (z 0), (z 0), (z 0), (f 474), (b false), (z 181), (f 475), n, n, n, n, (z 846), (z 273), (s "/claim/cut.py" 847)])) :: 
  (os (y "frame") dPlain [some (f 476), some (f 3), some (f 473), none, some (s "thinstack.congestion" 839), none, some (f 0)]) :: 
  f7 478 853 (mt p 32 0) "Congestion.__init__" (s "thinstack.congestion" 839) n ["self", "mss", "first", "most"] 4 275 (
  f7 485 863 (mt p 32 1) "Congestion.window" (s "thinstack.congestion" 839) n ["self"] 1 285 (
  f7 492 870 (mt p 32 2) "Congestion.told_mss" (s "thinstack.congestion" 839) n ["self", "mss", "many"] 2 288 (
  f7 499 879 (mt p 32 3) "Congestion.grow" (s "thinstack.congestion" 839) n ["self", "octets"] 2 293 (
  f7 506 887 (mt p 32 4) "Congestion.halved" (s "thinstack.congestion" 839) n ["self", "flight"] 2 298 (
  f7 513 895 (mt p 32 5) "Congestion.acked" (s "thinstack.congestion" 839) n ["self", "octets"] 2 301 (
  f7 520 903 (mt p 32 6) "Congestion.slow_start" (s "thinstack.congestion" 839) n ["self", "octets", "most"] 2 311 (
  f7 527 912 (mt p 32 7) "Congestion.avoid" (s "thinstack.congestion" 839) n ["self", "octets"] 2 317 (
  f7 534 920 (mt p 32 8) "Congestion.duplicate" (s "thinstack.congestion" 839) n ["self", "flight"] 2 323 (
  f7 541 928 (mt p 32 9) "Congestion.recovered" (s "thinstack.congestion" 839) n ["self"] 1 326 (
  f7 548 935 (mt p 32 10) "Congestion.timed_out" (s "thinstack.congestion" 839) n ["self", "flight"] 2 333 (
  (o (y "tuple") (dSeq [(s "duplicates" 943), (s "gathered" 944), (s "is_cautious" 945), (s "is_recovering" 946), (s "most" 947), (s "mss" 948), (s "size" 949), (s "threshold" 950)])) :: 
  (o (y "dict") (dDict 4 [e P "__module__" 848 (s "thinstack.congestion" 839), e P "__firstlineno__" 852 (i 273 851), e P "__init__" 862 (f 484), e P "window" 869 (f 491), e P "told_mss" 878 (f 498), e P "grow" 886 (f 505), e P "halved" 894 (f 512), e P "acked" 902 (f 519), e P "slow_start" 911 (f 526), e P "avoid" 919 (f 533), e P "duplicate" 927 (f 540), e P "recovered" 934 (f 547), e P "timed_out" 942 (f 554), e P "__static_attributes__" 951 (f 555), e P "__dict__" 953 (f 558), e P "__weakref__" 955 (f 559), e P "__doc__" 956 n])) :: 
  (os (y "type") (dCls "Congestion" [(y "object")] [(f 557), (y "object")] 556 "Congestion" true [] false) [none, none, some (s "Congestion" 841), some (s "Congestion" 849), some (u "object.__new__"), some (b true)]) :: 
  (o (y "getset_descriptor") (dFields [(s "__dict__" 952), (f 557), (u "function.__dict__"), (u "function.__dict__#set")])) :: 
  (o (y "getset_descriptor") (dFields [(s "__weakref__" 954), (f 557), (u "ExceptionGroup.__weakref__"), n])) :: 
  (o (y "super") (dFields [(f 557), (f 557), (f 557)])) :: 
  (o (y "builtin_function_or_method") (dFields [(u "object.__init_subclass__"), (f 557)])) ::  r)))))))))))
noncomputable def g35 (P : Params) (p : Program) (r : List Obj) : List Obj :=
  (o (y "tuple") (dSeq [])) :: 
  (o (y "builtin_function_or_method") (dFields [(u "type.__prepare__"), (y "type")])) :: 
  (o (y "dict") (dDict 13 [e P "__module__" 970 (s "thinstack.retransmit" 959), e P "__qualname__" 972 (s "RetransmitClock" 971), e P "__firstlineno__" 974 (i 337 973), e P "__init__" 983 (f 575), e P "is_timing" 990 (f 582), e P "sent" 999 (f 589), e P "forget" 1006 (f 596), e P "acked" 1017 (f 603), e P "back_off" 1024 (f 610), e P "reset_tries" 1031 (f 617), e P "waited" 1040 (f 624), e P "deadline" 1048 (f 631), e P "__static_attributes__" 1054 (f 632)])) :: 
  (o (y "tuple") (dSeq [])) :: 
  (o n (dFields [(z 339), (z 4), (f 574), (z 346), (z 4), (f 581), (z 349), (z 4), (f 588), (z 354), (z 4), (f 595), (z 357), (z 4), (f 602), (z 366), (z 4), (f 609), (z 369), (z 4), (f 616), (z 372), (z 4), (f 623), (z 378), (z 4), (f 630)])) :: 
  (o (y "code") (dFields [(s "RetransmitClock" 965), (s "RetransmitClock" 966), (s "/claim/cut.py" 967), (z 337), (z 0), (z 0), (z 0), (z 0), (f 565), (b false), (z 181), (f 566), n, n, n, n, (z 968), (z 337), (s "/claim/cut.py" 969)])) :: 
  (os (y "frame") dPlain [some (f 567), some (f 3), some (f 564), none, some (s "thinstack.retransmit" 959), none, some (f 0)]) :: 
  f7 569 975 (mt p 35 0) "RetransmitClock.__init__" (s "thinstack.retransmit" 959) n ["self", "estimate", "most_tries"] 3 339 (
  f7 576 984 (mt p 35 1) "RetransmitClock.is_timing" (s "thinstack.retransmit" 959) n ["self"] 1 346 (
  f7 583 991 (mt p 35 2) "RetransmitClock.sent" (s "thinstack.retransmit" 959) n ["self", "seq_end", "now"] 3 349 (
  f7 590 1000 (mt p 35 3) "RetransmitClock.forget" (s "thinstack.retransmit" 959) n ["self"] 1 354 (
  f7 597 1007 (mt p 35 4) "RetransmitClock.acked" (s "thinstack.retransmit" 959) n ["self", "ack", "now", "ring", "measured"] 4 357 (
  f7 604 1018 (mt p 35 5) "RetransmitClock.back_off" (s "thinstack.retransmit" 959) n ["self"] 1 366 (
  f7 611 1025 (mt p 35 6) "RetransmitClock.reset_tries" (s "thinstack.retransmit" 959) n ["self"] 1 369 (
  f7 618 1032 (mt p 35 7) "RetransmitClock.waited" (s "thinstack.retransmit" 959) n ["self", "ticks", "turn"] 1 372 (
  f7 625 1041 (mt p 35 8) "RetransmitClock.deadline" (s "thinstack.retransmit" 959) n ["self", "now"] 2 378 (
  (o (y "tuple") (dSeq [(s "estimate" 1049), (s "most_tries" 1050), (s "timed_at" 1051), (s "timed_end" 1052), (s "tries" 1053)])) :: 
  (o (y "dict") (dDict 4 [e P "__module__" 970 (s "thinstack.retransmit" 959), e P "__firstlineno__" 974 (i 337 973), e P "__init__" 983 (f 575), e P "is_timing" 990 (f 582), e P "sent" 999 (f 589), e P "forget" 1006 (f 596), e P "acked" 1017 (f 603), e P "back_off" 1024 (f 610), e P "reset_tries" 1031 (f 617), e P "waited" 1040 (f 624), e P "deadline" 1048 (f 631), e P "__static_attributes__" 1054 (f 632), e P "__dict__" 1056 (f 635), e P "__weakref__" 1058 (f 636), e P "__doc__" 1059 n])) :: 
  (os (y "type") (dCls "RetransmitClock" [(y "object")] [(f 634), (y "object")] 633 "RetransmitClock" true [] false) [none, none, some (s "RetransmitClock" 963), some (s "RetransmitClock" 971), some (u "object.__new__"), some (b true)]) :: 
  (o (y "getset_descriptor") (dFields [(s "__dict__" 1055), (f 634), (u "function.__dict__"), (u "function.__dict__#set")])) :: 
  (o (y "getset_descriptor") (dFields [(s "__weakref__" 1057), (f 634), (u "ExceptionGroup.__weakref__"), n])) :: 
  (o (y "super") (dFields [(f 634), (f 634), (f 634)])) :: 
  (o (y "builtin_function_or_method") (dFields [(u "object.__init_subclass__"), (f 634)])) ::  r)))))))))
noncomputable def g37 (P : Params) (p : Program) (r : List Obj) : List Obj :=
  (o (y "tuple") (dSeq [])) :: 
  (o (y "builtin_function_or_method") (dFields [(u "type.__prepare__"), (y "type")])) :: 
  (o (y "dict") (dDict 10 [e P "__module__" 1071 (s "thinstack.rtt" 1062), e P "__qualname__" 1073 (s "RttEstimate" 1072), e P "__firstlineno__" 1075 (i 381 1074), e P "__init__" 1085 (f 652), e P "sample" 1094 (f 659), e P "mean" 1101 (f 666), e P "plain_timeout" 1108 (f 673), e P "timeout" 1115 (f 680), e P "bounded" 1123 (f 687), e P "__static_attributes__" 1130 (f 688)])) :: 
  (o (y "tuple") (dSeq [])) :: 
  (o n (dFields [(z 383), (z 4), (f 651), (z 391), (z 4), (f 658), (z 403), (z 4), (f 665), (z 406), (z 4), (f 672), (z 411), (z 4), (f 679), (z 414), (z 4), (f 686)])) :: 
  (o (y "code") (dFields [(s "RttEstimate" 1066), (s "RttEstimate" 1067), (s "/claim/cut.py" 1068), (z 381), (z 0), (z 0), (z 0), (z 0), (f 642), (b false), (z 181), (f 643), n, n, n, n, (z 1069), (z 381), (s "/claim/cut.py" 1070)])) :: 
  (os (y "frame") dPlain [some (f 644), some (f 3), some (f 641), none, some (s "thinstack.rtt" 1062), none, some (f 0)]) :: 
  f7 646 1076 (mt p 37 0) "RttEstimate.__init__" (s "thinstack.rtt" 1062) n ["self", "first", "least", "most"] 4 383 (
  f7 653 1086 (mt p 37 1) "RttEstimate.sample" (s "thinstack.rtt" 1062) n ["self", "measured", "apart"] 2 391 (
  f7 660 1095 (mt p 37 2) "RttEstimate.mean" (s "thinstack.rtt" 1062) n ["self"] 1 403 (
  f7 667 1102 (mt p 37 3) "RttEstimate.plain_timeout" (s "thinstack.rtt" 1062) n ["self"] 1 406 (
  f7 674 1109 (mt p 37 4) "RttEstimate.timeout" (s "thinstack.rtt" 1062) n ["self"] 1 411 (
  f7 681 1116 (mt p 37 5) "RttEstimate.bounded" (s "thinstack.rtt" 1062) n ["self", "ticks"] 2 414 (
  (o (y "tuple") (dSeq [(s "first" 1124), (s "least" 1125), (s "mean8" 1126), (s "measured" 1127), (s "most" 1128), (s "spread4" 1129)])) :: 
  (o (y "dict") (dDict 4 [e P "__module__" 1071 (s "thinstack.rtt" 1062), e P "__firstlineno__" 1075 (i 381 1074), e P "__init__" 1085 (f 652), e P "sample" 1094 (f 659), e P "mean" 1101 (f 666), e P "plain_timeout" 1108 (f 673), e P "timeout" 1115 (f 680), e P "bounded" 1123 (f 687), e P "__static_attributes__" 1130 (f 688), e P "__dict__" 1132 (f 691), e P "__weakref__" 1134 (f 692), e P "__doc__" 1135 n])) :: 
  (os (y "type") (dCls "RttEstimate" [(y "object")] [(f 690), (y "object")] 689 "RttEstimate" true [] false) [none, none, some (s "RttEstimate" 1064), some (s "RttEstimate" 1072), some (u "object.__new__"), some (b true)]) :: 
  (o (y "getset_descriptor") (dFields [(s "__dict__" 1131), (f 690), (u "function.__dict__"), (u "function.__dict__#set")])) :: 
  (o (y "getset_descriptor") (dFields [(s "__weakref__" 1133), (f 690), (u "ExceptionGroup.__weakref__"), n])) :: 
  (o (y "super") (dFields [(f 690), (f 690), (f 690)])) :: 
  (o (y "builtin_function_or_method") (dFields [(u "object.__init_subclass__"), (f 690)])) ::  r))))))
noncomputable def g39 (P : Params) (p : Program) (r : List Obj) : List Obj :=
  (o (y "tuple") (dSeq [])) :: 
  (o (y "builtin_function_or_method") (dFields [(u "type.__prepare__"), (y "type")])) :: 
  (o (y "dict") (dDict 10 [e P "__module__" 1147 (s "thinstack.send_queue" 1138), e P "__qualname__" 1149 (s "SendQueue" 1148), e P "__firstlineno__" 1151 (i 419 1150), e P "__init__" 1159 (f 708), e P "size" 1166 (f 715), e P "room_left" 1173 (f 722), e P "put" 1182 (f 729), e P "part" 1191 (f 736), e P "drop" 1199 (f 743), e P "__static_attributes__" 1202 (f 744)])) :: 
  (o (y "tuple") (dSeq [])) :: 
  (o n (dFields [(z 421), (z 4), (f 707), (z 427), (z 4), (f 714), (z 430), (z 4), (f 721), (z 433), (z 4), (f 728), (z 438), (z 4), (f 735), (z 443), (z 4), (f 742)])) :: 
  (o (y "code") (dFields [(s "SendQueue" 1142), (s "SendQueue" 1143), (s "/claim/cut.py" 1144), (z 419), (z 0), (z 0), (z 0), (z 0), (f 698), (b false), (z 181), (f 699), n, n, n, n, (z 1145), (z 419), (s "/claim/cut.py" 1146)])) :: 
  (os (y "frame") dPlain [some (f 700), some (f 3), some (f 697), none, some (s "thinstack.send_queue" 1138), none, some (f 0)]) :: 
  f7 702 1152 (mt p 39 0) "SendQueue.__init__" (s "thinstack.send_queue" 1138) n ["self", "room"] 2 421 (
  f7 709 1160 (mt p 39 1) "SendQueue.size" (s "thinstack.send_queue" 1138) n ["self"] 1 427 (
  f7 716 1167 (mt p 39 2) "SendQueue.room_left" (s "thinstack.send_queue" 1138) n ["self"] 1 430 (
  f7 723 1174 (mt p 39 3) "SendQueue.put" (s "thinstack.send_queue" 1138) n ["self", "octets", "taken"] 2 433 (
  f7 730 1183 (mt p 39 4) "SendQueue.part" (s "thinstack.send_queue" 1138) n ["self", "at", "many"] 3 438 (
  f7 737 1192 (mt p 39 5) "SendQueue.drop" (s "thinstack.send_queue" 1138) n ["self", "many"] 2 443 (
  (o (y "tuple") (dSeq [(s "held" 1200), (s "room" 1201)])) :: 
  (o (y "dict") (dDict 4 [e P "__module__" 1147 (s "thinstack.send_queue" 1138), e P "__firstlineno__" 1151 (i 419 1150), e P "__init__" 1159 (f 708), e P "size" 1166 (f 715), e P "room_left" 1173 (f 722), e P "put" 1182 (f 729), e P "part" 1191 (f 736), e P "drop" 1199 (f 743), e P "__static_attributes__" 1202 (f 744), e P "__dict__" 1204 (f 747), e P "__weakref__" 1206 (f 748), e P "__doc__" 1207 n])) :: 
  (os (y "type") (dCls "SendQueue" [(y "object")] [(f 746), (y "object")] 745 "SendQueue" true [] false) [none, none, some (s "SendQueue" 1140), some (s "SendQueue" 1148), some (u "object.__new__"), some (b true)]) :: 
  (o (y "getset_descriptor") (dFields [(s "__dict__" 1203), (f 746), (u "function.__dict__"), (u "function.__dict__#set")])) :: 
  (o (y "getset_descriptor") (dFields [(s "__weakref__" 1205), (f 746), (u "ExceptionGroup.__weakref__"), n])) :: 
  (o (y "super") (dFields [(f 746), (f 746), (f 746)])) :: 
  (o (y "builtin_function_or_method") (dFields [(u "object.__init_subclass__"), (f 746)])) ::  r))))))
noncomputable def g41 (P : Params) (p : Program) (r : List Obj) : List Obj :=
  (o (y "tuple") (dSeq [])) :: 
  (o (y "builtin_function_or_method") (dFields [(u "type.__prepare__"), (y "type")])) :: 
  (o (y "dict") (dDict 8 [e P "__module__" 1219 (s "thinstack.sender" 1210), e P "__qualname__" 1221 (s "PeerWindow" 1220), e P "__firstlineno__" 1223 (i 448 1222), e P "__init__" 1231 (f 764), e P "is_newer" 1240 (f 771), e P "take" 1250 (f 778), e P "keep_edge" 1258 (f 785), e P "__static_attributes__" 1264 (f 786)])) :: 
  (o (y "tuple") (dSeq [])) :: 
  (o n (dFields [(z 450), (z 4), (f 763), (z 457), (z 4), (f 770), (z 460), (z 4), (f 777), (z 463), (z 4), (f 784)])) :: 
  (o (y "code") (dFields [(s "PeerWindow" 1214), (s "PeerWindow" 1215), (s "/claim/cut.py" 1216), (z 448), (z 0), (z 0), (z 0), (z 0), (f 754), (b false), (z 181), (f 755), n, n, n, n, (z 1217), (z 448), (s "/claim/cut.py" 1218)])) :: 
  (os (y "frame") dPlain [some (f 756), some (f 3), some (f 753), none, some (s "thinstack.sender" 1210), none, some (f 0)]) :: 
  f7 758 1224 (mt p 41 0) "PeerWindow.__init__" (s "thinstack.sender" 1210) n ["self", "ring"] 2 450 (
  f7 765 1232 (mt p 41 1) "PeerWindow.is_newer" (s "thinstack.sender" 1210) n ["self", "seq", "ack"] 3 457 (
  f7 772 1241 (mt p 41 2) "PeerWindow.take" (s "thinstack.sender" 1210) n ["self", "seq", "ack", "size"] 4 460 (
  f7 779 1251 (mt p 41 3) "PeerWindow.keep_edge" (s "thinstack.sender" 1210) n ["self", "many"] 2 463 (
  (o (y "tuple") (dSeq [(s "most" 1259), (s "ring" 1260), (s "size" 1261), (s "told_ack" 1262), (s "told_seq" 1263)])) :: 
  (o (y "dict") (dDict 4 [e P "__module__" 1219 (s "thinstack.sender" 1210), e P "__firstlineno__" 1223 (i 448 1222), e P "__init__" 1231 (f 764), e P "is_newer" 1240 (f 771), e P "take" 1250 (f 778), e P "keep_edge" 1258 (f 785), e P "__static_attributes__" 1264 (f 786), e P "__dict__" 1266 (f 789), e P "__weakref__" 1268 (f 790), e P "__doc__" 1269 n])) :: 
  (os (y "type") (dCls "PeerWindow" [(y "object")] [(f 788), (y "object")] 787 "PeerWindow" true [] false) [none, none, some (s "PeerWindow" 1212), some (s "PeerWindow" 1220), some (u "object.__new__"), some (b true)]) :: 
  (o (y "getset_descriptor") (dFields [(s "__dict__" 1265), (f 788), (u "function.__dict__"), (u "function.__dict__#set")])) :: 
  (o (y "getset_descriptor") (dFields [(s "__weakref__" 1267), (f 788), (u "ExceptionGroup.__weakref__"), n])) :: 
  (o (y "super") (dFields [(f 788), (f 788), (f 788)])) :: 
  (o (y "builtin_function_or_method") (dFields [(u "object.__init_subclass__"), (f 788)])) ::  r))))
noncomputable def g42 (P : Params) (p : Program) (r : List Obj) : List Obj :=
  (o (y "tuple") (dSeq [])) :: 
  (o (y "builtin_function_or_method") (dFields [(u "type.__prepare__"), (y "type")])) :: 
  (o (y "dict") (dDict 29 [e P "__module__" 1279 (s "thinstack.sender" 1210), e P "__qualname__" 1281 (s "Sender" 1280), e P "__firstlineno__" 1283 (i 465 1282), e P "__init__" 1294 (f 806), e P "window" 1302 (f 814), e P "take_window" 1312 (f 821), e P "put" 1320 (f 828), e P "ask_fin" 1327 (f 835), e P "flight" 1334 (f 842), e P "usable" 1342 (f 849), e P "data_sent" 1349 (f 856), e P "unsent" 1356 (f 863), e P "is_fin_due" 1364 (f 870), e P "is_fin_acked" 1371 (f 877), e P "is_all_acked" 1378 (f 884), e P "go_on" 1386 (f 891), e P "start" 1393 (f 898), e P "may_go" 1402 (f 905), e P "pieces" 1413 (f 913), e P "piece_of" 1426 (f 920), e P "ever_sent" 1433 (f 927), e P "first_piece" 1440 (f 934), e P "reach" 1448 (f 941), e P "back_to" 1456 (f 948), e P "is_idle_with_more" 1463 (f 955), e P "needs_probe" 1470 (f 962), e P "probe" 1477 (f 969), e P "acked" 1489 (f 976), e P "__static_attributes__" 1501 (f 977)])) :: 
  (o (y "tuple") (dSeq [])) :: 
  (o n (dFields [(z 467), (z 4), (f 805), (z 481), (z 4), (f 812), (z 484), (z 4), (f 820), (z 487), (z 4), (f 827), (z 492), (z 4), (f 834), (z 495), (z 4), (f 841), (z 498), (z 4), (f 848), (z 501), (z 4), (f 855), (z 504), (z 4), (f 862), (z 507), (z 4), (f 869), (z 511), (z 4), (f 876), (z 514), (z 4), (f 883), (z 517), (z 4), (f 890), (z 521), (z 4), (f 897), (z 528), (z 4), (f 904), (z 535), (z 4), (f 912), (z 550), (z 4), (f 919), (z 559), (z 4), (f 926), (z 562), (z 4), (f 933), (z 565), (z 4), (f 940), (z 568), (z 4), (f 947), (z 571), (z 4), (f 954), (z 574), (z 4), (f 961), (z 577), (z 4), (f 968), (z 580), (z 4), (f 975)])) :: 
  (o (y "code") (dFields [(s "Sender" 1274), (s "Sender" 1275), (s "/claim/cut.py" 1276), (z 465), (z 0), (z 0), (z 0), (z 0), (f 796), (b false), (z 181), (f 797), n, n, n, n, (z 1277), (z 465), (s "/claim/cut.py" 1278)])) :: 
  (os (y "frame") dPlain [some (f 798), some (f 3), some (f 795), none, some (s "thinstack.sender" 1210), none, some (f 0)]) :: 
  f7 800 1284 (mt p 42 0) "Sender.__init__" (s "thinstack.sender" 1210) n ["self", "iss", "ring", "mss", "room"] 5 467 (
  f7 807 1295 (mt p 42 1) "Sender.window" (s "thinstack.sender" 1210) n ["self"] 1 480 (
  (o (y "property") (dFields [(f 813), n, n, n, (s "window" 1302), (b false)])) :: 
  f7 815 1303 (mt p 42 2) "Sender.take_window" (s "thinstack.sender" 1210) n ["self", "seq", "ack", "window"] 4 484 (
  f7 822 1313 (mt p 42 3) "Sender.put" (s "thinstack.sender" 1210) n ["self", "octets"] 2 487 (
  f7 829 1321 (mt p 42 4) "Sender.ask_fin" (s "thinstack.sender" 1210) n ["self"] 1 492 (
  f7 836 1328 (mt p 42 5) "Sender.flight" (s "thinstack.sender" 1210) n ["self"] 1 495 (
  f7 843 1335 (mt p 42 6) "Sender.usable" (s "thinstack.sender" 1210) n ["self", "congestion_window"] 2 498 (
  f7 850 1343 (mt p 42 7) "Sender.data_sent" (s "thinstack.sender" 1210) n ["self"] 1 501 (
  f7 857 1350 (mt p 42 8) "Sender.unsent" (s "thinstack.sender" 1210) n ["self"] 1 504 (
  f7 864 1357 (mt p 42 9) "Sender.is_fin_due" (s "thinstack.sender" 1210) n ["self", "room"] 1 507 (
  f7 871 1365 (mt p 42 10) "Sender.is_fin_acked" (s "thinstack.sender" 1210) n ["self"] 1 511 (
  f7 878 1372 (mt p 42 11) "Sender.is_all_acked" (s "thinstack.sender" 1210) n ["self"] 1 514 (
  f7 885 1379 (mt p 42 12) "Sender.go_on" (s "thinstack.sender" 1210) n ["self", "many"] 2 517 (
  f7 892 1387 (mt p 42 13) "Sender.start" (s "thinstack.sender" 1210) n ["self"] 1 521 (
  f7 899 1394 (mt p 42 14) "Sender.may_go" (s "thinstack.sender" 1210) n ["self", "many", "is_nagle"] 3 528 (
  (o (y "tuple") (dSeq [(b true)])) :: 
  f7 907 1403 (mt p 42 15) "Sender.pieces" (s "thinstack.sender" 1210) (f 906) ["self", "congestion_window", "is_nagle", "found", "many"] 3 535 (
  f7 914 1414 (mt p 42 16) "Sender.piece_of" (s "thinstack.sender" 1210) n ["self", "many", "congestion_window", "seq", "octets", "is_last", "has_fin"] 3 550 (
  f7 921 1427 (mt p 42 17) "Sender.ever_sent" (s "thinstack.sender" 1210) n ["self"] 1 559 (
  f7 928 1434 (mt p 42 18) "Sender.first_piece" (s "thinstack.sender" 1210) n ["self"] 1 562 (
  f7 935 1441 (mt p 42 19) "Sender.reach" (s "thinstack.sender" 1210) n ["self", "many"] 2 565 (
  f7 942 1449 (mt p 42 20) "Sender.back_to" (s "thinstack.sender" 1210) n ["self", "seq"] 2 568 (
  f7 949 1457 (mt p 42 21) "Sender.is_idle_with_more" (s "thinstack.sender" 1210) n ["self"] 1 571 (
  f7 956 1464 (mt p 42 22) "Sender.needs_probe" (s "thinstack.sender" 1210) n ["self"] 1 574 (
  f7 963 1471 (mt p 42 23) "Sender.probe" (s "thinstack.sender" 1210) n ["self"] 1 577 (
  f7 970 1478 (mt p 42 24) "Sender.acked" (s "thinstack.sender" 1210) n ["self", "ack", "many", "ahead", "is_syn", "octets"] 2 580 (
  (o (y "tuple") (dSeq [(s "fin_asked" 1490), (s "fin_sent" 1491), (s "greatest" 1492), (s "iss" 1493), (s "mss" 1494), (s "next" 1495), (s "peer" 1496), (s "queue" 1497), (s "ring" 1498), (s "syn_pending" 1499), (s "una" 1500)])) :: 
  (o (y "dict") (dDict 4 [e P "__module__" 1279 (s "thinstack.sender" 1210), e P "__firstlineno__" 1283 (i 465 1282), e P "__init__" 1294 (f 806), e P "window" 1302 (f 814), e P "take_window" 1312 (f 821), e P "put" 1320 (f 828), e P "ask_fin" 1327 (f 835), e P "flight" 1334 (f 842), e P "usable" 1342 (f 849), e P "data_sent" 1349 (f 856), e P "unsent" 1356 (f 863), e P "is_fin_due" 1364 (f 870), e P "is_fin_acked" 1371 (f 877), e P "is_all_acked" 1378 (f 884), e P "go_on" 1386 (f 891), e P "start" 1393 (f 898), e P "may_go" 1402 (f 905), e P "pieces" 1413 (f 913), e P "piece_of" 1426 (f 920), e P "ever_sent" 1433 (f 927), e P "first_piece" 1440 (f 934), e P "reach" 1448 (f 941), e P "back_to" 1456 (f 948), e P "is_idle_with_more" 1463 (f 955), e P "needs_probe" 1470 (f 962), e P "probe" 1477 (f 969), e P "acked" 1489 (f 976), e P "__static_attributes__" 1501 (f 977), e P "__dict__" 1503 (f 980), e P "__weakref__" 1505 (f 981), e P "__doc__" 1506 n])) :: 
  (os (y "type") (dCls "Sender" [(y "object")] [(f 979), (y "object")] 978 "Sender" true [] false) [none, none, some (s "Sender" 1272), some (s "Sender" 1280), some (u "object.__new__"), some (b true)]) :: 
  (o (y "getset_descriptor") (dFields [(s "__dict__" 1502), (f 979), (u "function.__dict__"), (u "function.__dict__#set")])) :: 
  (o (y "getset_descriptor") (dFields [(s "__weakref__" 1504), (f 979), (u "ExceptionGroup.__weakref__"), n])) :: 
  (o (y "super") (dFields [(f 979), (f 979), (f 979)])) :: 
  (o (y "builtin_function_or_method") (dFields [(u "object.__init_subclass__"), (f 979)])) ::  r)))))))))))))))))))))))))
noncomputable def g45 (P : Params) (p : Program) (r : List Obj) : List Obj :=
  (o (y "tuple") (dSeq [])) :: 
  (o (y "builtin_function_or_method") (dFields [(u "type.__prepare__"), (y "type")])) :: 
  (o (y "dict") (dDict 12 [e P "__module__" 1520 (s "thinstack.wheel" 1511), e P "__qualname__" 1522 (s "Wheel" 1521), e P "__firstlineno__" 1524 (i 595 1523), e P "__init__" 1531 (f 996), e P "put" 1540 (f 1003), e P "list_of" 1548 (f 1010), e P "cancel" 1559 (f 1017), e P "time_of" 1567 (f 1024), e P "next_time" 1574 (f 1031), e P "due" 1580 (f 1036), e P "keys_until" 1590 (f 1043), e P "__static_attributes__" 1597 (f 1044)])) :: 
  (o (y "tuple") (dSeq [])) :: 
  (o n (dFields [(z 597), (z 4), (f 995), (z 605), (z 4), (f 1002), (z 611), (z 4), (f 1009), (z 616), (z 4), (f 1016), (z 623), (z 4), (f 1023), (z 626), (z 4), (f 1030), (z 629), (z 4), (f 1035), (z 641), (z 4), (f 1042)])) :: 
  (o (y "code") (dFields [(s "Wheel" 1515), (s "Wheel" 1516), (s "/claim/cut.py" 1517), (z 595), (z 0), (z 0), (z 0), (z 0), (f 987), (b false), (z 181), (f 988), n, n, n, n, (z 1518), (z 595), (s "/claim/cut.py" 1519)])) :: 
  (os (y "frame") dPlain [some (f 989), some (f 3), some (f 986), none, some (s "thinstack.wheel" 1511), none, some (f 0)]) :: 
  (o (y "tuple") (dSeq [(i 16 1525)])) :: 
  f5 992 1526 (mt p 45 0) "Wheel.__init__" (s "thinstack.wheel" 1511) (f 991) 2 597 (
  f7 997 1532 (mt p 45 1) "Wheel.put" (s "thinstack.wheel" 1511) n ["self", "key", "time"] 3 605 (
  f7 1004 1541 (mt p 45 2) "Wheel.list_of" (s "thinstack.wheel" 1511) n ["self", "time"] 2 611 (
  f7 1011 1549 (mt p 45 3) "Wheel.cancel" (s "thinstack.wheel" 1511) n ["self", "key", "time", "order", "keys"] 2 616 (
  f7 1018 1560 (mt p 45 4) "Wheel.time_of" (s "thinstack.wheel" 1511) n ["self", "key"] 2 623 (
  f7 1025 1568 (mt p 45 5) "Wheel.next_time" (s "thinstack.wheel" 1511) n ["self"] 1 626 (
  f5 1032 1575 (mt p 45 6) "Wheel.due" (s "thinstack.wheel" 1511) n 2 629 (
  f7 1037 1581 (mt p 45 7) "Wheel.keys_until" (s "thinstack.wheel" 1511) n ["self", "now", "found", "time"] 2 641 (
  (o (y "tuple") (dSeq [(s "entries" 1591), (s "given" 1592), (s "late" 1593), (s "reached" 1594), (s "size" 1595), (s "slots" 1596)])) :: 
  (o (y "dict") (dDict 4 [e P "__module__" 1520 (s "thinstack.wheel" 1511), e P "__firstlineno__" 1524 (i 595 1523), e P "__init__" 1531 (f 996), e P "put" 1540 (f 1003), e P "list_of" 1548 (f 1010), e P "cancel" 1559 (f 1017), e P "time_of" 1567 (f 1024), e P "next_time" 1574 (f 1031), e P "due" 1580 (f 1036), e P "keys_until" 1590 (f 1043), e P "__static_attributes__" 1597 (f 1044), e P "__dict__" 1599 (f 1047), e P "__weakref__" 1601 (f 1048), e P "__doc__" 1602 n])) :: 
  (os (y "type") (dCls "Wheel" [(y "object")] [(f 1046), (y "object")] 1045 "Wheel" true [] false) [none, none, some (s "Wheel" 1513), some (s "Wheel" 1521), some (u "object.__new__"), some (b true)]) :: 
  (o (y "getset_descriptor") (dFields [(s "__dict__" 1598), (f 1046), (u "function.__dict__"), (u "function.__dict__#set")])) :: 
  (o (y "getset_descriptor") (dFields [(s "__weakref__" 1600), (f 1046), (u "ExceptionGroup.__weakref__"), n])) :: 
  (o (y "super") (dFields [(f 1046), (f 1046), (f 1046)])) :: 
  (o (y "builtin_function_or_method") (dFields [(u "object.__init_subclass__"), (f 1046)])) ::  r))))))))
noncomputable def g47 (P : Params) (p : Program) (r : List Obj) : List Obj :=
  (o (y "tuple") (dSeq [])) :: 
  (o (y "builtin_function_or_method") (dFields [(u "type.__prepare__"), (y "type")])) :: 
  (o (y "dict") (dDict 5 [e P "__module__" 1614 (s "thinstack.tcb" 1605), e P "__qualname__" 1616 (s "Limits" 1615), e P "__firstlineno__" 1618 (i 649 1617), e P "__init__" 1635 (f 1064), e P "__static_attributes__" 1646 (f 1065)])) :: 
  (o (y "tuple") (dSeq [])) :: 
  (o n (dFields [(z 651), (z 4), (f 1063)])) :: 
  (o (y "code") (dFields [(s "Limits" 1609), (s "Limits" 1610), (s "/claim/cut.py" 1611), (z 649), (z 0), (z 0), (z 0), (z 0), (f 1054), (b false), (z 181), (f 1055), n, n, n, n, (z 1612), (z 649), (s "/claim/cut.py" 1613)])) :: 
  (os (y "frame") dPlain [some (f 1056), some (f 3), some (f 1053), none, some (s "thinstack.tcb" 1605), none, some (f 0)]) :: 
  f7 1058 1619 (mt p 47 0) "Limits.__init__" (s "thinstack.tcb" 1605) n ["self", "ring", "mss", "send_room", "receive_room", "first_timeout", "least_timeout", "most_timeout", "most_tries", "ack_delay", "time_wait"] 11 651 (
  (o (y "tuple") (dSeq [(s "ack_delay" 1636), (s "first_timeout" 1637), (s "least_timeout" 1638), (s "most_timeout" 1639), (s "most_tries" 1640), (s "mss" 1641), (s "receive_room" 1642), (s "ring" 1643), (s "send_room" 1644), (s "time_wait" 1645)])) :: 
  (o (y "dict") (dDict 4 [e P "__module__" 1614 (s "thinstack.tcb" 1605), e P "__firstlineno__" 1618 (i 649 1617), e P "__init__" 1635 (f 1064), e P "__static_attributes__" 1646 (f 1065), e P "__dict__" 1648 (f 1068), e P "__weakref__" 1650 (f 1069), e P "__doc__" 1651 n])) :: 
  (os (y "type") (dCls "Limits" [(y "object")] [(f 1067), (y "object")] 1066 "Limits" true [] false) [none, none, some (s "Limits" 1607), some (s "Limits" 1615), some (u "object.__new__"), some (b true)]) :: 
  (o (y "getset_descriptor") (dFields [(s "__dict__" 1647), (f 1067), (u "function.__dict__"), (u "function.__dict__#set")])) :: 
  (o (y "getset_descriptor") (dFields [(s "__weakref__" 1649), (f 1067), (u "ExceptionGroup.__weakref__"), n])) :: 
  (o (y "super") (dFields [(f 1067), (f 1067), (f 1067)])) :: 
  (o (y "builtin_function_or_method") (dFields [(u "object.__init_subclass__"), (f 1067)])) ::  r)
noncomputable def g48 (P : Params) (p : Program) (r : List Obj) : List Obj :=
  f7 1072 1654 (st p 48) "clock_of" (s "thinstack.tcb" 1605) n ["limits", "estimate"] 1 662 ( r)
noncomputable def g49 (P : Params) (p : Program) (r : List Obj) : List Obj :=
  (o (y "tuple") (dSeq [])) :: 
  (o (y "builtin_function_or_method") (dFields [(u "type.__prepare__"), (y "type")])) :: 
  (o (y "dict") (dDict 7 [e P "__module__" 1669 (s "thinstack.tcb" 1605), e P "__qualname__" 1671 (s "Tcb" 1670), e P "__firstlineno__" 1673 (i 665 1672), e P "__init__" 1684 (f 1092), e P "window_now" 1691 (f 1099), e P "make" 1702 (f 1107), e P "__static_attributes__" 1717 (f 1108)])) :: 
  (o (y "tuple") (dSeq [])) :: 
  (o n (dFields [(z 667), (z 4), (f 1091), (z 683), (z 4), (f 1098), (z 686), (z 4), (f 1106)])) :: 
  (o (y "code") (dFields [(s "Tcb" 1664), (s "Tcb" 1665), (s "/claim/cut.py" 1666), (z 665), (z 0), (z 0), (z 0), (z 0), (f 1082), (b false), (z 181), (f 1083), n, n, n, n, (z 1667), (z 665), (s "/claim/cut.py" 1668)])) :: 
  (os (y "frame") dPlain [some (f 1084), some (f 3), some (f 1081), none, some (s "thinstack.tcb" 1605), none, some (f 0)]) :: 
  f7 1086 1674 (mt p 49 0) "Tcb.__init__" (s "thinstack.tcb" 1605) n ["self", "limits", "local", "remote", "iss"] 5 667 (
  f7 1093 1685 (mt p 49 1) "Tcb.window_now" (s "thinstack.tcb" 1605) n ["self"] 1 683 (
  (o (y "tuple") (dSeq [(.bytes #[] 1692)])) :: 
  f7 1101 1693 (mt p 49 2) "Tcb.make" (s "thinstack.tcb" 1605) (f 1100) ["self", "flags", "seq", "payload"] 4 686 (
  (o (y "tuple") (dSeq [(s "acks" 1703), (s "clock" 1704), (s "congestion" 1705), (s "error" 1706), (s "is_nagle" 1707), (s "limits" 1708), (s "local" 1709), (s "probes" 1710), (s "receiver" 1711), (s "remote" 1712), (s "sender" 1713), (s "state" 1714), (s "unanswered" 1715), (s "wheel" 1716)])) :: 
  (o (y "dict") (dDict 4 [e P "__module__" 1669 (s "thinstack.tcb" 1605), e P "__firstlineno__" 1673 (i 665 1672), e P "__init__" 1684 (f 1092), e P "window_now" 1691 (f 1099), e P "make" 1702 (f 1107), e P "__static_attributes__" 1717 (f 1108), e P "__dict__" 1719 (f 1111), e P "__weakref__" 1721 (f 1112), e P "__doc__" 1722 n])) :: 
  (os (y "type") (dCls "Tcb" [(y "object")] [(f 1110), (y "object")] 1109 "Tcb" true [] false) [none, none, some (s "Tcb" 1662), some (s "Tcb" 1670), some (u "object.__new__"), some (b true)]) :: 
  (o (y "getset_descriptor") (dFields [(s "__dict__" 1718), (f 1110), (u "function.__dict__"), (u "function.__dict__#set")])) :: 
  (o (y "getset_descriptor") (dFields [(s "__weakref__" 1720), (f 1110), (u "ExceptionGroup.__weakref__"), n])) :: 
  (o (y "super") (dFields [(f 1110), (f 1110), (f 1110)])) :: 
  (o (y "builtin_function_or_method") (dFields [(u "object.__init_subclass__"), (f 1110)])) ::  r)))
noncomputable def g51 (P : Params) (p : Program) (r : List Obj) : List Obj :=
  f7 1115 1727 (st p 51) "_law_pool" (s "law_xw0350_01" 1725) n ["script", "k", "cell", "great", "mixed"] 2 689 ( r)
noncomputable def g52 (P : Params) (p : Program) (r : List Obj) : List Obj :=
  f7 1122 1738 (st p 52) "_law_take" (s "law_xw0350_01" 1725) n ["source", "top", "drawn"] 2 694 ( r)
noncomputable def g53 (P : Params) (p : Program) (r : List Obj) : List Obj :=
  f7 1129 1747 (st p 53) "_law_one" (s "law_xw0350_01" 1725) n ["source", "things"] 2 701 ( r)
noncomputable def g54 (P : Params) (p : Program) (r : List Obj) : List Obj :=
  f7 1136 1755 (st p 54) "_law_forms" (s "law_xw0350_01" 1725) n ["size", "told", "found"] 1 703 ( r)
noncomputable def g55 (P : Params) (p : Program) (r : List Obj) : List Obj :=
  f7 1143 1764 (st p 55) "_law_right" (s "law_xw0350_01" 1725) n ["ring", "own", "room", "seq", "form", "options", "told", "tcb", "due", "receiver", "sender"] 5 708 ( r)
noncomputable def g56 (P : Params) (p : Program) (r : List Obj) : List Obj :=
  f7 1150 1781 (st p 56) "law" (s "law_xw0350_01" 1725) n ["script", "source", "turn", "ring", "own", "size", "seq"] 1 721 ( r)

noncomputable def mainD (P : Params) (nm : Value) (nb : Nat) : Obj := o (y "dict") (dDict (Nat.add 9 nb) (e P "__name__" 165 nm :: app (first8 P) (tak (bound P) nb)))
noncomputable def base (P : Params) (n2 nb : Nat) (nm : Value) (nc : Nat) (r : List Obj) : List Obj :=
  boot_o_0 P :: boot_o_1 P :: o n (dDict n2 (tak (stat2 P) n2)) :: mainD P nm nb :: boot_o_4 P :: boot_o_5 P :: boot_o_6 P :: boot_o_7 P :: boot_o_8 P :: boot_o_9 P :: boot_o_10 P ::
  top11 :: o n (dFields (tak table nc)) :: top13 :: top14 :: r
noncomputable def env (p : Program) : Env := { scope := p.main.scope, locals := mainNs, globals := mainNs, cells := [], code := .ref 13, frame := some 14 }
noncomputable def cod (p : Program) : Code := .body (behindTheImports p) (env p)
noncomputable def q0 : Pos := ⟨0, 0, 0, 0⟩
noncomputable def sl (p : Program) (a k : Nat) : List Stmt := tak (@Nat.rec (fun _ => List Stmt → List Stmt) (fun l => l) (fun _ ih l => ih (@List.rec Stmt (fun _ => List Stmt) [] (fun _ r _ => r) l)) a p.main.body) k
noncomputable def ann : Option Value := some (.ref 6)
noncomputable abbrev sT (tree : BT) (size toks : Nat) (os : OsState) : SharedT := ⟨tree, size, {}, ⟨[]⟩, {}, toks, os⟩

noncomputable def l0 (P : Params) (_p : Program) : List Obj := base P 0 0 (s "__main__" 164) 0 []
noncomputable def s0 (p : Program) (w : World) (os : OsState) : SharedT := sT (treeA 11 (l0 w.params p)) 15 187 os
noncomputable def l1 (P : Params) (p : Program) : List Obj := base P 0 6 (s "thinstack.assembly" 242) 18 (g0 P p (g2 P p (g3 P p (g4 P p (g5 P p (g6 P p []))))))
noncomputable def s1 (p : Program) (w : World) (os : OsState) : SharedT := sT (treeB 11 (l1 w.params p)) 57 244 os
noncomputable def p1 : Pos := ⟨16, 0, 16, 8⟩
noncomputable def l2 (P : Params) (p : Program) : List Obj := base P 0 7 (s "thinstack.assembly" 242) 21 (g0 P p (g2 P p (g3 P p (g4 P p (g5 P p (g6 P p (g8 P p [])))))))
noncomputable def s2 (p : Program) (w : World) (os : OsState) : SharedT := sT (treeA 11 (l2 w.params p)) 153 395 os
noncomputable def p2 : Pos := ⟨17, 0, 105, 16⟩
noncomputable def l3 (P : Params) (p : Program) : List Obj := base P 0 7 (s "thinstack.receiver" 395) 21 (g0 P p (g2 P p (g3 P p (g4 P p (g5 P p (g6 P p (g8 P p [])))))))
noncomputable def s3 (p : Program) (w : World) (os : OsState) : SharedT := sT (treeB 11 (l3 w.params p)) 153 397 os
noncomputable def p3 : Pos := ⟨106, 0, 106, 8⟩
noncomputable def l4 (P : Params) (p : Program) : List Obj := base P 0 8 (s "thinstack.receiver" 395) 24 (g0 P p (g2 P p (g3 P p (g4 P p (g5 P p (g6 P p (g8 P p (g10 P p []))))))))
noncomputable def s4 (p : Program) (w : World) (os : OsState) : SharedT := sT (treeA 11 (l4 w.params p)) 287 564 os
noncomputable def p4 : Pos := ⟨107, 0, 178, 16⟩
noncomputable def l5 (P : Params) (p : Program) : List Obj := base P 2 10 (s "thinstack.errors" 564) 30 (g0 P p (g2 P p (g3 P p (g4 P p (g5 P p (g6 P p (g8 P p (g10 P p (g12 P p [(f 316)] (g13 P p []))))))))))
noncomputable def s5 (p : Program) (w : World) (os : OsState) : SharedT := sT (treeB 11 (l5 w.params p)) 319 611 os
noncomputable def p5 : Pos := ⟨184, 0, 185, 8⟩
noncomputable def l6 (P : Params) (p : Program) : List Obj := base P 2 12 (s "thinstack.octets" 643) 36 (g0 P p (g2 P p (g3 P p (g4 P p (g5 P p (g6 P p (g8 P p (g10 P p (g12 P p [(f 316), (f 328), (f 340)] (g13 P p (g14 P p (g15 P p []))))))))))))
noncomputable def s6 (p : Program) (w : World) (os : OsState) : SharedT := sT (treeA 11 (l6 w.params p)) 343 645 os
noncomputable def p6 : Pos := ⟨190, 0, 190, 8⟩
noncomputable def l7 (P : Params) (p : Program) : List Obj := base P 2 19 (s "thinstack.tcp_segment" 662) 45 (g0 P p (g2 P p (g3 P p (g4 P p (g5 P p (g6 P p (g8 P p (g10 P p (g12 P p [(f 316), (f 328), (f 340)] (g13 P p (g14 P p (g15 P p (g17 P p (g18 P p (g24 P p [])))))))))))))))
noncomputable def s7 (p : Program) (w : World) (os : OsState) : SharedT := sT (treeB 11 (l7 w.params p)) 400 742 os
noncomputable def p7 : Pos := ⟨202, 0, 222, 16⟩
noncomputable def l8 (P : Params) (p : Program) : List Obj := base P 2 22 (s "thinstack.acks" 766) 51 (g0 P p (g2 P p (g3 P p (g4 P p (g5 P p (g6 P p (g8 P p (g10 P p (g12 P p [(f 316), (f 328), (f 340)] (g13 P p (g14 P p (g15 P p (g17 P p (g18 P p (g24 P p (g25 P p (g28 P p [])))))))))))))))))
noncomputable def s8 (p : Program) (w : World) (os : OsState) : SharedT := sT (treeA 11 (l8 w.params p)) 414 768 os
noncomputable def p8 : Pos := ⟨249, 0, 249, 8⟩
noncomputable def l9 (P : Params) (p : Program) : List Obj := base P 2 23 (s "thinstack.congestion" 839) 54 (g0 P p (g2 P p (g3 P p (g4 P p (g5 P p (g6 P p (g8 P p (g10 P p (g12 P p [(f 316), (f 328), (f 340)] (g13 P p (g14 P p (g15 P p (g17 P p (g18 P p (g24 P p (g25 P p (g28 P p (g30 P p []))))))))))))))))))
noncomputable def s9 (p : Program) (w : World) (os : OsState) : SharedT := sT (treeB 11 (l9 w.params p)) 471 841 os
noncomputable def p9 : Pos := ⟨272, 0, 272, 8⟩
noncomputable def l10 (P : Params) (p : Program) : List Obj := base P 2 24 (s "thinstack.congestion" 839) 57 (g0 P p (g2 P p (g3 P p (g4 P p (g5 P p (g6 P p (g8 P p (g10 P p (g12 P p [(f 316), (f 328), (f 340)] (g13 P p (g14 P p (g15 P p (g17 P p (g18 P p (g24 P p (g25 P p (g28 P p (g30 P p (g32 P p [])))))))))))))))))))
noncomputable def s10 (p : Program) (w : World) (os : OsState) : SharedT := sT (treeA 11 (l10 w.params p)) 562 959 os
noncomputable def p10 : Pos := ⟨273, 0, 334, 17⟩
noncomputable def l11 (P : Params) (p : Program) : List Obj := base P 2 25 (s "thinstack.retransmit" 959) 57 (g0 P p (g2 P p (g3 P p (g4 P p (g5 P p (g6 P p (g8 P p (g10 P p (g12 P p [(f 316), (f 328), (f 340)] (g13 P p (g14 P p (g15 P p (g17 P p (g18 P p (g24 P p (g25 P p (g28 P p (g30 P p (g32 P p [])))))))))))))))))))
noncomputable def s11 (p : Program) (w : World) (os : OsState) : SharedT := sT (treeB 11 (l11 w.params p)) 562 963 os
noncomputable def p11 : Pos := ⟨336, 0, 336, 10⟩
noncomputable def l12 (P : Params) (p : Program) : List Obj := base P 2 26 (s "thinstack.retransmit" 959) 60 (g0 P p (g2 P p (g3 P p (g4 P p (g5 P p (g6 P p (g8 P p (g10 P p (g12 P p [(f 316), (f 328), (f 340)] (g13 P p (g14 P p (g15 P p (g17 P p (g18 P p (g24 P p (g25 P p (g28 P p (g30 P p (g32 P p (g35 P p []))))))))))))))))))))
noncomputable def s12 (p : Program) (w : World) (os : OsState) : SharedT := sT (treeA 11 (l12 w.params p)) 639 1062 os
noncomputable def p12 : Pos := ⟨337, 0, 379, 17⟩
noncomputable def l13 (P : Params) (p : Program) : List Obj := base P 2 27 (s "thinstack.send_queue" 1138) 63 (g0 P p (g2 P p (g3 P p (g4 P p (g5 P p (g6 P p (g8 P p (g10 P p (g12 P p [(f 316), (f 328), (f 340)] (g13 P p (g14 P p (g15 P p (g17 P p (g18 P p (g24 P p (g25 P p (g28 P p (g30 P p (g32 P p (g35 P p (g37 P p [])))))))))))))))))))))
noncomputable def s13 (p : Program) (w : World) (os : OsState) : SharedT := sT (treeB 11 (l13 w.params p)) 695 1140 os
noncomputable def p13 : Pos := ⟨418, 0, 418, 8⟩
noncomputable def l14 (P : Params) (p : Program) : List Obj := base P 2 28 (s "thinstack.sender" 1210) 66 (g0 P p (g2 P p (g3 P p (g4 P p (g5 P p (g6 P p (g8 P p (g10 P p (g12 P p [(f 316), (f 328), (f 340)] (g13 P p (g14 P p (g15 P p (g17 P p (g18 P p (g24 P p (g25 P p (g28 P p (g30 P p (g32 P p (g35 P p (g37 P p (g39 P p []))))))))))))))))))))))
noncomputable def s14 (p : Program) (w : World) (os : OsState) : SharedT := sT (treeA 11 (l14 w.params p)) 751 1212 os
noncomputable def p14 : Pos := ⟨447, 0, 447, 8⟩
noncomputable def l15 (P : Params) (p : Program) : List Obj := base P 2 29 (s "thinstack.sender" 1210) 69 (g0 P p (g2 P p (g3 P p (g4 P p (g5 P p (g6 P p (g8 P p (g10 P p (g12 P p [(f 316), (f 328), (f 340)] (g13 P p (g14 P p (g15 P p (g17 P p (g18 P p (g24 P p (g25 P p (g28 P p (g30 P p (g32 P p (g35 P p (g37 P p (g39 P p (g41 P p [])))))))))))))))))))))))
noncomputable def s15 (p : Program) (w : World) (os : OsState) : SharedT := sT (treeB 11 (l15 w.params p)) 793 1272 os
noncomputable def p15 : Pos := ⟨448, 0, 464, 17⟩
noncomputable def l16 (P : Params) (p : Program) : List Obj := base P 2 30 (s "thinstack.sender" 1210) 72 (g0 P p (g2 P p (g3 P p (g4 P p (g5 P p (g6 P p (g8 P p (g10 P p (g12 P p [(f 316), (f 328), (f 340)] (g13 P p (g14 P p (g15 P p (g17 P p (g18 P p (g24 P p (g25 P p (g28 P p (g30 P p (g32 P p (g35 P p (g37 P p (g39 P p (g41 P p (g42 P p []))))))))))))))))))))))))
noncomputable def s16 (p : Program) (w : World) (os : OsState) : SharedT := sT (treeA 11 (l16 w.params p)) 984 1509 os
noncomputable def p16 : Pos := ⟨465, 0, 592, 60⟩
noncomputable def l17 (P : Params) (p : Program) : List Obj := base P 2 31 (s "thinstack.wheel" 1511) 72 (g0 P p (g2 P p (g3 P p (g4 P p (g5 P p (g6 P p (g8 P p (g10 P p (g12 P p [(f 316), (f 328), (f 340)] (g13 P p (g14 P p (g15 P p (g17 P p (g18 P p (g24 P p (g25 P p (g28 P p (g30 P p (g32 P p (g35 P p (g37 P p (g39 P p (g41 P p (g42 P p []))))))))))))))))))))))))
noncomputable def s17 (p : Program) (w : World) (os : OsState) : SharedT := sT (treeB 11 (l17 w.params p)) 984 1513 os
noncomputable def p17 : Pos := ⟨594, 0, 594, 8⟩
noncomputable def l18 (P : Params) (p : Program) : List Obj := base P 2 32 (s "thinstack.wheel" 1511) 75 (g0 P p (g2 P p (g3 P p (g4 P p (g5 P p (g6 P p (g8 P p (g10 P p (g12 P p [(f 316), (f 328), (f 340)] (g13 P p (g14 P p (g15 P p (g17 P p (g18 P p (g24 P p (g25 P p (g28 P p (g30 P p (g32 P p (g35 P p (g37 P p (g39 P p (g41 P p (g42 P p (g45 P p [])))))))))))))))))))))))))
noncomputable def s18 (p : Program) (w : World) (os : OsState) : SharedT := sT (treeA 11 (l18 w.params p)) 1051 1605 os
noncomputable def p18 : Pos := ⟨595, 0, 647, 20⟩
noncomputable def l19 (P : Params) (p : Program) : List Obj := base P 2 34 (s "thinstack.tcb" 1605) 81 (g0 P p (g2 P p (g3 P p (g4 P p (g5 P p (g6 P p (g8 P p (g10 P p (g12 P p [(f 316), (f 328), (f 340)] (g13 P p (g14 P p (g15 P p (g17 P p (g18 P p (g24 P p (g25 P p (g28 P p (g30 P p (g32 P p (g35 P p (g37 P p (g39 P p (g41 P p (g42 P p (g45 P p (g47 P p (g48 P p [])))))))))))))))))))))))))))
noncomputable def s19 (p : Program) (w : World) (os : OsState) : SharedT := sT (treeB 11 (l19 w.params p)) 1079 1662 os
noncomputable def p19 : Pos := ⟨662, 0, 664, 55⟩
noncomputable def l20 (P : Params) (p : Program) : List Obj := base P 2 39 (s "law_xw0350_01" 1725) 96 (g0 P p (g2 P p (g3 P p (g4 P p (g5 P p (g6 P p (g8 P p (g10 P p (g12 P p [(f 316), (f 328), (f 340)] (g13 P p (g14 P p (g15 P p (g17 P p (g18 P p (g24 P p (g25 P p (g28 P p (g30 P p (g32 P p (g35 P p (g37 P p (g39 P p (g41 P p (g42 P p (g45 P p (g47 P p (g48 P p (g49 P p (g51 P p (g52 P p (g53 P p (g54 P p []))))))))))))))))))))))))))))))))
noncomputable def s20 (p : Program) (w : World) (os : OsState) : SharedT := sT (treeA 11 (l20 w.params p)) 1143 1764 os
noncomputable def p20 : Pos := ⟨703, 0, 707, 67⟩
noncomputable def l21 (P : Params) (p : Program) : List Obj := base P 2 41 (s "law_xw0350_01" 1725) 102 (g0 P p (g2 P p (g3 P p (g4 P p (g5 P p (g6 P p (g8 P p (g10 P p (g12 P p [(f 316), (f 328), (f 340)] (g13 P p (g14 P p (g15 P p (g17 P p (g18 P p (g24 P p (g25 P p (g28 P p (g30 P p (g32 P p (g35 P p (g37 P p (g39 P p (g41 P p (g42 P p (g45 P p (g47 P p (g48 P p (g49 P p (g51 P p (g52 P p (g53 P p (g54 P p (g55 P p (g56 P p []))))))))))))))))))))))))))))))))))
noncomputable def s21 (p : Program) (w : World) (os : OsState) : SharedT := sT (treeB 11 (l21 w.params p)) 1157 1794 os
noncomputable def p21 : Pos := ⟨721, 0, 731, 15⟩
noncomputable def p0 : Pos := ⟨0, 0, 0, 0⟩
end Mine.H
end
section
set_option maxHeartbeats 200000
namespace Mine.H
open PySem PySem.W
abbrev pw : Program := PySem.Challenge.pw_xw0350_01

theorem r1 (w : World) (os : OsState) : segRunT treeTable pw w 11 ann 1 204 (s0 pw w os) (piecesOf (sl pw 0 8) (env pw) (cod pw) p0 [topFrame q0]) = some (.next, s1 pw w os, cod pw, p1) := by delta piecesOf; rw [PySem.W.Fast.te10110043849684766642, PySem.W.Fast.te14364793385576792824, PySem.W.Fast.te12563942051412417395]; kernel_rfl
theorem r2 (w : World) (os : OsState) : segRunT treeTable pw w 11 ann 1 607 (s1 pw w os) (piecesOf (sl pw 8 1) (env pw) (cod pw) p1 [topFrame q0]) = some (.next, s2 pw w os, cod pw, p2) := by delta piecesOf; rw [PySem.W.Fast.te10110043849684766642, PySem.W.Fast.te14364793385576792824, PySem.W.Fast.te12563942051412417395]; kernel_rfl
theorem r3 (w : World) (os : OsState) : segRunT treeTable pw w 11 ann 1 10 (s2 pw w os) (piecesOf (sl pw 9 1) (env pw) (cod pw) p2 [topFrame q0]) = some (.next, s3 pw w os, cod pw, p3) := by delta piecesOf; rw [PySem.W.Fast.te10110043849684766642, PySem.W.Fast.te14364793385576792824, PySem.W.Fast.te12563942051412417395]; kernel_rfl
theorem r4 (w : World) (os : OsState) : segRunT treeTable pw w 11 ann 1 746 (s3 pw w os) (piecesOf (sl pw 10 1) (env pw) (cod pw) p3 [topFrame q0]) = some (.next, s4 pw w os, cod pw, p4) := by delta piecesOf; rw [PySem.W.Fast.te10110043849684766642, PySem.W.Fast.te14364793385576792824, PySem.W.Fast.te12563942051412417395]; kernel_rfl
theorem r5 (w : World) (os : OsState) : segRunT treeTable pw w 11 ann 1 451 (s4 pw w os) (piecesOf (sl pw 11 3) (env pw) (cod pw) p4 [topFrame q0]) = some (.next, s5 pw w os, cod pw, p5) := by delta piecesOf; rw [PySem.W.Fast.te10110043849684766642, PySem.W.Fast.te14364793385576792824, PySem.W.Fast.te12563942051412417395]; kernel_rfl
theorem r6 (w : World) (os : OsState) : segRunT treeTable pw w 11 ann 1 436 (s5 pw w os) (piecesOf (sl pw 14 3) (env pw) (cod pw) p5 [topFrame q0]) = some (.next, s6 pw w os, cod pw, p6) := by delta piecesOf; rw [PySem.W.Fast.te10110043849684766642, PySem.W.Fast.te14364793385576792824, PySem.W.Fast.te12563942051412417395]; kernel_rfl
theorem r7 (w : World) (os : OsState) : segRunT treeTable pw w 11 ann 1 443 (s6 pw w os) (piecesOf (sl pw 17 8) (env pw) (cod pw) p6 [topFrame q0]) = some (.next, s7 pw w os, cod pw, p7) := by delta piecesOf; rw [PySem.W.Fast.te10110043849684766642, PySem.W.Fast.te14364793385576792824, PySem.W.Fast.te12563942051412417395]; kernel_rfl
theorem r8 (w : World) (os : OsState) : segRunT treeTable pw w 11 ann 1 92 (s7 pw w os) (piecesOf (sl pw 25 5) (env pw) (cod pw) p7 [topFrame q0]) = some (.next, s8 pw w os, cod pw, p8) := by delta piecesOf; rw [PySem.W.Fast.te10110043849684766642, PySem.W.Fast.te14364793385576792824, PySem.W.Fast.te12563942051412417395]; kernel_rfl
theorem r9 (w : World) (os : OsState) : segRunT treeTable pw w 11 ann 1 395 (s8 pw w os) (piecesOf (sl pw 30 2) (env pw) (cod pw) p8 [topFrame q0]) = some (.next, s9 pw w os, cod pw, p9) := by delta piecesOf; rw [PySem.W.Fast.te10110043849684766642, PySem.W.Fast.te14364793385576792824, PySem.W.Fast.te12563942051412417395]; kernel_rfl
theorem r10 (w : World) (os : OsState) : segRunT treeTable pw w 11 ann 1 552 (s9 pw w os) (piecesOf (sl pw 32 1) (env pw) (cod pw) p9 [topFrame q0]) = some (.next, s10 pw w os, cod pw, p10) := by delta piecesOf; rw [PySem.W.Fast.te10110043849684766642, PySem.W.Fast.te14364793385576792824, PySem.W.Fast.te12563942051412417395]; kernel_rfl
theorem r11 (w : World) (os : OsState) : segRunT treeTable pw w 11 ann 1 19 (s10 pw w os) (piecesOf (sl pw 33 2) (env pw) (cod pw) p10 [topFrame q0]) = some (.next, s11 pw w os, cod pw, p11) := by delta piecesOf; rw [PySem.W.Fast.te10110043849684766642, PySem.W.Fast.te14364793385576792824, PySem.W.Fast.te12563942051412417395]; kernel_rfl
theorem r12 (w : World) (os : OsState) : segRunT treeTable pw w 11 ann 1 485 (s11 pw w os) (piecesOf (sl pw 35 1) (env pw) (cod pw) p11 [topFrame q0]) = some (.next, s12 pw w os, cod pw, p12) := by delta piecesOf; rw [PySem.W.Fast.te10110043849684766642, PySem.W.Fast.te14364793385576792824, PySem.W.Fast.te12563942051412417395]; kernel_rfl
theorem r13 (w : World) (os : OsState) : segRunT treeTable pw w 11 ann 1 406 (s12 pw w os) (piecesOf (sl pw 36 3) (env pw) (cod pw) p12 [topFrame q0]) = some (.next, s13 pw w os, cod pw, p13) := by delta piecesOf; rw [PySem.W.Fast.te10110043849684766642, PySem.W.Fast.te14364793385576792824, PySem.W.Fast.te12563942051412417395]; kernel_rfl
theorem r14 (w : World) (os : OsState) : segRunT treeTable pw w 11 ann 1 393 (s13 pw w os) (piecesOf (sl pw 39 2) (env pw) (cod pw) p13 [topFrame q0]) = some (.next, s14 pw w os, cod pw, p14) := by delta piecesOf; rw [PySem.W.Fast.te10110043849684766642, PySem.W.Fast.te14364793385576792824, PySem.W.Fast.te12563942051412417395]; kernel_rfl
theorem r15 (w : World) (os : OsState) : segRunT treeTable pw w 11 ann 1 326 (s14 pw w os) (piecesOf (sl pw 41 1) (env pw) (cod pw) p14 [topFrame q0]) = some (.next, s15 pw w os, cod pw, p15) := by delta piecesOf; rw [PySem.W.Fast.te10110043849684766642, PySem.W.Fast.te14364793385576792824, PySem.W.Fast.te12563942051412417395]; kernel_rfl
theorem r16 (w : World) (os : OsState) : segRunT treeTable pw w 11 ann 1 1065 (s15 pw w os) (piecesOf (sl pw 42 1) (env pw) (cod pw) p15 [topFrame q0]) = some (.next, s16 pw w os, cod pw, p16) := by delta piecesOf; rw [PySem.W.Fast.te10110043849684766642, PySem.W.Fast.te14364793385576792824, PySem.W.Fast.te12563942051412417395]; kernel_rfl
theorem r17 (w : World) (os : OsState) : segRunT treeTable pw w 11 ann 1 19 (s16 pw w os) (piecesOf (sl pw 43 2) (env pw) (cod pw) p16 [topFrame q0]) = some (.next, s17 pw w os, cod pw, p17) := by delta piecesOf; rw [PySem.W.Fast.te10110043849684766642, PySem.W.Fast.te14364793385576792824, PySem.W.Fast.te12563942051412417395]; kernel_rfl
theorem r18 (w : World) (os : OsState) : segRunT treeTable pw w 11 ann 1 451 (s17 pw w os) (piecesOf (sl pw 45 1) (env pw) (cod pw) p17 [topFrame q0]) = some (.next, s18 pw w os, cod pw, p18) := by delta piecesOf; rw [PySem.W.Fast.te10110043849684766642, PySem.W.Fast.te14364793385576792824, PySem.W.Fast.te12563942051412417395]; kernel_rfl
theorem r19 (w : World) (os : OsState) : segRunT treeTable pw w 11 ann 1 280 (s18 pw w os) (piecesOf (sl pw 46 3) (env pw) (cod pw) p18 [topFrame q0]) = some (.next, s19 pw w os, cod pw, p19) := by delta piecesOf; rw [PySem.W.Fast.te10110043849684766642, PySem.W.Fast.te14364793385576792824, PySem.W.Fast.te12563942051412417395]; kernel_rfl
theorem r20 (w : World) (os : OsState) : segRunT treeTable pw w 11 ann 1 440 (s19 pw w os) (piecesOf (sl pw 49 6) (env pw) (cod pw) p19 [topFrame q0]) = some (.next, s20 pw w os, cod pw, p20) := by delta piecesOf; rw [PySem.W.Fast.te10110043849684766642, PySem.W.Fast.te14364793385576792824, PySem.W.Fast.te12563942051412417395]; kernel_rfl
theorem r21 (w : World) (os : OsState) : segRunT treeTable pw w 11 ann 1 75 (s20 pw w os) (piecesOf (sl pw 55 2) (env pw) (cod pw) p20 [topFrame q0]) = some (.next, s21 pw w os, cod pw, p21) := by delta piecesOf; rw [PySem.W.Fast.te10110043849684766642, PySem.W.Fast.te14364793385576792824, PySem.W.Fast.te12563942051412417395]; kernel_rfl
end Mine.H
end
section
set_option maxHeartbeats 200000
namespace Mine.H
open PySem PySem.W
theorem pre (w : World) (os : OsState) : topGo treeTable pw w 11 ann 12 ⟨boot_heap w.params, ⟨[]⟩, boot_drawn, boot_toks, os⟩ (topStub pw) = some ((s0 pw w os).abs, ⟨denote treeTable (cod pw), cod pw, p0, [topFrame q0]⟩) := by kernel_rfl
theorem blk (w : World) (os : OsState) : segRunT treeTable pw w 11 ann 1 1 (s0 pw w os) (blockOf (behindTheImports pw) (env pw) (cod pw) p0 [topFrame q0]) = some (.next, s0 pw w os, cod pw, p0) := by kernel_rfl

theorem fin (w : World) (os : OsState) : topRun treeTable pw w 11 ann 2 (s21 pw w os).abs ⟨doneF .next, cod pw, p21, [topFrame q0]⟩ = some (s21 pw w os).abs := by kernel_rfl
theorem body : behindTheImports pw = sl pw 0 8 ++ (sl pw 8 1 ++ (sl pw 9 1 ++ (sl pw 10 1 ++ (sl pw 11 3 ++ (sl pw 14 3 ++ (sl pw 17 8 ++ (sl pw 25 5 ++ (sl pw 30 2 ++ (sl pw 32 1 ++ (sl pw 33 2 ++ (sl pw 35 1 ++ (sl pw 36 3 ++ (sl pw 39 2 ++ (sl pw 41 1 ++ (sl pw 42 1 ++ (sl pw 43 2 ++ (sl pw 45 1 ++ (sl pw 46 3 ++ (sl pw 49 6 ++ (sl pw 55 2 ++ [])))))))))))))))))))) := by kernel_rfl
theorem c21 (w : World) (os : OsState) : topRun treeTable pw w 11 ann 2 (s21 pw w os).abs (restOf [] (env pw) (cod pw) p21 [topFrame q0]) = some (s21 pw w os).abs := piece_nil (fin w os)
theorem c20 (w : World) (os : OsState) : topRun treeTable pw w 11 ann (75 + 2) (s20 pw w os).abs (restOf (sl pw 55 2 ++ []) (env pw) (cod pw) p20 [topFrame q0]) = some (s21 pw w os).abs := piece_app (segRun_of (r21 w os)) (c21 w os)
theorem c19 (w : World) (os : OsState) : topRun treeTable pw w 11 ann (440 + (75 + 2)) (s19 pw w os).abs (restOf (sl pw 49 6 ++ (sl pw 55 2 ++ [])) (env pw) (cod pw) p19 [topFrame q0]) = some (s21 pw w os).abs := piece_app (segRun_of (r20 w os)) (c20 w os)
theorem c18 (w : World) (os : OsState) : topRun treeTable pw w 11 ann (280 + (440 + (75 + 2))) (s18 pw w os).abs (restOf (sl pw 46 3 ++ (sl pw 49 6 ++ (sl pw 55 2 ++ []))) (env pw) (cod pw) p18 [topFrame q0]) = some (s21 pw w os).abs := piece_app (segRun_of (r19 w os)) (c19 w os)
theorem c17 (w : World) (os : OsState) : topRun treeTable pw w 11 ann (451 + (280 + (440 + (75 + 2)))) (s17 pw w os).abs (restOf (sl pw 45 1 ++ (sl pw 46 3 ++ (sl pw 49 6 ++ (sl pw 55 2 ++ [])))) (env pw) (cod pw) p17 [topFrame q0]) = some (s21 pw w os).abs := piece_app (segRun_of (r18 w os)) (c18 w os)
theorem c16 (w : World) (os : OsState) : topRun treeTable pw w 11 ann (19 + (451 + (280 + (440 + (75 + 2))))) (s16 pw w os).abs (restOf (sl pw 43 2 ++ (sl pw 45 1 ++ (sl pw 46 3 ++ (sl pw 49 6 ++ (sl pw 55 2 ++ []))))) (env pw) (cod pw) p16 [topFrame q0]) = some (s21 pw w os).abs := piece_app (segRun_of (r17 w os)) (c17 w os)
theorem c15 (w : World) (os : OsState) : topRun treeTable pw w 11 ann (1065 + (19 + (451 + (280 + (440 + (75 + 2)))))) (s15 pw w os).abs (restOf (sl pw 42 1 ++ (sl pw 43 2 ++ (sl pw 45 1 ++ (sl pw 46 3 ++ (sl pw 49 6 ++ (sl pw 55 2 ++ [])))))) (env pw) (cod pw) p15 [topFrame q0]) = some (s21 pw w os).abs := piece_app (segRun_of (r16 w os)) (c16 w os)
theorem c14 (w : World) (os : OsState) : topRun treeTable pw w 11 ann (326 + (1065 + (19 + (451 + (280 + (440 + (75 + 2))))))) (s14 pw w os).abs (restOf (sl pw 41 1 ++ (sl pw 42 1 ++ (sl pw 43 2 ++ (sl pw 45 1 ++ (sl pw 46 3 ++ (sl pw 49 6 ++ (sl pw 55 2 ++ []))))))) (env pw) (cod pw) p14 [topFrame q0]) = some (s21 pw w os).abs := piece_app (segRun_of (r15 w os)) (c15 w os)
theorem c13 (w : World) (os : OsState) : topRun treeTable pw w 11 ann (393 + (326 + (1065 + (19 + (451 + (280 + (440 + (75 + 2)))))))) (s13 pw w os).abs (restOf (sl pw 39 2 ++ (sl pw 41 1 ++ (sl pw 42 1 ++ (sl pw 43 2 ++ (sl pw 45 1 ++ (sl pw 46 3 ++ (sl pw 49 6 ++ (sl pw 55 2 ++ [])))))))) (env pw) (cod pw) p13 [topFrame q0]) = some (s21 pw w os).abs := piece_app (segRun_of (r14 w os)) (c14 w os)
theorem c12 (w : World) (os : OsState) : topRun treeTable pw w 11 ann (406 + (393 + (326 + (1065 + (19 + (451 + (280 + (440 + (75 + 2))))))))) (s12 pw w os).abs (restOf (sl pw 36 3 ++ (sl pw 39 2 ++ (sl pw 41 1 ++ (sl pw 42 1 ++ (sl pw 43 2 ++ (sl pw 45 1 ++ (sl pw 46 3 ++ (sl pw 49 6 ++ (sl pw 55 2 ++ []))))))))) (env pw) (cod pw) p12 [topFrame q0]) = some (s21 pw w os).abs := piece_app (segRun_of (r13 w os)) (c13 w os)
theorem c11 (w : World) (os : OsState) : topRun treeTable pw w 11 ann (485 + (406 + (393 + (326 + (1065 + (19 + (451 + (280 + (440 + (75 + 2)))))))))) (s11 pw w os).abs (restOf (sl pw 35 1 ++ (sl pw 36 3 ++ (sl pw 39 2 ++ (sl pw 41 1 ++ (sl pw 42 1 ++ (sl pw 43 2 ++ (sl pw 45 1 ++ (sl pw 46 3 ++ (sl pw 49 6 ++ (sl pw 55 2 ++ [])))))))))) (env pw) (cod pw) p11 [topFrame q0]) = some (s21 pw w os).abs := piece_app (segRun_of (r12 w os)) (c12 w os)
theorem c10 (w : World) (os : OsState) : topRun treeTable pw w 11 ann (19 + (485 + (406 + (393 + (326 + (1065 + (19 + (451 + (280 + (440 + (75 + 2))))))))))) (s10 pw w os).abs (restOf (sl pw 33 2 ++ (sl pw 35 1 ++ (sl pw 36 3 ++ (sl pw 39 2 ++ (sl pw 41 1 ++ (sl pw 42 1 ++ (sl pw 43 2 ++ (sl pw 45 1 ++ (sl pw 46 3 ++ (sl pw 49 6 ++ (sl pw 55 2 ++ []))))))))))) (env pw) (cod pw) p10 [topFrame q0]) = some (s21 pw w os).abs := piece_app (segRun_of (r11 w os)) (c11 w os)
theorem c9 (w : World) (os : OsState) : topRun treeTable pw w 11 ann (552 + (19 + (485 + (406 + (393 + (326 + (1065 + (19 + (451 + (280 + (440 + (75 + 2)))))))))))) (s9 pw w os).abs (restOf (sl pw 32 1 ++ (sl pw 33 2 ++ (sl pw 35 1 ++ (sl pw 36 3 ++ (sl pw 39 2 ++ (sl pw 41 1 ++ (sl pw 42 1 ++ (sl pw 43 2 ++ (sl pw 45 1 ++ (sl pw 46 3 ++ (sl pw 49 6 ++ (sl pw 55 2 ++ [])))))))))))) (env pw) (cod pw) p9 [topFrame q0]) = some (s21 pw w os).abs := piece_app (segRun_of (r10 w os)) (c10 w os)
theorem c8 (w : World) (os : OsState) : topRun treeTable pw w 11 ann (395 + (552 + (19 + (485 + (406 + (393 + (326 + (1065 + (19 + (451 + (280 + (440 + (75 + 2))))))))))))) (s8 pw w os).abs (restOf (sl pw 30 2 ++ (sl pw 32 1 ++ (sl pw 33 2 ++ (sl pw 35 1 ++ (sl pw 36 3 ++ (sl pw 39 2 ++ (sl pw 41 1 ++ (sl pw 42 1 ++ (sl pw 43 2 ++ (sl pw 45 1 ++ (sl pw 46 3 ++ (sl pw 49 6 ++ (sl pw 55 2 ++ []))))))))))))) (env pw) (cod pw) p8 [topFrame q0]) = some (s21 pw w os).abs := piece_app (segRun_of (r9 w os)) (c9 w os)
theorem c7 (w : World) (os : OsState) : topRun treeTable pw w 11 ann (92 + (395 + (552 + (19 + (485 + (406 + (393 + (326 + (1065 + (19 + (451 + (280 + (440 + (75 + 2)))))))))))))) (s7 pw w os).abs (restOf (sl pw 25 5 ++ (sl pw 30 2 ++ (sl pw 32 1 ++ (sl pw 33 2 ++ (sl pw 35 1 ++ (sl pw 36 3 ++ (sl pw 39 2 ++ (sl pw 41 1 ++ (sl pw 42 1 ++ (sl pw 43 2 ++ (sl pw 45 1 ++ (sl pw 46 3 ++ (sl pw 49 6 ++ (sl pw 55 2 ++ [])))))))))))))) (env pw) (cod pw) p7 [topFrame q0]) = some (s21 pw w os).abs := piece_app (segRun_of (r8 w os)) (c8 w os)
theorem c6 (w : World) (os : OsState) : topRun treeTable pw w 11 ann (443 + (92 + (395 + (552 + (19 + (485 + (406 + (393 + (326 + (1065 + (19 + (451 + (280 + (440 + (75 + 2))))))))))))))) (s6 pw w os).abs (restOf (sl pw 17 8 ++ (sl pw 25 5 ++ (sl pw 30 2 ++ (sl pw 32 1 ++ (sl pw 33 2 ++ (sl pw 35 1 ++ (sl pw 36 3 ++ (sl pw 39 2 ++ (sl pw 41 1 ++ (sl pw 42 1 ++ (sl pw 43 2 ++ (sl pw 45 1 ++ (sl pw 46 3 ++ (sl pw 49 6 ++ (sl pw 55 2 ++ []))))))))))))))) (env pw) (cod pw) p6 [topFrame q0]) = some (s21 pw w os).abs := piece_app (segRun_of (r7 w os)) (c7 w os)
theorem c5 (w : World) (os : OsState) : topRun treeTable pw w 11 ann (436 + (443 + (92 + (395 + (552 + (19 + (485 + (406 + (393 + (326 + (1065 + (19 + (451 + (280 + (440 + (75 + 2)))))))))))))))) (s5 pw w os).abs (restOf (sl pw 14 3 ++ (sl pw 17 8 ++ (sl pw 25 5 ++ (sl pw 30 2 ++ (sl pw 32 1 ++ (sl pw 33 2 ++ (sl pw 35 1 ++ (sl pw 36 3 ++ (sl pw 39 2 ++ (sl pw 41 1 ++ (sl pw 42 1 ++ (sl pw 43 2 ++ (sl pw 45 1 ++ (sl pw 46 3 ++ (sl pw 49 6 ++ (sl pw 55 2 ++ [])))))))))))))))) (env pw) (cod pw) p5 [topFrame q0]) = some (s21 pw w os).abs := piece_app (segRun_of (r6 w os)) (c6 w os)
theorem c4 (w : World) (os : OsState) : topRun treeTable pw w 11 ann (451 + (436 + (443 + (92 + (395 + (552 + (19 + (485 + (406 + (393 + (326 + (1065 + (19 + (451 + (280 + (440 + (75 + 2))))))))))))))))) (s4 pw w os).abs (restOf (sl pw 11 3 ++ (sl pw 14 3 ++ (sl pw 17 8 ++ (sl pw 25 5 ++ (sl pw 30 2 ++ (sl pw 32 1 ++ (sl pw 33 2 ++ (sl pw 35 1 ++ (sl pw 36 3 ++ (sl pw 39 2 ++ (sl pw 41 1 ++ (sl pw 42 1 ++ (sl pw 43 2 ++ (sl pw 45 1 ++ (sl pw 46 3 ++ (sl pw 49 6 ++ (sl pw 55 2 ++ []))))))))))))))))) (env pw) (cod pw) p4 [topFrame q0]) = some (s21 pw w os).abs := piece_app (segRun_of (r5 w os)) (c5 w os)
theorem c3 (w : World) (os : OsState) : topRun treeTable pw w 11 ann (746 + (451 + (436 + (443 + (92 + (395 + (552 + (19 + (485 + (406 + (393 + (326 + (1065 + (19 + (451 + (280 + (440 + (75 + 2)))))))))))))))))) (s3 pw w os).abs (restOf (sl pw 10 1 ++ (sl pw 11 3 ++ (sl pw 14 3 ++ (sl pw 17 8 ++ (sl pw 25 5 ++ (sl pw 30 2 ++ (sl pw 32 1 ++ (sl pw 33 2 ++ (sl pw 35 1 ++ (sl pw 36 3 ++ (sl pw 39 2 ++ (sl pw 41 1 ++ (sl pw 42 1 ++ (sl pw 43 2 ++ (sl pw 45 1 ++ (sl pw 46 3 ++ (sl pw 49 6 ++ (sl pw 55 2 ++ [])))))))))))))))))) (env pw) (cod pw) p3 [topFrame q0]) = some (s21 pw w os).abs := piece_app (segRun_of (r4 w os)) (c4 w os)
theorem c2 (w : World) (os : OsState) : topRun treeTable pw w 11 ann (10 + (746 + (451 + (436 + (443 + (92 + (395 + (552 + (19 + (485 + (406 + (393 + (326 + (1065 + (19 + (451 + (280 + (440 + (75 + 2))))))))))))))))))) (s2 pw w os).abs (restOf (sl pw 9 1 ++ (sl pw 10 1 ++ (sl pw 11 3 ++ (sl pw 14 3 ++ (sl pw 17 8 ++ (sl pw 25 5 ++ (sl pw 30 2 ++ (sl pw 32 1 ++ (sl pw 33 2 ++ (sl pw 35 1 ++ (sl pw 36 3 ++ (sl pw 39 2 ++ (sl pw 41 1 ++ (sl pw 42 1 ++ (sl pw 43 2 ++ (sl pw 45 1 ++ (sl pw 46 3 ++ (sl pw 49 6 ++ (sl pw 55 2 ++ []))))))))))))))))))) (env pw) (cod pw) p2 [topFrame q0]) = some (s21 pw w os).abs := piece_app (segRun_of (r3 w os)) (c3 w os)
theorem c1 (w : World) (os : OsState) : topRun treeTable pw w 11 ann (607 + (10 + (746 + (451 + (436 + (443 + (92 + (395 + (552 + (19 + (485 + (406 + (393 + (326 + (1065 + (19 + (451 + (280 + (440 + (75 + 2)))))))))))))))))))) (s1 pw w os).abs (restOf (sl pw 8 1 ++ (sl pw 9 1 ++ (sl pw 10 1 ++ (sl pw 11 3 ++ (sl pw 14 3 ++ (sl pw 17 8 ++ (sl pw 25 5 ++ (sl pw 30 2 ++ (sl pw 32 1 ++ (sl pw 33 2 ++ (sl pw 35 1 ++ (sl pw 36 3 ++ (sl pw 39 2 ++ (sl pw 41 1 ++ (sl pw 42 1 ++ (sl pw 43 2 ++ (sl pw 45 1 ++ (sl pw 46 3 ++ (sl pw 49 6 ++ (sl pw 55 2 ++ [])))))))))))))))))))) (env pw) (cod pw) p1 [topFrame q0]) = some (s21 pw w os).abs := piece_app (segRun_of (r2 w os)) (c2 w os)
theorem c0 (w : World) (os : OsState) : topRun treeTable pw w 11 ann (204 + (607 + (10 + (746 + (451 + (436 + (443 + (92 + (395 + (552 + (19 + (485 + (406 + (393 + (326 + (1065 + (19 + (451 + (280 + (440 + (75 + 2))))))))))))))))))))) (s0 pw w os).abs (restOf (sl pw 0 8 ++ (sl pw 8 1 ++ (sl pw 9 1 ++ (sl pw 10 1 ++ (sl pw 11 3 ++ (sl pw 14 3 ++ (sl pw 17 8 ++ (sl pw 25 5 ++ (sl pw 30 2 ++ (sl pw 32 1 ++ (sl pw 33 2 ++ (sl pw 35 1 ++ (sl pw 36 3 ++ (sl pw 39 2 ++ (sl pw 41 1 ++ (sl pw 42 1 ++ (sl pw 43 2 ++ (sl pw 45 1 ++ (sl pw 46 3 ++ (sl pw 49 6 ++ (sl pw 55 2 ++ []))))))))))))))))))))) (env pw) (cod pw) p0 [topFrame q0]) = some (s21 pw w os).abs := piece_app (segRun_of (r1 w os)) (c1 w os)
theorem run (w : World) (os : OsState) : topRun treeTable pw w 11 ann (12 + (1 + (204 + (607 + (10 + (746 + (451 + (436 + (443 + (92 + (395 + (552 + (19 + (485 + (406 + (393 + (326 + (1065 + (19 + (451 + (280 + (440 + (75 + 2))))))))))))))))))))))) ⟨boot_heap w.params, ⟨[]⟩, boot_drawn, boot_toks, os⟩ (topStub pw) = some (s21 pw w os).abs :=
  go_top (pre w os) (piece_block (segRun_of (blk w os)) (by rw [body]; exact c0 w os))
noncomputable def H1 (P : Params) : Heap := ⟨⟨l21 P pw⟩, {}⟩
theorem heap1 (P : Params) : absHeap (treeB 11 (l21 P pw)) 1157 {} = H1 P := by kernel_rfl
theorem run1 (w : World) (os : OsState) : topRun treeTable pw w 11 ann (12 + (1 + (204 + (607 + (10 + (746 + (451 + (436 + (443 + (92 + (395 + (552 + (19 + (485 + (406 + (393 + (326 + (1065 + (19 + (451 + (280 + (440 + (75 + 2))))))))))))))))))))))) ⟨boot_heap w.params, ⟨[]⟩, boot_drawn, boot_toks, os⟩ (topStub pw) = some ⟨H1 w.params, ⟨[]⟩, {}, 1794, os⟩ := by
  rw [run]; show some (Shared.mk (absHeap _ _ _) _ _ _ _) = _; rw [← heap1]; rfl
noncomputable def q : Program := { pw with main := { pw.main with body := [st pw 56] } }
def loose : List Str := "_wall" :: "plus" :: "distance" :: "is_before" :: "is_at_most" :: "latest" :: "Assembly" :: "Receiver" :: "StackError" :: "FormError" :: "SizeError" :: "StateError" :: "need" :: "get16" :: "OPTIONS_END" :: "OPTION_NOTHING" :: "OPTION_MSS" :: "MSS_SIZE" :: "Segment" :: "mss_of" :: "PLAIN_MSS" :: "take_syn" :: "AckPolicy" :: "Congestion" :: "MOST_SHIFT" :: "RetransmitClock" :: "RttEstimate" :: "SendQueue" :: "PeerWindow" :: "Sender" :: "CLOSED" :: "Wheel" :: "Limits" :: "clock_of" :: "Tcb" :: "_law_pool" :: "_law_take" :: "_law_one" :: "_law_forms" :: "_law_right" :: []
theorem size (w : World) : ((boot_heap w.params).isNs mainGlobals && (⟨[]⟩ : Array GenState).size == 0, (boot_heap w.params).objs.size, (boot_heap w.params).nsMap mainGlobals "__annotations__") = (true, 11, ann) := by kernel_rfl
theorem e1 (w : World) (os : OsState) : (staticsOk (importedModules pw.main.body) (boot_heap w.params) (H1 w.params) && namesBound pw (H1 w.params) && gensDone ⟨H1 w.params, ⟨[]⟩, {}, 1794, os⟩ && laidKept (boot_heap w.params) (H1 w.params)) = true := by kernel_rfl
noncomputable abbrev xt : Shared → Bool := fun s => xlAt q [] s && recOk (RowW.records (OpenRow.toRowW (OpenLaw.row PySem.Challenge.rw_xw0350_01))) s
theorem e2 (w : World) (os : OsState) : openSeen q loose (importedModules pw.main.body) xt true ⟨H1 w.params, ⟨[]⟩, {}, 1794, os⟩ = openGood q loose := by kernel_rfl
theorem opens : ∀ w : World, (fencedOpening treeTable pw w 16000).map (fun s => (s.heap, s.gens, s.drawn, s.toks)) = some (boot_heap w.params, Array.mk [], boot_drawn, boot_toks) := boot_open (by rfl) (by decide) (fun _ => by rfl)
theorem left {α : Type} (Yf : Shared → α) (Ya : World → α) (h : ∀ w os, Yf ⟨H1 w.params, ⟨[]⟩, {}, 1794, os⟩ = Ya w) : LeftO pw q loose xt Yf Ya 16000 :=
  LeftO.of_pieces (H₀ := boot_heap) (H₁ := H1) opens size run1 (by decide) fun w => funext fun os => Prod.ext (e1 w os) (Prod.ext (e2 w os) (h w os))

end Mine.H
end
section
set_option maxHeartbeats 200000
namespace Mine.H
open PySem PySem.W

noncomputable def fd28 : FuncData := Subtype.val (p := fun x => fdt (st pw 2) "plus" mainNs n (s "thinstack.sequence" 194) (f 27) = x) ⟨_, by conv => lhs; whnf⟩
noncomputable def fd35 : FuncData := Subtype.val (p := fun x => fdt (st pw 3) "distance" mainNs n (s "thinstack.sequence" 194) (f 34) = x) ⟨_, by conv => lhs; whnf⟩
noncomputable def fd42 : FuncData := Subtype.val (p := fun x => fdt (st pw 4) "is_before" mainNs n (s "thinstack.sequence" 194) (f 41) = x) ⟨_, by conv => lhs; whnf⟩
noncomputable def fd70 : FuncData := Subtype.val (p := fun x => fdt (mt pw 8 0) "Assembly.__init__" mainNs n (s "thinstack.assembly" 242) (f 69) = x) ⟨_, by conv => lhs; whnf⟩
noncomputable def fd82 : FuncData := Subtype.val (p := fun x => fdt (mt pw 8 2) "Assembly.is_empty" mainNs n (s "thinstack.assembly" 242) (f 81) = x) ⟨_, by conv => lhs; whnf⟩
noncomputable def fd167 : FuncData := Subtype.val (p := fun x => fdt (mt pw 10 0) "Receiver.__init__" mainNs (f 160) (s "thinstack.receiver" 395) (f 166) = x) ⟨_, by conv => lhs; whnf⟩
noncomputable def fd188 : FuncData := Subtype.val (p := fun x => fdt (mt pw 10 3) "Receiver.told_window" mainNs n (s "thinstack.receiver" 395) (f 187) = x) ⟨_, by conv => lhs; whnf⟩
noncomputable def fd237 : FuncData := Subtype.val (p := fun x => fdt (mt pw 10 10) "Receiver.has_holes" mainNs n (s "thinstack.receiver" 395) (f 236) = x) ⟨_, by conv => lhs; whnf⟩
noncomputable def fd244 : FuncData := Subtype.val (p := fun x => fdt (mt pw 10 11) "Receiver.available" mainNs n (s "thinstack.receiver" 395) (f 243) = x) ⟨_, by conv => lhs; whnf⟩
noncomputable def fd258 : FuncData := Subtype.val (p := fun x => fdt (mt pw 10 13) "Receiver.is_over" mainNs n (s "thinstack.receiver" 395) (f 257) = x) ⟨_, by conv => lhs; whnf⟩
noncomputable def fd349 : FuncData := Subtype.val (p := fun x => fdt (st pw 17) "need" mainNs n (s "thinstack.octets" 643) (f 348) = x) ⟨_, by conv => lhs; whnf⟩
noncomputable def fd356 : FuncData := Subtype.val (p := fun x => fdt (st pw 18) "get16" mainNs n (s "thinstack.octets" 643) (f 355) = x) ⟨_, by conv => lhs; whnf⟩
noncomputable def fd371 : FuncData := Subtype.val (p := fun x => fdt (mt pw 24 0) "Segment.__init__" mainNs (f 364) (s "thinstack.tcp_segment" 662) (f 370) = x) ⟨_, by conv => lhs; whnf⟩
noncomputable def fd406 : FuncData := Subtype.val (p := fun x => fdt (st pw 25) "mss_of" mainNs n (s "thinstack.tcp_segment" 662) (f 405) = x) ⟨_, by conv => lhs; whnf⟩
noncomputable def fd413 : FuncData := Subtype.val (p := fun x => fdt (st pw 28) "take_syn" mainNs n (s "thinstack.tcp_input" 752) (f 412) = x) ⟨_, by conv => lhs; whnf⟩
noncomputable def fd427 : FuncData := Subtype.val (p := fun x => fdt (mt pw 30 0) "AckPolicy.__init__" mainNs n (s "thinstack.acks" 766) (f 426) = x) ⟨_, by conv => lhs; whnf⟩
noncomputable def fd484 : FuncData := Subtype.val (p := fun x => fdt (mt pw 32 0) "Congestion.__init__" mainNs n (s "thinstack.congestion" 839) (f 483) = x) ⟨_, by conv => lhs; whnf⟩
noncomputable def fd491 : FuncData := Subtype.val (p := fun x => fdt (mt pw 32 1) "Congestion.window" mainNs n (s "thinstack.congestion" 839) (f 490) = x) ⟨_, by conv => lhs; whnf⟩
noncomputable def fd498 : FuncData := Subtype.val (p := fun x => fdt (mt pw 32 2) "Congestion.told_mss" mainNs n (s "thinstack.congestion" 839) (f 497) = x) ⟨_, by conv => lhs; whnf⟩
noncomputable def fd575 : FuncData := Subtype.val (p := fun x => fdt (mt pw 35 0) "RetransmitClock.__init__" mainNs n (s "thinstack.retransmit" 959) (f 574) = x) ⟨_, by conv => lhs; whnf⟩
noncomputable def fd652 : FuncData := Subtype.val (p := fun x => fdt (mt pw 37 0) "RttEstimate.__init__" mainNs n (s "thinstack.rtt" 1062) (f 651) = x) ⟨_, by conv => lhs; whnf⟩
noncomputable def fd708 : FuncData := Subtype.val (p := fun x => fdt (mt pw 39 0) "SendQueue.__init__" mainNs n (s "thinstack.send_queue" 1138) (f 707) = x) ⟨_, by conv => lhs; whnf⟩
noncomputable def fd764 : FuncData := Subtype.val (p := fun x => fdt (mt pw 41 0) "PeerWindow.__init__" mainNs n (s "thinstack.sender" 1210) (f 763) = x) ⟨_, by conv => lhs; whnf⟩
noncomputable def fd806 : FuncData := Subtype.val (p := fun x => fdt (mt pw 42 0) "Sender.__init__" mainNs n (s "thinstack.sender" 1210) (f 805) = x) ⟨_, by conv => lhs; whnf⟩
noncomputable def fd813 : FuncData := Subtype.val (p := fun x => fdt (mt pw 42 1) "Sender.window" mainNs n (s "thinstack.sender" 1210) (f 812) = x) ⟨_, by conv => lhs; whnf⟩
noncomputable def fd996 : FuncData := Subtype.val (p := fun x => fdt (mt pw 45 0) "Wheel.__init__" mainNs (f 991) (s "thinstack.wheel" 1511) (f 995) = x) ⟨_, by conv => lhs; whnf⟩
noncomputable def fd1064 : FuncData := Subtype.val (p := fun x => fdt (mt pw 47 0) "Limits.__init__" mainNs n (s "thinstack.tcb" 1605) (f 1063) = x) ⟨_, by conv => lhs; whnf⟩
noncomputable def fd1078 : FuncData := Subtype.val (p := fun x => fdt (st pw 48) "clock_of" mainNs n (s "thinstack.tcb" 1605) (f 1077) = x) ⟨_, by conv => lhs; whnf⟩
noncomputable def fd1092 : FuncData := Subtype.val (p := fun x => fdt (mt pw 49 0) "Tcb.__init__" mainNs n (s "thinstack.tcb" 1605) (f 1091) = x) ⟨_, by conv => lhs; whnf⟩
noncomputable def fd1121 : FuncData := Subtype.val (p := fun x => fdt (st pw 51) "_law_pool" mainNs n (s "law_xw0350_01" 1725) (f 1120) = x) ⟨_, by conv => lhs; whnf⟩
noncomputable def fd1128 : FuncData := Subtype.val (p := fun x => fdt (st pw 52) "_law_take" mainNs n (s "law_xw0350_01" 1725) (f 1127) = x) ⟨_, by conv => lhs; whnf⟩
noncomputable def fd1135 : FuncData := Subtype.val (p := fun x => fdt (st pw 53) "_law_one" mainNs n (s "law_xw0350_01" 1725) (f 1134) = x) ⟨_, by conv => lhs; whnf⟩
noncomputable def fd1142 : FuncData := Subtype.val (p := fun x => fdt (st pw 54) "_law_forms" mainNs n (s "law_xw0350_01" 1725) (f 1141) = x) ⟨_, by conv => lhs; whnf⟩
noncomputable def fd1149 : FuncData := Subtype.val (p := fun x => fdt (st pw 55) "_law_right" mainNs n (s "law_xw0350_01" 1725) (f 1148) = x) ⟨_, by conv => lhs; whnf⟩
noncomputable def fd1156 : FuncData := Subtype.val (p := fun x => fdt (st pw 56) "law" mainNs n (s "law_xw0350_01" 1725) (f 1155) = x) ⟨_, by conv => lhs; whnf⟩
noncomputable def K (P : Params) : Frag :=
  (nat_lit 3, mainD P (s "law_xw0350_01" 1725) 41) ::
  (nat_lit 27, o (y "code") (dFields [s "plus" 196, s "plus" 197, s "/claim/cut.py" 198, z 5, z 3, z 0, z 0, z 3, f 22, b true, z 181, f 23, n, f 24, f 25, f 26, z 202, z 5, s "/claim/cut.py" 203])) ::
  (nat_lit 28, o (y "function") (.func fd28)) ::
  (nat_lit 34, o (y "code") (dFields [s "distance" 205, s "distance" 206, s "/claim/cut.py" 207, z 7, z 3, z 0, z 0, z 3, f 29, b true, z 181, f 30, n, f 31, f 32, f 33, z 211, z 7, s "/claim/cut.py" 212])) ::
  (nat_lit 35, o (y "function") (.func fd35)) ::
  (nat_lit 41, o (y "code") (dFields [s "is_before" 214, s "is_before" 215, s "/claim/cut.py" 216, z 9, z 3, z 0, z 0, z 3, f 36, b true, z 181, f 37, n, f 38, f 39, f 40, z 221, z 9, s "/claim/cut.py" 222])) ::
  (nat_lit 42, o (y "function") (.func fd42)) ::
  (nat_lit 69, o (y "code") (dFields [s "__init__" 256, s "Assembly.__init__" 257, s "/claim/cut.py" 258, z 19, z 2, z 0, z 0, z 3, f 64, b true, z 181, f 65, n, f 66, f 67, f 68, z 261, z 19, s "/claim/cut.py" 262])) ::
  (nat_lit 70, o (y "function") (.func fd70)) ::
  (nat_lit 81, o (y "code") (dFields [s "is_empty" 270, s "Assembly.is_empty" 271, s "/claim/cut.py" 272, z 26, z 1, z 0, z 0, z 3, f 76, b true, z 181, f 77, n, f 78, f 79, f 80, z 274, z 26, s "/claim/cut.py" 275])) ::
  (nat_lit 82, o (y "function") (.func fd82)) ::
  (nat_lit 147, o (y "dict") (dDict 4 [e P "__module__" 251 (s "thinstack.assembly" 242), e P "__firstlineno__" 255 (i 17 254), e P "__init__" 263 (f 70), e P "size" 269 (f 75), e P "is_empty" 276 (f 82), e P "offset" 285 (f 89), e P "put" 297 (f 96), e P "missing" 314 (f 103), e P "merged" 328 (f 110), e P "joined" 343 (f 117), e P "forget" 354 (f 124), e P "take" 362 (f 131), e P "holes" 375 (f 138), e P "cut_behind" 384 (f 145), e P "__static_attributes__" 387 (f 146), e P "__dict__" 389 (f 149), e P "__weakref__" 391 (f 150), e P "__doc__" 392 n])) ::
  (nat_lit 148, os (y "type") (dCls "Assembly" [(y "object")] [(f 148), (y "object")] 147 "Assembly" true [] false) [none, none, some (s "Assembly" 244), some (s "Assembly" 252), some (u "object.__new__"), some (b true)]) ::
  (nat_lit 149, o (y "getset_descriptor") (dFields [(s "__dict__" 388), (f 148), (u "function.__dict__"), (u "function.__dict__#set")])) ::
  (nat_lit 150, o (y "getset_descriptor") (dFields [(s "__weakref__" 390), (f 148), (u "ExceptionGroup.__weakref__"), n])) ::
  (nat_lit 160, o (y "tuple") (dSeq [(i 1 409)])) ::
  (nat_lit 166, o (y "code") (dFields [s "__init__" 410, s "Receiver.__init__" 411, s "/claim/cut.py" 412, z 109, z 5, z 0, z 0, z 3, f 161, b true, z 181, f 162, n, f 163, f 164, f 165, z 418, z 109, s "/claim/cut.py" 419])) ::
  (nat_lit 167, o (y "function") (.func fd167)) ::
  (nat_lit 187, o (y "code") (dFields [s "told_window" 436, s "Receiver.told_window" 437, s "/claim/cut.py" 438, z 129, z 1, z 0, z 0, z 3, f 182, b true, z 181, f 183, n, f 184, f 185, f 186, z 440, z 129, s "/claim/cut.py" 441])) ::
  (nat_lit 188, o (y "function") (.func fd188)) ::
  (nat_lit 236, o (y "code") (dFields [s "has_holes" 493, s "Receiver.has_holes" 494, s "/claim/cut.py" 495, z 154, z 1, z 0, z 0, z 3, f 231, b true, z 181, f 232, n, f 233, f 234, f 235, z 497, z 154, s "/claim/cut.py" 498])) ::
  (nat_lit 237, o (y "function") (.func fd237)) ::
  (nat_lit 243, o (y "code") (dFields [s "available" 500, s "Receiver.available" 501, s "/claim/cut.py" 502, z 157, z 1, z 0, z 0, z 3, f 238, b true, z 181, f 239, n, f 240, f 241, f 242, z 504, z 157, s "/claim/cut.py" 505])) ::
  (nat_lit 244, o (y "function") (.func fd244)) ::
  (nat_lit 257, o (y "code") (dFields [s "is_over" 516, s "Receiver.is_over" 517, s "/claim/cut.py" 518, z 165, z 1, z 0, z 0, z 3, f 252, b true, z 181, f 253, n, f 254, f 255, f 256, z 520, z 165, s "/claim/cut.py" 521])) ::
  (nat_lit 258, o (y "function") (.func fd258)) ::
  (nat_lit 281, o (y "dict") (dDict 4 [e P "__module__" 404 (s "thinstack.receiver" 395), e P "__firstlineno__" 408 (i 107 407), e P "__init__" 420 (f 167), e P "free_edge" 427 (f 174), e P "should_tell" 435 (f 181), e P "told_window" 442 (f 188), e P "window" 449 (f 195), e P "arrive" 459 (f 202), e P "let_in" 468 (f 209), e P "note_fin" 476 (f 216), e P "ahead_of_fin" 485 (f 223), e P "gather" 492 (f 230), e P "has_holes" 499 (f 237), e P "available" 506 (f 244), e P "read" 515 (f 251), e P "is_over" 522 (f 258), e P "read_place" 530 (f 265), e P "urgent" 538 (f 272), e P "urgent_left" 545 (f 279), e P "__static_attributes__" 556 (f 280), e P "__dict__" 558 (f 283), e P "__weakref__" 560 (f 284), e P "__doc__" 561 n])) ::
  (nat_lit 282, os (y "type") (dCls "Receiver" [(y "object")] [(f 282), (y "object")] 281 "Receiver" true [] false) [none, none, some (s "Receiver" 397), some (s "Receiver" 405), some (u "object.__new__"), some (b true)]) ::
  (nat_lit 283, o (y "getset_descriptor") (dFields [(s "__dict__" 557), (f 282), (u "function.__dict__"), (u "function.__dict__#set")])) ::
  (nat_lit 284, o (y "getset_descriptor") (dFields [(s "__weakref__" 559), (f 282), (u "ExceptionGroup.__weakref__"), n])) ::
  (nat_lit 302, o (y "dict") (dDict 3 [e P "__module__" 573 (s "thinstack.errors" 564), e P "__firstlineno__" 577 (i 180 576), e P "__init__" 585 (f 300), e P "__static_attributes__" 587 (f 301), e P "__weakref__" 589 (f 304), e P "__doc__" 590 n])) ::
  (nat_lit 303, os (y "type") (dCls "StackError" [(y "Exception")] [(f 303), (y "Exception"), (y "BaseException"), (y "object")] 302 "StackError" true [(f 316), (f 328), (f 340)] false) [some (f 287), none, some (s "StackError" 566), some (s "StackError" 574), some (u "Exception.__new__"), some (b true)]) ::
  (nat_lit 304, o (y "getset_descriptor") (dFields [(s "__weakref__" 588), (f 303), (u "ExceptionGroup.__weakref__"), n])) ::
  (nat_lit 315, o (y "dict") (dDict 2 [e P "__module__" 602 (s "thinstack.errors" 564), e P "__firstlineno__" 606 (i 184 605), e P "__static_attributes__" 607 (f 314), e P "__doc__" 608 n])) ::
  (nat_lit 316, os (y "type") (dCls "FormError" [(f 303)] [(f 316), (f 303), (y "Exception"), (y "BaseException"), (y "object")] 315 "FormError" true [] false) [some (f 307), none, some (s "FormError" 595), some (s "FormError" 603), some (u "Exception.__new__"), some (b true)]) ::
  (nat_lit 327, o (y "dict") (dDict 2 [e P "__module__" 618 (s "thinstack.errors" 564), e P "__firstlineno__" 622 (i 186 621), e P "__static_attributes__" 623 (f 326), e P "__doc__" 624 n])) ::
  (nat_lit 328, os (y "type") (dCls "SizeError" [(f 303)] [(f 328), (f 303), (y "Exception"), (y "BaseException"), (y "object")] 327 "SizeError" true [] false) [some (f 319), none, some (s "SizeError" 611), some (s "SizeError" 619), some (u "Exception.__new__"), some (b true)]) ::
  (nat_lit 339, o (y "dict") (dDict 2 [e P "__module__" 634 (s "thinstack.errors" 564), e P "__firstlineno__" 638 (i 188 637), e P "__static_attributes__" 639 (f 338), e P "__doc__" 640 n])) ::
  (nat_lit 340, os (y "type") (dCls "StateError" [(f 303)] [(f 340), (f 303), (y "Exception"), (y "BaseException"), (y "object")] 339 "StateError" true [] false) [some (f 331), none, some (s "StateError" 627), some (s "StateError" 635), some (u "Exception.__new__"), some (b true)]) ::
  (nat_lit 348, o (y "code") (dFields [s "need" 645, s "need" 646, s "/claim/cut.py" 647, z 191, z 3, z 0, z 0, z 3, f 343, b true, z 181, f 344, n, f 345, f 346, f 347, z 651, z 191, s "/claim/cut.py" 652])) ::
  (nat_lit 349, o (y "function") (.func fd349)) ::
  (nat_lit 355, o (y "code") (dFields [s "get16" 654, s "get16" 655, s "/claim/cut.py" 656, z 194, z 2, z 0, z 0, z 3, f 350, b true, z 181, f 351, n, f 352, f 353, f 354, z 659, z 194, s "/claim/cut.py" 660])) ::
  (nat_lit 356, o (y "function") (.func fd356)) ::
  (nat_lit 364, o (y "tuple") (dSeq [(i 0 684), (.bytes #[] 685), (.bytes #[] 686)])) ::
  (nat_lit 370, o (y "code") (dFields [s "__init__" 687, s "Segment.__init__" 688, s "/claim/cut.py" 689, z 204, z 10, z 0, z 0, z 3, f 365, b true, z 181, f 366, n, f 367, f 368, f 369, z 700, z 204, s "/claim/cut.py" 701])) ::
  (nat_lit 371, o (y "function") (.func fd371)) ::
  (nat_lit 394, o (y "dict") (dDict 4 [e P "__module__" 679 (s "thinstack.tcp_segment" 662), e P "__firstlineno__" 683 (i 202 682), e P "__init__" 702 (f 371), e P "has" 710 (f 378), e P "length" 717 (f 385), e P "row" 724 (f 392), e P "__static_attributes__" 734 (f 393), e P "__dict__" 736 (f 396), e P "__weakref__" 738 (f 397), e P "__doc__" 739 n])) ::
  (nat_lit 395, os (y "type") (dCls "Segment" [(y "object")] [(f 395), (y "object")] 394 "Segment" true [] false) [none, none, some (s "Segment" 672), some (s "Segment" 680), some (u "object.__new__"), some (b true)]) ::
  (nat_lit 396, o (y "getset_descriptor") (dFields [(s "__dict__" 735), (f 395), (u "function.__dict__"), (u "function.__dict__#set")])) ::
  (nat_lit 397, o (y "getset_descriptor") (dFields [(s "__weakref__" 737), (f 395), (u "ExceptionGroup.__weakref__"), n])) ::
  (nat_lit 405, o (y "code") (dFields [s "mss_of" 742, s "mss_of" 743, s "/claim/cut.py" 744, z 223, z 1, z 0, z 0, z 3, f 400, b true, z 181, f 401, n, f 402, f 403, f 404, z 749, z 223, s "/claim/cut.py" 750])) ::
  (nat_lit 406, o (y "function") (.func fd406)) ::
  (nat_lit 412, o (y "code") (dFields [s "take_syn" 756, s "take_syn" 757, s "/claim/cut.py" 758, z 243, z 2, z 0, z 0, z 3, f 407, b true, z 181, f 408, n, f 409, f 410, f 411, z 763, z 243, s "/claim/cut.py" 764])) ::
  (nat_lit 413, o (y "function") (.func fd413)) ::
  (nat_lit 426, o (y "code") (dFields [s "__init__" 780, s "AckPolicy.__init__" 781, s "/claim/cut.py" 782, z 252, z 2, z 0, z 0, z 3, f 421, b true, z 181, f 422, n, f 423, f 424, f 425, z 785, z 252, s "/claim/cut.py" 786])) ::
  (nat_lit 427, o (y "function") (.func fd427)) ::
  (nat_lit 465, o (y "dict") (dDict 4 [e P "__module__" 775 (s "thinstack.acks" 766), e P "__firstlineno__" 779 (i 250 778), e P "__init__" 787 (f 427), e P "on_octets" 797 (f 435), e P "at_once" 804 (f 442), e P "is_due" 812 (f 449), e P "on_sent" 819 (f 456), e P "due_time" 826 (f 463), e P "__static_attributes__" 831 (f 464), e P "__dict__" 833 (f 467), e P "__weakref__" 835 (f 468), e P "__doc__" 836 n])) ::
  (nat_lit 466, os (y "type") (dCls "AckPolicy" [(y "object")] [(f 466), (y "object")] 465 "AckPolicy" true [] false) [none, none, some (s "AckPolicy" 768), some (s "AckPolicy" 776), some (u "object.__new__"), some (b true)]) ::
  (nat_lit 467, o (y "getset_descriptor") (dFields [(s "__dict__" 832), (f 466), (u "function.__dict__"), (u "function.__dict__#set")])) ::
  (nat_lit 468, o (y "getset_descriptor") (dFields [(s "__weakref__" 834), (f 466), (u "ExceptionGroup.__weakref__"), n])) ::
  (nat_lit 483, o (y "code") (dFields [s "__init__" 853, s "Congestion.__init__" 854, s "/claim/cut.py" 855, z 275, z 4, z 0, z 0, z 3, f 478, b true, z 181, f 479, n, f 480, f 481, f 482, z 860, z 275, s "/claim/cut.py" 861])) ::
  (nat_lit 484, o (y "function") (.func fd484)) ::
  (nat_lit 490, o (y "code") (dFields [s "window" 863, s "Congestion.window" 864, s "/claim/cut.py" 865, z 285, z 1, z 0, z 0, z 3, f 485, b true, z 181, f 486, n, f 487, f 488, f 489, z 867, z 285, s "/claim/cut.py" 868])) ::
  (nat_lit 491, o (y "function") (.func fd491)) ::
  (nat_lit 497, o (y "code") (dFields [s "told_mss" 870, s "Congestion.told_mss" 871, s "/claim/cut.py" 872, z 288, z 2, z 0, z 0, z 3, f 492, b true, z 181, f 493, n, f 494, f 495, f 496, z 876, z 288, s "/claim/cut.py" 877])) ::
  (nat_lit 498, o (y "function") (.func fd498)) ::
  (nat_lit 556, o (y "dict") (dDict 4 [e P "__module__" 848 (s "thinstack.congestion" 839), e P "__firstlineno__" 852 (i 273 851), e P "__init__" 862 (f 484), e P "window" 869 (f 491), e P "told_mss" 878 (f 498), e P "grow" 886 (f 505), e P "halved" 894 (f 512), e P "acked" 902 (f 519), e P "slow_start" 911 (f 526), e P "avoid" 919 (f 533), e P "duplicate" 927 (f 540), e P "recovered" 934 (f 547), e P "timed_out" 942 (f 554), e P "__static_attributes__" 951 (f 555), e P "__dict__" 953 (f 558), e P "__weakref__" 955 (f 559), e P "__doc__" 956 n])) ::
  (nat_lit 557, os (y "type") (dCls "Congestion" [(y "object")] [(f 557), (y "object")] 556 "Congestion" true [] false) [none, none, some (s "Congestion" 841), some (s "Congestion" 849), some (u "object.__new__"), some (b true)]) ::
  (nat_lit 558, o (y "getset_descriptor") (dFields [(s "__dict__" 952), (f 557), (u "function.__dict__"), (u "function.__dict__#set")])) ::
  (nat_lit 559, o (y "getset_descriptor") (dFields [(s "__weakref__" 954), (f 557), (u "ExceptionGroup.__weakref__"), n])) ::
  (nat_lit 574, o (y "code") (dFields [s "__init__" 975, s "RetransmitClock.__init__" 976, s "/claim/cut.py" 977, z 339, z 3, z 0, z 0, z 3, f 569, b true, z 181, f 570, n, f 571, f 572, f 573, z 981, z 339, s "/claim/cut.py" 982])) ::
  (nat_lit 575, o (y "function") (.func fd575)) ::
  (nat_lit 633, o (y "dict") (dDict 4 [e P "__module__" 970 (s "thinstack.retransmit" 959), e P "__firstlineno__" 974 (i 337 973), e P "__init__" 983 (f 575), e P "is_timing" 990 (f 582), e P "sent" 999 (f 589), e P "forget" 1006 (f 596), e P "acked" 1017 (f 603), e P "back_off" 1024 (f 610), e P "reset_tries" 1031 (f 617), e P "waited" 1040 (f 624), e P "deadline" 1048 (f 631), e P "__static_attributes__" 1054 (f 632), e P "__dict__" 1056 (f 635), e P "__weakref__" 1058 (f 636), e P "__doc__" 1059 n])) ::
  (nat_lit 634, os (y "type") (dCls "RetransmitClock" [(y "object")] [(f 634), (y "object")] 633 "RetransmitClock" true [] false) [none, none, some (s "RetransmitClock" 963), some (s "RetransmitClock" 971), some (u "object.__new__"), some (b true)]) ::
  (nat_lit 635, o (y "getset_descriptor") (dFields [(s "__dict__" 1055), (f 634), (u "function.__dict__"), (u "function.__dict__#set")])) ::
  (nat_lit 636, o (y "getset_descriptor") (dFields [(s "__weakref__" 1057), (f 634), (u "ExceptionGroup.__weakref__"), n])) ::
  (nat_lit 651, o (y "code") (dFields [s "__init__" 1076, s "RttEstimate.__init__" 1077, s "/claim/cut.py" 1078, z 383, z 4, z 0, z 0, z 3, f 646, b true, z 181, f 647, n, f 648, f 649, f 650, z 1083, z 383, s "/claim/cut.py" 1084])) ::
  (nat_lit 652, o (y "function") (.func fd652)) ::
  (nat_lit 689, o (y "dict") (dDict 4 [e P "__module__" 1071 (s "thinstack.rtt" 1062), e P "__firstlineno__" 1075 (i 381 1074), e P "__init__" 1085 (f 652), e P "sample" 1094 (f 659), e P "mean" 1101 (f 666), e P "plain_timeout" 1108 (f 673), e P "timeout" 1115 (f 680), e P "bounded" 1123 (f 687), e P "__static_attributes__" 1130 (f 688), e P "__dict__" 1132 (f 691), e P "__weakref__" 1134 (f 692), e P "__doc__" 1135 n])) ::
  (nat_lit 690, os (y "type") (dCls "RttEstimate" [(y "object")] [(f 690), (y "object")] 689 "RttEstimate" true [] false) [none, none, some (s "RttEstimate" 1064), some (s "RttEstimate" 1072), some (u "object.__new__"), some (b true)]) ::
  (nat_lit 691, o (y "getset_descriptor") (dFields [(s "__dict__" 1131), (f 690), (u "function.__dict__"), (u "function.__dict__#set")])) ::
  (nat_lit 692, o (y "getset_descriptor") (dFields [(s "__weakref__" 1133), (f 690), (u "ExceptionGroup.__weakref__"), n])) ::
  (nat_lit 707, o (y "code") (dFields [s "__init__" 1152, s "SendQueue.__init__" 1153, s "/claim/cut.py" 1154, z 421, z 2, z 0, z 0, z 3, f 702, b true, z 181, f 703, n, f 704, f 705, f 706, z 1157, z 421, s "/claim/cut.py" 1158])) ::
  (nat_lit 708, o (y "function") (.func fd708)) ::
  (nat_lit 745, o (y "dict") (dDict 4 [e P "__module__" 1147 (s "thinstack.send_queue" 1138), e P "__firstlineno__" 1151 (i 419 1150), e P "__init__" 1159 (f 708), e P "size" 1166 (f 715), e P "room_left" 1173 (f 722), e P "put" 1182 (f 729), e P "part" 1191 (f 736), e P "drop" 1199 (f 743), e P "__static_attributes__" 1202 (f 744), e P "__dict__" 1204 (f 747), e P "__weakref__" 1206 (f 748), e P "__doc__" 1207 n])) ::
  (nat_lit 746, os (y "type") (dCls "SendQueue" [(y "object")] [(f 746), (y "object")] 745 "SendQueue" true [] false) [none, none, some (s "SendQueue" 1140), some (s "SendQueue" 1148), some (u "object.__new__"), some (b true)]) ::
  (nat_lit 747, o (y "getset_descriptor") (dFields [(s "__dict__" 1203), (f 746), (u "function.__dict__"), (u "function.__dict__#set")])) ::
  (nat_lit 748, o (y "getset_descriptor") (dFields [(s "__weakref__" 1205), (f 746), (u "ExceptionGroup.__weakref__"), n])) ::
  (nat_lit 763, o (y "code") (dFields [s "__init__" 1224, s "PeerWindow.__init__" 1225, s "/claim/cut.py" 1226, z 450, z 2, z 0, z 0, z 3, f 758, b true, z 181, f 759, n, f 760, f 761, f 762, z 1229, z 450, s "/claim/cut.py" 1230])) ::
  (nat_lit 764, o (y "function") (.func fd764)) ::
  (nat_lit 787, o (y "dict") (dDict 4 [e P "__module__" 1219 (s "thinstack.sender" 1210), e P "__firstlineno__" 1223 (i 448 1222), e P "__init__" 1231 (f 764), e P "is_newer" 1240 (f 771), e P "take" 1250 (f 778), e P "keep_edge" 1258 (f 785), e P "__static_attributes__" 1264 (f 786), e P "__dict__" 1266 (f 789), e P "__weakref__" 1268 (f 790), e P "__doc__" 1269 n])) ::
  (nat_lit 788, os (y "type") (dCls "PeerWindow" [(y "object")] [(f 788), (y "object")] 787 "PeerWindow" true [] false) [none, none, some (s "PeerWindow" 1212), some (s "PeerWindow" 1220), some (u "object.__new__"), some (b true)]) ::
  (nat_lit 789, o (y "getset_descriptor") (dFields [(s "__dict__" 1265), (f 788), (u "function.__dict__"), (u "function.__dict__#set")])) ::
  (nat_lit 790, o (y "getset_descriptor") (dFields [(s "__weakref__" 1267), (f 788), (u "ExceptionGroup.__weakref__"), n])) ::
  (nat_lit 805, o (y "code") (dFields [s "__init__" 1284, s "Sender.__init__" 1285, s "/claim/cut.py" 1286, z 467, z 5, z 0, z 0, z 3, f 800, b true, z 181, f 801, n, f 802, f 803, f 804, z 1292, z 467, s "/claim/cut.py" 1293])) ::
  (nat_lit 806, o (y "function") (.func fd806)) ::
  (nat_lit 812, o (y "code") (dFields [s "window" 1295, s "Sender.window" 1296, s "/claim/cut.py" 1297, z 480, z 1, z 0, z 0, z 3, f 807, b true, z 181, f 808, n, f 809, f 810, f 811, z 1299, z 480, s "/claim/cut.py" 1300])) ::
  (nat_lit 813, o (y "function") (.func fd813)) ::
  (nat_lit 814, o (y "property") (dFields [(f 813), n, n, n, (s "window" 1302), (b false)])) ::
  (nat_lit 978, o (y "dict") (dDict 4 [e P "__module__" 1279 (s "thinstack.sender" 1210), e P "__firstlineno__" 1283 (i 465 1282), e P "__init__" 1294 (f 806), e P "window" 1302 (f 814), e P "take_window" 1312 (f 821), e P "put" 1320 (f 828), e P "ask_fin" 1327 (f 835), e P "flight" 1334 (f 842), e P "usable" 1342 (f 849), e P "data_sent" 1349 (f 856), e P "unsent" 1356 (f 863), e P "is_fin_due" 1364 (f 870), e P "is_fin_acked" 1371 (f 877), e P "is_all_acked" 1378 (f 884), e P "go_on" 1386 (f 891), e P "start" 1393 (f 898), e P "may_go" 1402 (f 905), e P "pieces" 1413 (f 913), e P "piece_of" 1426 (f 920), e P "ever_sent" 1433 (f 927), e P "first_piece" 1440 (f 934), e P "reach" 1448 (f 941), e P "back_to" 1456 (f 948), e P "is_idle_with_more" 1463 (f 955), e P "needs_probe" 1470 (f 962), e P "probe" 1477 (f 969), e P "acked" 1489 (f 976), e P "__static_attributes__" 1501 (f 977), e P "__dict__" 1503 (f 980), e P "__weakref__" 1505 (f 981), e P "__doc__" 1506 n])) ::
  (nat_lit 979, os (y "type") (dCls "Sender" [(y "object")] [(f 979), (y "object")] 978 "Sender" true [] false) [none, none, some (s "Sender" 1272), some (s "Sender" 1280), some (u "object.__new__"), some (b true)]) ::
  (nat_lit 980, o (y "getset_descriptor") (dFields [(s "__dict__" 1502), (f 979), (u "function.__dict__"), (u "function.__dict__#set")])) ::
  (nat_lit 981, o (y "getset_descriptor") (dFields [(s "__weakref__" 1504), (f 979), (u "ExceptionGroup.__weakref__"), n])) ::
  (nat_lit 991, o (y "tuple") (dSeq [(i 16 1525)])) ::
  (nat_lit 995, o (y "code") (dFields [s "__init__" 1526, s "Wheel.__init__" 1527, s "/claim/cut.py" 1528, z 597, z 2, z 0, z 0, z 3, f 992, b true, z 181, f 993, n, n, n, f 994, z 1529, z 597, s "/claim/cut.py" 1530])) ::
  (nat_lit 996, o (y "function") (.func fd996)) ::
  (nat_lit 1045, o (y "dict") (dDict 4 [e P "__module__" 1520 (s "thinstack.wheel" 1511), e P "__firstlineno__" 1524 (i 595 1523), e P "__init__" 1531 (f 996), e P "put" 1540 (f 1003), e P "list_of" 1548 (f 1010), e P "cancel" 1559 (f 1017), e P "time_of" 1567 (f 1024), e P "next_time" 1574 (f 1031), e P "due" 1580 (f 1036), e P "keys_until" 1590 (f 1043), e P "__static_attributes__" 1597 (f 1044), e P "__dict__" 1599 (f 1047), e P "__weakref__" 1601 (f 1048), e P "__doc__" 1602 n])) ::
  (nat_lit 1046, os (y "type") (dCls "Wheel" [(y "object")] [(f 1046), (y "object")] 1045 "Wheel" true [] false) [none, none, some (s "Wheel" 1513), some (s "Wheel" 1521), some (u "object.__new__"), some (b true)]) ::
  (nat_lit 1047, o (y "getset_descriptor") (dFields [(s "__dict__" 1598), (f 1046), (u "function.__dict__"), (u "function.__dict__#set")])) ::
  (nat_lit 1048, o (y "getset_descriptor") (dFields [(s "__weakref__" 1600), (f 1046), (u "ExceptionGroup.__weakref__"), n])) ::
  (nat_lit 1063, o (y "code") (dFields [s "__init__" 1619, s "Limits.__init__" 1620, s "/claim/cut.py" 1621, z 651, z 11, z 0, z 0, z 3, f 1058, b true, z 181, f 1059, n, f 1060, f 1061, f 1062, z 1633, z 651, s "/claim/cut.py" 1634])) ::
  (nat_lit 1064, o (y "function") (.func fd1064)) ::
  (nat_lit 1066, o (y "dict") (dDict 4 [e P "__module__" 1614 (s "thinstack.tcb" 1605), e P "__firstlineno__" 1618 (i 649 1617), e P "__init__" 1635 (f 1064), e P "__static_attributes__" 1646 (f 1065), e P "__dict__" 1648 (f 1068), e P "__weakref__" 1650 (f 1069), e P "__doc__" 1651 n])) ::
  (nat_lit 1067, os (y "type") (dCls "Limits" [(y "object")] [(f 1067), (y "object")] 1066 "Limits" true [] false) [none, none, some (s "Limits" 1607), some (s "Limits" 1615), some (u "object.__new__"), some (b true)]) ::
  (nat_lit 1068, o (y "getset_descriptor") (dFields [(s "__dict__" 1647), (f 1067), (u "function.__dict__"), (u "function.__dict__#set")])) ::
  (nat_lit 1069, o (y "getset_descriptor") (dFields [(s "__weakref__" 1649), (f 1067), (u "ExceptionGroup.__weakref__"), n])) ::
  (nat_lit 1077, o (y "code") (dFields [s "clock_of" 1654, s "clock_of" 1655, s "/claim/cut.py" 1656, z 662, z 1, z 0, z 0, z 3, f 1072, b true, z 181, f 1073, n, f 1074, f 1075, f 1076, z 1659, z 662, s "/claim/cut.py" 1660])) ::
  (nat_lit 1078, o (y "function") (.func fd1078)) ::
  (nat_lit 1091, o (y "code") (dFields [s "__init__" 1674, s "Tcb.__init__" 1675, s "/claim/cut.py" 1676, z 667, z 5, z 0, z 0, z 3, f 1086, b true, z 181, f 1087, n, f 1088, f 1089, f 1090, z 1682, z 667, s "/claim/cut.py" 1683])) ::
  (nat_lit 1092, o (y "function") (.func fd1092)) ::
  (nat_lit 1109, o (y "dict") (dDict 4 [e P "__module__" 1669 (s "thinstack.tcb" 1605), e P "__firstlineno__" 1673 (i 665 1672), e P "__init__" 1684 (f 1092), e P "window_now" 1691 (f 1099), e P "make" 1702 (f 1107), e P "__static_attributes__" 1717 (f 1108), e P "__dict__" 1719 (f 1111), e P "__weakref__" 1721 (f 1112), e P "__doc__" 1722 n])) ::
  (nat_lit 1110, os (y "type") (dCls "Tcb" [(y "object")] [(f 1110), (y "object")] 1109 "Tcb" true [] false) [none, none, some (s "Tcb" 1662), some (s "Tcb" 1670), some (u "object.__new__"), some (b true)]) ::
  (nat_lit 1111, o (y "getset_descriptor") (dFields [(s "__dict__" 1718), (f 1110), (u "function.__dict__"), (u "function.__dict__#set")])) ::
  (nat_lit 1112, o (y "getset_descriptor") (dFields [(s "__weakref__" 1720), (f 1110), (u "ExceptionGroup.__weakref__"), n])) ::
  (nat_lit 1120, o (y "code") (dFields [s "_law_pool" 1727, s "_law_pool" 1728, s "/claim/cut.py" 1729, z 689, z 2, z 0, z 0, z 3, f 1115, b true, z 181, f 1116, n, f 1117, f 1118, f 1119, z 1735, z 689, s "/claim/cut.py" 1736])) ::
  (nat_lit 1121, o (y "function") (.func fd1121)) ::
  (nat_lit 1127, o (y "code") (dFields [s "_law_take" 1738, s "_law_take" 1739, s "/claim/cut.py" 1740, z 694, z 2, z 0, z 0, z 3, f 1122, b true, z 181, f 1123, n, f 1124, f 1125, f 1126, z 1744, z 694, s "/claim/cut.py" 1745])) ::
  (nat_lit 1128, o (y "function") (.func fd1128)) ::
  (nat_lit 1134, o (y "code") (dFields [s "_law_one" 1747, s "_law_one" 1748, s "/claim/cut.py" 1749, z 701, z 2, z 0, z 0, z 3, f 1129, b true, z 181, f 1130, n, f 1131, f 1132, f 1133, z 1752, z 701, s "/claim/cut.py" 1753])) ::
  (nat_lit 1135, o (y "function") (.func fd1135)) ::
  (nat_lit 1141, o (y "code") (dFields [s "_law_forms" 1755, s "_law_forms" 1756, s "/claim/cut.py" 1757, z 703, z 1, z 0, z 0, z 3, f 1136, b true, z 181, f 1137, n, f 1138, f 1139, f 1140, z 1761, z 703, s "/claim/cut.py" 1762])) ::
  (nat_lit 1142, o (y "function") (.func fd1142)) ::
  (nat_lit 1148, o (y "code") (dFields [s "_law_right" 1764, s "_law_right" 1765, s "/claim/cut.py" 1766, z 708, z 5, z 0, z 0, z 3, f 1143, b true, z 181, f 1144, n, f 1145, f 1146, f 1147, z 1778, z 708, s "/claim/cut.py" 1779])) ::
  (nat_lit 1149, o (y "function") (.func fd1149)) ::
  (nat_lit 1155, o (y "code") (dFields [s "law" 1781, s "law" 1782, s "/claim/cut.py" 1783, z 721, z 1, z 0, z 0, z 3, f 1150, b true, z 181, f 1151, n, f 1152, f 1153, f 1154, z 1791, z 721, s "/claim/cut.py" 1792])) ::
  (nat_lit 1156, o (y "function") (.func fd1156)) :: []
noncomputable def Ka : List Addr := [3, 27, 28, 34, 35, 41, 42, 69, 70, 81, 82, 147, 148, 149, 150, 160, 166, 167, 187, 188, 236, 237, 243, 244, 257, 258, 281, 282, 283, 284, 302, 303, 304, 315, 316, 327, 328, 339, 340, 348, 349, 355, 356, 364, 370, 371, 394, 395, 396, 397, 405, 406, 412, 413, 426, 427, 465, 466, 467, 468, 483, 484, 490, 491, 497, 498, 556, 557, 558, 559, 574, 575, 633, 634, 635, 636, 651, 652, 689, 690, 691, 692, 707, 708, 745, 746, 747, 748, 763, 764, 787, 788, 789, 790, 805, 806, 812, 813, 814, 978, 979, 980, 981, 991, 995, 996, 1045, 1046, 1047, 1048, 1063, 1064, 1066, 1067, 1068, 1069, 1077, 1078, 1091, 1092, 1109, 1110, 1111, 1112, 1120, 1121, 1127, 1128, 1134, 1135, 1141, 1142, 1148, 1149, 1155, 1156]
theorem Kas : ∀ P, Ka = (K P).map (·.1) := fun P => by kernel_rfl
noncomputable abbrev KH : Hook := kHook K Ka Kas
theorem obs (w : World) (os : OsState) : KH.obs ⟨H1 w.params, ⟨[]⟩, {}, 1794, os⟩ = KH.val w := by kernel_rfl
theorem left1 : LeftO pw q loose xt (Hook.obs KH) (Hook.val KH) 16000 := left _ _ obs
end Mine.H
end
section
set_option maxHeartbeats 4000000
open PySem PySem.W PyProof.Rows Mine.H
namespace Mine
/-! The logic of 'every context' (wpAny, codeAny), restricted to contexts whose frames hold no code that lends a bytearray's bytes out. -/
/-- codes that lend the bytes of a bytearray out while they run -/
def lends : Code → Bool
  | .builtin id _ => Builtin.Bytes.decodersThatHold.contains id || (["bytearray.__contains__", "bytearray.__mod__", "bytearray.__rmod__", "_struct.pack_into.held", "bytearray.find.held"] : List String).contains id
  | _ => false
def Cln (Γ : Ctx) : Prop := lends Γ.code = false ∧ ∀ x ∈ Γ.below, lends x.1 = false
def wpC {α : Type} (M : Model) (A : Around) (t : Sem α) (Q : α → Shared → Prop) (E : Value → Shared → Prop) (s : Shared) : Prop :=
  ∀ Γ p, Γ.In A → Cln Γ → Sem.wp M Γ t (fun a _ s' => Q a s') (fun e _ s' => E e s') p s
def codeC (M : Model) (A : Around) (c : Code) (R : Result → Shared → Prop) (s : Shared) : Prop :=
  ∀ Γ p, Γ.code = c → Γ.Below A → (∀ x ∈ Γ.below, lends x.1 = false) → wpCode M Γ R p s
section
variable {α β : Type} {M : Model} {A : Around} {E : Value → Shared → Prop} {s : Shared}
theorem wpC_of_any {t : Sem α} {Q : α → Shared → Prop} (h : wpAny M A t Q E s) : wpC M A t Q E s := fun Γ p hΓ _ => h Γ p hΓ
theorem codeC_of_any {c : Code} {R : Result → Shared → Prop} (h : codeAny M A c R s) : codeC M A c R s := fun Γ p hc hΓ _ => h Γ p hc hΓ
theorem wpC_pure {a : α} {Q : α → Shared → Prop} (h : Q a s) : wpC M A (pure a) Q E s := fun _ _ _ _ => h
theorem wpC_mono {t : Sem α} {Q Q' : α → Shared → Prop} {E' : Value → Shared → Prop} (h : wpC M A t Q E s) (hQ : ∀ a s, Q a s → Q' a s) (hE : ∀ e s, E e s → E' e s) : wpC M A t Q' E' s :=
  fun Γ p hΓ hc => Sem.wp_mono M Γ t (fun a _ s => hQ a s) (fun e _ s => hE e s) p s (h Γ p hΓ hc)
theorem wpC_bind {m : Sem α} {f : α → Sem β} {Q : β → Shared → Prop} (h : wpC M A m (fun a s' => wpC M A (f a) Q E s') E s) : wpC M A (m >>= f) Q E s := fun Γ p hΓ hc => by
  rw [Sem.wp_bind']
  exact Sem.wp_mono M Γ m (fun a p' s' h' => h' Γ p' hΓ hc) (fun _ _ _ h' => h') p s (h Γ p hΓ hc)
/-- what stands ahead is walked in the old logic -/
theorem wpC_then {m : Sem α} {f : α → Sem β} {Q : β → Shared → Prop} (h : wpAny M A m (fun a s' => wpC M A (f a) Q E s') E s) : wpC M A (m >>= f) Q E s := wpC_bind (wpC_of_any h)
theorem wpC_onRaise {m : Sem α} {k : Value → Sem Unit} {Q : α → Shared → Prop} (h : wpC M A m Q (fun e s' => wpC M A (k e) (fun _ s'' => E e s'') E s') s) : wpC M A (m.onRaise k) Q E s := fun Γ p hΓ hc => by
  rw [Sem.wp_onRaise]
  exact Sem.wp_mono M Γ m (fun _ _ _ h' => h') (fun e p' s' h' => h' Γ p' hΓ hc) p s (h Γ p hΓ hc)
theorem wpC_holding {vs : List Value} {m : Sem α} {Q : α → Shared → Prop} (h : wpC M A m Q E s) : wpC M A (holding vs m) Q E s := fun Γ p hΓ hc => by
  rw [Sem.wp_holding]; exact h Γ p hΓ hc
theorem wpC_keep {vs : List Value} {m : Sem α} {Q : α → Shared → Prop} (h : wpC M A m Q E s) : wpC M A (m.keep vs) Q E s := fun Γ p hΓ hc => by
  rw [Sem.wp_keep]; exact h Γ p hΓ hc
theorem wpC_standAt {pos : Pos} {Q : Unit → Shared → Prop} (h : Q () s) : wpC M A (standAt pos) Q E s := fun _ _ _ _ => h
theorem wpC_point {Q : Unit → Shared → Prop} (h : Q () s) : wpC M A point Q E s := fun _ _ _ _ => h
theorem codeC_mono {c : Code} {R R' : Result → Shared → Prop} (h : codeC M A c R s) (hR : ∀ r s, R r s → R' r s) : codeC M A c R' s := fun Γ p hc hΓ hb => wpCode_mono hR (h Γ p hc hΓ hb)
theorem codeC_of_tree {c : Code} {R : Result → Shared → Prop} (hl : lends c = false)
    (h : wpC M (A.under c) (M.den c) (fun fin s' => match fin with | .done f => R (.ok f) s' | .again c' => c'.quiet = true ∧ codeC M A c' R s') (fun e s' => R (.error e) s') s) : codeC M A c R s := fun Γ p hc hΓ hb => by
  rw [wpCode_iff_wp, hc]
  refine Sem.wp_mono M Γ _ (fun fin p' s' h' => ?_) (fun _ _ _ h' => h') p s (h Γ p (hc ▸ hΓ.in) ⟨hc ▸ hl, hb⟩)
  cases fin with
  | done f => exact h'
  | again c' => exact ⟨h'.1, h'.2 (Γ.goto c') p' rfl (hΓ.goto c') hb⟩
theorem cln_enter {Γ : Ctx} {c : Code} {hd : Option Value} {p : Pos} (hc : Cln Γ) : ∀ x ∈ (Γ.enter c hd p).below, lends x.1 = false := fun x hx => by
  rcases List.mem_cons.mp hx with rfl | hx
  · exact hc.1
  · exact hc.2 x hx
theorem wpC_run {c : Code} {h : Option Value} {Q : Flow → Shared → Prop}
    (hc : codeC M (A.mark h) c (fun r s' => match r with | .ok f => Q f s' | .error e => E e s') s) (hnb : h ≠ some byPass := by intro x; cases x) : wpC M A (run c h) Q E s :=
  fun Γ p hΓ hl => by rw [Sem.wp_run]; exact hc _ p rfl (hΓ.enter c h p hnb) (cln_enter hl)
theorem wpC_runValue {c : Code} {Q : Value → Shared → Prop}
    (hc : codeC M A c (fun r s' => match r with | .ok (.ret v) => Q v s' | .ok _ => False | .error e => E e s') s) : wpC M A (runValue c) Q E s :=
  fun Γ p hΓ hl => by rw [Sem.wp_runValue]; exact hc _ p rfl (hΓ.enter c none p (by intro x; cases x)) (cln_enter hl)
theorem wpC_call {f : Value} {pos : List Value} {kw : List (Str × Value)} {Q : Value → Shared → Prop}
    (hc : codeC M A (.call f ⟨pos, kw⟩) (fun r s' => match r with | .ok (.ret v) => Q v s' | .ok _ => False | .error e => E e s') s) : wpC M A (call f pos kw) Q E s := wpC_runValue hc
theorem wpC_of_eq {t : Sem α} {a : α} {Q : α → Shared → Prop} (e : t = pure a) (h : Q a s) : wpC M A t Q E s := by rw [e]; exact wpC_pure h
theorem any_cln {f : Code × Pos → Bool} (hf : ∀ c p, lends c = false → f (c, p) = false) : ∀ l : List (Code × Pos), (∀ x ∈ l, lends x.1 = false) → l.any f = false
  | [], _ => rfl
  | (c, p) :: l, h => by rw [List.any_cons, hf c p (h _ List.mem_cons_self), any_cln hf l fun y hy => h y (List.mem_cons_of_mem _ hy)]; rfl
theorem wpC_stackAny {f : Code × Pos → Bool} {Q : Bool → Shared → Prop} (hf : ∀ c p, lends c = false → f (c, p) = false) (h : Q false s) : wpC M A (do return (← stack).any f) Q E s := fun Γ p _ hc => by
  show Q (((Γ.code, p) :: Γ.below).any f) s
  rw [any_cln hf _ fun x hx => by
    rcases List.mem_cons.mp hx with rfl | hx
    · exact hc.1
    · exact hc.2 x hx]
  exact h
/-- nobody lends the bytes of self out -/
theorem wpC_exported {v : Value} {Q : Bool → Shared → Prop} (h : Q false s) : wpC M A (Builtin.Bytes.exported v) Q E s := by
  unfold Builtin.Bytes.exported
  refine wpC_stackAny (fun c p hl => ?_) h
  split <;> first
    | rfl
    | (rename_i heq; cases heq; simp only [lends, Bool.or_eq_false_iff] at hl; first | exact absurd hl.2 (by decide) | rw [hl.1, Bool.and_false])
end
end Mine
end
section
set_option maxHeartbeats 4000000
open PySem PySem.W PyProof.Rows PySem.Calls Mine.H
namespace Mine
section
variable {prog : Program} {w : World} {A A₀ : Around} {E : Value → Shared → Prop} {s : Shared} {R : Result → Shared → Prop}
theorem codeC_func {body : List Stmt} {env : Env}
    (h : wpC (model prog w) (A.deeper env) (execs body env) (fun f s' => R (.ok (.ret (match f with | .ret v => v | _ => .none))) s')
      (fun e s' => wpAny (model prog w) (A.deeper env) (leaving env e) (fun _ s'' => R (.error e) s'') (fun e' s'' => R (.error e') s'') s') s) : codeC (model prog w) A (.func body env) R s := by
  refine codeC_of_tree rfl ?_
  show wpC _ (A.deeper env) (do point; match ← (execs body env).onRaise (leaving env) with | .ret v => ret v | _ => ret .none) _ _ s
  refine wpC_bind (wpC_point (wpC_bind (wpC_onRaise (wpC_mono h (fun f s' h' => ?_) fun _ _ h' => wpC_of_any h'))))
  cases f <;> exact wpC_pure h'
/-- a call of a def: what is asked of the body is asked of clean contexts alone -/
theorem codeC_def {K : Frag} {C L : Addr} {h₀ base : Heap} {m mg mb : Str → Option Value} {news : List (Addr × Obj)} {p : Program} {loose : List Str} {mean : ExcName → Option Value}
    {env : Env} {outer : List Env} {name qual : Str} {params : Arguments} {body : List Stmt} {scope : Scope} {dV kV doc pm cdv ct oc : Value} {an od : Option Addr} {osl : Array (Option Value)} {f : Addr} {args : Args} {binds : List (Str × Value)}
    (B : Below A₀ base outer h₀) (F : Fr h₀ L s.heap m) (X₀ : K.In h₀) (N : News h₀ L s.heap news) (T : Top p loose mean mg mb h₀) (hA : A.frames = some (env :: outer)) (hf : env.frame = some L) (hke : env.scope.kind = .function)
    (ho : K.lookup f = some ⟨oc, od, .func (fnOf name qual params body scope dV kV doc pm an cdv ct), osl⟩) (hcd : codeIn K cdv qual = true) (hroom : A.depth < recursionLimit)
    (hbind : BindsTo s (fnOf name qual params body scope dV kV doc pm an cdv ct) args binds) (hloc : ∀ y ∈ binds, scope.names.lookup y.1 = some .local)
    (h : ∀ g L' h₁, Fr h₀ L g m → Fr g L' h₁ (fun y => binds.reverse.lookup y) → News g L' h₁ news → Below A base (env :: outer) g → K.In g → Top p loose mean mg mb g →
      wpC (model prog w) (A.deeper (envOf qual scope L' f cdv)) (execs body (envOf qual scope L' f cdv))
        (fun fl s' => LeaveK h₀ L m g R (match fl with | .ret v => v | _ => .none) s')
        (fun e s' => wpAny (model prog w) (A.deeper (envOf qual scope L' f cdv)) (leaving (envOf qual scope L' f cdv) e) (fun _ s'' => R (.error e) s'') (fun e' s'' => R (.error e') s'') s')
        { s with heap := h₁, toks := s.toks + binds.length })
    (hco : scope.isCoroutine = false) (hgen : scope.isGenerator = false) (hk : scope.kind = .function)
    (hcell : ∀ x ∈ scope.names, x.2 ≠ .cell) : codeC (model prog w) A (.call (.ref f) args) R s := by
  obtain ⟨FG, BG, st, lv⟩ := groundX (R := R) B F N hA hf hke
  have hob := F.keep _ _ (X₀ _ _ ho)
  have hlim := T.nolimit.keeps F.keep
  obtain ⟨c, oc', vs, tq, hc, hoc, hdc, hq⟩ := codeRec_of (X₀.keeps F.keep) hcd
  subst hc
  refine codeC_of_tree rfl (wpC_of_any ?_)
  show wpAny _ A.in1 (callAny (.ref f) args) _ _ s
  simp only [callAny]
  refine wpAny_bind (wpAny_load hob ?_)
  simp only [callFunction, hco, hgen]
  refine wpAny_bind (m := field (.ref c) 1) (wpAny_field hoc hdc hq (wpAny_bind (wpAny_pure ?_)))
  refine wpAny_bind (hbind _ _ _ _ (wpAny_bind (wpAny_newFunctionEnv hcell hloc (fun h₁ hns hsb => wpAny_bind (wpAny_enterFrame (hlim.fresh _ hsb) hroom (wpAny_pure (And.intro rfl (codeC_func ?_))))) hk)))
  have hk₁ : ∀ b o, s.heap.get? b = some o → h₁.get? b = some o := fun b o e => hsb.extBut b o (Nat.ne_of_lt (Heap.lt_size e)) (Heap.get?_push_of_some _ e)
  exact wpC_mono (h _ s.heap.objs.size h₁ FG ⟨hns, fun b o e => hk₁ b o (of_hideAll _ e), Nat.le_of_eq (hideAll_size _ _)⟩
    (fun p hp => ⟨hk₁ _ _ (N p hp).1, Nat.ne_of_lt (Heap.lt_size (N p hp).1), hideAll_none _ (List.mem_map_of_mem hp)⟩) BG (X₀.keeps st) (T.keeps st)) (fun fl s' hl => lv _ _ hl) fun _ _ y => y
end
section
variable {M : Model} {A : Around} {E : Value → Shared → Prop} {s : Shared} {K : Frag} {env : Env} {pos : Pos} {f : Value} {first : List Value}
theorem wpC_callWith_of {P : Heap → Prop} {args : List (Bool × Sem Value)} {keywords : List (Option Str × Sem Value)} {Q : Value → Shared → Prop} (hplain : (args.any (·.1) || keywords.any (·.1.isNone)) = false)
    (hk : ∀ h, P h → ∃ k, (k = Keeper.frame ∨ k = Keeper.machine ∨ k = Keeper.boundFrame) ∧ Looks M h (keeperOf f) k)
    (h : wpAny M A (evalArgs f true args keywords) (fun a s₁ => P s₁.heap ∧ wpC M A (call f (first ++ a.pos) a.kw) Q E s₁) E s) : wpC M A (callWith pos f first args keywords) Q E s := by
  unfold callWith
  refine wpC_then (wpAny_holding (wpAny_mono h (fun a s₁ h₁ => wpC_then (wpAny_standAt ?_)) fun _ _ x => x))
  obtain ⟨k, hk', L⟩ := hk _ h₁.1
  simp only [hplain]
  refine wpC_then (L.here ?_)
  have tail : ∀ {t : Sem Value}, wpC M A t Q E s₁ → wpC M A (t >>= fun r => holding [r] point >>= fun _ => pure r) Q E s₁ :=
    fun ht => wpC_bind (wpC_mono ht (fun r s₂ hr => wpC_bind (wpC_holding (wpC_point (wpC_pure hr)))) fun _ _ x => x)
  have marked (mk : Value) : wpC M A (callMarked mk f (first ++ a.pos) a.kw) Q E s₁ := by unfold callMarked; exact wpC_keep h₁.2
  rcases hk' with rfl | rfl | rfl <;> dsimp only <;> first | exact tail h₁.2 | (split <;> first | exact tail h₁.2 | exact tail (marked _))
theorem wpC_callWith_K {Q : Value → Shared → Prop} {e : Expr} {rest : List Expr} (hk : keepIn K f = true)
    (h : wpAny M A (spliced (backTo pos (starEach (e :: rest) env))) (fun vs s₁ => K.In s₁.heap ∧ wpC M A (call f (first ++ vs)) Q E s₁) E s)
    (he : starEach (e :: rest) env = (false, eval e env) :: starEach rest env := by rfl) (hplain : (backTo pos (starEach rest env)).any (·.1) = false := by rfl) :
    wpC M A (callWith pos f first (backTo pos (starEach (e :: rest) env)) []) Q E s := by
  rw [he] at h ⊢
  exact wpC_callWith_of (by show ((false || (backTo pos (starEach rest env)).any (·.1)) || false) = false; rw [hplain]; rfl) (keeps_K hk) (evalArgs_plain h)
/-- a call by a plain name, plain arguments -/
theorem wpC_eval_Call {Q : Value → Shared → Prop} {id : Str} {p : Pos} {args : List Expr} (h : wpAny M A (eval (.Name id p) env) (fun fv s₁ => wpC M A (callWith pos fv [] (backTo pos (starEach args env)) []) Q E s₁) E s) :
    wpC M A (eval (.Call (.Name id p) args [] pos) env) Q E s := by
  rw [arm_eval_Call_Name']
  exact wpC_then h
theorem wpC_execs_cons {Q : Flow → Shared → Prop} {st : Stmt} {rest : List Stmt} (h : wpC M A (exec st env) (fun fl s₁ => match fl with | .next => wpC M A (execs rest env) Q E s₁ | fl => Q fl s₁) E s) : wpC M A (execs (st :: rest) env) Q E s := by
  rw [execs_cons]
  refine wpC_bind (wpC_mono h (fun fl s₁ h₁ => ?_) fun _ _ x => x)
  cases fl <;> first | exact h₁ | exact wpC_pure h₁
theorem wpC_execs_nil {Q : Flow → Shared → Prop} (h : Q .next s) : wpC M A (execs [] env) Q E s := wpC_pure h
theorem wpC_Assign_Attr {o : Expr} {attr : Str} {pos' pos : Pos} {value : Expr} {Q : Flow → Shared → Prop}
    (h : wpC M A (eval value env) (fun v s₁ => wpAny M A (eval o env) (fun ov s₂ => wpAny M A (setAttr ov attr v) (fun _ => Q .next) E s₂) E s₁) E s)
    (hs : swapsWith value (some (.Attribute o attr pos')) pos.line env = pure false := by rfl) :
    wpC M A (exec (.Assign [.Attribute o attr pos'] value pos) env) Q E s := fun Γ p hΓ hc => by
  simp only [plainObj_exec_Assign_Attribute o attr pos' value pos hs, assign_Attribute, Sem.wp_bind', Sem.wp_holding, Sem.wp_cmd_standAt, Sem.wp_release, Sem.wp_pure']
  exact Sem.wp_mono M Γ _ (fun v p₁ s₁ h₁ => Sem.wp_mono M Γ _ (fun ov _ s₂ h₂ => h₂ Γ _ hΓ) (fun _ _ _ h' => h') _ _ (h₁ Γ p₁ hΓ)) (fun _ _ _ h' => h') _ _ (h Γ _ hΓ hc)
theorem wpC_Expr {e : Expr} {pos : Pos} {Q : Flow → Shared → Prop} (h : wpC M A (eval e env) (fun v s' => match v with | .ref _ => False | _ => Q .next s') E s)
    (hi : interactive env = false := by rfl) (hs : swapsWith e none pos.line env = pure false := by rfl) : wpC M A (exec (.Expr e pos) env) Q E s := by
  rw [exec_Expr env e pos hi hs]
  refine wpC_bind (wpC_standAt (wpC_bind (wpC_mono h (fun v s' h' => ?_) fun _ _ x => x)))
  have hv : ∀ a, v ≠ .ref a := fun a hva => by subst hva; exact h'
  rw [dropValue_plain hv]
  refine wpC_pure ?_
  cases v <;> first | exact h' | exact (hv _ rfl).elim
theorem wpC_If {test : Expr} {body orelse : List Stmt} {pos : Pos} {Q : Flow → Shared → Prop}
    (h : wpC M A (isTrue test env (eval test env)) (fun b s₂ => if b then wpC M A (execs body env) Q E s₂ else wpC M A (execs orelse env) Q E s₂) E s) : wpC M A (exec (.If test body orelse pos) env) Q E s := by
  rw [exec_If]
  refine wpC_bind (wpC_standAt (wpC_bind (wpC_mono h (fun b s₂ h₂ => ?_) fun _ _ x => x)))
  cases b <;> exact h₂
/-- the truth of «not f(..)» where f hands a bool on -/
theorem wpC_isTrue_not_call {fn : Expr} {args : List Expr} {kws : List Keyword} {pc pu : Pos} {Q : Bool → Shared → Prop}
    (h : wpC M A (eval (.Call fn args kws pc) env) (fun v s₁ => ∃ b, v = .bool b ∧ Q (!b) s₁) E s) :
    wpC M A (isTrue (.UnaryOp .Not (.Call fn args kws pc) pu) env (eval (.UnaryOp .Not (.Call fn args kws pc) pu) env)) Q E s := by
  have e1 : isTrue (.UnaryOp .Not (.Call fn args kws pc) pu) env (eval (.UnaryOp .Not (.Call fn args kws pc) pu) env) = (do return !(← isTrue (.Call fn args kws pc) env (eval (.Call fn args kws pc) env))) := rfl
  have e2 : isTrue (.Call fn args kws pc) env (eval (.Call fn args kws pc) env) = (do let v ← eval (.Call fn args kws pc) env; standAt (Expr.Call fn args kws pc).pos; holding [v] (truthy v)) := rfl
  rw [e1, e2]
  refine wpC_bind (wpC_bind (wpC_mono h (fun v s₁ hv => ?_) fun _ _ x => x))
  obtain ⟨b, rfl, hq⟩ := hv
  exact wpC_bind (wpC_standAt (wpC_holding (wpC_of_any (wpAny_truthy_bool (wpC_pure hq)))))
end
end Mine
end
section
set_option maxHeartbeats 4000000
open PySem PySem.W PyProof.Rows PySem.Calls Mine.H
namespace Mine
section
variable {prog : Program} {w : World} {A : Around} {C : Addr} {R : Result → Shared → Prop} {h : Heap} {g : Array GenState} {d : Drawn} {t : Nat} {os : OsState}
theorem lendsTc (args : Args) : lends (.builtin "type.__call__" args) = false := by kernel_rfl
theorem codeC_call_builtin_at {s : Shared} {id : String} {args : Args} {b : Builtin} (hl : lends (.builtin id args) = false) (hq : (Code.builtin id args).quiet = true) (hb : entryFor table id = some b)
    (h : wpAny (model prog w) A.in1 (checkBuiltinCall id args) (fun _ s₁ => wpC (model prog w) (A.under (.builtin id args)) (b args)
      (fun fin s' => match fin with | .done f => R (.ok f) s' | .again c' => c'.quiet = true ∧ codeC (model prog w) A c' R s') (fun e s' => R (.error e) s') s₁)
      (fun e s' => R (.error e) s') s) : codeC (model prog w) A (.call (.builtin id) args) R s := by
  refine codeC_of_tree rfl (wpC_of_any ?_)
  show wpAny _ A.in1 (do checkBuiltinCall id args; again (.builtin id args)) _ _ s
  refine wpAny_bind (wpAny_mono h (fun _ s₁ h₁ => wpAny_pure (And.intro hq (codeC_of_tree hl ?_))) fun _ _ h' => h')
  show wpC _ _ (match entryFor table id with | some b => b args | none => unsupported ((withoutEnding? id "#data").getD id)) _ _ s₁
  rw [hb]; exact h₁
theorem coreC {rest : List Value} {init : Value} (Y : Makes (model prog w) h C) (hi : Looks (model prog w) h (typeLookup (.ref C) "__init__") (some init))
    (hb : ∀ self, Looks (model prog w) h (bindSpecial init self) (init, [self])) (hne : (some init != some (Value.builtin "object.__init__")) = true)
    (hq : codeC (model prog w) (A.under (.builtin "type.__call__" ⟨.ref C :: rest, []⟩)) (.call init ⟨.ref (h.objs.size + 1) :: rest, []⟩) (InitBack (h.objs.size + 1) R) ⟨(h.push emptyDict).push (instObj C h.objs.size), g, d, t, os⟩) :
    codeC (model prog w) A (.call (.ref C) ⟨rest, []⟩) R ⟨h, g, d, t, os⟩ := by
  have Y' := Y
  obtain ⟨⟨oc, od, cd, sl, hC, e1, e2, e4⟩, made, base, self, top, call, typ⟩ := Y
  refine codeC_of_tree rfl (wpC_of_any ?_)
  show wpAny _ _ (callAny (.ref C) _) _ _ _
  refine nd_load hC ?_
  show wpAny _ _ (callAny.viaDunder (.ref C) _) _ _ _
  unfold callAny.viaDunder
  refine wpAny_bind (call.at ?_)
  dsimp only
  rw [tc_bind]
  refine wpAny_bind (wpAny_pure (wpAny_bind (wpAny_pure ?_)))
  refine wpAny_pure (a := Fin.again (.call (.builtin "type.__call__") ⟨.ref C :: rest, []⟩)) (And.intro rfl ?_)
  refine codeC_call_builtin_at (lendsTc _) (Code.quiet_builtin _ (by decide +kernel)) entry_typeCall (check_slot tc_kind tc_split typ (tc_args _ _ _) ?_)
  unfold Builtin.«type.__call__»
  have hm : Looks (model prog w) h (mroOf (.ref C)) cd.mro := ((Looks.ld (part := none) hC).andThen .now).andThen .now
  have b0 : (Value.ref C == Value.type "type") = false := rfl
  dsimp only
  simp only [b0, Bool.false_eq_true, if_false]
  refine wpC_then (hm.here ?_)
  simp only [e4, Bool.false_eq_true, if_false]
  refine wpC_then (made.here ?_)
  dsimp only
  refine wpC_then (wpAny_pure (wpC_then (wpAny_holding (wpAny_call ?_))))
  refine new_K Y' hi (.inl hne) ?_
  have k : ∀ b o, h.get? b = some o → ((h.push emptyDict).push (instObj C h.objs.size)).get? b = some o := fun b o e => Heap.get?_push_of_some _ (Heap.get?_push_of_some _ e)
  have hx : ((h.push emptyDict).push (instObj C h.objs.size)).get? (h.objs.size + 1) = some (instObj C h.objs.size) := by heap_get
  have t1 : Looks (model prog w) ((h.push emptyDict).push (instObj C h.objs.size)) (typeOf (.ref (h.objs.size + 1))) (.ref C) := (Looks.ld hx).andThen .now
  have s1 := self.keeps k
  have i1 := hi.keeps k
  have b1 := (hb (.ref (h.objs.size + 1))).keeps k
  dsimp only
  have z1 : Looks (model prog w) ((h.push emptyDict).push (instObj C h.objs.size)) (isInstance (.ref (h.objs.size + 1)) (.ref C)) true := t1.andThen s1
  refine wpC_then (z1.here ?_)
  simp only [Bool.not_true, Bool.false_eq_true, if_false]
  unfold callSpecial? specialOf
  refine wpC_bind (wpC_holding ?_)
  refine wpC_then (wpAny_bind (t1.here (i1.here ?_)))
  dsimp only
  refine wpC_holding (wpC_then (b1.here ?_))
  dsimp only
  refine wpC_bind (wpC_call ?_)
  refine codeC_mono hq fun r s' z => ?_
  rcases r with e | (v | _ | _ | _) <;> first | exact z | exact z.elim | skip
  obtain ⟨rfl, z⟩ := z
  exact wpC_pure (wpC_pure z)
end
section
variable {prog : Program} {w : World} {A : Around} {K : Frag} {C x : Addr} {s : Shared} {h₀ : Heap} {L : Addr} {m : Str → Option Value} {news : List (Addr × Obj)} {R : Result → Shared → Prop}
/-- an own class called: __init__ is asked of clean contexts alone -/
theorem makeC {rest : List Value} {fI : Addr} (F : Fr h₀ L s.heap m) (N : News h₀ L s.heap news) (X : K.In s.heap) (hm : makesIn K C = true)
    (hi : findIn K (.ref C) "__init__" = some (some (.ref fI))) (hf : typeIn K (.ref fI) = some (.type "function"))
    (h : ∀ x dx h', Fr h₀ L h' m → News h₀ L h' ((x, instObj C dx) :: (dx, dictOf [] 0) :: news) → (∀ p ∈ news, p.1 < dx) → dx < x →
      codeC (model prog w) (A.under (.builtin "type.__call__" ⟨.ref C :: rest, []⟩)) (.call (.ref fI) ⟨.ref x :: rest, []⟩) (InitBack x R) { s with heap := h' }) :
    codeC (model prog w) A (.call (.ref C) ⟨rest, []⟩) R s := by
  obtain ⟨hh, g, d, t, os⟩ := s
  refine coreC (makes_of X hm) (looks_findIn X hi) (fun self => bind_fn X self hf) rfl (h _ hh.objs.size _ ((F.push _).push _) ?_ (fun p hp => Heap.lt_size (N p hp).1) (Nat.lt_succ_self _))
  have := (N.push F emptyDict).push (F.push _) (instObj C hh.objs.size)
  rwa [Heap.size_push] at this
end
end Mine
end
section
set_option maxHeartbeats 4000000
open PySem PySem.W PyProof.Rows PySem.Calls Mine.H
namespace Mine.BA
theorem mro : mroOf (.type "bytearray") = pure [.type "bytearray", .type "object"] := by rw [mroOf_type]; kernel_rfl
theorem lookup_new : typeLookup (.type "bytearray") "__new__" = pure (some (.builtin "bytearray.__new__")) := by rw [typeLookup_type, builtinLookup_eq_fast]; kernel_rfl
theorem slot_init : Slot "bytearray" "__init__" "bytearray.__init__" :=
  .of (owner := "bytearray") (n := "__init__") (by rw [typeLookup_type, builtinLookup_eq_fast]; kernel_rfl) (by decide +kernel) (by decide +kernel) (by decide +kernel)
    (by first | exact .inl (by decide +kernel) | exact .inr (by decide +kernel)) (by rw [isSubtype_type]; kernel_rfl)
theorem called : TypeCalled "bytearray" "bytearray.__new__" "bytearray.__init__" :=
  ⟨by decide +kernel, by decide +kernel, ⟨_, _, mro⟩, madeBy_type mro lookup_new (by decide +kernel), by decide +kernel, by rw [isSubtype_type]; kernel_rfl, slot_init⟩
theorem typeCall_0 : checkTypeCall "bytearray" ⟨[], []⟩ = pure () := by kernel_rfl
theorem newCall_0 : checkBuiltinCall "bytearray.__new__" ⟨[.type "bytearray"], []⟩ = pure () := by kernel_rfl
theorem entry_new : entryFor table "bytearray.__new__" = some Builtin.«list.__new__» :=
  entryFor_alias (id' := "list.__new__") (by kernel_rfl) (by decide +kernel) (by decide +kernel) (by kernel_rfl)
theorem plain_new : plainId "bytearray.__new__" = true := by decide +kernel
theorem entry_init : entryFor table "bytearray.__init__" = some Builtin.«bytearray.__init__» := entryFor_of_tree (by kernel_rfl)
theorem sub_self : isSubtype (.type "bytearray") (.type "bytearray") = pure true := by rw [isSubtype_type]; kernel_rfl
theorem owner_new : ("bytearray.__new__".splitOn ".__new__").headD "" = "bytearray" := by simp +decide [String.splitOn, String.splitOnAux]
theorem kind_init : builtinKind "bytearray.__init__" = some .slot := by kernel_rfl
theorem split_init : splitId "bytearray.__init__" = some ("bytearray", "__init__") := by decide +kernel
theorem args_init (a : Value) : argsOk "bytearray.__init__" ⟨[a], []⟩ := by unfold argsOk; kernel_rfl
theorem rel : typeLookup (.type "bytearray") "__release_buffer__" = pure (some (.builtin "bytearray.__release_buffer__")) := by rw [typeLookup_type, builtinLookup_eq_fast]; kernel_rfl
section
variable {prog : Program} {w : World} {A : Around} {E : Value → Shared → Prop} {s : Shared}
theorem code_new {Q₁ : Value → Shared → Prop} (h : Q₁ (.ref s.heap.objs.size) { s with heap := s.heap.push { cls := .type "bytearray", data := .bytearray #[] } }) :
    codeAny (model prog w) A (.call (.builtin "bytearray.__new__") ⟨[.type "bytearray"], []⟩) (wants Q₁ E) s := by
  refine codeAny_of_tree ?_
  show wpAny _ A.in1 (do checkBuiltinCall "bytearray.__new__" ⟨[.type "bytearray"], []⟩; again (.builtin "bytearray.__new__" ⟨[.type "bytearray"], []⟩)) _ _ s
  refine wpAny_bind (wpAny_of_eq newCall_0 (wpAny_pure ⟨plainId_quiet plain_new _, codeAny_builtin_stack entry_new rfl fun p st => ?_⟩))
  rw [Around.under_plainId plain_new _]
  have hsub := sub_self
  have hown := owner_new
  obtain ⟨hp, g, d, tk, os⟩ := s
  simp only [hown]
  wp_walk
  exact h
theorem ownRel {a : Addr} {M : Model} {Q : Bool → Shared → Prop} (hT : s.TypeIs (.ref a) "bytearray") (h : Q false s) : wpAny M A (Builtin.Bytes.ownRelease (.ref a)) Q E s := by
  unfold Builtin.Bytes.ownRelease Builtin.Bytes.slotIsOwn
  refine wpAny_bind (wpAny_bind (wpAny_specialOf hT rel ?_))
  dsimp only
  rw [if_neg (by decide +kernel)]
  refine wpAny_isInstance hT (b := true) ?_ (wpAny_pure h)
  rw [show ("bytearray.__release_buffer__".dropRight ("__release_buffer__".length + 1)) = "bytearray" from by decide +kernel]
  exact sub_self
theorem init {a : Addr} {Q : Fin → Shared → Prop} (ho : s.heap.get? a = some { cls := .type "bytearray", data := .bytearray #[] })
    (h : Q (.done (.ret .none)) { s with heap := s.heap.update a (Obj.mapBytearray fun _ => #[]) }) :
    wpC (model prog w) A (Builtin.«bytearray.__init__» ⟨[.ref a], []⟩) Q E s := by
  have hT : s.TypeIs (.ref a) "bytearray" := ⟨_, ho, rfl⟩
  unfold Builtin.«bytearray.__init__»
  dsimp only
  refine wpC_then (ownRel hT ?_)
  rw [if_neg Bool.false_ne_true]
  refine wpC_then (wpAny_of_eq (a := [none, none, none]) (by kernel_rfl) ?_)
  dsimp only
  refine wpC_then (wpAny_of_eq (a := ()) (by kernel_rfl) ?_)
  refine wpC_then (wpAny_of_eq (a := ()) (by kernel_rfl) ?_)
  refine wpC_bind ?_
  unfold orM
  refine wpC_bind (wpC_exported ?_)
  show wpC _ _ (do let n ← Builtin.Bytes.exportsOf (.ref a); pure (decide (n > 0))) _ _ _
  refine wpC_then ?_
  unfold Builtin.Bytes.exportsOf
  refine wpAny_bind (wpAny_load ho (wpAny_pure (wpC_pure ?_)))
  rw [if_neg (by decide)]
  refine wpC_then ?_
  show wpAny _ _ (updateBytearray a _) _ _ _
  unfold updateBytearray
  refine wpAny_bind (wpAny_load ho ?_)
  dsimp only
  refine wpAny_bind (wpAny_update ho (wpAny_lookBehind (o := Obj.mapBytearray (fun _ => #[]) { cls := .type "bytearray", data := .bytearray #[] }) (Heap.get?_update_self _ ho rfl) (by decide) ?_))
  simp only [Option.isSome_none, Bool.false_eq_true, if_false]
  exact wpC_then (wpAny_pure (wpC_pure h))
end
end Mine.BA
end
section
set_option maxHeartbeats 4000000
open PySem PySem.W PyProof.Rows PySem.Calls Mine.H
namespace Mine.BA
theorem update_same {h : Heap} {a : Addr} {f : Obj → Obj} {o : Obj} (ho : h.objs[a]? = some o) (hf : f o = o) : h.update a f = h := by
  obtain ⟨objs, l⟩ := h
  show Heap.mk (objs.modify a f) l = _
  congr 1
  apply Array.ext_getElem?
  intro i
  rw [Array.getElem?_modify]
  by_cases e : a = i
  · subst e; simp only [if_true]; rw [show objs[a]? = some o from ho, Option.map_some, hf]
  · rw [if_neg e]
theorem lends_init (args : Args) : lends (.builtin "bytearray.__init__" args) = false := by kernel_rfl
theorem lends_tc (args : Args) : lends (.builtin "type.__call__" args) = false := by kernel_rfl
abbrev fresh : Obj := { cls := .type "bytearray", data := .bytearray #[] }
section
variable {prog : Program} {w : World} {A : Around} {E : Value → Shared → Prop} {s : Shared} {R : Result → Shared → Prop}
theorem codeC_builtin {id : String} {args : Args} {b : Builtin} (hl : lends (.builtin id args) = false) (hb : entryFor table id = some b)
    (h : wpC (model prog w) (A.under (.builtin id args)) (b args) (fun fin s' => match fin with | .done f => R (.ok f) s' | .again c' => c'.quiet = true ∧ codeC (model prog w) A c' R s') (fun e s' => R (.error e) s') s) :
    codeC (model prog w) A (.builtin id args) R s := by
  refine codeC_of_tree hl ?_
  show wpC _ _ (match entryFor table id with | some b => b args | none => unsupported ((withoutEnding? id "#data").getD id)) _ _ s
  rw [hb]; exact h
theorem wpC_ifneg {α : Type} {M : Model} {c : Prop} [Decidable c] {x y : Sem α} {Q : α → Shared → Prop} (hc : ¬ c) (h : wpC M A y Q E s) : wpC M A (if c then x else y) Q E s := by rw [if_neg hc]; exact h
theorem call_0 {Q : Value → Shared → Prop} (h : Q (.ref s.heap.objs.size) { s with heap := s.heap.push fresh }) : wpC (model prog w) A (call (.type "bytearray") []) Q E s := by
  obtain ⟨hp, g, d, tk, os⟩ := s
  refine wpC_call (codeC_of_tree rfl ?_)
  show wpC _ _ (callAny (.type "bytearray") _) _ _ _
  refine wpC_pure ⟨Code.quiet_builtin _ (by decide +kernel), codeC_builtin (lends_tc _) F.entry_type_call ?_⟩
  unfold Builtin.«type.__call__»
  have b0 : (Value.type "bytearray" == Value.type "type") = false := by decide
  have h2 := called.canCreate
  have hs : (hp.push fresh).get? hp.objs.size = some fresh := Heap.get?_push_size _ rfl
  have hT : Shared.TypeIs ⟨hp.push fresh, g, d, tk, os⟩ (.ref hp.objs.size) "bytearray" := ⟨_, hs, rfl⟩
  dsimp only
  simp only [b0, Bool.false_eq_true, if_false]
  refine wpC_ifneg (by rw [h2]; exact Bool.false_ne_true) ?_
  refine wpC_then (wpAny_of_eq typeCall_0 ?_)
  refine wpC_then (wpAny_of_eq mro ?_)
  refine wpC_ifneg (by decide) ?_
  refine wpC_then (wpAny_of_eq called.made ?_)
  dsimp only
  refine wpC_then (wpAny_pure (wpC_then (wpAny_holding (wpAny_call ?_))))
  refine codeAny_mono (code_new (E := fun _ _ => False) (Q₁ := fun obj s₁ => obj = .ref hp.objs.size ∧ s₁ = ⟨hp.push fresh, g, d, tk, os⟩) ⟨rfl, rfl⟩) fun r s₁ hr => ?_
  cases r with
  | error e => exact hr.elim
  | ok fl =>
    cases fl with
    | ret obj =>
      obtain ⟨rfl, rfl⟩ := hr
      dsimp only
      refine wpC_then (wpAny_isInstance hT sub_self ?_)
      simp only [Bool.not_true, Bool.false_eq_true, if_false]
      unfold callSpecial?
      refine wpC_bind (wpC_holding ?_)
      refine wpC_then (wpAny_specialOf hT slot_init.lookup ?_)
      dsimp only
      refine wpC_holding (wpC_then (wpAny_of_eq (slot_init.bind _) ?_))
      dsimp only
      refine wpC_bind (wpC_call ?_)
      refine codeC_call_builtin_at (lends_init _) (Code.quiet_builtin _ (by decide +kernel)) entry_init (slot_init.check _ _ _ _ _ _ _ _ hT (args_init _) ?_)
      show wpC _ _ (Builtin.«bytearray.__init__» ⟨[.ref hp.objs.size], []⟩) _ _ _
      refine init hs ?_
      dsimp only
      rw [update_same (o := fresh) (by show (hp.objs.push fresh)[hp.objs.size]? = _; exact Array.getElem?_push_size) rfl]
      exact wpC_pure (wpC_pure h)
    | _ => exact hr.elim
/-- bytearray() in the frame's terms -/
theorem call_N {h₀ : Heap} {L : Addr} {m : Str → Option Value} {news : List (Addr × Obj)} {Q : Value → Shared → Prop} (F : Fr h₀ L s.heap m) (N : News h₀ L s.heap news)
    (h : ∀ a h', Fr h₀ L h' m → News h₀ L h' ((a, fresh) :: news) → (∀ p ∈ news, p.1 < a) → Q (.ref a) { s with heap := h' }) : wpC (model prog w) A (call (.type "bytearray") []) Q E s :=
  call_0 (h _ _ (F.push _) (N.push F _) fun p hp => Heap.lt_size (N p hp).1)
end
end Mine.BA
end
section
set_option maxHeartbeats 4000000
open PySem PySem.W PyProof.Rows PySem.Calls Mine.H
namespace Mine.BA
theorem slot_len : Slot "bytearray" "__len__" "bytearray.__len__" :=
  .of (owner := "bytearray") (n := "__len__") (by rw [typeLookup_type, builtinLookup_eq_fast]; kernel_rfl) (by decide +kernel) (by decide +kernel) (by decide +kernel)
    (by first | exact .inl (by decide +kernel) | exact .inr (by decide +kernel)) (by rw [isSubtype_type]; kernel_rfl)
theorem entry_len' : entryFor table "bytearray.__len__" = some Builtin.«bytearray.__len__» := by first | exact entryFor_of_tree (by kernel_rfl) | exact entryFor_of_fast (by kernel_rfl)
theorem args_len (a : Value) : argsOk "bytearray.__len__" ⟨[a], []⟩ := by unfold argsOk; kernel_rfl
section
variable {prog : Program} {w : World} {A : Around} {E : Value → Shared → Prop} {s : Shared}
theorem len_0 {h₀ : Heap} {L a : Addr} {news : List (Addr × Obj)} {Q : Value → Shared → Prop} (N : News h₀ L s.heap news) (hm : (a, fresh) ∈ news)
    (h : Q (.int 0 (s.toks + 1)) { s with toks := s.toks + 1 + 1 }) : wpAny (model prog w) A (call (.builtin "len") [.ref a]) Q E s := by
  have ho : s.heap.get? a = some fresh := (N _ hm).1
  have hT : s.TypeIs (.ref a) "bytearray" := ⟨_, ho, rfl⟩
  refine call_function_entry kind_len plain_len entry_len (args_len1 _) ?_
  unfold Builtin.«len»
  refine wpAny_bind (m := oneArg "len" _) (wpAny_pure ?_)
  refine wpAny_bind (m := callSpecial? (.ref a) (Str.ofString "__len__")) (wpAny_callSpecial?_slot (name := Str.ofString "__len__") hT slot_len
    (wpAny_call_entry slot_len hT entry_len' ?_ (args_len _)))
  unfold Builtin.«bytearray.__len__»
  refine wpAny_bind (wpAny_of_eq (a := (.ref a, [])) (by kernel_rfl) ?_)
  dsimp only
  refine wpAny_bind ?_
  unfold Builtin.Bytes.payload Builtin.Bytes.payload?
  refine wpAny_bind (wpAny_bind (wpAny_load ho ?_))
  dsimp only
  refine wpAny_pure (wpAny_pure ?_)
  refine (wpAny_bind (wpAny_mkInt (wpAny_pure ⟨_, rfl, ?_⟩)))
  refine wpAny_bind (wpAny_holding (wpAny_pure ?_))
  refine wpAny_bind (wpAny_letGo ?_)
  dsimp only
  rw [if_neg (by decide), if_neg (by decide)]
  exact wpAny_bind (wpAny_mkInt (wpAny_pure ⟨_, rfl, h⟩))
end
end Mine.BA
end
section
set_option maxHeartbeats 8000000
open PySem PySem.W PyProof.Rows Mine.H
namespace Mine
abbrev Led := List (Addr × Obj)
def Ctr (w : World) (f : Addr) (d : Nat) (news : Led) (vs : List Value) (Ret : (Value → Led → Prop) → Prop) : Prop :=
  ∀ (mean : ExcName → Option Value) (mg mb : Str → Option Value) (dp un : Nat) (gd : Option (List Code)) (cn : Str) (cs : Scope) (a : Addr) (ccd : Value) (cl : List (Str × Addr)) (outer : List Env) (A₀ : Around) (base h₀ : Heap) (L : Addr) (m : Str → Option Value) (s : Shared) (Q E : Value → Shared → Prop),
  Below A₀ base outer h₀ → Fr h₀ L s.heap m → (K w.params).In h₀ → News h₀ L s.heap news →
  Top q (looseW q loose) mean mg mb h₀ → cs.kind = .function → dp + d < recursionLimit → un + 8 * d < cLine →
  Ret (fun v news' => ∀ h' tk', Fr h₀ L h' m → News h₀ L h' news' → Q v { s with heap := h', toks := tk' }) →
  wpAny (model PySem.Challenge.rw_xw0350_01.row.prog w) (ktrTop dp un gd cn cs L a ccd cl outer) (call (.ref f) vs) Q E s
local macro_rules | `(tactic| k_room) => `(tactic| ktr_room)
local macro_rules | `(tactic| k_units) => `(tactic| ktr_units)
theorem c_plus (w : World) (news : Led) (x n ring : Int) (t1 t2 t3 : Tok) (hr : 0 < ring) :
    Ctr w 28 1 news [.int x t1, .int n t2, .int ring t3] (fun k => ∀ t, k (.int ((x + n).fmod ring) t) news) := by
  unfold Ctr
  k_fill
  intro mean mg mb dp un gd cn cs a ccd cl outer A₀ base h₀ L m s Q E B F X N T hk hd hu hret
  refine wpAny_call ?_
  k_dflt (refine' code_def (binds := [("a", .int x t1), ("n", .int n t2), ("ring", .int ring t3)]) ?k1 ?k2 ?k3 ?k4 ?k5 ?kA ?kF ?kK ?k6 ?k7 ?k8 ?k9 ?kB ?_ ?c2 ?c3 ?c4 ?c5; (case kA => exact rfl); (case kF => exact rfl); (case kK => assumption); (case k1 => k_asm); (case k2 => k_asm); (case k3 => k_asm); (case k4 => k_asm); (case k5 => k_asm); (case k6 => k_is); (case k7 => k_is); (case k8 => ktr_room); (case k9 => exact BindsTo.of_eq rfl); (case c5 => decide); (case kB => exact locs rfl); (case c2 => exact rfl); (case c3 => exact rfl); (case c4 => exact rfl); k_whole; intro g' L' h' FG' F' N' B' X' T'; (try dsimp only); (try k_lift B'); (try k_fold))
  trace_state
  k_steps
  all_goals exact hret _ _ _ (by k_asm) (by k_asm)
end Mine
end
section
set_option maxHeartbeats 8000000
open PySem PySem.W PyProof.Rows Mine.H
namespace Mine
local macro_rules | `(tactic| k_room) => `(tactic| ktr_room)
local macro_rules | `(tactic| k_units) => `(tactic| ktr_units)

abbrev En (w : World) (x : Str) (k : Nat) (v : Value) : DictEntry := ⟨PyData.keyHash w.params x, .str x k, v⟩
theorem dropN {h₀ h : Heap} {L : Addr} {p : Addr × Obj} {news : Led} (N : News h₀ L h (p :: news)) : News h₀ L h news := fun q hq => N q (List.mem_cons_of_mem _ hq)
theorem Ctr.use {w : World} {f : Addr} {d : Nat} {news : Led} {vs : List Value} {Ret : (Value → Led → Prop) → Prop} (C : Ctr w f d news vs Ret)
    {mean : ExcName → Option Value} {mg mb : Str → Option Value} {dp un : Nat} {gd : Option (List Code)} {cn : Str} {cs : Scope} {a : Addr} {ccd : Value} {cl : List (Str × Addr)} {outer : List Env} {A₀ : Around} {base h₀ : Heap} {L : Addr} {m : Str → Option Value} {s : Shared} {Q E : Value → Shared → Prop}
    (B : Below A₀ base outer h₀) (F : Fr h₀ L s.heap m) (X : (K w.params).In h₀) (N : News h₀ L s.heap news) (T : Top q (looseW q loose) mean mg mb h₀) (hk : cs.kind = .function) (hd : dp + d < recursionLimit) (hu : un + 8 * d < cLine)
    (h : Ret (fun v news' => ∀ h' tk', Fr h₀ L h' m → News h₀ L h' news' → Q v { s with heap := h', toks := tk' })) :
    wpAny (model PySem.Challenge.rw_xw0350_01.row.prog w) (ktrTop dp un gd cn cs L a ccd cl outer) (call (.ref f) vs) Q E s :=
  C mean mg mb dp un gd cn cs a ccd cl outer A₀ base h₀ L m s Q E B F X N T hk hd hu h

theorem Ctr.go {w : World} {f : Addr} {d : Nat} {news : Led} {vs : List Value} {Ret : (Value → Led → Prop) → Prop} (C : Ctr w f d news vs Ret)
    {mean : ExcName → Option Value} {mg mb : Str → Option Value} {dp un : Nat} {gd : Option (List Code)} {cn : Str} {cs : Scope} {a : Addr} {ccd : Value} {cl : List (Str × Addr)} {outer : List Env} {A₀ : Around} {base h₀ : Heap} {L : Addr} {m : Str → Option Value} {s : Shared} {Q E : Value → Shared → Prop}
    (h : Ret (fun v news' => ∀ h' tk', Fr h₀ L h' m → News h₀ L h' news' → Q v { s with heap := h', toks := tk' }))
    (B : Below A₀ base outer h₀ := by k_asm) (F : Fr h₀ L s.heap m := by k_asm) (X : (K w.params).In h₀ := by k_asm) (N : News h₀ L s.heap news := by k_asm) (T : Top q (looseW q loose) mean mg mb h₀ := by k_asm)
    (hk : cs.kind = .function := by first | exact rfl | assumption) (hd : dp + d < recursionLimit := by ktr_room)
    (hu : un + 8 * d < cLine := by first | ktr_units | ((try simp only [units_under_make, units_in1, units_deeper, Around.mark_units, units_caller]); (try dsimp only [ktrTop]); omega)) :
    wpAny (model PySem.Challenge.rw_xw0350_01.row.prog w) (ktrTop dp un gd cn cs L a ccd cl outer) (call (.ref f) vs) Q E s := C.use B F X N T hk hd hu h

theorem c_distance (w : World) (news : Led) (a1 b1 ring : Int) (t1 t2 t3 : Tok) (hr : 0 < ring) :
    Ctr w 35 1 (news) [.int a1 t1, .int b1 t2, .int ring t3] (fun k => ∀ t, k (.int ((b1 - a1).fmod ring) t) news) := by
  unfold Ctr
  k_fill
  intro mean mg mb dp un gd cn cs a ccd cl outer A₀ base h₀ L m s Q E B F X N T hk hd hu hret
  refine wpAny_call ?_
  k_dflt (refine' code_def (binds := [("a", .int a1 t1), ("b", .int b1 t2), ("ring", .int ring t3)]) ?k1 ?k2 ?k3 ?k4 ?k5 ?kA ?kF ?kK ?k6 ?k7 ?k8 ?k9 ?kB ?_ ?c2 ?c3 ?c4 ?c5; (case kA => exact rfl); (case kF => exact rfl); (case kK => assumption); (case k1 => k_asm); (case k2 => k_asm); (case k3 => k_asm); (case k4 => k_asm); (case k5 => k_asm); (case k6 => k_is); (case k7 => k_is); (case k8 => ktr_room); (case k9 => exact BindsTo.of_eq rfl); (case c5 => decide); (case kB => exact locs rfl); (case c2 => exact rfl); (case c3 => exact rfl); (case c4 => exact rfl); k_whole; intro g1 L1 h1 FG1 F1 N1 B1 X1 T1; (try dsimp only); (try k_lift B1); (try k_fold))
  k_steps
  all_goals exact hret _ _ _ (by k_asm) (by k_asm)

local macro_rules | `(tactic| walk_at "call ref") => `(tactic| (k_here; (with_reducible show wpAny _ _ (call (Value.ref 35) _) _ _ _); k_dflt (refine' Ctr.go (c_distance _ _ _ _ _ _ _ _ ?hr) ?_; (case hr => first | assumption | omega); k_whole); (iterate 5 (intro _)); (try k_sweep); (try dsimp only)))

local macro_rules | `(tactic| walk_at "call ref") => `(tactic| (k_here; (with_reducible show wpAny _ _ (call (Value.ref 28) _) _ _ _); k_dflt (refine' Ctr.go (c_plus _ _ _ _ _ _ _ _ ?hr) ?_; (case hr => first | assumption | omega); k_whole); (iterate 5 (intro _)); (try k_sweep); (try dsimp only)))

theorem c_before (w : World) (news : Led) (a1 b1 ring : Int) (t1 t2 t3 : Tok) (hr : 0 < ring) :
    Ctr w 42 3 (news) [.int a1 t1, .int b1 t2, .int ring t3] (fun k => ∀ b, b = decide (0 < (b1 - a1).fmod ring ∧ 2 * (b1 - a1).fmod ring < ring) → k (.bool b) news) := by
  unfold Ctr
  k_fill
  intro mean mg mb dp un gd cn cs a ccd cl outer A₀ base h₀ L m s Q E B F X N T hk hd hu hret
  refine wpAny_call ?_
  k_dflt (refine' code_def (binds := [("a", .int a1 t1), ("b", .int b1 t2), ("ring", .int ring t3)]) ?k1 ?k2 ?k3 ?k4 ?k5 ?kA ?kF ?kK ?k6 ?k7 ?k8 ?k9 ?kB ?_ ?c2 ?c3 ?c4 ?c5; (case kA => exact rfl); (case kF => exact rfl); (case kK => assumption); (case k1 => k_asm); (case k2 => k_asm); (case k3 => k_asm); (case k4 => k_asm); (case k5 => k_asm); (case k6 => k_is); (case k7 => k_is); (case k8 => ktr_room); (case k9 => exact BindsTo.of_eq rfl); (case c5 => decide); (case kB => exact locs rfl); (case c2 => exact rfl); (case c3 => exact rfl); (case c4 => exact rfl); k_whole; intro g1 L1 h1 FG1 F1 N1 B1 X1 T1; (try dsimp only); (try k_lift B1); (try k_fold))
  k_steps
  all_goals exact hret _ (by first | (rw [eq_comm, decide_eq_false_iff_not]; omega) | (rw [decide_eq_decide]; constructor <;> intros <;> first | omega | (constructor <;> omega))) _ _ (by k_asm) (by k_asm)

theorem c_limits (w : World) (news : Led) (ring own room : Int) (t1 t2 t3 t4 t5 t6 t7 t8 t9 t10 : Tok) :
    Ctr w 1067 2 (news) [.int ring t1, .int own t2, .int 20 t3, .int room t4, .int 6 t5, .int 4 t6, .int 24 t7, .int 3 t8, .int 2 t9, .int 12 t10] (fun k => ∀ (x d q1 q2 q3 q4 q5 q6 q7 q8 q9 q10 : Nat), d < x → (∀ p ∈ news, p.1 < d) → k (.ref x) ((x, instObj 1067 d) :: (d, dictOf [En w "ring" q1 (.int ring t1), En w "mss" q2 (.int own t2), En w "send_room" q3 (.int 20 t3), En w "receive_room" q4 (.int room t4), En w "first_timeout" q5 (.int 6 t5), En w "least_timeout" q6 (.int 4 t6), En w "most_timeout" q7 (.int 24 t7), En w "most_tries" q8 (.int 3 t8), En w "ack_delay" q9 (.int 2 t9), En w "time_wait" q10 (.int 12 t10)] 10) :: news)) := by
  unfold Ctr
  k_fill
  intro mean mg mb dp un gd cn cs a ccd cl outer A₀ base h₀ L m s Q E B F X N T hk hd hu hret
  k_dflt (refine' call_cls ?k1 ?k2 ?k3 ?k4 ?k5 ?k6 ?_; (case k1 => k_asm); (case k2 => k_asm); (case k3 => k_asm); (case k4 => k_is); (case k5 => k_is); (case k6 => k_is); k_whole; intro x1 d1 h1 F1 N1 l1 l2; (try k_lt l1); (try k_lt2 l2); (try k_sweep))
  k_dflt (refine' code_def (binds := [("self", .ref x1), ("ring", .int ring t1), ("mss", .int own t2), ("send_room", .int 20 t3), ("receive_room", .int room t4), ("first_timeout", .int 6 t5), ("least_timeout", .int 4 t6), ("most_timeout", .int 24 t7), ("most_tries", .int 3 t8), ("ack_delay", .int 2 t9), ("time_wait", .int 12 t10)]) ?k1 ?k2 ?k3 ?k4 ?k5 ?kA ?kF ?kK ?k6 ?k7 ?k8 ?k9 ?kB ?_ ?c2 ?c3 ?c4 ?c5; (case kA => exact rfl); (case kF => exact rfl); (case kK => assumption); (case k1 => k_asm); (case k2 => k_asm); (case k3 => k_asm); (case k4 => k_asm); (case k5 => k_asm); (case k6 => k_is); (case k7 => k_is); (case k8 => ktr_room); (case k9 => exact BindsTo.of_eq rfl); (case c5 => decide); (case kB => exact locs rfl); (case c2 => exact rfl); (case c3 => exact rfl); (case c4 => exact rfl); k_whole; intro g1 L1 h1 FG1 F1 N1 B1 X1 T1; (try dsimp only); (try k_lift B1); (try k_fold))
  k_steps
  all_goals exact hret _ _ _ _ _ _ _ _ _ _ _ _ l2 l1 _ _ (by k_asm) (by k_asm)


end Mine
end
section
set_option maxHeartbeats 8000000
open PySem PySem.W PyProof.Rows Mine.H
namespace Mine
local macro_rules | `(tactic| k_room) => `(tactic| ktr_room)
local macro_rules | `(tactic| k_units) => `(tactic| ktr_units)

theorem c_peer (w : World) (news : Led) (ring : Int) (t1 : Tok) :
    Ctr w 788 2 (news) [.int ring t1] (fun k => ∀ (x d q1 q2 q3 q4 q5 z1 z2 z3 : Nat), d < x → (∀ p ∈ news, p.1 < d) → k (.ref x) ((x, instObj 788 d) :: (d, dictOf [En w "ring" q1 (.int ring t1), En w "size" q2 (.int 0 z1), En w "most" q3 (.int 0 z2), En w "told_seq" q4 .none, En w "told_ack" q5 (.int 0 z3)] 5) :: news)) := by
  unfold Ctr
  k_fill
  intro mean mg mb dp un gd cn cs a ccd cl outer A₀ base h₀ L m s Q E B F X N T hk hd hu hret
  k_dflt (refine' call_cls ?k1 ?k2 ?k3 ?k4 ?k5 ?k6 ?_; (case k1 => k_asm); (case k2 => k_asm); (case k3 => k_asm); (case k4 => k_is); (case k5 => k_is); (case k6 => k_is); k_whole; intro x1 d1 h1 F1 N1 l1 l2; (try k_lt l1); (try k_lt2 l2); (try k_sweep))
  k_dflt (refine' code_def (binds := [("self", .ref x1), ("ring", .int ring t1)]) ?k1 ?k2 ?k3 ?k4 ?k5 ?kA ?kF ?kK ?k6 ?k7 ?k8 ?k9 ?kB ?_ ?c2 ?c3 ?c4 ?c5; (case kA => exact rfl); (case kF => exact rfl); (case kK => assumption); (case k1 => k_asm); (case k2 => k_asm); (case k3 => k_asm); (case k4 => k_asm); (case k5 => k_asm); (case k6 => k_is); (case k7 => k_is); (case k8 => ktr_room); (case k9 => exact BindsTo.of_eq rfl); (case c5 => decide); (case kB => exact locs rfl); (case c2 => exact rfl); (case c3 => exact rfl); (case c4 => exact rfl); k_whole; intro g1 L1 h1 FG1 F1 N1 B1 X1 T1; (try dsimp only); (try k_lift B1); (try k_fold))
  k_steps
  all_goals exact hret _ _ _ _ _ _ _ _ _ _ l2 l1 _ _ (by k_asm) (by k_asm)

theorem c_queue (w : World) (news : Led) (t1 : Tok) :
    Ctr w 746 2 (news) [.int 20 t1] (fun k => ∀ x, k (.ref x) news) := by
  unfold Ctr
  k_fill
  intro mean mg mb dp un gd cn cs a ccd cl outer A₀ base h₀ L m s Q E B F X N T hk hd hu hret
  k_dflt (refine' call_cls ?k1 ?k2 ?k3 ?k4 ?k5 ?k6 ?_; (case k1 => k_asm); (case k2 => k_asm); (case k3 => k_asm); (case k4 => k_is); (case k5 => k_is); (case k6 => k_is); k_whole; intro x1 d1 h1 F1 N1 l1 l2; (try k_lt l1); (try k_lt2 l2); (try k_sweep))
  k_dflt (refine' code_def (binds := [("self", .ref x1), ("room", .int 20 t1)]) ?k1 ?k2 ?k3 ?k4 ?k5 ?kA ?kF ?kK ?k6 ?k7 ?k8 ?k9 ?kB ?_ ?c2 ?c3 ?c4 ?c5; (case kA => exact rfl); (case kF => exact rfl); (case kK => assumption); (case k1 => k_asm); (case k2 => k_asm); (case k3 => k_asm); (case k4 => k_asm); (case k5 => k_asm); (case k6 => k_is); (case k7 => k_is); (case k8 => ktr_room); (case k9 => exact BindsTo.of_eq rfl); (case c5 => decide); (case kB => exact locs rfl); (case c2 => exact rfl); (case c3 => exact rfl); (case c4 => exact rfl); k_whole; intro g1 L1 h1 FG1 F1 N1 B1 X1 T1; (try dsimp only); (try k_lift B1); (try k_fold))
  k_steps
  all_goals exact hret _ _ _ (by k_asm) (dropN (dropN (by k_asm)))

theorem c_rtt (w : World) (news : Led) (t1 t2 t3 : Tok) :
    Ctr w 690 2 (news) [.int 6 t1, .int 4 t2, .int 24 t3] (fun k => ∀ x, k (.ref x) news) := by
  unfold Ctr
  k_fill
  intro mean mg mb dp un gd cn cs a ccd cl outer A₀ base h₀ L m s Q E B F X N T hk hd hu hret
  k_dflt (refine' call_cls ?k1 ?k2 ?k3 ?k4 ?k5 ?k6 ?_; (case k1 => k_asm); (case k2 => k_asm); (case k3 => k_asm); (case k4 => k_is); (case k5 => k_is); (case k6 => k_is); k_whole; intro x1 d1 h1 F1 N1 l1 l2; (try k_lt l1); (try k_lt2 l2); (try k_sweep))
  k_dflt (refine' code_def (binds := [("self", .ref x1), ("first", .int 6 t1), ("least", .int 4 t2), ("most", .int 24 t3)]) ?k1 ?k2 ?k3 ?k4 ?k5 ?kA ?kF ?kK ?k6 ?k7 ?k8 ?k9 ?kB ?_ ?c2 ?c3 ?c4 ?c5; (case kA => exact rfl); (case kF => exact rfl); (case kK => assumption); (case k1 => k_asm); (case k2 => k_asm); (case k3 => k_asm); (case k4 => k_asm); (case k5 => k_asm); (case k6 => k_is); (case k7 => k_is); (case k8 => ktr_room); (case k9 => exact BindsTo.of_eq rfl); (case c5 => decide); (case kB => exact locs rfl); (case c2 => exact rfl); (case c3 => exact rfl); (case c4 => exact rfl); k_whole; intro g1 L1 h1 FG1 F1 N1 B1 X1 T1; (try dsimp only); (try k_lift B1); (try k_fold))
  k_steps
  all_goals exact hret _ _ _ (by k_asm) (dropN (dropN (by k_asm)))

theorem c_clock (w : World) (news : Led) (e : Nat) (t1 : Tok) :
    Ctr w 634 2 (news) [.ref e, .int 3 t1] (fun k => ∀ x, k (.ref x) news) := by
  unfold Ctr
  k_fill
  intro mean mg mb dp un gd cn cs a ccd cl outer A₀ base h₀ L m s Q E B F X N T hk hd hu hret
  k_dflt (refine' call_cls ?k1 ?k2 ?k3 ?k4 ?k5 ?k6 ?_; (case k1 => k_asm); (case k2 => k_asm); (case k3 => k_asm); (case k4 => k_is); (case k5 => k_is); (case k6 => k_is); k_whole; intro x1 d1 h1 F1 N1 l1 l2; (try k_lt l1); (try k_lt2 l2); (try k_sweep))
  k_dflt (refine' code_def (binds := [("self", .ref x1), ("estimate", .ref e), ("most_tries", .int 3 t1)]) ?k1 ?k2 ?k3 ?k4 ?k5 ?kA ?kF ?kK ?k6 ?k7 ?k8 ?k9 ?kB ?_ ?c2 ?c3 ?c4 ?c5; (case kA => exact rfl); (case kF => exact rfl); (case kK => assumption); (case k1 => k_asm); (case k2 => k_asm); (case k3 => k_asm); (case k4 => k_asm); (case k5 => k_asm); (case k6 => k_is); (case k7 => k_is); (case k8 => ktr_room); (case k9 => exact BindsTo.of_eq rfl); (case c5 => decide); (case kB => exact locs rfl); (case c2 => exact rfl); (case c3 => exact rfl); (case c4 => exact rfl); k_whole; intro g1 L1 h1 FG1 F1 N1 B1 X1 T1; (try dsimp only); (try k_lift B1); (try k_fold))
  k_steps
  all_goals exact hret _ _ _ (by k_asm) (dropN (dropN (by k_asm)))

theorem c_acks (w : World) (news : Led) (t1 : Tok) :
    Ctr w 466 2 (news) [.int 2 t1] (fun k => ∀ x, k (.ref x) news) := by
  unfold Ctr
  k_fill
  intro mean mg mb dp un gd cn cs a ccd cl outer A₀ base h₀ L m s Q E B F X N T hk hd hu hret
  k_dflt (refine' call_cls ?k1 ?k2 ?k3 ?k4 ?k5 ?k6 ?_; (case k1 => k_asm); (case k2 => k_asm); (case k3 => k_asm); (case k4 => k_is); (case k5 => k_is); (case k6 => k_is); k_whole; intro x1 d1 h1 F1 N1 l1 l2; (try k_lt l1); (try k_lt2 l2); (try k_sweep))
  k_dflt (refine' code_def (binds := [("self", .ref x1), ("delay", .int 2 t1)]) ?k1 ?k2 ?k3 ?k4 ?k5 ?kA ?kF ?kK ?k6 ?k7 ?k8 ?k9 ?kB ?_ ?c2 ?c3 ?c4 ?c5; (case kA => exact rfl); (case kF => exact rfl); (case kK => assumption); (case k1 => k_asm); (case k2 => k_asm); (case k3 => k_asm); (case k4 => k_asm); (case k5 => k_asm); (case k6 => k_is); (case k7 => k_is); (case k8 => ktr_room); (case k9 => exact BindsTo.of_eq rfl); (case c5 => decide); (case kB => exact locs rfl); (case c2 => exact rfl); (case c3 => exact rfl); (case c4 => exact rfl); k_whole; intro g1 L1 h1 FG1 F1 N1 B1 X1 T1; (try dsimp only); (try k_lift B1); (try k_fold))
  k_steps
  all_goals exact hret _ _ _ (by k_asm) (dropN (dropN (by k_asm)))

theorem c_cong (w : World) (news : Led) (mss first most : Int) (t1 t2 t3 : Tok) :
    Ctr w 557 2 (news) [.int mss t1, .int first t2, .int most t3] (fun k => ∀ (x d q1 q2 q3 q4 q5 q6 q7 q8 z1 z2 : Nat), d < x → (∀ p ∈ news, p.1 < d) → k (.ref x) ((x, instObj 557 d) :: (d, dictOf [En w "mss" q1 (.int mss t1), En w "most" q2 (.int most t3), En w "size" q3 (.int first t2), En w "threshold" q4 (.int most t3), En w "gathered" q5 (.int 0 z1), En w "duplicates" q6 (.int 0 z2), En w "is_recovering" q7 (.bool false), En w "is_cautious" q8 (.bool false)] 8) :: news)) := by
  unfold Ctr
  k_fill
  intro mean mg mb dp un gd cn cs a ccd cl outer A₀ base h₀ L m s Q E B F X N T hk hd hu hret
  k_dflt (refine' call_cls ?k1 ?k2 ?k3 ?k4 ?k5 ?k6 ?_; (case k1 => k_asm); (case k2 => k_asm); (case k3 => k_asm); (case k4 => k_is); (case k5 => k_is); (case k6 => k_is); k_whole; intro x1 d1 h1 F1 N1 l1 l2; (try k_lt l1); (try k_lt2 l2); (try k_sweep))
  k_dflt (refine' code_def (binds := [("self", .ref x1), ("mss", .int mss t1), ("first", .int first t2), ("most", .int most t3)]) ?k1 ?k2 ?k3 ?k4 ?k5 ?kA ?kF ?kK ?k6 ?k7 ?k8 ?k9 ?kB ?_ ?c2 ?c3 ?c4 ?c5; (case kA => exact rfl); (case kF => exact rfl); (case kK => assumption); (case k1 => k_asm); (case k2 => k_asm); (case k3 => k_asm); (case k4 => k_asm); (case k5 => k_asm); (case k6 => k_is); (case k7 => k_is); (case k8 => ktr_room); (case k9 => exact BindsTo.of_eq rfl); (case c5 => decide); (case kB => exact locs rfl); (case c2 => exact rfl); (case c3 => exact rfl); (case c4 => exact rfl); k_whole; intro g1 L1 h1 FG1 F1 N1 B1 X1 T1; (try dsimp only); (try k_lift B1); (try k_fold))
  k_steps
  all_goals exact hret _ _ _ _ _ _ _ _ _ _ _ _ l2 l1 _ _ (by k_asm) (by k_asm)

end Mine
end
section
set_option maxHeartbeats 8000000
open PySem PySem.W PyProof.Rows Mine.H
namespace Mine
local macro_rules | `(tactic| k_room) => `(tactic| ktr_room)
local macro_rules | `(tactic| k_units) => `(tactic| ktr_units)

theorem rest_nil {prog : Program} {w : World} {A : Around} {h₀ : Heap} {L : Addr} {m : Str → Option Value} {env : Env} {lp : Pos} {x : Str} {scope : Scope} {cl : List (Str × Addr)} {s : Shared} {S : Led → Prop} {P : Nat → Value → Prop}
    {Fin : List Value → Led → Prop} {news : Led} (hS : S news) (fin : ∀ ys, Fin ys news) : ∀ k i ys, LCg.CompRest prog w A h₀ L m env (.List [] lp) x scope cl s S P Fin k i ys news
  | 0, _, _ => LCg.CompRest.zero (fin _)
  | k + 1, i, ys => LCg.CompRest.succ fun v I oI C oC D m₂ h tk E' _ _ _ F N off _ =>
    List_ (wpAny_pure (newList_N F N (fun h' F' N' => ⟨h', tk, news, rfl, F', dropN N', off, hS, rest_nil hS fin k (i + 1) _⟩) (by decide)))

local macro_rules | `(tactic| walk_at "CompSrc") => `(tactic| (k_here; k_dflt (refine LCg.CompSrc.range (by rfl) (by k_asm) (by k_asm) (by assumption) (by first | exact small_one (by kcf_bnd) (by kcf_bnd) (by kcf_bnd) (by kcf_bnd) | decide) (by first | exact rangeSize_nat _ _ | rfl) (by first | exact Nat.le_of_ble_eq_true rfl | size_fits) ?_; intro _; refine rest_nil trivial (fun ys9 => ?_) _ _ _)))

theorem c_wheel (w : World) (news : Led)  :
    Ctr w 1046 4 (news) [] (fun k => ∀ x, k (.ref x) news) := by
  unfold Ctr
  k_fill
  intro mean mg mb dp un gd cn cs a ccd cl outer A₀ base h₀ L m s Q E B F X N T hk hd hu hret
  k_dflt (refine' call_cls ?k1 ?k2 ?k3 ?k4 ?k5 ?k6 ?_; (case k1 => k_asm); (case k2 => k_asm); (case k3 => k_asm); (case k4 => k_is); (case k5 => k_is); (case k6 => k_is); k_whole; intro x1 d1 h1 F1 N1 l1 l2; (try k_lt l1); (try k_lt2 l2); (try k_sweep))
  k_dflt (refine' code_def (binds := [("self", .ref x1), ("size", .int 16 1525)]) ?k1 ?k2 ?k3 ?k4 ?k5 ?kA ?kF ?kK ?k6 ?k7 ?k8 ?k9 ?kB ?_ ?c2 ?c3 ?c4 ?c5; (case kA => exact rfl); (case kF => exact rfl); (case kK => assumption); (case k1 => k_asm); (case k2 => k_asm); (case k3 => k_asm); (case k4 => k_asm); (case k5 => k_asm); (case k6 => k_is); (case k7 => k_is); (case k8 => ktr_room); (case k9 => first | exact BindsTo.of_eq rfl | exact binds_K (by k_in) rfl (by k_is) rfl rfl rfl); (case c5 => decide); (case kB => exact locs rfl); (case c2 => exact rfl); (case c3 => exact rfl); (case c4 => exact rfl); k_whole; intro g1 L1 h1 FG1 F1 N1 B1 X1 T1; (try dsimp only); (try k_lift B1); (try k_fold))
  k_steps
  all_goals exact hret _ _ _ (by k_asm) (dropN (dropN (dropN (dropN (dropN (by k_asm))))))

end Mine
end
section
set_option maxHeartbeats 8000000
open PySem PySem.W PyProof.Rows Mine.H
namespace Mine
local macro_rules | `(tactic| k_room) => `(tactic| ktr_room)
local macro_rules | `(tactic| k_units) => `(tactic| ktr_units)

local macro_rules | `(tactic| walk_at "call ref") => `(tactic| (k_here; (with_reducible show wpAny _ _ (call (Value.ref 788) _) _ _ _); k_dflt (refine' Ctr.go (c_peer _ _ _ _) ?_; k_whole); (iterate 10 (intro _)); intro l9 e9; (iterate 4 (intro _)); (try k_lt2 l9); (try k_lt e9); (try k_sweep); (try dsimp only)))

local macro_rules | `(tactic| walk_at "call ref") => `(tactic| (k_here; (with_reducible show wpAny _ _ (call (Value.ref 746) _) _ _ _); k_dflt (refine' Ctr.go (c_queue _ _ _) ?_; k_whole); (iterate 5 (intro _)); (try k_sweep); (try dsimp only)))

local macro_rules | `(tactic| walk_at "call ref") => `(tactic| (k_here; (with_reducible show wpAny _ _ (call (Value.ref 690) _) _ _ _); k_dflt (refine' Ctr.go (c_rtt _ _ _ _ _) ?_; k_whole); (iterate 5 (intro _)); (try k_sweep); (try dsimp only)))

local macro_rules | `(tactic| walk_at "call ref") => `(tactic| (k_here; (with_reducible show wpAny _ _ (call (Value.ref 634) _) _ _ _); k_dflt (refine' Ctr.go (c_clock _ _ _ _) ?_; k_whole); (iterate 5 (intro _)); (try k_sweep); (try dsimp only)))

theorem c_sender (w : World) (news : Led) (iss ring mss : Int) (t1 t2 t3 t4 : Tok) :
    Ctr w 979 5 (news) [.int iss t1, .int ring t2, .int mss t3, .int 20 t4] (fun k => ∀ (x d px pd qx q1 q2 q3 q4 q5 q6 q7 q8 q9 q10 q11 pq1 pq2 pq3 pq4 pq5 pz1 pz2 pz3 : Nat), d < x → x < pd → pd < px → (∀ p ∈ news, p.1 < d) → k (.ref x) ((px, instObj 788 pd) :: (pd, dictOf [En w "ring" pq1 (.int ring t2), En w "size" pq2 (.int 0 pz1), En w "most" pq3 (.int 0 pz2), En w "told_seq" pq4 .none, En w "told_ack" pq5 (.int 0 pz3)] 5) :: (x, instObj 979 d) :: (d, dictOf [En w "iss" q1 (.int iss t1), En w "ring" q2 (.int ring t2), En w "mss" q3 (.int mss t3), En w "una" q4 (.int iss t1), En w "next" q5 (.int iss t1), En w "greatest" q6 (.int iss t1), En w "peer" q7 (.ref px), En w "queue" q8 (.ref qx), En w "syn_pending" q9 (.bool true), En w "fin_asked" q10 (.bool false), En w "fin_sent" q11 (.bool false)] 11) :: news)) := by
  unfold Ctr
  k_fill
  intro mean mg mb dp un gd cn cs a ccd cl outer A₀ base h₀ L m s Q E B F X N T hk hd hu hret
  k_dflt (refine' call_cls ?k1 ?k2 ?k3 ?k4 ?k5 ?k6 ?_; (case k1 => k_asm); (case k2 => k_asm); (case k3 => k_asm); (case k4 => k_is); (case k5 => k_is); (case k6 => k_is); k_whole; intro x1 d1 h1 F1 N1 l1 l2; (try k_lt l1); (try k_lt2 l2); (try k_sweep))
  k_dflt (refine' code_def (binds := [("self", .ref x1), ("iss", .int iss t1), ("ring", .int ring t2), ("mss", .int mss t3), ("room", .int 20 t4)]) ?k1 ?k2 ?k3 ?k4 ?k5 ?kA ?kF ?kK ?k6 ?k7 ?k8 ?k9 ?kB ?_ ?c2 ?c3 ?c4 ?c5; (case kA => exact rfl); (case kF => exact rfl); (case kK => assumption); (case k1 => k_asm); (case k2 => k_asm); (case k3 => k_asm); (case k4 => k_asm); (case k5 => k_asm); (case k6 => k_is); (case k7 => k_is); (case k8 => ktr_room); (case k9 => exact BindsTo.of_eq rfl); (case c5 => decide); (case kB => exact locs rfl); (case c2 => exact rfl); (case c3 => exact rfl); (case c4 => exact rfl); k_whole; intro g1 L1 h1 FG1 F1 N1 B1 X1 T1; (try dsimp only); (try k_lift B1); (try k_fold))
  k_steps
  all_goals (refine' hret _ _ _ _ _ _ _ _ _ _ _ _ _ _ _ _ _ _ _ _ _ _ _ _ ?o1 ?o2 ?o3 l1 _ _ ?F9 ?N9; (case F9 => k_asm); (case N9 => k_asm); (case o1 => omega); (case o2 => omega); (case o3 => omega))

theorem c_clockof {w : World} {news : Led} {lx ld q1 q2 q3 q4 q5 q6 q7 q8 q9 q10 : Nat} {ring own room : Int} {t1 t2 t3 t4 t5 t6 t7 t8 t9 t10 : Tok} (hm1 : (lx, instObj 1067 ld) ∈ news) (hm2 : (ld, dictOf [En w "ring" q1 (.int ring t1), En w "mss" q2 (.int own t2), En w "send_room" q3 (.int 20 t3), En w "receive_room" q4 (.int room t4), En w "first_timeout" q5 (.int 6 t5), En w "least_timeout" q6 (.int 4 t6), En w "most_timeout" q7 (.int 24 t7), En w "most_tries" q8 (.int 3 t8), En w "ack_delay" q9 (.int 2 t9), En w "time_wait" q10 (.int 12 t10)] 10) ∈ news) :
    Ctr w 1078 5 (news) [.ref lx] (fun k => ∀ x, k (.ref x) news) := by
  unfold Ctr
  k_fill
  intro mean mg mb dp un gd cn cs a ccd cl outer A₀ base h₀ L m s Q E B F X N T hk hd hu hret
  refine wpAny_call ?_
  k_dflt (refine' code_def (binds := [("limits", .ref lx)]) ?k1 ?k2 ?k3 ?k4 ?k5 ?kA ?kF ?kK ?k6 ?k7 ?k8 ?k9 ?kB ?_ ?c2 ?c3 ?c4 ?c5; (case kA => exact rfl); (case kF => exact rfl); (case kK => assumption); (case k1 => k_asm); (case k2 => k_asm); (case k3 => k_asm); (case k4 => k_asm); (case k5 => k_asm); (case k6 => k_is); (case k7 => k_is); (case k8 => ktr_room); (case k9 => exact BindsTo.of_eq rfl); (case c5 => decide); (case kB => exact locs rfl); (case c2 => exact rfl); (case c3 => exact rfl); (case c4 => exact rfl); k_whole; intro g1 L1 h1 FG1 F1 N1 B1 X1 T1; (try dsimp only); (try k_lift B1); (try k_fold))
  k_steps
  all_goals exact hret _ _ _ (by k_asm) (by k_asm)

end Mine
end
section
set_option maxHeartbeats 8000000
open PySem PySem.W PyProof.Rows Mine.H
namespace Mine
local macro_rules | `(tactic| k_room) => `(tactic| ktr_room)
local macro_rules | `(tactic| k_units) => `(tactic| ktr_units)

local macro_rules | `(tactic| walk_at "call ref") => `(tactic| (k_here; (with_reducible show wpAny _ _ (call (Value.ref 979) _) _ _ _); k_dflt (refine' Ctr.go (c_sender _ _ _ _ _ _ _ _ _) ?_; k_whole); (iterate 24 (intro _)); intro la9 lb9 lc9 e9; (iterate 4 (intro _)); (try k_lt2 la9); (try k_lt2 lb9); (try k_lt2 lc9); (try k_lt e9); (try k_sweep); (try dsimp only)))

local macro_rules | `(tactic| walk_at "call ref") => `(tactic| (k_here; (with_reducible show wpAny _ _ (call (Value.ref 1078) _) _ _ _); k_dflt (refine' Ctr.go (c_clockof (hm1 := ?m1) (hm2 := ?m2)) ?_; (case m1 => k_mem); (case m2 => k_mem); k_whole); (iterate 5 (intro _)); (try k_sweep); (try dsimp only)))

local macro_rules | `(tactic| walk_at "call ref") => `(tactic| (k_here; (with_reducible show wpAny _ _ (call (Value.ref 557) _) _ _ _); k_dflt (refine' Ctr.go (c_cong _ _ _ _ _ _ _ _) ?_; k_whole); (iterate 12 (intro _)); intro l9 e9; (iterate 4 (intro _)); (try k_lt2 l9); (try k_lt e9); (try k_sweep); (try dsimp only)))

local macro_rules | `(tactic| walk_at "call ref") => `(tactic| (k_here; (with_reducible show wpAny _ _ (call (Value.ref 466) _) _ _ _); k_dflt (refine' Ctr.go (c_acks _ _ _) ?_; k_whole); (iterate 5 (intro _)); (try k_sweep); (try dsimp only)))

local macro_rules | `(tactic| walk_at "call ref") => `(tactic| (k_here; (with_reducible show wpAny _ _ (call (Value.ref 1046) _) _ _ _); k_dflt (refine' Ctr.go (c_wheel _ _) ?_; k_whole); (iterate 5 (intro _)); (try k_sweep); (try dsimp only)))

theorem c_tcb (w : World) (news : Led) (lx ld lq1 lq2 lq3 lq4 lq5 lq6 lq7 lq8 lq9 lq10 : Nat) (ring own room : Int) (t1 t2 t3 t4 t5 t6 t7 t8 t9 t10 : Tok) (la ra : Nat) (ti : Tok) :
    Ctr w 1110 8 (((lx, instObj 1067 ld) :: (ld, dictOf [En w "ring" lq1 (.int ring t1), En w "mss" lq2 (.int own t2), En w "send_room" lq3 (.int 20 t3), En w "receive_room" lq4 (.int room t4), En w "first_timeout" lq5 (.int 6 t5), En w "least_timeout" lq6 (.int 4 t6), En w "most_timeout" lq7 (.int 24 t7), En w "most_tries" lq8 (.int 3 t8), En w "ack_delay" lq9 (.int 2 t9), En w "time_wait" lq10 (.int 12 t10)] 10) :: news)) [.ref lx, .ref la, .ref ra, .int 5 ti] (fun k => ∀ (cx cd px pd qx sx sd tx td kx ax wx u1 u2 cq1 cq2 cq3 cq4 cq5 cq6 cq7 cq8 cz1 cz2 pq1 pq2 pq3 pq4 pq5 pz1 pz2 pz3 sq1 sq2 sq3 sq4 sq5 sq6 sq7 sq8 sq9 sq10 sq11 tq1 tq2 tq3 tq4 tq5 tq6 tq7 tq8 tq9 tq10 tq11 tq12 tq13 tq14 tz1 tz2 : Nat), td < tx → tx < sd → sd < sx → sx < pd → pd < px → px < cd → cd < cx → (∀ p ∈ ((lx, instObj 1067 ld) :: (ld, dictOf [En w "ring" lq1 (.int ring t1), En w "mss" lq2 (.int own t2), En w "send_room" lq3 (.int 20 t3), En w "receive_room" lq4 (.int room t4), En w "first_timeout" lq5 (.int 6 t5), En w "least_timeout" lq6 (.int 4 t6), En w "most_timeout" lq7 (.int 24 t7), En w "most_tries" lq8 (.int 3 t8), En w "ack_delay" lq9 (.int 2 t9), En w "time_wait" lq10 (.int 12 t10)] 10) :: news), p.1 < td) → k (.ref tx) ((cx, instObj 557 cd) :: (cd, dictOf [En w "mss" cq1 (.int own t2), En w "most" cq2 (.int (20 + own) u2), En w "size" cq3 (.int (2 * own) u1), En w "threshold" cq4 (.int (20 + own) u2), En w "gathered" cq5 (.int 0 cz1), En w "duplicates" cq6 (.int 0 cz2), En w "is_recovering" cq7 (.bool false), En w "is_cautious" cq8 (.bool false)] 8) :: (px, instObj 788 pd) :: (pd, dictOf [En w "ring" pq1 (.int ring t1), En w "size" pq2 (.int 0 pz1), En w "most" pq3 (.int 0 pz2), En w "told_seq" pq4 .none, En w "told_ack" pq5 (.int 0 pz3)] 5) :: (sx, instObj 979 sd) :: (sd, dictOf [En w "iss" sq1 (.int 5 ti), En w "ring" sq2 (.int ring t1), En w "mss" sq3 (.int own t2), En w "una" sq4 (.int 5 ti), En w "next" sq5 (.int 5 ti), En w "greatest" sq6 (.int 5 ti), En w "peer" sq7 (.ref px), En w "queue" sq8 (.ref qx), En w "syn_pending" sq9 (.bool true), En w "fin_asked" sq10 (.bool false), En w "fin_sent" sq11 (.bool false)] 11) :: (tx, instObj 1110 td) :: (td, dictOf [En w "limits" tq1 (.ref lx), En w "local" tq2 (.ref la), En w "remote" tq3 (.ref ra), En w "state" tq4 (.str "closed" 1509), En w "sender" tq5 (.ref sx), En w "receiver" tq6 .none, En w "clock" tq7 (.ref kx), En w "congestion" tq8 (.ref cx), En w "acks" tq9 (.ref ax), En w "wheel" tq10 (.ref wx), En w "error" tq11 .none, En w "probes" tq12 (.int 0 tz1), En w "unanswered" tq13 (.int 0 tz2), En w "is_nagle" tq14 (.bool true)] 14) :: ((lx, instObj 1067 ld) :: (ld, dictOf [En w "ring" lq1 (.int ring t1), En w "mss" lq2 (.int own t2), En w "send_room" lq3 (.int 20 t3), En w "receive_room" lq4 (.int room t4), En w "first_timeout" lq5 (.int 6 t5), En w "least_timeout" lq6 (.int 4 t6), En w "most_timeout" lq7 (.int 24 t7), En w "most_tries" lq8 (.int 3 t8), En w "ack_delay" lq9 (.int 2 t9), En w "time_wait" lq10 (.int 12 t10)] 10) :: news))) := by
  unfold Ctr
  k_fill
  intro mean mg mb dp un gd cn cs a ccd cl outer A₀ base h₀ L m s Q E B F X N T hk hd hu hret
  k_dflt (refine' call_cls ?k1 ?k2 ?k3 ?k4 ?k5 ?k6 ?_; (case k1 => k_asm); (case k2 => k_asm); (case k3 => k_asm); (case k4 => k_is); (case k5 => k_is); (case k6 => k_is); k_whole; intro x1 d1 h1 F1 N1 l1 l2; (have lX := l1); (have l0 : ∀ p ∈ news, p.1 < d1 := fun p hp => l1 p (List.mem_cons_of_mem _ (List.mem_cons_of_mem _ hp))); (try k_lt l1); (try k_lt2 l2); (try k_sweep))
  k_dflt (refine' code_def (binds := [("self", .ref x1), ("limits", .ref lx), ("local", .ref la), ("remote", .ref ra), ("iss", .int 5 ti)]) ?k1 ?k2 ?k3 ?k4 ?k5 ?kA ?kF ?kK ?k6 ?k7 ?k8 ?k9 ?kB ?_ ?c2 ?c3 ?c4 ?c5; (case kA => exact rfl); (case kF => exact rfl); (case kK => assumption); (case k1 => k_asm); (case k2 => k_asm); (case k3 => k_asm); (case k4 => k_asm); (case k5 => k_asm); (case k6 => k_is); (case k7 => k_is); (case k8 => ktr_room); (case k9 => exact BindsTo.of_eq rfl); (case c5 => decide); (case kB => exact locs rfl); (case c2 => exact rfl); (case c3 => exact rfl); (case c4 => exact rfl); k_whole; intro g1 L1 h1 FG1 F1 N1 B1 X1 T1; (try dsimp only); (try k_lift B1); (try k_fold))
  k_steps
  all_goals (refine' hret _ _ _ _ _ _ _ _ _ _ _ _ _ _ _ _ _ _ _ _ _ _ _ _ _ _ _ _ _ _ _ _ _ _ _ _ _ _ _ _ _ _ _ _ _ _ _ _ _ _ _ _ _ _ _ _ _ _ _ ?o1 ?o2 ?o3 ?o4 ?o5 ?o6 ?o7 ?o8 _ _ ?F9 ?N9; (case F9 => k_asm); (case N9 => k_asm); (case o1 => omega); (case o2 => omega); (case o3 => omega); (case o4 => omega); (case o5 => omega); (case o6 => omega); (case o7 => omega); (case o8 => exact lX))

end Mine
end
section
set_option maxHeartbeats 8000000
open PySem PySem.W PyProof.Rows Mine.H
namespace Mine
local macro_rules | `(tactic| k_room) => `(tactic| ktr_room)
local macro_rules | `(tactic| k_units) => `(tactic| ktr_units)

local macro_rules | `(tactic| walk_at "subscriptTail") => `(tactic| (k_here; (with_reducible show wpAny _ _ (subscriptTail _ _ (Value.bytes (List.toArray _) _) (Value.int _ _)) _ _ _); k_dflt (refine' bytes_item_K ?f ?a ?b ?e ?_; (case f => omega); (case a => omega); (case b => omega); (case e => assumption); k_whole)))

local macro_rules | `(tactic| walk_at "binaryOp LShift int int") => `(tactic| (k_here; (with_reducible refine lshift_int_small ?kb1 ?kb2 ?kb3 ?_); (case kb1 => omega); (case kb2 => omega); (case kb3 => decide)))

theorem bor_byte {x y : Int} (hx0 : 0 ≤ x) (hx1 : x < 256) (hy0 : 0 ≤ y) (hy1 : y < 256) : Builtin.bitOr (x * 2 ^ Int.toNat 8) y = 256 * x + y := by
  have e : x * 2 ^ Int.toNat 8 = x * 256 := rfl
  rw [e, bitOr_and, bitAnd_pp (by omega) hy0]
  have h1 := nat_or_add_and (x * 256).toNat y.toNat
  have e2 : (x * 256).toNat = 2 ^ 8 * x.toNat := by omega
  have h2 := Nat.two_pow_add_eq_or_of_lt (show y.toNat < 2 ^ 8 by omega) x.toNat
  rw [e2] at h1 ⊢
  have h3 : (2 ^ 8 * x.toNat &&& y.toNat) = 0 := by omega
  rw [h3]
  show _ - (0 : Int) = _
  omega

theorem c_get16 (w : World) (news : Led) (bs : List UInt8) (i x y : Int) (t1 t2 : Tok) (h0 : 0 ≤ i) (h1 : i + 2 ≤ (bs.length : Int)) (hs : bs.length < 2 ^ 20) (hx0 : 0 ≤ x) (hx1 : x < 256) (hy0 : 0 ≤ y) (hy1 : y < 256) (ex : (((bs.getD i.toNat 0).toNat : Nat) : Int) = x) (ey : (((bs.getD (i + 1).toNat 0).toNat : Nat) : Int) = y) :
    Ctr w 356 4 (news) [.bytes bs.toArray t1, .int i t2] (fun k => ∀ t, k (.int (256 * x + y) t) news) := by
  unfold Ctr
  k_fill
  intro mean mg mb dp un gd cn cs a ccd cl outer A₀ base h₀ L m s Q E B F X N T hk hd hu hret
  refine wpAny_call ?_
  k_dflt (refine' code_def (binds := [("octets", .bytes bs.toArray t1), ("at", .int i t2)]) ?k1 ?k2 ?k3 ?k4 ?k5 ?kA ?kF ?kK ?k6 ?k7 ?k8 ?k9 ?kB ?_ ?c2 ?c3 ?c4 ?c5; (case kA => exact rfl); (case kF => exact rfl); (case kK => assumption); (case k1 => k_asm); (case k2 => k_asm); (case k3 => k_asm); (case k4 => k_asm); (case k5 => k_asm); (case k6 => k_is); (case k7 => k_is); (case k8 => ktr_room); (case k9 => exact BindsTo.of_eq rfl); (case c5 => decide); (case kB => exact locs rfl); (case c2 => exact rfl); (case c3 => exact rfl); (case c4 => exact rfl); k_whole; intro g1 L1 h1 FG1 F1 N1 B1 X1 T1; (try dsimp only); (try k_lift B1); (try k_fold))
  k_steps
  all_goals first | exact (bor_byte hx0 hx1 hy0 hy1) ▸ hret _ _ _ (by k_asm) (by k_asm) | (rw [bor_byte hx0 hx1 hy0 hy1]; exact hret _ _ _ (by k_asm) (by k_asm))

end Mine
end
section
set_option maxHeartbeats 8000000
open PySem PySem.W PyProof.Rows Mine.H
namespace Mine
local macro_rules | `(tactic| walk_at "zz") => `(tactic| skip)
local macro_rules | `(tactic| k_room) => `(tactic| ktr_room)
local macro_rules | `(tactic| k_units) => `(tactic| ktr_units)

local macro_rules | `(tactic| walk_at "subscriptTail") => `(tactic| (k_here; (with_reducible show wpAny _ _ (subscriptTail _ _ (Value.bytes (List.toArray _) _) (Value.int _ _)) _ _ _); k_dflt (refine' bytes_item_K ?f ?a ?b ?e ?_; (case f => kby_size); (case a => kby_idx); (case b => kby_idx); (case e => (show ((UInt8.toNat _ : Nat) : Int) = _; first | exact (rfl : _ = (0 : Int)) | exact (rfl : _ = (1 : Int)) | exact (rfl : _ = (2 : Int)) | exact (rfl : _ = (3 : Int)) | exact (rfl : _ = (4 : Int)) | exact (rfl : _ = (7 : Int)) | exact (rfl : _ = (9 : Int)) | assumption)); k_whole)))

local macro_rules | `(tactic| walk_at "call ref") => `(tactic| (k_here; (with_reducible show wpAny _ _ (call (Value.ref 356) _) _ _ _); k_dflt (refine' Ctr.go (c_get16 _ _ _ _ _ _ _ _ ?a ?b ?c ?n1 ?n2 ?n3 ?n4 ?ex ?ey) ?_; (case a => decide); (case b => ((simp only [List.length_cons, List.length_nil]; omega))); (case c => ((simp only [List.length_cons, List.length_nil]; omega))); (case ex => assumption); (case ey => assumption); (case n1 => assumption); (case n2 => assumption); (case n3 => assumption); (case n4 => assumption); k_whole); (iterate 5 (intro _)); (try k_sweep); (try dsimp only)))

theorem c_mss0 (w : World) (news : Led) (t1 : Tok) :
    Ctr w 406 6 (news) [.bytes ([] : List UInt8).toArray t1] (fun k => k .none news) := by
  unfold Ctr
  k_fill
  intro mean mg mb dp un gd cn cs a ccd cl outer A₀ base h₀ L m s Q E B F X N T hk hd hu hret
  have hz : ((([] : List UInt8).toArray.size : Nat) : Int) = 0 := rfl
  refine wpAny_call ?_
  k_dflt (refine' code_def (binds := [("options", .bytes ([] : List UInt8).toArray t1)]) ?k1 ?k2 ?k3 ?k4 ?k5 ?kA ?kF ?kK ?k6 ?k7 ?k8 ?k9 ?kB ?_ ?c2 ?c3 ?c4 ?c5; (case kA => exact rfl); (case kF => exact rfl); (case kK => assumption); (case k1 => k_asm); (case k2 => k_asm); (case k3 => k_asm); (case k4 => k_asm); (case k5 => k_asm); (case k6 => k_is); (case k7 => k_is); (case k8 => ktr_room); (case k9 => exact BindsTo.of_eq rfl); (case c5 => decide); (case kB => exact locs rfl); (case c2 => exact rfl); (case c3 => exact rfl); (case c4 => exact rfl); k_whole; intro g1 L1 h1 FG1 F1 N1 B1 X1 T1; (try dsimp only); (try k_lift B1); (try k_fold))
  k_steps
  all_goals exact hret _ _ (by k_asm) (by k_asm)

theorem c_mss1 (w : World) (news : Led) (h l : UInt8) (x y : Int) (t1 : Tok) (hx0 : 0 ≤ x) (hx1 : x < 256) (hy0 : 0 ≤ y) (hy1 : y < 256) (hx : ((h.toNat : Nat) : Int) = x) (hy : ((l.toNat : Nat) : Int) = y) :
    Ctr w 406 6 (news) [.bytes ([2, 4, h, l] : List UInt8).toArray t1] (fun k => ∀ t, k (.int (256 * x + y) t) news) := by
  unfold Ctr
  k_fill
  intro mean mg mb dp un gd cn cs a ccd cl outer A₀ base h₀ L m s Q E B F X N T hk hd hu hret
  have hz : ((([2, 4, h, l] : List UInt8).toArray.size : Nat) : Int) = 4 := rfl
  refine wpAny_call ?_
  k_dflt (refine' code_def (binds := [("options", .bytes ([2, 4, h, l] : List UInt8).toArray t1)]) ?k1 ?k2 ?k3 ?k4 ?k5 ?kA ?kF ?kK ?k6 ?k7 ?k8 ?k9 ?kB ?_ ?c2 ?c3 ?c4 ?c5; (case kA => exact rfl); (case kF => exact rfl); (case kK => assumption); (case k1 => k_asm); (case k2 => k_asm); (case k3 => k_asm); (case k4 => k_asm); (case k5 => k_asm); (case k6 => k_is); (case k7 => k_is); (case k8 => ktr_room); (case k9 => exact BindsTo.of_eq rfl); (case c5 => decide); (case kB => exact locs rfl); (case c2 => exact rfl); (case c3 => exact rfl); (case c4 => exact rfl); k_whole; intro g1 L1 h1 FG1 F1 N1 B1 X1 T1; (try dsimp only); (try k_lift B1); (try k_fold))
  k_steps
  all_goals exact hret _ _ _ (by k_asm) (by k_asm)

theorem c_mss2 (w : World) (news : Led) (h l : UInt8) (x y : Int) (t1 : Tok) (hx0 : 0 ≤ x) (hx1 : x < 256) (hy0 : 0 ≤ y) (hy1 : y < 256) (hx : ((h.toNat : Nat) : Int) = x) (hy : ((l.toNat : Nat) : Int) = y) :
    Ctr w 406 6 (news) [.bytes ([1, 1, 2, 4, h, l] : List UInt8).toArray t1] (fun k => ∀ t, k (.int (256 * x + y) t) news) := by
  unfold Ctr
  k_fill
  intro mean mg mb dp un gd cn cs a ccd cl outer A₀ base h₀ L m s Q E B F X N T hk hd hu hret
  have hz : ((([1, 1, 2, 4, h, l] : List UInt8).toArray.size : Nat) : Int) = 6 := rfl
  refine wpAny_call ?_
  k_dflt (refine' code_def (binds := [("options", .bytes ([1, 1, 2, 4, h, l] : List UInt8).toArray t1)]) ?k1 ?k2 ?k3 ?k4 ?k5 ?kA ?kF ?kK ?k6 ?k7 ?k8 ?k9 ?kB ?_ ?c2 ?c3 ?c4 ?c5; (case kA => exact rfl); (case kF => exact rfl); (case kK => assumption); (case k1 => k_asm); (case k2 => k_asm); (case k3 => k_asm); (case k4 => k_asm); (case k5 => k_asm); (case k6 => k_is); (case k7 => k_is); (case k8 => ktr_room); (case k9 => exact BindsTo.of_eq rfl); (case c5 => decide); (case kB => exact locs rfl); (case c2 => exact rfl); (case c3 => exact rfl); (case c4 => exact rfl); k_whole; intro g1 L1 h1 FG1 F1 N1 B1 X1 T1; (try dsimp only); (try k_lift B1); (try k_fold))
  k_steps
  all_goals exact hret _ _ _ (by k_asm) (by k_asm)

theorem c_mss3 (w : World) (news : Led) (h l : UInt8) (x y : Int) (t1 : Tok) (hx0 : 0 ≤ x) (hx1 : x < 256) (hy0 : 0 ≤ y) (hy1 : y < 256) (hx : ((h.toNat : Nat) : Int) = x) (hy : ((l.toNat : Nat) : Int) = y) :
    Ctr w 406 6 (news) [.bytes ([7, 2, 2, 4, h, l] : List UInt8).toArray t1] (fun k => ∀ t, k (.int (256 * x + y) t) news) := by
  unfold Ctr
  k_fill
  intro mean mg mb dp un gd cn cs a ccd cl outer A₀ base h₀ L m s Q E B F X N T hk hd hu hret
  have hz : ((([7, 2, 2, 4, h, l] : List UInt8).toArray.size : Nat) : Int) = 6 := rfl
  refine wpAny_call ?_
  k_dflt (refine' code_def (binds := [("options", .bytes ([7, 2, 2, 4, h, l] : List UInt8).toArray t1)]) ?k1 ?k2 ?k3 ?k4 ?k5 ?kA ?kF ?kK ?k6 ?k7 ?k8 ?k9 ?kB ?_ ?c2 ?c3 ?c4 ?c5; (case kA => exact rfl); (case kF => exact rfl); (case kK => assumption); (case k1 => k_asm); (case k2 => k_asm); (case k3 => k_asm); (case k4 => k_asm); (case k5 => k_asm); (case k6 => k_is); (case k7 => k_is); (case k8 => ktr_room); (case k9 => exact BindsTo.of_eq rfl); (case c5 => decide); (case kB => exact locs rfl); (case c2 => exact rfl); (case c3 => exact rfl); (case c4 => exact rfl); k_whole; intro g1 L1 h1 FG1 F1 N1 B1 X1 T1; (try dsimp only); (try k_lift B1); (try k_fold))
  k_steps
  all_goals exact hret _ _ _ (by k_asm) (by k_asm)

theorem c_mss4 (w : World) (news : Led) (h l : UInt8) (x y : Int) (t1 : Tok) (hx0 : 0 ≤ x) (hx1 : x < 256) (hy0 : 0 ≤ y) (hy1 : y < 256) (hx : ((h.toNat : Nat) : Int) = x) (hy : ((l.toNat : Nat) : Int) = y) :
    Ctr w 406 6 (news) [.bytes ([2, 4, h, l, 2, 4, 0, 9] : List UInt8).toArray t1] (fun k => ∀ t, k (.int (256 * x + y) t) news) := by
  unfold Ctr
  k_fill
  intro mean mg mb dp un gd cn cs a ccd cl outer A₀ base h₀ L m s Q E B F X N T hk hd hu hret
  have hz : ((([2, 4, h, l, 2, 4, 0, 9] : List UInt8).toArray.size : Nat) : Int) = 8 := rfl
  refine wpAny_call ?_
  k_dflt (refine' code_def (binds := [("options", .bytes ([2, 4, h, l, 2, 4, 0, 9] : List UInt8).toArray t1)]) ?k1 ?k2 ?k3 ?k4 ?k5 ?kA ?kF ?kK ?k6 ?k7 ?k8 ?k9 ?kB ?_ ?c2 ?c3 ?c4 ?c5; (case kA => exact rfl); (case kF => exact rfl); (case kK => assumption); (case k1 => k_asm); (case k2 => k_asm); (case k3 => k_asm); (case k4 => k_asm); (case k5 => k_asm); (case k6 => k_is); (case k7 => k_is); (case k8 => ktr_room); (case k9 => exact BindsTo.of_eq rfl); (case c5 => decide); (case kB => exact locs rfl); (case c2 => exact rfl); (case c3 => exact rfl); (case c4 => exact rfl); k_whole; intro g1 L1 h1 FG1 F1 N1 B1 X1 T1; (try dsimp only); (try k_lift B1); (try k_fold))
  k_steps
  all_goals exact hret _ _ _ (by k_asm) (by k_asm)

theorem c_mss5 (w : World) (news : Led) (h l : UInt8) (x y : Int) (t1 : Tok) (hx0 : 0 ≤ x) (hx1 : x < 256) (hy0 : 0 ≤ y) (hy1 : y < 256) (hx : ((h.toNat : Nat) : Int) = x) (hy : ((l.toNat : Nat) : Int) = y) :
    Ctr w 406 6 (news) [.bytes ([0, 2, 4, h, l] : List UInt8).toArray t1] (fun k => k .none news) := by
  unfold Ctr
  k_fill
  intro mean mg mb dp un gd cn cs a ccd cl outer A₀ base h₀ L m s Q E B F X N T hk hd hu hret
  have hz : ((([0, 2, 4, h, l] : List UInt8).toArray.size : Nat) : Int) = 5 := rfl
  refine wpAny_call ?_
  k_dflt (refine' code_def (binds := [("options", .bytes ([0, 2, 4, h, l] : List UInt8).toArray t1)]) ?k1 ?k2 ?k3 ?k4 ?k5 ?kA ?kF ?kK ?k6 ?k7 ?k8 ?k9 ?kB ?_ ?c2 ?c3 ?c4 ?c5; (case kA => exact rfl); (case kF => exact rfl); (case kK => assumption); (case k1 => k_asm); (case k2 => k_asm); (case k3 => k_asm); (case k4 => k_asm); (case k5 => k_asm); (case k6 => k_is); (case k7 => k_is); (case k8 => ktr_room); (case k9 => exact BindsTo.of_eq rfl); (case c5 => decide); (case kB => exact locs rfl); (case c2 => exact rfl); (case c3 => exact rfl); (case c4 => exact rfl); k_whole; intro g1 L1 h1 FG1 F1 N1 B1 X1 T1; (try dsimp only); (try k_lift B1); (try k_fold))
  k_steps
  all_goals exact hret _ _ (by k_asm) (by k_asm)

theorem c_mss6 (w : World) (news : Led) (h l : UInt8) (x y : Int) (t1 : Tok) (hx0 : 0 ≤ x) (hx1 : x < 256) (hy0 : 0 ≤ y) (hy1 : y < 256) (hx : ((h.toNat : Nat) : Int) = x) (hy : ((l.toNat : Nat) : Int) = y) :
    Ctr w 406 6 (news) [.bytes ([2, 3, 9, 2, 4, h, l] : List UInt8).toArray t1] (fun k => k .none news) := by
  unfold Ctr
  k_fill
  intro mean mg mb dp un gd cn cs a ccd cl outer A₀ base h₀ L m s Q E B F X N T hk hd hu hret
  have hz : ((([2, 3, 9, 2, 4, h, l] : List UInt8).toArray.size : Nat) : Int) = 7 := rfl
  refine wpAny_call ?_
  k_dflt (refine' code_def (binds := [("options", .bytes ([2, 3, 9, 2, 4, h, l] : List UInt8).toArray t1)]) ?k1 ?k2 ?k3 ?k4 ?k5 ?kA ?kF ?kK ?k6 ?k7 ?k8 ?k9 ?kB ?_ ?c2 ?c3 ?c4 ?c5; (case kA => exact rfl); (case kF => exact rfl); (case kK => assumption); (case k1 => k_asm); (case k2 => k_asm); (case k3 => k_asm); (case k4 => k_asm); (case k5 => k_asm); (case k6 => k_is); (case k7 => k_is); (case k8 => ktr_room); (case k9 => exact BindsTo.of_eq rfl); (case c5 => decide); (case kB => exact locs rfl); (case c2 => exact rfl); (case c3 => exact rfl); (case c4 => exact rfl); k_whole; intro g1 L1 h1 FG1 F1 N1 B1 X1 T1; (try dsimp only); (try k_lift B1); (try k_fold))
  k_steps
  all_goals exact hret _ _ (by k_asm) (by k_asm)

theorem c_mss7 (w : World) (news : Led) (h l : UInt8) (x y : Int) (t1 : Tok) (hx0 : 0 ≤ x) (hx1 : x < 256) (hy0 : 0 ≤ y) (hy1 : y < 256) (hx : ((h.toNat : Nat) : Int) = x) (hy : ((l.toNat : Nat) : Int) = y) :
    Ctr w 406 6 (news) [.bytes ([7, 1, 2, 4, h, l] : List UInt8).toArray t1] (fun k => k .none news) := by
  unfold Ctr
  k_fill
  intro mean mg mb dp un gd cn cs a ccd cl outer A₀ base h₀ L m s Q E B F X N T hk hd hu hret
  have hz : ((([7, 1, 2, 4, h, l] : List UInt8).toArray.size : Nat) : Int) = 6 := rfl
  refine wpAny_call ?_
  k_dflt (refine' code_def (binds := [("options", .bytes ([7, 1, 2, 4, h, l] : List UInt8).toArray t1)]) ?k1 ?k2 ?k3 ?k4 ?k5 ?kA ?kF ?kK ?k6 ?k7 ?k8 ?k9 ?kB ?_ ?c2 ?c3 ?c4 ?c5; (case kA => exact rfl); (case kF => exact rfl); (case kK => assumption); (case k1 => k_asm); (case k2 => k_asm); (case k3 => k_asm); (case k4 => k_asm); (case k5 => k_asm); (case k6 => k_is); (case k7 => k_is); (case k8 => ktr_room); (case k9 => exact BindsTo.of_eq rfl); (case c5 => decide); (case kB => exact locs rfl); (case c2 => exact rfl); (case c3 => exact rfl); (case c4 => exact rfl); k_whole; intro g1 L1 h1 FG1 F1 N1 B1 X1 T1; (try dsimp only); (try k_lift B1); (try k_fold))
  k_steps
  all_goals exact hret _ _ (by k_asm) (by k_asm)

theorem c_mss8 (w : World) (news : Led) (h : UInt8) (t1 : Tok) :
    Ctr w 406 6 (news) [.bytes ([2, 4, h] : List UInt8).toArray t1] (fun k => k .none news) := by
  unfold Ctr
  k_fill
  intro mean mg mb dp un gd cn cs a ccd cl outer A₀ base h₀ L m s Q E B F X N T hk hd hu hret
  have hz : ((([2, 4, h] : List UInt8).toArray.size : Nat) : Int) = 3 := rfl
  refine wpAny_call ?_
  k_dflt (refine' code_def (binds := [("options", .bytes ([2, 4, h] : List UInt8).toArray t1)]) ?k1 ?k2 ?k3 ?k4 ?k5 ?kA ?kF ?kK ?k6 ?k7 ?k8 ?k9 ?kB ?_ ?c2 ?c3 ?c4 ?c5; (case kA => exact rfl); (case kF => exact rfl); (case kK => assumption); (case k1 => k_asm); (case k2 => k_asm); (case k3 => k_asm); (case k4 => k_asm); (case k5 => k_asm); (case k6 => k_is); (case k7 => k_is); (case k8 => ktr_room); (case k9 => exact BindsTo.of_eq rfl); (case c5 => decide); (case kB => exact locs rfl); (case c2 => exact rfl); (case c3 => exact rfl); (case c4 => exact rfl); k_whole; intro g1 L1 h1 FG1 F1 N1 B1 X1 T1; (try dsimp only); (try k_lift B1); (try k_fold))
  k_steps
  all_goals exact hret _ _ (by k_asm) (by k_asm)

end Mine
end
section
set_option maxHeartbeats 8000000
open PySem PySem.W PyProof.Rows Mine.H
namespace Mine
local macro_rules | `(tactic| k_room) => `(tactic| ktr_room)
local macro_rules | `(tactic| k_units) => `(tactic| ktr_units)

theorem c_assembly (w : World) (news : Led) (ring : Int) (t1 : Tok) :
    Ctr w 148 2 (news) [.int ring t1] (fun k => ∀ (x d p q1 q2 : Nat), d < x → x < p → (∀ p ∈ news, p.1 < d) → k (.ref x) ((p, PySem.W.listOf #[] 0) :: (x, instObj 148 d) :: (d, dictOf [En w "ring" q1 (.int ring t1), En w "parts" q2 (.ref p)] 2) :: news)) := by
  unfold Ctr
  k_fill
  intro mean mg mb dp un gd cn cs a ccd cl outer A₀ base h₀ L m s Q E B F X N T hk hd hu hret
  k_dflt (refine' call_cls ?k1 ?k2 ?k3 ?k4 ?k5 ?k6 ?_; (case k1 => k_asm); (case k2 => k_asm); (case k3 => k_asm); (case k4 => k_is); (case k5 => k_is); (case k6 => k_is); k_whole; intro x1 d1 h1 F1 N1 l1 l2; (try k_lt l1); (try k_lt2 l2); (try k_sweep))
  k_dflt (refine' code_def (binds := [("self", .ref x1), ("ring", .int ring t1)]) ?k1 ?k2 ?k3 ?k4 ?k5 ?kA ?kF ?kK ?k6 ?k7 ?k8 ?k9 ?kB ?_ ?c2 ?c3 ?c4 ?c5; (case kA => exact rfl); (case kF => exact rfl); (case kK => assumption); (case k1 => k_asm); (case k2 => k_asm); (case k3 => k_asm); (case k4 => k_asm); (case k5 => k_asm); (case k6 => k_is); (case k7 => k_is); (case k8 => ktr_room); (case k9 => exact BindsTo.of_eq rfl); (case c5 => decide); (case kB => exact locs rfl); (case c2 => exact rfl); (case c3 => exact rfl); (case c4 => exact rfl); k_whole; intro g1 L1 h1 FG1 F1 N1 B1 X1 T1; (try dsimp only); (try k_lift B1); (try k_fold))
  k_steps
  all_goals (refine' hret _ _ _ _ _ l2 ?o1 l1 _ _ ?F9 ?N9; (case F9 => k_asm); (case N9 => k_asm); omega)

theorem wpC_callWith_type0 {M : Model} {A : Around} {E : Value → Shared → Prop} {s : Shared} {env : Env} {pos : Pos} {t : String} {Q : Value → Shared → Prop} (h : wpC M A (call (.type t) []) Q E s) :
    wpC M A (callWith pos (.type t) [] (backTo pos (starEach [] env)) []) Q E s :=
  wpC_callWith_of (P := fun _ => True) rfl (fun _ _ => ⟨.machine, .inr (.inl rfl), .now⟩) (evalArgs_nil3 ⟨trivial, h⟩)
def CtrC (w : World) (f : Addr) (d : Nat) (news : Led) (vs : List Value) (Ret : (Value → Led → Prop) → Prop) : Prop :=
  ∀ (mean : ExcName → Option Value) (mg mb : Str → Option Value) (dp un : Nat) (gd : Option (List Code)) (cn : Str) (cs : Scope) (a : Addr) (ccd : Value) (cl : List (Str × Addr)) (outer : List Env) (A₀ : Around) (base h₀ : Heap) (L : Addr) (m : Str → Option Value) (s : Shared) (Q E : Value → Shared → Prop),
  Below A₀ base outer h₀ → Fr h₀ L s.heap m → (K w.params).In h₀ → News h₀ L s.heap news →
  Top q (looseW q loose) mean mg mb h₀ → cs.kind = .function → dp + d < recursionLimit → un + 8 * d < cLine →
  Ret (fun v news' => ∀ h' tk', Fr h₀ L h' m → News h₀ L h' news' → Q v { s with heap := h', toks := tk' }) →
  wpC (model PySem.Challenge.rw_xw0350_01.row.prog w) (ktrTop dp un gd cn cs L a ccd cl outer) (call (.ref f) vs) Q E s

local macro_rules | `(tactic| walk_at "call ref") => `(tactic| (k_here; (with_reducible show wpAny _ _ (call (Value.ref 148) _) _ _ _); k_dflt (refine' Ctr.go (c_assembly _ _ _ _) ?_; k_whole); (iterate 5 (intro _)); intro o9a o9b o9c; (iterate 4 (intro _)); (try k_lt2 o9a); (try k_lt2 o9b); (try k_lt o9c); (try k_sweep); (try dsimp only)))

local macro_rules | `(tactic| walk_at "call ref") => `(tactic| (k_here; (with_reducible show wpAny _ _ (call (Value.ref 28) _) _ _ _); k_dflt (refine' Ctr.go (c_plus _ _ _ _ _ _ _ _ ?hr) ?_; (case hr => first | assumption | omega); k_whole); (iterate 5 (intro _)); (try k_sweep); (try dsimp only)))

theorem c_receiver (w : World) (news : Led) (irs ring room mss : Int) (t1 t2 t3 t4 : Tok) (hr : 0 < ring) :
    CtrC w 282 5 (news) [.int irs t1, .int ring t2, .int room t3, .int mss t4] (fun k => ∀ (x d ra ax ad pa u1 u2 rq1 rq2 rq3 rq4 rq5 rq6 rq7 rq8 rq9 rq10 aq1 aq2 : Nat), d < x → x < ra → ra < ad → ad < ax → ax < pa → (∀ p ∈ news, p.1 < d) → k (.ref x) ((pa, PySem.W.listOf #[] 0) :: (ax, instObj 148 ad) :: (ad, dictOf [En w "ring" aq1 (.int ring t2), En w "parts" aq2 (.ref pa)] 2) :: (ra, BA.fresh) :: (x, instObj 282 d) :: (d, dictOf [En w "ring" rq1 (.int ring t2), En w "room" rq2 (.int room t3), En w "mss" rq3 (.int mss t4), En w "next" rq4 (.int ((irs + 1).fmod ring) u1), En w "ready" rq5 (.ref ra), En w "assembly" rq6 (.ref ax), En w "told_edge" rq7 (.int (((irs + 1).fmod ring + room).fmod ring) u2), En w "fin_at" rq8 .none, En w "has_fin" rq9 (.bool false), En w "urgent_at" rq10 .none] 10) :: news)) := by
  unfold CtrC
  k_fill
  intro mean mg mb dp un gd cn cs a ccd cl outer A₀ base h₀ L m s Q E B F X N T hk hd hu hret
  refine wpC_call ?_
  refine' makeC (K := H.K w.params) (fI := 167) F N (X.keeps F.keep) ?k4 ?k5 ?k6 ?_; (case k4 => k_is); (case k5 => k_is); (case k6 => k_is); intro x1 d1 h1 F1 N1 l1 l2; (have l0 := l1); (try k_lt l1); (try k_lt2 l2); (try k_sweep)
  k_dflt (refine' codeC_def (C := 0) (binds := [("self", .ref x1), ("irs", .int irs t1), ("ring", .int ring t2), ("room", .int room t3), ("mss", .int mss t4)]) ?k1 ?k2 ?k3 ?k4 ?k5 ?kA ?kF ?kK ?k6 ?k7 ?k8 ?k9 ?kB ?_ ?c2 ?c3 ?c4 ?c5; (case kA => exact rfl); (case kF => exact rfl); (case kK => assumption); (case k1 => k_asm); (case k2 => k_asm); (case k3 => k_asm); (case k4 => k_asm); (case k5 => k_asm); (case k6 => k_is); (case k7 => k_is); (case k8 => ktr_room); (case k9 => first | exact BindsTo.of_eq rfl | exact binds_K (by k_in) rfl (by k_is) rfl rfl rfl); (case c5 => decide); (case kB => exact locs rfl); (case c2 => exact rfl); (case c3 => exact rfl); (case c4 => exact rfl); intro g1 L1 h1 FG1 F1 N1 B1 X1 T1; (try dsimp only); (try k_lift B1))
  refine wpC_execs_cons (wpC_of_any ?_)
  k_steps
  dsimp only
  refine wpC_execs_cons (wpC_of_any ?_)
  k_steps
  dsimp only
  refine wpC_execs_cons (wpC_of_any ?_)
  k_steps
  dsimp only
  refine wpC_execs_cons (wpC_of_any ?_)
  k_steps
  dsimp only
  refine wpC_execs_cons (wpC_Assign_Attr (wpC_eval_Call ?_))
  k_steps
  refine' wpC_callWith_type0 (BA.call_N ?F ?N ?_); (case F => k_asm); (case N => k_asm); intro ra9 h9 F9 N9 l9; (try k_lt l9); (try k_sweep)
  k_steps
  dsimp only
  refine wpC_of_any ?_
  k_steps
  all_goals (refine' hret _ _ _ _ _ _ _ _ _ _ _ _ _ _ _ _ _ _ _ _ ?o1 ?o2 ?o3 ?o4 ?o5 ?o6 _ _ ?F9 ?N9; (case F9 => k_asm); (case N9 => k_asm); (case o1 => omega); (case o2 => omega); (case o3 => omega); (case o4 => omega); (case o5 => omega); (case o6 => exact l0))

end Mine
end
section
set_option maxHeartbeats 8000000
open PySem PySem.W PyProof.Rows Mine.H
namespace Mine
local macro_rules | `(tactic| k_room) => `(tactic| ktr_room)
local macro_rules | `(tactic| k_units) => `(tactic| ktr_units)

theorem CtrC.use {w : World} {f : Addr} {d : Nat} {news : Led} {vs : List Value} {Ret : (Value → Led → Prop) → Prop} (C : CtrC w f d news vs Ret)
    {mean : ExcName → Option Value} {mg mb : Str → Option Value} {dp un : Nat} {gd : Option (List Code)} {cn : Str} {cs : Scope} {a : Addr} {ccd : Value} {cl : List (Str × Addr)} {outer : List Env} {A₀ : Around} {base h₀ : Heap} {L : Addr} {m : Str → Option Value} {s : Shared} {Q E : Value → Shared → Prop}
    (B : Below A₀ base outer h₀) (F : Fr h₀ L s.heap m) (X : (K w.params).In h₀) (N : News h₀ L s.heap news) (T : Top q (looseW q loose) mean mg mb h₀) (hk : cs.kind = .function) (hd : dp + d < recursionLimit) (hu : un + 8 * d < cLine)
    (h : Ret (fun v news' => ∀ h' tk', Fr h₀ L h' m → News h₀ L h' news' → Q v { s with heap := h', toks := tk' })) :
    wpC (model PySem.Challenge.rw_xw0350_01.row.prog w) (ktrTop dp un gd cn cs L a ccd cl outer) (call (.ref f) vs) Q E s :=
  C mean mg mb dp un gd cn cs a ccd cl outer A₀ base h₀ L m s Q E B F X N T hk hd hu h
def IsTold (r : Option Int) (v : Value) : Prop := match r with | none => v = .none | some n => ∃ t, v = .int n t
def MssOf (w : World) (bs : List UInt8) (tb : Tok) (r : Option Int) : Prop := ∀ news, Ctr w 406 6 news [.bytes bs.toArray tb] (fun k => ∀ v, IsTold r v → k v news)
theorem MssOf.ctr {w : World} {bs : List UInt8} {tb : Tok} {r : Option Int} (C : MssOf w bs tb r) (news : Led) : Ctr w 406 6 news [.bytes bs.toArray tb] (fun k => ∀ v, IsTold r v → k v news) := C news
/-- the size that the end sends with -/
def due (r : Option Int) (own : Int) : Int := if (if r.getD 536 < own then r.getD 536 else own) > 1 then (if r.getD 536 < own then r.getD 536 else own) else 1
theorem cut_told {M : Model} {A : Around} {E : Value → Shared → Prop} {s : Shared} {t : Sem Value} {Q : Value → Shared → Prop} {r : Option Int} {v : Value} (hv : IsTold r v)
    (h1 : v = .none → wpAny M A t (fun u s' => (∃ tk, u = .int 536 tk) ∧ ∃ k, s' = { s with toks := k }) E s)
    (h2 : ∀ n tn, v = .int n tn → wpAny M A t (fun u s' => (∃ tk, u = .int n tk) ∧ ∃ k, s' = { s with toks := k }) E s)
    (h : ∀ tk k, Q (.int (r.getD 536) tk) { s with toks := k }) : wpAny M A t Q E s := by
  cases r with
  | none => exact wpAny_mono (h1 hv) (fun u s' z => by obtain ⟨⟨tk, rfl⟩, k, rfl⟩ := z; exact h tk k) fun _ _ x => x
  | some n =>
    obtain ⟨tn, e⟩ := hv
    exact wpAny_mono (h2 n tn e) (fun u s' z => by obtain ⟨⟨tk, rfl⟩, k, rfl⟩ := z; exact h tk k) fun _ _ x => x

local macro_rules | `(tactic| walk_at "eval IfExp") => `(tactic| (k_here; refine' cut_told (by assumption) ?e1 ?e2 ?e3; (case' e1 => (intro e9; subst e9)); (case' e2 => (intro _ _; intro e9; subst e9)); (case' e3 => (intro _ _; (try dsimp only)))))

local macro_rules | `(tactic| walk_at "call ref") => `(tactic| (k_here; (with_reducible show wpAny _ _ (call (Value.ref 406) _) _ _ _); k_dflt (refine' Ctr.go (MssOf.ctr (by assumption) _) ?_; k_whole); (iterate 6 (intro _)); (try k_sweep); (try dsimp only)))

theorem floordiv_two {prog : Program} {w : World} {A : Around} {E : Value → Shared → Prop} {s : Shared} {own : Int} {t u : Tok} {Q : Value → Shared → Prop} (h0 : 0 < own) (h1 : own ≤ 1460) (h : Q (.int 2 s.toks) { s with toks := s.toks + 1 }) :
    wpAny (model prog w) A (binaryOp .FloorDiv (.int (2 * own) t) (.int own u)) Q E s :=
  floordiv_int (by omega) (by rw [Int.mul_fdiv_cancel 2 (by omega)]; exact h) (Or.inl (PyProof.noPylong_small (by omega)))
local macro_rules | `(tactic| walk_at "binaryOp FloorDiv int int") => `(tactic| (k_here; refine' floordiv_two ?a ?b ?_; (case a => assumption); (case b => assumption)))

theorem c_take (w : World) (news : Led) (bs : List UInt8) (r : Option Int) (seq ring own room : Int) (la ra : Nat) (ti t1 t2 t3 t4 t5 t6 t7 t8 t9 t10 t21 tb g1 g2 g3 g4 g5 g6 g7 : Tok) (hring : 0 < ring) (hown : 0 < own) (hown2 : own ≤ 1460) (M : MssOf w bs tb r) (lx ld lq1 lq2 lq3 lq4 lq5 lq6 lq7 lq8 lq9 lq10 cx cd px pd qx sx sd tx td kx ax wx u1 u2 cq1 cq2 cq3 cq4 cq5 cq6 cq7 cq8 cz1 cz2 pq1 pq2 pq3 pq4 pq5 pz1 pz2 pz3 sq1 sq2 sq3 sq4 sq5 sq6 sq7 sq8 sq9 sq10 sq11 tq1 tq2 tq3 tq4 tq5 tq6 tq7 tq8 tq9 tq10 tq11 tq12 tq13 tq14 tz1 tz2 sgx sgd gq1 gq2 gq3 gq4 gq5 gq6 gq7 gq8 gq9 : Nat) (hcs : cx < sgd) (hgg : sgd < sgx) (ho0 : td < tx) (ho1 : tx < sd) (ho2 : sd < sx) (ho3 : sx < pd) (ho4 : pd < px) (ho5 : px < cd) (ho6 : cd < cx) (lX : ∀ p ∈ ((lx, instObj 1067 ld) :: (ld, dictOf [En w "ring" lq1 (.int ring t1), En w "mss" lq2 (.int own t2), En w "send_room" lq3 (.int 20 t3), En w "receive_room" lq4 (.int room t4), En w "first_timeout" lq5 (.int 6 t5), En w "least_timeout" lq6 (.int 4 t6), En w "most_timeout" lq7 (.int 24 t7), En w "most_tries" lq8 (.int 3 t8), En w "ack_delay" lq9 (.int 2 t9), En w "time_wait" lq10 (.int 12 t10)] 10) :: news), p.1 < td) :
    CtrC w 413 9 (((sgx, instObj 395 sgd) :: (sgd, dictOf [En w "source_port" gq1 (.int 90 g1), En w "target_port" gq2 (.int 80 g2), En w "seq" gq3 (.int seq t21), En w "ack" gq4 (.int 0 g3), En w "flags" gq5 (.int 2 g4), En w "window" gq6 (.int 9 g5), En w "urgent" gq7 (.int 0 g6), En w "options" gq8 (.bytes bs.toArray tb), En w "payload" gq9 (.bytes #[] g7)] 9) :: (cx, instObj 557 cd) :: (cd, dictOf [En w "mss" cq1 (.int own t2), En w "most" cq2 (.int (20 + own) u2), En w "size" cq3 (.int (2 * own) u1), En w "threshold" cq4 (.int (20 + own) u2), En w "gathered" cq5 (.int 0 cz1), En w "duplicates" cq6 (.int 0 cz2), En w "is_recovering" cq7 (.bool false), En w "is_cautious" cq8 (.bool false)] 8) :: (px, instObj 788 pd) :: (pd, dictOf [En w "ring" pq1 (.int ring t1), En w "size" pq2 (.int 0 pz1), En w "most" pq3 (.int 0 pz2), En w "told_seq" pq4 .none, En w "told_ack" pq5 (.int 0 pz3)] 5) :: (sx, instObj 979 sd) :: (sd, dictOf [En w "iss" sq1 (.int 5 ti), En w "ring" sq2 (.int ring t1), En w "mss" sq3 (.int own t2), En w "una" sq4 (.int 5 ti), En w "next" sq5 (.int 5 ti), En w "greatest" sq6 (.int 5 ti), En w "peer" sq7 (.ref px), En w "queue" sq8 (.ref qx), En w "syn_pending" sq9 (.bool true), En w "fin_asked" sq10 (.bool false), En w "fin_sent" sq11 (.bool false)] 11) :: (tx, instObj 1110 td) :: (td, dictOf [En w "limits" tq1 (.ref lx), En w "local" tq2 (.ref la), En w "remote" tq3 (.ref ra), En w "state" tq4 (.str "closed" 1509), En w "sender" tq5 (.ref sx), En w "receiver" tq6 .none, En w "clock" tq7 (.ref kx), En w "congestion" tq8 (.ref cx), En w "acks" tq9 (.ref ax), En w "wheel" tq10 (.ref wx), En w "error" tq11 .none, En w "probes" tq12 (.int 0 tz1), En w "unanswered" tq13 (.int 0 tz2), En w "is_nagle" tq14 (.bool true)] 14) :: ((lx, instObj 1067 ld) :: (ld, dictOf [En w "ring" lq1 (.int ring t1), En w "mss" lq2 (.int own t2), En w "send_room" lq3 (.int 20 t3), En w "receive_room" lq4 (.int room t4), En w "first_timeout" lq5 (.int 6 t5), En w "least_timeout" lq6 (.int 4 t6), En w "most_timeout" lq7 (.int 24 t7), En w "most_tries" lq8 (.int 3 t8), En w "ack_delay" lq9 (.int 2 t9), En w "time_wait" lq10 (.int 12 t10)] 10) :: news))) [.ref tx, .ref sgx] (fun k => ∀ (dv sz : Int) (rx rd rra rax rad rpa v1 v2 v3 v4 rq1 rq2 rq3 rq4 rq5 rq6 rq7 rq8 rq9 rq10 aq1 aq2 : Nat), dv = due r own → sz = 2 * due r own → k .none ((rpa, PySem.W.listOf #[] 0) :: (rax, instObj 148 rad) :: (rad, dictOf [En w "ring" aq1 (.int ring t1), En w "parts" aq2 (.ref rpa)] 2) :: (rra, BA.fresh) :: (rx, instObj 282 rd) :: (rd, dictOf [En w "ring" rq1 (.int ring t1), En w "room" rq2 (.int room t4), En w "mss" rq3 (.int own t2), En w "next" rq4 (.int ((seq + 1).fmod ring) v1), En w "ready" rq5 (.ref rra), En w "assembly" rq6 (.ref rax), En w "told_edge" rq7 (.int (((seq + 1).fmod ring + room).fmod ring) v2), En w "fin_at" rq8 .none, En w "has_fin" rq9 (.bool false), En w "urgent_at" rq10 .none] 10) :: (sgx, instObj 395 sgd) :: (sgd, dictOf [En w "source_port" gq1 (.int 90 g1), En w "target_port" gq2 (.int 80 g2), En w "seq" gq3 (.int seq t21), En w "ack" gq4 (.int 0 g3), En w "flags" gq5 (.int 2 g4), En w "window" gq6 (.int 9 g5), En w "urgent" gq7 (.int 0 g6), En w "options" gq8 (.bytes bs.toArray tb), En w "payload" gq9 (.bytes #[] g7)] 9) :: (cx, instObj 557 cd) :: (cd, dictOf [En w "mss" cq1 (.int dv v3), En w "most" cq2 (.int (20 + own) u2), En w "size" cq3 (.int sz v4), En w "threshold" cq4 (.int (20 + own) u2), En w "gathered" cq5 (.int 0 cz1), En w "duplicates" cq6 (.int 0 cz2), En w "is_recovering" cq7 (.bool false), En w "is_cautious" cq8 (.bool false)] 8) :: (px, instObj 788 pd) :: (pd, dictOf [En w "ring" pq1 (.int ring t1), En w "size" pq2 (.int 0 pz1), En w "most" pq3 (.int 0 pz2), En w "told_seq" pq4 .none, En w "told_ack" pq5 (.int 0 pz3)] 5) :: (sx, instObj 979 sd) :: (sd, dictOf [En w "iss" sq1 (.int 5 ti), En w "ring" sq2 (.int ring t1), En w "mss" sq3 (.int dv v3), En w "una" sq4 (.int 5 ti), En w "next" sq5 (.int 5 ti), En w "greatest" sq6 (.int 5 ti), En w "peer" sq7 (.ref px), En w "queue" sq8 (.ref qx), En w "syn_pending" sq9 (.bool true), En w "fin_asked" sq10 (.bool false), En w "fin_sent" sq11 (.bool false)] 11) :: (tx, instObj 1110 td) :: (td, dictOf [En w "limits" tq1 (.ref lx), En w "local" tq2 (.ref la), En w "remote" tq3 (.ref ra), En w "state" tq4 (.str "closed" 1509), En w "sender" tq5 (.ref sx), En w "receiver" tq6 (.ref rx), En w "clock" tq7 (.ref kx), En w "congestion" tq8 (.ref cx), En w "acks" tq9 (.ref ax), En w "wheel" tq10 (.ref wx), En w "error" tq11 .none, En w "probes" tq12 (.int 0 tz1), En w "unanswered" tq13 (.int 0 tz2), En w "is_nagle" tq14 (.bool true)] 14) :: ((lx, instObj 1067 ld) :: (ld, dictOf [En w "ring" lq1 (.int ring t1), En w "mss" lq2 (.int own t2), En w "send_room" lq3 (.int 20 t3), En w "receive_room" lq4 (.int room t4), En w "first_timeout" lq5 (.int 6 t5), En w "least_timeout" lq6 (.int 4 t6), En w "most_timeout" lq7 (.int 24 t7), En w "most_tries" lq8 (.int 3 t8), En w "ack_delay" lq9 (.int 2 t9), En w "time_wait" lq10 (.int 12 t10)] 10) :: news))) := by
  unfold CtrC
  k_fill
  intro mean mg mb dp un gd cn cs a ccd cl outer A₀ base h₀ L m s Q E B F X N T hk hd hu hret
  have l0 : ∀ p ∈ news, p.1 < td := fun p hp => lX p (List.mem_cons_of_mem _ (List.mem_cons_of_mem _ hp))
  have l0s : ∀ p ∈ news, p.1 < sd := fun p hp => Nat.lt_trans (l0 p hp) (Nat.lt_trans ho0 ho1)
  have l0c : ∀ p ∈ news, p.1 < cd := fun p hp => Nat.lt_trans (l0s p hp) (Nat.lt_trans ho2 (Nat.lt_trans ho3 (Nat.lt_trans ho4 ho5)))
  k_lt lX
  k_lt2 ho0
  k_lt2 ho1
  k_lt2 ho2
  k_lt2 ho3
  k_lt2 ho4
  k_lt2 ho5
  k_lt2 ho6
  k_lt2 hcs
  k_lt2 hgg
  refine wpC_call ?_
  k_dflt (refine' codeC_def (C := 0) (binds := [("tcb", .ref tx), ("segment", .ref sgx)]) ?k1 ?k2 ?k3 ?k4 ?k5 ?kA ?kF ?kK ?k6 ?k7 ?k8 ?k9 ?kB ?_ ?c2 ?c3 ?c4 ?c5; (case kA => exact rfl); (case kF => exact rfl); (case kK => assumption); (case k1 => k_asm); (case k2 => k_asm); (case k3 => k_asm); (case k4 => k_asm); (case k5 => k_asm); (case k6 => k_is); (case k7 => k_is); (case k8 => ktr_room); (case k9 => exact BindsTo.of_eq rfl); (case c5 => decide); (case kB => exact locs rfl); (case c2 => exact rfl); (case c3 => exact rfl); (case c4 => exact rfl); intro g1 L1 h1 FG1 F1 N1 B1 X1 T1; (try dsimp only); (try k_lift B1))
  refine wpC_execs_cons (wpC_of_any ?_)
  k_steps
  dsimp only
  refine wpC_execs_cons (wpC_Assign_Attr (wpC_eval_Call ?_))
  k_steps
  refine' wpC_callWith_K (K := H.K w.params) ?k1 ?_; (case k1 => k_is)
  k_steps
  k_dflt (refine' CtrC.use (c_receiver _ _ _ _ _ _ _ _ _ _ hring) ?k1 ?k2 ?k3 ?k4 ?k5 ?kK ?kd ?ku ?_; (case k1 => k_asm); (case k2 => k_asm); (case k3 => k_asm); (case k4 => k_asm); (case k5 => k_asm); (case kK => first | exact rfl | assumption); (case kd => ktr_room); (case ku => (first | ktr_units | ((try simp only [units_under_make, units_in1, units_deeper, Around.mark_units, units_caller]); (try dsimp only [ktrTop]); omega))))
  intro y_0 y_1 y_2 y_3 y_4 y_5 y_6 y_7 y_8 y_9 y_10 y_11 y_12 y_13 y_14 y_15 y_16 y_17 y_18 y_19 r1 r2 r3 r4 r5 r6 h9 k9 F9 N9; (have r7 := r6); (try k_lt2 r1); (try k_lt2 r2); (try k_lt2 r3); (try k_lt2 r4); (try k_lt2 r5); (try k_lt r6); (try k_sweep)
  k_steps
  dsimp only
  refine wpC_of_any ?_
  k_steps
  all_goals (refine' hret _ _ _ _ _ _ _ _ _ _ _ _ _ _ _ _ _ _ _ _ _ _ _ _ rfl rfl _ _ ?F9 ?N9; (case F9 => k_asm); (case N9 => k_asm))

end Mine
end
section
set_option maxHeartbeats 8000000
open PySem PySem.W PyProof.Rows Mine.H
namespace Mine
local macro_rules | `(tactic| k_room) => `(tactic| ktr_room)
local macro_rules | `(tactic| k_units) => `(tactic| ktr_units)

theorem c_segment (w : World) (news : Led) (bs : List UInt8) (seq : Int) (g1 g2 t21 g3 g4 g5 g6 tb : Tok) :
    Ctr w 395 2 (news) [.int 90 g1, .int 80 g2, .int seq t21, .int 0 g3, .int 2 g4, .int 9 g5, .int 0 g6, .bytes bs.toArray tb] (fun k => ∀ (sgx sgd g7 gq1 gq2 gq3 gq4 gq5 gq6 gq7 gq8 gq9 : Nat), sgd < sgx → (∀ p ∈ news, p.1 < sgd) → k (.ref sgx) ((sgx, instObj 395 sgd) :: (sgd, dictOf [En w "source_port" gq1 (.int 90 g1), En w "target_port" gq2 (.int 80 g2), En w "seq" gq3 (.int seq t21), En w "ack" gq4 (.int 0 g3), En w "flags" gq5 (.int 2 g4), En w "window" gq6 (.int 9 g5), En w "urgent" gq7 (.int 0 g6), En w "options" gq8 (.bytes bs.toArray tb), En w "payload" gq9 (.bytes #[] g7)] 9) :: news)) := by
  unfold Ctr
  k_fill
  intro mean mg mb dp un gd cn cs a ccd cl outer A₀ base h₀ L m s Q E B F X N T hk hd hu hret
  k_dflt (refine' call_cls ?k1 ?k2 ?k3 ?k4 ?k5 ?k6 ?_; (case k1 => k_asm); (case k2 => k_asm); (case k3 => k_asm); (case k4 => k_is); (case k5 => k_is); (case k6 => k_is); k_whole; intro x1 d1 h1 F1 N1 l1 l2; (try k_lt l1); (try k_lt2 l2); (try k_sweep))
  k_dflt (refine' code_def (binds := [("self", .ref x1), ("source_port", .int 90 g1), ("target_port", .int 80 g2), ("seq", .int seq t21), ("ack", .int 0 g3), ("flags", .int 2 g4), ("window", .int 9 g5), ("urgent", .int 0 g6), ("options", .bytes bs.toArray tb), ("payload", .bytes #[] 686)]) ?k1 ?k2 ?k3 ?k4 ?k5 ?kA ?kF ?kK ?k6 ?k7 ?k8 ?k9 ?kB ?_ ?c2 ?c3 ?c4 ?c5; (case kA => exact rfl); (case kF => exact rfl); (case kK => assumption); (case k1 => k_asm); (case k2 => k_asm); (case k3 => k_asm); (case k4 => k_asm); (case k5 => k_asm); (case k6 => k_is); (case k7 => k_is); (case k8 => ktr_room); (case k9 => first | exact BindsTo.of_eq rfl | exact binds_K (by k_in) rfl (by k_is) rfl rfl rfl); (case c5 => decide); (case kB => exact locs rfl); (case c2 => exact rfl); (case c3 => exact rfl); (case c4 => exact rfl); k_whole; intro g1 L1 h1 FG1 F1 N1 B1 X1 T1; (try dsimp only); (try k_lift B1); (try k_fold))
  k_steps
  all_goals exact hret _ _ _ _ _ _ _ _ _ _ _ _ l2 l1 _ _ (by k_asm) (by k_asm)

abbrev tupOf (its : Array Value) (n : Nat) : Obj := { cls := .type "tuple", data := .seq its n }
theorem room_told {a ring room : Int} (h1 : 1 ≤ room) (h2 : room ≤ 40) (h3 : 100 ≤ ring) : ((a.fmod ring + room).fmod ring - a.fmod ring).fmod ring = room := by
  have p0 : 0 ≤ a.fmod ring := Int.fmod_nonneg_of_pos a (by omega)
  have p1 : a.fmod ring < ring := Int.fmod_lt_of_pos a (by omega)
  generalize a.fmod ring = x at p0 p1 ⊢
  rw [Int.fmod_eq_emod_of_nonneg _ (by omega : 0 ≤ ring), Int.fmod_eq_emod_of_nonneg _ (by omega : 0 ≤ ring)]
  by_cases h : x + room < ring
  · rw [Int.emod_eq_of_lt (by omega) h, show x + room - x = room by omega, Int.emod_eq_of_lt (by omega) (by omega)]
  · have e : (x + room) % ring = x + room - ring := by
      rw [← Int.sub_emod_right, Int.emod_eq_of_lt (by omega) (by omega)]
    rw [e, show x + room - ring - x = room - ring by omega, ← Int.add_emod_right, show room - ring + ring = room by omega, Int.emod_eq_of_lt (by omega) (by omega)]
theorem told_before {a ring room : Int} (h1 : 1 ≤ room) (h2 : room ≤ 40) (h3 : 100 ≤ ring) : (a.fmod ring - (a.fmod ring + room).fmod ring).fmod ring = ring - room := by
  have p0 : 0 ≤ a.fmod ring := Int.fmod_nonneg_of_pos a (by omega)
  have p1 : a.fmod ring < ring := Int.fmod_lt_of_pos a (by omega)
  generalize a.fmod ring = x at p0 p1 ⊢
  rw [Int.fmod_eq_emod_of_nonneg _ (by omega : 0 ≤ ring), Int.fmod_eq_emod_of_nonneg _ (by omega : 0 ≤ ring)]
  by_cases h : x + room < ring
  · rw [Int.emod_eq_of_lt (by omega) h, show x - (x + room) = - room by omega, ← Int.add_emod_right, show -room + ring = ring - room by omega, Int.emod_eq_of_lt (by omega) (by omega)]
  · have e : (x + room) % ring = x + room - ring := by
      rw [← Int.sub_emod_right, Int.emod_eq_of_lt (by omega) (by omega)]
    rw [e, show x - (x + room - ring) = ring - room by omega, Int.emod_eq_of_lt (by omega) (by omega)]






local macro_rules | `(tactic| walk_at "call ref") => `(tactic| (k_here; (with_reducible show wpAny _ _ (call (Value.ref 35) _) _ _ _); k_dflt (refine' Ctr.go (c_distance _ _ _ _ _ _ _ _ ?hr) ?_; (case hr => first | assumption | omega); k_whole); (iterate 5 (intro _)); (try k_sweep); (try dsimp only)))

theorem c_before_no (w : World) (news : Led) (a1 b1 ring : Int) (t1 t2 t3 : Tok) (hr : 0 < ring) (hn : ring ≤ 2 * (b1 - a1).fmod ring) : Ctr w 42 3 news [.int a1 t1, .int b1 t2, .int ring t3] (fun k => k (.bool false) news) := by
  intro mean mg mb dp un gd cn cs a ccd cl outer A₀ base h₀ L m s Q E B F X N T hk hd hu hret
  refine c_before w news a1 b1 ring t1 t2 t3 hr mean mg mb dp un gd cn cs a ccd cl outer A₀ base h₀ L m s Q E B F X N T hk hd hu fun b e => ?_
  have e2 : b = false := by rw [e, decide_eq_false_iff_not]; omega
  subst e2
  exact hret

local macro_rules | `(tactic| walk_at "call ref") => `(tactic| (k_here; (with_reducible show wpAny _ _ (call (Value.ref 42) _) _ _ _); k_dflt (refine' Ctr.go (c_before_no _ _ _ _ _ _ _ _ ?hr ?hn) ?_; (case hr => omega); (case hn => omega); k_whole); (iterate 4 (intro _)); (try k_sweep); (try dsimp only)))

theorem c_told {w : World} {news : Led} {rx rd rra rax : Nat} {ring own room seq : Int} {t1 t2 t4 v1 v2 : Tok} {rq1 rq2 rq3 rq4 rq5 rq6 rq7 rq8 rq9 rq10 : Nat} (hring : 100 ≤ ring) (hr1 : 1 ≤ room) (hr2 : room ≤ 40) (hm1 : (rx, instObj 282 rd) ∈ news) (hm2 : (rd, dictOf [En w "ring" rq1 (.int ring t1), En w "room" rq2 (.int room t4), En w "mss" rq3 (.int own t2), En w "next" rq4 (.int ((seq + 1).fmod ring) v1), En w "ready" rq5 (.ref rra), En w "assembly" rq6 (.ref rax), En w "told_edge" rq7 (.int (((seq + 1).fmod ring + room).fmod ring) v2), En w "fin_at" rq8 .none, En w "has_fin" rq9 (.bool false), En w "urgent_at" rq10 .none] 10) ∈ news) :
    Ctr w 188 4 (news) [.ref rx] (fun k => ∀ t, k (.int room t) news) := by
  unfold Ctr
  k_fill
  intro mean mg mb dp un gd cn cs a ccd cl outer A₀ base h₀ L m s Q E B F X N T hk hd hu hret
  have f1 := @room_told (seq + 1) ring room hr1 hr2 hring
  have f2 := @told_before (seq + 1) ring room hr1 hr2 hring
  refine wpAny_call ?_
  k_dflt (refine' code_def (binds := [("self", .ref rx)]) ?k1 ?k2 ?k3 ?k4 ?k5 ?kA ?kF ?kK ?k6 ?k7 ?k8 ?k9 ?kB ?_ ?c2 ?c3 ?c4 ?c5; (case kA => exact rfl); (case kF => exact rfl); (case kK => assumption); (case k1 => k_asm); (case k2 => k_asm); (case k3 => k_asm); (case k4 => k_asm); (case k5 => k_asm); (case k6 => k_is); (case k7 => k_is); (case k8 => ktr_room); (case k9 => exact BindsTo.of_eq rfl); (case c5 => decide); (case kB => exact locs rfl); (case c2 => exact rfl); (case c3 => exact rfl); (case c4 => exact rfl); k_whole; intro g1 L1 h1 FG1 F1 N1 B1 X1 T1; (try dsimp only); (try k_lift B1); (try k_fold))
  k_steps
  all_goals first | (exfalso; omega) | (rw [f1]; exact hret _ _ _ (by k_asm) (by k_asm))

end Mine
end
section
set_option maxHeartbeats 8000000
open PySem PySem.W PyProof.Rows Mine.H
namespace Mine
local macro_rules | `(tactic| k_room) => `(tactic| ktr_room)
local macro_rules | `(tactic| k_units) => `(tactic| ktr_units)


theorem ne_list3 {prog : Program} {w : World} {A : Around} {E : Value → Shared → Prop} {s : Shared} {h₀ : Heap} {L : Addr} {news : Led} {a b : Addr} {n k : Nat} {x y : Int} {t1 t2 t3 t4 k1 k2 : Tok} {Q : Value → Shared → Prop}
    (N : News h₀ L s.heap news) (ha : (a, PySem.W.listOf #[.int x t1, .int y t2, .str "closed" k1] n) ∈ news) (hb : (b, PySem.W.listOf #[.int x t3, .int y t4, .str "closed" k2] k) ∈ news) (hu : A.units + 64 < cLine) (h : Q (.bool false) s) :
    wpAny (model prog w) A (compareOp .NotEq (.ref a) (.ref b)) Q E s := by
  refine ne_dataH (da := .list [.int x, .int y, .str "closed"]) (db := .list [.int x, .int y, .str "closed"])
    (reads_list_at (News.get N ha) rfl rfl (.cons (.int _ _) (.cons (.int _ _) (.cons (.str _ _) .nil))))
    (reads_list_at (News.get N hb) rfl rfl (.cons (.int _ _) (.cons (.int _ _) (.cons (.str _ _) .nil)))) (by ke_shaped) (by ke_shaped) hu ?_
  ke_norm
  exact h
theorem ne_list3i {prog : Program} {w : World} {A : Around} {E : Value → Shared → Prop} {s : Shared} {h₀ : Heap} {L : Addr} {news : Led} {a b : Addr} {n k : Nat} {x y z : Int} {t1 t2 t3 t4 k1 k2 : Tok} {Q : Value → Shared → Prop}
    (N : News h₀ L s.heap news) (ha : (a, PySem.W.listOf #[.int x t1, .int y t2, .int z k1] n) ∈ news) (hb : (b, PySem.W.listOf #[.int x t3, .int y t4, .int z k2] k) ∈ news) (hu : A.units + 64 < cLine) (h : Q (.bool false) s) :
    wpAny (model prog w) A (compareOp .NotEq (.ref a) (.ref b)) Q E s := by
  refine ne_dataH (da := .list [.int x, .int y, .int z]) (db := .list [.int x, .int y, .int z])
    (reads_list_at (News.get N ha) rfl rfl (.cons (.int _ _) (.cons (.int _ _) (.cons (.int _ _) .nil))))
    (reads_list_at (News.get N hb) rfl rfl (.cons (.int _ _) (.cons (.int _ _) (.cons (.int _ _) .nil)))) (by ke_shaped) (by ke_shaped) hu ?_
  ke_norm
  exact h

local macro_rules | `(tactic| walk_at "compareOp NotEq ref ref") => `(tactic| (k_here; k_dflt (first | (refine' ne_list3 ?N ?ha ?hb ?hu ?_; (case N => with_reducible assumption); (case ha => k_mem); (case hb => k_mem); (case hu => ke_room); k_whole) | (refine' ne_list3i ?N ?ha ?hb ?hu ?_; (case N => with_reducible assumption); (case ha => k_mem); (case hb => k_mem); (case hu => ke_room); k_whole))))

local macro_rules | `(tactic| walk_at "callWith ref") => `(tactic| (k_here; (with_reducible show wpAny _ _ (callWith _ (Value.ref _) [_] (backTo _ (starEach [] _)) []) _ _ _); k_dflt (refine' callWith_K0 (K := H.K _) ?k1 ?k2 ?_; (case k1 => exact Frag.In.keeps (by with_reducible assumption) (Fr.keep (by with_reducible assumption))); (case k2 => k_is); k_whole); (try dsimp only [List.cons_append, List.nil_append])))

local macro_rules | `(tactic| walk_at "eval IfExp") => `(tactic| (k_here; refine' cut_told (by assumption) ?e1 ?e2 ?e3; (case' e1 => (intro e9; subst e9)); (case' e2 => (intro _ _; intro e9; subst e9)); (case' e3 => (intro _ _; (try dsimp only)))))

local macro_rules | `(tactic| walk_at "call builtin:len") => `(tactic| (k_here; (with_reducible show wpAny _ _ (call (Value.builtin "len") [Value.ref _]) _ _ _); k_dflt (refine' BA.len_0 ?k1 ?k2 ?_; (case k1 => k_asm); (case k2 => k_mem); k_whole)))

local macro_rules | `(tactic| walk_at "call ref") => `(tactic| (k_here; (with_reducible show wpAny _ _ (call (Value.ref 395) _) _ _ _); k_dflt (refine' Ctr.go (c_segment _ _ _ _ _ _ _ _ _ _ _ _) ?_; k_whole); (iterate 12 (intro _)); intro la9 lb9; (iterate 4 (intro _)); (try k_lt2 la9); (have lb9k := lb9); (try k_lt lb9); (try k_sweep); (try dsimp only)))

local macro_rules | `(tactic| walk_at "call ref") => `(tactic| (k_here; (with_reducible show wpAny _ _ (call (Value.ref 1067) _) _ _ _); k_dflt (refine' Ctr.go (c_limits _ _ _ _ _ _ _ _ _ _ _ _ _ _ _) ?_; k_whole); (iterate 12 (intro _)); intro la9 lb9; (iterate 4 (intro _)); (try k_lt2 la9); (have lb9k := lb9); (try k_lt lb9); (try k_sweep); (try dsimp only)))

local macro_rules | `(tactic| walk_at "call ref") => `(tactic| (k_here; (with_reducible show wpAny _ _ (call (Value.ref 1110) _) _ _ _); k_dflt (refine' Ctr.go (c_tcb _ _ _ _ _ _ _ _ _ _ _ _ _ _ _ _ _ _ _ _ _ _ _ _ _ _ _ _ _ _) (N := by first | k_asm | exact dropN (dropN (by k_asm))) ?_; k_whole); (iterate 66 (intro _)); intro lb9; (iterate 4 (intro _)); (have lb9k := lb9); (try k_lt lb9); (try k_sweep); (try dsimp only)))

local macro_rules | `(tactic| walk_at "call ref") => `(tactic| (k_here; (with_reducible show wpAny _ _ (call (Value.ref 35) _) _ _ _); k_dflt (refine' Ctr.go (c_distance _ _ _ _ _ _ _ _ ?hr) ?_; (case hr => first | assumption | omega); k_whole); (iterate 5 (intro _)); (try k_sweep); (try dsimp only)))

local macro_rules | `(tactic| walk_at "call ref") => `(tactic| (k_here; (with_reducible show wpAny _ _ (call (Value.ref 42) _) _ _ _); k_dflt (refine' Ctr.go (c_before_no _ _ _ _ _ _ _ _ ?hr ?hn) ?_; (case hr => omega); (case hn => omega); k_whole); (iterate 4 (intro _)); (try k_sweep); (try dsimp only)))

local macro_rules | `(tactic| walk_at "call ref") => `(tactic| (k_here; (with_reducible show wpAny _ _ (call (Value.ref 188) _) _ _ _); k_dflt (refine' Ctr.go (c_told (hring := ?a1) (hr1 := ?a2) (hr2 := ?a3) (hm1 := ?m1) (hm2 := ?m2)) ?_; (case m1 => k_mem); (case m2 => k_mem); (case a1 => assumption); (case a2 => assumption); (case a3 => assumption); k_whole); (iterate 5 (intro _)); (try k_sweep); (try dsimp only)))


local macro_rules | `(tactic| k_mem) => `(tactic| assumption)
theorem News.gen {h₀ h : Heap} {L : Addr} {all : Led} (N : News h₀ L h all) {P : Prop} (k : ∀ led, News h₀ L h led → (∀ p ∈ all, p ∈ led) → P) : P := k all N fun _ z => z
theorem c_right (w : World) (news : Led) (bs : List UInt8) (r : Option Int) (ring own room seq : Int) (fx nf : Nat) (vt : Value) (t1 t2 t4 t21 tb : Tok) (hring : 100 ≤ ring) (hown : 0 < own) (hown2 : own ≤ 1460) (hr1 : 1 ≤ room) (hr2 : room ≤ 40) (hm : (fx, tupOf #[.bytes bs.toArray tb, vt] nf) ∈ news) (hv : IsTold r vt) (M : MssOf w bs tb r) :
    CtrC w 1149 11 (news) [.int ring t1, .int own t2, .int room t4, .int seq t21, .ref fx] (fun k => k (.bool true) news) := by
  unfold CtrC
  k_fill
  intro mean mg mb dp un gd cn cs a ccd cl outer A₀ base h₀ L m s Q E B F X N T hk hd hu hret
  have f1 := @room_told (seq + 1) ring room hr1 hr2 hring
  have f2 := @told_before (seq + 1) ring room hr1 hr2 hring
  refine wpC_call ?_
  k_dflt (refine' codeC_def (C := 0) (binds := [("ring", .int ring t1), ("own", .int own t2), ("room", .int room t4), ("seq", .int seq t21), ("form", .ref fx)]) ?k1 ?k2 ?k3 ?k4 ?k5 ?kA ?kF ?kK ?k6 ?k7 ?k8 ?k9 ?kB ?_ ?c2 ?c3 ?c4 ?c5; (case kA => exact rfl); (case kF => exact rfl); (case kK => assumption); (case k1 => k_asm); (case k2 => k_asm); (case k3 => k_asm); (case k4 => k_asm); (case k5 => k_asm); (case k6 => k_is); (case k7 => k_is); (case k8 => ktr_room); (case k9 => exact BindsTo.of_eq rfl); (case c5 => decide); (case kB => exact locs rfl); (case c2 => exact rfl); (case c3 => exact rfl); (case c4 => exact rfl); intro g1 L1 h1 FG1 F1 N1 B1 X1 T1; (try dsimp only); (try k_lift B1))
  refine wpC_execs_cons (wpC_of_any ?_)
  k_steps
  dsimp only
  refine wpC_execs_cons (wpC_of_any ?_)
  k_steps
  dsimp only
  refine wpC_execs_cons ?_
  refine' wpC_Expr (hi := ?hi) (hs := ?hs) ?_
  case hi => exact rfl
  case hs => exact rfl
  refine wpC_eval_Call ?_
  k_steps
  refine' wpC_callWith_K (K := H.K w.params) ?k1 ?_; (case k1 => k_is)
  k_steps
  k_dflt (refine' CtrC.use (c_take _ _ _ _ _ _ _ _ _ _ _ _ _ _ _ _ _ _ _ _ _ _ _ _ _ _ _ _ _ _ ?s1 ?s2 ?s3 ?s4 _ _ _ _ _ _ _ _ _ _ _ _ _ _ _ _ _ _ _ _ _ _ _ _ _ _ _ _ _ _ _ _ _ _ _ _ _ _ _ _ _ _ _ _ _ _ _ _ _ _ _ _ _ _ _ _ _ _ _ _ _ _ _ _ _ _ _ _ _ _ _ _ _ _ _ _ _ _ _ _ _ _ ?s5 ?s6 ?h0 ?h1 ?h2 ?h3 ?h4 ?h5 ?h6 ?s7) ?k1 ?k2 ?k3 ?k4 ?k5 ?kK ?kd ?ku ?_; (case k1 => k_asm); (case k2 => k_asm); (case k3 => k_asm); (case k4 => k_asm); (case k5 => k_asm); (case kK => first | exact rfl | assumption); (case kd => ktr_room); (case ku => (first | ktr_units | ((try simp only [units_under_make, units_in1, units_deeper, Around.mark_units, units_caller]); (try dsimp only [ktrTop]); omega))); (case s1 => omega); (case s2 => omega); (case s3 => omega); (case s4 => assumption); (case s5 => omega); (case s6 => omega); (case h0 => omega); (case h1 => omega); (case h2 => omega); (case h3 => omega); (case h4 => omega); (case h5 => omega); (case h6 => omega); (case s7 => assumption))
  intro dv sz w9x0 w9x1 w9x2 w9x3 w9x4 w9x5 w9x6 w9x7 w9x8 w9x9 w9x10 w9x11 w9x12 w9x13 w9x14 w9x15 w9x16 w9x17 w9x18 w9x19 w9x20 w9x21 ed es h9 k9 F9 N9
  dsimp only
  have es : sz = 2 * dv := by rw [es, ← ed]
  subst es
  unfold due at ed
  refine News.gen N9 fun led N8 hin => ?_
  have m1 := hin (_, instObj 1110 _) (by k_mem)
  have m2 := hin (_, dictOf _ 14) (by k_mem)
  have m3 := hin (_, instObj 979 _) (by k_mem)
  have m4 := hin (_, dictOf _ 11) (by k_mem)
  have m5 := hin (_, instObj 557 _) (by k_mem)
  have m6 := hin (_, dictOf _ 8) (by k_mem)
  have m7 := hin (_, instObj 282 _) (by k_mem)
  have m8 := hin (_, dictOf _ 10) (by k_mem)
  have m9 := hin (_, BA.fresh) (by k_mem)
  have m10 := hin (_, instObj 148 _) (by k_mem)
  have m11 := hin (_, dictOf _ 2) (by k_mem)
  have m12 := hin (_, PySem.W.listOf #[] 0) (by k_mem)
  have m13 := hin (_, instObj 788 _) (by k_mem)
  have m14 := hin (_, dictOf _ 5) (by k_mem)
  have hnews : ∀ p ∈ news, p ∈ led := fun p hp => hin p (by repeat (first | exact hp | refine List.mem_cons_of_mem _ ?_))
  clear hin N9
  refine wpC_execs_cons (wpC_of_any ?_)
  k_steps
  dsimp only
  with_reducible rename Fr _ _ _ _ => F9
  simp only [← ed] at F9
  clear ed
  refine wpC_execs_cons (wpC_of_any ?_)
  k_steps
  dsimp only
  refine wpC_of_any ?_
  k_steps
  all_goals (refine hret _ _ (by k_asm) (fun p hp => ?_); (with_reducible rename News h₀ L _ _ => N9); exact N9 p (by repeat (first | exact hnews p hp | refine List.mem_cons_of_mem _ ?_)))

end Mine
end
section
set_option maxHeartbeats 8000000
open PySem PySem.W PyProof.Rows Mine.H
namespace Mine
local macro_rules | `(tactic| k_room) => `(tactic| ktr_room)
local macro_rules | `(tactic| k_units) => `(tactic| ktr_units)

theorem noPylong_wide {x y : Int} (h0 : 0 < y) (h : y ≤ 4294967296) : Builtin.divisionGoesByPylong x y = false := by
  refine PyProof.noPylong_of_log2 ?_
  have h1 : y.natAbs ≠ 0 := by omega
  have h2 : y.natAbs.log2 < 33 := (Nat.log2_lt h1).mpr (by omega)
  omega
abbrev srcOf (g m : Int) (tg tm : Tok) : Obj := PySem.W.listOf #[.int g tg, .int m tm] 0
local macro_rules | `(tactic| k_all) => `(tactic| assumption)
theorem floordiv_wide {prog : Program} {w : World} {A : Around} {E : Value → Shared → Prop} {s : Shared} {a b : Int} {t u : Tok} {Q : Value → Shared → Prop} (h0 : 0 < b) (h1 : b ≤ 4294967296) (h : Q (.int (a.fdiv b) s.toks) { s with toks := s.toks + 1 }) :
    wpAny (model prog w) A (binaryOp .FloorDiv (.int a t) (.int b u)) Q E s :=
  floordiv_int (by omega) h (Or.inl (noPylong_wide h0 h1))
local macro_rules | `(tactic| walk_at "binaryOp FloorDiv int int") => `(tactic| (k_here; refine' floordiv_wide ?a ?b ?_; (case a => first | decide | assumption); (case b => first | decide | assumption)))

theorem mul_rem {prog : Program} {w : World} {A : Around} {E : Value → Shared → Prop} {s : Shared} {a b : Int} {t u : Tok} {Q : Value → Shared → Prop} (ha : ∃ z, a = Int.fmod z 2147483647) (h : Q (.int (a * b) s.toks) { s with toks := s.toks + 1 }) :
    wpAny (model prog w) A (binaryOp .Mult (.int a t) (.int b u)) Q E s := by
  obtain ⟨z, e⟩ := ha
  have h1 := Int.fmod_nonneg_of_pos z (show (0 : Int) < 2147483647 by decide)
  have h2 := Int.fmod_lt_of_pos z (show (0 : Int) < 2147483647 by decide)
  exact PyProof.Rows.mul_int h (PySem.IntMulOk.of_left (PySem.intBits_le_64 (by omega) (by omega)))
local macro_rules | `(tactic| walk_at "binaryOp Mult int int") => `(tactic| (k_here; refine' mul_rem ?a ?_; (case a => exact ⟨_, rfl⟩)))

theorem c_lawtake (w : World) (news : Led) (sx : Nat) (g mi top : Int) (tg tm tt : Tok) (hsx : ∀ p ∈ news, p.1 ≠ sx) (hg : 0 ≤ g) (hm0 : 0 ≤ mi) (hm1 : mi < 2147483647) (ht0 : 0 < top) (ht1 : top ≤ 4294967296) :
    Ctr w 1128 3 (((sx, srcOf g mi tg tm) :: news)) [.ref sx, .int top tt] (fun k => ∀ (d g1 m1 : Int) (t tg1 tm1 : Tok), 0 ≤ d → d < top → 0 ≤ g1 → 0 ≤ m1 → m1 < 2147483647 → k (.int d t) ((sx, srcOf g1 m1 tg1 tm1) :: news)) := by
  unfold Ctr
  k_fill
  intro mean mg mb dp un gd cn cs a ccd cl outer A₀ base h₀ L m s Q E B F X N T hk hd hu hret
  refine wpAny_call ?_
  k_dflt (refine' code_def (binds := [("source", .ref sx), ("top", .int top tt)]) ?k1 ?k2 ?k3 ?k4 ?k5 ?kA ?kF ?kK ?k6 ?k7 ?k8 ?k9 ?kB ?_ ?c2 ?c3 ?c4 ?c5; (case kA => exact rfl); (case kF => exact rfl); (case kK => assumption); (case k1 => k_asm); (case k2 => k_asm); (case k3 => k_asm); (case k4 => k_asm); (case k5 => k_asm); (case k6 => k_is); (case k7 => k_is); (case k8 => ktr_room); (case k9 => exact BindsTo.of_eq rfl); (case c5 => decide); (case kB => exact locs rfl); (case c2 => exact rfl); (case c3 => exact rfl); (case c4 => exact rfl); k_whole; intro g1 L1 h1 FG1 F1 N1 B1 X1 T1; (try dsimp only); (try k_lift B1); (try k_fold))
  k_steps
  all_goals first
    | exact hret (g.fmod top) (g.fdiv top) mi _ _ _ (Int.fmod_nonneg_of_pos _ ht0) (Int.fmod_lt_of_pos _ ht0) (Int.fdiv_nonneg hg (Int.le_of_lt ht0)) hm0 hm1 _ _ (by k_asm) (by k_asm)
    | exact hret (((((mi * 39373 + 7).fmod 2147483647 * (mi * 39373 + 7).fmod 2147483647).fmod 2147483629).fdiv 32).fmod top) g ((mi * 39373 + 7).fmod 2147483647) _ _ _ (Int.fmod_nonneg_of_pos _ ht0) (Int.fmod_lt_of_pos _ ht0) hg (Int.fmod_nonneg_of_pos _ (by decide)) (Int.fmod_lt_of_pos _ (by decide)) _ _ (by k_asm) (by k_asm)

end Mine
end
section
set_option maxHeartbeats 8000000
open PySem PySem.W PyProof.Rows Mine.H
namespace Mine
local macro_rules | `(tactic| k_room) => `(tactic| ktr_room)
local macro_rules | `(tactic| k_units) => `(tactic| ktr_units)

theorem item_any {prog : Program} {w : World} {A : Around} {E : Value → Shared → Prop} {s : Shared} {value slice : PySem.Expr} {l : Addr} {vs : List Value} {k : Int} {u : Tok} {Q : Value → Shared → Prop} (hl : s.heap.IsList l vs.toArray)
    (h0 : 0 ≤ k) (h1 : k < (vs.length : Int)) (h2 : vs.length ≤ 1000) (h : ∀ v, v ∈ vs → Q v s)
    (hs : subscripted slice false (.ref l) (.int k u) = operate [.ref l, .int k u] (getItem (.ref l) (.int k u)) := by with_unfolding_all rfl) (hg : ∀ r, letTemporaryGo value (.ref l) r = pure () := by intro _; with_unfolding_all rfl) :
    wpAny (model prog w) A (subscriptTail value slice (.ref l) (.int k u)) Q E s := by
  have hk : k.toNat < vs.length := by omega
  exact PyProof.Rows.item_list (x := vs[k.toNat]) hl h0 (by omega) (by simp [hk]) (h _ (List.getElem_mem hk)) hs hg
local macro_rules | `(tactic| walk_at "call builtin:len") => `(tactic| (k_here; (with_reducible show wpAny _ _ (call (Value.builtin "len") [Value.ref _]) _ _ _); refine' PyProof.Rows.len_list ?hl ?hf ?_; (case hl => exact News.isList (by k_asm) (List.Mem.tail _ (by assumption))); (case hf => (simp only [List.size_toArray]; omega))))
local macro_rules | `(tactic| walk_at "subscriptTail") => `(tactic| (k_here; (with_reducible show wpAny _ _ (subscriptTail _ _ (Value.ref _) (Value.int _ _)) _ _ _); refine' item_any ?hl ?h0 ?h1 ?h2 ?_ ?hs ?hg; (case hl => exact News.isList (by k_asm) (List.Mem.tail _ (by assumption))); (case h0 => assumption); (case h1 => assumption); (case h2 => assumption); (case hs => with_unfolding_all rfl); (case hg => (intro _; with_unfolding_all rfl)); intro _ _))

local macro_rules | `(tactic| walk_at "call ref") => `(tactic| (k_here; (with_reducible show wpAny _ _ (call (Value.ref 1128) _) _ _ _); k_dflt (refine' Ctr.go (c_lawtake _ _ _ _ _ _ _ _ _ ?hsx ?hg ?hm0 ?hm1 ?ht0 ?ht1) ?_; (case hsx => assumption); (case hg => assumption); (case hm0 => assumption); (case hm1 => assumption); (case ht0 => (first | decide | assumption | (simp only [List.size_toArray]; omega))); (case ht1 => (first | decide | assumption | (simp only [List.size_toArray]; omega))); k_whole); (iterate 15 (intro _)); (try k_sweep); (try dsimp only)))

theorem c_lawone (w : World) (news : Led) (sx lx : Nat) (g mi : Int) (tg tm : Tok) (vs : List Value) (hsx : ∀ p ∈ news, p.1 ≠ sx) (hg : 0 ≤ g) (hm0 : 0 ≤ mi) (hm1 : mi < 2147483647) (hl : (lx, PySem.W.listOf vs.toArray 0) ∈ news) (hv0 : 0 < vs.length) (hv1 : vs.length ≤ 1000) :
    Ctr w 1135 5 (((sx, srcOf g mi tg tm) :: news)) [.ref sx, .ref lx] (fun k => ∀ (v : Value), v ∈ vs → ∀ (g1 m1 : Int) (tg1 tm1 : Tok), 0 ≤ g1 → 0 ≤ m1 → m1 < 2147483647 → k v ((sx, srcOf g1 m1 tg1 tm1) :: news)) := by
  unfold Ctr
  k_fill
  intro mean mg mb dp un gd cn cs a ccd cl outer A₀ base h₀ L m s Q E B F X N T hk hd hu hret
  refine wpAny_call ?_
  k_dflt (refine' code_def (binds := [("source", .ref sx), ("things", .ref lx)]) ?k1 ?k2 ?k3 ?k4 ?k5 ?kA ?kF ?kK ?k6 ?k7 ?k8 ?k9 ?kB ?_ ?c2 ?c3 ?c4 ?c5; (case kA => exact rfl); (case kF => exact rfl); (case kK => assumption); (case k1 => k_asm); (case k2 => k_asm); (case k3 => k_asm); (case k4 => k_asm); (case k5 => k_asm); (case k6 => k_is); (case k7 => k_is); (case k8 => ktr_room); (case k9 => exact BindsTo.of_eq rfl); (case c5 => decide); (case kB => exact locs rfl); (case c2 => exact rfl); (case c3 => exact rfl); (case c4 => exact rfl); k_whole; intro g1 L1 h1 FG1 F1 N1 B1 X1 T1; (try dsimp only); (try k_lift B1); (try k_fold))
  k_steps
  all_goals (refine' hret _ ?hv _ _ _ _ ?a ?b ?c _ _ ?F ?N; (case N => k_asm); (case F => k_asm); (case hv => assumption); (case a => assumption); (case b => assumption); (case c => assumption))

end Mine
end
section
set_option maxHeartbeats 8000000
open PySem PySem.W PyProof.Rows Mine.H
namespace Mine
local macro_rules | `(tactic| k_room) => `(tactic| ktr_room)
local macro_rules | `(tactic| k_units) => `(tactic| ktr_units)

def FormOk (w : World) (own : Led) (v : Value) : Prop := ∃ (fx : Nat) (bs : List UInt8) (tb : Tok) (vt : Value) (nf : Nat) (r : Option Int), v = .ref fx ∧ (fx, tupOf #[.bytes bs.toArray tb, vt] nf) ∈ own ∧ IsTold r vt ∧ MssOf w bs tb r
local macro_rules | `(tactic| walk_at "call type:bytes") => `(tactic| (k_here; (with_reducible show wpAny _ _ (call (Value.type _) [Value.ref _]) _ _ _); k_dflt (refine' bytes_K ?F ?N ?l ?i ?r ?z ?h ?_; (case F => k_asm); (case N => k_asm); (case l => exact News.isList (by k_asm) (by k_mem)); (case i => l_ints); (case r => by_in); (case z => size_fits); (case h => with_unfolding_all rfl); k_whole); (iterate 5 (intro _)); intro hB'; clear hB'; (try dsimp only [List.map]); (try k_sweep)))

section
variable {prog : Program} {w : World} {A : Around} {E : Value → Shared → Prop} {s : Shared} {value slice : PySem.Expr} {x y z v : UInt8} {t u3 : Tok} {h₀ : Heap} {L : Addr} {m : PySem.Str → Option Value} {news : Led} {Q : Value → Shared → Prop}
theorem picked3 : KBy.picked #[x, y, z, v] none (some 3) = ([x, y, z] : List UInt8).toArray := by with_unfolding_all rfl
theorem slice3 (hF : Fr h₀ L s.heap m) (hN : News h₀ L s.heap news)
    (h : ∀ h' t' k, Fr h₀ L h' m → News h₀ L h' news → Q (.bytes ([x, y, z] : List UInt8).toArray t') { s with heap := h', toks := k })
    (hs : subscripted slice false (.bytes #[x, y, z, v] t) (.ref s.heap.objs.size) = operate [.ref s.heap.objs.size, .bytes #[x, y, z, v] t] (getItem (.bytes #[x, y, z, v] t) (.ref s.heap.objs.size)) := by with_unfolding_all rfl)
    (ht : ∀ r, letTemporaryGo value (.bytes #[x, y, z, v] t) r = pure () := by intro _; with_unfolding_all rfl) :
    wpAny (model prog w) A (subscriptTail value slice (.bytes #[x, y, z, v] t) (.ref s.heap.objs.size)) Q E { s with heap := s.heap.push { cls := .type "slice", data := .fields #[.none, .int 3 u3, .none] } } := by
  refine KBy.slice_N (lo := none) (hi := some 3) hF hN (by constructor) (by constructor) (by with_unfolding_all rfl) ?_ (fun h' t' k f n => ?_) hs ht
  · rw [picked3]; show 3 ≤ 16777216; decide
  · rw [picked3]; exact h h' t' k f n
end
local macro_rules | `(tactic| walk_at "subscriptTail") => `(tactic| (k_here; (with_reducible show wpAny _ _ (subscriptTail _ (Expr.Slice _ _ none _) (Value.bytes _ _) (Value.ref _)) _ _ _); (with_reducible rename Fr _ _ _ _ => F'); (with_reducible rename News _ _ _ _ => N'); (refine slice3 (s := ⟨_, _, _, _, _⟩) F' N' ?_); (iterate 5 (intro _)); (try k_sweep)))

theorem mss_none {w : World} {bs : List UInt8} {tb : Tok} (C : ∀ news, Ctr w 406 6 news [.bytes bs.toArray tb] (fun k => k .none news)) : MssOf w bs tb none := by
  intro news mean mg mb dp un gd cn cs a ccd cl outer A₀ base h₀ L m s Q E B F X N T hk hd hu hret
  exact C news mean mg mb dp un gd cn cs a ccd cl outer A₀ base h₀ L m s Q E B F X N T hk hd hu (hret .none rfl)
theorem mss_some {w : World} {bs : List UInt8} {tb : Tok} {n k : Int} (e : k = n) (C : ∀ news, Ctr w 406 6 news [.bytes bs.toArray tb] (fun q => ∀ t, q (.int k t) news)) : MssOf w bs tb (some n) := by
  subst e
  intro news mean mg mb dp un gd cn cs a ccd cl outer A₀ base h₀ L m s Q E B F X N T hk hd hu hret
  exact C news mean mg mb dp un gd cn cs a ccd cl outer A₀ base h₀ L m s Q E B F X N T hk hd hu (fun t => hret _ ⟨t, rfl⟩)
theorem form_ok {w : World} {own : Led} {fx : Nat} {bs : List UInt8} {tb : Tok} {vt : Value} {nf : Nat} {r : Option Int} (hm : (fx, tupOf #[.bytes bs.toArray tb, vt] nf) ∈ own) (ht : IsTold r vt) (M : MssOf w bs tb r) : FormOk w own (.ref fx) := ⟨fx, bs, tb, vt, nf, r, rfl, hm, ht, M⟩

theorem c_forms (w : World) (news : Led) (size : Int) (ts : Tok) (hs0 : 0 ≤ size) (hs1 : size < 65536) :
    Ctr w 1142 3 (news) [.int size ts] (fun k => ∀ (lx : Nat) (vs : List Value) (all : Led), vs.length = 9 → (∀ v ∈ vs, FormOk w all v) → (lx, PySem.W.listOf vs.toArray 0) ∈ all → (∀ p ∈ news, p ∈ all) → k (.ref lx) all) := by
  unfold Ctr
  k_fill
  intro mean mg mb dp un gd cn cs a ccd cl outer A₀ base h₀ L m s Q E B F X N T hk hd hu hret
  have hz1 := Int.fdiv_nonneg hs0 (show (0 : Int) ≤ 256 by decide)
  have hz2 : size.fdiv 256 < 256 := by rw [Int.fdiv_eq_ediv_of_nonneg _ (by decide)]; omega
  have hz3 := Int.fmod_nonneg_of_pos size (show (0 : Int) < 256 by decide)
  have hz4 := Int.fmod_lt_of_pos size (show (0 : Int) < 256 by decide)
  have hz5 := byte_back hz1 hz2
  have hz6 := byte_back hz3 hz4
  have hz7 : 256 * size.fdiv 256 + size.fmod 256 = size := Int.mul_fdiv_add_fmod size 256
  refine wpAny_call ?_
  k_dflt (refine' code_def (binds := [("size", .int size ts)]) ?k1 ?k2 ?k3 ?k4 ?k5 ?kA ?kF ?kK ?k6 ?k7 ?k8 ?k9 ?kB ?_ ?c2 ?c3 ?c4 ?c5; (case kA => exact rfl); (case kF => exact rfl); (case kK => assumption); (case k1 => k_asm); (case k2 => k_asm); (case k3 => k_asm); (case k4 => k_asm); (case k5 => k_asm); (case k6 => k_is); (case k7 => k_is); (case k8 => ktr_room); (case k9 => exact BindsTo.of_eq rfl); (case c5 => decide); (case kB => exact locs rfl); (case c2 => exact rfl); (case c3 => exact rfl); (case c4 => exact rfl); k_whole; intro g1 L1 h1 FG1 F1 N1 B1 X1 T1; (try dsimp only); (try k_lift B1); (try k_fold))
  k_steps
  all_goals (refine' hret _ _ _ ?len ?f ?m ?s _ _ ?F ?N; (case N => k_asm); (case F => k_asm); (case m => k_mem); (case len => rfl); (case s => (intro p hp; repeat (first | exact hp | refine List.mem_cons_of_mem _ ?_))); (case f =>
    refine List.forall_mem_cons.mpr ⟨form_ok (by k_mem) (r := none) rfl (mss_none fun _ => c_mss0 _ _ _), ?_⟩
    refine List.forall_mem_cons.mpr ⟨form_ok (by k_mem) (r := some size) ⟨_, rfl⟩ (mss_some hz7 fun _ => c_mss1 _ _ _ _ _ _ _ hz1 hz2 hz3 hz4 hz5 hz6), ?_⟩
    refine List.forall_mem_cons.mpr ⟨form_ok (by k_mem) (r := some size) ⟨_, rfl⟩ (mss_some hz7 fun _ => c_mss2 _ _ _ _ _ _ _ hz1 hz2 hz3 hz4 hz5 hz6), ?_⟩
    refine List.forall_mem_cons.mpr ⟨form_ok (by k_mem) (r := some size) ⟨_, rfl⟩ (mss_some hz7 fun _ => c_mss3 _ _ _ _ _ _ _ hz1 hz2 hz3 hz4 hz5 hz6), ?_⟩
    refine List.forall_mem_cons.mpr ⟨form_ok (by k_mem) (r := some size) ⟨_, rfl⟩ (mss_some hz7 fun _ => c_mss4 _ _ _ _ _ _ _ hz1 hz2 hz3 hz4 hz5 hz6), ?_⟩
    refine List.forall_mem_cons.mpr ⟨form_ok (by k_mem) (r := none) rfl (mss_none fun _ => c_mss5 _ _ _ _ _ _ _ hz1 hz2 hz3 hz4 hz5 hz6), ?_⟩
    refine List.forall_mem_cons.mpr ⟨form_ok (by k_mem) (r := none) rfl (mss_none fun _ => c_mss6 _ _ _ _ _ _ _ hz1 hz2 hz3 hz4 hz5 hz6), ?_⟩
    refine List.forall_mem_cons.mpr ⟨form_ok (by k_mem) (r := none) rfl (mss_none fun _ => c_mss7 _ _ _ _ _ _ _ hz1 hz2 hz3 hz4 hz5 hz6), ?_⟩
    exact List.forall_mem_cons.mpr ⟨form_ok (by k_mem) (r := none) rfl (mss_none fun _ => c_mss8 _ _ _ _), fun _ h => nomatch h⟩))

end Mine
end
section
set_option maxHeartbeats 8000000
open PySem PySem.W PyProof.Rows Mine.H
namespace Mine
local macro_rules | `(tactic| walk_at "zz") => `(tactic| skip)
local macro_rules | `(tactic| k_room) => `(tactic| ktr_room)
local macro_rules | `(tactic| k_units) => `(tactic| ktr_units)

theorem bit_nonneg (c : Prop) [Decidable c] : (0 : Int) ≤ if c then 1 else 0 := by split <;> decide
theorem item_ints {prog : Program} {w : World} {A : Around} {E : Value → Shared → Prop} {s : Shared} {value slice : PySem.Expr} {l : Addr} {vs : List Value} {ns : List Int} {k : Int} {u : Tok} {Q : Value → Shared → Prop} (hl : s.heap.IsList l vs.toArray) (hi : IntsAre vs ns)
    (h0 : 0 ≤ k) (h1 : k < (vs.length : Int)) (h2 : vs.length ≤ 63) (h : ∀ n t, Q (.int n t) s)
    (hs : subscripted slice false (.ref l) (.int k u) = operate [.ref l, .int k u] (getItem (.ref l) (.int k u)) := by with_unfolding_all rfl) (hg : ∀ r, letTemporaryGo value (.ref l) r = pure () := by intro _; with_unfolding_all rfl) :
    wpAny (model prog w) A (subscriptTail value slice (.ref l) (.int k u)) Q E s := by
  have hk : k.toNat < ns.length := by have := hi.length; omega
  obtain ⟨t, ht⟩ := hi.get k.toNat ns[k.toNat] (by simp [hk])
  exact PyProof.Rows.item_list hl h0 (by omega) (by simpa using ht) (h _ _) hs hg
local macro_rules | `(tactic| walk_at "call builtin:len") => `(tactic| (k_here; (with_reducible show wpAny _ _ (call (Value.builtin "len") [Value.ref _]) _ _ _); refine' PyProof.Rows.len_list ?hl ?hf ?_; (case hl => exact Fr.lst (by k_asm) (by k_asm)); (case hf => (simp only [List.size_toArray]; omega))))
local macro_rules | `(tactic| walk_at "subscriptTail") => `(tactic| (k_here; (with_reducible show wpAny _ _ (subscriptTail _ _ (Value.ref _) (Value.int _ _)) _ _ _); refine' item_ints ?hl ?hi ?h0 ?h1 ?h2 ?_ ?hs ?hg; (case hl => exact Fr.lst (by k_asm) (by k_asm)); (case hi => assumption); (case h0 => decide); (case h1 => (simp only [List.size_toArray] at *; omega)); (case h2 => assumption); (case hs => with_unfolding_all rfl); (case hg => (intro _; with_unfolding_all rfl)); intro _ _))

theorem c_pool {w : World} {news : Led} {l : Nat} {vs : List Value} {ns : List Int} {t1 : Tok} (hi : IntsAre vs ns) (hn : vs.length ≤ 63) :
  ∀ (mean : ExcName → Option Value) (mg mb : Str → Option Value) (dp un : Nat) (gd : Option (List Code)) (cn : Str) (cs : Scope) (a : Addr) (ccd : Value) (cl : List (Str × Addr)) (outer : List Env) (A₀ : Around) (base h₀ : Heap) (L : Addr) (m : Str → Option Value) (s : Shared) (Q E : Value → Shared → Prop),
  base.IsList l vs.toArray → Below A₀ base outer h₀ → Fr h₀ L s.heap m → (K w.params).In h₀ → News h₀ L s.heap news →
  Top q (looseW q loose) mean mg mb h₀ → cs.kind = .function → dp + 2 < recursionLimit → un + 8 * 2 < cLine →
  (∀ (sx : Nat) (g mi : Int) (tg tm : Tok), 0 ≤ g → 0 ≤ mi → mi < 2147483647 → ∀ h' tk', Fr h₀ L h' m → News h₀ L h' ((sx, srcOf g mi tg tm) :: news) → Q (.ref sx) { s with heap := h', toks := tk' }) →
  wpAny (model PySem.Challenge.rw_xw0350_01.row.prog w) (ktrTop dp un gd cn cs L a ccd cl outer) (call (.ref 1121) [.ref l, .int 0 t1]) Q E s := by
  k_fill
  intro mean mg mb dp un gd cn cs a ccd cl outer A₀ base h₀ L m s Q E hl B F X N T hk hd hu hret
  refine wpAny_call ?_
  k_dflt (refine' code_def (binds := [("script", .ref l), ("k", .int 0 t1)]) ?k1 ?k2 ?k3 ?k4 ?k5 ?kA ?kF ?kK ?k6 ?k7 ?k8 ?k9 ?kB ?_ ?c2 ?c3 ?c4 ?c5; (case kA => exact rfl); (case kF => exact rfl); (case kK => assumption); (case k1 => k_asm); (case k2 => k_asm); (case k3 => k_asm); (case k4 => k_asm); (case k5 => k_asm); (case k6 => k_is); (case k7 => k_is); (case k8 => ktr_room); (case k9 => exact BindsTo.of_eq rfl); (case c5 => decide); (case kB => exact locs rfl); (case c2 => exact rfl); (case c3 => exact rfl); (case c4 => exact rfl); k_whole; intro g1 L1 h1 FG1 F1 N1 B1 X1 T1; (try dsimp only); (try k_lift B1); (try k_fold))
  have hl1 : g1.IsList l vs.toArray := stays_list (Below.stays B1) hl
  k_steps
  all_goals (refine' hret _ _ _ _ _ ?zg ?za ?zb _ _ ?zF ?zN; (case zN => k_asm); (case zF => k_asm); (case zg => exact Int.mul_nonneg (by split <;> omega) (bit_nonneg _)); (case za => exact Int.fmod_nonneg_of_pos _ (by decide)); (case zb => exact Int.fmod_lt_of_pos _ (by decide)))

end Mine
end
section
set_option maxHeartbeats 4000000
open PySem PySem.W PyProof.Rows PySem.Calls Mine.H
namespace Mine
section
variable {M : Model} {A : Around} {E : Value → Shared → Prop} {s : Shared} {env : Env}
theorem wpC_onRaise0 {α : Type} {m : Sem α} {k : Value → Sem Unit} {Q : α → Shared → Prop} (h : wpC M A m Q (fun _ _ => False) s) : wpC M A (m.onRaise k) Q E s :=
  wpC_onRaise (wpC_mono h (fun _ _ x => x) fun _ _ x => x.elim)
end
section
variable {prog : Program} {w : World} {A : Around} {E : Value → Shared → Prop} {s : Shared} {env : Env}
/-- a for whose turns never raise, in the clean logic -/
theorem codeC_forLoop {R : Result → Shared → Prop} {target : Expr} {it : Value} {body : List Stmt} (I : Nat → Shared → Prop)
    (ht : ∀ v, letOwnedTupleGo target it v = pure ())
    (turn : ∀ n s, I n s → wpAny (model prog w) A (pyNext it) (fun r s₁ => match r with
      | none => R (.ok .next) s₁
      | some v => wpAny (model prog w) A (assign target env v) (fun _ s₂ => wpC (model prog w) A (execs body env) (fun f s₃ => match f with
          | .next | .cont => ∃ m, m < n ∧ I m s₃
          | .brk => R (.ok .next) s₃
          | .ret v => R (.ok (.ret v)) s₃) (fun _ _ => False) s₂) (fun _ _ => False) s₁) (fun _ _ => False) s) :
    ∀ (n : Nat) (s : Shared), I n s → codeC (model prog w) A (.forLoop target it body [] env) R s := by
  intro n
  induction n using Nat.strongRecOn with
  | ind n ih =>
    intro s h
    refine codeC_of_tree rfl ?_
    show wpC _ A ((forTurn target it body [] env).onRaise (fun x => do noteFrame x env; theTreesLotGoes x)) _ _ s
    refine wpC_onRaise0 ?_
    simp only [forTurn]
    refine wpC_bind (wpC_standAt (wpC_bind (wpC_onRaise0 (wpC_of_any (wpAny_mono (turn n s h) (fun r s₁ h₁ => ?_) fun _ _ x => x)))))
    cases r with
    | none => exact wpC_pure ⟨rfl, codeC_of_any (codeAny_block (wpAny_execs_nil h₁))⟩
    | some v =>
      refine wpC_then (wpAny_of_eq (ht v) ?_)
      refine wpC_then (wpAny_mono h₁ (fun _ s₂ h₂ => ?_) fun _ _ x => x)
      refine wpC_bind (wpC_mono h₂ (fun f s₃ h₃ => ?_) fun _ _ x => x)
      cases f with
      | next => obtain ⟨m, hm, hI⟩ := h₃; exact wpC_pure ⟨rfl, ih m hm s₃ hI⟩
      | cont => obtain ⟨m, hm, hI⟩ := h₃; exact wpC_pure ⟨rfl, ih m hm s₃ hI⟩
      | brk => exact wpC_pure h₃
      | ret v => exact wpC_pure h₃
theorem wpC_For {target iter : Expr} {body : List Stmt} {pos : Pos} {Q : Flow → Shared → Prop}
    (h : wpAny (model prog w) A (eval iter env) (fun x s₁ => wpAny (model prog w) A (pyIter x) (fun it s₂ =>
      codeC (model prog w) A (.forLoop target it body [] env) (fun r s' => match r with | .ok f => Q f s' | .error _ => False) s₂) E s₁) E s)
    (hs : ∀ x, foldedSetIterable iter env x = pure x := by intro _; rfl) :
    wpC (model prog w) A (exec (.For target iter body [] pos) env) Q E s := by
  rw [exec_For]
  refine wpC_bind (wpC_standAt (wpC_then (wpAny_mono h (fun x s₁ h₁ => wpC_then (wpAny_of_eq (hs x) (wpC_bind (wpC_standAt (wpC_then (wpAny_holding
    (wpAny_mono h₁ (fun it s₂ h₂ => ?_) fun _ _ h' => h'))))))) fun _ _ h' => h')))
  unfold runOwn
  refine wpC_onRaise0 (wpC_run (codeC_mono h₂ fun r s' hr => ?_) (by intro x; cases x))
  cases r with
  | ok f => exact hr
  | error e => exact hr.elim
/-- the loop over a range that stands, by an invariant over the frame's names and the ledger -/
theorem codeC_range {x : Str} {px : Pos} {body : List Stmt} {I : Addr} {a : Int} {n : Nat} {h₀ : Heap} {m : Str → Option Value} {news : List (Addr × Obj)} {R : Result → Shared → Prop}
    (hh : A.handled = none) (hx : env.kindOf x = some .local)
    (hp : (env.scope.kind == .class || (env.scope.kind == .module && env.locals != env.globals)) = false)
    (hit : IsRangeIter s.heap I a n 1) (hI0 : h₀.get? I = none) (F : Fr h₀ env.locals s.heap m) (N : News h₀ env.locals s.heap news) (hnw : ∀ p ∈ news, p.1 ≠ I) (hIL : I ≠ env.locals)
    (J : (Str → Option Value) → List (Addr × Obj) → Prop) (h0 : J m news)
    (step : ∀ i t m₁ news₁ own (s₁ : Shared), own = [(I, { cls := .type "range_iterator", dict := none, data := .fields #[rawInt (a + (i + 1 : Nat) * 1), rawInt ((n : Int) - (i + 1 : Nat)), rawInt 1], slots := #[] })] → i < n → J m₁ news₁ →
      Fr h₀ env.locals s₁.heap (fun y => if y = x then some (.int (a + (i : Nat) * 1) t) else m₁ y) → News h₀ env.locals s₁.heap (news₁ ++ own) → (∀ p ∈ news₁, p.1 ≠ I) →
      wpC (model prog w) A (execs body env) (fun f s₂ => match f with
        | .next => ∃ h' tk m₂ news₂, s₂ = { s₁ with heap := h', toks := tk } ∧ Fr h₀ env.locals h' m₂ ∧ News h₀ env.locals h' (news₂ ++ own) ∧ (∀ p ∈ news₂, p.1 ≠ I) ∧ J m₂ news₂
        | _ => False) (fun _ _ => False) s₁)
    (hR : ∀ h' tk m' news', Fr h₀ env.locals h' m' → News h₀ env.locals h' news' → J m' news' → R (.ok .next) { s with heap := h', toks := tk }) :
    codeC (model prog w) A (.forLoop (.Name x px) (.ref I) body [] env) R s := by
  refine codeC_forLoop
    (fun k s' => ∃ h' tk m' news' i, s' = { s with heap := h', toks := tk } ∧ IsRangeIter h' I (a + (i : Nat) * 1) ((n : Int) - (i : Nat)) 1 ∧ Fr h₀ env.locals h' m' ∧ News h₀ env.locals h' news' ∧ (∀ p ∈ news', p.1 ≠ I) ∧ J m' news' ∧ i ≤ n ∧ k = n + 1 - i)
    (fun _ => rfl) ?_ (n + 1) s ⟨s.heap, s.toks, m, news, 0, rfl, by simpa using hit, F, N, hnw, h0, Nat.zero_le _, rfl⟩
  rintro k s' ⟨h', tk, m', news', i, rfl, hit', F', N', hnw', hJ, hi, rfl⟩
  by_cases hlt : i < n
  · refine wpAny_pyNext_range_item hit' (by omega) fun h₁ hit₁ hs₁ => ?_
    have F₁ : Fr h₀ env.locals h₁ m' := ⟨F'.ns.sameBut hs₁ (Ne.symm hIL), fun b o e => (hs₁.2 b (fun q => by rw [q, hI0] at e; cases e)).trans (F'.keep b o e), F'.above⟩
    have N₁ : News h₀ env.locals h₁ news' := fun p hp => ⟨(hs₁.2 _ (hnw' p hp)).trans (N' p hp).1, (N' p hp).2⟩
    refine wpAny_assign_Name (wpAny_storeName_local hx F₁.ns (fun h₂ hn₂ hs₂ => ?_) hp)
    have F₂ := F₁.set hn₂ hs₂
    have N₂ := N₁.set hs₂
    have hit₂ : h₂.get? I = some _ := (hs₂.2 I hIL).trans hit₁
    have e1 : a + ((i + 1 : Nat) : Int) * 1 = a + (i : Int) * 1 + 1 := by push_cast; omega
    have e2 : (n : Int) - ((i + 1 : Nat) : Int) = (n : Int) - (i : Int) - 1 := by push_cast; omega
    refine wpC_mono (step i _ m' news' [(I, _)] _ rfl hlt hJ F₂ (fun p hp => ?_) hnw') (fun f s₃ h₃ => ?_) fun _ _ x => x
    · rcases List.mem_append.mp hp with hp | hp
      · exact N₂ p hp
      · rw [List.mem_singleton.mp hp, e1, e2]; exact ⟨hit₂, hIL, hI0⟩
    · cases f with
      | next =>
        obtain ⟨h₃', tk₃, m₂, news₂, rfl, F₃, N₃, ha₃, hJ₃⟩ := h₃
        exact ⟨n + 1 - (i + 1), by omega, h₃', tk₃, m₂, news₂, i + 1, rfl, (N₃ _ (List.mem_append_right _ (List.mem_singleton.mpr rfl))).1, F₃, fun p hp => N₃ p (List.mem_append_left _ hp), ha₃, hJ₃, hlt, rfl⟩
      | _ => exact h₃.elim
  · have hin : i = n := by omega
    subst hin
    refine wpAny_pyNext_range_end hh hit' (by omega) fun h₁ he₁ => ?_
    exact hR h₁ tk m' news' ⟨F'.ns.extBut he₁ (Ne.symm hIL), fun b o e => he₁ b o (fun q => by rw [q, hI0] at e; cases e) (F'.keep b o e), F'.above⟩
      (fun p hp => ⟨he₁ _ _ (hnw' p hp) (N' p hp).1, (N' p hp).2⟩) hJ
end
end Mine
end
section
set_option maxHeartbeats 8000000
open PySem PySem.W PyProof.Rows PySem.Calls Mine.H
namespace Mine
theorem cln_caller : Cln (⟨.builtin "claim.caller" {}, none, none, [], none⟩ : Ctx) := ⟨by kernel_rfl, fun _ h => by cases h⟩
theorem thread_clean {prog : Program} {w : World} {t : Sem Fin} {s : Shared} {R : Result → Shared → Prop} (hreg : s.asleep)
    (h : wpC (model prog w) callerA t (fun fin s' => ∃ f, fin = .done f ∧ (R (.ok f) s' ∧ leftWithCleanup s'.gens = false)) (fun _ _ => False) s) :
    ∃ n r s' s'', schedN (denote table) prog w n (.single s ⟨t, .builtin "claim.caller" {}, default, []⟩) = .halted (outcomeOf r) s' ∧
      runN (denote table) prog w n s ⟨t, .builtin "claim.caller" {}, default, []⟩ = .halted (outcomeOf r) s' ∧ s'.forget = s''.forget ∧ R r s'' := by
  have h' : Sem.wp (model prog w) (⟨.builtin "claim.caller" {}, none, none, [], none⟩ : Ctx) t (Sem.finPost (model prog w) ⟨.builtin "claim.caller" {}, none, none, [], none⟩ fun r s' => R r s' ∧ leftWithCleanup s'.gens = false)
      (fun e _ s' => R (.error e) s' ∧ leftWithCleanup s'.gens = false) default s :=
    Sem.wp_mono _ _ t (fun fin _ s' z => by obtain ⟨f, rfl, z⟩ := z; exact z) (fun _ _ _ z => z.elim) _ _ (h _ default caller_in cln_caller)
  obtain ⟨n, r, s₁, s₂, hs, hn, hfo, hR⟩ := wp_halts_full (M := model prog w) (R := R) hreg h'
  exact ⟨n, r, s₂, s₁, hs, hn, hfo, hR⟩
/-- what is asked of the law's call: it hands True back; what stood, stands -/
def TrueBack (s₁ : Shared) (v : Value) (s' : Shared) : Prop := v = .bool true ∧ (∀ b o, s₁.heap.get? b = some o → s'.heap.get? b = some o) ∧ s'.os = s₁.os ∧ s'.gens = s₁.gens
abbrev WalkC (r : OpenRow) (d : DefRec) (kwd : List (Str × Expr)) : Prop :=
  ∀ (w : World) (s₀ s₁ : Shared) (mg mb : Str → Option Value), Ground q loose r.records (XL q []) w s₀ mg mb s₁.heap → KH.says w s₁.heap → ∀ (a : Addr) (o : Obj) (pm cd doc dV kV : Value), s₁.heap.get? a = some o →
    o.data = .func { docDef d.name d.params d.body d.scope pm cd doc with defaults := dV, kwdefaults := kV } → s₁.heap.CodeRec cd d.name → Dflts mg s₁.heap d.params kwd dV kV → mg d.name = some (.ref a) → s₁.gens = #[] →
    ∀ (args : List WData) (vals : List Value) (as : List Addr), r.claim.pre args = true → WData.layableAll args = true → ReadsAllW r.records (classAt s₀.heap) s₁.heap vals args as → WellAll w.params s₁.heap vals args → (∀ a ∈ as, (a == sysModules) = false) →
      wpC (model r.prog w) callerA (PySem.call (.ref a) vals) (TrueBack s₁) (fun _ _ => False) s₁
theorem good_true {c : ClaimW} {cl : Str → Option Addr} {mean : ExcName → Option Value} {args : List WData} {s₁ s' : Shared} {v : Value} (hr : ∀ x, c.raises args x = false) (hp : c.post args (.bool true) args = true) (hg : s₁.gens = #[])
    (h : TrueBack s₁ v s') : GoodWG c cl mean args s₁ (.ok (.ret v)) s' := by
  obtain ⟨rfl, h1, h2, h3⟩ := h
  exact GoodW.toG ⟨.inl ⟨_, .bool true, [], rfl, hr, .bool true, hp, fun _ => ⟨List.nodup_nil, fun _ z => by cases z⟩⟩, h1, h2, h3.trans hg⟩
theorem tree_clean {prog : Program} {w : World} {s : Shared} {mg : Str → Option Value} {f : Value} {vs : List Value} {name : Str} {Q : Fin → Shared → Prop} (hg : s.heap.Ns mainGlobals mg) (hf : mg name = some f)
    (h : wpC (model prog w) callerA (PySem.call f vs) (fun v s' => Q (.done (.ret v)) s') (fun _ _ => False) s) :
    wpC (model prog w) callerA (do match ← nsGet mainNs name with
      | some f => do ret (← PySem.call f vs)
      | none => unsupported "claim.caller:no-such-global") Q (fun _ _ => False) s :=
  wpC_then (wpAny_nsGet hg (by rw [hf]; exact wpC_bind (wpC_mono h (fun _ _ x => wpC_pure x) fun _ _ x => x)))
theorem holds_clean {r : OpenRow} {d : DefRec} {kwd : List (Str × Expr)} {N : Nat}
    (left : LeftO r.prog q loose xt KH.obs KH.val N) (hdef : defOf q r.name = some (d, kwd)) (hp : r.prog.theDef r.name = some (d.params, d.body, d.scope)) (hk : kwWritten? d.params.kwonlyargs d.params.kw_defaults = some kwd)
    (hrec : r.records = []) (hpost : ∀ args, r.claim.pre args = true → r.claim.post args (.bool true) args = true)
    (k1 : r.wellSaid = true) (ok : (chainsOk q && opensWell r.prog && (frees r.toRowW && r.within.isEmpty)) = true) (hb : r.prog.bare) (hw : r.toRowW.promised) (hnw : r.writes = false)
    (hraise : ∀ args x, r.claim.raises args x = false) (call : WalkC r d kwd) : r.Holds := by
  have hXof : ∀ s, xt s = true → XL q [] (s.heap.nsMap mainGlobals) s.heap := fun s e => xl_of s (Bool.and_eq_true_iff.mp e).1
  have hRf : ∀ s, xt s = true → RecFacts r.records s.heap := fun s e => by rw [hrec]; exact recFacts_of (Bool.and_eq_true_iff.mp e).2
  obtain ⟨ok, k5⟩ := Bool.and_eq_true_iff.mp ok
  obtain ⟨hch, o1⟩ := Bool.and_eq_true_iff.mp ok
  obtain ⟨k5, k6⟩ := Bool.and_eq_true_iff.mp k5
  obtain ⟨hsame, hu, ha, hap, hm⟩ := frees_parts k5
  refine ⟨k1, hw, ⟨hb, o1, by show r.makers.map _ = []; rw [hm]; rfl⟩, hw.witness, fun w => ⟨(left.behind hXof hch w).1, fun s' hs' => ?_⟩⟩
  obtain ⟨s₀, hf, hg0, s, hT, hz, hgens, hg, G00, y⟩ := (left.behind (XP := fun mg h => XL q [] mg h ∧ RecFacts r.records h) (fun s hs => ⟨hXof s hs, hRf s hs⟩) hch w).2 s' hs'
  have G0 : Ground q loose [] (XL q []) w s (s.heap.nsMap mainGlobals) (s.heap.nsMap builtinsNs) s.heap := ⟨G00.T, G00.B, G00.D, G00.TE, G00.TD, G00.W, G00.X.1, G00.cls, G00.has, G00.apart, G00.once, G00.K⟩
  have RF := G00.X.2
  have hgens : s.gens = #[] := Array.eq_empty_of_size_eq_zero (beq_iff_eq.mp hgens)
  have G : Ground q loose r.records (XL q []) w s _ _ s.heap := RF.ground G0
  refine ⟨s₀, hf, hg0, s, hT, fun n hn => ?_, RF.1, RF.2.1, fun args hpre hlay ord hord => ?_⟩
  · obtain rfl : n = r.name := by split at hn <;> simp_all
    exact pinned_of_view hg G0 hdef hp hk
  · obtain ⟨⟨vs, s₁⟩, hlaid⟩ := Option.isSome_iff_exists.mp (layAllW_isSome (P := w.params) (ord := ord) G.has args r.args s (pre_splitW hpre).1)
    have keeps := layAllW_keeps _ _ _ hlaid
    have hal := layAllW_rest _ _ _ hlaid
    obtain ⟨as, hrd, hin, hold⟩ := reads_layAllW hord _ _ _ hlaid hlay s₁.heap (fun _ _ e => e)
    have L : Laid r.records w s s₁ args vs as := ⟨⟨ord, hord, hlaid⟩, hrd, hin, hold, keeps, hal.1.trans hgens, hal.2.2.1⟩
    have G₁ := G.keeps XL.keeps keeps
    obtain ⟨a, o, pm, cd, doc, dV, kV, h1, h2, h3, h4, h5⟩ := G₁.fn hdef
    have hc := call w s s₁ _ _ G₁ (KH.keeps _ _ _ (KH.of w s y) keeps) a o pm cd doc dV kV h2 h3 h4 h5 (defOf_name hdef ▸ h1) L.gens args vs as hpre hlay L.reads L.well (L.low G.low)
    have hi := ident_freeW hu ha hap
    have hwi : r.claim.within = [] := List.isEmpty_iff.mp k6
    obtain ⟨k, rr, s2, s3, hsched, hrun, hfo, hcase, hos⟩ := thread_clean (prog := r.claim.prog) (w := w) (s := s₁) (R := fun x s' => r.claim.Ends s args vs s₁ x s' ∧ s'.os = s.os)
      (Shared.asleep_of_life hal.2.2.2 hz) (tree_clean (vs := vs) G₁.T.g h1 (wpC_mono hc (fun v s' g => by
        have z := (good_true (hraise args) (hpost args hpre) L.gens g).laid (c := r.claim) hsame hwi hi L
        exact ⟨_, rfl, ⟨z.1, z.2.1⟩, leftWithCleanup_false_of_bare z.2.2⟩) fun _ _ x => x))
    obtain ⟨eh, _, _, eo, _⟩ := Shared.forget_eq hfo
    have hcase := hcase.congr eh
    rw [← eo] at hos
    have hlife : s2.heap.life = s.heap.life := (runN_life _ _ _ hrun).trans hal.2.2.2
    refine ⟨vs, s₁, hlaid, k, _, s2, hsched, ?_, (fun _ i x hx => by rw [hgens] at hx; simp at hx), (fun z => by rw [hnw] at z; cases z), by rw [hlife], Shared.rest_eq hos⟩
    rcases hcase with ⟨v, rfl, d1, d2, d3, d4, d5⟩ | ⟨e, ob, cls, rfl, d1, d2, d3, d4, d5⟩
    · exact .inl ⟨v, rfl, d1, d2, d3, fun b o y _ => d4 b o y, d5⟩
    · exact .inr ⟨e, ob, cls, rfl, d1, d2, d3, d4, fun b o y _ => d5 b o y⟩
theorem post_true (args : List WData) : PySem.Challenge.rw_xw0350_01.row.claim.post args (.bool true) args = true := by
  refine postW_of (r := PySem.Challenge.rw_xw0350_01.row.toRowW) (X := true) ?a ?b rfl
  case a => first | rfl | kernel_rfl | (show WShape.has _ (.bool true) .bool = true; simp [WShape.has])
  case b => 
    first | rfl | kernel_rfl | (wtm_val; done) | (simp [WTm.value]; done) | trace_state
end Mine
end
section
set_option maxHeartbeats 8000000
open PySem PySem.W PyProof.Rows PySem.Calls Mine.H
namespace Mine
theorem codeC_top {prog : Program} {w : World} {A : Around} {R : Result → Shared → Prop} {s : Shared} {name : Str} {params : Arguments} {body : List Stmt} {scope : Scope}
    {dV kV pm cd doc : Value} {a : Addr} {o : Obj} {args : Args} {binds : List (Str × Value)}
    (hroom : A.depth < recursionLimit) (ho : s.heap.get? a = some o) (hdata : o.data = .func { docDef name params body scope pm cd doc with defaults := dV, kwdefaults := kV }) (hlim : s.heap.NoLimit) (hcd : s.heap.CodeRec cd name)
    (hbind : BindsTo s { docDef name params body scope pm cd doc with defaults := dV, kwdefaults := kV } args binds)
    (hloc : ∀ x ∈ binds, scope.names.lookup x.1 = some .local)
    (h : ∀ h₁, Fr s.heap s.heap.objs.size h₁ (fun x => binds.reverse.lookup x) →
      wpC (model prog w) (A.deeper (envOf name scope s.heap.objs.size a cd)) (execs body (envOf name scope s.heap.objs.size a cd))
        (fun f s' => R (.ok (.ret (match f with | .ret v => v | _ => .none))) s') (fun _ _ => False) { s with heap := h₁, toks := s.toks + binds.length })
    (hco : scope.isCoroutine = false) (hgen : scope.isGenerator = false) (hk : scope.kind = .function) (hcell : ∀ x ∈ scope.names, x.2 ≠ .cell) :
    codeC (model prog w) A (.call (.ref a) args) R s := by
  obtain ⟨c, oc, vs, tq, hc, hoc, hdc, hq⟩ := hcd
  subst hc
  refine codeC_of_tree rfl (wpC_of_any ?_)
  show wpAny _ A.in1 (callAny (.ref a) args) _ _ s
  simp only [callAny]
  refine wpAny_bind (wpAny_load ho ?_)
  rw [hdata]
  simp only [docDef, callFunction, hco, hgen]
  refine wpAny_bind (m := field (.ref c) 1) (wpAny_field hoc hdc hq (wpAny_bind (wpAny_pure ?_)))
  refine wpAny_bind (hbind _ _ _ _ (wpAny_bind (wpAny_newFunctionEnv hcell hloc (fun h₁ hns hsb => wpAny_bind (wpAny_enterFrame (hlim.fresh _ hsb) hroom (wpAny_pure (And.intro rfl (codeC_func ?_))))) hk)))
  refine wpC_mono (h h₁ ⟨hns, fun b o e => hsb.extBut b o (Nat.ne_of_lt (Heap.lt_size e)) (Heap.get?_push_of_some _ e), Nat.le_refl _⟩) (fun _ _ x => x) fun _ _ x => x.elim
end Mine
end
section
set_option maxHeartbeats 8000000
open PySem PySem.W PyProof.Rows Mine.H
namespace Mine
section
variable {w : World} {all : Led} {sx lx I : Nat} {it : Obj} {g mi top : Int} {tg tm tt : Tok} {vs : List Value}
  {mean : ExcName → Option Value} {mg mb : Str → Option Value} {dp un : Nat} {gd : Option (List Code)} {cn : Str} {cs : Scope} {a : Addr} {ccd : Value} {cl : List (Str × Addr)} {outer : List Env} {A₀ : Around} {base h₀ : Heap} {L : Addr} {m : Str → Option Value} {s : Shared} {Q E : Value → Shared → Prop}
theorem News.two {h : Heap} {p r : Addr × Obj} (N : News h₀ L h all) (h1 : p ∈ all) (h2 : r ∈ all) : News h₀ L h [p, r] :=
  List.forall_mem_cons.mpr ⟨N p h1, List.forall_mem_cons.mpr ⟨N r h2, fun _ z => nomatch z⟩⟩
theorem take_use (B : Below A₀ base outer h₀) (F : Fr h₀ L s.heap m) (X : (K w.params).In h₀) (N : News h₀ L s.heap all) (T : Top q (looseW q loose) mean mg mb h₀) (hk : cs.kind = .function) (hd : dp + 3 < recursionLimit) (hu : un + 8 * 3 < cLine)
    (h1 : (sx, srcOf g mi tg tm) ∈ all) (h2 : (I, it) ∈ all) (hne : I ≠ sx) (hg : 0 ≤ g) (hm0 : 0 ≤ mi) (hm1 : mi < 2147483647) (ht0 : 0 < top) (ht1 : top ≤ 4294967296)
    (h : ∀ (d : Int) (t : Tok) (g1 m1 : Int) (tg1 tm1 : Tok), 0 ≤ d → d < top → 0 ≤ g1 → 0 ≤ m1 → m1 < 2147483647 → ∀ h' tk', Fr h₀ L h' m → News h₀ L h' [(sx, srcOf g1 m1 tg1 tm1), (I, it)] → Q (.int d t) { s with heap := h', toks := tk' }) :
    wpAny (model PySem.Challenge.rw_xw0350_01.row.prog w) (ktrTop dp un gd cn cs L a ccd cl outer) (call (.ref 1128) [.ref sx, .int top tt]) Q E s :=
  Ctr.use (c_lawtake w [(I, it)] sx g mi top tg tm tt (List.forall_mem_cons.mpr ⟨hne, fun _ z => nomatch z⟩) hg hm0 hm1 ht0 ht1) B F X (News.two N h1 h2) T hk hd hu
    fun d g1 m1 t tg1 tm1 a0 a1 a2 a3 a4 h' tk' F' N' => h d t g1 m1 tg1 tm1 a0 a1 a2 a3 a4 h' tk' F' N'
theorem one_use (B : Below A₀ base outer h₀) (F : Fr h₀ L s.heap m) (X : (K w.params).In h₀) (N : News h₀ L s.heap all) (T : Top q (looseW q loose) mean mg mb h₀) (hk : cs.kind = .function) (hd : dp + 5 < recursionLimit) (hu : un + 8 * 5 < cLine)
    (h0 : (lx, PySem.W.listOf vs.toArray 0) ∈ all) (h1 : (sx, srcOf g mi tg tm) ∈ all) (h2 : (I, it) ∈ all) (hnl : lx ≠ sx) (hne : I ≠ sx) (hg : 0 ≤ g) (hm0 : 0 ≤ mi) (hm1 : mi < 2147483647) (hv0 : 0 < vs.length) (hv1 : vs.length ≤ 1000)
    (h : ∀ v, v ∈ vs → ∀ (g1 m1 : Int) (tg1 tm1 : Tok), 0 ≤ g1 → 0 ≤ m1 → m1 < 2147483647 → ∀ h' tk', Fr h₀ L h' m → News h₀ L h' [(sx, srcOf g1 m1 tg1 tm1), (I, it)] → Q v { s with heap := h', toks := tk' }) :
    wpAny (model PySem.Challenge.rw_xw0350_01.row.prog w) (ktrTop dp un gd cn cs L a ccd cl outer) (call (.ref 1135) [.ref sx, .ref lx]) Q E s :=
  Ctr.use (c_lawone w [(lx, PySem.W.listOf vs.toArray 0), (I, it)] sx lx g mi tg tm vs (List.forall_mem_cons.mpr ⟨hnl, List.forall_mem_cons.mpr ⟨hne, fun _ z => nomatch z⟩⟩) hg hm0 hm1 (.head _) hv0 hv1) B F X (List.forall_mem_cons.mpr ⟨N _ h1, News.two N h0 h2⟩) T hk hd hu
    fun v hv g1 m1 tg1 tm1 a2 a3 a4 h' tk' F' N' => h v hv g1 m1 tg1 tm1 a2 a3 a4 h' tk' F' (News.two N' (.head _) (.tail _ (.tail _ (.head _))))
/-- _law_one of the forms -/
theorem form_use (B : Below A₀ base outer h₀) (F : Fr h₀ L s.heap m) (X : (K w.params).In h₀) (N : News h₀ L s.heap all) (T : Top q (looseW q loose) mean mg mb h₀) (hk : cs.kind = .function) (hd : dp + 5 < recursionLimit) (hu : un + 8 * 5 < cLine)
    (h0 : (lx, PySem.W.listOf vs.toArray 0) ∈ all) (h1 : (sx, srcOf g mi tg tm) ∈ all) (h2 : (I, it) ∈ all) (hne : I ≠ sx) (hg : 0 ≤ g) (hm0 : 0 ≤ mi) (hm1 : mi < 2147483647) (hv : vs.length = 9) (hf : ∀ v ∈ vs, FormOk w all v)
    (h : ∀ (rest : Led) (fx : Nat) (bs : List UInt8) (tb : Tok) (vt : Value) (nf : Nat) (r : Option Int), (fx, tupOf #[.bytes bs.toArray tb, vt] nf) ∈ rest → IsTold r vt → MssOf w bs tb r → (I, it) ∈ rest →
      ∀ (g1 m1 : Int) (tg1 tm1 : Tok), 0 ≤ g1 → 0 ≤ m1 → m1 < 2147483647 → ∀ h' tk', Fr h₀ L h' m → News h₀ L h' ((sx, srcOf g1 m1 tg1 tm1) :: rest) → Q (.ref fx) { s with heap := h', toks := tk' }) :
    wpAny (model PySem.Challenge.rw_xw0350_01.row.prog w) (ktrTop dp un gd cn cs L a ccd cl outer) (call (.ref 1135) [.ref sx, .ref lx]) Q E s := by
  have hnl : lx ≠ sx := by
    intro e
    subst e
    have e1 := (N _ h0).1
    have e2 := (N _ h1).1
    rw [e1] at e2
    have e3 := congrArg (fun z : Option Obj => z.map Obj.data) e2
    simp only [Option.map_some, Option.some.injEq, PySem.W.listOf, srcOf, Data.seq.injEq, and_true] at e3
    have e4 := congrArg (fun z : Array Value => z.size) e3
    simp only [List.size_toArray, hv] at e4
    exact absurd e4 (by simp)
  have hin : ∀ p ∈ all, p.1 ≠ sx → p ∈ all.filter fun p => p.1 != sx := fun p hp hn => List.mem_filter.mpr ⟨hp, by simpa using hn⟩
  refine Ctr.use (c_lawone w (all.filter fun p => p.1 != sx) sx lx g mi tg tm vs (fun p hp => by simpa using (List.mem_filter.mp hp).2) hg hm0 hm1 (hin _ h0 hnl) (by omega) (by omega)) B F X
    (List.forall_mem_cons.mpr ⟨N _ h1, fun p hp => N p (List.mem_filter.mp hp).1⟩) T hk hd hu fun v hmv g1 m1 tg1 tm1 a2 a3 a4 h' tk' F' N' => ?_
  obtain ⟨fx, bs, tb, vt, nf, r, rfl, hm, ht, M⟩ := hf v hmv
  refine h _ fx bs tb vt nf r (hin _ hm ?_) ht M (hin _ h2 hne) g1 m1 tg1 tm1 a2 a3 a4 h' tk' F' N'
  intro e
  dsimp only at e
  subst e
  have e1 := (N _ hm).1
  have e2 := (N _ h1).1
  rw [e1] at e2
  have e3 := congrArg (fun z : Option Obj => z.map Obj.cls) e2
  exact absurd e3 (by simp [PySem.W.listOf, srcOf, tupOf])
theorem take_go (h : ∀ (d : Int) (t : Tok) (g1 m1 : Int) (tg1 tm1 : Tok), 0 ≤ d → d < top → 0 ≤ g1 → 0 ≤ m1 → m1 < 2147483647 → ∀ h' tk', Fr h₀ L h' m → News h₀ L h' [(sx, srcOf g1 m1 tg1 tm1), (I, it)] → Q (.int d t) { s with heap := h', toks := tk' })
    (B : Below A₀ base outer h₀ := by k_asm) (F : Fr h₀ L s.heap m := by k_asm) (X : (K w.params).In h₀ := by k_asm) (N : News h₀ L s.heap all := by k_asm) (T : Top q (looseW q loose) mean mg mb h₀ := by k_asm) (hk : cs.kind = .function := by exact rfl) (hd : dp + 3 < recursionLimit := by decide) (hu : un + 8 * 3 < cLine := by decide)
    (hne : I ≠ sx := by assumption) (h1 : (sx, srcOf g mi tg tm) ∈ all := by k_mem) (h2 : (I, it) ∈ all := by k_mem) (hg : 0 ≤ g := by assumption) (hm0 : 0 ≤ mi := by assumption) (hm1 : mi < 2147483647 := by assumption)
    (ht0 : 0 < top := by first | decide | omega) (ht1 : top ≤ 4294967296 := by first | decide | omega) :
    wpAny (model PySem.Challenge.rw_xw0350_01.row.prog w) (ktrTop dp un gd cn cs L a ccd cl outer) (call (.ref 1128) [.ref sx, .int top tt]) Q E s :=
  take_use B F X N T hk hd hu h1 h2 hne hg hm0 hm1 ht0 ht1 h
theorem one_go (h : ∀ v, v ∈ vs → ∀ (g1 m1 : Int) (tg1 tm1 : Tok), 0 ≤ g1 → 0 ≤ m1 → m1 < 2147483647 → ∀ h' tk', Fr h₀ L h' m → News h₀ L h' [(sx, srcOf g1 m1 tg1 tm1), (I, it)] → Q v { s with heap := h', toks := tk' })
    (B : Below A₀ base outer h₀ := by k_asm) (F : Fr h₀ L s.heap m := by k_asm) (X : (K w.params).In h₀ := by k_asm) (N : News h₀ L s.heap all := by k_asm) (T : Top q (looseW q loose) mean mg mb h₀ := by k_asm) (hk : cs.kind = .function := by exact rfl) (hd : dp + 5 < recursionLimit := by decide) (hu : un + 8 * 5 < cLine := by decide)
    (hne : I ≠ sx := by assumption) (h0 : (lx, PySem.W.listOf vs.toArray 0) ∈ all := by k_mem) (h1 : (sx, srcOf g mi tg tm) ∈ all := by k_mem) (h2 : (I, it) ∈ all := by k_mem) (hnl : lx ≠ sx := by k_ne) (hg : 0 ≤ g := by assumption) (hm0 : 0 ≤ mi := by assumption) (hm1 : mi < 2147483647 := by assumption)
    (hv0 : 0 < vs.length := by exact Nat.le_of_ble_eq_true rfl) (hv1 : vs.length ≤ 1000 := by exact Nat.le_of_ble_eq_true rfl) :
    wpAny (model PySem.Challenge.rw_xw0350_01.row.prog w) (ktrTop dp un gd cn cs L a ccd cl outer) (call (.ref 1135) [.ref sx, .ref lx]) Q E s :=
  one_use B F X N T hk hd hu h0 h1 h2 hnl hne hg hm0 hm1 hv0 hv1 h
theorem form_go (h : ∀ (rest : Led) (fx : Nat) (bs : List UInt8) (tb : Tok) (vt : Value) (nf : Nat) (r : Option Int), (fx, tupOf #[.bytes bs.toArray tb, vt] nf) ∈ rest → IsTold r vt → MssOf w bs tb r → (I, it) ∈ rest →
      ∀ (g1 m1 : Int) (tg1 tm1 : Tok), 0 ≤ g1 → 0 ≤ m1 → m1 < 2147483647 → ∀ h' tk', Fr h₀ L h' m → News h₀ L h' ((sx, srcOf g1 m1 tg1 tm1) :: rest) → Q (.ref fx) { s with heap := h', toks := tk' })
    (B : Below A₀ base outer h₀ := by k_asm) (F : Fr h₀ L s.heap m := by k_asm) (X : (K w.params).In h₀ := by k_asm) (N : News h₀ L s.heap all := by k_asm) (T : Top q (looseW q loose) mean mg mb h₀ := by k_asm) (hk : cs.kind = .function := by exact rfl) (hd : dp + 5 < recursionLimit := by decide) (hu : un + 8 * 5 < cLine := by decide)
    (hf : ∀ v ∈ vs, FormOk w all v := by assumption) (hne : I ≠ sx := by assumption) (h0 : (lx, PySem.W.listOf vs.toArray 0) ∈ all := by assumption) (h1 : (sx, srcOf g mi tg tm) ∈ all := by assumption) (h2 : (I, it) ∈ all := by assumption) (hg : 0 ≤ g := by assumption) (hm0 : 0 ≤ mi := by assumption) (hm1 : mi < 2147483647 := by assumption)
    (hv : vs.length = 9 := by assumption) :
    wpAny (model PySem.Challenge.rw_xw0350_01.row.prog w) (ktrTop dp un gd cn cs L a ccd cl outer) (call (.ref 1135) [.ref sx, .ref lx]) Q E s :=
  form_use B F X N T hk hd hu h0 h1 h2 hne hg hm0 hm1 hv hf h
end
theorem ring_of {v : Value} {t1 t2 : Tok} (h : v ∈ [Value.int 256 t1, .int 4294967296 t2]) : ∃ n t, v = .int n t ∧ 100 ≤ n ∧ n ≤ 4294967296 := by
  rcases List.mem_cons.mp h with rfl | h
  · exact ⟨_, _, rfl, by decide, by decide⟩
  rcases List.mem_cons.mp h with rfl | h
  · exact ⟨_, _, rfl, by decide, by decide⟩
  · cases h
theorem ints_of {P : Int → Prop} : ∀ {vs : List Value} {ns : List Int} {v : Value}, IntsAre vs ns → (∀ n ∈ ns, P n) → v ∈ vs → ∃ n t, v = .int n t ∧ P n
  | _, _, _, .cons n t x, hp, h => by
    rcases List.mem_cons.mp h with rfl | h
    · exact ⟨n, t, rfl, hp n (.head _)⟩
    · exact ints_of x (fun k hk => hp k (.tail _ hk)) h
end Mine
end
section
set_option maxHeartbeats 8000000
open PySem PySem.W PyProof.Rows Mine.H
namespace Mine
local macro_rules | `(tactic| k_room) => `(tactic| ktr_room)
local macro_rules | `(tactic| k_units) => `(tactic| ktr_units)
theorem cut_six {M : Model} {A : Around} {E : Value → Shared → Prop} {s : Shared} {t : Sem Value} {Q : Value → Shared → Prop}
    (h1 : wpAny M A t (fun u s' => (∃ n tk, u = .int n tk ∧ 0 ≤ n ∧ n ≤ 6) ∧ ∃ k, s' = { s with toks := k }) E s) (h : ∀ n tk k, 0 ≤ n → n ≤ 6 → Q (.int n tk) { s with toks := k }) : wpAny M A t Q E s :=
  wpAny_mono h1 (fun u s' z => by obtain ⟨⟨n, tk, rfl, a, b⟩, k, rfl⟩ := z; exact h n tk k a b) fun _ _ x => x
local macro_rules | `(tactic| walk_at "call ref") => `(tactic| (k_here; (with_reducible show wpAny _ _ (call (Value.ref 1121) _) _ _ _); k_dflt (refine' c_pool (by assumption) (by assumption) _ _ _ _ _ _ _ _ _ _ _ _ _ _ _ _ _ _ _ _ ?hl ?k1 ?k2 ?k3 ?k4 ?k5 ?kK ?kd ?ku ?_; (case hl => k_asm); (case k1 => k_asm); (case k2 => k_asm); (case k3 => k_asm); (case k4 => k_asm); (case k5 => k_asm); (case kK => first | exact rfl | assumption); (case kd => decide); (case ku => decide); k_whole); (iterate 12 (intro _)); (try k_sweep); (try dsimp only)))
local macro_rules | `(tactic| walk_at "eval IfExp") => `(tactic| (k_here; refine' cut_six ?e1 ?e2; (case' e2 => ((iterate 5 (intro _))))))
theorem small6 {n : Int} (h0 : 0 ≤ n) (h1 : n ≤ 6) : Builtin.Range.small 0 n 1 = true := by
  have : n = 0 ∨ n = 1 ∨ n = 2 ∨ n = 3 ∨ n = 4 ∨ n = 5 ∨ n = 6 := by omega
  rcases this with rfl | rfl | rfl | rfl | rfl | rfl | rfl <;> decide +kernel
theorem size6 {n : Int} (h0 : 0 ≤ n) (h1 : n ≤ 6) : Builtin.Range.rangeSize 0 n 1 = (n.toNat : Int) := by
  have : n = 0 ∨ n = 1 ∨ n = 2 ∨ n = 3 ∨ n = 4 ∨ n = 5 ∨ n = 6 := by omega
  rcases this with rfl | rfl | rfl | rfl | rfl | rfl | rfl <;> decide +kernel
theorem ring_is {v : Value} {x : Int} {t1 t2 : Tok} (hx : x = 4294967296) (h : v ∈ [Value.int 256 t1, .int x t2]) : ∃ n t, v = .int n t ∧ 100 ≤ n ∧ n ≤ 4294967296 := by
  subst hx; exact ring_of h
theorem own_is {v : Value} {t1 t2 t3 t4 t5 t6 : Tok} (h : v ∈ [Value.int 4 t1, .int 1 t2, .int 535 t3, .int 536 t4, .int 537 t5, .int 1460 t6]) : ∃ n t, v = .int n t ∧ 0 < n ∧ n ≤ 1460 := by
  refine ints_of (P := fun n => 0 < n ∧ n ≤ 1460) (.cons _ _ (.cons _ _ (.cons _ _ (.cons _ _ (.cons _ _ (.cons _ _ .nil)))))) ?_ h
  simp
theorem size_is {v : Value} {own d : Int} {t1 t2 t3 t4 t5 t6 t7 : Tok} (h0 : 0 < own) (h1 : own ≤ 1460) (d0 : 0 ≤ d) (d1 : d < 2000) (h : v ∈ [Value.int 0 t1, .int 1 t2, .int (own - 1) t3, .int own t4, .int (own + 1) t5, .int 65535 t6, .int d t7]) : ∃ n t, v = .int n t ∧ 0 ≤ n ∧ n < 65536 := by
  refine ints_of (P := fun n => 0 ≤ n ∧ n < 65536) (.cons _ _ (.cons _ _ (.cons _ _ (.cons _ _ (.cons _ _ (.cons _ _ (.cons _ _ .nil))))))) ?_ h
  simp only [List.forall_mem_cons, List.not_mem_nil, false_implies, implies_true, and_true]
  omega
theorem seq_is {v : Value} {a d : Int} {t1 t2 t3 : Tok} (h : v ∈ [Value.int a t1, .int 0 t2, .int d t3]) : ∃ n t, v = .int n t ∧ True :=
  ints_of (P := fun _ => True) (.cons _ _ (.cons _ _ (.cons _ _ .nil))) (fun _ _ => trivial) h
local macro_rules | `(tactic| walk_at "call ref") => `(tactic| (k_here; (with_reducible show wpAny _ _ (call (Value.ref 1135) _) _ _ _); k_dflt (refine' one_go ?_; k_whole); intro v9 hv9; (iterate 11 (intro _)); k_dflt (first | (obtain ⟨_, _, e9, _, _⟩ := ring_is (by rfl) hv9; subst e9) | (obtain ⟨_, _, e9, _, _⟩ := own_is hv9; subst e9) | (obtain ⟨_, _, e9, _, _⟩ := size_is (by assumption) (by assumption) (by assumption) (by assumption) hv9; subst e9) | (obtain ⟨_, _, e9, _⟩ := seq_is hv9; subst e9)); clear hv9; (try k_sweep); (try dsimp only)))
local macro_rules | `(tactic| walk_at "call ref") => `(tactic| (k_here; (with_reducible show wpAny _ _ (call (Value.ref 1128) _) _ _ _); k_dflt (refine' take_go ?_; k_whole); (iterate 15 (intro _)); (try k_sweep); (try dsimp only)))
local macro_rules | `(tactic| walk_at "call ref") => `(tactic| (k_here; (with_reducible show wpAny _ _ (call (Value.ref 1142) _) _ _ _); k_dflt (refine' Ctr.go (c_forms _ _ _ _ (by assumption) (by assumption)) (hd := by decide) (hu := by decide) ?_; k_whole); (iterate 6 (intro _)); intro hs9; (iterate 4 (intro _)); (have i1 := hs9 _ (List.Mem.head _)); (have i2 := hs9 _ (List.Mem.tail _ (List.Mem.head _))); clear hs9; (try k_sweep); (try dsimp only)))
local macro_rules | `(tactic| walk_at "call ref") => `(tactic| (k_here; (with_reducible show wpAny _ _ (call (Value.ref 1135) _) _ _ _); k_dflt (refine' form_go ?_; k_whole); (iterate 22 (intro _)); (try k_sweep); (try dsimp only)))
theorem keep_src {m : Str → Option Value} {sx : Nat} (h : m (Str.ofString "source") = some (.ref sx)) : m = fun y => if y = Str.ofString "source" then some (.ref sx) else m y := by
  funext y
  by_cases e : y = Str.ofString "source"
  · rw [if_pos e, e, h]
  · rw [if_neg e]
theorem law_walk : ∃ d kwd, defOf q PySem.Challenge.rw_xw0350_01.row.name = some (d, kwd) ∧ PySem.Challenge.rw_xw0350_01.row.prog.theDef PySem.Challenge.rw_xw0350_01.row.name = some (d.params, d.body, d.scope) ∧
    kwWritten? d.params.kwonlyargs d.params.kw_defaults = some kwd ∧ WalkC PySem.Challenge.rw_xw0350_01.row d kwd := by
  refine ⟨_, _, by rfl, by rfl, by rfl, ?_⟩
  intro w s₀ s₁ mg mb G Y fa o pm cd doc dV kV ho hd hcd hD hmg hg args vals as hpre hlay hrd hwl hlo
  have KX : (H.K w.params).In s₁.heap := kIn_of Y
  revert KX
  k_fill
  intro KX
  refine Ground.open G ?_
  intro T B D TE TW
  clear B D TE TW hmg G Y
  wrow_args hpre hlay hrd hwl hlo
  rename_i ns _ _ _ _ _ _ _ l vs _ hL _ _ _ hI _ hc _
  have hn : vs.length ≤ 63 := by have := hI.length; omega
  clear hc
  have he := Dflts.none hD rfl
  subst he
  refine wpC_call (codeC_top (binds := [("script", .ref l)]) (by decide) ho hd (Top.nolimit T) hcd (BindsTo.of_eq rfl) (locs rfl) (fun h₁ F => ?_) rfl rfl rfl (by decide))
  clear hd hD hcd ho
  have K0 := below_caller s₁.heap
  have N0 : News s₁.heap s₁.heap.objs.size h₁ [] := News.nil
  dsimp only
  refine wpC_execs_cons (wpC_If (wpC_isTrue_not_call (wpC_eval_Call ?_)))
  k_steps
  refine' wpC_callWith_K (K := H.K w.params) ?k1 ?_; (case k1 => k_is)
  k_steps
  k_dflt (refine' CtrC.use (c_right _ _ ([] : List UInt8) none _ _ _ _ _ _ _ _ _ _ _ _ ?a1 ?a2 ?a3 ?a4 ?a5 ?hm ?hv ?M) ?k1 ?k2 ?k3 ?k4 ?k5 ?kK ?kd ?ku ?_; (case k1 => k_asm); (case k2 => k_asm); (case k3 => k_asm); (case k4 => k_asm); (case k5 => k_asm); (case kK => exact rfl); (case kd => decide); (case ku => decide); (case hm => k_mem); (case hv => rfl); (case M => exact mss_none fun _ => c_mss0 _ _ _); (case a1 => decide); (case a2 => decide); (case a3 => decide); (case a4 => decide); (case a5 => decide))
  intro h9 k9 F9 N9
  refine ⟨true, rfl, ?_⟩
  k_sweep
  refine ite_neg (by decide) (wpC_execs_nil ?_)
  dsimp only
  refine wpC_execs_cons (wpC_of_any ?_)
  k_steps
  dsimp only
  refine wpC_execs_cons (wpC_For ?_)
  k_steps
  all_goals (rename_i sx g mi tg tm hg0 hm0 hm1 _ _ _ F2 N2 n tn _ hn0 hn1 h3 tk3 t1 u1 v1 hR F3 N3 _)
  clear F2 N2
  dsimp only at hR F3 N3 ⊢
  refine wpAny_pyIter_range hR (small6 hn0 hn1) ?_
  dsimp only
  have hnsx : sx < h3.objs.size := Heap.lt_size (N3 _ (List.Mem.head _)).1
  refine codeC_range (a := 0) (n := n.toNat) (h₀ := s₁.heap) (news := [(sx, srcOf g mi tg tm)]) rfl rfl rfl ?hit (next_is_new F3) (F3.push _) ?hN ?hnw (Nat.ne_of_gt F3.ns.lt)
    (fun m news => ∃ (u : Str → Option Value) (g mi : Int) (tg tm : Tok), m = (fun y => if y = Str.ofString "source" then some (.ref sx) else u y) ∧ news = [(sx, srcOf g mi tg tm)] ∧ 0 ≤ g ∧ 0 ≤ mi ∧ mi < 2147483647)
    ⟨_, g, mi, tg, tm, rfl, rfl, hg0, hm0, hm1⟩ ?step ?hR
  case hit => rw [size6 hn0 hn1]; exact Heap.get?_push_size _ rfl
  case hN => exact fun p hp => by rw [List.mem_singleton.mp hp]; exact ⟨Heap.get?_push_of_some _ (N3 _ (List.Mem.head _)).1, (N3 _ (List.Mem.head _)).2⟩
  case hnw => exact fun p hp => by rw [List.mem_singleton.mp hp]; exact Nat.ne_of_lt hnsx
  case hR =>
    intro h' tk m' news' F' N' _
    refine wpC_of_any ?_
    k_steps
    all_goals exact ⟨rfl, F'.keep, rfl, rfl⟩
  case step =>
    clear hR F3 N3 hn0 hn1 hg0 hm0 hm1
    generalize h3.objs.size = I at hnsx ⊢
    intro i t m₁ news₁ own s₂ hown hi hJ F N hne
    obtain ⟨u, g, mi, tg, tm, rfl, rfl, hg0, hm0, hm1⟩ := hJ
    subst hown
    clear hne hi
    have hIs : I ≠ sx := Nat.ne_of_gt hnsx
    dsimp only [List.cons_append, List.nil_append] at N
    refine wpC_execs_cons (wpC_of_any ?_)
    k_steps
    dsimp only
    refine wpC_execs_cons (wpC_of_any ?_)
    k_steps
    dsimp only
    refine wpC_execs_cons (wpC_of_any ?_)
    k_steps
    dsimp only
    refine wpC_execs_cons (wpC_If (wpC_isTrue_not_call (wpC_eval_Call ?_)))
    k_steps
    refine' wpC_callWith_K (K := H.K w.params) ?k1 ?_; (case k1 => k_is)
    k_steps
    k_dflt (refine' CtrC.use (c_right _ _ _ _ _ _ _ _ _ _ _ _ _ _ _ _ ?a1 ?a2 ?a3 ?a4 ?a5 ?hm ?hv ?M) ?k1 ?k2 ?k3 ?k4 ?k5 ?kK ?kd ?ku ?_; (case k1 => k_asm); (case k2 => k_asm); (case k3 => k_asm); (case k4 => k_asm); (case k5 => k_asm); (case kK => exact rfl); (case kd => decide); (case ku => decide); (case hm => exact List.Mem.tail _ (by assumption)); (case hv => assumption); (case M => assumption); (case a1 => assumption); (case a2 => assumption); (case a3 => assumption); (case a4 => omega); (case a5 => omega))
    intro h9 k9 F9 N9
    refine ⟨true, rfl, ?_⟩
    refine ite_neg (by decide) (wpC_execs_nil ?_)
    dsimp only
    refine wpC_execs_nil ?_
    dsimp only
    refine ⟨h9, k9, _, [(sx, _)], rfl, F9, News.two N9 (List.Mem.head _) (List.Mem.tail _ (by assumption)), fun p hp => ?_, _, _, _, _, _, keep_src (by rfl), rfl, ?zg, ?za, ?zb⟩
    case zg => assumption
    case za => assumption
    case zb => assumption
    · rw [List.mem_singleton.mp hp]; exact fun e => hIs e.symm
end Mine
end
section
set_option maxHeartbeats 8000000
open PySem PySem.W PyProof.Rows Mine.H
theorem Mine.said : PySem.Challenge.rw_xw0350_01.wellSaid = true := by
  rw [PySem.W.Fast.te9446332074065402090]
  delta PySem.W.Fast.tw9446332074065402090
  repeat' (with_reducible refine Bool.and_eq_true_iff.mpr ⟨?_, ?_⟩)
  all_goals (try delta PySem.W.Fast.tw17960256430627541270)
  repeat' (with_reducible refine Bool.and_eq_true_iff.mpr ⟨?_, ?_⟩)
  all_goals (try delta PySem.W.Fast.tw2436336058641802641)
  repeat' (with_reducible refine Bool.and_eq_true_iff.mpr ⟨?_, ?_⟩)
  all_goals (try delta PySem.W.Fast.tw12908688711261696721)
  repeat' (with_reducible refine Bool.and_eq_true_iff.mpr ⟨?_, ?_⟩)
  all_goals (as_aux_lemma => kernel_rfl)
theorem PySem.Challenge.cw_xw0350_01_holds : PySem.Challenge.rw_xw0350_01.Holds := by
  refine holds_law Mine.said fun said => ?_
  obtain ⟨d, kwd, h1, h2, h3, h4⟩ := Mine.law_walk
  refine Mine.holds_clean left1 h1 h2 h3 rfl (fun args _ => Mine.post_true args) said (by decide +kernel) ⟨rfl, rfl, rfl, rfl, rfl, by decide +kernel⟩ ?hw rfl (fun _ _ => rfl) h4
  case hw => w_witness2
end
