import PyProof.Rows.All
import Wide.All
import OpenK.AllK
import Wide.FinOn
import Lean
import PySem.Challenge.RW_xw0263_01
open PySem PySem.W PySem.Calls PyProof.Rows
set_option Elab.async false
set_option maxRecDepth 100000
set_option maxHeartbeats 8000000
set_option linter.unusedVariables false
set_option genSizeOf false
namespace Mine
noncomputable section
noncomputable abbrev rw0 : OpenLaw := PySem.Challenge.rw_xw0263_01
noncomputable abbrev pg : Program := rw0.row.prog
noncomputable def nthS : List Stmt → Nat → Stmt
  | [], _ => .Pass ⟨0, 0, 0, 0⟩
  | s :: _, 0 => s
  | _ :: r, n + 1 => nthS r n
noncomputable def argsOf : Stmt → Arguments
  | .FunctionDef _ a .. => a
  | _ => ⟨[], [], none, [], [], none, []⟩
noncomputable def bodyOf : Stmt → List Stmt
  | .FunctionDef _ _ b .. => b
  | .ClassDef _ _ _ b .. => b
  | _ => []
noncomputable def scopeOf : Stmt → Scope
  | .FunctionDef _ _ _ _ _ _ s .. => s
  | _ => Scope.mk .function [] false false []
noncomputable def fA (i : Nat) : Arguments := argsOf (nthS pg.main.body i)
noncomputable def fB (i : Nat) : List Stmt := bodyOf (nthS pg.main.body i)
noncomputable def fS (i : Nat) : Scope := scopeOf (nthS pg.main.body i)
noncomputable def mA (i j : Nat) : Arguments := argsOf (nthS (fB i) j)
noncomputable def mB (i j : Nat) : List Stmt := bodyOf (nthS (fB i) j)
noncomputable def mS (i j : Nat) : Scope := scopeOf (nthS (fB i) j)
noncomputable abbrev q (s : String) : Str := Str.ofString s
noncomputable abbrev st (s : String) (t : Tok) : Value := .str (Str.ofString s) t
noncomputable abbrev it (i : Int) (t : Tok) : Value := .int i t
noncomputable abbrev rf (a : Addr) : Value := .ref a
noncomputable abbrev ty (s : String) : Value := .type s
noncomputable abbrev de (P : Params) (k : String) (t : Tok) (v : Value) : DictEntry := { hash := PyData.keyHash P (Str.ofString k), key := .str (Str.ofString k) t, val := v }
noncomputable abbrev ob (c : Value) (d : Data) : Obj := Obj.mk c none d #[]
noncomputable def over (ov : List (Nat × Obj)) (l : List Obj) : List Obj := ov.foldr (fun p l => l.set p.1 p.2) l
noncomputable def alt : Bool → List Obj → List Obj
  | _, [] => []
  | true, o :: r => o :: alt false r
  | false, _ :: r => alt true r
noncomputable def br : Nat → List Obj → BT
  | 0, _ => .nil
  | _ + 1, [] => .nil
  | n + 1, o :: r => .node o (br n (alt true r)) (br n (alt false r))
noncomputable def mainE (P : Params) : List DictEntry := [(de P "__name__" 165 (st "law_xw0263_01" 690)), (de P "__doc__" 166 .none), (de P "__package__" 167 .none), (de P "__loader__" 168 (Value.builtin "__main__.__loader__#opaque")), (de P "__spec__" 169 .none), (de P "__annotations__" 170 (rf 6)), (de P "__builtins__" 171 (rf 4)), (de P "__file__" 173 (st "/claim/cut.py" 172)), (de P "__cached__" 174 .none), (de P "_wall" 193 (rf 21)), (de P "KeepError" 215 (rf 31)), (de P "RaftError" 231 (rf 44)), (de P "LogPanic" 247 (rf 56)), (de P "NONE" 251 (it 0 250)), (de P "rising" 260 (rf 65)), (de P "Entry" 323 (rf 110)), (de P "HardState" 385 (rf 159)), (de P "ConfState" 436 (rf 194)), (de P "Snapshot" 492 (rf 236)), (de P "Message" 547 (rf 267)), (de P "VOTE_PENDING" 551 (it 1 550)), (de P "VOTE_LOST" 553 (it 2 552)), (de P "VOTE_WON" 555 (it 3 554)), (de P "majority_vote" 567 (rf 278)), (de P "joint_vote" 578 (rf 285)), (de P "Config" 681 (rf 365)), (de P "config_of" 689 (rf 376)), (de P "_law_draw" 699 (rf 383)), (de P "_law_members" 705 (rf 388)), (de P "_law_twin" 711 (rf 393)), (de P "_law_handed" 717 (rf 398)), (de P "_law_made" 723 (rf 403)), (de P "_law_list" 731 (rf 410)), (de P "_law_put_list" 740 (rf 417)), (de P "_law_fits" 748 (rf 424)), (de P "_law_shot" 757 (rf 431)), (de P "_law_conf_row" 764 (rf 438)), (de P "_law_row" 770 (rf 443)), (de P "_law_own_twin" 776 (rf 448)), (de P "_law_stand" 782 (rf 453)), (de P "_law_config" 789 (rf 460)), (de P "_law_copy" 804 (rf 467)), (de P "_law_turn_members" 819 (rf 474)), (de P "_law_turn_hard" 829 (rf 481)), (de P "_law_turn_entry" 839 (rf 488)), (de P "_law_entry_otherwise" 849 (rf 495)), (de P "_law_shot_otherwise" 860 (rf 502)), (de P "_law_say" 870 (rf 509)), (de P "_law_entry_more" 879 (rf 516)), (de P "_law_message_otherwise" 892 (rf 523)), (de P "_law_turn" 903 (rf 530)), (de P "_law_grow" 914 (rf 537)), (de P "_law_grow_shot" 923 (rf 544)), (de P "_law_grow_message" 933 (rf 551)), (de P "_law_end" 944 (rf 558)), (de P "_law_message" 950 (rf 563)), (de P "law" 956 (rf 568))]
noncomputable def lineE : List Value := [(it 1 0), (it 0 0), (rf 20), (it 5 0), (it 0 0), (rf 27), (it 7 0), (it 0 0), (rf 40), (it 9 0), (it 0 0), (rf 52), (it 13 0), (it 0 0), (rf 64), (it 19 0), (it 0 0), (rf 71), (it 38 0), (it 0 0), (rf 120), (it 56 0), (it 0 0), (rf 169), (it 70 0), (it 0 0), (rf 204), (it 86 0), (it 0 0), (rf 246), (it 125 0), (it 0 0), (rf 277), (it 141 0), (it 0 0), (rf 284), (it 149 0), (it 0 0), (rf 291), (it 200 0), (it 0 0), (rf 375), (it 205 0), (it 0 0), (rf 382), (it 207 0), (it 0 0), (rf 387), (it 216 0), (it 0 0), (rf 392), (it 218 0), (it 0 0), (rf 397), (it 222 0), (it 0 0), (rf 402), (it 232 0), (it 0 0), (rf 409), (it 240 0), (it 0 0), (rf 416), (it 249 0), (it 0 0), (rf 423), (it 257 0), (it 0 0), (rf 430), (it 260 0), (it 0 0), (rf 437), (it 262 0), (it 0 0), (rf 442), (it 278 0), (it 0 0), (rf 447), (it 289 0), (it 0 0), (rf 452), (it 300 0), (it 0 0), (rf 459), (it 305 0), (it 0 0), (rf 466), (it 326 0), (it 0 0), (rf 473), (it 350 0), (it 0 0), (rf 480), (it 358 0), (it 0 0), (rf 487), (it 368 0), (it 0 0), (rf 494), (it 374 0), (it 0 0), (rf 501), (it 388 0), (it 0 0), (rf 508), (it 406 0), (it 0 0), (rf 515), (it 409 0), (it 0 0), (rf 522), (it 438 0), (it 0 0), (rf 529), (it 450 0), (it 0 0), (rf 536), (it 455 0), (it 0 0), (rf 543), (it 459 0), (it 0 0), (rf 550), (it 466 0), (it 0 0), (rf 557), (it 480 0), (it 0 0), (rf 562), (it 494 0), (it 0 0), (rf 567)]
noncomputable def ob0 (P : Params) : List Obj := [(boot_o_0 P),
  (boot_o_1 P),
  (ob .none (Data.dict #[(de P "type.__subclasses__.Exception.0" 212 (it 31 0)), (de P "type.__subclasses__.Exception.n" 213 (it 1 0))] 2)),
  (ob (ty "dict") (Data.dict ((de P "__name__" 165 (st "law_xw0263_01" 690)) :: (mainE P).tail.take 56).toArray 57)),
  (boot_o_4 P),
  (boot_o_5 P),
  (boot_o_6 P),
  (boot_o_7 P),
  (boot_o_8 P),
  (boot_o_9 P),
  (boot_o_10 P),
  (ob (ty "tuple") (Data.seq #[] 0)),
  (ob .none (Data.fields (lineE.take 132).toArray)),
  (ob (ty "code") (Data.fields #[(st "<module>" 182), (st "<module>" 183), (st "/claim/cut.py" 184), (it 1 0), (it 0 0), (it 0 0), (it 0 0), (it 0 0), (rf 11), (Value.bool false), (it 181 0), (rf 12), .none, .none, .none, .none, (it 185 0), (it 1 0), (st "/claim/cut.py" 186)])),
  (Obj.mk (ty "frame") none Data.plain #[(some (rf 13)), (some (rf 3)), (some (rf 3)), none, (some (st "__main__" 164)), none, (some (rf 0))]),
  (ob (ty "tuple") (Data.seq #[] 0)),
  (ob .none (Data.fields #[])),
  (ob (ty "tuple") (Data.seq #[(st "k" 190)] 0)),
  (ob (ty "tuple") (Data.seq #[] 0)),
  (ob .none (Data.func (FuncData.mk (q "_wall") (q "_wall") (fA 0) (FuncBody.stmts (fB 0)) (fS 0) 0 [] .none .none .none .none none .none .none 0))),
  (ob (ty "code") (Data.fields #[(st "_wall" 187), (st "_wall" 188), (st "/claim/cut.py" 189), (it 1 0), (it 1 0), (it 0 0), (it 0 0), (it 3 0), (rf 15), (Value.bool true), (it 181 0), (rf 16), .none, (rf 17), (rf 18), (rf 19), (it 191 0), (it 1 0), (st "/claim/cut.py" 192)])),
  (ob (ty "function") (Data.func (FuncData.mk (q "_wall") (q "_wall") (fA 0) (FuncBody.stmts (fB 0)) (fS 0) 3 [] .none .none .none (st "__main__" 164) none (rf 20) .none 0))),
  (ob (ty "tuple") (Data.seq #[(ty "Exception")] 0)),
  (ob (ty "builtin_function_or_method") (Data.fields #[(Value.builtin "type.__prepare__"), (ty "type")]))]
noncomputable def ob1 (P : Params) : List Obj := [(ob (ty "dict") (Data.dict #[(de P "__module__" 203 (st "raftkeep.errors" 194)), (de P "__qualname__" 205 (st "KeepError" 204)), (de P "__firstlineno__" 207 (it 5 206)), (de P "__static_attributes__" 208 (rf 29))] 4)),
  (ob (ty "tuple") (Data.seq #[] 0)),
  (ob .none (Data.fields #[])),
  (ob (ty "code") (Data.fields #[(st "KeepError" 198), (st "KeepError" 199), (st "/claim/cut.py" 200), (it 5 0), (it 0 0), (it 0 0), (it 0 0), (it 0 0), (rf 25), (Value.bool false), (it 181 0), (rf 26), .none, .none, .none, .none, (it 201 0), (it 5 0), (st "/claim/cut.py" 202)])),
  (Obj.mk (ty "frame") none Data.plain #[(some (rf 27)), (some (rf 3)), (some (rf 24)), none, (some (st "raftkeep.errors" 194)), none, (some (rf 0))]),
  (ob (ty "tuple") (Data.seq #[] 0)),
  (ob (ty "dict") (Data.dict #[(de P "__module__" 203 (st "raftkeep.errors" 194)), (de P "__firstlineno__" 207 (it 5 206)), (de P "__static_attributes__" 208 (rf 29)), (de P "__weakref__" 210 (rf 32)), (de P "__doc__" 211 .none)] 3)),
  (Obj.mk (ty "type") none (Data.cls (ClassData.mk (q "KeepError") [(ty "Exception")] [(rf 31), (ty "Exception"), (ty "BaseException"), (ty "object")] 30 (q "KeepError") true [] [(rf 44)] false none false)) #[(some (rf 22)), none, (some (st "KeepError" 196)), (some (st "KeepError" 204)), (some (Value.builtin "Exception.__new__")), (some (Value.bool true))]),
  (ob (ty "getset_descriptor") (Data.fields #[(st "__weakref__" 209), (rf 31), (Value.builtin "ExceptionGroup.__weakref__"), .none])),
  (ob (ty "super") (Data.fields #[(rf 31), (rf 31), (rf 31)])),
  (ob (ty "builtin_function_or_method") (Data.fields #[(Value.builtin "object.__init_subclass__"), (rf 31)])),
  (ob (ty "tuple") (Data.seq #[(rf 31)] 0)),
  (ob (ty "builtin_function_or_method") (Data.fields #[(Value.builtin "type.__prepare__"), (ty "type")])),
  (ob (ty "dict") (Data.dict #[(de P "__module__" 223 (st "raftkeep.errors" 194)), (de P "__qualname__" 225 (st "RaftError" 224)), (de P "__firstlineno__" 227 (it 7 226)), (de P "__static_attributes__" 228 (rf 42))] 4)),
  (ob (ty "tuple") (Data.seq #[] 0)),
  (ob .none (Data.fields #[])),
  (ob (ty "code") (Data.fields #[(st "RaftError" 218), (st "RaftError" 219), (st "/claim/cut.py" 220), (it 7 0), (it 0 0), (it 0 0), (it 0 0), (it 0 0), (rf 38), (Value.bool false), (it 181 0), (rf 39), .none, .none, .none, .none, (it 221 0), (it 7 0), (st "/claim/cut.py" 222)])),
  (Obj.mk (ty "frame") none Data.plain #[(some (rf 40)), (some (rf 3)), (some (rf 37)), none, (some (st "raftkeep.errors" 194)), none, (some (rf 0))]),
  (ob (ty "tuple") (Data.seq #[] 0)),
  (ob (ty "dict") (Data.dict #[(de P "__module__" 223 (st "raftkeep.errors" 194)), (de P "__firstlineno__" 227 (it 7 226)), (de P "__static_attributes__" 228 (rf 42)), (de P "__doc__" 229 .none)] 2)),
  (Obj.mk (ty "type") none (Data.cls (ClassData.mk (q "RaftError") [(rf 31)] [(rf 44), (rf 31), (ty "Exception"), (ty "BaseException"), (ty "object")] 43 (q "RaftError") true [] [(rf 56)] false none false)) #[(some (rf 35)), none, (some (st "RaftError" 216)), (some (st "RaftError" 224)), (some (Value.builtin "Exception.__new__")), (some (Value.bool true))]),
  (ob (ty "super") (Data.fields #[(rf 44), (rf 44), (rf 44)])),
  (ob (ty "builtin_function_or_method") (Data.fields #[(Value.builtin "object.__init_subclass__"), (rf 44)])),
  (ob (ty "tuple") (Data.seq #[(rf 44)] 0))]
noncomputable def ob2 (P : Params) : List Obj := [(ob (ty "builtin_function_or_method") (Data.fields #[(Value.builtin "type.__prepare__"), (ty "type")])),
  (ob (ty "dict") (Data.dict #[(de P "__module__" 239 (st "raftkeep.errors" 194)), (de P "__qualname__" 241 (st "LogPanic" 240)), (de P "__firstlineno__" 243 (it 9 242)), (de P "__static_attributes__" 244 (rf 54))] 4)),
  (ob (ty "tuple") (Data.seq #[] 0)),
  (ob .none (Data.fields #[])),
  (ob (ty "code") (Data.fields #[(st "LogPanic" 234), (st "LogPanic" 235), (st "/claim/cut.py" 236), (it 9 0), (it 0 0), (it 0 0), (it 0 0), (it 0 0), (rf 50), (Value.bool false), (it 181 0), (rf 51), .none, .none, .none, .none, (it 237 0), (it 9 0), (st "/claim/cut.py" 238)])),
  (Obj.mk (ty "frame") none Data.plain #[(some (rf 52)), (some (rf 3)), (some (rf 49)), none, (some (st "raftkeep.errors" 194)), none, (some (rf 0))]),
  (ob (ty "tuple") (Data.seq #[] 0)),
  (ob (ty "dict") (Data.dict #[(de P "__module__" 239 (st "raftkeep.errors" 194)), (de P "__firstlineno__" 243 (it 9 242)), (de P "__static_attributes__" 244 (rf 54)), (de P "__doc__" 245 .none)] 2)),
  (Obj.mk (ty "type") none (Data.cls (ClassData.mk (q "LogPanic") [(rf 44)] [(rf 56), (rf 44), (rf 31), (ty "Exception"), (ty "BaseException"), (ty "object")] 55 (q "LogPanic") true [] [] false none false)) #[(some (rf 47)), none, (some (st "LogPanic" 232)), (some (st "LogPanic" 240)), (some (Value.builtin "Exception.__new__")), (some (Value.bool true))]),
  (ob (ty "super") (Data.fields #[(rf 56), (rf 56), (rf 56)])),
  (ob (ty "builtin_function_or_method") (Data.fields #[(Value.builtin "object.__init_subclass__"), (rf 56)])),
  (ob (ty "tuple") (Data.seq #[] 0)),
  (ob .none (Data.fields #[])),
  (ob (ty "tuple") (Data.seq #[(st "ids" 255), (st "out" 256), (st "nid" 257)] 0)),
  (ob (ty "tuple") (Data.seq #[] 0)),
  (ob .none (Data.func (FuncData.mk (q "rising") (q "rising") (fA 7) (FuncBody.stmts (fB 7)) (fS 7) 0 [] .none .none .none .none none .none .none 0))),
  (ob (ty "code") (Data.fields #[(st "rising" 252), (st "rising" 253), (st "/claim/cut.py" 254), (it 13 0), (it 1 0), (it 0 0), (it 0 0), (it 3 0), (rf 59), (Value.bool true), (it 181 0), (rf 60), .none, (rf 61), (rf 62), (rf 63), (it 258 0), (it 13 0), (st "/claim/cut.py" 259)])),
  (ob (ty "function") (Data.func (FuncData.mk (q "rising") (q "rising") (fA 7) (FuncBody.stmts (fB 7)) (fS 7) 3 [] .none .none .none (st "raftkeep.messages" 248) none (rf 64) .none 0))),
  (ob (ty "tuple") (Data.seq #[] 0)),
  (ob (ty "builtin_function_or_method") (Data.fields #[(Value.builtin "type.__prepare__"), (ty "type")])),
  (ob (ty "dict") (Data.dict #[(de P "__module__" 268 (st "raftkeep.messages" 248)), (de P "__qualname__" 270 (st "Entry" 269)), (de P "__firstlineno__" 272 (it 19 271)), (de P "__init__" 283 (rf 79)), (de P "row" 290 (rf 86)), (de P "copy" 297 (rf 93)), (de P "payload" 304 (rf 100)), (de P "size" 311 (rf 107)), (de P "__static_attributes__" 316 (rf 108))] 9)),
  (ob (ty "tuple") (Data.seq #[] 0)),
  (ob .none (Data.fields #[(it 21 0), (it 4 0), (rf 78), (it 27 0), (it 4 0), (rf 85), (it 30 0), (it 4 0), (rf 92), (it 33 0), (it 4 0), (rf 99), (it 36 0), (it 4 0), (rf 106)])),
  (ob (ty "code") (Data.fields #[(st "Entry" 263), (st "Entry" 264), (st "/claim/cut.py" 265), (it 19 0), (it 0 0), (it 0 0), (it 0 0), (it 0 0), (rf 69), (Value.bool false), (it 181 0), (rf 70), .none, .none, .none, .none, (it 266 0), (it 19 0), (st "/claim/cut.py" 267)]))]
noncomputable def ob3 (P : Params) : List Obj := [(Obj.mk (ty "frame") none Data.plain #[(some (rf 71)), (some (rf 3)), (some (rf 68)), none, (some (st "raftkeep.messages" 248)), none, (some (rf 0))]),
  (ob (ty "tuple") (Data.seq #[] 0)),
  (ob .none (Data.fields #[])),
  (ob (ty "tuple") (Data.seq #[(st "self" 276), (st "term" 277), (st "index" 278), (st "kind" 279), (st "data" 280)] 0)),
  (ob (ty "tuple") (Data.seq #[] 0)),
  (ob .none (Data.func (FuncData.mk (q "__init__") (q "Entry.__init__") (mA 8 0) (FuncBody.stmts (mB 8 0)) (mS 8 0) 0 [] .none .none .none .none none .none .none 0))),
  (ob (ty "code") (Data.fields #[(st "__init__" 273), (st "Entry.__init__" 274), (st "/claim/cut.py" 275), (it 21 0), (it 5 0), (it 0 0), (it 0 0), (it 3 0), (rf 73), (Value.bool true), (it 181 0), (rf 74), .none, (rf 75), (rf 76), (rf 77), (it 281 0), (it 21 0), (st "/claim/cut.py" 282)])),
  (ob (ty "function") (Data.func (FuncData.mk (q "__init__") (q "Entry.__init__") (mA 8 0) (FuncBody.stmts (mB 8 0)) (mS 8 0) 3 [] .none .none .none (st "raftkeep.messages" 248) none (rf 78) .none 0))),
  (ob (ty "tuple") (Data.seq #[] 0)),
  (ob .none (Data.fields #[])),
  (ob (ty "tuple") (Data.seq #[(st "self" 287)] 0)),
  (ob (ty "tuple") (Data.seq #[] 0)),
  (ob .none (Data.func (FuncData.mk (q "row") (q "Entry.row") (mA 8 1) (FuncBody.stmts (mB 8 1)) (mS 8 1) 0 [] .none .none .none .none none .none .none 0))),
  (ob (ty "code") (Data.fields #[(st "row" 284), (st "Entry.row" 285), (st "/claim/cut.py" 286), (it 27 0), (it 1 0), (it 0 0), (it 0 0), (it 3 0), (rf 80), (Value.bool true), (it 181 0), (rf 81), .none, (rf 82), (rf 83), (rf 84), (it 288 0), (it 27 0), (st "/claim/cut.py" 289)])),
  (ob (ty "function") (Data.func (FuncData.mk (q "row") (q "Entry.row") (mA 8 1) (FuncBody.stmts (mB 8 1)) (mS 8 1) 3 [] .none .none .none (st "raftkeep.messages" 248) none (rf 85) .none 0))),
  (ob (ty "tuple") (Data.seq #[] 0)),
  (ob .none (Data.fields #[])),
  (ob (ty "tuple") (Data.seq #[(st "self" 294)] 0)),
  (ob (ty "tuple") (Data.seq #[] 0)),
  (ob .none (Data.func (FuncData.mk (q "copy") (q "Entry.copy") (mA 8 2) (FuncBody.stmts (mB 8 2)) (mS 8 2) 0 [] .none .none .none .none none .none .none 0))),
  (ob (ty "code") (Data.fields #[(st "copy" 291), (st "Entry.copy" 292), (st "/claim/cut.py" 293), (it 30 0), (it 1 0), (it 0 0), (it 0 0), (it 3 0), (rf 87), (Value.bool true), (it 181 0), (rf 88), .none, (rf 89), (rf 90), (rf 91), (it 295 0), (it 30 0), (st "/claim/cut.py" 296)])),
  (ob (ty "function") (Data.func (FuncData.mk (q "copy") (q "Entry.copy") (mA 8 2) (FuncBody.stmts (mB 8 2)) (mS 8 2) 3 [] .none .none .none (st "raftkeep.messages" 248) none (rf 92) .none 0))),
  (ob (ty "tuple") (Data.seq #[] 0)),
  (ob .none (Data.fields #[]))]
noncomputable def ob4 (P : Params) : List Obj := [(ob (ty "tuple") (Data.seq #[(st "self" 301)] 0)),
  (ob (ty "tuple") (Data.seq #[] 0)),
  (ob .none (Data.func (FuncData.mk (q "payload") (q "Entry.payload") (mA 8 3) (FuncBody.stmts (mB 8 3)) (mS 8 3) 0 [] .none .none .none .none none .none .none 0))),
  (ob (ty "code") (Data.fields #[(st "payload" 298), (st "Entry.payload" 299), (st "/claim/cut.py" 300), (it 33 0), (it 1 0), (it 0 0), (it 0 0), (it 3 0), (rf 94), (Value.bool true), (it 181 0), (rf 95), .none, (rf 96), (rf 97), (rf 98), (it 302 0), (it 33 0), (st "/claim/cut.py" 303)])),
  (ob (ty "function") (Data.func (FuncData.mk (q "payload") (q "Entry.payload") (mA 8 3) (FuncBody.stmts (mB 8 3)) (mS 8 3) 3 [] .none .none .none (st "raftkeep.messages" 248) none (rf 99) .none 0))),
  (ob (ty "tuple") (Data.seq #[] 0)),
  (ob .none (Data.fields #[])),
  (ob (ty "tuple") (Data.seq #[(st "self" 308)] 0)),
  (ob (ty "tuple") (Data.seq #[] 0)),
  (ob .none (Data.func (FuncData.mk (q "size") (q "Entry.size") (mA 8 4) (FuncBody.stmts (mB 8 4)) (mS 8 3) 0 [] .none .none .none .none none .none .none 0))),
  (ob (ty "code") (Data.fields #[(st "size" 305), (st "Entry.size" 306), (st "/claim/cut.py" 307), (it 36 0), (it 1 0), (it 0 0), (it 0 0), (it 3 0), (rf 101), (Value.bool true), (it 181 0), (rf 102), .none, (rf 103), (rf 104), (rf 105), (it 309 0), (it 36 0), (st "/claim/cut.py" 310)])),
  (ob (ty "function") (Data.func (FuncData.mk (q "size") (q "Entry.size") (mA 8 4) (FuncBody.stmts (mB 8 4)) (mS 8 3) 3 [] .none .none .none (st "raftkeep.messages" 248) none (rf 106) .none 0))),
  (ob (ty "tuple") (Data.seq #[(st "data" 312), (st "index" 313), (st "kind" 314), (st "term" 315)] 0)),
  (ob (ty "dict") (Data.dict #[(de P "__module__" 268 (st "raftkeep.messages" 248)), (de P "__firstlineno__" 272 (it 19 271)), (de P "__init__" 283 (rf 79)), (de P "row" 290 (rf 86)), (de P "copy" 297 (rf 93)), (de P "payload" 304 (rf 100)), (de P "size" 311 (rf 107)), (de P "__static_attributes__" 316 (rf 108)), (de P "__dict__" 318 (rf 111)), (de P "__weakref__" 320 (rf 112)), (de P "__doc__" 321 .none)] 4)),
  (Obj.mk (ty "type") none (Data.cls (ClassData.mk (q "Entry") [(ty "object")] [(rf 110), (ty "object")] 109 (q "Entry") true [] [] false none false)) #[none, none, (some (st "Entry" 261)), (some (st "Entry" 269)), (some (Value.builtin "object.__new__")), (some (Value.bool true))]),
  (ob (ty "getset_descriptor") (Data.fields #[(st "__dict__" 317), (rf 110), (Value.builtin "function.__dict__"), (Value.builtin "function.__dict__#set")])),
  (ob (ty "getset_descriptor") (Data.fields #[(st "__weakref__" 319), (rf 110), (Value.builtin "ExceptionGroup.__weakref__"), .none])),
  (ob (ty "super") (Data.fields #[(rf 110), (rf 110), (rf 110)])),
  (ob (ty "builtin_function_or_method") (Data.fields #[(Value.builtin "object.__init_subclass__"), (rf 110)])),
  (ob (ty "tuple") (Data.seq #[] 0)),
  (ob (ty "builtin_function_or_method") (Data.fields #[(Value.builtin "type.__prepare__"), (ty "type")])),
  (ob (ty "dict") (Data.dict #[(de P "__module__" 331 (st "raftkeep.messages" 248)), (de P "__qualname__" 333 (st "HardState" 332)), (de P "__firstlineno__" 335 (it 38 334)), (de P "__init__" 345 (rf 128)), (de P "row" 352 (rf 135)), (de P "empty" 359 (rf 142)), (de P "same" 367 (rf 149)), (de P "copy" 374 (rf 156)), (de P "__static_attributes__" 378 (rf 157))] 9)),
  (ob (ty "tuple") (Data.seq #[] 0)),
  (ob .none (Data.fields #[(it 40 0), (it 4 0), (rf 127), (it 45 0), (it 4 0), (rf 134), (it 48 0), (it 4 0), (rf 141), (it 51 0), (it 4 0), (rf 148), (it 54 0), (it 4 0), (rf 155)]))]
noncomputable def ob5 (P : Params) : List Obj := [(ob (ty "code") (Data.fields #[(st "HardState" 326), (st "HardState" 327), (st "/claim/cut.py" 328), (it 38 0), (it 0 0), (it 0 0), (it 0 0), (it 0 0), (rf 118), (Value.bool false), (it 181 0), (rf 119), .none, .none, .none, .none, (it 329 0), (it 38 0), (st "/claim/cut.py" 330)])),
  (Obj.mk (ty "frame") none Data.plain #[(some (rf 120)), (some (rf 3)), (some (rf 117)), none, (some (st "raftkeep.messages" 248)), none, (some (rf 0))]),
  (ob (ty "tuple") (Data.seq #[] 0)),
  (ob .none (Data.fields #[])),
  (ob (ty "tuple") (Data.seq #[(st "self" 339), (st "term" 340), (st "vote" 341), (st "commit" 342)] 0)),
  (ob (ty "tuple") (Data.seq #[] 0)),
  (ob .none (Data.func (FuncData.mk (q "__init__") (q "HardState.__init__") (mA 9 0) (FuncBody.stmts (mB 9 0)) (mS 9 0) 0 [] .none .none .none .none none .none .none 0))),
  (ob (ty "code") (Data.fields #[(st "__init__" 336), (st "HardState.__init__" 337), (st "/claim/cut.py" 338), (it 40 0), (it 4 0), (it 0 0), (it 0 0), (it 3 0), (rf 122), (Value.bool true), (it 181 0), (rf 123), .none, (rf 124), (rf 125), (rf 126), (it 343 0), (it 40 0), (st "/claim/cut.py" 344)])),
  (ob (ty "function") (Data.func (FuncData.mk (q "__init__") (q "HardState.__init__") (mA 9 0) (FuncBody.stmts (mB 9 0)) (mS 9 0) 3 [] .none .none .none (st "raftkeep.messages" 248) none (rf 127) .none 0))),
  (ob (ty "tuple") (Data.seq #[] 0)),
  (ob .none (Data.fields #[])),
  (ob (ty "tuple") (Data.seq #[(st "self" 349)] 0)),
  (ob (ty "tuple") (Data.seq #[] 0)),
  (ob .none (Data.func (FuncData.mk (q "row") (q "HardState.row") (mA 9 1) (FuncBody.stmts (mB 9 1)) (mS 8 1) 0 [] .none .none .none .none none .none .none 0))),
  (ob (ty "code") (Data.fields #[(st "row" 346), (st "HardState.row" 347), (st "/claim/cut.py" 348), (it 45 0), (it 1 0), (it 0 0), (it 0 0), (it 3 0), (rf 129), (Value.bool true), (it 181 0), (rf 130), .none, (rf 131), (rf 132), (rf 133), (it 350 0), (it 45 0), (st "/claim/cut.py" 351)])),
  (ob (ty "function") (Data.func (FuncData.mk (q "row") (q "HardState.row") (mA 9 1) (FuncBody.stmts (mB 9 1)) (mS 8 1) 3 [] .none .none .none (st "raftkeep.messages" 248) none (rf 134) .none 0))),
  (ob (ty "tuple") (Data.seq #[] 0)),
  (ob .none (Data.fields #[])),
  (ob (ty "tuple") (Data.seq #[(st "self" 356)] 0)),
  (ob (ty "tuple") (Data.seq #[] 0)),
  (ob .none (Data.func (FuncData.mk (q "empty") (q "HardState.empty") (mA 9 2) (FuncBody.stmts (mB 9 2)) (mS 9 2) 0 [] .none .none .none .none none .none .none 0))),
  (ob (ty "code") (Data.fields #[(st "empty" 353), (st "HardState.empty" 354), (st "/claim/cut.py" 355), (it 48 0), (it 1 0), (it 0 0), (it 0 0), (it 3 0), (rf 136), (Value.bool true), (it 181 0), (rf 137), .none, (rf 138), (rf 139), (rf 140), (it 357 0), (it 48 0), (st "/claim/cut.py" 358)])),
  (ob (ty "function") (Data.func (FuncData.mk (q "empty") (q "HardState.empty") (mA 9 2) (FuncBody.stmts (mB 9 2)) (mS 9 2) 3 [] .none .none .none (st "raftkeep.messages" 248) none (rf 141) .none 0))),
  (ob (ty "tuple") (Data.seq #[] 0))]
noncomputable def ob6 (P : Params) : List Obj := [(ob .none (Data.fields #[])),
  (ob (ty "tuple") (Data.seq #[(st "self" 363), (st "other" 364)] 0)),
  (ob (ty "tuple") (Data.seq #[] 0)),
  (ob .none (Data.func (FuncData.mk (q "same") (q "HardState.same") (mA 9 3) (FuncBody.stmts (mB 9 3)) (mS 9 3) 0 [] .none .none .none .none none .none .none 0))),
  (ob (ty "code") (Data.fields #[(st "same" 360), (st "HardState.same" 361), (st "/claim/cut.py" 362), (it 51 0), (it 2 0), (it 0 0), (it 0 0), (it 3 0), (rf 143), (Value.bool true), (it 181 0), (rf 144), .none, (rf 145), (rf 146), (rf 147), (it 365 0), (it 51 0), (st "/claim/cut.py" 366)])),
  (ob (ty "function") (Data.func (FuncData.mk (q "same") (q "HardState.same") (mA 9 3) (FuncBody.stmts (mB 9 3)) (mS 9 3) 3 [] .none .none .none (st "raftkeep.messages" 248) none (rf 148) .none 0))),
  (ob (ty "tuple") (Data.seq #[] 0)),
  (ob .none (Data.fields #[])),
  (ob (ty "tuple") (Data.seq #[(st "self" 371)] 0)),
  (ob (ty "tuple") (Data.seq #[] 0)),
  (ob .none (Data.func (FuncData.mk (q "copy") (q "HardState.copy") (mA 9 4) (FuncBody.stmts (mB 9 4)) (mS 9 4) 0 [] .none .none .none .none none .none .none 0))),
  (ob (ty "code") (Data.fields #[(st "copy" 368), (st "HardState.copy" 369), (st "/claim/cut.py" 370), (it 54 0), (it 1 0), (it 0 0), (it 0 0), (it 3 0), (rf 150), (Value.bool true), (it 181 0), (rf 151), .none, (rf 152), (rf 153), (rf 154), (it 372 0), (it 54 0), (st "/claim/cut.py" 373)])),
  (ob (ty "function") (Data.func (FuncData.mk (q "copy") (q "HardState.copy") (mA 9 4) (FuncBody.stmts (mB 9 4)) (mS 9 4) 3 [] .none .none .none (st "raftkeep.messages" 248) none (rf 155) .none 0))),
  (ob (ty "tuple") (Data.seq #[(st "commit" 375), (st "term" 376), (st "vote" 377)] 0)),
  (ob (ty "dict") (Data.dict #[(de P "__module__" 331 (st "raftkeep.messages" 248)), (de P "__firstlineno__" 335 (it 38 334)), (de P "__init__" 345 (rf 128)), (de P "row" 352 (rf 135)), (de P "empty" 359 (rf 142)), (de P "same" 367 (rf 149)), (de P "copy" 374 (rf 156)), (de P "__static_attributes__" 378 (rf 157)), (de P "__dict__" 380 (rf 160)), (de P "__weakref__" 382 (rf 161)), (de P "__doc__" 383 .none)] 4)),
  (Obj.mk (ty "type") none (Data.cls (ClassData.mk (q "HardState") [(ty "object")] [(rf 159), (ty "object")] 158 (q "HardState") true [] [] false none false)) #[none, none, (some (st "HardState" 324)), (some (st "HardState" 332)), (some (Value.builtin "object.__new__")), (some (Value.bool true))]),
  (ob (ty "getset_descriptor") (Data.fields #[(st "__dict__" 379), (rf 159), (Value.builtin "function.__dict__"), (Value.builtin "function.__dict__#set")])),
  (ob (ty "getset_descriptor") (Data.fields #[(st "__weakref__" 381), (rf 159), (Value.builtin "ExceptionGroup.__weakref__"), .none])),
  (ob (ty "super") (Data.fields #[(rf 159), (rf 159), (rf 159)])),
  (ob (ty "builtin_function_or_method") (Data.fields #[(Value.builtin "object.__init_subclass__"), (rf 159)])),
  (ob (ty "tuple") (Data.seq #[] 0)),
  (ob (ty "builtin_function_or_method") (Data.fields #[(Value.builtin "type.__prepare__"), (ty "type")])),
  (ob (ty "dict") (Data.dict #[(de P "__module__" 393 (st "raftkeep.messages" 248)), (de P "__qualname__" 395 (st "ConfState" 394)), (de P "__firstlineno__" 397 (it 56 396)), (de P "__init__" 409 (rf 177)), (de P "row" 416 (rf 184)), (de P "copy" 423 (rf 191)), (de P "__static_attributes__" 429 (rf 192))] 7)),
  (ob (ty "tuple") (Data.seq #[] 0))]
noncomputable def ob7 (P : Params) : List Obj := [(ob .none (Data.fields #[(it 58 0), (it 4 0), (rf 176), (it 65 0), (it 4 0), (rf 183), (it 68 0), (it 4 0), (rf 190)])),
  (ob (ty "code") (Data.fields #[(st "ConfState" 388), (st "ConfState" 389), (st "/claim/cut.py" 390), (it 56 0), (it 0 0), (it 0 0), (it 0 0), (it 0 0), (rf 167), (Value.bool false), (it 181 0), (rf 168), .none, .none, .none, .none, (it 391 0), (it 56 0), (st "/claim/cut.py" 392)])),
  (Obj.mk (ty "frame") none Data.plain #[(some (rf 169)), (some (rf 3)), (some (rf 166)), none, (some (st "raftkeep.messages" 248)), none, (some (rf 0))]),
  (ob (ty "tuple") (Data.seq #[] 0)),
  (ob .none (Data.fields #[])),
  (ob (ty "tuple") (Data.seq #[(st "self" 401), (st "voters" 402), (st "learners" 403), (st "outgoing" 404), (st "learners_next" 405), (st "auto_leave" 406)] 0)),
  (ob (ty "tuple") (Data.seq #[] 0)),
  (ob .none (Data.func (FuncData.mk (q "__init__") (q "ConfState.__init__") (mA 10 0) (FuncBody.stmts (mB 10 0)) (mS 10 0) 0 [] .none .none .none .none none .none .none 0))),
  (ob (ty "code") (Data.fields #[(st "__init__" 398), (st "ConfState.__init__" 399), (st "/claim/cut.py" 400), (it 58 0), (it 6 0), (it 0 0), (it 0 0), (it 3 0), (rf 171), (Value.bool true), (it 181 0), (rf 172), .none, (rf 173), (rf 174), (rf 175), (it 407 0), (it 58 0), (st "/claim/cut.py" 408)])),
  (ob (ty "function") (Data.func (FuncData.mk (q "__init__") (q "ConfState.__init__") (mA 10 0) (FuncBody.stmts (mB 10 0)) (mS 10 0) 3 [] .none .none .none (st "raftkeep.messages" 248) none (rf 176) .none 0))),
  (ob (ty "tuple") (Data.seq #[] 0)),
  (ob .none (Data.fields #[])),
  (ob (ty "tuple") (Data.seq #[(st "self" 413)] 0)),
  (ob (ty "tuple") (Data.seq #[] 0)),
  (ob .none (Data.func (FuncData.mk (q "row") (q "ConfState.row") (mA 10 1) (FuncBody.stmts (mB 10 1)) (mS 10 1) 0 [] .none .none .none .none none .none .none 0))),
  (ob (ty "code") (Data.fields #[(st "row" 410), (st "ConfState.row" 411), (st "/claim/cut.py" 412), (it 65 0), (it 1 0), (it 0 0), (it 0 0), (it 3 0), (rf 178), (Value.bool true), (it 181 0), (rf 179), .none, (rf 180), (rf 181), (rf 182), (it 414 0), (it 65 0), (st "/claim/cut.py" 415)])),
  (ob (ty "function") (Data.func (FuncData.mk (q "row") (q "ConfState.row") (mA 10 1) (FuncBody.stmts (mB 10 1)) (mS 10 1) 3 [] .none .none .none (st "raftkeep.messages" 248) none (rf 183) .none 0))),
  (ob (ty "tuple") (Data.seq #[] 0)),
  (ob .none (Data.fields #[])),
  (ob (ty "tuple") (Data.seq #[(st "self" 420)] 0)),
  (ob (ty "tuple") (Data.seq #[] 0)),
  (ob .none (Data.func (FuncData.mk (q "copy") (q "ConfState.copy") (mA 10 2) (FuncBody.stmts (mB 10 2)) (mS 10 2) 0 [] .none .none .none .none none .none .none 0))),
  (ob (ty "code") (Data.fields #[(st "copy" 417), (st "ConfState.copy" 418), (st "/claim/cut.py" 419), (it 68 0), (it 1 0), (it 0 0), (it 0 0), (it 3 0), (rf 185), (Value.bool true), (it 181 0), (rf 186), .none, (rf 187), (rf 188), (rf 189), (it 421 0), (it 68 0), (st "/claim/cut.py" 422)])),
  (ob (ty "function") (Data.func (FuncData.mk (q "copy") (q "ConfState.copy") (mA 10 2) (FuncBody.stmts (mB 10 2)) (mS 10 2) 3 [] .none .none .none (st "raftkeep.messages" 248) none (rf 190) .none 0)))]
noncomputable def ob8 (P : Params) : List Obj := [(ob (ty "tuple") (Data.seq #[(st "auto_leave" 424), (st "learners" 425), (st "learners_next" 426), (st "outgoing" 427), (st "voters" 428)] 0)),
  (ob (ty "dict") (Data.dict #[(de P "__module__" 393 (st "raftkeep.messages" 248)), (de P "__firstlineno__" 397 (it 56 396)), (de P "__init__" 409 (rf 177)), (de P "row" 416 (rf 184)), (de P "copy" 423 (rf 191)), (de P "__static_attributes__" 429 (rf 192)), (de P "__dict__" 431 (rf 195)), (de P "__weakref__" 433 (rf 196)), (de P "__doc__" 434 .none)] 4)),
  (Obj.mk (ty "type") none (Data.cls (ClassData.mk (q "ConfState") [(ty "object")] [(rf 194), (ty "object")] 193 (q "ConfState") true [] [] false none false)) #[none, none, (some (st "ConfState" 386)), (some (st "ConfState" 394)), (some (Value.builtin "object.__new__")), (some (Value.bool true))]),
  (ob (ty "getset_descriptor") (Data.fields #[(st "__dict__" 430), (rf 194), (Value.builtin "function.__dict__"), (Value.builtin "function.__dict__#set")])),
  (ob (ty "getset_descriptor") (Data.fields #[(st "__weakref__" 432), (rf 194), (Value.builtin "ExceptionGroup.__weakref__"), .none])),
  (ob (ty "super") (Data.fields #[(rf 194), (rf 194), (rf 194)])),
  (ob (ty "builtin_function_or_method") (Data.fields #[(Value.builtin "object.__init_subclass__"), (rf 194)])),
  (ob (ty "tuple") (Data.seq #[] 0)),
  (ob (ty "builtin_function_or_method") (Data.fields #[(Value.builtin "type.__prepare__"), (ty "type")])),
  (ob (ty "dict") (Data.dict #[(de P "__module__" 444 (st "raftkeep.messages" 248)), (de P "__qualname__" 446 (st "Snapshot" 445)), (de P "__firstlineno__" 448 (it 70 447)), (de P "__init__" 459 (rf 212)), (de P "row" 466 (rf 219)), (de P "empty" 473 (rf 226)), (de P "copy" 480 (rf 233)), (de P "__static_attributes__" 485 (rf 234))] 8)),
  (ob (ty "tuple") (Data.seq #[] 0)),
  (ob .none (Data.fields #[(it 72 0), (it 4 0), (rf 211), (it 78 0), (it 4 0), (rf 218), (it 81 0), (it 4 0), (rf 225), (it 84 0), (it 4 0), (rf 232)])),
  (ob (ty "code") (Data.fields #[(st "Snapshot" 439), (st "Snapshot" 440), (st "/claim/cut.py" 441), (it 70 0), (it 0 0), (it 0 0), (it 0 0), (it 0 0), (rf 202), (Value.bool false), (it 181 0), (rf 203), .none, .none, .none, .none, (it 442 0), (it 70 0), (st "/claim/cut.py" 443)])),
  (Obj.mk (ty "frame") none Data.plain #[(some (rf 204)), (some (rf 3)), (some (rf 201)), none, (some (st "raftkeep.messages" 248)), none, (some (rf 0))]),
  (ob (ty "tuple") (Data.seq #[] 0)),
  (ob .none (Data.fields #[])),
  (ob (ty "tuple") (Data.seq #[(st "self" 452), (st "index" 453), (st "term" 454), (st "conf" 455), (st "data" 456)] 0)),
  (ob (ty "tuple") (Data.seq #[] 0)),
  (ob .none (Data.func (FuncData.mk (q "__init__") (q "Snapshot.__init__") (mA 11 0) (FuncBody.stmts (mB 11 0)) (mS 11 0) 0 [] .none .none .none .none none .none .none 0))),
  (ob (ty "code") (Data.fields #[(st "__init__" 449), (st "Snapshot.__init__" 450), (st "/claim/cut.py" 451), (it 72 0), (it 5 0), (it 0 0), (it 0 0), (it 3 0), (rf 206), (Value.bool true), (it 181 0), (rf 207), .none, (rf 208), (rf 209), (rf 210), (it 457 0), (it 72 0), (st "/claim/cut.py" 458)])),
  (ob (ty "function") (Data.func (FuncData.mk (q "__init__") (q "Snapshot.__init__") (mA 11 0) (FuncBody.stmts (mB 11 0)) (mS 11 0) 3 [] .none .none .none (st "raftkeep.messages" 248) none (rf 211) .none 0))),
  (ob (ty "tuple") (Data.seq #[] 0)),
  (ob .none (Data.fields #[])),
  (ob (ty "tuple") (Data.seq #[(st "self" 463)] 0))]
noncomputable def ob9 (P : Params) : List Obj := [(ob (ty "tuple") (Data.seq #[] 0)),
  (ob .none (Data.func (FuncData.mk (q "row") (q "Snapshot.row") (mA 11 1) (FuncBody.stmts (mB 11 1)) (mS 8 1) 0 [] .none .none .none .none none .none .none 0))),
  (ob (ty "code") (Data.fields #[(st "row" 460), (st "Snapshot.row" 461), (st "/claim/cut.py" 462), (it 78 0), (it 1 0), (it 0 0), (it 0 0), (it 3 0), (rf 213), (Value.bool true), (it 181 0), (rf 214), .none, (rf 215), (rf 216), (rf 217), (it 464 0), (it 78 0), (st "/claim/cut.py" 465)])),
  (ob (ty "function") (Data.func (FuncData.mk (q "row") (q "Snapshot.row") (mA 11 1) (FuncBody.stmts (mB 11 1)) (mS 8 1) 3 [] .none .none .none (st "raftkeep.messages" 248) none (rf 218) .none 0))),
  (ob (ty "tuple") (Data.seq #[] 0)),
  (ob .none (Data.fields #[])),
  (ob (ty "tuple") (Data.seq #[(st "self" 470)] 0)),
  (ob (ty "tuple") (Data.seq #[] 0)),
  (ob .none (Data.func (FuncData.mk (q "empty") (q "Snapshot.empty") (mA 11 2) (FuncBody.stmts (mB 11 2)) (mS 8 1) 0 [] .none .none .none .none none .none .none 0))),
  (ob (ty "code") (Data.fields #[(st "empty" 467), (st "Snapshot.empty" 468), (st "/claim/cut.py" 469), (it 81 0), (it 1 0), (it 0 0), (it 0 0), (it 3 0), (rf 220), (Value.bool true), (it 181 0), (rf 221), .none, (rf 222), (rf 223), (rf 224), (it 471 0), (it 81 0), (st "/claim/cut.py" 472)])),
  (ob (ty "function") (Data.func (FuncData.mk (q "empty") (q "Snapshot.empty") (mA 11 2) (FuncBody.stmts (mB 11 2)) (mS 8 1) 3 [] .none .none .none (st "raftkeep.messages" 248) none (rf 225) .none 0))),
  (ob (ty "tuple") (Data.seq #[] 0)),
  (ob .none (Data.fields #[])),
  (ob (ty "tuple") (Data.seq #[(st "self" 477)] 0)),
  (ob (ty "tuple") (Data.seq #[] 0)),
  (ob .none (Data.func (FuncData.mk (q "copy") (q "Snapshot.copy") (mA 11 3) (FuncBody.stmts (mB 11 3)) (mS 11 3) 0 [] .none .none .none .none none .none .none 0))),
  (ob (ty "code") (Data.fields #[(st "copy" 474), (st "Snapshot.copy" 475), (st "/claim/cut.py" 476), (it 84 0), (it 1 0), (it 0 0), (it 0 0), (it 3 0), (rf 227), (Value.bool true), (it 181 0), (rf 228), .none, (rf 229), (rf 230), (rf 231), (it 478 0), (it 84 0), (st "/claim/cut.py" 479)])),
  (ob (ty "function") (Data.func (FuncData.mk (q "copy") (q "Snapshot.copy") (mA 11 3) (FuncBody.stmts (mB 11 3)) (mS 11 3) 3 [] .none .none .none (st "raftkeep.messages" 248) none (rf 232) .none 0))),
  (ob (ty "tuple") (Data.seq #[(st "conf" 481), (st "data" 482), (st "index" 483), (st "term" 484)] 0)),
  (ob (ty "dict") (Data.dict #[(de P "__module__" 444 (st "raftkeep.messages" 248)), (de P "__firstlineno__" 448 (it 70 447)), (de P "__init__" 459 (rf 212)), (de P "row" 466 (rf 219)), (de P "empty" 473 (rf 226)), (de P "copy" 480 (rf 233)), (de P "__static_attributes__" 485 (rf 234)), (de P "__dict__" 487 (rf 237)), (de P "__weakref__" 489 (rf 238)), (de P "__doc__" 490 .none)] 4)),
  (Obj.mk (ty "type") none (Data.cls (ClassData.mk (q "Snapshot") [(ty "object")] [(rf 236), (ty "object")] 235 (q "Snapshot") true [] [] false none false)) #[none, none, (some (st "Snapshot" 437)), (some (st "Snapshot" 445)), (some (Value.builtin "object.__new__")), (some (Value.bool true))]),
  (ob (ty "getset_descriptor") (Data.fields #[(st "__dict__" 486), (rf 236), (Value.builtin "function.__dict__"), (Value.builtin "function.__dict__#set")])),
  (ob (ty "getset_descriptor") (Data.fields #[(st "__weakref__" 488), (rf 236), (Value.builtin "ExceptionGroup.__weakref__"), .none])),
  (ob (ty "super") (Data.fields #[(rf 236), (rf 236), (rf 236)]))]
noncomputable def ob10 (P : Params) : List Obj := [(ob (ty "builtin_function_or_method") (Data.fields #[(Value.builtin "object.__init_subclass__"), (rf 236)])),
  (ob (ty "tuple") (Data.seq #[] 0)),
  (ob (ty "builtin_function_or_method") (Data.fields #[(Value.builtin "type.__prepare__"), (ty "type")])),
  (ob (ty "dict") (Data.dict #[(de P "__module__" 500 (st "raftkeep.messages" 248)), (de P "__qualname__" 502 (st "Message" 501)), (de P "__firstlineno__" 504 (it 86 503)), (de P "__init__" 515 (rf 254)), (de P "row" 521 (rf 259)), (de P "copy" 527 (rf 264)), (de P "__static_attributes__" 540 (rf 265))] 7)),
  (ob (ty "tuple") (Data.seq #[] 0)),
  (ob .none (Data.fields #[(it 88 0), (it 4 0), (rf 253), (it 102 0), (it 4 0), (rf 258), (it 109 0), (it 4 0), (rf 263)])),
  (ob (ty "code") (Data.fields #[(st "Message" 495), (st "Message" 496), (st "/claim/cut.py" 497), (it 86 0), (it 0 0), (it 0 0), (it 0 0), (it 0 0), (rf 244), (Value.bool false), (it 181 0), (rf 245), .none, .none, .none, .none, (it 498 0), (it 86 0), (st "/claim/cut.py" 499)])),
  (Obj.mk (ty "frame") none Data.plain #[(some (rf 246)), (some (rf 3)), (some (rf 243)), none, (some (st "raftkeep.messages" 248)), none, (some (rf 0))]),
  (ob (ty "tuple") (Data.seq #[] 0)),
  (ob .none (Data.fields #[])),
  (ob (ty "tuple") (Data.seq #[(st "self" 508), (st "kind" 509), (st "to" 510), (st "frm" 511), (st "term" 512)] 0)),
  (ob (ty "tuple") (Data.seq #[] 0)),
  (ob .none (Data.func (FuncData.mk (q "__init__") (q "Message.__init__") (mA 12 0) (FuncBody.stmts (mB 12 0)) (mS 12 0) 0 [] .none .none .none .none none .none .none 0))),
  (ob (ty "code") (Data.fields #[(st "__init__" 505), (st "Message.__init__" 506), (st "/claim/cut.py" 507), (it 88 0), (it 5 0), (it 0 0), (it 0 0), (it 3 0), (rf 248), (Value.bool true), (it 181 0), (rf 249), .none, (rf 250), (rf 251), (rf 252), (it 513 0), (it 88 0), (st "/claim/cut.py" 514)])),
  (ob (ty "function") (Data.func (FuncData.mk (q "__init__") (q "Message.__init__") (mA 12 0) (FuncBody.stmts (mB 12 0)) (mS 12 0) 3 [] .none .none .none (st "raftkeep.messages" 248) none (rf 253) .none 0))),
  (ob (ty "tuple") (Data.seq #[] 0)),
  (ob .none (Data.fields #[])),
  (ob .none (Data.func (FuncData.mk (q "row") (q "Message.row") (mA 12 1) (FuncBody.stmts (mB 12 1)) (mS 12 1) 0 [] .none .none .none .none none .none .none 0))),
  (ob (ty "code") (Data.fields #[(st "row" 516), (st "Message.row" 517), (st "/claim/cut.py" 518), (it 102 0), (it 1 0), (it 0 0), (it 0 0), (it 3 0), (rf 255), (Value.bool true), (it 181 0), (rf 256), .none, .none, .none, (rf 257), (it 519 0), (it 102 0), (st "/claim/cut.py" 520)])),
  (ob (ty "function") (Data.func (FuncData.mk (q "row") (q "Message.row") (mA 12 1) (FuncBody.stmts (mB 12 1)) (mS 12 1) 3 [] .none .none .none (st "raftkeep.messages" 248) none (rf 258) .none 0))),
  (ob (ty "tuple") (Data.seq #[] 0)),
  (ob .none (Data.fields #[])),
  (ob .none (Data.func (FuncData.mk (q "copy") (q "Message.copy") (mA 12 2) (FuncBody.stmts (mB 12 2)) (mS 12 2) 0 [] .none .none .none .none none .none .none 0))),
  (ob (ty "code") (Data.fields #[(st "copy" 522), (st "Message.copy" 523), (st "/claim/cut.py" 524), (it 109 0), (it 1 0), (it 0 0), (it 0 0), (it 3 0), (rf 260), (Value.bool true), (it 181 0), (rf 261), .none, .none, .none, (rf 262), (it 525 0), (it 109 0), (st "/claim/cut.py" 526)]))]
noncomputable def ob11 (P : Params) : List Obj := [(ob (ty "function") (Data.func (FuncData.mk (q "copy") (q "Message.copy") (mA 12 2) (FuncBody.stmts (mB 12 2)) (mS 12 2) 3 [] .none .none .none (st "raftkeep.messages" 248) none (rf 263) .none 0))),
  (ob (ty "tuple") (Data.seq #[(st "commit" 528), (st "context" 529), (st "entries" 530), (st "frm" 531), (st "index" 532), (st "kind" 533), (st "log_term" 534), (st "reject" 535), (st "reject_hint" 536), (st "snapshot" 537), (st "term" 538), (st "to" 539)] 0)),
  (ob (ty "dict") (Data.dict #[(de P "__module__" 500 (st "raftkeep.messages" 248)), (de P "__firstlineno__" 504 (it 86 503)), (de P "__init__" 515 (rf 254)), (de P "row" 521 (rf 259)), (de P "copy" 527 (rf 264)), (de P "__static_attributes__" 540 (rf 265)), (de P "__dict__" 542 (rf 268)), (de P "__weakref__" 544 (rf 269)), (de P "__doc__" 545 .none)] 4)),
  (Obj.mk (ty "type") none (Data.cls (ClassData.mk (q "Message") [(ty "object")] [(rf 267), (ty "object")] 266 (q "Message") true [] [] false none false)) #[none, none, (some (st "Message" 493)), (some (st "Message" 501)), (some (Value.builtin "object.__new__")), (some (Value.bool true))]),
  (ob (ty "getset_descriptor") (Data.fields #[(st "__dict__" 541), (rf 267), (Value.builtin "function.__dict__"), (Value.builtin "function.__dict__#set")])),
  (ob (ty "getset_descriptor") (Data.fields #[(st "__weakref__" 543), (rf 267), (Value.builtin "ExceptionGroup.__weakref__"), .none])),
  (ob (ty "super") (Data.fields #[(rf 267), (rf 267), (rf 267)])),
  (ob (ty "builtin_function_or_method") (Data.fields #[(Value.builtin "object.__init_subclass__"), (rf 267)])),
  (ob (ty "tuple") (Data.seq #[] 0)),
  (ob .none (Data.fields #[])),
  (ob (ty "tuple") (Data.seq #[(st "ids" 559), (st "votes" 560), (st "granted" 561), (st "missing" 562), (st "nid" 563), (st "need" 564)] 0)),
  (ob (ty "tuple") (Data.seq #[] 0)),
  (ob .none (Data.func (FuncData.mk (q "majority_vote") (q "majority_vote") (fA 17) (FuncBody.stmts (fB 17)) (fS 17) 0 [] .none .none .none .none none .none .none 0))),
  (ob (ty "code") (Data.fields #[(st "majority_vote" 556), (st "majority_vote" 557), (st "/claim/cut.py" 558), (it 125 0), (it 2 0), (it 0 0), (it 0 0), (it 3 0), (rf 272), (Value.bool true), (it 181 0), (rf 273), .none, (rf 274), (rf 275), (rf 276), (it 565 0), (it 125 0), (st "/claim/cut.py" 566)])),
  (ob (ty "function") (Data.func (FuncData.mk (q "majority_vote") (q "majority_vote") (fA 17) (FuncBody.stmts (fB 17)) (fS 17) 3 [] .none .none .none (st "raftkeep.quorum" 548) none (rf 277) .none 0))),
  (ob (ty "tuple") (Data.seq #[] 0)),
  (ob .none (Data.fields #[])),
  (ob (ty "tuple") (Data.seq #[(st "a" 571), (st "b" 572), (st "votes" 573), (st "left" 574), (st "right" 575)] 0)),
  (ob (ty "tuple") (Data.seq #[] 0)),
  (ob .none (Data.func (FuncData.mk (q "joint_vote") (q "joint_vote") (fA 18) (FuncBody.stmts (fB 18)) (fS 18) 0 [] .none .none .none .none none .none .none 0))),
  (ob (ty "code") (Data.fields #[(st "joint_vote" 568), (st "joint_vote" 569), (st "/claim/cut.py" 570), (it 141 0), (it 3 0), (it 0 0), (it 0 0), (it 3 0), (rf 279), (Value.bool true), (it 181 0), (rf 280), .none, (rf 281), (rf 282), (rf 283), (it 576 0), (it 141 0), (st "/claim/cut.py" 577)])),
  (ob (ty "function") (Data.func (FuncData.mk (q "joint_vote") (q "joint_vote") (fA 18) (FuncBody.stmts (fB 18)) (fS 18) 3 [] .none .none .none (st "raftkeep.quorum" 548) none (rf 284) .none 0))),
  (ob (ty "tuple") (Data.seq #[] 0)),
  (ob (ty "builtin_function_or_method") (Data.fields #[(Value.builtin "type.__prepare__"), (ty "type")]))]
noncomputable def ob12 (P : Params) : List Obj := [(ob (ty "dict") (Data.dict #[(de P "__module__" 586 (st "raftkeep.quorum" 548)), (de P "__qualname__" 588 (st "Config" 587)), (de P "__firstlineno__" 590 (it 149 589)), (de P "__init__" 602 (rf 299)), (de P "row" 609 (rf 306)), (de P "copy" 616 (rf 313)), (de P "joint" 623 (rf 320)), (de P "all_voters" 630 (rf 327)), (de P "members" 637 (rf 334)), (de P "committed" 645 (rf 341)), (de P "vote" 653 (rf 348)), (de P "conf_state" 660 (rf 355)), (de P "check" 668 (rf 362)), (de P "__static_attributes__" 674 (rf 363))] 14)),
  (ob (ty "tuple") (Data.seq #[] 0)),
  (ob .none (Data.fields #[(it 151 0), (it 4 0), (rf 298), (it 158 0), (it 4 0), (rf 305), (it 161 0), (it 4 0), (rf 312), (it 164 0), (it 4 0), (rf 319), (it 167 0), (it 4 0), (rf 326), (it 170 0), (it 4 0), (rf 333), (it 173 0), (it 4 0), (rf 340), (it 176 0), (it 4 0), (rf 347), (it 179 0), (it 4 0), (rf 354), (it 182 0), (it 4 0), (rf 361)])),
  (ob (ty "code") (Data.fields #[(st "Config" 581), (st "Config" 582), (st "/claim/cut.py" 583), (it 149 0), (it 0 0), (it 0 0), (it 0 0), (it 0 0), (rf 289), (Value.bool false), (it 181 0), (rf 290), .none, .none, .none, .none, (it 584 0), (it 149 0), (st "/claim/cut.py" 585)])),
  (Obj.mk (ty "frame") none Data.plain #[(some (rf 291)), (some (rf 3)), (some (rf 288)), none, (some (st "raftkeep.quorum" 548)), none, (some (rf 0))]),
  (ob (ty "tuple") (Data.seq #[] 0)),
  (ob .none (Data.fields #[])),
  (ob (ty "tuple") (Data.seq #[(st "self" 594), (st "voters" 595), (st "outgoing" 596), (st "learners" 597), (st "learners_next" 598), (st "auto_leave" 599)] 0)),
  (ob (ty "tuple") (Data.seq #[] 0)),
  (ob .none (Data.func (FuncData.mk (q "__init__") (q "Config.__init__") (mA 19 0) (FuncBody.stmts (mB 19 0)) (mS 19 0) 0 [] .none .none .none .none none .none .none 0))),
  (ob (ty "code") (Data.fields #[(st "__init__" 591), (st "Config.__init__" 592), (st "/claim/cut.py" 593), (it 151 0), (it 6 0), (it 0 0), (it 0 0), (it 3 0), (rf 293), (Value.bool true), (it 181 0), (rf 294), .none, (rf 295), (rf 296), (rf 297), (it 600 0), (it 151 0), (st "/claim/cut.py" 601)])),
  (ob (ty "function") (Data.func (FuncData.mk (q "__init__") (q "Config.__init__") (mA 19 0) (FuncBody.stmts (mB 19 0)) (mS 19 0) 3 [] .none .none .none (st "raftkeep.quorum" 548) none (rf 298) .none 0))),
  (ob (ty "tuple") (Data.seq #[] 0)),
  (ob .none (Data.fields #[])),
  (ob (ty "tuple") (Data.seq #[(st "self" 606)] 0)),
  (ob (ty "tuple") (Data.seq #[] 0)),
  (ob .none (Data.func (FuncData.mk (q "row") (q "Config.row") (mA 19 1) (FuncBody.stmts (mB 19 1)) (mS 10 1) 0 [] .none .none .none .none none .none .none 0))),
  (ob (ty "code") (Data.fields #[(st "row" 603), (st "Config.row" 604), (st "/claim/cut.py" 605), (it 158 0), (it 1 0), (it 0 0), (it 0 0), (it 3 0), (rf 300), (Value.bool true), (it 181 0), (rf 301), .none, (rf 302), (rf 303), (rf 304), (it 607 0), (it 158 0), (st "/claim/cut.py" 608)])),
  (ob (ty "function") (Data.func (FuncData.mk (q "row") (q "Config.row") (mA 19 1) (FuncBody.stmts (mB 19 1)) (mS 10 1) 3 [] .none .none .none (st "raftkeep.quorum" 548) none (rf 305) .none 0))),
  (ob (ty "tuple") (Data.seq #[] 0)),
  (ob .none (Data.fields #[])),
  (ob (ty "tuple") (Data.seq #[(st "self" 613)] 0)),
  (ob (ty "tuple") (Data.seq #[] 0)),
  (ob .none (Data.func (FuncData.mk (q "copy") (q "Config.copy") (mA 19 2) (FuncBody.stmts (mB 19 2)) (mS 19 2) 0 [] .none .none .none .none none .none .none 0)))]
noncomputable def ob13 (P : Params) : List Obj := [(ob (ty "code") (Data.fields #[(st "copy" 610), (st "Config.copy" 611), (st "/claim/cut.py" 612), (it 161 0), (it 1 0), (it 0 0), (it 0 0), (it 3 0), (rf 307), (Value.bool true), (it 181 0), (rf 308), .none, (rf 309), (rf 310), (rf 311), (it 614 0), (it 161 0), (st "/claim/cut.py" 615)])),
  (ob (ty "function") (Data.func (FuncData.mk (q "copy") (q "Config.copy") (mA 19 2) (FuncBody.stmts (mB 19 2)) (mS 19 2) 3 [] .none .none .none (st "raftkeep.quorum" 548) none (rf 312) .none 0))),
  (ob (ty "tuple") (Data.seq #[] 0)),
  (ob .none (Data.fields #[])),
  (ob (ty "tuple") (Data.seq #[(st "self" 620)] 0)),
  (ob (ty "tuple") (Data.seq #[] 0)),
  (ob .none (Data.func (FuncData.mk (q "joint") (q "Config.joint") (mA 19 3) (FuncBody.stmts (mB 19 3)) (mS 19 3) 0 [] .none .none .none .none none .none .none 0))),
  (ob (ty "code") (Data.fields #[(st "joint" 617), (st "Config.joint" 618), (st "/claim/cut.py" 619), (it 164 0), (it 1 0), (it 0 0), (it 0 0), (it 3 0), (rf 314), (Value.bool true), (it 181 0), (rf 315), .none, (rf 316), (rf 317), (rf 318), (it 621 0), (it 164 0), (st "/claim/cut.py" 622)])),
  (ob (ty "function") (Data.func (FuncData.mk (q "joint") (q "Config.joint") (mA 19 3) (FuncBody.stmts (mB 19 3)) (mS 19 3) 3 [] .none .none .none (st "raftkeep.quorum" 548) none (rf 319) .none 0))),
  (ob (ty "tuple") (Data.seq #[] 0)),
  (ob .none (Data.fields #[])),
  (ob (ty "tuple") (Data.seq #[(st "self" 627)] 0)),
  (ob (ty "tuple") (Data.seq #[] 0)),
  (ob .none (Data.func (FuncData.mk (q "all_voters") (q "Config.all_voters") (mA 19 4) (FuncBody.stmts (mB 19 4)) (mS 8 3) 0 [] .none .none .none .none none .none .none 0))),
  (ob (ty "code") (Data.fields #[(st "all_voters" 624), (st "Config.all_voters" 625), (st "/claim/cut.py" 626), (it 167 0), (it 1 0), (it 0 0), (it 0 0), (it 3 0), (rf 321), (Value.bool true), (it 181 0), (rf 322), .none, (rf 323), (rf 324), (rf 325), (it 628 0), (it 167 0), (st "/claim/cut.py" 629)])),
  (ob (ty "function") (Data.func (FuncData.mk (q "all_voters") (q "Config.all_voters") (mA 19 4) (FuncBody.stmts (mB 19 4)) (mS 8 3) 3 [] .none .none .none (st "raftkeep.quorum" 548) none (rf 326) .none 0))),
  (ob (ty "tuple") (Data.seq #[] 0)),
  (ob .none (Data.fields #[])),
  (ob (ty "tuple") (Data.seq #[(st "self" 634)] 0)),
  (ob (ty "tuple") (Data.seq #[] 0)),
  (ob .none (Data.func (FuncData.mk (q "members") (q "Config.members") (mA 19 5) (FuncBody.stmts (mB 19 5)) (mS 19 5) 0 [] .none .none .none .none none .none .none 0))),
  (ob (ty "code") (Data.fields #[(st "members" 631), (st "Config.members" 632), (st "/claim/cut.py" 633), (it 170 0), (it 1 0), (it 0 0), (it 0 0), (it 3 0), (rf 328), (Value.bool true), (it 181 0), (rf 329), .none, (rf 330), (rf 331), (rf 332), (it 635 0), (it 170 0), (st "/claim/cut.py" 636)])),
  (ob (ty "function") (Data.func (FuncData.mk (q "members") (q "Config.members") (mA 19 5) (FuncBody.stmts (mB 19 5)) (mS 19 5) 3 [] .none .none .none (st "raftkeep.quorum" 548) none (rf 333) .none 0))),
  (ob (ty "tuple") (Data.seq #[] 0))]
noncomputable def ob14 (P : Params) : List Obj := [(ob .none (Data.fields #[])),
  (ob (ty "tuple") (Data.seq #[(st "self" 641), (st "acked" 642)] 0)),
  (ob (ty "tuple") (Data.seq #[] 0)),
  (ob .none (Data.func (FuncData.mk (q "committed") (q "Config.committed") (mA 19 6) (FuncBody.stmts (mB 19 6)) (mS 19 6) 0 [] .none .none .none .none none .none .none 0))),
  (ob (ty "code") (Data.fields #[(st "committed" 638), (st "Config.committed" 639), (st "/claim/cut.py" 640), (it 173 0), (it 2 0), (it 0 0), (it 0 0), (it 3 0), (rf 335), (Value.bool true), (it 181 0), (rf 336), .none, (rf 337), (rf 338), (rf 339), (it 643 0), (it 173 0), (st "/claim/cut.py" 644)])),
  (ob (ty "function") (Data.func (FuncData.mk (q "committed") (q "Config.committed") (mA 19 6) (FuncBody.stmts (mB 19 6)) (mS 19 6) 3 [] .none .none .none (st "raftkeep.quorum" 548) none (rf 340) .none 0))),
  (ob (ty "tuple") (Data.seq #[] 0)),
  (ob .none (Data.fields #[])),
  (ob (ty "tuple") (Data.seq #[(st "self" 649), (st "votes" 650)] 0)),
  (ob (ty "tuple") (Data.seq #[] 0)),
  (ob .none (Data.func (FuncData.mk (q "vote") (q "Config.vote") (mA 19 7) (FuncBody.stmts (mB 19 7)) (mS 19 7) 0 [] .none .none .none .none none .none .none 0))),
  (ob (ty "code") (Data.fields #[(st "vote" 646), (st "Config.vote" 647), (st "/claim/cut.py" 648), (it 176 0), (it 2 0), (it 0 0), (it 0 0), (it 3 0), (rf 342), (Value.bool true), (it 181 0), (rf 343), .none, (rf 344), (rf 345), (rf 346), (it 651 0), (it 176 0), (st "/claim/cut.py" 652)])),
  (ob (ty "function") (Data.func (FuncData.mk (q "vote") (q "Config.vote") (mA 19 7) (FuncBody.stmts (mB 19 7)) (mS 19 7) 3 [] .none .none .none (st "raftkeep.quorum" 548) none (rf 347) .none 0))),
  (ob (ty "tuple") (Data.seq #[] 0)),
  (ob .none (Data.fields #[])),
  (ob (ty "tuple") (Data.seq #[(st "self" 657)] 0)),
  (ob (ty "tuple") (Data.seq #[] 0)),
  (ob .none (Data.func (FuncData.mk (q "conf_state") (q "Config.conf_state") (mA 19 8) (FuncBody.stmts (mB 19 8)) (mS 10 2) 0 [] .none .none .none .none none .none .none 0))),
  (ob (ty "code") (Data.fields #[(st "conf_state" 654), (st "Config.conf_state" 655), (st "/claim/cut.py" 656), (it 179 0), (it 1 0), (it 0 0), (it 0 0), (it 3 0), (rf 349), (Value.bool true), (it 181 0), (rf 350), .none, (rf 351), (rf 352), (rf 353), (it 658 0), (it 179 0), (st "/claim/cut.py" 659)])),
  (ob (ty "function") (Data.func (FuncData.mk (q "conf_state") (q "Config.conf_state") (mA 19 8) (FuncBody.stmts (mB 19 8)) (mS 10 2) 3 [] .none .none .none (st "raftkeep.quorum" 548) none (rf 354) .none 0))),
  (ob (ty "tuple") (Data.seq #[] 0)),
  (ob .none (Data.fields #[])),
  (ob (ty "tuple") (Data.seq #[(st "self" 664), (st "nid" 665)] 0)),
  (ob (ty "tuple") (Data.seq #[] 0))]
noncomputable def ob15 (P : Params) : List Obj := [(ob .none (Data.func (FuncData.mk (q "check") (q "Config.check") (mA 19 9) (FuncBody.stmts (mB 19 9)) (mS 19 9) 0 [] .none .none .none .none none .none .none 0))),
  (ob (ty "code") (Data.fields #[(st "check" 661), (st "Config.check" 662), (st "/claim/cut.py" 663), (it 182 0), (it 1 0), (it 0 0), (it 0 0), (it 3 0), (rf 356), (Value.bool true), (it 181 0), (rf 357), .none, (rf 358), (rf 359), (rf 360), (it 666 0), (it 182 0), (st "/claim/cut.py" 667)])),
  (ob (ty "function") (Data.func (FuncData.mk (q "check") (q "Config.check") (mA 19 9) (FuncBody.stmts (mB 19 9)) (mS 19 9) 3 [] .none .none .none (st "raftkeep.quorum" 548) none (rf 361) .none 0))),
  (ob (ty "tuple") (Data.seq #[(st "auto_leave" 669), (st "learners" 670), (st "learners_next" 671), (st "outgoing" 672), (st "voters" 673)] 0)),
  (ob (ty "dict") (Data.dict #[(de P "__module__" 586 (st "raftkeep.quorum" 548)), (de P "__firstlineno__" 590 (it 149 589)), (de P "__init__" 602 (rf 299)), (de P "row" 609 (rf 306)), (de P "copy" 616 (rf 313)), (de P "joint" 623 (rf 320)), (de P "all_voters" 630 (rf 327)), (de P "members" 637 (rf 334)), (de P "committed" 645 (rf 341)), (de P "vote" 653 (rf 348)), (de P "conf_state" 660 (rf 355)), (de P "check" 668 (rf 362)), (de P "__static_attributes__" 674 (rf 363)), (de P "__dict__" 676 (rf 366)), (de P "__weakref__" 678 (rf 367)), (de P "__doc__" 679 .none)] 4)),
  (Obj.mk (ty "type") none (Data.cls (ClassData.mk (q "Config") [(ty "object")] [(rf 365), (ty "object")] 364 (q "Config") true [] [] false none false)) #[none, none, (some (st "Config" 579)), (some (st "Config" 587)), (some (Value.builtin "object.__new__")), (some (Value.bool true))]),
  (ob (ty "getset_descriptor") (Data.fields #[(st "__dict__" 675), (rf 365), (Value.builtin "function.__dict__"), (Value.builtin "function.__dict__#set")])),
  (ob (ty "getset_descriptor") (Data.fields #[(st "__weakref__" 677), (rf 365), (Value.builtin "ExceptionGroup.__weakref__"), .none])),
  (ob (ty "super") (Data.fields #[(rf 365), (rf 365), (rf 365)])),
  (ob (ty "builtin_function_or_method") (Data.fields #[(Value.builtin "object.__init_subclass__"), (rf 365)])),
  (ob (ty "tuple") (Data.seq #[] 0)),
  (ob .none (Data.fields #[])),
  (ob (ty "tuple") (Data.seq #[(st "conf" 685), (st "config" 686)] 0)),
  (ob (ty "tuple") (Data.seq #[] 0)),
  (ob .none (Data.func (FuncData.mk (q "config_of") (q "config_of") (fA 20) (FuncBody.stmts (fB 20)) (fS 20) 0 [] .none .none .none .none none .none .none 0))),
  (ob (ty "code") (Data.fields #[(st "config_of" 682), (st "config_of" 683), (st "/claim/cut.py" 684), (it 200 0), (it 1 0), (it 0 0), (it 0 0), (it 3 0), (rf 370), (Value.bool true), (it 181 0), (rf 371), .none, (rf 372), (rf 373), (rf 374), (it 687 0), (it 200 0), (st "/claim/cut.py" 688)])),
  (ob (ty "function") (Data.func (FuncData.mk (q "config_of") (q "config_of") (fA 20) (FuncBody.stmts (fB 20)) (fS 20) 3 [] .none .none .none (st "raftkeep.quorum" 548) none (rf 375) .none 0))),
  (ob (ty "tuple") (Data.seq #[] 0)),
  (ob .none (Data.fields #[])),
  (ob (ty "tuple") (Data.seq #[(st "nums" 695), (st "i" 696)] 0)),
  (ob (ty "tuple") (Data.seq #[] 0)),
  (ob .none (Data.func (FuncData.mk (q "_law_draw") (q "_law_draw") (fA 22) (FuncBody.stmts (fB 22)) (fS 22) 0 [] .none .none .none .none none .none .none 0))),
  (ob (ty "code") (Data.fields #[(st "_law_draw" 692), (st "_law_draw" 693), (st "/claim/cut.py" 694), (it 205 0), (it 2 0), (it 0 0), (it 0 0), (it 3 0), (rf 377), (Value.bool true), (it 181 0), (rf 378), .none, (rf 379), (rf 380), (rf 381), (it 697 0), (it 205 0), (st "/claim/cut.py" 698)])),
  (ob (ty "function") (Data.func (FuncData.mk (q "_law_draw") (q "_law_draw") (fA 22) (FuncBody.stmts (fB 22)) (fS 22) 3 [] .none .none .none (st "law_xw0263_01" 690) none (rf 382) .none 0)))]
noncomputable def ob16 (P : Params) : List Obj := [(ob (ty "tuple") (Data.seq #[] 0)),
  (ob .none (Data.fields #[])),
  (ob .none (Data.func (FuncData.mk (q "_law_members") (q "_law_members") (fA 23) (FuncBody.stmts (fB 23)) (fS 23) 0 [] .none .none .none .none none .none .none 0))),
  (ob (ty "code") (Data.fields #[(st "_law_members" 700), (st "_law_members" 701), (st "/claim/cut.py" 702), (it 207 0), (it 1 0), (it 0 0), (it 0 0), (it 3 0), (rf 384), (Value.bool true), (it 181 0), (rf 385), .none, .none, .none, (rf 386), (it 703 0), (it 207 0), (st "/claim/cut.py" 704)])),
  (ob (ty "function") (Data.func (FuncData.mk (q "_law_members") (q "_law_members") (fA 23) (FuncBody.stmts (fB 23)) (fS 23) 3 [] .none .none .none (st "law_xw0263_01" 690) none (rf 387) .none 0))),
  (ob (ty "tuple") (Data.seq #[] 0)),
  (ob .none (Data.fields #[])),
  (ob .none (Data.func (FuncData.mk (q "_law_twin") (q "_law_twin") (fA 24) (FuncBody.stmts (fB 24)) (fS 24) 0 [] .none .none .none .none none .none .none 0))),
  (ob (ty "code") (Data.fields #[(st "_law_twin" 706), (st "_law_twin" 707), (st "/claim/cut.py" 708), (it 216 0), (it 1 0), (it 0 0), (it 0 0), (it 3 0), (rf 389), (Value.bool true), (it 181 0), (rf 390), .none, .none, .none, (rf 391), (it 709 0), (it 216 0), (st "/claim/cut.py" 710)])),
  (ob (ty "function") (Data.func (FuncData.mk (q "_law_twin") (q "_law_twin") (fA 24) (FuncBody.stmts (fB 24)) (fS 24) 3 [] .none .none .none (st "law_xw0263_01" 690) none (rf 392) .none 0))),
  (ob (ty "tuple") (Data.seq #[] 0)),
  (ob .none (Data.fields #[])),
  (ob .none (Data.func (FuncData.mk (q "_law_handed") (q "_law_handed") (fA 25) (FuncBody.stmts (fB 25)) (fS 25) 0 [] .none .none .none .none none .none .none 0))),
  (ob (ty "code") (Data.fields #[(st "_law_handed" 712), (st "_law_handed" 713), (st "/claim/cut.py" 714), (it 218 0), (it 2 0), (it 0 0), (it 0 0), (it 3 0), (rf 394), (Value.bool true), (it 181 0), (rf 395), .none, .none, .none, (rf 396), (it 715 0), (it 218 0), (st "/claim/cut.py" 716)])),
  (ob (ty "function") (Data.func (FuncData.mk (q "_law_handed") (q "_law_handed") (fA 25) (FuncBody.stmts (fB 25)) (fS 25) 3 [] .none .none .none (st "law_xw0263_01" 690) none (rf 397) .none 0))),
  (ob (ty "tuple") (Data.seq #[] 0)),
  (ob .none (Data.fields #[])),
  (ob .none (Data.func (FuncData.mk (q "_law_made") (q "_law_made") (fA 26) (FuncBody.stmts (fB 26)) (fS 26) 0 [] .none .none .none .none none .none .none 0))),
  (ob (ty "code") (Data.fields #[(st "_law_made" 718), (st "_law_made" 719), (st "/claim/cut.py" 720), (it 222 0), (it 3 0), (it 0 0), (it 0 0), (it 3 0), (rf 399), (Value.bool true), (it 181 0), (rf 400), .none, .none, .none, (rf 401), (it 721 0), (it 222 0), (st "/claim/cut.py" 722)])),
  (ob (ty "function") (Data.func (FuncData.mk (q "_law_made") (q "_law_made") (fA 26) (FuncBody.stmts (fB 26)) (fS 26) 3 [] .none .none .none (st "law_xw0263_01" 690) none (rf 402) .none 0))),
  (ob (ty "tuple") (Data.seq #[] 0)),
  (ob .none (Data.fields #[])),
  (ob (ty "tuple") (Data.seq #[(st "conf" 727), (st "f" 728)] 0)),
  (ob (ty "tuple") (Data.seq #[] 0))]
noncomputable def ob17 (P : Params) : List Obj := [(ob .none (Data.func (FuncData.mk (q "_law_list") (q "_law_list") (fA 27) (FuncBody.stmts (fB 27)) (fS 27) 0 [] .none .none .none .none none .none .none 0))),
  (ob (ty "code") (Data.fields #[(st "_law_list" 724), (st "_law_list" 725), (st "/claim/cut.py" 726), (it 232 0), (it 2 0), (it 0 0), (it 0 0), (it 3 0), (rf 404), (Value.bool true), (it 181 0), (rf 405), .none, (rf 406), (rf 407), (rf 408), (it 729 0), (it 232 0), (st "/claim/cut.py" 730)])),
  (ob (ty "function") (Data.func (FuncData.mk (q "_law_list") (q "_law_list") (fA 27) (FuncBody.stmts (fB 27)) (fS 27) 3 [] .none .none .none (st "law_xw0263_01" 690) none (rf 409) .none 0))),
  (ob (ty "tuple") (Data.seq #[] 0)),
  (ob .none (Data.fields #[])),
  (ob (ty "tuple") (Data.seq #[(st "conf" 735), (st "f" 736), (st "fresh" 737)] 0)),
  (ob (ty "tuple") (Data.seq #[] 0)),
  (ob .none (Data.func (FuncData.mk (q "_law_put_list") (q "_law_put_list") (fA 28) (FuncBody.stmts (fB 28)) (fS 28) 0 [] .none .none .none .none none .none .none 0))),
  (ob (ty "code") (Data.fields #[(st "_law_put_list" 732), (st "_law_put_list" 733), (st "/claim/cut.py" 734), (it 240 0), (it 3 0), (it 0 0), (it 0 0), (it 3 0), (rf 411), (Value.bool true), (it 181 0), (rf 412), .none, (rf 413), (rf 414), (rf 415), (it 738 0), (it 240 0), (st "/claim/cut.py" 739)])),
  (ob (ty "function") (Data.func (FuncData.mk (q "_law_put_list") (q "_law_put_list") (fA 28) (FuncBody.stmts (fB 28)) (fS 28) 3 [] .none .none .none (st "law_xw0263_01" 690) none (rf 416) .none 0))),
  (ob (ty "tuple") (Data.seq #[] 0)),
  (ob .none (Data.fields #[])),
  (ob (ty "tuple") (Data.seq #[(st "members" 744), (st "nid" 745)] 0)),
  (ob (ty "tuple") (Data.seq #[] 0)),
  (ob .none (Data.func (FuncData.mk (q "_law_fits") (q "_law_fits") (fA 29) (FuncBody.stmts (fB 29)) (fS 29) 0 [] .none .none .none .none none .none .none 0))),
  (ob (ty "code") (Data.fields #[(st "_law_fits" 741), (st "_law_fits" 742), (st "/claim/cut.py" 743), (it 249 0), (it 1 0), (it 0 0), (it 0 0), (it 3 0), (rf 418), (Value.bool true), (it 181 0), (rf 419), .none, (rf 420), (rf 421), (rf 422), (it 746 0), (it 249 0), (st "/claim/cut.py" 747)])),
  (ob (ty "function") (Data.func (FuncData.mk (q "_law_fits") (q "_law_fits") (fA 29) (FuncBody.stmts (fB 29)) (fS 29) 3 [] .none .none .none (st "law_xw0263_01" 690) none (rf 423) .none 0))),
  (ob (ty "tuple") (Data.seq #[] 0)),
  (ob .none (Data.fields #[])),
  (ob (ty "tuple") (Data.seq #[(st "members" 752), (st "y" 753), (st "own" 754)] 0)),
  (ob (ty "tuple") (Data.seq #[] 0)),
  (ob .none (Data.func (FuncData.mk (q "_law_shot") (q "_law_shot") (fA 30) (FuncBody.stmts (fB 30)) (fS 30) 0 [] .none .none .none .none none .none .none 0))),
  (ob (ty "code") (Data.fields #[(st "_law_shot" 749), (st "_law_shot" 750), (st "/claim/cut.py" 751), (it 257 0), (it 2 0), (it 0 0), (it 0 0), (it 3 0), (rf 425), (Value.bool true), (it 181 0), (rf 426), .none, (rf 427), (rf 428), (rf 429), (it 755 0), (it 257 0), (st "/claim/cut.py" 756)])),
  (ob (ty "function") (Data.func (FuncData.mk (q "_law_shot") (q "_law_shot") (fA 30) (FuncBody.stmts (fB 30)) (fS 30) 3 [] .none .none .none (st "law_xw0263_01" 690) none (rf 430) .none 0)))]
noncomputable def ob18 (P : Params) : List Obj := [(ob (ty "tuple") (Data.seq #[] 0)),
  (ob .none (Data.fields #[])),
  (ob (ty "tuple") (Data.seq #[(st "members" 761)] 0)),
  (ob (ty "tuple") (Data.seq #[] 0)),
  (ob .none (Data.func (FuncData.mk (q "_law_conf_row") (q "_law_conf_row") (fA 31) (FuncBody.stmts (fB 31)) (fS 31) 0 [] .none .none .none .none none .none .none 0))),
  (ob (ty "code") (Data.fields #[(st "_law_conf_row" 758), (st "_law_conf_row" 759), (st "/claim/cut.py" 760), (it 260 0), (it 1 0), (it 0 0), (it 0 0), (it 3 0), (rf 432), (Value.bool true), (it 181 0), (rf 433), .none, (rf 434), (rf 435), (rf 436), (it 762 0), (it 260 0), (st "/claim/cut.py" 763)])),
  (ob (ty "function") (Data.func (FuncData.mk (q "_law_conf_row") (q "_law_conf_row") (fA 31) (FuncBody.stmts (fB 31)) (fS 31) 3 [] .none .none .none (st "law_xw0263_01" 690) none (rf 437) .none 0))),
  (ob (ty "tuple") (Data.seq #[] 0)),
  (ob .none (Data.fields #[])),
  (ob .none (Data.func (FuncData.mk (q "_law_row") (q "_law_row") (fA 32) (FuncBody.stmts (fB 32)) (fS 32) 0 [] .none .none .none .none none .none .none 0))),
  (ob (ty "code") (Data.fields #[(st "_law_row" 765), (st "_law_row" 766), (st "/claim/cut.py" 767), (it 262 0), (it 2 0), (it 0 0), (it 0 0), (it 3 0), (rf 439), (Value.bool true), (it 181 0), (rf 440), .none, .none, .none, (rf 441), (it 768 0), (it 262 0), (st "/claim/cut.py" 769)])),
  (ob (ty "function") (Data.func (FuncData.mk (q "_law_row") (q "_law_row") (fA 32) (FuncBody.stmts (fB 32)) (fS 32) 3 [] .none .none .none (st "law_xw0263_01" 690) none (rf 442) .none 0))),
  (ob (ty "tuple") (Data.seq #[] 0)),
  (ob .none (Data.fields #[])),
  (ob .none (Data.func (FuncData.mk (q "_law_own_twin") (q "_law_own_twin") (fA 33) (FuncBody.stmts (fB 33)) (fS 33) 0 [] .none .none .none .none none .none .none 0))),
  (ob (ty "code") (Data.fields #[(st "_law_own_twin" 771), (st "_law_own_twin" 772), (st "/claim/cut.py" 773), (it 278 0), (it 2 0), (it 0 0), (it 0 0), (it 3 0), (rf 444), (Value.bool true), (it 181 0), (rf 445), .none, .none, .none, (rf 446), (it 774 0), (it 278 0), (st "/claim/cut.py" 775)])),
  (ob (ty "function") (Data.func (FuncData.mk (q "_law_own_twin") (q "_law_own_twin") (fA 33) (FuncBody.stmts (fB 33)) (fS 33) 3 [] .none .none .none (st "law_xw0263_01" 690) none (rf 447) .none 0))),
  (ob (ty "tuple") (Data.seq #[] 0)),
  (ob .none (Data.fields #[])),
  (ob .none (Data.func (FuncData.mk (q "_law_stand") (q "_law_stand") (fA 34) (FuncBody.stmts (fB 34)) (fS 34) 0 [] .none .none .none .none none .none .none 0))),
  (ob (ty "code") (Data.fields #[(st "_law_stand" 777), (st "_law_stand" 778), (st "/claim/cut.py" 779), (it 289 0), (it 1 0), (it 0 0), (it 0 0), (it 3 0), (rf 449), (Value.bool true), (it 181 0), (rf 450), .none, .none, .none, (rf 451), (it 780 0), (it 289 0), (st "/claim/cut.py" 781)])),
  (ob (ty "function") (Data.func (FuncData.mk (q "_law_stand") (q "_law_stand") (fA 34) (FuncBody.stmts (fB 34)) (fS 34) 3 [] .none .none .none (st "law_xw0263_01" 690) none (rf 452) .none 0))),
  (ob (ty "tuple") (Data.seq #[] 0)),
  (ob .none (Data.fields #[]))]
noncomputable def ob19 (P : Params) : List Obj := [(ob (ty "tuple") (Data.seq #[(st "conf" 786)] 0)),
  (ob (ty "tuple") (Data.seq #[] 0)),
  (ob .none (Data.func (FuncData.mk (q "_law_config") (q "_law_config") (fA 35) (FuncBody.stmts (fB 35)) (fS 35) 0 [] .none .none .none .none none .none .none 0))),
  (ob (ty "code") (Data.fields #[(st "_law_config" 783), (st "_law_config" 784), (st "/claim/cut.py" 785), (it 300 0), (it 1 0), (it 0 0), (it 0 0), (it 3 0), (rf 454), (Value.bool true), (it 181 0), (rf 455), .none, (rf 456), (rf 457), (rf 458), (it 787 0), (it 300 0), (st "/claim/cut.py" 788)])),
  (ob (ty "function") (Data.func (FuncData.mk (q "_law_config") (q "_law_config") (fA 35) (FuncBody.stmts (fB 35)) (fS 35) 3 [] .none .none .none (st "law_xw0263_01" 690) none (rf 459) .none 0))),
  (ob (ty "tuple") (Data.seq #[] 0)),
  (ob .none (Data.fields #[])),
  (ob (ty "tuple") (Data.seq #[(st "things" 793), (st "i" 794), (st "y" 795), (st "kind" 796), (st "given" 797), (st "own" 798), (st "fresh" 799), (st "made" 800), (st "thing" 801)] 0)),
  (ob (ty "tuple") (Data.seq #[] 0)),
  (ob .none (Data.func (FuncData.mk (q "_law_copy") (q "_law_copy") (fA 36) (FuncBody.stmts (fB 36)) (fS 36) 0 [] .none .none .none .none none .none .none 0))),
  (ob (ty "code") (Data.fields #[(st "_law_copy" 790), (st "_law_copy" 791), (st "/claim/cut.py" 792), (it 305 0), (it 3 0), (it 0 0), (it 0 0), (it 3 0), (rf 461), (Value.bool true), (it 181 0), (rf 462), .none, (rf 463), (rf 464), (rf 465), (it 802 0), (it 305 0), (st "/claim/cut.py" 803)])),
  (ob (ty "function") (Data.func (FuncData.mk (q "_law_copy") (q "_law_copy") (fA 36) (FuncBody.stmts (fB 36)) (fS 36) 3 [] .none .none .none (st "law_xw0263_01" 690) none (rf 466) .none 0))),
  (ob (ty "tuple") (Data.seq #[] 0)),
  (ob .none (Data.fields #[])),
  (ob (ty "tuple") (Data.seq #[(st "conf" 808), (st "members" 809), (st "y" 810), (st "f" 811), (st "q" 812), (st "own" 813), (st "given" 814), (st "n" 815), (st "at" 816)] 0)),
  (ob (ty "tuple") (Data.seq #[] 0)),
  (ob .none (Data.func (FuncData.mk (q "_law_turn_members") (q "_law_turn_members") (fA 37) (FuncBody.stmts (fB 37)) (fS 37) 0 [] .none .none .none .none none .none .none 0))),
  (ob (ty "code") (Data.fields #[(st "_law_turn_members" 805), (st "_law_turn_members" 806), (st "/claim/cut.py" 807), (it 326 0), (it 3 0), (it 0 0), (it 0 0), (it 3 0), (rf 468), (Value.bool true), (it 181 0), (rf 469), .none, (rf 470), (rf 471), (rf 472), (it 817 0), (it 326 0), (st "/claim/cut.py" 818)])),
  (ob (ty "function") (Data.func (FuncData.mk (q "_law_turn_members") (q "_law_turn_members") (fA 37) (FuncBody.stmts (fB 37)) (fS 37) 3 [] .none .none .none (st "law_xw0263_01" 690) none (rf 473) .none 0))),
  (ob (ty "tuple") (Data.seq #[] 0)),
  (ob .none (Data.fields #[])),
  (ob (ty "tuple") (Data.seq #[(st "hard" 823), (st "own" 824), (st "f" 825), (st "n" 826)] 0)),
  (ob (ty "tuple") (Data.seq #[] 0)),
  (ob .none (Data.func (FuncData.mk (q "_law_turn_hard") (q "_law_turn_hard") (fA 38) (FuncBody.stmts (fB 38)) (fS 38) 0 [] .none .none .none .none none .none .none 0)))]
noncomputable def ob20 (P : Params) : List Obj := [(ob (ty "code") (Data.fields #[(st "_law_turn_hard" 820), (st "_law_turn_hard" 821), (st "/claim/cut.py" 822), (it 350 0), (it 4 0), (it 0 0), (it 0 0), (it 3 0), (rf 475), (Value.bool true), (it 181 0), (rf 476), .none, (rf 477), (rf 478), (rf 479), (it 827 0), (it 350 0), (st "/claim/cut.py" 828)])),
  (ob (ty "function") (Data.func (FuncData.mk (q "_law_turn_hard") (q "_law_turn_hard") (fA 38) (FuncBody.stmts (fB 38)) (fS 38) 3 [] .none .none .none (st "law_xw0263_01" 690) none (rf 480) .none 0))),
  (ob (ty "tuple") (Data.seq #[] 0)),
  (ob .none (Data.fields #[])),
  (ob (ty "tuple") (Data.seq #[(st "entry" 833), (st "own" 834), (st "f" 835), (st "fresh" 836)] 0)),
  (ob (ty "tuple") (Data.seq #[] 0)),
  (ob .none (Data.func (FuncData.mk (q "_law_turn_entry") (q "_law_turn_entry") (fA 39) (FuncBody.stmts (fB 39)) (fS 39) 0 [] .none .none .none .none none .none .none 0))),
  (ob (ty "code") (Data.fields #[(st "_law_turn_entry" 830), (st "_law_turn_entry" 831), (st "/claim/cut.py" 832), (it 358 0), (it 4 0), (it 0 0), (it 0 0), (it 3 0), (rf 482), (Value.bool true), (it 181 0), (rf 483), .none, (rf 484), (rf 485), (rf 486), (it 837 0), (it 358 0), (st "/claim/cut.py" 838)])),
  (ob (ty "function") (Data.func (FuncData.mk (q "_law_turn_entry") (q "_law_turn_entry") (fA 39) (FuncBody.stmts (fB 39)) (fS 39) 3 [] .none .none .none (st "law_xw0263_01" 690) none (rf 487) .none 0))),
  (ob (ty "tuple") (Data.seq #[] 0)),
  (ob .none (Data.fields #[])),
  (ob (ty "tuple") (Data.seq #[(st "entry" 843), (st "own" 844), (st "y" 845), (st "f" 846)] 0)),
  (ob (ty "tuple") (Data.seq #[] 0)),
  (ob .none (Data.func (FuncData.mk (q "_law_entry_otherwise") (q "_law_entry_otherwise") (fA 40) (FuncBody.stmts (fB 40)) (fS 40) 0 [] .none .none .none .none none .none .none 0))),
  (ob (ty "code") (Data.fields #[(st "_law_entry_otherwise" 840), (st "_law_entry_otherwise" 841), (st "/claim/cut.py" 842), (it 368 0), (it 3 0), (it 0 0), (it 0 0), (it 3 0), (rf 489), (Value.bool true), (it 181 0), (rf 490), .none, (rf 491), (rf 492), (rf 493), (it 847 0), (it 368 0), (st "/claim/cut.py" 848)])),
  (ob (ty "function") (Data.func (FuncData.mk (q "_law_entry_otherwise") (q "_law_entry_otherwise") (fA 40) (FuncBody.stmts (fB 40)) (fS 40) 3 [] .none .none .none (st "law_xw0263_01" 690) none (rf 494) .none 0))),
  (ob (ty "tuple") (Data.seq #[] 0)),
  (ob .none (Data.fields #[])),
  (ob (ty "tuple") (Data.seq #[(st "shot" 853), (st "own" 854), (st "y" 855), (st "f" 856), (st "q" 857)] 0)),
  (ob (ty "tuple") (Data.seq #[] 0)),
  (ob .none (Data.func (FuncData.mk (q "_law_shot_otherwise") (q "_law_shot_otherwise") (fA 41) (FuncBody.stmts (fB 41)) (fS 41) 0 [] .none .none .none .none none .none .none 0))),
  (ob (ty "code") (Data.fields #[(st "_law_shot_otherwise" 850), (st "_law_shot_otherwise" 851), (st "/claim/cut.py" 852), (it 374 0), (it 3 0), (it 0 0), (it 0 0), (it 3 0), (rf 496), (Value.bool true), (it 181 0), (rf 497), .none, (rf 498), (rf 499), (rf 500), (it 858 0), (it 374 0), (st "/claim/cut.py" 859)])),
  (ob (ty "function") (Data.func (FuncData.mk (q "_law_shot_otherwise") (q "_law_shot_otherwise") (fA 41) (FuncBody.stmts (fB 41)) (fS 41) 3 [] .none .none .none (st "law_xw0263_01" 690) none (rf 501) .none 0))),
  (ob (ty "tuple") (Data.seq #[] 0))]
noncomputable def ob21 (P : Params) : List Obj := [(ob .none (Data.fields #[])),
  (ob (ty "tuple") (Data.seq #[(st "message" 864), (st "own" 865), (st "f" 866), (st "n" 867)] 0)),
  (ob (ty "tuple") (Data.seq #[] 0)),
  (ob .none (Data.func (FuncData.mk (q "_law_say") (q "_law_say") (fA 42) (FuncBody.stmts (fB 42)) (fS 42) 0 [] .none .none .none .none none .none .none 0))),
  (ob (ty "code") (Data.fields #[(st "_law_say" 861), (st "_law_say" 862), (st "/claim/cut.py" 863), (it 388 0), (it 4 0), (it 0 0), (it 0 0), (it 3 0), (rf 503), (Value.bool true), (it 181 0), (rf 504), .none, (rf 505), (rf 506), (rf 507), (it 868 0), (it 388 0), (st "/claim/cut.py" 869)])),
  (ob (ty "function") (Data.func (FuncData.mk (q "_law_say") (q "_law_say") (fA 42) (FuncBody.stmts (fB 42)) (fS 42) 3 [] .none .none .none (st "law_xw0263_01" 690) none (rf 508) .none 0))),
  (ob (ty "tuple") (Data.seq #[] 0)),
  (ob .none (Data.fields #[])),
  (ob (ty "tuple") (Data.seq #[(st "message" 874), (st "own" 875), (st "n" 876)] 0)),
  (ob (ty "tuple") (Data.seq #[] 0)),
  (ob .none (Data.func (FuncData.mk (q "_law_entry_more") (q "_law_entry_more") (fA 43) (FuncBody.stmts (fB 43)) (fS 43) 0 [] .none .none .none .none none .none .none 0))),
  (ob (ty "code") (Data.fields #[(st "_law_entry_more" 871), (st "_law_entry_more" 872), (st "/claim/cut.py" 873), (it 406 0), (it 3 0), (it 0 0), (it 0 0), (it 3 0), (rf 510), (Value.bool true), (it 181 0), (rf 511), .none, (rf 512), (rf 513), (rf 514), (it 877 0), (it 406 0), (st "/claim/cut.py" 878)])),
  (ob (ty "function") (Data.func (FuncData.mk (q "_law_entry_more") (q "_law_entry_more") (fA 43) (FuncBody.stmts (fB 43)) (fS 43) 3 [] .none .none .none (st "law_xw0263_01" 690) none (rf 515) .none 0))),
  (ob (ty "tuple") (Data.seq #[] 0)),
  (ob .none (Data.fields #[])),
  (ob (ty "tuple") (Data.seq #[(st "message" 883), (st "own" 884), (st "y" 885), (st "f" 886), (st "q" 887), (st "at" 888), (st "pair" 889)] 0)),
  (ob (ty "tuple") (Data.seq #[] 0)),
  (ob .none (Data.func (FuncData.mk (q "_law_message_otherwise") (q "_law_message_otherwise") (fA 44) (FuncBody.stmts (fB 44)) (fS 44) 0 [] .none .none .none .none none .none .none 0))),
  (ob (ty "code") (Data.fields #[(st "_law_message_otherwise" 880), (st "_law_message_otherwise" 881), (st "/claim/cut.py" 882), (it 409 0), (it 3 0), (it 0 0), (it 0 0), (it 3 0), (rf 517), (Value.bool true), (it 181 0), (rf 518), .none, (rf 519), (rf 520), (rf 521), (it 890 0), (it 409 0), (st "/claim/cut.py" 891)])),
  (ob (ty "function") (Data.func (FuncData.mk (q "_law_message_otherwise") (q "_law_message_otherwise") (fA 44) (FuncBody.stmts (fB 44)) (fS 44) 3 [] .none .none .none (st "law_xw0263_01" 690) none (rf 522) .none 0))),
  (ob (ty "tuple") (Data.seq #[] 0)),
  (ob .none (Data.fields #[])),
  (ob (ty "tuple") (Data.seq #[(st "thing" 896), (st "y" 897), (st "kind" 898), (st "given" 899), (st "own" 900)] 0)),
  (ob (ty "tuple") (Data.seq #[] 0))]
noncomputable def ob22 (P : Params) : List Obj := [(ob .none (Data.func (FuncData.mk (q "_law_turn") (q "_law_turn") (fA 45) (FuncBody.stmts (fB 45)) (fS 45) 0 [] .none .none .none .none none .none .none 0))),
  (ob (ty "code") (Data.fields #[(st "_law_turn" 893), (st "_law_turn" 894), (st "/claim/cut.py" 895), (it 438 0), (it 2 0), (it 0 0), (it 0 0), (it 3 0), (rf 524), (Value.bool true), (it 181 0), (rf 525), .none, (rf 526), (rf 527), (rf 528), (it 901 0), (it 438 0), (st "/claim/cut.py" 902)])),
  (ob (ty "function") (Data.func (FuncData.mk (q "_law_turn") (q "_law_turn") (fA 45) (FuncBody.stmts (fB 45)) (fS 45) 3 [] .none .none .none (st "law_xw0263_01" 690) none (rf 529) .none 0))),
  (ob (ty "tuple") (Data.seq #[] 0)),
  (ob .none (Data.fields #[])),
  (ob (ty "tuple") (Data.seq #[(st "conf" 907), (st "members" 908), (st "by" 909), (st "f" 910), (st "n" 911)] 0)),
  (ob (ty "tuple") (Data.seq #[] 0)),
  (ob .none (Data.func (FuncData.mk (q "_law_grow") (q "_law_grow") (fA 46) (FuncBody.stmts (fB 46)) (fS 46) 0 [] .none .none .none .none none .none .none 0))),
  (ob (ty "code") (Data.fields #[(st "_law_grow" 904), (st "_law_grow" 905), (st "/claim/cut.py" 906), (it 450 0), (it 3 0), (it 0 0), (it 0 0), (it 3 0), (rf 531), (Value.bool true), (it 181 0), (rf 532), .none, (rf 533), (rf 534), (rf 535), (it 912 0), (it 450 0), (st "/claim/cut.py" 913)])),
  (ob (ty "function") (Data.func (FuncData.mk (q "_law_grow") (q "_law_grow") (fA 46) (FuncBody.stmts (fB 46)) (fS 46) 3 [] .none .none .none (st "law_xw0263_01" 690) none (rf 536) .none 0))),
  (ob (ty "tuple") (Data.seq #[] 0)),
  (ob .none (Data.fields #[])),
  (ob (ty "tuple") (Data.seq #[(st "shot" 918), (st "own" 919), (st "by" 920)] 0)),
  (ob (ty "tuple") (Data.seq #[] 0)),
  (ob .none (Data.func (FuncData.mk (q "_law_grow_shot") (q "_law_grow_shot") (fA 47) (FuncBody.stmts (fB 47)) (fS 47) 0 [] .none .none .none .none none .none .none 0))),
  (ob (ty "code") (Data.fields #[(st "_law_grow_shot" 915), (st "_law_grow_shot" 916), (st "/claim/cut.py" 917), (it 455 0), (it 3 0), (it 0 0), (it 0 0), (it 3 0), (rf 538), (Value.bool true), (it 181 0), (rf 539), .none, (rf 540), (rf 541), (rf 542), (it 921 0), (it 455 0), (st "/claim/cut.py" 922)])),
  (ob (ty "function") (Data.func (FuncData.mk (q "_law_grow_shot") (q "_law_grow_shot") (fA 47) (FuncBody.stmts (fB 47)) (fS 47) 3 [] .none .none .none (st "law_xw0263_01" 690) none (rf 543) .none 0))),
  (ob (ty "tuple") (Data.seq #[] 0)),
  (ob .none (Data.fields #[])),
  (ob (ty "tuple") (Data.seq #[(st "message" 927), (st "own" 928), (st "by" 929), (st "at" 930)] 0)),
  (ob (ty "tuple") (Data.seq #[] 0)),
  (ob .none (Data.func (FuncData.mk (q "_law_grow_message") (q "_law_grow_message") (fA 48) (FuncBody.stmts (fB 48)) (fS 48) 0 [] .none .none .none .none none .none .none 0))),
  (ob (ty "code") (Data.fields #[(st "_law_grow_message" 924), (st "_law_grow_message" 925), (st "/claim/cut.py" 926), (it 459 0), (it 3 0), (it 0 0), (it 0 0), (it 3 0), (rf 545), (Value.bool true), (it 181 0), (rf 546), .none, (rf 547), (rf 548), (rf 549), (it 931 0), (it 459 0), (st "/claim/cut.py" 932)])),
  (ob (ty "function") (Data.func (FuncData.mk (q "_law_grow_message") (q "_law_grow_message") (fA 48) (FuncBody.stmts (fB 48)) (fS 48) 3 [] .none .none .none (st "law_xw0263_01" 690) none (rf 550) .none 0)))]
noncomputable def ob23 (P : Params) : List Obj := [(ob (ty "tuple") (Data.seq #[] 0)),
  (ob .none (Data.fields #[])),
  (ob (ty "tuple") (Data.seq #[(st "things" 937), (st "i" 938), (st "kind" 939), (st "given" 940), (st "own" 941)] 0)),
  (ob (ty "tuple") (Data.seq #[] 0)),
  (ob .none (Data.func (FuncData.mk (q "_law_end") (q "_law_end") (fA 49) (FuncBody.stmts (fB 49)) (fS 49) 0 [] .none .none .none .none none .none .none 0))),
  (ob (ty "code") (Data.fields #[(st "_law_end" 934), (st "_law_end" 935), (st "/claim/cut.py" 936), (it 466 0), (it 1 0), (it 0 0), (it 0 0), (it 3 0), (rf 552), (Value.bool true), (it 181 0), (rf 553), .none, (rf 554), (rf 555), (rf 556), (it 942 0), (it 466 0), (st "/claim/cut.py" 943)])),
  (ob (ty "function") (Data.func (FuncData.mk (q "_law_end") (q "_law_end") (fA 49) (FuncBody.stmts (fB 49)) (fS 49) 3 [] .none .none .none (st "law_xw0263_01" 690) none (rf 557) .none 0))),
  (ob (ty "tuple") (Data.seq #[] 0)),
  (ob .none (Data.fields #[])),
  (ob .none (Data.func (FuncData.mk (q "_law_message") (q "_law_message") (fA 50) (FuncBody.stmts (fB 50)) (fS 50) 0 [] .none .none .none .none none .none .none 0))),
  (ob (ty "code") (Data.fields #[(st "_law_message" 945), (st "_law_message" 946), (st "/claim/cut.py" 947), (it 480 0), (it 2 0), (it 0 0), (it 0 0), (it 3 0), (rf 559), (Value.bool true), (it 181 0), (rf 560), .none, .none, .none, (rf 561), (it 948 0), (it 480 0), (st "/claim/cut.py" 949)])),
  (ob (ty "function") (Data.func (FuncData.mk (q "_law_message") (q "_law_message") (fA 50) (FuncBody.stmts (fB 50)) (fS 50) 3 [] .none .none .none (st "law_xw0263_01" 690) none (rf 562) .none 0))),
  (ob (ty "tuple") (Data.seq #[] 0)),
  (ob .none (Data.fields #[])),
  (ob .none (Data.func (FuncData.mk (q "law") (q "law") (fA 51) (FuncBody.stmts (fB 51)) (fS 51) 0 [] .none .none .none .none none .none .none 0))),
  (ob (ty "code") (Data.fields #[(st "law" 951), (st "law" 952), (st "/claim/cut.py" 953), (it 494 0), (it 1 0), (it 0 0), (it 0 0), (it 3 0), (rf 564), (Value.bool true), (it 181 0), (rf 565), .none, .none, .none, (rf 566), (it 954 0), (it 494 0), (st "/claim/cut.py" 955)])),
  (ob (ty "function") (Data.func (FuncData.mk (q "law") (q "law") (fA 51) (FuncBody.stmts (fB 51)) (fS 51) 3 [] .none .none .none (st "law_xw0263_01" 690) none (rf 567) .none 0)))]
noncomputable def objs (P : Params) : List Obj := ob0 P ++ ob1 P ++ ob2 P ++ ob3 P ++ ob4 P ++ ob5 P ++ ob6 P ++ ob7 P ++ ob8 P ++ ob9 P ++ ob10 P ++ ob11 P ++ ob12 P ++ ob13 P ++ ob14 P ++ ob15 P ++ ob16 P ++ ob17 P ++ ob18 P ++ ob19 P ++ ob20 P ++ ob21 P ++ ob22 P ++ ob23 P
noncomputable def state0 (P : Params) : List Obj := over [(2, (boot_o_2 P)), (3, (boot_o_3 P)), (12, (ob .none (Data.fields (lineE.take 0).toArray)))] ((objs P).take 15)
noncomputable def state1 (P : Params) : List Obj := over [(3, (ob (ty "dict") (Data.dict ((de P "__name__" 165 (st "raftkeep.errors" 194)) :: (mainE P).tail.take 10).toArray 11))), (12, (ob .none (Data.fields (lineE.take 6).toArray))), (31, (Obj.mk (ty "type") none (Data.cls (ClassData.mk (q "KeepError") [(ty "Exception")] [(rf 31), (ty "Exception"), (ty "BaseException"), (ty "object")] 30 (q "KeepError") true [] [] false none false)) #[(some (rf 22)), none, (some (st "KeepError" 196)), (some (st "KeepError" 204)), (some (Value.builtin "Exception.__new__")), (some (Value.bool true))]))] ((objs P).take 35)
noncomputable def state2 (P : Params) : List Obj := over [(3, (ob (ty "dict") (Data.dict ((de P "__name__" 165 (st "raftkeep.errors" 194)) :: (mainE P).tail.take 11).toArray 12))), (12, (ob .none (Data.fields (lineE.take 9).toArray))), (44, (Obj.mk (ty "type") none (Data.cls (ClassData.mk (q "RaftError") [(rf 31)] [(rf 44), (rf 31), (ty "Exception"), (ty "BaseException"), (ty "object")] 43 (q "RaftError") true [] [] false none false)) #[(some (rf 35)), none, (some (st "RaftError" 216)), (some (st "RaftError" 224)), (some (Value.builtin "Exception.__new__")), (some (Value.bool true))]))] ((objs P).take 47)
noncomputable def state3 (P : Params) : List Obj := over [(3, (ob (ty "dict") (Data.dict ((de P "__name__" 165 (st "raftkeep.messages" 248)) :: (mainE P).tail.take 14).toArray 15))), (12, (ob .none (Data.fields (lineE.take 15).toArray)))] ((objs P).take 66)
noncomputable def state4 (P : Params) : List Obj := over [(3, (ob (ty "dict") (Data.dict ((de P "__name__" 165 (st "raftkeep.messages" 248)) :: (mainE P).tail.take 15).toArray 16))), (12, (ob .none (Data.fields (lineE.take 18).toArray)))] ((objs P).take 115)
noncomputable def state5 (P : Params) : List Obj := over [(3, (ob (ty "dict") (Data.dict ((de P "__name__" 165 (st "raftkeep.messages" 248)) :: (mainE P).tail.take 16).toArray 17))), (12, (ob .none (Data.fields (lineE.take 21).toArray)))] ((objs P).take 164)
noncomputable def state6 (P : Params) : List Obj := over [(3, (ob (ty "dict") (Data.dict ((de P "__name__" 165 (st "raftkeep.messages" 248)) :: (mainE P).tail.take 17).toArray 18))), (12, (ob .none (Data.fields (lineE.take 24).toArray)))] ((objs P).take 199)
noncomputable def state7 (P : Params) : List Obj := over [(3, (ob (ty "dict") (Data.dict ((de P "__name__" 165 (st "raftkeep.messages" 248)) :: (mainE P).tail.take 18).toArray 19))), (12, (ob .none (Data.fields (lineE.take 27).toArray)))] ((objs P).take 241)
noncomputable def state8 (P : Params) : List Obj := over [(3, (ob (ty "dict") (Data.dict ((de P "__name__" 165 (st "raftkeep.quorum" 548)) :: (mainE P).tail.take 24).toArray 25))), (12, (ob .none (Data.fields (lineE.take 36).toArray)))] ((objs P).take 286)
noncomputable def state9 (P : Params) : List Obj := over [(3, (ob (ty "dict") (Data.dict ((de P "__name__" 165 (st "raftkeep.quorum" 548)) :: (mainE P).tail.take 25).toArray 26))), (12, (ob .none (Data.fields (lineE.take 39).toArray)))] ((objs P).take 370)
noncomputable def state10 (P : Params) : List Obj := over [(3, (ob (ty "dict") (Data.dict ((de P "__name__" 165 (st "law_xw0263_01" 690)) :: (mainE P).tail.take 38).toArray 39))), (12, (ob .none (Data.fields (lineE.take 78).toArray)))] ((objs P).take 449)
noncomputable def state11 (P : Params) : List Obj := over [(3, (ob (ty "dict") (Data.dict ((de P "__name__" 165 (st "law_xw0263_01" 690)) :: (mainE P).tail.take 50).toArray 51))), (12, (ob .none (Data.fields (lineE.take 114).toArray)))] ((objs P).take 531)
noncomputable def state12 (P : Params) : List Obj := over [] ((objs P).take 569)

noncomputable def stt (l : List Obj) (n toks : Nat) (os : OsState) : SharedT := ⟨br 11 l, n, {}, #[], {}, toks, os⟩
noncomputable def env0 : Env := { scope := pg.main.scope, locals := mainNs, globals := mainNs, cells := [], code := .ref 13, frame := some 14 }
noncomputable def bd : List Stmt := behindTheImports pg
noncomputable def cd0 : Code := .body bd env0
noncomputable def fr0 : List Frame := [topFrame ⟨0, 0, 0, 0⟩]
noncomputable def sts (a k : Nat) : List Stmt := (bd.drop a).take k
noncomputable def hp0 (P : Params) : Heap := ⟨(state0 P).toArray, {}⟩
noncomputable def hpF (P : Params) : Heap := ⟨(objs P).toArray, {}⟩
theorem h_pre (w : World) : (fun os => topGo treeTable pg w 11 (some (.ref 6)) 12 ⟨boot_heap w.params, #[], boot_drawn, boot_toks, os⟩ (topStub pg)) = fun os => some (⟨hp0 w.params, #[], {}, 187, os⟩, ⟨denote treeTable cd0, cd0, ⟨0, 0, 0, 0⟩, fr0⟩) := by kernel_rfl
theorem h_blk (w : World) : (fun os => segRun treeTable pg w 11 (some (.ref 6)) 1 1 ⟨hp0 w.params, #[], {}, 187, os⟩ (blockOf bd env0 cd0 ⟨0, 0, 0, 0⟩ fr0)) = fun os => some (Flow.next, (stt (state0 w.params) 15 187 os).abs, cd0, ⟨0, 0, 0, 0⟩) := by kernel_rfl
theorem h_0 (w : World) : (fun os => segRunT treeTable pg w 11 (some (.ref 6)) 1 235 (stt (state0 w.params) 15 187 os) (piecesOf (sts 0 3) env0 cd0 ⟨0, 0, 0, 0⟩ fr0)) = fun os => some (Flow.next, stt (state1 w.params) 35 216 os, cd0, ⟨5, 0, 6, 8⟩) := by first | (rw [PySem.W.Fast.te10110043849684766642, PySem.W.Fast.te14364793385576792824]; kernel_rfl) | kernel_rfl
theorem h_1 (w : World) : (fun os => segRunT treeTable pg w 11 (some (.ref 6)) 1 214 (stt (state1 w.params) 35 216 os) (piecesOf (sts 3 1) env0 cd0 ⟨5, 0, 6, 8⟩ fr0)) = fun os => some (Flow.next, stt (state2 w.params) 47 232 os, cd0, ⟨7, 0, 8, 8⟩) := by first | (rw [PySem.W.Fast.te10110043849684766642, PySem.W.Fast.te14364793385576792824]; kernel_rfl) | kernel_rfl
theorem h_2 (w : World) : (fun os => segRunT treeTable pg w 11 (some (.ref 6)) 1 277 (stt (state2 w.params) 47 232 os) (piecesOf (sts 4 4) env0 cd0 ⟨7, 0, 8, 8⟩ fr0)) = fun os => some (Flow.next, stt (state3 w.params) 66 261 os, cd0, ⟨13, 0, 18, 14⟩) := by first | (rw [PySem.W.Fast.te10110043849684766642, PySem.W.Fast.te14364793385576792824]; kernel_rfl) | kernel_rfl
theorem h_3 (w : World) : (fun os => segRunT treeTable pg w 11 (some (.ref 6)) 1 353 (stt (state3 w.params) 66 261 os) (piecesOf (sts 8 1) env0 cd0 ⟨13, 0, 18, 14⟩ fr0)) = fun os => some (Flow.next, stt (state4 w.params) 115 324 os, cd0, ⟨19, 0, 37, 16⟩) := by first | (rw [PySem.W.Fast.te10110043849684766642, PySem.W.Fast.te14364793385576792824]; kernel_rfl) | kernel_rfl
theorem h_4 (w : World) : (fun os => segRunT treeTable pg w 11 (some (.ref 6)) 1 352 (stt (state4 w.params) 115 324 os) (piecesOf (sts 9 1) env0 cd0 ⟨19, 0, 37, 16⟩ fr0)) = fun os => some (Flow.next, stt (state5 w.params) 164 386 os, cd0, ⟨38, 0, 55, 59⟩) := by first | (rw [PySem.W.Fast.te10110043849684766642, PySem.W.Fast.te14364793385576792824]; kernel_rfl) | kernel_rfl
theorem h_5 (w : World) : (fun os => segRunT treeTable pg w 11 (some (.ref 6)) 1 293 (stt (state5 w.params) 164 386 os) (piecesOf (sts 10 1) env0 cd0 ⟨38, 0, 55, 59⟩ fr0)) = fun os => some (Flow.next, stt (state6 w.params) 199 437 os, cd0, ⟨56, 0, 69, 104⟩) := by first | (rw [PySem.W.Fast.te10110043849684766642, PySem.W.Fast.te14364793385576792824]; kernel_rfl) | kernel_rfl
theorem h_6 (w : World) : (fun os => segRunT treeTable pg w 11 (some (.ref 6)) 1 322 (stt (state6 w.params) 199 437 os) (piecesOf (sts 11 1) env0 cd0 ⟨56, 0, 69, 104⟩ fr0)) = fun os => some (Flow.next, stt (state7 w.params) 241 493 os, cd0, ⟨70, 0, 85, 75⟩) := by first | (rw [PySem.W.Fast.te10110043849684766642, PySem.W.Fast.te14364793385576792824]; kernel_rfl) | kernel_rfl
theorem h_7 (w : World) : (fun os => segRunT treeTable pg w 11 (some (.ref 6)) 1 396 (stt (state7 w.params) 241 493 os) (piecesOf (sts 12 7) env0 cd0 ⟨70, 0, 85, 75⟩ fr0)) = fun os => some (Flow.next, stt (state8 w.params) 286 579 os, cd0, ⟨141, 0, 148, 23⟩) := by first | (rw [PySem.W.Fast.te10110043849684766642, PySem.W.Fast.te14364793385576792824]; kernel_rfl) | kernel_rfl
theorem h_8 (w : World) : (fun os => segRunT treeTable pg w 11 (some (.ref 6)) 1 513 (stt (state8 w.params) 286 579 os) (piecesOf (sts 19 1) env0 cd0 ⟨141, 0, 148, 23⟩ fr0)) = fun os => some (Flow.next, stt (state9 w.params) 370 682 os, cd0, ⟨149, 0, 199, 80⟩) := by first | (rw [PySem.W.Fast.te10110043849684766642, PySem.W.Fast.te14364793385576792824]; kernel_rfl) | kernel_rfl
theorem h_9 (w : World) : (fun os => segRunT treeTable pg w 11 (some (.ref 6)) 1 377 (stt (state9 w.params) 370 682 os) (piecesOf (sts 20 14) env0 cd0 ⟨149, 0, 199, 80⟩ fr0)) = fun os => some (Flow.next, stt (state10 w.params) 449 777 os, cd0, ⟨278, 0, 288, 78⟩) := by first | (rw [PySem.W.Fast.te10110043849684766642, PySem.W.Fast.te14364793385576792824]; kernel_rfl) | kernel_rfl
theorem h_10 (w : World) : (fun os => segRunT treeTable pg w 11 (some (.ref 6)) 1 390 (stt (state10 w.params) 449 777 os) (piecesOf (sts 34 12) env0 cd0 ⟨278, 0, 288, 78⟩ fr0)) = fun os => some (Flow.next, stt (state11 w.params) 531 904 os, cd0, ⟨438, 0, 449, 45⟩) := by first | (rw [PySem.W.Fast.te10110043849684766642, PySem.W.Fast.te14364793385576792824]; kernel_rfl) | kernel_rfl
theorem h_11 (w : World) : (fun os => segRunT treeTable pg w 11 (some (.ref 6)) 1 182 (stt (state11 w.params) 531 904 os) (piecesOf (sts 46 6) env0 cd0 ⟨438, 0, 449, 45⟩ fr0)) = fun os => some (Flow.next, stt (state12 w.params) 569 957 os, cd0, ⟨494, 0, 525, 27⟩) := by first | (rw [PySem.W.Fast.te10110043849684766642, PySem.W.Fast.te14364793385576792824]; kernel_rfl) | kernel_rfl
theorem h_fin (w : World) : (fun os => topRun treeTable pg w 11 (some (.ref 6)) 2 (stt (state12 w.params) 569 957 os).abs ⟨doneF .next, cd0, ⟨494, 0, 525, 27⟩, fr0⟩) = fun os => some ⟨hpF w.params, #[], {}, 957, os⟩ := by kernel_rfl
theorem h_body : bd = sts 0 3 ++ (sts 3 1 ++ (sts 4 4 ++ (sts 8 1 ++ (sts 9 1 ++ (sts 10 1 ++ (sts 11 1 ++ (sts 12 7 ++ (sts 19 1 ++ (sts 20 14 ++ (sts 34 12 ++ (sts 46 6 ++ []))))))))))) := by kernel_rfl
theorem h_run (w : World) (os : OsState) : topRun treeTable pg w 11 (some (.ref 6)) (12 + (1 + (235 + (214 + (277 + (353 + (352 + (293 + (322 + (396 + (513 + (377 + (390 + (182 + 2)))))))))))))) ⟨boot_heap w.params, #[], boot_drawn, boot_toks, os⟩ (topStub pg) = some ⟨hpF w.params, #[], {}, 957, os⟩ := by
  refine go_top (congrFun (h_pre w) os) ?_
  refine piece_block (congrFun (h_blk w) os) ?_
  rw [h_body]
  refine piece_app (segRun_of (congrFun (h_0 w) os)) ?_
  refine piece_app (segRun_of (congrFun (h_1 w) os)) ?_
  refine piece_app (segRun_of (congrFun (h_2 w) os)) ?_
  refine piece_app (segRun_of (congrFun (h_3 w) os)) ?_
  refine piece_app (segRun_of (congrFun (h_4 w) os)) ?_
  refine piece_app (segRun_of (congrFun (h_5 w) os)) ?_
  refine piece_app (segRun_of (congrFun (h_6 w) os)) ?_
  refine piece_app (segRun_of (congrFun (h_7 w) os)) ?_
  refine piece_app (segRun_of (congrFun (h_8 w) os)) ?_
  refine piece_app (segRun_of (congrFun (h_9 w) os)) ?_
  refine piece_app (segRun_of (congrFun (h_10 w) os)) ?_
  refine piece_app (segRun_of (congrFun (h_11 w) os)) ?_
  exact congrFun (h_fin w) os
noncomputable def vw : Program := view pg [0, 2, 3, 4, 6, 7, 8, 9, 10, 11, 12, 14, 15, 16, 17, 18, 19, 20, 22, 23, 24, 25, 26, 27, 28, 29, 30, 31, 32, 33, 34, 35, 36, 37, 38, 39, 40, 41, 42, 43, 44, 45, 46, 47, 48, 49, 50, 51]
noncomputable def kAs : List Addr := [2, 3, 15, 17, 18, 20, 21, 22, 29, 30, 31, 32, 35, 42, 43, 44, 47, 54, 55, 56, 59, 61, 62, 64, 65, 73, 75, 76, 78, 79, 80, 82, 83, 85, 86, 87, 89, 90, 92, 93, 94, 96, 97, 99, 100, 101, 103, 104, 106, 107, 108, 109, 110, 111, 112, 122, 124, 125, 127, 128, 129, 131, 132, 134, 135, 136, 138, 139, 141, 142, 143, 145, 146, 148, 149, 150, 152, 153, 155, 156, 157, 158, 159, 160, 161, 171, 173, 174, 176, 177, 178, 180, 181, 183, 184, 185, 187, 188, 190, 191, 192, 193, 194, 195, 196, 206, 208, 209, 211, 212, 213, 215, 216, 218, 219, 220, 222, 223, 225, 226, 227, 229, 230, 232, 233, 234, 235, 236, 237, 238, 248, 250, 251, 253, 254, 255, 258, 259, 260, 263, 264, 265, 266, 267, 268, 269, 272, 274, 275, 277, 278, 279, 281, 282, 284, 285, 293, 295, 296, 298, 299, 300, 302, 303, 305, 306, 307, 309, 310, 312, 313, 314, 316, 317, 319, 320, 321, 323, 324, 326, 327, 328, 330, 331, 333, 334, 335, 337, 338, 340, 341, 342, 344, 345, 347, 348, 349, 351, 352, 354, 355, 356, 358, 359, 361, 362, 363, 364, 365, 366, 367, 370, 372, 373, 375, 376, 377, 379, 380, 382, 383, 384, 387, 388, 389, 392, 393, 394, 397, 398, 399, 402, 403, 404, 406, 407, 409, 410, 411, 413, 414, 416, 417, 418, 420, 421, 423, 424, 425, 427, 428, 430, 431, 432, 434, 435, 437, 438, 439, 442, 443, 444, 447, 448, 449, 452, 453, 454, 456, 457, 459, 460, 461, 463, 464, 466, 467, 468, 470, 471, 473, 474, 475, 477, 478, 480, 481, 482, 484, 485, 487, 488, 489, 491, 492, 494, 495, 496, 498, 499, 501, 502, 503, 505, 506, 508, 509, 510, 512, 513, 515, 516, 517, 519, 520, 522, 523, 524, 526, 527, 529, 530, 531, 533, 534, 536, 537, 538, 540, 541, 543, 544, 545, 547, 548, 550, 551, 552, 554, 555, 557, 558, 559, 562, 563, 564, 567, 568]
noncomputable def nthO : List Obj → Nat → Obj
  | [], _ => ob .none .plain
  | o :: _, 0 => o
  | _ :: r, n + 1 => nthO r n
noncomputable def KP (P : Params) : Frag := kAs.map fun a => (a, nthO (objs P) a)
theorem kAs_eq (P : Params) : kAs = (KP P).map (·.1) := by unfold KP; rw [List.map_map]; exact (List.map_id _).symm
noncomputable abbrev sh1 (w : World) (os : OsState) : Shared := ⟨hpF w.params, #[], {}, 957, os⟩
theorem l_stat (w : World) : (fun os => staticsOk (importedModules pg.main.body) (boot_heap w.params) (hpF w.params) && namesBound pg (hpF w.params) && gensDone (sh1 w os) && laidKept (boot_heap w.params) (hpF w.params)) = fun _ => true := by kernel_rfl
theorem l_seen (w : World) : (fun os => seen ((recsOf vw).map (·.name)) (ownsOf vw) [] { sh1 w os with gens := #[] }) = fun _ => expectedOf vw := by kernel_rfl
theorem l_blt (w : World) : (fun os => (sh1 w os).heap.bltView) = fun _ => bltViewBooted := by kernel_rfl
noncomputable def xt (s : Shared) : Bool := xlAt vw [] s && recOk (RowW.records rw0.row.toRowW) s
theorem l_keys (w : World) : (fun os => (sh1 w os).heap.keysOk (looseW vw []) ((recsOf vw).map (·.name)) ((litsOf vw).map (·.1)) ((clssOf vw (looseW vw [])).map (·.name)) && (sh1 w os).heap.accountedOkI (importedModules pg.main.body) && (sh1 w os).heap.isNs mainGlobals && (sh1 w os).heap.isNs builtinsNs && tablesOk vw (sh1 w os).heap && xt (sh1 w os) && (if true then (sh1 w os).gens.size == 0 else !leftWithCleanup (sh1 w os).gens)) = fun _ => true := by kernel_rfl
theorem l_tabs (w : World) : (fun os => tabsOk vw (sh1 w os)) = fun _ => true := by kernel_rfl
theorem l_pin (w : World) : (fun os => pinSeenD vw (drecsOf vw) (sh1 w os)) = fun _ => pinGoodD (drecsOf vw) := by kernel_rfl
theorem l_plE (w : World) : (fun os => plainSeenE vw (looseW vw []) (sh1 w os)) = fun _ => plainGoodE vw (looseW vw []) := by kernel_rfl
theorem l_plD (w : World) : (fun os => plainSeenD vw [] (sh1 w os)) = fun _ => plainGoodD vw [] := by kernel_rfl
theorem l_wide (w : World) : (fun os => wideSeen vw (sh1 w os)) = fun _ => wideGood vw := by kernel_rfl
theorem l_cls (w : World) : (fun os => clsSeenW vw [] (sh1 w os)) = fun _ => clsGoodW vw [] := by kernel_rfl
theorem l_hook (w : World) : (fun os => (kHook KP kAs kAs_eq).obs (sh1 w os)) = fun _ => (kHook KP kAs kAs_eq).val w := by kernel_rfl
theorem l_open (w : World) (os : OsState) : openSeen vw [] (importedModules pg.main.body) xt true (sh1 w os) = openGood vw [] := by
  unfold openSeen openGood
  exact looks_pair (congrFun (l_seen w) os) (looks_pair (congrFun (l_blt w) os) (looks_pair (congrFun (l_keys w) os) (looks_pair (congrFun (l_tabs w) os) (looks_pair (congrFun (l_pin w) os) (looks_pair (congrFun (l_plE w) os) (looks_pair (congrFun (l_plD w) os) (looks_pair (congrFun (l_wide w) os) (congrFun (l_cls w) os))))))))
theorem l_all (w : World) : (fun os => ((staticsOk (importedModules pg.main.body) (boot_heap w.params) (hpF w.params) && namesBound pg (hpF w.params) && gensDone (sh1 w os) && laidKept (boot_heap w.params) (hpF w.params)),
    openSeen vw [] (importedModules pg.main.body) xt true (sh1 w os), (kHook KP kAs kAs_eq).obs (sh1 w os))) = fun _ => (true, openGood vw [], (kHook KP kAs kAs_eq).val w) :=
  funext fun os => looks_pair (congrFun (l_stat w) os) (looks_pair (l_open w os) (congrFun (l_hook w) os))
theorem l_size (w : World) : ((boot_heap w.params).isNs mainGlobals && (#[] : Array GenState).size == 0, (boot_heap w.params).objs.size, (boot_heap w.params).nsMap mainGlobals "__annotations__") = (true, 11, some (.ref 6)) := by kernel_rfl
theorem l_plain : opening pg = plainProg pg.main.scope.names := by kernel_rfl
theorem l_fence (s : Shared) : fenceModules? pg s = some s := by kernel_rfl
theorem left : LeftO pg vw [] xt (kHook KP kAs kAs_eq).obs (kHook KP kAs kAs_eq).val 7910 true :=
  LeftO.of_pieces (H₀ := boot_heap) (H₁ := hpF) (boot_open l_plain (by decide +kernel) l_fence) l_size h_run (by decide +kernel) l_all
noncomputable def d0 : DefRec := { name := q "law", params := fA 51, body := fB 51, scope := fS 51, pos := ⟨494, 0, 525, 27⟩ }
theorem h_row : rw0.row.wellSaid = true := by
  unfold OpenRow.wellSaid OpenRow.partSaid looksOpen
  with_reducible repeat' apply look_both
  all_goals decide +kernel
theorem h_said : rw0.wellSaid = true := by
  unfold OpenLaw.wellSaid
  with_reducible repeat' apply look_both
  · exact h_row
  all_goals decide +kernel
theorem h_def : defOf vw rw0.row.name = some (d0, []) := by kernel_rfl
theorem hd (walk : WalkO vw [] (XL vw []) (kHook KP kAs kAs_eq).says rw0.row.toRowW d0 [] fun f vs => PySem.call f vs) : rw0.Holds := by
  refine holds_law h_said fun said => ?_
  refine holds_open (q := vw) (loose := []) (Xt := xt) (XP := XL vw []) (Yf := (kHook KP kAs kAs_eq).obs) (Ya := (kHook KP kAs kAs_eq).val) (YP := (kHook KP kAs kAs_eq).says) (N := 7910) left (Hook.of _) (Hook.keeps _) (fun s e => xl_of s (Bool.and_eq_true_iff.mp e).1) XL.keeps h_def (by kernel_rfl) (by kernel_rfl) (fun s e => recFacts_of (Bool.and_eq_true_iff.mp e).2) (by kernel_rfl) said (by decide +kernel) ⟨rfl, rfl, rfl, rfl, rfl, by decide +kernel⟩ ⟨[.list []], by decide +kernel, by decide +kernel⟩ walk
@[reducible] noncomputable def PG : Program := PySem.Challenge.rw_xw0263_01.row.prog
@[reducible] noncomputable def KK (w : World) : Frag := KP w.params
@[reducible] noncomputable def VW : Program := vw
@[reducible] noncomputable def LW : List Str := looseW vw []
@[reducible] noncomputable def MM (w : World) : Model := model PG w

inductive V where
  | none
  | bool (b : Bool)
  | int (i : Int)
  | bytes (b : Array UInt8)
  | ref (a : Addr)

noncomputable def V.Is : V → Value → Prop
  | .none, r => r = .none
  | .bool b, r => r = .bool b
  | .int i, r => ∃ t, r = .int i t
  | .bytes b, r => ∃ t, r = .bytes b t
  | .ref a, r => r = .ref a

noncomputable def VsIs : List V → List Value → Prop
  | [], [] => True
  | v :: vs, r :: rs => v.Is r ∧ VsIs vs rs
  | _, _ => False

noncomputable def FsIs : List (Str × V) → List DictEntry → Prop
  | [], [] => True
  | (x, v) :: fs, e :: es => (∃ t, e.key = .str x t) ∧ v.Is e.val ∧ FsIs fs es
  | _, _ => False

inductive O where
  | list (vs : List V)
  | tup (vs : List V)
  | inst (C d : Addr)
  | dict (fs : List (Str × V))

noncomputable def O.Is : O → Obj → Prop
  | .list vs, ro => ∃ rvs n, ro = { cls := .type "list", data := .seq (List.toArray rvs) n } ∧ VsIs vs rvs
  | .tup vs, ro => ∃ rvs n, ro = { cls := .type "tuple", data := .seq (List.toArray rvs) n } ∧ VsIs vs rvs
  | .inst C d, ro => ro = instObj C d
  | .dict fs, ro => ∃ es n, ro = PySem.W.dictOf es n ∧ FsIs fs es

noncomputable abbrev Mu := Addr → Option O
noncomputable abbrev Vars := Str → Option V
noncomputable abbrev Held := Addr → Option Obj
noncomputable def Mu.set (μ : Mu) (a : Addr) (o : O) : Mu := fun b => if b = a then some o else μ b
noncomputable def Vars.set (m : Vars) (x : Str) (v : V) : Vars := fun y => if y = x then some v else m y

theorem Mu.set_self (μ : Mu) (a : Addr) (o : O) : (μ.set a o) a = some o := if_pos rfl
theorem Mu.set_ne (μ : Mu) {a b : Addr} (o : O) (h : b ≠ a) : (μ.set a o) b = μ b := if_neg h

structure Cx (w : World) where
  A : Around
  h₀ : Heap
  outer : List Env
  fenv : Env
  env : Env
  L : Addr
  mean : ExcName → Option Value
  mg : Str → Option Value
  mb : Str → Option Value
  gens : Array GenState
  os : OsState
  E : Value → Shared → Prop
  room : Nat
  PL : (Str → Option Value) → Prop
  H0 : Held
  X : (KK w).In h₀
  T : Top VW LW mean mg mb h₀
  hA : A.frames = some (fenv :: outer)
  hf : fenv.frame = some L
  hfk : fenv.scope.kind = .function
  hek : env.scope.kind = .function
  heg : env.globals = mainGlobals
  heb : env.builtins = builtinsNs
  hh : A.handled = none
  hPL : env.locals = L → ∀ mm, PL mm
  hd : A.depth + 8 * room + 8 ≤ 1000
  hu : A.units + 40 * room + 200 ≤ 9900

noncomputable def Cx.Free {w : World} (c : Cx w) (a : Addr) : Prop := c.h₀.get? a = none ∧ c.H0 a = none
noncomputable def Up (fr : Prop) (o : Obj) (x : Option Obj) : Prop := ∃ sl, x = some { o with slots := sl } ∧ (¬ fr → sl = o.slots)

theorem Up.here {fr : Prop} {o : Obj} {x : Option Obj} (h : x = some o) : Up fr o x := ⟨o.slots, h, fun _ => rfl⟩
theorem Up.data {fr : Prop} {o : Obj} {x : Option Obj} (h : Up fr o x) : ∃ o', x = some o' ∧ o'.data = o.data := let ⟨_, e, _⟩ := h; ⟨_, e, rfl⟩
theorem Up.exact {fr : Prop} {o : Obj} {x : Option Obj} (h : Up fr o x) (n : ¬ fr) : x = some o := by
  obtain ⟨sl, e, q⟩ := h
  rw [e, q n]

noncomputable def FrameOf (l : List Env) (b : Addr) : Prop := b ∈ l.filterMap (·.frame)

structure Rel {w : World} (c : Cx w) (Hs : Held) (m : Vars) (μ : Mu) (s : Shared) : Prop where
  gens : s.gens = c.gens
  os : s.os = c.os
  base : ∀ b o, c.h₀.get? b = some o → s.heap.get? b = some o
  frames : s.heap.FunFrames c.h₀ c.outer
  Lnew : c.h₀.get? c.L = none
  nsL : ∃ mL, s.heap.Ns c.L mL ∧ c.PL mL
  Cnew : c.h₀.get? c.env.locals = none
  nsC : ∃ mC, s.heap.Ns c.env.locals mC ∧ ∀ x v, m x = some v → c.env.kindOf x = some .local → ∃ rv, mC x = some rv ∧ v.Is rv
  cellv : ∀ x v, m x = some v → (c.env.kindOf x = some .cell ∨ c.env.kindOf x = some .free) → ∃ ca rv, c.env.cells.lookup x = some ca ∧ s.heap.IsCell ca (some rv) ∧ v.Is rv
  cells : ∀ x ca, c.env.cells.lookup x = some ca → (∃ v, s.heap.IsCell ca v) ∧ c.h₀.get? ca = none ∧ ca ≠ c.L ∧ ca ≠ c.env.locals ∧ Hs ca = none ∧ μ ca = none
  apart : ∀ x y ca, c.env.cells.lookup x = some ca → c.env.cells.lookup y = some ca → x = y
  fin : ∀ b, FrameOf c.outer b → (Hs b).isSome = true
  h0 : ∀ b o, c.H0 b = some o → Hs b = some o
  held : ∀ b o, Hs b = some o → b ≠ c.L ∧ b ≠ c.env.locals ∧ Up (FrameOf c.outer b) o (s.heap.get? b)
  mu : ∀ a o, μ a = some o → c.h₀.get? a = none ∧ a ≠ c.L ∧ a ≠ c.env.locals ∧ Hs a = none ∧ ∃ ro, s.heap.get? a = some ro ∧ o.Is ro

theorem O.Is.notFields {o : O} {ro : Obj} (h : o.Is ro) : ∀ vs, ro.data ≠ .fields vs := by
  intro vs
  cases o with
  | list => obtain ⟨_, _, rfl, _⟩ := h; intro q; cases q
  | tup => obtain ⟨_, _, rfl, _⟩ := h; intro q; cases q
  | inst => cases h; intro q; cases q
  | dict => obtain ⟨_, _, rfl, _⟩ := h; intro q; cases q
theorem O.Is.notFreed {o : O} {ro : Obj} (h : o.Is ro) : ro.isFreed = false := by
  cases o with
  | list => obtain ⟨_, _, rfl, _⟩ := h; rfl
  | tup => obtain ⟨_, _, rfl, _⟩ := h; rfl
  | inst => cases h; rfl
  | dict => obtain ⟨_, _, rfl, _⟩ := h; rfl

section
variable {w : World} {c : Cx w} {Hs : Held} {m : Vars} {μ : Mu} {s : Shared}

theorem Ns.of_data {h h' : Heap} {a : Addr} {mm : Str → Option Value} (n : h.Ns a mm) (e : ∀ o, h.get? a = some o → ∃ o', h'.get? a = some o' ∧ o'.data = o.data) : h'.Ns a mm := by
  obtain ⟨o, es, ep, ho, hd, r⟩ := n
  obtain ⟨o', ho', hd'⟩ := e o ho
  exact ⟨o', es, ep, ho', hd'.trans hd, r⟩
theorem Cell.of_data {h h' : Heap} {a : Addr} {v : Option Value} (n : h.IsCell a v) (e : ∀ o, h.get? a = some o → ∃ o', h'.get? a = some o' ∧ o'.data = o.data) : h'.IsCell a v := by
  obtain ⟨o, ho, hd⟩ := n
  obtain ⟨o', ho', hd'⟩ := e o ho
  exact ⟨o', ho', hd'.trans hd⟩
theorem frames_to {h h' base : Heap} (l : List Env) (hl : h.FunFrames base l) (k : ∀ b o, FrameOf l b → h.get? b = some o → ∃ o', h'.get? b = some o' ∧ o'.data = o.data) : h'.FunFrames base l := by
  induction l with
  | nil => trivial
  | cons e r ih =>
    obtain ⟨h1, ⟨L, o, h2, h3, h4, h5⟩, h6⟩ := hl
    obtain ⟨o', h7, h8⟩ := k L o (List.mem_filterMap.mpr ⟨e, .head _, h2⟩) h4
    refine ⟨h1, ⟨L, o', h2, h3, h7, fun vs q => h5 vs (h8 ▸ q)⟩, ih h6 fun b ob hb => k b ob ?_⟩
    obtain ⟨e', he, hf⟩ := List.mem_filterMap.mp hb
    exact List.mem_filterMap.mpr ⟨e', .tail _ he, hf⟩
theorem get_of_lt {h : Heap} {a : Addr} (e : h.objs.size ≤ a) : h.get? a = none := by
  cases q : h.get? a with
  | none => rfl
  | some o => exact absurd (Heap.lt_size q) (Nat.not_lt.mpr e)

theorem Rel.keeps (R : Rel c Hs m μ s) {s' : Shared} (k : ∀ b o, s.heap.get? b = some o → s'.heap.get? b = some o) (hg : s'.gens = s.gens) (ho : s'.os = s.os) : Rel c Hs m μ s' where
  gens := hg.trans R.gens
  os := ho.trans R.os
  base := fun b o e => k b o (R.base b o e)
  frames := frames_to _ R.frames fun b o _ e => ⟨o, k b o e, rfl⟩
  Lnew := R.Lnew
  nsL := let ⟨mL, n, p⟩ := R.nsL; ⟨mL, n.keeps k, p⟩
  Cnew := R.Cnew
  nsC := let ⟨mC, n, r⟩ := R.nsC; ⟨mC, n.keeps k, r⟩
  cellv := fun x v e q => let ⟨ca, rv, h1, ⟨o, h2, h2'⟩, h3⟩ := R.cellv x v e q; ⟨ca, rv, h1, ⟨o, k _ _ h2, h2'⟩, h3⟩
  cells := fun x ca e => let ⟨⟨v, ⟨o, h2, h2'⟩⟩, r⟩ := R.cells x ca e; ⟨⟨v, ⟨o, k _ _ h2, h2'⟩⟩, r⟩
  apart := R.apart
  fin := R.fin
  h0 := R.h0
  held := fun b o e => let ⟨h1, h2, sl, h3, h4⟩ := R.held b o e; ⟨h1, h2, sl, k _ _ h3, h4⟩
  mu := fun a o e => let ⟨h1, h2, h3, h4, ro, h5, h6⟩ := R.mu a o e; ⟨h1, h2, h3, h4, ro, k _ _ h5, h6⟩

theorem Rel.toks (R : Rel c Hs m μ s) (t : Nat) : Rel c Hs m μ { s with toks := t } := R.keeps (fun _ _ e => e) rfl rfl

theorem Rel.less (R : Rel c Hs m μ s) {μ' : Mu} (h : ∀ a o, μ' a = some o → μ a = some o) : Rel c Hs m μ' s :=
  { R with
    cells := fun x ca e => by
      obtain ⟨h1, h2, h3, h4, h5, h6⟩ := R.cells x ca e
      refine ⟨h1, h2, h3, h4, h5, ?_⟩
      cases q : μ' ca with
      | none => rfl
      | some o => rw [h _ _ q] at h6; cases h6
    mu := fun a o e => R.mu a o (h a o e) }

theorem Rel.fresh (R : Rel c Hs m μ s) {a : Addr} (e : s.heap.get? a = none) : μ a = none := by
  cases q : μ a with
  | none => rfl
  | some o => obtain ⟨_, _, _, _, ro, h, _⟩ := R.mu a o q; rw [e] at h; cases h

theorem Rel.new (R : Rel c Hs m μ s) {s' : Shared} {a : Addr} {o : O} {ro : Obj} (e : s.heap.get? a = none) (k : ∀ b o, s.heap.get? b = some o → s'.heap.get? b = some o) (ha : s'.heap.get? a = some ro) (hi : o.Is ro)
    (hg : s'.gens = s.gens) (ho : s'.os = s.os) : Rel c Hs m (μ.set a o) s' :=
  have K := R.keeps k hg ho
  have nL : a ≠ c.L := fun q => by obtain ⟨_, ⟨_, _, _, h, _⟩, _⟩ := R.nsL; rw [← q, e] at h; cases h
  have nC : a ≠ c.env.locals := fun q => by obtain ⟨_, ⟨_, _, _, h, _⟩, _⟩ := R.nsC; rw [← q, e] at h; cases h
  { K with
    cells := fun x ca q => by
      obtain ⟨h1, h2, h3, h4, h5, h6⟩ := K.cells x ca q
      refine ⟨h1, h2, h3, h4, h5, ?_⟩
      rw [Mu.set_ne]; exact h6
      intro z
      obtain ⟨⟨v, ⟨oc, hc, _⟩⟩, _⟩ := R.cells x ca q
      rw [z, e] at hc; cases hc
    mu := fun b ob q => by
      by_cases hb : b = a
      · subst hb
        rw [Mu.set_self] at q
        cases q
        refine ⟨?_, nL, nC, ?_, ro, ha, hi⟩
        · cases z : c.h₀.get? b with
          | none => rfl
          | some o => rw [R.base _ _ z] at e; cases e
        · cases z : Hs b with
          | none => rfl
          | some o => obtain ⟨_, _, _, h, _⟩ := R.held b o z; rw [h] at e; cases e
      · rw [Mu.set_ne _ _ hb] at q
        exact K.mu b ob q }

theorem Rel.newB (R : Rel c Hs m μ s) {a : Addr} (e : s.heap.get? a = none) : c.Free a := by
  constructor
  · cases z : c.h₀.get? a with
    | none => rfl
    | some o => rw [R.base _ _ z] at e; cases e
  · cases z : c.H0 a with
    | none => rfl
    | some o => obtain ⟨_, _, _, h, _⟩ := R.held _ _ (R.h0 _ _ z); rw [h] at e; cases e

theorem Rel.upd (R : Rel c Hs m μ s) {s' : Shared} {a : Addr} {o o' : O} {ro : Obj} (e : μ a = some o) (hs : Heap.SameBut a s.heap s'.heap) (ha : s'.heap.get? a = some ro) (hi : o'.Is ro)
    (hg : s'.gens = s.gens) (ho : s'.os = s.os) : Rel c Hs m (μ.set a o') s' := by
  obtain ⟨a1, a2, a3, a4, rold, a5, a6⟩ := R.mu a o e
  have k : ∀ b ob, b ≠ a → s.heap.get? b = some ob → s'.heap.get? b = some ob := fun b ob n q => (hs.2 b n).trans q
  have cellNe : ∀ x ca, c.env.cells.lookup x = some ca → ca ≠ a := fun x ca q z => by
    obtain ⟨_, _, _, _, _, h6⟩ := R.cells x ca q
    rw [z, e] at h6; cases h6
  refine ⟨hg.trans R.gens, ho.trans R.os, fun b ob q => k b ob (fun z => by rw [z, a1] at q; cases q) (R.base b ob q), frames_to _ R.frames (fun b ob fb q => ⟨ob, k b ob (fun z => by have := R.fin b fb; rw [z, a4] at this; cases this) q, rfl⟩), R.Lnew,
    (let ⟨mL, n, p⟩ := R.nsL; ⟨mL, n.sameBut hs (Ne.symm a2), p⟩), R.Cnew, (let ⟨mC, n, r⟩ := R.nsC; ⟨mC, n.sameBut hs (Ne.symm a3), r⟩),
    (fun x v q z => let ⟨ca, rv, h1, ⟨oc, h2, h2'⟩, h3⟩ := R.cellv x v q z; ⟨ca, rv, h1, ⟨oc, k _ _ (cellNe x ca h1) h2, h2'⟩, h3⟩),
    (fun x ca q => let ⟨⟨v, ⟨oc, h2, h2'⟩⟩, r1, r2, r3, r4, r5⟩ := R.cells x ca q; ⟨⟨v, ⟨oc, k _ _ (cellNe x ca q) h2, h2'⟩⟩, r1, r2, r3, r4, by rw [Mu.set_ne _ _ (cellNe x ca q)]; exact r5⟩),
    R.apart, R.fin, R.h0, (fun b ob q => let ⟨h1, h2, sl, h3, h4⟩ := R.held b ob q; ⟨h1, h2, sl, k _ _ (fun z => by rw [z, a4] at q; cases q) h3, h4⟩), fun b ob q => ?_⟩
  by_cases hb : b = a
  · subst hb
    rw [Mu.set_self] at q
    cases q
    exact ⟨a1, a2, a3, a4, ro, ha, hi⟩
  · rw [Mu.set_ne _ _ hb] at q
    obtain ⟨h1, h2, h3, h4, rb, h5, h6⟩ := R.mu b ob q
    exact ⟨h1, h2, h3, h4, rb, k _ _ hb h5, h6⟩
end
inductive Fl where
  | next | brk | cont
  | ret (v : V)
noncomputable def Fl.Is : Fl → Flow → Prop
  | .next, f => f = .next
  | .brk, f => f = .brk
  | .cont, f => f = .cont
  | .ret v, f => ∃ r, f = .ret r ∧ v.Is r
noncomputable def Fl.val : Fl → V
  | .ret v => v
  | _ => .none

section
variable {w : World}

inductive PW (c : Cx w) (Hs : Held) (m : Vars) {α β : Type} (I : β → α → Prop) (Q : β → Mu → Prop) (r : α) (s' : Shared) : Prop
  | mk (v : β) (μ' : Mu) (hv : I v r) (R : Rel c Hs m μ' s') (q : Q v μ') : PW c Hs m I Q r s'
inductive PR (c : Cx w) (Hs : Held) (m : Vars) (Q : V → Mu → Prop) (res : Result) (s' : Shared) : Prop
  | mk (rv : Value) (v : V) (μ' : Mu) (e : res = .ok (.ret rv)) (hv : v.Is rv) (R : Rel c Hs m μ' s') (q : Q v μ') : PR c Hs m Q res s'
inductive PX (c : Cx w) (Hs : Held) (Q : Fl → Vars → Mu → Prop) (r : Flow) (s' : Shared) : Prop
  | mk (v : Fl) (m' : Vars) (μ' : Mu) (hv : v.Is r) (R : Rel c Hs m' μ' s') (q : Q v m' μ') : PX c Hs Q r s'
inductive PAs (c : Cx w) (Hs : Held) (μ : Mu) (Q : Vars → Prop) (s' : Shared) : Prop
  | mk (m' : Vars) (R : Rel c Hs m' μ s') (q : Q m') : PAs c Hs μ Q s'
noncomputable def WT (c : Cx w) {α β : Type} (I : β → α → Prop) (t : Sem α) (m : Vars) (μ : Mu) (Q : β → Mu → Prop) : Prop :=
  ∀ Hs s, Rel c Hs m μ s → wpAny (MM w) c.A t (PW c Hs m I Q) c.E s
noncomputable def WE (c : Cx w) (e : Expr) (m : Vars) (μ : Mu) (Q : V → Mu → Prop) : Prop := WT c V.Is (eval e c.env) m μ Q
noncomputable def WEs (c : Cx w) (es : List Expr) (m : Vars) (μ : Mu) (Q : List V → Mu → Prop) : Prop := WT c VsIs (evalAll (evalEach es c.env)) m μ Q
noncomputable def WB (c : Cx w) (e : Expr) (m : Vars) (μ : Mu) (Q : Bool → Mu → Prop) : Prop := WT c (fun b r => r = b) (isTrue e c.env (eval e c.env)) m μ Q
noncomputable def WS (c : Cx w) (b : List Stmt) (m : Vars) (μ : Mu) (Q : Fl → Vars → Mu → Prop) : Prop :=
  ∀ Hs s, Rel c Hs m μ s → wpAny (MM w) c.A (execs b c.env) (PX c Hs Q) c.E s
noncomputable def WS1 (c : Cx w) (b : Stmt) (m : Vars) (μ : Mu) (Q : Fl → Vars → Mu → Prop) : Prop :=
  ∀ Hs s, Rel c Hs m μ s → wpAny (MM w) c.A (exec b c.env) (PX c Hs Q) c.E s

noncomputable def Fn (w : World) (r : Nat) (f : Addr) (vs : List V) (μ : Mu) (Q : V → Mu → Prop) : Prop :=
  ∀ (c : Cx w) Hs m s rvs, r ≤ c.room → Rel c Hs m μ s → VsIs vs rvs →
    codeAny (MM w) c.A (.call (.ref f) ⟨rvs, []⟩) (fun res s' => PR c Hs m Q res s') s

noncomputable def Celled (c : Cx w) : Prop := ∀ x, c.env.kindOf x = some .cell → (c.env.cells.lookup x).isSome = true
structure At (c : Cx w) (r : Nat) (S : Scope) : Prop where
  room : c.room = r
  scope : c.env.scope = S
  celled : Celled c
  own : c.env.locals = c.L

theorem WT.mono {c : Cx w} {α β : Type} {I : β → α → Prop} {t : Sem α} {m : Vars} {μ : Mu} {Q Q' : β → Mu → Prop} (h : WT c I t m μ Q) (q : ∀ v μ', Q v μ' → Q' v μ') : WT c I t m μ Q' :=
  fun Hs s R => wpAny_mono (h Hs s R) (fun _ _ hx0 => by obtain ⟨v, μ', a, b, z⟩ := hx0; exact ⟨v, μ', a, b, q v μ' z⟩) fun _ _ z => z
theorem WS.mono {c : Cx w} {b : List Stmt} {m : Vars} {μ : Mu} {Q Q' : Fl → Vars → Mu → Prop} (h : WS c b m μ Q) (q : ∀ v m' μ', Q v m' μ' → Q' v m' μ') : WS c b m μ Q' :=
  fun Hs s R => wpAny_mono (h Hs s R) (fun _ _ hx1 => by obtain ⟨v, m', μ', a, b, z⟩ := hx1; exact ⟨v, m', μ', a, b, q v m' μ' z⟩) fun _ _ z => z
theorem Fn.mono {r r' : Nat} {f : Addr} {vs : List V} {μ : Mu} {Q Q' : V → Mu → Prop} (h : Fn w r f vs μ Q) (hr : r ≤ r') (q : ∀ v μ', Q v μ' → Q' v μ') : Fn w r' f vs μ Q' :=
  fun c Hs m s rvs hc R hv => codeAny_mono (h c Hs m s rvs (Nat.le_trans hr hc) R hv) fun _ _ hx2 => by obtain ⟨rv, v, μ', a, b, d, z⟩ := hx2; exact ⟨rv, v, μ', a, b, d, q v μ' z⟩
theorem VsIs.length : ∀ {vs : List V} {rs : List Value}, VsIs vs rs → vs.length = rs.length
  | [], [], _ => rfl
  | _ :: _, _ :: _, h => congrArg (· + 1) h.2.length
  | [], _ :: _, h => h.elim
  | _ :: _, [], h => h.elim
theorem VsIs.get : ∀ {vs : List V} {rs : List Value} {i : Nat} {v : V}, VsIs vs rs → vs[i]? = some v → ∃ r, rs[i]? = some r ∧ v.Is r
  | v :: _, r :: _, 0, _, h, e => by cases e; exact ⟨r, rfl, h.1⟩
  | _ :: _, _ :: _, i + 1, _, h, e => by
    rw [List.getElem?_cons_succ] at e ⊢
    exact h.2.get e
  | [], _, _, _, _, e => by simp at e
  | _ :: _, [], _, _, h, _ => h.elim
theorem VsIs.append : ∀ {vs us : List V} {rs ts : List Value}, VsIs vs rs → VsIs us ts → VsIs (vs ++ us) (rs ++ ts)
  | [], _, [], _, _, h => h
  | _ :: _, _, _ :: _, _, h, g => ⟨h.1, h.2.append g⟩
  | [], _, _ :: _, _, h, _ => h.elim
  | _ :: _, _, [], _, h, _ => h.elim

noncomputable def bindM : List (Str × V) → Vars → Vars
  | [], m => m
  | (n, v) :: r, m => bindM r (m.set n v)

theorem bind_rel (kindOf : Str → Option NameKind) : ∀ (ns : List Str) (vs : List V) (rs : List Value) (m : Vars) (mL mC : Str → Option Value), VsIs vs rs →
    (∀ x ∈ ns, kindOf x = some .local ∨ kindOf x = some .cell) →
    (∀ x v, m x = some v → (kindOf x = some .local ∧ ∃ rv, mL x = some rv ∧ v.Is rv) ∨ (kindOf x = some .cell ∧ ∃ rv, mC x = some rv ∧ v.Is rv)) →
    ∀ x v, bindM (ns.zip vs) m x = some v → (kindOf x = some .local ∧ ∃ rv, bindL kindOf (ns.zip rs) mL x = some rv ∧ v.Is rv) ∨ (kindOf x = some .cell ∧ ∃ rv, bindC kindOf (ns.zip rs) mC x = some rv ∧ v.Is rv)
  | [], _, _, _, _, _, _, _, h => h
  | _ :: _, [], [], _, _, _, _, _, h => h
  | n :: ns, v :: vs, r :: rs, m, mL, mC, hv, hk, h => by
    simp only [List.zip_cons_cons, bindM, bindL, bindC]
    refine bind_rel kindOf ns vs rs _ _ _ hv.2 (fun x hx => hk x (.tail _ hx)) fun x u e => ?_
    rcases hk n (.head _) with hn | hn
    · rw [if_pos hn, if_pos hn]
      by_cases hx : x = n
      · subst hx
        simp only [Vars.set, if_true, Option.some.injEq] at e
        subst e
        exact .inl ⟨hn, r, by simp, hv.1⟩
      · simp only [Vars.set, if_neg hx] at e
        simpa only [if_neg hx] using h x u e
    · have hn' : ¬ kindOf n = some .local := by rw [hn]; decide
      rw [if_neg hn', if_neg hn']
      by_cases hx : x = n
      · subst hx
        simp only [Vars.set, if_true, Option.some.injEq] at e
        subst e
        exact .inr ⟨hn, r, by simp, hv.1⟩
      · simp only [Vars.set, if_neg hx] at e
        simpa only [if_neg hx] using h x u e
  | _ :: _, [], _ :: _, _, _, _, hv, _, _ => hv.elim
  | _ :: _, _ :: _, [], _, _, _, hv, _, _ => hv.elim

theorem zip_mem {α β : Type} : ∀ {l : List α} {r : List β} {x : α × β}, x ∈ l.zip r → x.1 ∈ l
  | a :: l, b :: r, x, h => by
    rw [List.zip_cons_cons] at h
    rcases List.mem_cons.mp h with rfl | h
    · exact .head _
    · exact .tail _ (zip_mem h)
  | [], _, _, h => by simp at h
  | _ :: _, [], _, h => by simp at h

theorem mem_of_cells {n : Nat} {names : List (Str × NameKind)} {x : Str} {ca : Addr} (h : (cellsFrom n names []).lookup x = some ca) : (x, ca) ∈ cellsFrom n names [] := mem_of_lookup h

noncomputable def heldBy (μ : Mu) (h : Heap) : Held := fun b => if (μ b).isSome then none else h.get? b

variable {oc : Value} {od an : Option Addr} {osl : Array (Option Value)} {name qual : Str} {params : Arguments} {body : List Stmt} {scope : Scope} {dV kV doc pm cdv ct : Value}

noncomputable def inner (c : Cx w) (env : Env) (L : Addr) (E : Value → Shared → Prop) (H0 : Held) (hf : env.frame = some L) (hk : env.scope.kind = .function) (hg : env.globals = mainGlobals) (hb : env.builtins = builtinsNs) (r : Nat) (hr : r + 1 ≤ c.room) : Cx w :=
  { c with
    A := c.A.deeper env
    outer := c.fenv :: c.outer
    fenv := env
    env := env
    L := L
    E := E
    H0 := H0
    room := r
    PL := fun _ => True
    hPL := fun _ _ => trivial
    hA := by show c.A.frames.map (env :: ·) = _; rw [c.hA]; rfl
    hf := hf
    hfk := hk
    hek := hk
    heg := hg
    heb := hb
    hh := c.hh
    hd := by have := c.hd; show c.A.depth + 1 + 8 * r + 8 ≤ 1000; omega
    hu := by have := c.hu; show c.A.units + 3 + 40 * r + 200 ≤ 9900; omega }

theorem Rel.back {c : Cx w} {Hs : Held} {m : Vars} {μ μ' : Mu} {s s' : Shared} {env : Env} {L : Addr} {E H0 hf hk hg hb r hr} {m' : Vars} (R : Rel c Hs m μ s) (R' : Rel (inner c env L E H0 hf hk hg hb r hr) (heldBy μ s.heap) m' μ' s') : Rel c Hs m μ' s' := by
  have up : ∀ b o, s.heap.get? b = some o → μ b = none → Up (FrameOf (c.fenv :: c.outer) b) o (s'.heap.get? b) := fun b o e n => (R'.held b o (by unfold heldBy; rw [n]; exact e)).2.2
  have notMu' : ∀ b o, s.heap.get? b = some o → μ b = none → μ' b = none := fun b o e n => by
    cases q : μ' b with
    | none => rfl
    | some x =>
      obtain ⟨_, _, _, h, _⟩ := R'.mu b x q
      unfold heldBy at h
      rw [n] at h
      have h : s.heap.get? b = none := h
      rw [e] at h; cases h
  have muL : μ c.L = none := by
    cases q : μ c.L with
    | none => rfl
    | some o => exact absurd rfl (R.mu _ o q).2.1
  have muC : μ c.env.locals = none := by
    cases q : μ c.env.locals with
    | none => rfl
    | some o => exact absurd rfl (R.mu _ o q).2.2.1
  have muH : ∀ b o, Hs b = some o → μ b = none := fun b o e => by
    cases q : μ b with
    | none => rfl
    | some x => have := (R.mu b x q).2.2.2.1; rw [e] at this; cases this
  have data : ∀ b, μ b = none → ∀ o, s.heap.get? b = some o → ∃ o', s'.heap.get? b = some o' ∧ o'.data = o.data := fun b n o e => (up b o e n).data
  refine ⟨R'.gens, R'.os, R'.base, R'.frames.2.2, R.Lnew, ?_, R.Cnew, ?_, ?_, ?_, R.apart, R.fin, R.h0, ?_, ?_⟩
  · obtain ⟨mL, n, p⟩ := R.nsL
    exact ⟨mL, Ns.of_data n (fun o e => data _ muL o e), p⟩
  · obtain ⟨mC, n, z⟩ := R.nsC
    exact ⟨mC, Ns.of_data n fun o e => data _ muC o e, z⟩
  · intro x v e q
    obtain ⟨ca, rv, h1, h2, h3⟩ := R.cellv x v e q
    exact ⟨ca, rv, h1, Cell.of_data h2 fun o e => data _ (R.cells x ca h1).2.2.2.2.2 o e, h3⟩
  · intro x ca e
    obtain ⟨⟨v, h1⟩, h2, h3, h4, h5, h6⟩ := R.cells x ca e
    have ⟨o, ho, _⟩ := h1
    exact ⟨⟨v, Cell.of_data h1 fun o e => data _ h6 o e⟩, h2, h3, h4, h5, notMu' _ o ho h6⟩
  · intro b o e
    obtain ⟨h1, h2, sl, h3, h4⟩ := R.held b o e
    obtain ⟨sl', h5, h6⟩ := up b _ h3 (muH b o e)
    refine ⟨h1, h2, sl', h5, fun nf => ?_⟩
    rw [h6 (fun z => ?_), h4 nf]
    obtain ⟨e', he, hf'⟩ := List.mem_filterMap.mp z
    rcases List.mem_cons.mp he with rfl | he
    · rw [c.hf] at hf'; exact h1 (Option.some.inj hf').symm
    · exact nf (List.mem_filterMap.mpr ⟨e', he, hf'⟩)
  · intro a o e
    obtain ⟨h1, h2, h3, h4, r⟩ := R'.mu a o e
    refine ⟨h1, ?_, ?_, ?_, r⟩
    · rintro rfl
      obtain ⟨_, ⟨oL, _, _, ho, _⟩, _⟩ := R.nsL
      rw [notMu' _ _ ho muL] at e; cases e
    · rintro rfl
      obtain ⟨_, ⟨oL, _, _, ho, _⟩, _⟩ := R.nsC
      rw [notMu' _ _ ho muC] at e; cases e
    · cases q : Hs a with
      | none => rfl
      | some x =>
        obtain ⟨_, _, sl, h5, _⟩ := R.held a x q
        rw [notMu' _ _ h5 (muH a x q)] at e; cases e
end
inductive Fly (B : Heap) (l : List Env) (L e : Addr) (h : Heap) : Prop
  | made (g : Heap) (args : List Value) (hB : B.StaysIn g) (hl : g.FunFrames B l) (hx : Heap.MadeExcOf g h e (.ref 56) args)
  | on (t : Addr) (x : Heap.FlyingW B l e (.ref 56) (.ref t) h)
  | held (t : Addr) (x : Heap.HeldW B l e (.ref 56) (.ref t) L h)

theorem Fly.stays {B h : Heap} {l : List Env} {L e : Addr} (F : Fly B l L e h) : B.StaysIn h := by
  cases F with
  | made g _ hB _ hx => exact fun b o z => hx.keeps _ _ (hB b o z)
  | on _ x => exact x.1
  | held _ x => exact x.1

theorem fly_noted {M : Model} {A : Around} {E : Value → Shared → Prop} {s : Shared} {B : Heap} {env : Env} {outer : List Env} {L e : Addr} {Q : Unit → Shared → Prop}
    (hfr : A.frames = some (env :: outer)) (hf : env.frame = some L) (F : Fly B (env :: outer) L e s.heap)
    (h : ∀ h' t, Heap.HeldW B (env :: outer) e (.ref 56) (.ref t) L h' → s.heap.UpToSlots h' → Q () { s with heap := h' }) : wpAny M A (noteFrame (.ref e) env) Q E s := by
  cases F with
  | made g args hB hl hx =>
    obtain ⟨t, he, _, _⟩ := hx.there
    have en : B.get? e = none := by
      cases q : B.get? e with
      | none => rfl
      | some o => have := hB e o q; rw [hx.new] at this; cases this
    unfold noteFrame
    simp only [hf]
    refine wpAny_bind (wpAny_field he rfl (x := .none) rfl ?_)
    rw [if_neg (by decide)]
    exact wpAny_entryW (a0 := .ref t) hfr (hl.of_keeps fun b o hb _ => ⟨o, hx.keeps b o hb, rfl⟩) hf he (fun b o hb => hx.keeps b o (hB b o hb)) en rfl (by show 1 < 6; decide) rfl fun h' hz0 => by obtain ⟨x1, x2, x3, x4⟩ := hz0; exact h h' t ⟨x1, en, x2, x3⟩ x4
  | on t x => exact wpAny_looks_onW hfr hf x fun h' => h h' t
  | held t x => exact wpAny_noteFrame_againW hf x.2.2.2 (h s.heap t x (.refl _))

noncomputable def Foot {w : World} (c : Cx w) (Hs : Held) (μ : Mu) (b : Addr) : Prop := (c.h₀.get? b).isSome = true ∨ (Hs b).isSome = true ∨ (μ b).isSome = true
inductive Thrown {w : World} (c : Cx w) (Hs : Held) (PE : Mu → Prop) (e : Addr) (s : Shared) : Prop
  | mk (m : Vars) (μ : Mu) (B : Heap) (R : Rel c Hs m μ s) (q : PE μ) (K : ∀ b, Foot c Hs μ b → ¬ FrameOf (c.fenv :: c.outer) b → (B.get? b).isSome = true) (F : Fly B (c.fenv :: c.outer) c.L e s.heap)
structure Ex {w : World} (c : Cx w) (PE : Mu → Prop) : Prop where
  env : c.env = c.fenv
  takes : ∀ Hs e s, Thrown c Hs PE e s → c.E (.ref e) s

section
variable {w : World} {c : Cx w} {Hs : Held} {m : Vars} {μ : Mu} {s : Shared}
theorem Rel.notTop (_ : Rel c Hs m μ s) {b : Addr} (h1 : b ≠ c.L) (h2 : ¬ FrameOf c.outer b) : ¬ FrameOf (c.fenv :: c.outer) b := fun q => by
  obtain ⟨e', he, hf'⟩ := List.mem_filterMap.mp q
  rcases List.mem_cons.mp he with rfl | he
  · rw [c.hf] at hf'; exact h1 (Option.some.inj hf').symm
  · exact h2 (List.mem_filterMap.mpr ⟨e', he, hf'⟩)

theorem Rel.through (R : Rel c Hs m μ s) {B h' : Heap} (K : ∀ b, Foot c Hs μ b → ¬ FrameOf (c.fenv :: c.outer) b → (B.get? b).isSome = true) (hs : B.StaysIn s.heap) (hB : B.StaysIn h') (hU : s.heap.UpToSlots h') : Rel c Hs m μ { s with heap := h' } := by
  have k : ∀ b o, Foot c Hs μ b → b ≠ c.L → ¬ FrameOf c.outer b → s.heap.get? b = some o → h'.get? b = some o := fun b o f h1 h2 e => by
    obtain ⟨o', ho⟩ := Option.isSome_iff_exists.mp (K b f (R.notTop h1 h2))
    have := hs b o' ho
    rw [e] at this
    cases this
    exact hB b _ ho
  have nf : ∀ b o, FrameOf c.outer b → s.heap.get? b = some o → ∀ vs, o.data ≠ .fields vs := fun b o f e => by
    obtain ⟨_, o', ho, hd⟩ := R.frames.mem f
    rw [e] at ho; cases ho; exact hd
  have cell : ∀ {ca v}, s.heap.IsCell ca v → h'.IsCell ca v := fun ⟨o, ho, hd⟩ => let ⟨_, e⟩ := hU _ o ho fun vs q => (by rw [hd] at q; cases q); ⟨_, e, hd⟩
  refine ⟨R.gens, R.os, fun b o e => ?_, frames_to _ R.frames fun b o f e => let ⟨_, z⟩ := hU b o e (nf b o f e); ⟨_, z, rfl⟩, R.Lnew, (let ⟨mL, n, p⟩ := R.nsL; ⟨mL, hU.ns n, p⟩), R.Cnew, (let ⟨mC, n, p⟩ := R.nsC; ⟨mC, hU.ns n, p⟩),
    (fun x v e q => let ⟨ca, rv, h1, h2, h3⟩ := R.cellv x v e q; ⟨ca, rv, h1, cell h2, h3⟩), (fun x ca e => let ⟨⟨v, h1⟩, r⟩ := R.cells x ca e; ⟨⟨v, cell h1⟩, r⟩), R.apart, R.fin, R.h0, fun b o e => ?_, fun a o e => ?_⟩
  · refine k b o (.inl (by rw [e]; rfl)) (fun z => by rw [z, R.Lnew] at e; cases e) (fun f => ?_) (R.base b o e)
    rw [(R.frames.mem f).1] at e; cases e
  · obtain ⟨h1, h2, sl, h3, h4⟩ := R.held b o e
    refine ⟨h1, h2, ?_⟩
    by_cases f : FrameOf c.outer b
    · obtain ⟨sl', h5⟩ := hU b _ h3 (nf b _ f h3)
      exact ⟨sl', h5, fun n => absurd f n⟩
    · exact ⟨sl, k b _ (.inr (.inl (by rw [e]; rfl))) h1 f h3, h4⟩
  · obtain ⟨h1, h2, h3, h4, ro, h5, h6⟩ := R.mu a o e
    exact ⟨h1, h2, h3, h4, ro, k a _ (.inr (.inr (by rw [e]; rfl))) h2 (fun f => by have := R.fin a f; rw [h4] at this; cases this) h5, h6⟩

theorem Rel.lessH (R : Rel c Hs m μ s) {H' : Held} (h : ∀ b o, H' b = some o → Hs b = some o) (h0 : ∀ b o, c.H0 b = some o → H' b = some o) (hf : ∀ b, FrameOf c.outer b → (H' b).isSome = true) : Rel c H' m μ s :=
  have n : ∀ {b}, Hs b = none → H' b = none := fun {b} e => by
    cases q : H' b with
    | none => rfl
    | some o => rw [h b o q] at e; cases e
  { R with
    cells := fun x ca e => let ⟨a1, a2, a3, a4, a5, a6⟩ := R.cells x ca e; ⟨a1, a2, a3, a4, n a5, a6⟩
    fin := hf
    h0 := h0
    held := fun b o e => R.held b o (h b o e)
    mu := fun a o e => let ⟨a1, a2, a3, a4, a5⟩ := R.mu a o e; ⟨a1, a2, a3, n a4, a5⟩ }
end

noncomputable def FnX (w : World) (r : Nat) (f : Addr) (vs : List V) (μ : Mu) (Q : V → Mu → Prop) (PE : Mu → Prop) : Prop :=
  ∀ (c : Cx w) Hs m s rvs, r ≤ c.room → Rel c Hs m μ s → VsIs vs rvs →
    codeAny (MM w) c.A (.call (.ref f) ⟨rvs, []⟩) (fun res s' => PR c Hs m Q res s' ∨ ∃ e, res = .error (.ref e) ∧ Thrown c Hs PE e s') s

section
variable {w : World} {oc : Value} {od an : Option Addr} {osl : Array (Option Value)} {name qual : Str} {params : Arguments} {body : List Stmt} {scope : Scope} {dV kV doc pm cdv ct : Value}

theorem fn_introX {r : Nat} {f : Addr} {vs : List V} {μ : Mu} {Q : V → Mu → Prop} {PE : Mu → Prop} {ns : List Str}
    (ho : (KK w).lookup f = some ⟨oc, od, .func (fnOf name qual params body scope dV kV doc pm an cdv ct), osl⟩) (hcd : codeIn (KK w) cdv qual = true)
    (hb : ∀ rvs : List Value, rvs.length = ns.length → bindArgs (fnOf name qual params body scope dV kV doc pm an cdv ct) ⟨rvs, []⟩ = pure (ns.zip rvs))
    (hl : vs.length = ns.length) (hk : (ns.all fun y => scope.names.lookup y == some .local || scope.names.lookup y == some .cell) = true)
    (hco : scope.isCoroutine = false) (hgen : scope.isGenerator = false) (hfun : scope.kind = .function)
    (h : ∀ c : Cx w, At c r scope → Ex c PE → WS c body (bindM (ns.zip vs) fun _ => none) μ (fun fl _ μ' => Q fl.val μ')) : FnX w (r + 1) f vs μ Q PE := by
  intro c Hs m s rvs hr R hv
  have hlen : rvs.length = ns.length := hv.length ▸ hl
  have kinds : ∀ x ∈ ns, scope.names.lookup x = some .local ∨ scope.names.lookup x = some .cell := fun x hx => by
    have := List.all_eq_true.mp hk x hx
    simpa using this
  have hkb : ∀ n, ∀ x ∈ ns.zip rvs, scope.names.lookup x.1 = some .local ∨ (scope.names.lookup x.1 = some .cell ∧ ((cellsFrom n scope.names []).lookup x.1).isSome = true) := fun n x hx =>
    (kinds x.1 (zip_mem hx)).imp id fun e => ⟨e, cellsFrom_some _ _ _ (.inl e)⟩
  have hX : (KK w).In s.heap := fun a o e => R.base a o (c.X a o e)
  have hT := c.T.keeps R.base
  refine codeAny_call_cells (fd := fnOf name qual params body scope dV kV doc pm an cdv ct) (by have := c.hd; unfold recursionLimit; omega) (hX _ _ ho) rfl hT.nolimit (codeRec_of hX hcd) rfl (hb rvs hlen) rfl (hkb _) (fun s₁ I => ?_) hco hgen hfun
  generalize henv : callEnvC (fnOf name qual params body scope dV kV doc pm an cdv ct) s.heap.objs.size f = env at I ⊢
  have eS : env.scope = scope := by rw [← henv]; rfl
  have eL : env.locals = s.heap.objs.size := by rw [← henv]; rfl
  have eF : env.frame = some s.heap.objs.size := by rw [← henv]; rfl
  have eC : env.cells = cellsFrom (s.heap.objs.size + 1) scope.names [] := by rw [← henv]; rfl
  have eK : env.kindOf = fun y => scope.names.lookup y := by rw [← henv]; rfl
  let P : Result → Shared → Prop := fun res s' => PR c Hs m Q res s' ∨ ∃ e, res = .error (.ref e) ∧ Thrown c Hs PE e s'
  let E' : Value → Shared → Prop := fun e s' => wpAny (MM w) (c.A.deeper env) (leaving env e) (fun _ s'' => P (.error e) s'') (fun e' s'' => P (.error e') s'') s'
  let c' := inner c env s.heap.objs.size E' (heldBy μ s.heap) eF (eS ▸ hfun) (by rw [← henv]; rfl) (by rw [← henv]; rfl) r hr
  have keep := I.toInCall.keep
  obtain ⟨h₁, tk, hs₁, _⟩ := I.done
  have newN : ∀ a, s.heap.objs.size ≤ a → s.heap.get? a = none := fun a ha => get_of_lt ha
  have newB : ∀ a, s.heap.objs.size ≤ a → c.h₀.get? a = none := fun a ha => by
    cases q : c.h₀.get? a with
    | none => rfl
    | some o => have := R.base a o q; rw [newN a ha] at this; cases this
  have newM : ∀ a, s.heap.objs.size ≤ a → μ a = none := fun a ha => R.fresh (newN a ha)
  have newH : ∀ a, s.heap.objs.size ≤ a → heldBy μ s.heap a = none := fun a ha => by
    unfold heldBy
    rw [newM a ha]
    exact newN a ha
  have above : ∀ x ca, env.cells.lookup x = some ca → s.heap.objs.size < ca := fun x ca e => eL ▸ I.above x ca (mem_of_lookup e)
  have R' : Rel c' (heldBy μ s.heap) (bindM (ns.zip vs) fun _ => none) μ s₁ := by
    have bound := bind_rel env.kindOf ns vs rvs (fun _ => none) (fun _ => none) (fun _ => none) hv (by rw [eK]; exact kinds) (fun x v e => by cases e)
    refine ⟨?_, ?_, fun b o e => keep b o (R.base b o e), ?_, newB _ (Nat.le_refl _), ⟨_, eL ▸ I.toInCall.ns, trivial⟩, ?_, ⟨_, I.toInCall.ns, ?_⟩, ?_, ?_, ?_, ?_, fun _ _ e => e, ?_, ?_⟩
    · rw [hs₁]; exact R.gens
    · rw [hs₁]; exact R.os
    · obtain ⟨mL, ⟨oL, es, ep, hoL, hdL, _⟩, _⟩ := R.nsL
      refine ⟨by rw [c.hfk]; decide, ⟨c.L, oL, c.hf, R.Lnew, keep _ _ hoL, fun vs q => by rw [hdL] at q; cases q⟩, frames_to _ R.frames fun b o _ e => ⟨o, keep b o e, rfl⟩⟩
    · show c.h₀.get? env.locals = none
      rw [eL]; exact newB _ (Nat.le_refl _)
    · intro x v e q
      rcases bound x v e with ⟨_, z⟩ | ⟨z, _⟩
      · exact z
      · have q : env.kindOf x = some .local := q
        rw [z] at q; cases q
    · intro x v e q
      rcases bound x v e with ⟨z, _⟩ | ⟨z, rv, z1, z2⟩
      · have q : env.kindOf x = some .cell ∨ env.kindOf x = some .free := q
        rw [z] at q; rcases q with q | q <;> cases q
      · have : ((cellsFrom (s.heap.objs.size + 1) scope.names []).lookup x).isSome = true := cellsFrom_some _ _ _ (.inl (by rw [eK] at z; exact z))
        obtain ⟨ca, hca⟩ := Option.isSome_iff_exists.mp this
        rw [← eC] at hca
        exact ⟨ca, rv, hca, z1 ▸ I.cell x ca hca, z2⟩
    · intro x ca e
      have lt := above x ca e
      exact ⟨⟨_, I.cell x ca e⟩, newB _ (Nat.le_of_lt lt), Nat.ne_of_gt lt, fun z => by rw [show c'.env.locals = s.heap.objs.size from eL] at z; exact Nat.ne_of_gt lt z, newH _ (Nat.le_of_lt lt), newM _ (Nat.le_of_lt lt)⟩
    · intro x y ca e1 e2
      exact name_of_addr I.apart (mem_of_lookup e1) (mem_of_lookup e2)
    · intro b hb
      have hn : (heldBy μ s.heap b) = s.heap.get? b := by
        unfold heldBy
        have : μ b = none := by
          cases q : μ b with
          | none => rfl
          | some o =>
            obtain ⟨_, h2, _, h4, _⟩ := R.mu b o q
            obtain ⟨e', he, hf'⟩ := List.mem_filterMap.mp hb
            rcases List.mem_cons.mp he with rfl | he
            · rw [c.hf] at hf'; exact absurd (Option.some.inj hf').symm h2
            · have := R.fin b (List.mem_filterMap.mpr ⟨e', he, hf'⟩)
              rw [h4] at this; cases this
        rw [this]; rfl
      rw [hn]
      obtain ⟨e', he, hf'⟩ := List.mem_filterMap.mp hb
      rcases List.mem_cons.mp he with rfl | he
      · rw [c.hf] at hf'
        cases hf'
        obtain ⟨mL, ⟨oL, es, ep, hoL, _⟩, _⟩ := R.nsL
        rw [hoL]; rfl
      · obtain ⟨_, o, ho, _⟩ := R.frames.mem (List.mem_filterMap.mpr ⟨e', he, hf'⟩)
        rw [ho]; rfl
    · intro b o e
      unfold heldBy at e
      split at e
      · cases e
      · have lt := Heap.lt_size e
        exact ⟨Nat.ne_of_lt lt, by rw [show c'.env.locals = s.heap.objs.size from eL]; exact Nat.ne_of_lt lt, .here (keep _ _ e)⟩
    · intro a o e
      obtain ⟨h1, h2, h3, h4, ro, h5, h6⟩ := R.mu a o e
      have lt := Heap.lt_size h5
      refine ⟨h1, Nat.ne_of_lt lt, by rw [show c'.env.locals = s.heap.objs.size from eL]; exact Nat.ne_of_lt lt, ?_, ro, keep _ _ h5, h6⟩
      unfold heldBy
      rw [e]; rfl
  have ex : Ex c' PE := ⟨rfl, fun H1 e s' ⟨m1, μ1, B, R1, q1, K1, F1⟩ => by
    have R2 : Rel c' (heldBy μ s.heap) m1 μ1 s' := R1.lessH R1.h0 (fun _ _ e => e) R'.fin
    have K2 : ∀ b, Foot c' (heldBy μ s.heap) μ1 b → ¬ FrameOf (c'.fenv :: c'.outer) b → (B.get? b).isSome = true := fun b f => K1 b (f.imp id (.imp (fun z => by
      obtain ⟨o, ho⟩ := Option.isSome_iff_exists.mp z
      rw [R1.h0 b o ho]; rfl) id))
    show wpAny (MM w) (c.A.deeper env) (leaving env (.ref e)) _ _ s'
    unfold leaving
    refine wpAny_bind (fly_noted (L := s.heap.objs.size) c'.hA eF F1 fun h3 t x3 u3 => ?_)
    refine wpAny_landsW x3 fun h4 x4 u4 => ?_
    have R3 := R2.through K2 F1.stays x3.1 u3
    have R4 : Rel c' (heldBy μ s.heap) m1 μ1 { s' with heap := h4 } := R3.through K2 x3.1 x4.1 u4
    have R5 := R.back R4
    refine .inr ⟨e, rfl, m, μ1, B, R5, q1, fun b f n => ?_, .on t ⟨x4.1, x4.2.1, x4.2.2.1.2.2, x4.2.2.2⟩⟩
    have cl : b ≠ s.heap.objs.size := by
      rcases f with f | f | f
      · rintro rfl; rw [newB _ (Nat.le_refl _)] at f; cases f
      · obtain ⟨o, ho⟩ := Option.isSome_iff_exists.mp f
        obtain ⟨_, _, _, h3, _⟩ := R.held b o ho
        exact Nat.ne_of_lt (Heap.lt_size h3)
      · obtain ⟨o, ho⟩ := Option.isSome_iff_exists.mp f
        exact (R4.mu b o ho).2.1
    refine K2 b ?_ (R4.notTop cl n)
    rcases f with f | f | f
    · exact .inl f
    · obtain ⟨o, ho⟩ := Option.isSome_iff_exists.mp f
      obtain ⟨_, _, _, h3, _⟩ := R.held b o ho
      refine .inr (.inl ?_)
      show (heldBy μ s.heap b).isSome = true
      unfold heldBy
      cases z : μ b with
      | none => exact (congrArg Option.isSome h3)
      | some o' => have := (R.mu b o' z).2.2.2.1; rw [ho] at this; cases this
    · exact .inr (.inr f)⟩
  refine wpAny_mono (h c' ⟨rfl, eS, fun x q => by
    have q : scope.names.lookup x = some .cell := by rw [show c'.env.kindOf x = scope.names.lookup x from congrFun eK x] at q; exact q
    show (env.cells.lookup x).isSome = true
    rw [eC]
    exact cellsFrom_some _ _ _ (.inl q), eL⟩ ex _ _ R') (fun fl s' ⟨v, m', μ', a, b, d⟩ => .inl ?_) fun _ _ z => z
  refine ⟨_, v.val, μ', rfl, ?_, R.back b, d⟩
  cases v with
  | ret v => obtain ⟨rv, rfl, z⟩ := a; exact z
  | next => cases a; rfl
  | brk => cases a; rfl
  | cont => cases a; rfl

theorem FnX.fn {r : Nat} {f : Addr} {vs : List V} {μ : Mu} {Q : V → Mu → Prop} (h : FnX w r f vs μ Q fun _ => False) : Fn w r f vs μ Q := fun c Hs m s rvs hr R hv =>
  codeAny_mono (h c Hs m s rvs hr R hv) fun _ _ z => z.elim id fun hz1 => by obtain ⟨_, _, _, _, _, _, q, _, _⟩ := hz1; exact q.elim

theorem fn_intro {r : Nat} {f : Addr} {vs : List V} {μ : Mu} {Q : V → Mu → Prop} {ns : List Str}
    (ho : (KK w).lookup f = some ⟨oc, od, .func (fnOf name qual params body scope dV kV doc pm an cdv ct), osl⟩) (hcd : codeIn (KK w) cdv qual = true)
    (hb : ∀ rvs : List Value, rvs.length = ns.length → bindArgs (fnOf name qual params body scope dV kV doc pm an cdv ct) ⟨rvs, []⟩ = pure (ns.zip rvs))
    (hl : vs.length = ns.length) (hk : (ns.all fun y => scope.names.lookup y == some .local || scope.names.lookup y == some .cell) = true)
    (hco : scope.isCoroutine = false) (hgen : scope.isGenerator = false) (hfun : scope.kind = .function)
    (h : ∀ c : Cx w, At c r scope → WS c body (bindM (ns.zip vs) fun _ => none) μ (fun fl _ μ' => Q fl.val μ')) : Fn w (r + 1) f vs μ Q :=
  (fn_introX ho hcd hb hl hk hco hgen hfun fun c hc _ => h c hc).fn

theorem rvs0 {P : List Value → Prop} (h : P []) : ∀ rvs : List Value, rvs.length = 0 → P rvs := fun rvs e => by
  cases rvs with
  | nil => exact h
  | cons a r => cases e
theorem rvsS {P : List Value → Prop} {n : Nat} (h : ∀ a, ∀ r : List Value, r.length = n → P (a :: r)) : ∀ rvs : List Value, rvs.length = n + 1 → P rvs := fun rvs e => by
  cases rvs with
  | nil => cases e
  | cons a r => exact h a r (Nat.succ.inj e)
theorem rvs1 {P : List Value → Prop} (h : ∀ a, P [a]) : ∀ rvs : List Value, rvs.length = 1 → P rvs := rvsS fun a => rvs0 (P := fun r => P (a :: r)) (h a)
theorem rvs2 {P : List Value → Prop} (h : ∀ a b, P [a, b]) : ∀ rvs : List Value, rvs.length = 2 → P rvs := rvsS fun a => rvs1 (P := fun r => P (a :: r)) (h a)
theorem rvs3 {P : List Value → Prop} (h : ∀ a b c, P [a, b, c]) : ∀ rvs : List Value, rvs.length = 3 → P rvs := rvsS fun a => rvs2 (P := fun r => P (a :: r)) (h a)
theorem rvs4 {P : List Value → Prop} (h : ∀ a b c d, P [a, b, c, d]) : ∀ rvs : List Value, rvs.length = 4 → P rvs := rvsS fun a => rvs3 (P := fun r => P (a :: r)) (h a)
theorem rvs5 {P : List Value → Prop} (h : ∀ a b c d e, P [a, b, c, d, e]) : ∀ rvs : List Value, rvs.length = 5 → P rvs := rvsS fun a => rvs4 (P := fun r => P (a :: r)) (h a)
theorem rvs6 {P : List Value → Prop} (h : ∀ a b c d e f, P [a, b, c, d, e, f]) : ∀ rvs : List Value, rvs.length = 6 → P rvs := rvsS fun a => rvs5 (P := fun r => P (a :: r)) (h a)
end
section
variable {w : World} {c : Cx w} {m : Vars} {μ : Mu}

theorem W_int {i : Int} {k p} {Q : V → Mu → Prop} (h : Q (.int i) μ) : WE c (.Constant (.int i) k p) m μ Q := fun Hs s R => by
  exact wpAny_Constant_int ⟨.int i, μ, ⟨_, rfl⟩, R.toks _, h⟩
theorem W_bool {b : Bool} {k p} {Q : V → Mu → Prop} (h : Q (.bool b) μ) : WE c (.Constant (.bool b) k p) m μ Q := fun Hs s R => by
  exact wpAny_Constant_bool ⟨.bool b, μ, rfl, R, h⟩
theorem W_none {k p} {Q : V → Mu → Prop} (h : Q .none μ) : WE c (.Constant .none k p) m μ Q := fun Hs s R => by
  exact wpAny_Constant_none ⟨.none, μ, rfl, R, h⟩
theorem W_bytes {b : List UInt8} {k p} {Q : V → Mu → Prop} (h : Q (.bytes b.toArray) μ) : WE c (.Constant (.bytes b) k p) m μ Q := fun Hs s R => by
  exact Constant_bytes ⟨.bytes b.toArray, μ, ⟨_, rfl⟩, R.toks _, h⟩

noncomputable def readable (S : Scope) (x : Str) : Bool := S.names.lookup x == some .local || S.names.lookup x == some .cell || S.names.lookup x == some .free

theorem W_name {S : Scope} {x : Str} {p} {v : V} {Q : V → Mu → Prop} (hS : c.env.scope = S) (hx : m x = some v) (hk : readable S x = true) (h : Q v μ) (hd : (x == ("__debug__" : Str)) = false := by decide) (hn : (x == ("__classdict__" : Str)) = false := by decide) : WE c (.Name x p) m μ Q := fun Hs s R => by
  have hk' : c.env.kindOf x = some .local ∨ c.env.kindOf x = some .cell ∨ c.env.kindOf x = some .free := by
    unfold Env.kindOf
    rw [hS]
    unfold readable at hk
    simpa [or_assoc] using hk
  rcases hk' with q | q | q
  · obtain ⟨mC, n, z⟩ := R.nsC
    obtain ⟨rv, z1, z2⟩ := z x v hx q
    exact wpAny_Name (wpAny_loadName_local c.hek q n z1 ⟨v, μ, z2, R, h⟩) hd
  · obtain ⟨ca, rv, z1, z2, z3⟩ := R.cellv x v hx (.inl q)
    exact wpAny_Name (wpAny_loadName_cell c.hek q z1 z2 ⟨v, μ, z3, R, h⟩) hd
  · obtain ⟨ca, rv, z1, z2, z3⟩ := R.cellv x v hx (.inr q)
    exact wpAny_Name (wpAny_loadName_free c.hek q z1 z2 ⟨v, μ, z3, R, h⟩ hn) hd

theorem N_top {S : Scope} {x : Str} {p} {v : Value} {Hs : Held} {s : Shared} {Q : Value → Shared → Prop} (R : Rel c Hs m μ s) (hS : c.env.scope = S) (e : nsIn (KK w) mainGlobals x = some (some v)) (hk : S.names.lookup x = some .globalImplicit)
    (h : Q v s) (hd : (x == ("__debug__" : Str)) = false := by decide) : wpAny (MM w) c.A (eval (.Name x p) c.env) Q c.E s :=
  Name_function_global c.hek (by unfold Env.kindOf; rw [hS]; exact hk) (loadGlobal_global (by rw [c.heg]; exact c.T.g.keeps R.base) (mg_of c.X c.T.g e) h) hd
theorem N_boot {S : Scope} {x : Str} {p} {v : Value} {Hs : Held} {s : Shared} {Q : Value → Shared → Prop} (R : Rel c Hs m μ s) (hS : c.env.scope = S) (e : nsIn (KK w) mainGlobals x = some none) (hv : bootBuiltins x = some v) (hk : S.names.lookup x = some .globalImplicit)
    (h : Q v s) (hn : x ≠ "__name__" := by decide) (hd : (x == ("__debug__" : Str)) = false := by decide) : wpAny (MM w) c.A (eval (.Name x p) c.env) Q c.E s :=
  Name_function_global c.hek (by unfold Env.kindOf; rw [hS]; exact hk) (loadGlobal_builtin (by rw [c.heg]; exact c.T.g.keeps R.base) (mg_none_of c.X c.T.g e) (by rw [c.heb]; exact c.T.b.keeps R.base) ((c.T.builtins x hn).trans hv) h) hd

theorem Rel.list {Hs : Held} {s : Shared} (R : Rel c Hs m μ s) {a : Addr} {vs : List V} (e : μ a = some (.list vs)) : ∃ rvs n, s.heap.get? a = some { cls := .type "list", data := .seq (List.toArray rvs) n } ∧ VsIs vs rvs := by
  obtain ⟨_, _, _, _, ro, h1, rvs, n, rfl, h2⟩ := R.mu a _ e
  exact ⟨rvs, n, h1, h2⟩
theorem Rel.isList {Hs : Held} {s : Shared} (R : Rel c Hs m μ s) {a : Addr} {vs : List V} (e : μ a = some (.list vs)) : ∃ rvs, s.heap.IsList a (List.toArray rvs) ∧ VsIs vs rvs := by
  obtain ⟨rvs, n, h1, h2⟩ := R.list e
  exact ⟨rvs, ⟨_, h1, rfl, n, rfl⟩, h2⟩
theorem Rel.tup {Hs : Held} {s : Shared} (R : Rel c Hs m μ s) {a : Addr} {vs : List V} (e : μ a = some (.tup vs)) : ∃ rvs, IsTup s.heap a (List.toArray rvs) ∧ VsIs vs rvs := by
  obtain ⟨_, _, _, _, ro, h1, rvs, n, rfl, h2⟩ := R.mu a _ e
  exact ⟨rvs, ⟨_, h1, rfl, n, rfl⟩, h2⟩
theorem ints_are : ∀ {xs : List Int} {rvs : List Value}, VsIs (xs.map .int) rvs → IntsAre rvs xs
  | [], [], _ => .nil
  | x :: xs, r :: rs, h => by
    obtain ⟨t, rfl⟩ := h.1
    exact .cons x t (ints_are h.2)
  | [], _ :: _, h => h.elim
  | _ :: _, [], h => h.elim
theorem are_ints : ∀ {xs : List Int} {rvs : List Value}, IntsAre rvs xs → VsIs (xs.map .int) rvs
  | _, _, .nil => trivial
  | _, _, .cons x t r => ⟨⟨t, rfl⟩, are_ints r⟩

noncomputable def TruV (v : V) (μ : Mu) (Q : Bool → Prop) : Prop := match v with
  | .none => Q false
  | .bool b => Q b
  | .int i => Q (i != 0)
  | .ref a => ∃ vs, μ a = some (.list vs) ∧ vs.length ≤ 16777216 ∧ Q (!vs.isEmpty)
  | _ => False

theorem tru_of {v : V} {rv : Value} {Hs : Held} {s : Shared} {Q : Bool → Prop} {P : Bool → Shared → Prop} (R : Rel c Hs m μ s) (hv : v.Is rv) (h : TruV v μ Q) (hP : ∀ b s', Q b → Rel c Hs m μ s' → P b s') : wpAny (MM w) c.A (truthy rv) P c.E s := by
  cases v with
  | none => cases hv; exact truthy_none (hP _ _ h R)
  | bool b => cases hv; exact wpAny_truthy_bool (hP _ _ h R)
  | int i => obtain ⟨t, rfl⟩ := hv; exact PyProof.Rows.truthy_int (hP _ _ h R)
  | ref a =>
    cases hv
    obtain ⟨vs, e, hl, hq⟩ := h
    obtain ⟨rvs, h1, h2⟩ := R.isList e
    have len := h2.length
    refine wpAny_truthy_list h1 (by simp only [List.size_toArray]; omega) (hP _ _ ?_ (R.toks _))
    have : (List.toArray rvs).isEmpty = vs.isEmpty := by
      cases vs <;> cases rvs <;> simp at len ⊢
    rw [this]; exact hq
  | bytes => exact h.elim

inductive BinV : Operator → V → V → Mu → (V → Mu → Prop) → Prop
  | add {i : Int} {j : Int} {μ : Mu} {Q : V → Mu → Prop} (h : Q (.int (i + j)) μ) : BinV .Add (.int i) (.int j) μ Q
  | sub {i : Int} {j : Int} {μ : Mu} {Q : V → Mu → Prop} (h : Q (.int (i - j)) μ) : BinV .Sub (.int i) (.int j) μ Q
  | mul {i : Int} {j : Int} {μ : Mu} {Q : V → Mu → Prop} (h : (-(2 ^ 63) < j ∧ j < 2 ^ 63) ∧ Q (.int (i * j)) μ) : BinV .Mult (.int i) (.int j) μ Q
  | div {i : Int} {j : Int} {μ : Mu} {Q : V → Mu → Prop} (h : (j ≠ 0 ∧ j.natAbs < 1073741824) ∧ Q (.int (i.fdiv j)) μ) : BinV .FloorDiv (.int i) (.int j) μ Q
  | mod {i : Int} {j : Int} {μ : Mu} {Q : V → Mu → Prop} (h : j ≠ 0 ∧ Q (.int (i.fmod j)) μ) : BinV .Mod (.int i) (.int j) μ Q
  | pow {i : Int} {j : Int} {μ : Mu} {Q : V → Mu → Prop} (h : (0 ≤ j ∧ (Builtin.Int.intBits i : Int) * j ≤ 2 ^ 27) ∧ Q (.int (i ^ j.toNat)) μ) : BinV .Pow (.int i) (.int j) μ Q
  | byt {x : Array UInt8} {y : Array UInt8} {μ : Mu} {Q : V → Mu → Prop} (h : x.size + y.size ≤ 16777216 ∧ Q (.bytes (x ++ y)) μ) : BinV .Add (.bytes x) (.bytes y) μ Q
  | cat {a : Addr} {b : Addr} {μ : Mu} {Q : V → Mu → Prop} (h : ∃ xs ys, μ a = some (.list xs) ∧ μ b = some (.list ys) ∧ xs.length + ys.length ≤ 1000000 ∧ ∀ r, μ r = none → Q (.ref r) (μ.set r (.list (xs ++ ys)))) : BinV .Add (.ref a) (.ref b) μ Q


noncomputable def allOf (h : Heap) (L : Addr) : List (Addr × Obj) := (List.range h.objs.size).filterMap fun a => if a = L then none else (h.get? a).map fun o => (a, o)
theorem allOf_mem {h : Heap} {L a : Addr} {o : Obj} : (a, o) ∈ allOf h L ↔ a ≠ L ∧ h.get? a = some o := by
  unfold allOf
  rw [List.mem_filterMap]
  constructor
  · rintro ⟨b, _, e⟩
    split at e
    · cases e
    · rename_i hb
      obtain ⟨o', h1, h2⟩ := Option.map_eq_some_iff.mp e
      cases h2
      exact ⟨hb, h1⟩
  · rintro ⟨h1, h2⟩
    exact ⟨a, List.mem_range.mpr (Heap.lt_size h2), by rw [if_neg h1, h2]; rfl⟩

noncomputable def E0 : Heap := { objs := #[] }
theorem E0_get (b : Addr) : E0.get? b = none := by simp [E0, Heap.get?]
theorem allOf_news (h : Heap) (L : Addr) : News E0 L h (allOf h L) := fun p hp => by
  obtain ⟨h1, h2⟩ := allOf_mem.mp (show (p.1, p.2) ∈ allOf h L from hp)
  exact ⟨h2, h1, E0_get _⟩

theorem Rel.viaK {Hs : Held} {s : Shared} (R : Rel c Hs m μ s) : ∃ mL, Fr E0 c.L s.heap mL ∧ (∀ h' tk, Fr E0 c.L h' mL → News E0 c.L h' (allOf s.heap c.L) → Rel c Hs m μ { s with heap := h', toks := tk }) := by
  have go : ∀ (mL : Str → Option Value), s.heap.Ns c.L mL → c.PL mL → (∀ h' : Heap, h'.Ns c.L mL → (∀ b o, b ≠ c.L → s.heap.get? b = some o → h'.get? b = some o) → ∃ mC, h'.Ns c.env.locals mC ∧ ∀ x v, m x = some v → c.env.kindOf x = some .local → ∃ rv, mC x = some rv ∧ v.Is rv) →
      ∀ (h' : Heap) (tk : Nat), Fr E0 c.L h' mL → News E0 c.L h' (allOf s.heap c.L) → Rel c Hs m μ { s with heap := h', toks := tk } := by
    intro mL n hp hC h' tk F N
    have k : ∀ b o, b ≠ c.L → s.heap.get? b = some o → h'.get? b = some o := fun b o hb e => (N (b, o) (allOf_mem.mpr ⟨hb, e⟩)).1
    have fresh : ∀ b o, c.h₀.get? b = some o → b ≠ c.L := fun b o e z => by rw [z, R.Lnew] at e; cases e
    refine ⟨R.gens, R.os, fun b o e => k b o (fresh b o e) (R.base b o e), frames_to _ R.frames fun b o fb e => ⟨o, k b o (fun z => ?_) e, rfl⟩, R.Lnew, ⟨mL, F.ns, hp⟩, R.Cnew, hC h' F.ns k,
      (fun x v e q => let ⟨ca, rv, h1, ⟨o, h2, h2'⟩, h3⟩ := R.cellv x v e q; ⟨ca, rv, h1, ⟨o, k _ _ (R.cells x ca h1).2.2.1 h2, h2'⟩, h3⟩),
      (fun x ca e => let ⟨⟨v, ⟨o, h2, h2'⟩⟩, r⟩ := R.cells x ca e; ⟨⟨v, ⟨o, k _ _ r.2.1 h2, h2'⟩⟩, r⟩), R.apart, R.fin, R.h0,
      (fun b o e => let ⟨h1, h2, sl, h3, h4⟩ := R.held b o e; ⟨h1, h2, sl, k _ _ h1 h3, h4⟩), fun a o e => let ⟨h1, h2, h3, h4, ro, h5, h6⟩ := R.mu a o e; ⟨h1, h2, h3, h4, ro, k _ _ h2 h5, h6⟩⟩
    obtain ⟨o', ho'⟩ := Option.isSome_iff_exists.mp (R.fin b fb)
    exact (R.held b o' ho').1 z
  by_cases hl : c.env.locals = c.L
  · obtain ⟨mC, n, r⟩ := R.nsC
    rw [hl] at n
    exact ⟨mC, ⟨n, (fun b o e => by rw [E0_get] at e; cases e), Nat.zero_le _⟩, go mC n (c.hPL hl _) fun h' n' _ => ⟨mC, by rw [hl]; exact n', r⟩⟩
  · obtain ⟨mL, n, hp⟩ := R.nsL
    refine ⟨mL, ⟨n, (fun b o e => by rw [E0_get] at e; cases e), Nat.zero_le _⟩, go mL n hp fun h' _ k => ?_⟩
    obtain ⟨mC, ⟨o, es, ep, ho, q⟩, r⟩ := R.nsC
    exact ⟨mC, ⟨o, es, ep, k _ _ hl ho, q⟩, r⟩

theorem Rel.newK {Hs : Held} {s : Shared} (R : Rel c Hs m μ s) {mL : Str → Option Value} {h' : Heap} {tk : Tok} {a : Addr} {ro : Obj} {o : O} (e : s.heap.get? a = none) (F : Fr E0 c.L h' mL) (N : News E0 c.L h' ((a, ro) :: allOf s.heap c.L)) (hi : o.Is ro)
    (K : Rel c Hs m μ { s with heap := h', toks := tk }) : Rel c Hs m (μ.set a o) { s with heap := h', toks := tk } := by
  obtain ⟨ha, nL, _⟩ := N _ (List.Mem.head _)
  have nC : a ≠ c.env.locals := fun q => by obtain ⟨_, ⟨_, _, _, h, _⟩, _⟩ := R.nsC; rw [← q, e] at h; cases h
  exact { K with
    cells := fun x ca q => by
      obtain ⟨h1, h2, h3, h4, h5, h6⟩ := K.cells x ca q
      refine ⟨h1, h2, h3, h4, h5, ?_⟩
      rw [Mu.set_ne]; exact h6
      intro z
      obtain ⟨⟨v, ⟨oc, hc, _⟩⟩, _⟩ := R.cells x ca q
      rw [z, e] at hc; cases hc
    mu := fun b ob q => by
      by_cases hb : b = a
      · subst hb
        rw [Mu.set_self] at q
        cases q
        refine ⟨?_, nL, nC, ?_, ro, ha, hi⟩
        · cases z : c.h₀.get? b with
          | none => rfl
          | some o => rw [R.base _ _ z] at e; cases e
        · cases z : Hs b with
          | none => rfl
          | some o => obtain ⟨_, _, _, h, _⟩ := R.held b o z; rw [h] at e; cases e
      · rw [Mu.set_ne _ _ hb] at q
        exact K.mu b ob q }

section
variable {G : Value → Value → Prop} {ra rb : Value}
theorem is_ii {i j : Int} (ha : (V.int i).Is ra) (hb : (V.int j).Is rb) (h : ∀ t u, G (.int i t) (.int j u)) : G ra rb := by
  obtain ⟨t, rfl⟩ := ha; obtain ⟨u, rfl⟩ := hb; exact h t u
theorem is_rr {a b : Addr} (ha : (V.ref a).Is ra) (hb : (V.ref b).Is rb) (h : G (.ref a) (.ref b)) : G ra rb := by
  cases ha; cases hb; exact h
theorem is_bb {a b : Bool} (ha : (V.bool a).Is ra) (hb : (V.bool b).Is rb) (h : G (.bool a) (.bool b)) : G ra rb := by
  cases ha; cases hb; exact h
theorem is_rn {a : Addr} (ha : (V.ref a).Is ra) (hb : V.none.Is rb) (h : G (.ref a) .none) : G ra rb := by
  cases ha; cases hb; exact h
theorem is_nn (ha : V.none.Is ra) (hb : V.none.Is rb) (h : G .none .none) : G ra rb := by
  cases ha; cases hb; exact h
theorem is_ir {i : Int} {a : Addr} (ha : (V.int i).Is ra) (hb : (V.ref a).Is rb) (h : ∀ t, G (.int i t) (.ref a)) : G ra rb := by
  obtain ⟨t, rfl⟩ := ha; cases hb; exact h t
theorem is_yy {x y : Array UInt8} (ha : (V.bytes x).Is ra) (hb : (V.bytes y).Is rb) (h : ∀ t u, G (.bytes x t) (.bytes y u)) : G ra rb := by
  obtain ⟨t, rfl⟩ := ha; obtain ⟨u, rfl⟩ := hb; exact h t u
end
theorem bin_of {op : Operator} {a b : V} {ra rb : Value} {Hs : Held} {s : Shared} {Q : V → Mu → Prop} (R : Rel c Hs m μ s) (ha : a.Is ra) (hb : b.Is rb) (h : BinV op a b μ Q) :
    wpAny (MM w) c.A (binaryOp op ra rb) (PW c Hs m V.Is Q) c.E s := by
  have int2 : ∀ {k : Int}, Q (.int k) μ → PW c Hs m V.Is Q (.int k s.toks) { s with toks := s.toks + 1 } := fun {k} q => ⟨.int k, μ, ⟨_, rfl⟩, R.toks _, q⟩
  cases h with
  | add h =>
    apply is_ii ha hb; intro t u
    exact PyProof.Rows.add_int (int2 h)
  | sub h =>
    apply is_ii ha hb; intro t u
    exact PyProof.Rows.sub_int (int2 h)
  | mul h =>
    apply is_ii ha hb; intro t u
    exact PyProof.Rows.mul_int (int2 h.2) (IntMulOk.of_right (intBits_le_64 (by have := h.1.1; omega) (by have := h.1.2; omega)))
  | div h =>
    apply is_ii ha hb; intro t u
    exact PyProof.Rows.floordiv_int h.1.1 (int2 h.2) (.inl (PyProof.noPylong_small h.1.2))
  | mod h =>
    apply is_ii ha hb; intro t u
    exact PyProof.Rows.mod_int h.1 (int2 h.2)
  | pow h =>
    apply is_ii ha hb; intro t u
    exact PyProof.Rows.pow_int h.1.1 h.1.2 (int2 h.2)
  | @byt x y _ _ h =>
    apply is_yy ha hb; intro t u
    exact KBy.add_bytes h.1 fun t' k => ⟨.bytes (x ++ y), μ, ⟨_, rfl⟩, R.toks _, h.2⟩
  | @cat a b _ _ h =>
    apply is_rr ha hb
    obtain ⟨xs, ys, e1, e2, hl, q⟩ := h
    obtain ⟨rx, l1, v1⟩ := R.isList e1
    obtain ⟨ry, l2, v2⟩ := R.isList e2
    have n1 := v1.length
    have n2 := v2.length
    obtain ⟨mL, F, back⟩ := R.viaK
    have fr : s.heap.get? s.heap.objs.size = none := get_of_lt (Nat.le_refl _)
    refine PyProof.Rows.add_arrays F (allOf_news _ _) l1 l2 (fun h' F' N' => ⟨.ref s.heap.objs.size, μ.set s.heap.objs.size (.list (xs ++ ys)), rfl, ?_, q _ (R.fresh fr)⟩) (by simp only [List.size_toArray]; unfold sizeLine; omega)
    exact R.newK (tk := s.toks) fr F' N' ⟨rx ++ ry, 0, by simp, v1.append v2⟩ (back h' s.toks F' fun p hp => N' p (.tail _ hp))

theorem W_bin {l r : Expr} {op : Operator} {p} {Q : V → Mu → Prop} (h : WE c l m μ (fun a μ1 => WE c r m μ1 (fun b μ2 => BinV op a b μ2 Q))) : WE c (.BinOp l op r p) m μ Q := fun Hs s R =>
  wpAny_BinOp (wpAny_mono (h Hs s R) (fun _ s1 hx0 => by obtain ⟨_, _, ha, R1, h1⟩ := hx0; exact wpAny_mono (h1 Hs s1 R1) (fun _ _ hx1 => by obtain ⟨_, _, hb, R2, h2⟩ := hx1; exact bin_of R2 ha hb h2) fun _ _ z => z) fun _ _ z => z)
end
inductive D where
  | none
  | bool (b : Bool)
  | int (i : Int)
  | bytes (b : Array UInt8)
  | tup (ds : List D)

inductive Rd (μ : Mu) : Nat → V → D → Prop
  | none {n} : Rd μ n .none .none
  | bool {n} (b : Bool) : Rd μ n (.bool b) (.bool b)
  | int {n} (i : Int) : Rd μ n (.int i) (.int i)
  | bytes {n} (b : Array UInt8) : Rd μ n (.bytes b) (.bytes b)
  | tup {n} {a : Addr} {vs : List V} {ds : List D} (h : μ a = some (.tup vs)) (l : vs.length = ds.length) (r : ∀ (i : Nat) (v : V) (d : D), vs[i]? = some v → ds[i]? = some d → Rd μ n v d) : Rd μ (n + 1) (.ref a) (.tup ds)

noncomputable def D.as (v : V) : D → Prop
  | .none => v = .none
  | .bool b => v = .bool b
  | .int i => v = .int i
  | .bytes b => v = .bytes b
  | .tup _ => ∃ a, v = .ref a
theorem Rd.as {μ : Mu} {n : Nat} {v : V} {d : D} (h : Rd μ n v d) : d.as v := by
  cases h with
  | none => exact rfl
  | bool b => exact rfl
  | int i => exact rfl
  | bytes b => exact rfl
  | tup => exact ⟨_, rfl⟩
theorem Rd.pos {μ : Mu} {n : Nat} {v : V} {ds : List D} (h : Rd μ n v (.tup ds)) : n ≠ 0 := by
  generalize e : D.tup ds = d at h
  cases h <;> first | exact Nat.succ_ne_zero _ | cases e
theorem Rd.ext {μ μ' : Mu} {n : Nat} {v : V} {d : D} (h : Rd μ n v d) (e : ∀ a o, μ a = some o → μ' a = some o) : Rd μ' n v d := by
  induction h with
  | none => exact .none
  | bool b => exact .bool b
  | int i => exact .int i
  | bytes b => exact .bytes b
  | tup h l _ ih => exact .tup (e _ _ h) l ih
theorem Rd.up {μ : Mu} {n k : Nat} {v : V} {d : D} (h : Rd μ n v d) (hk : n ≤ k) : Rd μ k v d := by
  induction h generalizing k with
  | none => exact .none
  | bool b => exact .bool b
  | int i => exact .int i
  | bytes b => exact .bytes b
  | @tup n a vs ds h l _ ih =>
    obtain ⟨j, rfl⟩ : ∃ j, k = j + 1 := ⟨k - 1, by omega⟩
    exact .tup h l fun i v d hv hd => ih i v d hv hd (by omega)

inductive EqV (μ : Mu) (a b : Addr) : Bool → Prop
  | same {ds : List D} (ha : Rd μ 8 (.ref a) (.tup ds)) (hb : Rd μ 8 (.ref b) (.tup ds)) : EqV μ a b true
  | lists {xs ys : List Int} (ha : μ a = some (.list (xs.map .int))) (hb : μ b = some (.list (ys.map .int))) : EqV μ a b (decide (xs = ys))
  | tups {xs ys : List Int} (ha : μ a = some (.tup (xs.map .int))) (hb : μ b = some (.tup (ys.map .int))) : EqV μ a b (decide (xs = ys))

inductive CmpV : CmpOp → V → V → Mu → (Bool → Prop) → Prop
  | eqi {i : Int} {j : Int} {μ : Mu} {Q : Bool → Prop} (h : Q (decide (i = j))) : CmpV .Eq (.int i) (.int j) μ Q
  | nei {i : Int} {j : Int} {μ : Mu} {Q : Bool → Prop} (h : Q (decide (i ≠ j))) : CmpV .NotEq (.int i) (.int j) μ Q
  | lt {i : Int} {j : Int} {μ : Mu} {Q : Bool → Prop} (h : Q (decide (i < j))) : CmpV .Lt (.int i) (.int j) μ Q
  | gt {i : Int} {j : Int} {μ : Mu} {Q : Bool → Prop} (h : Q (decide (j < i))) : CmpV .Gt (.int i) (.int j) μ Q
  | le {i : Int} {j : Int} {μ : Mu} {Q : Bool → Prop} (h : Q (decide (i ≤ j))) : CmpV .LtE (.int i) (.int j) μ Q
  | ge {i : Int} {j : Int} {μ : Mu} {Q : Bool → Prop} (h : Q (decide (j ≤ i))) : CmpV .GtE (.int i) (.int j) μ Q
  | eqb {i : Bool} {j : Bool} {μ : Mu} {Q : Bool → Prop} (h : Q (decide (i = j))) : CmpV .Eq (.bool i) (.bool j) μ Q
  | neb {i : Bool} {j : Bool} {μ : Mu} {Q : Bool → Prop} (h : Q (decide (i ≠ j))) : CmpV .NotEq (.bool i) (.bool j) μ Q
  | is0 {μ : Mu} {Q : Bool → Prop} (h : Q true) : CmpV .Is .none .none μ Q
  | is1 {a : Addr} {μ : Mu} {Q : Bool → Prop} (h : Q false) : CmpV .Is (.ref a) .none μ Q
  | isn0 {μ : Mu} {Q : Bool → Prop} (h : Q false) : CmpV .IsNot .none .none μ Q
  | isn1 {a : Addr} {μ : Mu} {Q : Bool → Prop} (h : Q true) : CmpV .IsNot (.ref a) .none μ Q
  | inn {i : Int} {a : Addr} {μ : Mu} {Q : Bool → Prop} (h : ∃ xs : List Int, μ a = some (.list (xs.map .int)) ∧ Q (decide (i ∈ xs))) : CmpV .In (.int i) (.ref a) μ Q
  | nin {i : Int} {a : Addr} {μ : Mu} {Q : Bool → Prop} (h : ∃ xs : List Int, μ a = some (.list (xs.map .int)) ∧ Q (decide (i ∉ xs))) : CmpV .NotIn (.int i) (.ref a) μ Q
  | eqr {a : Addr} {b : Addr} {μ : Mu} {Q : Bool → Prop} (h : ∃ r, EqV μ a b r ∧ Q r) : CmpV .Eq (.ref a) (.ref b) μ Q
  | ner {a : Addr} {b : Addr} {μ : Mu} {Q : Bool → Prop} (h : ∃ r, EqV μ a b r ∧ Q (!r)) : CmpV .NotEq (.ref a) (.ref b) μ Q

section
variable {w : World} {c : Cx w} {m : Vars} {μ : Mu}
theorem Rel.tuple {Hs : Held} {s : Shared} (R : Rel c Hs m μ s) {a : Addr} {vs : List V} (e : μ a = some (.tup vs)) : ∃ rvs, s.heap.IsTuple a (List.toArray rvs) ∧ VsIs vs rvs := by
  obtain ⟨_, _, _, _, ro, h1, rvs, n, rfl, h2⟩ := R.mu a _ e
  exact ⟨rvs, ⟨_, h1, rfl, n, rfl⟩, h2⟩

theorem VsIs.getI : ∀ {vs : List V} {rs : List Value} {i : Nat} {r : Value}, VsIs vs rs → rs[i]? = some r → ∃ v, vs[i]? = some v ∧ v.Is r
  | v :: _, r :: _, 0, _, h, e => by cases e; exact ⟨v, rfl, h.1⟩
  | _ :: _, _ :: _, i + 1, _, h, e => by
    rw [List.getElem?_cons_succ] at e ⊢
    exact h.2.getI e
  | _, [], _, _, _, e => by simp at e
  | [], _ :: _, _, _, h, _ => h.elim

theorem all_range_true (n : Nat) : ((List.range n).all fun _ => true) = true := by simp
theorem eqB_bytes (A : Around) (s : Shared) (b : Array UInt8) (t u : Tok) : SeqAt.EqAt A s (.bytes b t) (.bytes b u) true := fun prog w E Q h => PySem.W.eqBool_bytes (by simpa using h)

theorem tups_same {Hs : Held} {s : Shared} (R : Rel c Hs m μ s) {n : Nat} (ih : ∀ (A : Around) v v' d r r', Rd μ n v d → Rd μ n v' d → v.Is r → v'.Is r' → A.units + n < cLine → SeqAt.EqAt A s r r' true)
    {A : Around} {a b : Addr} {ds : List D} (ha : Rd μ (n + 1) (.ref a) (.tup ds)) (hb : Rd μ (n + 1) (.ref b) (.tup ds)) (hu : A.units + (n + 1) < cLine) : SeqAt.RcAt A s (.ref a) (.ref b) true := by
  cases ha with
  | tup h1 l1 r1 =>
    cases hb with
    | tup h2 l2 r2 =>
      obtain ⟨ra, t1, v1⟩ := R.tuple h1
      obtain ⟨rb, t2, v2⟩ := R.tuple h2
      have n1 := v1.length
      have n2 := v2.length
      have := SeqAt.RcAt.tuples (e := fun _ => true) t1 t2 (by omega : A.units < cLine) (fun j j1 j2 => by
        simp only [List.size_toArray] at j1 j2
        obtain ⟨u, e1, i1⟩ := v1.getI (List.getElem?_eq_getElem j1)
        obtain ⟨u', e2, i2⟩ := v2.getI (List.getElem?_eq_getElem j2)
        have jd : j < ds.length := by omega
        simp only [List.getElem_toArray]
        exact ih A.in1 u u' ds[j] _ _ (r1 j u _ e1 (List.getElem?_eq_getElem jd)) (r2 j u' _ e2 (List.getElem?_eq_getElem jd)) i1 i2 (by show A.units + 1 + n < cLine; omega))
      have e : (List.toArray ra).size = (List.toArray rb).size := by simp only [List.size_toArray]; omega
      rw [all_range_true, Bool.true_and, e, beq_self_eq_true] at this
      exact this

theorem rd_leaf {s : Shared} {n : Nat} {A : Around} {v v' : V} {d : D} {r r' : Value} (h : Rd μ n v d) (h' : Rd μ n v' d) (i : v.Is r) (i' : v'.Is r') (hd : ∀ ds, d ≠ .tup ds) : SeqAt.EqAt A s r r' true := by
  have e := h.as; have e' := h'.as; clear h h'
  cases d with
  | none => cases e; cases e'; apply is_nn i i'; exact (SeqAt.EqAt.same _)
  | bool b => cases e; cases e'; apply is_bb i i'; exact (SeqAt.EqAt.same _)
  | int k =>
    cases e; cases e'
    apply is_ii i i'; intro t t'
    have := SeqAt.EqAt.int_int (A := A) (s := s) k t k t'
    rwa [beq_self_eq_true] at this
  | bytes b =>
    cases e; cases e'
    apply is_yy i i'; intro t t'; exact eqB_bytes _ _ _ _ _
  | tup ds => exact absurd rfl (hd ds)
theorem rd_same {Hs : Held} {s : Shared} (R : Rel c Hs m μ s) : ∀ (n : Nat) (A : Around) v v' d r r', Rd μ n v d → Rd μ n v' d → v.Is r → v'.Is r' → A.units + n < cLine → SeqAt.EqAt A s r r' true := by
  intro n
  induction n with
  | zero =>
    intro A v v' d r r' h h' i i' hu
    exact rd_leaf h h' i i' fun ds e => by subst e; exact h.pos rfl
  | succ n ih =>
    intro A v v' d r r' h h' i i' hu
    cases d with
    | tup ds =>
      obtain ⟨a, rfl⟩ := h.as
      obtain ⟨b, rfl⟩ := h'.as
      apply is_rr i i'
      by_cases hab : a = b
      · subst hab; exact SeqAt.EqAt.same _
      · exact SeqAt.EqAt.of_refs hab (tups_same R ih h h' hu)
    | _ => exact rd_leaf h h' i i' fun ds e => nomatch e

theorem reads_ints : ∀ {rvs : List Value} {xs : List Int} (h : Heap), IntsAre rvs xs → ∃ as, ReadsAll h rvs (xs.map .int) as
  | _, _, h, .nil => ⟨_, ReadsAll.nil⟩
  | _, _, h, .cons x t r => let ⟨_, q⟩ := reads_ints h r; ⟨_, ReadsAll.cons (.int x t) q⟩
theorem reads_tupI {h : Heap} {a : Addr} {rvs : List Value} {xs : List Int} (t : h.IsTuple a (List.toArray rvs)) (i : IntsAre rvs xs) : ∃ as, Reads h (.ref a) (.tuple (xs.map .int)) as := by
  obtain ⟨o, ho, hc, n, hd⟩ := t
  obtain ⟨as, q⟩ := reads_ints h i
  exact ⟨_, reads_tuple_at ho hc hd (by simpa using q)⟩
theorem shaped_tupI (xs : List Int) : SeqAt.shaped (.tuple (xs.map PyData.int)) = true := by
  simp [SeqAt.shaped, PyData.canLay0, PyData.depth, ke_canLayAll0, ke_depthAll]

theorem eqv_of {a b : Addr} {r : Bool} {Hs : Held} {s : Shared} (R : Rel c Hs m μ s) (h : EqV μ a b r) {Q : Value → Shared → Prop} (q : Q (.bool r) s) : wpAny (MM w) c.A (compareOp .Eq (.ref a) (.ref b)) Q c.E s := by
  have hu := c.hu
  cases h with
  | same ha hb => exact tups_same R (rd_same R 7) ha hb (by unfold cLine; omega) _ _ _ _ q
  | lists ha hb =>
    obtain ⟨ra, l1, v1⟩ := R.isList ha
    obtain ⟨rb, l2, v2⟩ := R.isList hb
    exact ke_eq_ints l1 l2 (ints_are v1) (ints_are v2) (by unfold cLine; omega) q
  | tups ha hb =>
    rename_i xs ys
    obtain ⟨ra, l1, v1⟩ := R.tuple ha
    obtain ⟨rb, l2, v2⟩ := R.tuple hb
    obtain ⟨_, r1⟩ := reads_tupI l1 (ints_are v1)
    obtain ⟨_, r2⟩ := reads_tupI l2 (ints_are v2)
    refine eq_dataH r1 r2 (shaped_tupI _) (shaped_tupI _) (by unfold cLine; omega) ?_
    rw [PyData.eqv, ked_eqvAll]; exact q

end
section
variable {w : World} {c : Cx w} {m : Vars} {μ : Mu}

theorem tups_ne {Hs : Held} {s : Shared} (R : Rel c Hs m μ s) {n : Nat} {A : Around} {a b : Addr} {ds : List D} (ha : Rd μ (n + 1) (.ref a) (.tup ds)) (hb : Rd μ (n + 1) (.ref b) (.tup ds)) (hu : A.units + (n + 1) < cLine) : SeqAt.RcNeAt A s (.ref a) (.ref b) false := by
  cases ha with
  | tup h1 l1 r1 =>
    cases hb with
    | tup h2 l2 r2 =>
      obtain ⟨ra, t1, v1⟩ := R.tuple h1
      obtain ⟨rb, t2, v2⟩ := R.tuple h2
      have n1 := v1.length
      have n2 := v2.length
      have := SeqAt.RcNeAt.tuples (e := fun _ => true) t1 t2 (by omega : A.units < cLine) (fun j j1 j2 => by
        simp only [List.size_toArray] at j1 j2
        obtain ⟨u, e1, i1⟩ := v1.getI (List.getElem?_eq_getElem j1)
        obtain ⟨u', e2, i2⟩ := v2.getI (List.getElem?_eq_getElem j2)
        have jd : j < ds.length := by omega
        simp only [List.getElem_toArray]
        exact rd_same R n A.in1 u u' ds[j] _ _ (r1 j u _ e1 (List.getElem?_eq_getElem jd)) (r2 j u' _ e2 (List.getElem?_eq_getElem jd)) i1 i2 (by show A.units + 1 + n < cLine; omega))
      have e : (List.toArray ra).size = (List.toArray rb).size := by simp only [List.size_toArray]; omega
      rw [all_range_true, Bool.true_and, e, beq_self_eq_true] at this
      exact this

theorem nev_of {a b : Addr} {r : Bool} {Hs : Held} {s : Shared} (R : Rel c Hs m μ s) (h : EqV μ a b r) {Q : Value → Shared → Prop} (q : Q (.bool (!r)) s) : wpAny (MM w) c.A (compareOp .NotEq (.ref a) (.ref b)) Q c.E s := by
  have hu := c.hu
  cases h with
  | same ha hb => exact tups_ne R ha hb (by unfold cLine; omega) _ _ _ _ q
  | lists ha hb =>
    obtain ⟨ra, l1, v1⟩ := R.isList ha
    obtain ⟨rb, l2, v2⟩ := R.isList hb
    exact ke_ne_ints l1 l2 (ints_are v1) (ints_are v2) (by unfold cLine; omega) q
  | tups ha hb =>
    obtain ⟨ra, l1, v1⟩ := R.tuple ha
    obtain ⟨rb, l2, v2⟩ := R.tuple hb
    obtain ⟨_, r1⟩ := reads_tupI l1 (ints_are v1)
    obtain ⟨_, r2⟩ := reads_tupI l2 (ints_are v2)
    refine ne_dataH r1 r2 (shaped_tupI _) (shaped_tupI _) (by unfold cLine; omega) ?_
    rw [PyData.eqv, ked_eqvAll]; exact q

theorem cmp_of {op : CmpOp} {a b : V} {ra rb : Value} {Hs : Held} {s : Shared} {Q : Bool → Prop} {P : Value → Shared → Prop} (R : Rel c Hs m μ s) (ha : a.Is ra) (hb : b.Is rb) (h : CmpV op a b μ Q) (hP : ∀ t, Q t → P (.bool t) s) :
    wpAny (MM w) c.A (compareOp op ra rb) P c.E s := by
  cases h with
  | @eqi i j _ _ h =>
    apply is_ii ha hb; intro t u
    refine PyProof.Rows.eq_int (hP _ ?_); rwa [show (i == j) = decide (i = j) from rfl]
  | @nei i j _ _ h =>
    apply is_ii ha hb; intro t u
    refine PyProof.Rows.ne_int (hP _ ?_); rwa [show (i != j) = decide (i ≠ j) by rw [bne, show (i == j) = decide (i = j) from rfl]; by_cases h : i = j <;> simp [h]]
  | lt h =>
    apply is_ii ha hb; intro t u; exact PyProof.Rows.lt_int (hP _ h)
  | gt h =>
    apply is_ii ha hb; intro t u; exact PyProof.Rows.gt_int (hP _ h)
  | le h =>
    apply is_ii ha hb; intro t u; exact PyProof.Rows.le_int (hP _ h)
  | ge h =>
    apply is_ii ha hb; intro t u; exact PyProof.Rows.ge_int (hP _ h)
  | @eqb i j _ _ h =>
    apply is_bb ha hb
    refine PyProof.Rows.eq_bool (hP _ ?_); rwa [show (i == j) = decide (i = j) by cases i <;> cases j <;> rfl]
  | @neb i j _ _ h =>
    apply is_bb ha hb
    refine PyProof.Rows.ne_bool (hP _ ?_); rwa [show (i != j) = decide (i ≠ j) by cases i <;> cases j <;> rfl]
  | is0 h =>
    apply is_nn ha hb; exact (PySem.is_none (hP _ h))
  | is1 h =>
    apply is_rn ha hb; exact (PySem.is_none (hP _ h))
  | isn0 h =>
    apply is_nn ha hb; exact (PySem.isNot_none (hP _ h))
  | isn1 h =>
    apply is_rn ha hb; exact (PySem.isNot_none (hP _ h))
  | @inn i a _ _ h =>
    apply is_ir ha hb; intro t
    obtain ⟨xs, e, q⟩ := h
    obtain ⟨rv, l, v⟩ := R.isList e
    refine in_list_ints l (ints_are v) (hP _ ?_)
    rwa [show (xs.any (· == i)) = decide (i ∈ xs) by rw [Bool.eq_iff_iff]; simp]
  | @nin i a _ _ h =>
    apply is_ir ha hb; intro t
    obtain ⟨xs, e, q⟩ := h
    obtain ⟨rv, l, v⟩ := R.isList e
    refine notin_list_ints l (ints_are v) (hP _ ?_)
    rwa [show (!(xs.any (· == i))) = decide (i ∉ xs) by rw [show xs.any (· == i) = decide (i ∈ xs) by rw [Bool.eq_iff_iff]; simp]; simp]
  | eqr h =>
    apply is_rr ha hb
    obtain ⟨r, e, q⟩ := h
    exact eqv_of R e (hP _ q)
  | ner h =>
    apply is_rr ha hb
    obtain ⟨r, e, q⟩ := h
    exact nev_of R e (hP _ q)

theorem W_cmp {l r : Expr} {op : CmpOp} {p} {Q : V → Mu → Prop} (h : WE c l m μ (fun a μ1 => WE c r m μ1 (fun b μ2 => CmpV op a b μ2 (fun t => Q (.bool t) μ2)))) (hm : behindInMarks op r = false := by with_unfolding_all rfl) : WE c (.Compare l [op] [r] p) m μ Q := fun Hs s R =>
  wpAny_Compare1 (wpAny_mono (h Hs s R) (fun _ s1 hz0 => by obtain ⟨_, _, ha, R1, h1⟩ := hz0; exact wpAny_mono (h1 Hs s1 R1) (fun _ _ hz1 => by obtain ⟨_, _, hb, R2, h2⟩ := hz1; exact cmp_of R2 ha hb h2 fun t q => ⟨.bool t, _, rfl, R2, q⟩) fun _ _ z => z) fun _ _ z => z) hm
theorem B_cmp {l r : Expr} {op : CmpOp} {p} {Q : Bool → Mu → Prop} (h : WE c l m μ (fun a μ1 => WE c r m μ1 (fun b μ2 => CmpV op a b μ2 (fun t => Q t μ2)))) (hm : behindInMarks op r = false := by with_unfolding_all rfl) : WB c (.Compare l [op] [r] p) m μ Q := fun Hs s R =>
  wpAny_isTrue_Compare1 (wpAny_mono (h Hs s R) (fun _ s1 hz2 => by obtain ⟨_, _, ha, R1, h1⟩ := hz2; exact wpAny_mono (h1 Hs s1 R1) (fun _ _ hz3 => by obtain ⟨_, _, hb, R2, h2⟩ := hz3; exact cmp_of R2 ha hb h2 fun _ q => wpAny_truthy_bool ⟨_, _, rfl, R2, q⟩) fun _ _ z => z) fun _ _ z => z) hm
theorem B_not {x : Expr} {p} {Q : Bool → Mu → Prop} (h : WB c x m μ (fun t μ' => Q (!t) μ')) : WB c (.UnaryOp .Not x p) m μ Q := fun Hs s R =>
  isTrue_not (wpAny_mono (h Hs s R) (fun _ _ hz4 => by obtain ⟨t, μ', e, R', q⟩ := hz4; exact ⟨!t, μ', by rw [e], R', q⟩) fun _ _ z => z)
theorem B_val {e : Expr} {Q : Bool → Mu → Prop} (h : WE c e m μ (fun v μ' => TruV v μ' (fun t => Q t μ')))
    (he : ∀ whole, isTrue e c.env whole = (do let v ← whole; standAt e.pos; holding [v] (truthy v)) := by intro _; rfl) : WB c e m μ Q := fun Hs s R =>
  isTrue_plain (wpAny_mono (h Hs s R) (fun _ _ hz5 => by obtain ⟨_, μ', a, R', q⟩ := hz5; exact tru_of R' a q fun t _ z R2 => ⟨t, μ', rfl, R2, z⟩) fun _ _ z => z) (he _)
theorem B_and2 {x y : Expr} {p} {Q : Bool → Mu → Prop} (h : WB c x m μ (fun t μ' => if t then WB c y m μ' Q else Q false μ')) : WB c (.BoolOp .And [x, y] p) m μ Q := fun Hs s R => by
  refine isTrue_and (wpAny_mono (h Hs s R) (fun r s1 hz6 => ?_) fun _ _ z => z)
  obtain ⟨t, μ', e, R', q⟩ := hz6
  subst e
  cases r with
  | false => exact ⟨false, μ', rfl, R', by simpa using q⟩
  | true =>
    refine isTrue_and (wpAny_mono ((by simpa using q : WB c y m μ' Q) Hs s1 R') (fun r2 s2 hz7 => ?_) fun _ _ z => z)
    obtain ⟨t2, μ2, e2, R2, q2⟩ := hz7
    subst e2
    cases r2 with
    | false => exact ⟨false, μ2, rfl, R2, q2⟩
    | true => exact isTrue_and_nil ⟨true, μ2, rfl, R2, q2⟩
theorem B_or2 {x y : Expr} {p} {Q : Bool → Mu → Prop} (h : WB c x m μ (fun t μ' => if t then Q true μ' else WB c y m μ' Q)) : WB c (.BoolOp .Or [x, y] p) m μ Q := fun Hs s R => by
  refine isTrue_or (wpAny_mono (h Hs s R) (fun r s1 hz8 => ?_) fun _ _ z => z)
  obtain ⟨t, μ', e, R', q⟩ := hz8
  subst e
  cases r with
  | true => exact ⟨true, μ', rfl, R', by simpa using q⟩
  | false =>
    refine isTrue_or (wpAny_mono ((by simpa using q : WB c y m μ' Q) Hs s1 R') (fun r2 s2 hz9 => ?_) fun _ _ z => z)
    obtain ⟨t2, μ2, e2, R2, q2⟩ := hz9
    subst e2
    cases r2 with
    | true => exact ⟨true, μ2, rfl, R2, q2⟩
    | false => exact isTrue_or_nil ⟨false, μ2, rfl, R2, q2⟩
theorem B_and3 {x y z : Expr} {p} {Q : Bool → Mu → Prop} (h : WB c x m μ (fun t μ' => if t then WB c (.BoolOp .And [y, z] p) m μ' Q else Q false μ')) : WB c (.BoolOp .And [x, y, z] p) m μ Q := fun Hs s R => by
  refine isTrue_and (wpAny_mono (h Hs s R) (fun r s1 hz10 => ?_) fun _ _ z => z)
  obtain ⟨t, μ', e, R', q⟩ := hz10
  subst e
  cases r with
  | false => exact ⟨false, μ', rfl, R', by simpa using q⟩
  | true =>
    have q' : WB c (.BoolOp .And [y, z] p) m μ' Q := by simpa using q
    exact q' Hs s1 R'
theorem B_or3 {x y z : Expr} {p} {Q : Bool → Mu → Prop} (h : WB c x m μ (fun t μ' => if t then Q true μ' else WB c (.BoolOp .Or [y, z] p) m μ' Q)) : WB c (.BoolOp .Or [x, y, z] p) m μ Q := fun Hs s R => by
  refine isTrue_or (wpAny_mono (h Hs s R) (fun r s1 hz11 => ?_) fun _ _ z => z)
  obtain ⟨t, μ', e, R', q⟩ := hz11
  subst e
  cases r with
  | true => exact ⟨true, μ', rfl, R', by simpa using q⟩
  | false =>
    have q' : WB c (.BoolOp .Or [y, z] p) m μ' Q := by simpa using q
    exact q' Hs s1 R'
theorem W_not {x : Expr} {p} {Q : V → Mu → Prop} (h : WE c x m μ (fun v μ' => TruV v μ' (fun t => Q (.bool (!t)) μ'))) : WE c (.UnaryOp .Not x p) m μ Q := fun Hs s R =>
  wpAny_UnaryOp (wpAny_mono (h Hs s R) (fun _ _ hz12 => by obtain ⟨_, μ', a, R', q⟩ := hz12; exact PyProof.Rows.not_of (tru_of R' a q fun t _ z R2 => ⟨.bool (!t), μ', rfl, R2, z⟩)) fun _ _ z => z)
theorem W_neg {x : Expr} {p} {Q : V → Mu → Prop} (h : WE c x m μ (fun v μ' => ∃ i, v = .int i ∧ Q (.int (-i)) μ')) : WE c (.UnaryOp .USub x p) m μ Q := fun Hs s R =>
  wpAny_UnaryOp (wpAny_mono (h Hs s R) (fun _ _ ⟨_, μ', a, R', i, e, q⟩ => by
    subst e
    obtain ⟨t, rfl⟩ := a
    exact PyProof.Rows.neg_int ⟨.int (-i), μ', ⟨_, rfl⟩, R'.toks _, q⟩) fun _ _ z => z)
theorem W_or2 {x y : Expr} {p} {Q : V → Mu → Prop} (h : WE c x m μ (fun v μ' => TruV v μ' (fun t => if t then Q v μ' else WE c y m μ' Q))) : WE c (.BoolOp .Or [x, y] p) m μ Q := fun Hs s R => by
  rw [arm_eval_BoolOp]
  unfold boolOp
  refine wpAny_bind (wpAny_mono (h Hs s R) (fun rv s1 ⟨v, μ', a, R', q⟩ => wpAny_bind (wpAny_standAt (wpAny_bind (wpAny_holding (tru_of R' a q fun t s2 z R2 => ?_))))) fun _ _ z => z)
  cases t with
  | true => exact wpAny_pure ⟨v, μ', a, R2, by simpa using z⟩
  | false =>
    have z' : WE c y m μ' Q := by simpa using z
    exact z' Hs s2 R2
end
theorem allOf_pw (h : Heap) (L : Addr) : (allOf h L).Pairwise fun p q => p.1 ≠ q.1 := by
  unfold allOf
  refine List.Pairwise.filterMap _ ?_ (List.pairwise_lt_range (n := h.objs.size))
  intro a b lt p hp q hq
  split at hp
  · cases hp
  · split at hq
    · cases hq
    · obtain ⟨_, _, rfl⟩ := Option.map_eq_some_iff.mp hp
      obtain ⟨_, _, rfl⟩ := Option.map_eq_some_iff.mp hq
      exact Nat.ne_of_lt lt

theorem upd_in {a : Addr} {o o' : Obj} : ∀ {l : List (Addr × Obj)}, l.Pairwise (fun p q => p.1 ≠ q.1) → (a, o) ∈ l → ∃ l', Upd a o o' l l' ∧ (a, o') ∈ l' ∧ ∀ p ∈ l, p.1 ≠ a → p ∈ l'
  | p :: r, pw, h => by
    obtain ⟨h1, h2⟩ := List.pairwise_cons.mp pw
    rcases List.mem_cons.mp h with rfl | h
    · exact ⟨(a, o') :: r, .head fun q hq => (h1 q hq).symm, .head _, fun q hq n => by
        rcases List.mem_cons.mp hq with rfl | hq
        · exact absurd rfl n
        · exact .tail _ hq⟩
    · obtain ⟨l', u, m, k⟩ := upd_in (o' := o') h2 h
      exact ⟨p :: l', .tail (h1 _ h) u, .tail _ m, fun q hq n => by
        rcases List.mem_cons.mp hq with rfl | hq
        · exact .head _
        · exact .tail _ (k q hq n)⟩
  | [], _, h => nomatch h

section
variable {w : World} {c : Cx w} {m : Vars} {μ : Mu}

theorem Rel.updK {Hs : Held} {s : Shared} (R : Rel c Hs m μ s) {a : Addr} {o o' : O} {ro' : Obj} (e : μ a = some o) (hi : o'.Is ro') : ∃ mL, Fr E0 c.L s.heap mL ∧ ∀ h' tk news', Fr E0 c.L h' mL → News E0 c.L h' news' → (a, ro') ∈ news' → (∀ p ∈ allOf s.heap c.L, p.1 ≠ a → p ∈ news') →
    Rel c Hs m (μ.set a o') { s with heap := h', toks := tk } := by
  obtain ⟨a1, a2, a3, a4, rold, a5, a6⟩ := R.mu a o e
  have cellNe : ∀ x ca, c.env.cells.lookup x = some ca → ca ≠ a := fun x ca q z => by
    obtain ⟨_, _, _, _, _, h6⟩ := R.cells x ca q
    rw [z, e] at h6; cases h6
  have go : ∀ (mL : Str → Option Value), s.heap.Ns c.L mL → c.PL mL → (∀ h' : Heap, h'.Ns c.L mL → (∀ b o, b ≠ c.L → b ≠ a → s.heap.get? b = some o → h'.get? b = some o) → ∃ mC, h'.Ns c.env.locals mC ∧ ∀ x v, m x = some v → c.env.kindOf x = some .local → ∃ rv, mC x = some rv ∧ v.Is rv) →
      ∀ (h' : Heap) (tk : Nat) (news' : List (Addr × Obj)), Fr E0 c.L h' mL → News E0 c.L h' news' → (a, ro') ∈ news' → (∀ p ∈ allOf s.heap c.L, p.1 ≠ a → p ∈ news') → Rel c Hs m (μ.set a o') { s with heap := h', toks := tk } := by
    intro mL n hp hC h' tk news' F N ha hall
    have k : ∀ b o, b ≠ c.L → b ≠ a → s.heap.get? b = some o → h'.get? b = some o := fun b o hb hba e => (N (b, o) (hall _ (allOf_mem.mpr ⟨hb, e⟩) hba)).1
    have ha' := (N _ ha).1
    have fresh : ∀ b o, c.h₀.get? b = some o → b ≠ c.L := fun b o e z => by rw [z, R.Lnew] at e; cases e
    refine ⟨R.gens, R.os, fun b o q => k b o (fresh b o q) (fun z => by rw [z, a1] at q; cases q) (R.base b o q), frames_to _ R.frames fun b o fb q => ⟨o, k b o (fun z => ?_) (fun z => by have := R.fin b fb; rw [z, a4] at this; cases this) q, rfl⟩, R.Lnew, ⟨mL, F.ns, hp⟩, R.Cnew, hC h' F.ns k,
      (fun x v e q => let ⟨ca, rv, h1, ⟨o, h2, h2'⟩, h3⟩ := R.cellv x v e q; ⟨ca, rv, h1, ⟨o, k _ _ (R.cells x ca h1).2.2.1 (cellNe x ca h1) h2, h2'⟩, h3⟩),
      (fun x ca q => let ⟨⟨v, ⟨o, h2, h2'⟩⟩, r1, r2, r3, r4, r5⟩ := R.cells x ca q; ⟨⟨v, ⟨o, k _ _ r2 (cellNe x ca q) h2, h2'⟩⟩, r1, r2, r3, r4, by rw [Mu.set_ne _ _ (cellNe x ca q)]; exact r5⟩), R.apart, R.fin, R.h0,
      (fun b o q => let ⟨h1, h2, sl, h3, h4⟩ := R.held b o q; ⟨h1, h2, sl, k _ _ h1 (fun z => by rw [z, a4] at q; cases q) h3, h4⟩), fun b ob q => ?_⟩
    · obtain ⟨o', ho'⟩ := Option.isSome_iff_exists.mp (R.fin b fb)
      exact (R.held b o' ho').1 z
    · by_cases hb : b = a
      · subst hb
        rw [Mu.set_self] at q
        cases q
        exact ⟨a1, a2, a3, a4, ro', ha', hi⟩
      · rw [Mu.set_ne _ _ hb] at q
        obtain ⟨h1, h2, h3, h4, rb, h5, h6⟩ := R.mu b ob q
        exact ⟨h1, h2, h3, h4, rb, k _ _ h2 hb h5, h6⟩
  by_cases hl : c.env.locals = c.L
  · obtain ⟨mC, n, r⟩ := R.nsC
    rw [hl] at n
    exact ⟨mC, ⟨n, (fun b o e => by rw [E0_get] at e; cases e), Nat.zero_le _⟩, go mC n (c.hPL hl _) fun h' n' _ => ⟨mC, by rw [hl]; exact n', r⟩⟩
  · obtain ⟨mL, n, hp⟩ := R.nsL
    refine ⟨mL, ⟨n, (fun b o e => by rw [E0_get] at e; cases e), Nat.zero_le _⟩, go mL n hp fun h' _ k => ?_⟩
    obtain ⟨mC, ⟨o, es, ep, ho, q⟩, r⟩ := R.nsC
    exact ⟨mC, ⟨o, es, ep, k _ _ hl (fun z => a3 z.symm) ho, q⟩, r⟩

theorem Rel.KX {Hs : Held} {s : Shared} (R : Rel c Hs m μ s) : (KK w).In s.heap := fun a o e => R.base a o (c.X a o e)

noncomputable def attrOk (K : Frag) (C : Addr) (name : Str) : Bool := plainGet K C name && hasDictIn K C && (match findIn K (.ref C) name with | some attr => noGet K attr | none => false)
noncomputable def storeOk (K : Frag) (C : Addr) (name : Str) : Bool := findIn K (.ref C) "__setattr__" == some (some (.builtin "object.__setattr__")) && plainOver K C && takerIn K C name == some none && hasDictIn K C

theorem FsIs.get {x : Str} : ∀ {fs : List (Str × V)} {es : List DictEntry}, FsIs fs es → (∀ u, fs.lookup x = some u → ∃ rv, getL x es = some (some rv) ∧ u.Is rv) ∧ (fs.lookup x = none → getL x es = some none)
  | [], [], _ => ⟨fun _ e => by simp at e, fun _ => rfl⟩
  | (y, v) :: fs, e :: es, ⟨⟨t, hk⟩, hv, hr⟩ => by
    have ih := FsIs.get (x := x) hr
    have key : e.key.isStr x = (x == y) := by rw [hk]; simp only [Value.isStr]; exact Bool.eq_iff_iff.mpr ⟨fun q => by rw [beq_iff_eq] at q ⊢; exact q.symm, fun q => by rw [beq_iff_eq] at q ⊢; exact q.symm⟩
    have rk : e.refKey = false := by unfold DictEntry.refKey; rw [hk]
    unfold getL
    rw [List.lookup_cons, List.find?_cons, List.any_cons, key, rk]
    cases q : x == y with
    | true => exact ⟨fun u e' => by cases e'; exact ⟨_, rfl, hv⟩, fun e' => by cases e'⟩
    | false => exact ih
  | _ :: _, [], h => h.elim
  | [], _ :: _, h => h.elim

theorem Rel.inst {Hs : Held} {s : Shared} (R : Rel c Hs m μ s) {a C d : Addr} {fs : List (Str × V)} (e1 : μ a = some (.inst C d)) (e2 : μ d = some (.dict fs)) : ∃ es n, InstAt s.heap a (instObj C d) C (some (PySem.W.dictOf es n)) ∧ FsIs fs es := by
  obtain ⟨_, _, _, _, r1, h1, rfl⟩ := R.mu a _ e1
  obtain ⟨_, _, _, _, r2, h2, es, n, rfl, h3⟩ := R.mu d _ e2
  exact ⟨es, n, ⟨h1, rfl, rfl, h2⟩, h3⟩

theorem attr_of {a C d : Addr} {fs : List (Str × V)} {name : Str} {u : V} {Hs : Held} {s : Shared} {ex : Bool} {Q : Value → Shared → Prop} (R : Rel c Hs m μ s) (e1 : μ a = some (.inst C d)) (e2 : μ d = some (.dict fs)) (ok : attrOk (KK w) C name = true)
    (hl : fs.lookup name = some u) (h : ∀ rv, u.Is rv → Q rv { s with toks := s.toks + 1 }) : wpAny (MM w) c.A (getAttr (.ref a) name ex) Q c.E s := by
  obtain ⟨es, n, I, F⟩ := R.inst e1 e2
  obtain ⟨rv, g, hu⟩ := F.get.1 u hl
  unfold attrOk at ok
  rw [Bool.and_eq_true, Bool.and_eq_true] at ok
  obtain ⟨⟨h1, h2⟩, h3⟩ := ok
  split at h3
  · rename_i attr ha
    have hh : handedIn rv = true := by
      cases u with
      | none => cases hu; rfl
      | bool b => cases hu; rfl
      | int i => obtain ⟨t, rfl⟩ := hu; rfl
      | bytes b => obtain ⟨t, rfl⟩ := hu; rfl
      | ref b => cases hu; rfl
    exact get_value R.KX I (plainGet_of h1).1 (findObj_own h2 ha h3 g) hh (h rv hu)
  · cases h3

theorem W_attr {e : Expr} {name : Str} {p} {Q : V → Mu → Prop}
    (h : WE c e m μ (fun v μ' => ∃ a C d fs u, v = .ref a ∧ μ' a = some (.inst C d) ∧ μ' d = some (.dict fs) ∧ attrOk (KK w) C name = true ∧ fs.lookup name = some u ∧ Q u μ'))
    (he : eval (.Attribute e name p) c.env = (do
      let o ← eval e c.env
      standAt p.atName
      let r ← holding [o] (getAttr o name true)
      letTemporaryGo e o r
      pure r) := by with_unfolding_all rfl) : WE c (.Attribute e name p) m μ Q := fun Hs s R =>
  Attribute_any_ (wpAny_mono (h Hs s R) (fun _ _ hx0 => by
    obtain ⟨_, μ', hv, R', a, C, d, fs, u, ev, e1, e2, ok, hl, q⟩ := hx0
    subst ev
    cases hv
    exact attr_of R' e1 e2 ok hl fun rv hu => ⟨u, μ', hu, R'.toks _, q⟩) fun _ _ z => z) he

noncomputable def putF (fs : List (Str × V)) (name : Str) (v : V) : List (Str × V) := match fs with
  | [] => [(name, v)]
  | (y, u) :: r => if name == y then (y, v) :: r else (y, u) :: putF r name v

theorem FsIs.put {x : Str} {v : V} {rv : Value} {hsh : Int} {t : Tok} (hv : v.Is rv) : ∀ {fs : List (Str × V)} {es : List DictEntry}, FsIs fs es → FsIs (putF fs x v) (putL x hsh (.str x t) rv es)
  | [], [], _ => ⟨⟨t, rfl⟩, hv, trivial⟩
  | (y, u) :: fs, e :: es, ⟨⟨t', hk⟩, hu, hr⟩ => by
    have key : e.key.isStr x = (x == y) := by rw [hk]; simp only [Value.isStr]; exact Bool.eq_iff_iff.mpr ⟨fun q => by rw [beq_iff_eq] at q ⊢; exact q.symm, fun q => by rw [beq_iff_eq] at q ⊢; exact q.symm⟩
    unfold putF putL
    rw [key]
    cases q : x == y with
    | true => exact ⟨⟨t', hk⟩, hv, hr⟩
    | false => exact ⟨⟨t', hk⟩, hu, FsIs.put hv hr⟩
  | _ :: _, [], h => h.elim
  | [], _ :: _, h => h.elim
theorem FsIs.length : ∀ {fs : List (Str × V)} {es : List DictEntry}, FsIs fs es → fs.length = es.length
  | [], [], _ => rfl
  | _ :: _, _ :: _, h => congrArg (· + 1) h.2.2.length
  | _ :: _, [], h => h.elim
  | [], _ :: _, h => h.elim
theorem putF_length (fs : List (Str × V)) (x : Str) (v : V) : (putF fs x v).length ≤ fs.length + 1 := by
  induction fs with
  | nil => simp [putF]
  | cons p r ih =>
    obtain ⟨y, u⟩ := p
    unfold putF
    split <;> simp only [List.length_cons] <;> omega

theorem set_of {a C d : Addr} {fs : List (Str × V)} {name : Str} {v : V} {rv : Value} {Hs : Held} {s : Shared} {Q : Unit → Shared → Prop} (R : Rel c Hs m μ s) (e1 : μ a = some (.inst C d)) (e2 : μ d = some (.dict fs)) (ok : storeOk (KK w) C name = true)
    (hz : fs.length ≤ 900) (hv : v.Is rv) (h : ∀ s', Rel c Hs m (μ.set d (.dict (putF fs name v))) s' → Q () s') : wpAny (MM w) c.A (setAttr (.ref a) name rv) Q c.E s := by
  obtain ⟨es, n, I, F⟩ := R.inst e1 e2
  unfold storeOk at ok
  simp only [Bool.and_eq_true, beq_iff_eq] at ok
  obtain ⟨⟨⟨h1, h2⟩, h3⟩, h4⟩ := ok
  have hg : (getL name es).isSome = true := by
    cases q : fs.lookup name with
    | none => rw [F.get.2 q]; rfl
    | some u => obtain ⟨rv, g, _⟩ := F.get.1 u q; rw [g]; rfl
  obtain ⟨_, dL, _, _, ro2, hd2, _⟩ := R.mu d _ e2
  have hI := I.dict
  have hdic : s.heap.get? d = some (PySem.W.dictOf es n) := hI
  have mem : (d, PySem.W.dictOf es n) ∈ allOf s.heap c.L := allOf_mem.mpr ⟨dL, hdic⟩
  obtain ⟨news', U, m1, m2⟩ := upd_in (o' := PySem.W.dictOf (putL name (PyData.keyHash w.params name) (.str name (s.toks + 1)) rv es) (putN name es n)) (allOf_pw s.heap c.L) mem
  have F2 : FsIs (putF fs name v) (putL name (PyData.keyHash w.params name) (.str name (s.toks + 1)) rv es) := F.put hv
  obtain ⟨mL, Fr0, back⟩ := R.updK (o' := .dict (putF fs name v)) e2 ⟨_, _, rfl, F2⟩
  have KX0 : (KK w).In s.heap := R.KX
  obtain ⟨pre, post, q1, q2, q3, q4⟩ := U.split
  refine set_plain KX0 I h1 (osa_dict (s := { s with toks := s.toks + 1 }) Fr0 (q1 ▸ allOf_news s.heap c.L) KX0 I rfl h2 h3 h4 hg q3 q4 (putName_dict ..) rfl (by rw [← F2.length]; have := putF_length fs name v; omega) fun h' F' N' => ?_)
  exact h _ (back h' _ news' F' (q2 ▸ N') m1 m2)
end
section
variable {w : World} {c : Cx w} {m : Vars} {μ : Mu}

noncomputable def WL (c : Cx w) (es : List Expr) (m : Vars) (μ : Mu) (Q : List V → Mu → Prop) : Prop := WT c VsIs (spliced (es.map fun e => (false, eval e c.env))) m μ Q

theorem L_nil {Q : List V → Mu → Prop} (h : Q [] μ) : WL c [] m μ Q := fun _ _ R => spliced_nil ⟨[], μ, trivial, R, h⟩
theorem L_cons {e : Expr} {es : List Expr} {Q : List V → Mu → Prop} (h : WE c e m μ (fun v μ1 => WL c es m μ1 (fun vs μ2 => Q (v :: vs) μ2))) : WL c (e :: es) m μ Q := fun Hs s R =>
  spliced_cons (wpAny_mono (h Hs s R) (fun _ s1 hx0 => by obtain ⟨v, _, hv, R1, h1⟩ := hx0; exact wpAny_mono (h1 Hs s1 R1) (fun _ _ hx1 => by obtain ⟨vs, μ2, hvs, R2, q⟩ := hx1; exact ⟨v :: vs, μ2, ⟨hv, hvs⟩, R2, q⟩) fun _ _ z => z) fun _ _ z => z)

theorem W_list {es : List Expr} {p} {Q : V → Mu → Prop} (h : WL c es m μ (fun vs μ1 => vs.length ≤ 1000000 ∧ ∀ a, μ1 a = none → Q (.ref a) (μ1.set a (.list vs))))
    (he : backTo p (starEach es c.env) = es.map (fun e => (false, eval e c.env)) := by rfl) : WE c (.List es p) m μ Q := fun Hs s R =>
  List_ (he ▸ wpAny_mono (h Hs s R) (fun rvs s1 hx2 => by
    obtain ⟨vs, μ1, hv, R1, hl, q⟩ := hx2
    have fr : s1.heap.get? s1.heap.objs.size = none := get_of_lt (Nat.le_refl _)
    refine wpAny_newObj_type ⟨.ref s1.heap.objs.size, _, rfl, R1.new (o := .list vs) (s' := { s1 with heap := s1.heap.push { cls := .type "list", data := .seq (List.toArray rvs) } }) fr (fun b o e => Heap.get?_push_of_some _ e) (Heap.get?_push_size _ rfl) ⟨rvs, 0, rfl, hv⟩ rfl rfl, q _ (R1.fresh fr)⟩ ?_
    show (List.toArray rvs).size ≤ sizeLine
    rw [List.size_toArray, ← hv.length]; unfold sizeLine; omega) fun _ _ z => z)
theorem W_tuple {es : List Expr} {k p} {Q : V → Mu → Prop} (h : WL c es m μ (fun vs μ1 => vs.length ≤ 1000000 ∧ ∀ a, μ1 a = none → Q (.ref a) (μ1.set a (.tup vs))))
    (he : backTo p (starEach es c.env) = es.map (fun e => (false, eval e c.env)) := by rfl) : WE c (.Tuple es k p) m μ Q := fun Hs s R =>
  Tuple_ (he ▸ wpAny_mono (h Hs s R) (fun rvs s1 hx3 => by
    obtain ⟨vs, μ1, hv, R1, hl, q⟩ := hx3
    have fr : s1.heap.get? s1.heap.objs.size = none := get_of_lt (Nat.le_refl _)
    refine wpAny_newObj_type ⟨.ref s1.heap.objs.size, _, rfl, R1.new (o := .tup vs) (s' := { s1 with heap := s1.heap.push { cls := .type "tuple", data := .seq (List.toArray rvs) } }) fr (fun b o e => Heap.get?_push_of_some _ e) (Heap.get?_push_size _ rfl) ⟨rvs, 0, rfl, hv⟩ rfl rfl, q _ (R1.fresh fr)⟩ ?_
    show (List.toArray rvs).size ≤ sizeLine
    rw [List.size_toArray, ← hv.length]; unfold sizeLine; omega) fun _ _ z => z)

theorem seqIdx_of {k : Int} {n : Nat} (h0 : 0 ≤ k) (h : k.toNat < n) : seqIndex? k n = some k.toNat := by
  unfold seqIndex?
  have h1 : ¬ k < 0 := by omega
  have h2 : k < n := by omega
  simp [h1, h0, h2]
noncomputable def ItemV (o i : V) (μ : Mu) (Q : V → Prop) : Prop := match o, i with
  | .ref a, .int k => ∃ u, (∃ vs, (μ a = some (.list vs) ∨ μ a = some (.tup vs)) ∧ 0 ≤ k ∧ k < 2 ^ 62 ∧ vs[k.toNat]? = some u) ∧ Q u
  | _, _ => False

theorem W_item {o i : Expr} {p} {Q : V → Mu → Prop} (h : WE c o m μ (fun a μ1 => WE c i m μ1 (fun b μ2 => ItemV a b μ2 (fun u => Q u μ2))))
    (hs : ∀ a k u, subscripted i false (.ref a) (.int k u) = operate [.ref a, .int k u] (getItem (.ref a) (.int k u)) := by intros; with_unfolding_all rfl) : WE c (.Subscript o i p) m μ Q := fun Hs s R =>
  Subscript_ (wpAny_mono (h Hs s R) (fun _ s1 ⟨a, _, ha, R1, h1⟩ => wpAny_mono (h1 Hs s1 R1) (fun _ s2 hx4 => by
    obtain ⟨b, μ2, hb, R2, h2⟩ := hx4
    replace h2 : ItemV a b μ2 (fun u => Q u μ2) := h2
    unfold ItemV at h2
    split at h2
    · cases ha
      obtain ⟨t, rfl⟩ := hb
      obtain ⟨u, ⟨vs, hv, h0, h62, hx⟩, q⟩ := h2
      rcases hv with e | e
      · obtain ⟨rvs, l, v⟩ := R2.isList e
        obtain ⟨r, hr, hu⟩ := v.get hx
        exact tail_any l.typeIs slot_list_getitem.lookup (wpAny_getItem_list l h0 (by omega) (by simpa using hr) ⟨u, μ2, hu, R2, q⟩) (hs _ _ _)
      · obtain ⟨rvs, l, v⟩ := R2.tup e
        obtain ⟨r, hr, hu⟩ := v.get hx
        have len : _ < _ := (List.getElem?_eq_some_iff.mp hr).1
        refine item_tupleT l (by omega) (by omega) ?_ hr ⟨u, μ2, hu, R2, q⟩ (hs _ _ _)
        exact seqIdx_of h0 len
    · exact h2.elim) fun _ _ z => z) fun _ _ z => z)

theorem W_last {o i : Expr} {p} {Q : V → Mu → Prop} (h : WE c o m μ (fun a μ1 => WE c i m μ1 (fun b μ2 => ∃ l vs u, a = .ref l ∧ b = .int (-1) ∧ μ2 l = some (.list vs) ∧ vs.getLast? = some u ∧ Q u μ2)))
    (hs : ∀ a k u, subscripted i false (.ref a) (.int k u) = operate [.ref a, .int k u] (getItem (.ref a) (.int k u)) := by intros; with_unfolding_all rfl) : WE c (.Subscript o i p) m μ Q := fun Hs s R =>
  Subscript_ (wpAny_mono (h Hs s R) (fun _ s1 ⟨a, _, ha, R1, h1⟩ => wpAny_mono (h1 Hs s1 R1) (fun _ s2 hx5 => by
    obtain ⟨b, μ2, hb, R2, l, vs, u, ea, eb, e, hx, q⟩ := hx5
    subst ea eb
    cases ha
    obtain ⟨t, rfl⟩ := hb
    obtain ⟨rvs, il, v⟩ := R2.isList e
    have len := v.length
    rw [List.getLast?_eq_getElem?] at hx
    obtain ⟨r, hr, hu⟩ := v.get hx
    have lt := (List.getElem?_eq_some_iff.mp hx).1
    refine tail_any il.typeIs slot_list_getitem.lookup (wpAny_getItem_list_neg (x := r) il (by omega) (by simp only [List.size_toArray]; omega) (by omega) ?_ ⟨u, μ2, hu, R2, q⟩) (hs _ _ _)
    rw [List.size_toArray, List.getElem?_toArray, show ((-1 : Int) + (rvs.length : Int)).toNat = vs.length - 1 by omega]
    exact hr) fun _ _ z => z) fun _ _ z => z)


theorem VsIs.take : ∀ {vs : List V} {rs : List Value} (k : Nat), VsIs vs rs → VsIs (vs.take k) (rs.take k)
  | _, _, 0, _ => by simp [VsIs]
  | [], [], _ + 1, _ => trivial
  | _ :: _, _ :: _, k + 1, h => ⟨h.1, h.2.take k⟩
  | _ :: _, [], _, h => h.elim
  | [], _ :: _, _, h => h.elim
theorem VsIs.drop : ∀ {vs : List V} {rs : List Value} (k : Nat), VsIs vs rs → VsIs (vs.drop k) (rs.drop k)
  | _, _, 0, h => h
  | [], [], _ + 1, _ => trivial
  | _ :: _, _ :: _, k + 1, h => h.2.drop k
  | _ :: _, [], _, h => h.elim
  | [], _ :: _, _, h => h.elim

theorem Rel.new2 {Hs : Held} {s : Shared} (R : Rel c Hs m μ s) {o : O} {ro x : Obj} (hi : o.Is ro) (hx : x.isFreed = false) : Rel c Hs m (μ.set (s.heap.objs.size + 1) o) { s with heap := (s.heap.push x).push ro } ∧ μ (s.heap.objs.size + 1) = none := by
  have k : ∀ b o, s.heap.get? b = some o → ((s.heap.push x).push ro).get? b = some o := fun b o e => Heap.get?_push_of_some _ (Heap.get?_push_of_some _ e)
  have fr : s.heap.get? (s.heap.objs.size + 1) = none := get_of_lt (Nat.le_succ _)
  have a : ((s.heap.push x).push ro).get? (s.heap.objs.size + 1) = some ro := by
    have := Heap.get?_push_size (s.heap.push x) hi.notFreed
    rwa [Heap.size_push] at this
  exact ⟨R.new (s' := { s with heap := (s.heap.push x).push ro }) fr k a hi rfl rfl, R.fresh fr⟩

theorem W_upto {o : Expr} {k : Int} {j p1 p2 p} {Q : V → Mu → Prop}
    (h : WE c o m μ (fun a μ1 => ∃ l vs, a = .ref l ∧ μ1 l = some (.list vs) ∧ (0 ≤ k ∧ vs.length ≤ 1000000) ∧ ∀ r, μ1 r = none → Q (.ref r) (μ1.set r (.list (vs.take k.toNat)))))
    (ht : ∀ a r, letTemporaryGo o a r = pure () := by intro _ _; rfl) :
    WE c (.Subscript o (.Slice none (some (.Constant (.int k) j p1)) none p2) p) m μ Q := fun Hs s R =>
  wpAny_Subscript_list_slice (wpAny_mono (h Hs s R) (fun ra s1 hx6 => by
    obtain ⟨a, μ1, ha, R1, l, vs, ea, e, ⟨hk, hl⟩, q⟩ := hx6
    subst ea
    cases ha
    obtain ⟨rvs, il, v⟩ := R1.isList e
    have len := v.length
    refine wpAny_pure ?_
    refine wpAny_Constant_int (k := j) (pos := p1) ?_
    have R2 := R1.toks (s1.toks + 1)
    obtain ⟨N, fr⟩ := R2.new2 (o := .list (vs.take k.toNat)) (ro := { cls := .type "list", data := .seq (slicePick (List.toArray rvs) none (some k) none) }) (x := { cls := .type "slice", data := .fields #[.none, .int k s1.toks, .none] }) ⟨rvs.take k.toNat, 0, by
      have := slicePick_upto' (List.toArray rvs) k.toNat
      rw [Int.toNat_of_nonneg hk] at this
      rw [this], v.take _⟩ rfl
    exact ⟨l, _, none, some k, rfl, il, by rw [List.size_toArray]; unfold sizeLine; omega, .none, .int k _, .ref (s1.heap.objs.size + 1), _, rfl, N, q _ fr⟩) fun _ _ z => z) ht

theorem W_run {o : Expr} {i k : Int} {j j' p0 p1 p2 p} {Q : V → Mu → Prop}
    (h : WE c o m μ (fun a μ1 => ∃ l vs, a = .ref l ∧ μ1 l = some (.list vs) ∧ (0 ≤ i ∧ i ≤ k ∧ k ≤ vs.length ∧ vs.length ≤ 1000000) ∧ ∀ r, μ1 r = none → Q (.ref r) (μ1.set r (.list ((vs.drop i.toNat).take (k.toNat - i.toNat))))))
    (ht : ∀ a r, letTemporaryGo o a r = pure () := by intro _ _; rfl) :
    WE c (.Subscript o (.Slice (some (.Constant (.int i) j' p0)) (some (.Constant (.int k) j p1)) none p2) p) m μ Q := fun Hs s R =>
  wpAny_Subscript_list_slice (wpAny_mono (h Hs s R) (fun ra s1 hx7 => by
    obtain ⟨a, μ1, ha, R1, l, vs, ea, e, ⟨h0, hik, hk, hl⟩, q⟩ := hx7
    subst ea
    cases ha
    obtain ⟨rvs, il, v⟩ := R1.isList e
    have len := v.length
    refine wpAny_Constant_int (k := j') (pos := p0) ?_
    refine wpAny_Constant_int (k := j) (pos := p1) ?_
    have R2 := (R1.toks (s1.toks + 1)).toks (s1.toks + 1 + 1)
    obtain ⟨N, fr⟩ := R2.new2 (o := .list ((vs.drop i.toNat).take (k.toNat - i.toNat))) (ro := { cls := .type "list", data := .seq (slicePick (List.toArray rvs) (some i) (some k) none) }) (x := { cls := .type "slice", data := .fields #[.int i s1.toks, .int k (s1.toks + 1), .none] }) ⟨(rvs.drop i.toNat).take (k.toNat - i.toNat), 0, by
      have := slicePick_run (List.toArray rvs) i.toNat k.toNat (by rw [List.size_toArray]; omega) (by omega)
      rw [Int.toNat_of_nonneg h0, Int.toNat_of_nonneg (by omega : 0 ≤ k)] at this
      rw [this], (v.drop _).take _⟩ rfl
    exact ⟨l, _, some i, some k, rfl, il, by rw [List.size_toArray]; unfold sizeLine; omega, .int i _, .int k _, .ref (s1.heap.objs.size + 1), _, rfl, N, q _ fr⟩) fun _ _ z => z) ht
end
theorem ns_len (w : World) : nsIn (KK w) mainGlobals "len" = some none := by kernel_rfl
theorem ns_sorted (w : World) : nsIn (KK w) mainGlobals "sorted" = some none := by kernel_rfl
theorem ns_tuple (w : World) : nsIn (KK w) mainGlobals "tuple" = some none := by kernel_rfl
theorem ns_list (w : World) : nsIn (KK w) mainGlobals "list" = some none := by kernel_rfl
theorem ns_bytes (w : World) : nsIn (KK w) mainGlobals "bytes" = some none := by kernel_rfl
theorem ns_max (w : World) : nsIn (KK w) mainGlobals "max" = some none := by kernel_rfl
theorem ns_min (w : World) : nsIn (KK w) mainGlobals "min" = some none := by kernel_rfl
theorem ns_range (w : World) : nsIn (KK w) mainGlobals "range" = some none := by kernel_rfl

section
variable {w : World} {c : Cx w} {m : Vars} {μ : Mu}

noncomputable abbrev PostV (c : Cx w) (Hs : Held) (m : Vars) (Q : V → Mu → Prop) : Value → Shared → Prop := PW c Hs m V.Is Q

theorem evalArgs_of {es : List Expr} {f : Value} {Q : Args → Shared → Prop} {s : Shared} {P : List V → Mu → Prop} {Hs : Held} (h : WL c es m μ P) (R : Rel c Hs m μ s)
    (q : ∀ rvs vs μ1 s1, VsIs vs rvs → Rel c Hs m μ1 s1 → P vs μ1 → Q ⟨rvs, []⟩ s1) : wpAny (MM w) c.A (evalArgs f true (es.map fun e => (false, eval e c.env)) []) Q c.E s := by
  cases es with
  | nil =>
    unfold evalArgs
    show wpAny _ _ (spliced [] >>= _) _ _ _
    refine wpAny_bind (wpAny_mono (h Hs s R) (fun rvs s1 hz0 => ?_) fun _ _ z => z)
    obtain ⟨vs, μ1, a, b, z⟩ := hz0
    refine wpAny_bind (wpAny_pure (wpAny_holding ?_))
    exact wpAny_bind (wpAny_pure (wpAny_bind (wpAny_pure (wpAny_pure (q rvs vs μ1 s1 a b z)))))
  | cons e es =>
    exact evalArgs_plain (wpAny_mono (h Hs s R) (fun rvs s1 hx0 => by obtain ⟨vs, μ1, a, b, z⟩ := hx0; exact q rvs vs μ1 s1 a b z) fun _ _ z => z)
theorem plain_of (es : List Expr) : ((es.map fun e => (false, eval e c.env)).any (·.1) || ([] : List (Option Str × Sem Value)).any (·.1.isNone)) = false := by
  induction es with
  | nil => rfl
  | cons e es ih => simpa using ih

theorem plain_one (es : List Expr) : (es.map fun e => (false, eval e c.env)).any (·.1) = false := by
  induction es with
  | nil => rfl
  | cons e es ih => simpa using ih

theorem top_call {S : Scope} {x : Str} {f : Addr} {es : List Expr} {p p'} {P : List V → Mu → Prop} {Q : V → Mu → Prop} (hS : c.env.scope = S) (e : nsIn (KK w) mainGlobals x = some (some (.ref f))) (hk : S.names.lookup x = some .globalImplicit)
    (hkeep : keepIn (KK w) (.ref f) = true) (h : WL c es m μ P)
    (q : ∀ rvs vs μ1 Hs s1, VsIs vs rvs → Rel c Hs m μ1 s1 → P vs μ1 → wpAny (MM w) c.A (call (.ref f) rvs) (PostV c Hs m Q) c.E s1)
    (he : backTo p' (starEach es c.env) = es.map (fun e => (false, eval e c.env)) := by rfl) (hd : (x == ("__debug__" : Str)) = false := by decide) : WE c (.Call (.Name x p) es [] p') m μ Q := fun Hs s R => by
  refine wpAny_Call_Name_kw (N_top R hS e hk ?_ hd)
  rw [he]
  exact callWith_of (P := (KK w).In) (plain_of es) (keeps_K hkeep) (evalArgs_of h R fun rvs vs μ1 s1 a b z => ⟨b.KX, q rvs vs μ1 Hs s1 a b z⟩)

theorem boot_call {S : Scope} {x : Str} {id : String} {es : List Expr} {p p'} {P : List V → Mu → Prop} {Q : V → Mu → Prop} (hS : c.env.scope = S) (e : nsIn (KK w) mainGlobals x = some none) (hv : bootBuiltins x = some (.builtin id)) (hk : S.names.lookup x = some .globalImplicit)
    (h : WL c es m μ P)
    (q : ∀ rvs vs μ1 Hs s1, VsIs vs rvs → Rel c Hs m μ1 s1 → P vs μ1 → wpAny (MM w) c.A (call (.builtin id) rvs) (PostV c Hs m Q) c.E s1)
    (he : backTo p' (starEach es c.env) = es.map (fun e => (false, eval e c.env)) := by rfl) (hn : x ≠ "__name__" := by decide) (hd : (x == ("__debug__" : Str)) = false := by decide) : WE c (.Call (.Name x p) es [] p') m μ Q := fun Hs s R => by
  refine wpAny_Call_Name_kw (N_boot R hS e hv hk ?_ hn hd)
  rw [he]
  exact callWith_builtin (plain_one es) (evalArgs_of h R fun rvs vs μ1 s1 a b z => q rvs vs μ1 Hs s1 a b z)
theorem type_call {S : Scope} {x : Str} {id : String} {es : List Expr} {p p'} {P : List V → Mu → Prop} {Q : V → Mu → Prop} (hS : c.env.scope = S) (e : nsIn (KK w) mainGlobals x = some none) (hv : bootBuiltins x = some (.type id)) (hk : S.names.lookup x = some .globalImplicit)
    (h : WL c es m μ P)
    (q : ∀ rvs vs μ1 Hs s1, VsIs vs rvs → Rel c Hs m μ1 s1 → P vs μ1 → wpAny (MM w) c.A (call (.type id) rvs) (PostV c Hs m Q) c.E s1)
    (he : backTo p' (starEach es c.env) = es.map (fun e => (false, eval e c.env)) := by rfl) (hn : x ≠ "__name__" := by decide) (hd : (x == ("__debug__" : Str)) = false := by decide) : WE c (.Call (.Name x p) es [] p') m μ Q := fun Hs s R => by
  refine wpAny_Call_Name_kw (N_boot R hS e hv hk ?_ hn hd)
  rw [he]
  exact PyProof.Rows.callWith_type (plain_one es) (evalArgs_of h R fun rvs vs μ1 s1 a b z => q rvs vs μ1 Hs s1 a b z)

theorem fn_call {r : Nat} {f : Addr} {vs : List V} {rvs : List Value} {Q : V → Mu → Prop} {Hs : Held} {s : Shared} (R : Rel c Hs m μ s) (hv : VsIs vs rvs) (hr : r ≤ c.room) (h : Fn w r f vs μ Q) : wpAny (MM w) c.A (call (.ref f) rvs) (PostV c Hs m Q) c.E s :=
  wpAny_call (codeAny_mono (h c Hs m s rvs hr R hv) fun res s' hx1 => by obtain ⟨rv, v, μ', e, z1, z2, z3⟩ := hx1; subst e; exact ⟨v, μ', z1, z2, z3⟩)

theorem W_fn {r : Nat} {S : Scope} {x : Str} {f : Addr} {es : List Expr} {p p'} {Q : V → Mu → Prop} (hS : c.env.scope = S) (e : nsIn (KK w) mainGlobals x = some (some (.ref f))) (hk : S.names.lookup x = some .globalImplicit)
    (hkeep : keepIn (KK w) (.ref f) = true) (hr : r ≤ c.room) (h : WL c es m μ (fun vs μ' => Fn w r f vs μ' Q))
    (he : backTo p' (starEach es c.env) = es.map (fun e => (false, eval e c.env)) := by rfl) (hd : (x == ("__debug__" : Str)) = false := by decide) : WE c (.Call (.Name x p) es [] p') m μ Q :=
  top_call hS e hk hkeep h (fun _ _ _ _ _ a b z => fn_call b a hr z) he hd

noncomputable def makeOk (K : Frag) (C fI : Addr) : Bool := makesIn K C && findIn K (.ref C) "__init__" == some (some (.ref fI)) && isFn K (.ref fI) && keepIn K (.ref C)

theorem emptyDict_is : (O.dict []).Is emptyDict := ⟨[], 0, rfl, trivial⟩

theorem W_new {r : Nat} {S : Scope} {x : Str} {C fI : Addr} {es : List Expr} {p p'} {Q : V → Mu → Prop} (hS : c.env.scope = S) (e : nsIn (KK w) mainGlobals x = some (some (.ref C))) (hk : S.names.lookup x = some .globalImplicit)
    (ok : makeOk (KK w) C fI = true) (hr : r + 1 ≤ c.room)
    (h : WL c es m μ (fun vs μ' => ∀ a d, μ' a = none → μ' d = none → a ≠ d → Fn w r fI (.ref a :: vs) ((μ'.set d (.dict [])).set a (.inst C d)) (fun v μ'' => v = .none ∧ Q (.ref a) μ'')))
    (he : backTo p' (starEach es c.env) = es.map (fun e => (false, eval e c.env)) := by rfl) (hd : (x == ("__debug__" : Str)) = false := by decide) : WE c (.Call (.Name x p) es [] p') m μ Q := by
  unfold makeOk at ok
  simp only [Bool.and_eq_true, beq_iff_eq] at ok
  obtain ⟨⟨⟨h1, h2⟩, h3⟩, h4⟩ := ok
  refine top_call hS e hk h4 h (fun rvs vs μ1 Hs s1 hv R q => ?_) he hd
  obtain ⟨hh, g, dr, tk, os⟩ := s1
  refine wpAny_call (make_core (makes_of R.KX h1) (looks_findIn R.KX h2) (fun self => bind_fn R.KX self (beq_iff_eq.mp h3)) (.inl rfl) ?_)
  have fd : hh.get? hh.objs.size = none := get_of_lt (Nat.le_refl _)
  have fa : hh.get? (hh.objs.size + 1) = none := get_of_lt (Nat.le_succ _)
  have R1 : Rel c Hs m (μ1.set hh.objs.size (.dict [])) ⟨hh.push emptyDict, g, dr, tk, os⟩ := R.new (s' := ⟨hh.push emptyDict, g, dr, tk, os⟩) fd (fun b o e => Heap.get?_push_of_some _ e) (Heap.get?_push_size _ rfl) emptyDict_is rfl rfl
  have fa1 : (hh.push emptyDict).get? (hh.objs.size + 1) = none := get_of_lt (by rw [Heap.size_push]; exact Nat.le_refl _)
  have R2 : Rel c Hs m ((μ1.set hh.objs.size (.dict [])).set (hh.objs.size + 1) (.inst C hh.objs.size)) ⟨(hh.push emptyDict).push (instObj C hh.objs.size), g, dr, tk, os⟩ := by
    refine R1.new (s' := ⟨(hh.push emptyDict).push (instObj C hh.objs.size), g, dr, tk, os⟩) (o := .inst C hh.objs.size) fa1 (fun b o e => Heap.get?_push_of_some _ e) ?_ rfl rfl rfl
    have := Heap.get?_push_size (hh.push emptyDict) (o := instObj C hh.objs.size) rfl
    rwa [Heap.size_push] at this
  let c' : Cx w := { c with
    A := c.A.under (.builtin "type.__call__" ⟨.ref C :: rvs, []⟩)
    room := r
    hA := c.hA
    hh := c.hh
    hd := by have := c.hd; rw [depth_under_make]; omega
    hu := by have := c.hu; rw [units_under_make]; omega }
  have cast : ∀ {Hs m μ s}, Rel c Hs m μ s → Rel c' Hs m μ s := fun R => ⟨R.gens, R.os, R.base, R.frames, R.Lnew, R.nsL, R.Cnew, R.nsC, R.cellv, R.cells, R.apart, R.fin, R.h0, R.held, R.mu⟩
  have uncast : ∀ {Hs m μ s}, Rel c' Hs m μ s → Rel c Hs m μ s := fun R => ⟨R.gens, R.os, R.base, R.frames, R.Lnew, R.nsL, R.Cnew, R.nsC, R.cellv, R.cells, R.apart, R.fin, R.h0, R.held, R.mu⟩
  have := q (hh.objs.size + 1) hh.objs.size (R.fresh fa) (R.fresh fd) (Nat.succ_ne_self _) c' Hs m _ (.ref (hh.objs.size + 1) :: rvs) (Nat.le_refl _) (cast R2) ⟨rfl, hv⟩
  refine codeAny_mono this fun res s' hz1 => ?_
  obtain ⟨rv, v, μ', e, hv', R', e', z⟩ := hz1
  subst e e'
  cases hv'
  exact ⟨rfl, .ref (hh.objs.size + 1), μ', rfl, uncast R', z⟩

noncomputable def methOk (K : Frag) (C : Addr) (name : Str) (f : Addr) : Bool := plainGet K C name && findIn K (.ref C) name == some (some (.ref f)) && isFn K (.ref f) && keepIn K (.ref f)

theorem method_of_list {a : Addr} {vs : List V} {name : Str} {id : String} {pl : Sem Bool} {Hs : Held} {s : Shared} {Q : Value × List Value → Shared → Prop} (R : Rel c Hs m μ s) (e : μ a = some (.list vs)) (slot : Slot "list" name id) (hty : typeOf (.builtin id) = pure (.type "method_descriptor"))
    (h : Q (.builtin id, [.ref a]) s) : wpAny (MM w) c.A (getMethod (.ref a) name pl) Q c.E s := by
  obtain ⟨rvs, n, ho, _⟩ := R.list e
  exact getMethod_builtin ⟨_, ho, rfl⟩ PySem.F.plainAttrs_list slot hty (fun b eb => by cases eb; exact ⟨_, ho, rfl⟩) h

noncomputable def CallC (c : Cx w) (f : Addr) (vs : List V) (m : Vars) (μ : Mu) (Q : V → Mu → Prop) : Prop := ∀ Hs s rvs, Rel c Hs m μ s → VsIs vs rvs → wpAny (MM w) c.A (call (.ref f) rvs) (PostV c Hs m Q) c.E s
theorem FnX.call {r : Nat} {f : Addr} {vs : List V} {Q : V → Mu → Prop} {PE : Mu → Prop} (h : FnX w r f vs μ Q PE) (hr : r ≤ c.room) (X : Ex c PE) : CallC c f vs m μ Q := fun Hs s rvs R hv =>
  wpAny_call (codeAny_mono (h c Hs m s rvs hr R hv) fun res s' z => by
    rcases z with ⟨rv, v, μ', e, z1, z2, z3⟩ | ⟨e, z, T⟩
    · subst e; exact ⟨v, μ', z1, z2, z3⟩
    · subst z; exact X.takes _ _ _ T)
theorem W_methC {o : Expr} {name : Str} {apos : Pos} {es : List Expr} {p' : Pos} {pl : Sem Bool} {Q : V → Mu → Prop}
    (h : WE c o m μ (fun v μ1 => ∃ a C d fs f, v = .ref a ∧ μ1 a = some (.inst C d) ∧ μ1 d = some (.dict fs) ∧ fs.lookup name = none ∧ methOk (KK w) C name f = true ∧ WL c es m μ1 (fun vs μ2 => CallC c f (.ref a :: vs) m μ2 Q)))
    (heval : eval (.Call (.Attribute o name apos) es [] p') c.env = (do
      let ov ← eval o c.env
      standAt apos.atName
      let (f, first) ← holding [ov] (getMethod ov name pl)
      callWith p' f first (backTo p' (starEach es c.env)) (backToKw p' (keywordEach [] c.env))) := by rfl)
    (he : backTo p' (starEach es c.env) = es.map (fun e => (false, eval e c.env)) := by rfl) : WE c (.Call (.Attribute o name apos) es [] p') m μ Q := fun Hs s R => by
  refine methodCall_KW (wpAny_mono (h Hs s R) (fun rv s1 hz2 => ?_) fun _ _ z => z) heval
  obtain ⟨v, μ1, hv, R1, a, C, d, fs, f, ev, e1, e2, hl, ok, q⟩ := hz2
  subst ev
  cases hv
  unfold methOk at ok
  simp only [Bool.and_eq_true, beq_iff_eq] at ok
  obtain ⟨⟨⟨h1, h2⟩, h3⟩, h4⟩ := ok
  obtain ⟨es', n, I, F⟩ := R1.inst e1 e2
  refine method_fn R1.KX I (plainGet_of h1).1 (plainGet_of h1).2 h2 (beq_iff_eq.mp h3) ?_ ?_
  · show (lookIn name (PySem.W.dictOf es' n)).map _ = _
    rw [lookIn_dict, F.get.2 hl]; rfl
  · show wpAny _ _ (callWith p' (.ref f) [.ref a] (backTo p' (starEach es c.env)) []) _ _ _
    rw [he]
    exact callWith_of (P := (KK w).In) (plain_of es) (keeps_K h4) (evalArgs_of q R1 fun rvs vs μ2 s2 a' b z => ⟨b.KX, z Hs s2 (.ref a :: rvs) b ⟨rfl, a'⟩⟩)

theorem W_meth {r : Nat} {o : Expr} {name : Str} {apos : Pos} {es : List Expr} {p' : Pos} {pl : Sem Bool} {Q : V → Mu → Prop}
    (h : WE c o m μ (fun v μ1 => ∃ a C d fs f, v = .ref a ∧ μ1 a = some (.inst C d) ∧ μ1 d = some (.dict fs) ∧ fs.lookup name = none ∧ methOk (KK w) C name f = true ∧ r ≤ c.room ∧ WL c es m μ1 (fun vs μ2 => Fn w r f (.ref a :: vs) μ2 Q)))
    (heval : eval (.Call (.Attribute o name apos) es [] p') c.env = (do
      let ov ← eval o c.env
      standAt apos.atName
      let (f, first) ← holding [ov] (getMethod ov name pl)
      callWith p' f first (backTo p' (starEach es c.env)) (backToKw p' (keywordEach [] c.env))) := by rfl)
    (he : backTo p' (starEach es c.env) = es.map (fun e => (false, eval e c.env)) := by rfl) : WE c (.Call (.Attribute o name apos) es [] p') m μ Q :=
  W_methC (WT.mono h fun _ _ hx2 => by obtain ⟨a, C, d, fs, f, ev, e1, e2, hl, ok, hr, q⟩ := hx2; exact ⟨a, C, d, fs, f, ev, e1, e2, hl, ok, WT.mono q fun _ _ z _ _ _ R hv => fn_call R hv hr z⟩) heval he

theorem W_lmeth {o : Expr} {name : Str} {id : String} {apos : Pos} {es : List Expr} {p' : Pos} {pl : Sem Bool} {Q : V → Mu → Prop} {P : Addr → List V → Mu → Prop} (slot : Slot "list" name id) (hty : typeOf (.builtin id) = pure (.type "method_descriptor"))
    (h : WE c o m μ (fun v μ1 => ∃ a us, v = .ref a ∧ μ1 a = some (.list us) ∧ WL c es m μ1 (P a)))
    (q : ∀ a rvs vs μ1 Hs s1, VsIs vs rvs → Rel c Hs m μ1 s1 → P a vs μ1 → wpAny (MM w) c.A (call (.builtin id) (.ref a :: rvs)) (PostV c Hs m Q) c.E s1)
    (heval : eval (.Call (.Attribute o name apos) es [] p') c.env = (do
      let ov ← eval o c.env
      standAt apos.atName
      let (f, first) ← holding [ov] (getMethod ov name pl)
      callWith p' f first (backTo p' (starEach es c.env)) (backToKw p' (keywordEach [] c.env))) := by rfl)
    (he : backTo p' (starEach es c.env) = es.map (fun e => (false, eval e c.env)) := by rfl) : WE c (.Call (.Attribute o name apos) es [] p') m μ Q := fun Hs s R => by
  refine methodCall_KW (wpAny_mono (h Hs s R) (fun rv s1 hz3 => ?_) fun _ _ z => z) heval
  obtain ⟨v, μ1, hv, R1, a, us, ev, e1, z⟩ := hz3
  subst ev
  cases hv
  refine method_of_list R1 e1 slot hty ?_
  show wpAny _ _ (callWith p' (.builtin id) [.ref a] (backTo p' (starEach es c.env)) []) _ _ _
  rw [he]
  exact callWith_builtin (plain_one es) (evalArgs_of z R1 fun rvs vs μ2 s2 a' b z => q a rvs vs μ2 Hs s2 a' b z)
end
section
variable {w : World} {c : Cx w} {m : Vars} {μ : Mu}

noncomputable def One (P : V → Mu → Prop) (vs : List V) (μ : Mu) : Prop := ∃ v, vs = [v] ∧ P v μ
theorem one_of {e : Expr} {P : V → Mu → Prop} (h : WE c e m μ P) : WL c [e] m μ (One P) := L_cons (WT.mono h fun v _ q => L_nil ⟨v, rfl, q⟩)
theorem vs1 {v : V} {rvs : List Value} (h : VsIs [v] rvs) : ∃ r, rvs = [r] ∧ v.Is r := by
  cases rvs with
  | nil => exact h.elim
  | cons r rs => cases rs with
    | nil => exact ⟨r, rfl, h.1⟩
    | cons _ _ => exact h.2.elim
theorem vs2 {v u : V} {rvs : List Value} (h : VsIs [v, u] rvs) : ∃ r t, rvs = [r, t] ∧ v.Is r ∧ u.Is t := by
  cases rvs with
  | nil => exact h.elim
  | cons r rs =>
    obtain ⟨t, rfl, h2⟩ := vs1 h.2
    exact ⟨r, t, rfl, h.1, h2⟩

theorem W_len {S : Scope} {e : Expr} {p p'} {Q : V → Mu → Prop} (hS : c.env.scope = S) (h : WE c e m μ (fun v μ1 => ∃ a vs, v = .ref a ∧ μ1 a = some (.list vs) ∧ vs.length ≤ 1000000 ∧ Q (.int vs.length) μ1))
    (hk : S.names.lookup (Str.ofString "len") = some .globalImplicit := by rfl) (he : backTo p' (starEach [e] c.env) = [e].map (fun e => (false, eval e c.env)) := by rfl) : WE c (.Call (.Name (Str.ofString "len") p) [e] [] p') m μ Q :=
  boot_call hS (ns_len w) PyProof.Rows.Boot.«len» hk (one_of h) (fun rvs vs μ1 Hs s1 hv R hx0 => by
    obtain ⟨v, e1, a, us, e2, e3, hl, q⟩ := hx0
    subst e1 e2
    obtain ⟨r, rfl, hr⟩ := vs1 hv
    cases hr
    obtain ⟨rs, il, z⟩ := R.isList e3
    have n := z.length
    refine Calls.call_len_list il (by simp only [List.size_toArray]; omega) ⟨.int us.length, μ1, ⟨_, by simp only [List.size_toArray, n]; rfl⟩, R.toks _, q⟩) he

theorem W_tupleOf {S : Scope} {e : Expr} {p p'} {Q : V → Mu → Prop} (hS : c.env.scope = S) (h : WE c e m μ (fun v μ1 => ∃ a vs, v = .ref a ∧ μ1 a = some (.list vs) ∧ vs.length ≤ 1000000 ∧ ∀ r, μ1 r = none → Q (.ref r) (μ1.set r (.tup vs))))
    (hk : S.names.lookup (Str.ofString "tuple") = some .globalImplicit := by rfl) (he : backTo p' (starEach [e] c.env) = [e].map (fun e => (false, eval e c.env)) := by rfl) : WE c (.Call (.Name (Str.ofString "tuple") p) [e] [] p') m μ Q :=
  type_call hS (ns_tuple w) PyProof.Rows.Boot.«tuple» hk (one_of h) (fun rvs vs μ1 Hs s1 hv R hx1 => by
    obtain ⟨v, e1, a, us, e2, e3, hl, q⟩ := hx1
    subst e1 e2
    obtain ⟨r, rfl, hr⟩ := vs1 hv
    cases hr
    obtain ⟨rs, il, z⟩ := R.isList e3
    have n := z.length
    refine call_tuple_list il (fun h' k => ?_) (by rw [List.size_toArray]; unfold sizeLine; omega)
    have R1 : Rel c Hs m μ1 { s1 with heap := h' } := R.keeps (s' := { s1 with heap := h' }) k rfl rfl
    have fr : h'.get? h'.objs.size = none := get_of_lt (Nat.le_refl _)
    exact ⟨.ref h'.objs.size, _, rfl, R1.new (o := .tup us) (s' := { s1 with heap := h'.push { cls := .type "tuple", data := .seq (List.toArray rs) } }) fr (fun b o e => Heap.get?_push_of_some _ e) (Heap.get?_push_size _ rfl) ⟨rs, 0, rfl, z⟩ rfl rfl, q _ (R1.fresh fr)⟩) he

theorem W_listOf {S : Scope} {e : Expr} {p p'} {Q : V → Mu → Prop} (hS : c.env.scope = S) (h : WE c e m μ (fun v μ1 => ∃ a vs, v = .ref a ∧ μ1 a = some (.list vs) ∧ vs.length ≤ 1000000 ∧ ∀ r, μ1 r = none → Q (.ref r) (μ1.set r (.list vs))))
    (hk : S.names.lookup (Str.ofString "list") = some .globalImplicit := by rfl) (he : backTo p' (starEach [e] c.env) = [e].map (fun e => (false, eval e c.env)) := by rfl) : WE c (.Call (.Name (Str.ofString "list") p) [e] [] p') m μ Q :=
  type_call hS (ns_list w) PyProof.Rows.Boot.«list» hk (one_of h) (fun rvs vs μ1 Hs s1 hv R hx2 => by
    obtain ⟨v, e1, a, us, e2, e3, hl, q⟩ := hx2
    subst e1 e2
    obtain ⟨r, rfl, hr⟩ := vs1 hv
    cases hr
    obtain ⟨rs, k, ho, z⟩ := R.list e3
    have n := z.length
    have fr : s1.heap.get? s1.heap.objs.size = none := get_of_lt (Nat.le_refl _)
    refine call_list_seq a (.inl rfl) ho rfl rfl (fun h' c' k' hD => ?_) (by rw [List.size_toArray]; unfold sizeLine; omega)
    exact ⟨.ref s1.heap.objs.size, _, rfl, R.new (o := .list us) (s' := { s1 with heap := h' }) fr k' hD ⟨rs, c', rfl, z⟩ rfl rfl, q _ (R.fresh fr)⟩) he

theorem W_sorted {S : Scope} {e : Expr} {p p'} {Q : V → Mu → Prop} (hS : c.env.scope = S) (h : WE c e m μ (fun v μ1 => ∃ a xs, v = .ref a ∧ μ1 a = some (.list (List.map V.int xs)) ∧ xs.length < 64 ∧ ∀ r ys, μ1 r = none → ys.Perm xs → ys.Pairwise (· ≤ ·) → Q (.ref r) (μ1.set r (.list (List.map V.int ys)))))
    (hk : S.names.lookup (Str.ofString "sorted") = some .globalImplicit := by rfl) (he : backTo p' (starEach [e] c.env) = [e].map (fun e => (false, eval e c.env)) := by rfl) : WE c (.Call (.Name (Str.ofString "sorted") p) [e] [] p') m μ Q :=
  boot_call hS (ns_sorted w) PyProof.Rows.Boot.«sorted» hk (one_of h) (fun rvs vs μ1 Hs s1 hv R hx3 => by
    obtain ⟨v, e1, a, xs, e2, e3, hl, q⟩ := hx3
    subst e1 e2
    obtain ⟨r, rfl, hr⟩ := vs1 hv
    cases hr
    obtain ⟨rs, il, z⟩ := R.isList e3
    have n := z.length
    have fr : s1.heap.get? (s1.heap.objs.size + 1) = none := get_of_lt (Nat.le_succ _)
    refine sorted_ints il (ints_are z) (by rw [← n, List.length_map]; exact hl) fun out ys a1 a2 a3 => ?_
    obtain ⟨k, hk'⟩ := sortedAll_at s1.heap rs out
    exact ⟨.ref (s1.heap.objs.size + 1), _, rfl, R.new (o := .list (ys.map .int)) (s' := { s1 with heap := sortedAll s1.heap rs out }) fr (fun b o e => sortedAll_old e) hk' ⟨out.toList, k, by simp, are_ints a1⟩ rfl rfl, q _ ys (R.fresh fr) a2 a3⟩) he

theorem W_max {S : Scope} {e : Expr} {p p'} {Q : V → Mu → Prop} (hS : c.env.scope = S) (h : WE c e m μ (fun v μ1 => ∃ a xs, v = .ref a ∧ μ1 a = some (.list (List.map V.int xs)) ∧ 0 < xs.length ∧ ∀ M, M ∈ xs → (∀ x ∈ xs, x ≤ M) → Q (.int M) μ1))
    (hk : S.names.lookup (Str.ofString "max") = some .globalImplicit := by rfl) (he : backTo p' (starEach [e] c.env) = [e].map (fun e => (false, eval e c.env)) := by rfl) : WE c (.Call (.Name (Str.ofString "max") p) [e] [] p') m μ Q :=
  boot_call hS (ns_max w) PyProof.Rows.Boot.«max» hk (one_of h) (fun rvs vs μ1 Hs s1 hv R hx4 => by
    obtain ⟨v, e1, a, xs, e2, e3, hl, q⟩ := hx4
    subst e1 e2
    obtain ⟨r, rfl, hr⟩ := vs1 hv
    cases hr
    obtain ⟨rs, il, z⟩ := R.isList e3
    obtain ⟨mL, F, back⟩ := R.viaK
    exact max_list_N c.hh F (allOf_news _ _) il (ints_are z) hl fun h' M t tk F' N' m1 m2 => ⟨.int M, μ1, ⟨_, rfl⟩, back h' tk F' N', q M m1 m2⟩) he

theorem W_min {S : Scope} {e1 e2 : Expr} {p p'} {Q : V → Mu → Prop} (hS : c.env.scope = S) (h : WE c e1 m μ (fun v μ1 => WE c e2 m μ1 (fun u μ2 => ∃ i j, v = .int i ∧ u = .int j ∧ Q (.int (if j < i then j else i)) μ2)))
    (hk : S.names.lookup (Str.ofString "min") = some .globalImplicit := by rfl) (he : backTo p' (starEach [e1, e2] c.env) = [e1, e2].map (fun e => (false, eval e c.env)) := by rfl) : WE c (.Call (.Name (Str.ofString "min") p) [e1, e2] [] p') m μ Q :=
  boot_call hS (ns_min w) PyProof.Rows.Boot.«min» hk (P := fun vs μ2 => ∃ i j, vs = [.int i, .int j] ∧ Q (.int (if j < i then j else i)) μ2) (L_cons (WT.mono h fun v _ q => L_cons (WT.mono q fun u _ hx5 => by obtain ⟨i, j, a, b, z⟩ := hx5; exact L_nil ⟨i, j, by rw [a, b], z⟩))) (fun rvs vs μ1 Hs s1 hv R hx6 => by
    obtain ⟨i, j, e, q⟩ := hx6
    subst e
    obtain ⟨r, t, rfl, ⟨_, rfl⟩, ⟨_, rfl⟩⟩ := vs2 hv
    obtain ⟨mL, F, back⟩ := R.viaK
    exact min_two_N c.hh F (allOf_news _ _) fun h' tk F' N' => ⟨.int (if j < i then j else i), μ1, ⟨_, rfl⟩, back h' tk F' N', q⟩) he

theorem W_bytesOf {S : Scope} {e : Expr} {p p'} {Q : V → Mu → Prop} (hS : c.env.scope = S) (h : WE c e m μ (fun v μ1 => ∃ a xs, v = .ref a ∧ μ1 a = some (.list (List.map V.int xs)) ∧ ((∀ n ∈ xs, 0 ≤ n ∧ n < 256) ∧ xs.length ≤ 1000000) ∧ Q (.bytes (byteArr xs)) μ1))
    (hk : S.names.lookup (Str.ofString "bytes") = some .globalImplicit := by rfl) (he : backTo p' (starEach [e] c.env) = [e].map (fun e => (false, eval e c.env)) := by rfl) : WE c (.Call (.Name (Str.ofString "bytes") p) [e] [] p') m μ Q :=
  type_call hS (ns_bytes w) PyProof.Rows.Boot.«bytes» hk (one_of h) (fun rvs vs μ1 Hs s1 hv R hx7 => by
    obtain ⟨v, e1, a, xs, e2, e3, ⟨hr0, hl⟩, q⟩ := hx7
    subst e1 e2
    obtain ⟨r, rfl, hr⟩ := vs1 hv
    cases hr
    obtain ⟨rs, il, z⟩ := R.isList e3
    have n := z.length
    rw [List.length_map] at n
    exact call_bytes_ints il (ints_are z) hr0 (by rw [← n]; unfold sizeLine; omega) c.hh fun h' t k kk => ⟨.bytes (byteArr xs), μ1, ⟨_, rfl⟩, R.keeps (s' := { s1 with heap := h', toks := k }) kk rfl rfl, q⟩) he

theorem W_append {o e : Expr} {apos p' : Pos} {pl : Sem Bool} {Q : V → Mu → Prop}
    (h : WE c o m μ (fun v μ1 => ∃ a us, v = .ref a ∧ μ1 a = some (.list us) ∧ WE c e m μ1 (fun u μ2 => ∃ vs, μ2 a = some (.list vs) ∧ vs.length ≤ 1000000 ∧ Q .none (μ2.set a (.list (vs ++ [u]))))))
    (heval : eval (.Call (.Attribute o (Str.ofString "append") apos) [e] [] p') c.env = (do
      let ov ← eval o c.env
      standAt apos.atName
      let (f, first) ← holding [ov] (getMethod ov (Str.ofString "append") pl)
      callWith p' f first (backTo p' (starEach [e] c.env)) (backToKw p' (keywordEach [] c.env))) := by rfl)
    (he : backTo p' (starEach [e] c.env) = [e].map (fun e => (false, eval e c.env)) := by rfl) : WE c (.Call (.Attribute o (Str.ofString "append") apos) [e] [] p') m μ Q :=
  W_lmeth (P := fun a => One (fun u μ2 => ∃ vs, μ2 a = some (.list vs) ∧ vs.length ≤ 1000000 ∧ Q .none (μ2.set a (.list (vs ++ [u]))))) PySem.F.slot_list_append PySem.F.type_list_append (WT.mono h fun v μ1 hx8 => by obtain ⟨a, us, e1, e2, z⟩ := hx8; exact ⟨a, us, e1, e2, one_of z⟩)
    (fun a rvs vs μ1 Hs s1 hv R hx9 => by
      obtain ⟨u, e1, us, e2, hl, q⟩ := hx9
      subst e1
      obtain ⟨r, rfl, hr⟩ := vs1 hv
      obtain ⟨rs, n, ho, z⟩ := R.list e2
      have len := z.length
      refine wpAny_list_append_plain ⟨n, ho⟩ (fun h' ⟨n', hp⟩ hs => ?_) (by rw [List.size_toArray]; unfold sizeLine; omega)
      exact ⟨.none, _, rfl, R.upd (s' := { s1 with heap := h' }) (o' := .list (us ++ [u])) e2 hs hp ⟨rs ++ [r], n', by simp, z.append ⟨hr, trivial⟩⟩ rfl rfl, q⟩) heval he

theorem VsIs.erase : ∀ {vs : List V} {rs : List Value} (k : Nat), VsIs vs rs → VsIs (vs.eraseIdx k) (rs.eraseIdx k)
  | [], [], _, _ => trivial
  | _ :: _, _ :: _, 0, h => h.2
  | _ :: _, _ :: _, k + 1, h => ⟨h.1, h.2.erase k⟩
  | _ :: _, [], _, h => h.elim
  | [], _ :: _, _, h => h.elim
theorem VsIs.set {v : V} {r : Value} (hv : v.Is r) : ∀ {vs : List V} {rs : List Value} (k : Nat), VsIs vs rs → VsIs (vs.set k v) (rs.set k r)
  | [], [], _, _ => trivial
  | _ :: _, _ :: _, 0, h => ⟨hv, h.2⟩
  | _ :: _, _ :: _, k + 1, h => ⟨h.1, h.2.set hv k⟩
  | _ :: _, [], _, h => h.elim
  | [], _ :: _, _, h => h.elim

theorem W_pop {o e : Expr} {apos p' : Pos} {pl : Sem Bool} {Q : V → Mu → Prop}
    (h : WE c o m μ (fun v μ1 => ∃ a us, v = .ref a ∧ μ1 a = some (.list us) ∧ WE c e m μ1 (fun i μ2 => ∃ k vs u, i = .int k ∧ μ2 a = some (.list vs) ∧ (0 ≤ k ∧ k < 2 ^ 62 ∧ vs.length ≤ 1000000) ∧ vs[k.toNat]? = some u ∧ Q u (μ2.set a (.list (vs.eraseIdx k.toNat))))))
    (heval : eval (.Call (.Attribute o (Str.ofString "pop") apos) [e] [] p') c.env = (do
      let ov ← eval o c.env
      standAt apos.atName
      let (f, first) ← holding [ov] (getMethod ov (Str.ofString "pop") pl)
      callWith p' f first (backTo p' (starEach [e] c.env)) (backToKw p' (keywordEach [] c.env))) := by rfl)
    (he : backTo p' (starEach [e] c.env) = [e].map (fun e => (false, eval e c.env)) := by rfl) : WE c (.Call (.Attribute o (Str.ofString "pop") apos) [e] [] p') m μ Q :=
  W_lmeth (P := fun a => One (fun i μ2 => ∃ k vs u, i = .int k ∧ μ2 a = some (.list vs) ∧ (0 ≤ k ∧ k < 2 ^ 62 ∧ vs.length ≤ 1000000) ∧ vs[k.toNat]? = some u ∧ Q u (μ2.set a (.list (vs.eraseIdx k.toNat))))) PySem.F.slot_list_pop PySem.F.type_list_pop (WT.mono h fun v μ1 hx10 => by obtain ⟨a, us, e1, e2, z⟩ := hx10; exact ⟨a, us, e1, e2, one_of z⟩)
    (fun a rvs vs μ1 Hs s1 hv R hx11 => by
      obtain ⟨i, e1, k, us, u, e2, e3, ⟨h0, h62, hl⟩, hx, q⟩ := hx11
      subst e1 e2
      obtain ⟨r, rfl, t, rfl⟩ := vs1 hv
      obtain ⟨rs, n, ho, z⟩ := R.list e3
      have len := z.length
      obtain ⟨y, hy, hu⟩ := z.get hx
      have lt := (List.getElem?_eq_some_iff.mp hx).1
      refine call_meets PySem.F.slot_list_pop ⟨_, ho, rfl⟩ PySem.F.entry_list_pop (PySem.F.args_list_pop_2 _ _) (PySem.MeetsSeq.list_pop_at a (List.toArray rs) n k t k.toNat y (fitsIndex_of h0 (by omega)) (by rw [List.size_toArray]; exact seqIdx_of h0 (by omega)) (by simpa using hy) (by rw [List.size_toArray]; unfold sizeLine; omega)) ⟨ho, ?_⟩
      have g := PySem.IsL.update ho (fun xs => xs.eraseIdxIfInBounds k.toNat)
      have ee : (List.toArray rs).eraseIdxIfInBounds k.toNat = List.toArray (rs.eraseIdx k.toNat) := by
        rw [Array.eraseIdxIfInBounds, dif_pos (by rw [List.size_toArray]; omega)]
        apply Array.toList_inj.mp
        rw [Array.toList_eraseIdx]
      rw [ee] at g
      exact ⟨u, _, hu, R.upd (s' := { s1 with heap := s1.heap.update a (Obj.mapSeq fun xs => xs.eraseIdxIfInBounds k.toNat) }) (o' := .list (us.eraseIdx k.toNat)) e3 (Heap.SameBut.update ..) g ⟨rs.eraseIdx k.toNat, _, rfl, z.erase _⟩ rfl rfl, q⟩) heval he
end
noncomputable def Held.set (H : Held) (I : Addr) (o : Obj) : Held := fun b => if b = I then some o else H b
theorem Held.set_self (H : Held) (I : Addr) (o : Obj) : (H.set I o) I = some o := if_pos rfl
theorem Held.set_ne (H : Held) {I b : Addr} (o : Obj) (h : b ≠ I) : (H.set I o) b = H b := if_neg h

section
variable {w : World} {c : Cx w} {m : Vars} {μ : Mu}

theorem Rel.notFrame {Hs : Held} {s : Shared} (R : Rel c Hs m μ s) {I : Addr} (h : Hs I = none) : ¬ FrameOf c.outer I := fun q => by have := R.fin I q; rw [h] at this; cases this

theorem Rel.hold {Hs : Held} {s s' : Shared} (R : Rel c Hs m μ s) {I : Addr} {o : Obj} (e : s.heap.get? I = none) (k : ∀ b o, s.heap.get? b = some o → s'.heap.get? b = some o) (ha : s'.heap.get? I = some o) (hg : s'.gens = s.gens) (ho : s'.os = s.os) :
    Hs I = none ∧ Rel c (Hs.set I o) m μ s' := by
  have K := R.keeps k hg ho
  have nH : Hs I = none := by
    cases z : Hs I with
    | none => rfl
    | some o => obtain ⟨_, _, _, h, _⟩ := R.held I o z; rw [h] at e; cases e
  have nL : I ≠ c.L := fun q => by obtain ⟨_, ⟨_, _, _, h, _⟩, _⟩ := R.nsL; rw [← q, e] at h; cases h
  have nC : I ≠ c.env.locals := fun q => by obtain ⟨_, ⟨_, _, _, h, _⟩, _⟩ := R.nsC; rw [← q, e] at h; cases h
  refine ⟨nH, { K with cells := ?_, fin := ?_, h0 := fun b ob q => (Held.set_ne _ _ (fun z => by have := K.h0 b ob q; rw [z, nH] at this; cases this)).trans (K.h0 b ob q), held := ?_, mu := ?_ }⟩
  · intro x ca q
    obtain ⟨h1, h2, h3, h4, h5, h6⟩ := K.cells x ca q
    refine ⟨h1, h2, h3, h4, ?_, h6⟩
    rw [Held.set_ne]; exact h5
    intro z
    obtain ⟨⟨v, ⟨oc, hc, _⟩⟩, _⟩ := R.cells x ca q
    rw [z, e] at hc; cases hc
  · intro b hb
    by_cases z : b = I
    · rw [z, Held.set_self]; rfl
    · rw [Held.set_ne _ _ z]; exact K.fin b hb
  · intro b ob q
    by_cases z : b = I
    · subst z
      rw [Held.set_self] at q
      cases q
      exact ⟨nL, nC, .here ha⟩
    · rw [Held.set_ne _ _ z] at q
      exact K.held b ob q
  · intro a ob q
    obtain ⟨h1, h2, h3, h4, ro, h5, h6⟩ := K.mu a ob q
    refine ⟨h1, h2, h3, ?_, ro, h5, h6⟩
    rw [Held.set_ne]; exact h4
    intro z
    obtain ⟨_, _, _, _, r0, hr, _⟩ := R.mu a ob q
    rw [z, e] at hr; cases hr

theorem Rel.reheld {Hs : Held} {s s' : Shared} {I : Addr} {o o' : Obj} (hI : Hs I = none) (hF : ¬ FrameOf c.outer I) (hB : c.Free I) (R : Rel c (Hs.set I o) m μ s) (hs : Heap.SameBut I s.heap s'.heap) (ha : s'.heap.get? I = some o') (hg : s'.gens = s.gens) (ho : s'.os = s.os) : Rel c (Hs.set I o') m μ s' := by
  have k : ∀ b ob, b ≠ I → s.heap.get? b = some ob → s'.heap.get? b = some ob := fun b ob n q => (hs.2 b n).trans q
  obtain ⟨n1, n2, _⟩ := R.held I o (Held.set_self ..)
  have cellNe : ∀ x ca, c.env.cells.lookup x = some ca → ca ≠ I := fun x ca q z => by
    obtain ⟨_, _, _, _, h5, _⟩ := R.cells x ca q
    rw [z, Held.set_self] at h5; cases h5
  refine ⟨hg.trans R.gens, ho.trans R.os, fun b ob q => k b ob (fun z => by rw [z, hB.1] at q; cases q) (R.base b ob q), frames_to _ R.frames (fun b ob fb q => ⟨ob, k b ob (fun z => hF (z ▸ fb)) q, rfl⟩), R.Lnew,
    (let ⟨mL, n, p⟩ := R.nsL; ⟨mL, n.sameBut hs (Ne.symm n1), p⟩), R.Cnew, (let ⟨mC, n, r⟩ := R.nsC; ⟨mC, n.sameBut hs (Ne.symm n2), r⟩),
    (fun x v q z => let ⟨ca, rv, h1, ⟨oc, h2, h2'⟩, h3⟩ := R.cellv x v q z; ⟨ca, rv, h1, ⟨oc, k _ _ (cellNe x ca h1) h2, h2'⟩, h3⟩),
    (fun x ca q => let ⟨⟨v, ⟨oc, h2, h2'⟩⟩, r1, r2, r3, r4, r5⟩ := R.cells x ca q; ⟨⟨v, ⟨oc, k _ _ (cellNe x ca q) h2, h2'⟩⟩, r1, r2, r3, by rw [Held.set_ne _ _ (cellNe x ca q)] at r4 ⊢; exact r4, r5⟩),
    R.apart, (fun b hb => by
      have := R.fin b hb
      by_cases z : b = I
      · rw [z, Held.set_self]; rfl
      · rw [Held.set_ne _ _ z] at this ⊢; exact this), (fun b ob q => by
      have := R.h0 b ob q
      have z : b ≠ I := fun z => by rw [z, hB.2] at q; cases q
      rw [Held.set_ne _ _ z] at this ⊢; exact this), (fun b ob q => ?_), fun a ob q => ?_⟩
  · by_cases z : b = I
    · subst z
      rw [Held.set_self] at q
      cases q
      exact ⟨n1, n2, .here ha⟩
    · rw [Held.set_ne _ _ z] at q
      obtain ⟨h1, h2, sl, h3, h4⟩ := R.held b ob (by rw [Held.set_ne _ _ z]; exact q)
      exact ⟨h1, h2, sl, k _ _ z h3, h4⟩
  · obtain ⟨h1, h2, h3, h4, rb, h5, h6⟩ := R.mu a ob q
    have z : a ≠ I := fun z => by rw [z, Held.set_self] at h4; cases h4
    rw [Held.set_ne _ _ z] at h4
    exact ⟨h1, h2, h3, by rw [Held.set_ne _ _ z]; exact h4, rb, k _ _ z h5, h6⟩

theorem Rel.unhold {Hs : Held} {s s' : Shared} {I : Addr} {o : Obj} (hI : Hs I = none) (hF : ¬ FrameOf c.outer I) (hB : c.Free I) (R : Rel c (Hs.set I o) m μ s) (k : Heap.ExtBut I s.heap s'.heap) (hg : s'.gens = s.gens) (ho : s'.os = s.os) : Rel c Hs m μ s' := by
  obtain ⟨n1, n2, _⟩ := R.held I o (Held.set_self ..)
  have cellNe : ∀ x ca, c.env.cells.lookup x = some ca → ca ≠ I := fun x ca q z => by
    obtain ⟨_, _, _, _, h5, _⟩ := R.cells x ca q
    rw [z, Held.set_self] at h5; cases h5
  refine ⟨hg.trans R.gens, ho.trans R.os, fun b ob q => k b ob (fun z => by rw [z, hB.1] at q; cases q) (R.base b ob q), frames_to _ R.frames (fun b ob fb q => ⟨ob, k b ob (fun z => hF (z ▸ fb)) q, rfl⟩), R.Lnew,
    (let ⟨mL, n, p⟩ := R.nsL; ⟨mL, n.extBut k (Ne.symm n1), p⟩), R.Cnew, (let ⟨mC, n, r⟩ := R.nsC; ⟨mC, n.extBut k (Ne.symm n2), r⟩),
    (fun x v q z => let ⟨ca, rv, h1, ⟨oc, h2, h2'⟩, h3⟩ := R.cellv x v q z; ⟨ca, rv, h1, ⟨oc, k _ _ (cellNe x ca h1) h2, h2'⟩, h3⟩),
    (fun x ca q => let ⟨⟨v, ⟨oc, h2, h2'⟩⟩, r1, r2, r3, r4, r5⟩ := R.cells x ca q; ⟨⟨v, ⟨oc, k _ _ (cellNe x ca q) h2, h2'⟩⟩, r1, r2, r3, by rw [Held.set_ne _ _ (cellNe x ca q)] at r4; exact r4, r5⟩),
    R.apart, (fun b hb => by
      have := R.fin b hb
      have z : b ≠ I := fun z => hF (z ▸ hb)
      rw [Held.set_ne _ _ z] at this; exact this), (fun b ob q => by
      have := R.h0 b ob q
      have z : b ≠ I := fun z => by rw [z, hB.2] at q; cases q
      rw [Held.set_ne _ _ z] at this; exact this), (fun b ob q => ?_), fun a ob q => ?_⟩
  · have z : b ≠ I := fun z => by rw [z, hI] at q; cases q
    obtain ⟨h1, h2, sl, h3, h4⟩ := R.held b ob (by rw [Held.set_ne _ _ z]; exact q)
    exact ⟨h1, h2, sl, k _ _ z h3, h4⟩
  · obtain ⟨h1, h2, h3, h4, rb, h5, h6⟩ := R.mu a ob q
    have z : a ≠ I := fun z => by rw [z, Held.set_self] at h4; cases h4
    rw [Held.set_ne _ _ z] at h4
    exact ⟨h1, h2, h3, h4, rb, k _ _ z h5, h6⟩

inductive It where
  | list (l : Addr) (i : Nat)
  | tup (l : Addr) (i : Nat)
  | range (x left : Int)
noncomputable def ItObj : It → Obj → Prop
  | .list l i, o => o.cls = .type "list_iterator" ∧ o.data = .fields #[.ref l, .int i 0]
  | .tup l i, o => o.cls = .type "tuple_iterator" ∧ o.data = .fields #[.ref l, .int i 0]
  | .range x left, o => o = { cls := .type "range_iterator", dict := none, data := .fields #[rawInt x, rawInt left, rawInt 1], slots := #[] }

inductive Step (μ : Mu) : It → Option (V × It) → Prop
  | list {l i vs v} (h : μ l = some (.list vs)) (e : vs[i]? = some v) : Step μ (.list l i) (some (v, .list l (i + 1)))
  | listEnd {l i vs} (h : μ l = some (.list vs)) (e : vs[i]? = none) : Step μ (.list l i) none
  | tup {l i vs v} (h : μ l = some (.tup vs)) (e : vs[i]? = some v) : Step μ (.tup l i) (some (v, .tup l (i + 1)))
  | tupEnd {l i vs} (h : μ l = some (.tup vs)) (e : vs[i]? = none) : Step μ (.tup l i) none
  | range {x left} (h : 0 < left) : Step μ (.range x left) (some (.int x, .range (x + 1) (left - 1)))
  | rangeEnd {x left} (h : left ≤ 0) : Step μ (.range x left) none

theorem next_of {Hs : Held} {s : Shared} {I : Addr} {o : Obj} {k : It} {r : Option (V × It)} (hI : Hs I = none) (hF : ¬ FrameOf c.outer I) (hB : c.Free I) (R : Rel c (Hs.set I o) m μ s) (hk : ItObj k o) (st : Step μ k r) (E : Value → Shared → Prop) :
    wpAny (MM w) c.A (pyNext (.ref I)) (fun ro s' => match r with
      | none => ro = none ∧ Rel c Hs m μ s'
      | some (v, k') => ∃ rv o', ro = some rv ∧ v.Is rv ∧ ItObj k' o' ∧ Rel c (Hs.set I o') m μ s') E s := by
  have hIo : s.heap.get? I = some o := (R.held I o (Held.set_self ..)).2.2.exact hF
  cases st with
  | list h e =>
    obtain ⟨rvs, il, z⟩ := R.isList h
    obtain ⟨rv, hr, hv⟩ := z.get e
    refine wpAny_pyNext_list_item ⟨o, hIo, hk.1, hk.2⟩ il (x := rv) (by simpa using hr) fun h' ⟨o', ho', hc', hd'⟩ hs => ⟨rv, o', rfl, hv, ⟨hc', hd'⟩, R.reheld (s' := { s with heap := h' }) hI hF hB hs ho' rfl rfl⟩
  | listEnd h e =>
    obtain ⟨rvs, il, z⟩ := R.isList h
    have n := z.length
    refine wpAny_pyNext_list_end c.hh ⟨o, hIo, hk.1, hk.2⟩ il (by simp only [List.getElem?_toArray, List.getElem?_eq_none_iff] at e ⊢; omega) fun h' he => ⟨rfl, R.unhold (s' := { s with heap := h' }) hI hF hB he rfl rfl⟩
  | tup h e =>
    obtain ⟨rvs, il, z⟩ := R.tup h
    obtain ⟨rv, hr, hv⟩ := z.get e
    refine next_tuple_item ⟨o, hIo, hk.1, hk.2⟩ il (x := rv) (by simpa using hr) fun h' ⟨o', ho', hc', hd'⟩ hs => ⟨rv, o', rfl, hv, ⟨hc', hd'⟩, R.reheld (s' := { s with heap := h' }) hI hF hB hs ho' rfl rfl⟩
  | tupEnd h e =>
    obtain ⟨rvs, il, z⟩ := R.tup h
    have n := z.length
    refine next_tuple_end c.hh ⟨o, hIo, hk.1, hk.2⟩ il (by simp only [List.getElem?_toArray, List.getElem?_eq_none_iff] at e ⊢; omega) fun h' he => ⟨rfl, R.unhold (s' := { s with heap := h' }) hI hF hB he rfl rfl⟩
  | range h =>
    cases hk
    refine wpAny_pyNext_range_item hIo h fun h' hit hs => ⟨_, _, rfl, ⟨_, rfl⟩, rfl, (R.reheld (s' := { s with heap := h', toks := s.toks + 1 }) hI hF hB hs hit rfl rfl)⟩
  | rangeEnd h =>
    cases hk
    exact wpAny_pyNext_range_end c.hh hIo h fun h' he => ⟨rfl, R.unhold (s' := { s with heap := h' }) hI hF hB he rfl rfl⟩

noncomputable def WI (c : Cx w) (iter : Expr) (m : Vars) (μ : Mu) (Q : It → Mu → Prop) : Prop := ∀ Hs s, Rel c Hs m μ s →
  wpAny (MM w) c.A (eval iter c.env) (fun rx s1 => wpAny (MM w) c.A (pyIter rx) (fun rv s' => ∃ I o k μ', rv = .ref I ∧ Hs I = none ∧ c.Free I ∧ ItObj k o ∧ Rel c (Hs.set I o) m μ' s' ∧ Q k μ') c.E s1) c.E s

theorem I_list {iter : Expr} {Q : It → Mu → Prop} (h : WE c iter m μ (fun v μ' => ∃ l vs, v = .ref l ∧ μ' l = some (.list vs) ∧ Q (.list l 0) μ')) : WI c iter m μ Q := fun Hs s R =>
  wpAny_mono (h Hs s R) (fun rx s1 hx0 => by
    obtain ⟨v, μ1, hv, R1, l, vs, e1, e2, q⟩ := hx0
    subst e1
    cases hv
    obtain ⟨rvs, il, z⟩ := R1.isList e2
    have fr : s1.heap.get? s1.heap.objs.size = none := get_of_lt (Nat.le_refl _)
    refine wpAny_pyIter_list il ?_
    obtain ⟨hI, R2⟩ := R1.hold (s' := { s1 with heap := s1.heap.push { cls := .type "list_iterator", data := .fields #[.ref l, .int 0 0] } }) fr (fun b o e => Heap.get?_push_of_some _ e) (Heap.get?_push_size _ rfl) rfl rfl
    exact ⟨_, _, .list l 0, μ1, rfl, hI, R1.newB fr, ⟨rfl, rfl⟩, R2, q⟩) fun _ _ z => z
theorem I_tup {iter : Expr} {Q : It → Mu → Prop} (h : WE c iter m μ (fun v μ' => ∃ l vs, v = .ref l ∧ μ' l = some (.tup vs) ∧ Q (.tup l 0) μ')) : WI c iter m μ Q := fun Hs s R =>
  wpAny_mono (h Hs s R) (fun rx s1 hx1 => by
    obtain ⟨v, μ1, hv, R1, l, vs, e1, e2, q⟩ := hx1
    subst e1
    cases hv
    obtain ⟨rvs, il, z⟩ := R1.tup e2
    have fr : s1.heap.get? s1.heap.objs.size = none := get_of_lt (Nat.le_refl _)
    refine iter_tuple il ?_
    obtain ⟨hI, R2⟩ := R1.hold (s' := { s1 with heap := s1.heap.push { cls := .type "tuple_iterator", data := .fields #[.ref l, .int 0 0] } }) fr (fun b o e => Heap.get?_push_of_some _ e) (Heap.get?_push_size _ rfl) rfl rfl
    exact ⟨_, _, .tup l 0, μ1, rfl, hI, R1.newB fr, ⟨rfl, rfl⟩, R2, q⟩) fun _ _ z => z
end
section
variable {w : World} {c : Cx w} {m : Vars} {μ : Mu}

theorem I_range {S : Scope} {e : Expr} {p p'} {Q : It → Mu → Prop} (hS : c.env.scope = S) (h : WE c e m μ (fun v μ1 => ∃ n, v = .int n ∧ (0 ≤ n ∧ n < 2 ^ 60) ∧ Q (.range 0 n) μ1))
    (hk : S.names.lookup (Str.ofString "range") = some .globalImplicit := by rfl) (he : backTo p' (starEach [e] c.env) = [e].map (fun e => (false, eval e c.env)) := by rfl) : WI c (.Call (.Name (Str.ofString "range") p) [e] [] p') m μ Q := fun Hs s R => by
  refine wpAny_Call_Name_kw (N_boot R hS (ns_range w) PyProof.Rows.Boot.«range» hk ?_)
  rw [he]
  refine PyProof.Rows.callWith_type (plain_one [e]) (evalArgs_of (one_of h) R fun rvs vs μ1 s1 hv R1 hz0 => ?_)
  obtain ⟨v, e1, n, e2, ⟨h0, h1⟩, q⟩ := hz0
  subst e1 e2
  obtain ⟨r, rfl, t, rfl⟩ := vs1 hv
  refine call_range_1 ?_
  have fr : s1.heap.get? s1.heap.objs.size = none := get_of_lt (Nat.le_refl _)
  have R2 : Rel c Hs m μ1 { s1 with heap := s1.heap.push { cls := .type "range", data := .fields #[.int 0 s1.toks, .int n t, .int 1 (s1.toks + 1)] }, toks := s1.toks + 1 + 1 } := R1.keeps (fun b o e => Heap.get?_push_of_some _ e) rfl rfl
  refine wpAny_pyIter_range (IsRange.new s1.heap 0 n 1 s1.toks t (s1.toks + 1)) (small_one (by omega) (by omega) (by omega) (by omega)) ?_
  have fr2 : (s1.heap.push { cls := .type "range", data := .fields #[.int 0 s1.toks, .int n t, .int 1 (s1.toks + 1)] }).get? (s1.heap.push { cls := .type "range", data := .fields #[.int 0 s1.toks, .int n t, .int 1 (s1.toks + 1)] }).objs.size = none := get_of_lt (Nat.le_refl _)
  have sz : Builtin.Range.rangeSize 0 n 1 = n := by rw [rangeSize_one]; split <;> omega
  obtain ⟨hI, R3⟩ := R2.hold (s' := { s1 with heap := (s1.heap.push { cls := .type "range", data := .fields #[.int 0 s1.toks, .int n t, .int 1 (s1.toks + 1)] }).push { cls := .type "range_iterator", data := .fields #[rawInt 0, rawInt (Builtin.Range.rangeSize 0 n 1), rawInt 1] }, toks := s1.toks + 1 + 1 }) fr2 (fun b o e => Heap.get?_push_of_some _ e) (Heap.get?_push_size _ rfl) rfl rfl
  exact ⟨_, _, .range 0 n, μ1, rfl, hI, R2.newB fr2, by rw [sz]; rfl, R3, q⟩
theorem I_range2 {S : Scope} {e1 e2 : Expr} {p p'} {Q : It → Mu → Prop} (hS : c.env.scope = S) (h : WE c e1 m μ (fun v μ1 => WE c e2 m μ1 (fun u μ2 => ∃ a n, v = .int a ∧ u = .int n ∧ (0 ≤ a ∧ a ≤ n ∧ n < 2 ^ 60) ∧ Q (.range a (n - a)) μ2)))
    (hk : S.names.lookup (Str.ofString "range") = some .globalImplicit := by rfl) (he : backTo p' (starEach [e1, e2] c.env) = [e1, e2].map (fun e => (false, eval e c.env)) := by rfl) : WI c (.Call (.Name (Str.ofString "range") p) [e1, e2] [] p') m μ Q := fun Hs s R => by
  refine wpAny_Call_Name_kw (N_boot R hS (ns_range w) PyProof.Rows.Boot.«range» hk ?_)
  rw [he]
  refine PyProof.Rows.callWith_type (plain_one [e1, e2]) (evalArgs_of (P := fun vs μ2 => ∃ a n, vs = [.int a, .int n] ∧ (0 ≤ a ∧ a ≤ n ∧ n < 2 ^ 60) ∧ Q (.range a (n - a)) μ2) (L_cons (WT.mono h fun v _ q => L_cons (WT.mono q fun u _ hx0 => by obtain ⟨a, n, ea, en, z⟩ := hx0; exact L_nil ⟨a, n, by rw [ea, en], z⟩))) R fun rvs vs μ1 s1 hv R1 hz1 => ?_)
  obtain ⟨a, n, e2, ⟨h0, h1, h2⟩, q⟩ := hz1
  subst e2
  obtain ⟨r, r', rfl, ⟨t, rfl⟩, ⟨u, rfl⟩⟩ := vs2 hv
  refine call_range_2 ?_
  have R2 : Rel c Hs m μ1 { s1 with heap := s1.heap.push { cls := .type "range", data := .fields #[.int a t, .int n u, .int 1 s1.toks] }, toks := s1.toks + 1 } := R1.keeps (fun b o e => Heap.get?_push_of_some _ e) rfl rfl
  refine wpAny_pyIter_range (IsRange.new s1.heap a n 1 t u s1.toks) (small_one (by omega) (by omega) (by omega) (by omega)) ?_
  have fr2 : (s1.heap.push { cls := .type "range", data := .fields #[.int a t, .int n u, .int 1 s1.toks] }).get? (s1.heap.push { cls := .type "range", data := .fields #[.int a t, .int n u, .int 1 s1.toks] }).objs.size = none := get_of_lt (Nat.le_refl _)
  have sz : Builtin.Range.rangeSize a n 1 = n - a := by rw [rangeSize_one]; split <;> omega
  obtain ⟨hI, R3⟩ := R2.hold (s' := { s1 with heap := (s1.heap.push { cls := .type "range", data := .fields #[.int a t, .int n u, .int 1 s1.toks] }).push { cls := .type "range_iterator", data := .fields #[rawInt a, rawInt (Builtin.Range.rangeSize a n 1), rawInt 1] }, toks := s1.toks + 1 }) fr2 (fun b o e => Heap.get?_push_of_some _ e) (Heap.get?_push_size _ rfl) rfl rfl
  exact ⟨_, _, .range a (n - a), μ1, rfl, hI, R2.newB fr2, by rw [sz]; rfl, R3, q⟩

noncomputable def storable (S : Scope) (x : Str) : Bool := S.names.lookup x == some .local || S.names.lookup x == some .cell

theorem kind_cases {S : Scope} {x : Str} (hS : c.env.scope = S) (hk : storable S x = true) : c.env.kindOf x = some .local ∨ c.env.kindOf x = some .cell := by
  unfold Env.kindOf
  rw [hS]
  unfold storable at hk
  simpa using hk


theorem st_of {S : Scope} {x : Str} {v : V} {rv : Value} {Hs : Held} {s : Shared} {E : Value → Shared → Prop} (hS : c.env.scope = S) (hk : storable S x = true) (hC : Celled c) (R : Rel c Hs m μ s) (hv : v.Is rv) :
    wpAny (MM w) c.A (storeName c.env x rv) (fun _ s' => Rel c Hs (m.set x v) μ s') E s := by
  have muC : ∀ a o, μ a = some o → a ≠ c.env.locals := fun a o e => (R.mu a o e).2.2.1
  rcases kind_cases hS hk with q | q
  · obtain ⟨mC, n, z⟩ := R.nsC
    refine wpAny_storeName_local q n (fun h' hn hs => ?_) (by show (c.env.scope.kind == .class || (c.env.scope.kind == .module && c.env.locals != c.env.globals)) = false; rw [c.hek]; rfl)
    have k : ∀ b ob, b ≠ c.env.locals → s.heap.get? b = some ob → h'.get? b = some ob := fun b ob n q => (hs.2 b n).trans q
    have fN : ¬ FrameOf c.outer c.env.locals := fun f => by
      obtain ⟨o, ho⟩ := Option.isSome_iff_exists.mp (R.fin _ f)
      exact (R.held _ o ho).2.1 rfl
    refine ⟨R.gens, R.os, fun b ob q => k b ob (fun z => by rw [z, R.Cnew] at q; cases q) (R.base b ob q), frames_to _ R.frames (fun b ob fb q => ⟨ob, k b ob (fun z => fN (z ▸ fb)) q, rfl⟩), R.Lnew, ?_, R.Cnew, ⟨_, hn, fun y u e hy => ?_⟩, fun y u e hy => ?_,
      (fun y ca e => let ⟨⟨v, ⟨oc, h2, h2'⟩⟩, r⟩ := R.cells y ca e; ⟨⟨v, ⟨oc, k _ _ r.2.2.1 h2, h2'⟩⟩, r⟩), R.apart, R.fin, R.h0,
      (fun b ob e => let ⟨h1, h2, sl, h3, h4⟩ := R.held b ob e; ⟨h1, h2, sl, k _ _ h2 h3, h4⟩), fun a ob e => let ⟨h1, h2, h3, h4, ro, h5, h6⟩ := R.mu a ob e; ⟨h1, h2, h3, h4, ro, k _ _ h3 h5, h6⟩⟩
    · by_cases hl : c.env.locals = c.L
      · exact ⟨_, hl ▸ hn, c.hPL hl _⟩
      · obtain ⟨mL, nL, p⟩ := R.nsL
        exact ⟨mL, nL.sameBut hs (Ne.symm hl), p⟩
    · by_cases hyx : y = x
      · subst hyx
        simp only [Vars.set, if_true, Option.some.injEq] at e
        subst e
        exact ⟨rv, by simp, hv⟩
      · simp only [Vars.set, if_neg hyx] at e
        simpa only [if_neg hyx] using z y u e hy
    · have hyx : y ≠ x := fun z => by rw [z, q] at hy; rcases hy with hy | hy <;> cases hy
      simp only [Vars.set, if_neg hyx] at e
      obtain ⟨ca, rv, h1, ⟨oc, h2, h2'⟩, h3⟩ := R.cellv y u e hy
      exact ⟨ca, rv, h1, ⟨oc, k _ _ (R.cells y ca h1).2.2.2.1 h2, h2'⟩, h3⟩
  · obtain ⟨ca, hca⟩ := Option.isSome_iff_exists.mp (hC x q)
    obtain ⟨⟨v₀, hc0⟩, d1, d2, d3, d4, d5⟩ := R.cells x ca hca
    refine wpAny_storeName_cell c.hek q hca hc0 (fun h' hn hs => ?_)
    have k : ∀ b ob, b ≠ ca → s.heap.get? b = some ob → h'.get? b = some ob := fun b ob n q => (hs.2 b n).trans q
    have fN : ¬ FrameOf c.outer ca := fun f => by
      obtain ⟨o, ho⟩ := Option.isSome_iff_exists.mp (R.fin _ f)
      rw [d4] at ho; cases ho
    refine ⟨R.gens, R.os, fun b ob q => k b ob (fun z => by rw [z, d1] at q; cases q) (R.base b ob q), frames_to _ R.frames (fun b ob fb q => ⟨ob, k b ob (fun z => fN (z ▸ fb)) q, rfl⟩), R.Lnew, (let ⟨mL, n, p⟩ := R.nsL; ⟨mL, n.sameBut hs (Ne.symm d2), p⟩), R.Cnew, ?_, fun y u e hy => ?_,
      (fun y cy e => ?_), R.apart, R.fin, R.h0,
      (fun b ob e => let ⟨h1, h2, sl, h3, h4⟩ := R.held b ob e; ⟨h1, h2, sl, k _ _ (fun z => by rw [z, d4] at e; cases e) h3, h4⟩), fun a ob e => let ⟨h1, h2, h3, h4, ro, h5, h6⟩ := R.mu a ob e; ⟨h1, h2, h3, h4, ro, k _ _ (fun z => by rw [z, d5] at e; cases e) h5, h6⟩⟩
    · obtain ⟨mC, n, z⟩ := R.nsC
      refine ⟨mC, n.sameBut hs (Ne.symm d3), fun y u e hy => ?_⟩
      have hyx : y ≠ x := fun z => by rw [z, q] at hy; cases hy
      simp only [Vars.set, if_neg hyx] at e
      exact z y u e hy
    · by_cases hyx : y = x
      · subst hyx
        simp only [Vars.set, if_true, Option.some.injEq] at e
        subst e
        exact ⟨ca, rv, hca, hn, hv⟩
      · simp only [Vars.set, if_neg hyx] at e
        obtain ⟨cy, ry, h1, ⟨oc, h2, h2'⟩, h3⟩ := R.cellv y u e hy
        exact ⟨cy, ry, h1, ⟨oc, k _ _ (fun z => hyx (R.apart y x ca (z ▸ h1) hca)) h2, h2'⟩, h3⟩
    · obtain ⟨⟨v, ⟨oc, h2, h2'⟩⟩, r⟩ := R.cells y cy e
      by_cases hyx : cy = ca
      · subst hyx; exact ⟨⟨_, hn⟩, r⟩
      · exact ⟨⟨v, ⟨oc, k _ _ hyx h2, h2'⟩⟩, r⟩
end
section
variable {w : World} {c : Cx w} {m : Vars} {μ : Mu}

noncomputable def WA (c : Cx w) (t : Expr) (v : V) (m : Vars) (μ : Mu) (Q : Vars → Prop) : Prop := ∀ Hs s rv, Rel c Hs m μ s → v.Is rv → ∀ E : Value → Shared → Prop, wpAny (MM w) c.A (assign t c.env rv) (fun _ s' => PAs c Hs μ Q s') E s

theorem A_name {S : Scope} {x : Str} {p v} {Q : Vars → Prop} (hS : c.env.scope = S) (hC : Celled c) (hk : storable S x = true) (h : Q (m.set x v)) : WA c (.Name x p) v m μ Q := fun _ _ _ R hv _ =>
  wpAny_assign_Name (wpAny_mono (st_of hS hk hC R hv) (fun _ _ z => ⟨_, z, h⟩) fun _ _ z => z)

theorem inOrder_of {S : Scope} (hS : c.env.scope = S) (hC : Celled c) : ∀ (xs : List (Str × Pos)) (vs : List V) (rvs : List Value) (m : Vars) (Hs : Held) (s : Shared) (E : Value → Shared → Prop), (∀ x ∈ xs, storable S x.1 = true) → VsIs vs rvs → Rel c Hs m μ s →
    wpAny (MM w) c.A (assignInOrder (xs.map fun x => assign (.Name x.1 x.2) c.env) rvs) (fun _ s' => Rel c Hs (bindM ((xs.map (·.1)).zip vs) m) μ s') E s
  | [], vs, rvs, m, Hs, s, E, _, hv, R => by
    have : assignInOrder (([] : List (Str × Pos)).map fun x => assign (.Name x.1 x.2) c.env) rvs = pure () := by cases rvs <;> rfl
    rw [this]
    exact wpAny_pure (by simpa [bindM] using R)
  | x :: xs, [], [], m, Hs, s, E, _, _, R => by
    show wpAny _ _ (pure ()) _ _ _
    exact wpAny_pure (by simpa [bindM] using R)
  | x :: xs, v :: vs, r :: rs, m, Hs, s, E, hk, hv, R => by
    show wpAny _ _ (do holding rs (assign (.Name x.1 x.2) c.env r); assignInOrder (xs.map fun x => assign (.Name x.1 x.2) c.env) rs) _ _ _
    refine wpAny_bind (wpAny_holding (wpAny_assign_Name (wpAny_mono (st_of hS (hk x (.head _)) hC R hv.1) (fun _ s' R' => ?_) fun _ _ z => z)))
    exact inOrder_of hS hC xs vs rs _ Hs s' E (fun y hy => hk y (.tail _ hy)) hv.2 R'
  | _ :: _, [], _ :: _, _, _, _, _, _, hv, _ => hv.elim
  | _ :: _, _ :: _, [], _, _, _, _, _, hv, _ => hv.elim

theorem A_tuple {S : Scope} {xs : List (Str × Pos)} {k p v} {Q : Vars → Prop} (hS : c.env.scope = S) (hC : Celled c) (hk : (xs.all fun x => storable S x.1) = true)
    (h : ∃ a vs, v = .ref a ∧ (μ a = some (.list vs) ∨ μ a = some (.tup vs)) ∧ vs.length = xs.length ∧ Q (bindM ((xs.map (·.1)).zip vs) m)) : WA c (.Tuple (xs.map fun x => .Name x.1 x.2) k p) v m μ Q := fun Hs s rv R hv E => by
  obtain ⟨a, vs, e1, e2, hl, q⟩ := h
  subst e1
  cases hv
  have each : ∀ xs : List (Str × Pos), assignEach (xs.map fun x => Expr.Name x.1 x.2) c.env = xs.map fun x => (false, assign (.Name x.1 x.2) c.env) := by
    intro xs
    induction xs with
    | nil => rfl
    | cons x xs ih => exact congrArg ((false, assign (.Name x.1 x.2) c.env) :: ·) ih
  have star : ∀ xs : List (Str × Pos), (xs.map fun x => (false, assign (.Name x.1 x.2) c.env)).findIdx? (·.1) = none := by
    intro xs
    induction xs with
    | nil => rfl
    | cons x xs ih => simp only [List.map_cons, List.findIdx?_cons]; simpa using ih
  have hk' : ∀ x ∈ xs, storable S x.1 = true := fun x hx => List.all_eq_true.mp hk x hx
  rw [PyProof.Rows.assign_Tuple, each]
  refine wpAny_bind (wpAny_standAt ?_)
  unfold unpack
  rw [star]
  have fin : ∀ h' rvs, VsIs vs rvs → Heap.ExtBut s.heap.objs.size s.heap h' → wpAny (MM w) c.A (assignInOrder ((xs.map fun x => (false, assign (.Name x.1 x.2) c.env)).map (·.2)) rvs) (fun _ s' => PAs c Hs μ Q s') E { s with heap := h' } := fun h' rvs z he => by
    have R' : Rel c Hs m μ { s with heap := h' } := R.keeps (s' := { s with heap := h' }) (fun b o e => he b o (Nat.ne_of_lt (Heap.lt_size e)) e) rfl rfl
    rw [List.map_map]
    exact wpAny_mono (inOrder_of hS hC xs vs rvs m Hs _ E hk' z R') (fun _ _ z => ⟨_, z, q⟩) fun _ _ z => z
  rcases e2 with e2 | e2
  · obtain ⟨rvs, il, z⟩ := R.isList e2
    have n := z.length
    have hn : (xs.map fun x => (false, assign (.Name x.1 x.2) c.env)).length = (List.toArray rvs).size := by rw [List.length_map, List.size_toArray]; omega
    rw [hn]
    exact wpAny_bind (wpAny_holding (kun_itemsOf c.hh il fun h' he => fin h' rvs z he))
  · obtain ⟨rvs, il, z⟩ := R.tup e2
    have n := z.length
    have hn : (xs.map fun x => (false, assign (.Name x.1 x.2) c.env)).length = (List.toArray rvs).size := by rw [List.length_map, List.size_toArray]; omega
    rw [hn]
    exact wpAny_bind (wpAny_holding (PyProof.Rows.unpackItems_tuple c.hh il fun h' he => fin h' rvs z he))

theorem S_nil {Q : Fl → Vars → Mu → Prop} (h : Q .next m μ) : WS c [] m μ Q := fun _ _ R => wpAny_execs_nil ⟨.next, m, μ, rfl, R, h⟩
theorem S_cons {st : Stmt} {rest : List Stmt} {Q : Fl → Vars → Mu → Prop} (h : WS1 c st m μ (fun fl m' μ' => match fl with | .next => WS c rest m' μ' Q | fl => Q fl m' μ')) : WS c (st :: rest) m μ Q := fun Hs s R =>
  wpAny_execs_cons (wpAny_mono (h Hs s R) (fun f s' hx0 => by
    obtain ⟨fl, m', μ', hf, R', q⟩ := hx0
    cases fl with
    | next => cases hf; exact q Hs s' R'
    | brk => cases hf; exact ⟨.brk, m', μ', rfl, R', q⟩
    | cont => cases hf; exact ⟨.cont, m', μ', rfl, R', q⟩
    | ret v => obtain ⟨r, rfl, hv⟩ := hf; exact ⟨.ret v, m', μ', ⟨r, rfl, hv⟩, R', q⟩) fun _ _ z => z)

theorem S_assign {S : Scope} {x : Str} {xp e p} {rest : List Stmt} {Q : Fl → Vars → Mu → Prop} (hS : c.env.scope = S) (hC : Celled c) (hk : storable S x = true) (h : WE c e m μ (fun v μ' => WS c rest (m.set x v) μ' Q))
    (hs : swapsWith e (some (.Name x xp)) p.line c.env = pure false := by rfl) : WS c (.Assign [.Name x xp] e p :: rest) m μ Q := fun Hs s R =>
  wpAny_execs_cons (wpAny_Assign_Name (wpAny_mono (h Hs s R) (fun _ s1 hx1 => by obtain ⟨_, _, hv, R1, q⟩ := hx1; exact wpAny_mono (st_of hS hk hC R1 hv) (fun _ s2 R2 => q Hs s2 R2) fun _ _ z => z) fun _ _ z => z) hs)

theorem S_assignT {S : Scope} {xs : List (Str × Pos)} {k tp e p} {rest : List Stmt} {Q : Fl → Vars → Mu → Prop} (hS : c.env.scope = S) (hC : Celled c) (hk : (xs.all fun x => storable S x.1) = true)
    (h : WE c e m μ (fun v μ' => ∃ a vs, v = .ref a ∧ (μ' a = some (.list vs) ∨ μ' a = some (.tup vs)) ∧ vs.length = xs.length ∧ WS c rest (bindM ((xs.map (·.1)).zip vs) m) μ' Q))
    (hs : swapsWithSole [.Tuple (xs.map fun x => .Name x.1 x.2) k tp] e p.line c.env = pure false := by rfl) (hw : swappedStores [.Tuple (xs.map fun x => .Name x.1 x.2) k tp] e c.env = pure none := by rfl) : WS c (.Assign [.Tuple (xs.map fun x => .Name x.1 x.2) k tp] e p :: rest) m μ Q := fun Hs s R =>
  wpAny_execs_cons (PyProof.Rows.Assign_Tuple (wpAny_mono (h Hs s R) (fun rv s1 hx2 => by
    obtain ⟨v, μ1, hv, R1, a, vs, e1, e2, hl, q⟩ := hx2
    have := A_tuple (m := m) (p := tp) (k := k) (Q := fun m' => WS c rest m' μ1 Q) hS hC hk ⟨a, vs, e1, e2, hl, q⟩ Hs s1 rv R1 hv c.E
    exact wpAny_mono this (fun _ s2 hx3 => by obtain ⟨m', R2, z⟩ := hx3; exact z Hs s2 R2) fun _ _ z => z) fun _ _ z => z) hs hw)

theorem S_setattr {o e : Expr} {name : Str} {pa p} {rest : List Stmt} {Q : Fl → Vars → Mu → Prop}
    (h : WE c e m μ (fun v μ1 => WE c o m μ1 (fun ov μ2 => ∃ a C d fs, ov = .ref a ∧ μ2 a = some (.inst C d) ∧ μ2 d = some (.dict fs) ∧ storeOk (KK w) C name = true ∧ fs.length ≤ 900 ∧ WS c rest m (μ2.set d (.dict (putF fs name v))) Q)))
    (hs : swapsWith e (some (.Attribute o name pa)) p.line c.env = pure false := by rfl) : WS c (.Assign [.Attribute o name pa] e p :: rest) m μ Q := fun Hs s R =>
  wpAny_execs_cons (plainObj_wpAny_Assign_Attribute (wpAny_mono (h Hs s R) (fun _ s1 ⟨v, _, hv, R1, h1⟩ => wpAny_mono (h1 Hs s1 R1) (fun _ s2 hx4 => by
    obtain ⟨_, μ2, ho, R2, a, C, d, fs, eo, e1, e2, ok, hl, q⟩ := hx4
    subst eo
    cases ho
    exact set_of R2 e1 e2 ok hl hv fun s3 R3 => q Hs s3 R3) fun _ _ z => z) fun _ _ z => z) hs)

theorem S_setitem {o i e : Expr} {pa p} {rest : List Stmt} {Q : Fl → Vars → Mu → Prop}
    (h : WE c e m μ (fun v μ1 => WE c o m μ1 (fun ov μ2 => WE c i m μ2 (fun iv μ3 => ∃ a vs k, ov = .ref a ∧ iv = .int k ∧ μ3 a = some (.list vs) ∧ (0 ≤ k ∧ k < vs.length ∧ vs.length ≤ 1000000) ∧ WS c rest m (μ3.set a (.list (vs.set k.toNat v))) Q))))
    (hs : swapsWith e (some (.Subscript o i pa)) p.line c.env = pure false := by rfl) : WS c (.Assign [.Subscript o i pa] e p :: rest) m μ Q := fun Hs s R =>
  wpAny_execs_cons (wpAny_Assign_Subscript (wpAny_mono (h Hs s R) (fun rv s1 ⟨v, _, hv, R1, h1⟩ => wpAny_mono (h1 Hs s1 R1) (fun _ s2 ⟨_, _, ho, R2, h2⟩ => wpAny_mono (h2 Hs s2 R2) (fun _ s3 hx5 => by
    obtain ⟨_, μ3, hi, R3, a, vs, k, eo, ei, e1, ⟨h0, hlt, hl⟩, q⟩ := hx5
    subst eo ei
    cases ho
    obtain ⟨t, rfl⟩ := hi
    obtain ⟨rvs, n, ho, z⟩ := R3.list e1
    have len := z.length
    refine ki_setAt ho h0 (by omega) (by rw [List.size_toArray]; omega) ?_
    have g := PySem.IsL.update ho (fun xs => xs.setIfInBounds k.toNat rv)
    have ee : (List.toArray rvs).setIfInBounds k.toNat rv = List.toArray (rvs.set k.toNat rv) := by apply Array.toList_inj.mp; simp
    rw [ee] at g
    exact q Hs _ (R3.upd (s' := { s3 with heap := s3.heap.update a (Obj.mapSeq fun xs => xs.setIfInBounds k.toNat rv) }) (o' := .list (vs.set k.toNat v)) e1 (Heap.SameBut.update ..) g ⟨rvs.set k.toNat rv, _, rfl, z.set hv _⟩ rfl rfl)) fun _ _ z => z) fun _ _ z => z) fun _ _ z => z) hs)

theorem S_expr {e : Expr} {p} {rest : List Stmt} {Q : Fl → Vars → Mu → Prop} (h : WE c e m μ (fun _ μ' => WS c rest m μ' Q)) (hi : interactive c.env = false) (hs : swapsWith e none p.line c.env = pure false := by rfl) : WS c (.Expr e p :: rest) m μ Q := fun Hs s R => by
  refine wpAny_execs_cons ?_
  show wpAny _ _ (do
    standAt p
    if interactive c.env then printExpr (eval e c.env)
    else if ← swapsWith e none p.line c.env then do evalThenUse e c.env fun _ => point; pure .next
    else do dropValue e p (← eval e c.env)) _ _ _
  refine wpAny_bind (wpAny_standAt ?_)
  rw [hi, hs]
  simp only [Bool.false_eq_true, if_false]
  refine wpAny_bind (wpAny_pure ?_)
  simp only [Bool.false_eq_true, if_false]
  exact wpAny_bind (wpAny_mono (h Hs s R) (fun _ s1 hx6 => by obtain ⟨_, _, _, R1, q⟩ := hx6; exact wpAny_dropValue (q Hs s1 R1)) fun _ _ z => z)

theorem S_ret {e : Expr} {p} {rest : List Stmt} {Q : Fl → Vars → Mu → Prop} (h : WE c e m μ (fun v μ' => Q (.ret v) m μ')) : WS c (.Return (some e) p :: rest) m μ Q := fun Hs s R => by
  refine wpAny_execs_cons ?_
  show wpAny _ _ (do standAt p; let v ← eval e c.env; return Flow.ret v) _ _ _
  exact wpAny_bind (wpAny_standAt (wpAny_bind (wpAny_mono (h Hs s R) (fun rv s1 hx7 => by obtain ⟨v, μ', hv, R1, q⟩ := hx7; exact wpAny_pure ⟨.ret v, m, μ', ⟨rv, rfl, hv⟩, R1, q⟩) fun _ _ z => z)))
theorem S_ret0 {p} {rest : List Stmt} {Q : Fl → Vars → Mu → Prop} (h : Q (.ret .none) m μ) : WS c (.Return none p :: rest) m μ Q := fun _ _ R => by
  refine wpAny_execs_cons ?_
  show wpAny _ _ (do standAt p; return Flow.ret Value.none) _ _ _
  exact wpAny_bind (wpAny_standAt (wpAny_pure ⟨.ret .none, m, μ, ⟨_, rfl, rfl⟩, R, h⟩))

theorem S_if {t : Expr} {b o rest : List Stmt} {p} {Q : Fl → Vars → Mu → Prop} (h : WB c t m μ (fun r μ' => if r then WS c b m μ' (fun fl m' μ2 => match fl with | .next => WS c rest m' μ2 Q | fl => Q fl m' μ2)
      else WS c o m μ' (fun fl m' μ2 => match fl with | .next => WS c rest m' μ2 Q | fl => Q fl m' μ2))) : WS c (.If t b o p :: rest) m μ Q :=
  S_cons fun Hs s R => wpAny_If (wpAny_mono (h Hs s R) (fun r s1 hx8 => by
    obtain ⟨r', μ1, e, R1, q⟩ := hx8
    subst e
    cases r with
    | true => exact (by simpa using q : WS c b m μ1 _) Hs s1 R1
    | false => exact (by simpa using q : WS c o m μ1 _) Hs s1 R1) fun _ _ z => z)

theorem letOwned_of {t : Expr} {I : Addr} {o : Obj} {k : It} {rv : Value} {E : Value → Shared → Prop} {s : Shared} {Q : Unit → Shared → Prop} (hI : s.heap.get? I = some o) (hk : ItObj k o) (h : Q () s) : wpAny (MM w) c.A (letOwnedTupleGo t (.ref I) rv) Q E s := by
  have look : wpAny (MM w) c.A (do
      let (.ref r, .ref a) := ((.ref I : Value), rv) | return
      let o ← load r
      match o.cls, o.data with
      | .type n, .fields vs =>
        if ["enumerate", "zip", "dict_itemiterator", "dict_reverseitemiterator", "odict_iterator", "itertools.zip_longest", "itertools.pairwise"].contains n && vs[0]? == some (rawInt a) then
          rule "for.unpacks-the-owned-tuple"
          updateField r 0 .none
      | _, _ => pure ()) Q E s := by
    cases rv <;> first | exact wpAny_pure h | skip
    refine wpAny_bind (wpAny_load hI ?_)
    obtain ⟨oc, od, oda, osl⟩ := o
    cases k with
    | list => obtain ⟨rfl, rfl⟩ := hk; exact wpAny_pure h
    | tup => obtain ⟨rfl, rfl⟩ := hk; exact wpAny_pure h
    | range => cases hk; exact wpAny_pure h
  cases t <;> first | exact wpAny_pure h | exact look

noncomputable def Cx.withE (c : Cx w) (E' : Value → Shared → Prop) : Cx w := { c with E := E' }
theorem Rel.toE {Hs : Held} {s : Shared} {E'} (R : Rel c Hs m μ s) : Rel (c.withE E') Hs m μ s := ⟨R.gens, R.os, R.base, R.frames, R.Lnew, R.nsL, R.Cnew, R.nsC, R.cellv, R.cells, R.apart, R.fin, R.h0, R.held, R.mu⟩
theorem Rel.ofE {Hs : Held} {s : Shared} {E'} (R : Rel (c.withE E') Hs m μ s) : Rel c Hs m μ s := ⟨R.gens, R.os, R.base, R.frames, R.Lnew, R.nsL, R.Cnew, R.nsC, R.cellv, R.cells, R.apart, R.fin, R.h0, R.held, R.mu⟩
noncomputable def loopE (c : Cx w) : Value → Shared → Prop := notedBy (MM w) c.A c.env fun e s' => cameBackBy (MM w) c.A c.env c.E e s'

theorem S_for {target iter : Expr} {body rest : List Stmt} {p} {Q : Fl → Vars → Mu → Prop} (J : Nat → It → Vars → Mu → Prop)
    (hi : WI c iter m μ (fun k μ0 => ∃ j, J j k m μ0))
    (turn : ∀ c' : Cx w, (∀ r S, At c r S → At c' r S) → c' = c.withE (loopE c) → ∀ j k m1 μ1, J j k m1 μ1 → (Step μ1 k none ∧ WS c rest m1 μ1 Q) ∨ (∃ v k', Step μ1 k (some (v, k')) ∧ WA c' target v m1 μ1 (fun m2 => WS c' body m2 μ1 (fun fl m3 μ3 => match fl with
      | .next => ∃ j', j' < j ∧ J j' k' m3 μ3
      | .cont => ∃ j', j' < j ∧ J j' k' m3 μ3
      | .brk => WS c rest m3 μ3 Q
      | .ret v => Q (.ret v) m3 μ3))))
    (hs : ∀ x, foldedSetIterable iter c.env x = pure x := by intro _; rfl) : WS c (.For target iter body [] p :: rest) m μ Q := fun Hs s R => by
  refine wpAny_execs_cons (wpAny_For (wpAny_mono (hi Hs s R) (fun rx s1 h1 => wpAny_mono h1 (fun rv s2 hz0 => ?_) fun _ _ z => z) fun _ _ z => z) hs)
  obtain ⟨I, o, k, μ0, e, hI, hB, hk, R2, j, hJ⟩ := hz0
  subst e
  have hF := R.notFrame hI
  refine codeAny_forLoop_any (fun n s => ∃ k o m1 μ1, ItObj k o ∧ Rel c (Hs.set I o) m1 μ1 s ∧ J n k m1 μ1) (fun n s3 hz1 => ?_) j ⟨k, o, m, μ0, hk, R2, hJ⟩
  obtain ⟨k, o, m1, μ1, hk, R3, hJ⟩ := hz1
  rcases turn (c.withE (loopE c)) (fun r S h => ⟨h.room, h.scope, h.celled, h.own⟩) rfl n k m1 μ1 hJ with ⟨st, z⟩ | ⟨v, k', st, z⟩
  · refine wpAny_mono (next_of hI hF hB R3 hk st _) (fun r s4 hz2 => ?_) fun _ _ z => z
    obtain ⟨e, R4⟩ := hz2
    subst e
    refine wpAny_execs_nil ?_
    exact z Hs s4 R4
  · refine wpAny_mono (next_of hI hF hB R3 hk st _) (fun r s4 hz3 => ?_) fun _ _ z => z
    obtain ⟨rv, o', e, hv, hk', R4⟩ := hz3
    subst e
    refine letOwned_of (c := c) ((R4.held I o' (Held.set_self ..)).2.2.exact hF) hk' ?_
    refine wpAny_mono (z (Hs.set I o') s4 rv R4.toE hv _) (fun _ s5 hz4 => ?_) fun _ _ z => z
    obtain ⟨m2, R5, z2⟩ := hz4
    refine wpAny_mono (z2 (Hs.set I o') s5 R5) (fun f s6 hz5 => ?_) fun _ _ z => z
    obtain ⟨fl, m3, μ3, hf, R6, q⟩ := hz5
    have R6 := R6.ofE
    have U : ∀ {m μ}, Rel c (Hs.set I o') m μ s6 → Rel c Hs m μ s6 := fun R => R.unhold hI hF hB (fun _ _ _ e => e) rfl rfl
    cases fl with
    | next => cases hf; obtain ⟨j', lt, hJ'⟩ := q; exact ⟨j', lt, k', o', m3, μ3, hk', R6, hJ'⟩
    | cont => cases hf; obtain ⟨j', lt, hJ'⟩ := q; exact ⟨j', lt, k', o', m3, μ3, hk', R6, hJ'⟩
    | brk => cases hf; exact q Hs s6 (U R6)
    | ret v => obtain ⟨r, rfl, hv⟩ := hf; exact ⟨.ret v, m3, μ3, ⟨r, rfl, hv⟩, U R6, q⟩
end
theorem closure_all (env : Env) : ∀ (names : List (Str × NameKind)) (cs : List (Str × Addr)), (∀ x, (x, NameKind.free) ∈ names → (env.cells.lookup x).isSome = true) → (∀ x ca, cs.lookup x = some ca → env.cells.lookup x = some ca) →
    ∃ cl, (forIn (m := Sem) names cs (fun x r => if (x.2 == NameKind.free) = true then do let a ← cellOf env x.1; pure (ForInStep.yield ((x.1, a) :: r)) else pure (ForInStep.yield r))) = pure cl ∧
      (∀ x ca, cl.lookup x = some ca → env.cells.lookup x = some ca) ∧ ∀ x, ((x, NameKind.free) ∈ names ∨ (cs.lookup x).isSome = true) ↔ (cl.lookup x).isSome = true
  | [], cs, _, h => ⟨cs, rfl, h, fun x => ⟨fun z => by rcases z with z | z; (· exact absurd z List.not_mem_nil); (· exact z), .inr⟩⟩
  | (n, k) :: r, cs, hn, h => by
    by_cases hk : (k == NameKind.free) = true
    · have hk' : k = .free := by simpa using hk
      subst hk'
      obtain ⟨ca, hca⟩ := Option.isSome_iff_exists.mp (hn n (.head _))
      obtain ⟨cl, e, h1, h2⟩ := closure_all env r ((n, ca) :: cs) (fun x hx => hn x (.tail _ hx)) (fun x c q => by
        rw [List.lookup_cons] at q
        cases hx : x == n with
        | true => rw [hx] at q; cases q; rw [eq_of_beq hx]; exact hca
        | false => rw [hx] at q; exact h x c q)
      refine ⟨cl, ?_, h1, fun x => ⟨fun z => (h2 x).mp ?_, fun z => ?_⟩⟩
      · rw [List.forIn_cons]
        have : cellOf env n = pure ca := by unfold cellOf; rw [hca]
        simp only [hk, if_true, this]
        exact e
      · by_cases hx : x = n
        · subst hx; right; simp
        · rcases z with z | z
          · rcases List.mem_cons.mp z with q | q
            · cases q; exact absurd rfl hx
            · exact .inl q
          · right
            rw [List.lookup_cons]
            have : (x == n) = false := by simpa using hx
            rw [this]; exact z
      · rcases (h2 x).mpr z with q | q
        · exact .inl (.tail _ q)
        · rw [List.lookup_cons] at q
          cases hx : x == n with
          | true => rw [eq_of_beq hx]; exact .inl (.head _)
          | false => rw [hx] at q; exact .inr q
    · obtain ⟨cl, e, h1, h2⟩ := closure_all env r cs (fun x hx => hn x (.tail _ hx)) h
      refine ⟨cl, ?_, h1, fun x => ⟨fun z => (h2 x).mp ?_, fun z => ?_⟩⟩
      · rw [List.forIn_cons]
        simp only [hk]
        exact e
      · rcases z with z | z
        · rcases List.mem_cons.mp z with q | q
          · cases q; exact absurd rfl hk
          · exact .inl q
        · exact .inr z
      · rcases (h2 x).mpr z with q | q
        · exact .inl (.tail _ q)
        · exact .inr q

theorem closureFor_all (env : Env) (scope : Scope) (hn : ∀ x, (x, NameKind.free) ∈ scope.names → (env.cells.lookup x).isSome = true) :
    ∃ cl, closureFor scope env = pure cl ∧ (∀ x ca, cl.lookup x = some ca → env.cells.lookup x = some ca) ∧ ∀ x, (x, NameKind.free) ∈ scope.names ↔ (cl.lookup x).isSome = true := by
  obtain ⟨cl, e, h1, h2⟩ := closure_all env scope.names [] hn (fun x ca q => by simp at q)
  refine ⟨cl, ?_, h1, fun x => ⟨fun z => (h2 x).mp (.inl z), fun z => ((h2 x).mpr z).resolve_right (by simp)⟩⟩
  have e' : closureFor scope env = ((forIn (m := Sem) scope.names [] (fun x r => if (x.2 == NameKind.free) = true then do let a ← cellOf env x.1; pure (ForInStep.yield ((x.1, a) :: r)) else pure (ForInStep.yield r))) >>= fun r => pure r) := rfl
  rw [e', e]
  rfl

noncomputable def relab (scope S : Scope) : Scope :=
  { scope with names := scope.names.map fun (n, k) => if (k == .free && S.names.lookup n == some .cell) then (n, .cell) else (n, k) }
theorem relab_eq {scope S : Scope} {env : Env} (hS : env.scope = S) (hk : env.scope.kind = .function) : relabel scope env = relab scope S := by
  unfold relabel relab Env.kindOf
  rw [hk, hS]
  have : (ScopeKind.function == ScopeKind.function) = true := rfl
  simp only [this, Bool.and_true]

noncomputable def cm (scope : Scope) (m : Vars) : Vars := fun x => if scope.names.lookup x = some .free then m x else none
theorem cm_get {scope : Scope} {m : Vars} {x : Str} {v : V} (h : m x = some v) (hk : scope.names.lookup x = some .free := by rfl) : cm scope m x = some v := by
  unfold cm
  rw [if_pos hk]; exact h

noncomputable def compOk (scope S : Scope) (x : Str) : Bool :=
  scope.kind == .function && scope.names.all (fun p => p.2 != .cell && (p.2 != .local || scope.names.lookup p.1 == some .local) && (p.2 != .free || (scope.names.lookup p.1 == some .free && S.names.lookup p.1 == some .cell))) && scope.names.lookup x == some .local
structure At0 {w : World} (c : Cx w) (r : Nat) (S : Scope) : Prop where
  room : c.room = r
  scope : c.env.scope = S
  celled : Celled c

section
variable {w : World} {c : Cx w} {m : Vars} {μ : Mu}

theorem self_of {k : It} {o : Obj} {I : Addr} {s : Shared} {A : Around} {Q : Value → Shared → Prop} {E : Value → Shared → Prop} (hI : s.heap.get? I = some o) (hk : ItObj k o) (h : Q (.ref I) s) : wpAny (MM w) A (pyIter (.ref I)) Q E s := by
  cases k with
  | list l i => exact wpAny_pyIter_listiter ⟨o, hI, hk.1, hk.2⟩ h
  | tup l i => exact wpAny_pyIter_tupleiter ⟨o, hI, hk.1, hk.2⟩ h
  | range x left => cases hk; exact wpAny_pyIter_rangeiter (step := 1) hI h

theorem Held.set_comm (H : Held) {I D : Addr} (o p : Obj) (h : I ≠ D) : (H.set I o).set D p = (H.set D p).set I o := by
  funext b
  unfold Held.set
  by_cases h1 : b = D
  · by_cases h2 : b = I
    · exact absurd (h2.symm.trans h1) h
    · rw [if_pos h1, if_neg h2, if_pos h1]
  · by_cases h2 : b = I
    · rw [if_neg h1, if_pos h2, if_pos h2]
    · rw [if_neg h1, if_neg h2, if_neg h2, if_neg h1]

theorem Rel.lessM {Hs : Held} {s : Shared} (R : Rel c Hs m μ s) {m' : Vars} (h : ∀ x v, m' x = some v → m x = some v) : Rel c Hs m' μ s :=
  { R with
    nsC := let ⟨mC, n, z⟩ := R.nsC; ⟨mC, n, fun x v e q => z x v (h x v e) q⟩
    cellv := fun x v e q => R.cellv x v (h x v e) q }

noncomputable def compCx (c : Cx w) (scope : Scope) (cl : List (Str × Addr)) (C : Addr) (E : Value → Shared → Prop) (mC : Str → Option Value) (hk : scope.kind = .function) (hC : C ≠ c.L) : Cx w :=
  { c with env := compEnvC scope cl C c.env, E := E, PL := fun mm => mm = mC, hek := hk, heg := c.heg, heb := c.heb, hPL := fun e => absurd e hC }

open Classical in
noncomputable def otherC (env : Env) (cl : List (Str × Addr)) (h : Heap) (Hs : Held) : Held := fun b => if ∃ x, env.cells.lookup x = some b ∧ cl.lookup x = none then h.get? b else Hs b

theorem otherC_pos {env : Env} {cl : List (Str × Addr)} {h : Heap} {Hs : Held} {b : Addr} (e : ∃ x, env.cells.lookup x = some b ∧ cl.lookup x = none) : otherC env cl h Hs b = h.get? b := by unfold otherC; exact if_pos e
theorem otherC_neg {env : Env} {cl : List (Str × Addr)} {h : Heap} {Hs : Held} {b : Addr} (e : ¬ ∃ x, env.cells.lookup x = some b ∧ cl.lookup x = none) : otherC env cl h Hs b = Hs b := by unfold otherC; exact if_neg e

noncomputable def listObj (rvs : List Value) (n : Nat) : Obj := { cls := .type "list", data := .seq (List.toArray rvs) n }

theorem Rel.intoComp {scope : Scope} {cl : List (Str × Addr)} {C : Addr} {E mC hk hC} {Hs : Held} {s s' : Shared} (R : Rel c Hs m μ s) (hown : c.env.locals = c.L) (hn : s.heap.Ns c.L mC)
    (hcl : ∀ x ca, cl.lookup x = some ca → c.env.cells.lookup x = some ca)
    (hkind : ∀ x v, cm scope m x = some v → (relabel scope c.env).names.lookup x ≠ some .local ∧ c.env.kindOf x = some .cell ∧ (cl.lookup x).isSome = true)
    (hCn : s.heap.get? C = none) (k : ∀ b o, s.heap.get? b = some o → s'.heap.get? b = some o) (hns : s'.heap.Ns C (fun _ => none)) (hg : s'.gens = s.gens) (ho : s'.os = s.os) :
    Rel (compCx c scope cl C E mC hk hC) (otherC c.env cl s.heap Hs) (cm scope m) μ s' := by
  have nC : ∀ {b o}, s.heap.get? b = some o → b ≠ C := fun e z => by rw [z, hCn] at e; cases e
  have iffO : ∀ x ca, c.env.cells.lookup x = some ca → cl.lookup x = some ca → ¬ ∃ y, c.env.cells.lookup y = some ca ∧ cl.lookup y = none := fun x ca e e' hx0 => by
    obtain ⟨y, h1, h2⟩ := hx0
    have := R.apart x y ca e h1
    rw [this] at e'; rw [h2] at e'; cases e'
  refine ⟨hg.trans R.gens, ho.trans R.os, fun b o e => k b o (R.base b o e), frames_to _ R.frames fun b o _ e => ⟨o, k b o e, rfl⟩, R.Lnew, ⟨mC, hn.keeps k, rfl⟩, (R.newB hCn).1, ⟨_, hns, fun x v e q => ?_⟩, fun x v e q => ?_, fun x ca e => ?_, fun x y ca e e' => R.apart x y ca (hcl _ _ e) (hcl _ _ e'), fun b hb => ?_, fun b o e => (otherC_neg (fun hx1 => by obtain ⟨x, hx, _⟩ := hx1; have := (R.cells x b hx).2.2.2.2.1; rw [R.h0 b o e] at this; cases this)).trans (R.h0 b o e), fun b o e => ?_, fun a o e => ?_⟩
  · exact absurd q (hkind x v e).1
  · obtain ⟨h1, h2, h3⟩ := hkind x v e
    obtain ⟨ca, hca⟩ := Option.isSome_iff_exists.mp h3
    have em : m x = some v := by unfold cm at e; split at e; (· exact e); (· cases e)
    obtain ⟨ca', rv, g1, ⟨oc, g2, g2'⟩, g3⟩ := R.cellv x v em (.inl h2)
    have : ca' = ca := Option.some.inj (g1.symm.trans (hcl _ _ hca))
    subst this
    exact ⟨ca', rv, hca, ⟨oc, k _ _ g2, g2'⟩, g3⟩
  · obtain ⟨⟨v, oc, g1, g1'⟩, g2, g3, g4, g5, g6⟩ := R.cells x ca (hcl _ _ e)
    refine ⟨⟨v, oc, k _ _ g1, g1'⟩, g2, g3, nC g1, ?_, g6⟩
    exact (otherC_neg (iffO x ca (hcl _ _ e) e)).trans g5
  · have hb := R.fin b hb
    by_cases hq : ∃ x, c.env.cells.lookup x = some b ∧ cl.lookup x = none
    · rw [otherC_pos hq]
      obtain ⟨o, ho⟩ := Option.isSome_iff_exists.mp hb
      obtain ⟨_, _, sl, h3, _⟩ := R.held b o ho
      rw [h3]; rfl
    · rw [otherC_neg hq]; exact hb
  · by_cases hq : ∃ x, c.env.cells.lookup x = some b ∧ cl.lookup x = none
    · rw [otherC_pos hq] at e
      obtain ⟨x, hx, _⟩ := hq
      obtain ⟨_, _, g3, _⟩ := R.cells x b hx
      exact ⟨g3, nC e, .here (k _ _ e)⟩
    · rw [otherC_neg hq] at e
      obtain ⟨h1, h2, sl, h3, h4⟩ := R.held b o e
      exact ⟨h1, nC h3, sl, k _ _ h3, h4⟩
  · obtain ⟨h1, h2, h3, h4, ro, h5, h6⟩ := R.mu a o e
    refine ⟨h1, h2, nC h5, ?_, ro, k _ _ h5, h6⟩
    rw [otherC_neg]; exact h4
    rintro ⟨x, hx, _⟩
    obtain ⟨_, _, _, _, _, g6⟩ := R.cells x a hx
    rw [e] at g6; cases g6

theorem Rel.outComp {scope : Scope} {cl : List (Str × Addr)} {C D : Addr} {E mC hk hC} {Hs H' : Held} {s s' : Shared} {μ' : Mu} {acc : List V} {racc : List Value} {n : Nat} (R : Rel c Hs m μ s) (hown : c.env.locals = c.L) (hn : s.heap.Ns c.L mC)
    (hloc : ∀ x v, m x = some v → c.env.kindOf x = some .local → ∃ rv, mC x = some rv ∧ v.Is rv)
    (hcl : ∀ x ca, cl.lookup x = some ca → c.env.cells.lookup x = some ca)
    (hfree : ∀ x v, m x = some v → (cl.lookup x).isSome = true → cm scope m x = some v)
    (hck : ∀ x, (cl.lookup x).isSome = true → (relabel scope c.env).names.lookup x = some .cell)
    (hD : s.heap.get? D = none) (hCn : s.heap.get? C = none) (hva : VsIs acc racc)
    (H2 : ∀ b o, Hs b = some o → H' b = some o) (hO : ∀ x ca, c.env.cells.lookup x = some ca → cl.lookup x = none → H' ca = s.heap.get? ca) (DD : H' D = some (listObj racc n))
    (R' : Rel (compCx c scope cl C E mC hk hC) H' (cm scope m) μ' s') :
    ∃ oC, Hs C = none ∧ Rel c (Hs.set C oC) m (μ'.set D (.list acc)) s' ∧ s'.heap.get? C = some oC ∧ ∃ mm, s'.heap.Ns C mm := by
  obtain ⟨mm, oC, es, ep, hoC, hdC, hrC⟩ : ∃ mm, s'.heap.Ns C mm := let ⟨mC', n', _⟩ := R'.nsC; ⟨mC', n'⟩
  have inS : ∀ b o, Hs b = some o → ∃ o', s.heap.get? b = some o' := fun b o e => let ⟨_, _, sl, h3, _⟩ := R.held b o e; ⟨_, h3⟩
  have nHC : Hs C = none := by
    cases q : Hs C with
    | none => rfl
    | some o => obtain ⟨o', h⟩ := inS C o q; rw [hCn] at h; cases h
  have nHD : Hs D = none := by
    cases q : Hs D with
    | none => rfl
    | some o => obtain ⟨o', h⟩ := inS D o q; rw [hD] at h; cases h
  have cellIn : ∀ x ca, c.env.cells.lookup x = some ca → ∃ o, s.heap.get? ca = some o := fun x ca e => let ⟨⟨v, o, h, _⟩, _⟩ := R.cells x ca e; ⟨o, h⟩
  have other : ∀ x ca, c.env.cells.lookup x = some ca → cl.lookup x = none → s'.heap.get? ca = s.heap.get? ca ∧ μ' ca = none := fun x ca e q => by
    obtain ⟨o, ho⟩ := cellIn x ca e
    have hh : H' ca = some o := (hO x ca e q).trans ho
    refine ⟨((R'.held ca o hh).2.2.exact (R.notFrame (R.cells x ca e).2.2.2.2.1)).trans ho.symm, ?_⟩
    cases z : μ' ca with
    | none => rfl
    | some x => have := (R'.mu ca x z).2.2.2.1; rw [hh] at this; cases this
  refine ⟨oC, nHC, ⟨R'.gens, R'.os, R'.base, R'.frames, R.Lnew, ?_, R.Cnew, ?_, fun x v e q => ?_, fun x ca e => ?_, R.apart, fun b hb => ?_, fun b o e => (Held.set_ne _ _ (fun z => by have := R.h0 b o e; rw [z, nHC] at this; cases this)).trans (R.h0 b o e), fun b o e => ?_, fun a o e => ?_⟩, hoC, mm, oC, es, ep, hoC, hdC, hrC⟩
  · obtain ⟨mL, nL, eL⟩ := R'.nsL
    exact ⟨mL, nL, c.hPL hown _⟩
  · obtain ⟨mL, nL, eL⟩ := R'.nsL
    have eL : mL = mC := eL
    subst eL
    exact ⟨mL, hown ▸ nL, hloc⟩
  · obtain ⟨ca, rv, h1, ⟨oc, h2, h2'⟩, h3⟩ := R.cellv x v e q
    cases z : cl.lookup x with
    | none => exact ⟨ca, rv, h1, ⟨oc, (other x ca h1 z).1.trans h2, h2'⟩, h3⟩
    | some ca' =>
      have hs : (cl.lookup x).isSome = true := by rw [z]; rfl
      obtain ⟨ca2, rv2, g1, g2, g3⟩ := R'.cellv x v (hfree x v e hs) (.inl (hck x hs))
      exact ⟨ca2, rv2, hcl _ _ g1, g2, g3⟩
  · obtain ⟨⟨v, oc, h2, h2'⟩, g1, g2, g3, g4, g5⟩ := R.cells x ca e
    have nC : ca ≠ C := by rintro rfl; rw [hCn] at h2; cases h2
    have nD : ca ≠ D := by rintro rfl; rw [hD] at h2; cases h2
    refine ⟨?_, g1, g2, g3, by rw [Held.set_ne _ _ nC]; exact g4, ?_⟩
    · cases z : cl.lookup x with
      | none => exact ⟨v, oc, (other x ca e z).1.trans h2, h2'⟩
      | some ca' =>
        have : ca' = ca := Option.some.inj ((hcl _ _ z).symm.trans e)
        subst this
        exact (R'.cells x ca' z).1
    · rw [Mu.set_ne _ _ nD]
      cases z : cl.lookup x with
      | none => exact (other x ca e z).2
      | some ca' =>
        have : ca' = ca := Option.some.inj ((hcl _ _ z).symm.trans e)
        subst this
        exact (R'.cells x ca' z).2.2.2.2.2
  · by_cases q : b = C
    · rw [q, Held.set_self]; rfl
    · rw [Held.set_ne _ _ q]; exact R.fin b hb
  · by_cases q : b = C
    · subst q
      rw [Held.set_self] at e
      cases e
      exact ⟨hC, hown ▸ hC, .here hoC⟩
    · rw [Held.set_ne _ _ q] at e
      obtain ⟨h1, h2, _⟩ := R.held b o e
      exact ⟨h1, h2, (R'.held b o (H2 b o e)).2.2⟩
  · by_cases q : a = D
    · subst q
      rw [Mu.set_self] at e
      cases e
      obtain ⟨h1, h2, h3⟩ := R'.held a _ DD
      have h1 : a ≠ c.L := h1
      have h2 : a ≠ C := h2
      refine ⟨(R.newB hD).1, h1, hown ▸ h1, by rw [Held.set_ne _ _ h2]; exact nHD, _, h3.exact (R.notFrame nHD), racc, n, rfl, hva⟩
    · rw [Mu.set_ne _ _ q] at e
      obtain ⟨h1, h2, h3, h4, r⟩ := R'.mu a o e
      have h3 : a ≠ C := h3
      refine ⟨h1, h2, hown ▸ h2, ?_, r⟩
      rw [Held.set_ne _ _ h3]
      cases z : Hs a with
      | none => rfl
      | some x => rw [H2 a x z] at h4; cases h4
end
theorem otherC_set {env : Env} {cl : List (Str × Addr)} {h : Heap} {Hs : Held} {I : Addr} {o : Obj} (n : ∀ x ca, env.cells.lookup x = some ca → ca ≠ I) : otherC env cl h (Hs.set I o) = (otherC env cl h Hs).set I o := by
  funext b
  by_cases q : ∃ x, env.cells.lookup x = some b ∧ cl.lookup x = none
  · obtain ⟨x, hx, _⟩ := id q
    rw [otherC_pos q, Held.set_ne _ _ (n x b hx), otherC_pos q]
  · rw [otherC_neg q]
    unfold Held.set
    rw [otherC_neg q]
theorem otherC_heap {env : Env} {cl : List (Str × Addr)} {h h' : Heap} {Hs : Held} (n : ∀ x ca, env.cells.lookup x = some ca → h'.get? ca = h.get? ca) : otherC env cl h' Hs = otherC env cl h Hs := by
  funext b
  by_cases q : ∃ x, env.cells.lookup x = some b ∧ cl.lookup x = none
  · obtain ⟨x, hx, _⟩ := id q
    rw [otherC_pos q, otherC_pos q, n x b hx]
  · rw [otherC_neg q, otherC_neg q]

theorem lookup_of_mem_free {names : List (Str × NameKind)} {x : Str} {k : NameKind} (h : names.lookup x = some k) : (x, k) ∈ names := mem_of_lookup h

theorem relab_lookup {S : Scope} : ∀ {names : List (Str × NameKind)} {x : Str} {k}, names.lookup x = some k → 
    (names.map fun (n, k) => if (k == NameKind.free && S.names.lookup n == some NameKind.cell) then (n, NameKind.cell) else (n, k)).lookup x = some (if (k == .free && S.names.lookup x == some .cell) then .cell else k)
  | [], _, _, h => by simp at h
  | (n, k) :: r, x, k', h => by
    have ih := @relab_lookup S r x k'
    show List.lookup x ((if (k == NameKind.free && S.names.lookup n == some .cell) = true then (n, NameKind.cell) else (n, k)) :: _) = _
    cases hx : x == n with
    | true =>
      simp only [List.lookup_cons, hx] at h
      cases h
      have : x = n := eq_of_beq hx
      subst this
      by_cases hc : (k == NameKind.free && S.names.lookup x == some .cell) = true
      · rw [if_pos hc, if_pos hc]; simp [List.lookup_cons]
      · rw [if_neg hc, if_neg hc]; simp [List.lookup_cons]
    | false =>
      simp only [List.lookup_cons, hx] at h
      by_cases hc : (k == NameKind.free && S.names.lookup n == some .cell) = true
      · rw [if_pos hc]; simp only [List.lookup_cons, hx]; exact ih h
      · rw [if_neg hc]; simp only [List.lookup_cons, hx]; exact ih h

section
variable {w : World} {c : Cx w} {m : Vars} {μ : Mu}

noncomputable def WTst (c : Cx w) (ifs : List Expr) (m : Vars) (μ : Mu) (Q : Bool → Mu → Prop) : Prop :=
  match ifs with
  | [] => Q true μ
  | [t] => WB c t m μ Q
  | _ => False

theorem tests_of {ifs : List Expr} {Q : Bool → Mu → Prop} (h : WTst c ifs m μ Q) {Hs : Held} {s : Shared} (R : Rel c Hs m μ s) :
    wpAny (MM w) c.A (forIn (m := Sem) ifs true fun t r => if r = true then do let ok ← isTrue t c.env (eval t c.env); pure (ForInStep.yield ok) else pure (ForInStep.yield r)) (fun b s' => ∃ μ', Rel c Hs m μ' s' ∧ Q b μ') c.E s := by
  match ifs, h with
  | [], h => exact wpAny_pure ⟨μ, R, h⟩
  | [t], h =>
    rw [List.forIn_cons]
    simp only [if_true]
    refine wpAny_bind (wpAny_bind (wpAny_mono (h Hs s R) (fun b s' hz0 => ?_) fun _ _ z => z))
    obtain ⟨b', μ', e, R', q⟩ := hz0
    subst e
    exact wpAny_pure (wpAny_pure ⟨μ', R', q⟩)

theorem comp_rule {S scope : Scope} {t : Str} {px pos p : Pos} {iter elt : Expr} {ifs : List Expr} {use : Option (Value → Sem Unit)} {Qf : Value → Shared → Prop} {Fin : List V → Mu → Prop} (J : Nat → It → List V → Mu → Prop)
    (hS : c.env.scope = S) (hC : Celled c) (hown : c.env.locals = c.L) (ok : compOk scope S t = true)
    (hi : WI c iter m μ (fun k μ0 => ∃ n, J n k [] μ0))
    (turn : ∀ c' : Cx w, At0 c' c.room (relab scope S) → ∀ n k acc μ1, J n k acc μ1 → acc.length ≤ 1000000 ∧ ((Step μ1 k none ∧ Fin acc μ1) ∨ ∃ v k', Step μ1 k (some (v, k')) ∧
      WTst c' ifs ((cm scope m).set t v) μ1 (fun ok μ2 => if ok then WE c' elt ((cm scope m).set t v) μ2 (fun x μ3 => ∃ n', n' < n ∧ J n' k' (acc ++ [x]) μ3) else ∃ n', n' < n ∧ J n' k' acc μ2)))
    {Hs : Held} {s : Shared} (R : Rel c Hs m μ s)
    (fin : ∀ D C oC acc μ1 s1, Fin acc μ1 → Hs C = none → c.Free C → μ1 D = none → Rel c (Hs.set C oC) m (μ1.set D (.list acc)) s1 → s1.heap.get? C = some oC → (∃ mm, s1.heap.Ns C mm) → compPost (MM w) c.A c.E use Qf (.ref D) C (.ok .next) s1)
    (hs : ∀ x, foldedSetIterable iter c.env x = pure x) :
    wpAny (MM w) c.A (comprehension (.ListComp elt [⟨.Name t px, iter, ifs, 0⟩] scope pos) scope c.env p (newList []) false (eval iter c.env) use) Qf c.E s := by
  unfold compOk at ok
  obtain ⟨ok1, ok3⟩ := Bool.and_eq_true_iff.mp ok
  obtain ⟨ok1, ok2⟩ := Bool.and_eq_true_iff.mp ok1
  have hkind : scope.kind = .function := by simpa using ok1
  have ht : scope.names.lookup t = some .local := by simpa using ok3
  have all : ∀ x ∈ scope.names, x.2 ≠ .cell ∧ (x.2 = .local → scope.names.lookup x.1 = some .local) ∧ (x.2 = .free → scope.names.lookup x.1 = some .free ∧ S.names.lookup x.1 = some .cell) := fun x hx => by
    have := List.all_eq_true.mp ok2 x hx
    simp only [Bool.and_eq_true, Bool.or_eq_true, bne_iff_ne, beq_iff_eq] at this
    obtain ⟨⟨a, b⟩, d⟩ := this
    exact ⟨a, fun e => b.resolve_left (not_not_intro e), fun e => d.resolve_left (not_not_intro e)⟩
  have kindS : ∀ x, c.env.kindOf x = S.names.lookup x := fun x => by unfold Env.kindOf; rw [hS]
  have hre : relabel scope c.env = relab scope S := relab_eq hS c.hek
  obtain ⟨cl, hclos, hcl1, hcl2⟩ := closureFor_all c.env scope fun x hx => hC x ((kindS x).trans ((all _ hx).2.2 rfl).2)
  have clFree : ∀ x, (cl.lookup x).isSome = true → scope.names.lookup x = some .free ∧ S.names.lookup x = some .cell := fun x h => (all _ ((hcl2 x).mpr h)).2.2 rfl
  have relFree : ∀ x, scope.names.lookup x = some .free → (relabel scope c.env).names.lookup x = some .cell := fun x h => by
    rw [hre]
    have := relab_lookup (S := S) h
    have e := ((all _ (mem_of_lookup h)).2.2 rfl).2
    rw [e] at this
    exact this
  have relLoc : (relab scope S).names.lookup t = some .local := relab_lookup (S := S) ht
  refine wpAny_comprehension_free rfl hs hclos hkind (fun x hx => (all x hx).2.1) ?_
  refine wpAny_mono (hi Hs s R) (fun rx s1 h1 => wpAny_mono h1 (fun rv s2 hz1 => ?_) fun _ _ z => z) fun _ _ z => z
  obtain ⟨I, o, k, μ0, e, hI, hB, hk, R2, n0, hJ⟩ := hz1
  subst e
  have R2' : Rel c Hs m μ0 s2 := R2.unhold hI (R.notFrame hI) hB (fun _ _ _ e => e) rfl rfl
  have hF := R.notFrame hI
  have nIc : ∀ x ca, c.env.cells.lookup x = some ca → ca ≠ I := fun x ca q z => by
    obtain ⟨_, _, _, _, h5, _⟩ := R2.cells x ca q
    rw [z, Held.set_self] at h5; cases h5
  have iI : s2.heap.get? I = some o := (R2.held I o (Held.set_self ..)).2.2.exact hF
  generalize hD : s2.heap.objs.size = D
  have fD : s2.heap.get? D = none := get_of_lt (Nat.le_of_eq hD)
  refine wpAny_newObj_type ?_
  rw [hD]
  generalize hH : s2.heap.push { cls := .type "list", dict := none, data := .seq ([] : List Value).toArray } = H
  have kH : ∀ b o, s2.heap.get? b = some o → H.get? b = some o := fun b o e => by rw [← hH]; exact Heap.get?_push_of_some _ e
  have dH : H.get? D = some (listObj [] 0) := by rw [← hH, ← hD]; exact Heap.get?_push_size _ rfl
  obtain ⟨hDn, R3⟩ := R2.hold (s' := { s2 with heap := H }) fD kH dH rfl rfl
  have DI : D ≠ I := fun z => by rw [z, iI] at fD; cases fD
  have hDn' : Hs D = none := by rw [Held.set_ne _ _ DI] at hDn; exact hDn
  generalize hC' : H.objs.size = C
  have fC : H.get? C = none := get_of_lt (Nat.le_of_eq hC')
  refine wpAny_newFunctionEnv (fun x hx => (all x hx).1) (by intro y hy; simp at hy) (fun h' hns hsb => ?_) hkind
  dsimp only at hns hsb ⊢
  rw [hC'] at hns hsb ⊢
  have CL : C ≠ c.L := fun z => by
    obtain ⟨_, ⟨_, _, _, h, _⟩, _⟩ := R3.nsL
    have h : H.get? c.L = _ := h
    rw [← z, fC] at h; cases h
  obtain ⟨mC, nC, hloc⟩ := R2.nsC
  rw [hown] at nC
  have fC2 : s2.heap.get? C = none := by
    cases z : s2.heap.get? C with
    | none => rfl
    | some o => rw [kH _ _ z] at fC; cases fC
  have kh' : ∀ b o, H.get? b = some o → h'.get? b = some o := fun b o e => hsb.extBut b o (fun z => by rw [z, fC] at e; cases e) (Heap.get?_push_of_some _ e)
  have cmk : ∀ x v, cm scope m x = some v → scope.names.lookup x = some .free ∧ m x = some v := fun x v e => by
    unfold cm at e
    split at e
    · exact ⟨‹_›, e⟩
    · cases e
  let RR : Result → Shared → Prop := compPost (MM w) c.A c.E use Qf (.ref D) C
  let c' := compCx c scope cl C (notedBy (MM w) c.A (compEnvC scope cl C c.env) fun e s' => RR (.error e) s') mC hkind CL
  have at' : At0 c' c.room (relab scope S) := ⟨rfl, hre, fun x hx => by
    have hx : (relabel scope c.env).names.lookup x = some .cell := hx
    show (cl.lookup x).isSome = true
    refine (hcl2 x).mp ?_
    rw [hre] at hx
    obtain ⟨⟨y, k⟩, hy, e⟩ := List.mem_map.mp (mem_of_lookup hx)
    dsimp only at e
    split at e
    · rename_i hq
      cases e
      have : k = .free := by simpa using (Bool.and_eq_true_iff.mp hq).1
      rw [this] at hy; exact hy
    · cases e
      exact absurd rfl (all _ hy).1⟩
  have hstart : Rel c' (otherC c.env cl H ((Hs.set I o).set D (listObj [] 0))) (cm scope m) μ0 { s2 with heap := h', toks := s2.toks + ([] : List (Str × Value)).length } := by
    refine R3.intoComp (s' := { s2 with heap := h', toks := s2.toks + ([] : List (Str × Value)).length }) hown (nC.keeps kH) hcl1 (fun x v e => ?_) fC kh' hns rfl rfl
    obtain ⟨e1, e2⟩ := cmk x v e
    obtain ⟨f1, f2⟩ := (all _ (mem_of_lookup e1)).2.2 rfl
    refine ⟨(by rw [relFree x e1]; intro q; cases q), (kindS x).trans f2, (hcl2 x).mp (mem_of_lookup e1)⟩
  have cellS : ∀ x ca, c.env.cells.lookup x = some ca → ∃ o, s2.heap.get? ca = some o := fun x ca e => let ⟨⟨v, o, h, _⟩, _⟩ := R2'.cells x ca e; ⟨o, h⟩
  have nDc : ∀ x ca, c.env.cells.lookup x = some ca → ca ≠ D := fun x ca q z => by
    obtain ⟨o, ho⟩ := cellS x ca q
    rw [z, fD] at ho; cases ho
  rw [otherC_set nDc, otherC_set nIc, otherC_heap (h := s2.heap) fun x ca e => by
    obtain ⟨o, ho⟩ := cellS x ca e
    rw [ho]; exact kH _ _ ho] at hstart
  generalize hHX : otherC c.env cl s2.heap Hs = HX at hstart
  have notOther : ∀ b, (∀ x ca, c.env.cells.lookup x = some ca → ca ≠ b) → HX b = Hs b := fun b n => by
    rw [← hHX]; exact otherC_neg fun hz2 => by obtain ⟨x, hx, _⟩ := hz2; exact n x b hx rfl
  have xI : HX I = none := (notOther I nIc).trans hI
  have xD : HX D = none := (notOther D nDc).trans hDn'
  have bD : c'.Free D := R2'.newB fD
  have frD : ¬ FrameOf c'.outer D := R2'.notFrame hDn'
  have loop : ∀ s4, Rel c' ((HX.set I o).set D (listObj [] 0)) (cm scope m) μ0 s4 →
      codeAny (MM w) c.A (.compLoop (.ListComp elt [⟨.Name t px, iter, ifs, 0⟩] scope pos) 0 (.ref I) (.ref D) (compEnvC scope cl C c.env)) RR s4 := fun s4 R4 => by
    refine codeAny_compLoop_tests (fun n s => ∃ k oI acc racc nn μ1, ItObj k oI ∧ VsIs acc racc ∧ Rel c' ((HX.set I oI).set D (listObj racc nn)) (cm scope m) μ1 s ∧ J n k acc μ1) (fun n s5 hz3 => ?_) n0 ⟨k, o, [], [], 0, μ0, hk, trivial, R4, hJ⟩
    obtain ⟨k, oI, acc, racc, nn, μ1, hk, hv0, R5, hJ⟩ := hz3
    obtain ⟨hlen, q⟩ := turn c' at' n k acc μ1 hJ
    have R5' : Rel c' ((HX.set D (listObj racc nn)).set I oI) (cm scope m) μ1 s5 := by rw [← Held.set_comm _ _ _ DI.symm]; exact R5
    have yI : (HX.set D (listObj racc nn)) I = none := by rw [Held.set_ne _ _ DI.symm]; exact xI
    rcases q with ⟨st, q⟩ | ⟨v, k', st, q⟩
    · refine wpAny_mono (next_of (c := c') yI hF hB R5' hk st _) (fun r s6 hz4 => ?_) fun _ _ z => z
      obtain ⟨e, R6⟩ := hz4
      subst e
      obtain ⟨oC, f1, f2, f3, f4⟩ := R2'.outComp hown nC (fun x v e q => let ⟨rv, a, b⟩ := hloc x v e q; ⟨rv, a, b⟩) hcl1 (fun x v e q => by
        unfold cm; rw [if_pos (clFree x q).1]; exact e) (fun x q => relFree x (clFree x q).1) fD fC2 hv0
        (H' := HX.set D (listObj racc nn)) (fun b ob e => by
          have : HX b = some ob := by
            rw [notOther b fun x ca q z => by
              have := (R2'.cells x ca q).2.2.2.2.1
              rw [z, e] at this; cases this]
            exact e
          rw [Held.set_ne]
          · exact this
          · rintro rfl; rw [hDn'] at e; cases e) (fun x ca e q => by
          rw [Held.set_ne _ _ (nDc x ca e), ← hHX]
          exact otherC_pos ⟨x, e, q⟩) (Held.set_self ..) R6
      have μD : μ1 D = none := by
        cases z : μ1 D with
        | none => rfl
        | some x => have := (R6.mu D x z).2.2.2.1; rw [Held.set_self] at this; cases this
      exact fin D C oC acc μ1 s6 q f1 (R2'.newB fC2) μD f2 f3 f4
    · refine wpAny_mono (next_of (c := c') yI hF hB R5' hk st _) (fun r s6 hz5 => ?_) fun _ _ z => z
      obtain ⟨rv, o', e, hv, hk', R6⟩ := hz5
      subst e
      refine wpAny_assign_Name (wpAny_mono (st_of (c := c') hre (by unfold storable; rw [relLoc]; rfl) at'.celled R6 hv) (fun _ s7 R7 => ?_) fun _ _ z => z)
      have R7' : Rel c' ((HX.set D (listObj racc nn)).set I o') ((cm scope m).set t v) μ1 s7 := R7
      refine wpAny_mono (tests_of q R7') (fun b s8 hz6 => ?_) fun _ _ z => z
      obtain ⟨μ2, R8, q⟩ := hz6
      have back : ∀ {H μ s}, Rel c' H ((cm scope m).set t v) μ s → Rel c' H (cm scope m) μ s := fun R => R.lessM fun x u e => by
        unfold Vars.set
        rw [if_neg]; exact e
        rintro rfl
        have := (cmk x u e).1
        rw [ht] at this; cases this
      cases b with
      | false =>
        simp only [Bool.false_eq_true, if_false] at q ⊢
        obtain ⟨n', lt, hJ'⟩ := q
        exact ⟨n', lt, k', o', acc, racc, nn, μ2, hk', hv0, by rw [Held.set_comm _ _ _ DI.symm]; exact back R8, hJ'⟩
      | true =>
        simp only [if_true] at q ⊢
        refine wpAny_mono (q _ s8 R8) (fun rx s9 hz7 => ?_) fun _ _ z => z
        obtain ⟨x, μ3, hx, R9, n', lt, hJ'⟩ := hz7
        have R9 : Rel c' ((HX.set D (listObj racc nn)).set I o') ((cm scope m).set t v) μ3 s9 := R9
        have g := (R9.held D (listObj racc nn) (by rw [Held.set_ne _ _ DI, Held.set_self])).2.2.exact frD
        have hl : racc.length = acc.length := hv0.length.symm
        refine wpAny_list_append_plain ⟨nn, g⟩ (fun h9 ⟨nn', hp⟩ hsb9 => ?_) (by rw [List.size_toArray]; unfold sizeLine; omega)
        have yD : (HX.set I o') D = none := by rw [Held.set_ne _ _ DI]; exact xD
        have R10 : Rel c' ((HX.set I o').set D (listObj (racc ++ [rx]) nn')) (cm scope m) μ3 { s9 with heap := h9 } := by
          rw [← Held.set_comm _ _ _ DI.symm] at R9
          exact back (R9.reheld (s' := { s9 with heap := h9 }) yD frD bD hsb9 (by rw [hp]; simp [listObj]) rfl rfl)
        exact ⟨n', lt, k', o', acc ++ [x], racc ++ [rx], nn', μ3, hk', hv0.append ⟨hx, trivial⟩, R10, hJ'⟩
  exact codeAny_compStart_list (loop _ hstart) (self_of (by
    have := (hstart.held I o (by rw [Held.set_ne _ _ DI.symm, Held.set_self])).2.2
    exact this.exact hF) hk (loop _ hstart))
end
section
variable {w : World} {c : Cx w} {m : Vars} {μ : Mu}

theorem W_comp {S scope : Scope} {t : Str} {px pos : Pos} {iter elt : Expr} {ifs : List Expr} {Q : V → Mu → Prop} (J : Nat → It → List V → Mu → Prop)
    (hS : c.env.scope = S) (hC : Celled c) (hown : c.env.locals = c.L) (ok : compOk scope S t = true)
    (hi : WI c iter m μ (fun k μ0 => ∃ n, J n k [] μ0))
    (turn : ∀ c' : Cx w, At0 c' c.room (relab scope S) → ∀ n k acc μ1, J n k acc μ1 → acc.length ≤ 1000000 ∧ ((Step μ1 k none ∧ ∀ D, μ1 D = none → Q (.ref D) (μ1.set D (.list acc))) ∨ ∃ v k', Step μ1 k (some (v, k')) ∧
      WTst c' ifs ((cm scope m).set t v) μ1 (fun ok μ2 => if ok then WE c' elt ((cm scope m).set t v) μ2 (fun x μ3 => ∃ n', n' < n ∧ J n' k' (acc ++ [x]) μ3) else ∃ n', n' < n ∧ J n' k' acc μ2)))
    (hs : ∀ x, foldedSetIterable iter c.env x = pure x := by intro _; rfl) : WE c (.ListComp elt [⟨.Name t px, iter, ifs, 0⟩] scope pos) m μ Q := fun Hs s R => by
  rw [eval_ListComp]
  refine comp_rule J hS hC hown ok hi turn R (fun D C oC acc μ1 s1 q hC hB hD R1 _ hn => ?_) hs
  obtain ⟨mm, hn⟩ := hn
  refine ⟨mm, hn, fun h' hsb => ?_⟩
  exact ⟨.ref D, _, rfl, R1.unhold (s' := { s1 with heap := h' }) hC (R.notFrame hC) hB hsb.extBut rfl rfl, q D hD⟩

theorem swaps_comp {S scope : Scope} {x : Str} {xp pos : Pos} {elt : Expr} {gens} {line : Nat} (hS : c.env.scope = S)
    (ok : (S.names.lookup x == some .local && xp.line == pos.line && !(scope.names.any fun p => p.1 == x && (p.2 == .local || p.2 == .cell))) = true) :
    swapsWith (.ListComp elt gens scope pos) (some (.Name x xp)) line c.env = pure true := by
  have e : swapsWith (.ListComp elt gens scope pos) (some (.Name x xp)) line c.env = pure (c.env.blockKind == .function && c.env.kindOf x == some .local && xp.line == pos.line && !(scope.names.any fun p => p.1 == x && (p.2 == .local || p.2 == .cell))) := rfl
  have b : c.env.blockKind = .function := by unfold Env.blockKind; rw [c.hek]; rfl
  have kS : c.env.kindOf x = S.names.lookup x := by unfold Env.kindOf; rw [hS]
  rw [e, b, kS]
  have : (ScopeKind.function == ScopeKind.function) = true := rfl
  rw [this, Bool.true_and, ok]

theorem S_assignC {S scope : Scope} {x t : Str} {xp px pos p : Pos} {iter elt : Expr} {ifs : List Expr} {rest : List Stmt} {Q : Fl → Vars → Mu → Prop} (J : Nat → It → List V → Mu → Prop)
    (hS : c.env.scope = S) (hC : Celled c) (hown : c.env.locals = c.L) (ok : compOk scope S t = true)
    (ok2 : (S.names.lookup x == some .local && xp.line == pos.line && !(scope.names.any fun p => p.1 == x && (p.2 == .local || p.2 == .cell))) = true)
    (hi : WI c iter m μ (fun k μ0 => ∃ n, J n k [] μ0))
    (turn : ∀ c' : Cx w, At0 c' c.room (relab scope S) → ∀ n k acc μ1, J n k acc μ1 → acc.length ≤ 1000000 ∧ ((Step μ1 k none ∧ ∀ D, μ1 D = none → WS c rest (m.set x (.ref D)) (μ1.set D (.list acc)) Q) ∨ ∃ v k', Step μ1 k (some (v, k')) ∧
      WTst c' ifs ((cm scope m).set t v) μ1 (fun ok μ2 => if ok then WE c' elt ((cm scope m).set t v) μ2 (fun x μ3 => ∃ n', n' < n ∧ J n' k' (acc ++ [x]) μ3) else ∃ n', n' < n ∧ J n' k' acc μ2)))
    (hs : ∀ x, foldedSetIterable iter c.env x = pure x := by intro _; rfl) : WS c (.Assign [.Name x xp] (.ListComp elt [⟨.Name t px, iter, ifs, 0⟩] scope pos) p :: rest) m μ Q := fun Hs s R => by
  refine wpAny_execs_cons ?_
  rw [exec_Assign_Name_used _ _ _ _ (swaps_comp hS ok2)]
  refine wpAny_bind (wpAny_standAt (wpAny_bind ?_))
  show wpAny _ _ (do let _ ← comprehension (.ListComp elt [⟨.Name t px, iter, ifs, 0⟩] scope pos) scope c.env _ (newList []) false (eval iter c.env) (some (assign (.Name x xp) c.env))) _ _ s
  refine wpAny_bind (wpAny_mono (comp_rule (Qf := fun _ s' => ∃ (D : Addr) (acc : List V) (μ1 : Mu), WS c rest (m.set x (.ref D)) (μ1.set D (.list acc)) Q ∧ Rel c Hs (m.set x (.ref D)) (μ1.set D (.list acc)) s') J hS hC hown ok hi turn R (fun D C oC acc μ1 s1 q hCn hB hD R1 hg hn => ?_) hs) (fun _ s' ⟨D, acc, μ1, q, R'⟩ => ?_) fun _ _ z => z)
  · refine wpAny_assign_Name (wpAny_mono (st_of hS (by unfold storable; simp only [Bool.and_eq_true] at ok2; rw [ok2.1.1]; rfl) hC R1 (v := .ref D) rfl) (fun _ s2 R2 => ?_) fun _ _ z => z)
    obtain ⟨mm, o, es, ep, ho, hn⟩ := hn
    have := (R2.held C oC (Held.set_self ..)).2.2.exact (R.notFrame hCn)
    rw [hg] at ho
    cases ho
    exact ⟨mm, ⟨_, es, ep, this, hn⟩, fun h' hsb => ⟨D, acc, μ1, q D hD, R2.unhold (s' := { s2 with heap := h' }) hCn (R.notFrame hCn) hB hsb.extBut rfl rfl⟩⟩
  · exact wpAny_pure (wpAny_pure (q Hs s' R'))
end
noncomputable def Own (L : List (List (Addr × O))) (μ : Mu) : Prop := (L.flatten.map (·.1)).Nodup ∧ ∀ p ∈ L.flatten, μ p.1 = some p.2

inductive Pick : List (Addr × O) → List (List (Addr × O)) → List (List (Addr × O)) → Prop
  | head {b L} : Pick b (b :: L) L
  | tail {b x L L'} (h : Pick b L L') : Pick b (x :: L) (x :: L')
inductive Picks : List (List (Addr × O)) → List (List (Addr × O)) → List (List (Addr × O)) → Prop
  | nil {L} : Picks [] L L
  | cons {b P L L1 K} (h : Pick b L L1) (r : Picks P L1 K) : Picks (b :: P) L K

theorem Pick.perm {b L L'} (h : Pick b L L') : L.flatten.Perm (b ++ L'.flatten) := by
  induction h with
  | head => exact .refl _
  | tail _ ih =>
    simp only [List.flatten_cons]
    refine (List.Perm.append_left _ ih).trans ?_
    rw [← List.append_assoc, ← List.append_assoc]
    exact List.Perm.append_right _ List.perm_append_comm
theorem Picks.perm {P L K} (h : Picks P L K) : L.flatten.Perm ((P ++ K).flatten) := by
  induction h with
  | nil => exact .refl _
  | cons h r ih =>
    simp only [List.cons_append, List.flatten_cons]
    exact h.perm.trans (List.Perm.append_left _ ih)

section
variable {L L' P K : List (List (Addr × O))} {μ : Mu} {a : Addr} {o o' : O}
theorem Own.to (H : Own L μ) (h : L.flatten.Perm L'.flatten) : Own L' μ := ⟨(h.map _).nodup_iff.mp H.1, fun p hp => H.2 p (h.mem_iff.mpr hp)⟩
theorem Own.eq (H : Own L μ) (h : L.flatten = L'.flatten := by rfl) : Own L' μ := H.to (h ▸ .refl _)
theorem Own.picks (H : Own L μ) (h : Picks P L K) : Own (P ++ K) μ := H.to h.perm
theorem Own.pick {b} (H : Own L μ) (h : Pick b L L') : Own (b :: L') μ := H.to h.perm
theorem Own.tail {b} (H : Own (b :: L) μ) : Own L μ := by
  refine ⟨?_, fun p hp => H.2 p (by rw [List.flatten_cons]; exact List.mem_append_right _ hp)⟩
  have := H.1
  rw [List.flatten_cons, List.map_append] at this
  exact (List.nodup_append.mp this).2.1
theorem Own.left (H : Own (P ++ K) μ) : Own P μ := by
  refine ⟨?_, fun p hp => H.2 p (by rw [List.flatten_append]; exact List.mem_append_left _ hp)⟩
  have := H.1
  rw [List.flatten_append, List.map_append] at this
  exact (List.nodup_append.mp this).1
theorem Own.get (H : Own L μ) (p : Pick [(a, o)] L L') : μ a = some o := (H.pick p).2 (a, o) (by simp)
theorem Own.new (H : Own L μ) (h : μ a = none) : Own ([(a, o)] :: L) (μ.set a o) := by
  have nin : ∀ q ∈ L.flatten, q.1 ≠ a := fun q hq z => by have := H.2 q hq; rw [z, h] at this; cases this
  refine ⟨?_, fun p hp => ?_⟩
  · show (((a, o) :: L.flatten).map (·.1)).Nodup
    rw [List.map_cons, List.nodup_cons]
    refine ⟨fun hm => ?_, H.1⟩
    obtain ⟨q, hq, e⟩ := List.mem_map.mp hm
    exact nin q hq e
  · have hp : p ∈ (a, o) :: L.flatten := hp
    rcases List.mem_cons.mp hp with rfl | hp
    · exact Mu.set_self ..
    · exact (Mu.set_ne _ _ (nin p hp)).trans (H.2 p hp)
theorem Own.put (H : Own ([(a, o)] :: L) μ) : Own ([(a, o')] :: L) (μ.set a o') := by
  have h1 : (((a, o) :: L.flatten).map (·.1)).Nodup := H.1
  rw [List.map_cons, List.nodup_cons] at h1
  refine ⟨?_, fun p hp => ?_⟩
  · show (((a, o') :: L.flatten).map (·.1)).Nodup
    rw [List.map_cons, List.nodup_cons]
    exact h1
  · have hp : p ∈ (a, o') :: L.flatten := hp
    rcases List.mem_cons.mp hp with rfl | hp
    · exact Mu.set_self ..
    · have : p.1 ≠ a := fun z => h1.1 (List.mem_map.mpr ⟨p, hp, z⟩)
      exact (Mu.set_ne _ _ this).trans (H.2 p (by show p ∈ (a, o) :: L.flatten; exact .tail _ hp))
theorem Own.set (H : Own L μ) (p : Pick [(a, o)] L L') : Own ([(a, o')] :: L') (μ.set a o') := (H.pick p).put
end

section
variable {w : World} {c : Cx w} {m : Vars} {μ : Mu}

theorem Fn.frame {r : Nat} {f : Addr} {vs : List V} {P K : List (List (Addr × O))} {Q1 : V → Mu → Prop} (ct : ∀ μ1, Own P μ1 → Fn w r f vs μ1 Q1) (H : Own (P ++ K) μ) :
    Fn w r f vs μ (fun v μ' => ∃ μ1, Q1 v μ1 ∧ ∀ L', Own L' μ1 → Own (L' ++ K) μ') := by
  classical
  intro c Hs m s rvs hr R hv
  have H' := H
  obtain ⟨nd, hg⟩ := H
  rw [List.flatten_append] at nd hg
  rw [List.map_append] at nd
  obtain ⟨nP, nK, nPK⟩ := List.nodup_append.mp nd
  let kk : Addr → Prop := fun a => ∃ o, (a, o) ∈ K.flatten
  have kP : ∀ p ∈ P.flatten, ¬ kk p.1 := fun p hp hz0 => by obtain ⟨o, ho⟩ := hz0; exact nPK p.1 (List.mem_map.mpr ⟨p, hp, rfl⟩) p.1 (List.mem_map.mpr ⟨(p.1, o), ho, rfl⟩) rfl
  have kμ : ∀ a, kk a → ∃ o, μ a = some o := fun a hz1 => by obtain ⟨o, ho⟩ := hz1; exact ⟨o, hg (a, o) (List.mem_append_right _ ho)⟩
  let μ1 : Mu := fun a => if kk a then none else μ a
  let Hs1 : Held := fun a => if kk a then s.heap.get? a else Hs a
  have p1 : ∀ a, kk a → Hs1 a = s.heap.get? a := fun a h => if_pos h
  have n1 : ∀ a, ¬ kk a → Hs1 a = Hs a := fun a h => if_neg h
  have q1 : ∀ a, kk a → μ1 a = none := fun a h => if_pos h
  have r1 : ∀ a, ¬ kk a → μ1 a = μ a := fun a h => if_neg h
  have R1 : Rel c Hs1 m μ1 s := by
    refine { R with cells := fun x ca e => ?_, fin := fun b hb => ?_, h0 := fun b o e => (n1 b fun h => by obtain ⟨o', ho⟩ := kμ b h; have := (R.mu b o' ho).2.2.2.1; rw [R.h0 b o e] at this; cases this).trans (R.h0 b o e), held := fun b o e => ?_, mu := fun a o e => ?_ }
    · obtain ⟨h1, h2, h3, h4, h5, h6⟩ := R.cells x ca e
      have nk : ¬ kk ca := fun h => by obtain ⟨o, ho⟩ := kμ ca h; rw [h6] at ho; cases ho
      exact ⟨h1, h2, h3, h4, (n1 _ nk).trans h5, (r1 _ nk).trans h6⟩
    · by_cases h : kk b
      · obtain ⟨o, ho⟩ := kμ b h
        have := R.fin b hb
        rw [(R.mu b o ho).2.2.2.1] at this; cases this
      · rw [n1 b h]; exact R.fin b hb
    · by_cases h : kk b
      · rw [p1 b h] at e
        obtain ⟨o', ho⟩ := kμ b h
        obtain ⟨_, h2, h3, _⟩ := R.mu b o' ho
        exact ⟨h2, h3, .here e⟩
      · rw [n1 b h] at e; exact R.held b o e
    · by_cases h : kk a
      · rw [q1 a h] at e; cases e
      · rw [r1 a h] at e
        obtain ⟨h1, h2, h3, h4, h5⟩ := R.mu a o e
        exact ⟨h1, h2, h3, (n1 a h).trans h4, h5⟩
  refine codeAny_mono (ct μ1 ⟨nP, fun p hp => (r1 _ (kP p hp)).trans (hg p (List.mem_append_left _ hp))⟩ c Hs1 m s rvs hr R1 hv) fun res s' hz2 => ?_
  obtain ⟨rv, v, μ', e1, e2, R2, q⟩ := hz2
  have kμ' : ∀ a, kk a → μ' a = none := fun a h => by
    cases z : μ' a with
    | none => rfl
    | some o =>
      have := (R2.mu a o z).2.2.2.1
      rw [p1 a h] at this
      obtain ⟨o', ho⟩ := kμ a h
      obtain ⟨_, _, _, _, ro, hr, _⟩ := R.mu a o' ho
      rw [hr] at this; cases this
  let μ2 : Mu := fun a => if kk a then μ a else μ' a
  have p2 : ∀ a, kk a → μ2 a = μ a := fun a h => if_pos h
  have n2 : ∀ a, ¬ kk a → μ2 a = μ' a := fun a h => if_neg h
  refine ⟨rv, v, μ2, e1, e2, ?_, μ', q, fun L' HL => ?_⟩
  · have hsub : ∀ b o, Hs b = some o → ¬ kk b := fun b o e h => by
      obtain ⟨o', ho⟩ := kμ b h
      have := (R.mu b o' ho).2.2.2.1
      rw [e] at this; cases this
    refine { R2 with cells := fun x ca e => ?_, fin := fun b hb => R.fin b hb, h0 := R.h0, held := fun b o e => R2.held b o ((n1 b (hsub b o e)).trans e), mu := fun a o e => ?_ }
    · obtain ⟨h1, h2, h3, h4, h5, h6⟩ := R2.cells x ca e
      have nk : ¬ kk ca := fun h => by
        obtain ⟨o, ho⟩ := kμ ca h
        rw [(R.cells x ca e).2.2.2.2.2] at ho; cases ho
      exact ⟨h1, h2, h3, h4, (n1 _ nk).symm.trans h5, (n2 _ nk).trans h6⟩
    · by_cases h : kk a
      · rw [p2 a h] at e
        obtain ⟨h1, h2, h3, h4, ro, h5, h6⟩ := R.mu a o e
        exact ⟨h1, h2, h3, h4, ro, (R2.held a ro ((p1 a h).trans h5)).2.2.exact (R.notFrame h4), h6⟩
      · rw [n2 a h] at e
        obtain ⟨h1, h2, h3, h4, r⟩ := R2.mu a o e
        exact ⟨h1, h2, h3, (n1 a h).symm.trans h4, r⟩
  · have nkL : ∀ p ∈ L'.flatten, ¬ kk p.1 := fun p hp h => by
      have := HL.2 p hp
      rw [kμ' _ h] at this; cases this
    refine ⟨?_, fun p hp => ?_⟩
    · rw [List.flatten_append, List.map_append, List.nodup_append]
      refine ⟨HL.1, nK, fun x hx y hy e => ?_⟩
      obtain ⟨p, hp, rfl⟩ := List.mem_map.mp hx
      obtain ⟨q, hq, rfl⟩ := List.mem_map.mp hy
      exact nkL p hp (by rw [e]; exact ⟨q.2, hq⟩)
    · rw [List.flatten_append] at hp
      rcases List.mem_append.mp hp with hp | hp
      · exact (n2 _ (nkL p hp)).trans (HL.2 p hp)
      · exact (p2 p.1 ⟨p.2, hp⟩).trans (hg p (List.mem_append_right _ hp))

theorem Fn.use {r r' : Nat} {f : Addr} {vs : List V} {P K L : List (List (Addr × O))} {Q1 Q : V → Mu → Prop} (ct : ∀ μ1, Own P μ1 → Fn w r f vs μ1 Q1) (hr : r ≤ r') (H : Own L μ) (p : Picks P L K)
    (k : ∀ v μ1 μ', Q1 v μ1 → (∀ L', Own L' μ1 → Own (L' ++ K) μ') → Q v μ') : Fn w r' f vs μ Q :=
  (Fn.frame ct (H.picks p)).mono hr fun v μ' hx0 => by obtain ⟨μ1, q, z⟩ := hx0; exact k v μ1 μ' q z
end
noncomputable def nthB : List (List (Addr × O)) → Nat → Option (List (Addr × O))
  | [], _ => none
  | b :: _, 0 => some b
  | _ :: r, n + 1 => nthB r n
inductive In1 (b : List (Addr × O)) (L : List (List (Addr × O))) : Prop
  | mk (i : Nat) (h : nthB L i = some b) : In1 b L
theorem nthB_pick {b : List (Addr × O)} : ∀ {L : List (List (Addr × O))} {i : Nat}, nthB L i = some b → ∃ L', Pick b L L'
  | [], _, h => nomatch h
  | x :: r, 0, h => ⟨r, by cases h; exact .head⟩
  | x :: r, i + 1, h => let ⟨L', p⟩ := nthB_pick (L := r) (i := i) h; ⟨x :: L', .tail p⟩
section
variable {b : List (Addr × O)} {L L' : List (List (Addr × O))} {μ : Mu} {a : Addr} {o : O} {x : List (Addr × O)}
theorem In1.head : In1 b (b :: L) := ⟨0, rfl⟩
theorem In1.tail (h : In1 b L) : In1 b (x :: L) := by cases h with | mk i h => exact ⟨i + 1, h⟩
theorem Own.at (H : Own L μ) (p : In1 [(a, o)] L) : μ a = some o := by
  cases p with
  | mk i h => obtain ⟨L', p⟩ := nthB_pick h; exact Own.get H p
end
section
variable {w : World} {c : Cx w} {m : Vars} {μ : Mu}
inductive PNew (n : Nat) (o : O) (Q : V → Mu → Prop) (μ1 : Mu) : Prop
  | mk (L : List (List (Addr × O))) (H : Own L μ1) (hl : n ≤ 1000000) (k : ∀ a μ2, Own ([(a, o)] :: L) μ2 → Q (.ref a) μ2) : PNew n o Q μ1
theorem O_list {es : List Expr} {p} {Q : V → Mu → Prop} (h : WL c es m μ (fun vs μ1 => PNew vs.length (.list vs) Q μ1))
    (he : backTo p (starEach es c.env) = es.map (fun e => (false, eval e c.env)) := by rfl) : WE c (.List es p) m μ Q :=
  W_list (WT.mono h fun _ _ x => by cases x with | mk L H hl k => exact ⟨hl, fun a ha => k a _ (H.new ha)⟩) he
theorem O_tuple {es : List Expr} {kk p} {Q : V → Mu → Prop} (h : WL c es m μ (fun vs μ1 => PNew vs.length (.tup vs) Q μ1))
    (he : backTo p (starEach es c.env) = es.map (fun e => (false, eval e c.env)) := by rfl) : WE c (.Tuple es kk p) m μ Q :=
  W_tuple (WT.mono h fun _ _ x => by cases x with | mk L H hl k => exact ⟨hl, fun a ha => k a _ (H.new ha)⟩) he
inductive PUpto (k : Int) (Q : V → Mu → Prop) (a : V) (μ1 : Mu) : Prop
  | mk (l : Addr) (vs : List V) (L : List (List (Addr × O))) (e : a = .ref l) (H : Own L μ1) (p : In1 [(l, .list vs)] L) (hl : 0 ≤ k ∧ vs.length ≤ 1000000) (q : ∀ r μ2, Own ([(r, .list (vs.take k.toNat))] :: L) μ2 → Q (.ref r) μ2) : PUpto k Q a μ1
theorem O_upto {o : Expr} {k : Int} {j p1 p2 p} {Q : V → Mu → Prop} (h : WE c o m μ (PUpto k Q))
    (ht : ∀ a r, letTemporaryGo o a r = pure () := by intro _ _; rfl) :
    WE c (.Subscript o (.Slice none (some (.Constant (.int k) j p1)) none p2) p) m μ Q :=
  W_upto (WT.mono h fun _ _ x => by cases x with | mk l vs L e H p hl q => exact ⟨l, vs, e, H.at p, hl, fun r hr => q r _ (H.new hr)⟩) ht
inductive PRun (i k : Int) (Q : V → Mu → Prop) (a : V) (μ1 : Mu) : Prop
  | mk (l : Addr) (vs : List V) (L : List (List (Addr × O))) (e : a = .ref l) (H : Own L μ1) (p : In1 [(l, .list vs)] L) (hl : 0 ≤ i ∧ i ≤ k ∧ k ≤ vs.length ∧ vs.length ≤ 1000000) (q : ∀ r μ2, Own ([(r, .list ((vs.drop i.toNat).take (k.toNat - i.toNat)))] :: L) μ2 → Q (.ref r) μ2) : PRun i k Q a μ1
theorem O_run {o : Expr} {i k : Int} {j j' p0 p1 p2 p} {Q : V → Mu → Prop} (h : WE c o m μ (PRun i k Q))
    (ht : ∀ a r, letTemporaryGo o a r = pure () := by intro _ _; rfl) :
    WE c (.Subscript o (.Slice (some (.Constant (.int i) j' p0)) (some (.Constant (.int k) j p1)) none p2) p) m μ Q :=
  W_run (WT.mono h fun _ _ x => by cases x with | mk l vs L e H p hl q => exact ⟨l, vs, e, H.at p, hl, fun r hr => q r _ (H.new hr)⟩) ht
inductive PTup (Q : V → Mu → Prop) (a : V) (μ1 : Mu) : Prop
  | mk (l : Addr) (vs : List V) (L : List (List (Addr × O))) (e : a = .ref l) (H : Own L μ1) (p : In1 [(l, .list vs)] L) (hl : vs.length ≤ 1000000) (q : ∀ r μ2, Own ([(r, .tup vs)] :: L) μ2 → Q (.ref r) μ2) : PTup Q a μ1
theorem O_tupleOf {S : Scope} {e : Expr} {p p'} {Q : V → Mu → Prop} (hS : c.env.scope = S) (h : WE c e m μ (PTup Q))
    (hk : S.names.lookup (Str.ofString "tuple") = some .globalImplicit := by rfl) (he : backTo p' (starEach [e] c.env) = [e].map (fun e => (false, eval e c.env)) := by rfl) : WE c (.Call (.Name (Str.ofString "tuple") p) [e] [] p') m μ Q :=
  W_tupleOf hS (WT.mono h fun _ _ x => by cases x with | mk l vs L e H p hl q => exact ⟨l, vs, e, H.at p, hl, fun r hr => q r _ (H.new hr)⟩) hk he
inductive PLst (Q : V → Mu → Prop) (a : V) (μ1 : Mu) : Prop
  | mk (l : Addr) (vs : List V) (L : List (List (Addr × O))) (e : a = .ref l) (H : Own L μ1) (p : In1 [(l, .list vs)] L) (hl : vs.length ≤ 1000000) (q : ∀ r μ2, Own ([(r, .list vs)] :: L) μ2 → Q (.ref r) μ2) : PLst Q a μ1
theorem O_listOf {S : Scope} {e : Expr} {p p'} {Q : V → Mu → Prop} (hS : c.env.scope = S) (h : WE c e m μ (PLst Q))
    (hk : S.names.lookup (Str.ofString "list") = some .globalImplicit := by rfl) (he : backTo p' (starEach [e] c.env) = [e].map (fun e => (false, eval e c.env)) := by rfl) : WE c (.Call (.Name (Str.ofString "list") p) [e] [] p') m μ Q :=
  W_listOf hS (WT.mono h fun _ _ x => by cases x with | mk l vs L e H p hl q => exact ⟨l, vs, e, H.at p, hl, fun r hr => q r _ (H.new hr)⟩) hk he
inductive PSort (Q : V → Mu → Prop) (a : V) (μ1 : Mu) : Prop
  | mk (l : Addr) (xs : List Int) (L : List (List (Addr × O))) (e : a = .ref l) (H : Own L μ1) (p : In1 [(l, .list (List.map V.int xs))] L) (hl : xs.length < 64) (q : ∀ r ys μ2, ys.Perm xs → ys.Pairwise (· ≤ ·) → Own ([(r, .list (List.map V.int ys))] :: L) μ2 → Q (.ref r) μ2) : PSort Q a μ1
theorem O_sorted {S : Scope} {e : Expr} {p p'} {Q : V → Mu → Prop} (hS : c.env.scope = S) (h : WE c e m μ (PSort Q))
    (hk : S.names.lookup (Str.ofString "sorted") = some .globalImplicit := by rfl) (he : backTo p' (starEach [e] c.env) = [e].map (fun e => (false, eval e c.env)) := by rfl) : WE c (.Call (.Name (Str.ofString "sorted") p) [e] [] p') m μ Q :=
  W_sorted hS (WT.mono h fun _ _ x => by cases x with | mk l vs L e H p hl q => exact ⟨l, vs, e, H.at p, hl, fun r ys hr h1 h2 => q r ys _ h1 h2 (H.new hr)⟩) hk he
inductive PApp1 (a : Addr) (Q : V → Mu → Prop) (u : V) (μ2 : Mu) : Prop
  | mk (vs : List V) (L L' : List (List (Addr × O))) (H : Own L μ2) (p : Pick [(a, .list vs)] L L') (hl : vs.length ≤ 1000000) (k : ∀ μ3, Own ([(a, .list (vs ++ [u]))] :: L') μ3 → Q .none μ3) : PApp1 a Q u μ2
inductive PApp (c : Cx w) (e : Expr) (m : Vars) (Q : V → Mu → Prop) (v : V) (μ1 : Mu) : Prop
  | mk (a : Addr) (us : List V) (L : List (List (Addr × O))) (ev : v = .ref a) (H : Own L μ1) (p : In1 [(a, .list us)] L) (q : WE c e m μ1 (PApp1 a Q)) : PApp c e m Q v μ1
theorem O_append {o e : Expr} {apos p' : Pos} {pl : Sem Bool} {Q : V → Mu → Prop} (h : WE c o m μ (PApp c e m Q))
    (heval : eval (.Call (.Attribute o (Str.ofString "append") apos) [e] [] p') c.env = (do
      let ov ← eval o c.env
      standAt apos.atName
      let (f, first) ← holding [ov] (getMethod ov (Str.ofString "append") pl)
      callWith p' f first (backTo p' (starEach [e] c.env)) (backToKw p' (keywordEach [] c.env))) := by rfl)
    (he : backTo p' (starEach [e] c.env) = [e].map (fun e => (false, eval e c.env)) := by rfl) : WE c (.Call (.Attribute o (Str.ofString "append") apos) [e] [] p') m μ Q :=
  W_append (WT.mono h fun _ _ x => by cases x with | mk a us L ev H p q => exact ⟨a, us, ev, H.at p, WT.mono q fun _ _ x => by cases x with | mk vs L L' H p hl k => exact ⟨vs, H.get p, hl, k _ (H.set p)⟩⟩) heval he
inductive PPop1 (a : Addr) (Q : V → Mu → Prop) (i : V) (μ2 : Mu) : Prop
  | mk (k : Int) (vs : List V) (u : V) (L L' : List (List (Addr × O))) (ei : i = .int k) (H : Own L μ2) (p : Pick [(a, .list vs)] L L') (hl : 0 ≤ k ∧ k < 2 ^ 62 ∧ vs.length ≤ 1000000) (hu : vs[k.toNat]? = some u) (kk : ∀ μ3, Own ([(a, .list (vs.eraseIdx k.toNat))] :: L') μ3 → Q u μ3) : PPop1 a Q i μ2
inductive PPop (c : Cx w) (e : Expr) (m : Vars) (Q : V → Mu → Prop) (v : V) (μ1 : Mu) : Prop
  | mk (a : Addr) (us : List V) (L : List (List (Addr × O))) (ev : v = .ref a) (H : Own L μ1) (p : In1 [(a, .list us)] L) (q : WE c e m μ1 (PPop1 a Q)) : PPop c e m Q v μ1
theorem O_pop {o e : Expr} {apos p' : Pos} {pl : Sem Bool} {Q : V → Mu → Prop} (h : WE c o m μ (PPop c e m Q))
    (heval : eval (.Call (.Attribute o (Str.ofString "pop") apos) [e] [] p') c.env = (do
      let ov ← eval o c.env
      standAt apos.atName
      let (f, first) ← holding [ov] (getMethod ov (Str.ofString "pop") pl)
      callWith p' f first (backTo p' (starEach [e] c.env)) (backToKw p' (keywordEach [] c.env))) := by rfl)
    (he : backTo p' (starEach [e] c.env) = [e].map (fun e => (false, eval e c.env)) := by rfl) : WE c (.Call (.Attribute o (Str.ofString "pop") apos) [e] [] p') m μ Q :=
  W_pop (WT.mono h fun _ _ x => by cases x with | mk a us L ev H p q => exact ⟨a, us, ev, H.at p, WT.mono q fun _ _ x => by cases x with | mk k vs u L L' ei H p hl hu kk => exact ⟨k, vs, u, ei, H.get p, hl, hu, kk _ (H.set p)⟩⟩) heval he
inductive PLen (Q : V → Mu → Prop) (v : V) (μ1 : Mu) : Prop
  | mk (a : Addr) (vs : List V) (L : List (List (Addr × O))) (ev : v = .ref a) (H : Own L μ1) (p : In1 [(a, .list vs)] L) (hl : vs.length ≤ 1000000) (q : Q (.int vs.length) μ1) : PLen Q v μ1
theorem O_len {S : Scope} {e : Expr} {p p'} {Q : V → Mu → Prop} (hS : c.env.scope = S) (h : WE c e m μ (PLen Q))
    (hk : S.names.lookup (Str.ofString "len") = some .globalImplicit := by rfl) (he : backTo p' (starEach [e] c.env) = [e].map (fun e => (false, eval e c.env)) := by rfl) : WE c (.Call (.Name (Str.ofString "len") p) [e] [] p') m μ Q :=
  W_len hS (WT.mono h fun _ _ x => by cases x with | mk l vs L e H p hl q => exact ⟨l, vs, e, H.at p, hl, q⟩) hk he
inductive PMax (Q : V → Mu → Prop) (v : V) (μ1 : Mu) : Prop
  | mk (a : Addr) (xs : List Int) (L : List (List (Addr × O))) (ev : v = .ref a) (H : Own L μ1) (p : In1 [(a, .list (List.map V.int xs))] L) (hl : 0 < xs.length) (q : ∀ M, M ∈ xs → (∀ x ∈ xs, x ≤ M) → Q (.int M) μ1) : PMax Q v μ1
theorem O_max {S : Scope} {e : Expr} {p p'} {Q : V → Mu → Prop} (hS : c.env.scope = S) (h : WE c e m μ (PMax Q))
    (hk : S.names.lookup (Str.ofString "max") = some .globalImplicit := by rfl) (he : backTo p' (starEach [e] c.env) = [e].map (fun e => (false, eval e c.env)) := by rfl) : WE c (.Call (.Name (Str.ofString "max") p) [e] [] p') m μ Q :=
  W_max hS (WT.mono h fun _ _ x => by cases x with | mk l vs L e H p hl q => exact ⟨l, vs, e, H.at p, hl, q⟩) hk he
inductive PByt (Q : V → Mu → Prop) (v : V) (μ1 : Mu) : Prop
  | mk (a : Addr) (xs : List Int) (L : List (List (Addr × O))) (ev : v = .ref a) (H : Own L μ1) (p : In1 [(a, .list (List.map V.int xs))] L) (hl : (∀ n ∈ xs, 0 ≤ n ∧ n < 256) ∧ xs.length ≤ 1000000) (q : Q (.bytes (byteArr xs)) μ1) : PByt Q v μ1
theorem O_bytesOf {S : Scope} {e : Expr} {p p'} {Q : V → Mu → Prop} (hS : c.env.scope = S) (h : WE c e m μ (PByt Q))
    (hk : S.names.lookup (Str.ofString "bytes") = some .globalImplicit := by rfl) (he : backTo p' (starEach [e] c.env) = [e].map (fun e => (false, eval e c.env)) := by rfl) : WE c (.Call (.Name (Str.ofString "bytes") p) [e] [] p') m μ Q :=
  W_bytesOf hS (WT.mono h fun _ _ x => by cases x with | mk l vs L e H p hl q => exact ⟨l, vs, e, H.at p, hl, q⟩) hk he
inductive PItem (Q : V → Mu → Prop) (a b : V) (μ2 : Mu) : Prop
  | mk (l : Addr) (k : Int) (vs : List V) (u : V) (L : List (List (Addr × O))) (e1 : a = .ref l) (e2 : b = .int k) (H : Own L μ2) (p : In1 [(l, .list vs)] L ∨ In1 [(l, .tup vs)] L) (hk : 0 ≤ k ∧ k < 2 ^ 62) (hu : vs[k.toNat]? = some u) (q : Q u μ2) : PItem Q a b μ2
theorem O_item {o i : Expr} {p} {Q : V → Mu → Prop} (h : WE c o m μ (fun a μ1 => WE c i m μ1 (PItem Q a)))
    (hs : ∀ a k u, subscripted i false (.ref a) (.int k u) = operate [.ref a, .int k u] (getItem (.ref a) (.int k u)) := by intros; with_unfolding_all rfl) : WE c (.Subscript o i p) m μ Q :=
  W_item (WT.mono h fun _ _ h => WT.mono h fun _ _ x => by
    cases x with
    | mk l k vs u L e1 e2 H p hk hu q =>
      subst e1 e2
      exact ⟨u, ⟨vs, p.elim (fun p => .inl (H.at p)) (fun p => .inr (H.at p)), hk.1, hk.2, hu⟩, q⟩) hs
inductive PSetI (c : Cx w) (rest : List Stmt) (m : Vars) (Q : Fl → Vars → Mu → Prop) (v ov iv : V) (μ3 : Mu) : Prop
  | mk (a : Addr) (vs : List V) (k : Int) (L L' : List (List (Addr × O))) (e1 : ov = .ref a) (e2 : iv = .int k) (H : Own L μ3) (p : Pick [(a, .list vs)] L L') (hl : 0 ≤ k ∧ k < vs.length ∧ vs.length ≤ 1000000) (q : ∀ μ4, Own ([(a, .list (vs.set k.toNat v))] :: L') μ4 → WS c rest m μ4 Q) : PSetI c rest m Q v ov iv μ3
theorem OS_setitem {o i e : Expr} {pa p} {rest : List Stmt} {Q : Fl → Vars → Mu → Prop}
    (h : WE c e m μ (fun v μ1 => WE c o m μ1 (fun ov μ2 => WE c i m μ2 (PSetI c rest m Q v ov))))
    (hs : swapsWith e (some (.Subscript o i pa)) p.line c.env = pure false := by rfl) : WS c (.Assign [.Subscript o i pa] e p :: rest) m μ Q :=
  S_setitem (WT.mono h fun _ _ h => WT.mono h fun _ _ h => WT.mono h fun _ _ x => by cases x with | mk a vs k L L' e1 e2 H p hl q => exact ⟨a, vs, k, e1, e2, H.get p, hl, q _ (H.set p)⟩) hs
inductive PLast (Q : V → Mu → Prop) (a b : V) (μ2 : Mu) : Prop
  | mk (l : Addr) (vs : List V) (u : V) (L : List (List (Addr × O))) (e1 : a = .ref l) (e2 : b = .int (-1)) (H : Own L μ2) (p : In1 [(l, .list vs)] L) (hu : vs.getLast? = some u) (q : Q u μ2) : PLast Q a b μ2
theorem T_last {o i : Expr} {p} {Q : V → Mu → Prop} (h : WE c o m μ (fun a μ1 => WE c i m μ1 (PLast Q a)))
    (hs : ∀ a k u, subscripted i false (.ref a) (.int k u) = operate [.ref a, .int k u] (getItem (.ref a) (.int k u)) := by intros; with_unfolding_all rfl) : WE c (.Subscript o i p) m μ Q :=
  W_last (WT.mono h fun _ _ h => WT.mono h fun _ _ x => by cases x with | mk l vs u L e1 e2 H p hu q => exact ⟨l, vs, u, e1, e2, H.at p, hu, q⟩) hs
end
noncomputable def lk (t : List (Str × Addr)) (x : Str) : Addr := (t.lookup x).getD 0
noncomputable def fnT : List (Str × Addr) := [("rising", 65), ("config_of", 376), ("_law_draw", 383), ("_law_members", 388), ("_law_twin", 393), ("_law_handed", 398), ("_law_made", 403), ("_law_list", 410), ("_law_put_list", 417), ("_law_fits", 424), ("_law_shot", 431), ("_law_conf_row", 438), ("_law_row", 443), ("_law_own_twin", 448), ("_law_stand", 453), ("_law_config", 460), ("_law_copy", 467), ("_law_turn_members", 474), ("_law_turn_hard", 481), ("_law_turn_entry", 488), ("_law_entry_otherwise", 495), ("_law_shot_otherwise", 502), ("_law_say", 509), ("_law_entry_more", 516), ("_law_message_otherwise", 523), ("_law_turn", 530), ("_law_grow", 537), ("_law_grow_shot", 544), ("_law_grow_message", 551), ("_law_end", 558), ("_law_message", 563)].map fun p => (Str.ofString p.1, p.2)
noncomputable def clT : List (Str × Addr) := [("Entry", 110), ("HardState", 159), ("ConfState", 194), ("Snapshot", 236), ("Message", 267), ("Config", 365)].map fun p => (Str.ofString p.1, p.2)
noncomputable def inT : List (Str × Addr) := [("Entry", 79), ("HardState", 128), ("ConfState", 177), ("Snapshot", 212), ("Message", 254), ("Config", 299)].map fun p => (Str.ofString p.1, p.2)
noncomputable def meT (C : Addr) : List (Str × Addr) := (if C = 110 then [("row", 86), ("copy", 93)] else if C = 159 then [("row", 135), ("empty", 142), ("same", 149), ("copy", 156)] else if C = 194 then [("row", 184), ("copy", 191)] else if C = 236 then [("row", 219), ("empty", 226), ("copy", 233)]
  else if C = 267 then [("row", 259), ("copy", 264)] else if C = 365 then [("row", 306), ("copy", 313), ("joint", 320), ("members", 334), ("conf_state", 355), ("check", 362)] else []).map fun p => (Str.ofString p.1, p.2)

noncomputable def fnOk (K : Frag) : Bool := fnT.all fun p => nsIn K mainGlobals p.1 == some (some (.ref p.2)) && keepIn K (.ref p.2)
noncomputable def clOk (K : Frag) : Bool := clT.all fun p => nsIn K mainGlobals p.1 == some (some (.ref p.2)) && makeOk K p.2 (lk inT p.1)
noncomputable def meOk (K : Frag) : Bool := [110, 159, 194, 236, 267, 365].all fun C => (meT C).all fun p => methOk K C p.1 p.2
noncomputable def atT (C : Addr) : List Str := (if C = 110 then ["term", "index", "kind", "data"] else if C = 159 then ["term", "vote", "commit"] else if C = 194 then ["voters", "learners", "outgoing", "learners_next", "auto_leave"] else if C = 236 then ["index", "term", "conf", "data"]
  else if C = 267 then ["kind", "to", "frm", "term", "log_term", "index", "entries", "commit", "snapshot", "reject", "reject_hint", "context"] else if C = 365 then ["voters", "outgoing", "learners", "learners_next", "auto_leave"] else []).map Str.ofString
noncomputable def atOk (K : Frag) : Bool := [110, 159, 194, 236, 267, 365].all fun C => (atT C).all fun x => attrOk K C x && storeOk K C x

theorem has_lk {t : List (Str × Addr)} {x : Str} (h : (t.lookup x).isSome = true) : (x, lk t x) ∈ t := by
  unfold lk
  obtain ⟨a, ha⟩ := Option.isSome_iff_exists.mp h
  rw [ha]
  exact mem_of_lookup ha
noncomputable def Cs : List Addr := [110, 159, 194, 236, 267, 365]
section
variable {w : World} {c : Cx w} {m : Vars} {μ : Mu}
theorem fn_tab : fnOk (KK w) = true := by kernel_rfl
theorem cl_tab : clOk (KK w) = true := by kernel_rfl
theorem me_tab : meOk (KK w) = true := by kernel_rfl
theorem at_tab : atOk (KK w) = true := by kernel_rfl
theorem fn_in {x : Str} (h : (fnT.lookup x).isSome = true) : nsIn (KK w) mainGlobals x = some (some (.ref (lk fnT x))) ∧ keepIn (KK w) (.ref (lk fnT x)) = true := by
  have := List.all_eq_true.mp (fn_tab (w := w)) _ (has_lk h)
  simpa using this
theorem cl_in {x : Str} (h : (clT.lookup x).isSome = true) : nsIn (KK w) mainGlobals x = some (some (.ref (lk clT x))) ∧ makeOk (KK w) (lk clT x) (lk inT x) = true := by
  have := List.all_eq_true.mp (cl_tab (w := w)) _ (has_lk h)
  simpa using this
theorem me_in {C : Addr} {x : Str} (hC : C ∈ Cs) (h : ((meT C).lookup x).isSome = true) : methOk (KK w) C x (lk (meT C) x) = true :=
  List.all_eq_true.mp (List.all_eq_true.mp (me_tab (w := w)) C hC) _ (has_lk h)
theorem at_in {C : Addr} {x : Str} (hC : C ∈ Cs) (h : x ∈ atT C) : attrOk (KK w) C x = true ∧ storeOk (KK w) C x = true := by
  have := List.all_eq_true.mp (List.all_eq_true.mp (at_tab (w := w)) C hC) _ h
  simpa using this

noncomputable def atB (C : Addr) (x : Str) : Bool := Cs.contains C && (atT C).contains x
theorem atB_in {C : Addr} {x : Str} (h : atB C x = true) : attrOk (KK w) C x = true ∧ storeOk (KK w) C x = true := by
  obtain ⟨h1, h2⟩ := Bool.and_eq_true_iff.mp h
  exact at_in (List.contains_iff_mem.mp h1) (List.contains_iff_mem.mp h2)
noncomputable def meB (C : Addr) (x : Str) : Bool := Cs.contains C && ((meT C).lookup x).isSome
theorem meB_in {C : Addr} {x : Str} (h : meB C x = true) : methOk (KK w) C x (lk (meT C) x) = true := by
  obtain ⟨h1, h2⟩ := Bool.and_eq_true_iff.mp h
  exact me_in (List.contains_iff_mem.mp h1) h2


theorem T_fn {S : Scope} {x : Str} {es : List Expr} {p p'} {r : Nat} {Q : V → Mu → Prop} (hS : c.env.scope = S) (hr : c.room = r) (h1 : (fnT.lookup x).isSome = true) (hk : S.names.lookup x = some .globalImplicit) (h : WL c es m μ (fun vs μ' => Fn w r (lk fnT x) vs μ' Q))
    (he : backTo p' (starEach es c.env) = es.map (fun e => (false, eval e c.env)) := by rfl) (hd : (x == ("__debug__" : Str)) = false := by decide) : WE c (.Call (.Name x p) es [] p') m μ Q :=
  W_fn hS (fn_in h1).1 hk (fn_in h1).2 (Nat.le_of_eq hr.symm) h he hd
inductive PMake (w : World) (r : Nat) (x : Str) (Q : V → Mu → Prop) (vs : List V) (μ' : Mu) : Prop
  | mk (L : List (List (Addr × O))) (H : Own L μ') (k : ∀ a d μ2, Own ([(a, .inst (lk clT x) d)] :: [(d, .dict [])] :: L) μ2 → Fn w r (lk inT x) (.ref a :: vs) μ2 (fun v μ'' => v = .none ∧ Q (.ref a) μ'')) : PMake w r x Q vs μ'
theorem T_new {S : Scope} {x : Str} {es : List Expr} {p p'} {r : Nat} {Q : V → Mu → Prop} (hS : c.env.scope = S) (hr : c.room = r + 1) (h1 : (clT.lookup x).isSome = true) (hk : S.names.lookup x = some .globalImplicit)
    (h : WL c es m μ (PMake w r x Q))
    (he : backTo p' (starEach es c.env) = es.map (fun e => (false, eval e c.env)) := by rfl) (hd : (x == ("__debug__" : Str)) = false := by decide) : WE c (.Call (.Name x p) es [] p') m μ Q :=
  W_new hS (cl_in h1).1 hk (cl_in h1).2 (Nat.le_of_eq hr.symm) (WT.mono h fun _ _ x => by cases x with | mk L H k => exact fun a d ha hd had => k a d _ ((H.new hd).new ((Mu.set_ne _ _ had).trans ha))) he hd
inductive PMeth (c : Cx w) (r : Nat) (name : Str) (es : List Expr) (m : Vars) (Q : V → Mu → Prop) (v : V) (μ1 : Mu) : Prop
  | mk (a C d : Addr) (fs : List (Str × V)) (L : List (List (Addr × O))) (e : v = .ref a) (H : Own L μ1) (p1 : In1 [(a, .inst C d)] L) (p2 : In1 [(d, .dict fs)] L) (hl : fs.lookup name = none) (ok : meB C name = true) (q : WL c es m μ1 (fun vs μ2 => Fn w r (lk (meT C) name) (.ref a :: vs) μ2 Q)) : PMeth c r name es m Q v μ1
theorem T_meth {o : Expr} {name : Str} {apos : Pos} {es : List Expr} {p' : Pos} {pl : Sem Bool} {r : Nat} {Q : V → Mu → Prop} (hr : c.room = r)
    (h : WE c o m μ (PMeth c r name es m Q))
    (heval : eval (.Call (.Attribute o name apos) es [] p') c.env = (do
      let ov ← eval o c.env
      standAt apos.atName
      let (f, first) ← holding [ov] (getMethod ov name pl)
      callWith p' f first (backTo p' (starEach es c.env)) (backToKw p' (keywordEach [] c.env))) := by rfl)
    (he : backTo p' (starEach es c.env) = es.map (fun e => (false, eval e c.env)) := by rfl) : WE c (.Call (.Attribute o name apos) es [] p') m μ Q :=
  W_meth (WT.mono h fun _ _ x => by cases x with | mk a C d fs L e H h1 h2 h3 ok q => exact ⟨a, C, d, fs, _, e, H.at h1, H.at h2, h3, meB_in ok, Nat.le_of_eq hr.symm, q⟩) heval he
inductive PAttr (name : Str) (Q : V → Mu → Prop) (v : V) (μ1 : Mu) : Prop
  | mk (a C d : Addr) (fs : List (Str × V)) (u : V) (L : List (List (Addr × O))) (e : v = .ref a) (H : Own L μ1) (p1 : In1 [(a, .inst C d)] L) (p2 : In1 [(d, .dict fs)] L) (ok : atB C name = true) (hu : fs.lookup name = some u) (q : Q u μ1) : PAttr name Q v μ1
theorem T_attr {e : Expr} {name : Str} {p} {Q : V → Mu → Prop} (h : WE c e m μ (PAttr name Q))
    (he : eval (.Attribute e name p) c.env = (do
      let o ← eval e c.env
      standAt p.atName
      let r ← holding [o] (getAttr o name true)
      letTemporaryGo e o r
      pure r) := by with_unfolding_all rfl) : WE c (.Attribute e name p) m μ Q :=
  W_attr (WT.mono h fun _ _ x => by cases x with | mk a C d fs u L e H h1 h2 ok hu q => exact ⟨a, C, d, fs, u, e, H.at h1, H.at h2, (atB_in ok).1, hu, q⟩) he
inductive PSetA (c : Cx w) (name : Str) (rest : List Stmt) (m : Vars) (Q : Fl → Vars → Mu → Prop) (v ov : V) (μ2 : Mu) : Prop
  | mk (a C d : Addr) (fs : List (Str × V)) (L L2 : List (List (Addr × O))) (e : ov = .ref a) (H : Own L μ2) (p1 : In1 [(a, .inst C d)] L) (p2 : Pick [(d, .dict fs)] L L2) (ok : atB C name = true) (hl : fs.length ≤ 900) (k : ∀ μ3, Own ([(d, .dict (putF fs name v))] :: L2) μ3 → WS c rest m μ3 Q) : PSetA c name rest m Q v ov μ2
theorem T_setattr {o e : Expr} {name : Str} {pa p} {rest : List Stmt} {Q : Fl → Vars → Mu → Prop}
    (h : WE c e m μ (fun v μ1 => WE c o m μ1 (PSetA c name rest m Q v)))
    (hs : swapsWith e (some (.Attribute o name pa)) p.line c.env = pure false := by rfl) : WS c (.Assign [.Attribute o name pa] e p :: rest) m μ Q :=
  S_setattr (WT.mono h fun _ _ h => WT.mono h fun _ _ x => by cases x with | mk a C d fs L L2 e H h1 h2 ok hl k => exact ⟨a, C, d, fs, e, H.at h1, H.get h2, (atB_in ok).2, hl, k _ (H.set h2)⟩) hs
end
section
variable {μ : Mu} {Q : V → Mu → Prop} {R : Bool → Prop} {i j : Int}
theorem fmod_pos (h : 0 < j) : i.fmod j = i % j := Int.fmod_eq_emod_of_nonneg i (Int.le_of_lt h)
theorem fdiv_pos (h : 0 < j) : i.fdiv j = i / j := Int.fdiv_eq_ediv_of_nonneg i (Int.le_of_lt h)
theorem bin_add (h : Q (.int (i + j)) μ) : BinV .Add (.int i) (.int j) μ Q := .add h
theorem bin_sub (h : Q (.int (i - j)) μ) : BinV .Sub (.int i) (.int j) μ Q := .sub h
theorem bin_mul (hj : -(2 ^ 63) < j ∧ j < 2 ^ 63) (h : Q (.int (i * j)) μ) : BinV .Mult (.int i) (.int j) μ Q := .mul ⟨hj, h⟩
theorem bin_div (hj : 0 < j ∧ j < 1073741824) (h : Q (.int (i / j)) μ) : BinV .FloorDiv (.int i) (.int j) μ Q := .div ⟨⟨by omega, by omega⟩, by rw [fdiv_pos hj.1]; exact h⟩
theorem bin_mod (hj : 0 < j) (h : Q (.int (i % j)) μ) : BinV .Mod (.int i) (.int j) μ Q := .mod ⟨by omega, by rw [fmod_pos hj]; exact h⟩
theorem bin_bytes {x y : Array UInt8} (hl : x.size + y.size ≤ 16777216) (h : Q (.bytes (x ++ y)) μ) : BinV .Add (.bytes x) (.bytes y) μ Q := .byt ⟨hl, h⟩
theorem cmp_eq (h : R (decide (i = j))) : CmpV .Eq (.int i) (.int j) μ R := .eqi h
theorem cmp_ne (h : R (decide (i ≠ j))) : CmpV .NotEq (.int i) (.int j) μ R := .nei h
theorem cmp_lt (h : R (decide (i < j))) : CmpV .Lt (.int i) (.int j) μ R := .lt h
theorem cmp_gt (h : R (decide (j < i))) : CmpV .Gt (.int i) (.int j) μ R := .gt h
theorem cmp_le (h : R (decide (i ≤ j))) : CmpV .LtE (.int i) (.int j) μ R := .le h
theorem cmp_ge (h : R (decide (j ≤ i))) : CmpV .GtE (.int i) (.int j) μ R := .ge h
theorem cmp_beq {i j : Bool} (h : R (decide (i = j))) : CmpV .Eq (.bool i) (.bool j) μ R := .eqb h
theorem cmp_bne {i j : Bool} (h : R (decide (i ≠ j))) : CmpV .NotEq (.bool i) (.bool j) μ R := .neb h
theorem cmp_is0 (h : R true) : CmpV .Is .none .none μ R := .is0 h
theorem cmp_is1 {a} (h : R false) : CmpV .Is (.ref a) .none μ R := .is1 h
theorem cmp_isnot0 (h : R false) : CmpV .IsNot .none .none μ R := .isn0 h
theorem cmp_isnot1 {a} (h : R true) : CmpV .IsNot (.ref a) .none μ R := .isn1 h
theorem cmp_in {a : Addr} {xs : List Int} {L} (H : Own L μ) (p : In1 [(a, .list (xs.map .int))] L) (h : R (decide (i ∈ xs))) : CmpV .In (.int i) (.ref a) μ R := .inn ⟨xs, H.at p, h⟩
theorem cmp_notin {a : Addr} {xs : List Int} {L} (H : Own L μ) (p : In1 [(a, .list (xs.map .int))] L) (h : R (decide (i ∉ xs))) : CmpV .NotIn (.int i) (.ref a) μ R := .nin ⟨xs, H.at p, h⟩
theorem tru_none (h : R false) : TruV .none μ R := h
theorem tru_bool {b} (h : R b) : TruV (.bool b) μ R := h
theorem tru_int (h : R (i != 0)) : TruV (.int i) μ R := h
theorem tru_list {a : Addr} {vs : List V} {L} (H : Own L μ) (p : In1 [(a, .list vs)] L) (hl : vs.length ≤ 16777216) (h : R (!vs.isEmpty)) : TruV (.ref a) μ R := ⟨vs, H.at p, hl, h⟩
theorem ite_dec {p : Prop} [Decidable p] {A B : Prop} (h : p → A) (h' : ¬ p → B) : if decide p = true then A else B := by
  by_cases q : p
  · rw [if_pos (decide_eq_true q)]; exact h q
  · rw [if_neg (by simpa using q)]; exact h' q
theorem ite_b {b : Bool} {A B : Prop} (h : b = true → A) (h' : b = false → B) : if b = true then A else B := by
  cases b with
  | true => exact h rfl
  | false => exact h' rfl

noncomputable def Sub (m0 m : Vars) : Prop := ∀ x v, m0 x = some v → m x = some v
theorem Sub.refl {m : Vars} : Sub m m := fun _ _ h => h
theorem Sub.set {m0 m : Vars} {x : Str} {v : V} (h : Sub m0 m) (e : m0 x = none := by rfl) : Sub m0 (m.set x v) := fun y u hy => by
  unfold Vars.set
  rw [if_neg]
  · exact h y u hy
  · rintro rfl; rw [e] at hy; cases hy

section
variable {w : World} {c : Cx w} {m : Vars} {μ : Mu}
theorem WS.lessM {b : List Stmt} {m0 : Vars} {Q : Fl → Vars → Mu → Prop} (h : WS c b m0 μ Q) (hm : Sub m0 m) : WS c b m μ Q := fun Hs s R => h Hs s (R.lessM hm)
theorem WA.lessM {t : Expr} {v : V} {m0 : Vars} {Q : Vars → Prop} (h : WA c t v m0 μ Q) (hm : Sub m0 m) : WA c t v m μ Q := fun Hs s rv R => h Hs s rv (R.lessM hm)

theorem S_forM {target iter : Expr} {body rest : List Stmt} {p} {Q : Fl → Vars → Mu → Prop} (m0 : Vars) (J : Nat → It → Mu → Prop) (hm : Sub m0 m)
    (hi : WI c iter m μ (fun k μ0 => ∃ j, J j k μ0))
    (turn : ∀ c' : Cx w, (∀ r S, At c r S → At c' r S) → ∀ j k μ1, J j k μ1 → (Step μ1 k none ∧ WS c rest m0 μ1 Q) ∨ (∃ v k', Step μ1 k (some (v, k')) ∧ WA c' target v m0 μ1 (fun m2 => WS c' body m2 μ1 (fun fl m3 μ3 => match fl with
      | .next => Sub m0 m3 ∧ ∃ j', j' < j ∧ J j' k' μ3
      | .cont => Sub m0 m3 ∧ ∃ j', j' < j ∧ J j' k' μ3
      | .brk => WS c rest m3 μ3 Q
      | .ret v => Q (.ret v) m3 μ3))))
    (hs : ∀ x, foldedSetIterable iter c.env x = pure x := by intro _; rfl) : WS c (.For target iter body [] p :: rest) m μ Q :=
  S_for (fun j k m1 μ1 => Sub m0 m1 ∧ J j k μ1) (fun Hs s R => wpAny_mono (hi Hs s R) (fun _ _ h => wpAny_mono h (fun _ _ hz0 => by obtain ⟨I, o, k, μ', e, h1, h2, h3, h4, j, h5⟩ := hz0; exact ⟨I, o, k, μ', e, h1, h2, h3, h4, j, hm, h5⟩) fun _ _ z => z) fun _ _ z => z)
    (fun c' hc' _ j k m1 μ1 ⟨hs1, hJ⟩ => by
      rcases turn c' hc' j k μ1 hJ with ⟨st, z⟩ | ⟨v, k', st, z⟩
      · exact .inl ⟨st, z.lessM hs1⟩
      · refine .inr ⟨v, k', st, ?_⟩
        intro Hs s rv R hv E
        refine wpAny_mono (z.lessM hs1 Hs s rv R hv E) (fun _ s' ⟨m2, R2, z2⟩ => ⟨m2, R2, WS.mono z2 fun fl m3 μ3 q => ?_⟩) fun _ _ z => z
        cases fl with
        | next => obtain ⟨a, j', lt, hJ'⟩ := q; exact ⟨j', lt, a, hJ'⟩
        | cont => obtain ⟨a, j', lt, hJ'⟩ := q; exact ⟨j', lt, a, hJ'⟩
        | brk => exact q
        | ret v => exact q) hs

theorem Own.gather {L P K : List (List (Addr × O))} (H : Own L μ) (p : Picks P L K) : Own (P.flatten :: K) μ := (H.picks p).eq (by simp)
theorem Own.sel {L P K : List (List (Addr × O))} (H : Own L μ) (p : Picks P L K) : Own P μ := (H.picks p).left


inductive PItL (Q : It → Mu → Prop) (v : V) (μ' : Mu) : Prop
  | mk (l : Addr) (vs : List V) (L : List (List (Addr × O))) (e : v = .ref l) (H : Own L μ') (p : In1 [(l, .list vs)] L) (q : Q (.list l 0) μ') : PItL Q v μ'
theorem OI_list {iter : Expr} {Q : It → Mu → Prop} (h : WE c iter m μ (PItL Q)) : WI c iter m μ Q :=
  I_list (WT.mono h fun _ _ x => by cases x with | mk l vs L e H p q => exact ⟨l, vs, e, H.at p, q⟩)
inductive PItT (Q : It → Mu → Prop) (v : V) (μ' : Mu) : Prop
  | mk (l : Addr) (vs : List V) (L : List (List (Addr × O))) (e : v = .ref l) (H : Own L μ') (p : In1 [(l, .tup vs)] L) (q : Q (.tup l 0) μ') : PItT Q v μ'
theorem OI_tup {iter : Expr} {Q : It → Mu → Prop} (h : WE c iter m μ (PItT Q)) : WI c iter m μ Q :=
  I_tup (WT.mono h fun _ _ x => by cases x with | mk l vs L e H p q => exact ⟨l, vs, e, H.at p, q⟩)
noncomputable def PostC (J N : Nat → It → List V → Mu → Prop) : Prop := ∀ n k acc μ, (∃ n', n' < n ∧ J n' k acc μ) → N n k acc μ
theorem PostC.go {J N : Nat → It → List V → Mu → Prop} {n k acc} {μ : Mu} (h : PostC J N) (x : ∃ n', n' < n ∧ J n' k acc μ) : N n k acc μ := h _ _ _ _ x
noncomputable def PostF (P : V → Mu → Prop) (K : Fl → Vars → Mu → Prop) : Prop := ∀ fl m μ, P fl.val μ → K fl m μ
theorem PostF.ret {P : V → Mu → Prop} {K : Fl → Vars → Mu → Prop} {v : V} {m : Vars} {μ : Mu} (h : PostF P K) (x : P v μ) : K (.ret v) m μ := h _ _ _ x
theorem PostF.next {P : V → Mu → Prop} {K : Fl → Vars → Mu → Prop} {m : Vars} {μ : Mu} (h : PostF P K) (x : P .none μ) : K .next m μ := h _ _ _ x
theorem O_comp {S scope : Scope} {t : Str} {px pos : Pos} {iter elt : Expr} {ifs : List Expr} {Q : V → Mu → Prop} (J : Nat → It → List V → Mu → Prop)
    (hS : c.env.scope = S) (hC : Celled c) (hown : c.env.locals = c.L) (ok : compOk scope S t = true)
    (hi : WI c iter m μ (fun k μ0 => ∃ n, J n k [] μ0))
    (turn : ∀ c' : Cx w, At0 c' c.room (relab scope S) → ∀ N : Nat → It → List V → Mu → Prop, PostC J N → ∀ n k acc μ1, J n k acc μ1 → acc.length ≤ 1000000 ∧ ((Step μ1 k none ∧ ∃ L, Own L μ1 ∧ ∀ D μ2, Own ([(D, .list acc)] :: L) μ2 → Q (.ref D) μ2) ∨ ∃ v k', Step μ1 k (some (v, k')) ∧
      WTst c' ifs ((cm scope m).set t v) μ1 (fun ok μ2 => if ok then WE c' elt ((cm scope m).set t v) μ2 (fun x μ3 => N n k' (acc ++ [x]) μ3) else N n k' acc μ2)))
    (hs : ∀ x, foldedSetIterable iter c.env x = pure x := by intro _; rfl) : WE c (.ListComp elt [⟨.Name t px, iter, ifs, 0⟩] scope pos) m μ Q :=
  W_comp J hS hC hown ok hi (fun c' h n k acc μ1 hJ => let ⟨a, b⟩ := turn c' h _ (fun _ _ _ _ z => z) n k acc μ1 hJ; ⟨a, b.imp (fun hz1 => by obtain ⟨st, _, H, k⟩ := hz1; exact ⟨st, fun D hD => k D _ (H.new hD)⟩) id⟩) hs
theorem OS_assignC {S scope : Scope} {x t : Str} {xp px pos p : Pos} {iter elt : Expr} {ifs : List Expr} {rest : List Stmt} {Q : Fl → Vars → Mu → Prop} (J : Nat → It → List V → Mu → Prop)
    (hS : c.env.scope = S) (hC : Celled c) (hown : c.env.locals = c.L) (ok : compOk scope S t = true)
    (ok2 : (S.names.lookup x == some .local && xp.line == pos.line && !(scope.names.any fun p => p.1 == x && (p.2 == .local || p.2 == .cell))) = true)
    (hi : WI c iter m μ (fun k μ0 => ∃ n, J n k [] μ0))
    (turn : ∀ c' : Cx w, At0 c' c.room (relab scope S) → ∀ N : Nat → It → List V → Mu → Prop, PostC J N → ∀ n k acc μ1, J n k acc μ1 → acc.length ≤ 1000000 ∧ ((Step μ1 k none ∧ ∃ L, Own L μ1 ∧ ∀ D μ2, Own ([(D, .list acc)] :: L) μ2 → WS c rest (m.set x (.ref D)) μ2 Q) ∨ ∃ v k', Step μ1 k (some (v, k')) ∧
      WTst c' ifs ((cm scope m).set t v) μ1 (fun ok μ2 => if ok then WE c' elt ((cm scope m).set t v) μ2 (fun x μ3 => N n k' (acc ++ [x]) μ3) else N n k' acc μ2)))
    (hs : ∀ x, foldedSetIterable iter c.env x = pure x := by intro _; rfl) : WS c (.Assign [.Name x xp] (.ListComp elt [⟨.Name t px, iter, ifs, 0⟩] scope pos) p :: rest) m μ Q :=
  S_assignC J hS hC hown ok ok2 hi (fun c' h n k acc μ1 hJ => let ⟨a, b⟩ := turn c' h _ (fun _ _ _ _ z => z) n k acc μ1 hJ; ⟨a, b.imp (fun hz2 => by obtain ⟨st, _, H, k⟩ := hz2; exact ⟨st, fun D hD => k D _ (H.new hD)⟩) id⟩) hs

theorem T_expr {e : Expr} {p} {rest : List Stmt} {Q : Fl → Vars → Mu → Prop} (h : WE c e m μ (fun _ μ' => WS c rest m μ' Q)) (hs : swapsWith e none p.line c.env = pure false := by rfl) : WS c (.Expr e p :: rest) m μ Q :=
  S_expr h (by unfold interactive; rw [c.hek]; rfl) hs
noncomputable def Back (μ1 μ' : Mu) (K : List (List (Addr × O))) : Prop := ∀ L', Own L' μ1 → Own (L' ++ K) μ'
section
variable {μ1 μ' : Mu} {K : List (List (Addr × O))} {x0 x1 x2 x3 x4 x5 : List (Addr × O)}
theorem Back.b0 (h : Back μ1 μ' K) : Own K μ' := h [] ⟨List.nodup_nil, fun _ h => absurd h List.not_mem_nil⟩
theorem Back.b1 (h : Back μ1 μ' K) (H : Own [x0] μ1) : Own (x0 :: K) μ' := h _ H
theorem Back.b2 (h : Back μ1 μ' K) (H : Own [x0, x1] μ1) : Own (x0 :: x1 :: K) μ' := h _ H
theorem Back.b3 (h : Back μ1 μ' K) (H : Own [x0, x1, x2] μ1) : Own (x0 :: x1 :: x2 :: K) μ' := h _ H
theorem Back.b4 (h : Back μ1 μ' K) (H : Own [x0, x1, x2, x3] μ1) : Own (x0 :: x1 :: x2 :: x3 :: K) μ' := h _ H
theorem Back.b5 (h : Back μ1 μ' K) (H : Own [x0, x1, x2, x3, x4] μ1) : Own (x0 :: x1 :: x2 :: x3 :: x4 :: K) μ' := h _ H
theorem Back.b6 (h : Back μ1 μ' K) (H : Own [x0, x1, x2, x3, x4, x5] μ1) : Own (x0 :: x1 :: x2 :: x3 :: x4 :: x5 :: K) μ' := h _ H
end
theorem Fn.call {r r' : Nat} {f : Addr} {vs : List V} {P K L : List (List (Addr × O))} {Q1 Q : V → Mu → Prop} (ct : ∀ μ1, Own P μ1 → Fn w r f vs μ1 Q1) (hr : Nat.ble r r' = true) (H : Own L μ) (p : Picks P L K)
    (k : ∀ v μ1 μ', Q1 v μ1 → Back μ1 μ' K → Q v μ') : Fn w r' f vs μ Q := Fn.use ct (Nat.le_of_ble_eq_true hr) H p k

section
variable {μ : Mu} {x y z : Addr × O} {b b' : List (Addr × O)} {L : List (List (Addr × O))}
theorem Own.cons1 (H : Own ([x] :: b :: L) μ) : Own ((x :: b) :: L) μ := H.eq (by simp)
theorem Own.uncons (H : Own ((x :: b) :: L) μ) : Own ([x] :: b :: L) μ := H.eq (by simp)
theorem Own.cons2 (H : Own ([x] :: [y] :: b :: L) μ) : Own ((x :: y :: b) :: L) μ := H.eq (by simp)
theorem Own.uncons2 (H : Own ((x :: y :: b) :: L) μ) : Own ([x] :: [y] :: b :: L) μ := H.eq (by simp)
theorem Own.cons3 (H : Own ([x] :: [y] :: [z] :: b :: L) μ) : Own ((x :: y :: z :: b) :: L) μ := H.eq (by simp)
theorem Own.uncons3 (H : Own ((x :: y :: z :: b) :: L) μ) : Own ([x] :: [y] :: [z] :: b :: L) μ := H.eq (by simp)
theorem Own.cat (H : Own (b :: b' :: L) μ) : Own ((b ++ b') :: L) μ := H.eq (by simp)
theorem Own.uncat (H : Own ((b ++ b') :: L) μ) : Own (b :: b' :: L) μ := H.eq (by simp)
theorem Own.swap (H : Own (b' :: b :: L) μ) : Own (b :: b' :: L) μ := H.to (by simp only [List.flatten_cons, ← List.append_assoc]; exact List.Perm.append_right _ List.perm_append_comm)
theorem Own.unnil (H : Own L μ) : Own ([] :: L) μ := H.eq (by simp)
theorem Own.nil (H : Own ([] :: L) μ) : Own L μ := H.eq (by simp)
theorem Own.flat {ls : List (List (Addr × O))} (H : Own (ls ++ L) μ) : Own (ls.flatten :: L) μ := H.eq (by simp)
theorem Own.unflat {ls : List (List (Addr × O))} (H : Own (ls.flatten :: L) μ) : Own (ls ++ L) μ := H.eq (by simp)
end
theorem Own.fin {μ : Mu} {L P K G : List (List (Addr × O))} (H : Own L μ) (p : Picks P L K) (e : P.flatten = G.flatten) : Own G μ := (H.sel p).eq e
theorem Own.of_singles {G : List (List (Addr × O))} {μ : Mu} (H : Own (G.flatten.map fun p => [p]) μ) : Own G μ := H.eq (by induction G.flatten with | nil => rfl | cons x l ih => simp only [List.map_cons, List.flatten_cons, ih]; rfl)
theorem bin_cat {μ : Mu} {Q : V → Mu → Prop} {x y : Addr} {xs ys : List V} {L : List (List (Addr × O))} (H : Own L μ) (h1 : In1 [(x, .list xs)] L) (h2 : In1 [(y, .list ys)] L) (hl : xs.length + ys.length ≤ 1000000)
    (k : ∀ r μ3, Own ([(r, .list (xs ++ ys))] :: L) μ3 → Q (.ref r) μ3) : BinV .Add (.ref x) (.ref y) μ Q := .cat ⟨xs, ys, H.at h1, H.at h2, hl, fun r hr => k r _ (H.new hr)⟩
noncomputable def FlN (K : Vars → Mu → Prop) (Q : Fl → Vars → Mu → Prop) (fl : Fl) (m : Vars) (μ : Mu) : Prop := match fl with
  | .next => K m μ
  | .brk => Q .brk m μ
  | .cont => Q .cont m μ
  | .ret v => Q (.ret v) m μ
noncomputable def FlL (J B : Vars → Mu → Prop) (Q : Fl → Vars → Mu → Prop) (fl : Fl) (m : Vars) (μ : Mu) : Prop := match fl with
  | .next => J m μ
  | .brk => B m μ
  | .cont => J m μ
  | .ret v => Q (.ret v) m μ
section
variable {K J B : Vars → Mu → Prop} {Q : Fl → Vars → Mu → Prop} {v : V}
theorem ite_T {b : Bool} {A B : Prop} (e : b = true) (h : A) : if b = true then A else B := (if_pos e).mpr h
theorem ite_F {b : Bool} {A B : Prop} (e : b = false) (h : B) : if b = true then A else B := (if_neg (by rw [e]; exact Bool.false_ne_true)).mpr h
theorem ite_t {A B : Prop} (h : A) : if true = true then A else B := h
theorem ite_f {A B : Prop} (h : B) : if false = true then A else B := h
end
noncomputable def PostI (N : Fl → Vars → Mu → Prop) (K : Vars → Mu → Prop) (Q : Fl → Vars → Mu → Prop) : Prop := ∀ fl m μ, FlN K Q fl m μ → N fl m μ
theorem fln_next {N Q : Fl → Vars → Mu → Prop} {K : Vars → Mu → Prop} (h : K m μ) (hN : PostI N K Q := by with_reducible assumption) : N .next m μ := hN .next _ _ h
theorem fln_ret {N Q : Fl → Vars → Mu → Prop} {K : Vars → Mu → Prop} {v : V} (h : Q (.ret v) m μ) (hN : PostI N K Q := by with_reducible assumption) : N (.ret v) m μ := hN (.ret v) _ _ h
noncomputable def Bra (c : Cx w) (b : List Stmt) (m : Vars) (K : Vars → Mu → Prop) (Q : Fl → Vars → Mu → Prop) (μ : Mu) : Prop := ∀ N, PostI N K Q → WS c b m μ N
noncomputable def Bra0 (c : Cx w) (b : List Stmt) (m : Vars) (Q : Fl → Vars → Mu → Prop) (μ : Mu) : Prop := WS c b m μ Q
noncomputable def PostB (R : Bool → Mu → Prop) (A B : Mu → Prop) : Prop := ∀ b μ, (if b = true then A μ else B μ) → R b μ
section
variable {R : Bool → Mu → Prop} {A B : Mu → Prop} {r : Bool} {b : List Stmt} {Q : Fl → Vars → Mu → Prop} {K : Vars → Mu → Prop}
theorem z_T (e : r = true) (h : WS c b m μ Q) (hR : PostB R (Bra0 c b m Q) B := by with_reducible assumption) : R r μ := hR _ _ (ite_T e h)
theorem z_F (e : r = false) (h : WS c b m μ Q) (hR : PostB R A (Bra0 c b m Q) := by with_reducible assumption) : R r μ := hR _ _ (ite_F e h)
theorem z_t (h : WS c b m μ Q) (hR : PostB R (Bra0 c b m Q) B := by with_reducible assumption) : R true μ := hR _ _ h
theorem z_f (h : WS c b m μ Q) (hR : PostB R A (Bra0 c b m Q) := by with_reducible assumption) : R false μ := hR _ _ h
theorem i_T (e : r = true) (h : ∀ N, PostI N K Q → WS c b m μ N) (hR : PostB R (Bra c b m K Q) B := by with_reducible assumption) : R r μ := hR _ _ (ite_T e h)
theorem i_F (e : r = false) (h : ∀ N, PostI N K Q → WS c b m μ N) (hR : PostB R A (Bra c b m K Q) := by with_reducible assumption) : R r μ := hR _ _ (ite_F e h)
theorem i_t (h : ∀ N, PostI N K Q → WS c b m μ N) (hR : PostB R (Bra c b m K Q) B := by with_reducible assumption) : R true μ := hR _ _ h
theorem i_f (h : ∀ N, PostI N K Q → WS c b m μ N) (hR : PostB R A (Bra c b m K Q) := by with_reducible assumption) : R false μ := hR _ _ h
variable {o : List Stmt} {p : Prop} [Decidable p]
theorem z_dec (h : p → WS c b m μ Q) (h' : ¬ p → WS c o m μ Q) (hR : PostB R (Bra0 c b m Q) (Bra0 c o m Q) := by with_reducible assumption) : R (decide p) μ := hR _ _ (ite_dec h h')
theorem i_dec (h : p → ∀ N, PostI N K Q → WS c b m μ N) (h' : ¬ p → ∀ N, PostI N K Q → WS c o m μ N) (hR : PostB R (Bra c b m K Q) (Bra c o m K Q) := by with_reducible assumption) : R (decide p) μ := hR _ _ (ite_dec h h')
theorem z_b (h : r = true → WS c b m μ Q) (h' : r = false → WS c o m μ Q) (hR : PostB R (Bra0 c b m Q) (Bra0 c o m Q) := by with_reducible assumption) : R r μ := hR _ _ (ite_b h h')
theorem i_b (h : r = true → ∀ N, PostI N K Q → WS c b m μ N) (h' : r = false → ∀ N, PostI N K Q → WS c o m μ N) (hR : PostB R (Bra c b m K Q) (Bra c o m K Q) := by with_reducible assumption) : R r μ := hR _ _ (ite_b h h')
end
theorem T_if {t : Expr} {b o rest : List Stmt} {p} {Q : Fl → Vars → Mu → Prop} (h : ∀ R, PostB R (Bra c b m (fun m' μ2 => WS c rest m' μ2 Q) Q) (Bra c o m (fun m' μ2 => WS c rest m' μ2 Q) Q) → WB c t m μ R) : WS c (.If t b o p :: rest) m μ Q :=
  S_if (WT.mono (h _ fun _ _ z => z) fun r μ' q => by
    cases r with
    | true => exact (show Bra c b m _ Q μ' from q) _ (fun fl m2 μ2 z => by cases fl <;> exact z)
    | false => exact (show Bra c o m _ Q μ' from q) _ (fun fl m2 μ2 z => by cases fl <;> exact z))
noncomputable def PostN (c : Cx w) (rest : List Stmt) (Q : Fl → Vars → Mu → Prop) (m0 : Vars) (J : Nat → It → Mu → Prop) (N : Nat → It → Fl → Vars → Mu → Prop) : Prop := ∀ j k fl m μ, FlL (fun m μ => Sub m0 m ∧ ∃ j', j' < j ∧ J j' k μ) (fun m μ => WS c rest m μ Q) Q fl m μ → N j k fl m μ
section
variable {rest : List Stmt} {Q : Fl → Vars → Mu → Prop} {m0 : Vars} {J : Nat → It → Mu → Prop} {N : Nat → It → Fl → Vars → Mu → Prop} {j : Nat} {k : It}
theorem PostN.go (h : PostN c rest Q m0 J N) (x : Sub m0 m ∧ ∃ j', j' < j ∧ J j' k μ) : N j k .next m μ := h _ _ .next _ _ x
theorem PostN.ret {v : V} (h : PostN c rest Q m0 J N) (x : Q (.ret v) m μ) : N j k (.ret v) m μ := h _ _ (.ret v) _ _ x
end
inductive Turn (c c' : Cx w) (target : Expr) (body rest : List Stmt) (m0 : Vars) (Q : Fl → Vars → Mu → Prop) (N : It → Fl → Vars → Mu → Prop) (k : It) (μ1 : Mu) : Prop
  | inl (h : Step μ1 k none ∧ WS c rest m0 μ1 Q) : Turn c c' target body rest m0 Q N k μ1
  | inr (h : ∃ v k', Step μ1 k (some (v, k')) ∧ WA c' target v m0 μ1 (fun m2 => WS c' body m2 μ1 (N k'))) : Turn c c' target body rest m0 Q N k μ1
theorem Turn.or {c' : Cx w} {target : Expr} {body rest : List Stmt} {m0 : Vars} {Q : Fl → Vars → Mu → Prop} {N : It → Fl → Vars → Mu → Prop} {k : It} {μ1 : Mu} (h : Turn c c' target body rest m0 Q N k μ1) : (Step μ1 k none ∧ WS c rest m0 μ1 Q) ∨ ∃ v k', Step μ1 k (some (v, k')) ∧ WA c' target v m0 μ1 (fun m2 => WS c' body m2 μ1 (N k')) := by
  cases h with
  | inl h => exact .inl h
  | inr h => exact .inr h
theorem T_for {target iter : Expr} {body rest : List Stmt} {p} {Q : Fl → Vars → Mu → Prop} (m0 : Vars) (J : Nat → It → Mu → Prop) (hm : Sub m0 m)
    (hi : WI c iter m μ (fun k μ0 => ∃ j, J j k μ0))
    (turn : ∀ c' : Cx w, (∀ r S, At c r S → At c' r S) → ∀ N : Nat → It → Fl → Vars → Mu → Prop, PostN c rest Q m0 J N → ∀ j k μ1, J j k μ1 → Turn c c' target body rest m0 Q (N j) k μ1)
    (hs : ∀ x, foldedSetIterable iter c.env x = pure x := by intro _; rfl) : WS c (.For target iter body [] p :: rest) m μ Q :=
  S_forM m0 J hm hi (fun c' hc' j k μ1 hJ => (turn c' hc' _ (fun _ _ _ _ _ z => z) j k μ1 hJ).or.imp id fun hz3 => by obtain ⟨v, k', st, z⟩ := hz3; exact ⟨v, k', st, fun Hs s rv R hv E => wpAny_mono (z Hs s rv R hv E) (fun _ _ hz4 => by obtain ⟨m2, R2, z2⟩ := hz4; exact ⟨m2, R2, WS.mono z2 fun fl m3 μ3 q => by cases fl <;> exact q⟩) fun _ _ z => z⟩) hs

end
end
structure CD where
  v : List Int
  l : List Int
  o : List Int
  n : List Int
  al : Bool
structure HD where
  t : Int
  v : Int
  c : Int
structure ED where
  t : Int
  i : Int
  k : Int
  d : Array UInt8
structure SD where
  i : Int
  t : Int
  c : CD
  d : Array UInt8
structure MD where
  n0 : Int
  n1 : Int
  n2 : Int
  n3 : Int
  n4 : Int
  n5 : Int
  n6 : Int
  n7 : Int
  rej : Bool
  es : List ED
  shot : Option SD
  ctx : Array UInt8
inductive TD where
  | conf0 (D : CD)
  | conf1 (D : CD)
  | hard (D : HD)
  | entry (D : ED)
  | shot (D : SD)
  | msg (D : MD)

noncomputable def cfs (C x0 x1 x2 x3 : Addr) (al : Bool) : List (Str × V) :=
  if C = 194 then [("voters", .ref x0), ("learners", .ref x1), ("outgoing", .ref x2), ("learners_next", .ref x3), ("auto_leave", .bool al)]
  else [("voters", .ref x0), ("outgoing", .ref x2), ("learners", .ref x1), ("learners_next", .ref x3), ("auto_leave", .bool al)]
noncomputable def four (x0 x1 x2 x3 : Addr) (D : CD) : List (Addr × O) := [(x0, .list (List.map V.int D.v)), (x1, .list (List.map V.int D.l)), (x2, .list (List.map V.int D.o)), (x3, .list (List.map V.int D.n))]
inductive CG (C a : Addr) (D : CD) (l : List (Addr × O)) : Prop
  | mk (d : Addr) (x0 : Addr) (x1 : Addr) (x2 : Addr) (x3 : Addr) (h0 : l = (a, .inst C d) :: (d, .dict (cfs C x0 x1 x2 x3 D.al)) :: four x0 x1 x2 x3 D) : CG C a D l
inductive CO (a : Addr) (D : CD) (l : List (Addr × O)) : Prop
  | mk (x0 : Addr) (x1 : Addr) (x2 : Addr) (x3 : Addr) (h0 : l = (a, .list [.ref x0, .ref x1, .ref x2, .ref x3, .bool D.al]) :: four x0 x1 x2 x3 D) : CO a D l
inductive HG (a : Addr) (D : HD) (l : List (Addr × O)) : Prop
  | mk (d : Addr) (h0 : l = [(a, .inst 159 d), (d, .dict [("term", .int D.t), ("vote", .int D.v), ("commit", .int D.c)])]) : HG a D l
noncomputable def HO (a : Addr) (D : HD) (l : List (Addr × O)) : Prop := l = [(a, .list [.int D.t, .int D.v, .int D.c])]
inductive EG (a : Addr) (D : ED) (l : List (Addr × O)) : Prop
  | mk (d : Addr) (h0 : l = [(a, .inst 110 d), (d, .dict [("term", .int D.t), ("index", .int D.i), ("kind", .int D.k), ("data", .bytes D.d)])]) : EG a D l
noncomputable def EO (a : Addr) (D : ED) (l : List (Addr × O)) : Prop := l = [(a, .list [.int D.t, .int D.i, .int D.k, .bytes D.d])]
inductive SG (a : Addr) (D : SD) (l : List (Addr × O)) : Prop
  | mk (d : Addr) (b : Addr) (lc : List (Addr × O)) (h0 : CG 194 b D.c lc) (h1 : l = (a, .inst 236 d) :: (d, .dict [("index", .int D.i), ("term", .int D.t), ("conf", .ref b), ("data", .bytes D.d)]) :: lc) : SG a D l
inductive SO (a : Addr) (D : SD) (l : List (Addr × O)) : Prop
  | mk (b : Addr) (lc : List (Addr × O)) (h0 : CO b D.c lc) (h1 : l = (a, .list [.int D.i, .int D.t, .ref b, .bytes D.d]) :: lc) : SO a D l

inductive Alls {α : Type} (P : Addr → α → List (Addr × O) → Prop) : List Addr → List α → List (List (Addr × O)) → Prop
  | nil : Alls P [] [] []
  | cons {a x l as xs ls} (h : P a x l) (r : Alls P as xs ls) : Alls P (a :: as) (x :: xs) (l :: ls)
inductive OptS (P : Addr → SD → List (Addr × O) → Prop) : V → Option SD → List (Addr × O) → Prop
  | none : OptS P .none none []
  | some {a x l} (h : P a x l) : OptS P (.ref a) (some x) l

noncomputable def mfs (D : MD) (e : Addr) (v : V) : List (Str × V) := [("kind", .int D.n0), ("to", .int D.n1), ("frm", .int D.n2), ("term", .int D.n3), ("log_term", .int D.n4), ("index", .int D.n5), ("entries", .ref e), ("commit", .int D.n6), ("snapshot", v), ("reject", .bool D.rej), ("reject_hint", .int D.n7), ("context", .bytes D.ctx)]
inductive MG (a : Addr) (D : MD) (l : List (Addr × O)) : Prop
  | mk (d : Addr) (e : Addr) (as : List Addr) (ls : List (List (Addr × O))) (v : V) (lv : List (Addr × O)) (h0 : Alls EG as D.es ls) (h1 : OptS SG v D.shot lv) (h2 : l = (a, .inst 267 d) :: (d, .dict (mfs D e v)) :: (e, .list (List.map V.ref as)) :: (ls.flatten ++ lv)) : MG a D l
inductive MO (a : Addr) (D : MD) (l : List (Addr × O)) : Prop
  | mk (n : Addr) (e : Addr) (as : List Addr) (ls : List (List (Addr × O))) (v : V) (lv : List (Addr × O)) (h0 : Alls EO as D.es ls) (h1 : OptS SO v D.shot lv) (h2 : l = (a, .list [.ref n, .bool D.rej, .ref e, v, .bytes D.ctx]) :: (n, .list [.int D.n0, .int D.n1, .int D.n2, .int D.n3, .int D.n4, .int D.n5, .int D.n6, .int D.n7]) :: (e, .list (List.map V.ref as)) :: (ls.flatten ++ lv)) : MO a D l

noncomputable def TD.kind : TD → Int
  | .conf0 _ => 0
  | .conf1 _ => 1
  | .hard _ => 2
  | .entry _ => 3
  | .shot _ => 4
  | .msg _ => 5
noncomputable def TG : Addr → TD → List (Addr × O) → Prop
  | a, .conf0 D, l => CG 194 a D l
  | a, .conf1 D, l => CG 365 a D l
  | a, .hard D, l => HG a D l
  | a, .entry D, l => EG a D l
  | a, .shot D, l => SG a D l
  | a, .msg D, l => MG a D l
noncomputable def TO : Addr → TD → List (Addr × O) → Prop
  | a, .conf0 D, l => CO a D l
  | a, .conf1 D, l => CO a D l
  | a, .hard D, l => HO a D l
  | a, .entry D, l => EO a D l
  | a, .shot D, l => SO a D l
  | a, .msg D, l => MO a D l
inductive Thing (a : Addr) (T : TD) (l : List (Addr × O)) : Prop
  | mk (g : Addr) (o : Addr) (lg : List (Addr × O)) (lo : List (Addr × O)) (h0 : TG g T lg) (h1 : TO o T lo) (h2 : l = (a, .list [.int T.kind, .ref g, .ref o]) :: (lg ++ lo)) : Thing a T l

noncomputable def intsD (xs : List Int) : D := .tup (xs.map .int)
noncomputable def CD.row0 (D : CD) : Mine.D := .tup [intsD D.v, intsD D.l, intsD D.o, intsD D.n, .bool D.al]
noncomputable def CD.row1 (D : CD) : Mine.D := .tup [intsD D.v, intsD D.o, intsD D.l, intsD D.n, .bool D.al]
noncomputable def HD.row (D : HD) : Mine.D := .tup [.int D.t, .int D.v, .int D.c]
noncomputable def ED.row (D : ED) : Mine.D := .tup [.int D.t, .int D.i, .int D.k, .bytes D.d]
noncomputable def SD.row (D : SD) : Mine.D := .tup [.int D.i, .int D.t, D.c.row0, .bytes D.d]
noncomputable def shotRow : Option SD → Mine.D
  | none => .none
  | some s => s.row
noncomputable def MD.row (D : MD) : Mine.D := .tup [.int D.n0, .int D.n1, .int D.n2, .int D.n3, .int D.n4, .int D.n5, .tup (D.es.map ED.row), .int D.n6, shotRow D.shot, .bool D.rej, .int D.n7, .bytes D.ctx]
noncomputable def TD.row : TD → Mine.D
  | .conf0 D => D.row0
  | .conf1 D => D.row1
  | .hard D => D.row
  | .entry D => D.row
  | .shot D => D.row
  | .msg D => D.row

noncomputable def RdB (n : Nat) (v : V) (d : D) (l : List (Addr × O)) : Prop := ∀ μ : Mu, (∀ p ∈ l, μ p.1 = some p.2) → Rd μ n v d

noncomputable def Ri (xs : List Int) (b : Nat) : Prop := xs.Pairwise (· < ·) ∧ (∀ x ∈ xs, 1 ≤ x ∧ x ≤ 20000000000 + 100 * (b : Int)) ∧ xs.length ≤ b
noncomputable def CD.WF (D : CD) (b : Nat) : Prop := Ri D.v b ∧ Ri D.l b ∧ Ri D.o b ∧ Ri D.n b
noncomputable def ED.WF (D : ED) (b : Nat) : Prop := D.d.size ≤ b
noncomputable def SD.WF (D : SD) (b : Nat) : Prop := D.c.WF b ∧ D.d.size ≤ b
noncomputable def MD.WF (D : MD) (b : Nat) : Prop := (∀ e ∈ D.es, e.WF b) ∧ D.es.length ≤ b ∧ (∀ s, D.shot = some s → s.WF b) ∧ D.ctx.size ≤ b
noncomputable def TD.WF : TD → Nat → Prop
  | .conf0 D, b => D.WF b
  | .conf1 D, b => D.WF b
  | .hard _, _ => True
  | .entry D, b => D.WF b
  | .shot D, b => D.WF b
  | .msg D, b => D.WF b

theorem Ri.mono {xs : List Int} {b b' : Nat} (h : Ri xs b) (l : b ≤ b') : Ri xs b' := ⟨h.1, fun x hx => by have := h.2.1 x hx; omega, Nat.le_trans h.2.2 l⟩
theorem CD.WF.mono {D : CD} {b b' : Nat} (h : D.WF b) (l : b ≤ b') : D.WF b' := ⟨h.1.mono l, h.2.1.mono l, h.2.2.1.mono l, h.2.2.2.mono l⟩
theorem ED.WF.mono {D : ED} {b b' : Nat} (h : D.WF b) (l : b ≤ b') : D.WF b' := Nat.le_trans h l
theorem SD.WF.mono {D : SD} {b b' : Nat} (h : D.WF b) (l : b ≤ b') : D.WF b' := ⟨h.1.mono l, Nat.le_trans h.2 l⟩
theorem MD.WF.mono {D : MD} {b b' : Nat} (h : D.WF b) (l : b ≤ b') : D.WF b' := ⟨fun e he => (h.1 e he).mono l, Nat.le_trans h.2.1 l, fun s hs => (h.2.2.1 s hs).mono l, Nat.le_trans h.2.2.2 l⟩
theorem TD.WF.mono {T : TD} {b b' : Nat} (h : T.WF b) (l : b ≤ b') : T.WF b' := by
  cases T with
  | conf0 D => exact CD.WF.mono (D := D) h l
  | conf1 D => exact CD.WF.mono (D := D) h l
  | hard D => trivial
  | entry D => exact ED.WF.mono (D := D) h l
  | shot D => exact SD.WF.mono (D := D) h l
  | msg D => exact MD.WF.mono (D := D) h l

theorem rising_unique : ∀ {xs ys : List Int}, xs.Pairwise (· < ·) → ys.Pairwise (· < ·) → (∀ z, z ∈ xs ↔ z ∈ ys) → xs = ys
  | [], [], _, _, _ => rfl
  | [], y :: ys, _, _, h => absurd ((h y).mpr (.head _)) List.not_mem_nil
  | x :: xs, [], _, _, h => absurd ((h x).mp (.head _)) List.not_mem_nil
  | x :: xs, y :: ys, hx, hy, h => by
    obtain ⟨hx1, hx2⟩ := List.pairwise_cons.mp hx
    obtain ⟨hy1, hy2⟩ := List.pairwise_cons.mp hy
    have e : x = y := by
      rcases List.mem_cons.mp ((h x).mp (.head _)) with q | q
      · exact q
      · rcases List.mem_cons.mp ((h y).mpr (.head _)) with q' | q'
        · exact q'.symm
        · have := hy1 x q; have := hx1 y q'; omega
    subst e
    rw [rising_unique hx2 hy2 fun z => ⟨fun hz => by
      rcases List.mem_cons.mp ((h z).mp (.tail _ hz)) with q | q
      · have := hx1 z hz; omega
      · exact q, fun hz => by
      rcases List.mem_cons.mp ((h z).mpr (.tail _ hz)) with q | q
      · have := hy1 z hz; omega
      · exact q⟩]

theorem Alls.length {α : Type} {P : Addr → α → List (Addr × O) → Prop} {as : List Addr} {xs : List α} {ls} (h : Alls P as xs ls) : as.length = xs.length ∧ ls.length = xs.length := by
  induction h with
  | nil => exact ⟨rfl, rfl⟩
  | cons _ _ ih => exact ⟨congrArg (· + 1) ih.1, congrArg (· + 1) ih.2⟩
theorem Alls.get {α : Type} {P : Addr → α → List (Addr × O) → Prop} {as : List Addr} {xs : List α} {ls} (h : Alls P as xs ls) : ∀ {i : Nat} {x : α}, xs[i]? = some x → ∃ a l, as[i]? = some a ∧ ls[i]? = some l ∧ P a x l := by
  induction h with
  | nil => intro i x e; simp at e
  | @cons a x l as xs ls h _ ih =>
    intro i y e
    cases i with
    | zero => simp at e; subst e; exact ⟨a, l, rfl, rfl, h⟩
    | succ i => simp at e; obtain ⟨b, m, h1, h2, h3⟩ := ih e; exact ⟨b, m, by simpa using h1, by simpa using h2, h3⟩
theorem Alls.append {α : Type} {P : Addr → α → List (Addr × O) → Prop} {as bs : List Addr} {xs ys : List α} {ls ms} (h : Alls P as xs ls) (g : Alls P bs ys ms) : Alls P (as ++ bs) (xs ++ ys) (ls ++ ms) := by
  induction h with
  | nil => exact g
  | cons h _ ih => exact .cons h ih
theorem Alls.one {α : Type} {P : Addr → α → List (Addr × O) → Prop} {a x l} (h : P a x l) : Alls P [a] [x] [l] := .cons h .nil
theorem Alls.set {α : Type} {P : Addr → α → List (Addr × O) → Prop} {as : List Addr} {xs : List α} {ls} (h : Alls P as xs ls) : ∀ {i : Nat} {a x' l'}, as[i]? = some a → P a x' l' → Alls P as (xs.set i x') (ls.set i l') := by
  induction h with
  | nil => intro i a x' l' e _; simp at e
  | cons h r ih =>
    intro i a x' l' e p
    cases i with
    | zero => simp at e; subst e; exact .cons p r
    | succ i => simp at e; exact .cons h (ih e p)
theorem Alls.setA {α : Type} {P : Addr → α → List (Addr × O) → Prop} {as : List Addr} {xs : List α} {ls} (h : Alls P as xs ls) : ∀ {i : Nat} {a' x' l'}, i < as.length → P a' x' l' → Alls P (as.set i a') (xs.set i x') (ls.set i l') := by
  induction h with
  | nil => intro i a x' l' e _; simp at e
  | cons h r ih =>
    intro i a x' l' e p
    cases i with
    | zero => exact .cons p r
    | succ i => exact .cons h (ih (by simpa using e) p)
theorem Alls.erase {α : Type} {P : Addr → α → List (Addr × O) → Prop} {as : List Addr} {xs : List α} {ls} (h : Alls P as xs ls) : ∀ (i : Nat), Alls P (as.eraseIdx i) (xs.eraseIdx i) (ls.eraseIdx i) := by
  induction h with
  | nil => intro i; exact .nil
  | cons h r ih =>
    intro i
    cases i with
    | zero => exact r
    | succ i => exact .cons h (ih i)
theorem pick_at : ∀ {ls : List (List (Addr × O))} {i : Nat} {l}, ls[i]? = some l → Pick l ls (ls.eraseIdx i)
  | [], _, _, e => by simp at e
  | x :: ls, 0, l, e => by simp at e; subst e; exact .head
  | x :: ls, i + 1, l, e => .tail (pick_at (by simpa using e))
theorem set_at : ∀ {ls : List (List (Addr × O))} {i : Nat} {l'}, i < ls.length → (l' ++ (ls.eraseIdx i).flatten).Perm ((ls.set i l').flatten)
  | [], _, _, e => by simp at e
  | x :: ls, 0, l', _ => .refl _
  | x :: ls, i + 1, l', e => by
    simp only [List.eraseIdx_cons_succ, List.flatten_cons, List.set_cons_succ]
    have := set_at (ls := ls) (i := i) (l' := l') (by simpa using e)
    refine List.Perm.trans ?_ (List.Perm.append_left x this)
    rw [← List.append_assoc, ← List.append_assoc]
    exact List.Perm.append_right _ List.perm_append_comm
section
variable {w : World} {c : Cx w} {m : Vars} {μ : Mu}
theorem Own.open_at {ls K : List (List (Addr × O))} {i : Nat} {l} (e : ls[i]? = some l) (H : Own (ls.flatten :: K) μ) : Own (l :: (ls.eraseIdx i).flatten :: K) μ := H.to (by
  simp only [List.flatten_cons, ← List.append_assoc]
  exact List.Perm.append_right _ (pick_at e).perm)
theorem Own.close_at {ls K : List (List (Addr × O))} {i : Nat} {l'} (e : i < ls.length) (H : Own (l' :: (ls.eraseIdx i).flatten :: K) μ) : Own ((ls.set i l').flatten :: K) μ := H.to (by
  simp only [List.flatten_cons, ← List.append_assoc]
  exact List.Perm.append_right _ (set_at e))
theorem set_same {α : Type} : ∀ {ls : List α} {i : Nat} {l}, ls[i]? = some l → ls.set i l = ls
  | [], _, _, e => by simp at e
  | x :: ls, 0, l, e => by simp at e; subst e; rfl
  | x :: ls, i + 1, l, e => by simp only [List.set_cons_succ]; rw [set_same (by simpa using e)]
theorem Own.shut_at {ls K : List (List (Addr × O))} {i : Nat} {l} (e : ls[i]? = some l) (H : Own (l :: (ls.eraseIdx i).flatten :: K) μ) : Own (ls.flatten :: K) μ := by
  have := H.close_at (List.getElem?_eq_some_iff.mp e).1
  rwa [set_same e] at this
theorem Own.un5 {x y z : Addr × O} {b b' : List (Addr × O)} {L : List (List (Addr × O))} (H : Own ((x :: y :: z :: (b ++ b')) :: L) μ) : Own ([x] :: [y] :: [z] :: b :: b' :: L) μ := H.eq (by simp)
theorem Own.mk5 {x y z : Addr × O} {b b' : List (Addr × O)} {L : List (List (Addr × O))} (H : Own ([x] :: [y] :: [z] :: b :: b' :: L) μ) : Own ((x :: y :: z :: (b ++ b')) :: L) μ := H.eq (by simp)
theorem Own.pk2 {b b' : List (Addr × O)} {L L1 L2 : List (List (Addr × O))} (H : Own L μ) (p : Pick b L L1) (q : Pick b' L1 L2) : Own (b :: b' :: L2) μ := H.picks (P := [b, b']) (.cons p (.cons q .nil))
theorem Own.pk3 {b b' b2 : List (Addr × O)} {L L1 L2 L3 : List (List (Addr × O))} (H : Own L μ) (p : Pick b L L1) (q : Pick b' L1 L2) (r : Pick b2 L2 L3) : Own (b :: b' :: b2 :: L3) μ := H.picks (P := [b, b', b2]) (.cons p (.cons q (.cons r .nil)))
theorem take_succ_get {α : Type} {xs : List α} {i : Nat} {x : α} (h : xs[i]? = some x) : xs.take (i + 1) = xs.take i ++ [x] := by
  obtain ⟨h1, h2⟩ := List.getElem?_eq_some_iff.mp h
  rw [List.take_succ_eq_append_getElem h1, h2]

theorem O_map {α : Type} {P R : Addr → α → List (Addr × O) → Prop} {S scope : Scope} {t : Str} {px pos : Pos} {iter elt : Expr} {Q : V → Mu → Prop} {e : Addr} {as : List Addr} {xs : List α} {ls : List (List (Addr × O))}
    {r : Nat} (hS : c.env.scope = S) (hC : Celled c) (hown : c.env.locals = c.L) (hr : c.room = r) (ok : compOk scope S t = true) (ha : Alls P as xs ls) (hl : xs.length ≤ 100000)
    (hi : WE c iter m μ (fun v μ' => ∃ K, v = .ref e ∧ Own ([(e, .list (as.map .ref))] :: ls.flatten :: K) μ' ∧
      ∀ D bs rs μ'', Alls R bs xs rs → Own ([(D, .list (bs.map .ref))] :: rs.flatten :: [(e, .list (as.map .ref))] :: ls.flatten :: K) μ'' → Q (.ref D) μ''))
    (helt : ∀ c' : Cx w, At0 c' r (relab scope S) → ∀ a x l μ1 K', P a x l → x ∈ xs → Own (l :: K') μ1 → WE c' elt ((cm scope m).set t (.ref a)) μ1 (fun v μ2 => ∃ b l', v = .ref b ∧ R b x l' ∧ Own (l' :: l :: K') μ2))
    (hs : ∀ x, foldedSetIterable iter c.env x = pure x := by intro _; rfl) : WE c (.ListComp elt [⟨.Name t px, iter, [], 0⟩] scope pos) m μ Q := by
  refine O_comp (fun n k acc μ1 => ∃ i bs rs K, (∀ D bs rs μ'', Alls R bs xs rs → Own ([(D, .list (bs.map .ref))] :: rs.flatten :: [(e, .list (as.map .ref))] :: ls.flatten :: K) μ'' → Q (.ref D) μ'') ∧ k = .list e i ∧ n = xs.length - i ∧ i ≤ xs.length ∧ acc = bs.map .ref ∧ Alls R bs (xs.take i) rs ∧ Own ([(e, .list (as.map .ref))] :: rs.flatten :: ls.flatten :: K) μ1) hS hC hown ok ?_ ?_ hs
  · refine OI_list (WT.mono hi fun v μ' hx0 => by obtain ⟨K, e1, H, fin⟩ := hx0; exact ⟨_, _, _, e1, H, .head, _, 0, [], [], K, fin, rfl, rfl, Nat.zero_le _, rfl, .nil, H.eq (by simp)⟩)
  · rintro c' hc' N hN n k acc μ1 ⟨i, bs, rs, K, fin, rfl, rfl, hi, rfl, hR, H⟩
    have hbl : bs.length = i := by rw [hR.length.1, List.length_take]; omega
    refine ⟨by rw [List.length_map]; omega, ?_⟩
    by_cases h : i < xs.length
    · right
      obtain ⟨x, hx⟩ : ∃ x, xs[i]? = some x := ⟨_, List.getElem?_eq_getElem h⟩
      obtain ⟨a, l, e1, e2, hP⟩ := ha.get hx
      refine ⟨.ref a, _, .list (H.get .head) (by rw [List.getElem?_map, e1]; rfl), ?_⟩
      have H1 : Own (ls.flatten :: [(e, .list (as.map .ref))] :: rs.flatten :: K) μ1 := H.picks (P := [ls.flatten, [(e, .list (as.map .ref))], rs.flatten]) (.cons (.tail (.tail .head)) (.cons .head (.cons .head .nil)))
      have H2 := H1.open_at e2
      show WE c' elt _ μ1 _
      subst hr
      refine WT.mono (helt c' hc' a x l μ1 _ hP (List.mem_of_getElem? hx) H2) fun v μ2 hz0 => ?_
      obtain ⟨b, l', e3, hr3, H3⟩ := hz0
      subst e3
      refine PostC.go hN ⟨_, by omega, i + 1, bs ++ [b], rs ++ [l'], K, fin, rfl, rfl, h, by simp, by rw [take_succ_get hx]; exact hR.append (.one hr3), ?_⟩
      have H4 := (H3.picks (P := [l, (ls.eraseIdx i).flatten]) (.cons (.tail .head) (.cons (.tail .head) .nil))).shut_at e2
      exact (H4.picks (P := [[(e, .list (as.map .ref))], rs.flatten, l', ls.flatten]) (.cons (.tail (.tail .head)) (.cons (.tail (.tail .head)) (.cons (.tail .head) (.cons .head .nil))))).eq (by simp)
    · left
      have : i = xs.length := by omega
      subst this
      refine ⟨.listEnd (H.get .head) (by rw [List.getElem?_eq_none_iff, List.length_map, ha.length.1]; exact Nat.le_refl _), _, H, fun D μ2 H2 => ?_⟩
      rw [List.take_length] at hR
      exact fin D bs rs μ2 hR (H2.picks (P := [[(D, .list (bs.map .ref))], rs.flatten]) (.cons .head (.cons (.tail .head) .nil)))
end
section
variable {w : World} {c : Cx w} {m : Vars} {μ : Mu}
theorem T_if0 {t : Expr} {b o : List Stmt} {p} {Q : Fl → Vars → Mu → Prop} (h : ∀ R, PostB R (Bra0 c b m Q) (Bra0 c o m Q) → WB c t m μ R) : WS c (.If t b o p :: []) m μ Q :=
  T_if fun R hR => h R fun r μ' q => by
    have up : ∀ {b : List Stmt}, WS c b m μ' Q → Bra c b m (fun m' μ2 => WS c [] m' μ2 Q) Q μ' := fun h N hN => WS.mono h fun fl m2 μ2 z => by
      cases fl with
      | next => exact hN .next _ _ (S_nil z)
      | brk => exact hN .brk _ _ z
      | cont => exact hN .cont _ _ z
      | ret v => exact hN (.ret v) _ _ z
    cases r with
    | true => exact hR true _ (up q)
    | false => exact hR false _ (up q)
end
section
variable {w : World}
theorem k65 : (KK w).lookup 65 = some ⟨(ty "function"), none, .func (fnOf (q "rising") (q "rising") (fA 7) (fB 7) (fS 7) .none .none .none (st "raftkeep.messages" 248) none (rf 64) .none), #[]⟩ := by kernel_rfl
theorem k79 : (KK w).lookup 79 = some ⟨(ty "function"), none, .func (fnOf (q "__init__") (q "Entry.__init__") (mA 8 0) (mB 8 0) (mS 8 0) .none .none .none (st "raftkeep.messages" 248) none (rf 78) .none), #[]⟩ := by kernel_rfl
theorem k86 : (KK w).lookup 86 = some ⟨(ty "function"), none, .func (fnOf (q "row") (q "Entry.row") (mA 8 1) (mB 8 1) (mS 8 1) .none .none .none (st "raftkeep.messages" 248) none (rf 85) .none), #[]⟩ := by kernel_rfl
theorem k93 : (KK w).lookup 93 = some ⟨(ty "function"), none, .func (fnOf (q "copy") (q "Entry.copy") (mA 8 2) (mB 8 2) (mS 8 2) .none .none .none (st "raftkeep.messages" 248) none (rf 92) .none), #[]⟩ := by kernel_rfl
theorem k128 : (KK w).lookup 128 = some ⟨(ty "function"), none, .func (fnOf (q "__init__") (q "HardState.__init__") (mA 9 0) (mB 9 0) (mS 9 0) .none .none .none (st "raftkeep.messages" 248) none (rf 127) .none), #[]⟩ := by kernel_rfl
theorem k135 : (KK w).lookup 135 = some ⟨(ty "function"), none, .func (fnOf (q "row") (q "HardState.row") (mA 9 1) (mB 9 1) (mS 8 1) .none .none .none (st "raftkeep.messages" 248) none (rf 134) .none), #[]⟩ := by kernel_rfl
theorem k142 : (KK w).lookup 142 = some ⟨(ty "function"), none, .func (fnOf (q "empty") (q "HardState.empty") (mA 9 2) (mB 9 2) (mS 9 2) .none .none .none (st "raftkeep.messages" 248) none (rf 141) .none), #[]⟩ := by kernel_rfl
theorem k149 : (KK w).lookup 149 = some ⟨(ty "function"), none, .func (fnOf (q "same") (q "HardState.same") (mA 9 3) (mB 9 3) (mS 9 3) .none .none .none (st "raftkeep.messages" 248) none (rf 148) .none), #[]⟩ := by kernel_rfl
theorem k156 : (KK w).lookup 156 = some ⟨(ty "function"), none, .func (fnOf (q "copy") (q "HardState.copy") (mA 9 4) (mB 9 4) (mS 9 4) .none .none .none (st "raftkeep.messages" 248) none (rf 155) .none), #[]⟩ := by kernel_rfl
theorem k177 : (KK w).lookup 177 = some ⟨(ty "function"), none, .func (fnOf (q "__init__") (q "ConfState.__init__") (mA 10 0) (mB 10 0) (mS 10 0) .none .none .none (st "raftkeep.messages" 248) none (rf 176) .none), #[]⟩ := by kernel_rfl
theorem k184 : (KK w).lookup 184 = some ⟨(ty "function"), none, .func (fnOf (q "row") (q "ConfState.row") (mA 10 1) (mB 10 1) (mS 10 1) .none .none .none (st "raftkeep.messages" 248) none (rf 183) .none), #[]⟩ := by kernel_rfl
theorem k191 : (KK w).lookup 191 = some ⟨(ty "function"), none, .func (fnOf (q "copy") (q "ConfState.copy") (mA 10 2) (mB 10 2) (mS 10 2) .none .none .none (st "raftkeep.messages" 248) none (rf 190) .none), #[]⟩ := by kernel_rfl
theorem k212 : (KK w).lookup 212 = some ⟨(ty "function"), none, .func (fnOf (q "__init__") (q "Snapshot.__init__") (mA 11 0) (mB 11 0) (mS 11 0) .none .none .none (st "raftkeep.messages" 248) none (rf 211) .none), #[]⟩ := by kernel_rfl
theorem k219 : (KK w).lookup 219 = some ⟨(ty "function"), none, .func (fnOf (q "row") (q "Snapshot.row") (mA 11 1) (mB 11 1) (mS 8 1) .none .none .none (st "raftkeep.messages" 248) none (rf 218) .none), #[]⟩ := by kernel_rfl
theorem k226 : (KK w).lookup 226 = some ⟨(ty "function"), none, .func (fnOf (q "empty") (q "Snapshot.empty") (mA 11 2) (mB 11 2) (mS 8 1) .none .none .none (st "raftkeep.messages" 248) none (rf 225) .none), #[]⟩ := by kernel_rfl
theorem k233 : (KK w).lookup 233 = some ⟨(ty "function"), none, .func (fnOf (q "copy") (q "Snapshot.copy") (mA 11 3) (mB 11 3) (mS 11 3) .none .none .none (st "raftkeep.messages" 248) none (rf 232) .none), #[]⟩ := by kernel_rfl
theorem k254 : (KK w).lookup 254 = some ⟨(ty "function"), none, .func (fnOf (q "__init__") (q "Message.__init__") (mA 12 0) (mB 12 0) (mS 12 0) .none .none .none (st "raftkeep.messages" 248) none (rf 253) .none), #[]⟩ := by kernel_rfl
theorem k259 : (KK w).lookup 259 = some ⟨(ty "function"), none, .func (fnOf (q "row") (q "Message.row") (mA 12 1) (mB 12 1) (mS 12 1) .none .none .none (st "raftkeep.messages" 248) none (rf 258) .none), #[]⟩ := by kernel_rfl
theorem k264 : (KK w).lookup 264 = some ⟨(ty "function"), none, .func (fnOf (q "copy") (q "Message.copy") (mA 12 2) (mB 12 2) (mS 12 2) .none .none .none (st "raftkeep.messages" 248) none (rf 263) .none), #[]⟩ := by kernel_rfl
theorem k299 : (KK w).lookup 299 = some ⟨(ty "function"), none, .func (fnOf (q "__init__") (q "Config.__init__") (mA 19 0) (mB 19 0) (mS 19 0) .none .none .none (st "raftkeep.quorum" 548) none (rf 298) .none), #[]⟩ := by kernel_rfl
theorem k306 : (KK w).lookup 306 = some ⟨(ty "function"), none, .func (fnOf (q "row") (q "Config.row") (mA 19 1) (mB 19 1) (mS 10 1) .none .none .none (st "raftkeep.quorum" 548) none (rf 305) .none), #[]⟩ := by kernel_rfl
theorem k313 : (KK w).lookup 313 = some ⟨(ty "function"), none, .func (fnOf (q "copy") (q "Config.copy") (mA 19 2) (mB 19 2) (mS 19 2) .none .none .none (st "raftkeep.quorum" 548) none (rf 312) .none), #[]⟩ := by kernel_rfl
theorem k320 : (KK w).lookup 320 = some ⟨(ty "function"), none, .func (fnOf (q "joint") (q "Config.joint") (mA 19 3) (mB 19 3) (mS 19 3) .none .none .none (st "raftkeep.quorum" 548) none (rf 319) .none), #[]⟩ := by kernel_rfl
theorem k334 : (KK w).lookup 334 = some ⟨(ty "function"), none, .func (fnOf (q "members") (q "Config.members") (mA 19 5) (mB 19 5) (mS 19 5) .none .none .none (st "raftkeep.quorum" 548) none (rf 333) .none), #[]⟩ := by kernel_rfl
theorem k355 : (KK w).lookup 355 = some ⟨(ty "function"), none, .func (fnOf (q "conf_state") (q "Config.conf_state") (mA 19 8) (mB 19 8) (mS 10 2) .none .none .none (st "raftkeep.quorum" 548) none (rf 354) .none), #[]⟩ := by kernel_rfl
theorem k362 : (KK w).lookup 362 = some ⟨(ty "function"), none, .func (fnOf (q "check") (q "Config.check") (mA 19 9) (mB 19 9) (mS 19 9) .none .none .none (st "raftkeep.quorum" 548) none (rf 361) .none), #[]⟩ := by kernel_rfl
theorem k376 : (KK w).lookup 376 = some ⟨(ty "function"), none, .func (fnOf (q "config_of") (q "config_of") (fA 20) (fB 20) (fS 20) .none .none .none (st "raftkeep.quorum" 548) none (rf 375) .none), #[]⟩ := by kernel_rfl
theorem k383 : (KK w).lookup 383 = some ⟨(ty "function"), none, .func (fnOf (q "_law_draw") (q "_law_draw") (fA 22) (fB 22) (fS 22) .none .none .none (st "law_xw0263_01" 690) none (rf 382) .none), #[]⟩ := by kernel_rfl
theorem k388 : (KK w).lookup 388 = some ⟨(ty "function"), none, .func (fnOf (q "_law_members") (q "_law_members") (fA 23) (fB 23) (fS 23) .none .none .none (st "law_xw0263_01" 690) none (rf 387) .none), #[]⟩ := by kernel_rfl
theorem k393 : (KK w).lookup 393 = some ⟨(ty "function"), none, .func (fnOf (q "_law_twin") (q "_law_twin") (fA 24) (fB 24) (fS 24) .none .none .none (st "law_xw0263_01" 690) none (rf 392) .none), #[]⟩ := by kernel_rfl
theorem k398 : (KK w).lookup 398 = some ⟨(ty "function"), none, .func (fnOf (q "_law_handed") (q "_law_handed") (fA 25) (fB 25) (fS 25) .none .none .none (st "law_xw0263_01" 690) none (rf 397) .none), #[]⟩ := by kernel_rfl
theorem k403 : (KK w).lookup 403 = some ⟨(ty "function"), none, .func (fnOf (q "_law_made") (q "_law_made") (fA 26) (fB 26) (fS 26) .none .none .none (st "law_xw0263_01" 690) none (rf 402) .none), #[]⟩ := by kernel_rfl
theorem k410 : (KK w).lookup 410 = some ⟨(ty "function"), none, .func (fnOf (q "_law_list") (q "_law_list") (fA 27) (fB 27) (fS 27) .none .none .none (st "law_xw0263_01" 690) none (rf 409) .none), #[]⟩ := by kernel_rfl
theorem k417 : (KK w).lookup 417 = some ⟨(ty "function"), none, .func (fnOf (q "_law_put_list") (q "_law_put_list") (fA 28) (fB 28) (fS 28) .none .none .none (st "law_xw0263_01" 690) none (rf 416) .none), #[]⟩ := by kernel_rfl
theorem k424 : (KK w).lookup 424 = some ⟨(ty "function"), none, .func (fnOf (q "_law_fits") (q "_law_fits") (fA 29) (fB 29) (fS 29) .none .none .none (st "law_xw0263_01" 690) none (rf 423) .none), #[]⟩ := by kernel_rfl
theorem k431 : (KK w).lookup 431 = some ⟨(ty "function"), none, .func (fnOf (q "_law_shot") (q "_law_shot") (fA 30) (fB 30) (fS 30) .none .none .none (st "law_xw0263_01" 690) none (rf 430) .none), #[]⟩ := by kernel_rfl
theorem k438 : (KK w).lookup 438 = some ⟨(ty "function"), none, .func (fnOf (q "_law_conf_row") (q "_law_conf_row") (fA 31) (fB 31) (fS 31) .none .none .none (st "law_xw0263_01" 690) none (rf 437) .none), #[]⟩ := by kernel_rfl
theorem k443 : (KK w).lookup 443 = some ⟨(ty "function"), none, .func (fnOf (q "_law_row") (q "_law_row") (fA 32) (fB 32) (fS 32) .none .none .none (st "law_xw0263_01" 690) none (rf 442) .none), #[]⟩ := by kernel_rfl
theorem k448 : (KK w).lookup 448 = some ⟨(ty "function"), none, .func (fnOf (q "_law_own_twin") (q "_law_own_twin") (fA 33) (fB 33) (fS 33) .none .none .none (st "law_xw0263_01" 690) none (rf 447) .none), #[]⟩ := by kernel_rfl
theorem k453 : (KK w).lookup 453 = some ⟨(ty "function"), none, .func (fnOf (q "_law_stand") (q "_law_stand") (fA 34) (fB 34) (fS 34) .none .none .none (st "law_xw0263_01" 690) none (rf 452) .none), #[]⟩ := by kernel_rfl
theorem k460 : (KK w).lookup 460 = some ⟨(ty "function"), none, .func (fnOf (q "_law_config") (q "_law_config") (fA 35) (fB 35) (fS 35) .none .none .none (st "law_xw0263_01" 690) none (rf 459) .none), #[]⟩ := by kernel_rfl
theorem k467 : (KK w).lookup 467 = some ⟨(ty "function"), none, .func (fnOf (q "_law_copy") (q "_law_copy") (fA 36) (fB 36) (fS 36) .none .none .none (st "law_xw0263_01" 690) none (rf 466) .none), #[]⟩ := by kernel_rfl
theorem k474 : (KK w).lookup 474 = some ⟨(ty "function"), none, .func (fnOf (q "_law_turn_members") (q "_law_turn_members") (fA 37) (fB 37) (fS 37) .none .none .none (st "law_xw0263_01" 690) none (rf 473) .none), #[]⟩ := by kernel_rfl
theorem k481 : (KK w).lookup 481 = some ⟨(ty "function"), none, .func (fnOf (q "_law_turn_hard") (q "_law_turn_hard") (fA 38) (fB 38) (fS 38) .none .none .none (st "law_xw0263_01" 690) none (rf 480) .none), #[]⟩ := by kernel_rfl
theorem k488 : (KK w).lookup 488 = some ⟨(ty "function"), none, .func (fnOf (q "_law_turn_entry") (q "_law_turn_entry") (fA 39) (fB 39) (fS 39) .none .none .none (st "law_xw0263_01" 690) none (rf 487) .none), #[]⟩ := by kernel_rfl
theorem k495 : (KK w).lookup 495 = some ⟨(ty "function"), none, .func (fnOf (q "_law_entry_otherwise") (q "_law_entry_otherwise") (fA 40) (fB 40) (fS 40) .none .none .none (st "law_xw0263_01" 690) none (rf 494) .none), #[]⟩ := by kernel_rfl
theorem k502 : (KK w).lookup 502 = some ⟨(ty "function"), none, .func (fnOf (q "_law_shot_otherwise") (q "_law_shot_otherwise") (fA 41) (fB 41) (fS 41) .none .none .none (st "law_xw0263_01" 690) none (rf 501) .none), #[]⟩ := by kernel_rfl
theorem k509 : (KK w).lookup 509 = some ⟨(ty "function"), none, .func (fnOf (q "_law_say") (q "_law_say") (fA 42) (fB 42) (fS 42) .none .none .none (st "law_xw0263_01" 690) none (rf 508) .none), #[]⟩ := by kernel_rfl
theorem k516 : (KK w).lookup 516 = some ⟨(ty "function"), none, .func (fnOf (q "_law_entry_more") (q "_law_entry_more") (fA 43) (fB 43) (fS 43) .none .none .none (st "law_xw0263_01" 690) none (rf 515) .none), #[]⟩ := by kernel_rfl
theorem k523 : (KK w).lookup 523 = some ⟨(ty "function"), none, .func (fnOf (q "_law_message_otherwise") (q "_law_message_otherwise") (fA 44) (fB 44) (fS 44) .none .none .none (st "law_xw0263_01" 690) none (rf 522) .none), #[]⟩ := by kernel_rfl
theorem k530 : (KK w).lookup 530 = some ⟨(ty "function"), none, .func (fnOf (q "_law_turn") (q "_law_turn") (fA 45) (fB 45) (fS 45) .none .none .none (st "law_xw0263_01" 690) none (rf 529) .none), #[]⟩ := by kernel_rfl
theorem k537 : (KK w).lookup 537 = some ⟨(ty "function"), none, .func (fnOf (q "_law_grow") (q "_law_grow") (fA 46) (fB 46) (fS 46) .none .none .none (st "law_xw0263_01" 690) none (rf 536) .none), #[]⟩ := by kernel_rfl
theorem k544 : (KK w).lookup 544 = some ⟨(ty "function"), none, .func (fnOf (q "_law_grow_shot") (q "_law_grow_shot") (fA 47) (fB 47) (fS 47) .none .none .none (st "law_xw0263_01" 690) none (rf 543) .none), #[]⟩ := by kernel_rfl
theorem k551 : (KK w).lookup 551 = some ⟨(ty "function"), none, .func (fnOf (q "_law_grow_message") (q "_law_grow_message") (fA 48) (fB 48) (fS 48) .none .none .none (st "law_xw0263_01" 690) none (rf 550) .none), #[]⟩ := by kernel_rfl
theorem k558 : (KK w).lookup 558 = some ⟨(ty "function"), none, .func (fnOf (q "_law_end") (q "_law_end") (fA 49) (fB 49) (fS 49) .none .none .none (st "law_xw0263_01" 690) none (rf 557) .none), #[]⟩ := by kernel_rfl
theorem k563 : (KK w).lookup 563 = some ⟨(ty "function"), none, .func (fnOf (q "_law_message") (q "_law_message") (fA 50) (fB 50) (fS 50) .none .none .none (st "law_xw0263_01" 690) none (rf 562) .none), #[]⟩ := by kernel_rfl
theorem k568 : (KK w).lookup 568 = some ⟨(ty "function"), none, .func (fnOf (q "law") (q "law") (fA 51) (fB 51) (fS 51) .none .none .none (st "law_xw0263_01" 690) none (rf 567) .none), #[]⟩ := by kernel_rfl

theorem fn_go {oc : Value} {od an : Option Addr} {osl : Array (Option Value)} {name qual : Str} {params : Arguments} {body : List Stmt} {scope : Scope} {dV kV doc pm cdv ct : Value} {r : Nat} {f : Addr} {vs : List V} {μ : Mu} {Q : V → Mu → Prop} {ns : List Str} {B' : List Stmt} {S' : Scope}
    (ho : (KK w).lookup f = some ⟨oc, od, .func (fnOf name qual params body scope dV kV doc pm an cdv ct), osl⟩) (hB : body = B') (hS : scope = S') (hcd : codeIn (KK w) cdv qual = true)
    (hb : ∀ rvs : List Value, rvs.length = ns.length → bindArgs (fnOf name qual params body scope dV kV doc pm an cdv ct) ⟨rvs, []⟩ = pure (ns.zip rvs))
    (hl : vs.length = ns.length) (hk : (ns.all fun y => S'.names.lookup y == some .local || S'.names.lookup y == some .cell) = true)
    (hco : S'.isCoroutine = false) (hgen : S'.isGenerator = false) (hfun : S'.kind = .function)
    (h : ∀ c : Cx w, At c r S' → ∀ KQ : Fl → Vars → Mu → Prop, PostF Q KQ → WS c B' (bindM (ns.zip vs) fun _ => none) μ KQ) : Fn w (r + 1) f vs μ Q := by
  subst hB hS
  exact fn_intro ho hcd hb hl hk hco hgen hfun fun c hc => h c hc _ fun _ _ _ z => z
end
section
variable {w : World} {r r' : Nat} {f : Addr} {vs : List V} {μ : Mu} {L K P0 : List (List (Addr × O))} {l x0 x1 x2 x3 : List (Addr × O)} {Q : V → Mu → Prop}
theorem Fn.copy {R : Addr → List (Addr × O) → Prop} (ct : ∀ μ1, Own [l] μ1 → Fn w r f vs μ1 (fun v μ' => ∃ b lb, v = .ref b ∧ R b lb ∧ Own [lb, l] μ')) (hr : Nat.ble r r' = true) (H : Own L μ) (p : Picks [l] L K)
    (k : ∀ b lb μ', R b lb → Own (lb :: l :: K) μ' → Q (.ref b) μ') : Fn w r' f vs μ Q :=
  Fn.call ct hr H p fun v μ1 μ' h hF => by obtain ⟨b, lb, rfl, h1, H1⟩ := h; exact k b lb μ' h1 (hF _ H1)
theorem Fn.turn {α : Type} {G O' : α → List (Addr × O) → Prop} {W : α → Prop} (ct : ∀ μ1, Own P0 μ1 → Fn w r f vs μ1 (fun _ μ' => ∃ E l2 l3, G E l2 ∧ O' E l3 ∧ W E ∧ Own [l2, l3] μ')) (hr : Nat.ble r r' = true) (H : Own L μ) (p : Picks P0 L K)
    (k : ∀ v E l2 l3 μ', G E l2 → O' E l3 → W E → Own (l2 :: l3 :: K) μ' → Q v μ') : Fn w r' f vs μ Q :=
  Fn.call ct hr H p fun v μ1 μ' h hF => by obtain ⟨E, l2, l3, h1, h2, h3, H1⟩ := h; exact k v E l2 l3 μ' h1 h2 h3 (hF _ H1)
theorem Fn.turn2 {α : Type} {G O' : α → List (Addr × O) → Prop} (ct : ∀ μ1, Own P0 μ1 → Fn w r f vs μ1 (fun _ μ' => ∃ E l2 l3, G E l2 ∧ O' E l3 ∧ Own [l2, l3] μ')) (hr : Nat.ble r r' = true) (H : Own L μ) (p : Picks P0 L K)
    (k : ∀ v E l2 l3 μ', G E l2 → O' E l3 → Own (l2 :: l3 :: K) μ' → Q v μ') : Fn w r' f vs μ Q :=
  Fn.call ct hr H p fun v μ1 μ' h hF => by obtain ⟨E, l2, l3, h1, h2, H1⟩ := h; exact k v E l2 l3 μ' h1 h2 (hF _ H1)
theorem Fn.init {R : List (Addr × O) → Prop} (ct : ∀ μ1, Own P0 μ1 → Fn w r f vs μ1 (fun v μ' => v = .none ∧ ∃ l, R l ∧ Own [l] μ')) (hr : Nat.ble r r' = true) (H : Own L μ) (p : Picks P0 L K)
    (k : ∀ l μ', R l → Own (l :: K) μ' → Q .none μ') : Fn w r' f vs μ Q :=
  Fn.call ct hr H p fun v μ1 μ' h hF => by obtain ⟨rfl, l, h1, H1⟩ := h; exact k l μ' h1 (hF _ H1)
theorem Fn.row {n : Nat} {d : D} (ct : ∀ μ1, Own [l] μ1 → Fn w r f vs μ1 (fun v μ' => ∃ lr, RdB n v d lr ∧ Own [lr, l] μ')) (hr : Nat.ble r r' = true) (H : Own L μ) (p : Picks [l] L K)
    (k : ∀ v lr μ', RdB n v d lr → Own (lr :: l :: K) μ' → Q v μ') : Fn w r' f vs μ Q :=
  Fn.call ct hr H p fun v μ1 μ' h hF => by obtain ⟨lr, h1, H1⟩ := h; exact k v lr μ' h1 (hF _ H1)
theorem Fn.trow {o : O} (ct : ∀ μ1, Own [l] μ1 → Fn w r f vs μ1 (fun v μ' => ∃ t, v = .ref t ∧ Own [[(t, o)], l] μ')) (hr : Nat.ble r r' = true) (H : Own L μ) (p : Picks [l] L K)
    (k : ∀ t μ', Own ([(t, o)] :: l :: K) μ' → Q (.ref t) μ') : Fn w r' f vs μ Q :=
  Fn.call ct hr H p fun v μ1 μ' h hF => by obtain ⟨t, rfl, H1⟩ := h; exact k t μ' (hF _ H1)
theorem Fn.same1 {x : V} (ct : ∀ μ1, Own P0 μ1 → Fn w r f vs μ1 (fun v μ' => v = x ∧ Own [x0] μ')) (hr : Nat.ble r r' = true) (H : Own L μ) (p : Picks P0 L K)
    (k : ∀ μ', Own (x0 :: K) μ' → Q x μ') : Fn w r' f vs μ Q :=
  Fn.call ct hr H p fun v μ1 μ' h hF => by obtain ⟨rfl, H1⟩ := h; exact k μ' (hF _ H1)
theorem Fn.same2 {x : V} (ct : ∀ μ1, Own P0 μ1 → Fn w r f vs μ1 (fun v μ' => v = x ∧ Own [x0, x1] μ')) (hr : Nat.ble r r' = true) (H : Own L μ) (p : Picks P0 L K)
    (k : ∀ μ', Own (x0 :: x1 :: K) μ' → Q x μ') : Fn w r' f vs μ Q :=
  Fn.call ct hr H p fun v μ1 μ' h hF => by obtain ⟨rfl, H1⟩ := h; exact k μ' (hF _ H1)
theorem Fn.own2 (ct : ∀ μ1, Own P0 μ1 → Fn w r f vs μ1 (fun _ μ' => Own [x0, x1] μ')) (hr : Nat.ble r r' = true) (H : Own L μ) (p : Picks P0 L K)
    (k : ∀ v μ', Own (x0 :: x1 :: K) μ' → Q v μ') : Fn w r' f vs μ Q :=
  Fn.call ct hr H p fun v _ μ' h hF => k v μ' (hF _ h)
theorem Fn.own4 (ct : ∀ μ1, Own P0 μ1 → Fn w r f vs μ1 (fun _ μ' => Own [x0, x1, x2, x3] μ')) (hr : Nat.ble r r' = true) (H : Own L μ) (p : Picks P0 L K)
    (k : ∀ v μ', Own (x0 :: x1 :: x2 :: x3 :: K) μ' → Q v μ') : Fn w r' f vs μ Q :=
  Fn.call ct hr H p fun v _ μ' h hF => k v μ' (hF _ h)
end
section
variable {b : List (Addr × O)} {L : List (List (Addr × O))}
theorem pz0 : Pick b (b :: L) (L) := .head
theorem pz1 {x0 : List (Addr × O)} : Pick b (x0 :: b :: L) (x0 :: L) := .tail pz0
theorem pz2 {x0 x1 : List (Addr × O)} : Pick b (x0 :: x1 :: b :: L) (x0 :: x1 :: L) := .tail pz1
theorem pz3 {x0 x1 x2 : List (Addr × O)} : Pick b (x0 :: x1 :: x2 :: b :: L) (x0 :: x1 :: x2 :: L) := .tail pz2
theorem pz4 {x0 x1 x2 x3 : List (Addr × O)} : Pick b (x0 :: x1 :: x2 :: x3 :: b :: L) (x0 :: x1 :: x2 :: x3 :: L) := .tail pz3
theorem pz5 {x0 x1 x2 x3 x4 : List (Addr × O)} : Pick b (x0 :: x1 :: x2 :: x3 :: x4 :: b :: L) (x0 :: x1 :: x2 :: x3 :: x4 :: L) := .tail pz4
theorem pz6 {x0 x1 x2 x3 x4 x5 : List (Addr × O)} : Pick b (x0 :: x1 :: x2 :: x3 :: x4 :: x5 :: b :: L) (x0 :: x1 :: x2 :: x3 :: x4 :: x5 :: L) := .tail pz5
theorem pz7 {x0 x1 x2 x3 x4 x5 x6 : List (Addr × O)} : Pick b (x0 :: x1 :: x2 :: x3 :: x4 :: x5 :: x6 :: b :: L) (x0 :: x1 :: x2 :: x3 :: x4 :: x5 :: x6 :: L) := .tail pz6
theorem pz8 {x0 x1 x2 x3 x4 x5 x6 x7 : List (Addr × O)} : Pick b (x0 :: x1 :: x2 :: x3 :: x4 :: x5 :: x6 :: x7 :: b :: L) (x0 :: x1 :: x2 :: x3 :: x4 :: x5 :: x6 :: x7 :: L) := .tail pz7
theorem pz9 {x0 x1 x2 x3 x4 x5 x6 x7 x8 : List (Addr × O)} : Pick b (x0 :: x1 :: x2 :: x3 :: x4 :: x5 :: x6 :: x7 :: x8 :: b :: L) (x0 :: x1 :: x2 :: x3 :: x4 :: x5 :: x6 :: x7 :: x8 :: L) := .tail pz8
theorem pz10 {x0 x1 x2 x3 x4 x5 x6 x7 x8 x9 : List (Addr × O)} : Pick b (x0 :: x1 :: x2 :: x3 :: x4 :: x5 :: x6 :: x7 :: x8 :: x9 :: b :: L) (x0 :: x1 :: x2 :: x3 :: x4 :: x5 :: x6 :: x7 :: x8 :: x9 :: L) := .tail pz9
theorem pz11 {x0 x1 x2 x3 x4 x5 x6 x7 x8 x9 x10 : List (Addr × O)} : Pick b (x0 :: x1 :: x2 :: x3 :: x4 :: x5 :: x6 :: x7 :: x8 :: x9 :: x10 :: b :: L) (x0 :: x1 :: x2 :: x3 :: x4 :: x5 :: x6 :: x7 :: x8 :: x9 :: x10 :: L) := .tail pz10
theorem pz12 {x0 x1 x2 x3 x4 x5 x6 x7 x8 x9 x10 x11 : List (Addr × O)} : Pick b (x0 :: x1 :: x2 :: x3 :: x4 :: x5 :: x6 :: x7 :: x8 :: x9 :: x10 :: x11 :: b :: L) (x0 :: x1 :: x2 :: x3 :: x4 :: x5 :: x6 :: x7 :: x8 :: x9 :: x10 :: x11 :: L) := .tail pz11
theorem pz13 {x0 x1 x2 x3 x4 x5 x6 x7 x8 x9 x10 x11 x12 : List (Addr × O)} : Pick b (x0 :: x1 :: x2 :: x3 :: x4 :: x5 :: x6 :: x7 :: x8 :: x9 :: x10 :: x11 :: x12 :: b :: L) (x0 :: x1 :: x2 :: x3 :: x4 :: x5 :: x6 :: x7 :: x8 :: x9 :: x10 :: x11 :: x12 :: L) := .tail pz12
theorem pz14 {x0 x1 x2 x3 x4 x5 x6 x7 x8 x9 x10 x11 x12 x13 : List (Addr × O)} : Pick b (x0 :: x1 :: x2 :: x3 :: x4 :: x5 :: x6 :: x7 :: x8 :: x9 :: x10 :: x11 :: x12 :: x13 :: b :: L) (x0 :: x1 :: x2 :: x3 :: x4 :: x5 :: x6 :: x7 :: x8 :: x9 :: x10 :: x11 :: x12 :: x13 :: L) := .tail pz13
theorem pz15 {x0 x1 x2 x3 x4 x5 x6 x7 x8 x9 x10 x11 x12 x13 x14 : List (Addr × O)} : Pick b (x0 :: x1 :: x2 :: x3 :: x4 :: x5 :: x6 :: x7 :: x8 :: x9 :: x10 :: x11 :: x12 :: x13 :: x14 :: b :: L) (x0 :: x1 :: x2 :: x3 :: x4 :: x5 :: x6 :: x7 :: x8 :: x9 :: x10 :: x11 :: x12 :: x13 :: x14 :: L) := .tail pz14
theorem pz16 {x0 x1 x2 x3 x4 x5 x6 x7 x8 x9 x10 x11 x12 x13 x14 x15 : List (Addr × O)} : Pick b (x0 :: x1 :: x2 :: x3 :: x4 :: x5 :: x6 :: x7 :: x8 :: x9 :: x10 :: x11 :: x12 :: x13 :: x14 :: x15 :: b :: L) (x0 :: x1 :: x2 :: x3 :: x4 :: x5 :: x6 :: x7 :: x8 :: x9 :: x10 :: x11 :: x12 :: x13 :: x14 :: x15 :: L) := .tail pz15
theorem pz17 {x0 x1 x2 x3 x4 x5 x6 x7 x8 x9 x10 x11 x12 x13 x14 x15 x16 : List (Addr × O)} : Pick b (x0 :: x1 :: x2 :: x3 :: x4 :: x5 :: x6 :: x7 :: x8 :: x9 :: x10 :: x11 :: x12 :: x13 :: x14 :: x15 :: x16 :: b :: L) (x0 :: x1 :: x2 :: x3 :: x4 :: x5 :: x6 :: x7 :: x8 :: x9 :: x10 :: x11 :: x12 :: x13 :: x14 :: x15 :: x16 :: L) := .tail pz16
theorem pz18 {x0 x1 x2 x3 x4 x5 x6 x7 x8 x9 x10 x11 x12 x13 x14 x15 x16 x17 : List (Addr × O)} : Pick b (x0 :: x1 :: x2 :: x3 :: x4 :: x5 :: x6 :: x7 :: x8 :: x9 :: x10 :: x11 :: x12 :: x13 :: x14 :: x15 :: x16 :: x17 :: b :: L) (x0 :: x1 :: x2 :: x3 :: x4 :: x5 :: x6 :: x7 :: x8 :: x9 :: x10 :: x11 :: x12 :: x13 :: x14 :: x15 :: x16 :: x17 :: L) := .tail pz17
theorem pz19 {x0 x1 x2 x3 x4 x5 x6 x7 x8 x9 x10 x11 x12 x13 x14 x15 x16 x17 x18 : List (Addr × O)} : Pick b (x0 :: x1 :: x2 :: x3 :: x4 :: x5 :: x6 :: x7 :: x8 :: x9 :: x10 :: x11 :: x12 :: x13 :: x14 :: x15 :: x16 :: x17 :: x18 :: b :: L) (x0 :: x1 :: x2 :: x3 :: x4 :: x5 :: x6 :: x7 :: x8 :: x9 :: x10 :: x11 :: x12 :: x13 :: x14 :: x15 :: x16 :: x17 :: x18 :: L) := .tail pz18
theorem pz20 {x0 x1 x2 x3 x4 x5 x6 x7 x8 x9 x10 x11 x12 x13 x14 x15 x16 x17 x18 x19 : List (Addr × O)} : Pick b (x0 :: x1 :: x2 :: x3 :: x4 :: x5 :: x6 :: x7 :: x8 :: x9 :: x10 :: x11 :: x12 :: x13 :: x14 :: x15 :: x16 :: x17 :: x18 :: x19 :: b :: L) (x0 :: x1 :: x2 :: x3 :: x4 :: x5 :: x6 :: x7 :: x8 :: x9 :: x10 :: x11 :: x12 :: x13 :: x14 :: x15 :: x16 :: x17 :: x18 :: x19 :: L) := .tail pz19
theorem pz21 {x0 x1 x2 x3 x4 x5 x6 x7 x8 x9 x10 x11 x12 x13 x14 x15 x16 x17 x18 x19 x20 : List (Addr × O)} : Pick b (x0 :: x1 :: x2 :: x3 :: x4 :: x5 :: x6 :: x7 :: x8 :: x9 :: x10 :: x11 :: x12 :: x13 :: x14 :: x15 :: x16 :: x17 :: x18 :: x19 :: x20 :: b :: L) (x0 :: x1 :: x2 :: x3 :: x4 :: x5 :: x6 :: x7 :: x8 :: x9 :: x10 :: x11 :: x12 :: x13 :: x14 :: x15 :: x16 :: x17 :: x18 :: x19 :: x20 :: L) := .tail pz20
theorem pz22 {x0 x1 x2 x3 x4 x5 x6 x7 x8 x9 x10 x11 x12 x13 x14 x15 x16 x17 x18 x19 x20 x21 : List (Addr × O)} : Pick b (x0 :: x1 :: x2 :: x3 :: x4 :: x5 :: x6 :: x7 :: x8 :: x9 :: x10 :: x11 :: x12 :: x13 :: x14 :: x15 :: x16 :: x17 :: x18 :: x19 :: x20 :: x21 :: b :: L) (x0 :: x1 :: x2 :: x3 :: x4 :: x5 :: x6 :: x7 :: x8 :: x9 :: x10 :: x11 :: x12 :: x13 :: x14 :: x15 :: x16 :: x17 :: x18 :: x19 :: x20 :: x21 :: L) := .tail pz21
theorem pz23 {x0 x1 x2 x3 x4 x5 x6 x7 x8 x9 x10 x11 x12 x13 x14 x15 x16 x17 x18 x19 x20 x21 x22 : List (Addr × O)} : Pick b (x0 :: x1 :: x2 :: x3 :: x4 :: x5 :: x6 :: x7 :: x8 :: x9 :: x10 :: x11 :: x12 :: x13 :: x14 :: x15 :: x16 :: x17 :: x18 :: x19 :: x20 :: x21 :: x22 :: b :: L) (x0 :: x1 :: x2 :: x3 :: x4 :: x5 :: x6 :: x7 :: x8 :: x9 :: x10 :: x11 :: x12 :: x13 :: x14 :: x15 :: x16 :: x17 :: x18 :: x19 :: x20 :: x21 :: x22 :: L) := .tail pz22
theorem pz24 {x0 x1 x2 x3 x4 x5 x6 x7 x8 x9 x10 x11 x12 x13 x14 x15 x16 x17 x18 x19 x20 x21 x22 x23 : List (Addr × O)} : Pick b (x0 :: x1 :: x2 :: x3 :: x4 :: x5 :: x6 :: x7 :: x8 :: x9 :: x10 :: x11 :: x12 :: x13 :: x14 :: x15 :: x16 :: x17 :: x18 :: x19 :: x20 :: x21 :: x22 :: x23 :: b :: L) (x0 :: x1 :: x2 :: x3 :: x4 :: x5 :: x6 :: x7 :: x8 :: x9 :: x10 :: x11 :: x12 :: x13 :: x14 :: x15 :: x16 :: x17 :: x18 :: x19 :: x20 :: x21 :: x22 :: x23 :: L) := .tail pz23
theorem pz25 {x0 x1 x2 x3 x4 x5 x6 x7 x8 x9 x10 x11 x12 x13 x14 x15 x16 x17 x18 x19 x20 x21 x22 x23 x24 : List (Addr × O)} : Pick b (x0 :: x1 :: x2 :: x3 :: x4 :: x5 :: x6 :: x7 :: x8 :: x9 :: x10 :: x11 :: x12 :: x13 :: x14 :: x15 :: x16 :: x17 :: x18 :: x19 :: x20 :: x21 :: x22 :: x23 :: x24 :: b :: L) (x0 :: x1 :: x2 :: x3 :: x4 :: x5 :: x6 :: x7 :: x8 :: x9 :: x10 :: x11 :: x12 :: x13 :: x14 :: x15 :: x16 :: x17 :: x18 :: x19 :: x20 :: x21 :: x22 :: x23 :: x24 :: L) := .tail pz24
theorem pz26 {x0 x1 x2 x3 x4 x5 x6 x7 x8 x9 x10 x11 x12 x13 x14 x15 x16 x17 x18 x19 x20 x21 x22 x23 x24 x25 : List (Addr × O)} : Pick b (x0 :: x1 :: x2 :: x3 :: x4 :: x5 :: x6 :: x7 :: x8 :: x9 :: x10 :: x11 :: x12 :: x13 :: x14 :: x15 :: x16 :: x17 :: x18 :: x19 :: x20 :: x21 :: x22 :: x23 :: x24 :: x25 :: b :: L) (x0 :: x1 :: x2 :: x3 :: x4 :: x5 :: x6 :: x7 :: x8 :: x9 :: x10 :: x11 :: x12 :: x13 :: x14 :: x15 :: x16 :: x17 :: x18 :: x19 :: x20 :: x21 :: x22 :: x23 :: x24 :: x25 :: L) := .tail pz25
theorem pz27 {x0 x1 x2 x3 x4 x5 x6 x7 x8 x9 x10 x11 x12 x13 x14 x15 x16 x17 x18 x19 x20 x21 x22 x23 x24 x25 x26 : List (Addr × O)} : Pick b (x0 :: x1 :: x2 :: x3 :: x4 :: x5 :: x6 :: x7 :: x8 :: x9 :: x10 :: x11 :: x12 :: x13 :: x14 :: x15 :: x16 :: x17 :: x18 :: x19 :: x20 :: x21 :: x22 :: x23 :: x24 :: x25 :: x26 :: b :: L) (x0 :: x1 :: x2 :: x3 :: x4 :: x5 :: x6 :: x7 :: x8 :: x9 :: x10 :: x11 :: x12 :: x13 :: x14 :: x15 :: x16 :: x17 :: x18 :: x19 :: x20 :: x21 :: x22 :: x23 :: x24 :: x25 :: x26 :: L) := .tail pz26
theorem pz28 {x0 x1 x2 x3 x4 x5 x6 x7 x8 x9 x10 x11 x12 x13 x14 x15 x16 x17 x18 x19 x20 x21 x22 x23 x24 x25 x26 x27 : List (Addr × O)} : Pick b (x0 :: x1 :: x2 :: x3 :: x4 :: x5 :: x6 :: x7 :: x8 :: x9 :: x10 :: x11 :: x12 :: x13 :: x14 :: x15 :: x16 :: x17 :: x18 :: x19 :: x20 :: x21 :: x22 :: x23 :: x24 :: x25 :: x26 :: x27 :: b :: L) (x0 :: x1 :: x2 :: x3 :: x4 :: x5 :: x6 :: x7 :: x8 :: x9 :: x10 :: x11 :: x12 :: x13 :: x14 :: x15 :: x16 :: x17 :: x18 :: x19 :: x20 :: x21 :: x22 :: x23 :: x24 :: x25 :: x26 :: x27 :: L) := .tail pz27
theorem pz29 {x0 x1 x2 x3 x4 x5 x6 x7 x8 x9 x10 x11 x12 x13 x14 x15 x16 x17 x18 x19 x20 x21 x22 x23 x24 x25 x26 x27 x28 : List (Addr × O)} : Pick b (x0 :: x1 :: x2 :: x3 :: x4 :: x5 :: x6 :: x7 :: x8 :: x9 :: x10 :: x11 :: x12 :: x13 :: x14 :: x15 :: x16 :: x17 :: x18 :: x19 :: x20 :: x21 :: x22 :: x23 :: x24 :: x25 :: x26 :: x27 :: x28 :: b :: L) (x0 :: x1 :: x2 :: x3 :: x4 :: x5 :: x6 :: x7 :: x8 :: x9 :: x10 :: x11 :: x12 :: x13 :: x14 :: x15 :: x16 :: x17 :: x18 :: x19 :: x20 :: x21 :: x22 :: x23 :: x24 :: x25 :: x26 :: x27 :: x28 :: L) := .tail pz28
theorem pz30 {x0 x1 x2 x3 x4 x5 x6 x7 x8 x9 x10 x11 x12 x13 x14 x15 x16 x17 x18 x19 x20 x21 x22 x23 x24 x25 x26 x27 x28 x29 : List (Addr × O)} : Pick b (x0 :: x1 :: x2 :: x3 :: x4 :: x5 :: x6 :: x7 :: x8 :: x9 :: x10 :: x11 :: x12 :: x13 :: x14 :: x15 :: x16 :: x17 :: x18 :: x19 :: x20 :: x21 :: x22 :: x23 :: x24 :: x25 :: x26 :: x27 :: x28 :: x29 :: b :: L) (x0 :: x1 :: x2 :: x3 :: x4 :: x5 :: x6 :: x7 :: x8 :: x9 :: x10 :: x11 :: x12 :: x13 :: x14 :: x15 :: x16 :: x17 :: x18 :: x19 :: x20 :: x21 :: x22 :: x23 :: x24 :: x25 :: x26 :: x27 :: x28 :: x29 :: L) := .tail pz29
theorem pz31 {x0 x1 x2 x3 x4 x5 x6 x7 x8 x9 x10 x11 x12 x13 x14 x15 x16 x17 x18 x19 x20 x21 x22 x23 x24 x25 x26 x27 x28 x29 x30 : List (Addr × O)} : Pick b (x0 :: x1 :: x2 :: x3 :: x4 :: x5 :: x6 :: x7 :: x8 :: x9 :: x10 :: x11 :: x12 :: x13 :: x14 :: x15 :: x16 :: x17 :: x18 :: x19 :: x20 :: x21 :: x22 :: x23 :: x24 :: x25 :: x26 :: x27 :: x28 :: x29 :: x30 :: b :: L) (x0 :: x1 :: x2 :: x3 :: x4 :: x5 :: x6 :: x7 :: x8 :: x9 :: x10 :: x11 :: x12 :: x13 :: x14 :: x15 :: x16 :: x17 :: x18 :: x19 :: x20 :: x21 :: x22 :: x23 :: x24 :: x25 :: x26 :: x27 :: x28 :: x29 :: x30 :: L) := .tail pz30
theorem pz32 {x0 x1 x2 x3 x4 x5 x6 x7 x8 x9 x10 x11 x12 x13 x14 x15 x16 x17 x18 x19 x20 x21 x22 x23 x24 x25 x26 x27 x28 x29 x30 x31 : List (Addr × O)} : Pick b (x0 :: x1 :: x2 :: x3 :: x4 :: x5 :: x6 :: x7 :: x8 :: x9 :: x10 :: x11 :: x12 :: x13 :: x14 :: x15 :: x16 :: x17 :: x18 :: x19 :: x20 :: x21 :: x22 :: x23 :: x24 :: x25 :: x26 :: x27 :: x28 :: x29 :: x30 :: x31 :: b :: L) (x0 :: x1 :: x2 :: x3 :: x4 :: x5 :: x6 :: x7 :: x8 :: x9 :: x10 :: x11 :: x12 :: x13 :: x14 :: x15 :: x16 :: x17 :: x18 :: x19 :: x20 :: x21 :: x22 :: x23 :: x24 :: x25 :: x26 :: x27 :: x28 :: x29 :: x30 :: x31 :: L) := .tail pz31
theorem pz33 {x0 x1 x2 x3 x4 x5 x6 x7 x8 x9 x10 x11 x12 x13 x14 x15 x16 x17 x18 x19 x20 x21 x22 x23 x24 x25 x26 x27 x28 x29 x30 x31 x32 : List (Addr × O)} : Pick b (x0 :: x1 :: x2 :: x3 :: x4 :: x5 :: x6 :: x7 :: x8 :: x9 :: x10 :: x11 :: x12 :: x13 :: x14 :: x15 :: x16 :: x17 :: x18 :: x19 :: x20 :: x21 :: x22 :: x23 :: x24 :: x25 :: x26 :: x27 :: x28 :: x29 :: x30 :: x31 :: x32 :: b :: L) (x0 :: x1 :: x2 :: x3 :: x4 :: x5 :: x6 :: x7 :: x8 :: x9 :: x10 :: x11 :: x12 :: x13 :: x14 :: x15 :: x16 :: x17 :: x18 :: x19 :: x20 :: x21 :: x22 :: x23 :: x24 :: x25 :: x26 :: x27 :: x28 :: x29 :: x30 :: x31 :: x32 :: L) := .tail pz32
theorem pz34 {x0 x1 x2 x3 x4 x5 x6 x7 x8 x9 x10 x11 x12 x13 x14 x15 x16 x17 x18 x19 x20 x21 x22 x23 x24 x25 x26 x27 x28 x29 x30 x31 x32 x33 : List (Addr × O)} : Pick b (x0 :: x1 :: x2 :: x3 :: x4 :: x5 :: x6 :: x7 :: x8 :: x9 :: x10 :: x11 :: x12 :: x13 :: x14 :: x15 :: x16 :: x17 :: x18 :: x19 :: x20 :: x21 :: x22 :: x23 :: x24 :: x25 :: x26 :: x27 :: x28 :: x29 :: x30 :: x31 :: x32 :: x33 :: b :: L) (x0 :: x1 :: x2 :: x3 :: x4 :: x5 :: x6 :: x7 :: x8 :: x9 :: x10 :: x11 :: x12 :: x13 :: x14 :: x15 :: x16 :: x17 :: x18 :: x19 :: x20 :: x21 :: x22 :: x23 :: x24 :: x25 :: x26 :: x27 :: x28 :: x29 :: x30 :: x31 :: x32 :: x33 :: L) := .tail pz33
theorem pz35 {x0 x1 x2 x3 x4 x5 x6 x7 x8 x9 x10 x11 x12 x13 x14 x15 x16 x17 x18 x19 x20 x21 x22 x23 x24 x25 x26 x27 x28 x29 x30 x31 x32 x33 x34 : List (Addr × O)} : Pick b (x0 :: x1 :: x2 :: x3 :: x4 :: x5 :: x6 :: x7 :: x8 :: x9 :: x10 :: x11 :: x12 :: x13 :: x14 :: x15 :: x16 :: x17 :: x18 :: x19 :: x20 :: x21 :: x22 :: x23 :: x24 :: x25 :: x26 :: x27 :: x28 :: x29 :: x30 :: x31 :: x32 :: x33 :: x34 :: b :: L) (x0 :: x1 :: x2 :: x3 :: x4 :: x5 :: x6 :: x7 :: x8 :: x9 :: x10 :: x11 :: x12 :: x13 :: x14 :: x15 :: x16 :: x17 :: x18 :: x19 :: x20 :: x21 :: x22 :: x23 :: x24 :: x25 :: x26 :: x27 :: x28 :: x29 :: x30 :: x31 :: x32 :: x33 :: x34 :: L) := .tail pz34
end
theorem dec {n i : Nat} (h : i < n) : n - (i + 1) < n - i := by omega
theorem rng_succ {i : Nat} {n : Int} : It.range ((i : Int) + 1) (n - (i : Int) - 1) = It.range ((i + 1 : Nat) : Int) (n - ((i + 1 : Nat) : Int)) := by simp only [It.range.injEq]; omega
theorem eqle {a b c n : Nat} (h : a = b) (h1 : b ≤ c) (h2 : Nat.ble c n = true) : a ≤ n := h ▸ Nat.le_trans h1 (Nat.le_of_ble_eq_true h2)
theorem eqle2 {a b k c n : Nat} (h : a = b) (h1 : b ≤ k) (h3 : k ≤ c) (h2 : Nat.ble c n = true) : a ≤ n := h ▸ Nat.le_trans h1 (Nat.le_trans h3 (Nat.le_of_ble_eq_true h2))
theorem le2 {a c n : Nat} (h1 : a ≤ c) (h2 : Nat.ble c n = true) : a ≤ n := Nat.le_trans h1 (Nat.le_of_ble_eq_true h2)
theorem le3 {a k c n : Nat} (h1 : a ≤ k) (h3 : k ≤ c) (h2 : Nat.ble c n = true) : a ≤ n := Nat.le_trans h1 (Nat.le_trans h3 (Nat.le_of_ble_eq_true h2))
theorem lt2 {a c n : Nat} (h1 : a < c) (h2 : Nat.ble c n = true) : a ≤ n := Nat.le_trans (Nat.le_of_lt h1) (Nat.le_of_ble_eq_true h2)
theorem le_add {a k j : Nat} (h : a ≤ k) : a ≤ k + j := Nat.le_trans h (Nat.le_add_right _ _)
theorem lit_add {a c k j : Nat} (h : c ≤ k) (h2 : Nat.ble a (c + j) = true) : a ≤ k + j := Nat.le_trans (Nat.le_of_ble_eq_true h2) (Nat.add_le_add_right h j)
theorem eq_lt {i a b : Nat} (h : i < a) (e : a = b) : i < b := e ▸ h
theorem eq_lt' {i a b : Nat} (h : i < a) (e : b = a) : i < b := e ▸ h
theorem nnI {i n c : Nat} {C : Int} (h : i < n) (h2 : n ≤ c) (hC : decide ((c : Int) ≤ C) = true) : 0 ≤ (i : Int) ∧ (i : Int) < C := by have := of_decide_eq_true hC; omega
theorem nnL {i c : Nat} {C : Int} (h : i < c) (hC : decide ((c : Int) ≤ C) = true) : 0 ≤ (i : Int) ∧ (i : Int) < C := by have := of_decide_eq_true hC; omega
theorem nnE {i n m k c : Nat} {C : Int} (h : i < n) (e : n = m) (h1 : m ≤ k) (h2 : k ≤ c) (hC : decide ((c : Int) ≤ C) = true) : 0 ≤ (i : Int) ∧ (i : Int) < C := by have := of_decide_eq_true hC; omega
theorem nnK {i n k c : Nat} {C : Int} (h : i < n) (h1 : n ≤ k) (h2 : k ≤ c) (hC : decide ((c : Int) ≤ C) = true) : 0 ≤ (i : Int) ∧ (i : Int) < C := by have := of_decide_eq_true hC; omega
theorem nnM {i c : Nat} {C : Int} (h : i ≤ c) (hC : decide ((c : Int) < C) = true) : 0 ≤ (i : Int) ∧ (i : Int) < C := by have := of_decide_eq_true hC; omega
theorem mod_rng {y n C : Int} (h : decide (0 < n ∧ n ≤ C) = true) : 0 ≤ y % n ∧ y % n < C := by have := of_decide_eq_true h; have := Int.emod_nonneg y (b := n) (by omega); have := Int.emod_lt_of_pos y (b := n) (by omega); omega
theorem sub_pos' {n i : Nat} (h : i < n) : 0 < (n : Int) - (i : Int) := by omega
theorem sub_posL {c i : Nat} (h : i < c) : 0 < (c : Int) - (i : Int) := by omega
theorem sub_nonpos' {n i : Nat} (h : ¬ i < n) : (n : Int) - (i : Int) ≤ 0 := by omega
theorem toNat_ltE {i : Int} {n m : Nat} (h0 : 0 ≤ i) (h : i < (n : Int)) (e : n = m) : i.toNat < m := by omega
theorem toNat_lt' {i : Int} {n : Nat} (h0 : 0 ≤ i) (h : i < (n : Int)) : i.toNat < n := by omega
theorem add_one_le {i n : Nat} (h : i < n) : i + 1 ≤ n := h
theorem sub_lt1 {n : Nat} (h : 0 < n) : n - 1 < n := by omega
theorem cI {a x : Int} (h : a ≤ x) : x = a ∨ a + 1 ≤ x := by omega
theorem cI1 {a x : Int} (h : a ≤ x) (h' : x < a + 1) : x = a := by omega
theorem c3 {x : Int} (h : 0 ≤ x) (h' : x < 3) : x = 0 ∨ x = 1 ∨ x = 2 := (cI h).elim .inl fun h => .inr ((cI h).elim .inl fun h => .inr (cI1 h h'))
theorem c4 {x : Int} (h : 0 ≤ x) (h' : x < 4) : x = 0 ∨ x = 1 ∨ x = 2 ∨ x = 3 := (cI h).elim .inl fun h => .inr ((cI h).elim .inl fun h => .inr ((cI h).elim .inl fun h => .inr (cI1 h h')))
theorem c8 {x : Int} (h : 0 ≤ x) (h' : x < 8) : x = 0 ∨ x = 1 ∨ x = 2 ∨ x = 3 ∨ x = 4 ∨ x = 5 ∨ x = 6 ∨ x = 7 := (cI h).elim .inl fun h => .inr ((cI h).elim .inl fun h => .inr ((cI h).elim .inl fun h => .inr ((cI h).elim .inl fun h => .inr ((cI h).elim .inl fun h => .inr ((cI h).elim .inl fun h => .inr ((cI h).elim .inl fun h => .inr (cI1 h h')))))))
theorem c6 {x : Int} (h : 8 ≤ x) (h' : x < 14) : x = 8 ∨ x = 9 ∨ x = 10 ∨ x = 11 ∨ x = 12 ∨ x = 13 := (cI h).elim .inl fun h => .inr ((cI h).elim .inl fun h => .inr ((cI h).elim .inl fun h => .inr ((cI h).elim .inl fun h => .inr ((cI h).elim .inl fun h => .inr (cI1 h h')))))
theorem em0 (y : Int) {n : Int} (h : decide (n ≠ 0) = true) : 0 ≤ y % n := Int.emod_nonneg y (of_decide_eq_true h)
theorem em1 (y : Int) {n : Int} (h : decide (0 < n) = true) : y % n < n := Int.emod_lt_of_pos y (of_decide_eq_true h)
theorem cN {a i : Nat} (h : a ≤ i) : i = a ∨ a + 1 ≤ i := by omega
theorem cN1 {a i : Nat} (h : a ≤ i) (h' : i < a + 1) : i = a := by omega
theorem n7 {i : Nat} (h' : i < 7) : i = 0 ∨ i = 1 ∨ i = 2 ∨ i = 3 ∨ i = 4 ∨ i = 5 ∨ i = 6 := (cN (Nat.zero_le i)).elim .inl fun h => .inr ((cN h).elim .inl fun h => .inr ((cN h).elim .inl fun h => .inr ((cN h).elim .inl fun h => .inr ((cN h).elim .inl fun h => .inr ((cN h).elim .inl fun h => .inr (cN1 h h'))))))
theorem n48 {i : Nat} (h : 4 ≤ i) (h' : i < 8) : i = 4 ∨ i = 5 ∨ i = 6 ∨ i = 7 := (cN h).elim .inl fun h => .inr ((cN h).elim .inl fun h => .inr ((cN h).elim .inl fun h => .inr (cN1 h h')))
theorem i8 {i : Nat} (h : i < 8) : (i : Int) = 0 ∨ (i : Int) = 1 ∨ (i : Int) = 2 ∨ (i : Int) = 3 ∨ (i : Int) = 4 ∨ (i : Int) = 5 ∨ (i : Int) = 6 ∨ (i : Int) = 7 := c8 (Int.natCast_nonneg i) (Int.ofNat_lt.mpr h)
theorem i4 {i : Nat} (h : i < 4) : (i : Int) = 0 ∨ (i : Int) = 1 ∨ (i : Int) = 2 ∨ (i : Int) = 3 := c4 (Int.natCast_nonneg i) (Int.ofNat_lt.mpr h)
theorem ng63 {i c : Nat} (h : i < c) (hC : Nat.ble c 4611686018427387904 = true) : -(2 ^ 63) < (i : Int) ∧ (i : Int) < 2 ^ 63 := by have := Nat.le_of_ble_eq_true hC; omega
theorem nnL62 {i c : Nat} (h : i < c) (hC : Nat.ble c 4611686018427387904 = true) : 0 ≤ (i : Int) ∧ (i : Int) < 2 ^ 62 := by have := Nat.le_of_ble_eq_true hC; omega
theorem nnI62 {i n c : Nat} (h : i < n) (h2 : n ≤ c) (hC : Nat.ble c 4611686018427387904 = true) : 0 ≤ (i : Int) ∧ (i : Int) < 2 ^ 62 := nnL62 h (Nat.ble_eq_true_of_le (Nat.le_trans h2 (Nat.le_of_ble_eq_true hC)))
theorem nnK62 {i n k c : Nat} (h : i < n) (h1 : n ≤ k) (h2 : k ≤ c) (hC : Nat.ble c 4611686018427387904 = true) : 0 ≤ (i : Int) ∧ (i : Int) < 2 ^ 62 := nnI62 h (Nat.le_trans h1 h2) hC
theorem nnM60 {i c : Nat} (h : i ≤ c) (hC : Nat.ble c 4611686018427387 = true) : 0 ≤ (i : Int) ∧ (i : Int) < 2 ^ 60 := by have := Nat.le_of_ble_eq_true hC; omega
theorem nnE60 {i k c : Nat} (e : i = k) (h : k ≤ c) (hC : Nat.ble c 4611686018427387 = true) : 0 ≤ (i : Int) ∧ (i : Int) < 2 ^ 60 := e ▸ nnM60 h hC
section
variable {w : World} {c : Cx w} {m : Vars} {μ : Mu}
inductive PUnp3 (c : Cx w) (x1 x2 x3 : Str) (rest : List Stmt) (m : Vars) (Q : Fl → Vars → Mu → Prop) (v : V) (μ1 : Mu) : Prop
  | mk (a : Addr) (v1 v2 v3 : V) (L : List (List (Addr × O))) (e : v = .ref a) (H : Own L μ1) (p : In1 [(a, .list [v1, v2, v3])] L) (q : WS c rest (((m.set x1 v1).set x2 v2).set x3 v3) μ1 Q) : PUnp3 c x1 x2 x3 rest m Q v μ1
theorem T_unp3 {S : Scope} {x1 x2 x3 : Str} {p1 p2 p3 : Pos} {k tp e p} {rest : List Stmt} {Q : Fl → Vars → Mu → Prop} (hS : c.env.scope = S) (hC : Celled c) (hk : (storable S x1 && (storable S x2 && (storable S x3 && true))) = true)
    (h : WE c e m μ (PUnp3 c x1 x2 x3 rest m Q))
    (hs : swapsWithSole [.Tuple [.Name x1 p1, .Name x2 p2, .Name x3 p3] k tp] e p.line c.env = pure false := by rfl) (hw : swappedStores [.Tuple [.Name x1 p1, .Name x2 p2, .Name x3 p3] k tp] e c.env = pure none := by rfl) : WS c (.Assign [.Tuple [.Name x1 p1, .Name x2 p2, .Name x3 p3] k tp] e p :: rest) m μ Q :=
  S_assignT (xs := [(x1, p1), (x2, p2), (x3, p3)]) hS hC hk (WT.mono h fun v μ1 x => by cases x with | mk a v1 v2 v3 L e H p q => exact ⟨a, _, e, .inl (H.at p), rfl, q⟩) hs hw
theorem A_unp3 {S : Scope} {x1 x2 x3 : Str} {p1 p2 p3 : Pos} {k p v} {Q : Vars → Prop} {a : Addr} {v1 v2 v3 : V} {L : List (List (Addr × O))} (hS : c.env.scope = S) (hC : Celled c) (hk : (storable S x1 && (storable S x2 && (storable S x3 && true))) = true)
    (e : v = .ref a) (H : Own L μ) (hp : In1 [(a, .list [v1, v2, v3])] L) (q : Q (((m.set x1 v1).set x2 v2).set x3 v3)) : WA c (.Tuple [.Name x1 p1, .Name x2 p2, .Name x3 p3] k p) v m μ Q :=
  A_tuple (xs := [(x1, p1), (x2, p2), (x3, p3)]) hS hC hk ⟨a, _, e, .inl (H.at hp), rfl, q⟩
theorem A_unp2 {S : Scope} {x1 x2 : Str} {p1 p2 : Pos} {k p v} {Q : Vars → Prop} {a : Addr} {v1 v2 : V} {L : List (List (Addr × O))} (hS : c.env.scope = S) (hC : Celled c) (hk : (storable S x1 && (storable S x2 && true)) = true)
    (e : v = .ref a) (H : Own L μ) (hp : In1 [(a, .tup [v1, v2])] L) (q : Q ((m.set x1 v1).set x2 v2)) : WA c (.Tuple [.Name x1 p1, .Name x2 p2] k p) v m μ Q :=
  A_tuple (xs := [(x1, p1), (x2, p2)]) hS hC hk ⟨a, _, e, .inr (H.at hp), rfl, q⟩
theorem Own.thing {x : Addr × O} {b b' : List (Addr × O)} {L : List (List (Addr × O))} (H : Own ((x :: (b ++ b')) :: L) μ) : Own ([x] :: b :: b' :: L) μ := H.eq (by simp)
theorem Own.mkThing {x : Addr × O} {b b' : List (Addr × O)} {L : List (List (Addr × O))} (H : Own ([x] :: b :: b' :: L) μ) : Own ((x :: (b ++ b')) :: L) μ := H.eq (by simp)
end
section
variable {w : World} {c : Cx w} {m : Vars} {μ : Mu}
theorem ns_panic : nsIn (KK w) mainGlobals (Str.ofString "LogPanic") = some (some (.ref 56)) := by kernel_rfl
theorem kts_panic : ktsIn (KK w) 56 "BaseException" = true := by kernel_rfl
theorem spec_panic : specOf VW (Str.ofString "LogPanic") = some ("Exception.__new__", [.type "Exception", .type "BaseException", .type "object"]) := by kernel_rfl
theorem W_gint {S : Scope} {x : Str} {p} {i : Int} {t : Tok} {Q : V → Mu → Prop} (hS : c.env.scope = S) (e : nsIn (KK w) mainGlobals x = some (some (.int i t))) (hk : S.names.lookup x = some .globalImplicit) (h : Q (.int i) μ) (hd : (x == ("__debug__" : Str)) = false := by decide) : WE c (.Name x p) m μ Q :=
  fun _ _ R => N_top R hS e hk ⟨.int i, μ, ⟨_, rfl⟩, R, h⟩ hd

noncomputable def ArgX (c : Cx w) (a : Expr) (m : Vars) (μ : Mu) : Prop := ∀ Hs s, Rel c Hs m μ s → wpAny (MM w) c.A (eval a c.env) (fun _ s' => Rel c Hs m μ s') c.E s
theorem X_str {x : Str} {k p} : ArgX c (.Constant (.str x) k p) m μ := fun _ _ R => wpAny_Constant_str (R.toks _)
theorem X_fmt {S : Scope} {x y : Str} {k p1 p2 p3 p4} {i : Int} (hS : c.env.scope = S) (hx : m x = some (.int i)) (hk : readable S x = true) (hi : i.natAbs.log2 < 1920) (hy : y.length ≤ 1000) (hd : (x == ("__debug__" : Str)) = false := by decide) (hn : (x == ("__classdict__" : Str)) = false := by decide) :
    ArgX c (.JoinedStr [.FormattedValue (.Name x p1) (-1) none p2, .Constant (.str y) k p3] p4) m μ := fun Hs s R => by
  refine JoinedStr_many (joinParts_cons (wpAny_FormattedValue_plain (wpAny_mono (W_name (Q := fun v μ' => v = .int i ∧ μ' = μ) hS hx hk ⟨rfl, rfl⟩ hd hn Hs s R) (fun rv s1 hz0 => ?_) fun _ _ z => z)))
  obtain ⟨v, μ1, hv, R1, e1, e2⟩ := hz0
  subst e1 e2
  obtain ⟨t, rfl⟩ := hv
  have hl := int_text_len_1921 hi
  have sz : sizeLine = 16777216 := rfl
  refine wpAny_formatField_int hi ⟨by show (Str.empty ++ Str.ofString (toString i)).length ≤ sizeLine; rw [strLen_append]; show 0 + _ ≤ _; omega, ?_⟩
  refine joinParts_consE (joinParts_cons (wpAny_Constant_str ⟨by show ((Str.empty ++ Str.ofString (toString i)) ++ y).length ≤ sizeLine; rw [strLen_append, strLen_append]; show 0 + _ + _ ≤ _; omega, joinParts_nilE (joinParts_nil ((R1.toks _).toks _ |>.toks _ |>.toks _) (by show ((Str.empty ++ Str.ofString (toString i)) ++ y).length ≤ sizeLine; rw [strLen_append, strLen_append]; show 0 + _ + _ ≤ _; omega))⟩))

theorem Rel.foot {Hs : Held} {s : Shared} (R : Rel c Hs m μ s) {b : Addr} (f : Foot c Hs μ b) : ∃ o, s.heap.get? b = some o := by
  rcases f with f | f | f
  · obtain ⟨o, ho⟩ := Option.isSome_iff_exists.mp f
    exact ⟨o, R.base b o ho⟩
  · obtain ⟨o, ho⟩ := Option.isSome_iff_exists.mp f
    obtain ⟨_, _, _, h, _⟩ := R.held b o ho
    exact ⟨_, h⟩
  · obtain ⟨o, ho⟩ := Option.isSome_iff_exists.mp f
    obtain ⟨_, _, _, _, _, h, _⟩ := R.mu b o ho
    exact ⟨_, h⟩

theorem thrown_made {Hs : Held} {s : Shared} {h' : Heap} {e : Addr} {args : List Value} {PE : Mu → Prop} (R : Rel c Hs m μ s) (q : PE μ) (hm : Heap.MadeExcOf s.heap h' e (.ref 56) args) : Thrown c Hs PE e { s with heap := h' } := by
  have fr : s.heap.FunFrames c.h₀ (c.fenv :: c.outer) := by
    obtain ⟨mL, ⟨oL, es, ep, ho, hd, _⟩, _⟩ := R.nsL
    exact ⟨by rw [c.hfk]; decide, ⟨c.L, oL, c.hf, R.Lnew, ho, fun vs q => by rw [hd] at q; cases q⟩, R.frames⟩
  refine ⟨m, μ, hideAll s.heap ((c.fenv :: c.outer).filterMap (·.frame)), R.keeps hm.keeps rfl rfl, q, fun b f n => ?_, .made s.heap args (fun b o z => of_hideAll _ z) (funFrames_hide fr fun env he a ha => List.mem_filterMap.mpr ⟨env, he, ha⟩) hm⟩
  obtain ⟨o, ho⟩ := R.foot f
  rw [hideAll_get _ ho n]; rfl

theorem T_raise {S : Scope} {np cpos pos} {a : Expr} {rest : List Stmt} {PE : Mu → Prop} {Q : Fl → Vars → Mu → Prop} (X : Ex c PE) (hq : PE μ) (hS : c.env.scope = S) (hx : ArgX c a m μ)
    (hk : S.names.lookup (Str.ofString "LogPanic") = some .globalImplicit := by rfl) (he : starEach [a] c.env = [(false, eval a c.env)] := by rfl) : WS c (.Raise (some (.Call (.Name (Str.ofString "LogPanic") np) [a] [] cpos)) none pos :: rest) m μ Q := fun Hs s R => by
  obtain ⟨C, O, _⟩ := c.T.ownAt spec_panic
  have eC := O.bound.symm.trans (mg_of c.X c.T.g ns_panic)
  cases eC
  obtain ⟨tl, N, nm, q, bs, hdct, sn, sub, ab, col, dd, k0, k1, k2, k3, k5, mN, hC, hN, hni, T⟩ := O.own.obj
  refine wpAny_execs_cons (wpAny_Raise_call_subT (C := 56) (nm := nm) (q := q) (N := N) (bs := bs) (bm := tl) (hdct := hdct) (sn := sn) (sub := sub) (ab := ab) (col := col) (dd := dd) (k0 := k0) (k1 := k1) (k2 := k2) (k3 := k3) (k5 := k5)
    PySem.F.excBase_Exception (mN := mN) (T.hasType PySem.F.excBase_Exception.hasBase) c.hh (by rw [he]; rfl) hni (N_top R hS ns_panic hk ⟨rfl, ?_⟩))
  rw [he]
  exact Calls.evalArgs_plain (Calls.spliced_cons (wpAny_mono (hx Hs s R) (fun v s2 R2 => Calls.spliced_nil ⟨rfl, Nat.le_of_ble_eq_true rfl, R2.base _ _ hC, hN.keeps R2.base, T.keeps R2.base, fun h' e hm => X.takes Hs e _ (thrown_made R2 hq hm)⟩) fun _ _ z => z))

theorem setFlight_heldW {M : Model} {A : Around} {E : Value → Shared → Prop} {s : Shared} {base : Heap} {l : List Env} {e L : Addr} {cls a0 : Value} {Q : Unit → Shared → Prop} (R : Heap.HeldW base l e cls a0 L s.heap)
    (h : ∀ h', Heap.HeldW base l e cls a0 L h' → s.heap.UpToSlots h' → Q () { s with heap := h' }) : wpAny M A (setFlight (.ref e) (some L)) Q E s := by
  obtain ⟨hkb, hen, hl, oe, vs, T, oT, ts, he, hcls, hd, h1, hnT, hTe, hT, hdT, h3⟩ := R
  have hsz3 : 3 < ts.size := (Array.getElem?_eq_some_iff.mp h3).1
  have other : ∀ b, b ≠ T → (s.heap.update T (Obj.mapFields (·.setIfInBounds 3 ((some L).elim Value.none fun f => rawInt f)))).get? b = s.heap.get? b :=
    fun b hb => Heap.get?_update_other _ _ (Ne.symm hb)
  have noRecord : ∀ b o, s.heap.get? b = some o → (∀ vs, o.data ≠ .fields vs) → b ≠ T := fun b o hb hnf q => by
    rw [q, hT] at hb; injection hb with hb; subst hb; exact hnf ts hdT
  unfold setFlight
  refine wpAny_bind (wpAny_field he hd h1 ?_)
  rw [if_pos (show (Value.ref T != Value.none) = true from by simp)]
  refine wpAny_setField hT hdT hsz3 (h _ ⟨fun b o hbo => (other b fun q => by rw [q, hnT] at hbo; cases hbo).trans (hkb b o hbo), hen,
    hl.of_keeps fun b o hb hnf => ⟨o, (other b (noRecord b o hb hnf)).trans hb, rfl⟩, ?_⟩ fun b o hb hnf => ⟨o.slots, (other b (noRecord b o hb hnf)).trans hb⟩)
  exact ⟨oe, vs, T, _, _, (other e (Ne.symm hTe)).trans he, hcls, hd, h1, hnT, hTe, Heap.get?_update_self _ hT (Obj.isFreed_of_fields (Obj.data_mapFields hdT _)), Obj.data_mapFields hdT _, by simp [hsz3]⟩

theorem Ex.loop {PE : Mu → Prop} (X : Ex c PE) : Ex (c.withE (loopE c)) PE := ⟨X.env, fun Hs e s ⟨m1, μ1, B, R1, q1, K1, F1⟩ => by
  have hfr : c.A.frames = some (c.env :: c.outer) := by rw [X.env]; exact c.hA
  have hf : c.env.frame = some c.L := by rw [X.env]; exact c.hf
  have F1 : Fly B (c.env :: c.outer) c.L e s.heap := by rw [X.env]; exact F1
  show wpAny (MM w) c.A (noteFrame (.ref e) c.env) _ _ s
  refine fly_noted hfr hf F1 fun h3 t x3 u3 => ?_
  have R3 := R1.ofE.through K1 F1.stays x3.1 u3
  show wpAny (MM w) c.A (do
    if (← field (.ref e) 1) == .none then unsupported "frame.own-activation:exception-without-traceback"
    setFlight (.ref e) c.env.frame) _ _ _
  obtain ⟨oe, vs, T, oT, ts, he, hcls, hd, h1, _⟩ := x3.2.2.2
  refine wpAny_bind (wpAny_field he hd h1 ?_)
  rw [if_neg (by simp), hf]
  refine setFlight_heldW x3 fun h4 x4 u4 => ?_
  exact X.takes Hs e _ ⟨m1, μ1, B, R3.through K1 x3.1 x4.1 u4, q1, K1, .held t (by rw [← X.env]; exact x4)⟩⟩

theorem T_forX {target iter : Expr} {body rest : List Stmt} {p} {Q : Fl → Vars → Mu → Prop} (m0 : Vars) (J : Nat → It → Mu → Prop) (hm : Sub m0 m)
    (hi : WI c iter m μ (fun k μ0 => ∃ j, J j k μ0))
    (turn : ∀ c' : Cx w, (∀ r S, At c r S → At c' r S) → (∀ PE, Ex c PE → Ex c' PE) → ∀ N : Nat → It → Fl → Vars → Mu → Prop, PostN c rest Q m0 J N → ∀ j k μ1, J j k μ1 → Turn c c' target body rest m0 Q (N j) k μ1)
    (hs : ∀ x, foldedSetIterable iter c.env x = pure x := by intro _; rfl) : WS c (.For target iter body [] p :: rest) m μ Q :=
  S_for (fun j k m1 μ1 => Sub m0 m1 ∧ J j k μ1) (fun Hs s R => wpAny_mono (hi Hs s R) (fun _ _ h => wpAny_mono h (fun _ _ hz1 => by obtain ⟨I, o, k, μ', e, h1, h2, h3, h4, j, h5⟩ := hz1; exact ⟨I, o, k, μ', e, h1, h2, h3, h4, j, hm, h5⟩) fun _ _ z => z) fun _ _ z => z)
    (fun c' hc' ec j k m1 μ1 ⟨hs1, hJ⟩ => by
      rcases (turn c' hc' (fun PE X => ec ▸ X.loop) _ (fun _ _ _ _ _ z => z) j k μ1 hJ).or with ⟨st, z⟩ | ⟨v, k', st, z⟩
      · exact .inl ⟨st, z.lessM hs1⟩
      · refine .inr ⟨v, k', st, ?_⟩
        intro Hs s rv R hv E
        refine wpAny_mono (z.lessM hs1 Hs s rv R hv E) (fun _ s' ⟨m2, R2, z2⟩ => ⟨m2, R2, WS.mono z2 fun fl m3 μ3 q => ?_⟩) fun _ _ z => z
        cases fl with
        | next => obtain ⟨a, j', lt, hJ'⟩ := q; exact ⟨j', lt, a, hJ'⟩
        | cont => obtain ⟨a, j', lt, hJ'⟩ := q; exact ⟨j', lt, a, hJ'⟩
        | brk => exact q
        | ret v => exact q) hs

theorem T_fnX {S : Scope} {x : Str} {es : List Expr} {p p'} {Q : V → Mu → Prop} (hS : c.env.scope = S) (h1 : (fnT.lookup x).isSome = true) (hk : S.names.lookup x = some .globalImplicit) (h : WL c es m μ (fun vs μ' => CallC c (lk fnT x) vs m μ' Q))
    (he : backTo p' (starEach es c.env) = es.map (fun e => (false, eval e c.env)) := by rfl) (hd : (x == ("__debug__" : Str)) = false := by decide) : WE c (.Call (.Name x p) es [] p') m μ Q :=
  top_call hS (fn_in h1).1 hk (fn_in h1).2 h (fun rvs _ _ Hs s1 a b z => z Hs s1 rvs b a) he hd
inductive PMethX (c : Cx w) (name : Str) (es : List Expr) (m : Vars) (Q : V → Mu → Prop) (v : V) (μ1 : Mu) : Prop
  | mk (a C d : Addr) (fs : List (Str × V)) (L : List (List (Addr × O))) (e : v = .ref a) (H : Own L μ1) (p1 : In1 [(a, .inst C d)] L) (p2 : In1 [(d, .dict fs)] L) (hl : fs.lookup name = none) (ok : meB C name = true) (q : WL c es m μ1 (fun vs μ2 => CallC c (lk (meT C) name) (.ref a :: vs) m μ2 Q)) : PMethX c name es m Q v μ1
theorem T_methX {o : Expr} {name : Str} {apos : Pos} {es : List Expr} {p' : Pos} {pl : Sem Bool} {Q : V → Mu → Prop}
    (h : WE c o m μ (PMethX c name es m Q))
    (heval : eval (.Call (.Attribute o name apos) es [] p') c.env = (do
      let ov ← eval o c.env
      standAt apos.atName
      let (f, first) ← holding [ov] (getMethod ov name pl)
      callWith p' f first (backTo p' (starEach es c.env)) (backToKw p' (keywordEach [] c.env))) := by rfl)
    (he : backTo p' (starEach es c.env) = es.map (fun e => (false, eval e c.env)) := by rfl) : WE c (.Call (.Attribute o name apos) es [] p') m μ Q :=
  W_methC (WT.mono h fun _ _ x => by cases x with | mk a C d fs L e H h1 h2 h3 ok q => exact ⟨a, C, d, fs, _, e, H.at h1, H.at h2, h3, meB_in ok, q⟩) heval he

theorem fn_goX {oc : Value} {od an : Option Addr} {osl : Array (Option Value)} {name qual : Str} {params : Arguments} {body : List Stmt} {scope : Scope} {dV kV doc pm cdv ct : Value} {r : Nat} {f : Addr} {vs : List V} {μ : Mu} {Q : V → Mu → Prop} {PE : Mu → Prop} {ns : List Str}
    {B' : List Stmt} {S' : Scope}
    (ho : (KK w).lookup f = some ⟨oc, od, .func (fnOf name qual params body scope dV kV doc pm an cdv ct), osl⟩) (hB : body = B') (hS : scope = S') (hcd : codeIn (KK w) cdv qual = true)
    (hb : ∀ rvs : List Value, rvs.length = ns.length → bindArgs (fnOf name qual params body scope dV kV doc pm an cdv ct) ⟨rvs, []⟩ = pure (ns.zip rvs))
    (hl : vs.length = ns.length) (hk : (ns.all fun y => S'.names.lookup y == some .local || S'.names.lookup y == some .cell) = true)
    (hco : S'.isCoroutine = false) (hgen : S'.isGenerator = false) (hfun : S'.kind = .function)
    (h : ∀ c : Cx w, At c r S' → Ex c PE → ∀ KQ : Fl → Vars → Mu → Prop, PostF Q KQ → WS c B' (bindM (ns.zip vs) fun _ => none) μ KQ) : FnX w (r + 1) f vs μ Q PE := by
  subst hB hS
  exact fn_introX ho hcd hb hl hk hco hgen hfun fun c hc X => h c hc X _ fun _ _ _ z => z

theorem T_try {S : Scope} {body rest : List Stmt} {np k kp rp hp p} {PE : Mu → Prop} {Q : Fl → Vars → Mu → Prop} (hS : c.env.scope = S) (hfe : c.env = c.fenv)
    (hb : ∀ c' : Cx w, (∀ r S, At c r S → At c' r S) → Ex c' PE → WS c' body m μ (fun fl m' μ' => ∃ v, fl = .ret v ∧ Q fl m' μ')) (hc : ∀ m' μ', PE μ' → Q (.ret .none) m' μ')
    (hk : S.names.lookup (Str.ofString "LogPanic") = some .globalImplicit := by rfl) :
    WS c (.Try body [.ExceptHandler (some (.Name (Str.ofString "LogPanic") np)) none [.Return (some (.Constant .none k kp)) rp] hp] [] [] p :: rest) m μ Q := fun Hs s R => by
  refine wpAny_execs_cons (wpAny_Try_except ?_)
  let E' : Value → Shared → Prop := fun e s₁ => wpAny (MM w) c.A (noteFrame e c.env) (fun _ s₂ => wpAny (MM w) c.A (setFlight e none) (fun _ s₃ => wpAny (MM w) c.A (handleBy e c.env [.ExceptHandler (some (.Name (Str.ofString "LogPanic") np)) none [.Return (some (.Constant .none k kp)) rp] hp])
    (fun f s' => match f with
      | .next => wpAny (MM w) c.A (execs rest c.env) (PX c Hs Q) c.E s'
      | f => PX c Hs Q f s') c.E s₃) c.E s₂) c.E s₁
  let c' : Cx w := { c with E := E', H0 := Hs }
  have into : ∀ {m μ s}, Rel c Hs m μ s → Rel c' Hs m μ s := fun R => ⟨R.gens, R.os, R.base, R.frames, R.Lnew, R.nsL, R.Cnew, R.nsC, R.cellv, R.cells, R.apart, R.fin, fun _ _ e => e, R.held, R.mu⟩
  have out : ∀ {m μ s}, Rel c' Hs m μ s → Rel c Hs m μ s := fun R' => ⟨R'.gens, R'.os, R'.base, R'.frames, R'.Lnew, R'.nsL, R'.Cnew, R'.nsC, R'.cellv, R'.cells, R'.apart, R'.fin, R.h0, R'.held, R'.mu⟩
  refine wpAny_mono (hb c' (fun r S h => ⟨h.room, h.scope, h.celled, h.own⟩) ⟨hfe, fun H1 e s1 ⟨m1, μ1, B, R1, q1, K1, F1⟩ => ?_⟩ Hs s (into R)) (fun f s1 ⟨fl, m1, μ1, hf, R1, v, e1, q1⟩ => ?_) fun _ _ z => z
  · have R2 : Rel c Hs m1 μ1 s1 := out (R1.lessH R1.h0 (fun _ _ e => e) R.fin)
    have K2 : ∀ b, Foot c Hs μ1 b → ¬ FrameOf (c.fenv :: c.outer) b → (B.get? b).isSome = true := fun b f => K1 b (f.imp id (.imp (fun z => by
      obtain ⟨o, ho⟩ := Option.isSome_iff_exists.mp z
      rw [R1.h0 b o ho]; rfl) id))
    have hfr : c.A.frames = some (c.env :: c.outer) := by rw [hfe]; exact c.hA
    have hf : c.env.frame = some c.L := by rw [hfe]; exact c.hf
    have F1 : Fly B (c.env :: c.outer) c.L e s1.heap := by rw [hfe]; exact F1
    refine fly_noted hfr hf F1 fun h3 t x3 u3 => ?_
    have R3 := R2.through K2 F1.stays x3.1 u3
    refine wpAny_landsW x3 fun h4 x4 u4 => ?_
    have R4 := R3.through K2 x3.1 x4.1 u4
    obtain ⟨nm, q', N, bs, bm, hdct, sn, sub, ab, col, dd, k0, k1, k2, k3, k5, newId, hC, hbase, _⟩ := kts_cls R4.KX kts_panic
    obtain ⟨ob, hob, hobc⟩ := x4.there
    refine wpAny_handleBy_cons (codeAny_handlers_test ?_) (by intro q; cases q)
    refine Name_function_global c.hek (by unfold Env.kindOf; rw [hS]; exact hk) (loadGlobal_global (by rw [c.heg]; exact c.T.g.keeps R4.base) (mg_of c.X c.T.g ns_panic) ?_) (by decide)
    refine wpAny_excMatches_sub_self hC hob hobc hbase (codeAny_handlers_suite ?_)
    refine lands_againW x4 fun h6 x6 u6 => ?_
    have R6 := R4.through K2 x4.1 x6.1 u6
    refine wpAny_execs_cons (wpAny_Return_some (wpAny_Constant_none ?_))
    exact ⟨.ret .none, m1, μ1, ⟨_, rfl, rfl⟩, R6, hc _ _ q1⟩
  · subst e1
    obtain ⟨r, rfl, hv⟩ := hf
    exact ⟨.ret v, m1, μ1, ⟨r, rfl, hv⟩, out R1, q1⟩
end
section
variable {w : World} {c : Cx w} {m : Vars} {μ : Mu}
theorem Ex.weaken {PE PE' : Mu → Prop} (X : Ex c PE) (h : ∀ μ, PE' μ → PE μ) : Ex c PE' := ⟨X.env, fun Hs e s hz2 => by obtain ⟨m1, μ1, B, R1, q1, K1, F1⟩ := hz2; exact X.takes Hs e s ⟨m1, μ1, B, R1, h _ q1, K1, F1⟩⟩
theorem CallC.mono {f : Addr} {vs : List V} {Q Q' : V → Mu → Prop} (h : CallC c f vs m μ Q) (q : ∀ v μ', Q v μ' → Q' v μ') : CallC c f vs m μ Q' := fun Hs s rvs R hv =>
  wpAny_mono (h Hs s rvs R hv) (fun _ _ hz3 => by obtain ⟨v, μ', a, b, z⟩ := hz3; exact ⟨v, μ', a, b, q v μ' z⟩) fun _ _ z => z
theorem FnX.at {r : Nat} {f : Addr} {vs : List V} {Q Q' : V → Mu → Prop} {PE PE' : Mu → Prop} (h : FnX w r f vs μ Q PE) (hr : c.room = r) (X : Ex c PE') (q : ∀ v μ', Q v μ' → Q' v μ') (p : ∀ μ, PE μ → PE' μ) : CallC c f vs m μ Q' := (h.call (Nat.le_of_eq hr.symm) (X.weaken p)).mono q
end
section
variable {w : World} {c : Cx w} {m : Vars} {μ : Mu}
theorem W_uptoB {o : Expr} {k : Int} {l : Addr} {vs : List V} {rvs : List Value} {j p1 p2 p} {Q : V → Mu → Prop} (hb : c.h₀.IsList l (List.toArray rvs)) (v : VsIs vs rvs) (hk : 0 ≤ k ∧ vs.length ≤ 1000000)
    (h : WE c o m μ (fun a μ1 => a = .ref l ∧ ∀ r, μ1 r = none → Q (.ref r) (μ1.set r (.list (vs.take k.toNat)))))
    (ht : ∀ a r, letTemporaryGo o a r = pure () := by intro _ _; rfl) :
    WE c (.Subscript o (.Slice none (some (.Constant (.int k) j p1)) none p2) p) m μ Q := fun Hs s R =>
  wpAny_Subscript_list_slice (wpAny_mono (h Hs s R) (fun ra s1 ⟨a, μ1, ha, R1, ea, q⟩ => by
    subst ea
    cases ha
    have il : s1.heap.IsList l (List.toArray rvs) := let ⟨o, ho, r⟩ := hb; ⟨o, R1.base _ _ ho, r⟩
    have len := v.length
    refine wpAny_pure ?_
    refine wpAny_Constant_int (k := j) (pos := p1) ?_
    have R2 := R1.toks (s1.toks + 1)
    obtain ⟨N, fr⟩ := R2.new2 (o := .list (vs.take k.toNat)) (ro := { cls := .type "list", data := .seq (slicePick (List.toArray rvs) none (some k) none) }) (x := { cls := .type "slice", data := .fields #[.none, .int k s1.toks, .none] }) ⟨rvs.take k.toNat, 0, by
      have := slicePick_upto' (List.toArray rvs) k.toNat
      rw [Int.toNat_of_nonneg hk.1] at this
      rw [this], v.take _⟩ rfl
    exact ⟨l, _, none, some k, rfl, il, by rw [List.size_toArray]; unfold sizeLine; omega, .none, .int k _, .ref (s1.heap.objs.size + 1), _, rfl, N, q _ fr⟩) fun _ _ z => z) ht
end
section
variable {w : World}
theorem take_succ_mem {ys : List Int} {i : Nat} (h : i < ys.length) (z : Int) : z ∈ ys.take (i + 1) ↔ z ∈ ys.take i ∨ z = ys[i] := by
 rw [List.take_succ_eq_append_getElem h, List.mem_append, List.mem_singleton]
theorem le_of_sorted {ys : List Int} {i : Nat} (h : i < ys.length) (hs : ys.Pairwise (· ≤ ·)) {z : Int} (hz : z ∈ ys.take i) : z ≤ ys[i] := by
 obtain ⟨j, hj, rfl⟩ := List.mem_take_iff_getElem.mp hz
 exact List.pairwise_iff_getElem.mp hs j i (by omega) h (by omega)
theorem rising_len : ∀ {xs ys : List Int}, xs.Pairwise (· < ·) → (∀ z ∈ xs, z ∈ ys) → xs.length ≤ ys.length
 | [], _, _, _ => Nat.zero_le _
 | x :: xs, ys, h, hm => by
  obtain ⟨h1, h2⟩ := List.pairwise_cons.mp h
  have hx := hm x (.head _)
  have := rising_len (xs := xs) (ys := ys.erase x) h2 fun z hz => (List.mem_erase_of_ne (by have := h1 z hz; omega)).mpr (hm z (.tail _ hz))
  rw [List.length_erase_of_mem hx] at this
  have : 0 < ys.length := List.length_pos_of_mem hx
  simp only [List.length_cons]; omega
theorem rising_fn {a : Addr} {xs : List Int} (hl : xs.length < 64) {μ : Mu} (H : Own [[(a, .list (List.map V.int xs))]] μ) : Fn w 1 65 [.ref a] μ
  (fun v μ' => ∃ r ys, v = .ref r ∧ ys.Pairwise (· < ·) ∧ (∀ z, z ∈ ys ↔ z ∈ xs) ∧ Own [[(r, .list (List.map V.int ys))], [(a, .list (List.map V.int xs))]] μ') := by
 refine fn_go (ns := ["ids"]) k65 (by (conv => lhs; whnf)) (by (conv => lhs; whnf)) (by kernel_rfl) (rvs1 fun a => by kernel_rfl) rfl rfl rfl rfl rfl fun c hc KQ hKQ => ?_
 refine S_assign hc.scope hc.celled (by rfl) ?_
 refine O_list ?_
 refine L_nil ?_
 refine ⟨_, by assumption, by exact Nat.le_of_ble_eq_true rfl, fun _ _ _ => ?_⟩
 rename_i o μ1 H1
 refine T_for _ (fun j k μ1 => ∃ l ys i out, k = .list l i ∧ j = ys.length - i ∧ i ≤ ys.length ∧ ys.Perm xs ∧ ys.Pairwise (· ≤ ·) ∧ out.Pairwise (· < ·) ∧ (∀ z, z ∈ out ↔ z ∈ ys.take i) ∧ Own [[(o, .list (List.map V.int out))], [(l, .list (List.map V.int ys))], [(a, .list (List.map V.int xs))]] μ1) Sub.refl ?_ ?_
 ·refine OI_list ?_
  refine O_sorted (by exact hc.scope) ?_
  refine W_name hc.scope (by rfl) (by rfl) ?_
  refine ⟨_, _, _, rfl, by assumption, ⟨1, rfl⟩, by assumption, fun _ _ _ => ?_⟩
  rename_i l ys μ2
  intro hp hs H2
  exact ⟨_, _, _, rfl, H2, .head, _, _, ys, 0, [], rfl, rfl, Nat.zero_le _, hp, hs, .nil, by simp, by (apply Own.sel; (· assumption); exact .cons pz1 (.cons pz0 (.cons pz0 .nil)))⟩
 ·rintro c' hc' N hN j k μ2 ⟨l, ys, i, out, rfl, rfl, hi, hp, hs, hr, hm, H2⟩
  have hc2 := hc' _ _ hc
  by_cases h : i < ys.length
  ·refine .inr ⟨.int ys[i], _, .list (H2.get (.tail .head)) (by simp [h]), ?_⟩
   refine A_name (by exact hc2.scope) (by exact hc2.celled) rfl ?_
   have hlen : out.length ≤ 1000000 := by
    have := rising_len hr (ys := ys) fun z hz => List.mem_of_mem_take ((hm z).mp hz)
    have := hp.length_eq
    omega
   have hold : ∀ z ∈ out, z ≤ ys[i] := fun z hz => le_of_sorted h hs ((hm z).mp hz)
   refine T_if0 fun RI hRI => ?_
   refine B_or2 ?_
   refine B_not ?_
   refine B_val ?_
   refine W_name hc2.scope (by rfl) (by rfl) ?_
   refine tru_list (by assumption) ⟨0, rfl⟩ (by (simp; omega)) ?_
   by_cases ho : out = []
   ·subst ho
    (first | refine z_T (by rfl) ?_ | refine i_T (by rfl) fun NI hNI => ?_ | refine ite_T (by rfl) ?_)
    (first | refine z_t ?_ | refine i_t fun NI hNI => ?_ | refine ite_t ?_ | skip)
    refine T_expr ?_
    refine O_append ?_
    refine W_name hc2.scope (by rfl) (by rfl) ?_
    refine ⟨_, _, _, rfl, by assumption, ⟨0, rfl⟩, ?_⟩
    refine W_name hc2.scope (by rfl) (by rfl) ?_
    refine ⟨_, _, _, by assumption, pz0, by exact Nat.le_of_ble_eq_true rfl, fun _ _ => ?_⟩
    refine S_nil ?_
    refine PostN.go (by assumption) ?_
    refine ⟨Sub.refl.set, _, by exact dec (by assumption), l, ys, i + 1, [ys[i]], rfl, rfl, by assumption, hp, hs, by simp, fun z => ?_, by (apply Own.sel; (· assumption); exact .cons pz0 (.cons pz0 (.cons pz0 .nil)))⟩
    rw [take_succ_mem h, List.mem_singleton, ← hm]; simp
   ·have hne : (List.map V.int out).isEmpty = false := by cases out with | nil => exact absurd rfl ho | cons => rfl
    rw [hne]
    (first | refine z_F (by rfl) ?_ | refine i_F (by rfl) fun NI hNI => ?_ | refine ite_F (by rfl) ?_)
    refine B_cmp ?_
    refine T_last ?_
    refine W_name hc2.scope (by rfl) (by rfl) ?_
    refine W_neg ?_
    refine W_int ?_
    refine ⟨_, rfl, ?_⟩
    refine ⟨_, _, .int (out.getLast ho), _, rfl, rfl, by assumption, by exact ⟨0, rfl⟩, by simp [List.getLast?_eq_some_getLast ho], ?_⟩
    refine W_name hc2.scope (by rfl) (by rfl) ?_
    refine cmp_ne ?_
    have hlast : out.getLast ho ∈ out := List.getLast_mem ho
    (first | refine z_dec (fun hd => ?_) (fun hd => ?_) | refine i_dec (fun hd NI hNI => ?_) (fun hd NI hNI => ?_) | refine ite_dec (fun hd => ?_) (fun hd => ?_))
    ·refine T_expr ?_
     refine O_append ?_
     refine W_name hc2.scope (by rfl) (by rfl) ?_
     refine ⟨_, _, _, rfl, by assumption, ⟨0, rfl⟩, ?_⟩
     refine W_name hc2.scope (by rfl) (by rfl) ?_
     refine ⟨_, _, _, by assumption, pz0, by (simp; omega), fun _ _ => ?_⟩
     refine S_nil ?_
     refine PostN.go (by assumption) ?_
     refine ⟨Sub.refl.set, _, by exact dec (by assumption), l, ys, i + 1, out ++ [ys[i]], rfl, rfl, by assumption, hp, hs, ?_, fun z => ?_, ?_⟩
     ·refine List.pairwise_append.mpr ⟨hr, by simp, fun x hx y hy => ?_⟩
      rw [List.mem_singleton.mp hy]
      obtain ⟨j, hj, rfl⟩ := List.getElem_of_mem hx
      have h1 := hold _ hlast
      rw [List.getLast_eq_getElem] at h1 hd
      by_cases q : j = out.length - 1
      ·subst q; omega
      ·have := List.pairwise_iff_getElem.mp hr j (out.length - 1) hj (by omega) (by omega)
       omega
     ·rw [take_succ_mem h, List.mem_append, List.mem_singleton, hm]
     ·rw [List.map_append]; (apply Own.sel; (· assumption); exact .cons pz0 (.cons pz0 (.cons pz0 .nil)))
    ·refine S_nil ?_
     refine PostN.go (by assumption) ?_
     refine ⟨Sub.refl.set, _, by exact dec (by assumption), l, ys, i + 1, out, rfl, rfl, by assumption, hp, hs, hr, fun z => ?_, by (apply Own.sel; (· assumption); exact .cons pz0 (.cons pz0 (.cons pz0 .nil)))⟩
     rw [take_succ_mem h, hm]
     exact ⟨.inl, fun q => q.elim id fun q => by rw [q]; have hd : out.getLast ho = ys[i] := by omega
                                                 rw [← hd]; exact (hm _).mp hlast⟩
  ·refine .inl ⟨.listEnd (H2.get (.tail .head)) (by simp; omega), ?_⟩
   have : i = ys.length := by exact Nat.le_antisymm (by assumption) (Nat.le_of_not_lt (by assumption))
   subst this
   refine S_ret ?_
   refine W_name hc.scope (by rfl) (by rfl) ?_
   refine PostF.ret (by assumption) ?_
   refine ⟨o, out, rfl, hr, fun z => ?_, by (apply Own.sel; (· assumption); exact .cons pz0 (.cons pz1 .nil))⟩
   rw [hm, List.take_length]
   exact hp.mem_iff
theorem rising_fn_k {a : Addr} {xs : List Int} (hl : xs.length < 64) {r' : Nat} (hr : Nat.ble 1 r' = true) {L K : List (List (Addr × O))} {μ : Mu} (H : Own L μ) (p : Picks [[(a, .list (List.map V.int xs))]] L K) {Q : V → Mu → Prop} (k : ∀ r ys μ', ys.Pairwise (· < ·) → ((∀ z, z ∈ ys ↔ z ∈ xs)) → Own ([(r, .list (List.map V.int ys))] :: [(a, .list (List.map V.int xs))] :: K) μ' → Q (.ref r) μ') : Fn w r' 65 [.ref a] μ Q :=
 Fn.call (fun _ H => rising_fn hl H) hr H p fun v μ1 μ' h hF => by obtain ⟨r, ys, rfl, h0', h1', H1'⟩ := h; exact k r ys μ' h0' h1' (hF _ H1')

noncomputable def Rs (ys xs : List Int) : Prop := ys.Pairwise (· < ·) ∧ ∀ z, z ∈ ys ↔ z ∈ xs
theorem Rs.eq {ys xs : List Int} (h : Rs ys xs) (hx : xs.Pairwise (· < ·)) : ys = xs := rising_unique h.1 hx h.2
theorem conf_init {a d p0 p1 p2 p3 : Addr} {q0 q1 q2 q3 : List Int} {al : Bool} (h0 : q0.length < 64) (h1 : q1.length < 64) (h2 : q2.length < 64) (h3 : q3.length < 64) {μ : Mu}
  (H : Own [[(a, .inst 194 d)], [(d, .dict [])], [(p0, .list (List.map V.int q0))], [(p1, .list (List.map V.int q1))], [(p2, .list (List.map V.int q2))], [(p3, .list (List.map V.int q3))]] μ) : Fn w 2 177 [.ref a, .ref p0, .ref p1, .ref p2, .ref p3, .bool al] μ
  (fun v μ' => v = .none ∧ ∃ D l, CG 194 a D l ∧ Rs D.v q0 ∧ Rs D.l q1 ∧ Rs D.o q2 ∧ Rs D.n q3 ∧ D.al = al ∧ Own [l, [(p0, .list (List.map V.int q0))], [(p1, .list (List.map V.int q1))], [(p2, .list (List.map V.int q2))], [(p3, .list (List.map V.int q3))]] μ') := by
 refine fn_go (ns := ["self", "voters", "learners", "outgoing", "learners_next", "auto_leave"]) k177 (by (conv => lhs; whnf)) (by (conv => lhs; whnf)) (by kernel_rfl) (rvs6 fun a b c d e f => by kernel_rfl) rfl rfl rfl rfl rfl fun c hc KQ hKQ => ?_
 refine T_setattr ?_
 refine T_fn hc.scope hc.room rfl rfl ?_
 refine L_cons ?_
 refine W_name hc.scope (by rfl) (by rfl) ?_
 refine L_nil ?_
 refine rising_fn_k h0 (by rfl) (by assumption) (by exact .cons pz2 .nil) fun x0 y0 _ m0 e0 H0 => ?_
 refine W_name hc.scope (by rfl) (by rfl) ?_
 refine ⟨_, _, _, _, _, _, rfl, by assumption, ⟨2, rfl⟩, pz3, by rfl, by exact Nat.le_of_ble_eq_true rfl, fun _ _ => ?_⟩
 refine T_setattr ?_
 refine T_fn hc.scope hc.room rfl rfl ?_
 refine L_cons ?_
 refine W_name hc.scope (by rfl) (by rfl) ?_
 refine L_nil ?_
 refine rising_fn_k h1 (by rfl) (by assumption) (by exact .cons pz4 .nil) fun x1 y1 _ m1 e1 H1 => ?_
 refine W_name hc.scope (by rfl) (by rfl) ?_
 refine ⟨_, _, _, _, _, _, rfl, by assumption, ⟨5, rfl⟩, pz2, by rfl, by exact Nat.le_of_ble_eq_true rfl, fun _ _ => ?_⟩
 refine T_setattr ?_
 refine T_fn hc.scope hc.room rfl rfl ?_
 refine L_cons ?_
 refine W_name hc.scope (by rfl) (by rfl) ?_
 refine L_nil ?_
 refine rising_fn_k h2 (by rfl) (by assumption) (by exact .cons pz6 .nil) fun x2 y2 _ m2 e2 H2 => ?_
 refine W_name hc.scope (by rfl) (by rfl) ?_
 refine ⟨_, _, _, _, _, _, rfl, by assumption, ⟨7, rfl⟩, pz2, by rfl, by exact Nat.le_of_ble_eq_true rfl, fun _ _ => ?_⟩
 refine T_setattr ?_
 refine T_fn hc.scope hc.room rfl rfl ?_
 refine L_cons ?_
 refine W_name hc.scope (by rfl) (by rfl) ?_
 refine L_nil ?_
 refine rising_fn_k h3 (by rfl) (by assumption) (by exact .cons pz8 .nil) fun x3 y3 _ m3 e3 H3 => ?_
 refine W_name hc.scope (by rfl) (by rfl) ?_
 refine ⟨_, _, _, _, _, _, rfl, by assumption, ⟨9, rfl⟩, pz2, by rfl, by exact Nat.le_of_ble_eq_true rfl, fun _ _ => ?_⟩
 refine T_setattr ?_
 refine W_name hc.scope (by rfl) (by rfl) ?_
 refine W_name hc.scope (by rfl) (by rfl) ?_
 refine ⟨_, _, _, _, _, _, rfl, by assumption, ⟨9, rfl⟩, pz0, by rfl, by exact Nat.le_of_ble_eq_true rfl, fun _ _ => ?_⟩
 refine S_nil ?_
 refine PostF.next (by assumption) ?_
 exact ⟨rfl, ⟨y0, y1, y2, y3, al⟩, _, ⟨d, x0, x1, x2, x3, rfl⟩, ⟨m0, e0⟩, ⟨m1, e1⟩, ⟨m2, e2⟩, ⟨m3, e3⟩, rfl, by (refine Own.of_singles ?_; apply Own.sel; (· assumption); exact .cons pz9 (.cons pz0 (.cons pz6 (.cons pz4 (.cons pz2 (.cons pz0 (.cons pz3 (.cons pz2 (.cons pz1 (.cons pz0 .nil))))))))))⟩
theorem conf_init_k {a d p0 p1 p2 p3 : Addr} {q0 q1 q2 q3 : List Int} {al : Bool} (h0 : q0.length < 64) (h1 : q1.length < 64) (h2 : q2.length < 64) (h3 : q3.length < 64) {r' : Nat} (hr : Nat.ble 2 r' = true) {L K : List (List (Addr × O))} {μ : Mu} (H : Own L μ) (p : Picks [[(a, .inst 194 d)], [(d, .dict [])], [(p0, .list (List.map V.int q0))], [(p1, .list (List.map V.int q1))], [(p2, .list (List.map V.int q2))], [(p3, .list (List.map V.int q3))]] L K) {Q : V → Mu → Prop} (k : ∀ D l μ', CG 194 a D l → Rs D.v q0 → Rs D.l q1 → Rs D.o q2 → Rs D.n q3 → (D.al = al) → Own (l :: [(p0, .list (List.map V.int q0))] :: [(p1, .list (List.map V.int q1))] :: [(p2, .list (List.map V.int q2))] :: [(p3, .list (List.map V.int q3))] :: K) μ' → Q .none μ') : Fn w r' 177 [.ref a, .ref p0, .ref p1, .ref p2, .ref p3, .bool al] μ Q :=
 Fn.call (fun _ H => conf_init h0 h1 h2 h3 H) hr H p fun v μ1 μ' h hF => by obtain ⟨rfl, D, l, h0', h1', h2', h3', h4', h5', H1'⟩ := h; exact k D l μ' h0' h1' h2' h3' h4' h5' (hF _ H1')
theorem config_init {a d p0 p1 p2 p3 : Addr} {q0 q1 q2 q3 : List Int} {al : Bool} (h0 : q0.length < 64) (h1 : q1.length < 64) (h2 : q2.length < 64) (h3 : q3.length < 64) {μ : Mu}
  (H : Own [[(a, .inst 365 d)], [(d, .dict [])], [(p0, .list (List.map V.int q0))], [(p1, .list (List.map V.int q1))], [(p2, .list (List.map V.int q2))], [(p3, .list (List.map V.int q3))]] μ) : Fn w 2 299 [.ref a, .ref p0, .ref p1, .ref p2, .ref p3, .bool al] μ
  (fun v μ' => v = .none ∧ ∃ D l, CG 365 a D l ∧ Rs D.v q0 ∧ Rs D.o q1 ∧ Rs D.l q2 ∧ Rs D.n q3 ∧ D.al = al ∧ Own [l, [(p0, .list (List.map V.int q0))], [(p1, .list (List.map V.int q1))], [(p2, .list (List.map V.int q2))], [(p3, .list (List.map V.int q3))]] μ') := by
 refine fn_go (ns := ["self", "voters", "outgoing", "learners", "learners_next", "auto_leave"]) k299 (by (conv => lhs; whnf)) (by (conv => lhs; whnf)) (by kernel_rfl) (rvs6 fun a b c d e f => by kernel_rfl) rfl rfl rfl rfl rfl fun c hc KQ hKQ => ?_
 refine T_setattr ?_
 refine T_fn hc.scope hc.room rfl rfl ?_
 refine L_cons ?_
 refine W_name hc.scope (by rfl) (by rfl) ?_
 refine L_nil ?_
 refine rising_fn_k h0 (by rfl) (by assumption) (by exact .cons pz2 .nil) fun x0 y0 _ m0 e0 H0 => ?_
 refine W_name hc.scope (by rfl) (by rfl) ?_
 refine ⟨_, _, _, _, _, _, rfl, by assumption, ⟨2, rfl⟩, pz3, by rfl, by exact Nat.le_of_ble_eq_true rfl, fun _ _ => ?_⟩
 refine T_setattr ?_
 refine T_fn hc.scope hc.room rfl rfl ?_
 refine L_cons ?_
 refine W_name hc.scope (by rfl) (by rfl) ?_
 refine L_nil ?_
 refine rising_fn_k h1 (by rfl) (by assumption) (by exact .cons pz4 .nil) fun x1 y1 _ m1 e1 H1 => ?_
 refine W_name hc.scope (by rfl) (by rfl) ?_
 refine ⟨_, _, _, _, _, _, rfl, by assumption, ⟨5, rfl⟩, pz2, by rfl, by exact Nat.le_of_ble_eq_true rfl, fun _ _ => ?_⟩
 refine T_setattr ?_
 refine T_fn hc.scope hc.room rfl rfl ?_
 refine L_cons ?_
 refine W_name hc.scope (by rfl) (by rfl) ?_
 refine L_nil ?_
 refine rising_fn_k h2 (by rfl) (by assumption) (by exact .cons pz6 .nil) fun x2 y2 _ m2 e2 H2 => ?_
 refine W_name hc.scope (by rfl) (by rfl) ?_
 refine ⟨_, _, _, _, _, _, rfl, by assumption, ⟨7, rfl⟩, pz2, by rfl, by exact Nat.le_of_ble_eq_true rfl, fun _ _ => ?_⟩
 refine T_setattr ?_
 refine T_fn hc.scope hc.room rfl rfl ?_
 refine L_cons ?_
 refine W_name hc.scope (by rfl) (by rfl) ?_
 refine L_nil ?_
 refine rising_fn_k h3 (by rfl) (by assumption) (by exact .cons pz8 .nil) fun x3 y3 _ m3 e3 H3 => ?_
 refine W_name hc.scope (by rfl) (by rfl) ?_
 refine ⟨_, _, _, _, _, _, rfl, by assumption, ⟨9, rfl⟩, pz2, by rfl, by exact Nat.le_of_ble_eq_true rfl, fun _ _ => ?_⟩
 refine T_setattr ?_
 refine W_name hc.scope (by rfl) (by rfl) ?_
 refine W_name hc.scope (by rfl) (by rfl) ?_
 refine ⟨_, _, _, _, _, _, rfl, by assumption, ⟨9, rfl⟩, pz0, by rfl, by exact Nat.le_of_ble_eq_true rfl, fun _ _ => ?_⟩
 refine S_nil ?_
 refine PostF.next (by assumption) ?_
 exact ⟨rfl, ⟨y0, y2, y1, y3, al⟩, _, ⟨d, x0, x2, x1, x3, rfl⟩, ⟨m0, e0⟩, ⟨m1, e1⟩, ⟨m2, e2⟩, ⟨m3, e3⟩, rfl, by (refine Own.of_singles ?_; apply Own.sel; (· assumption); exact .cons pz9 (.cons pz0 (.cons pz6 (.cons pz2 (.cons pz3 (.cons pz0 (.cons pz3 (.cons pz2 (.cons pz1 (.cons pz0 .nil))))))))))⟩

theorem config_init_k {a d p0 p1 p2 p3 : Addr} {q0 q1 q2 q3 : List Int} {al : Bool} (h0 : q0.length < 64) (h1 : q1.length < 64) (h2 : q2.length < 64) (h3 : q3.length < 64) {r' : Nat} (hr : Nat.ble 2 r' = true) {L K : List (List (Addr × O))} {μ : Mu} (H : Own L μ) (p : Picks [[(a, .inst 365 d)], [(d, .dict [])], [(p0, .list (List.map V.int q0))], [(p1, .list (List.map V.int q1))], [(p2, .list (List.map V.int q2))], [(p3, .list (List.map V.int q3))]] L K) {Q : V → Mu → Prop} (k : ∀ D l μ', CG 365 a D l → Rs D.v q0 → Rs D.o q1 → Rs D.l q2 → Rs D.n q3 → (D.al = al) → Own (l :: [(p0, .list (List.map V.int q0))] :: [(p1, .list (List.map V.int q1))] :: [(p2, .list (List.map V.int q2))] :: [(p3, .list (List.map V.int q3))] :: K) μ' → Q .none μ') : Fn w r' 299 [.ref a, .ref p0, .ref p1, .ref p2, .ref p3, .bool al] μ Q :=
 Fn.call (fun _ H => config_init h0 h1 h2 h3 H) hr H p fun v μ1 μ' h hF => by obtain ⟨rfl, D, l, h0', h1', h2', h3', h4', h5', H1'⟩ := h; exact k D l μ' h0' h1' h2' h3' h4' h5' (hF _ H1')
theorem rdB_list {xs : List Int} {a : Addr} {n : Nat} : RdB (n + 1) (.ref a) (intsD xs) [(a, .tup (List.map V.int xs))] := fun μ h => by
 refine .tup (h _ (.head _)) (by simp) fun i v d e1 e2 => ?_
 rw [List.getElem?_map] at e1 e2
 cases q : xs[i]? with
 | none => rw [q] at e1; cases e1
 | some x => rw [q] at e1 e2; cases e1; cases e2; exact .int x
theorem RdB.more {n : Nat} {v : V} {d : D} {l l' : List (Addr × O)} (h : RdB n v d l) (hs : ∀ p ∈ l, p ∈ l') : RdB n v d l' := fun μ hm => h μ fun p hp => hm p (hs p hp)
theorem RdB.tup {n : Nat} {a : Addr} {vs : List V} {ds : List D} {l : List (Addr × O)} (hl : vs.length = ds.length) (hm : (a, .tup vs) ∈ l) (r : ∀ (i : Nat) v d, vs[i]? = some v → ds[i]? = some d → RdB n v d l) : RdB (n + 1) (.ref a) (.tup ds) l := fun μ h =>
 .tup (h _ hm) hl fun i v d e1 e2 => r i v d e1 e2 μ h

inductive RdL (n : Nat) (l : List (Addr × O)) : List V → List D → Prop
 | nil : RdL n l [] []
 | cons {v d vs ds} (h : RdB n v d l) (r : RdL n l vs ds) : RdL n l (v :: vs) (d :: ds)
theorem RdL.tup {n : Nat} {a : Addr} {vs : List V} {ds : List D} {l : List (Addr × O)} (hm : (a, .tup vs) ∈ l) (h : RdL n l vs ds) : RdB (n + 1) (.ref a) (.tup ds) l := by
 refine RdB.tup ?_ hm ?_
 ·clear hm; induction h with
  | nil => rfl
  | cons _ _ ih => exact congrArg (· + 1) ih
 ·clear hm; induction h with
  | nil => exact fun i v d e => nomatch e
  | cons h _ ih =>
   intro i v d e1 e2
   cases i with
   | zero => cases e1; cases e2; exact h
   | succ i => exact ih i v d e1 e2
theorem RdB.int {n : Nat} {x : Int} {l : List (Addr × O)} : RdB n (.int x) (.int x) l := fun _ _ => .int _
theorem RdB.bool {n : Nat} {x : Bool} {l : List (Addr × O)} : RdB n (.bool x) (.bool x) l := fun _ _ => .bool _
theorem RdB.bytes {n : Nat} {x : Array UInt8} {l : List (Addr × O)} : RdB n (.bytes x) (.bytes x) l := fun _ _ => .bytes _
theorem RdB.ints {xs : List Int} {a : Addr} {n : Nat} {l : List (Addr × O)} (h : (a, .tup (List.map V.int xs)) ∈ l) : RdB (n + 1) (.ref a) (intsD xs) l := rdB_list.more fun p hp => by rw [List.mem_singleton.mp hp]; exact h
theorem conf_tup {t r0 r1 r2 r3 : Addr} {q0 q1 q2 q3 : List Int} {al : Bool} {n : Nat} : RdB (n + 2) (.ref t) (.tup [intsD q0, intsD q1, intsD q2, intsD q3, .bool al])
  [(t, .tup [.ref r0, .ref r1, .ref r2, .ref r3, .bool al]), (r0, .tup (List.map V.int q0)), (r1, .tup (List.map V.int q1)), (r2, .tup (List.map V.int q2)), (r3, .tup (List.map V.int q3))] :=
 RdL.tup (.head _) (.cons (RdB.ints (.tail _ (.head _))) (.cons (RdB.ints (.tail _ (.tail _ (.head _)))) (.cons (RdB.ints (.tail _ (.tail _ (.tail _ (.head _))))) (.cons (RdB.ints (.tail _ (.tail _ (.tail _ (.tail _ (.head _)))))) (.cons .bool .nil)))))
noncomputable def CD.Fit (D : CD) : Prop := (D.v.Pairwise (· < ·) ∧ D.v.length < 60) ∧ (D.l.Pairwise (· < ·) ∧ D.l.length < 60) ∧ (D.o.Pairwise (· < ·) ∧ D.o.length < 60) ∧ (D.n.Pairwise (· < ·) ∧ D.n.length < 60)
theorem CD.WF.fit {D : CD} {b : Nat} (h : D.WF b) (hb : b < 60) : D.Fit := ⟨⟨h.1.1, Nat.lt_of_le_of_lt h.1.2.2 hb⟩, ⟨h.2.1.1, Nat.lt_of_le_of_lt h.2.1.2.2 hb⟩, ⟨h.2.2.1.1, Nat.lt_of_le_of_lt h.2.2.1.2.2 hb⟩, ⟨h.2.2.2.1, Nat.lt_of_le_of_lt h.2.2.2.2.2 hb⟩⟩
theorem CD.same {D E : CD} (h : D.Fit) (h0 : Rs E.v D.v) (h1 : Rs E.l D.l) (h2 : Rs E.o D.o) (h3 : Rs E.n D.n) (h4 : E.al = D.al) : E = D := by
 obtain ⟨⟨p0, _⟩, ⟨p1, _⟩, ⟨p2, _⟩, ⟨p3, _⟩⟩ := h
 cases E; cases D
 simp only at h0 h1 h2 h3 h4 p0 p1 p2 p3
 rw [h0.eq p0, h1.eq p1, h2.eq p2, h3.eq p3, h4]
theorem conf_row {a : Addr} {D : CD} {l : List (Addr × O)} (hG : CG 194 a D l) (hs : D.Fit) {μ : Mu} (H : Own [l] μ) : Fn w 1 184 [.ref a] μ (fun v μ' => ∃ lr, RdB 2 v D.row0 lr ∧ Own [lr, l] μ') := by
 obtain ⟨d, x0, x1, x2, x3, rfl⟩ := hG
 obtain ⟨⟨_, s0⟩, ⟨_, s1⟩, ⟨_, s2⟩, ⟨_, s3⟩⟩ := hs
 have H : Own [[(a, _)], [(d, _)], [(x0, _)], [(x1, _)], [(x2, _)], [(x3, _)]] μ := H.eq
 refine fn_go (ns := ["self"]) k184 (by (conv => lhs; whnf)) (by (conv => lhs; whnf)) (by kernel_rfl) (rvs1 fun a => by kernel_rfl) rfl rfl rfl rfl rfl fun c hc KQ hKQ => ?_
 refine S_ret ?_
 refine O_tuple ?_
 refine L_cons ?_
 refine O_tupleOf hc.scope ?_
 refine T_attr ?_
 refine W_name hc.scope (by rfl) (by rfl) ?_
 refine ⟨_, _, _, _, _, _, rfl, by assumption, ⟨0, rfl⟩, ⟨1, rfl⟩, by rfl, by rfl, ?_⟩
 refine ⟨_, _, _, rfl, by assumption, ⟨2, rfl⟩, by (simp; omega), fun _ _ _ => ?_⟩
 refine L_cons ?_
 refine O_tupleOf hc.scope ?_
 refine T_attr ?_
 refine W_name hc.scope (by rfl) (by rfl) ?_
 refine ⟨_, _, _, _, _, _, rfl, by assumption, ⟨1, rfl⟩, ⟨2, rfl⟩, by rfl, by rfl, ?_⟩
 refine ⟨_, _, _, rfl, by assumption, ⟨4, rfl⟩, by (simp; omega), fun _ _ _ => ?_⟩
 refine L_cons ?_
 refine O_tupleOf hc.scope ?_
 refine T_attr ?_
 refine W_name hc.scope (by rfl) (by rfl) ?_
 refine ⟨_, _, _, _, _, _, rfl, by assumption, ⟨2, rfl⟩, ⟨3, rfl⟩, by rfl, by rfl, ?_⟩
 refine ⟨_, _, _, rfl, by assumption, ⟨6, rfl⟩, by (simp; omega), fun _ _ _ => ?_⟩
 refine L_cons ?_
 refine O_tupleOf hc.scope ?_
 refine T_attr ?_
 refine W_name hc.scope (by rfl) (by rfl) ?_
 refine ⟨_, _, _, _, _, _, rfl, by assumption, ⟨3, rfl⟩, ⟨4, rfl⟩, by rfl, by rfl, ?_⟩
 refine ⟨_, _, _, rfl, by assumption, ⟨8, rfl⟩, by (simp; omega), fun _ _ _ => ?_⟩
 refine L_cons ?_
 refine T_attr ?_
 refine W_name hc.scope (by rfl) (by rfl) ?_
 refine ⟨_, _, _, _, _, _, rfl, by assumption, ⟨4, rfl⟩, ⟨5, rfl⟩, by rfl, by rfl, ?_⟩
 refine L_nil ?_
 refine ⟨_, by assumption, by exact Nat.le_of_ble_eq_true rfl, fun _ _ _ => ?_⟩
 refine PostF.ret (by assumption) ?_
 exact ⟨_, conf_tup, by (refine Own.of_singles ?_; apply Own.sel; (· assumption); exact .cons pz0 (.cons pz3 (.cons pz2 (.cons pz1 (.cons pz0 (.cons pz0 (.cons pz0 (.cons pz0 (.cons pz0 (.cons pz0 (.cons pz0 .nil)))))))))))⟩
theorem config_row {a : Addr} {D : CD} {l : List (Addr × O)} (hG : CG 365 a D l) (hs : D.Fit) {μ : Mu} (H : Own [l] μ) : Fn w 1 306 [.ref a] μ (fun v μ' => ∃ lr, RdB 2 v D.row1 lr ∧ Own [lr, l] μ') := by
 obtain ⟨d, x0, x1, x2, x3, rfl⟩ := hG
 obtain ⟨⟨_, s0⟩, ⟨_, s1⟩, ⟨_, s2⟩, ⟨_, s3⟩⟩ := hs
 have H : Own [[(a, _)], [(d, _)], [(x0, _)], [(x1, _)], [(x2, _)], [(x3, _)]] μ := H.eq
 refine fn_go (ns := ["self"]) k306 (by (conv => lhs; whnf)) (by (conv => lhs; whnf)) (by kernel_rfl) (rvs1 fun a => by kernel_rfl) rfl rfl rfl rfl rfl fun c hc KQ hKQ => ?_
 refine S_ret ?_
 refine O_tuple ?_
 refine L_cons ?_
 refine O_tupleOf hc.scope ?_
 refine T_attr ?_
 refine W_name hc.scope (by rfl) (by rfl) ?_
 refine ⟨_, _, _, _, _, _, rfl, by assumption, ⟨0, rfl⟩, ⟨1, rfl⟩, by rfl, by rfl, ?_⟩
 refine ⟨_, _, _, rfl, by assumption, ⟨2, rfl⟩, by (simp; omega), fun _ _ _ => ?_⟩
 refine L_cons ?_
 refine O_tupleOf hc.scope ?_
 refine T_attr ?_
 refine W_name hc.scope (by rfl) (by rfl) ?_
 refine ⟨_, _, _, _, _, _, rfl, by assumption, ⟨1, rfl⟩, ⟨2, rfl⟩, by rfl, by rfl, ?_⟩
 refine ⟨_, _, _, rfl, by assumption, ⟨5, rfl⟩, by (simp; omega), fun _ _ _ => ?_⟩
 refine L_cons ?_
 refine O_tupleOf hc.scope ?_
 refine T_attr ?_
 refine W_name hc.scope (by rfl) (by rfl) ?_
 refine ⟨_, _, _, _, _, _, rfl, by assumption, ⟨2, rfl⟩, ⟨3, rfl⟩, by rfl, by rfl, ?_⟩
 refine ⟨_, _, _, rfl, by assumption, ⟨5, rfl⟩, by (simp; omega), fun _ _ _ => ?_⟩
 refine L_cons ?_
 refine O_tupleOf hc.scope ?_
 refine T_attr ?_
 refine W_name hc.scope (by rfl) (by rfl) ?_
 refine ⟨_, _, _, _, _, _, rfl, by assumption, ⟨3, rfl⟩, ⟨4, rfl⟩, by rfl, by rfl, ?_⟩
 refine ⟨_, _, _, rfl, by assumption, ⟨8, rfl⟩, by (simp; omega), fun _ _ _ => ?_⟩
 refine L_cons ?_
 refine T_attr ?_
 refine W_name hc.scope (by rfl) (by rfl) ?_
 refine ⟨_, _, _, _, _, _, rfl, by assumption, ⟨4, rfl⟩, ⟨5, rfl⟩, by rfl, by rfl, ?_⟩
 refine L_nil ?_
 refine ⟨_, by assumption, by exact Nat.le_of_ble_eq_true rfl, fun _ _ _ => ?_⟩
 refine PostF.ret (by assumption) ?_
 exact ⟨_, conf_tup, by (refine Own.of_singles ?_; apply Own.sel; (· assumption); exact .cons pz0 (.cons pz3 (.cons pz2 (.cons pz1 (.cons pz0 (.cons pz0 (.cons pz0 (.cons pz0 (.cons pz0 (.cons pz0 (.cons pz0 .nil)))))))))))⟩
theorem conf_copy {a : Addr} {D : CD} {l : List (Addr × O)} (hG : CG 194 a D l) (hs : D.Fit) {μ : Mu} (H : Own [l] μ) : Fn w 4 191 [.ref a] μ (fun v μ' => ∃ b lb, v = .ref b ∧ CG 194 b D lb ∧ Own [lb, l] μ') := by
 have hs' := hs
 obtain ⟨d, x0, x1, x2, x3, rfl⟩ := hG
 obtain ⟨⟨_, s0⟩, ⟨_, s1⟩, ⟨_, s2⟩, ⟨_, s3⟩⟩ := hs
 have H : Own [[(a, _)], [(d, _)], [(x0, _)], [(x1, _)], [(x2, _)], [(x3, _)]] μ := H.eq
 refine fn_go (ns := ["self"]) k191 (by (conv => lhs; whnf)) (by (conv => lhs; whnf)) (by kernel_rfl) (rvs1 fun a => by kernel_rfl) rfl rfl rfl rfl rfl fun c hc KQ hKQ => ?_
 refine S_ret ?_
 refine T_new hc.scope hc.room rfl rfl ?_
 refine L_cons ?_
 refine T_attr ?_
 refine W_name hc.scope (by rfl) (by rfl) ?_
 refine ⟨_, _, _, _, _, _, rfl, by assumption, ⟨0, rfl⟩, ⟨1, rfl⟩, by rfl, by rfl, ?_⟩
 refine L_cons ?_
 refine T_attr ?_
 refine W_name hc.scope (by rfl) (by rfl) ?_
 refine ⟨_, _, _, _, _, _, rfl, by assumption, ⟨0, rfl⟩, ⟨1, rfl⟩, by rfl, by rfl, ?_⟩
 refine L_cons ?_
 refine T_attr ?_
 refine W_name hc.scope (by rfl) (by rfl) ?_
 refine ⟨_, _, _, _, _, _, rfl, by assumption, ⟨0, rfl⟩, ⟨1, rfl⟩, by rfl, by rfl, ?_⟩
 refine L_cons ?_
 refine T_attr ?_
 refine W_name hc.scope (by rfl) (by rfl) ?_
 refine ⟨_, _, _, _, _, _, rfl, by assumption, ⟨0, rfl⟩, ⟨1, rfl⟩, by rfl, by rfl, ?_⟩
 refine L_cons ?_
 refine T_attr ?_
 refine W_name hc.scope (by rfl) (by rfl) ?_
 refine ⟨_, _, _, _, _, _, rfl, by assumption, ⟨0, rfl⟩, ⟨1, rfl⟩, by rfl, by rfl, ?_⟩
 refine L_nil ?_
 refine ⟨_, by assumption, fun _ _ _ _ => ?_⟩
 refine conf_init_k (q0 := D.v) (q1 := D.l) (q2 := D.o) (q3 := D.n) (by exact le2 (by assumption) rfl) (by exact le2 (by assumption) rfl) (by exact le2 (by assumption) rfl) (by exact le2 (by assumption) rfl) (by rfl) (by assumption) (by exact .cons pz0 (.cons pz0 (.cons pz2 (.cons pz2 (.cons pz2 (.cons pz2 .nil)))))) fun E lb _ hE e0 e1 e2 e3 e4 H1 => ?_
 obtain rfl := CD.same hs' e0 e1 e2 e3 e4
 exact ⟨rfl, PostF.ret hKQ ⟨_, _, rfl, hE, (H1.sel (P := [lb, [(a, _)], [(d, _)], [(x0, _)], [(x1, _)], [(x2, _)], [(x3, _)]]) (by exact .cons pz0 (.cons pz4 (.cons pz4 (.cons pz0 (.cons pz0 (.cons pz0 (.cons pz0 .nil)))))))).eq⟩⟩
theorem config_copy {a : Addr} {D : CD} {l : List (Addr × O)} (hG : CG 365 a D l) (hs : D.Fit) {μ : Mu} (H : Own [l] μ) : Fn w 4 313 [.ref a] μ (fun v μ' => ∃ b lb, v = .ref b ∧ CG 365 b D lb ∧ Own [lb, l] μ') := by
 have hs' := hs
 obtain ⟨d, x0, x1, x2, x3, rfl⟩ := hG
 obtain ⟨⟨_, s0⟩, ⟨_, s1⟩, ⟨_, s2⟩, ⟨_, s3⟩⟩ := hs
 have H : Own [[(a, _)], [(d, _)], [(x0, _)], [(x1, _)], [(x2, _)], [(x3, _)]] μ := H.eq
 refine fn_go (ns := ["self"]) k313 (by (conv => lhs; whnf)) (by (conv => lhs; whnf)) (by kernel_rfl) (rvs1 fun a => by kernel_rfl) rfl rfl rfl rfl rfl fun c hc KQ hKQ => ?_
 refine S_ret ?_
 refine T_new hc.scope hc.room rfl rfl ?_
 refine L_cons ?_
 refine T_attr ?_
 refine W_name hc.scope (by rfl) (by rfl) ?_
 refine ⟨_, _, _, _, _, _, rfl, by assumption, ⟨0, rfl⟩, ⟨1, rfl⟩, by rfl, by rfl, ?_⟩
 refine L_cons ?_
 refine T_attr ?_
 refine W_name hc.scope (by rfl) (by rfl) ?_
 refine ⟨_, _, _, _, _, _, rfl, by assumption, ⟨0, rfl⟩, ⟨1, rfl⟩, by rfl, by rfl, ?_⟩
 refine L_cons ?_
 refine T_attr ?_
 refine W_name hc.scope (by rfl) (by rfl) ?_
 refine ⟨_, _, _, _, _, _, rfl, by assumption, ⟨0, rfl⟩, ⟨1, rfl⟩, by rfl, by rfl, ?_⟩
 refine L_cons ?_
 refine T_attr ?_
 refine W_name hc.scope (by rfl) (by rfl) ?_
 refine ⟨_, _, _, _, _, _, rfl, by assumption, ⟨0, rfl⟩, ⟨1, rfl⟩, by rfl, by rfl, ?_⟩
 refine L_cons ?_
 refine T_attr ?_
 refine W_name hc.scope (by rfl) (by rfl) ?_
 refine ⟨_, _, _, _, _, _, rfl, by assumption, ⟨0, rfl⟩, ⟨1, rfl⟩, by rfl, by rfl, ?_⟩
 refine L_nil ?_
 refine ⟨_, by assumption, fun _ _ _ _ => ?_⟩
 refine config_init_k (q0 := D.v) (q1 := D.o) (q2 := D.l) (q3 := D.n) (by exact le2 (by assumption) rfl) (by exact le2 (by assumption) rfl) (by exact le2 (by assumption) rfl) (by exact le2 (by assumption) rfl) (by rfl) (by assumption) (by exact .cons pz0 (.cons pz0 (.cons pz2 (.cons pz3 (.cons pz2 (.cons pz2 .nil)))))) fun E lb _ hE e0 e1 e2 e3 e4 H1 => ?_
 obtain rfl := CD.same hs' e0 e2 e1 e3 e4
 exact ⟨rfl, PostF.ret hKQ ⟨_, _, rfl, hE, (H1.sel (P := [lb, [(a, _)], [(d, _)], [(x0, _)], [(x1, _)], [(x2, _)], [(x3, _)]]) (by exact .cons pz0 (.cons pz4 (.cons pz4 (.cons pz0 (.cons pz1 (.cons pz0 (.cons pz0 .nil)))))))).eq⟩⟩
theorem conf_state {a : Addr} {D : CD} {l : List (Addr × O)} (hG : CG 365 a D l) (hs : D.Fit) {μ : Mu} (H : Own [l] μ) : Fn w 4 355 [.ref a] μ (fun v μ' => ∃ b lb, v = .ref b ∧ CG 194 b D lb ∧ Own [lb, l] μ') := by
 have hs' := hs
 obtain ⟨d, x0, x1, x2, x3, rfl⟩ := hG
 obtain ⟨⟨_, s0⟩, ⟨_, s1⟩, ⟨_, s2⟩, ⟨_, s3⟩⟩ := hs
 have H : Own [[(a, _)], [(d, _)], [(x0, _)], [(x1, _)], [(x2, _)], [(x3, _)]] μ := H.eq
 refine fn_go (ns := ["self"]) k355 (by (conv => lhs; whnf)) (by (conv => lhs; whnf)) (by kernel_rfl) (rvs1 fun a => by kernel_rfl) rfl rfl rfl rfl rfl fun c hc KQ hKQ => ?_
 refine S_ret ?_
 refine T_new hc.scope hc.room rfl rfl ?_
 refine L_cons ?_
 refine T_attr ?_
 refine W_name hc.scope (by rfl) (by rfl) ?_
 refine ⟨_, _, _, _, _, _, rfl, by assumption, ⟨0, rfl⟩, ⟨1, rfl⟩, by rfl, by rfl, ?_⟩
 refine L_cons ?_
 refine T_attr ?_
 refine W_name hc.scope (by rfl) (by rfl) ?_
 refine ⟨_, _, _, _, _, _, rfl, by assumption, ⟨0, rfl⟩, ⟨1, rfl⟩, by rfl, by rfl, ?_⟩
 refine L_cons ?_
 refine T_attr ?_
 refine W_name hc.scope (by rfl) (by rfl) ?_
 refine ⟨_, _, _, _, _, _, rfl, by assumption, ⟨0, rfl⟩, ⟨1, rfl⟩, by rfl, by rfl, ?_⟩
 refine L_cons ?_
 refine T_attr ?_
 refine W_name hc.scope (by rfl) (by rfl) ?_
 refine ⟨_, _, _, _, _, _, rfl, by assumption, ⟨0, rfl⟩, ⟨1, rfl⟩, by rfl, by rfl, ?_⟩
 refine L_cons ?_
 refine T_attr ?_
 refine W_name hc.scope (by rfl) (by rfl) ?_
 refine ⟨_, _, _, _, _, _, rfl, by assumption, ⟨0, rfl⟩, ⟨1, rfl⟩, by rfl, by rfl, ?_⟩
 refine L_nil ?_
 refine ⟨_, by assumption, fun _ _ _ _ => ?_⟩
 refine conf_init_k (q0 := D.v) (q1 := D.l) (q2 := D.o) (q3 := D.n) (by exact le2 (by assumption) rfl) (by exact le2 (by assumption) rfl) (by exact le2 (by assumption) rfl) (by exact le2 (by assumption) rfl) (by rfl) (by assumption) (by exact .cons pz0 (.cons pz0 (.cons pz2 (.cons pz2 (.cons pz2 (.cons pz2 .nil)))))) fun E lb _ hE e0 e1 e2 e3 e4 H1 => ?_
 obtain rfl := CD.same hs' e0 e1 e2 e3 e4
 exact ⟨rfl, PostF.ret hKQ ⟨_, _, rfl, hE, (H1.sel (P := [lb, [(a, _)], [(d, _)], [(x0, _)], [(x1, _)], [(x2, _)], [(x3, _)]]) (by exact .cons pz0 (.cons pz4 (.cons pz4 (.cons pz0 (.cons pz0 (.cons pz0 (.cons pz0 .nil)))))))).eq⟩⟩
theorem config_joint {a : Addr} {D : CD} {l : List (Addr × O)} (hG : CG 365 a D l) (hs : D.Fit) {μ : Mu} (H : Own [l] μ) : Fn w 1 320 [.ref a] μ (fun v μ' => v = .bool (decide (0 < D.o.length)) ∧ Own [l] μ') := by
 obtain ⟨d, x0, x1, x2, x3, rfl⟩ := hG
 obtain ⟨⟨_, s0⟩, ⟨_, s1⟩, ⟨_, s2⟩, ⟨_, s3⟩⟩ := hs
 have H : Own [[(a, _)], [(d, _)], [(x0, _)], [(x1, _)], [(x2, _)], [(x3, _)]] μ := H.eq
 refine fn_go (ns := ["self"]) k320 (by (conv => lhs; whnf)) (by (conv => lhs; whnf)) (by kernel_rfl) (rvs1 fun a => by kernel_rfl) rfl rfl rfl rfl rfl fun c hc KQ hKQ => ?_
 refine S_ret ?_
 refine W_cmp ?_
 refine O_len hc.scope ?_
 refine T_attr ?_
 refine W_name hc.scope (by rfl) (by rfl) ?_
 refine ⟨_, _, _, _, _, _, rfl, by assumption, ⟨0, rfl⟩, ⟨1, rfl⟩, by rfl, by rfl, ?_⟩
 refine ⟨_, _, _, rfl, by assumption, ⟨4, rfl⟩, by (simp; omega), ?_⟩
 refine W_int ?_
 refine cmp_gt ?_
 refine PostF.ret (by assumption) ?_
 exact ⟨by show V.bool _ = _; simp, by (refine Own.of_singles ?_; apply Own.sel; (· assumption); exact .cons pz0 (.cons pz0 (.cons pz0 (.cons pz0 (.cons pz0 (.cons pz0 .nil))))))⟩
theorem config_members {a : Addr} {D : CD} {l : List (Addr × O)} (hG : CG 365 a D l) (hs : D.Fit) (hw : D.v.length + D.o.length + D.l.length < 64) {μ : Mu} (H : Own [l] μ) : Fn w 4 334 [.ref a] μ (fun v μ' => ∃ r ys, v = .ref r ∧ (∀ z, z ∈ ys ↔ z ∈ D.v ∨ z ∈ D.o ∨ z ∈ D.l) ∧ Own [[(r, .list (List.map V.int ys))], l] μ') := by
 obtain ⟨d, x0, x1, x2, x3, rfl⟩ := hG
 obtain ⟨⟨_, s0⟩, ⟨_, s1⟩, ⟨_, s2⟩, ⟨_, s3⟩⟩ := hs
 have H : Own [[(a, _)], [(d, _)], [(x0, _)], [(x1, _)], [(x2, _)], [(x3, _)]] μ := H.eq
 refine fn_go (ns := ["self"]) k334 (by (conv => lhs; whnf)) (by (conv => lhs; whnf)) (by kernel_rfl) (rvs1 fun a => by kernel_rfl) rfl rfl rfl rfl rfl fun c hc KQ hKQ => ?_
 refine S_ret ?_
 refine T_fn hc.scope hc.room rfl rfl ?_
 refine L_cons ?_
 refine W_bin ?_
 refine W_bin ?_
 refine T_attr ?_
 refine W_name hc.scope (by rfl) (by rfl) ?_
 refine ⟨_, _, _, _, _, _, rfl, by assumption, ⟨0, rfl⟩, ⟨1, rfl⟩, by rfl, by rfl, ?_⟩
 refine T_attr ?_
 refine W_name hc.scope (by rfl) (by rfl) ?_
 refine ⟨_, _, _, _, _, _, rfl, by assumption, ⟨0, rfl⟩, ⟨1, rfl⟩, by rfl, by rfl, ?_⟩
 refine bin_cat (by assumption) ⟨2, rfl⟩ ⟨4, rfl⟩ (by (simp; omega)) (fun _ _ _ => ?_)
 refine T_attr ?_
 refine W_name hc.scope (by rfl) (by rfl) ?_
 refine ⟨_, _, _, _, _, _, rfl, by assumption, ⟨1, rfl⟩, ⟨2, rfl⟩, by rfl, by rfl, ?_⟩
 refine bin_cat (by assumption) ⟨0, rfl⟩ ⟨4, rfl⟩ (by (simp; omega)) (fun _ _ _ => ?_)
 refine L_nil ?_
 rename_i r1 m1 H1 r2 m2 H2
 rw [← List.map_append, ← List.map_append] at H2
 refine rising_fn_k (xs := D.v ++ D.o ++ D.l) (by simp only [List.length_append]; omega) (by rfl) H2 (by exact .cons pz0 .nil) fun r ys _ p m H3 => ?_
 refine PostF.ret hKQ ⟨r, ys, rfl, fun z => ?_, by (refine Own.of_singles ?_; apply Own.sel; (· assumption); exact .cons pz0 (.cons pz2 (.cons pz2 (.cons pz2 (.cons pz2 (.cons pz2 (.cons pz2 .nil)))))))⟩
 rw [m, List.mem_append, List.mem_append, or_assoc]

theorem hard_init {a d : Addr} {x y z : Int} {μ : Mu} (H : Own [[(a, .inst 159 d)], [(d, .dict [])]] μ) : Fn w 1 128 [.ref a, .int x, .int y, .int z] μ
  (fun v μ' => v = .none ∧ ∃ l, HG a ⟨x, y, z⟩ l ∧ Own [l] μ') := by
 refine fn_go (ns := ["self", "term", "vote", "commit"]) k128 (by (conv => lhs; whnf)) (by (conv => lhs; whnf)) (by kernel_rfl) (rvs4 fun a b c d => by kernel_rfl) rfl rfl rfl rfl rfl fun c hc KQ hKQ => ?_
 refine T_setattr ?_
 refine W_name hc.scope (by rfl) (by rfl) ?_
 refine W_name hc.scope (by rfl) (by rfl) ?_
 refine ⟨_, _, _, _, _, _, rfl, by assumption, ⟨0, rfl⟩, pz1, by rfl, by exact Nat.le_of_ble_eq_true rfl, fun _ _ => ?_⟩
 refine T_setattr ?_
 refine W_name hc.scope (by rfl) (by rfl) ?_
 refine W_name hc.scope (by rfl) (by rfl) ?_
 refine ⟨_, _, _, _, _, _, rfl, by assumption, ⟨1, rfl⟩, pz0, by rfl, by exact Nat.le_of_ble_eq_true rfl, fun _ _ => ?_⟩
 refine T_setattr ?_
 refine W_name hc.scope (by rfl) (by rfl) ?_
 refine W_name hc.scope (by rfl) (by rfl) ?_
 refine ⟨_, _, _, _, _, _, rfl, by assumption, ⟨1, rfl⟩, pz0, by rfl, by exact Nat.le_of_ble_eq_true rfl, fun _ _ => ?_⟩
 refine S_nil ?_
 refine PostF.next (by assumption) ?_
 exact ⟨rfl, _, ⟨d, rfl⟩, by (refine Own.of_singles ?_; apply Own.sel; (· assumption); exact .cons pz1 (.cons pz0 .nil))⟩
theorem entry_init {a d : Addr} {x y z : Int} {b : Array UInt8} {μ : Mu} (H : Own [[(a, .inst 110 d)], [(d, .dict [])]] μ) : Fn w 1 79 [.ref a, .int x, .int y, .int z, .bytes b] μ
  (fun v μ' => v = .none ∧ ∃ l, EG a ⟨x, y, z, b⟩ l ∧ Own [l] μ') := by
 refine fn_go (ns := ["self", "term", "index", "kind", "data"]) k79 (by (conv => lhs; whnf)) (by (conv => lhs; whnf)) (by kernel_rfl) (rvs5 fun a b c d e => by kernel_rfl) rfl rfl rfl rfl rfl fun c hc KQ hKQ => ?_
 refine T_setattr ?_
 refine W_name hc.scope (by rfl) (by rfl) ?_
 refine W_name hc.scope (by rfl) (by rfl) ?_
 refine ⟨_, _, _, _, _, _, rfl, by assumption, ⟨0, rfl⟩, pz1, by rfl, by exact Nat.le_of_ble_eq_true rfl, fun _ _ => ?_⟩
 refine T_setattr ?_
 refine W_name hc.scope (by rfl) (by rfl) ?_
 refine W_name hc.scope (by rfl) (by rfl) ?_
 refine ⟨_, _, _, _, _, _, rfl, by assumption, ⟨1, rfl⟩, pz0, by rfl, by exact Nat.le_of_ble_eq_true rfl, fun _ _ => ?_⟩
 refine T_setattr ?_
 refine W_name hc.scope (by rfl) (by rfl) ?_
 refine W_name hc.scope (by rfl) (by rfl) ?_
 refine ⟨_, _, _, _, _, _, rfl, by assumption, ⟨1, rfl⟩, pz0, by rfl, by exact Nat.le_of_ble_eq_true rfl, fun _ _ => ?_⟩
 refine T_setattr ?_
 refine W_name hc.scope (by rfl) (by rfl) ?_
 refine W_name hc.scope (by rfl) (by rfl) ?_
 refine ⟨_, _, _, _, _, _, rfl, by assumption, ⟨1, rfl⟩, pz0, by rfl, by exact Nat.le_of_ble_eq_true rfl, fun _ _ => ?_⟩
 refine S_nil ?_
 refine PostF.next (by assumption) ?_
 exact ⟨rfl, _, ⟨d, rfl⟩, by (refine Own.of_singles ?_; apply Own.sel; (· assumption); exact .cons pz1 (.cons pz0 .nil))⟩
theorem entry_init_k {a d : Addr} {x y z : Int} {b : Array UInt8} {r' : Nat} (hr : Nat.ble 1 r' = true) {L K : List (List (Addr × O))} {μ : Mu} (H : Own L μ) (p : Picks [[(a, .inst 110 d)], [(d, .dict [])]] L K) {Q : V → Mu → Prop} (k : ∀ l μ', EG a ⟨x, y, z, b⟩ l → Own (l :: K) μ' → Q .none μ') : Fn w r' 79 [.ref a, .int x, .int y, .int z, .bytes b] μ Q :=
 Fn.call (fun _ H => entry_init  H) hr H p fun v μ1 μ' h hF => by obtain ⟨rfl, l, h0', H1'⟩ := h; exact k l μ' h0' (hF _ H1')
theorem hard_tup {t : Addr} {D : HD} {n : Nat} : RdB (n + 1) (.ref t) D.row [(t, .tup [.int D.t, .int D.v, .int D.c])] :=
 RdL.tup (.head _) (.cons .int (.cons .int (.cons .int .nil)))
theorem entry_tup {t : Addr} {D : ED} {n : Nat} : RdB (n + 1) (.ref t) D.row [(t, .tup [.int D.t, .int D.i, .int D.k, .bytes D.d])] :=
 RdL.tup (.head _) (.cons .int (.cons .int (.cons .int (.cons .bytes .nil))))
theorem hard_row {a : Addr} {D : HD} {l : List (Addr × O)} (hG : HG a D l) {μ : Mu} (H : Own [l] μ) : Fn w 1 135 [.ref a] μ (fun v μ' => ∃ t, v = .ref t ∧ Own [[(t, .tup [.int D.t, .int D.v, .int D.c])], l] μ') := by
 obtain ⟨d, rfl⟩ := hG
 have H : Own [[(a, _)], [(d, _)]] μ := H.eq
 refine fn_go (ns := ["self"]) k135 (by (conv => lhs; whnf)) (by (conv => lhs; whnf)) (by kernel_rfl) (rvs1 fun a => by kernel_rfl) rfl rfl rfl rfl rfl fun c hc KQ hKQ => ?_
 refine S_ret ?_
 refine O_tuple ?_
 refine L_cons ?_
 refine T_attr ?_
 refine W_name hc.scope (by rfl) (by rfl) ?_
 refine ⟨_, _, _, _, _, _, rfl, by assumption, ⟨0, rfl⟩, ⟨1, rfl⟩, by rfl, by rfl, ?_⟩
 refine L_cons ?_
 refine T_attr ?_
 refine W_name hc.scope (by rfl) (by rfl) ?_
 refine ⟨_, _, _, _, _, _, rfl, by assumption, ⟨0, rfl⟩, ⟨1, rfl⟩, by rfl, by rfl, ?_⟩
 refine L_cons ?_
 refine T_attr ?_
 refine W_name hc.scope (by rfl) (by rfl) ?_
 refine ⟨_, _, _, _, _, _, rfl, by assumption, ⟨0, rfl⟩, ⟨1, rfl⟩, by rfl, by rfl, ?_⟩
 refine L_nil ?_
 refine ⟨_, by assumption, by exact Nat.le_of_ble_eq_true rfl, fun _ _ _ => ?_⟩
 refine PostF.ret (by assumption) ?_
 exact ⟨_, rfl, by (refine Own.of_singles ?_; apply Own.sel; (· assumption); exact .cons pz0 (.cons pz0 (.cons pz0 .nil)))⟩
theorem hard_row_k {a : Addr} {D : HD} {l : List (Addr × O)} (hG : HG a D l) {r' : Nat} (hr : Nat.ble 1 r' = true) {L K : List (List (Addr × O))} {μ : Mu} (H : Own L μ) (p : Picks [l] L K) {Q : V → Mu → Prop} (k : ∀ t μ', Own ([(t, .tup [.int D.t, .int D.v, .int D.c])] :: l :: K) μ' → Q (.ref t) μ') : Fn w r' 135 [.ref a] μ Q :=
 Fn.call (fun _ H => hard_row hG H) hr H p fun v μ1 μ' h hF => by obtain ⟨t, rfl, H1'⟩ := h; exact k t μ' (hF _ H1')
theorem entry_row {a : Addr} {D : ED} {l : List (Addr × O)} (hG : EG a D l) {μ : Mu} (H : Own [l] μ) : Fn w 1 86 [.ref a] μ (fun v μ' => ∃ t, v = .ref t ∧ Own [[(t, .tup [.int D.t, .int D.i, .int D.k, .bytes D.d])], l] μ') := by
 obtain ⟨d, rfl⟩ := hG
 have H : Own [[(a, _)], [(d, _)]] μ := H.eq
 refine fn_go (ns := ["self"]) k86 (by (conv => lhs; whnf)) (by (conv => lhs; whnf)) (by kernel_rfl) (rvs1 fun a => by kernel_rfl) rfl rfl rfl rfl rfl fun c hc KQ hKQ => ?_
 refine S_ret ?_
 refine O_tuple ?_
 refine L_cons ?_
 refine T_attr ?_
 refine W_name hc.scope (by rfl) (by rfl) ?_
 refine ⟨_, _, _, _, _, _, rfl, by assumption, ⟨0, rfl⟩, ⟨1, rfl⟩, by rfl, by rfl, ?_⟩
 refine L_cons ?_
 refine T_attr ?_
 refine W_name hc.scope (by rfl) (by rfl) ?_
 refine ⟨_, _, _, _, _, _, rfl, by assumption, ⟨0, rfl⟩, ⟨1, rfl⟩, by rfl, by rfl, ?_⟩
 refine L_cons ?_
 refine T_attr ?_
 refine W_name hc.scope (by rfl) (by rfl) ?_
 refine ⟨_, _, _, _, _, _, rfl, by assumption, ⟨0, rfl⟩, ⟨1, rfl⟩, by rfl, by rfl, ?_⟩
 refine L_cons ?_
 refine T_attr ?_
 refine W_name hc.scope (by rfl) (by rfl) ?_
 refine ⟨_, _, _, _, _, _, rfl, by assumption, ⟨0, rfl⟩, ⟨1, rfl⟩, by rfl, by rfl, ?_⟩
 refine L_nil ?_
 refine ⟨_, by assumption, by exact Nat.le_of_ble_eq_true rfl, fun _ _ _ => ?_⟩
 refine PostF.ret (by assumption) ?_
 exact ⟨_, rfl, by (refine Own.of_singles ?_; apply Own.sel; (· assumption); exact .cons pz0 (.cons pz0 (.cons pz0 .nil)))⟩
theorem hard_copy {a : Addr} {D : HD} {l : List (Addr × O)} (hG : HG a D l) {μ : Mu} (H : Own [l] μ) : Fn w 3 156 [.ref a] μ (fun v μ' => ∃ b lb, v = .ref b ∧ HG b D lb ∧ Own [lb, l] μ') := by
 obtain ⟨d, rfl⟩ := hG
 have H : Own [[(a, _)], [(d, _)]] μ := H.eq
 refine fn_go (ns := ["self"]) k156 (by (conv => lhs; whnf)) (by (conv => lhs; whnf)) (by kernel_rfl) (rvs1 fun a => by kernel_rfl) rfl rfl rfl rfl rfl fun c hc KQ hKQ => ?_
 refine S_ret ?_
 refine T_new hc.scope hc.room rfl rfl ?_
 refine L_cons ?_
 refine T_attr ?_
 refine W_name hc.scope (by rfl) (by rfl) ?_
 refine ⟨_, _, _, _, _, _, rfl, by assumption, ⟨0, rfl⟩, ⟨1, rfl⟩, by rfl, by rfl, ?_⟩
 refine L_cons ?_
 refine T_attr ?_
 refine W_name hc.scope (by rfl) (by rfl) ?_
 refine ⟨_, _, _, _, _, _, rfl, by assumption, ⟨0, rfl⟩, ⟨1, rfl⟩, by rfl, by rfl, ?_⟩
 refine L_cons ?_
 refine T_attr ?_
 refine W_name hc.scope (by rfl) (by rfl) ?_
 refine ⟨_, _, _, _, _, _, rfl, by assumption, ⟨0, rfl⟩, ⟨1, rfl⟩, by rfl, by rfl, ?_⟩
 refine L_nil ?_
 refine ⟨_, by assumption, fun _ _ _ _ => ?_⟩
 refine Fn.call (fun _ H => hard_init H) (by rfl) (by assumption) (by exact .cons pz0 (.cons pz0 .nil)) ?_
 rintro _ _ _ ⟨rfl, lb, hE, H1⟩ hF
 have H1 := hF.b1 H1
 exact ⟨rfl, PostF.ret hKQ ⟨_, _, rfl, hE, (H1.sel (P := [lb, [(a, _)], [(d, _)]]) (by exact .cons pz0 (.cons pz0 (.cons pz0 .nil)))).eq⟩⟩
theorem entry_copy {a : Addr} {D : ED} {l : List (Addr × O)} (hG : EG a D l) {μ : Mu} (H : Own [l] μ) : Fn w 3 93 [.ref a] μ (fun v μ' => ∃ b lb, v = .ref b ∧ EG b D lb ∧ Own [lb, l] μ') := by
 obtain ⟨d, rfl⟩ := hG
 have H : Own [[(a, _)], [(d, _)]] μ := H.eq
 refine fn_go (ns := ["self"]) k93 (by (conv => lhs; whnf)) (by (conv => lhs; whnf)) (by kernel_rfl) (rvs1 fun a => by kernel_rfl) rfl rfl rfl rfl rfl fun c hc KQ hKQ => ?_
 refine S_ret ?_
 refine T_new hc.scope hc.room rfl rfl ?_
 refine L_cons ?_
 refine T_attr ?_
 refine W_name hc.scope (by rfl) (by rfl) ?_
 refine ⟨_, _, _, _, _, _, rfl, by assumption, ⟨0, rfl⟩, ⟨1, rfl⟩, by rfl, by rfl, ?_⟩
 refine L_cons ?_
 refine T_attr ?_
 refine W_name hc.scope (by rfl) (by rfl) ?_
 refine ⟨_, _, _, _, _, _, rfl, by assumption, ⟨0, rfl⟩, ⟨1, rfl⟩, by rfl, by rfl, ?_⟩
 refine L_cons ?_
 refine T_attr ?_
 refine W_name hc.scope (by rfl) (by rfl) ?_
 refine ⟨_, _, _, _, _, _, rfl, by assumption, ⟨0, rfl⟩, ⟨1, rfl⟩, by rfl, by rfl, ?_⟩
 refine L_cons ?_
 refine T_attr ?_
 refine W_name hc.scope (by rfl) (by rfl) ?_
 refine ⟨_, _, _, _, _, _, rfl, by assumption, ⟨0, rfl⟩, ⟨1, rfl⟩, by rfl, by rfl, ?_⟩
 refine L_nil ?_
 refine ⟨_, by assumption, fun _ _ _ _ => ?_⟩
 refine entry_init_k (by rfl) (by assumption) (by exact .cons pz0 (.cons pz0 .nil)) fun lb _ hE H1 => ?_
 exact ⟨rfl, PostF.ret hKQ ⟨_, _, rfl, hE, (H1.sel (P := [lb, [(a, _)], [(d, _)]]) (by exact .cons pz0 (.cons pz0 (.cons pz0 .nil)))).eq⟩⟩
noncomputable def HD.same (D E : HD) : Bool := decide ([D.t, D.v, D.c] = [E.t, E.v, E.c])
theorem hard_same {a b : Addr} {D E : HD} {l l' : List (Addr × O)} (hG : HG a D l) (hG' : HG b E l') {μ : Mu} (H0 : Own [l, l'] μ) : Fn w 3 149 [.ref a, .ref b] μ (fun v μ' => v = .bool (D.same E) ∧ Own [l, l'] μ') := by
 have h1 := hG; have h2 := hG'
 obtain ⟨d, rfl⟩ := hG
 obtain ⟨e, rfl⟩ := hG'
 have H : Own [[(a, _)], [(d, _)], [(b, _)], [(e, _)]] μ := H0.eq
 refine fn_go (ns := ["self", "other"]) k149 (by (conv => lhs; whnf)) (by (conv => lhs; whnf)) (by kernel_rfl) (rvs2 fun a b => by kernel_rfl) rfl rfl rfl rfl rfl fun c hc KQ hKQ => ?_
 refine S_ret ?_
 refine W_cmp ?_
 refine T_meth hc.room ?_
 refine W_name hc.scope (by rfl) (by rfl) ?_
 refine ⟨_, _, _, _, _, rfl, by assumption, ⟨0, rfl⟩, ⟨1, rfl⟩, by rfl, by rfl, ?_⟩
 refine L_nil ?_
 refine hard_row_k h1 (by rfl) H0 (by exact .cons pz0 .nil) fun t μ2 H1 => ?_
 have H2 : Own [[(t, _)], [(a, _)], [(d, _)], [(b, _)], [(e, _)]] μ2 := H1.eq
 refine T_meth hc.room ?_
 refine W_name hc.scope (by rfl) (by rfl) ?_
 refine ⟨_, _, _, _, _, rfl, by assumption, ⟨3, rfl⟩, ⟨4, rfl⟩, by rfl, by rfl, ?_⟩
 refine L_nil ?_
 refine hard_row_k h2 (by rfl) H1 (by exact .cons pz2 .nil) fun u μ3 H3 => ?_
 refine .eqr ⟨_, EqV.tups (xs := [D.t, D.v, D.c]) (ys := [E.t, E.v, E.c]) (H3.get (.tail (.tail .head))) (H3.get .head), PostF.ret hKQ ⟨rfl, by (apply Own.sel; (· assumption); exact .cons pz3 (.cons pz1 .nil))⟩⟩
theorem hard_same1 {a : Addr} {D : HD} {l : List (Addr × O)} (hG : HG a D l) {μ : Mu} (H0 : Own [l] μ) : Fn w 3 149 [.ref a, .ref a] μ (fun v μ' => v = .bool (D.same D) ∧ Own [l] μ') := by
 have h1 := hG
 obtain ⟨d, rfl⟩ := hG
 have H : Own [[(a, _)], [(d, _)]] μ := H0.eq
 refine fn_go (ns := ["self", "other"]) k149 (by (conv => lhs; whnf)) (by (conv => lhs; whnf)) (by kernel_rfl) (rvs2 fun a b => by kernel_rfl) rfl rfl rfl rfl rfl fun c hc KQ hKQ => ?_
 refine S_ret ?_
 refine W_cmp ?_
 refine T_meth hc.room ?_
 refine W_name hc.scope (by rfl) (by rfl) ?_
 refine ⟨_, _, _, _, _, rfl, by assumption, ⟨0, rfl⟩, ⟨1, rfl⟩, by rfl, by rfl, ?_⟩
 refine L_nil ?_
 refine hard_row_k h1 (by rfl) H0 (by exact .cons pz0 .nil) fun t μ2 H1 => ?_
 have H2 : Own [[(t, _)], [(a, _)], [(d, _)]] μ2 := H1.eq
 refine T_meth hc.room ?_
 refine W_name hc.scope (by rfl) (by rfl) ?_
 refine ⟨_, _, _, _, _, rfl, by assumption, ⟨1, rfl⟩, ⟨2, rfl⟩, by rfl, by rfl, ?_⟩
 refine L_nil ?_
 refine hard_row_k h1 (by rfl) H1 (by exact .cons pz1 .nil) fun u μ3 H3 => ?_
 refine .eqr ⟨_, EqV.tups (xs := [D.t, D.v, D.c]) (ys := [D.t, D.v, D.c]) (H3.get (.tail (.tail .head))) (H3.get .head), PostF.ret hKQ ⟨rfl, by (apply Own.sel; (· assumption); exact .cons pz1 .nil)⟩⟩
theorem snap_init {a d b : Addr} {x y : Int} {D : CD} {lc : List (Addr × O)} {dt : Array UInt8} (hG : CG 194 b D lc) {μ : Mu} (H : Own [[(a, .inst 236 d)], [(d, .dict [])], lc] μ) : Fn w 1 212 [.ref a, .int x, .int y, .ref b, .bytes dt] μ
  (fun v μ' => v = .none ∧ ∃ l, SG a ⟨x, y, D, dt⟩ l ∧ Own [l] μ') := by
 refine fn_go (ns := ["self", "index", "term", "conf", "data"]) k212 (by (conv => lhs; whnf)) (by (conv => lhs; whnf)) (by kernel_rfl) (rvs5 fun a b c d e => by kernel_rfl) rfl rfl rfl rfl rfl fun c hc KQ hKQ => ?_
 refine T_setattr ?_
 refine W_name hc.scope (by rfl) (by rfl) ?_
 refine W_name hc.scope (by rfl) (by rfl) ?_
 refine ⟨_, _, _, _, _, _, rfl, by assumption, ⟨0, rfl⟩, pz1, by rfl, by exact Nat.le_of_ble_eq_true rfl, fun _ _ => ?_⟩
 refine T_setattr ?_
 refine W_name hc.scope (by rfl) (by rfl) ?_
 refine W_name hc.scope (by rfl) (by rfl) ?_
 refine ⟨_, _, _, _, _, _, rfl, by assumption, ⟨1, rfl⟩, pz0, by rfl, by exact Nat.le_of_ble_eq_true rfl, fun _ _ => ?_⟩
 refine T_setattr ?_
 refine W_name hc.scope (by rfl) (by rfl) ?_
 refine W_name hc.scope (by rfl) (by rfl) ?_
 refine ⟨_, _, _, _, _, _, rfl, by assumption, ⟨1, rfl⟩, pz0, by rfl, by exact Nat.le_of_ble_eq_true rfl, fun _ _ => ?_⟩
 refine T_setattr ?_
 refine W_name hc.scope (by rfl) (by rfl) ?_
 refine W_name hc.scope (by rfl) (by rfl) ?_
 refine ⟨_, _, _, _, _, _, rfl, by assumption, ⟨1, rfl⟩, pz0, by rfl, by exact Nat.le_of_ble_eq_true rfl, fun _ _ => ?_⟩
 refine S_nil ?_
 refine PostF.next (by assumption) ?_
 exact ⟨rfl, _, ⟨d, b, lc, hG, rfl⟩, Own.cons2 (by (apply Own.sel; (· assumption); exact .cons pz1 (.cons pz0 (.cons pz0 .nil))))⟩
theorem snap_init_k {a d b : Addr} {x y : Int} {D : CD} {lc : List (Addr × O)} {dt : Array UInt8} (hG : CG 194 b D lc) {r' : Nat} (hr : Nat.ble 1 r' = true) {L K : List (List (Addr × O))} {μ : Mu} (H : Own L μ) (p : Picks [[(a, .inst 236 d)], [(d, .dict [])], lc] L K) {Q : V → Mu → Prop} (k : ∀ l μ', SG a ⟨x, y, D, dt⟩ l → Own (l :: K) μ' → Q .none μ') : Fn w r' 212 [.ref a, .int x, .int y, .ref b, .bytes dt] μ Q :=
 Fn.call (fun _ H => snap_init hG H) hr H p fun v μ1 μ' h hF => by obtain ⟨rfl, l, h0', H1'⟩ := h; exact k l μ' h0' (hF _ H1')
theorem snap_tup {t : Addr} {r : V} {x y : Int} {dt : Array UInt8} {D : CD} {l lr : List (Addr × O)} {n : Nat} (hr : RdB (n + 2) r D.row0 lr) (h : ∀ p ∈ (t, O.tup [.int x, .int y, r, .bytes dt]) :: lr, p ∈ l) : RdB (n + 3) (.ref t) (SD.row ⟨x, y, D, dt⟩) l :=
 RdL.tup (h _ (.head _)) (.cons .int (.cons .int (.cons (hr.more fun p hp => h p (.tail _ hp)) (.cons .bytes .nil))))
theorem snap_row {a : Addr} {D : SD} {l : List (Addr × O)} (hG : SG a D l) (hs : D.c.Fit) {μ : Mu} (H0 : Own [l] μ) : Fn w 2 219 [.ref a] μ (fun v μ' => ∃ lr, RdB 3 v D.row lr ∧ Own [lr, l] μ') := by
 obtain ⟨d, b, lc, hC, rfl⟩ := hG
 have H : Own [[(a, _)], [(d, _)], lc] μ := H0.uncons2
 have hC' := hC
 obtain ⟨d', x0, x1, x2, x3, rfl⟩ := hC'
 have H2 : Own [[(a, _)], [(d, _)], [(b, _)], [(d', _)], [(x0, _)], [(x1, _)], [(x2, _)], [(x3, _)]] μ := H.eq
 refine fn_go (ns := ["self"]) k219 (by (conv => lhs; whnf)) (by (conv => lhs; whnf)) (by kernel_rfl) (rvs1 fun a => by kernel_rfl) rfl rfl rfl rfl rfl fun c hc KQ hKQ => ?_
 refine S_ret ?_
 refine O_tuple ?_
 refine L_cons ?_
 refine T_attr ?_
 refine W_name hc.scope (by rfl) (by rfl) ?_
 refine ⟨_, _, _, _, _, _, rfl, by assumption, ⟨0, rfl⟩, ⟨1, rfl⟩, by rfl, by rfl, ?_⟩
 refine L_cons ?_
 refine T_attr ?_
 refine W_name hc.scope (by rfl) (by rfl) ?_
 refine ⟨_, _, _, _, _, _, rfl, by assumption, ⟨0, rfl⟩, ⟨1, rfl⟩, by rfl, by rfl, ?_⟩
 refine L_cons ?_
 refine T_meth hc.room ?_
 refine T_attr ?_
 refine W_name hc.scope (by rfl) (by rfl) ?_
 refine ⟨_, _, _, _, _, _, rfl, by assumption, ⟨0, rfl⟩, ⟨1, rfl⟩, by rfl, by rfl, ?_⟩
 refine ⟨_, _, _, _, _, rfl, by assumption, ⟨2, rfl⟩, ⟨3, rfl⟩, by rfl, by rfl, ?_⟩
 refine L_nil ?_
 refine Fn.call (fun _ H => conf_row hC hs H) (by rfl) H (by exact .cons pz2 .nil) ?_
 rintro v _ μ2 ⟨lr, hr, H1⟩ hF
 have H1 := hF.b2 H1
 refine L_cons ?_
 refine T_attr ?_
 refine W_name hc.scope (by rfl) (by rfl) ?_
 refine ⟨_, _, _, _, _, _, rfl, by assumption, ⟨2, rfl⟩, ⟨3, rfl⟩, by rfl, by rfl, ?_⟩
 refine L_nil ?_
 refine ⟨_, by assumption, by exact Nat.le_of_ble_eq_true rfl, fun _ _ _ => ?_⟩
 refine PostF.ret (by assumption) ?_
 rename_i t μ3 H3
 exact ⟨_, snap_tup hr (fun _ h => h), H3.fin (P := [[(t, _)], lr, [(a, _)], [(d, _)], _]) (by exact .cons pz0 (.cons pz0 (.cons pz1 (.cons pz1 (.cons pz0 .nil))))) (by simp)⟩
theorem snap_copy {a : Addr} {D : SD} {l : List (Addr × O)} (hG : SG a D l) (hs : D.c.Fit) {μ : Mu} (H0 : Own [l] μ) : Fn w 6 233 [.ref a] μ (fun v μ' => ∃ b lb, v = .ref b ∧ SG b D lb ∧ Own [lb, l] μ') := by
 obtain ⟨d, b, lc, hC, rfl⟩ := hG
 have H : Own [[(a, _)], [(d, _)], lc] μ := H0.uncons2
 have hC' := hC
 obtain ⟨d', x0, x1, x2, x3, rfl⟩ := hC'
 have H2 : Own [[(a, _)], [(d, _)], [(b, _)], [(d', _)], [(x0, _)], [(x1, _)], [(x2, _)], [(x3, _)]] μ := H.eq
 refine fn_go (ns := ["self"]) k233 (by (conv => lhs; whnf)) (by (conv => lhs; whnf)) (by kernel_rfl) (rvs1 fun a => by kernel_rfl) rfl rfl rfl rfl rfl fun c hc KQ hKQ => ?_
 refine S_ret ?_
 refine T_new hc.scope hc.room rfl rfl ?_
 refine L_cons ?_
 refine T_attr ?_
 refine W_name hc.scope (by rfl) (by rfl) ?_
 refine ⟨_, _, _, _, _, _, rfl, by assumption, ⟨0, rfl⟩, ⟨1, rfl⟩, by rfl, by rfl, ?_⟩
 refine L_cons ?_
 refine T_attr ?_
 refine W_name hc.scope (by rfl) (by rfl) ?_
 refine ⟨_, _, _, _, _, _, rfl, by assumption, ⟨0, rfl⟩, ⟨1, rfl⟩, by rfl, by rfl, ?_⟩
 refine L_cons ?_
 refine T_meth hc.room ?_
 refine T_attr ?_
 refine W_name hc.scope (by rfl) (by rfl) ?_
 refine ⟨_, _, _, _, _, _, rfl, by assumption, ⟨0, rfl⟩, ⟨1, rfl⟩, by rfl, by rfl, ?_⟩
 refine ⟨_, _, _, _, _, rfl, by assumption, ⟨2, rfl⟩, ⟨3, rfl⟩, by rfl, by rfl, ?_⟩
 refine L_nil ?_
 refine Fn.call (fun _ H => conf_copy hC hs H) (by rfl) H (by exact .cons pz2 .nil) ?_
 rintro v _ μ2 ⟨e, le, rfl, hE, H1⟩ hF
 have H1 := hF.b2 H1
 refine L_cons ?_
 refine T_attr ?_
 refine W_name hc.scope (by rfl) (by rfl) ?_
 refine ⟨_, _, _, _, _, _, rfl, by assumption, ⟨2, rfl⟩, ⟨3, rfl⟩, by rfl, by rfl, ?_⟩
 refine L_nil ?_
 refine ⟨_, by assumption, fun _ _ _ _ => ?_⟩
 refine snap_init_k hE (by rfl) (by assumption) (by exact .cons pz0 (.cons pz0 (.cons pz0 .nil))) fun lb μ4 hB H4 => ?_
 exact ⟨rfl, PostF.ret hKQ ⟨_, lb, rfl, hB, H4.fin (P := [lb, [(a, _)], [(d, _)], _]) (by exact .cons pz0 (.cons pz1 (.cons pz1 (.cons pz0 .nil)))) (by simp)⟩⟩
noncomputable def MD.new (k t f r : Int) : MD := ⟨k, t, f, r, 0, 0, 0, 0, false, [], none, #[]⟩
theorem msg_init {a d : Addr} {x y z u : Int} {μ : Mu} (H : Own [[(a, .inst 267 d)], [(d, .dict [])]] μ) : Fn w 1 254 [.ref a, .int x, .int y, .int z, .int u] μ
  (fun v μ' => v = .none ∧ ∃ e, Own [[(a, .inst 267 d)], [(d, .dict (mfs (MD.new x y z u) e .none))], [(e, .list [])]] μ') := by
 refine fn_go (ns := ["self", "kind", "to", "frm", "term"]) k254 (by (conv => lhs; whnf)) (by (conv => lhs; whnf)) (by kernel_rfl) (rvs5 fun a b c d e => by kernel_rfl) rfl rfl rfl rfl rfl fun c hc KQ hKQ => ?_
 refine T_setattr ?_
 refine W_name hc.scope (by rfl) (by rfl) ?_
 refine W_name hc.scope (by rfl) (by rfl) ?_
 refine ⟨_, _, _, _, _, _, rfl, by assumption, ⟨0, rfl⟩, pz1, by rfl, by exact Nat.le_of_ble_eq_true rfl, fun _ _ => ?_⟩
 refine T_setattr ?_
 refine W_name hc.scope (by rfl) (by rfl) ?_
 refine W_name hc.scope (by rfl) (by rfl) ?_
 refine ⟨_, _, _, _, _, _, rfl, by assumption, ⟨1, rfl⟩, pz0, by rfl, by exact Nat.le_of_ble_eq_true rfl, fun _ _ => ?_⟩
 refine T_setattr ?_
 refine W_name hc.scope (by rfl) (by rfl) ?_
 refine W_name hc.scope (by rfl) (by rfl) ?_
 refine ⟨_, _, _, _, _, _, rfl, by assumption, ⟨1, rfl⟩, pz0, by rfl, by exact Nat.le_of_ble_eq_true rfl, fun _ _ => ?_⟩
 refine T_setattr ?_
 refine W_name hc.scope (by rfl) (by rfl) ?_
 refine W_name hc.scope (by rfl) (by rfl) ?_
 refine ⟨_, _, _, _, _, _, rfl, by assumption, ⟨1, rfl⟩, pz0, by rfl, by exact Nat.le_of_ble_eq_true rfl, fun _ _ => ?_⟩
 refine T_setattr ?_
 refine W_int ?_
 refine W_name hc.scope (by rfl) (by rfl) ?_
 refine ⟨_, _, _, _, _, _, rfl, by assumption, ⟨1, rfl⟩, pz0, by rfl, by exact Nat.le_of_ble_eq_true rfl, fun _ _ => ?_⟩
 refine T_setattr ?_
 refine W_int ?_
 refine W_name hc.scope (by rfl) (by rfl) ?_
 refine ⟨_, _, _, _, _, _, rfl, by assumption, ⟨1, rfl⟩, pz0, by rfl, by exact Nat.le_of_ble_eq_true rfl, fun _ _ => ?_⟩
 refine T_setattr ?_
 refine O_list ?_
 refine L_nil ?_
 refine ⟨_, by assumption, by exact Nat.le_of_ble_eq_true rfl, fun _ _ _ => ?_⟩
 refine W_name hc.scope (by rfl) (by rfl) ?_
 refine ⟨_, _, _, _, _, _, rfl, by assumption, ⟨2, rfl⟩, pz1, by rfl, by exact Nat.le_of_ble_eq_true rfl, fun _ _ => ?_⟩
 refine T_setattr ?_
 refine W_int ?_
 refine W_name hc.scope (by rfl) (by rfl) ?_
 refine ⟨_, _, _, _, _, _, rfl, by assumption, ⟨2, rfl⟩, pz0, by rfl, by exact Nat.le_of_ble_eq_true rfl, fun _ _ => ?_⟩
 refine T_setattr ?_
 refine W_none ?_
 refine W_name hc.scope (by rfl) (by rfl) ?_
 refine ⟨_, _, _, _, _, _, rfl, by assumption, ⟨2, rfl⟩, pz0, by rfl, by exact Nat.le_of_ble_eq_true rfl, fun _ _ => ?_⟩
 refine T_setattr ?_
 refine W_bool ?_
 refine W_name hc.scope (by rfl) (by rfl) ?_
 refine ⟨_, _, _, _, _, _, rfl, by assumption, ⟨2, rfl⟩, pz0, by rfl, by exact Nat.le_of_ble_eq_true rfl, fun _ _ => ?_⟩
 refine T_setattr ?_
 refine W_int ?_
 refine W_name hc.scope (by rfl) (by rfl) ?_
 refine ⟨_, _, _, _, _, _, rfl, by assumption, ⟨2, rfl⟩, pz0, by rfl, by exact Nat.le_of_ble_eq_true rfl, fun _ _ => ?_⟩
 refine T_setattr ?_
 refine W_bytes ?_
 refine W_name hc.scope (by rfl) (by rfl) ?_
 refine ⟨_, _, _, _, _, _, rfl, by assumption, ⟨2, rfl⟩, pz0, by rfl, by exact Nat.le_of_ble_eq_true rfl, fun _ _ => ?_⟩
 refine S_nil ?_
 refine PostF.next (by assumption) ?_
 exact ⟨rfl, _, by (apply Own.sel; (· assumption); exact .cons pz2 (.cons pz0 (.cons pz0 .nil)))⟩
theorem msg_init_k {a d : Addr} {x y z u : Int} {r' : Nat} (hr : Nat.ble 1 r' = true) {L K : List (List (Addr × O))} {μ : Mu} (H : Own L μ) (p : Picks [[(a, .inst 267 d)], [(d, .dict [])]] L K) {Q : V → Mu → Prop} (k : ∀ e μ', Own ([(a, .inst 267 d)] :: [(d, .dict (mfs (MD.new x y z u) e .none))] :: [(e, .list [])] :: K) μ' → Q .none μ') : Fn w r' 254 [.ref a, .int x, .int y, .int z, .int u] μ Q :=
 Fn.call (fun _ H => msg_init  H) hr H p fun v μ1 μ' h hF => by obtain ⟨rfl, e, H1'⟩ := h; exact k e μ' (hF _ H1')
noncomputable def ER (t : Addr) (D : ED) (l : List (Addr × O)) : Prop := l = [(t, .tup [.int D.t, .int D.i, .int D.k, .bytes D.d])]
theorem entries_rd {ts : List Addr} {es : List ED} {rs : List (List (Addr × O))} (h : Alls ER ts es rs) {t : Addr} {n : Nat} : RdB (n + 2) (.ref t) (.tup (es.map ED.row)) ((t, .tup (ts.map .ref)) :: rs.flatten) := by
 refine RdB.tup (by rw [List.length_map, List.length_map, h.length.1]) (.head _) fun i v d e1 e2 => ?_
 rw [List.getElem?_map] at e1 e2
 cases q : es[i]? with
 | none => rw [q] at e2; cases e2
 | some D =>
  obtain ⟨b, l, h1, h2, h3⟩ := h.get q
  rw [h1] at e1; rw [q] at e2
  cases e1; cases e2
  subst h3
  exact entry_tup.more fun p hp => .tail _ (List.mem_flatten.mpr ⟨_, List.mem_of_getElem? h2, hp⟩)
theorem msg_tup {t te : Addr} {v : V} {D : MD} {n : Nat} {le lv l : List (Addr × O)} (he : RdB (n + 3) (.ref te) (.tup (D.es.map ED.row)) le) (hv : RdB (n + 3) v (shotRow D.shot) lv)
  (h : ∀ p ∈ (t, O.tup [.int D.n0, .int D.n1, .int D.n2, .int D.n3, .int D.n4, .int D.n5, .ref te, .int D.n6, v, .bool D.rej, .int D.n7, .bytes D.ctx]) :: (le ++ lv), p ∈ l) : RdB (n + 4) (.ref t) D.row l :=
 RdL.tup (h _ (.head _)) (.cons .int (.cons .int (.cons .int (.cons .int (.cons .int (.cons .int (.cons (he.more fun p hp => h p (.tail _ (List.mem_append_left _ hp))) (.cons .int (.cons (hv.more fun p hp => h p (.tail _ (List.mem_append_right _ hp))) (.cons .bool (.cons .int (.cons .bytes .nil))))))))))))
noncomputable def MD.Fit (D : MD) : Prop := D.es.length < 1000 ∧ ∀ s, D.shot = some s → s.c.Fit
theorem msg_row {a : Addr} {D : MD} {l : List (Addr × O)} (hG : MG a D l) (hs : D.Fit) {μ : Mu} (H0 : Own [l] μ) : Fn w 4 259 [.ref a] μ (fun v μ' => ∃ lr, RdB 4 v D.row lr ∧ Own [lr, l] μ') := by
 obtain ⟨d, e, as, ls, v, lv, hE, hV, rfl⟩ := hG
 have H : Own [[(a, _)], [(d, _)], [(e, _)], ls.flatten, lv] μ := H0.un5
 refine fn_go (ns := ["self"]) k259 (by (conv => lhs; whnf)) (by (conv => lhs; whnf)) (by kernel_rfl) (rvs1 fun a => by kernel_rfl) rfl rfl rfl rfl rfl fun c hc KQ hKQ => ?_
 refine S_assign hc.scope hc.celled (by rfl) ?_
 refine O_tupleOf hc.scope ?_
 refine O_map (R := ER) (e := e) (by exact hc.scope) (by exact hc.celled) hc.own hc.room (by rfl) hE (by have := hs.1; omega) ?_ ?_
 rotate_left
 ·intro c' hc' b x l μ1 K' hP _ H1
  have hP' := hP
  obtain ⟨d', rfl⟩ := hP'
  have H2 : Own ([(b, _)] :: [(d', _)] :: K') μ1 := H1.eq
  refine T_meth hc'.room ?_
  refine W_name hc'.scope (by rfl) (by rfl) ?_
  refine ⟨_, _, _, _, _, rfl, by assumption, ⟨0, rfl⟩, ⟨1, rfl⟩, by rfl, by rfl, ?_⟩
  refine L_nil ?_
  refine Fn.call (fun _ H => entry_row hP H) (by rfl) H1 (.cons .head .nil) ?_
  rintro _ _ μ3 ⟨t, rfl, H3⟩ hF
  exact ⟨t, _, rfl, rfl, hF.b2 H3⟩
 ·refine T_attr ?_
  refine W_name hc.scope (by rfl) (by rfl) ?_
  refine ⟨_, _, _, _, _, _, rfl, by assumption, ⟨0, rfl⟩, ⟨1, rfl⟩, by rfl, by rfl, ?_⟩
  refine ⟨_, rfl, H.pk2 (by exact pz2) (by exact pz2), fun D' bs rs μ2 hR H2 => ?_⟩
  have hbl : bs.length < 1000 := by rw [hR.length.1]; exact hs.1
  refine ⟨_, _, _, rfl, by assumption, ⟨0, rfl⟩, by (simp; omega), fun _ _ _ => ?_⟩
  refine S_assign hc.scope hc.celled (by rfl) ?_
  refine W_none ?_
  refine T_if fun RI hRI => ?_
  refine B_cmp ?_
  refine T_attr ?_
  refine W_name hc.scope (by rfl) (by rfl) ?_
  refine ⟨_, _, _, _, _, _, rfl, by assumption, ⟨5, rfl⟩, ⟨6, rfl⟩, by rfl, by rfl, ?_⟩
  refine W_none ?_
  rename_i t μ3 H3
  rcases hsh : D.shot with _ | sd
  ·rw [hsh] at hV
   cases hV
   refine cmp_isnot0 ?_
   (first | refine z_f ?_ | refine i_f fun NI hNI => ?_ | refine ite_f ?_ | skip)
   refine S_nil ?_
   refine fln_next ?_
   refine S_ret ?_
   refine O_tuple ?_
   refine L_cons ?_
   refine T_attr ?_
   refine W_name hc.scope (by rfl) (by rfl) ?_
   refine ⟨_, _, _, _, _, _, rfl, by assumption, ⟨5, rfl⟩, ⟨6, rfl⟩, by rfl, by rfl, ?_⟩
   refine L_cons ?_
   refine T_attr ?_
   refine W_name hc.scope (by rfl) (by rfl) ?_
   refine ⟨_, _, _, _, _, _, rfl, by assumption, ⟨5, rfl⟩, ⟨6, rfl⟩, by rfl, by rfl, ?_⟩
   refine L_cons ?_
   refine T_attr ?_
   refine W_name hc.scope (by rfl) (by rfl) ?_
   refine ⟨_, _, _, _, _, _, rfl, by assumption, ⟨5, rfl⟩, ⟨6, rfl⟩, by rfl, by rfl, ?_⟩
   refine L_cons ?_
   refine T_attr ?_
   refine W_name hc.scope (by rfl) (by rfl) ?_
   refine ⟨_, _, _, _, _, _, rfl, by assumption, ⟨5, rfl⟩, ⟨6, rfl⟩, by rfl, by rfl, ?_⟩
   refine L_cons ?_
   refine T_attr ?_
   refine W_name hc.scope (by rfl) (by rfl) ?_
   refine ⟨_, _, _, _, _, _, rfl, by assumption, ⟨5, rfl⟩, ⟨6, rfl⟩, by rfl, by rfl, ?_⟩
   refine L_cons ?_
   refine T_attr ?_
   refine W_name hc.scope (by rfl) (by rfl) ?_
   refine ⟨_, _, _, _, _, _, rfl, by assumption, ⟨5, rfl⟩, ⟨6, rfl⟩, by rfl, by rfl, ?_⟩
   refine L_cons ?_
   refine W_name hc.scope (by rfl) (by rfl) ?_
   refine L_cons ?_
   refine T_attr ?_
   refine W_name hc.scope (by rfl) (by rfl) ?_
   refine ⟨_, _, _, _, _, _, rfl, by assumption, ⟨5, rfl⟩, ⟨6, rfl⟩, by rfl, by rfl, ?_⟩
   refine L_cons ?_
   refine W_name hc.scope (by rfl) (by rfl) ?_
   refine L_cons ?_
   refine T_attr ?_
   refine W_name hc.scope (by rfl) (by rfl) ?_
   refine ⟨_, _, _, _, _, _, rfl, by assumption, ⟨5, rfl⟩, ⟨6, rfl⟩, by rfl, by rfl, ?_⟩
   refine L_cons ?_
   refine T_attr ?_
   refine W_name hc.scope (by rfl) (by rfl) ?_
   refine ⟨_, _, _, _, _, _, rfl, by assumption, ⟨5, rfl⟩, ⟨6, rfl⟩, by rfl, by rfl, ?_⟩
   refine L_cons ?_
   refine T_attr ?_
   refine W_name hc.scope (by rfl) (by rfl) ?_
   refine ⟨_, _, _, _, _, _, rfl, by assumption, ⟨5, rfl⟩, ⟨6, rfl⟩, by rfl, by rfl, ?_⟩
   refine L_nil ?_
   refine ⟨_, by assumption, by exact Nat.le_of_ble_eq_true rfl, fun _ _ _ => ?_⟩
   refine PostF.ret (by assumption) ?_
   rename_i t2 μ4 H4
   refine ⟨_, msg_tup (te := t) (v := .none) (lv := []) (entries_rd hR) (by rw [hsh]; exact fun _ _ => .none) (fun _ h => h), H4.fin (P := [[(t2, _)], [(t, _)], rs.flatten, [(a, _)], [(d, _)], [(e, _)], ls.flatten]) (by exact .cons pz0 (.cons pz0 (.cons pz1 (.cons pz3 (.cons pz3 (.cons pz1 (.cons pz1 .nil))))))) (by simp)⟩
  ·rw [hsh] at hV
   obtain ⟨_⟩ | ⟨hS⟩ := hV
   rename_i b
   have hS' := hS
   obtain ⟨d', b', lc, hC, rfl⟩ := hS'
   refine cmp_isnot1 ?_
   (first | refine z_t ?_ | refine i_t fun NI hNI => ?_ | refine ite_t ?_ | skip)
   refine S_assign hc.scope hc.celled (by rfl) ?_
   refine T_meth hc.room ?_
   refine T_attr ?_
   refine W_name hc.scope (by rfl) (by rfl) ?_
   refine ⟨_, _, _, _, _, _, rfl, by assumption, ⟨5, rfl⟩, ⟨6, rfl⟩, by rfl, by rfl, ?_⟩
   have H4 := ((H3.picks (P := [_]) (.cons (.tail (.tail (.tail (.tail (.tail (.tail (.tail .head))))))) .nil)).uncons2)
   refine ⟨_, _, _, _, _, rfl, by assumption, ⟨0, rfl⟩, ⟨1, rfl⟩, by rfl, by rfl, ?_⟩
   refine L_nil ?_
   refine Fn.call (fun _ H => snap_row hS (hs.2 _ hsh) H) (by rfl) H3 (by exact .cons pz7 .nil) ?_
   rintro vr _ μ5 ⟨lr, hr, H5⟩ hF
   have H5 := hF.b2 H5
   refine S_nil ?_
   refine fln_next ?_
   refine S_ret ?_
   refine O_tuple ?_
   refine L_cons ?_
   refine T_attr ?_
   refine W_name hc.scope (by rfl) (by rfl) ?_
   refine ⟨_, _, _, _, _, _, rfl, by assumption, ⟨7, rfl⟩, ⟨8, rfl⟩, by rfl, by rfl, ?_⟩
   refine L_cons ?_
   refine T_attr ?_
   refine W_name hc.scope (by rfl) (by rfl) ?_
   refine ⟨_, _, _, _, _, _, rfl, by assumption, ⟨7, rfl⟩, ⟨8, rfl⟩, by rfl, by rfl, ?_⟩
   refine L_cons ?_
   refine T_attr ?_
   refine W_name hc.scope (by rfl) (by rfl) ?_
   refine ⟨_, _, _, _, _, _, rfl, by assumption, ⟨7, rfl⟩, ⟨8, rfl⟩, by rfl, by rfl, ?_⟩
   refine L_cons ?_
   refine T_attr ?_
   refine W_name hc.scope (by rfl) (by rfl) ?_
   refine ⟨_, _, _, _, _, _, rfl, by assumption, ⟨7, rfl⟩, ⟨8, rfl⟩, by rfl, by rfl, ?_⟩
   refine L_cons ?_
   refine T_attr ?_
   refine W_name hc.scope (by rfl) (by rfl) ?_
   refine ⟨_, _, _, _, _, _, rfl, by assumption, ⟨7, rfl⟩, ⟨8, rfl⟩, by rfl, by rfl, ?_⟩
   refine L_cons ?_
   refine T_attr ?_
   refine W_name hc.scope (by rfl) (by rfl) ?_
   refine ⟨_, _, _, _, _, _, rfl, by assumption, ⟨7, rfl⟩, ⟨8, rfl⟩, by rfl, by rfl, ?_⟩
   refine L_cons ?_
   refine W_name hc.scope (by rfl) (by rfl) ?_
   refine L_cons ?_
   refine T_attr ?_
   refine W_name hc.scope (by rfl) (by rfl) ?_
   refine ⟨_, _, _, _, _, _, rfl, by assumption, ⟨7, rfl⟩, ⟨8, rfl⟩, by rfl, by rfl, ?_⟩
   refine L_cons ?_
   refine W_name hc.scope (by rfl) (by rfl) ?_
   refine L_cons ?_
   refine T_attr ?_
   refine W_name hc.scope (by rfl) (by rfl) ?_
   refine ⟨_, _, _, _, _, _, rfl, by assumption, ⟨7, rfl⟩, ⟨8, rfl⟩, by rfl, by rfl, ?_⟩
   refine L_cons ?_
   refine T_attr ?_
   refine W_name hc.scope (by rfl) (by rfl) ?_
   refine ⟨_, _, _, _, _, _, rfl, by assumption, ⟨7, rfl⟩, ⟨8, rfl⟩, by rfl, by rfl, ?_⟩
   refine L_cons ?_
   refine T_attr ?_
   refine W_name hc.scope (by rfl) (by rfl) ?_
   refine ⟨_, _, _, _, _, _, rfl, by assumption, ⟨7, rfl⟩, ⟨8, rfl⟩, by rfl, by rfl, ?_⟩
   refine L_nil ?_
   refine ⟨_, by assumption, by exact Nat.le_of_ble_eq_true rfl, fun _ _ _ => ?_⟩
   refine PostF.ret (by assumption) ?_
   rename_i t2 μ6 H6
   refine ⟨_, msg_tup (te := t) (v := vr) (entries_rd hR) (by rw [hsh]; exact hr) (fun _ h => h), H6.fin (P := [[(t2, _)], [(t, _)], rs.flatten, lr, [(a, _)], [(d, _)], [(e, _)], ls.flatten, _]) (by exact .cons pz0 (.cons pz2 (.cons pz3 (.cons pz0 (.cons pz4 (.cons pz4 (.cons pz2 (.cons pz2 (.cons pz0 .nil))))))))) (by simp)⟩

theorem msg_copy {a : Addr} {D : MD} {l : List (Addr × O)} (hG : MG a D l) (hs : D.Fit) {μ : Mu} (H0 : Own [l] μ) : Fn w 9 264 [.ref a] μ (fun v μ' => ∃ b lb, v = .ref b ∧ MG b D lb ∧ Own [lb, l] μ') := by
 obtain ⟨d, e, as, ls, v, lv, hE, hV, rfl⟩ := hG
 have H : Own [[(a, _)], [(d, _)], [(e, _)], ls.flatten, lv] μ := H0.un5
 refine fn_go (ns := ["self"]) k264 (by (conv => lhs; whnf)) (by (conv => lhs; whnf)) (by kernel_rfl) (rvs1 fun a => by kernel_rfl) rfl rfl rfl rfl rfl fun c hc KQ hKQ => ?_
 refine S_assign hc.scope hc.celled (by rfl) ?_
 refine T_new hc.scope hc.room rfl rfl ?_
 refine L_cons ?_
 refine T_attr ?_
 refine W_name hc.scope (by rfl) (by rfl) ?_
 refine ⟨_, _, _, _, _, _, rfl, by assumption, ⟨0, rfl⟩, ⟨1, rfl⟩, by rfl, by rfl, ?_⟩
 refine L_cons ?_
 refine T_attr ?_
 refine W_name hc.scope (by rfl) (by rfl) ?_
 refine ⟨_, _, _, _, _, _, rfl, by assumption, ⟨0, rfl⟩, ⟨1, rfl⟩, by rfl, by rfl, ?_⟩
 refine L_cons ?_
 refine T_attr ?_
 refine W_name hc.scope (by rfl) (by rfl) ?_
 refine ⟨_, _, _, _, _, _, rfl, by assumption, ⟨0, rfl⟩, ⟨1, rfl⟩, by rfl, by rfl, ?_⟩
 refine L_cons ?_
 refine T_attr ?_
 refine W_name hc.scope (by rfl) (by rfl) ?_
 refine ⟨_, _, _, _, _, _, rfl, by assumption, ⟨0, rfl⟩, ⟨1, rfl⟩, by rfl, by rfl, ?_⟩
 refine L_nil ?_
 refine ⟨_, by assumption, fun _ _ _ _ => ?_⟩
 rename_i b d2 μ1 H1
 refine msg_init_k (by rfl) H1 (by exact .cons pz0 (.cons pz0 .nil)) fun e2 μ2 H2 => ?_
 refine ⟨rfl, ?_⟩
 refine T_setattr ?_
 refine T_attr ?_
 refine W_name hc.scope (by rfl) (by rfl) ?_
 refine ⟨_, _, _, _, _, _, rfl, by assumption, ⟨3, rfl⟩, ⟨4, rfl⟩, by rfl, by rfl, ?_⟩
 refine W_name hc.scope (by rfl) (by rfl) ?_
 refine ⟨_, _, _, _, _, _, rfl, by assumption, ⟨0, rfl⟩, pz1, by rfl, by exact Nat.le_of_ble_eq_true rfl, fun _ _ => ?_⟩
 refine T_setattr ?_
 refine T_attr ?_
 refine W_name hc.scope (by rfl) (by rfl) ?_
 refine ⟨_, _, _, _, _, _, rfl, by assumption, ⟨3, rfl⟩, ⟨4, rfl⟩, by rfl, by rfl, ?_⟩
 refine W_name hc.scope (by rfl) (by rfl) ?_
 refine ⟨_, _, _, _, _, _, rfl, by assumption, ⟨1, rfl⟩, pz0, by rfl, by exact Nat.le_of_ble_eq_true rfl, fun _ _ => ?_⟩
 refine T_setattr ?_
 rename_i μ3 H3
 refine O_map (R := EG) (e := e) (by exact hc.scope) (by exact hc.celled) hc.own hc.room (by rfl) hE (by have := hs.1; omega) ?_ ?_
 rotate_left
 ·intro c' hc' b x l μ1 K' hP _ H1
  have hP' := hP
  obtain ⟨d', rfl⟩ := hP'
  have H2 : Own ([(b, _)] :: [(d', _)] :: K') μ1 := H1.eq
  refine T_meth hc'.room ?_
  refine W_name hc'.scope (by rfl) (by rfl) ?_
  refine ⟨_, _, _, _, _, rfl, by assumption, ⟨0, rfl⟩, ⟨1, rfl⟩, by rfl, by rfl, ?_⟩
  refine L_nil ?_
  refine Fn.call (fun _ H => entry_copy hP H) (by rfl) H1 (.cons .head .nil) ?_
  rintro _ _ μ3 ⟨t, _, rfl, hb, H3⟩ hF
  exact ⟨t, _, rfl, hb, hF.b2 H3⟩
 ·refine T_attr ?_
  refine W_name hc.scope (by rfl) (by rfl) ?_
  refine ⟨_, _, _, _, _, _, rfl, by assumption, ⟨3, rfl⟩, ⟨4, rfl⟩, by rfl, by rfl, ?_⟩
  refine ⟨_, rfl, H3.pk2 (by exact pz5) (by exact pz5), fun D' bs rs μ4 hR H4 => ?_⟩
  have hbl : bs.length < 1000 := by rw [hR.length.1]; exact hs.1
  refine W_name hc.scope (by rfl) (by rfl) ?_
  refine ⟨_, _, _, _, _, _, rfl, by assumption, ⟨5, rfl⟩, pz4, by rfl, by exact Nat.le_of_ble_eq_true rfl, fun _ _ => ?_⟩
  refine T_setattr ?_
  refine T_attr ?_
  refine W_name hc.scope (by rfl) (by rfl) ?_
  refine ⟨_, _, _, _, _, _, rfl, by assumption, ⟨7, rfl⟩, ⟨8, rfl⟩, by rfl, by rfl, ?_⟩
  refine W_name hc.scope (by rfl) (by rfl) ?_
  refine ⟨_, _, _, _, _, _, rfl, by assumption, ⟨5, rfl⟩, pz0, by rfl, by exact Nat.le_of_ble_eq_true rfl, fun _ _ => ?_⟩
  refine T_if fun RI hRI => ?_
  refine B_cmp ?_
  refine T_attr ?_
  refine W_name hc.scope (by rfl) (by rfl) ?_
  refine ⟨_, _, _, _, _, _, rfl, by assumption, ⟨7, rfl⟩, ⟨8, rfl⟩, by rfl, by rfl, ?_⟩
  refine W_none ?_
  rename_i μ5 H5
  rcases hsh : D.shot with _ | sd
  ·rw [hsh] at hV
   cases hV
   refine cmp_isnot0 ?_
   (first | refine z_f ?_ | refine i_f fun NI hNI => ?_ | refine ite_f ?_ | skip)
   refine S_nil ?_
   refine fln_next ?_
   refine T_setattr ?_
   refine T_attr ?_
   refine W_name hc.scope (by rfl) (by rfl) ?_
   refine ⟨_, _, _, _, _, _, rfl, by assumption, ⟨7, rfl⟩, ⟨8, rfl⟩, by rfl, by rfl, ?_⟩
   refine W_name hc.scope (by rfl) (by rfl) ?_
   refine ⟨_, _, _, _, _, _, rfl, by assumption, ⟨5, rfl⟩, pz0, by rfl, by exact Nat.le_of_ble_eq_true rfl, fun _ _ => ?_⟩
   refine T_setattr ?_
   refine T_attr ?_
   refine W_name hc.scope (by rfl) (by rfl) ?_
   refine ⟨_, _, _, _, _, _, rfl, by assumption, ⟨7, rfl⟩, ⟨8, rfl⟩, by rfl, by rfl, ?_⟩
   refine W_name hc.scope (by rfl) (by rfl) ?_
   refine ⟨_, _, _, _, _, _, rfl, by assumption, ⟨5, rfl⟩, pz0, by rfl, by exact Nat.le_of_ble_eq_true rfl, fun _ _ => ?_⟩
   refine T_setattr ?_
   refine T_attr ?_
   refine W_name hc.scope (by rfl) (by rfl) ?_
   refine ⟨_, _, _, _, _, _, rfl, by assumption, ⟨7, rfl⟩, ⟨8, rfl⟩, by rfl, by rfl, ?_⟩
   refine W_name hc.scope (by rfl) (by rfl) ?_
   refine ⟨_, _, _, _, _, _, rfl, by assumption, ⟨5, rfl⟩, pz0, by rfl, by exact Nat.le_of_ble_eq_true rfl, fun _ _ => ?_⟩
   refine S_ret ?_
   refine W_name hc.scope (by rfl) (by rfl) ?_
   refine PostF.ret (by assumption) ?_
   rename_i μ6 H6
   exact ⟨b, _, rfl, ⟨d2, D', bs, rs, _, [], hR, by rw [hsh]; exact .none, rfl⟩, H6.fin (P := [[(b, _)], [(d2, .dict (mfs D D' .none))], [(D', _)], rs.flatten, [(a, _)], [(d, _)], [(e, _)], ls.flatten]) (by exact .cons pz5 (.cons pz0 (.cons pz0 (.cons pz0 (.cons pz3 (.cons pz3 (.cons pz0 (.cons pz0 .nil)))))))) (by simp)⟩
  ·rw [hsh] at hV
   obtain ⟨_⟩ | ⟨hS⟩ := hV
   have hS' := hS
   obtain ⟨d', b', lc, hC, rfl⟩ := hS'
   refine cmp_isnot1 ?_
   (first | refine z_t ?_ | refine i_t fun NI hNI => ?_ | refine ite_t ?_ | skip)
   refine T_setattr ?_
   refine T_meth hc.room ?_
   refine T_attr ?_
   refine W_name hc.scope (by rfl) (by rfl) ?_
   refine ⟨_, _, _, _, _, _, rfl, by assumption, ⟨7, rfl⟩, ⟨8, rfl⟩, by rfl, by rfl, ?_⟩
   have H6 := ((H5.picks (P := [_]) (.cons (.tail (.tail (.tail (.tail (.tail (.tail (.tail (.tail (.tail .head))))))))) .nil)).uncons2)
   refine ⟨_, _, _, _, _, rfl, by assumption, ⟨0, rfl⟩, ⟨1, rfl⟩, by rfl, by rfl, ?_⟩
   refine L_nil ?_
   refine Fn.call (fun _ H => snap_copy hS (hs.2 _ hsh) H) (by rfl) H5 (by exact .cons pz9 .nil) ?_
   rintro _ _ μ7 ⟨sb, lb, rfl, hB, H7⟩ hF
   have H7 := hF.b2 H7
   refine W_name hc.scope (by rfl) (by rfl) ?_
   refine ⟨_, _, _, _, _, _, rfl, by assumption, ⟨7, rfl⟩, pz2, by rfl, by exact Nat.le_of_ble_eq_true rfl, fun _ _ => ?_⟩
   refine S_nil ?_
   refine fln_next ?_
   refine T_setattr ?_
   refine T_attr ?_
   refine W_name hc.scope (by rfl) (by rfl) ?_
   refine ⟨_, _, _, _, _, _, rfl, by assumption, ⟨9, rfl⟩, ⟨10, rfl⟩, by rfl, by rfl, ?_⟩
   refine W_name hc.scope (by rfl) (by rfl) ?_
   refine ⟨_, _, _, _, _, _, rfl, by assumption, ⟨7, rfl⟩, pz0, by rfl, by exact Nat.le_of_ble_eq_true rfl, fun _ _ => ?_⟩
   refine T_setattr ?_
   refine T_attr ?_
   refine W_name hc.scope (by rfl) (by rfl) ?_
   refine ⟨_, _, _, _, _, _, rfl, by assumption, ⟨9, rfl⟩, ⟨10, rfl⟩, by rfl, by rfl, ?_⟩
   refine W_name hc.scope (by rfl) (by rfl) ?_
   refine ⟨_, _, _, _, _, _, rfl, by assumption, ⟨7, rfl⟩, pz0, by rfl, by exact Nat.le_of_ble_eq_true rfl, fun _ _ => ?_⟩
   refine T_setattr ?_
   refine T_attr ?_
   refine W_name hc.scope (by rfl) (by rfl) ?_
   refine ⟨_, _, _, _, _, _, rfl, by assumption, ⟨9, rfl⟩, ⟨10, rfl⟩, by rfl, by rfl, ?_⟩
   refine W_name hc.scope (by rfl) (by rfl) ?_
   refine ⟨_, _, _, _, _, _, rfl, by assumption, ⟨7, rfl⟩, pz0, by rfl, by exact Nat.le_of_ble_eq_true rfl, fun _ _ => ?_⟩
   refine S_ret ?_
   refine W_name hc.scope (by rfl) (by rfl) ?_
   refine PostF.ret (by assumption) ?_
   rename_i μ8 H8
   exact ⟨b, _, rfl, ⟨d2, D', bs, rs, .ref sb, lb, hR, by rw [hsh]; exact .some hB, rfl⟩, H8.fin (P := [[(b, _)], [(d2, .dict (mfs D D' (.ref sb)))], [(D', _)], rs.flatten, lb, [(a, _)], [(d, _)], [(e, _)], ls.flatten, _]) (by exact .cons pz7 (.cons pz0 (.cons pz2 (.cons pz2 (.cons pz0 (.cons pz4 (.cons pz4 (.cons pz1 (.cons pz1 (.cons pz0 .nil)))))))))) (by simp)⟩

theorem draw_fn {a : Addr} {ns : List Int} {i : Int} (hl : 0 < ns.length) (hs : ns.length ≤ 100) (hi : 0 ≤ i) (hb : i ≤ 1000) (hn : ∀ n ∈ ns, 0 ≤ n) {μ : Mu} (H : Own [[(a, .list (List.map V.int ns))]] μ) : Fn w 1 383 [.ref a, .int i] μ (fun v μ' => ∃ y, v = .int y ∧ 0 ≤ y ∧ Own [[(a, .list (List.map V.int ns))]] μ') := by
 refine fn_go (ns := ["nums", "i"]) k383 (by (conv => lhs; whnf)) (by (conv => lhs; whnf)) (by kernel_rfl) (rvs2 fun a b => by kernel_rfl) rfl rfl rfl rfl rfl fun c hc KQ hKQ => ?_
 have h1 : 0 ≤ i % (ns.length : Int) := Int.emod_nonneg _ (by omega)
 have h2 : i % (ns.length : Int) < ns.length := Int.emod_lt_of_pos _ (by exact sub_pos' (by assumption))
 have h3 : 0 ≤ i / (ns.length : Int) := Int.ediv_nonneg hi (by omega)
 have h4 : i / (ns.length : Int) ≤ i := Int.ediv_le_self _ hi
 have h5 : (i % (ns.length : Int)).toNat < ns.length := by exact toNat_lt' (by assumption) (by assumption)
 refine S_ret ?_
 refine W_bin ?_
 refine O_item ?_
 refine W_name hc.scope (by rfl) (by rfl) ?_
 refine W_bin ?_
 refine W_name hc.scope (by rfl) (by rfl) ?_
 refine O_len hc.scope ?_
 refine W_name hc.scope (by rfl) (by rfl) ?_
 refine ⟨_, _, _, rfl, by assumption, ⟨0, rfl⟩, by (simp; omega), ?_⟩
 ((refine bin_mod ?_ ?_); (· (simp; omega)))
 refine ⟨_, _, _, .int (ns[(i % (ns.length : Int)).toNat]), _, rfl, rfl, by assumption, .inl (by exact ⟨0, rfl⟩), by rw [List.length_map]; omega, by rw [List.length_map, List.getElem?_map, List.getElem?_eq_getElem h5]; rfl, ?_⟩
 refine W_bin ?_
 refine W_int ?_
 refine W_bin ?_
 refine W_name hc.scope (by rfl) (by rfl) ?_
 refine O_len hc.scope ?_
 refine W_name hc.scope (by rfl) (by rfl) ?_
 refine ⟨_, _, _, rfl, by assumption, ⟨0, rfl⟩, by (simp; omega), ?_⟩
 ((refine bin_div ?_ ?_); (· (simp; omega)))
 ((refine bin_mul ?_ ?_); (· (simp; omega)))
 refine bin_add ?_
 refine PostF.ret (by assumption) ?_
 refine ⟨_, rfl, ?_⟩
 simp only [List.length_map]
 skip
 exact ⟨by have := hn _ (List.getElem_mem h5); omega, by (apply Own.sel; (· assumption); exact .cons pz0 .nil)⟩
theorem draw_fn_k {a : Addr} {ns : List Int} {i : Int} (hl : 0 < ns.length) (hs : ns.length ≤ 100) (hi : 0 ≤ i) (hb : i ≤ 1000) (hn : ∀ n ∈ ns, 0 ≤ n) {r' : Nat} (hr : Nat.ble 1 r' = true) {L K : List (List (Addr × O))} {μ : Mu} (H : Own L μ) (p : Picks [[(a, .list (List.map V.int ns))]] L K) {Q : V → Mu → Prop} (k : ∀ y μ', 0 ≤ y → Own ([(a, .list (List.map V.int ns))] :: K) μ' → Q (.int y) μ') : Fn w r' 383 [.ref a, .int i] μ Q :=
 Fn.call (fun _ H => draw_fn hl hs hi hb hn H) hr H p fun v μ1 μ' h hF => by obtain ⟨y, rfl, h0', H1'⟩ := h; exact k y μ' h0' (hF _ H1')
theorem list_fn {C a : Addr} (hC : C = 194 ∨ C = 365) {D : CD} {d x0 x1 x2 x3 : Addr} {f : Int} {L : List (List (Addr × O))} (hf : f = 0 ∨ f = 1 ∨ f = 2 ∨ f = 3) {μ : Mu} (H : Own [[(a, .inst C d)], [(d, .dict (cfs C x0 x1 x2 x3 D.al))]] μ) : Fn w 1 410 [.ref a, .int f] μ
  (fun v μ' => v = .ref (if f = 0 then x0 else if f = 1 then x1 else if f = 2 then x2 else x3) ∧ Own [[(a, .inst C d)], [(d, .dict (cfs C x0 x1 x2 x3 D.al))]] μ') := by
 refine fn_go (ns := ["conf", "f"]) k410 (by (conv => lhs; whnf)) (by (conv => lhs; whnf)) (by kernel_rfl) (rvs2 fun a b => by kernel_rfl) rfl rfl rfl rfl rfl fun c hc KQ hKQ => ?_
 rcases hC with rfl | rfl <;> rcases hf with rfl | rfl | rfl | rfl
 all_goals
  first | (refine T_if fun RI hRI => ?_; refine B_cmp ?_; refine W_name hc.scope (by rfl) (by rfl) ?_; refine W_int ?_; refine cmp_eq ?_; (first | refine z_F (by rfl) ?_ | refine i_F (by rfl) fun NI hNI => ?_ | refine ite_F (by rfl) ?_); refine S_nil ?_; refine fln_next ?_; refine T_if fun RI hRI => ?_; refine B_cmp ?_; refine W_name hc.scope (by rfl) (by rfl) ?_; refine W_int ?_; refine cmp_eq ?_; (first | refine z_F (by rfl) ?_ | refine i_F (by rfl) fun NI hNI => ?_ | refine ite_F (by rfl) ?_); refine S_nil ?_; refine fln_next ?_; refine T_if fun RI hRI => ?_; refine B_cmp ?_; refine W_name hc.scope (by rfl) (by rfl) ?_; refine W_int ?_; refine cmp_eq ?_; (first | refine z_F (by rfl) ?_ | refine i_F (by rfl) fun NI hNI => ?_ | refine ite_F (by rfl) ?_); refine S_nil ?_; refine fln_next ?_; refine S_ret ?_; refine T_attr ?_; refine W_name hc.scope (by rfl) (by rfl) ?_; refine ⟨_, _, _, _, _, _, rfl, by assumption, ⟨0, rfl⟩, ⟨1, rfl⟩, by rfl, by rfl, ?_⟩; refine PostF.ret (by assumption) ?_) | (refine T_if fun RI hRI => ?_; refine B_cmp ?_; refine W_name hc.scope (by rfl) (by rfl) ?_; refine W_int ?_; refine cmp_eq ?_; (first | refine z_F (by rfl) ?_ | refine i_F (by rfl) fun NI hNI => ?_ | refine ite_F (by rfl) ?_); refine S_nil ?_; refine fln_next ?_; refine T_if fun RI hRI => ?_; refine B_cmp ?_; refine W_name hc.scope (by rfl) (by rfl) ?_; refine W_int ?_; refine cmp_eq ?_; (first | refine z_F (by rfl) ?_ | refine i_F (by rfl) fun NI hNI => ?_ | refine ite_F (by rfl) ?_); refine S_nil ?_; refine fln_next ?_; refine T_if fun RI hRI => ?_; refine B_cmp ?_; refine W_name hc.scope (by rfl) (by rfl) ?_; refine W_int ?_; refine cmp_eq ?_; (first | refine z_T (by rfl) ?_ | refine i_T (by rfl) fun NI hNI => ?_ | refine ite_T (by rfl) ?_); refine S_ret ?_; refine T_attr ?_; refine W_name hc.scope (by rfl) (by rfl) ?_; refine ⟨_, _, _, _, _, _, rfl, by assumption, ⟨0, rfl⟩, ⟨1, rfl⟩, by rfl, by rfl, ?_⟩; refine fln_ret ?_; refine PostF.ret (by assumption) ?_) | (refine T_if fun RI hRI => ?_; refine B_cmp ?_; refine W_name hc.scope (by rfl) (by rfl) ?_; refine W_int ?_; refine cmp_eq ?_; (first | refine z_F (by rfl) ?_ | refine i_F (by rfl) fun NI hNI => ?_ | refine ite_F (by rfl) ?_); refine S_nil ?_; refine fln_next ?_; refine T_if fun RI hRI => ?_; refine B_cmp ?_; refine W_name hc.scope (by rfl) (by rfl) ?_; refine W_int ?_; refine cmp_eq ?_; (first | refine z_T (by rfl) ?_ | refine i_T (by rfl) fun NI hNI => ?_ | refine ite_T (by rfl) ?_); refine S_ret ?_; refine T_attr ?_; refine W_name hc.scope (by rfl) (by rfl) ?_; refine ⟨_, _, _, _, _, _, rfl, by assumption, ⟨0, rfl⟩, ⟨1, rfl⟩, by rfl, by rfl, ?_⟩; refine fln_ret ?_; refine PostF.ret (by assumption) ?_) | (refine T_if fun RI hRI => ?_; refine B_cmp ?_; refine W_name hc.scope (by rfl) (by rfl) ?_; refine W_int ?_; refine cmp_eq ?_; (first | refine z_T (by rfl) ?_ | refine i_T (by rfl) fun NI hNI => ?_ | refine ite_T (by rfl) ?_); refine S_ret ?_; refine T_attr ?_; refine W_name hc.scope (by rfl) (by rfl) ?_; refine ⟨_, _, _, _, _, _, rfl, by assumption, ⟨0, rfl⟩, ⟨1, rfl⟩, by rfl, by rfl, ?_⟩; refine fln_ret ?_; refine PostF.ret (by assumption) ?_)
  exact ⟨rfl, by (apply Own.sel; (· assumption); exact .cons pz0 (.cons pz0 .nil))⟩
theorem put_fn {C a : Addr} (hC : C = 194 ∨ C = 365) {D : CD} {d x0 x1 x2 x3 x : Addr} {f : Int} (hf : f = 0 ∨ f = 1 ∨ f = 2 ∨ f = 3) {μ : Mu} (H : Own [[(a, .inst C d)], [(d, .dict (cfs C x0 x1 x2 x3 D.al))]] μ) : Fn w 1 417 [.ref a, .int f, .ref x] μ
  (fun v μ' => Own [[(a, .inst C d)], [(d, .dict (cfs C (if f = 0 then x else x0) (if f = 1 then x else x1) (if f = 2 then x else x2) (if f = 3 then x else x3) D.al))]] μ') := by
 refine fn_go (ns := ["conf", "f", "fresh"]) k417 (by (conv => lhs; whnf)) (by (conv => lhs; whnf)) (by kernel_rfl) (rvs3 fun a b c => by kernel_rfl) rfl rfl rfl rfl rfl fun c hc KQ hKQ => ?_
 rcases hC with rfl | rfl <;> rcases hf with rfl | rfl | rfl | rfl
 all_goals
  first | (refine T_if0 fun RI hRI => ?_; refine B_cmp ?_; refine W_name hc.scope (by rfl) (by rfl) ?_; refine W_int ?_; refine cmp_eq ?_; (first | refine z_F (by rfl) ?_ | refine i_F (by rfl) fun NI hNI => ?_ | refine ite_F (by rfl) ?_); refine T_if0 fun RI hRI => ?_; refine B_cmp ?_; refine W_name hc.scope (by rfl) (by rfl) ?_; refine W_int ?_; refine cmp_eq ?_; (first | refine z_F (by rfl) ?_ | refine i_F (by rfl) fun NI hNI => ?_ | refine ite_F (by rfl) ?_); refine T_if0 fun RI hRI => ?_; refine B_cmp ?_; refine W_name hc.scope (by rfl) (by rfl) ?_; refine W_int ?_; refine cmp_eq ?_; (first | refine z_T (by rfl) ?_ | refine i_T (by rfl) fun NI hNI => ?_ | refine ite_T (by rfl) ?_); refine T_setattr ?_; refine W_name hc.scope (by rfl) (by rfl) ?_; refine W_name hc.scope (by rfl) (by rfl) ?_; refine ⟨_, _, _, _, _, _, rfl, by assumption, ⟨0, rfl⟩, pz1, by rfl, by exact Nat.le_of_ble_eq_true rfl, fun _ _ => ?_⟩; refine S_nil ?_; refine PostF.next (by assumption) ?_) | (refine T_if0 fun RI hRI => ?_; refine B_cmp ?_; refine W_name hc.scope (by rfl) (by rfl) ?_; refine W_int ?_; refine cmp_eq ?_; (first | refine z_F (by rfl) ?_ | refine i_F (by rfl) fun NI hNI => ?_ | refine ite_F (by rfl) ?_); refine T_if0 fun RI hRI => ?_; refine B_cmp ?_; refine W_name hc.scope (by rfl) (by rfl) ?_; refine W_int ?_; refine cmp_eq ?_; (first | refine z_F (by rfl) ?_ | refine i_F (by rfl) fun NI hNI => ?_ | refine ite_F (by rfl) ?_); refine T_if0 fun RI hRI => ?_; refine B_cmp ?_; refine W_name hc.scope (by rfl) (by rfl) ?_; refine W_int ?_; refine cmp_eq ?_; (first | refine z_F (by rfl) ?_ | refine i_F (by rfl) fun NI hNI => ?_ | refine ite_F (by rfl) ?_); refine T_setattr ?_; refine W_name hc.scope (by rfl) (by rfl) ?_; refine W_name hc.scope (by rfl) (by rfl) ?_; refine ⟨_, _, _, _, _, _, rfl, by assumption, ⟨0, rfl⟩, pz1, by rfl, by exact Nat.le_of_ble_eq_true rfl, fun _ _ => ?_⟩; refine S_nil ?_; refine PostF.next (by assumption) ?_) | (refine T_if0 fun RI hRI => ?_; refine B_cmp ?_; refine W_name hc.scope (by rfl) (by rfl) ?_; refine W_int ?_; refine cmp_eq ?_; (first | refine z_F (by rfl) ?_ | refine i_F (by rfl) fun NI hNI => ?_ | refine ite_F (by rfl) ?_); refine T_if0 fun RI hRI => ?_; refine B_cmp ?_; refine W_name hc.scope (by rfl) (by rfl) ?_; refine W_int ?_; refine cmp_eq ?_; (first | refine z_T (by rfl) ?_ | refine i_T (by rfl) fun NI hNI => ?_ | refine ite_T (by rfl) ?_); refine T_setattr ?_; refine W_name hc.scope (by rfl) (by rfl) ?_; refine W_name hc.scope (by rfl) (by rfl) ?_; refine ⟨_, _, _, _, _, _, rfl, by assumption, ⟨0, rfl⟩, pz1, by rfl, by exact Nat.le_of_ble_eq_true rfl, fun _ _ => ?_⟩; refine S_nil ?_; refine PostF.next (by assumption) ?_) | (refine T_if0 fun RI hRI => ?_; refine B_cmp ?_; refine W_name hc.scope (by rfl) (by rfl) ?_; refine W_int ?_; refine cmp_eq ?_; (first | refine z_T (by rfl) ?_ | refine i_T (by rfl) fun NI hNI => ?_ | refine ite_T (by rfl) ?_); refine T_setattr ?_; refine W_name hc.scope (by rfl) (by rfl) ?_; refine W_name hc.scope (by rfl) (by rfl) ?_; refine ⟨_, _, _, _, _, _, rfl, by assumption, ⟨0, rfl⟩, pz1, by rfl, by exact Nat.le_of_ble_eq_true rfl, fun _ _ => ?_⟩; refine S_nil ?_; refine PostF.next (by assumption) ?_)
  (apply Own.sel; (· assumption); exact .cons pz1 (.cons pz0 .nil))

theorem turn_hard {a b : Addr} {D : HD} {l l' : List (Addr × O)} (hG : HG a D l) (hO : HO b D l') {f n : Int} (hf : f = 0 ∨ f = 1 ∨ f = 2) {μ : Mu} (H : Own [l, l'] μ) : Fn w 1 481 [.ref a, .ref b, .int f, .int n] μ
  (fun v μ' => ∃ E l2 l3, HG a E l2 ∧ HO b E l3 ∧ Own [l2, l3] μ') := by
 obtain ⟨d, rfl⟩ := hG
 subst hO
 have H : Own [[(a, _)], [(d, _)], [(b, _)]] μ := H.eq
 refine fn_go (ns := ["hard", "own", "f", "n"]) k481 (by (conv => lhs; whnf)) (by (conv => lhs; whnf)) (by kernel_rfl) (rvs4 fun a b c d => by kernel_rfl) rfl rfl rfl rfl rfl fun c hc KQ hKQ => ?_
 rcases hf with rfl | rfl | rfl
 ·refine OS_setitem ?_
  refine W_name hc.scope (by rfl) (by rfl) ?_
  refine W_name hc.scope (by rfl) (by rfl) ?_
  refine W_name hc.scope (by rfl) (by rfl) ?_
  refine ⟨_, _, _, _, _, rfl, rfl, by assumption, pz2, by (simp; done), fun _ _ => ?_⟩
  refine T_if0 fun RI hRI => ?_
  refine B_cmp ?_
  refine W_name hc.scope (by rfl) (by rfl) ?_
  refine W_int ?_
  refine cmp_eq ?_
  (first | refine z_T (by rfl) ?_ | refine i_T (by rfl) fun NI hNI => ?_ | refine ite_T (by rfl) ?_)
  refine T_setattr ?_
  refine W_name hc.scope (by rfl) (by rfl) ?_
  refine W_name hc.scope (by rfl) (by rfl) ?_
  refine ⟨_, _, _, _, _, _, rfl, by assumption, ⟨1, rfl⟩, pz2, by rfl, by exact Nat.le_of_ble_eq_true rfl, fun _ _ => ?_⟩
  refine S_nil ?_
  refine PostF.next (by assumption) ?_
  exact ⟨⟨n, D.v, D.c⟩, _, _, ⟨d, rfl⟩, rfl, by (refine Own.of_singles ?_; apply Own.sel; (· assumption); exact .cons pz2 (.cons pz0 (.cons pz0 .nil)))⟩
 ·refine OS_setitem ?_
  refine W_name hc.scope (by rfl) (by rfl) ?_
  refine W_name hc.scope (by rfl) (by rfl) ?_
  refine W_name hc.scope (by rfl) (by rfl) ?_
  refine ⟨_, _, _, _, _, rfl, rfl, by assumption, pz2, by (simp; done), fun _ _ => ?_⟩
  refine T_if0 fun RI hRI => ?_
  refine B_cmp ?_
  refine W_name hc.scope (by rfl) (by rfl) ?_
  refine W_int ?_
  refine cmp_eq ?_
  (first | refine z_F (by rfl) ?_ | refine i_F (by rfl) fun NI hNI => ?_ | refine ite_F (by rfl) ?_)
  refine T_if0 fun RI hRI => ?_
  refine B_cmp ?_
  refine W_name hc.scope (by rfl) (by rfl) ?_
  refine W_int ?_
  refine cmp_eq ?_
  (first | refine z_T (by rfl) ?_ | refine i_T (by rfl) fun NI hNI => ?_ | refine ite_T (by rfl) ?_)
  refine T_setattr ?_
  refine W_name hc.scope (by rfl) (by rfl) ?_
  refine W_name hc.scope (by rfl) (by rfl) ?_
  refine ⟨_, _, _, _, _, _, rfl, by assumption, ⟨1, rfl⟩, pz2, by rfl, by exact Nat.le_of_ble_eq_true rfl, fun _ _ => ?_⟩
  refine S_nil ?_
  refine PostF.next (by assumption) ?_
  exact ⟨⟨D.t, n, D.c⟩, _, _, ⟨d, rfl⟩, rfl, by (refine Own.of_singles ?_; apply Own.sel; (· assumption); exact .cons pz2 (.cons pz0 (.cons pz0 .nil)))⟩
 ·refine OS_setitem ?_
  refine W_name hc.scope (by rfl) (by rfl) ?_
  refine W_name hc.scope (by rfl) (by rfl) ?_
  refine W_name hc.scope (by rfl) (by rfl) ?_
  refine ⟨_, _, _, _, _, rfl, rfl, by assumption, pz2, by (simp; done), fun _ _ => ?_⟩
  refine T_if0 fun RI hRI => ?_
  refine B_cmp ?_
  refine W_name hc.scope (by rfl) (by rfl) ?_
  refine W_int ?_
  refine cmp_eq ?_
  (first | refine z_F (by rfl) ?_ | refine i_F (by rfl) fun NI hNI => ?_ | refine ite_F (by rfl) ?_)
  refine T_if0 fun RI hRI => ?_
  refine B_cmp ?_
  refine W_name hc.scope (by rfl) (by rfl) ?_
  refine W_int ?_
  refine cmp_eq ?_
  (first | refine z_F (by rfl) ?_ | refine i_F (by rfl) fun NI hNI => ?_ | refine ite_F (by rfl) ?_)
  refine T_setattr ?_
  refine W_name hc.scope (by rfl) (by rfl) ?_
  refine W_name hc.scope (by rfl) (by rfl) ?_
  refine ⟨_, _, _, _, _, _, rfl, by assumption, ⟨1, rfl⟩, pz2, by rfl, by exact Nat.le_of_ble_eq_true rfl, fun _ _ => ?_⟩
  refine S_nil ?_
  refine PostF.next (by assumption) ?_
  exact ⟨⟨D.t, D.v, n⟩, _, _, ⟨d, rfl⟩, rfl, by (refine Own.of_singles ?_; apply Own.sel; (· assumption); exact .cons pz2 (.cons pz0 (.cons pz0 .nil)))⟩
theorem turn_entry {a b : Addr} {D : ED} {l l' : List (Addr × O)} (hG : EG a D l) (hO : EO b D l') {f n : Int} (hf : f = 0 ∨ f = 1 ∨ f = 2) {μ : Mu} (H : Own [l, l'] μ) : Fn w 1 488 [.ref a, .ref b, .int f, .int n] μ
  (fun v μ' => ∃ E l2 l3, EG a E l2 ∧ EO b E l3 ∧ E.d = D.d ∧ Own [l2, l3] μ') := by
 obtain ⟨d, rfl⟩ := hG
 subst hO
 have H : Own [[(a, _)], [(d, _)], [(b, _)]] μ := H.eq
 refine fn_go (ns := ["entry", "own", "f", "fresh"]) k488 (by (conv => lhs; whnf)) (by (conv => lhs; whnf)) (by kernel_rfl) (rvs4 fun a b c d => by kernel_rfl) rfl rfl rfl rfl rfl fun c hc KQ hKQ => ?_
 rcases hf with rfl | rfl | rfl
 ·refine OS_setitem ?_
  refine W_name hc.scope (by rfl) (by rfl) ?_
  refine W_name hc.scope (by rfl) (by rfl) ?_
  refine W_name hc.scope (by rfl) (by rfl) ?_
  refine ⟨_, _, _, _, _, rfl, rfl, by assumption, pz2, by (simp; done), fun _ _ => ?_⟩
  refine T_if0 fun RI hRI => ?_
  refine B_cmp ?_
  refine W_name hc.scope (by rfl) (by rfl) ?_
  refine W_int ?_
  refine cmp_eq ?_
  (first | refine z_T (by rfl) ?_ | refine i_T (by rfl) fun NI hNI => ?_ | refine ite_T (by rfl) ?_)
  refine T_setattr ?_
  refine W_name hc.scope (by rfl) (by rfl) ?_
  refine W_name hc.scope (by rfl) (by rfl) ?_
  refine ⟨_, _, _, _, _, _, rfl, by assumption, ⟨1, rfl⟩, pz2, by rfl, by exact Nat.le_of_ble_eq_true rfl, fun _ _ => ?_⟩
  refine S_nil ?_
  refine PostF.next (by assumption) ?_
  exact ⟨⟨n, D.i, D.k, D.d⟩, _, _, ⟨d, rfl⟩, rfl, rfl, by (refine Own.of_singles ?_; apply Own.sel; (· assumption); exact .cons pz2 (.cons pz0 (.cons pz0 .nil)))⟩
 ·refine OS_setitem ?_
  refine W_name hc.scope (by rfl) (by rfl) ?_
  refine W_name hc.scope (by rfl) (by rfl) ?_
  refine W_name hc.scope (by rfl) (by rfl) ?_
  refine ⟨_, _, _, _, _, rfl, rfl, by assumption, pz2, by (simp; done), fun _ _ => ?_⟩
  refine T_if0 fun RI hRI => ?_
  refine B_cmp ?_
  refine W_name hc.scope (by rfl) (by rfl) ?_
  refine W_int ?_
  refine cmp_eq ?_
  (first | refine z_F (by rfl) ?_ | refine i_F (by rfl) fun NI hNI => ?_ | refine ite_F (by rfl) ?_)
  refine T_if0 fun RI hRI => ?_
  refine B_cmp ?_
  refine W_name hc.scope (by rfl) (by rfl) ?_
  refine W_int ?_
  refine cmp_eq ?_
  (first | refine z_T (by rfl) ?_ | refine i_T (by rfl) fun NI hNI => ?_ | refine ite_T (by rfl) ?_)
  refine T_setattr ?_
  refine W_name hc.scope (by rfl) (by rfl) ?_
  refine W_name hc.scope (by rfl) (by rfl) ?_
  refine ⟨_, _, _, _, _, _, rfl, by assumption, ⟨1, rfl⟩, pz2, by rfl, by exact Nat.le_of_ble_eq_true rfl, fun _ _ => ?_⟩
  refine S_nil ?_
  refine PostF.next (by assumption) ?_
  exact ⟨⟨D.t, n, D.k, D.d⟩, _, _, ⟨d, rfl⟩, rfl, rfl, by (refine Own.of_singles ?_; apply Own.sel; (· assumption); exact .cons pz2 (.cons pz0 (.cons pz0 .nil)))⟩
 ·refine OS_setitem ?_
  refine W_name hc.scope (by rfl) (by rfl) ?_
  refine W_name hc.scope (by rfl) (by rfl) ?_
  refine W_name hc.scope (by rfl) (by rfl) ?_
  refine ⟨_, _, _, _, _, rfl, rfl, by assumption, pz2, by (simp; done), fun _ _ => ?_⟩
  refine T_if0 fun RI hRI => ?_
  refine B_cmp ?_
  refine W_name hc.scope (by rfl) (by rfl) ?_
  refine W_int ?_
  refine cmp_eq ?_
  (first | refine z_F (by rfl) ?_ | refine i_F (by rfl) fun NI hNI => ?_ | refine ite_F (by rfl) ?_)
  refine T_if0 fun RI hRI => ?_
  refine B_cmp ?_
  refine W_name hc.scope (by rfl) (by rfl) ?_
  refine W_int ?_
  refine cmp_eq ?_
  (first | refine z_F (by rfl) ?_ | refine i_F (by rfl) fun NI hNI => ?_ | refine ite_F (by rfl) ?_)
  refine T_if0 fun RI hRI => ?_
  refine B_cmp ?_
  refine W_name hc.scope (by rfl) (by rfl) ?_
  refine W_int ?_
  refine cmp_eq ?_
  (first | refine z_T (by rfl) ?_ | refine i_T (by rfl) fun NI hNI => ?_ | refine ite_T (by rfl) ?_)
  refine T_setattr ?_
  refine W_name hc.scope (by rfl) (by rfl) ?_
  refine W_name hc.scope (by rfl) (by rfl) ?_
  refine ⟨_, _, _, _, _, _, rfl, by assumption, ⟨1, rfl⟩, pz2, by rfl, by exact Nat.le_of_ble_eq_true rfl, fun _ _ => ?_⟩
  refine S_nil ?_
  refine PostF.next (by assumption) ?_
  exact ⟨⟨D.t, D.i, n, D.d⟩, _, _, ⟨d, rfl⟩, rfl, rfl, by (refine Own.of_singles ?_; apply Own.sel; (· assumption); exact .cons pz2 (.cons pz0 (.cons pz0 .nil)))⟩
theorem turn_entry3 {a b : Addr} {D : ED} {l l' : List (Addr × O)} (hG : EG a D l) (hO : EO b D l') {n : Array UInt8} {μ : Mu} (H : Own [l, l'] μ) : Fn w 1 488 [.ref a, .ref b, .int 3, .bytes n] μ
  (fun v μ' => ∃ E l2 l3, EG a E l2 ∧ EO b E l3 ∧ E.d = n ∧ Own [l2, l3] μ') := by
 obtain ⟨d, rfl⟩ := hG
 subst hO
 have H : Own [[(a, _)], [(d, _)], [(b, _)]] μ := H.eq
 refine fn_go (ns := ["entry", "own", "f", "fresh"]) k488 (by (conv => lhs; whnf)) (by (conv => lhs; whnf)) (by kernel_rfl) (rvs4 fun a b c d => by kernel_rfl) rfl rfl rfl rfl rfl fun c hc KQ hKQ => ?_
 refine OS_setitem ?_
 refine W_name hc.scope (by rfl) (by rfl) ?_
 refine W_name hc.scope (by rfl) (by rfl) ?_
 refine W_name hc.scope (by rfl) (by rfl) ?_
 refine ⟨_, _, _, _, _, rfl, rfl, by assumption, pz2, by (simp; done), fun _ _ => ?_⟩
 refine T_if0 fun RI hRI => ?_
 refine B_cmp ?_
 refine W_name hc.scope (by rfl) (by rfl) ?_
 refine W_int ?_
 refine cmp_eq ?_
 (first | refine z_F (by rfl) ?_ | refine i_F (by rfl) fun NI hNI => ?_ | refine ite_F (by rfl) ?_)
 refine T_if0 fun RI hRI => ?_
 refine B_cmp ?_
 refine W_name hc.scope (by rfl) (by rfl) ?_
 refine W_int ?_
 refine cmp_eq ?_
 (first | refine z_F (by rfl) ?_ | refine i_F (by rfl) fun NI hNI => ?_ | refine ite_F (by rfl) ?_)
 refine T_if0 fun RI hRI => ?_
 refine B_cmp ?_
 refine W_name hc.scope (by rfl) (by rfl) ?_
 refine W_int ?_
 refine cmp_eq ?_
 (first | refine z_F (by rfl) ?_ | refine i_F (by rfl) fun NI hNI => ?_ | refine ite_F (by rfl) ?_)
 refine T_setattr ?_
 refine W_name hc.scope (by rfl) (by rfl) ?_
 refine W_name hc.scope (by rfl) (by rfl) ?_
 refine ⟨_, _, _, _, _, _, rfl, by assumption, ⟨1, rfl⟩, pz2, by rfl, by exact Nat.le_of_ble_eq_true rfl, fun _ _ => ?_⟩
 refine S_nil ?_
 refine PostF.next (by assumption) ?_
 exact ⟨⟨D.t, D.i, D.k, n⟩, _, _, ⟨d, rfl⟩, rfl, rfl, by (refine Own.of_singles ?_; apply Own.sel; (· assumption); exact .cons pz2 (.cons pz0 (.cons pz0 .nil)))⟩

noncomputable def mlist (D : MD) : List V := [.int D.n0, .int D.n1, .int D.n2, .int D.n3, .int D.n4, .int D.n5, .int D.n6, .int D.n7]
noncomputable def MD.say (D : MD) (f : Int) (x : Int) : MD := if f = 0 then { D with n0 := x } else if f = 1 then { D with n1 := x } else if f = 2 then { D with n2 := x } else if f = 3 then { D with n3 := x } else if f = 4 then { D with n4 := x } else if f = 5 then { D with n5 := x } else if f = 6 then { D with n6 := x } else { D with n7 := x }
theorem say_fn {a d b n e : Addr} {D D' : MD} {v : V} {r : List V} {f x : Int} (hf : f = 0 ∨ f = 1 ∨ f = 2 ∨ f = 3 ∨ f = 4 ∨ f = 5 ∨ f = 6 ∨ f = 7) {μ : Mu} (H : Own [[(a, .inst 267 d)], [(d, .dict (mfs D e v))], [(b, .list (.ref n :: r))], [(n, .list (mlist D'))]] μ) : Fn w 1 509 [.ref a, .ref b, .int f, .int x] μ
  (fun _ μ' => Own [[(a, .inst 267 d)], [(d, .dict (mfs (D.say f x) e v))], [(b, .list (.ref n :: r))], [(n, .list (mlist (D'.say f x)))]] μ') := by
 refine fn_go (ns := ["message", "own", "f", "n"]) k509 (by (conv => lhs; whnf)) (by (conv => lhs; whnf)) (by kernel_rfl) (rvs4 fun a b c d => by kernel_rfl) rfl rfl rfl rfl rfl fun c hc KQ hKQ => ?_
 have H : Own [[(a, _)], [(d, _)], [(b, _)], [(n, .list [.int D'.n0, .int D'.n1, .int D'.n2, .int D'.n3, .int D'.n4, .int D'.n5, .int D'.n6, .int D'.n7])]] μ := H.eq
 rcases hf with rfl | rfl | rfl | rfl | rfl | rfl | rfl | rfl
 all_goals
  first | (refine OS_setitem ?_; refine W_name hc.scope (by rfl) (by rfl) ?_; refine O_item ?_; refine W_name hc.scope (by rfl) (by rfl) ?_; refine W_int ?_; refine ⟨_, _, _, _, _, rfl, rfl, by assumption, .inl ⟨2, rfl⟩, by decide, by rfl, ?_⟩; refine W_name hc.scope (by rfl) (by rfl) ?_; refine ⟨_, _, _, _, _, rfl, rfl, by assumption, pz3, by (simp; done), fun _ _ => ?_⟩; refine T_if0 fun RI hRI => ?_; refine B_cmp ?_; refine W_name hc.scope (by rfl) (by rfl) ?_; refine W_int ?_; refine cmp_eq ?_; (first | refine z_F (by rfl) ?_ | refine i_F (by rfl) fun NI hNI => ?_ | refine ite_F (by rfl) ?_); refine T_if0 fun RI hRI => ?_; refine B_cmp ?_; refine W_name hc.scope (by rfl) (by rfl) ?_; refine W_int ?_; refine cmp_eq ?_; (first | refine z_F (by rfl) ?_ | refine i_F (by rfl) fun NI hNI => ?_ | refine ite_F (by rfl) ?_); refine T_if0 fun RI hRI => ?_; refine B_cmp ?_; refine W_name hc.scope (by rfl) (by rfl) ?_; refine W_int ?_; refine cmp_eq ?_; (first | refine z_F (by rfl) ?_ | refine i_F (by rfl) fun NI hNI => ?_ | refine ite_F (by rfl) ?_); refine T_if0 fun RI hRI => ?_; refine B_cmp ?_; refine W_name hc.scope (by rfl) (by rfl) ?_; refine W_int ?_; refine cmp_eq ?_; (first | refine z_F (by rfl) ?_ | refine i_F (by rfl) fun NI hNI => ?_ | refine ite_F (by rfl) ?_); refine T_if0 fun RI hRI => ?_; refine B_cmp ?_; refine W_name hc.scope (by rfl) (by rfl) ?_; refine W_int ?_; refine cmp_eq ?_; (first | refine z_F (by rfl) ?_ | refine i_F (by rfl) fun NI hNI => ?_ | refine ite_F (by rfl) ?_); refine T_if0 fun RI hRI => ?_; refine B_cmp ?_; refine W_name hc.scope (by rfl) (by rfl) ?_; refine W_int ?_; refine cmp_eq ?_; (first | refine z_F (by rfl) ?_ | refine i_F (by rfl) fun NI hNI => ?_ | refine ite_F (by rfl) ?_); refine T_if0 fun RI hRI => ?_; refine B_cmp ?_; refine W_name hc.scope (by rfl) (by rfl) ?_; refine W_int ?_; refine cmp_eq ?_; (first | refine z_T (by rfl) ?_ | refine i_T (by rfl) fun NI hNI => ?_ | refine ite_T (by rfl) ?_); refine T_setattr ?_; refine W_name hc.scope (by rfl) (by rfl) ?_; refine W_name hc.scope (by rfl) (by rfl) ?_; refine ⟨_, _, _, _, _, _, rfl, by assumption, ⟨1, rfl⟩, pz2, by rfl, by exact Nat.le_of_ble_eq_true rfl, fun _ _ => ?_⟩; refine S_nil ?_; refine PostF.next (by assumption) ?_) | (refine OS_setitem ?_; refine W_name hc.scope (by rfl) (by rfl) ?_; refine O_item ?_; refine W_name hc.scope (by rfl) (by rfl) ?_; refine W_int ?_; refine ⟨_, _, _, _, _, rfl, rfl, by assumption, .inl ⟨2, rfl⟩, by decide, by rfl, ?_⟩; refine W_name hc.scope (by rfl) (by rfl) ?_; refine ⟨_, _, _, _, _, rfl, rfl, by assumption, pz3, by (simp; done), fun _ _ => ?_⟩; refine T_if0 fun RI hRI => ?_; refine B_cmp ?_; refine W_name hc.scope (by rfl) (by rfl) ?_; refine W_int ?_; refine cmp_eq ?_; (first | refine z_F (by rfl) ?_ | refine i_F (by rfl) fun NI hNI => ?_ | refine ite_F (by rfl) ?_); refine T_if0 fun RI hRI => ?_; refine B_cmp ?_; refine W_name hc.scope (by rfl) (by rfl) ?_; refine W_int ?_; refine cmp_eq ?_; (first | refine z_F (by rfl) ?_ | refine i_F (by rfl) fun NI hNI => ?_ | refine ite_F (by rfl) ?_); refine T_if0 fun RI hRI => ?_; refine B_cmp ?_; refine W_name hc.scope (by rfl) (by rfl) ?_; refine W_int ?_; refine cmp_eq ?_; (first | refine z_F (by rfl) ?_ | refine i_F (by rfl) fun NI hNI => ?_ | refine ite_F (by rfl) ?_); refine T_if0 fun RI hRI => ?_; refine B_cmp ?_; refine W_name hc.scope (by rfl) (by rfl) ?_; refine W_int ?_; refine cmp_eq ?_; (first | refine z_F (by rfl) ?_ | refine i_F (by rfl) fun NI hNI => ?_ | refine ite_F (by rfl) ?_); refine T_if0 fun RI hRI => ?_; refine B_cmp ?_; refine W_name hc.scope (by rfl) (by rfl) ?_; refine W_int ?_; refine cmp_eq ?_; (first | refine z_F (by rfl) ?_ | refine i_F (by rfl) fun NI hNI => ?_ | refine ite_F (by rfl) ?_); refine T_if0 fun RI hRI => ?_; refine B_cmp ?_; refine W_name hc.scope (by rfl) (by rfl) ?_; refine W_int ?_; refine cmp_eq ?_; (first | refine z_F (by rfl) ?_ | refine i_F (by rfl) fun NI hNI => ?_ | refine ite_F (by rfl) ?_); refine T_if0 fun RI hRI => ?_; refine B_cmp ?_; refine W_name hc.scope (by rfl) (by rfl) ?_; refine W_int ?_; refine cmp_eq ?_; (first | refine z_F (by rfl) ?_ | refine i_F (by rfl) fun NI hNI => ?_ | refine ite_F (by rfl) ?_); refine T_setattr ?_; refine W_name hc.scope (by rfl) (by rfl) ?_; refine W_name hc.scope (by rfl) (by rfl) ?_; refine ⟨_, _, _, _, _, _, rfl, by assumption, ⟨1, rfl⟩, pz2, by rfl, by exact Nat.le_of_ble_eq_true rfl, fun _ _ => ?_⟩; refine S_nil ?_; refine PostF.next (by assumption) ?_) | (refine OS_setitem ?_; refine W_name hc.scope (by rfl) (by rfl) ?_; refine O_item ?_; refine W_name hc.scope (by rfl) (by rfl) ?_; refine W_int ?_; refine ⟨_, _, _, _, _, rfl, rfl, by assumption, .inl ⟨2, rfl⟩, by decide, by rfl, ?_⟩; refine W_name hc.scope (by rfl) (by rfl) ?_; refine ⟨_, _, _, _, _, rfl, rfl, by assumption, pz3, by (simp; done), fun _ _ => ?_⟩; refine T_if0 fun RI hRI => ?_; refine B_cmp ?_; refine W_name hc.scope (by rfl) (by rfl) ?_; refine W_int ?_; refine cmp_eq ?_; (first | refine z_F (by rfl) ?_ | refine i_F (by rfl) fun NI hNI => ?_ | refine ite_F (by rfl) ?_); refine T_if0 fun RI hRI => ?_; refine B_cmp ?_; refine W_name hc.scope (by rfl) (by rfl) ?_; refine W_int ?_; refine cmp_eq ?_; (first | refine z_F (by rfl) ?_ | refine i_F (by rfl) fun NI hNI => ?_ | refine ite_F (by rfl) ?_); refine T_if0 fun RI hRI => ?_; refine B_cmp ?_; refine W_name hc.scope (by rfl) (by rfl) ?_; refine W_int ?_; refine cmp_eq ?_; (first | refine z_F (by rfl) ?_ | refine i_F (by rfl) fun NI hNI => ?_ | refine ite_F (by rfl) ?_); refine T_if0 fun RI hRI => ?_; refine B_cmp ?_; refine W_name hc.scope (by rfl) (by rfl) ?_; refine W_int ?_; refine cmp_eq ?_; (first | refine z_F (by rfl) ?_ | refine i_F (by rfl) fun NI hNI => ?_ | refine ite_F (by rfl) ?_); refine T_if0 fun RI hRI => ?_; refine B_cmp ?_; refine W_name hc.scope (by rfl) (by rfl) ?_; refine W_int ?_; refine cmp_eq ?_; (first | refine z_F (by rfl) ?_ | refine i_F (by rfl) fun NI hNI => ?_ | refine ite_F (by rfl) ?_); refine T_if0 fun RI hRI => ?_; refine B_cmp ?_; refine W_name hc.scope (by rfl) (by rfl) ?_; refine W_int ?_; refine cmp_eq ?_; (first | refine z_T (by rfl) ?_ | refine i_T (by rfl) fun NI hNI => ?_ | refine ite_T (by rfl) ?_); refine T_setattr ?_; refine W_name hc.scope (by rfl) (by rfl) ?_; refine W_name hc.scope (by rfl) (by rfl) ?_; refine ⟨_, _, _, _, _, _, rfl, by assumption, ⟨1, rfl⟩, pz2, by rfl, by exact Nat.le_of_ble_eq_true rfl, fun _ _ => ?_⟩; refine S_nil ?_; refine PostF.next (by assumption) ?_) | (refine OS_setitem ?_; refine W_name hc.scope (by rfl) (by rfl) ?_; refine O_item ?_; refine W_name hc.scope (by rfl) (by rfl) ?_; refine W_int ?_; refine ⟨_, _, _, _, _, rfl, rfl, by assumption, .inl ⟨2, rfl⟩, by decide, by rfl, ?_⟩; refine W_name hc.scope (by rfl) (by rfl) ?_; refine ⟨_, _, _, _, _, rfl, rfl, by assumption, pz3, by (simp; done), fun _ _ => ?_⟩; refine T_if0 fun RI hRI => ?_; refine B_cmp ?_; refine W_name hc.scope (by rfl) (by rfl) ?_; refine W_int ?_; refine cmp_eq ?_; (first | refine z_F (by rfl) ?_ | refine i_F (by rfl) fun NI hNI => ?_ | refine ite_F (by rfl) ?_); refine T_if0 fun RI hRI => ?_; refine B_cmp ?_; refine W_name hc.scope (by rfl) (by rfl) ?_; refine W_int ?_; refine cmp_eq ?_; (first | refine z_F (by rfl) ?_ | refine i_F (by rfl) fun NI hNI => ?_ | refine ite_F (by rfl) ?_); refine T_if0 fun RI hRI => ?_; refine B_cmp ?_; refine W_name hc.scope (by rfl) (by rfl) ?_; refine W_int ?_; refine cmp_eq ?_; (first | refine z_F (by rfl) ?_ | refine i_F (by rfl) fun NI hNI => ?_ | refine ite_F (by rfl) ?_); refine T_if0 fun RI hRI => ?_; refine B_cmp ?_; refine W_name hc.scope (by rfl) (by rfl) ?_; refine W_int ?_; refine cmp_eq ?_; (first | refine z_F (by rfl) ?_ | refine i_F (by rfl) fun NI hNI => ?_ | refine ite_F (by rfl) ?_); refine T_if0 fun RI hRI => ?_; refine B_cmp ?_; refine W_name hc.scope (by rfl) (by rfl) ?_; refine W_int ?_; refine cmp_eq ?_; (first | refine z_T (by rfl) ?_ | refine i_T (by rfl) fun NI hNI => ?_ | refine ite_T (by rfl) ?_); refine T_setattr ?_; refine W_name hc.scope (by rfl) (by rfl) ?_; refine W_name hc.scope (by rfl) (by rfl) ?_; refine ⟨_, _, _, _, _, _, rfl, by assumption, ⟨1, rfl⟩, pz2, by rfl, by exact Nat.le_of_ble_eq_true rfl, fun _ _ => ?_⟩; refine S_nil ?_; refine PostF.next (by assumption) ?_) | (refine OS_setitem ?_; refine W_name hc.scope (by rfl) (by rfl) ?_; refine O_item ?_; refine W_name hc.scope (by rfl) (by rfl) ?_; refine W_int ?_; refine ⟨_, _, _, _, _, rfl, rfl, by assumption, .inl ⟨2, rfl⟩, by decide, by rfl, ?_⟩; refine W_name hc.scope (by rfl) (by rfl) ?_; refine ⟨_, _, _, _, _, rfl, rfl, by assumption, pz3, by (simp; done), fun _ _ => ?_⟩; refine T_if0 fun RI hRI => ?_; refine B_cmp ?_; refine W_name hc.scope (by rfl) (by rfl) ?_; refine W_int ?_; refine cmp_eq ?_; (first | refine z_F (by rfl) ?_ | refine i_F (by rfl) fun NI hNI => ?_ | refine ite_F (by rfl) ?_); refine T_if0 fun RI hRI => ?_; refine B_cmp ?_; refine W_name hc.scope (by rfl) (by rfl) ?_; refine W_int ?_; refine cmp_eq ?_; (first | refine z_F (by rfl) ?_ | refine i_F (by rfl) fun NI hNI => ?_ | refine ite_F (by rfl) ?_); refine T_if0 fun RI hRI => ?_; refine B_cmp ?_; refine W_name hc.scope (by rfl) (by rfl) ?_; refine W_int ?_; refine cmp_eq ?_; (first | refine z_F (by rfl) ?_ | refine i_F (by rfl) fun NI hNI => ?_ | refine ite_F (by rfl) ?_); refine T_if0 fun RI hRI => ?_; refine B_cmp ?_; refine W_name hc.scope (by rfl) (by rfl) ?_; refine W_int ?_; refine cmp_eq ?_; (first | refine z_T (by rfl) ?_ | refine i_T (by rfl) fun NI hNI => ?_ | refine ite_T (by rfl) ?_); refine T_setattr ?_; refine W_name hc.scope (by rfl) (by rfl) ?_; refine W_name hc.scope (by rfl) (by rfl) ?_; refine ⟨_, _, _, _, _, _, rfl, by assumption, ⟨1, rfl⟩, pz2, by rfl, by exact Nat.le_of_ble_eq_true rfl, fun _ _ => ?_⟩; refine S_nil ?_; refine PostF.next (by assumption) ?_) | (refine OS_setitem ?_; refine W_name hc.scope (by rfl) (by rfl) ?_; refine O_item ?_; refine W_name hc.scope (by rfl) (by rfl) ?_; refine W_int ?_; refine ⟨_, _, _, _, _, rfl, rfl, by assumption, .inl ⟨2, rfl⟩, by decide, by rfl, ?_⟩; refine W_name hc.scope (by rfl) (by rfl) ?_; refine ⟨_, _, _, _, _, rfl, rfl, by assumption, pz3, by (simp; done), fun _ _ => ?_⟩; refine T_if0 fun RI hRI => ?_; refine B_cmp ?_; refine W_name hc.scope (by rfl) (by rfl) ?_; refine W_int ?_; refine cmp_eq ?_; (first | refine z_F (by rfl) ?_ | refine i_F (by rfl) fun NI hNI => ?_ | refine ite_F (by rfl) ?_); refine T_if0 fun RI hRI => ?_; refine B_cmp ?_; refine W_name hc.scope (by rfl) (by rfl) ?_; refine W_int ?_; refine cmp_eq ?_; (first | refine z_F (by rfl) ?_ | refine i_F (by rfl) fun NI hNI => ?_ | refine ite_F (by rfl) ?_); refine T_if0 fun RI hRI => ?_; refine B_cmp ?_; refine W_name hc.scope (by rfl) (by rfl) ?_; refine W_int ?_; refine cmp_eq ?_; (first | refine z_T (by rfl) ?_ | refine i_T (by rfl) fun NI hNI => ?_ | refine ite_T (by rfl) ?_); refine T_setattr ?_; refine W_name hc.scope (by rfl) (by rfl) ?_; refine W_name hc.scope (by rfl) (by rfl) ?_; refine ⟨_, _, _, _, _, _, rfl, by assumption, ⟨1, rfl⟩, pz2, by rfl, by exact Nat.le_of_ble_eq_true rfl, fun _ _ => ?_⟩; refine S_nil ?_; refine PostF.next (by assumption) ?_) | (refine OS_setitem ?_; refine W_name hc.scope (by rfl) (by rfl) ?_; refine O_item ?_; refine W_name hc.scope (by rfl) (by rfl) ?_; refine W_int ?_; refine ⟨_, _, _, _, _, rfl, rfl, by assumption, .inl ⟨2, rfl⟩, by decide, by rfl, ?_⟩; refine W_name hc.scope (by rfl) (by rfl) ?_; refine ⟨_, _, _, _, _, rfl, rfl, by assumption, pz3, by (simp; done), fun _ _ => ?_⟩; refine T_if0 fun RI hRI => ?_; refine B_cmp ?_; refine W_name hc.scope (by rfl) (by rfl) ?_; refine W_int ?_; refine cmp_eq ?_; (first | refine z_F (by rfl) ?_ | refine i_F (by rfl) fun NI hNI => ?_ | refine ite_F (by rfl) ?_); refine T_if0 fun RI hRI => ?_; refine B_cmp ?_; refine W_name hc.scope (by rfl) (by rfl) ?_; refine W_int ?_; refine cmp_eq ?_; (first | refine z_T (by rfl) ?_ | refine i_T (by rfl) fun NI hNI => ?_ | refine ite_T (by rfl) ?_); refine T_setattr ?_; refine W_name hc.scope (by rfl) (by rfl) ?_; refine W_name hc.scope (by rfl) (by rfl) ?_; refine ⟨_, _, _, _, _, _, rfl, by assumption, ⟨1, rfl⟩, pz2, by rfl, by exact Nat.le_of_ble_eq_true rfl, fun _ _ => ?_⟩; refine S_nil ?_; refine PostF.next (by assumption) ?_) | (refine OS_setitem ?_; refine W_name hc.scope (by rfl) (by rfl) ?_; refine O_item ?_; refine W_name hc.scope (by rfl) (by rfl) ?_; refine W_int ?_; refine ⟨_, _, _, _, _, rfl, rfl, by assumption, .inl ⟨2, rfl⟩, by decide, by rfl, ?_⟩; refine W_name hc.scope (by rfl) (by rfl) ?_; refine ⟨_, _, _, _, _, rfl, rfl, by assumption, pz3, by (simp; done), fun _ _ => ?_⟩; refine T_if0 fun RI hRI => ?_; refine B_cmp ?_; refine W_name hc.scope (by rfl) (by rfl) ?_; refine W_int ?_; refine cmp_eq ?_; (first | refine z_T (by rfl) ?_ | refine i_T (by rfl) fun NI hNI => ?_ | refine ite_T (by rfl) ?_); refine T_setattr ?_; refine W_name hc.scope (by rfl) (by rfl) ?_; refine W_name hc.scope (by rfl) (by rfl) ?_; refine ⟨_, _, _, _, _, _, rfl, by assumption, ⟨1, rfl⟩, pz2, by rfl, by exact Nat.le_of_ble_eq_true rfl, fun _ _ => ?_⟩; refine S_nil ?_; refine PostF.next (by assumption) ?_)
  (apply Own.sel; (· assumption); exact .cons pz2 (.cons pz0 (.cons pz1 (.cons pz0 .nil))))
noncomputable def ntry (n : Int) : ED := ⟨n, n + 1, 2, #[109]⟩
theorem entry_more {a d b e eo n : Addr} {D : MD} {v vo : V} {rej : Bool} {ctx : Array UInt8} {as bs : List Addr} {x : Int} (h1 : as.length ≤ 1000) (h2 : bs.length ≤ 1000) {μ : Mu}
  (H : Own [[(a, .inst 267 d)], [(d, .dict (mfs D e v))], [(e, .list (as.map .ref))], [(b, .list [.ref n, .bool rej, .ref eo, vo, .bytes ctx])], [(eo, .list (bs.map .ref))]] μ) : Fn w 5 516 [.ref a, .ref b, .int x] μ
  (fun _ μ' => ∃ y ly z lz, EG y (ntry x) ly ∧ EO z (ntry x) lz ∧ Own [[(a, .inst 267 d)], [(d, .dict (mfs D e v))], [(e, .list ((as ++ [y]).map .ref))], ly, [(b, .list [.ref n, .bool rej, .ref eo, vo, .bytes ctx])], [(eo, .list ((bs ++ [z]).map .ref))], lz] μ') := by
 refine fn_go (ns := ["message", "own", "n"]) k516 (by (conv => lhs; whnf)) (by (conv => lhs; whnf)) (by kernel_rfl) (rvs3 fun a b c => by kernel_rfl) rfl rfl rfl rfl rfl fun c hc KQ hKQ => ?_
 refine T_expr ?_
 refine O_append ?_
 refine O_item ?_
 refine W_name hc.scope (by rfl) (by rfl) ?_
 refine W_int ?_
 refine ⟨_, _, _, _, _, rfl, rfl, by assumption, .inl ⟨3, rfl⟩, by decide, by rfl, ?_⟩
 refine ⟨_, _, _, rfl, by assumption, ⟨4, rfl⟩, ?_⟩
 refine O_list ?_
 refine L_cons ?_
 refine W_name hc.scope (by rfl) (by rfl) ?_
 refine L_cons ?_
 refine W_bin ?_
 refine W_name hc.scope (by rfl) (by rfl) ?_
 refine W_int ?_
 refine bin_add ?_
 refine L_cons ?_
 refine W_int ?_
 refine L_cons ?_
 refine W_bytes ?_
 refine L_nil ?_
 refine ⟨_, by assumption, by exact Nat.le_of_ble_eq_true rfl, fun _ _ _ => ?_⟩
 refine ⟨_, _, _, by assumption, pz5, by (simp; omega), fun _ _ => ?_⟩
 refine T_expr ?_
 refine O_append ?_
 refine T_attr ?_
 refine W_name hc.scope (by rfl) (by rfl) ?_
 refine ⟨_, _, _, _, _, _, rfl, by assumption, ⟨2, rfl⟩, ⟨3, rfl⟩, by rfl, by rfl, ?_⟩
 refine ⟨_, _, _, rfl, by assumption, ⟨4, rfl⟩, ?_⟩
 refine T_new hc.scope hc.room rfl rfl ?_
 refine L_cons ?_
 refine W_name hc.scope (by rfl) (by rfl) ?_
 refine L_cons ?_
 refine W_bin ?_
 refine W_name hc.scope (by rfl) (by rfl) ?_
 refine W_int ?_
 refine bin_add ?_
 refine L_cons ?_
 refine W_int ?_
 refine L_cons ?_
 refine W_bytes ?_
 refine L_nil ?_
 refine ⟨_, by assumption, fun _ _ _ _ => ?_⟩
 rename_i z _ _ _ _ y dd _ _
 refine entry_init_k (by rfl) (by assumption) (by exact .cons pz0 (.cons pz0 .nil)) fun ly μ3 hy H3 => ?_
 refine ⟨rfl, ?_⟩
 refine ⟨_, _, _, by assumption, pz5, by (simp; omega), fun _ _ => ?_⟩
 refine S_nil ?_
 refine PostF.next (by assumption) ?_
 refine ⟨y, ly, z, _, hy, rfl, ?_⟩
 rw [List.map_append, List.map_append]
 (apply Own.sel; (· assumption); exact .cons pz4 (.cons pz4 (.cons pz0 (.cons pz0 (.cons pz2 (.cons pz0 (.cons pz0 .nil)))))))
theorem own_conf_row {a : Addr} {D : CD} {l : List (Addr × O)} (hG : CO a D l) (hs : D.Fit) {μ : Mu} (H : Own [l] μ) : Fn w 1 438 [.ref a] μ (fun v μ' => ∃ t r0 r1 r2 r3, v = .ref t ∧
  Own [[(t, .tup [.ref r0, .ref r1, .ref r2, .ref r3, .bool D.al])], [(r0, .tup (D.v.map .int))], [(r1, .tup (D.l.map .int))], [(r2, .tup (D.o.map .int))], [(r3, .tup (D.n.map .int))], l] μ') := by
 obtain ⟨x0, x1, x2, x3, rfl⟩ := hG
 obtain ⟨⟨_, s0⟩, ⟨_, s1⟩, ⟨_, s2⟩, ⟨_, s3⟩⟩ := hs
 have H : Own [[(a, _)], [(x0, _)], [(x1, _)], [(x2, _)], [(x3, _)]] μ := H.eq
 refine fn_go (ns := ["members"]) k438 (by (conv => lhs; whnf)) (by (conv => lhs; whnf)) (by kernel_rfl) (rvs1 fun a => by kernel_rfl) rfl rfl rfl rfl rfl fun c hc KQ hKQ => ?_
 refine S_ret ?_
 refine O_tuple ?_
 refine L_cons ?_
 refine O_tupleOf hc.scope ?_
 refine O_item ?_
 refine W_name hc.scope (by rfl) (by rfl) ?_
 refine W_int ?_
 refine ⟨_, _, _, _, _, rfl, rfl, by assumption, .inl ⟨0, rfl⟩, by decide, by rfl, ?_⟩
 refine ⟨_, _, _, rfl, by assumption, ⟨1, rfl⟩, by (simp; omega), fun _ _ _ => ?_⟩
 refine L_cons ?_
 refine O_tupleOf hc.scope ?_
 refine O_item ?_
 refine W_name hc.scope (by rfl) (by rfl) ?_
 refine W_int ?_
 refine ⟨_, _, _, _, _, rfl, rfl, by assumption, .inl ⟨1, rfl⟩, by decide, by rfl, ?_⟩
 refine ⟨_, _, _, rfl, by assumption, ⟨3, rfl⟩, by (simp; omega), fun _ _ _ => ?_⟩
 refine L_cons ?_
 refine O_tupleOf hc.scope ?_
 refine O_item ?_
 refine W_name hc.scope (by rfl) (by rfl) ?_
 refine W_int ?_
 refine ⟨_, _, _, _, _, rfl, rfl, by assumption, .inl ⟨2, rfl⟩, by decide, by rfl, ?_⟩
 refine ⟨_, _, _, rfl, by assumption, ⟨5, rfl⟩, by (simp; omega), fun _ _ _ => ?_⟩
 refine L_cons ?_
 refine O_tupleOf hc.scope ?_
 refine O_item ?_
 refine W_name hc.scope (by rfl) (by rfl) ?_
 refine W_int ?_
 refine ⟨_, _, _, _, _, rfl, rfl, by assumption, .inl ⟨3, rfl⟩, by decide, by rfl, ?_⟩
 refine ⟨_, _, _, rfl, by assumption, ⟨7, rfl⟩, by (simp; omega), fun _ _ _ => ?_⟩
 refine L_cons ?_
 refine O_item ?_
 refine W_name hc.scope (by rfl) (by rfl) ?_
 refine W_int ?_
 refine ⟨_, _, _, _, _, rfl, rfl, by assumption, .inl ⟨4, rfl⟩, by decide, by rfl, ?_⟩
 refine L_nil ?_
 refine ⟨_, by assumption, by exact Nat.le_of_ble_eq_true rfl, fun _ _ _ => ?_⟩
 refine PostF.ret (by assumption) ?_
 exact ⟨_, _, _, _, _, rfl, by (refine Own.of_singles ?_; apply Own.sel; (· assumption); exact .cons pz0 (.cons pz3 (.cons pz2 (.cons pz1 (.cons pz0 (.cons pz0 (.cons pz0 (.cons pz0 (.cons pz0 (.cons pz0 .nil))))))))))⟩

theorem own_conf_row_k {a : Addr} {D : CD} {l : List (Addr × O)} (hG : CO a D l) (hs : D.Fit) {r' : Nat} (hr : Nat.ble 1 r' = true) {L K : List (List (Addr × O))} {μ : Mu} (H : Own L μ) (p : Picks [l] L K) {Q : V → Mu → Prop} (k : ∀ t r0 r1 r2 r3 μ', Own ([(t, .tup [.ref r0, .ref r1, .ref r2, .ref r3, .bool D.al])] :: [(r0, .tup (D.v.map .int))] :: [(r1, .tup (D.l.map .int))] :: [(r2, .tup (D.o.map .int))] :: [(r3, .tup (D.n.map .int))] :: l :: K) μ' → Q (.ref t) μ') : Fn w r' 438 [.ref a] μ Q :=
 Fn.call (fun _ H => own_conf_row hG hs H) hr H p fun v μ1 μ' h hF => by obtain ⟨t, r0, r1, r2, r3, rfl, H1'⟩ := h; exact k t r0 r1 r2 r3 μ' (hF _ H1')
noncomputable def LI (y : Addr) (xs : List Int) (l : List (Addr × O)) : Prop := l = [(y, .list (List.map V.int xs))]
theorem twin_fn {a : Addr} {D : CD} {l : List (Addr × O)} (hG : CO a D l) (hs : D.Fit) {μ : Mu} (H : Own [l] μ) : Fn w 1 393 [.ref a] μ (fun v μ' => ∃ b lb, v = .ref b ∧ CO b D lb ∧ Own [lb, l] μ') := by
 obtain ⟨x0, x1, x2, x3, rfl⟩ := hG
 obtain ⟨⟨_, s0⟩, ⟨_, s1⟩, ⟨_, s2⟩, ⟨_, s3⟩⟩ := hs
 have H : Own [[(a, _)], [(x0, _)], [(x1, _)], [(x2, _)], [(x3, _)]] μ := H.eq
 refine fn_go (ns := ["members"]) k393 (by (conv => lhs; whnf)) (by (conv => lhs; whnf)) (by kernel_rfl) (rvs1 fun a => by kernel_rfl) rfl rfl rfl rfl rfl fun c hc KQ hKQ => ?_
 refine S_ret ?_
 refine W_bin ?_
 refine O_comp (fun n k acc μ1 => ∃ (i : Nat) (ys : List Addr) (rs : List (List (Addr × O))), k = .range i (4 - i) ∧ n = 4 - i ∧ i ≤ 4 ∧ acc = ys.map .ref ∧ Alls LI ys ([D.v, D.l, D.o, D.n].take i) rs ∧
  Own (rs.flatten :: [[(a, .list [.ref x0, .ref x1, .ref x2, .ref x3, .bool D.al])], [(x0, .list (List.map V.int D.v))], [(x1, .list (List.map V.int D.l))], [(x2, .list (List.map V.int D.o))], [(x3, .list (List.map V.int D.n))]]) μ1) (by exact hc.scope) (by exact hc.celled) hc.own (by rfl) ?_ ?_
 ·refine I_range (by exact hc.scope) ?_
  refine W_int ?_
  refine ⟨_, rfl, ?_⟩
  exact ⟨by decide, _, 0, [], [], rfl, rfl, by exact Nat.le_of_ble_eq_true rfl, rfl, .nil, H.unnil⟩
 ·rintro c' hc' N hN n k acc μ1 ⟨i, ys, rs, rfl, rfl, hi, rfl, hR, H1⟩
  rw [hc.room] at hc'
  have hyl : ys.length ≤ 4 := by rw [hR.length.1, List.length_take]; simp; omega
  refine ⟨by simp; omega, ?_⟩
  match i with
  | 0 =>
   refine .inr ⟨_, _, .range (by decide), ?_⟩
   show WE c' _ _ μ1 _
   refine O_listOf hc'.scope ?_
   refine O_item ?_
   refine W_name hc'.scope (by rfl) (by rfl) ?_
   refine W_name hc'.scope (by rfl) (by rfl) ?_
   refine ⟨_, _, _, _, _, rfl, rfl, by assumption, .inl ⟨1, rfl⟩, by decide, by rfl, ?_⟩
   refine ⟨_, _, _, rfl, by assumption, ⟨2, rfl⟩, by (simp; omega), fun _ _ _ => ?_⟩
   refine PostC.go (by assumption) ?_
   rename_i y μ2 H2
   exact ⟨3, by decide, 1, ys ++ [y], rs ++ [[(y, _)]], rfl, rfl, by decide, by simp, hR.append (.one rfl), H2.fin (P := [rs.flatten, [(y, _)], [(a, _)], [(x0, _)], [(x1, _)], [(x2, _)], [(x3, _)]]) (by exact .cons pz1 (.cons pz0 (.cons pz0 (.cons pz0 (.cons pz0 (.cons pz0 (.cons pz0 .nil))))))) (by simp)⟩
  | 1 =>
   refine .inr ⟨_, _, .range (by decide), ?_⟩
   show WE c' _ _ μ1 _
   refine O_listOf hc'.scope ?_
   refine O_item ?_
   refine W_name hc'.scope (by rfl) (by rfl) ?_
   refine W_name hc'.scope (by rfl) (by rfl) ?_
   refine ⟨_, _, _, _, _, rfl, rfl, by assumption, .inl ⟨1, rfl⟩, by decide, by rfl, ?_⟩
   refine ⟨_, _, _, rfl, by assumption, ⟨3, rfl⟩, by (simp; omega), fun _ _ _ => ?_⟩
   refine PostC.go (by assumption) ?_
   rename_i y μ2 H2
   exact ⟨2, by decide, 2, ys ++ [y], rs ++ [[(y, _)]], rfl, rfl, by decide, by simp, hR.append (.one rfl), H2.fin (P := [rs.flatten, [(y, _)], [(a, _)], [(x0, _)], [(x1, _)], [(x2, _)], [(x3, _)]]) (by exact .cons pz1 (.cons pz0 (.cons pz0 (.cons pz0 (.cons pz0 (.cons pz0 (.cons pz0 .nil))))))) (by simp)⟩
  | 2 =>
   refine .inr ⟨_, _, .range (by decide), ?_⟩
   show WE c' _ _ μ1 _
   refine O_listOf hc'.scope ?_
   refine O_item ?_
   refine W_name hc'.scope (by rfl) (by rfl) ?_
   refine W_name hc'.scope (by rfl) (by rfl) ?_
   refine ⟨_, _, _, _, _, rfl, rfl, by assumption, .inl ⟨1, rfl⟩, by decide, by rfl, ?_⟩
   refine ⟨_, _, _, rfl, by assumption, ⟨4, rfl⟩, by (simp; omega), fun _ _ _ => ?_⟩
   refine PostC.go (by assumption) ?_
   rename_i y μ2 H2
   exact ⟨1, by decide, 3, ys ++ [y], rs ++ [[(y, _)]], rfl, rfl, by decide, by simp, hR.append (.one rfl), H2.fin (P := [rs.flatten, [(y, _)], [(a, _)], [(x0, _)], [(x1, _)], [(x2, _)], [(x3, _)]]) (by exact .cons pz1 (.cons pz0 (.cons pz0 (.cons pz0 (.cons pz0 (.cons pz0 (.cons pz0 .nil))))))) (by simp)⟩
  | 3 =>
   refine .inr ⟨_, _, .range (by decide), ?_⟩
   show WE c' _ _ μ1 _
   refine O_listOf hc'.scope ?_
   refine O_item ?_
   refine W_name hc'.scope (by rfl) (by rfl) ?_
   refine W_name hc'.scope (by rfl) (by rfl) ?_
   refine ⟨_, _, _, _, _, rfl, rfl, by assumption, .inl ⟨1, rfl⟩, by decide, by rfl, ?_⟩
   refine ⟨_, _, _, rfl, by assumption, ⟨5, rfl⟩, by (simp; omega), fun _ _ _ => ?_⟩
   refine PostC.go (by assumption) ?_
   rename_i y μ2 H2
   exact ⟨0, by decide, 4, ys ++ [y], rs ++ [[(y, _)]], rfl, rfl, by decide, by simp, hR.append (.one rfl), H2.fin (P := [rs.flatten, [(y, _)], [(a, _)], [(x0, _)], [(x1, _)], [(x2, _)], [(x3, _)]]) (by exact .cons pz1 (.cons pz0 (.cons pz0 (.cons pz0 (.cons pz0 (.cons pz0 (.cons pz0 .nil))))))) (by simp)⟩
  | 4 =>
   refine .inl ⟨.rangeEnd (by decide), _, H1, fun E μ2 H2 => ?_⟩
   obtain ⟨⟩ | @⟨y0, _, l0, _, _, _, h0, hR⟩ := hR
   obtain ⟨⟩ | @⟨y1, _, l1, _, _, _, h1, hR⟩ := hR
   obtain ⟨⟩ | @⟨y2, _, l2, _, _, _, h2, hR⟩ := hR
   obtain ⟨⟩ | @⟨y3, _, l3, _, _, _, h3, hR⟩ := hR
   cases hR
   cases h0; cases h1; cases h2; cases h3
   have H3 : Own [[(E, _)], [(y0, _)], [(y1, _)], [(y2, _)], [(y3, _)], [(a, _)], [(x0, _)], [(x1, _)], [(x2, _)], [(x3, _)]] μ2 := H2.eq
   refine O_list ?_
   refine L_cons ?_
   refine O_item ?_
   refine W_name hc.scope (by rfl) (by rfl) ?_
   refine W_int ?_
   refine ⟨_, _, _, _, _, rfl, rfl, by assumption, .inl ⟨5, rfl⟩, by decide, by rfl, ?_⟩
   refine L_nil ?_
   refine ⟨_, by assumption, by exact Nat.le_of_ble_eq_true rfl, fun _ _ _ => ?_⟩
   refine bin_cat (by assumption) ⟨1, rfl⟩ ⟨0, rfl⟩ (by exact Nat.le_of_ble_eq_true rfl) (fun _ _ _ => ?_)
   refine PostF.ret (by assumption) ?_
   exact ⟨_, _, rfl, ⟨y0, y1, y2, y3, rfl⟩, by (refine Own.of_singles ?_; apply Own.sel; (· assumption); exact .cons pz0 (.cons pz2 (.cons pz2 (.cons pz2 (.cons pz2 (.cons pz2 (.cons pz2 (.cons pz2 (.cons pz2 (.cons pz2 .nil))))))))))⟩

theorem own_twin_conf {a : Addr} {D : CD} {l : List (Addr × O)} {k : Int} (hk : k = 0 ∨ k = 1) (hG : CO a D l) (hs : D.Fit) {μ : Mu} (H : Own [l] μ) : Fn w 2 448 [.int k, .ref a] μ (fun v μ' => ∃ b lb, v = .ref b ∧ CO b D lb ∧ Own [lb, l] μ') := by
 refine fn_go (ns := ["kind", "own"]) k448 (by (conv => lhs; whnf)) (by (conv => lhs; whnf)) (by kernel_rfl) (rvs2 fun a b => by kernel_rfl) rfl rfl rfl rfl rfl fun c hc KQ hKQ => ?_
 rcases hk with rfl | rfl
 all_goals
  refine T_if fun RI hRI => ?_
  refine B_cmp ?_
  refine W_name hc.scope (by rfl) (by rfl) ?_
  refine W_int ?_
  refine cmp_lt ?_
  (first | refine z_T (by rfl) ?_ | refine i_T (by rfl) fun NI hNI => ?_ | refine ite_T (by rfl) ?_)
  refine S_ret ?_
  refine T_fn hc.scope hc.room rfl rfl ?_
  refine L_cons ?_
  refine W_name hc.scope (by rfl) (by rfl) ?_
  refine L_nil ?_
  exact Fn.mono (twin_fn hG hs H) (Nat.le_refl _) fun v μ' h => fln_ret (hKQ _ _ _ h)
theorem own_twin_hard {a : Addr} {D : HD} {l : List (Addr × O)} (hG : HO a D l) {μ : Mu} (H : Own [l] μ) : Fn w 2 448 [.int 2, .ref a] μ (fun v μ' => ∃ b lb, v = .ref b ∧ HO b D lb ∧ Own [lb, l] μ') := by
 refine fn_go (ns := ["kind", "own"]) k448 (by (conv => lhs; whnf)) (by (conv => lhs; whnf)) (by kernel_rfl) (rvs2 fun a b => by kernel_rfl) rfl rfl rfl rfl rfl fun c hc KQ hKQ => ?_
 subst hG
 refine T_if fun RI hRI => ?_
 refine B_cmp ?_
 refine W_name hc.scope (by rfl) (by rfl) ?_
 refine W_int ?_
 refine cmp_lt ?_
 (first | refine z_F (by rfl) ?_ | refine i_F (by rfl) fun NI hNI => ?_ | refine ite_F (by rfl) ?_)
 refine S_nil ?_
 refine fln_next ?_
 refine T_if fun RI hRI => ?_
 refine B_cmp ?_
 refine W_name hc.scope (by rfl) (by rfl) ?_
 refine W_int ?_
 refine cmp_lt ?_
 (first | refine z_T (by rfl) ?_ | refine i_T (by rfl) fun NI hNI => ?_ | refine ite_T (by rfl) ?_)
 refine S_ret ?_
 refine O_listOf hc.scope ?_
 refine W_name hc.scope (by rfl) (by rfl) ?_
 refine ⟨_, _, _, rfl, by assumption, ⟨0, rfl⟩, by exact Nat.le_of_ble_eq_true rfl, fun _ _ _ => ?_⟩
 refine fln_ret ?_
 refine PostF.ret (by assumption) ?_
 exact ⟨_, _, rfl, rfl, by (apply Own.sel; (· assumption); exact .cons pz0 (.cons pz0 .nil))⟩
theorem own_twin_entry {a : Addr} {D : ED} {l : List (Addr × O)} (hG : EO a D l) {μ : Mu} (H : Own [l] μ) : Fn w 2 448 [.int 3, .ref a] μ (fun v μ' => ∃ b lb, v = .ref b ∧ EO b D lb ∧ Own [lb, l] μ') := by
 refine fn_go (ns := ["kind", "own"]) k448 (by (conv => lhs; whnf)) (by (conv => lhs; whnf)) (by kernel_rfl) (rvs2 fun a b => by kernel_rfl) rfl rfl rfl rfl rfl fun c hc KQ hKQ => ?_
 subst hG
 refine T_if fun RI hRI => ?_
 refine B_cmp ?_
 refine W_name hc.scope (by rfl) (by rfl) ?_
 refine W_int ?_
 refine cmp_lt ?_
 (first | refine z_F (by rfl) ?_ | refine i_F (by rfl) fun NI hNI => ?_ | refine ite_F (by rfl) ?_)
 refine S_nil ?_
 refine fln_next ?_
 refine T_if fun RI hRI => ?_
 refine B_cmp ?_
 refine W_name hc.scope (by rfl) (by rfl) ?_
 refine W_int ?_
 refine cmp_lt ?_
 (first | refine z_T (by rfl) ?_ | refine i_T (by rfl) fun NI hNI => ?_ | refine ite_T (by rfl) ?_)
 refine S_ret ?_
 refine O_listOf hc.scope ?_
 refine W_name hc.scope (by rfl) (by rfl) ?_
 refine ⟨_, _, _, rfl, by assumption, ⟨0, rfl⟩, by exact Nat.le_of_ble_eq_true rfl, fun _ _ _ => ?_⟩
 refine fln_ret ?_
 refine PostF.ret (by assumption) ?_
 exact ⟨_, _, rfl, rfl, by (apply Own.sel; (· assumption); exact .cons pz0 (.cons pz0 .nil))⟩
theorem own_twin_shot {a : Addr} {D : SD} {l : List (Addr × O)} (hG : SO a D l) (hs : D.c.Fit) {μ : Mu} (H0 : Own [l] μ) : Fn w 2 448 [.int 4, .ref a] μ (fun v μ' => ∃ b lb, v = .ref b ∧ SO b D lb ∧ Own [lb, l] μ') := by
 obtain ⟨b, lc, hC, rfl⟩ := hG
 have H : Own [[(a, _)], lc] μ := H0.uncons
 refine fn_go (ns := ["kind", "own"]) k448 (by (conv => lhs; whnf)) (by (conv => lhs; whnf)) (by kernel_rfl) (rvs2 fun a b => by kernel_rfl) rfl rfl rfl rfl rfl fun c hc KQ hKQ => ?_
 refine T_if fun RI hRI => ?_
 refine B_cmp ?_
 refine W_name hc.scope (by rfl) (by rfl) ?_
 refine W_int ?_
 refine cmp_lt ?_
 (first | refine z_F (by rfl) ?_ | refine i_F (by rfl) fun NI hNI => ?_ | refine ite_F (by rfl) ?_)
 refine S_nil ?_
 refine fln_next ?_
 refine T_if fun RI hRI => ?_
 refine B_cmp ?_
 refine W_name hc.scope (by rfl) (by rfl) ?_
 refine W_int ?_
 refine cmp_lt ?_
 (first | refine z_F (by rfl) ?_ | refine i_F (by rfl) fun NI hNI => ?_ | refine ite_F (by rfl) ?_)
 refine S_nil ?_
 refine fln_next ?_
 refine T_if fun RI hRI => ?_
 refine B_cmp ?_
 refine W_name hc.scope (by rfl) (by rfl) ?_
 refine W_int ?_
 refine cmp_eq ?_
 (first | refine z_T (by rfl) ?_ | refine i_T (by rfl) fun NI hNI => ?_ | refine ite_T (by rfl) ?_)
 refine S_ret ?_
 refine O_list ?_
 refine L_cons ?_
 refine O_item ?_
 refine W_name hc.scope (by rfl) (by rfl) ?_
 refine W_int ?_
 refine ⟨_, _, _, _, _, rfl, rfl, by assumption, .inl ⟨0, rfl⟩, by decide, by rfl, ?_⟩
 refine L_cons ?_
 refine O_item ?_
 refine W_name hc.scope (by rfl) (by rfl) ?_
 refine W_int ?_
 refine ⟨_, _, _, _, _, rfl, rfl, by assumption, .inl ⟨0, rfl⟩, by decide, by rfl, ?_⟩
 refine L_cons ?_
 refine T_fn hc.scope hc.room rfl rfl ?_
 refine L_cons ?_
 refine O_item ?_
 refine W_name hc.scope (by rfl) (by rfl) ?_
 refine W_int ?_
 refine ⟨_, _, _, _, _, rfl, rfl, by assumption, .inl ⟨0, rfl⟩, by decide, by rfl, ?_⟩
 refine L_nil ?_
 refine Fn.call (fun _ H => twin_fn hC hs H) (by rfl) H (by exact .cons pz1 .nil) ?_
 rintro v _ μ2 ⟨e, le, rfl, hE, H1⟩ hF
 have H1 := hF.b2 H1
 refine L_cons ?_
 refine O_item ?_
 refine W_name hc.scope (by rfl) (by rfl) ?_
 refine W_int ?_
 refine ⟨_, _, _, _, _, rfl, rfl, by assumption, .inl ⟨2, rfl⟩, by decide, by rfl, ?_⟩
 refine L_nil ?_
 refine ⟨_, by assumption, by exact Nat.le_of_ble_eq_true rfl, fun _ _ _ => ?_⟩
 refine fln_ret ?_
 refine PostF.ret (by assumption) ?_
 rename_i y μ3 H3
 exact ⟨_, _, rfl, ⟨e, le, hE, rfl⟩, H3.fin (P := [[(y, _)], le, [(a, _)], lc]) (by exact .cons pz0 (.cons pz0 (.cons pz1 (.cons pz0 .nil)))) (by simp)⟩
theorem own_twin_msg {a : Addr} {D : MD} {l : List (Addr × O)} (hG : MO a D l) (hs : D.Fit) {μ : Mu} (H0 : Own [l] μ) : Fn w 4 448 [.int 5, .ref a] μ (fun v μ' => ∃ b lb, v = .ref b ∧ MO b D lb ∧ Own [lb, l] μ') := by
 obtain ⟨n, e, as, ls, v, lv, hE, hV, rfl⟩ := hG
 have H : Own [[(a, _)], [(n, _)], [(e, _)], ls.flatten, lv] μ := H0.un5
 refine fn_go (ns := ["kind", "own"]) k448 (by (conv => lhs; whnf)) (by (conv => lhs; whnf)) (by kernel_rfl) (rvs2 fun a b => by kernel_rfl) rfl rfl rfl rfl rfl fun c hc KQ hKQ => ?_
 rcases hsh : D.shot with _ | sd
 ·rw [hsh] at hV
  cases hV
  refine T_if fun RI hRI => ?_
  refine B_cmp ?_
  refine W_name hc.scope (by rfl) (by rfl) ?_
  refine W_int ?_
  refine cmp_lt ?_
  (first | refine z_F (by rfl) ?_ | refine i_F (by rfl) fun NI hNI => ?_ | refine ite_F (by rfl) ?_)
  refine S_nil ?_
  refine fln_next ?_
  refine T_if fun RI hRI => ?_
  refine B_cmp ?_
  refine W_name hc.scope (by rfl) (by rfl) ?_
  refine W_int ?_
  refine cmp_lt ?_
  (first | refine z_F (by rfl) ?_ | refine i_F (by rfl) fun NI hNI => ?_ | refine ite_F (by rfl) ?_)
  refine S_nil ?_
  refine fln_next ?_
  refine T_if fun RI hRI => ?_
  refine B_cmp ?_
  refine W_name hc.scope (by rfl) (by rfl) ?_
  refine W_int ?_
  refine cmp_eq ?_
  (first | refine z_F (by rfl) ?_ | refine i_F (by rfl) fun NI hNI => ?_ | refine ite_F (by rfl) ?_)
  refine S_nil ?_
  refine fln_next ?_
  refine S_assign hc.scope hc.celled (by rfl) ?_
  refine W_none ?_
  refine T_if fun RI hRI => ?_
  refine B_cmp ?_
  refine O_item ?_
  refine W_name hc.scope (by rfl) (by rfl) ?_
  refine W_int ?_
  refine ⟨_, _, _, _, _, rfl, rfl, by assumption, .inl ⟨0, rfl⟩, by decide, by rfl, ?_⟩
  refine W_none ?_
  refine cmp_isnot0 ?_
  (first | refine z_f ?_ | refine i_f fun NI hNI => ?_ | refine ite_f ?_ | skip)
  refine S_nil ?_
  refine fln_next ?_
  refine S_ret ?_
  refine O_list ?_
  refine L_cons ?_
  refine O_listOf hc.scope ?_
  refine O_item ?_
  refine W_name hc.scope (by rfl) (by rfl) ?_
  refine W_int ?_
  refine ⟨_, _, _, _, _, rfl, rfl, by assumption, .inl ⟨0, rfl⟩, by decide, by rfl, ?_⟩
  refine ⟨_, _, _, rfl, by assumption, ⟨1, rfl⟩, by exact Nat.le_of_ble_eq_true rfl, fun _ _ _ => ?_⟩
  refine L_cons ?_
  refine O_item ?_
  refine W_name hc.scope (by rfl) (by rfl) ?_
  refine W_int ?_
  refine ⟨_, _, _, _, _, rfl, rfl, by assumption, .inl ⟨1, rfl⟩, by decide, by rfl, ?_⟩
  refine L_cons ?_
  rename_i y μ1 H1
  refine O_map (R := EO) (e := e) (by exact hc.scope) (by exact hc.celled) hc.own hc.room (by rfl) hE (by have := hs.1; omega) ?_ ?_
  rotate_left
  ·intro c' hc' b x l μ1 K' hP _ H1
   subst hP
   refine O_listOf hc'.scope ?_
   refine W_name hc'.scope (by rfl) (by rfl) ?_
   refine ⟨_, _, _, rfl, by assumption, ⟨0, rfl⟩, by exact Nat.le_of_ble_eq_true rfl, fun _ _ _ => ?_⟩
   rename_i z μ2 H2
   exact ⟨z, _, rfl, rfl, H2⟩
  ·refine O_item ?_
   refine W_name hc.scope (by rfl) (by rfl) ?_
   refine W_int ?_
   refine ⟨_, _, _, _, _, rfl, rfl, by assumption, .inl ⟨1, rfl⟩, by decide, by rfl, ?_⟩
   refine ⟨_, rfl, H1.pk2 (by exact pz3) (by exact pz3), fun D' bs rs μ4 hR H4 => ?_⟩
   refine L_cons ?_
   refine W_name hc.scope (by rfl) (by rfl) ?_
   refine L_cons ?_
   refine O_item ?_
   refine W_name hc.scope (by rfl) (by rfl) ?_
   refine W_int ?_
   refine ⟨_, _, _, _, _, rfl, rfl, by assumption, .inl ⟨5, rfl⟩, by decide, by rfl, ?_⟩
   refine L_nil ?_
   refine ⟨_, by assumption, by exact Nat.le_of_ble_eq_true rfl, fun _ _ _ => ?_⟩
   refine PostF.ret (by assumption) ?_
   rename_i q μ5 H5
   exact ⟨q, _, rfl, ⟨y, D', bs, rs, _, [], hR, by rw [hsh]; exact .none, rfl⟩, H5.fin (P := [[(q, _)], [(y, _)], [(D', _)], rs.flatten, [(a, _)], [(n, _)], [(e, _)], ls.flatten]) (by exact .cons pz0 (.cons pz4 (.cons pz0 (.cons pz0 (.cons pz2 (.cons pz2 (.cons pz0 (.cons pz0 .nil)))))))) (by simp)⟩
 ·rw [hsh] at hV
  obtain ⟨_⟩ | ⟨hS⟩ := hV
  refine T_if fun RI hRI => ?_
  refine B_cmp ?_
  refine W_name hc.scope (by rfl) (by rfl) ?_
  refine W_int ?_
  refine cmp_lt ?_
  (first | refine z_F (by rfl) ?_ | refine i_F (by rfl) fun NI hNI => ?_ | refine ite_F (by rfl) ?_)
  refine S_nil ?_
  refine fln_next ?_
  refine T_if fun RI hRI => ?_
  refine B_cmp ?_
  refine W_name hc.scope (by rfl) (by rfl) ?_
  refine W_int ?_
  refine cmp_lt ?_
  (first | refine z_F (by rfl) ?_ | refine i_F (by rfl) fun NI hNI => ?_ | refine ite_F (by rfl) ?_)
  refine S_nil ?_
  refine fln_next ?_
  refine T_if fun RI hRI => ?_
  refine B_cmp ?_
  refine W_name hc.scope (by rfl) (by rfl) ?_
  refine W_int ?_
  refine cmp_eq ?_
  (first | refine z_F (by rfl) ?_ | refine i_F (by rfl) fun NI hNI => ?_ | refine ite_F (by rfl) ?_)
  refine S_nil ?_
  refine fln_next ?_
  refine S_assign hc.scope hc.celled (by rfl) ?_
  refine W_none ?_
  refine T_if fun RI hRI => ?_
  refine B_cmp ?_
  refine O_item ?_
  refine W_name hc.scope (by rfl) (by rfl) ?_
  refine W_int ?_
  refine ⟨_, _, _, _, _, rfl, rfl, by assumption, .inl ⟨0, rfl⟩, by decide, by rfl, ?_⟩
  refine W_none ?_
  refine cmp_isnot1 ?_
  (first | refine z_t ?_ | refine i_t fun NI hNI => ?_ | refine ite_t ?_ | skip)
  refine S_assign hc.scope hc.celled (by rfl) ?_
  refine T_fn hc.scope hc.room rfl rfl ?_
  refine L_cons ?_
  refine W_int ?_
  refine L_cons ?_
  refine O_item ?_
  refine W_name hc.scope (by rfl) (by rfl) ?_
  refine W_int ?_
  refine ⟨_, _, _, _, _, rfl, rfl, by assumption, .inl ⟨0, rfl⟩, by decide, by rfl, ?_⟩
  refine L_nil ?_
  refine Fn.call (fun _ H => own_twin_shot hS (hs.2 _ hsh) H) (by rfl) H (by exact .cons pz4 .nil) ?_
  rintro _ _ μ7 ⟨sb, lb, rfl, hB, H7⟩ hF
  have H7 := hF.b2 H7
  refine S_nil ?_
  refine fln_next ?_
  refine S_ret ?_
  refine O_list ?_
  refine L_cons ?_
  refine O_listOf hc.scope ?_
  refine O_item ?_
  refine W_name hc.scope (by rfl) (by rfl) ?_
  refine W_int ?_
  refine ⟨_, _, _, _, _, rfl, rfl, by assumption, .inl ⟨2, rfl⟩, by decide, by rfl, ?_⟩
  refine ⟨_, _, _, rfl, by assumption, ⟨3, rfl⟩, by exact Nat.le_of_ble_eq_true rfl, fun _ _ _ => ?_⟩
  refine L_cons ?_
  refine O_item ?_
  refine W_name hc.scope (by rfl) (by rfl) ?_
  refine W_int ?_
  refine ⟨_, _, _, _, _, rfl, rfl, by assumption, .inl ⟨3, rfl⟩, by decide, by rfl, ?_⟩
  refine L_cons ?_
  rename_i y μ1 H1
  refine O_map (R := EO) (e := e) (by exact hc.scope) (by exact hc.celled) hc.own hc.room (by rfl) hE (by have := hs.1; omega) ?_ ?_
  rotate_left
  ·intro c' hc' b x l μ1 K' hP _ H1
   subst hP
   refine O_listOf hc'.scope ?_
   refine W_name hc'.scope (by rfl) (by rfl) ?_
   refine ⟨_, _, _, rfl, by assumption, ⟨0, rfl⟩, by exact Nat.le_of_ble_eq_true rfl, fun _ _ _ => ?_⟩
   rename_i z μ2 H2
   exact ⟨z, _, rfl, rfl, H2⟩
  ·refine O_item ?_
   refine W_name hc.scope (by rfl) (by rfl) ?_
   refine W_int ?_
   refine ⟨_, _, _, _, _, rfl, rfl, by assumption, .inl ⟨3, rfl⟩, by decide, by rfl, ?_⟩
   refine ⟨_, rfl, H1.pk2 (by exact pz5) (by exact pz5), fun D' bs rs μ4 hR H4 => ?_⟩
   refine L_cons ?_
   refine W_name hc.scope (by rfl) (by rfl) ?_
   refine L_cons ?_
   refine O_item ?_
   refine W_name hc.scope (by rfl) (by rfl) ?_
   refine W_int ?_
   refine ⟨_, _, _, _, _, rfl, rfl, by assumption, .inl ⟨7, rfl⟩, by decide, by rfl, ?_⟩
   refine L_nil ?_
   refine ⟨_, by assumption, by exact Nat.le_of_ble_eq_true rfl, fun _ _ _ => ?_⟩
   refine PostF.ret (by assumption) ?_
   rename_i q μ5 H5
   exact ⟨q, _, rfl, ⟨y, D', bs, rs, _, lb, hR, by rw [hsh]; exact .some hB, rfl⟩, H5.fin (P := [[(q, _)], [(y, _)], [(D', _)], rs.flatten, lb, [(a, _)], [(n, _)], [(e, _)], ls.flatten, _]) (by exact .cons pz0 (.cons pz4 (.cons pz0 (.cons pz0 (.cons pz2 (.cons pz3 (.cons pz3 (.cons pz0 (.cons pz0 (.cons pz0 .nil)))))))))) (by simp)⟩

theorem own_row_conf0 {a : Addr} {D : CD} {l : List (Addr × O)} (hG : CO a D l) (hs : D.Fit) {μ : Mu} (H : Own [l] μ) : Fn w 2 443 [.int 0, .ref a] μ (fun v μ' => ∃ lr, RdB 2 v D.row0 lr ∧ Own [lr, l] μ') := by
 refine fn_go (ns := ["kind", "own"]) k443 (by (conv => lhs; whnf)) (by (conv => lhs; whnf)) (by kernel_rfl) (rvs2 fun a b => by kernel_rfl) rfl rfl rfl rfl rfl fun c hc KQ hKQ => ?_
 refine T_if fun RI hRI => ?_
 refine B_cmp ?_
 refine W_name hc.scope (by rfl) (by rfl) ?_
 refine W_int ?_
 refine cmp_eq ?_
 (first | refine z_T (by rfl) ?_ | refine i_T (by rfl) fun NI hNI => ?_ | refine ite_T (by rfl) ?_)
 refine S_ret ?_
 refine T_fn hc.scope hc.room rfl rfl ?_
 refine L_cons ?_
 refine W_name hc.scope (by rfl) (by rfl) ?_
 refine L_nil ?_
 refine own_conf_row_k hG hs (by rfl) H (by exact .cons pz0 .nil) fun t r0 r1 r2 r3 μ2 H1 => ?_
 refine fln_ret ?_
 refine PostF.ret (by assumption) ?_
 exact ⟨_, conf_tup (t := t) (r0 := r0) (r1 := r1) (r2 := r2) (r3 := r3), H1.fin (P := [_, _, _, _, _, _]) (by exact .cons pz0 (.cons pz0 (.cons pz0 (.cons pz0 (.cons pz0 (.cons pz0 .nil)))))) (by simp)⟩
theorem own_row_conf1 {a : Addr} {D : CD} {l : List (Addr × O)} (hG : CO a D l) (hs : D.Fit) {μ : Mu} (H : Own [l] μ) : Fn w 2 443 [.int 1, .ref a] μ (fun v μ' => ∃ lr, RdB 2 v D.row1 lr ∧ Own [lr, l] μ') := by
 refine fn_go (ns := ["kind", "own"]) k443 (by (conv => lhs; whnf)) (by (conv => lhs; whnf)) (by kernel_rfl) (rvs2 fun a b => by kernel_rfl) rfl rfl rfl rfl rfl fun c hc KQ hKQ => ?_
 refine T_if fun RI hRI => ?_
 refine B_cmp ?_
 refine W_name hc.scope (by rfl) (by rfl) ?_
 refine W_int ?_
 refine cmp_eq ?_
 (first | refine z_F (by rfl) ?_ | refine i_F (by rfl) fun NI hNI => ?_ | refine ite_F (by rfl) ?_)
 refine S_nil ?_
 refine fln_next ?_
 refine T_if fun RI hRI => ?_
 refine B_cmp ?_
 refine W_name hc.scope (by rfl) (by rfl) ?_
 refine W_int ?_
 refine cmp_eq ?_
 (first | refine z_T (by rfl) ?_ | refine i_T (by rfl) fun NI hNI => ?_ | refine ite_T (by rfl) ?_)
 refine S_assign hc.scope hc.celled (by rfl) ?_
 refine T_fn hc.scope hc.room rfl rfl ?_
 refine L_cons ?_
 refine W_name hc.scope (by rfl) (by rfl) ?_
 refine L_nil ?_
 refine own_conf_row_k hG hs (by rfl) H (by exact .cons pz0 .nil) fun t r0 r1 r2 r3 μ2 H1 => ?_
 refine S_ret ?_
 refine O_tuple ?_
 refine L_cons ?_
 refine O_item ?_
 refine W_name hc.scope (by rfl) (by rfl) ?_
 refine W_int ?_
 refine ⟨_, _, _, _, _, rfl, rfl, by assumption, .inr ⟨0, rfl⟩, by decide, by rfl, ?_⟩
 refine L_cons ?_
 refine O_item ?_
 refine W_name hc.scope (by rfl) (by rfl) ?_
 refine W_int ?_
 refine ⟨_, _, _, _, _, rfl, rfl, by assumption, .inr ⟨0, rfl⟩, by decide, by rfl, ?_⟩
 refine L_cons ?_
 refine O_item ?_
 refine W_name hc.scope (by rfl) (by rfl) ?_
 refine W_int ?_
 refine ⟨_, _, _, _, _, rfl, rfl, by assumption, .inr ⟨0, rfl⟩, by decide, by rfl, ?_⟩
 refine L_cons ?_
 refine O_item ?_
 refine W_name hc.scope (by rfl) (by rfl) ?_
 refine W_int ?_
 refine ⟨_, _, _, _, _, rfl, rfl, by assumption, .inr ⟨0, rfl⟩, by decide, by rfl, ?_⟩
 refine L_cons ?_
 refine O_item ?_
 refine W_name hc.scope (by rfl) (by rfl) ?_
 refine W_int ?_
 refine ⟨_, _, _, _, _, rfl, rfl, by assumption, .inr ⟨0, rfl⟩, by decide, by rfl, ?_⟩
 refine L_nil ?_
 refine ⟨_, by assumption, by exact Nat.le_of_ble_eq_true rfl, fun _ _ _ => ?_⟩
 refine fln_ret ?_
 refine PostF.ret (by assumption) ?_
 rename_i q μ5 H5
 exact ⟨_, conf_tup (t := q) (r0 := r0) (r1 := r2) (r2 := r1) (r3 := r3), H5.fin (P := [[(q, _)], [(r0, _)], [(r2, _)], [(r1, _)], [(r3, _)], l]) (by exact .cons pz0 (.cons pz1 (.cons pz2 (.cons pz1 (.cons pz1 (.cons pz1 .nil)))))) (by simp)⟩
theorem own_row_hard {a : Addr} {D : HD} {l : List (Addr × O)} (hG : HO a D l) {μ : Mu} (H : Own [l] μ) : Fn w 2 443 [.int 2, .ref a] μ (fun v μ' => ∃ t, v = .ref t ∧ Own [[(t, .tup [.int D.t, .int D.v, .int D.c])], l] μ') := by
 refine fn_go (ns := ["kind", "own"]) k443 (by (conv => lhs; whnf)) (by (conv => lhs; whnf)) (by kernel_rfl) (rvs2 fun a b => by kernel_rfl) rfl rfl rfl rfl rfl fun c hc KQ hKQ => ?_
 subst hG
 refine T_if fun RI hRI => ?_
 refine B_cmp ?_
 refine W_name hc.scope (by rfl) (by rfl) ?_
 refine W_int ?_
 refine cmp_eq ?_
 (first | refine z_F (by rfl) ?_ | refine i_F (by rfl) fun NI hNI => ?_ | refine ite_F (by rfl) ?_)
 refine S_nil ?_
 refine fln_next ?_
 refine T_if fun RI hRI => ?_
 refine B_cmp ?_
 refine W_name hc.scope (by rfl) (by rfl) ?_
 refine W_int ?_
 refine cmp_eq ?_
 (first | refine z_F (by rfl) ?_ | refine i_F (by rfl) fun NI hNI => ?_ | refine ite_F (by rfl) ?_)
 refine S_nil ?_
 refine fln_next ?_
 refine T_if fun RI hRI => ?_
 refine B_cmp ?_
 refine W_name hc.scope (by rfl) (by rfl) ?_
 refine W_int ?_
 refine cmp_lt ?_
 (first | refine z_T (by rfl) ?_ | refine i_T (by rfl) fun NI hNI => ?_ | refine ite_T (by rfl) ?_)
 refine S_ret ?_
 refine O_tupleOf hc.scope ?_
 refine W_name hc.scope (by rfl) (by rfl) ?_
 refine ⟨_, _, _, rfl, by assumption, ⟨0, rfl⟩, by exact Nat.le_of_ble_eq_true rfl, fun _ _ _ => ?_⟩
 refine fln_ret ?_
 refine PostF.ret (by assumption) ?_
 exact ⟨_, rfl, by (apply Own.sel; (· assumption); exact .cons pz0 (.cons pz0 .nil))⟩
theorem own_row_entry {a : Addr} {D : ED} {l : List (Addr × O)} (hG : EO a D l) {μ : Mu} (H : Own [l] μ) : Fn w 2 443 [.int 3, .ref a] μ (fun v μ' => ∃ t, v = .ref t ∧ Own [[(t, .tup [.int D.t, .int D.i, .int D.k, .bytes D.d])], l] μ') := by
 refine fn_go (ns := ["kind", "own"]) k443 (by (conv => lhs; whnf)) (by (conv => lhs; whnf)) (by kernel_rfl) (rvs2 fun a b => by kernel_rfl) rfl rfl rfl rfl rfl fun c hc KQ hKQ => ?_
 subst hG
 refine T_if fun RI hRI => ?_
 refine B_cmp ?_
 refine W_name hc.scope (by rfl) (by rfl) ?_
 refine W_int ?_
 refine cmp_eq ?_
 (first | refine z_F (by rfl) ?_ | refine i_F (by rfl) fun NI hNI => ?_ | refine ite_F (by rfl) ?_)
 refine S_nil ?_
 refine fln_next ?_
 refine T_if fun RI hRI => ?_
 refine B_cmp ?_
 refine W_name hc.scope (by rfl) (by rfl) ?_
 refine W_int ?_
 refine cmp_eq ?_
 (first | refine z_F (by rfl) ?_ | refine i_F (by rfl) fun NI hNI => ?_ | refine ite_F (by rfl) ?_)
 refine S_nil ?_
 refine fln_next ?_
 refine T_if fun RI hRI => ?_
 refine B_cmp ?_
 refine W_name hc.scope (by rfl) (by rfl) ?_
 refine W_int ?_
 refine cmp_lt ?_
 (first | refine z_T (by rfl) ?_ | refine i_T (by rfl) fun NI hNI => ?_ | refine ite_T (by rfl) ?_)
 refine S_ret ?_
 refine O_tupleOf hc.scope ?_
 refine W_name hc.scope (by rfl) (by rfl) ?_
 refine ⟨_, _, _, rfl, by assumption, ⟨0, rfl⟩, by exact Nat.le_of_ble_eq_true rfl, fun _ _ _ => ?_⟩
 refine fln_ret ?_
 refine PostF.ret (by assumption) ?_
 exact ⟨_, rfl, by (apply Own.sel; (· assumption); exact .cons pz0 (.cons pz0 .nil))⟩
theorem own_row_shot {a : Addr} {D : SD} {l : List (Addr × O)} (hG : SO a D l) (hs : D.c.Fit) {μ : Mu} (H0 : Own [l] μ) : Fn w 2 443 [.int 4, .ref a] μ (fun v μ' => ∃ lr, RdB 3 v D.row lr ∧ Own [lr, l] μ') := by
 obtain ⟨b, lc, hC, rfl⟩ := hG
 have H : Own [[(a, _)], lc] μ := H0.uncons
 refine fn_go (ns := ["kind", "own"]) k443 (by (conv => lhs; whnf)) (by (conv => lhs; whnf)) (by kernel_rfl) (rvs2 fun a b => by kernel_rfl) rfl rfl rfl rfl rfl fun c hc KQ hKQ => ?_
 refine T_if fun RI hRI => ?_
 refine B_cmp ?_
 refine W_name hc.scope (by rfl) (by rfl) ?_
 refine W_int ?_
 refine cmp_eq ?_
 (first | refine z_F (by rfl) ?_ | refine i_F (by rfl) fun NI hNI => ?_ | refine ite_F (by rfl) ?_)
 refine S_nil ?_
 refine fln_next ?_
 refine T_if fun RI hRI => ?_
 refine B_cmp ?_
 refine W_name hc.scope (by rfl) (by rfl) ?_
 refine W_int ?_
 refine cmp_eq ?_
 (first | refine z_F (by rfl) ?_ | refine i_F (by rfl) fun NI hNI => ?_ | refine ite_F (by rfl) ?_)
 refine S_nil ?_
 refine fln_next ?_
 refine T_if fun RI hRI => ?_
 refine B_cmp ?_
 refine W_name hc.scope (by rfl) (by rfl) ?_
 refine W_int ?_
 refine cmp_lt ?_
 (first | refine z_F (by rfl) ?_ | refine i_F (by rfl) fun NI hNI => ?_ | refine ite_F (by rfl) ?_)
 refine S_nil ?_
 refine fln_next ?_
 refine T_if fun RI hRI => ?_
 refine B_cmp ?_
 refine W_name hc.scope (by rfl) (by rfl) ?_
 refine W_int ?_
 refine cmp_eq ?_
 (first | refine z_T (by rfl) ?_ | refine i_T (by rfl) fun NI hNI => ?_ | refine ite_T (by rfl) ?_)
 refine S_ret ?_
 refine O_tuple ?_
 refine L_cons ?_
 refine O_item ?_
 refine W_name hc.scope (by rfl) (by rfl) ?_
 refine W_int ?_
 refine ⟨_, _, _, _, _, rfl, rfl, by assumption, .inl ⟨0, rfl⟩, by decide, by rfl, ?_⟩
 refine L_cons ?_
 refine O_item ?_
 refine W_name hc.scope (by rfl) (by rfl) ?_
 refine W_int ?_
 refine ⟨_, _, _, _, _, rfl, rfl, by assumption, .inl ⟨0, rfl⟩, by decide, by rfl, ?_⟩
 refine L_cons ?_
 refine T_fn hc.scope hc.room rfl rfl ?_
 refine L_cons ?_
 refine O_item ?_
 refine W_name hc.scope (by rfl) (by rfl) ?_
 refine W_int ?_
 refine ⟨_, _, _, _, _, rfl, rfl, by assumption, .inl ⟨0, rfl⟩, by decide, by rfl, ?_⟩
 refine L_nil ?_
 refine own_conf_row_k hC hs (by rfl) H (by exact .cons pz1 .nil) fun t r0 r1 r2 r3 μ2 H1 => ?_
 refine L_cons ?_
 refine O_item ?_
 refine W_name hc.scope (by rfl) (by rfl) ?_
 refine W_int ?_
 refine ⟨_, _, _, _, _, rfl, rfl, by assumption, .inl ⟨6, rfl⟩, by decide, by rfl, ?_⟩
 refine L_nil ?_
 refine ⟨_, by assumption, by exact Nat.le_of_ble_eq_true rfl, fun _ _ _ => ?_⟩
 refine fln_ret ?_
 refine PostF.ret (by assumption) ?_
 rename_i q μ5 H5
 exact ⟨_, snap_tup (r := .ref t) (conf_tup (r0 := r0) (r1 := r1) (r2 := r2) (r3 := r3)) (fun _ h => h), H5.fin (P := [[(q, _)], [(t, _)], [(r0, _)], [(r1, _)], [(r2, _)], [(r3, _)], [(a, _)], lc]) (by exact .cons pz0 (.cons pz0 (.cons pz0 (.cons pz0 (.cons pz0 (.cons pz0 (.cons pz1 (.cons pz0 .nil)))))))) (by simp)⟩

theorem own_row_msg {a : Addr} {D : MD} {l : List (Addr × O)} (hG : MO a D l) (hs : D.Fit) {μ : Mu} (H0 : Own [l] μ) : Fn w 4 443 [.int 5, .ref a] μ (fun v μ' => ∃ lr, RdB 4 v D.row lr ∧ Own [lr, l] μ') := by
 obtain ⟨n, e, as, ls, v, lv, hE, hV, rfl⟩ := hG
 have H : Own [[(a, _)], [(n, _)], [(e, _)], ls.flatten, lv] μ := H0.un5
 refine fn_go (ns := ["kind", "own"]) k443 (by (conv => lhs; whnf)) (by (conv => lhs; whnf)) (by kernel_rfl) (rvs2 fun a b => by kernel_rfl) rfl rfl rfl rfl rfl fun c hc KQ hKQ => ?_
 rcases hsh : D.shot with _ | sd
 ·rw [hsh] at hV
  cases hV
  refine T_if fun RI hRI => ?_
  refine B_cmp ?_
  refine W_name hc.scope (by rfl) (by rfl) ?_
  refine W_int ?_
  refine cmp_eq ?_
  (first | refine z_F (by rfl) ?_ | refine i_F (by rfl) fun NI hNI => ?_ | refine ite_F (by rfl) ?_)
  refine S_nil ?_
  refine fln_next ?_
  refine T_if fun RI hRI => ?_
  refine B_cmp ?_
  refine W_name hc.scope (by rfl) (by rfl) ?_
  refine W_int ?_
  refine cmp_eq ?_
  (first | refine z_F (by rfl) ?_ | refine i_F (by rfl) fun NI hNI => ?_ | refine ite_F (by rfl) ?_)
  refine S_nil ?_
  refine fln_next ?_
  refine T_if fun RI hRI => ?_
  refine B_cmp ?_
  refine W_name hc.scope (by rfl) (by rfl) ?_
  refine W_int ?_
  refine cmp_lt ?_
  (first | refine z_F (by rfl) ?_ | refine i_F (by rfl) fun NI hNI => ?_ | refine ite_F (by rfl) ?_)
  refine S_nil ?_
  refine fln_next ?_
  refine T_if fun RI hRI => ?_
  refine B_cmp ?_
  refine W_name hc.scope (by rfl) (by rfl) ?_
  refine W_int ?_
  refine cmp_eq ?_
  (first | refine z_F (by rfl) ?_ | refine i_F (by rfl) fun NI hNI => ?_ | refine ite_F (by rfl) ?_)
  refine S_nil ?_
  refine fln_next ?_
  refine S_assign hc.scope hc.celled (by rfl) ?_
  refine W_none ?_
  refine T_if fun RI hRI => ?_
  refine B_cmp ?_
  refine O_item ?_
  refine W_name hc.scope (by rfl) (by rfl) ?_
  refine W_int ?_
  refine ⟨_, _, _, _, _, rfl, rfl, by assumption, .inl ⟨0, rfl⟩, by decide, by rfl, ?_⟩
  refine W_none ?_
  refine cmp_isnot0 ?_
  (first | refine z_f ?_ | refine i_f fun NI hNI => ?_ | refine ite_f ?_ | skip)
  refine S_nil ?_
  refine fln_next ?_
  refine S_assign hc.scope hc.celled (by rfl) ?_
  refine O_tupleOf hc.scope ?_
  refine O_map (R := ER) (e := e) (by exact hc.scope) (by exact hc.celled) hc.own hc.room (by rfl) hE (by have := hs.1; omega) ?_ ?_
  rotate_left
  ·intro c' hc' b x l μ1 K' hP _ H1
   subst hP
   refine O_tupleOf hc'.scope ?_
   refine W_name hc'.scope (by rfl) (by rfl) ?_
   refine ⟨_, _, _, rfl, by assumption, ⟨0, rfl⟩, by exact Nat.le_of_ble_eq_true rfl, fun _ _ _ => ?_⟩
   rename_i z μ2 H2
   exact ⟨z, _, rfl, rfl, H2⟩
  ·refine O_item ?_
   refine W_name hc.scope (by rfl) (by rfl) ?_
   refine W_int ?_
   refine ⟨_, _, _, _, _, rfl, rfl, by assumption, .inl ⟨0, rfl⟩, by decide, by rfl, ?_⟩
   refine ⟨_, rfl, H.pk2 (by exact pz2) (by exact pz2), fun D' bs rs μ4 hR H4 => ?_⟩
   have hbl : bs.length < 1000 := by rw [hR.length.1]; exact hs.1
   refine ⟨_, _, _, rfl, by assumption, ⟨0, rfl⟩, by (simp; omega), fun _ _ _ => ?_⟩
   refine S_assign hc.scope hc.celled (by rfl) ?_
   refine O_item ?_
   refine W_name hc.scope (by rfl) (by rfl) ?_
   refine W_int ?_
   refine ⟨_, _, _, _, _, rfl, rfl, by assumption, .inl ⟨5, rfl⟩, by decide, by rfl, ?_⟩
   refine S_ret ?_
   refine O_tuple ?_
   refine L_cons ?_
   refine O_item ?_
   refine W_name hc.scope (by rfl) (by rfl) ?_
   refine W_int ?_
   refine ⟨_, _, _, _, _, rfl, rfl, by assumption, .inl ⟨6, rfl⟩, by decide, by rfl, ?_⟩
   refine L_cons ?_
   refine O_item ?_
   refine W_name hc.scope (by rfl) (by rfl) ?_
   refine W_int ?_
   refine ⟨_, _, _, _, _, rfl, rfl, by assumption, .inl ⟨6, rfl⟩, by decide, by rfl, ?_⟩
   refine L_cons ?_
   refine O_item ?_
   refine W_name hc.scope (by rfl) (by rfl) ?_
   refine W_int ?_
   refine ⟨_, _, _, _, _, rfl, rfl, by assumption, .inl ⟨6, rfl⟩, by decide, by rfl, ?_⟩
   refine L_cons ?_
   refine O_item ?_
   refine W_name hc.scope (by rfl) (by rfl) ?_
   refine W_int ?_
   refine ⟨_, _, _, _, _, rfl, rfl, by assumption, .inl ⟨6, rfl⟩, by decide, by rfl, ?_⟩
   refine L_cons ?_
   refine O_item ?_
   refine W_name hc.scope (by rfl) (by rfl) ?_
   refine W_int ?_
   refine ⟨_, _, _, _, _, rfl, rfl, by assumption, .inl ⟨6, rfl⟩, by decide, by rfl, ?_⟩
   refine L_cons ?_
   refine O_item ?_
   refine W_name hc.scope (by rfl) (by rfl) ?_
   refine W_int ?_
   refine ⟨_, _, _, _, _, rfl, rfl, by assumption, .inl ⟨6, rfl⟩, by decide, by rfl, ?_⟩
   refine L_cons ?_
   refine W_name hc.scope (by rfl) (by rfl) ?_
   refine L_cons ?_
   refine O_item ?_
   refine W_name hc.scope (by rfl) (by rfl) ?_
   refine W_int ?_
   refine ⟨_, _, _, _, _, rfl, rfl, by assumption, .inl ⟨6, rfl⟩, by decide, by rfl, ?_⟩
   refine L_cons ?_
   refine W_name hc.scope (by rfl) (by rfl) ?_
   refine L_cons ?_
   refine O_item ?_
   refine W_name hc.scope (by rfl) (by rfl) ?_
   refine W_int ?_
   refine ⟨_, _, _, _, _, rfl, rfl, by assumption, .inl ⟨5, rfl⟩, by decide, by rfl, ?_⟩
   refine L_cons ?_
   refine O_item ?_
   refine W_name hc.scope (by rfl) (by rfl) ?_
   refine W_int ?_
   refine ⟨_, _, _, _, _, rfl, rfl, by assumption, .inl ⟨6, rfl⟩, by decide, by rfl, ?_⟩
   refine L_cons ?_
   refine O_item ?_
   refine W_name hc.scope (by rfl) (by rfl) ?_
   refine W_int ?_
   refine ⟨_, _, _, _, _, rfl, rfl, by assumption, .inl ⟨5, rfl⟩, by decide, by rfl, ?_⟩
   refine L_nil ?_
   refine ⟨_, by assumption, by exact Nat.le_of_ble_eq_true rfl, fun _ _ _ => ?_⟩
   refine PostF.ret (by assumption) ?_
   rename_i t _ _ q μ5 H5
   exact ⟨_, msg_tup (te := t) (v := .none) (lv := []) (entries_rd hR) (by rw [hsh]; exact fun _ _ => .none) (fun _ h => h), H5.fin (P := [[(q, _)], [(t, _)], rs.flatten, [(a, _)], [(n, _)], [(e, _)], ls.flatten]) (by exact .cons pz0 (.cons pz0 (.cons pz1 (.cons pz3 (.cons pz3 (.cons pz1 (.cons pz1 .nil))))))) (by simp)⟩
 ·rw [hsh] at hV
  obtain ⟨_⟩ | ⟨hS⟩ := hV
  refine T_if fun RI hRI => ?_
  refine B_cmp ?_
  refine W_name hc.scope (by rfl) (by rfl) ?_
  refine W_int ?_
  refine cmp_eq ?_
  (first | refine z_F (by rfl) ?_ | refine i_F (by rfl) fun NI hNI => ?_ | refine ite_F (by rfl) ?_)
  refine S_nil ?_
  refine fln_next ?_
  refine T_if fun RI hRI => ?_
  refine B_cmp ?_
  refine W_name hc.scope (by rfl) (by rfl) ?_
  refine W_int ?_
  refine cmp_eq ?_
  (first | refine z_F (by rfl) ?_ | refine i_F (by rfl) fun NI hNI => ?_ | refine ite_F (by rfl) ?_)
  refine S_nil ?_
  refine fln_next ?_
  refine T_if fun RI hRI => ?_
  refine B_cmp ?_
  refine W_name hc.scope (by rfl) (by rfl) ?_
  refine W_int ?_
  refine cmp_lt ?_
  (first | refine z_F (by rfl) ?_ | refine i_F (by rfl) fun NI hNI => ?_ | refine ite_F (by rfl) ?_)
  refine S_nil ?_
  refine fln_next ?_
  refine T_if fun RI hRI => ?_
  refine B_cmp ?_
  refine W_name hc.scope (by rfl) (by rfl) ?_
  refine W_int ?_
  refine cmp_eq ?_
  (first | refine z_F (by rfl) ?_ | refine i_F (by rfl) fun NI hNI => ?_ | refine ite_F (by rfl) ?_)
  refine S_nil ?_
  refine fln_next ?_
  refine S_assign hc.scope hc.celled (by rfl) ?_
  refine W_none ?_
  refine T_if fun RI hRI => ?_
  refine B_cmp ?_
  refine O_item ?_
  refine W_name hc.scope (by rfl) (by rfl) ?_
  refine W_int ?_
  refine ⟨_, _, _, _, _, rfl, rfl, by assumption, .inl ⟨0, rfl⟩, by decide, by rfl, ?_⟩
  refine W_none ?_
  refine cmp_isnot1 ?_
  (first | refine z_t ?_ | refine i_t fun NI hNI => ?_ | refine ite_t ?_ | skip)
  refine S_assign hc.scope hc.celled (by rfl) ?_
  refine T_fn hc.scope hc.room rfl rfl ?_
  refine L_cons ?_
  refine W_int ?_
  refine L_cons ?_
  refine O_item ?_
  refine W_name hc.scope (by rfl) (by rfl) ?_
  refine W_int ?_
  refine ⟨_, _, _, _, _, rfl, rfl, by assumption, .inl ⟨0, rfl⟩, by decide, by rfl, ?_⟩
  refine L_nil ?_
  refine Fn.call (fun _ H => own_row_shot hS (hs.2 _ hsh) H) (by rfl) H (by exact .cons pz4 .nil) ?_
  rintro vr _ μ7 ⟨lr, hr, H7⟩ hF
  have H7 := hF.b2 H7
  refine S_nil ?_
  refine fln_next ?_
  refine S_assign hc.scope hc.celled (by rfl) ?_
  refine O_tupleOf hc.scope ?_
  refine O_map (R := ER) (e := e) (by exact hc.scope) (by exact hc.celled) hc.own hc.room (by rfl) hE (by have := hs.1; omega) ?_ ?_
  rotate_left
  ·intro c' hc' b x l μ1 K' hP _ H1
   subst hP
   refine O_tupleOf hc'.scope ?_
   refine W_name hc'.scope (by rfl) (by rfl) ?_
   refine ⟨_, _, _, rfl, by assumption, ⟨0, rfl⟩, by exact Nat.le_of_ble_eq_true rfl, fun _ _ _ => ?_⟩
   rename_i z μ2 H2
   exact ⟨z, _, rfl, rfl, H2⟩
  ·refine O_item ?_
   refine W_name hc.scope (by rfl) (by rfl) ?_
   refine W_int ?_
   refine ⟨_, _, _, _, _, rfl, rfl, by assumption, .inl ⟨2, rfl⟩, by decide, by rfl, ?_⟩
   refine ⟨_, rfl, H7.pk2 (by exact pz4) (by exact pz4), fun D' bs rs μ4 hR H4 => ?_⟩
   have hbl : bs.length < 1000 := by rw [hR.length.1]; exact hs.1
   refine ⟨_, _, _, rfl, by assumption, ⟨0, rfl⟩, by (simp; omega), fun _ _ _ => ?_⟩
   refine S_assign hc.scope hc.celled (by rfl) ?_
   refine O_item ?_
   refine W_name hc.scope (by rfl) (by rfl) ?_
   refine W_int ?_
   refine ⟨_, _, _, _, _, rfl, rfl, by assumption, .inl ⟨7, rfl⟩, by decide, by rfl, ?_⟩
   refine S_ret ?_
   refine O_tuple ?_
   refine L_cons ?_
   refine O_item ?_
   refine W_name hc.scope (by rfl) (by rfl) ?_
   refine W_int ?_
   refine ⟨_, _, _, _, _, rfl, rfl, by assumption, .inl ⟨8, rfl⟩, by decide, by rfl, ?_⟩
   refine L_cons ?_
   refine O_item ?_
   refine W_name hc.scope (by rfl) (by rfl) ?_
   refine W_int ?_
   refine ⟨_, _, _, _, _, rfl, rfl, by assumption, .inl ⟨8, rfl⟩, by decide, by rfl, ?_⟩
   refine L_cons ?_
   refine O_item ?_
   refine W_name hc.scope (by rfl) (by rfl) ?_
   refine W_int ?_
   refine ⟨_, _, _, _, _, rfl, rfl, by assumption, .inl ⟨8, rfl⟩, by decide, by rfl, ?_⟩
   refine L_cons ?_
   refine O_item ?_
   refine W_name hc.scope (by rfl) (by rfl) ?_
   refine W_int ?_
   refine ⟨_, _, _, _, _, rfl, rfl, by assumption, .inl ⟨8, rfl⟩, by decide, by rfl, ?_⟩
   refine L_cons ?_
   refine O_item ?_
   refine W_name hc.scope (by rfl) (by rfl) ?_
   refine W_int ?_
   refine ⟨_, _, _, _, _, rfl, rfl, by assumption, .inl ⟨8, rfl⟩, by decide, by rfl, ?_⟩
   refine L_cons ?_
   refine O_item ?_
   refine W_name hc.scope (by rfl) (by rfl) ?_
   refine W_int ?_
   refine ⟨_, _, _, _, _, rfl, rfl, by assumption, .inl ⟨8, rfl⟩, by decide, by rfl, ?_⟩
   refine L_cons ?_
   refine W_name hc.scope (by rfl) (by rfl) ?_
   refine L_cons ?_
   refine O_item ?_
   refine W_name hc.scope (by rfl) (by rfl) ?_
   refine W_int ?_
   refine ⟨_, _, _, _, _, rfl, rfl, by assumption, .inl ⟨8, rfl⟩, by decide, by rfl, ?_⟩
   refine L_cons ?_
   refine W_name hc.scope (by rfl) (by rfl) ?_
   refine L_cons ?_
   refine O_item ?_
   refine W_name hc.scope (by rfl) (by rfl) ?_
   refine W_int ?_
   refine ⟨_, _, _, _, _, rfl, rfl, by assumption, .inl ⟨7, rfl⟩, by decide, by rfl, ?_⟩
   refine L_cons ?_
   refine O_item ?_
   refine W_name hc.scope (by rfl) (by rfl) ?_
   refine W_int ?_
   refine ⟨_, _, _, _, _, rfl, rfl, by assumption, .inl ⟨8, rfl⟩, by decide, by rfl, ?_⟩
   refine L_cons ?_
   refine O_item ?_
   refine W_name hc.scope (by rfl) (by rfl) ?_
   refine W_int ?_
   refine ⟨_, _, _, _, _, rfl, rfl, by assumption, .inl ⟨7, rfl⟩, by decide, by rfl, ?_⟩
   refine L_nil ?_
   refine ⟨_, by assumption, by exact Nat.le_of_ble_eq_true rfl, fun _ _ _ => ?_⟩
   refine PostF.ret (by assumption) ?_
   rename_i t _ _ q μ5 H5
   exact ⟨_, msg_tup (te := t) (v := vr) (entries_rd hR) (by rw [hsh]; exact hr) (fun _ h => h), H5.fin (P := [[(q, _)], [(t, _)], rs.flatten, lr, [(a, _)], [(n, _)], [(e, _)], ls.flatten, lv]) (by exact .cons pz0 (.cons pz0 (.cons pz1 (.cons pz3 (.cons pz4 (.cons pz4 (.cons pz1 (.cons pz1 (.cons pz1 .nil))))))))) (by simp)⟩
theorem handed_fn {a : Addr} {xs : List Int} {y : Int} (hl : xs.length ≤ 60) {μ : Mu} (H : Own [[(a, .list (List.map V.int xs))]] μ) : Fn w 1 398 [.ref a, .int y] μ
  (fun v μ' => ∃ b ys, v = .ref b ∧ (∀ z, z ∈ ys ↔ z ∈ xs) ∧ ys.length ≤ 61 ∧ Own [[(b, .list (List.map V.int ys))], [(a, .list (List.map V.int xs))]] μ') := by
 refine fn_go (ns := ["ids", "y"]) k398 (by (conv => lhs; whnf)) (by (conv => lhs; whnf)) (by kernel_rfl) (rvs2 fun a b => by kernel_rfl) rfl rfl rfl rfl rfl fun c hc KQ hKQ => ?_
 refine T_if fun RI hRI => ?_
 refine B_cmp ?_
 refine W_bin ?_
 refine W_name hc.scope (by rfl) (by rfl) ?_
 refine W_int ?_
 ((refine bin_mod ?_ ?_); (· decide))
 refine W_int ?_
 refine cmp_eq ?_
 (first | refine z_dec (fun hy => ?_) (fun hy => ?_) | refine i_dec (fun hy NI hNI => ?_) (fun hy NI hNI => ?_) | refine ite_dec (fun hy => ?_) (fun hy => ?_))
 ·refine S_ret ?_
  refine O_listOf hc.scope ?_
  refine W_name hc.scope (by rfl) (by rfl) ?_
  refine ⟨_, _, _, rfl, by assumption, ⟨0, rfl⟩, by (simp; omega), fun _ _ _ => ?_⟩
  refine fln_ret ?_
  refine PostF.ret (by assumption) ?_
  exact ⟨_, xs, rfl, fun _ => Iff.rfl, by exact le2 (by assumption) rfl, by (apply Own.sel; (· assumption); exact .cons pz0 (.cons pz0 .nil))⟩
 ·refine S_nil ?_
  refine fln_next ?_
  refine S_ret ?_
  refine W_bin ?_
  refine O_comp (fun n k acc μ1 => ∃ (i : Nat) (ys : List Int), k = .range i ((xs.length : Int) - i) ∧ n = xs.length - i ∧ i ≤ xs.length ∧ acc = ys.map .int ∧ ys.length = i ∧ (∀ z ∈ ys, z ∈ xs) ∧ (∀ j, (h : j < xs.length) → xs.length - i ≤ j → xs[j] ∈ ys) ∧
   Own [[(a, .list (List.map V.int xs))]] μ1) (by exact hc.scope) (by exact hc.celled) hc.own (by rfl) ?_ ?_
  ·refine I_range (by exact hc.scope) ?_
   refine O_len hc.scope ?_
   refine W_name hc.scope (by rfl) (by rfl) ?_
   refine ⟨_, _, _, rfl, by assumption, ⟨0, rfl⟩, by (simp; omega), ?_⟩
   refine ⟨_, rfl, ?_⟩
   refine ⟨by rw [List.length_map]; omega, _, 0, [], by simp, rfl, by exact Nat.le_of_ble_eq_true rfl, rfl, rfl, by simp, fun j h1 h2 => by omega, H⟩
  ·rintro c' hc' N hN n k acc μ1 ⟨i, ys, rfl, rfl, hi, rfl, hyl, hm, hc2, H1⟩
   refine ⟨by rw [List.length_map]; omega, ?_⟩
   by_cases h : i < xs.length
   ·refine .inr ⟨_, _, .range (by exact sub_pos' (by assumption)), ?_⟩
    show WE c' _ _ μ1 _
    have h5 : ((xs.length : Int) - 1 - i).toNat < xs.length := by omega
    have h6 : ((xs.length : Int) - 1 - i).toNat = xs.length - 1 - i := by omega
    refine O_item ?_
    refine W_name hc'.scope (by rfl) (by rfl) ?_
    refine W_bin ?_
    refine W_bin ?_
    refine O_len hc'.scope ?_
    refine W_name hc'.scope (by rfl) (by rfl) ?_
    refine ⟨_, _, _, rfl, by assumption, ⟨0, rfl⟩, by (simp; omega), ?_⟩
    refine W_int ?_
    refine bin_sub ?_
    refine W_name hc'.scope (by rfl) (by rfl) ?_
    refine bin_sub ?_
    refine ⟨_, _, _, .int (xs[((xs.length : Int) - 1 - i).toNat]), _, rfl, rfl, by assumption, .inl (by exact ⟨0, rfl⟩), by rw [List.length_map]; omega, by rw [List.length_map, List.getElem?_map, List.getElem?_eq_getElem h5]; rfl, ?_⟩
    refine PostC.go hN ⟨xs.length - (i + 1), by exact dec (by assumption), i + 1, ys ++ [xs[((xs.length : Int) - 1 - i).toNat]], rng_succ, rfl, h, by simp, by simp [hyl], fun z hz => ?_, fun j h1 h2 => ?_, H1⟩
    ·rcases List.mem_append.mp hz with q | q
     ·exact hm z q
     ·rw [List.mem_singleton.mp q]; exact List.getElem_mem h5
    ·by_cases q : xs.length - i ≤ j
     ·exact List.mem_append_left _ (hc2 j h1 q)
     ·have : j = xs.length - 1 - i := by omega
      subst this
      refine List.mem_append_right _ (List.mem_singleton.mpr ?_)
      congr 1
      exact h6.symm
   ·refine .inl ⟨.rangeEnd (by exact sub_nonpos' (by assumption)), _, H1, fun E μ2 H2 => ?_⟩
    have hi2 : i = xs.length := by exact Nat.le_antisymm (by assumption) (Nat.le_of_not_lt (by assumption))
    refine O_upto ?_
    refine W_name hc.scope (by rfl) (by rfl) ?_
    refine ⟨_, _, _, rfl, by assumption, ⟨1, rfl⟩, by (simp; omega), fun _ _ _ => ?_⟩
    refine bin_cat (by assumption) ⟨1, rfl⟩ ⟨0, rfl⟩ (by (simp; omega)) (fun _ _ _ => ?_)
    refine PostF.ret (by assumption) ?_
    rename_i u μ3 H3 q μ4 H4
    refine ⟨q, ys ++ xs.take 1, rfl, fun z => ?_, ?_, ?_⟩
    ·rw [List.mem_append]
     refine ⟨fun q => q.elim (hm z) List.mem_of_mem_take, fun q => .inl ?_⟩
     obtain ⟨j, hj, rfl⟩ := List.getElem_of_mem q
     exact hc2 j hj (by omega)
    ·rw [List.length_append, List.length_take]; omega
    ·rw [List.map_append, List.map_take]
     (apply Own.sel; (· assumption); exact .cons pz0 (.cons pz2 .nil))
theorem handed_fn_k {a : Addr} {xs : List Int} {y : Int} (hl : xs.length ≤ 60) {r' : Nat} (hr : Nat.ble 1 r' = true) {L K : List (List (Addr × O))} {μ : Mu} (H : Own L μ) (p : Picks [[(a, .list (List.map V.int xs))]] L K) {Q : V → Mu → Prop} (k : ∀ b ys μ', ((∀ z, z ∈ ys ↔ z ∈ xs)) → ys.length ≤ 61 → Own ([(b, .list (List.map V.int ys))] :: [(a, .list (List.map V.int xs))] :: K) μ' → Q (.ref b) μ') : Fn w r' 398 [.ref a, .int y] μ Q :=
 Fn.call (fun _ H => handed_fn hl H) hr H p fun v μ1 μ' h hF => by obtain ⟨b, ys, rfl, h0', h1', H1'⟩ := h; exact k b ys μ' h0' h1' (hF _ H1')
noncomputable def LR (y : Addr) (xs : List Int) (l : List (Addr × O)) : Prop := ∃ zs : List Int, (∀ z, z ∈ zs ↔ z ∈ xs) ∧ zs.length ≤ 61 ∧ l = [(y, .list (List.map V.int zs))]
theorem made0 {a : Addr} {D : CD} {l : List (Addr × O)} {y : Int} (hG : CO a D l) (hs : D.Fit) {μ : Mu} (H : Own [l] μ) : Fn w 5 403 [.int 0, .ref a, .int y] μ (fun v μ' => ∃ b lb, v = .ref b ∧ CG 194 b D lb ∧ Own [lb, l] μ') := by
 have hs' := hs
 obtain ⟨x0, x1, x2, x3, rfl⟩ := hG
 obtain ⟨⟨_, s0⟩, ⟨_, s1⟩, ⟨_, s2⟩, ⟨_, s3⟩⟩ := hs
 have H : Own [[(a, _)], [(x0, _)], [(x1, _)], [(x2, _)], [(x3, _)]] μ := H.eq
 refine fn_go (ns := ["kind", "members", "y"]) k403 (by (conv => lhs; whnf)) (by (conv => lhs; whnf)) (by kernel_rfl) (rvs3 fun a b c => by kernel_rfl) rfl rfl rfl rfl rfl fun c hc KQ hKQ => ?_
 refine OS_assignC (fun n k acc μ1 => ∃ (i : Nat) (ys : List Addr) (rs : List (List (Addr × O))), k = .range i (4 - i) ∧ n = 4 - i ∧ i ≤ 4 ∧ acc = ys.map .ref ∧ Alls LR ys ([D.v, D.l, D.o, D.n].take i) rs ∧
  Own (rs.flatten :: [[(a, .list [.ref x0, .ref x1, .ref x2, .ref x3, .bool D.al])], [(x0, .list (List.map V.int D.v))], [(x1, .list (List.map V.int D.l))], [(x2, .list (List.map V.int D.o))], [(x3, .list (List.map V.int D.n))]]) μ1) (by exact hc.scope) (by exact hc.celled) hc.own (by rfl) (by rfl) ?_ ?_
 ·refine I_range (by exact hc.scope) ?_
  refine W_int ?_
  refine ⟨_, rfl, ?_⟩
  exact ⟨by decide, _, 0, [], [], rfl, rfl, by exact Nat.le_of_ble_eq_true rfl, rfl, .nil, H.unnil⟩
 ·rintro c' hc' N hN n k acc μ1 ⟨i, ys, rs, rfl, rfl, hi, rfl, hR, H1⟩
  rw [hc.room] at hc'
  have hyl : ys.length ≤ 4 := by rw [hR.length.1, List.length_take]; simp; omega
  refine ⟨by simp; omega, ?_⟩
  match i with
  | 0 =>
   refine .inr ⟨_, _, .range (by decide), ?_⟩
   show WE c' _ _ μ1 _
   refine T_fn hc'.scope hc'.room rfl rfl ?_
   refine L_cons ?_
   refine O_item ?_
   refine W_name hc'.scope (by rfl) (by rfl) ?_
   refine W_name hc'.scope (by rfl) (by rfl) ?_
   refine ⟨_, _, _, _, _, rfl, rfl, by assumption, .inl ⟨1, rfl⟩, by decide, by rfl, ?_⟩
   refine L_cons ?_
   refine W_bin ?_
   refine W_name hc'.scope (by rfl) (by rfl) ?_
   refine W_name hc'.scope (by rfl) (by rfl) ?_
   refine bin_add ?_
   refine L_nil ?_
   refine handed_fn_k (xs := D.v) (by exact lt2 (by assumption) rfl) (by rfl) H1 (by exact .cons pz2 .nil) fun y zs μ2 hz hzl H2 => ?_
   exact PostC.go hN ⟨3, by decide, 1, ys ++ [y], rs ++ [[(y, _)]], rfl, rfl, by decide, by simp, hR.append (.one ⟨zs, hz, hzl, rfl⟩), H2.fin (P := [rs.flatten, [(y, _)], [(a, _)], [(x0, _)], [(x1, _)], [(x2, _)], [(x3, _)]]) (by exact .cons pz2 (.cons pz0 (.cons pz1 (.cons pz0 (.cons pz0 (.cons pz0 (.cons pz0 .nil))))))) (by simp)⟩
  | 1 =>
   refine .inr ⟨_, _, .range (by decide), ?_⟩
   show WE c' _ _ μ1 _
   refine T_fn hc'.scope hc'.room rfl rfl ?_
   refine L_cons ?_
   refine O_item ?_
   refine W_name hc'.scope (by rfl) (by rfl) ?_
   refine W_name hc'.scope (by rfl) (by rfl) ?_
   refine ⟨_, _, _, _, _, rfl, rfl, by assumption, .inl ⟨1, rfl⟩, by decide, by rfl, ?_⟩
   refine L_cons ?_
   refine W_bin ?_
   refine W_name hc'.scope (by rfl) (by rfl) ?_
   refine W_name hc'.scope (by rfl) (by rfl) ?_
   refine bin_add ?_
   refine L_nil ?_
   refine handed_fn_k (xs := D.l) (by exact lt2 (by assumption) rfl) (by rfl) H1 (by exact .cons pz3 .nil) fun y zs μ2 hz hzl H2 => ?_
   exact PostC.go hN ⟨2, by decide, 2, ys ++ [y], rs ++ [[(y, _)]], rfl, rfl, by decide, by simp, hR.append (.one ⟨zs, hz, hzl, rfl⟩), H2.fin (P := [rs.flatten, [(y, _)], [(a, _)], [(x0, _)], [(x1, _)], [(x2, _)], [(x3, _)]]) (by exact .cons pz2 (.cons pz0 (.cons pz1 (.cons pz1 (.cons pz0 (.cons pz0 (.cons pz0 .nil))))))) (by simp)⟩
  | 2 =>
   refine .inr ⟨_, _, .range (by decide), ?_⟩
   show WE c' _ _ μ1 _
   refine T_fn hc'.scope hc'.room rfl rfl ?_
   refine L_cons ?_
   refine O_item ?_
   refine W_name hc'.scope (by rfl) (by rfl) ?_
   refine W_name hc'.scope (by rfl) (by rfl) ?_
   refine ⟨_, _, _, _, _, rfl, rfl, by assumption, .inl ⟨1, rfl⟩, by decide, by rfl, ?_⟩
   refine L_cons ?_
   refine W_bin ?_
   refine W_name hc'.scope (by rfl) (by rfl) ?_
   refine W_name hc'.scope (by rfl) (by rfl) ?_
   refine bin_add ?_
   refine L_nil ?_
   refine handed_fn_k (xs := D.o) (by exact lt2 (by assumption) rfl) (by rfl) H1 (by exact .cons pz4 .nil) fun y zs μ2 hz hzl H2 => ?_
   exact PostC.go hN ⟨1, by decide, 3, ys ++ [y], rs ++ [[(y, _)]], rfl, rfl, by decide, by simp, hR.append (.one ⟨zs, hz, hzl, rfl⟩), H2.fin (P := [rs.flatten, [(y, _)], [(a, _)], [(x0, _)], [(x1, _)], [(x2, _)], [(x3, _)]]) (by exact .cons pz2 (.cons pz0 (.cons pz1 (.cons pz1 (.cons pz1 (.cons pz0 (.cons pz0 .nil))))))) (by simp)⟩
  | 3 =>
   refine .inr ⟨_, _, .range (by decide), ?_⟩
   show WE c' _ _ μ1 _
   refine T_fn hc'.scope hc'.room rfl rfl ?_
   refine L_cons ?_
   refine O_item ?_
   refine W_name hc'.scope (by rfl) (by rfl) ?_
   refine W_name hc'.scope (by rfl) (by rfl) ?_
   refine ⟨_, _, _, _, _, rfl, rfl, by assumption, .inl ⟨1, rfl⟩, by decide, by rfl, ?_⟩
   refine L_cons ?_
   refine W_bin ?_
   refine W_name hc'.scope (by rfl) (by rfl) ?_
   refine W_name hc'.scope (by rfl) (by rfl) ?_
   refine bin_add ?_
   refine L_nil ?_
   refine handed_fn_k (xs := D.n) (by exact lt2 (by assumption) rfl) (by rfl) H1 (by exact .cons pz5 .nil) fun y zs μ2 hz hzl H2 => ?_
   exact PostC.go hN ⟨0, by decide, 4, ys ++ [y], rs ++ [[(y, _)]], rfl, rfl, by decide, by simp, hR.append (.one ⟨zs, hz, hzl, rfl⟩), H2.fin (P := [rs.flatten, [(y, _)], [(a, _)], [(x0, _)], [(x1, _)], [(x2, _)], [(x3, _)]]) (by exact .cons pz2 (.cons pz0 (.cons pz1 (.cons pz1 (.cons pz1 (.cons pz1 (.cons pz0 .nil))))))) (by simp)⟩
  | 4 =>
   refine .inl ⟨.rangeEnd (by decide), _, H1, fun R μ2 H2 => ?_⟩
   obtain ⟨⟩ | @⟨y0, _, l0, _, _, _, h0, hR⟩ := hR
   obtain ⟨⟩ | @⟨y1, _, l1, _, _, _, h1, hR⟩ := hR
   obtain ⟨⟩ | @⟨y2, _, l2, _, _, _, h2, hR⟩ := hR
   obtain ⟨⟩ | @⟨y3, _, l3, _, _, _, h3, hR⟩ := hR
   cases hR
   obtain ⟨z0, m0, n0, rfl⟩ := h0
   obtain ⟨z1, m1, n1, rfl⟩ := h1
   obtain ⟨z2, m2, n2, rfl⟩ := h2
   obtain ⟨z3, m3, n3, rfl⟩ := h3
   have H3 : Own [[(R, .list [.ref y0, .ref y1, .ref y2, .ref y3])], [(y0, _)], [(y1, _)], [(y2, _)], [(y3, _)], [(a, _)], [(x0, _)], [(x1, _)], [(x2, _)], [(x3, _)]] μ2 := H2.eq
   refine T_if fun RI hRI => ?_
   refine B_cmp ?_
   refine W_name hc.scope (by rfl) (by rfl) ?_
   refine W_int ?_
   refine cmp_eq ?_
   (first | refine z_T (by rfl) ?_ | refine i_T (by rfl) fun NI hNI => ?_ | refine ite_T (by rfl) ?_)
   refine S_assign hc.scope hc.celled (by rfl) ?_
   refine T_new hc.scope hc.room rfl rfl ?_
   refine L_cons ?_
   refine O_item ?_
   refine W_name hc.scope (by rfl) (by rfl) ?_
   refine W_int ?_
   refine ⟨_, _, _, _, _, rfl, rfl, by assumption, .inl ⟨0, rfl⟩, by decide, by rfl, ?_⟩
   refine L_cons ?_
   refine O_item ?_
   refine W_name hc.scope (by rfl) (by rfl) ?_
   refine W_int ?_
   refine ⟨_, _, _, _, _, rfl, rfl, by assumption, .inl ⟨0, rfl⟩, by decide, by rfl, ?_⟩
   refine L_cons ?_
   refine O_item ?_
   refine W_name hc.scope (by rfl) (by rfl) ?_
   refine W_int ?_
   refine ⟨_, _, _, _, _, rfl, rfl, by assumption, .inl ⟨0, rfl⟩, by decide, by rfl, ?_⟩
   refine L_cons ?_
   refine O_item ?_
   refine W_name hc.scope (by rfl) (by rfl) ?_
   refine W_int ?_
   refine ⟨_, _, _, _, _, rfl, rfl, by assumption, .inl ⟨0, rfl⟩, by decide, by rfl, ?_⟩
   refine L_cons ?_
   refine O_item ?_
   refine W_name hc.scope (by rfl) (by rfl) ?_
   refine W_int ?_
   refine ⟨_, _, _, _, _, rfl, rfl, by assumption, .inl ⟨5, rfl⟩, by decide, by rfl, ?_⟩
   refine L_nil ?_
   refine ⟨_, by assumption, fun _ _ _ _ => ?_⟩
   refine conf_init_k (q0 := z0) (q1 := z1) (q2 := z2) (q3 := z3) (by omega) (by omega) (by omega) (by omega) (by rfl) (by assumption) (by exact .cons pz0 (.cons pz0 (.cons pz1 (.cons pz1 (.cons pz1 (.cons pz1 .nil)))))) fun E lb μ4 hE hq1 hq2 hq3 hq4 e4 H4 => ?_
   obtain ⟨e0, f0⟩ := hq1
   obtain ⟨e1, f1⟩ := hq2
   obtain ⟨e2, f2⟩ := hq3
   obtain ⟨e3, f3⟩ := hq4
   obtain rfl := CD.same hs' ⟨e0, fun z => (f0 z).trans (m0 z)⟩ ⟨e1, fun z => (f1 z).trans (m1 z)⟩ ⟨e2, fun z => (f2 z).trans (m2 z)⟩ ⟨e3, fun z => (f3 z).trans (m3 z)⟩ e4
   refine ⟨rfl, ?_⟩
   refine S_nil ?_
   refine fln_next ?_
   refine T_for _ (fun j k μ1 => ∃ (i : Nat) (u0 u1 u2 u3 : List V), k = .list R i ∧ j = 4 - i ∧ i ≤ 4 ∧ u0.length ≤ 61 + i ∧ u1.length ≤ 61 + i ∧ u2.length ≤ 61 + i ∧ u3.length ≤ 61 + i ∧
    Own [lb, [(R, .list [.ref y0, .ref y1, .ref y2, .ref y3])], [(y0, .list u0)], [(y1, .list u1)], [(y2, .list u2)], [(y3, .list u3)], [(a, .list [.ref x0, .ref x1, .ref x2, .ref x3, .bool E.al])], [(x0, .list (List.map V.int E.v))], [(x1, .list (List.map V.int E.l))], [(x2, .list (List.map V.int E.o))], [(x3, .list (List.map V.int E.n))]] μ1) Sub.refl ?_ ?_
   ·refine OI_list ?_
    refine W_name hc.scope (by rfl) (by rfl) ?_
    refine ⟨_, _, _, rfl, by assumption, ⟨5, rfl⟩, ?_⟩
    exact ⟨_, 0, List.map V.int z0, List.map V.int z1, List.map V.int z2, List.map V.int z3, rfl, rfl, by exact Nat.le_of_ble_eq_true rfl, by rw [List.length_map]; omega, by rw [List.length_map]; omega, by rw [List.length_map]; omega, by rw [List.length_map]; omega, by (apply Own.sel; (· assumption); exact .cons pz0 (.cons pz4 (.cons pz0 (.cons pz0 (.cons pz0 (.cons pz0 (.cons pz0 (.cons pz0 (.cons pz0 (.cons pz0 (.cons pz0 .nil)))))))))))⟩
   rintro c'' hc'' N hN j k μ5 ⟨i, u0, u1, u2, u3, rfl, rfl, hi, g0, g1, g2, g3, H6⟩
   have hc3 := hc'' _ _ hc
   match i with
   | 0 =>
    refine .inr ⟨.ref y0, _, .list (H6.get (by exact pz1)) rfl, ?_⟩
    refine A_name (by exact hc3.scope) (by exact hc3.celled) rfl ?_
    refine T_expr ?_
    refine O_append ?_
    refine W_name hc3.scope (by rfl) (by rfl) ?_
    refine ⟨_, _, _, rfl, by assumption, ⟨2, rfl⟩, ?_⟩
    refine W_int ?_
    refine ⟨_, _, _, by assumption, pz2, by exact le2 (by assumption) rfl, fun _ _ => ?_⟩
    refine OS_setitem ?_
    refine W_int ?_
    refine W_name hc3.scope (by rfl) (by rfl) ?_
    refine W_int ?_
    refine ⟨_, _, _, _, _, rfl, rfl, by assumption, pz0, by (simp; omega), fun _ _ => ?_⟩
    refine S_nil ?_
    refine PostN.go (by assumption) ?_
    exact ⟨Sub.refl.set, 3, by decide, 1, (u0 ++ [V.int 7]).set 0 (V.int 0), u1, u2, u3, rfl, rfl, by decide, by simp; omega, by exact le2 (by assumption) rfl, by exact le2 (by assumption) rfl, by exact le2 (by assumption) rfl, by (apply Own.sel; (· assumption); exact .cons pz1 (.cons pz1 (.cons pz0 (.cons pz0 (.cons pz0 (.cons pz0 (.cons pz0 (.cons pz0 (.cons pz0 (.cons pz0 (.cons pz0 .nil)))))))))))⟩
   | 1 =>
    refine .inr ⟨.ref y1, _, .list (H6.get (by exact pz1)) rfl, ?_⟩
    refine A_name (by exact hc3.scope) (by exact hc3.celled) rfl ?_
    refine T_expr ?_
    refine O_append ?_
    refine W_name hc3.scope (by rfl) (by rfl) ?_
    refine ⟨_, _, _, rfl, by assumption, ⟨3, rfl⟩, ?_⟩
    refine W_int ?_
    refine ⟨_, _, _, by assumption, pz3, by exact le2 (by assumption) rfl, fun _ _ => ?_⟩
    refine OS_setitem ?_
    refine W_int ?_
    refine W_name hc3.scope (by rfl) (by rfl) ?_
    refine W_int ?_
    refine ⟨_, _, _, _, _, rfl, rfl, by assumption, pz0, by (simp; omega), fun _ _ => ?_⟩
    refine S_nil ?_
    refine PostN.go (by assumption) ?_
    exact ⟨Sub.refl.set, 2, by decide, 2, u0, (u1 ++ [V.int 7]).set 0 (V.int 0), u2, u3, rfl, rfl, by decide, by exact le2 (by assumption) rfl, by simp; omega, by exact le2 (by assumption) rfl, by exact le2 (by assumption) rfl, by (apply Own.sel; (· assumption); exact .cons pz1 (.cons pz1 (.cons pz1 (.cons pz0 (.cons pz0 (.cons pz0 (.cons pz0 (.cons pz0 (.cons pz0 (.cons pz0 (.cons pz0 .nil)))))))))))⟩
   | 2 =>
    refine .inr ⟨.ref y2, _, .list (H6.get (by exact pz1)) rfl, ?_⟩
    refine A_name (by exact hc3.scope) (by exact hc3.celled) rfl ?_
    refine T_expr ?_
    refine O_append ?_
    refine W_name hc3.scope (by rfl) (by rfl) ?_
    refine ⟨_, _, _, rfl, by assumption, ⟨4, rfl⟩, ?_⟩
    refine W_int ?_
    refine ⟨_, _, _, by assumption, pz4, by exact le2 (by assumption) rfl, fun _ _ => ?_⟩
    refine OS_setitem ?_
    refine W_int ?_
    refine W_name hc3.scope (by rfl) (by rfl) ?_
    refine W_int ?_
    refine ⟨_, _, _, _, _, rfl, rfl, by assumption, pz0, by (simp; omega), fun _ _ => ?_⟩
    refine S_nil ?_
    refine PostN.go (by assumption) ?_
    exact ⟨Sub.refl.set, 1, by decide, 3, u0, u1, (u2 ++ [V.int 7]).set 0 (V.int 0), u3, rfl, rfl, by decide, by exact le2 (by assumption) rfl, by exact le2 (by assumption) rfl, by simp; omega, by exact le2 (by assumption) rfl, by (apply Own.sel; (· assumption); exact .cons pz1 (.cons pz1 (.cons pz1 (.cons pz1 (.cons pz0 (.cons pz0 (.cons pz0 (.cons pz0 (.cons pz0 (.cons pz0 (.cons pz0 .nil)))))))))))⟩
   | 3 =>
    refine .inr ⟨.ref y3, _, .list (H6.get (by exact pz1)) rfl, ?_⟩
    refine A_name (by exact hc3.scope) (by exact hc3.celled) rfl ?_
    refine T_expr ?_
    refine O_append ?_
    refine W_name hc3.scope (by rfl) (by rfl) ?_
    refine ⟨_, _, _, rfl, by assumption, ⟨5, rfl⟩, ?_⟩
    refine W_int ?_
    refine ⟨_, _, _, by assumption, pz5, by exact le2 (by assumption) rfl, fun _ _ => ?_⟩
    refine OS_setitem ?_
    refine W_int ?_
    refine W_name hc3.scope (by rfl) (by rfl) ?_
    refine W_int ?_
    refine ⟨_, _, _, _, _, rfl, rfl, by assumption, pz0, by (simp; omega), fun _ _ => ?_⟩
    refine S_nil ?_
    refine PostN.go (by assumption) ?_
    exact ⟨Sub.refl.set, 0, by decide, 4, u0, u1, u2, (u3 ++ [V.int 7]).set 0 (V.int 0), rfl, rfl, by decide, by exact le2 (by assumption) rfl, by exact le2 (by assumption) rfl, by exact le2 (by assumption) rfl, by simp; omega, by (apply Own.sel; (· assumption); exact .cons pz1 (.cons pz1 (.cons pz1 (.cons pz1 (.cons pz1 (.cons pz0 (.cons pz0 (.cons pz0 (.cons pz0 (.cons pz0 (.cons pz0 .nil)))))))))))⟩
   | 4 =>
    refine .inl ⟨.listEnd (H6.get (by exact pz1)) rfl, ?_⟩
    refine S_ret ?_
    refine W_name hc.scope (by rfl) (by rfl) ?_
    refine PostF.ret (by assumption) ?_
    exact ⟨_, lb, rfl, hE, (H6.sel (P := [lb, [(a, _)], [(x0, _)], [(x1, _)], [(x2, _)], [(x3, _)]]) (by exact .cons pz0 (.cons pz5 (.cons pz5 (.cons pz5 (.cons pz5 (.cons pz5 .nil))))))).eq⟩
theorem made1 {a : Addr} {D : CD} {l : List (Addr × O)} {y : Int} (hG : CO a D l) (hs : D.Fit) {μ : Mu} (H : Own [l] μ) : Fn w 5 403 [.int 1, .ref a, .int y] μ (fun v μ' => ∃ b lb, v = .ref b ∧ CG 365 b D lb ∧ Own [lb, l] μ') := by
 have hs' := hs
 obtain ⟨x0, x1, x2, x3, rfl⟩ := hG
 obtain ⟨⟨_, s0⟩, ⟨_, s1⟩, ⟨_, s2⟩, ⟨_, s3⟩⟩ := hs
 have H : Own [[(a, _)], [(x0, _)], [(x1, _)], [(x2, _)], [(x3, _)]] μ := H.eq
 refine fn_go (ns := ["kind", "members", "y"]) k403 (by (conv => lhs; whnf)) (by (conv => lhs; whnf)) (by kernel_rfl) (rvs3 fun a b c => by kernel_rfl) rfl rfl rfl rfl rfl fun c hc KQ hKQ => ?_
 refine OS_assignC (fun n k acc μ1 => ∃ (i : Nat) (ys : List Addr) (rs : List (List (Addr × O))), k = .range i (4 - i) ∧ n = 4 - i ∧ i ≤ 4 ∧ acc = ys.map .ref ∧ Alls LR ys ([D.v, D.l, D.o, D.n].take i) rs ∧
  Own (rs.flatten :: [[(a, .list [.ref x0, .ref x1, .ref x2, .ref x3, .bool D.al])], [(x0, .list (List.map V.int D.v))], [(x1, .list (List.map V.int D.l))], [(x2, .list (List.map V.int D.o))], [(x3, .list (List.map V.int D.n))]]) μ1) (by exact hc.scope) (by exact hc.celled) hc.own (by rfl) (by rfl) ?_ ?_
 ·refine I_range (by exact hc.scope) ?_
  refine W_int ?_
  refine ⟨_, rfl, ?_⟩
  exact ⟨by decide, _, 0, [], [], rfl, rfl, by exact Nat.le_of_ble_eq_true rfl, rfl, .nil, H.unnil⟩
 ·rintro c' hc' N hN n k acc μ1 ⟨i, ys, rs, rfl, rfl, hi, rfl, hR, H1⟩
  rw [hc.room] at hc'
  have hyl : ys.length ≤ 4 := by rw [hR.length.1, List.length_take]; simp; omega
  refine ⟨by simp; omega, ?_⟩
  match i with
  | 0 =>
   refine .inr ⟨_, _, .range (by decide), ?_⟩
   show WE c' _ _ μ1 _
   refine T_fn hc'.scope hc'.room rfl rfl ?_
   refine L_cons ?_
   refine O_item ?_
   refine W_name hc'.scope (by rfl) (by rfl) ?_
   refine W_name hc'.scope (by rfl) (by rfl) ?_
   refine ⟨_, _, _, _, _, rfl, rfl, by assumption, .inl ⟨1, rfl⟩, by decide, by rfl, ?_⟩
   refine L_cons ?_
   refine W_bin ?_
   refine W_name hc'.scope (by rfl) (by rfl) ?_
   refine W_name hc'.scope (by rfl) (by rfl) ?_
   refine bin_add ?_
   refine L_nil ?_
   refine handed_fn_k (xs := D.v) (by exact lt2 (by assumption) rfl) (by rfl) H1 (by exact .cons pz2 .nil) fun y zs μ2 hz hzl H2 => ?_
   exact PostC.go hN ⟨3, by decide, 1, ys ++ [y], rs ++ [[(y, _)]], rfl, rfl, by decide, by simp, hR.append (.one ⟨zs, hz, hzl, rfl⟩), H2.fin (P := [rs.flatten, [(y, _)], [(a, _)], [(x0, _)], [(x1, _)], [(x2, _)], [(x3, _)]]) (by exact .cons pz2 (.cons pz0 (.cons pz1 (.cons pz0 (.cons pz0 (.cons pz0 (.cons pz0 .nil))))))) (by simp)⟩
  | 1 =>
   refine .inr ⟨_, _, .range (by decide), ?_⟩
   show WE c' _ _ μ1 _
   refine T_fn hc'.scope hc'.room rfl rfl ?_
   refine L_cons ?_
   refine O_item ?_
   refine W_name hc'.scope (by rfl) (by rfl) ?_
   refine W_name hc'.scope (by rfl) (by rfl) ?_
   refine ⟨_, _, _, _, _, rfl, rfl, by assumption, .inl ⟨1, rfl⟩, by decide, by rfl, ?_⟩
   refine L_cons ?_
   refine W_bin ?_
   refine W_name hc'.scope (by rfl) (by rfl) ?_
   refine W_name hc'.scope (by rfl) (by rfl) ?_
   refine bin_add ?_
   refine L_nil ?_
   refine handed_fn_k (xs := D.l) (by exact lt2 (by assumption) rfl) (by rfl) H1 (by exact .cons pz3 .nil) fun y zs μ2 hz hzl H2 => ?_
   exact PostC.go hN ⟨2, by decide, 2, ys ++ [y], rs ++ [[(y, _)]], rfl, rfl, by decide, by simp, hR.append (.one ⟨zs, hz, hzl, rfl⟩), H2.fin (P := [rs.flatten, [(y, _)], [(a, _)], [(x0, _)], [(x1, _)], [(x2, _)], [(x3, _)]]) (by exact .cons pz2 (.cons pz0 (.cons pz1 (.cons pz1 (.cons pz0 (.cons pz0 (.cons pz0 .nil))))))) (by simp)⟩
  | 2 =>
   refine .inr ⟨_, _, .range (by decide), ?_⟩
   show WE c' _ _ μ1 _
   refine T_fn hc'.scope hc'.room rfl rfl ?_
   refine L_cons ?_
   refine O_item ?_
   refine W_name hc'.scope (by rfl) (by rfl) ?_
   refine W_name hc'.scope (by rfl) (by rfl) ?_
   refine ⟨_, _, _, _, _, rfl, rfl, by assumption, .inl ⟨1, rfl⟩, by decide, by rfl, ?_⟩
   refine L_cons ?_
   refine W_bin ?_
   refine W_name hc'.scope (by rfl) (by rfl) ?_
   refine W_name hc'.scope (by rfl) (by rfl) ?_
   refine bin_add ?_
   refine L_nil ?_
   refine handed_fn_k (xs := D.o) (by exact lt2 (by assumption) rfl) (by rfl) H1 (by exact .cons pz4 .nil) fun y zs μ2 hz hzl H2 => ?_
   exact PostC.go hN ⟨1, by decide, 3, ys ++ [y], rs ++ [[(y, _)]], rfl, rfl, by decide, by simp, hR.append (.one ⟨zs, hz, hzl, rfl⟩), H2.fin (P := [rs.flatten, [(y, _)], [(a, _)], [(x0, _)], [(x1, _)], [(x2, _)], [(x3, _)]]) (by exact .cons pz2 (.cons pz0 (.cons pz1 (.cons pz1 (.cons pz1 (.cons pz0 (.cons pz0 .nil))))))) (by simp)⟩
  | 3 =>
   refine .inr ⟨_, _, .range (by decide), ?_⟩
   show WE c' _ _ μ1 _
   refine T_fn hc'.scope hc'.room rfl rfl ?_
   refine L_cons ?_
   refine O_item ?_
   refine W_name hc'.scope (by rfl) (by rfl) ?_
   refine W_name hc'.scope (by rfl) (by rfl) ?_
   refine ⟨_, _, _, _, _, rfl, rfl, by assumption, .inl ⟨1, rfl⟩, by decide, by rfl, ?_⟩
   refine L_cons ?_
   refine W_bin ?_
   refine W_name hc'.scope (by rfl) (by rfl) ?_
   refine W_name hc'.scope (by rfl) (by rfl) ?_
   refine bin_add ?_
   refine L_nil ?_
   refine handed_fn_k (xs := D.n) (by exact lt2 (by assumption) rfl) (by rfl) H1 (by exact .cons pz5 .nil) fun y zs μ2 hz hzl H2 => ?_
   exact PostC.go hN ⟨0, by decide, 4, ys ++ [y], rs ++ [[(y, _)]], rfl, rfl, by decide, by simp, hR.append (.one ⟨zs, hz, hzl, rfl⟩), H2.fin (P := [rs.flatten, [(y, _)], [(a, _)], [(x0, _)], [(x1, _)], [(x2, _)], [(x3, _)]]) (by exact .cons pz2 (.cons pz0 (.cons pz1 (.cons pz1 (.cons pz1 (.cons pz1 (.cons pz0 .nil))))))) (by simp)⟩
  | 4 =>
   refine .inl ⟨.rangeEnd (by decide), _, H1, fun R μ2 H2 => ?_⟩
   obtain ⟨⟩ | @⟨y0, _, l0, _, _, _, h0, hR⟩ := hR
   obtain ⟨⟩ | @⟨y1, _, l1, _, _, _, h1, hR⟩ := hR
   obtain ⟨⟩ | @⟨y2, _, l2, _, _, _, h2, hR⟩ := hR
   obtain ⟨⟩ | @⟨y3, _, l3, _, _, _, h3, hR⟩ := hR
   cases hR
   obtain ⟨z0, m0, n0, rfl⟩ := h0
   obtain ⟨z1, m1, n1, rfl⟩ := h1
   obtain ⟨z2, m2, n2, rfl⟩ := h2
   obtain ⟨z3, m3, n3, rfl⟩ := h3
   have H3 : Own [[(R, .list [.ref y0, .ref y1, .ref y2, .ref y3])], [(y0, _)], [(y1, _)], [(y2, _)], [(y3, _)], [(a, _)], [(x0, _)], [(x1, _)], [(x2, _)], [(x3, _)]] μ2 := H2.eq
   refine T_if fun RI hRI => ?_
   refine B_cmp ?_
   refine W_name hc.scope (by rfl) (by rfl) ?_
   refine W_int ?_
   refine cmp_eq ?_
   (first | refine z_F (by rfl) ?_ | refine i_F (by rfl) fun NI hNI => ?_ | refine ite_F (by rfl) ?_)
   refine S_assign hc.scope hc.celled (by rfl) ?_
   refine T_new hc.scope hc.room rfl rfl ?_
   refine L_cons ?_
   refine O_item ?_
   refine W_name hc.scope (by rfl) (by rfl) ?_
   refine W_int ?_
   refine ⟨_, _, _, _, _, rfl, rfl, by assumption, .inl ⟨0, rfl⟩, by decide, by rfl, ?_⟩
   refine L_cons ?_
   refine O_item ?_
   refine W_name hc.scope (by rfl) (by rfl) ?_
   refine W_int ?_
   refine ⟨_, _, _, _, _, rfl, rfl, by assumption, .inl ⟨0, rfl⟩, by decide, by rfl, ?_⟩
   refine L_cons ?_
   refine O_item ?_
   refine W_name hc.scope (by rfl) (by rfl) ?_
   refine W_int ?_
   refine ⟨_, _, _, _, _, rfl, rfl, by assumption, .inl ⟨0, rfl⟩, by decide, by rfl, ?_⟩
   refine L_cons ?_
   refine O_item ?_
   refine W_name hc.scope (by rfl) (by rfl) ?_
   refine W_int ?_
   refine ⟨_, _, _, _, _, rfl, rfl, by assumption, .inl ⟨0, rfl⟩, by decide, by rfl, ?_⟩
   refine L_cons ?_
   refine O_item ?_
   refine W_name hc.scope (by rfl) (by rfl) ?_
   refine W_int ?_
   refine ⟨_, _, _, _, _, rfl, rfl, by assumption, .inl ⟨5, rfl⟩, by decide, by rfl, ?_⟩
   refine L_nil ?_
   refine ⟨_, by assumption, fun _ _ _ _ => ?_⟩
   refine config_init_k (q0 := z0) (q1 := z2) (q2 := z1) (q3 := z3) (by omega) (by omega) (by omega) (by omega) (by rfl) (by assumption) (by exact .cons pz0 (.cons pz0 (.cons pz1 (.cons pz2 (.cons pz1 (.cons pz1 .nil)))))) fun E lb μ4 hE hq1 hq2 hq3 hq4 e4 H4 => ?_
   obtain ⟨e0, f0⟩ := hq1
   obtain ⟨e1, f1⟩ := hq2
   obtain ⟨e2, f2⟩ := hq3
   obtain ⟨e3, f3⟩ := hq4
   obtain rfl := CD.same hs' ⟨e0, fun z => (f0 z).trans (m0 z)⟩ ⟨e2, fun z => (f2 z).trans (m1 z)⟩ ⟨e1, fun z => (f1 z).trans (m2 z)⟩ ⟨e3, fun z => (f3 z).trans (m3 z)⟩ e4
   refine ⟨rfl, ?_⟩
   refine S_nil ?_
   refine fln_next ?_
   refine T_for _ (fun j k μ1 => ∃ (i : Nat) (u0 u1 u2 u3 : List V), k = .list R i ∧ j = 4 - i ∧ i ≤ 4 ∧ u0.length ≤ 61 + i ∧ u1.length ≤ 61 + i ∧ u2.length ≤ 61 + i ∧ u3.length ≤ 61 + i ∧
    Own [lb, [(R, .list [.ref y0, .ref y1, .ref y2, .ref y3])], [(y0, .list u0)], [(y1, .list u1)], [(y2, .list u2)], [(y3, .list u3)], [(a, .list [.ref x0, .ref x1, .ref x2, .ref x3, .bool E.al])], [(x0, .list (List.map V.int E.v))], [(x1, .list (List.map V.int E.l))], [(x2, .list (List.map V.int E.o))], [(x3, .list (List.map V.int E.n))]] μ1) Sub.refl ?_ ?_
   ·refine OI_list ?_
    refine W_name hc.scope (by rfl) (by rfl) ?_
    refine ⟨_, _, _, rfl, by assumption, ⟨5, rfl⟩, ?_⟩
    exact ⟨_, 0, List.map V.int z0, List.map V.int z1, List.map V.int z2, List.map V.int z3, rfl, rfl, by exact Nat.le_of_ble_eq_true rfl, by rw [List.length_map]; omega, by rw [List.length_map]; omega, by rw [List.length_map]; omega, by rw [List.length_map]; omega, by (apply Own.sel; (· assumption); exact .cons pz0 (.cons pz4 (.cons pz0 (.cons pz1 (.cons pz0 (.cons pz0 (.cons pz0 (.cons pz0 (.cons pz0 (.cons pz0 (.cons pz0 .nil)))))))))))⟩
   rintro c'' hc'' N hN j k μ5 ⟨i, u0, u1, u2, u3, rfl, rfl, hi, g0, g1, g2, g3, H6⟩
   have hc3 := hc'' _ _ hc
   match i with
   | 0 =>
    refine .inr ⟨.ref y0, _, .list (H6.get (by exact pz1)) rfl, ?_⟩
    refine A_name (by exact hc3.scope) (by exact hc3.celled) rfl ?_
    refine T_expr ?_
    refine O_append ?_
    refine W_name hc3.scope (by rfl) (by rfl) ?_
    refine ⟨_, _, _, rfl, by assumption, ⟨2, rfl⟩, ?_⟩
    refine W_int ?_
    refine ⟨_, _, _, by assumption, pz2, by exact le2 (by assumption) rfl, fun _ _ => ?_⟩
    refine OS_setitem ?_
    refine W_int ?_
    refine W_name hc3.scope (by rfl) (by rfl) ?_
    refine W_int ?_
    refine ⟨_, _, _, _, _, rfl, rfl, by assumption, pz0, by (simp; omega), fun _ _ => ?_⟩
    refine S_nil ?_
    refine PostN.go (by assumption) ?_
    exact ⟨Sub.refl.set, 3, by decide, 1, (u0 ++ [V.int 7]).set 0 (V.int 0), u1, u2, u3, rfl, rfl, by decide, by simp; omega, by exact le2 (by assumption) rfl, by exact le2 (by assumption) rfl, by exact le2 (by assumption) rfl, by (apply Own.sel; (· assumption); exact .cons pz1 (.cons pz1 (.cons pz0 (.cons pz0 (.cons pz0 (.cons pz0 (.cons pz0 (.cons pz0 (.cons pz0 (.cons pz0 (.cons pz0 .nil)))))))))))⟩
   | 1 =>
    refine .inr ⟨.ref y1, _, .list (H6.get (by exact pz1)) rfl, ?_⟩
    refine A_name (by exact hc3.scope) (by exact hc3.celled) rfl ?_
    refine T_expr ?_
    refine O_append ?_
    refine W_name hc3.scope (by rfl) (by rfl) ?_
    refine ⟨_, _, _, rfl, by assumption, ⟨3, rfl⟩, ?_⟩
    refine W_int ?_
    refine ⟨_, _, _, by assumption, pz3, by exact le2 (by assumption) rfl, fun _ _ => ?_⟩
    refine OS_setitem ?_
    refine W_int ?_
    refine W_name hc3.scope (by rfl) (by rfl) ?_
    refine W_int ?_
    refine ⟨_, _, _, _, _, rfl, rfl, by assumption, pz0, by (simp; omega), fun _ _ => ?_⟩
    refine S_nil ?_
    refine PostN.go (by assumption) ?_
    exact ⟨Sub.refl.set, 2, by decide, 2, u0, (u1 ++ [V.int 7]).set 0 (V.int 0), u2, u3, rfl, rfl, by decide, by exact le2 (by assumption) rfl, by simp; omega, by exact le2 (by assumption) rfl, by exact le2 (by assumption) rfl, by (apply Own.sel; (· assumption); exact .cons pz1 (.cons pz1 (.cons pz1 (.cons pz0 (.cons pz0 (.cons pz0 (.cons pz0 (.cons pz0 (.cons pz0 (.cons pz0 (.cons pz0 .nil)))))))))))⟩
   | 2 =>
    refine .inr ⟨.ref y2, _, .list (H6.get (by exact pz1)) rfl, ?_⟩
    refine A_name (by exact hc3.scope) (by exact hc3.celled) rfl ?_
    refine T_expr ?_
    refine O_append ?_
    refine W_name hc3.scope (by rfl) (by rfl) ?_
    refine ⟨_, _, _, rfl, by assumption, ⟨4, rfl⟩, ?_⟩
    refine W_int ?_
    refine ⟨_, _, _, by assumption, pz4, by exact le2 (by assumption) rfl, fun _ _ => ?_⟩
    refine OS_setitem ?_
    refine W_int ?_
    refine W_name hc3.scope (by rfl) (by rfl) ?_
    refine W_int ?_
    refine ⟨_, _, _, _, _, rfl, rfl, by assumption, pz0, by (simp; omega), fun _ _ => ?_⟩
    refine S_nil ?_
    refine PostN.go (by assumption) ?_
    exact ⟨Sub.refl.set, 1, by decide, 3, u0, u1, (u2 ++ [V.int 7]).set 0 (V.int 0), u3, rfl, rfl, by decide, by exact le2 (by assumption) rfl, by exact le2 (by assumption) rfl, by simp; omega, by exact le2 (by assumption) rfl, by (apply Own.sel; (· assumption); exact .cons pz1 (.cons pz1 (.cons pz1 (.cons pz1 (.cons pz0 (.cons pz0 (.cons pz0 (.cons pz0 (.cons pz0 (.cons pz0 (.cons pz0 .nil)))))))))))⟩
   | 3 =>
    refine .inr ⟨.ref y3, _, .list (H6.get (by exact pz1)) rfl, ?_⟩
    refine A_name (by exact hc3.scope) (by exact hc3.celled) rfl ?_
    refine T_expr ?_
    refine O_append ?_
    refine W_name hc3.scope (by rfl) (by rfl) ?_
    refine ⟨_, _, _, rfl, by assumption, ⟨5, rfl⟩, ?_⟩
    refine W_int ?_
    refine ⟨_, _, _, by assumption, pz5, by exact le2 (by assumption) rfl, fun _ _ => ?_⟩
    refine OS_setitem ?_
    refine W_int ?_
    refine W_name hc3.scope (by rfl) (by rfl) ?_
    refine W_int ?_
    refine ⟨_, _, _, _, _, rfl, rfl, by assumption, pz0, by (simp; omega), fun _ _ => ?_⟩
    refine S_nil ?_
    refine PostN.go (by assumption) ?_
    exact ⟨Sub.refl.set, 0, by decide, 4, u0, u1, u2, (u3 ++ [V.int 7]).set 0 (V.int 0), rfl, rfl, by decide, by exact le2 (by assumption) rfl, by exact le2 (by assumption) rfl, by exact le2 (by assumption) rfl, by simp; omega, by (apply Own.sel; (· assumption); exact .cons pz1 (.cons pz1 (.cons pz1 (.cons pz1 (.cons pz1 (.cons pz0 (.cons pz0 (.cons pz0 (.cons pz0 (.cons pz0 (.cons pz0 .nil)))))))))))⟩
   | 4 =>
    refine .inl ⟨.listEnd (H6.get (by exact pz1)) rfl, ?_⟩
    refine S_ret ?_
    refine W_name hc.scope (by rfl) (by rfl) ?_
    refine PostF.ret (by assumption) ?_
    exact ⟨_, lb, rfl, hE, (H6.sel (P := [lb, [(a, _)], [(x0, _)], [(x1, _)], [(x2, _)], [(x3, _)]]) (by exact .cons pz0 (.cons pz5 (.cons pz5 (.cons pz5 (.cons pz5 (.cons pz5 .nil))))))).eq⟩

theorem shot_fn {a : Addr} {D : CD} {l : List (Addr × O)} {y : Int} (hG : CO a D l) (hs : D.Fit) {μ : Mu} (H : Own [l] μ) : Fn w 7 431 [.ref a, .int y] μ
  (fun v μ' => ∃ p s ls o lo E, v = .ref p ∧ SG s E ls ∧ SO o E lo ∧ E.c = D ∧ E.d.size ≤ 2 ∧ Own [[(p, .list [.ref s, .ref o])], ls, lo] μ') := by
 refine fn_go (ns := ["members", "y"]) k431 (by (conv => lhs; whnf)) (by (conv => lhs; whnf)) (by kernel_rfl) (rvs2 fun a b => by kernel_rfl) rfl rfl rfl rfl rfl fun c hc KQ hKQ => ?_
 refine S_assign hc.scope hc.celled (by rfl) ?_
 refine O_list ?_
 refine L_cons ?_
 refine W_bin ?_
 refine W_int ?_
 refine W_bin ?_
 refine W_name hc.scope (by rfl) (by rfl) ?_
 refine W_int ?_
 ((refine bin_mod ?_ ?_); (· decide))
 refine bin_add ?_
 refine L_cons ?_
 refine W_bin ?_
 refine W_int ?_
 refine W_bin ?_
 refine W_bin ?_
 refine W_name hc.scope (by rfl) (by rfl) ?_
 refine W_int ?_
 ((refine bin_div ?_ ?_); (· decide))
 refine W_int ?_
 ((refine bin_mod ?_ ?_); (· decide))
 refine bin_add ?_
 refine L_cons ?_
 refine W_name hc.scope (by rfl) (by rfl) ?_
 refine L_cons ?_
 refine O_bytesOf hc.scope ?_
 refine O_list ?_
 refine L_cons ?_
 refine W_bin ?_
 refine W_name hc.scope (by rfl) (by rfl) ?_
 refine W_int ?_
 ((refine bin_mod ?_ ?_); (· decide))
 refine L_nil ?_
 refine ⟨_, by assumption, by exact Nat.le_of_ble_eq_true rfl, fun _ _ _ => ?_⟩
 rename_i b μ1 H1
 refine ⟨b, [y % 256], _, rfl, H1, .head, ⟨fun n hn => by rw [List.mem_singleton.mp hn]; omega, by simp⟩, ?_⟩
 refine L_nil ?_
 refine ⟨_, by assumption, by exact Nat.le_of_ble_eq_true rfl, fun _ _ _ => ?_⟩
 refine S_ret ?_
 refine O_list ?_
 refine L_cons ?_
 refine T_new hc.scope hc.room rfl rfl ?_
 refine L_cons ?_
 refine O_item ?_
 refine W_name hc.scope (by rfl) (by rfl) ?_
 refine W_int ?_
 refine ⟨_, _, _, _, _, rfl, rfl, by assumption, .inl ⟨0, rfl⟩, by decide, by rfl, ?_⟩
 refine L_cons ?_
 refine O_item ?_
 refine W_name hc.scope (by rfl) (by rfl) ?_
 refine W_int ?_
 refine ⟨_, _, _, _, _, rfl, rfl, by assumption, .inl ⟨0, rfl⟩, by decide, by rfl, ?_⟩
 refine L_cons ?_
 refine T_fn hc.scope hc.room rfl rfl ?_
 refine L_cons ?_
 refine W_int ?_
 refine L_cons ?_
 refine W_name hc.scope (by rfl) (by rfl) ?_
 refine L_cons ?_
 refine W_name hc.scope (by rfl) (by rfl) ?_
 refine L_nil ?_
 rename_i o μ2 H2
 refine Fn.call (fun _ H => made0 hG hs H) (by rfl) H2 (by exact .cons pz2 .nil) ?_
 rintro _ _ μ4 ⟨b', lb, rfl, hE, H4⟩ hF
 have H4 := hF.b2 H4
 refine L_cons ?_
 refine O_item ?_
 refine W_name hc.scope (by rfl) (by rfl) ?_
 refine W_int ?_
 refine ⟨_, _, _, _, _, rfl, rfl, by assumption, .inl ⟨2, rfl⟩, by decide, by rfl, ?_⟩
 refine L_nil ?_
 refine ⟨_, by assumption, fun _ _ _ _ => ?_⟩
 refine snap_init_k hE (by rfl) (by assumption) (by exact .cons pz0 (.cons pz0 (.cons pz0 .nil))) fun ls μ5 hS H5 => ?_
 refine ⟨rfl, ?_⟩
 refine L_cons ?_
 refine W_name hc.scope (by rfl) (by rfl) ?_
 refine L_nil ?_
 refine ⟨_, by assumption, by exact Nat.le_of_ble_eq_true rfl, fun _ _ _ => ?_⟩
 refine PostF.ret (by assumption) ?_
 rename_i p μ6 H6
 exact ⟨p, _, ls, o, _, _, rfl, hS, ⟨a, l, hG, rfl⟩, rfl, Nat.le_of_ble_eq_true rfl, H6.fin (P := [[(p, _)], ls, [(o, _)], l]) (by exact .cons pz0 (.cons pz0 (.cons pz1 (.cons pz0 .nil)))) (by simp)⟩
theorem shot_fn_k {a : Addr} {D : CD} {l : List (Addr × O)} {y : Int} (hG : CO a D l) (hs : D.Fit) {r' : Nat} (hr : Nat.ble 7 r' = true) {L K : List (List (Addr × O))} {μ : Mu} (H : Own L μ) (p : Picks [l] L K) {Q : V → Mu → Prop} (k : ∀ p s ls o lo E μ', SG s E ls → SO o E lo → (E.c = D) → E.d.size ≤ 2 → Own ([(p, .list [.ref s, .ref o])] :: ls :: lo :: K) μ' → Q (.ref p) μ') : Fn w r' 431 [.ref a, .int y] μ Q :=
 Fn.call (fun _ H => shot_fn hG hs H) hr H p fun v μ1 μ' h hF => by obtain ⟨p, s, ls, o, lo, E, rfl, h0', h1', h2', h3', H1'⟩ := h; exact k p s ls o lo E μ' h0' h1' h2' h3' (hF _ H1')
theorem members_fn {y : Int} {μ : Mu} : Fn w 2 388 [.int y] μ (fun v μ' => ∃ b lb D, v = .ref b ∧ CO b D lb ∧ D.WF 4 ∧ Own [lb] μ') := by
 have H : Own [] μ := ⟨List.nodup_nil, fun _ h => absurd h List.not_mem_nil⟩
 refine fn_go (ns := ["y"]) k388 (by (conv => lhs; whnf)) (by (conv => lhs; whnf)) (by kernel_rfl) (rvs1 fun a => by kernel_rfl) rfl rfl rfl rfl rfl fun c hc KQ hKQ => ?_
 refine S_assign hc.scope hc.celled (by rfl) ?_
 refine W_bin ?_
 refine W_bin ?_
 refine W_int ?_
 refine W_bin ?_
 refine W_name hc.scope (by rfl) (by rfl) ?_
 refine W_int ?_
 ((refine bin_mod ?_ ?_); (· decide))
 refine bin_add ?_
 refine W_bin ?_
 refine W_bin ?_
 refine W_bin ?_
 refine W_name hc.scope (by rfl) (by rfl) ?_
 refine W_int ?_
 ((refine bin_div ?_ ?_); (· decide))
 refine W_int ?_
 ((refine bin_mod ?_ ?_); (· decide))
 refine W_int ?_
 ((refine bin_mul ?_ ?_); (· decide))
 refine bin_add ?_
 have hg1 : 1 ≤ 1 + y / 15 % 4 ∧ 1 + y / 15 % 4 ≤ 4 := by omega
 generalize hfirst : 1 + y % 5 + y / 5 % 3 * 8589934592 = first
 have hf1 : 1 ≤ first ∧ first ≤ 17179869189 := by omega
 refine OS_assignC (fun n k acc μ1 => ∃ (i : Nat), k = .range i (6 - i) ∧ n = 6 - i ∧ i ≤ 6 ∧ acc = ((List.range i).map fun (j : Nat) => V.int (first + j * (1 + y / 15 % 4))) ∧ Own [] μ1) (by exact hc.scope) (by exact hc.celled) hc.own (by rfl) (by rfl) ?_ ?_
 ·refine I_range (by exact hc.scope) ?_
  refine W_int ?_
  refine ⟨_, rfl, ?_⟩
  exact ⟨by decide, _, 0, rfl, rfl, by exact Nat.le_of_ble_eq_true rfl, rfl, H⟩
 ·rintro c' hc' N hN n k acc μ1 ⟨i, rfl, rfl, hi, rfl, H1⟩
  refine ⟨by simp; omega, ?_⟩
  by_cases h : i < 6
  ·refine .inr ⟨_, _, .range (by exact sub_pos' (by assumption)), ?_⟩
   show WE c' _ _ μ1 _
   refine W_bin ?_
   refine W_name hc'.scope (by rfl) (by rfl) ?_
   refine W_bin ?_
   refine W_name hc'.scope (by rfl) (by rfl) ?_
   refine W_bin ?_
   refine W_int ?_
   refine W_bin ?_
   refine W_bin ?_
   refine W_name hc'.scope (by rfl) (by rfl) ?_
   refine W_int ?_
   ((refine bin_div ?_ ?_); (· decide))
   refine W_int ?_
   ((refine bin_mod ?_ ?_); (· decide))
   refine bin_add ?_
   ((refine bin_mul ?_ ?_); (· omega))
   refine bin_add ?_
   refine PostC.go (by assumption) ?_
   exact ⟨6 - (i + 1), by exact dec (by assumption), i + 1, rng_succ, rfl, h, by rw [List.range_succ]; simp, H1⟩
  ·have : i = 6 := by exact Nat.le_antisymm (by assumption) (Nat.le_of_not_lt (by assumption))
   subst this
   refine .inl ⟨.rangeEnd (by decide), _, H1, fun R μ2 H2 => ?_⟩
   have H3 : Own [[(R, .list [.int (first + (0 : Nat) * (1 + y / 15 % 4)), .int (first + (1 : Nat) * (1 + y / 15 % 4)), .int (first + (2 : Nat) * (1 + y / 15 % 4)), .int (first + (3 : Nat) * (1 + y / 15 % 4)), .int (first + (4 : Nat) * (1 + y / 15 % 4)), .int (first + (5 : Nat) * (1 + y / 15 % 4))])]] μ2 := H2
   have hr : y / 60 % 3 = 0 ∨ y / 60 % 3 = 1 ∨ y / 60 % 3 = 2 := by exact c3 (em0 _ rfl) (em1 _ rfl)
   refine S_assign hc.scope hc.celled (by rfl) ?_
   refine O_list ?_
   refine L_cons ?_
   refine O_upto ?_
   refine W_name hc.scope (by rfl) (by rfl) ?_
   refine ⟨_, _, _, rfl, by assumption, ⟨0, rfl⟩, by (simp; done), fun _ _ _ => ?_⟩
   refine L_cons ?_
   refine O_list ?_
   refine L_cons ?_
   refine O_item ?_
   refine W_name hc.scope (by rfl) (by rfl) ?_
   refine W_int ?_
   refine ⟨_, _, _, _, _, rfl, rfl, by assumption, .inl ⟨1, rfl⟩, by decide, by rfl, ?_⟩
   refine L_nil ?_
   refine ⟨_, by assumption, by exact Nat.le_of_ble_eq_true rfl, fun _ _ _ => ?_⟩
   refine L_cons ?_
   refine O_run ?_
   refine W_name hc.scope (by rfl) (by rfl) ?_
   refine ⟨_, _, _, rfl, by assumption, ⟨2, rfl⟩, by (simp; done), fun _ _ _ => ?_⟩
   refine L_cons ?_
   refine O_list ?_
   refine L_cons ?_
   refine O_item ?_
   refine W_name hc.scope (by rfl) (by rfl) ?_
   refine W_int ?_
   refine ⟨_, _, _, _, _, rfl, rfl, by assumption, .inl ⟨3, rfl⟩, by decide, by rfl, ?_⟩
   refine L_nil ?_
   refine ⟨_, by assumption, by exact Nat.le_of_ble_eq_true rfl, fun _ _ _ => ?_⟩
   refine L_cons ?_
   refine W_cmp ?_
   refine W_bin ?_
   refine W_bin ?_
   refine W_name hc.scope (by rfl) (by rfl) ?_
   refine W_int ?_
   ((refine bin_div ?_ ?_); (· decide))
   refine W_int ?_
   ((refine bin_mod ?_ ?_); (· decide))
   refine W_int ?_
   refine cmp_eq ?_
   refine L_nil ?_
   refine ⟨_, by assumption, by exact Nat.le_of_ble_eq_true rfl, fun _ _ _ => ?_⟩
   refine S_assign hc.scope hc.celled (by rfl) ?_
   refine W_bin ?_
   refine W_bin ?_
   refine W_name hc.scope (by rfl) (by rfl) ?_
   refine W_int ?_
   ((refine bin_div ?_ ?_); (· decide))
   refine W_int ?_
   ((refine bin_mod ?_ ?_); (· decide))
   refine T_expr ?_
   refine O_append ?_
   refine O_item ?_
   refine W_name hc.scope (by rfl) (by rfl) ?_
   refine W_name hc.scope (by rfl) (by rfl) ?_
   rename_i ms μ4 H4
   clear hfirst
   generalize 1 + y / 15 % 4 = g at *
   rcases hr with h | h | h
   ·rw [h]
    refine ⟨_, _, _, _, _, rfl, rfl, by assumption, .inl ⟨0, rfl⟩, by decide, by rfl, ?_⟩
    refine ⟨_, _, _, rfl, by assumption, ⟨4, rfl⟩, ?_⟩
    refine O_item ?_
    refine W_name hc.scope (by rfl) (by rfl) ?_
    refine W_int ?_
    refine ⟨_, _, _, _, _, rfl, rfl, by assumption, .inl ⟨5, rfl⟩, by decide, by rfl, ?_⟩
    refine ⟨_, _, _, by assumption, pz4, by exact Nat.le_of_ble_eq_true rfl, fun _ _ => ?_⟩
    refine T_if fun RI hRI => ?_
    refine B_cmp ?_
    refine W_name hc.scope (by rfl) (by rfl) ?_
    refine W_int ?_
    refine cmp_eq ?_
    (first | refine z_F (by rfl) ?_ | refine i_F (by rfl) fun NI hNI => ?_ | refine ite_F (by rfl) ?_)
    refine S_nil ?_
    refine fln_next ?_
    refine S_ret ?_
    refine W_name hc.scope (by rfl) (by rfl) ?_
    refine PostF.ret (by assumption) ?_
    exact ⟨ms, _, ⟨[first + (0 : Nat) * g, first + (1 : Nat) * g, first + (5 : Nat) * g], [first + (4 : Nat) * g], [first + (1 : Nat) * g, first + (2 : Nat) * g, first + (3 : Nat) * g], [first + (3 : Nat) * g], _⟩, rfl, ⟨_, _, _, _, rfl⟩, ⟨by (refine ⟨?_, ?_, ?_⟩; (· first | (simp; done) | (simp; omega)); (· first | (simp; done) | (simp; omega)); (· first | (simp; done) | (simp; omega))), by (refine ⟨?_, ?_, ?_⟩; (· first | (simp; done) | (simp; omega)); (· first | (simp; done) | (simp; omega)); (· first | (simp; done) | (simp; omega))), by (refine ⟨?_, ?_, ?_⟩; (· first | (simp; done) | (simp; omega)); (· first | (simp; done) | (simp; omega)); (· first | (simp; done) | (simp; omega))), by (refine ⟨?_, ?_, ?_⟩; (· first | (simp; done) | (simp; omega)); (· first | (simp; done) | (simp; omega)); (· first | (simp; done) | (simp; omega)))⟩, by (refine Own.of_singles ?_; apply Own.sel; (· assumption); exact .cons pz1 (.cons pz0 (.cons pz2 (.cons pz1 (.cons pz0 .nil)))))⟩
   ·rw [h]
    refine ⟨_, _, _, _, _, rfl, rfl, by assumption, .inl ⟨0, rfl⟩, by decide, by rfl, ?_⟩
    refine ⟨_, _, _, rfl, by assumption, ⟨3, rfl⟩, ?_⟩
    refine O_item ?_
    refine W_name hc.scope (by rfl) (by rfl) ?_
    refine W_int ?_
    refine ⟨_, _, _, _, _, rfl, rfl, by assumption, .inl ⟨5, rfl⟩, by decide, by rfl, ?_⟩
    refine ⟨_, _, _, by assumption, pz3, by exact Nat.le_of_ble_eq_true rfl, fun _ _ => ?_⟩
    refine T_if fun RI hRI => ?_
    refine B_cmp ?_
    refine W_name hc.scope (by rfl) (by rfl) ?_
    refine W_int ?_
    refine cmp_eq ?_
    (first | refine z_F (by rfl) ?_ | refine i_F (by rfl) fun NI hNI => ?_ | refine ite_F (by rfl) ?_)
    refine S_nil ?_
    refine fln_next ?_
    refine S_ret ?_
    refine W_name hc.scope (by rfl) (by rfl) ?_
    refine PostF.ret (by assumption) ?_
    exact ⟨ms, _, ⟨[first + (0 : Nat) * g, first + (1 : Nat) * g], [first + (4 : Nat) * g, first + (5 : Nat) * g], [first + (1 : Nat) * g, first + (2 : Nat) * g, first + (3 : Nat) * g], [first + (3 : Nat) * g], _⟩, rfl, ⟨_, _, _, _, rfl⟩, ⟨by (refine ⟨?_, ?_, ?_⟩; (· first | (simp; done) | (simp; omega)); (· first | (simp; done) | (simp; omega)); (· first | (simp; done) | (simp; omega))), by (refine ⟨?_, ?_, ?_⟩; (· first | (simp; done) | (simp; omega)); (· first | (simp; done) | (simp; omega)); (· first | (simp; done) | (simp; omega))), by (refine ⟨?_, ?_, ?_⟩; (· first | (simp; done) | (simp; omega)); (· first | (simp; done) | (simp; omega)); (· first | (simp; done) | (simp; omega))), by (refine ⟨?_, ?_, ?_⟩; (· first | (simp; done) | (simp; omega)); (· first | (simp; done) | (simp; omega)); (· first | (simp; done) | (simp; omega)))⟩, by (refine Own.of_singles ?_; apply Own.sel; (· assumption); exact .cons pz1 (.cons pz3 (.cons pz0 (.cons pz1 (.cons pz0 .nil)))))⟩
   ·rw [h]
    refine ⟨_, _, _, _, _, rfl, rfl, by assumption, .inl ⟨0, rfl⟩, by decide, by rfl, ?_⟩
    refine ⟨_, _, _, rfl, by assumption, ⟨2, rfl⟩, ?_⟩
    refine O_item ?_
    refine W_name hc.scope (by rfl) (by rfl) ?_
    refine W_int ?_
    refine ⟨_, _, _, _, _, rfl, rfl, by assumption, .inl ⟨5, rfl⟩, by decide, by rfl, ?_⟩
    refine ⟨_, _, _, by assumption, pz2, by exact Nat.le_of_ble_eq_true rfl, fun _ _ => ?_⟩
    refine T_if fun RI hRI => ?_
    refine B_cmp ?_
    refine W_name hc.scope (by rfl) (by rfl) ?_
    refine W_int ?_
    refine cmp_eq ?_
    (first | refine z_T (by rfl) ?_ | refine i_T (by rfl) fun NI hNI => ?_ | refine ite_T (by rfl) ?_)
    refine T_expr ?_
    refine O_append ?_
    refine O_item ?_
    refine W_name hc.scope (by rfl) (by rfl) ?_
    refine W_int ?_
    refine ⟨_, _, _, _, _, rfl, rfl, by assumption, .inl ⟨1, rfl⟩, by decide, by rfl, ?_⟩
    refine ⟨_, _, _, rfl, by assumption, ⟨2, rfl⟩, ?_⟩
    refine O_item ?_
    refine W_name hc.scope (by rfl) (by rfl) ?_
    refine W_int ?_
    refine ⟨_, _, _, _, _, rfl, rfl, by assumption, .inl ⟨5, rfl⟩, by decide, by rfl, ?_⟩
    refine ⟨_, _, _, by assumption, pz2, by exact Nat.le_of_ble_eq_true rfl, fun _ _ => ?_⟩
    refine S_nil ?_
    refine fln_next ?_
    refine S_ret ?_
    refine W_name hc.scope (by rfl) (by rfl) ?_
    refine PostF.ret (by assumption) ?_
    exact ⟨ms, _, ⟨[first + (0 : Nat) * g, first + (1 : Nat) * g], [first + (4 : Nat) * g], [first + (1 : Nat) * g, first + (2 : Nat) * g, first + (3 : Nat) * g, first + (5 : Nat) * g], [first + (3 : Nat) * g, first + (5 : Nat) * g], _⟩, rfl, ⟨_, _, _, _, rfl⟩, ⟨by (refine ⟨?_, ?_, ?_⟩; (· first | (simp; done) | (simp; omega)); (· first | (simp; done) | (simp; omega)); (· first | (simp; done) | (simp; omega))), by (refine ⟨?_, ?_, ?_⟩; (· first | (simp; done) | (simp; omega)); (· first | (simp; done) | (simp; omega)); (· first | (simp; done) | (simp; omega))), by (refine ⟨?_, ?_, ?_⟩; (· first | (simp; done) | (simp; omega)); (· first | (simp; done) | (simp; omega)); (· first | (simp; done) | (simp; omega))), by (refine ⟨?_, ?_, ?_⟩; (· first | (simp; done) | (simp; omega)); (· first | (simp; done) | (simp; omega)); (· first | (simp; done) | (simp; omega)))⟩, by (refine Own.of_singles ?_; apply Own.sel; (· assumption); exact .cons pz2 (.cons pz3 (.cons pz2 (.cons pz1 (.cons pz0 .nil)))))⟩
theorem members_fn_k {y : Int} {r' : Nat} (hr : Nat.ble 2 r' = true) {L : List (List (Addr × O))} {μ : Mu} (H : Own L μ) {Q : V → Mu → Prop} (k : ∀ b lb D μ', CO b D lb → D.WF 4 → Own (lb :: L) μ' → Q (.ref b) μ') : Fn w r' 388 [.int y] μ Q :=
 Fn.call (P := []) (fun _ _ => members_fn) hr H .nil fun v μ1 μ' h hF => by obtain ⟨b, lb, D, rfl, h0', h1', H1'⟩ := h; exact k b lb D μ' h0' h1' (hF _ H1')

theorem entry_otherwise {a b : Addr} {D : ED} {l l' : List (Addr × O)} {y : Int} {k : Nat} (hG : EG a D l) (hO : EO b D l') (hw : D.WF k) (hk : k ≤ 1000) {μ : Mu} (H0 : Own [l, l'] μ) : Fn w 2 495 [.ref a, .ref b, .int y] μ
  (fun v μ' => ∃ E l2 l3, EG a E l2 ∧ EO b E l3 ∧ E.WF (k + 1) ∧ Own [l2, l3] μ') := by
 have hG' := hG
 have hO' := hO
 obtain ⟨d, rfl⟩ := hG
 subst hO
 have H : Own [[(a, _)], [(d, _)], [(b, _)]] μ := H0.eq
 refine fn_go (ns := ["entry", "own", "y"]) k495 (by (conv => lhs; whnf)) (by (conv => lhs; whnf)) (by kernel_rfl) (rvs3 fun a b c => by kernel_rfl) rfl rfl rfl rfl rfl fun c hc KQ hKQ => ?_
 have hs : D.d.size ≤ k := hw
 have hf : y % 4 = 0 ∨ y % 4 = 1 ∨ y % 4 = 2 ∨ y % 4 = 3 := by exact c4 (em0 _ rfl) (em1 _ rfl)
 refine S_assign hc.scope hc.celled (by rfl) ?_
 refine W_bin ?_
 refine W_name hc.scope (by rfl) (by rfl) ?_
 refine W_int ?_
 ((refine bin_mod ?_ ?_); (· decide))
 refine T_if0 fun RI hRI => ?_
 refine B_cmp ?_
 refine W_name hc.scope (by rfl) (by rfl) ?_
 refine W_int ?_
 refine cmp_eq ?_
 rcases hf with h | h | h | h
 ·rw [h] at hRI ⊢
  (first | refine z_F (by rfl) ?_ | refine i_F (by rfl) fun NI hNI => ?_ | refine ite_F (by rfl) ?_)
  refine T_expr ?_
  refine T_fn hc.scope hc.room rfl rfl ?_
  refine L_cons ?_
  refine W_name hc.scope (by rfl) (by rfl) ?_
  refine L_cons ?_
  refine W_name hc.scope (by rfl) (by rfl) ?_
  refine L_cons ?_
  refine W_name hc.scope (by rfl) (by rfl) ?_
  refine L_cons ?_
  refine W_bin ?_
  refine W_bin ?_
  refine O_item ?_
  refine W_name hc.scope (by rfl) (by rfl) ?_
  refine W_name hc.scope (by rfl) (by rfl) ?_
  refine ⟨_, _, _, _, _, rfl, rfl, by assumption, .inl ⟨2, rfl⟩, by decide, by rfl, ?_⟩
  refine W_int ?_
  refine bin_add ?_
  refine W_bin ?_
  refine W_bin ?_
  refine W_name hc.scope (by rfl) (by rfl) ?_
  refine W_int ?_
  ((refine bin_div ?_ ?_); (· decide))
  refine W_int ?_
  ((refine bin_mod ?_ ?_); (· decide))
  refine bin_add ?_
  refine L_nil ?_
  refine Fn.call (fun _ H => turn_entry hG' hO' (.inl rfl) H) (by rfl) H0 (by exact .cons pz0 (.cons pz0 .nil)) ?_
  rintro _ _ μ4 ⟨E, l2, l3, h1, h2, h3, H4⟩ hF
  refine S_nil ?_
  refine PostF.next (by assumption) ?_
  exact ⟨E, l2, l3, h1, h2, by show E.d.size ≤ _; rw [h3]; omega, hF.b2 H4⟩
 ·rw [h] at hRI ⊢
  (first | refine z_F (by rfl) ?_ | refine i_F (by rfl) fun NI hNI => ?_ | refine ite_F (by rfl) ?_)
  refine T_expr ?_
  refine T_fn hc.scope hc.room rfl rfl ?_
  refine L_cons ?_
  refine W_name hc.scope (by rfl) (by rfl) ?_
  refine L_cons ?_
  refine W_name hc.scope (by rfl) (by rfl) ?_
  refine L_cons ?_
  refine W_name hc.scope (by rfl) (by rfl) ?_
  refine L_cons ?_
  refine W_bin ?_
  refine W_bin ?_
  refine O_item ?_
  refine W_name hc.scope (by rfl) (by rfl) ?_
  refine W_name hc.scope (by rfl) (by rfl) ?_
  refine ⟨_, _, _, _, _, rfl, rfl, by assumption, .inl ⟨2, rfl⟩, by decide, by rfl, ?_⟩
  refine W_int ?_
  refine bin_add ?_
  refine W_bin ?_
  refine W_bin ?_
  refine W_name hc.scope (by rfl) (by rfl) ?_
  refine W_int ?_
  ((refine bin_div ?_ ?_); (· decide))
  refine W_int ?_
  ((refine bin_mod ?_ ?_); (· decide))
  refine bin_add ?_
  refine L_nil ?_
  refine Fn.call (fun _ H => turn_entry hG' hO' (.inr (.inl rfl)) H) (by rfl) H0 (by exact .cons pz0 (.cons pz0 .nil)) ?_
  rintro _ _ μ4 ⟨E, l2, l3, h1, h2, h3, H4⟩ hF
  refine S_nil ?_
  refine PostF.next (by assumption) ?_
  exact ⟨E, l2, l3, h1, h2, by show E.d.size ≤ _; rw [h3]; omega, hF.b2 H4⟩
 ·rw [h] at hRI ⊢
  (first | refine z_F (by rfl) ?_ | refine i_F (by rfl) fun NI hNI => ?_ | refine ite_F (by rfl) ?_)
  refine T_expr ?_
  refine T_fn hc.scope hc.room rfl rfl ?_
  refine L_cons ?_
  refine W_name hc.scope (by rfl) (by rfl) ?_
  refine L_cons ?_
  refine W_name hc.scope (by rfl) (by rfl) ?_
  refine L_cons ?_
  refine W_name hc.scope (by rfl) (by rfl) ?_
  refine L_cons ?_
  refine W_bin ?_
  refine W_bin ?_
  refine O_item ?_
  refine W_name hc.scope (by rfl) (by rfl) ?_
  refine W_name hc.scope (by rfl) (by rfl) ?_
  refine ⟨_, _, _, _, _, rfl, rfl, by assumption, .inl ⟨2, rfl⟩, by decide, by rfl, ?_⟩
  refine W_int ?_
  refine bin_add ?_
  refine W_bin ?_
  refine W_bin ?_
  refine W_name hc.scope (by rfl) (by rfl) ?_
  refine W_int ?_
  ((refine bin_div ?_ ?_); (· decide))
  refine W_int ?_
  ((refine bin_mod ?_ ?_); (· decide))
  refine bin_add ?_
  refine L_nil ?_
  refine Fn.call (fun _ H => turn_entry hG' hO' (.inr (.inr rfl)) H) (by rfl) H0 (by exact .cons pz0 (.cons pz0 .nil)) ?_
  rintro _ _ μ4 ⟨E, l2, l3, h1, h2, h3, H4⟩ hF
  refine S_nil ?_
  refine PostF.next (by assumption) ?_
  exact ⟨E, l2, l3, h1, h2, by show E.d.size ≤ _; rw [h3]; omega, hF.b2 H4⟩
 ·rw [h] at hRI ⊢
  (first | refine z_T (by rfl) ?_ | refine i_T (by rfl) fun NI hNI => ?_ | refine ite_T (by rfl) ?_)
  refine T_expr ?_
  refine T_fn hc.scope hc.room rfl rfl ?_
  refine L_cons ?_
  refine W_name hc.scope (by rfl) (by rfl) ?_
  refine L_cons ?_
  refine W_name hc.scope (by rfl) (by rfl) ?_
  refine L_cons ?_
  refine W_name hc.scope (by rfl) (by rfl) ?_
  refine L_cons ?_
  refine W_bin ?_
  refine O_item ?_
  refine W_name hc.scope (by rfl) (by rfl) ?_
  refine W_name hc.scope (by rfl) (by rfl) ?_
  refine ⟨_, _, _, _, _, rfl, rfl, by assumption, .inl ⟨2, rfl⟩, by decide, by rfl, ?_⟩
  refine O_bytesOf hc.scope ?_
  refine O_list ?_
  refine L_cons ?_
  refine W_bin ?_
  refine W_bin ?_
  refine W_name hc.scope (by rfl) (by rfl) ?_
  refine W_int ?_
  ((refine bin_div ?_ ?_); (· decide))
  refine W_int ?_
  ((refine bin_mod ?_ ?_); (· decide))
  refine L_nil ?_
  refine ⟨_, by assumption, by exact Nat.le_of_ble_eq_true rfl, fun _ _ _ => ?_⟩
  rename_i q μ1 H1
  refine ⟨q, [y / 4 % 256], _, rfl, H1, .head, ⟨fun n hn => by rw [List.mem_singleton.mp hn]; omega, by simp⟩, ?_⟩
  have hq : (byteArr [y / 4 % 256]).size = 1 := rfl
  refine bin_bytes (by omega) ?_
  refine L_nil ?_
  have H2 := H1.fin (G := [[(a, _), (d, _)], [(b, _)], [(q, _)]]) (P := [[(a, _)], [(d, _)], [(b, _)], [(q, _)]]) (by exact .cons pz1 (.cons pz1 (.cons pz1 (.cons pz0 .nil)))) rfl
  refine Fn.call (fun _ H => turn_entry3 hG' hO' H) (by rfl) H2 (by exact .cons pz0 (.cons pz0 .nil)) ?_
  rintro _ _ μ4 ⟨E, l2, l3, h1, h2, h3, H4⟩ hF
  have H4 := hF.b2 H4
  refine S_nil ?_
  refine PostF.next (by assumption) ?_
  exact ⟨E, l2, l3, h1, h2, by show E.d.size ≤ _; rw [h3]; simp only [Array.size_append]; omega, by (apply Own.sel; (· assumption); exact .cons pz0 (.cons pz0 .nil))⟩
noncomputable def CD.get (D : CD) (f : Int) : List Int := if f = 0 then D.v else if f = 1 then D.l else if f = 2 then D.o else D.n
noncomputable def CD.put (D : CD) (f : Int) (L : List Int) : CD := if f = 0 then { D with v := L } else if f = 1 then { D with l := L } else if f = 2 then { D with o := L } else { D with n := L }
theorem focusO {b : Addr} {D : CD} {l : List (Addr × O)} {f : Int} (h : CO b D l) (hf : f = 0 ∨ f = 1 ∨ f = 2 ∨ f = 3) : ∃ ms xo rest, ms[f.toNat]? = some (.ref xo) ∧ ms.length = 5 ∧ ms[4]? = some (.bool D.al) ∧
  l.Perm ((b, .list ms) :: (xo, .list (List.map V.int (D.get f))) :: rest) ∧ ∀ xo' L', ∃ l3, CO b (D.put f L') l3 ∧ ((b, O.list (ms.set f.toNat (.ref xo'))) :: (xo', .list (List.map V.int L')) :: rest).Perm l3 := by
 obtain ⟨x0, x1, x2, x3, rfl⟩ := h
 rcases hf with rfl | rfl | rfl | rfl
 ·exact ⟨_, x0, _, rfl, rfl, rfl, .refl _, fun xo' L' => ⟨_, ⟨xo', x1, x2, x3, rfl⟩, .refl _⟩⟩
 ·exact ⟨_, x1, [(x0, _), (x2, _), (x3, _)], rfl, rfl, rfl, .cons _ (List.perm_middle (l₁ := [_])), fun xo' L' => ⟨_, ⟨x0, xo', x2, x3, rfl⟩, .cons _ (List.perm_middle (l₁ := [_])).symm⟩⟩
 ·exact ⟨_, x2, [(x0, _), (x1, _), (x3, _)], rfl, rfl, rfl, .cons _ (List.perm_middle (l₁ := [_, _])), fun xo' L' => ⟨_, ⟨x0, x1, xo', x3, rfl⟩, .cons _ (List.perm_middle (l₁ := [_, _])).symm⟩⟩
 ·exact ⟨_, x3, [(x0, _), (x1, _), (x2, _)], rfl, rfl, rfl, .cons _ (List.perm_middle (l₁ := [_, _, _])), fun xo' L' => ⟨_, ⟨x0, x1, x2, xo', rfl⟩, .cons _ (List.perm_middle (l₁ := [_, _, _])).symm⟩⟩
theorem focusG {C a : Addr} {D : CD} {l : List (Addr × O)} {f : Int} (h : CG C a D l) (hf : f = 0 ∨ f = 1 ∨ f = 2 ∨ f = 3) : ∃ d x0 x1 x2 x3 xg rest, xg = (if f = 0 then x0 else if f = 1 then x1 else if f = 2 then x2 else x3) ∧
  l.Perm ((a, .inst C d) :: (d, .dict (cfs C x0 x1 x2 x3 D.al)) :: (xg, .list (List.map V.int (D.get f))) :: rest) ∧
  (∀ L', ∃ l3, CG C a (D.put f L') l3 ∧ ((a, O.inst C d) :: (d, .dict (cfs C x0 x1 x2 x3 D.al)) :: (xg, .list (List.map V.int L')) :: rest).Perm l3) ∧
  ∀ xg' L', ∃ l3, CG C a (D.put f L') l3 ∧ ((a, O.inst C d) :: (d, .dict (cfs C (if f = 0 then xg' else x0) (if f = 1 then xg' else x1) (if f = 2 then xg' else x2) (if f = 3 then xg' else x3) D.al)) :: (xg', .list (List.map V.int L')) :: rest).Perm l3 := by
 obtain ⟨d, x0, x1, x2, x3, rfl⟩ := h
 rcases hf with rfl | rfl | rfl | rfl
 ·exact ⟨d, x0, x1, x2, x3, x0, _, rfl, .refl _, fun L' => ⟨_, ⟨d, x0, x1, x2, x3, rfl⟩, .refl _⟩, fun xo' L' => ⟨_, ⟨d, xo', x1, x2, x3, rfl⟩, .refl _⟩⟩
 ·exact ⟨d, x0, x1, x2, x3, x1, [(x0, _), (x2, _), (x3, _)], rfl, .cons _ (.cons _ (List.perm_middle (l₁ := [_]))), fun L' => ⟨_, ⟨d, x0, x1, x2, x3, rfl⟩, .cons _ (.cons _ (List.perm_middle (l₁ := [_])).symm)⟩, fun xo' L' => ⟨_, ⟨d, x0, xo', x2, x3, rfl⟩, .cons _ (.cons _ (List.perm_middle (l₁ := [_])).symm)⟩⟩
 ·exact ⟨d, x0, x1, x2, x3, x2, [(x0, _), (x1, _), (x3, _)], rfl, .cons _ (.cons _ (List.perm_middle (l₁ := [_, _]))), fun L' => ⟨_, ⟨d, x0, x1, x2, x3, rfl⟩, .cons _ (.cons _ (List.perm_middle (l₁ := [_, _])).symm)⟩, fun xo' L' => ⟨_, ⟨d, x0, x1, xo', x3, rfl⟩, .cons _ (.cons _ (List.perm_middle (l₁ := [_, _])).symm)⟩⟩
 ·exact ⟨d, x0, x1, x2, x3, x3, [(x0, _), (x1, _), (x2, _)], rfl, .cons _ (.cons _ (List.perm_middle (l₁ := [_, _, _]))), fun L' => ⟨_, ⟨d, x0, x1, x2, x3, rfl⟩, .cons _ (.cons _ (List.perm_middle (l₁ := [_, _, _])).symm)⟩, fun xo' L' => ⟨_, ⟨d, x0, x1, x2, xo', rfl⟩, .cons _ (.cons _ (List.perm_middle (l₁ := [_, _, _])).symm)⟩⟩
theorem CD.WF.get {D : CD} {k : Nat} {f : Int} (h : D.WF k) : Ri (D.get f) k := by
 unfold CD.get
 split
 ·exact h.1
 ·split
  ·exact h.2.1
  ·split
   ·exact h.2.2.1
   ·exact h.2.2.2
theorem CD.WF.put {D : CD} {k k' : Nat} {f : Int} {L : List Int} (h : D.WF k) (hk : k ≤ k') (hL : Ri L k') : (D.put f L).WF k' := by
 have := h.mono hk
 unfold CD.put
 split
 ·exact ⟨hL, this.2.1, this.2.2.1, this.2.2.2⟩
 ·split
  ·exact ⟨this.1, hL, this.2.2.1, this.2.2.2⟩
  ·split
   ·exact ⟨this.1, this.2.1, hL, this.2.2.2⟩
   ·exact ⟨this.1, this.2.1, this.2.2.1, hL⟩
theorem Ri.push {xs : List Int} {k : Nat} {n : Int} (h : Ri xs k) (h1 : 1 ≤ n) (hn : ∀ x ∈ xs, x < n) (hu : n ≤ 20000000000 + 100 * ((k : Int) + 1)) : Ri (xs ++ [n]) (k + 1) :=
 ⟨List.pairwise_append.mpr ⟨h.1, by simp, fun x hx y hy => by rw [List.mem_singleton.mp hy]; exact hn x hx⟩, fun x hx => by
  rcases List.mem_append.mp hx with q | q
  ·have := h.2.1 x q; omega
  ·rw [List.mem_singleton.mp q]; omega, by rw [List.length_append]; have := h.2.2; simp; omega⟩
theorem Ri.erase {xs : List Int} {k : Nat} (h : Ri xs k) (i : Nat) : Ri (xs.eraseIdx i) (k + 1) :=
 ⟨h.1.sublist (List.eraseIdx_sublist ..), fun x hx => by have := h.2.1 x (List.mem_of_mem_eraseIdx hx); omega, by have := List.length_eraseIdx_le xs i; have := h.2.2; omega⟩
theorem Ri.last {xs : List Int} {k : Nat} {n : Int} (h : Ri xs k) (hx : 0 < xs.length) (hn : xs[xs.length - 1] < n) (hu : n ≤ 20000000000 + 100 * ((k : Int) + 1)) : Ri (xs.set (xs.length - 1) n) (k + 1) := by
 have e : xs.set (xs.length - 1) n = xs.dropLast ++ [n] := by
  apply List.ext_getElem
  ·simp; omega
  ·intro i h1 h2
   rw [List.getElem_set, List.getElem_append]
   split
   ·rw [dif_neg (by simp; omega)]; simp
   ·rw [dif_pos (by simp at h1 ⊢; omega), List.getElem_dropLast]
 rw [e]
 have hd : Ri xs.dropLast k := ⟨h.1.sublist (List.dropLast_sublist _), fun x hx => h.2.1 x ((List.dropLast_sublist _).subset hx), by have := h.2.2; simp; omega⟩
 have h1 := h.2.1 _ (List.getElem_mem (Nat.sub_lt hx Nat.one_pos))
 refine hd.push (by omega) (fun x hxm => ?_) hu
 obtain ⟨i, hi, rfl⟩ := List.getElem_of_mem hxm
 rw [List.getElem_dropLast]
 have hi : i < xs.length - 1 := by simpa using hi
 have := List.pairwise_iff_getElem.mp h.1 i (xs.length - 1) (by omega) (by exact dec (by assumption)) hi
 omega

theorem map_erase {α β : Type} (f : α → β) : ∀ (l : List α) (i : Nat), (l.map f).eraseIdx i = (l.eraseIdx i).map f
 | [], _ => rfl
 | _ :: _, 0 => rfl
 | x :: l, i + 1 => by simp only [List.map_cons, List.eraseIdx_cons_succ, map_erase f l i]
theorem turn_members {C a b : Addr} (hC : C = 194 ∨ C = 365) {D : CD} {l l' : List (Addr × O)} {y : Int} {k : Nat} (hG : CG C a D l) (hO : CO b D l') (hw : D.WF k) (hk1 : 1 ≤ k) (hk : k ≤ 50) {μ : Mu} (H0 : Own [l, l'] μ) : Fn w 2 474 [.ref a, .ref b, .int y] μ
  (fun v μ' => ∃ E l2 l3, CG C a E l2 ∧ CO b E l3 ∧ E.WF (k + 1) ∧ Own [l2, l3] μ') := by
 refine fn_go (ns := ["conf", "members", "y"]) k474 (by (conv => lhs; whnf)) (by (conv => lhs; whnf)) (by kernel_rfl) (rvs3 fun a b c => by kernel_rfl) rfl rfl rfl rfl rfl fun c hc KQ hKQ => ?_
 refine S_assign hc.scope hc.celled (by rfl) ?_
 refine W_bin ?_
 refine W_name hc.scope (by rfl) (by rfl) ?_
 refine W_int ?_
 ((refine bin_mod ?_ ?_); (· decide))
 refine S_assign hc.scope hc.celled (by rfl) ?_
 refine W_bin ?_
 refine W_name hc.scope (by rfl) (by rfl) ?_
 refine W_int ?_
 ((refine bin_div ?_ ?_); (· decide))
 refine T_if fun RI hRI => ?_
 refine B_cmp ?_
 refine W_name hc.scope (by rfl) (by rfl) ?_
 refine W_int ?_
 refine cmp_eq ?_
 (first | refine z_dec (fun hf => ?_) (fun hf => ?_) | refine i_dec (fun hf NI hNI => ?_) (fun hf NI hNI => ?_) | refine ite_dec (fun hf => ?_) (fun hf => ?_))
 ·have hG' := hG
  obtain ⟨d, x0, x1, x2, x3, rfl⟩ := hG
  obtain ⟨z0, z1, z2, z3, rfl⟩ := hO
  have H : Own [[(a, _)], [(d, _)], [(x0, _)], [(x1, _)], [(x2, _)], [(x3, _)], [(b, _)], [(z0, _)], [(z1, _)], [(z2, _)], [(z3, _)]] μ := H0.eq
  rcases hC with rfl | rfl
  all_goals
   refine OS_setitem ?_
   refine W_not ?_
   refine O_item ?_
   refine W_name hc.scope (by rfl) (by rfl) ?_
   refine W_int ?_
   refine ⟨_, _, _, _, _, rfl, rfl, by assumption, .inl ⟨6, rfl⟩, by decide, by rfl, ?_⟩
   refine tru_bool ?_
   refine W_name hc.scope (by rfl) (by rfl) ?_
   refine W_int ?_
   refine ⟨_, _, _, _, _, rfl, rfl, by assumption, pz6, by (simp; done), fun _ _ => ?_⟩
   refine T_setattr ?_
   refine O_item ?_
   refine W_name hc.scope (by rfl) (by rfl) ?_
   refine W_int ?_
   refine ⟨_, _, _, _, _, rfl, rfl, by assumption, .inl ⟨0, rfl⟩, by decide, by rfl, ?_⟩
   refine W_name hc.scope (by rfl) (by rfl) ?_
   refine ⟨_, _, _, _, _, _, rfl, by assumption, ⟨1, rfl⟩, pz2, by rfl, by exact Nat.le_of_ble_eq_true rfl, fun _ _ => ?_⟩
   refine S_ret0 ?_
   refine fln_ret ?_
   refine PostF.ret (by assumption) ?_
   exact ⟨{ D with al := !D.al }, _, _, ⟨d, x0, x1, x2, x3, rfl⟩, ⟨z0, z1, z2, z3, rfl⟩, hw.mono (Nat.le_succ _), by (refine Own.of_singles ?_; apply Own.sel; (· assumption); exact .cons pz2 (.cons pz0 (.cons pz1 (.cons pz1 (.cons pz1 (.cons pz1 (.cons pz0 (.cons pz0 (.cons pz0 (.cons pz0 (.cons pz0 .nil)))))))))))⟩
 ·have hf' : y % 5 = 0 ∨ y % 5 = 1 ∨ y % 5 = 2 ∨ y % 5 = 3 := by omega
  obtain ⟨ms, xo, ro, e1, e2, e3, p1, put1⟩ := focusO hO hf'
  obtain ⟨d, x0, x1, x2, x3, xg, rg, eg, p2, put2, put3⟩ := focusG hG hf'
  have hr := hw.get (f := y % 5)
  generalize hxs : D.get (y % 5) = xs at *
  have hxl : xs.length ≤ k := hr.2.2
  have H : Own [[(a, .inst C d)], [(d, .dict (cfs C x0 x1 x2 x3 D.al))], [(xg, .list (List.map V.int xs))], rg, [(b, .list ms)], [(xo, .list (List.map V.int xs))], ro] μ := H0.to (by
   simp only [List.flatten_cons, List.flatten_nil, List.append_nil]
   exact p2.append p1)
  refine S_nil ?_
  refine fln_next ?_
  refine S_assign hc.scope hc.celled (by rfl) ?_
  refine O_item ?_
  refine W_name hc.scope (by rfl) (by rfl) ?_
  refine W_name hc.scope (by rfl) (by rfl) ?_
  refine ⟨_, _, _, .ref xo, _, rfl, rfl, H, .inl (by exact ⟨4, rfl⟩), by exact mod_rng rfl, e1, ?_⟩
  refine S_assign hc.scope hc.celled (by rfl) ?_
  refine T_fn hc.scope hc.room rfl rfl ?_
  refine L_cons ?_
  refine W_name hc.scope (by rfl) (by rfl) ?_
  refine L_cons ?_
  refine W_name hc.scope (by rfl) (by rfl) ?_
  refine L_nil ?_
  refine Fn.call (fun _ H => list_fn hC (D := D) (L := []) hf' H) (by rfl) (by assumption) (by exact .cons pz0 (.cons pz0 .nil)) ?_
  rintro _ _ μ1 ⟨rfl, H1⟩ hF
  have H1 := hF.b2 H1
  rw [← eg]
  have fin2 : ∀ {L' : List Int} {μ2 : Mu}, Ri L' (k + 1) → Own [[(a, .inst C d)], [(d, .dict (cfs C x0 x1 x2 x3 D.al))], [(xg, .list (List.map V.int L'))], rg, [(b, .list ms)], [(xo, .list (List.map V.int L'))], ro] μ2 →
    ∃ E l2 l3, CG C a E l2 ∧ CO b E l3 ∧ E.WF (k + 1) ∧ Own [l2, l3] μ2 := fun {L' μ2} h1 H2 => by
   obtain ⟨l2, g1, q1⟩ := put2 L'
   obtain ⟨l3, g2, q2⟩ := put1 xo L'
   rw [set_same e1] at q2
   exact ⟨_, l2, l3, g1, g2, hw.put (Nat.le_succ _) h1, H2.to (by
    simp only [List.flatten_cons, List.flatten_nil, List.append_nil]
    exact q1.append q2)⟩
  have fin : ∀ {n : Int} {μ2 : Mu}, 1 ≤ n → (∀ x ∈ xs, x < n) → n ≤ 20000000000 + 100 * ((k : Int) + 1) → Own [[(a, .inst C d)], [(d, .dict (cfs C x0 x1 x2 x3 D.al))], [(xg, .list (List.map V.int (xs ++ [n])))], rg, [(b, .list ms)], [(xo, .list (List.map V.int (xs ++ [n])))], ro] μ2 →
    ∃ E l2 l3, CG C a E l2 ∧ CO b E l3 ∧ E.WF (k + 1) ∧ Own [l2, l3] μ2 := fun {n μ2} h1 h2 h3 H2 => fin2 (hr.push h1 h2 h3) H2
  refine T_if0 fun RI hRI => ?_
  refine B_or2 ?_
  refine B_cmp ?_
  refine W_bin ?_
  refine W_name hc.scope (by rfl) (by rfl) ?_
  refine W_int ?_
  ((refine bin_mod ?_ ?_); (· decide))
  refine W_int ?_
  refine cmp_eq ?_
  (first | refine z_dec (fun hq => ?_) (fun hq => ?_) | refine i_dec (fun hq NI hNI => ?_) (fun hq NI hNI => ?_) | refine ite_dec (fun hq => ?_) (fun hq => ?_))
  ·(first | refine z_t ?_ | refine i_t fun NI hNI => ?_ | refine ite_t ?_ | skip)
   refine S_assign hc.scope hc.celled (by rfl) ?_
   refine W_bin ?_
   refine W_bin ?_
   refine O_max hc.scope ?_
   refine W_bin ?_
   refine W_name hc.scope (by rfl) (by rfl) ?_
   refine O_list ?_
   refine L_cons ?_
   refine W_int ?_
   refine L_nil ?_
   refine ⟨_, by assumption, by exact Nat.le_of_ble_eq_true rfl, fun _ _ _ => ?_⟩
   refine bin_cat (by assumption) ⟨6, rfl⟩ ⟨0, rfl⟩ (by (simp; omega)) (fun _ _ _ => ?_)
   rename_i r1 μ3 H3
   rw [show [V.int 0] = List.map V.int [0] from rfl, ← List.map_append] at H3
   refine ⟨r1, xs ++ [0], _, rfl, H3, .head, by simp, fun M hM hM' => ?_⟩
   have h0 := hM' 0 (by simp)
   have hMu : M ≤ 20000000000 + 100 * (k : Int) := by
    rcases List.mem_append.mp hM with q | q
    ·exact (hr.2.1 M q).2
    ·rw [List.mem_singleton.mp q]; omega
   have hx : ∀ x ∈ xs, x < M + 1 + y / 5 / 4 % 5 := fun x hx => by have := hM' x (List.mem_append_left _ hx); omega
   refine W_int ?_
   refine bin_add ?_
   refine W_bin ?_
   refine W_bin ?_
   refine W_name hc.scope (by rfl) (by rfl) ?_
   refine W_int ?_
   ((refine bin_div ?_ ?_); (· decide))
   refine W_int ?_
   ((refine bin_mod ?_ ?_); (· decide))
   refine bin_add ?_
   refine T_expr ?_
   refine O_append ?_
   refine W_name hc.scope (by rfl) (by rfl) ?_
   refine ⟨_, _, _, rfl, by assumption, ⟨7, rfl⟩, ?_⟩
   refine W_name hc.scope (by rfl) (by rfl) ?_
   refine ⟨_, _, _, by assumption, pz7, by (simp; omega), fun _ _ => ?_⟩
   refine T_expr ?_
   refine O_append ?_
   refine W_name hc.scope (by rfl) (by rfl) ?_
   refine ⟨_, _, _, rfl, by assumption, ⟨5, rfl⟩, ?_⟩
   refine W_name hc.scope (by rfl) (by rfl) ?_
   refine ⟨_, _, _, by assumption, pz5, by (simp; omega), fun _ _ => ?_⟩
   refine S_nil ?_
   refine PostF.next (by assumption) ?_
   refine fin (n := M + 1 + y / 5 / 4 % 5) (by omega) hx (by omega) ?_
   rw [List.map_append]
   (apply Own.sel; (· assumption); exact .cons pz4 (.cons pz4 (.cons pz0 (.cons pz3 (.cons pz3 (.cons pz0 (.cons pz2 .nil)))))))
  ·refine B_cmp ?_
   refine O_len hc.scope ?_
   refine W_name hc.scope (by rfl) (by rfl) ?_
   refine ⟨_, _, _, rfl, by assumption, ⟨5, rfl⟩, by (simp; omega), ?_⟩
   refine W_int ?_
   refine cmp_eq ?_
   simp only [List.length_map]
   (first | refine z_dec (fun hl => ?_) (fun hl => ?_) | refine i_dec (fun hl NI hNI => ?_) (fun hl NI hNI => ?_) | refine ite_dec (fun hl => ?_) (fun hl => ?_))
   ·refine S_assign hc.scope hc.celled (by rfl) ?_
    refine W_bin ?_
    refine W_bin ?_
    refine O_max hc.scope ?_
    refine W_bin ?_
    refine W_name hc.scope (by rfl) (by rfl) ?_
    refine O_list ?_
    refine L_cons ?_
    refine W_int ?_
    refine L_nil ?_
    refine ⟨_, by assumption, by exact Nat.le_of_ble_eq_true rfl, fun _ _ _ => ?_⟩
    refine bin_cat (by assumption) ⟨6, rfl⟩ ⟨0, rfl⟩ (by (simp; omega)) (fun _ _ _ => ?_)
    rename_i r1 μ3 H3
    rw [show [V.int 0] = List.map V.int [0] from rfl, ← List.map_append] at H3
    refine ⟨r1, xs ++ [0], _, rfl, H3, .head, by simp, fun M hM hM' => ?_⟩
    have h0 := hM' 0 (by simp)
    have hMu : M ≤ 20000000000 + 100 * (k : Int) := by
     rcases List.mem_append.mp hM with q | q
     ·exact (hr.2.1 M q).2
     ·rw [List.mem_singleton.mp q]; omega
    have hx : ∀ x ∈ xs, x < M + 1 + y / 5 / 4 % 5 := fun x hx => by have := hM' x (List.mem_append_left _ hx); omega
    refine W_int ?_
    refine bin_add ?_
    refine W_bin ?_
    refine W_bin ?_
    refine W_name hc.scope (by rfl) (by rfl) ?_
    refine W_int ?_
    ((refine bin_div ?_ ?_); (· decide))
    refine W_int ?_
    ((refine bin_mod ?_ ?_); (· decide))
    refine bin_add ?_
    refine T_expr ?_
    refine O_append ?_
    refine W_name hc.scope (by rfl) (by rfl) ?_
    refine ⟨_, _, _, rfl, by assumption, ⟨7, rfl⟩, ?_⟩
    refine W_name hc.scope (by rfl) (by rfl) ?_
    refine ⟨_, _, _, by assumption, pz7, by (simp; omega), fun _ _ => ?_⟩
    refine T_expr ?_
    refine O_append ?_
    refine W_name hc.scope (by rfl) (by rfl) ?_
    refine ⟨_, _, _, rfl, by assumption, ⟨5, rfl⟩, ?_⟩
    refine W_name hc.scope (by rfl) (by rfl) ?_
    refine ⟨_, _, _, by assumption, pz5, by (simp; omega), fun _ _ => ?_⟩
    refine S_nil ?_
    refine PostF.next (by assumption) ?_
    refine fin (n := M + 1 + y / 5 / 4 % 5) (by omega) hx (by omega) ?_
    rw [List.map_append]
    (apply Own.sel; (· assumption); exact .cons pz4 (.cons pz4 (.cons pz0 (.cons pz3 (.cons pz3 (.cons pz0 (.cons pz2 .nil)))))))
   ·have hpos : 0 < xs.length := by omega
    refine T_if0 fun RI hRI => ?_
    refine B_cmp ?_
    refine W_bin ?_
    refine W_name hc.scope (by rfl) (by rfl) ?_
    refine W_int ?_
    ((refine bin_mod ?_ ?_); (· decide))
    refine W_int ?_
    refine cmp_eq ?_
    (first | refine z_dec (fun hq1 => ?_) (fun hq1 => ?_) | refine i_dec (fun hq1 NI hNI => ?_) (fun hq1 NI hNI => ?_) | refine ite_dec (fun hq1 => ?_) (fun hq1 => ?_))
    ·refine S_assign hc.scope hc.celled (by rfl) ?_
     refine W_bin ?_
     refine W_bin ?_
     refine W_name hc.scope (by rfl) (by rfl) ?_
     refine W_int ?_
     ((refine bin_div ?_ ?_); (· decide))
     refine O_len hc.scope ?_
     refine W_name hc.scope (by rfl) (by rfl) ?_
     refine ⟨_, _, _, rfl, by assumption, ⟨5, rfl⟩, by (simp; omega), ?_⟩
     ((refine bin_mod ?_ ?_); (· (simp; omega)))
     refine T_expr ?_
     refine O_pop ?_
     refine W_name hc.scope (by rfl) (by rfl) ?_
     refine ⟨_, _, _, rfl, by assumption, ⟨5, rfl⟩, ?_⟩
     refine W_name hc.scope (by rfl) (by rfl) ?_
     have hi0 : 0 ≤ y / 5 / 4 % (xs.length : Int) := Int.emod_nonneg _ (by assumption)
     have hi1 : y / 5 / 4 % (xs.length : Int) < xs.length := Int.emod_lt_of_pos _ (by exact sub_pos' (by assumption))
     simp only [List.length_map]
     generalize hi : y / 5 / 4 % (xs.length : Int) = i at hi0 hi1 ⊢
     have hti : i.toNat < xs.length := by exact toNat_lt' (by assumption) (by assumption)
     refine ⟨_, _, .int (xs[i.toNat]), _, _, rfl, H1, by exact pz5, by rw [List.length_map]; omega, by rw [List.getElem?_map, List.getElem?_eq_getElem hti]; rfl, fun μ3 H3 => ?_⟩
     refine T_expr ?_
     refine O_pop ?_
     refine W_name hc.scope (by rfl) (by rfl) ?_
     refine ⟨_, _, _, rfl, by assumption, ⟨3, rfl⟩, ?_⟩
     refine W_name hc.scope (by rfl) (by rfl) ?_
     refine ⟨_, _, .int (xs[i.toNat]), _, _, rfl, H3, by exact pz3, by rw [List.length_map]; omega, by rw [List.getElem?_map, List.getElem?_eq_getElem hti]; rfl, fun μ4 H4 => ?_⟩
     refine S_nil ?_
     refine PostF.next (by assumption) ?_
     rw [map_erase] at H4
     exact fin2 (hr.erase i.toNat) (by (apply Own.sel; (· assumption); exact .cons pz2 (.cons pz2 (.cons pz0 (.cons pz1 (.cons pz1 (.cons pz0 (.cons pz0 .nil))))))))
    ·refine T_if0 fun RI hRI => ?_
     refine B_cmp ?_
     refine W_bin ?_
     refine W_name hc.scope (by rfl) (by rfl) ?_
     refine W_int ?_
     ((refine bin_mod ?_ ?_); (· decide))
     refine W_int ?_
     refine cmp_eq ?_
     (first | refine z_dec (fun hq2 => ?_) (fun hq2 => ?_) | refine i_dec (fun hq2 NI hNI => ?_) (fun hq2 NI hNI => ?_) | refine ite_dec (fun hq2 => ?_) (fun hq2 => ?_))
     ·refine S_assign hc.scope hc.celled (by rfl) ?_
      refine W_bin ?_
      refine O_len hc.scope ?_
      refine W_name hc.scope (by rfl) (by rfl) ?_
      refine ⟨_, _, _, rfl, by assumption, ⟨5, rfl⟩, by (simp; omega), ?_⟩
      refine W_int ?_
      refine bin_sub ?_
      refine OS_setitem ?_
      refine W_bin ?_
      refine W_bin ?_
      refine O_item ?_
      refine W_name hc.scope (by rfl) (by rfl) ?_
      refine W_name hc.scope (by rfl) (by rfl) ?_
      simp only [List.length_map]
      have ht : ((xs.length : Int) - 1).toNat = xs.length - 1 := by omega
      have hti : xs.length - 1 < xs.length := by exact dec (by assumption)
      refine ⟨_, _, _, .int (xs[xs.length - 1]), _, rfl, rfl, H1, .inl (by exact ⟨5, rfl⟩), by omega, by rw [ht, List.getElem?_map, List.getElem?_eq_getElem hti]; rfl, ?_⟩
      refine W_int ?_
      refine bin_add ?_
      refine W_bin ?_
      refine W_bin ?_
      refine W_name hc.scope (by rfl) (by rfl) ?_
      refine W_int ?_
      ((refine bin_div ?_ ?_); (· decide))
      refine W_int ?_
      ((refine bin_mod ?_ ?_); (· decide))
      refine bin_add ?_
      refine W_name hc.scope (by rfl) (by rfl) ?_
      refine W_name hc.scope (by rfl) (by rfl) ?_
      refine ⟨_, _, _, _, _, rfl, rfl, by assumption, pz5, by (simp; omega), fun _ _ => ?_⟩
      refine OS_setitem ?_
      refine O_item ?_
      refine W_name hc.scope (by rfl) (by rfl) ?_
      refine W_name hc.scope (by rfl) (by rfl) ?_
      rename_i μ3 H3
      rw [ht, ← List.map_set] at H3
      refine ⟨_, _, _, .int (xs[xs.length - 1] + 1 + y / 5 / 4 % 5), _, rfl, rfl, H3, .inl (by exact ⟨0, rfl⟩), by omega, by rw [ht, List.getElem?_map, List.getElem?_set_self hti]; rfl, ?_⟩
      refine W_name hc.scope (by rfl) (by rfl) ?_
      refine W_name hc.scope (by rfl) (by rfl) ?_
      refine ⟨_, _, _, _, _, rfl, rfl, by assumption, pz3, by (simp; omega), fun _ _ => ?_⟩
      refine S_nil ?_
      refine PostF.next (by assumption) ?_
      rename_i μ4 H4
      rw [ht, ← List.map_set] at H4
      exact fin2 (hr.last (n := xs[xs.length - 1] + 1 + y / 5 / 4 % 5) hpos (by omega) (by have := hr.2.1 _ (List.getElem_mem hti); omega)) (by (apply Own.sel; (· assumption); exact .cons pz2 (.cons pz2 (.cons pz0 (.cons pz1 (.cons pz1 (.cons pz0 (.cons pz0 .nil))))))))
     ·refine OS_setitem ?_
      refine O_list ?_
      refine L_cons ?_
      refine W_bin ?_
      refine W_int ?_
      refine W_bin ?_
      refine W_bin ?_
      refine W_name hc.scope (by rfl) (by rfl) ?_
      refine W_int ?_
      ((refine bin_div ?_ ?_); (· decide))
      refine W_int ?_
      ((refine bin_mod ?_ ?_); (· decide))
      refine bin_add ?_
      refine L_cons ?_
      refine W_bin ?_
      refine W_int ?_
      refine W_bin ?_
      refine W_bin ?_
      refine W_name hc.scope (by rfl) (by rfl) ?_
      refine W_int ?_
      ((refine bin_div ?_ ?_); (· decide))
      refine W_int ?_
      ((refine bin_mod ?_ ?_); (· decide))
      refine bin_add ?_
      refine L_nil ?_
      refine ⟨_, by assumption, by exact Nat.le_of_ble_eq_true rfl, fun _ _ _ => ?_⟩
      refine W_name hc.scope (by rfl) (by rfl) ?_
      refine W_name hc.scope (by rfl) (by rfl) ?_
      rename_i fr μ3 H3
      refine ⟨_, _, _, _, _, rfl, rfl, H3, by exact pz5, by rw [e2]; omega, fun μ4 H4 => ?_⟩
      refine T_expr ?_
      refine T_fn hc.scope hc.room rfl rfl ?_
      refine L_cons ?_
      refine W_name hc.scope (by rfl) (by rfl) ?_
      refine L_cons ?_
      refine W_name hc.scope (by rfl) (by rfl) ?_
      refine L_cons ?_
      refine O_listOf hc.scope ?_
      refine O_item ?_
      refine W_name hc.scope (by rfl) (by rfl) ?_
      refine W_name hc.scope (by rfl) (by rfl) ?_
      refine ⟨_, _, _, .ref fr, _, rfl, rfl, H4, .inl (by exact ⟨0, rfl⟩), by exact mod_rng rfl, List.getElem?_set_self (by rw [e2]; omega), ?_⟩
      refine ⟨_, _, _, rfl, by assumption, ⟨1, rfl⟩, by exact Nat.le_of_ble_eq_true rfl, fun _ _ _ => ?_⟩
      refine L_nil ?_
      rename_i r5 μ5 H5
      refine Fn.call (fun _ H => put_fn hC (D := D) hf' H) (by rfl) H5 (by exact .cons pz3 (.cons pz3 .nil)) ?_
      rintro _ _ μ6 H6 hF
      have H6 := hF.b2 H6
      refine S_nil ?_
      refine PostF.next (by assumption) ?_
      obtain ⟨l2, g1, q1⟩ := put3 r5 [1 + y / 5 / 4 % 4, 6 + y / 5 / 16 % 4]
      obtain ⟨l3, g2, q2⟩ := put1 fr [1 + y / 5 / 4 % 4, 6 + y / 5 / 16 % 4]
      refine ⟨_, l2, l3, g1, g2, hw.put (Nat.le_succ _) ⟨?_, ?_, ?_⟩, (H6.sel (P := [[(a, _)], [(d, _)], [(r5, .list (List.map V.int [1 + y / 5 / 4 % 4, 6 + y / 5 / 16 % 4]))], rg, [(b, _)], [(fr, .list (List.map V.int [1 + y / 5 / 4 % 4, 6 + y / 5 / 16 % 4]))], ro]) (by exact .cons pz0 (.cons pz0 (.cons pz0 (.cons pz3 (.cons pz0 (.cons pz0 (.cons pz2 .nil)))))))).to ?_⟩
      ·simp; omega
      ·simp; omega
      ·show 2 ≤ k + 1; omega
      ·simp only [List.flatten_cons, List.flatten_nil, List.append_nil]
       exact q1.append q2

theorem shot_otherwise {a b : Addr} {D : SD} {l l' : List (Addr × O)} {y : Int} {k : Nat} (hG : SG a D l) (hO : SO b D l') (hw : D.WF k) (hk1 : 1 ≤ k) (hk : k ≤ 50) {μ : Mu} (H0 : Own [l, l'] μ) : Fn w 4 502 [.ref a, .ref b, .int y] μ
  (fun v μ' => ∃ E l2 l3, SG a E l2 ∧ SO b E l3 ∧ E.WF (k + 1) ∧ Own [l2, l3] μ') := by
 obtain ⟨d, g, lc, hC, rfl⟩ := hG
 obtain ⟨o, lo, hC', rfl⟩ := hO
 have H : Own [[(a, .inst 236 d)], [(d, .dict [("index", .int D.i), ("term", .int D.t), ("conf", .ref g), ("data", .bytes D.d)])], lc, [(b, .list [.int D.i, .int D.t, .ref o, .bytes D.d])], lo] μ := H0.eq (by simp)
 refine fn_go (ns := ["shot", "own", "y"]) k502 (by (conv => lhs; whnf)) (by (conv => lhs; whnf)) (by kernel_rfl) (rvs3 fun a b c => by kernel_rfl) rfl rfl rfl rfl rfl fun c hc KQ hKQ => ?_
 have hs : D.d.size ≤ k := hw.2
 have hf : y % 6 = 0 ∨ y % 6 = 1 ∨ y % 6 = 2 ∨ (¬ y % 6 = 0 ∧ ¬ y % 6 = 1 ∧ ¬ y % 6 = 2) := by omega
 have fin : ∀ {i t : Int} {dt : Array UInt8} {μ2 : Mu}, dt.size ≤ k + 1 → Own [[(a, .inst 236 d)], [(d, .dict [("index", .int i), ("term", .int t), ("conf", .ref g), ("data", .bytes dt)])], lc, [(b, .list [.int i, .int t, .ref o, .bytes dt])], lo] μ2 →
   ∃ E l2 l3, SG a E l2 ∧ SO b E l3 ∧ E.WF (k + 1) ∧ Own [l2, l3] μ2 := fun {i t dt μ2} h1 H2 =>
  ⟨⟨i, t, D.c, dt⟩, _, _, ⟨d, g, lc, hC, rfl⟩, ⟨o, lo, hC', rfl⟩, ⟨hw.1.mono (Nat.le_succ _), h1⟩, H2.eq (by simp)⟩
 refine S_assign hc.scope hc.celled (by rfl) ?_
 refine W_bin ?_
 refine W_name hc.scope (by rfl) (by rfl) ?_
 refine W_int ?_
 ((refine bin_mod ?_ ?_); (· decide))
 refine S_assign hc.scope hc.celled (by rfl) ?_
 refine W_bin ?_
 refine W_name hc.scope (by rfl) (by rfl) ?_
 refine W_int ?_
 ((refine bin_div ?_ ?_); (· decide))
 refine T_if0 fun RI hRI => ?_
 refine B_cmp ?_
 refine W_name hc.scope (by rfl) (by rfl) ?_
 refine W_int ?_
 refine cmp_eq ?_
 (first | refine z_dec (fun h0 => ?_) (fun h0 => ?_) | refine i_dec (fun h0 NI hNI => ?_) (fun h0 NI hNI => ?_) | refine ite_dec (fun h0 => ?_) (fun h0 => ?_))
 ·refine OS_setitem ?_
  refine W_bin ?_
  refine W_bin ?_
  refine O_item ?_
  refine W_name hc.scope (by rfl) (by rfl) ?_
  refine W_int ?_
  refine ⟨_, _, _, _, _, rfl, rfl, by assumption, .inl ⟨3, rfl⟩, by decide, by rfl, ?_⟩
  refine W_int ?_
  refine bin_add ?_
  refine W_bin ?_
  refine W_name hc.scope (by rfl) (by rfl) ?_
  refine W_int ?_
  ((refine bin_mod ?_ ?_); (· decide))
  refine bin_add ?_
  refine W_name hc.scope (by rfl) (by rfl) ?_
  refine W_int ?_
  refine ⟨_, _, _, _, _, rfl, rfl, by assumption, pz3, by (simp; done), fun _ _ => ?_⟩
  refine T_setattr ?_
  refine O_item ?_
  refine W_name hc.scope (by rfl) (by rfl) ?_
  refine W_int ?_
  refine ⟨_, _, _, _, _, rfl, rfl, by assumption, .inl ⟨0, rfl⟩, by decide, by rfl, ?_⟩
  refine W_name hc.scope (by rfl) (by rfl) ?_
  refine ⟨_, _, _, _, _, _, rfl, by assumption, ⟨1, rfl⟩, pz2, by rfl, by exact Nat.le_of_ble_eq_true rfl, fun _ _ => ?_⟩
  refine S_nil ?_
  refine PostF.next (by assumption) ?_
  exact fin (i := D.i + 1 + y / 6 % 300) (t := D.t) (dt := D.d) (by exact le_add (by assumption)) (by (apply Own.sel; (· assumption); exact .cons pz2 (.cons pz0 (.cons pz1 (.cons pz0 (.cons pz0 .nil))))))
 ·refine T_if0 fun RI hRI => ?_
  refine B_cmp ?_
  refine W_name hc.scope (by rfl) (by rfl) ?_
  refine W_int ?_
  refine cmp_eq ?_
  (first | refine z_dec (fun h1 => ?_) (fun h1 => ?_) | refine i_dec (fun h1 NI hNI => ?_) (fun h1 NI hNI => ?_) | refine ite_dec (fun h1 => ?_) (fun h1 => ?_))
  ·refine OS_setitem ?_
   refine W_bin ?_
   refine W_bin ?_
   refine O_item ?_
   refine W_name hc.scope (by rfl) (by rfl) ?_
   refine W_int ?_
   refine ⟨_, _, _, _, _, rfl, rfl, by assumption, .inl ⟨3, rfl⟩, by decide, by rfl, ?_⟩
   refine W_int ?_
   refine bin_add ?_
   refine W_bin ?_
   refine W_name hc.scope (by rfl) (by rfl) ?_
   refine W_int ?_
   ((refine bin_mod ?_ ?_); (· decide))
   refine bin_add ?_
   refine W_name hc.scope (by rfl) (by rfl) ?_
   refine W_int ?_
   refine ⟨_, _, _, _, _, rfl, rfl, by assumption, pz3, by (simp; done), fun _ _ => ?_⟩
   refine T_setattr ?_
   refine O_item ?_
   refine W_name hc.scope (by rfl) (by rfl) ?_
   refine W_int ?_
   refine ⟨_, _, _, _, _, rfl, rfl, by assumption, .inl ⟨0, rfl⟩, by decide, by rfl, ?_⟩
   refine W_name hc.scope (by rfl) (by rfl) ?_
   refine ⟨_, _, _, _, _, _, rfl, by assumption, ⟨1, rfl⟩, pz2, by rfl, by exact Nat.le_of_ble_eq_true rfl, fun _ _ => ?_⟩
   refine S_nil ?_
   refine PostF.next (by assumption) ?_
   exact fin (i := D.i) (t := D.t + 1 + y / 6 % 300) (dt := D.d) (by exact le_add (by assumption)) (by (apply Own.sel; (· assumption); exact .cons pz2 (.cons pz0 (.cons pz1 (.cons pz0 (.cons pz0 .nil))))))
  ·refine T_if0 fun RI hRI => ?_
   refine B_cmp ?_
   refine W_name hc.scope (by rfl) (by rfl) ?_
   refine W_int ?_
   refine cmp_eq ?_
   (first | refine z_dec (fun h2 => ?_) (fun h2 => ?_) | refine i_dec (fun h2 NI hNI => ?_) (fun h2 NI hNI => ?_) | refine ite_dec (fun h2 => ?_) (fun h2 => ?_))
   ·refine OS_setitem ?_
    refine W_bin ?_
    refine O_item ?_
    refine W_name hc.scope (by rfl) (by rfl) ?_
    refine W_int ?_
    refine ⟨_, _, _, _, _, rfl, rfl, by assumption, .inl ⟨3, rfl⟩, by decide, by rfl, ?_⟩
    refine O_bytesOf hc.scope ?_
    refine O_list ?_
    refine L_cons ?_
    refine W_bin ?_
    refine W_name hc.scope (by rfl) (by rfl) ?_
    refine W_int ?_
    ((refine bin_mod ?_ ?_); (· decide))
    refine L_nil ?_
    refine ⟨_, by assumption, by exact Nat.le_of_ble_eq_true rfl, fun _ _ _ => ?_⟩
    rename_i q μ1 H1
    refine ⟨q, [y / 6 % 256], _, rfl, H1, .head, ⟨fun n hn => by rw [List.mem_singleton.mp hn]; omega, by simp⟩, ?_⟩
    have hq : (byteArr [y / 6 % 256]).size = 1 := rfl
    refine bin_bytes (by omega) ?_
    refine W_name hc.scope (by rfl) (by rfl) ?_
    refine W_int ?_
    refine ⟨_, _, _, _, _, rfl, rfl, by assumption, pz4, by (simp; done), fun _ _ => ?_⟩
    refine T_setattr ?_
    refine O_item ?_
    refine W_name hc.scope (by rfl) (by rfl) ?_
    refine W_int ?_
    refine ⟨_, _, _, _, _, rfl, rfl, by assumption, .inl ⟨0, rfl⟩, by decide, by rfl, ?_⟩
    refine W_name hc.scope (by rfl) (by rfl) ?_
    refine ⟨_, _, _, _, _, _, rfl, by assumption, ⟨2, rfl⟩, pz3, by rfl, by exact Nat.le_of_ble_eq_true rfl, fun _ _ => ?_⟩
    refine S_nil ?_
    refine PostF.next (by assumption) ?_
    exact fin (i := D.i) (t := D.t) (dt := D.d ++ byteArr [y / 6 % 256]) (by rw [Array.size_append]; omega) (by (apply Own.sel; (· assumption); exact .cons pz3 (.cons pz0 (.cons pz2 (.cons pz0 (.cons pz1 .nil))))))
   ·refine T_expr ?_
    refine T_fn hc.scope hc.room rfl rfl ?_
    refine L_cons ?_
    refine T_attr ?_
    refine W_name hc.scope (by rfl) (by rfl) ?_
    refine ⟨_, _, _, _, _, _, rfl, by assumption, ⟨0, rfl⟩, ⟨1, rfl⟩, by rfl, by rfl, ?_⟩
    refine L_cons ?_
    refine O_item ?_
    refine W_name hc.scope (by rfl) (by rfl) ?_
    refine W_int ?_
    refine ⟨_, _, _, _, _, rfl, rfl, by assumption, .inl ⟨3, rfl⟩, by decide, by rfl, ?_⟩
    refine L_cons ?_
    refine W_name hc.scope (by rfl) (by rfl) ?_
    refine L_nil ?_
    refine Fn.call (fun _ H => turn_members (.inl rfl) hC hC' hw.1 hk1 hk H) (by rfl) H (by exact .cons pz2 (.cons pz3 .nil)) ?_
    rintro _ _ μ4 ⟨E, l2, l3, g1, g2, g3, H4⟩ hF
    have H4 := hF.b2 H4
    refine S_nil ?_
    refine PostF.next (by assumption) ?_
    exact ⟨⟨D.i, D.t, E, D.d⟩, _, _, ⟨d, g, l2, g1, rfl⟩, ⟨o, l3, g2, rfl⟩, ⟨g3, by show D.d.size ≤ _; omega⟩, H4.fin (P := [[(a, _)], [(d, _)], l2, [(b, _)], l3]) (by exact .cons pz2 (.cons pz2 (.cons pz0 (.cons pz1 (.cons pz0 .nil))))) (by simp)⟩

theorem grow_fn {C a b : Addr} (hC : C = 194 ∨ C = 365) {D : CD} {l l' : List (Addr × O)} {y : Int} {k : Nat} (hG : CG C a D l) (hO : CO b D l') (hw : D.WF k) (hk : k ≤ 40) (hy : 1 ≤ y) (hy2 : y ≤ 100) {μ : Mu} (H0 : Own [l, l'] μ) : Fn w 2 537 [.ref a, .ref b, .int y] μ
  (fun v μ' => ∃ E l2 l3, CG C a E l2 ∧ CO b E l3 ∧ E.WF (k + 4) ∧ Own [l2, l3] μ') := by
 refine fn_go (ns := ["conf", "members", "by"]) k537 (by (conv => lhs; whnf)) (by (conv => lhs; whnf)) (by kernel_rfl) (rvs3 fun a b c => by kernel_rfl) rfl rfl rfl rfl rfl fun c hc KQ hKQ => ?_
 refine T_for _ (fun j kk μ1 => ∃ (i : Nat) (E : CD) (l2 l3 : List (Addr × O)), kk = .range i (4 - i) ∧ j = 4 - i ∧ i ≤ 4 ∧ CG C a E l2 ∧ CO b E l3 ∧ E.WF (k + i) ∧ Own [l2, l3] μ1) Sub.refl ?_ ?_
 ·refine I_range (by exact hc.scope) ?_
  refine W_int ?_
  refine ⟨_, rfl, ?_⟩
  exact ⟨by decide, _, 0, D, l, l', rfl, rfl, by exact Nat.le_of_ble_eq_true rfl, hG, hO, hw, H0⟩
 rintro c' hc' N hN j kk μ1 ⟨i, E, l2, l3, rfl, rfl, hi, hG, hO, hw, H1⟩
 have hc2 := hc' _ _ hc
 by_cases h : i < 4
 ·refine .inr ⟨_, _, .range (by exact sub_pos' (by assumption)), ?_⟩
  refine A_name (by exact hc2.scope) (by exact hc2.celled) rfl ?_
  have hf' : (i : Int) = 0 ∨ (i : Int) = 1 ∨ (i : Int) = 2 ∨ (i : Int) = 3 := by exact i4 (by assumption)
  obtain ⟨ms, xo, ro, e1, e2, e3, p1, put1⟩ := focusO hO hf'
  obtain ⟨d, x0, x1, x2, x3, xg, rg, eg, p2, put2, put3⟩ := focusG hG hf'
  have hr := hw.get (f := (i : Int))
  generalize hxs : E.get (i : Int) = xs at *
  have hxl : xs.length ≤ k + i := hr.2.2
  have H : Own [[(a, .inst C d)], [(d, .dict (cfs C x0 x1 x2 x3 E.al))], [(xg, .list (List.map V.int xs))], rg, [(b, .list ms)], [(xo, .list (List.map V.int xs))], ro] μ1 := H1.to (by
   simp only [List.flatten_cons, List.flatten_nil, List.append_nil]
   exact p2.append p1)
  refine S_assign hc2.scope hc2.celled (by rfl) ?_
  refine W_bin ?_
  refine O_max hc2.scope ?_
  refine W_bin ?_
  refine O_item ?_
  refine W_name hc2.scope (by rfl) (by rfl) ?_
  refine W_name hc2.scope (by rfl) (by rfl) ?_
  refine ⟨_, _, _, .ref xo, _, rfl, rfl, H, .inl (by exact ⟨4, rfl⟩), by exact nnL (by assumption) rfl, e1, ?_⟩
  refine O_list ?_
  refine L_cons ?_
  refine W_int ?_
  refine L_nil ?_
  refine ⟨_, by assumption, by exact Nat.le_of_ble_eq_true rfl, fun _ _ _ => ?_⟩
  refine bin_cat (by assumption) ⟨6, rfl⟩ ⟨0, rfl⟩ (by (simp; omega)) (fun _ _ _ => ?_)
  rename_i r1 μ3 H3
  rw [show [V.int 0] = List.map V.int [0] from rfl, ← List.map_append] at H3
  refine ⟨r1, xs ++ [0], _, rfl, H3, .head, by simp, fun M hM hM' => ?_⟩
  have h0 := hM' 0 (by simp)
  have hMu : M ≤ 20000000000 + 100 * ((k + i : Nat) : Int) := by
   rcases List.mem_append.mp hM with q | q
   ·exact (hr.2.1 M q).2
   ·rw [List.mem_singleton.mp q]; omega
  have hx : ∀ x ∈ xs, x < M + y := fun x hx => by have := hM' x (List.mem_append_left _ hx); omega
  refine W_name hc2.scope (by rfl) (by rfl) ?_
  refine bin_add ?_
  refine T_expr ?_
  refine O_append ?_
  refine O_item ?_
  refine W_name hc2.scope (by rfl) (by rfl) ?_
  refine W_name hc2.scope (by rfl) (by rfl) ?_
  refine ⟨_, _, _, .ref xo, _, rfl, rfl, H3, .inl (by exact ⟨6, rfl⟩), by exact nnL (by assumption) rfl, e1, ?_⟩
  refine ⟨_, _, _, rfl, by assumption, ⟨7, rfl⟩, ?_⟩
  refine W_name hc2.scope (by rfl) (by rfl) ?_
  refine ⟨_, _, _, by assumption, pz7, by (simp; omega), fun _ _ => ?_⟩
  refine T_expr ?_
  refine O_append ?_
  refine T_fn hc2.scope hc2.room rfl rfl ?_
  refine L_cons ?_
  refine W_name hc2.scope (by rfl) (by rfl) ?_
  refine L_cons ?_
  refine W_name hc2.scope (by rfl) (by rfl) ?_
  refine L_nil ?_
  rename_i μ4 H4
  refine Fn.call (fun _ H => list_fn hC (D := E) (L := []) hf' H) (by rfl) H4 (by exact .cons pz3 (.cons pz3 .nil)) ?_
  rintro _ _ μ5 ⟨rfl, H5⟩ hF
  have H5 := hF.b2 H5
  rw [← eg]
  refine ⟨_, _, _, rfl, by assumption, ⟨5, rfl⟩, ?_⟩
  refine W_name hc2.scope (by rfl) (by rfl) ?_
  refine ⟨_, _, _, by assumption, pz5, by (simp; omega), fun _ _ => ?_⟩
  refine S_nil ?_
  refine PostN.go (by assumption) ?_
  rename_i μ6 H6
  obtain ⟨l4, g1, q1⟩ := put2 (xs ++ [M + y])
  obtain ⟨l5, g2, q2⟩ := put1 xo (xs ++ [M + y])
  rw [set_same e1] at q2
  rw [show [V.int (M + y)] = List.map V.int [M + y] from rfl, ← List.map_append] at H6
  refine ⟨Sub.refl.set.set, 4 - (i + 1), by exact dec (by assumption), i + 1, _, l4, l5, rng_succ, rfl, h, g1, g2, hw.put (by omega) (hr.push (by omega) hx (by omega)), (H6.sel (P := [[(a, _)], [(d, _)], [(xg, _)], rg, [(b, _)], [(xo, _)], ro]) (by exact .cons pz1 (.cons pz1 (.cons pz0 (.cons pz3 (.cons pz3 (.cons pz0 (.cons pz2 .nil)))))))).to ?_⟩
  simp only [List.flatten_cons, List.flatten_nil, List.append_nil]
  exact q1.append q2
 ·have : i = 4 := by exact Nat.le_antisymm (by assumption) (Nat.le_of_not_lt (by assumption))
  subst this
  refine .inl ⟨.rangeEnd (by decide), ?_⟩
  refine S_nil ?_
  refine PostF.next (by assumption) ?_
  exact ⟨E, l2, l3, hG, hO, hw, H1⟩
theorem grow_shot {a b : Addr} {D : SD} {l l' : List (Addr × O)} {y : Int} {k : Nat} (hG : SG a D l) (hO : SO b D l') (hw : D.WF k) (hk : k ≤ 40) (hy : 1 ≤ y) (hy2 : y ≤ 100) {μ : Mu} (H0 : Own [l, l'] μ) : Fn w 4 544 [.ref a, .ref b, .int y] μ
  (fun v μ' => ∃ E l2 l3, SG a E l2 ∧ SO b E l3 ∧ E.WF (k + 4) ∧ Own [l2, l3] μ') := by
 obtain ⟨d, g, lc, hC, rfl⟩ := hG
 obtain ⟨o, lo, hC', rfl⟩ := hO
 have H : Own [[(a, .inst 236 d)], [(d, .dict [("index", .int D.i), ("term", .int D.t), ("conf", .ref g), ("data", .bytes D.d)])], lc, [(b, .list [.int D.i, .int D.t, .ref o, .bytes D.d])], lo] μ := H0.eq (by simp)
 refine fn_go (ns := ["shot", "own", "by"]) k544 (by (conv => lhs; whnf)) (by (conv => lhs; whnf)) (by kernel_rfl) (rvs3 fun a b c => by kernel_rfl) rfl rfl rfl rfl rfl fun c hc KQ hKQ => ?_
 have hs : D.d.size ≤ k := hw.2
 refine OS_setitem ?_
 refine W_bin ?_
 refine O_item ?_
 refine W_name hc.scope (by rfl) (by rfl) ?_
 refine W_int ?_
 refine ⟨_, _, _, _, _, rfl, rfl, by assumption, .inl ⟨3, rfl⟩, by decide, by rfl, ?_⟩
 refine W_name hc.scope (by rfl) (by rfl) ?_
 refine bin_add ?_
 refine W_name hc.scope (by rfl) (by rfl) ?_
 refine W_int ?_
 refine ⟨_, _, _, _, _, rfl, rfl, by assumption, pz3, by (simp; done), fun _ _ => ?_⟩
 refine T_setattr ?_
 refine O_item ?_
 refine W_name hc.scope (by rfl) (by rfl) ?_
 refine W_int ?_
 refine ⟨_, _, _, _, _, rfl, rfl, by assumption, .inl ⟨0, rfl⟩, by decide, by rfl, ?_⟩
 refine W_name hc.scope (by rfl) (by rfl) ?_
 refine ⟨_, _, _, _, _, _, rfl, by assumption, ⟨1, rfl⟩, pz2, by rfl, by exact Nat.le_of_ble_eq_true rfl, fun _ _ => ?_⟩
 refine T_expr ?_
 refine T_fn hc.scope hc.room rfl rfl ?_
 refine L_cons ?_
 refine T_attr ?_
 refine W_name hc.scope (by rfl) (by rfl) ?_
 refine ⟨_, _, _, _, _, _, rfl, by assumption, ⟨2, rfl⟩, ⟨0, rfl⟩, by rfl, by rfl, ?_⟩
 refine L_cons ?_
 refine O_item ?_
 refine W_name hc.scope (by rfl) (by rfl) ?_
 refine W_int ?_
 refine ⟨_, _, _, _, _, rfl, rfl, by assumption, .inl ⟨1, rfl⟩, by decide, by rfl, ?_⟩
 refine L_cons ?_
 refine W_name hc.scope (by rfl) (by rfl) ?_
 refine L_nil ?_
 refine Fn.call (fun _ H => grow_fn (.inl rfl) hC hC' hw.1 hk hy hy2 H) (by rfl) (by assumption) (by exact .cons pz3 (.cons pz3 .nil)) ?_
 rintro _ _ μ4 ⟨E, l2, l3, g1, g2, g3, H4⟩ hF
 have H4 := hF.b2 H4
 refine S_nil ?_
 refine PostF.next (by assumption) ?_
 exact ⟨⟨D.i + y, D.t, E, D.d⟩, _, _, ⟨d, g, l2, g1, rfl⟩, ⟨o, l3, g2, rfl⟩, ⟨g3, by show D.d.size ≤ _; omega⟩, H4.fin (P := [[(a, _)], [(d, .dict [("index", .int (D.i + y)), ("term", .int D.t), ("conf", .ref g), ("data", .bytes D.d)])], l2, [(b, .list [.int (D.i + y), .int D.t, .ref o, .bytes D.d])], l3]) (by exact .cons pz4 (.cons pz2 (.cons pz0 (.cons pz1 (.cons pz0 .nil))))) (by simp)⟩

noncomputable def CD.fits (D : CD) : Bool := (D.n.all fun x => decide (x ∈ D.o) && !decide (x ∈ D.l) && !decide (x ∈ D.v)) && (D.l.all fun x => !decide (x ∈ D.v) && !decide (x ∈ D.o)) && (decide (0 < D.o.length) || !D.al)
theorem fits_fn {a : Addr} {D : CD} {l : List (Addr × O)} (hG : CO a D l) (hs : D.Fit) {μ : Mu} (H : Own [l] μ) : Fn w 1 424 [.ref a] μ (fun v μ' => v = .bool D.fits ∧ Own [l] μ') := by
 obtain ⟨x0, x1, x2, x3, rfl⟩ := hG
 obtain ⟨⟨_, s0⟩, ⟨_, s1⟩, ⟨_, s2⟩, ⟨_, s3⟩⟩ := hs
 have H : Own [[(a, _)], [(x0, _)], [(x1, _)], [(x2, _)], [(x3, _)]] μ := H.eq
 refine fn_go (ns := ["members"]) k424 (by (conv => lhs; whnf)) (by (conv => lhs; whnf)) (by kernel_rfl) (rvs1 fun a => by kernel_rfl) rfl rfl rfl rfl rfl fun c hc KQ hKQ => ?_
 refine T_for _ (fun j kk μ1 => ∃ (i : Nat), kk = .list x3 i ∧ j = D.n.length - i ∧ i ≤ D.n.length ∧ ((D.n.take i).all fun x => decide (x ∈ D.o) && !decide (x ∈ D.l) && !decide (x ∈ D.v)) = true ∧
  Own [[(a, .list [.ref x0, .ref x1, .ref x2, .ref x3, .bool D.al])], [(x0, .list (List.map V.int D.v))], [(x1, .list (List.map V.int D.l))], [(x2, .list (List.map V.int D.o))], [(x3, .list (List.map V.int D.n))]] μ1) Sub.refl ?_ ?_
 ·refine OI_list ?_
  refine O_item ?_
  refine W_name hc.scope (by rfl) (by rfl) ?_
  refine W_int ?_
  refine ⟨_, _, _, _, _, rfl, rfl, by assumption, .inl ⟨0, rfl⟩, by decide, by rfl, ?_⟩
  refine ⟨_, _, _, rfl, by assumption, ⟨4, rfl⟩, ?_⟩
  exact ⟨_, 0, rfl, rfl, Nat.zero_le _, rfl, H⟩
 rintro c' hc' N hN j kk μ1 ⟨i, rfl, rfl, hi, ha, H1⟩
 have hc2 := hc' _ _ hc
 by_cases h : i < D.n.length
 ·refine .inr ⟨.int D.n[i], _, .list (H1.get (by exact pz4)) (by simp [h]), ?_⟩
  refine A_name (by exact hc2.scope) (by exact hc2.celled) rfl ?_
  have step : (decide (D.n[i] ∈ D.o) && !decide (D.n[i] ∈ D.l) && !decide (D.n[i] ∈ D.v)) = true → ((D.n.take (i + 1)).all fun x => decide (x ∈ D.o) && !decide (x ∈ D.l) && !decide (x ∈ D.v)) = true := fun q => by
   rw [List.take_succ_eq_append_getElem h, List.all_append, ha, Bool.true_and, List.all_cons, List.all_nil, Bool.and_true]; exact q
  have bad : (decide (D.n[i] ∈ D.o) && !decide (D.n[i] ∈ D.l) && !decide (D.n[i] ∈ D.v)) = false → D.fits = false := fun q => by
   unfold CD.fits
   have : (D.n.all fun x => decide (x ∈ D.o) && !decide (x ∈ D.l) && !decide (x ∈ D.v)) = false := by
    rw [List.all_eq_false]
    exact ⟨_, List.getElem_mem h, by rw [q]; exact Bool.false_ne_true⟩
   rw [this]; rfl
  refine T_if0 fun RI hRI => ?_
  refine B_or3 ?_
  refine B_cmp ?_
  refine W_name hc2.scope (by rfl) (by rfl) ?_
  refine O_item ?_
  refine W_name hc2.scope (by rfl) (by rfl) ?_
  refine W_int ?_
  refine ⟨_, _, _, _, _, rfl, rfl, by assumption, .inl ⟨0, rfl⟩, by decide, by rfl, ?_⟩
  refine cmp_notin (by assumption) ⟨3, rfl⟩ ?_
  (first | refine z_dec (fun h0 => ?_) (fun h0 => ?_) | refine i_dec (fun h0 NI hNI => ?_) (fun h0 NI hNI => ?_) | refine ite_dec (fun h0 => ?_) (fun h0 => ?_))
  ·(first | refine z_t ?_ | refine i_t fun NI hNI => ?_ | refine ite_t ?_ | skip)
   refine S_ret ?_
   refine W_bool ?_
   refine PostN.ret (by assumption) ?_
   refine PostF.ret (by assumption) ?_
   exact ⟨by show V.bool false = _; rw [bad (by simp [h0])], by (refine Own.of_singles ?_; apply Own.sel; (· assumption); exact .cons pz0 (.cons pz0 (.cons pz0 (.cons pz0 (.cons pz0 .nil)))))⟩
  refine B_or2 ?_
  refine B_cmp ?_
  refine W_name hc2.scope (by rfl) (by rfl) ?_
  refine O_item ?_
  refine W_name hc2.scope (by rfl) (by rfl) ?_
  refine W_int ?_
  refine ⟨_, _, _, _, _, rfl, rfl, by assumption, .inl ⟨0, rfl⟩, by decide, by rfl, ?_⟩
  refine cmp_in (by assumption) ⟨2, rfl⟩ ?_
  (first | refine z_dec (fun h1 => ?_) (fun h1 => ?_) | refine i_dec (fun h1 NI hNI => ?_) (fun h1 NI hNI => ?_) | refine ite_dec (fun h1 => ?_) (fun h1 => ?_))
  ·(first | refine z_t ?_ | refine i_t fun NI hNI => ?_ | refine ite_t ?_ | skip)
   refine S_ret ?_
   refine W_bool ?_
   refine PostN.ret (by assumption) ?_
   refine PostF.ret (by assumption) ?_
   exact ⟨by show V.bool false = _; rw [bad (by simp [h1])], by (refine Own.of_singles ?_; apply Own.sel; (· assumption); exact .cons pz0 (.cons pz0 (.cons pz0 (.cons pz0 (.cons pz0 .nil)))))⟩
  refine B_cmp ?_
  refine W_name hc2.scope (by rfl) (by rfl) ?_
  refine O_item ?_
  refine W_name hc2.scope (by rfl) (by rfl) ?_
  refine W_int ?_
  refine ⟨_, _, _, _, _, rfl, rfl, by assumption, .inl ⟨0, rfl⟩, by decide, by rfl, ?_⟩
  refine cmp_in (by assumption) ⟨1, rfl⟩ ?_
  (first | refine z_dec (fun h2 => ?_) (fun h2 => ?_) | refine i_dec (fun h2 NI hNI => ?_) (fun h2 NI hNI => ?_) | refine ite_dec (fun h2 => ?_) (fun h2 => ?_))
  ·refine S_ret ?_
   refine W_bool ?_
   refine PostN.ret (by assumption) ?_
   refine PostF.ret (by assumption) ?_
   exact ⟨by show V.bool false = _; rw [bad (by simp [h2])], by (refine Own.of_singles ?_; apply Own.sel; (· assumption); exact .cons pz0 (.cons pz0 (.cons pz0 (.cons pz0 (.cons pz0 .nil)))))⟩
  refine S_nil ?_
  refine PostN.go (by assumption) ?_
  have h0 : D.n[i] ∈ D.o := Classical.not_not.mp h0
  exact ⟨Sub.refl.set, _, by exact dec (by assumption), i + 1, rfl, rfl, h, step (by simp [h0, h1, h2]), H1⟩
 ·refine .inl ⟨.listEnd (H1.get (by exact pz4)) (by simp; omega), ?_⟩
  have hi2 : i = D.n.length := by exact Nat.le_antisymm (by assumption) (Nat.le_of_not_lt (by assumption))
  subst hi2
  rw [List.take_length] at ha
  refine T_for _ (fun j kk μ1 => ∃ (i : Nat), kk = .list x1 i ∧ j = D.l.length - i ∧ i ≤ D.l.length ∧ ((D.l.take i).all fun x => !decide (x ∈ D.v) && !decide (x ∈ D.o)) = true ∧
   Own [[(a, .list [.ref x0, .ref x1, .ref x2, .ref x3, .bool D.al])], [(x0, .list (List.map V.int D.v))], [(x1, .list (List.map V.int D.l))], [(x2, .list (List.map V.int D.o))], [(x3, .list (List.map V.int D.n))]] μ1) Sub.refl ?_ ?_
  ·refine OI_list ?_
   refine O_item ?_
   refine W_name hc.scope (by rfl) (by rfl) ?_
   refine W_int ?_
   refine ⟨_, _, _, _, _, rfl, rfl, by assumption, .inl ⟨0, rfl⟩, by decide, by rfl, ?_⟩
   refine ⟨_, _, _, rfl, by assumption, ⟨2, rfl⟩, ?_⟩
   exact ⟨_, 0, rfl, rfl, Nat.zero_le _, rfl, H1⟩
  rintro c'' hc'' N hN j kk μ2 ⟨i, rfl, rfl, hi, ha2, H2⟩
  have hc3 := hc'' _ _ hc
  by_cases h : i < D.l.length
  ·have step : (!decide (D.l[i] ∈ D.v) && !decide (D.l[i] ∈ D.o)) = true → ((D.l.take (i + 1)).all fun x => !decide (x ∈ D.v) && !decide (x ∈ D.o)) = true := fun q => by
    rw [List.take_succ_eq_append_getElem h, List.all_append, ha2, Bool.true_and, List.all_cons, List.all_nil, Bool.and_true]; exact q
   have bad : (!decide (D.l[i] ∈ D.v) && !decide (D.l[i] ∈ D.o)) = false → D.fits = false := fun q => by
    unfold CD.fits
    have : (D.l.all fun x => !decide (x ∈ D.v) && !decide (x ∈ D.o)) = false := by
     rw [List.all_eq_false]
     exact ⟨_, List.getElem_mem h, by rw [q]; exact Bool.false_ne_true⟩
    rw [this, Bool.and_false]; rfl
   refine .inr ⟨.int D.l[i], _, .list (H2.get (by exact pz2)) (by simp [h]), ?_⟩
   refine A_name (by exact hc3.scope) (by exact hc3.celled) rfl ?_
   refine T_if0 fun RI hRI => ?_
   refine B_or2 ?_
   refine B_cmp ?_
   refine W_name hc3.scope (by rfl) (by rfl) ?_
   refine O_item ?_
   refine W_name hc3.scope (by rfl) (by rfl) ?_
   refine W_int ?_
   refine ⟨_, _, _, _, _, rfl, rfl, by assumption, .inl ⟨0, rfl⟩, by decide, by rfl, ?_⟩
   refine cmp_in (by assumption) ⟨1, rfl⟩ ?_
   (first | refine z_dec (fun h0 => ?_) (fun h0 => ?_) | refine i_dec (fun h0 NI hNI => ?_) (fun h0 NI hNI => ?_) | refine ite_dec (fun h0 => ?_) (fun h0 => ?_))
   ·(first | refine z_t ?_ | refine i_t fun NI hNI => ?_ | refine ite_t ?_ | skip)
    refine S_ret ?_
    refine W_bool ?_
    refine PostN.ret (by assumption) ?_
    refine PostF.ret (by assumption) ?_
    exact ⟨by show V.bool false = _; rw [bad (by simp [h0])], by (refine Own.of_singles ?_; apply Own.sel; (· assumption); exact .cons pz0 (.cons pz0 (.cons pz0 (.cons pz0 (.cons pz0 .nil)))))⟩
   refine B_cmp ?_
   refine W_name hc3.scope (by rfl) (by rfl) ?_
   refine O_item ?_
   refine W_name hc3.scope (by rfl) (by rfl) ?_
   refine W_int ?_
   refine ⟨_, _, _, _, _, rfl, rfl, by assumption, .inl ⟨0, rfl⟩, by decide, by rfl, ?_⟩
   refine cmp_in (by assumption) ⟨3, rfl⟩ ?_
   (first | refine z_dec (fun h1 => ?_) (fun h1 => ?_) | refine i_dec (fun h1 NI hNI => ?_) (fun h1 NI hNI => ?_) | refine ite_dec (fun h1 => ?_) (fun h1 => ?_))
   ·refine S_ret ?_
    refine W_bool ?_
    refine PostN.ret (by assumption) ?_
    refine PostF.ret (by assumption) ?_
    exact ⟨by show V.bool false = _; rw [bad (by simp [h1])], by (refine Own.of_singles ?_; apply Own.sel; (· assumption); exact .cons pz0 (.cons pz0 (.cons pz0 (.cons pz0 (.cons pz0 .nil)))))⟩
   refine S_nil ?_
   refine PostN.go (by assumption) ?_
   exact ⟨Sub.refl.set, _, by exact dec (by assumption), i + 1, rfl, rfl, h, step (by simp [h0, h1]), H2⟩
  ·refine .inl ⟨.listEnd (H2.get (by exact pz2)) (by simp; omega), ?_⟩
   have hi2 : i = D.l.length := by exact Nat.le_antisymm (by assumption) (Nat.le_of_not_lt (by assumption))
   subst hi2
   rw [List.take_length] at ha2
   have e : D.fits = (decide (0 < D.o.length) || !D.al) := by unfold CD.fits; rw [ha, ha2]; rfl
   refine S_ret ?_
   refine W_or2 ?_
   refine W_cmp ?_
   refine O_len hc.scope ?_
   refine O_item ?_
   refine W_name hc.scope (by rfl) (by rfl) ?_
   refine W_int ?_
   refine ⟨_, _, _, _, _, rfl, rfl, by assumption, .inl ⟨0, rfl⟩, by decide, by rfl, ?_⟩
   refine ⟨_, _, _, rfl, by assumption, ⟨3, rfl⟩, by (simp; omega), ?_⟩
   refine W_int ?_
   refine cmp_gt ?_
   refine tru_bool ?_
   (first | refine z_dec (fun h0 => ?_) (fun h0 => ?_) | refine i_dec (fun h0 NI hNI => ?_) (fun h0 NI hNI => ?_) | refine ite_dec (fun h0 => ?_) (fun h0 => ?_))
   ·have h1 : 0 < D.o.length := by simpa using h0
    exact PostF.ret hKQ ⟨by rw [e]; show V.bool _ = _; rw [decide_eq_true h0, decide_eq_true h1]; rfl, by (refine Own.of_singles ?_; apply Own.sel; (· assumption); exact .cons pz0 (.cons pz0 (.cons pz0 (.cons pz0 (.cons pz0 .nil)))))⟩
   ·have h1 : ¬ 0 < D.o.length := by simpa using h0
    refine W_not ?_
    refine O_item ?_
    refine W_name hc.scope (by rfl) (by rfl) ?_
    refine W_int ?_
    refine ⟨_, _, _, _, _, rfl, rfl, by assumption, .inl ⟨0, rfl⟩, by decide, by rfl, ?_⟩
    refine tru_bool ?_
    refine PostF.ret (by assumption) ?_
    exact ⟨by rw [e]; show V.bool _ = _; rw [decide_eq_false h1, Bool.false_or], by (refine Own.of_singles ?_; apply Own.sel; (· assumption); exact .cons pz0 (.cons pz0 (.cons pz0 (.cons pz0 (.cons pz0 .nil)))))⟩

theorem grow_message {a b : Addr} {D : MD} {l l' : List (Addr × O)} {y : Int} {k : Nat} (hG : MG a D l) (hO : MO b D l') (hw : D.WF k) (hk : k ≤ 40) (hy : 1 ≤ y) (hy2 : y ≤ 100) {μ : Mu} (H0 : Own [l, l'] μ) : Fn w 6 551 [.ref a, .ref b, .int y] μ
  (fun v μ' => ∃ E l2 l3, MG a E l2 ∧ MO b E l3 ∧ E.WF (k + 4) ∧ Own [l2, l3] μ') := by
 obtain ⟨d, e, as, ls, v, lv, hE, hV, rfl⟩ := hG
 obtain ⟨n, e', as', ls', v', lv', hE', hV', rfl⟩ := hO
 have H : Own [[(a, .inst 267 d)], [(d, .dict (mfs D e v))], [(e, .list (as.map .ref))], ls.flatten, lv, [(b, .list [.ref n, .bool D.rej, .ref e', v', .bytes D.ctx])], [(n, .list (mlist D))], [(e', .list (as'.map .ref))], ls'.flatten, lv'] μ := H0.eq (by simp [mlist])
 refine fn_go (ns := ["message", "own", "by"]) k551 (by (conv => lhs; whnf)) (by (conv => lhs; whnf)) (by kernel_rfl) (rvs3 fun a b c => by kernel_rfl) rfl rfl rfl rfl rfl fun c hc KQ hKQ => ?_
 have hes : D.es.length ≤ k := hw.2.1
 refine T_expr ?_
 refine T_fn hc.scope hc.room rfl rfl ?_
 refine L_cons ?_
 refine W_name hc.scope (by rfl) (by rfl) ?_
 refine L_cons ?_
 refine W_name hc.scope (by rfl) (by rfl) ?_
 refine L_cons ?_
 refine W_int ?_
 refine L_cons ?_
 refine W_bin ?_
 refine O_item ?_
 refine O_item ?_
 refine W_name hc.scope (by rfl) (by rfl) ?_
 refine W_int ?_
 refine ⟨_, _, _, _, _, rfl, rfl, by assumption, .inl ⟨5, rfl⟩, by decide, by rfl, ?_⟩
 refine W_int ?_
 refine ⟨_, _, _, _, _, rfl, rfl, by assumption, .inl ⟨6, rfl⟩, by decide, by rfl, ?_⟩
 refine W_name hc.scope (by rfl) (by rfl) ?_
 refine bin_add ?_
 refine L_nil ?_
 refine Fn.call (fun _ H => say_fn (f := 5) (.inr (.inr (.inr (.inr (.inr (.inl rfl)))))) H) (by rfl) H (by exact .cons pz0 (.cons pz0 (.cons pz3 (.cons pz3 .nil)))) ?_
 rintro _ _ μ1 H1 hF
 have H1 := hF.b4 H1
 generalize hD2 : D.say 5 (D.n5 + y) = D2 at H1
 have d1 : D2.rej = D.rej := by rw [← hD2]; rfl
 have d2 : D2.ctx = D.ctx := by rw [← hD2]; rfl
 have d3 : D2.shot = D.shot := by rw [← hD2]; rfl
 skip
 refine T_for _ (fun j kk μ1 => ∃ (i : Nat) (es : List ED) (ls ls' : List (List (Addr × O))), kk = .range i ((D.es.length : Int) - i) ∧ j = D.es.length - i ∧ i ≤ D.es.length ∧ es.length = D.es.length ∧ Alls EG as es ls ∧ Alls EO as' es ls' ∧ (∀ e ∈ es, e.WF k) ∧
  Own [ls.flatten, ls'.flatten, [(a, .inst 267 d)], [(d, .dict (mfs D2 e v))], [(e, .list (as.map .ref))], lv, [(b, .list [.ref n, .bool D.rej, .ref e', v', .bytes D.ctx])], [(n, .list (mlist D2))], [(e', .list (as'.map .ref))], lv'] μ1) Sub.refl ?_ ?_
 ·refine I_range (by exact hc.scope) ?_
  have hl' : as'.length = D.es.length := hE'.length.1
  refine O_len hc.scope ?_
  refine O_item ?_
  refine W_name hc.scope (by rfl) (by rfl) ?_
  refine W_int ?_
  refine ⟨_, _, _, _, _, rfl, rfl, by assumption, .inl ⟨2, rfl⟩, by decide, by rfl, ?_⟩
  refine ⟨_, _, _, rfl, by assumption, ⟨7, rfl⟩, by (simp; omega), ?_⟩
  refine ⟨_, rfl, ?_⟩
  exact ⟨by rw [List.length_map]; omega, _, 0, D.es, ls, ls', by rw [List.length_map, hl']; simp, rfl, by exact Nat.le_of_ble_eq_true rfl, rfl, hE, hE', hw.1, by (apply Own.sel; (· assumption); exact .cons pz5 (.cons pz7 (.cons pz0 (.cons pz0 (.cons pz2 (.cons pz2 (.cons pz0 (.cons pz0 (.cons pz0 (.cons pz0 .nil))))))))))⟩
 rintro c' hc' N hN j kk μ2 ⟨i, es, ls, ls', rfl, rfl, hi, hes2, hA, hA', hW, H2⟩
 have hc2 := hc' _ _ hc
 by_cases h : i < D.es.length
 ·refine .inr ⟨_, _, .range (by exact sub_pos' (by assumption)), ?_⟩
  refine A_name (by exact hc2.scope) (by exact hc2.celled) rfl ?_
  obtain ⟨x, hx⟩ : ∃ x, es[i]? = some x := ⟨_, List.getElem?_eq_getElem (by exact eq_lt' (by assumption) (by assumption))⟩
  obtain ⟨p, lp, a1, a2, hP⟩ := hA.get hx
  obtain ⟨p', lp', a1', a2', hP'⟩ := hA'.get hx
  have H3 := (H2.open_at a2).pick (.tail (.tail .head))
  have H4 := H3.open_at a2'
  have hPe := hP'
  subst hPe
  refine T_expr ?_
  refine T_fn hc2.scope hc2.room rfl rfl ?_
  refine L_cons ?_
  refine O_item ?_
  refine T_attr ?_
  refine W_name hc2.scope (by rfl) (by rfl) ?_
  refine ⟨_, _, _, _, _, _, rfl, by assumption, ⟨4, rfl⟩, ⟨5, rfl⟩, by rfl, by rfl, ?_⟩
  refine W_name hc2.scope (by rfl) (by rfl) ?_
  refine ⟨_, _, _, .ref p, _, rfl, rfl, H4, .inl (by exact ⟨6, rfl⟩), by exact nnK (by assumption) (by assumption) (by assumption) rfl, by simp [a1], ?_⟩
  refine L_cons ?_
  refine O_item ?_
  refine O_item ?_
  refine W_name hc2.scope (by rfl) (by rfl) ?_
  refine W_int ?_
  refine ⟨_, _, _, _, _, rfl, rfl, by assumption, .inl ⟨8, rfl⟩, by decide, by rfl, ?_⟩
  refine W_name hc2.scope (by rfl) (by rfl) ?_
  refine ⟨_, _, _, .ref p', _, rfl, rfl, H4, .inl (by exact ⟨10, rfl⟩), by exact nnK (by assumption) (by assumption) (by assumption) rfl, by simp [a1'], ?_⟩
  refine L_cons ?_
  refine W_int ?_
  refine L_cons ?_
  refine W_bin ?_
  refine O_item ?_
  refine O_item ?_
  refine O_item ?_
  refine W_name hc2.scope (by rfl) (by rfl) ?_
  refine W_int ?_
  refine ⟨_, _, _, _, _, rfl, rfl, by assumption, .inl ⟨8, rfl⟩, by decide, by rfl, ?_⟩
  refine W_name hc2.scope (by rfl) (by rfl) ?_
  refine ⟨_, _, _, .ref p', _, rfl, rfl, H4, .inl (by exact ⟨10, rfl⟩), by exact nnK (by assumption) (by assumption) (by assumption) rfl, by simp [a1'], ?_⟩
  refine W_int ?_
  refine ⟨_, _, _, _, _, rfl, rfl, by assumption, .inl ⟨0, rfl⟩, by decide, by rfl, ?_⟩
  refine W_name hc2.scope (by rfl) (by rfl) ?_
  refine bin_add ?_
  refine L_nil ?_
  refine Fn.turn (fun _ H => turn_entry hP hP' (.inl rfl) H) (by rfl) H4 (by exact .cons pz2 (.cons pz0 .nil)) fun _ E l2 l3 μ5 g1 g2 g3 H5 => ?_
  refine S_nil ?_
  refine PostN.go (by assumption) ?_
  have H6 := (H5.pk2 (.tail .head) (.tail .head)).close_at (List.getElem?_eq_some_iff.mp a2').1
  have H7 := (H6.pk2 (.tail .head) (.tail .head)).close_at (List.getElem?_eq_some_iff.mp a2).1
  refine ⟨Sub.refl.set, D.es.length - (i + 1), by exact dec (by assumption), i + 1, es.set i E, _, _, rng_succ, rfl, h, by rw [List.length_set]; exact hes2, hA.set a1 g1, hA'.set a1' g2, fun e he => ?_, H7⟩
  rcases List.mem_or_eq_of_mem_set he with q | q
  ·exact hW e q
  ·rw [q]; show E.d.size ≤ k; rw [g3]; exact hW x (List.mem_of_getElem? hx)
 ·refine .inl ⟨.rangeEnd (by exact sub_nonpos' (by assumption)), ?_⟩
  refine T_expr ?_
  refine T_fn hc.scope hc.room rfl rfl ?_
  refine L_cons ?_
  refine W_name hc.scope (by rfl) (by rfl) ?_
  refine L_cons ?_
  refine W_name hc.scope (by rfl) (by rfl) ?_
  refine L_cons ?_
  refine W_name hc.scope (by rfl) (by rfl) ?_
  refine L_nil ?_
  have hi2 : i = D.es.length := by exact Nat.le_antisymm (by assumption) (Nat.le_of_not_lt (by assumption))
  have ha1 : as.length = es.length := hA.length.1
  have ha2 : as'.length = es.length := hA'.length.1
  refine Fn.call (fun _ H => entry_more (D := D2) (as := as) (bs := as') (by omega) (by omega) H) (by rfl) H2 (by exact .cons pz2 (.cons pz2 (.cons pz2 (.cons pz3 (.cons pz4 .nil))))) ?_
  rintro _ _ μ3 ⟨y1, ly, z1, lz, g1, g2, H3⟩ hF
  have H4 := hF _ H3
  simp only [List.cons_append, List.nil_append] at H4
  have hAn := hA.append (.one g1)
  have hAn' := hA'.append (.one g2)
  have fin : ∀ {sh : Option SD} {v v' : V} {lv lv' : List (Addr × O)} {μ4 : Mu}, OptS SG v sh lv → OptS SO v' sh lv' → (∀ s, sh = some s → s.WF (k + 4)) → Own [[(a, .inst 267 d)], [(d, .dict (mfs D2 e v))], [(e, .list ((as ++ [y1]).map .ref))], ly, [(b, .list [.ref n, .bool D.rej, .ref e', v', .bytes D.ctx])], [(e', .list ((as' ++ [z1]).map .ref))], lz, ls.flatten, ls'.flatten, lv, [(n, .list (mlist D2))], lv'] μ4 →
    ∃ E l2 l3, MG a E l2 ∧ MO b E l3 ∧ E.WF (k + 4) ∧ Own [l2, l3] μ4 := fun {sh v v' lv lv' μ4} o1 o2 o3 H5 => by
   refine ⟨{ D2 with es := es ++ [ntry y], shot := sh }, _, _, ⟨d, e, _, _, v, lv, hAn, o1, rfl⟩, ⟨n, e', _, _, v', lv', hAn', o2, rfl⟩, ⟨fun x hx => ?_, ?_, o3, ?_⟩, ?_⟩
   ·rcases List.mem_append.mp hx with q | q
    ·exact (hW x q).mono (by omega)
    ·rw [List.mem_singleton.mp q]; show 1 ≤ k + 4; omega
   ·simp; omega
   ·show D2.ctx.size ≤ _; rw [d2]; have := hw.2.2.2; omega
   ·rw [← d1, ← d2] at H5
    exact H5.fin (P := [[(a, _)], [(d, .dict (mfs { D2 with es := es ++ [ntry y], shot := sh } e v))], [(e, _)], ls.flatten, ly, lv, [(b, _)], [(n, .list (mlist D2))], [(e', _)], ls'.flatten, lz, lv']) (by exact .cons pz0 (.cons pz0 (.cons pz0 (.cons pz4 (.cons pz0 (.cons pz4 (.cons pz0 (.cons pz3 (.cons pz0 (.cons pz1 (.cons pz0 (.cons pz0 .nil)))))))))))) (by simp [mlist])
  refine T_if0 fun RI hRI => ?_
  refine B_cmp ?_
  refine O_item ?_
  refine W_name hc.scope (by rfl) (by rfl) ?_
  refine W_int ?_
  refine ⟨_, _, _, _, _, rfl, rfl, by assumption, .inl ⟨4, rfl⟩, by decide, by rfl, ?_⟩
  refine W_none ?_
  rcases hsh : D.shot with _ | sd
  ·rw [hsh] at hV hV'
   cases hV
   cases hV'
   refine cmp_isnot0 ?_
   (first | refine z_f ?_ | refine i_f fun NI hNI => ?_ | refine ite_f ?_ | skip)
   refine S_nil ?_
   refine PostF.next (by assumption) ?_
   exact fin .none .none (fun s q => by cases q) (by (apply Own.sel; (· assumption); exact .cons pz0 (.cons pz0 (.cons pz0 (.cons pz0 (.cons pz0 (.cons pz0 (.cons pz0 (.cons pz0 (.cons pz0 (.cons pz0 (.cons pz0 (.cons pz0 .nil)))))))))))))
  ·rw [hsh] at hV hV'
   obtain ⟨_⟩ | ⟨hS⟩ := hV
   obtain ⟨_⟩ | ⟨hS'⟩ := hV'
   refine cmp_isnot1 ?_
   (first | refine z_t ?_ | refine i_t fun NI hNI => ?_ | refine ite_t ?_ | skip)
   refine T_expr ?_
   refine T_fn hc.scope hc.room rfl rfl ?_
   refine L_cons ?_
   refine T_attr ?_
   refine W_name hc.scope (by rfl) (by rfl) ?_
   refine ⟨_, _, _, _, _, _, rfl, by assumption, ⟨0, rfl⟩, ⟨1, rfl⟩, by rfl, by rfl, ?_⟩
   refine L_cons ?_
   refine O_item ?_
   refine W_name hc.scope (by rfl) (by rfl) ?_
   refine W_int ?_
   refine ⟨_, _, _, _, _, rfl, rfl, by assumption, .inl ⟨4, rfl⟩, by decide, by rfl, ?_⟩
   refine L_cons ?_
   refine W_name hc.scope (by rfl) (by rfl) ?_
   refine L_nil ?_
   refine Fn.call (fun _ H => grow_shot hS hS' (hw.2.2.1 _ hsh) hk hy hy2 H) (by rfl) H4 (by exact .cons pz9 (.cons pz10 .nil)) ?_
   rintro _ _ μ5 ⟨E, l2, l3, q1, q2, q3, H5⟩ hF
   have H5 := hF.b2 H5
   refine S_nil ?_
   refine PostF.next (by assumption) ?_
   exact fin (.some q1) (.some q2) (fun s q => by cases q; exact q3) (by (apply Own.sel; (· assumption); exact .cons pz2 (.cons pz2 (.cons pz2 (.cons pz2 (.cons pz2 (.cons pz2 (.cons pz2 (.cons pz2 (.cons pz2 (.cons pz0 (.cons pz1 (.cons pz0 .nil)))))))))))))
end
section
variable {w : World} {c : Cx w} {m : Vars} {μ : Mu}
theorem RdB.ref {n : Nat} {v : V} {ds : List D} {l : List (Addr × O)} {L : List (List (Addr × O))} (h : RdB n v (.tup ds) l) (hn : n ≤ 8) (H : Own L μ) (p : In1 l L) : ∃ a, v = .ref a ∧ Rd μ 8 (.ref a) (.tup ds) := by
  cases p with
  | mk i hi =>
    obtain ⟨L', pk⟩ := nthB_pick hi
    have H1 := H.pick pk
    have r := h μ fun p hp => H1.2 p (by rw [List.flatten_cons]; exact List.mem_append_left _ hp)
    cases v with
    | ref a => exact ⟨a, rfl, r.up hn⟩
    | none => cases r
    | bool => cases r
    | int => cases r
    | bytes => cases r
theorem cmp_rows {n k : Nat} {v1 v2 : V} {d : D} {ds : List D} {l1 l2 : List (Addr × O)} {L : List (List (Addr × O))} {R : Bool → Prop} (h1 : RdB n v1 d l1) (h2 : RdB k v2 d l2) (hd : d = .tup ds) (hn : n ≤ 8) (hk : k ≤ 8) (H : Own L μ) (p1 : In1 l1 L) (p2 : In1 l2 L) (q : R false) : CmpV .NotEq v1 v2 μ R := by
  subst hd
  obtain ⟨a, rfl, r1⟩ := h1.ref hn H p1
  obtain ⟨b, rfl, r2⟩ := h2.ref hk H p2
  exact .ner ⟨true, .same r1 r2, q⟩
noncomputable def TD.Fit : TD → Prop
  | .conf0 D => D.Fit
  | .conf1 D => D.Fit
  | .hard _ => True
  | .entry _ => True
  | .shot D => D.c.Fit
  | .msg D => D.Fit
theorem MD.WF.fit {D : MD} {b : Nat} (h : D.WF b) (hb : b < 60) : D.Fit := ⟨by have := h.2.1; omega, fun s hs => (h.2.2.1 s hs).1.fit hb⟩
theorem TD.WF.fit {T : TD} {b : Nat} (h : T.WF b) (hb : b < 60) : T.Fit := by
  cases T with
  | conf0 D => exact CD.WF.fit (D := D) h hb
  | conf1 D => exact CD.WF.fit (D := D) h hb
  | hard D => trivial
  | entry D => trivial
  | shot D => exact CD.WF.fit (D := D.c) h.1 hb
  | msg D => exact MD.WF.fit (D := D) h hb
theorem two_at : ∀ {ls : List (List (Addr × O))} {i j : Nat} {li lj : List (Addr × O)}, ls[i]? = some li → ls[j]? = some lj → i ≠ j → ∃ rest, ls.flatten.Perm (li ++ (lj ++ rest)) := fun {ls i j li lj} hi hj hne => by
  have hp := (pick_at hi).perm
  have hj' : ∃ j' : Nat, (ls.eraseIdx i)[j']? = some lj := by
    by_cases h : j < i
    · exact ⟨j, by rw [List.getElem?_eraseIdx, if_pos h]; exact hj⟩
    · exact ⟨j - 1, by rw [List.getElem?_eraseIdx, if_neg (by omega), show j - 1 + 1 = j by omega]; exact hj⟩
  obtain ⟨j', hj'⟩ := hj'
  exact ⟨_, hp.trans (List.Perm.append_left _ (pick_at hj').perm)⟩
noncomputable def selAt : List Addr → List TD → List Addr
  | a :: as, T :: Ts => if T.kind = 2 then a :: selAt as Ts else selAt as Ts
  | _, _ => []
theorem selAt_snoc : ∀ {as : List Addr} {Ts : List TD} {a : Addr} {T : TD}, as.length = Ts.length → selAt (as ++ [a]) (Ts ++ [T]) = selAt as Ts ++ (if T.kind = 2 then [a] else [])
  | [], [], a, T, _ => by simp only [List.nil_append, selAt]
  | x :: as, y :: Ts, a, T, h => by
    simp only [List.cons_append, selAt]
    have := selAt_snoc (as := as) (Ts := Ts) (a := a) (T := T) (by simpa using h)
    split <;> simp [this]
  | [], _ :: _, _, _, h => by simp at h
  | _ :: _, [], _, _, h => by simp at h
theorem selAt_mem : ∀ {as : List Addr} {Ts : List TD} {a : Addr}, a ∈ selAt as Ts → ∃ (i : Nat) (T : TD), as[i]? = some a ∧ Ts[i]? = some T ∧ T.kind = 2
  | x :: as, y :: Ts, a, h => by
    unfold selAt at h
    split at h
    · rcases List.mem_cons.mp h with rfl | h
      · exact ⟨0, y, rfl, rfl, by assumption⟩
      · obtain ⟨i, T, h1, h2, h3⟩ := selAt_mem h; exact ⟨i + 1, T, h1, h2, h3⟩
    · obtain ⟨i, T, h1, h2, h3⟩ := selAt_mem h; exact ⟨i + 1, T, h1, h2, h3⟩
  | [], _, _, h => by simp [selAt] at h
  | _ :: _, [], _, h => by simp [selAt] at h
theorem selAt_pos : ∀ {as : List Addr} {Ts : List TD}, as.length = Ts.length → (∃ T : TD, T ∈ Ts ∧ T.kind = 2) → 0 < (selAt as Ts).length
  | x :: as, y :: Ts, hl, ⟨T, hm, hk⟩ => by
    unfold selAt
    split
    · simp
    · rcases List.mem_cons.mp hm with rfl | hm
      · contradiction
      · exact selAt_pos (by simpa using hl) ⟨T, hm, hk⟩
  | [], [], _, ⟨_, h, _⟩ => by simp at h
  | [], _ :: _, h, _ => by simp at h
  | _ :: _, [], h, _ => by simp at h
theorem selAt_len : ∀ {as : List Addr} {Ts : List TD}, (selAt as Ts).length ≤ as.length
  | x :: as, y :: Ts => by
    have := @selAt_len as Ts
    unfold selAt
    split <;> simp <;> omega
  | [], _ => by simp [selAt]
  | _ :: _, [] => by simp [selAt]
theorem HD.same_comm (D E : HD) : D.same E = E.same D := by unfold HD.same; exact decide_eq_decide.mpr ⟨Eq.symm, Eq.symm⟩
end
section
variable {w : World}
theorem say_same {D : MD} {f x : Int} : (D.say f x).rej = D.rej ∧ (D.say f x).ctx = D.ctx ∧ (D.say f x).shot = D.shot ∧ (D.say f x).es = D.es := by
 unfold MD.say
 repeat' split
 all_goals exact ⟨rfl, rfl, rfl, rfl⟩
theorem mlist_at {D : MD} {f : Int} (hf : f = 0 ∨ f = 1 ∨ f = 2 ∨ f = 3 ∨ f = 4 ∨ f = 5 ∨ f = 6 ∨ f = 7) : ∃ x, (mlist D)[f.toNat]? = some (.int x) := by
 rcases hf with rfl | rfl | rfl | rfl | rfl | rfl | rfl | rfl
 all_goals exact ⟨_, rfl⟩
theorem message_otherwise {a b : Addr} {D : MD} {l l' : List (Addr × O)} {y : Int} {k : Nat} (hG : MG a D l) (hO : MO b D l') (hw : D.WF k) (hk4 : 4 ≤ k) (hk : k ≤ 50) {μ : Mu} (H0 : Own [l, l'] μ) : Fn w 9 523 [.ref a, .ref b, .int y] μ
  (fun v μ' => ∃ E l2 l3, MG a E l2 ∧ MO b E l3 ∧ E.WF (k + 1) ∧ Own [l2, l3] μ') := by
 obtain ⟨d, e, as, ls, v, lv, hE, hV, rfl⟩ := hG
 obtain ⟨n, e', as', ls', v', lv', hE', hV', rfl⟩ := hO
 have H : Own [[(a, .inst 267 d)], [(d, .dict (mfs D e v))], [(e, .list (as.map .ref))], ls.flatten, lv, [(b, .list [.ref n, .bool D.rej, .ref e', v', .bytes D.ctx])], [(n, .list (mlist D))], [(e', .list (as'.map .ref))], ls'.flatten, lv'] μ := H0.eq (by simp [mlist])
 have hes : D.es.length ≤ k := hw.2.1
 have ha : as.length = D.es.length := hE.length.1
 have ha' : as'.length = D.es.length := hE'.length.1
 have hcx : D.ctx.size ≤ k := hw.2.2.2
 have fin : ∀ {E : MD} {as as' : List Addr} {ls ls' : List (List (Addr × O))} {v v' : V} {lv lv' : List (Addr × O)} {μ2 : Mu}, Alls EG as E.es ls → Alls EO as' E.es ls' → OptS SG v E.shot lv → OptS SO v' E.shot lv' → E.WF (k + 1) →
   Own [[(a, .inst 267 d)], [(d, .dict (mfs E e v))], [(e, .list (as.map .ref))], ls.flatten, lv, [(b, .list [.ref n, .bool E.rej, .ref e', v', .bytes E.ctx])], [(n, .list (mlist E))], [(e', .list (as'.map .ref))], ls'.flatten, lv'] μ2 →
   ∃ E l2 l3, MG a E l2 ∧ MO b E l3 ∧ E.WF (k + 1) ∧ Own [l2, l3] μ2 := fun {E as as' ls ls' v v' lv lv' μ2} h1 h2 h3 h4 h5 H5 =>
  ⟨E, _, _, ⟨d, e, _, _, _, _, h1, h3, rfl⟩, ⟨n, e', _, _, _, _, h2, h4, rfl⟩, h5, H5.eq (by simp [mlist])⟩
 have more : ∀ {q : Int} {y1 z1 : Addr} {ly lz : List (Addr × O)} {μ2 : Mu}, EG y1 (ntry q) ly → EO z1 (ntry q) lz →
   Own [[(a, .inst 267 d)], [(d, .dict (mfs D e v))], [(e, .list ((as ++ [y1]).map .ref))], ly, [(b, .list [.ref n, .bool D.rej, .ref e', v', .bytes D.ctx])], [(e', .list ((as' ++ [z1]).map .ref))], lz, ls.flatten, lv, [(n, .list (mlist D))], ls'.flatten, lv'] μ2 →
   ∃ E l2 l3, MG a E l2 ∧ MO b E l3 ∧ E.WF (k + 1) ∧ Own [l2, l3] μ2 := fun {q y1 z1 ly lz μ2} g1 g2 H5 => by
  refine fin (E := { D with es := D.es ++ [ntry q] }) (hE.append (.one g1)) (hE'.append (.one g2)) hV hV' ⟨fun x hx => ?_, ?_, fun s hs => (hw.2.2.1 s hs).mono (Nat.le_succ _), Nat.le_succ_of_le hcx⟩
   (H5.fin (P := [[(a, _)], [(d, _)], [(e, _)], ls.flatten, ly, lv, [(b, _)], [(n, _)], [(e', _)], ls'.flatten, lz, lv']) (by exact .cons pz0 (.cons pz0 (.cons pz0 (.cons pz4 (.cons pz0 (.cons pz3 (.cons pz0 (.cons pz2 (.cons pz0 (.cons pz1 (.cons pz0 (.cons pz0 .nil)))))))))))) (by simp [mlist]; rfl))
  ·rcases List.mem_append.mp hx with q | q
   ·exact (hw.1 x q).mono (Nat.le_succ _)
   ·rw [List.mem_singleton.mp q]; show 1 ≤ k + 1; omega
  ·show (D.es ++ [ntry q]).length ≤ k + 1
   rw [List.length_append]; simp; omega
 have again : ∀ (q : Int), Fn w 8 516 [.ref a, .ref b, .int q] μ (fun v μ' => ∃ E l2 l3, MG a E l2 ∧ MO b E l3 ∧ E.WF (k + 1) ∧ Own [l2, l3] μ') := fun q =>
  Fn.call (fun _ H => entry_more (D := D) (as := as) (bs := as') (by exact eqle2 (by assumption) (by assumption) (by assumption) rfl) (by exact eqle2 (by assumption) (by assumption) (by assumption) rfl) H) (by rfl) H (by exact .cons pz0 (.cons pz0 (.cons pz0 (.cons pz2 (.cons pz3 .nil))))) fun v μ1 μ' h hF => by
   obtain ⟨y1, ly, z1, lz, g1, g2, H3⟩ := h
   exact more g1 g2 (hF _ H3)
 refine fn_go (ns := ["message", "own", "y"]) k523 (by (conv => lhs; whnf)) (by (conv => lhs; whnf)) (by kernel_rfl) (rvs3 fun a b c => by kernel_rfl) rfl rfl rfl rfl rfl fun c hc KQ hKQ => ?_
 refine S_assign hc.scope hc.celled (by rfl) ?_
 refine W_bin ?_
 refine W_name hc.scope (by rfl) (by rfl) ?_
 refine W_int ?_
 ((refine bin_mod ?_ ?_); (· decide))
 refine S_assign hc.scope hc.celled (by rfl) ?_
 refine W_bin ?_
 refine W_name hc.scope (by rfl) (by rfl) ?_
 refine W_int ?_
 ((refine bin_div ?_ ?_); (· decide))
 refine T_if0 fun RI hRI => ?_
 refine B_cmp ?_
 refine W_name hc.scope (by rfl) (by rfl) ?_
 refine W_int ?_
 refine cmp_lt ?_
 (first | refine z_dec (fun h8 => ?_) (fun h8 => ?_) | refine i_dec (fun h8 NI hNI => ?_) (fun h8 NI hNI => ?_) | refine ite_dec (fun h8 => ?_) (fun h8 => ?_))
 ·have hf : y % 14 = 0 ∨ y % 14 = 1 ∨ y % 14 = 2 ∨ y % 14 = 3 ∨ y % 14 = 4 ∨ y % 14 = 5 ∨ y % 14 = 6 ∨ y % 14 = 7 := by exact c8 (em0 _ rfl) (by assumption)
  obtain ⟨x, hx⟩ := mlist_at (D := D) hf
  refine T_expr ?_
  refine T_fn hc.scope hc.room rfl rfl ?_
  refine L_cons ?_
  refine W_name hc.scope (by rfl) (by rfl) ?_
  refine L_cons ?_
  refine W_name hc.scope (by rfl) (by rfl) ?_
  refine L_cons ?_
  refine W_name hc.scope (by rfl) (by rfl) ?_
  refine L_cons ?_
  refine W_bin ?_
  refine W_bin ?_
  refine O_item ?_
  refine O_item ?_
  refine W_name hc.scope (by rfl) (by rfl) ?_
  refine W_int ?_
  refine ⟨_, _, _, _, _, rfl, rfl, by assumption, .inl ⟨5, rfl⟩, by decide, by rfl, ?_⟩
  refine W_name hc.scope (by rfl) (by rfl) ?_
  refine ⟨_, _, _, .int x, _, rfl, rfl, H, .inl (by exact ⟨6, rfl⟩), by exact mod_rng rfl, hx, ?_⟩
  refine W_int ?_
  refine bin_add ?_
  refine W_bin ?_
  refine W_name hc.scope (by rfl) (by rfl) ?_
  refine W_int ?_
  ((refine bin_mod ?_ ?_); (· decide))
  refine bin_add ?_
  refine L_nil ?_
  refine Fn.own4 (fun _ H => say_fn hf H) (by rfl) H (by exact .cons pz0 (.cons pz0 (.cons pz3 (.cons pz3 .nil)))) fun _ μ1 H1 => ?_
  refine S_nil ?_
  refine PostF.next (by assumption) ?_
  obtain ⟨s1, s2, s3, s4⟩ := say_same (D := D) (f := y % 14) (x := x + 1 + y / 14 % 300)
  refine fin (E := D.say (y % 14) (x + 1 + y / 14 % 300)) (s4 ▸ hE) (s4 ▸ hE') (s3 ▸ hV) (s3 ▸ hV') ?_ ?_
  ·have := hw.mono (Nat.le_succ k)
   unfold MD.WF at this ⊢
   rw [s2, s3, s4]; exact this
  ·rw [s1, s2]; (apply Own.sel; (· assumption); exact .cons pz0 (.cons pz0 (.cons pz2 (.cons pz2 (.cons pz2 (.cons pz0 (.cons pz0 (.cons pz0 (.cons pz0 (.cons pz0 .nil))))))))))
 ·have hf : y % 14 = 8 ∨ y % 14 = 9 ∨ y % 14 = 10 ∨ y % 14 = 11 ∨ y % 14 = 12 ∨ y % 14 = 13 := by exact c6 (Int.not_lt.mp (by assumption)) (em1 _ rfl)
  rcases hf with h | h | h | h | h | h
  ·rw [h]
   refine T_if0 fun RI hRI => ?_
   refine B_cmp ?_
   refine W_name hc.scope (by rfl) (by rfl) ?_
   refine W_int ?_
   refine cmp_eq ?_
   (first | refine z_T (by rfl) ?_ | refine i_T (by rfl) fun NI hNI => ?_ | refine ite_T (by rfl) ?_)
   refine OS_setitem ?_
   refine W_not ?_
   refine O_item ?_
   refine W_name hc.scope (by rfl) (by rfl) ?_
   refine W_int ?_
   refine ⟨_, _, _, _, _, rfl, rfl, by assumption, .inl ⟨5, rfl⟩, by decide, by rfl, ?_⟩
   refine tru_bool ?_
   refine W_name hc.scope (by rfl) (by rfl) ?_
   refine W_int ?_
   refine ⟨_, _, _, _, _, rfl, rfl, by assumption, pz5, by (simp; done), fun _ _ => ?_⟩
   refine T_setattr ?_
   refine O_item ?_
   refine W_name hc.scope (by rfl) (by rfl) ?_
   refine W_int ?_
   refine ⟨_, _, _, _, _, rfl, rfl, by assumption, .inl ⟨0, rfl⟩, by decide, by rfl, ?_⟩
   refine W_name hc.scope (by rfl) (by rfl) ?_
   refine ⟨_, _, _, _, _, _, rfl, by assumption, ⟨1, rfl⟩, pz2, by rfl, by exact Nat.le_of_ble_eq_true rfl, fun _ _ => ?_⟩
   refine S_nil ?_
   refine PostF.next (by assumption) ?_
   exact fin (E := { D with rej := !D.rej }) hE hE' hV hV' (hw.mono (Nat.le_succ _)) (by (apply Own.sel; (· assumption); exact .cons pz2 (.cons pz0 (.cons pz1 (.cons pz1 (.cons pz1 (.cons pz0 (.cons pz0 (.cons pz0 (.cons pz0 (.cons pz0 .nil)))))))))))
  ·rw [h]
   refine T_if0 fun RI hRI => ?_
   refine B_cmp ?_
   refine W_name hc.scope (by rfl) (by rfl) ?_
   refine W_int ?_
   refine cmp_eq ?_
   (first | refine z_F (by rfl) ?_ | refine i_F (by rfl) fun NI hNI => ?_ | refine ite_F (by rfl) ?_)
   refine T_if0 fun RI hRI => ?_
   refine B_cmp ?_
   refine W_name hc.scope (by rfl) (by rfl) ?_
   refine W_int ?_
   refine cmp_eq ?_
   (first | refine z_T (by rfl) ?_ | refine i_T (by rfl) fun NI hNI => ?_ | refine ite_T (by rfl) ?_)
   refine OS_setitem ?_
   refine W_bin ?_
   refine O_item ?_
   refine W_name hc.scope (by rfl) (by rfl) ?_
   refine W_int ?_
   refine ⟨_, _, _, _, _, rfl, rfl, by assumption, .inl ⟨5, rfl⟩, by decide, by rfl, ?_⟩
   refine O_bytesOf hc.scope ?_
   refine O_list ?_
   refine L_cons ?_
   refine W_bin ?_
   refine W_name hc.scope (by rfl) (by rfl) ?_
   refine W_int ?_
   ((refine bin_mod ?_ ?_); (· decide))
   refine L_nil ?_
   refine ⟨_, by assumption, by exact Nat.le_of_ble_eq_true rfl, fun _ _ _ => ?_⟩
   rename_i q μ1 H1
   refine ⟨q, [y / 14 % 256], _, rfl, H1, .head, ⟨fun n hn => by rw [List.mem_singleton.mp hn]; omega, by simp⟩, ?_⟩
   have hq : (byteArr [y / 14 % 256]).size = 1 := rfl
   refine bin_bytes (by omega) ?_
   refine W_name hc.scope (by rfl) (by rfl) ?_
   refine W_int ?_
   refine ⟨_, _, _, _, _, rfl, rfl, by assumption, pz6, by (simp; done), fun _ _ => ?_⟩
   refine T_setattr ?_
   refine O_item ?_
   refine W_name hc.scope (by rfl) (by rfl) ?_
   refine W_int ?_
   refine ⟨_, _, _, _, _, rfl, rfl, by assumption, .inl ⟨0, rfl⟩, by decide, by rfl, ?_⟩
   refine W_name hc.scope (by rfl) (by rfl) ?_
   refine ⟨_, _, _, _, _, _, rfl, by assumption, ⟨2, rfl⟩, pz3, by rfl, by exact Nat.le_of_ble_eq_true rfl, fun _ _ => ?_⟩
   refine S_nil ?_
   refine PostF.next (by assumption) ?_
   exact fin (E := { D with ctx := D.ctx ++ byteArr [y / 14 % 256] }) hE hE' hV hV' ⟨fun x hx => (hw.1 x hx).mono (Nat.le_succ _), Nat.le_succ_of_le hes, fun s hs => (hw.2.2.1 s hs).mono (Nat.le_succ _), by show (D.ctx ++ _).size ≤ _; rw [Array.size_append]; omega⟩ (by (apply Own.sel; (· assumption); exact .cons pz3 (.cons pz0 (.cons pz2 (.cons pz2 (.cons pz2 (.cons pz0 (.cons pz1 (.cons pz1 (.cons pz1 (.cons pz1 .nil)))))))))))
  ·rw [h]
   refine T_if0 fun RI hRI => ?_
   refine B_cmp ?_
   refine W_name hc.scope (by rfl) (by rfl) ?_
   refine W_int ?_
   refine cmp_eq ?_
   (first | refine z_F (by rfl) ?_ | refine i_F (by rfl) fun NI hNI => ?_ | refine ite_F (by rfl) ?_)
   refine T_if0 fun RI hRI => ?_
   refine B_cmp ?_
   refine W_name hc.scope (by rfl) (by rfl) ?_
   refine W_int ?_
   refine cmp_eq ?_
   (first | refine z_F (by rfl) ?_ | refine i_F (by rfl) fun NI hNI => ?_ | refine ite_F (by rfl) ?_)
   refine T_if0 fun RI hRI => ?_
   refine B_and3 ?_
   refine B_cmp ?_
   refine W_name hc.scope (by rfl) (by rfl) ?_
   refine W_int ?_
   refine cmp_eq ?_
   (first | refine z_T (by rfl) ?_ | refine i_T (by rfl) fun NI hNI => ?_ | refine ite_T (by rfl) ?_)
   refine B_and2 ?_
   refine B_cmp ?_
   refine W_bin ?_
   refine W_name hc.scope (by rfl) (by rfl) ?_
   refine W_int ?_
   ((refine bin_mod ?_ ?_); (· decide))
   refine W_int ?_
   refine cmp_eq ?_
   (first | refine z_dec (fun h2 => ?_) (fun h2 => ?_) | refine i_dec (fun h2 NI hNI => ?_) (fun h2 NI hNI => ?_) | refine ite_dec (fun h2 => ?_) (fun h2 => ?_))
   ·refine B_cmp ?_
    refine O_len hc.scope ?_
    refine O_item ?_
    refine W_name hc.scope (by rfl) (by rfl) ?_
    refine W_int ?_
    refine ⟨_, _, _, _, _, rfl, rfl, by assumption, .inl ⟨5, rfl⟩, by decide, by rfl, ?_⟩
    refine ⟨_, _, _, rfl, by assumption, ⟨7, rfl⟩, by (simp; omega), ?_⟩
    refine W_int ?_
    refine cmp_gt ?_
    rw [List.length_map]
    (first | refine z_dec (fun h3 => ?_) (fun h3 => ?_) | refine i_dec (fun h3 NI hNI => ?_) (fun h3 NI hNI => ?_) | refine ite_dec (fun h3 => ?_) (fun h3 => ?_))
    ·have hpos : 0 < as'.length := by omega
     refine S_assign hc.scope hc.celled (by rfl) ?_
     refine W_bin ?_
     refine W_bin ?_
     refine W_name hc.scope (by rfl) (by rfl) ?_
     refine W_int ?_
     ((refine bin_div ?_ ?_); (· decide))
     refine O_len hc.scope ?_
     refine O_item ?_
     refine W_name hc.scope (by rfl) (by rfl) ?_
     refine W_int ?_
     refine ⟨_, _, _, _, _, rfl, rfl, by assumption, .inl ⟨5, rfl⟩, by decide, by rfl, ?_⟩
     refine ⟨_, _, _, rfl, by assumption, ⟨7, rfl⟩, by (simp; omega), ?_⟩
     ((refine bin_mod ?_ ?_); (· (simp; omega)))
     refine T_expr ?_
     refine O_pop ?_
     refine O_item ?_
     refine W_name hc.scope (by rfl) (by rfl) ?_
     refine W_int ?_
     refine ⟨_, _, _, _, _, rfl, rfl, by assumption, .inl ⟨5, rfl⟩, by decide, by rfl, ?_⟩
     refine ⟨_, _, _, rfl, by assumption, ⟨7, rfl⟩, ?_⟩
     refine W_name hc.scope (by rfl) (by rfl) ?_
     simp only [List.length_map]
     have hi0 : 0 ≤ y / 14 / 2 % (as'.length : Int) := Int.emod_nonneg _ (by omega)
     have hi1 : y / 14 / 2 % (as'.length : Int) < as'.length := Int.emod_lt_of_pos _ (by assumption)
     generalize hi : y / 14 / 2 % (as'.length : Int) = i at hi0 hi1 ⊢
     have hti : i.toNat < as'.length := by exact toNat_lt' (by assumption) (by assumption)
     have hti2 : i.toNat < as.length := by omega
     refine ⟨_, _, .ref (as'[i.toNat]), _, _, rfl, H, by exact pz7, by rw [List.length_map]; omega, by rw [List.getElem?_map, List.getElem?_eq_getElem hti]; rfl, fun μ3 H3 => ?_⟩
     refine T_expr ?_
     refine O_pop ?_
     refine T_attr ?_
     refine W_name hc.scope (by rfl) (by rfl) ?_
     refine ⟨_, _, _, _, _, _, rfl, by assumption, ⟨1, rfl⟩, ⟨2, rfl⟩, by rfl, by rfl, ?_⟩
     refine ⟨_, _, _, rfl, by assumption, ⟨3, rfl⟩, ?_⟩
     refine W_name hc.scope (by rfl) (by rfl) ?_
     refine ⟨_, _, .ref (as[i.toNat]), _, _, rfl, H3, by exact pz3, by rw [List.length_map]; omega, by rw [List.getElem?_map, List.getElem?_eq_getElem hti2]; rfl, fun μ4 H4 => ?_⟩
     refine S_nil ?_
     refine PostF.next (by assumption) ?_
     rw [map_erase, map_erase] at H4
     obtain ⟨x, hx⟩ : ∃ x, D.es[i.toNat]? = some x := ⟨_, List.getElem?_eq_getElem (by exact eq_lt (by assumption) (by assumption))⟩
     obtain ⟨p, lp, a1, a2, hP⟩ := hE.get hx
     obtain ⟨p', lp', a1', a2', hP'⟩ := hE'.get hx
     have H5 := (H4.pick (b := ls.flatten) (by exact pz4)).open_at a2
     have H6 := (H5.pick (b := ls'.flatten) (by exact pz9)).open_at a2'
     exact fin (E := { D with es := D.es.eraseIdx i.toNat }) (hE.erase _) (hE'.erase _) hV hV' ⟨fun e he => (hw.1 e (List.mem_of_mem_eraseIdx he)).mono (Nat.le_succ _), Nat.le_trans (List.length_eraseIdx_le ..) (Nat.le_succ_of_le hes), fun s hs => (hw.2.2.1 s hs).mono (Nat.le_succ _), Nat.le_succ_of_le hcx⟩ (by (apply Own.sel; (· assumption); exact .cons pz6 (.cons pz6 (.cons pz4 (.cons pz3 (.cons pz4 (.cons pz4 (.cons pz4 (.cons pz3 (.cons pz1 (.cons pz2 .nil)))))))))))
    ·refine T_if0 fun RI hRI => ?_
     refine B_or2 ?_
     refine B_cmp ?_
     refine W_name hc.scope (by rfl) (by rfl) ?_
     refine W_int ?_
     refine cmp_eq ?_
     (first | refine z_T (by rfl) ?_ | refine i_T (by rfl) fun NI hNI => ?_ | refine ite_T (by rfl) ?_)
     (first | refine z_t ?_ | refine i_t fun NI hNI => ?_ | refine ite_t ?_ | skip)
     refine T_expr ?_
     refine T_fn hc.scope hc.room rfl rfl ?_
     refine L_cons ?_
     refine W_name hc.scope (by rfl) (by rfl) ?_
     refine L_cons ?_
     refine W_name hc.scope (by rfl) (by rfl) ?_
     refine L_cons ?_
     refine W_name hc.scope (by rfl) (by rfl) ?_
     refine L_nil ?_
     exact Fn.mono (again _) (Nat.le_refl _) fun _ _ h => S_nil (PostF.next hKQ h)
   ·(first | refine z_f ?_ | refine i_f fun NI hNI => ?_ | refine ite_f ?_ | skip)
    refine T_if0 fun RI hRI => ?_
    refine B_or2 ?_
    refine B_cmp ?_
    refine W_name hc.scope (by rfl) (by rfl) ?_
    refine W_int ?_
    refine cmp_eq ?_
    (first | refine z_T (by rfl) ?_ | refine i_T (by rfl) fun NI hNI => ?_ | refine ite_T (by rfl) ?_)
    (first | refine z_t ?_ | refine i_t fun NI hNI => ?_ | refine ite_t ?_ | skip)
    refine T_expr ?_
    refine T_fn hc.scope hc.room rfl rfl ?_
    refine L_cons ?_
    refine W_name hc.scope (by rfl) (by rfl) ?_
    refine L_cons ?_
    refine W_name hc.scope (by rfl) (by rfl) ?_
    refine L_cons ?_
    refine W_name hc.scope (by rfl) (by rfl) ?_
    refine L_nil ?_
    exact Fn.mono (again _) (Nat.le_refl _) fun _ _ h => S_nil (PostF.next hKQ h)
  ·rw [h]
   refine T_if0 fun RI hRI => ?_
   refine B_cmp ?_
   refine W_name hc.scope (by rfl) (by rfl) ?_
   refine W_int ?_
   refine cmp_eq ?_
   (first | refine z_F (by rfl) ?_ | refine i_F (by rfl) fun NI hNI => ?_ | refine ite_F (by rfl) ?_)
   refine T_if0 fun RI hRI => ?_
   refine B_cmp ?_
   refine W_name hc.scope (by rfl) (by rfl) ?_
   refine W_int ?_
   refine cmp_eq ?_
   (first | refine z_F (by rfl) ?_ | refine i_F (by rfl) fun NI hNI => ?_ | refine ite_F (by rfl) ?_)
   refine T_if0 fun RI hRI => ?_
   refine B_and3 ?_
   refine B_cmp ?_
   refine W_name hc.scope (by rfl) (by rfl) ?_
   refine W_int ?_
   refine cmp_eq ?_
   (first | refine z_F (by rfl) ?_ | refine i_F (by rfl) fun NI hNI => ?_ | refine ite_F (by rfl) ?_)
   (first | refine z_f ?_ | refine i_f fun NI hNI => ?_ | refine ite_f ?_ | skip)
   refine T_if0 fun RI hRI => ?_
   refine B_or2 ?_
   refine B_cmp ?_
   refine W_name hc.scope (by rfl) (by rfl) ?_
   refine W_int ?_
   refine cmp_eq ?_
   (first | refine z_F (by rfl) ?_ | refine i_F (by rfl) fun NI hNI => ?_ | refine ite_F (by rfl) ?_)
   refine B_and2 ?_
   refine B_cmp ?_
   refine W_name hc.scope (by rfl) (by rfl) ?_
   refine W_int ?_
   refine cmp_eq ?_
   (first | refine z_T (by rfl) ?_ | refine i_T (by rfl) fun NI hNI => ?_ | refine ite_T (by rfl) ?_)
   refine B_cmp ?_
   refine O_len hc.scope ?_
   refine O_item ?_
   refine W_name hc.scope (by rfl) (by rfl) ?_
   refine W_int ?_
   refine ⟨_, _, _, _, _, rfl, rfl, by assumption, .inl ⟨5, rfl⟩, by decide, by rfl, ?_⟩
   refine ⟨_, _, _, rfl, by assumption, ⟨7, rfl⟩, by (simp; omega), ?_⟩
   refine W_int ?_
   refine cmp_eq ?_
   rw [List.length_map]
   (first | refine z_dec (fun h3 => ?_) (fun h3 => ?_) | refine i_dec (fun h3 NI hNI => ?_) (fun h3 NI hNI => ?_) | refine ite_dec (fun h3 => ?_) (fun h3 => ?_))
   ·refine T_expr ?_
    refine T_fn hc.scope hc.room rfl rfl ?_
    refine L_cons ?_
    refine W_name hc.scope (by rfl) (by rfl) ?_
    refine L_cons ?_
    refine W_name hc.scope (by rfl) (by rfl) ?_
    refine L_cons ?_
    refine W_name hc.scope (by rfl) (by rfl) ?_
    refine L_nil ?_
    exact Fn.mono (again _) (Nat.le_refl _) fun _ _ h => S_nil (PostF.next hKQ h)
   ·have hpos : 0 < as'.length := by omega
    have hi0 : 0 ≤ y / 14 % (as'.length : Int) := Int.emod_nonneg _ (by assumption)
    have hi1 : y / 14 % (as'.length : Int) < as'.length := Int.emod_lt_of_pos _ (by exact sub_pos' (by assumption))
    refine T_if0 fun RI hRI => ?_
    refine B_cmp ?_
    refine W_name hc.scope (by rfl) (by rfl) ?_
    refine W_int ?_
    refine cmp_eq ?_
    (first | refine z_T (by rfl) ?_ | refine i_T (by rfl) fun NI hNI => ?_ | refine ite_T (by rfl) ?_)
    refine S_assign hc.scope hc.celled (by rfl) ?_
    refine W_bin ?_
    refine W_name hc.scope (by rfl) (by rfl) ?_
    refine O_len hc.scope ?_
    refine O_item ?_
    refine W_name hc.scope (by rfl) (by rfl) ?_
    refine W_int ?_
    refine ⟨_, _, _, _, _, rfl, rfl, by assumption, .inl ⟨5, rfl⟩, by decide, by rfl, ?_⟩
    refine ⟨_, _, _, rfl, by assumption, ⟨7, rfl⟩, by (simp; omega), ?_⟩
    ((refine bin_mod ?_ ?_); (· (simp; omega)))
    refine T_expr ?_
    refine T_fn hc.scope hc.room rfl rfl ?_
    refine L_cons ?_
    refine O_item ?_
    refine T_attr ?_
    refine W_name hc.scope (by rfl) (by rfl) ?_
    refine ⟨_, _, _, _, _, _, rfl, by assumption, ⟨0, rfl⟩, ⟨1, rfl⟩, by rfl, by rfl, ?_⟩
    refine W_name hc.scope (by rfl) (by rfl) ?_
    simp only [List.length_map]
    generalize hi : y / 14 % (as'.length : Int) = i at hi0 hi1 ⊢
    obtain ⟨x, hx⟩ : ∃ x, D.es[i.toNat]? = some x := ⟨_, List.getElem?_eq_getElem (by exact toNat_ltE (by assumption) (by assumption) (by assumption))⟩
    obtain ⟨p, lp, a1, a2, hP⟩ := hE.get hx
    obtain ⟨p', lp', a1', a2', hP'⟩ := hE'.get hx
    have H2 := H.pk2 (b := ls.flatten) (b' := ls'.flatten) (by exact pz3) (by exact pz7)
    have H4 := ((H2.open_at a2).pick (.tail (.tail .head))).open_at a2'
    refine ⟨_, _, _, .ref p, _, rfl, rfl, H4, .inl (by exact ⟨6, rfl⟩), by omega, by simp [a1], ?_⟩
    refine L_cons ?_
    refine O_item ?_
    refine O_item ?_
    refine W_name hc.scope (by rfl) (by rfl) ?_
    refine W_int ?_
    refine ⟨_, _, _, _, _, rfl, rfl, by assumption, .inl ⟨8, rfl⟩, by decide, by rfl, ?_⟩
    refine W_name hc.scope (by rfl) (by rfl) ?_
    refine ⟨_, _, _, .ref p', _, rfl, rfl, H4, .inl (by exact ⟨10, rfl⟩), by omega, by simp [a1'], ?_⟩
    refine L_cons ?_
    refine W_bin ?_
    refine W_name hc.scope (by rfl) (by rfl) ?_
    refine W_int ?_
    ((refine bin_div ?_ ?_); (· decide))
    refine L_nil ?_
    refine Fn.turn (fun _ H => entry_otherwise hP hP' (hw.1 x (List.mem_of_getElem? hx)) (by exact le2 (by assumption) rfl) H) (by rfl) H4 (by exact .cons pz2 (.cons pz0 .nil)) fun _ E l2 l3 μ5 g1 g2 g3 H5 => ?_
    refine S_nil ?_
    refine PostF.next (by assumption) ?_
    have H6 := (H5.pk2 (.tail .head) (.tail .head)).close_at (List.getElem?_eq_some_iff.mp a2').1
    have H7 := (H6.pk2 (.tail .head) (.tail .head)).close_at (List.getElem?_eq_some_iff.mp a2).1
    refine fin (E := { D with es := D.es.set i.toNat E }) (hE.set a1 g1) (hE'.set a1' g2) hV hV' ⟨fun e he => ?_, ?_, fun s hs => (hw.2.2.1 s hs).mono (Nat.le_succ _), Nat.le_succ_of_le hcx⟩ (by (apply Own.sel; (· assumption); exact .cons pz2 (.cons pz2 (.cons pz2 (.cons pz0 (.cons pz1 (.cons pz1 (.cons pz1 (.cons pz1 (.cons pz0 (.cons pz0 .nil)))))))))))
    ·rcases List.mem_or_eq_of_mem_set he with q | q
     ·exact (hw.1 e q).mono (Nat.le_succ _)
     ·rw [q]; exact g3
    ·show (D.es.set _ _).length ≤ k + 1
     rw [List.length_set]; omega
  ·rw [h]
   refine T_if0 fun RI hRI => ?_
   refine B_cmp ?_
   refine W_name hc.scope (by rfl) (by rfl) ?_
   refine W_int ?_
   refine cmp_eq ?_
   (first | refine z_F (by rfl) ?_ | refine i_F (by rfl) fun NI hNI => ?_ | refine ite_F (by rfl) ?_)
   refine T_if0 fun RI hRI => ?_
   refine B_cmp ?_
   refine W_name hc.scope (by rfl) (by rfl) ?_
   refine W_int ?_
   refine cmp_eq ?_
   (first | refine z_F (by rfl) ?_ | refine i_F (by rfl) fun NI hNI => ?_ | refine ite_F (by rfl) ?_)
   refine T_if0 fun RI hRI => ?_
   refine B_and3 ?_
   refine B_cmp ?_
   refine W_name hc.scope (by rfl) (by rfl) ?_
   refine W_int ?_
   refine cmp_eq ?_
   (first | refine z_F (by rfl) ?_ | refine i_F (by rfl) fun NI hNI => ?_ | refine ite_F (by rfl) ?_)
   (first | refine z_f ?_ | refine i_f fun NI hNI => ?_ | refine ite_f ?_ | skip)
   refine T_if0 fun RI hRI => ?_
   refine B_or2 ?_
   refine B_cmp ?_
   refine W_name hc.scope (by rfl) (by rfl) ?_
   refine W_int ?_
   refine cmp_eq ?_
   (first | refine z_F (by rfl) ?_ | refine i_F (by rfl) fun NI hNI => ?_ | refine ite_F (by rfl) ?_)
   refine B_and2 ?_
   refine B_cmp ?_
   refine W_name hc.scope (by rfl) (by rfl) ?_
   refine W_int ?_
   refine cmp_eq ?_
   (first | refine z_F (by rfl) ?_ | refine i_F (by rfl) fun NI hNI => ?_ | refine ite_F (by rfl) ?_)
   (first | refine z_f ?_ | refine i_f fun NI hNI => ?_ | refine ite_f ?_ | skip)
   refine T_if0 fun RI hRI => ?_
   refine B_cmp ?_
   refine W_name hc.scope (by rfl) (by rfl) ?_
   refine W_int ?_
   refine cmp_eq ?_
   (first | refine z_F (by rfl) ?_ | refine i_F (by rfl) fun NI hNI => ?_ | refine ite_F (by rfl) ?_)
   refine T_if0 fun RI hRI => ?_
   refine B_cmp ?_
   refine O_item ?_
   refine W_name hc.scope (by rfl) (by rfl) ?_
   refine W_int ?_
   refine ⟨_, _, _, _, _, rfl, rfl, by assumption, .inl ⟨5, rfl⟩, by decide, by rfl, ?_⟩
   refine W_none ?_
   rcases hsh : D.shot with _ | sd
   ·rw [hsh] at hV hV'
    cases hV
    cases hV'
    refine cmp_is0 ?_
    (first | refine z_t ?_ | refine i_t fun NI hNI => ?_ | refine ite_t ?_ | skip)
    refine S_assign hc.scope hc.celled (by rfl) ?_
    refine T_fn hc.scope hc.room rfl rfl ?_
    refine L_cons ?_
    refine T_fn hc.scope hc.room rfl rfl ?_
    refine L_cons ?_
    refine W_name hc.scope (by rfl) (by rfl) ?_
    refine L_nil ?_
    refine members_fn_k (by rfl) H fun mb lm M μ2 hM hM4 H2 => ?_
    refine L_cons ?_
    refine W_name hc.scope (by rfl) (by rfl) ?_
    refine L_nil ?_
    refine shot_fn_k hM (hM4.fit (by exact Nat.le_of_ble_eq_true rfl)) (by rfl) H2 (by exact .cons pz0 .nil) fun p sh lsh o lo E μ3 hS hO hc1 hd1 H3 => ?_
    refine T_setattr ?_
    refine O_item ?_
    refine W_name hc.scope (by rfl) (by rfl) ?_
    refine W_int ?_
    refine ⟨_, _, _, _, _, rfl, rfl, by assumption, .inl ⟨0, rfl⟩, by decide, by rfl, ?_⟩
    refine W_name hc.scope (by rfl) (by rfl) ?_
    refine ⟨_, _, _, _, _, _, rfl, by assumption, ⟨3, rfl⟩, pz4, by rfl, by exact Nat.le_of_ble_eq_true rfl, fun _ _ => ?_⟩
    refine OS_setitem ?_
    refine O_item ?_
    refine W_name hc.scope (by rfl) (by rfl) ?_
    refine W_int ?_
    refine ⟨_, _, _, _, _, rfl, rfl, by assumption, .inl ⟨1, rfl⟩, by decide, by rfl, ?_⟩
    refine W_name hc.scope (by rfl) (by rfl) ?_
    refine W_int ?_
    refine ⟨_, _, _, _, _, rfl, rfl, by assumption, pz8, by (simp; done), fun _ _ => ?_⟩
    refine S_nil ?_
    refine PostF.next (by assumption) ?_
    exact fin (E := { D with shot := some E }) hE hE' (.some hS) (.some hO) ⟨fun e he => (hw.1 e he).mono (Nat.le_succ _), Nat.le_succ_of_le hes, fun s hs => by cases hs; exact ⟨hc1 ▸ hM4.mono (by exact le_add (by assumption)), by omega⟩, Nat.le_succ_of_le hcx⟩ (by (apply Own.sel; (· assumption); exact .cons pz5 (.cons pz1 (.cons pz4 (.cons pz4 (.cons pz2 (.cons pz0 (.cons pz3 (.cons pz3 (.cons pz3 (.cons pz1 .nil)))))))))))
   ·rw [hsh] at hV hV'
    obtain ⟨_⟩ | ⟨hS⟩ := hV
    obtain ⟨_⟩ | ⟨hS'⟩ := hV'
    refine cmp_is1 ?_
    (first | refine z_f ?_ | refine i_f fun NI hNI => ?_ | refine ite_f ?_ | skip)
    refine T_if0 fun RI hRI => ?_
    refine B_cmp ?_
    refine W_name hc.scope (by rfl) (by rfl) ?_
    refine W_int ?_
    refine cmp_eq ?_
    (first | refine z_T (by rfl) ?_ | refine i_T (by rfl) fun NI hNI => ?_ | refine ite_T (by rfl) ?_)
    refine T_expr ?_
    refine T_fn hc.scope hc.room rfl rfl ?_
    refine L_cons ?_
    refine T_attr ?_
    refine W_name hc.scope (by rfl) (by rfl) ?_
    refine ⟨_, _, _, _, _, _, rfl, by assumption, ⟨0, rfl⟩, ⟨1, rfl⟩, by rfl, by rfl, ?_⟩
    refine L_cons ?_
    refine O_item ?_
    refine W_name hc.scope (by rfl) (by rfl) ?_
    refine W_int ?_
    refine ⟨_, _, _, _, _, rfl, rfl, by assumption, .inl ⟨5, rfl⟩, by decide, by rfl, ?_⟩
    refine L_cons ?_
    refine W_name hc.scope (by rfl) (by rfl) ?_
    refine L_nil ?_
    refine Fn.turn (fun _ H => shot_otherwise hS hS' (hw.2.2.1 _ hsh) (by omega) hk H) (by rfl) H (by exact .cons pz4 (.cons pz8 .nil)) fun _ E l2 l3 μ5 g1 g2 g3 H5 => ?_
    refine S_nil ?_
    refine PostF.next (by assumption) ?_
    exact fin (E := { D with shot := some E }) hE hE' (.some g1) (.some g2) ⟨fun e he => (hw.1 e he).mono (Nat.le_succ _), Nat.le_succ_of_le hes, fun s hs => by cases hs; exact g3, Nat.le_succ_of_le hcx⟩ (by (apply Own.sel; (· assumption); exact .cons pz2 (.cons pz2 (.cons pz2 (.cons pz2 (.cons pz0 (.cons pz1 (.cons pz1 (.cons pz1 (.cons pz1 (.cons pz0 .nil)))))))))))
  ·rw [h]
   refine T_if0 fun RI hRI => ?_
   refine B_cmp ?_
   refine W_name hc.scope (by rfl) (by rfl) ?_
   refine W_int ?_
   refine cmp_eq ?_
   (first | refine z_F (by rfl) ?_ | refine i_F (by rfl) fun NI hNI => ?_ | refine ite_F (by rfl) ?_)
   refine T_if0 fun RI hRI => ?_
   refine B_cmp ?_
   refine W_name hc.scope (by rfl) (by rfl) ?_
   refine W_int ?_
   refine cmp_eq ?_
   (first | refine z_F (by rfl) ?_ | refine i_F (by rfl) fun NI hNI => ?_ | refine ite_F (by rfl) ?_)
   refine T_if0 fun RI hRI => ?_
   refine B_and3 ?_
   refine B_cmp ?_
   refine W_name hc.scope (by rfl) (by rfl) ?_
   refine W_int ?_
   refine cmp_eq ?_
   (first | refine z_F (by rfl) ?_ | refine i_F (by rfl) fun NI hNI => ?_ | refine ite_F (by rfl) ?_)
   (first | refine z_f ?_ | refine i_f fun NI hNI => ?_ | refine ite_f ?_ | skip)
   refine T_if0 fun RI hRI => ?_
   refine B_or2 ?_
   refine B_cmp ?_
   refine W_name hc.scope (by rfl) (by rfl) ?_
   refine W_int ?_
   refine cmp_eq ?_
   (first | refine z_F (by rfl) ?_ | refine i_F (by rfl) fun NI hNI => ?_ | refine ite_F (by rfl) ?_)
   refine B_and2 ?_
   refine B_cmp ?_
   refine W_name hc.scope (by rfl) (by rfl) ?_
   refine W_int ?_
   refine cmp_eq ?_
   (first | refine z_F (by rfl) ?_ | refine i_F (by rfl) fun NI hNI => ?_ | refine ite_F (by rfl) ?_)
   (first | refine z_f ?_ | refine i_f fun NI hNI => ?_ | refine ite_f ?_ | skip)
   refine T_if0 fun RI hRI => ?_
   refine B_cmp ?_
   refine W_name hc.scope (by rfl) (by rfl) ?_
   refine W_int ?_
   refine cmp_eq ?_
   (first | refine z_F (by rfl) ?_ | refine i_F (by rfl) fun NI hNI => ?_ | refine ite_F (by rfl) ?_)
   refine T_if0 fun RI hRI => ?_
   refine B_cmp ?_
   refine O_item ?_
   refine W_name hc.scope (by rfl) (by rfl) ?_
   refine W_int ?_
   refine ⟨_, _, _, _, _, rfl, rfl, by assumption, .inl ⟨5, rfl⟩, by decide, by rfl, ?_⟩
   refine W_none ?_
   rcases hsh : D.shot with _ | sd
   ·rw [hsh] at hV hV'
    cases hV
    cases hV'
    refine cmp_is0 ?_
    (first | refine z_t ?_ | refine i_t fun NI hNI => ?_ | refine ite_t ?_ | skip)
    refine S_assign hc.scope hc.celled (by rfl) ?_
    refine T_fn hc.scope hc.room rfl rfl ?_
    refine L_cons ?_
    refine T_fn hc.scope hc.room rfl rfl ?_
    refine L_cons ?_
    refine W_name hc.scope (by rfl) (by rfl) ?_
    refine L_nil ?_
    refine members_fn_k (by rfl) H fun mb lm M μ2 hM hM4 H2 => ?_
    refine L_cons ?_
    refine W_name hc.scope (by rfl) (by rfl) ?_
    refine L_nil ?_
    refine shot_fn_k hM (hM4.fit (by exact Nat.le_of_ble_eq_true rfl)) (by rfl) H2 (by exact .cons pz0 .nil) fun p sh lsh o lo E μ3 hS hO hc1 hd1 H3 => ?_
    refine T_setattr ?_
    refine O_item ?_
    refine W_name hc.scope (by rfl) (by rfl) ?_
    refine W_int ?_
    refine ⟨_, _, _, _, _, rfl, rfl, by assumption, .inl ⟨0, rfl⟩, by decide, by rfl, ?_⟩
    refine W_name hc.scope (by rfl) (by rfl) ?_
    refine ⟨_, _, _, _, _, _, rfl, by assumption, ⟨3, rfl⟩, pz4, by rfl, by exact Nat.le_of_ble_eq_true rfl, fun _ _ => ?_⟩
    refine OS_setitem ?_
    refine O_item ?_
    refine W_name hc.scope (by rfl) (by rfl) ?_
    refine W_int ?_
    refine ⟨_, _, _, _, _, rfl, rfl, by assumption, .inl ⟨1, rfl⟩, by decide, by rfl, ?_⟩
    refine W_name hc.scope (by rfl) (by rfl) ?_
    refine W_int ?_
    refine ⟨_, _, _, _, _, rfl, rfl, by assumption, pz8, by (simp; done), fun _ _ => ?_⟩
    refine S_nil ?_
    refine PostF.next (by assumption) ?_
    exact fin (E := { D with shot := some E }) hE hE' (.some hS) (.some hO) ⟨fun e he => (hw.1 e he).mono (Nat.le_succ _), Nat.le_succ_of_le hes, fun s hs => by cases hs; exact ⟨hc1 ▸ hM4.mono (by exact le_add (by assumption)), by omega⟩, Nat.le_succ_of_le hcx⟩ (by (apply Own.sel; (· assumption); exact .cons pz5 (.cons pz1 (.cons pz4 (.cons pz4 (.cons pz2 (.cons pz0 (.cons pz3 (.cons pz3 (.cons pz3 (.cons pz1 .nil)))))))))))
   ·rw [hsh] at hV hV'
    obtain ⟨_⟩ | ⟨hS⟩ := hV
    obtain ⟨_⟩ | ⟨hS'⟩ := hV'
    refine cmp_is1 ?_
    (first | refine z_f ?_ | refine i_f fun NI hNI => ?_ | refine ite_f ?_ | skip)
    refine T_if0 fun RI hRI => ?_
    refine B_cmp ?_
    refine W_name hc.scope (by rfl) (by rfl) ?_
    refine W_int ?_
    refine cmp_eq ?_
    (first | refine z_F (by rfl) ?_ | refine i_F (by rfl) fun NI hNI => ?_ | refine ite_F (by rfl) ?_)
    refine OS_setitem ?_
    refine W_none ?_
    refine W_name hc.scope (by rfl) (by rfl) ?_
    refine W_int ?_
    refine ⟨_, _, _, _, _, rfl, rfl, by assumption, pz5, by (simp; done), fun _ _ => ?_⟩
    refine T_setattr ?_
    refine W_none ?_
    refine W_name hc.scope (by rfl) (by rfl) ?_
    refine ⟨_, _, _, _, _, _, rfl, by assumption, ⟨1, rfl⟩, pz2, by rfl, by exact Nat.le_of_ble_eq_true rfl, fun _ _ => ?_⟩
    refine S_nil ?_
    refine PostF.next (by assumption) ?_
    rename_i μ6 H6
    exact fin (E := { D with shot := none }) (lv := []) (lv' := []) hE hE' .none .none ⟨fun e he => (hw.1 e he).mono (Nat.le_succ _), Nat.le_succ_of_le hes, (fun s hs => by cases hs), Nat.le_succ_of_le hcx⟩ (H6.fin (P := [[(a, _)], [(d, _)], [(e, _)], ls.flatten, [(b, _)], [(n, _)], [(e', _)], ls'.flatten]) (by exact .cons pz2 (.cons pz0 (.cons pz1 (.cons pz1 (.cons pz0 (.cons pz1 (.cons pz1 (.cons pz1 .nil)))))))) rfl)
theorem turn_fn {p : Addr} {T : TD} {l : List (Addr × O)} {y : Int} {k : Nat} (hT : Thing p T l) (hw : T.WF k) (hk4 : 4 ≤ k) (hk : k ≤ 50) {μ : Mu} (H0 : Own [l] μ) : Fn w 10 530 [.ref p, .int y] μ
  (fun v μ' => ∃ T' l', Thing p T' l' ∧ T'.WF (k + 1) ∧ T'.kind = T.kind ∧ Own [l'] μ') := by
 obtain ⟨g, o, lg, lo, hg, ho, rfl⟩ := hT
 have H : Own [[(p, .list [.int T.kind, .ref g, .ref o])], lg, lo] μ := H0.thing
 refine fn_go (ns := ["thing", "y"]) k530 (by (conv => lhs; whnf)) (by (conv => lhs; whnf)) (by kernel_rfl) (rvs2 fun a b => by kernel_rfl) rfl rfl rfl rfl rfl fun c hc KQ hKQ => ?_
 cases T with
 | conf0 D =>
  have H : Own [[(p, .list [.int 0, .ref g, .ref o])], lg, lo] μ := H
  refine T_unp3 hc.scope hc.celled (by rfl) ?_
  refine W_name hc.scope (by rfl) (by rfl) ?_
  refine ⟨_, _, _, _, _, rfl, by assumption, ⟨0, rfl⟩, ?_⟩
  refine T_if0 fun RI hRI => ?_
  refine B_cmp ?_
  refine W_name hc.scope (by rfl) (by rfl) ?_
  refine W_int ?_
  refine cmp_lt ?_
  (first | refine z_T (by rfl) ?_ | refine i_T (by rfl) fun NI hNI => ?_ | refine ite_T (by rfl) ?_)
  refine T_expr ?_
  refine T_fn hc.scope hc.room rfl rfl ?_
  refine L_cons ?_
  refine W_name hc.scope (by rfl) (by rfl) ?_
  refine L_cons ?_
  refine W_name hc.scope (by rfl) (by rfl) ?_
  refine L_cons ?_
  refine W_name hc.scope (by rfl) (by rfl) ?_
  refine L_nil ?_
  refine Fn.turn (fun _ H => turn_members (.inl rfl) hg ho hw (by omega) hk H) (by rfl) H (by exact .cons pz1 (.cons pz1 .nil)) fun _ E l2 l3 μ5 g1 g2 g3 H5 => ?_
  refine S_nil ?_
  refine PostF.next (by assumption) ?_
  exact ⟨.conf0 E, _, ⟨g, o, l2, l3, g1, g2, rfl⟩, g3, rfl, Own.mkThing (by (apply Own.sel; (· assumption); exact .cons pz2 (.cons pz0 (.cons pz0 .nil))))⟩
 | conf1 D =>
  have H : Own [[(p, .list [.int 1, .ref g, .ref o])], lg, lo] μ := H
  refine T_unp3 hc.scope hc.celled (by rfl) ?_
  refine W_name hc.scope (by rfl) (by rfl) ?_
  refine ⟨_, _, _, _, _, rfl, by assumption, ⟨0, rfl⟩, ?_⟩
  refine T_if0 fun RI hRI => ?_
  refine B_cmp ?_
  refine W_name hc.scope (by rfl) (by rfl) ?_
  refine W_int ?_
  refine cmp_lt ?_
  (first | refine z_T (by rfl) ?_ | refine i_T (by rfl) fun NI hNI => ?_ | refine ite_T (by rfl) ?_)
  refine T_expr ?_
  refine T_fn hc.scope hc.room rfl rfl ?_
  refine L_cons ?_
  refine W_name hc.scope (by rfl) (by rfl) ?_
  refine L_cons ?_
  refine W_name hc.scope (by rfl) (by rfl) ?_
  refine L_cons ?_
  refine W_name hc.scope (by rfl) (by rfl) ?_
  refine L_nil ?_
  refine Fn.turn (fun _ H => turn_members (.inr rfl) hg ho hw (by omega) hk H) (by rfl) H (by exact .cons pz1 (.cons pz1 .nil)) fun _ E l2 l3 μ5 g1 g2 g3 H5 => ?_
  refine S_nil ?_
  refine PostF.next (by assumption) ?_
  exact ⟨.conf1 E, _, ⟨g, o, l2, l3, g1, g2, rfl⟩, g3, rfl, Own.mkThing (by (apply Own.sel; (· assumption); exact .cons pz2 (.cons pz0 (.cons pz0 .nil))))⟩
 | hard D =>
  have ho2 : HO o D lo := ho
  have ho' := ho2
  subst ho2
  have H : Own [[(p, .list [.int 2, .ref g, .ref o])], lg, [(o, .list [.int D.t, .int D.v, .int D.c])]] μ := H
  have hf : y % 3 = 0 ∨ y % 3 = 1 ∨ y % 3 = 2 := by exact c3 (em0 _ rfl) (em1 _ rfl)
  refine T_unp3 hc.scope hc.celled (by rfl) ?_
  refine W_name hc.scope (by rfl) (by rfl) ?_
  refine ⟨_, _, _, _, _, rfl, by assumption, ⟨0, rfl⟩, ?_⟩
  refine T_if0 fun RI hRI => ?_
  refine B_cmp ?_
  refine W_name hc.scope (by rfl) (by rfl) ?_
  refine W_int ?_
  refine cmp_lt ?_
  (first | refine z_F (by rfl) ?_ | refine i_F (by rfl) fun NI hNI => ?_ | refine ite_F (by rfl) ?_)
  refine T_if0 fun RI hRI => ?_
  refine B_cmp ?_
  refine W_name hc.scope (by rfl) (by rfl) ?_
  refine W_int ?_
  refine cmp_eq ?_
  (first | refine z_T (by rfl) ?_ | refine i_T (by rfl) fun NI hNI => ?_ | refine ite_T (by rfl) ?_)
  refine T_expr ?_
  refine T_fn hc.scope hc.room rfl rfl ?_
  refine L_cons ?_
  refine W_name hc.scope (by rfl) (by rfl) ?_
  refine L_cons ?_
  refine W_name hc.scope (by rfl) (by rfl) ?_
  refine L_cons ?_
  refine W_bin ?_
  refine W_name hc.scope (by rfl) (by rfl) ?_
  refine W_int ?_
  ((refine bin_mod ?_ ?_); (· decide))
  refine L_cons ?_
  refine W_bin ?_
  refine W_bin ?_
  refine O_item ?_
  refine W_name hc.scope (by rfl) (by rfl) ?_
  refine W_bin ?_
  refine W_name hc.scope (by rfl) (by rfl) ?_
  refine W_int ?_
  ((refine bin_mod ?_ ?_); (· decide))
  rcases hf with h | h | h
  all_goals
   rw [h]
   refine ⟨_, _, _, _, _, rfl, rfl, by assumption, .inl ⟨2, rfl⟩, by decide, by rfl, ?_⟩
   refine W_int ?_
   refine bin_add ?_
   refine W_bin ?_
   refine W_bin ?_
   refine W_name hc.scope (by rfl) (by rfl) ?_
   refine W_int ?_
   ((refine bin_div ?_ ?_); (· decide))
   refine W_int ?_
   ((refine bin_mod ?_ ?_); (· decide))
   refine bin_add ?_
   refine L_nil ?_
   refine Fn.turn2 (fun _ H => turn_hard hg ho' (by simp) H) (by rfl) H (by exact .cons pz1 (.cons pz1 .nil)) fun _ E l2 l3 μ5 g1 g2 H5 => ?_
   refine S_nil ?_
   refine PostF.next (by assumption) ?_
   exact ⟨.hard E, _, ⟨g, o, l2, l3, g1, g2, rfl⟩, trivial, rfl, Own.mkThing (by (apply Own.sel; (· assumption); exact .cons pz2 (.cons pz0 (.cons pz0 .nil))))⟩
 | entry D =>
  have H : Own [[(p, .list [.int 3, .ref g, .ref o])], lg, lo] μ := H
  refine T_unp3 hc.scope hc.celled (by rfl) ?_
  refine W_name hc.scope (by rfl) (by rfl) ?_
  refine ⟨_, _, _, _, _, rfl, by assumption, ⟨0, rfl⟩, ?_⟩
  refine T_if0 fun RI hRI => ?_
  refine B_cmp ?_
  refine W_name hc.scope (by rfl) (by rfl) ?_
  refine W_int ?_
  refine cmp_lt ?_
  (first | refine z_F (by rfl) ?_ | refine i_F (by rfl) fun NI hNI => ?_ | refine ite_F (by rfl) ?_)
  refine T_if0 fun RI hRI => ?_
  refine B_cmp ?_
  refine W_name hc.scope (by rfl) (by rfl) ?_
  refine W_int ?_
  refine cmp_eq ?_
  (first | refine z_F (by rfl) ?_ | refine i_F (by rfl) fun NI hNI => ?_ | refine ite_F (by rfl) ?_)
  refine T_if0 fun RI hRI => ?_
  refine B_cmp ?_
  refine W_name hc.scope (by rfl) (by rfl) ?_
  refine W_int ?_
  refine cmp_eq ?_
  (first | refine z_T (by rfl) ?_ | refine i_T (by rfl) fun NI hNI => ?_ | refine ite_T (by rfl) ?_)
  refine T_expr ?_
  refine T_fn hc.scope hc.room rfl rfl ?_
  refine L_cons ?_
  refine W_name hc.scope (by rfl) (by rfl) ?_
  refine L_cons ?_
  refine W_name hc.scope (by rfl) (by rfl) ?_
  refine L_cons ?_
  refine W_name hc.scope (by rfl) (by rfl) ?_
  refine L_nil ?_
  refine Fn.turn (fun _ H => entry_otherwise hg ho hw (by exact le2 (by assumption) rfl) H) (by rfl) H (by exact .cons pz1 (.cons pz1 .nil)) fun _ E l2 l3 μ5 g1 g2 g3 H5 => ?_
  refine S_nil ?_
  refine PostF.next (by assumption) ?_
  exact ⟨.entry E, _, ⟨g, o, l2, l3, g1, g2, rfl⟩, g3, rfl, Own.mkThing (by (apply Own.sel; (· assumption); exact .cons pz2 (.cons pz0 (.cons pz0 .nil))))⟩
 | shot D =>
  have H : Own [[(p, .list [.int 4, .ref g, .ref o])], lg, lo] μ := H
  refine T_unp3 hc.scope hc.celled (by rfl) ?_
  refine W_name hc.scope (by rfl) (by rfl) ?_
  refine ⟨_, _, _, _, _, rfl, by assumption, ⟨0, rfl⟩, ?_⟩
  refine T_if0 fun RI hRI => ?_
  refine B_cmp ?_
  refine W_name hc.scope (by rfl) (by rfl) ?_
  refine W_int ?_
  refine cmp_lt ?_
  (first | refine z_F (by rfl) ?_ | refine i_F (by rfl) fun NI hNI => ?_ | refine ite_F (by rfl) ?_)
  refine T_if0 fun RI hRI => ?_
  refine B_cmp ?_
  refine W_name hc.scope (by rfl) (by rfl) ?_
  refine W_int ?_
  refine cmp_eq ?_
  (first | refine z_F (by rfl) ?_ | refine i_F (by rfl) fun NI hNI => ?_ | refine ite_F (by rfl) ?_)
  refine T_if0 fun RI hRI => ?_
  refine B_cmp ?_
  refine W_name hc.scope (by rfl) (by rfl) ?_
  refine W_int ?_
  refine cmp_eq ?_
  (first | refine z_F (by rfl) ?_ | refine i_F (by rfl) fun NI hNI => ?_ | refine ite_F (by rfl) ?_)
  refine T_if0 fun RI hRI => ?_
  refine B_cmp ?_
  refine W_name hc.scope (by rfl) (by rfl) ?_
  refine W_int ?_
  refine cmp_eq ?_
  (first | refine z_T (by rfl) ?_ | refine i_T (by rfl) fun NI hNI => ?_ | refine ite_T (by rfl) ?_)
  refine T_expr ?_
  refine T_fn hc.scope hc.room rfl rfl ?_
  refine L_cons ?_
  refine W_name hc.scope (by rfl) (by rfl) ?_
  refine L_cons ?_
  refine W_name hc.scope (by rfl) (by rfl) ?_
  refine L_cons ?_
  refine W_name hc.scope (by rfl) (by rfl) ?_
  refine L_nil ?_
  refine Fn.turn (fun _ H => shot_otherwise hg ho hw (by omega) hk H) (by rfl) H (by exact .cons pz1 (.cons pz1 .nil)) fun _ E l2 l3 μ5 g1 g2 g3 H5 => ?_
  refine S_nil ?_
  refine PostF.next (by assumption) ?_
  exact ⟨.shot E, _, ⟨g, o, l2, l3, g1, g2, rfl⟩, g3, rfl, Own.mkThing (by (apply Own.sel; (· assumption); exact .cons pz2 (.cons pz0 (.cons pz0 .nil))))⟩
 | msg D =>
  have H : Own [[(p, .list [.int 5, .ref g, .ref o])], lg, lo] μ := H
  refine T_unp3 hc.scope hc.celled (by rfl) ?_
  refine W_name hc.scope (by rfl) (by rfl) ?_
  refine ⟨_, _, _, _, _, rfl, by assumption, ⟨0, rfl⟩, ?_⟩
  refine T_if0 fun RI hRI => ?_
  refine B_cmp ?_
  refine W_name hc.scope (by rfl) (by rfl) ?_
  refine W_int ?_
  refine cmp_lt ?_
  (first | refine z_F (by rfl) ?_ | refine i_F (by rfl) fun NI hNI => ?_ | refine ite_F (by rfl) ?_)
  refine T_if0 fun RI hRI => ?_
  refine B_cmp ?_
  refine W_name hc.scope (by rfl) (by rfl) ?_
  refine W_int ?_
  refine cmp_eq ?_
  (first | refine z_F (by rfl) ?_ | refine i_F (by rfl) fun NI hNI => ?_ | refine ite_F (by rfl) ?_)
  refine T_if0 fun RI hRI => ?_
  refine B_cmp ?_
  refine W_name hc.scope (by rfl) (by rfl) ?_
  refine W_int ?_
  refine cmp_eq ?_
  (first | refine z_F (by rfl) ?_ | refine i_F (by rfl) fun NI hNI => ?_ | refine ite_F (by rfl) ?_)
  refine T_if0 fun RI hRI => ?_
  refine B_cmp ?_
  refine W_name hc.scope (by rfl) (by rfl) ?_
  refine W_int ?_
  refine cmp_eq ?_
  (first | refine z_F (by rfl) ?_ | refine i_F (by rfl) fun NI hNI => ?_ | refine ite_F (by rfl) ?_)
  refine T_expr ?_
  refine T_fn hc.scope hc.room rfl rfl ?_
  refine L_cons ?_
  refine W_name hc.scope (by rfl) (by rfl) ?_
  refine L_cons ?_
  refine W_name hc.scope (by rfl) (by rfl) ?_
  refine L_cons ?_
  refine W_name hc.scope (by rfl) (by rfl) ?_
  refine L_nil ?_
  refine Fn.turn (fun _ H => message_otherwise hg ho hw hk4 hk H) (by rfl) H (by exact .cons pz1 (.cons pz1 .nil)) fun _ E l2 l3 μ5 g1 g2 g3 H5 => ?_
  refine S_nil ?_
  refine PostF.next (by assumption) ?_
  exact ⟨.msg E, _, ⟨g, o, l2, l3, g1, g2, rfl⟩, g3, rfl, Own.mkThing (by (apply Own.sel; (· assumption); exact .cons pz2 (.cons pz0 (.cons pz0 .nil))))⟩

theorem kind2 {T : TD} (h : T.kind = 2) : ∃ D, T = .hard D := by
 cases T <;> first | exact ⟨_, rfl⟩ | (simp [TD.kind] at h)
theorem stand_fn {h : Addr} {as : List Addr} {Ts : List TD} {ls : List (List (Addr × O))} (hA : Alls Thing as Ts ls) (hf : ∀ T ∈ Ts, T.Fit) (hl : Ts.length ≤ 100) (hh : ∃ T, T ∈ Ts ∧ T.kind = 2) {μ : Mu} (H : Own [[(h, .list (as.map .ref))], ls.flatten] μ) : Fn w 7 453 [.ref h] μ
  (fun v μ' => v = .bool true ∧ Own [[(h, .list (as.map .ref))], ls.flatten] μ') := by
 have hal : as.length = Ts.length := hA.length.1
 refine fn_go (ns := ["things"]) k453 (by (conv => lhs; whnf)) (by (conv => lhs; whnf)) (by kernel_rfl) (rvs1 fun a => by kernel_rfl) rfl rfl rfl rfl rfl fun c hc KQ hKQ => ?_
 refine T_for _ (fun j kk μ1 => ∃ i : Nat, kk = .list h i ∧ j = Ts.length - i ∧ i ≤ Ts.length ∧ Own [[(h, .list (as.map .ref))], ls.flatten] μ1) Sub.refl ?_ ?_
 ·refine OI_list ?_
  refine W_name hc.scope (by rfl) (by rfl) ?_
  refine ⟨_, _, _, rfl, by assumption, ⟨0, rfl⟩, ?_⟩
  exact ⟨_, 0, rfl, rfl, Nat.zero_le _, H⟩
 rintro c' hc' N hN j kk μ1 ⟨i, rfl, rfl, hi, H1⟩
 have hc2 := hc' _ _ hc
 by_cases hlt : i < Ts.length
 ·obtain ⟨T, hT⟩ : ∃ T, Ts[i]? = some T := ⟨_, List.getElem?_eq_getElem hlt⟩
  obtain ⟨a, l, a1, a2, hTh⟩ := hA.get hT
  have fT := hf T (List.mem_of_getElem? hT)
  refine .inr ⟨.ref a, _, .list (H1.get .head) (by simp [a1]), ?_⟩
  obtain ⟨g, o, lg, lo, hg, ho, rfl⟩ := hTh
  have H2 : Own ([(a, .list [.int T.kind, .ref g, .ref o])] :: lg :: lo :: (ls.eraseIdx i).flatten :: [[(h, .list (as.map .ref))]]) μ1 := ((H1.pick (.tail .head)).open_at a2).thing
  refine A_unp3 (by exact hc2.scope) (by exact hc2.celled) (by rfl) rfl H2 (by exact ⟨0, rfl⟩) ?_
  have back : ∀ {μ2 : Mu}, Own ([(a, .list [.int T.kind, .ref g, .ref o])] :: lg :: lo :: (ls.eraseIdx i).flatten :: [[(h, .list (as.map .ref))]]) μ2 → Own [[(h, .list (as.map .ref))], ls.flatten] μ2 := fun H => ((H.mkThing).shut_at a2).pick (.tail .head)
  cases T with
  | conf0 D =>
   have hg' := hg
   obtain ⟨d, x0, x1, x2, x3, rfl⟩ := hg'
   have H4 := (H2.pick (.tail .head)).uncons2
   refine T_if0 fun RI hRI => ?_
   refine B_cmp ?_
   refine T_meth hc2.room ?_
   refine W_name hc2.scope (by rfl) (by rfl) ?_
   refine ⟨_, _, _, _, _, rfl, by assumption, ⟨0, rfl⟩, ⟨1, rfl⟩, by rfl, by rfl, ?_⟩
   refine L_nil ?_
   refine Fn.row (fun _ H => conf_row hg fT H) (by rfl) H2 (by exact .cons pz1 .nil) fun v1 l1 μ2 h1 H5 => ?_
   refine T_fn hc2.scope hc2.room rfl rfl ?_
   refine L_cons ?_
   refine W_name hc2.scope (by rfl) (by rfl) ?_
   refine L_cons ?_
   refine W_name hc2.scope (by rfl) (by rfl) ?_
   refine L_nil ?_
   refine Fn.row (fun _ H => own_row_conf0 ho fT H) (by rfl) H5 (by exact .cons pz3 .nil) fun v2 l2 μ3 h2 H6 => ?_
   refine cmp_rows h1 h2 rfl (by decide) (by decide) H6 (by exact ⟨2, rfl⟩) (by exact ⟨0, rfl⟩) ?_
   (first | refine z_f ?_ | refine i_f fun NI hNI => ?_ | refine ite_f ?_ | skip)
   refine S_nil ?_
   refine PostN.go (by assumption) ?_
   exact ⟨Sub.refl.set.set.set, _, by exact dec (by assumption), i + 1, rfl, rfl, hlt, back (by (apply Own.sel; (· assumption); exact .cons pz4 (.cons pz3 (.cons pz1 (.cons pz2 (.cons pz2 .nil))))))⟩
  | conf1 D =>
   have hg' := hg
   obtain ⟨d, x0, x1, x2, x3, rfl⟩ := hg'
   have H4 := (H2.pick (.tail .head)).uncons2
   refine T_if0 fun RI hRI => ?_
   refine B_cmp ?_
   refine T_meth hc2.room ?_
   refine W_name hc2.scope (by rfl) (by rfl) ?_
   refine ⟨_, _, _, _, _, rfl, by assumption, ⟨0, rfl⟩, ⟨1, rfl⟩, by rfl, by rfl, ?_⟩
   refine L_nil ?_
   refine Fn.row (fun _ H => config_row hg fT H) (by rfl) H2 (by exact .cons pz1 .nil) fun v1 l1 μ2 h1 H5 => ?_
   refine T_fn hc2.scope hc2.room rfl rfl ?_
   refine L_cons ?_
   refine W_name hc2.scope (by rfl) (by rfl) ?_
   refine L_cons ?_
   refine W_name hc2.scope (by rfl) (by rfl) ?_
   refine L_nil ?_
   refine Fn.row (fun _ H => own_row_conf1 ho fT H) (by rfl) H5 (by exact .cons pz3 .nil) fun v2 l2 μ3 h2 H6 => ?_
   refine cmp_rows h1 h2 rfl (by decide) (by decide) H6 (by exact ⟨2, rfl⟩) (by exact ⟨0, rfl⟩) ?_
   (first | refine z_f ?_ | refine i_f fun NI hNI => ?_ | refine ite_f ?_ | skip)
   refine S_nil ?_
   refine PostN.go (by assumption) ?_
   exact ⟨Sub.refl.set.set.set, _, by exact dec (by assumption), i + 1, rfl, rfl, hlt, back (by (apply Own.sel; (· assumption); exact .cons pz4 (.cons pz3 (.cons pz1 (.cons pz2 (.cons pz2 .nil))))))⟩
  | hard D =>
   have hg' := hg
   obtain ⟨d, rfl⟩ := hg'
   have H4 := (H2.pick (.tail .head)).uncons2
   refine T_if0 fun RI hRI => ?_
   refine B_cmp ?_
   refine T_meth hc2.room ?_
   refine W_name hc2.scope (by rfl) (by rfl) ?_
   refine ⟨_, _, _, _, _, rfl, by assumption, ⟨0, rfl⟩, ⟨1, rfl⟩, by rfl, by rfl, ?_⟩
   refine L_nil ?_
   refine Fn.trow (fun _ H => hard_row hg H) (by rfl) H2 (by exact .cons pz1 .nil) fun t1 μ2 H5 => ?_
   refine T_fn hc2.scope hc2.room rfl rfl ?_
   refine L_cons ?_
   refine W_name hc2.scope (by rfl) (by rfl) ?_
   refine L_cons ?_
   refine W_name hc2.scope (by rfl) (by rfl) ?_
   refine L_nil ?_
   refine Fn.trow (fun _ H => own_row_hard ho H) (by rfl) H5 (by exact .cons pz3 .nil) fun t2 μ3 H6 => ?_
   refine cmp_rows (hard_tup (n := 0)) (hard_tup (n := 0)) rfl (by decide) (by decide) H6 (by exact ⟨2, rfl⟩) (by exact ⟨0, rfl⟩) ?_
   (first | refine z_f ?_ | refine i_f fun NI hNI => ?_ | refine ite_f ?_ | skip)
   refine S_nil ?_
   refine PostN.go (by assumption) ?_
   exact ⟨Sub.refl.set.set.set, _, by exact dec (by assumption), i + 1, rfl, rfl, hlt, back (by (apply Own.sel; (· assumption); exact .cons pz4 (.cons pz3 (.cons pz1 (.cons pz2 (.cons pz2 .nil))))))⟩
  | entry D =>
   have hg' := hg
   obtain ⟨d, rfl⟩ := hg'
   have H4 := (H2.pick (.tail .head)).uncons2
   refine T_if0 fun RI hRI => ?_
   refine B_cmp ?_
   refine T_meth hc2.room ?_
   refine W_name hc2.scope (by rfl) (by rfl) ?_
   refine ⟨_, _, _, _, _, rfl, by assumption, ⟨0, rfl⟩, ⟨1, rfl⟩, by rfl, by rfl, ?_⟩
   refine L_nil ?_
   refine Fn.trow (fun _ H => entry_row hg H) (by rfl) H2 (by exact .cons pz1 .nil) fun t1 μ2 H5 => ?_
   refine T_fn hc2.scope hc2.room rfl rfl ?_
   refine L_cons ?_
   refine W_name hc2.scope (by rfl) (by rfl) ?_
   refine L_cons ?_
   refine W_name hc2.scope (by rfl) (by rfl) ?_
   refine L_nil ?_
   refine Fn.trow (fun _ H => own_row_entry ho H) (by rfl) H5 (by exact .cons pz3 .nil) fun t2 μ3 H6 => ?_
   refine cmp_rows (entry_tup (n := 0)) (entry_tup (n := 0)) rfl (by decide) (by decide) H6 (by exact ⟨2, rfl⟩) (by exact ⟨0, rfl⟩) ?_
   (first | refine z_f ?_ | refine i_f fun NI hNI => ?_ | refine ite_f ?_ | skip)
   refine S_nil ?_
   refine PostN.go (by assumption) ?_
   exact ⟨Sub.refl.set.set.set, _, by exact dec (by assumption), i + 1, rfl, rfl, hlt, back (by (apply Own.sel; (· assumption); exact .cons pz4 (.cons pz3 (.cons pz1 (.cons pz2 (.cons pz2 .nil))))))⟩
  | shot D =>
   have hg' := hg
   obtain ⟨d, b', lc', hC', rfl⟩ := hg'
   have H4 := (H2.pick (.tail .head)).uncons2
   refine T_if0 fun RI hRI => ?_
   refine B_cmp ?_
   refine T_meth hc2.room ?_
   refine W_name hc2.scope (by rfl) (by rfl) ?_
   refine ⟨_, _, _, _, _, rfl, by assumption, ⟨0, rfl⟩, ⟨1, rfl⟩, by rfl, by rfl, ?_⟩
   refine L_nil ?_
   refine Fn.row (fun _ H => snap_row hg fT H) (by rfl) H2 (by exact .cons pz1 .nil) fun v1 l1 μ2 h1 H5 => ?_
   refine T_fn hc2.scope hc2.room rfl rfl ?_
   refine L_cons ?_
   refine W_name hc2.scope (by rfl) (by rfl) ?_
   refine L_cons ?_
   refine W_name hc2.scope (by rfl) (by rfl) ?_
   refine L_nil ?_
   refine Fn.row (fun _ H => own_row_shot ho fT H) (by rfl) H5 (by exact .cons pz3 .nil) fun v2 l2 μ3 h2 H6 => ?_
   refine cmp_rows h1 h2 rfl (by decide) (by decide) H6 (by exact ⟨2, rfl⟩) (by exact ⟨0, rfl⟩) ?_
   (first | refine z_f ?_ | refine i_f fun NI hNI => ?_ | refine ite_f ?_ | skip)
   refine S_nil ?_
   refine PostN.go (by assumption) ?_
   exact ⟨Sub.refl.set.set.set, _, by exact dec (by assumption), i + 1, rfl, rfl, hlt, back (by (apply Own.sel; (· assumption); exact .cons pz4 (.cons pz3 (.cons pz1 (.cons pz2 (.cons pz2 .nil))))))⟩
  | msg D =>
   have hg' := hg
   obtain ⟨d, e', as', ls', v', lv', hE', hV', rfl⟩ := hg'
   have H4 := (H2.pick (.tail .head)).uncons2
   refine T_if0 fun RI hRI => ?_
   refine B_cmp ?_
   refine T_meth hc2.room ?_
   refine W_name hc2.scope (by rfl) (by rfl) ?_
   refine ⟨_, _, _, _, _, rfl, by assumption, ⟨0, rfl⟩, ⟨1, rfl⟩, by rfl, by rfl, ?_⟩
   refine L_nil ?_
   refine Fn.row (fun _ H => msg_row hg fT H) (by rfl) H2 (by exact .cons pz1 .nil) fun v1 l1 μ2 h1 H5 => ?_
   refine T_fn hc2.scope hc2.room rfl rfl ?_
   refine L_cons ?_
   refine W_name hc2.scope (by rfl) (by rfl) ?_
   refine L_cons ?_
   refine W_name hc2.scope (by rfl) (by rfl) ?_
   refine L_nil ?_
   refine Fn.row (fun _ H => own_row_msg ho fT H) (by rfl) H5 (by exact .cons pz3 .nil) fun v2 l2 μ3 h2 H6 => ?_
   refine cmp_rows h1 h2 rfl (by decide) (by decide) H6 (by exact ⟨2, rfl⟩) (by exact ⟨0, rfl⟩) ?_
   (first | refine z_f ?_ | refine i_f fun NI hNI => ?_ | refine ite_f ?_ | skip)
   refine S_nil ?_
   refine PostN.go (by assumption) ?_
   exact ⟨Sub.refl.set.set.set, _, by exact dec (by assumption), i + 1, rfl, rfl, hlt, back (by (apply Own.sel; (· assumption); exact .cons pz4 (.cons pz3 (.cons pz1 (.cons pz2 (.cons pz2 .nil))))))⟩
 ·refine .inl ⟨.listEnd (H1.get .head) (by simp; omega), ?_⟩
  have opn : ∀ {i : Nat} {T : TD} {l : List (Addr × O)} {μ2 : Mu}, ls[i]? = some l → Own [[(h, .list (as.map .ref))], ls.flatten] μ2 → Own (l :: (ls.eraseIdx i).flatten :: [[(h, .list (as.map .ref))]]) μ2 := fun e H => (H.pick (.tail .head)).open_at e
  refine OS_assignC (fun n k acc μ1 => ∃ i : Nat, k = .list h i ∧ n = Ts.length - i ∧ i ≤ Ts.length ∧ acc = (selAt (as.take i) (Ts.take i)).map .ref ∧ Own [[(h, .list (as.map .ref))], ls.flatten] μ1) (by exact hc.scope) (by exact hc.celled) hc.own (by rfl) (by rfl) ?_ ?_
  ·refine OI_list ?_
   refine W_name hc.scope (by rfl) (by rfl) ?_
   refine ⟨_, _, _, rfl, by assumption, ⟨0, rfl⟩, ?_⟩
   exact ⟨_, 0, rfl, rfl, Nat.zero_le _, by simp [selAt], H1⟩
  ·rintro c' hc' N hN n k acc μ1 ⟨i, rfl, rfl, hi, rfl, H1⟩
   rw [hc.room] at hc'
   have hsl := @selAt_len (as.take i) (Ts.take i)
   rw [List.length_take] at hsl
   refine ⟨by rw [List.length_map]; omega, ?_⟩
   by_cases hlt : i < Ts.length
   ·obtain ⟨T, hT⟩ : ∃ T, Ts[i]? = some T := ⟨_, List.getElem?_eq_getElem hlt⟩
    obtain ⟨a, l, a1, a2, hTh⟩ := hA.get hT
    refine .inr ⟨.ref a, _, .list (H1.get .head) (by simp [a1]), ?_⟩
    obtain ⟨g, o, lg, lo, hg, ho, rfl⟩ := hTh
    have H2 := ((H1.pick (.tail .head)).open_at a2).thing
    show WB c' _ _ μ1 _
    refine B_cmp ?_
    refine O_item ?_
    refine W_name hc'.scope (by rfl) (by rfl) ?_
    refine W_int ?_
    refine ⟨_, _, _, _, _, rfl, rfl, by assumption, .inl ⟨0, rfl⟩, by decide, by rfl, ?_⟩
    refine W_int ?_
    refine cmp_eq ?_
    have e : selAt (as.take (i + 1)) (Ts.take (i + 1)) = selAt (as.take i) (Ts.take i) ++ (if T.kind = 2 then [a] else []) := by
     rw [take_succ_get a1, take_succ_get hT]
     exact selAt_snoc (by rw [List.length_take, List.length_take]; omega)
    (first | refine z_dec (fun hk => ?_) (fun hk => ?_) | refine i_dec (fun hk NI hNI => ?_) (fun hk NI hNI => ?_) | refine ite_dec (fun hk => ?_) (fun hk => ?_))
    ·refine W_name hc'.scope (by rfl) (by rfl) ?_
     refine PostC.go (by assumption) ?_
     exact ⟨_, by exact dec (by assumption), i + 1, rfl, rfl, hlt, by rw [e, if_pos hk]; simp, H1⟩
    ·exact PostC.go hN ⟨_, by exact dec (by assumption), i + 1, rfl, rfl, hlt, by rw [e, if_neg hk]; simp, H1⟩
   ·refine .inl ⟨.listEnd (H1.get .head) (by simp; omega), _, H1, fun R μ2 H2 => ?_⟩
    have hi2 : i = Ts.length := by exact Nat.le_antisymm (by assumption) (Nat.le_of_not_lt (by assumption))
    subst hi2
    rw [List.take_length, List.take_of_length_le (Nat.le_of_eq hal)] at H2
    have hpos := selAt_pos hal hh
    have hmem : ∀ a ∈ selAt as Ts, _ := fun a ha => selAt_mem ha
    have hsl2 := @selAt_len as Ts
    generalize selAt as Ts = S at H2 hpos hmem hsl2
    cases S with
    | nil => exact absurd hpos (by simp)
    | cons a0 S =>
    obtain ⟨i0, T0, b1, b2, b3⟩ := hmem a0 (.head _)
    refine S_assign hc.scope hc.celled (by rfl) ?_
    refine O_item ?_
    refine W_name hc.scope (by rfl) (by rfl) ?_
    refine W_int ?_
    refine ⟨_, _, _, _, _, rfl, rfl, by assumption, .inl ⟨0, rfl⟩, by decide, by rfl, ?_⟩
    refine T_for _ (fun j kk μ1 => ∃ i : Nat, kk = .list R i ∧ j = (a0 :: S).length - i ∧ i ≤ (a0 :: S).length ∧ Own [[(R, .list ((a0 :: S).map .ref))], [(h, .list (as.map .ref))], ls.flatten] μ1) Sub.refl ?_ ?_
    ·refine OI_list ?_
     refine W_name hc.scope (by rfl) (by rfl) ?_
     refine ⟨_, _, _, rfl, by assumption, ⟨0, rfl⟩, ?_⟩
     exact ⟨_, 0, rfl, rfl, Nat.zero_le _, H2⟩
    rintro c' hc' N hN j kk μ3 ⟨i, rfl, rfl, hi, H3⟩
    have hc2 := hc' _ _ hc
    by_cases hlt2 : i < (a0 :: S).length
    ·obtain ⟨a, ha⟩ : ∃ a, (a0 :: S)[i]? = some a := ⟨_, List.getElem?_eq_getElem hlt2⟩
     obtain ⟨ia, Ta, d1, d2, d3⟩ := hmem a (List.mem_of_getElem? ha)
     refine .inr ⟨.ref a, _, .list (H3.get .head) (by rw [List.getElem?_map, ha]; rfl), ?_⟩
     refine A_name (by exact hc2.scope) (by exact hc2.celled) rfl ?_
     obtain ⟨a', l, e1, e2, hTh⟩ := hA.get d2
     obtain rfl : a = a' := Option.some.inj (d1.symm.trans e1)
     obtain ⟨a0', l0, f1, f2, hTh0⟩ := hA.get b2
     obtain rfl : a0 = a0' := Option.some.inj (b1.symm.trans f1)
     obtain ⟨D, rfl⟩ := kind2 d3
     obtain ⟨E, rfl⟩ := kind2 b3
     by_cases hii : ia = i0
     ·subst hii
      obtain rfl : a = a0 := Option.some.inj (d1.symm.trans b1)
      have H4 := (H3.pick (.tail (.tail .head))).open_at e2
      obtain ⟨g, o, lg, lo, hg, ho, rfl⟩ := hTh
      have hg' := hg
      obtain ⟨dd, rfl⟩ := hg'
      have ho2 : HO o D lo := ho
      subst ho2
      have H5 := H4.thing
      have H6 := (H5.pick (.tail .head)).uncons2
      refine S_assign hc2.scope hc2.celled (by rfl) ?_
      refine W_cmp ?_
      refine O_item ?_
      refine W_name hc2.scope (by rfl) (by rfl) ?_
      refine W_int ?_
      refine ⟨_, _, _, _, _, rfl, rfl, by assumption, .inl ⟨3, rfl⟩, by decide, by rfl, ?_⟩
      refine O_item ?_
      refine W_name hc2.scope (by rfl) (by rfl) ?_
      refine W_int ?_
      refine ⟨_, _, _, _, _, rfl, rfl, by assumption, .inl ⟨3, rfl⟩, by decide, by rfl, ?_⟩
      refine .eqr ⟨_, EqV.lists (xs := [D.t, D.v, D.c]) (ys := [D.t, D.v, D.c]) (H5.get (by exact pz2)) (H5.get (by exact pz2)), ?_⟩
      refine T_if0 fun RI hRI => ?_
      refine B_or2 ?_
      refine B_cmp ?_
      refine T_meth hc2.room ?_
      refine O_item ?_
      refine W_name hc2.scope (by rfl) (by rfl) ?_
      refine W_int ?_
      refine ⟨_, _, _, _, _, rfl, rfl, by assumption, .inl ⟨3, rfl⟩, by decide, by rfl, ?_⟩
      refine ⟨_, _, _, _, _, rfl, by assumption, ⟨0, rfl⟩, ⟨1, rfl⟩, by rfl, by rfl, ?_⟩
      refine L_cons ?_
      refine O_item ?_
      refine W_name hc2.scope (by rfl) (by rfl) ?_
      refine W_int ?_
      refine ⟨_, _, _, _, _, rfl, rfl, by assumption, .inl ⟨3, rfl⟩, by decide, by rfl, ?_⟩
      refine L_nil ?_
      refine Fn.same1 (fun _ H => hard_same1 hg H) (by rfl) H5 (by exact .cons pz1 .nil) fun μ4 H7 => ?_
      have H8 := H7.uncons2
      refine W_name hc2.scope (by rfl) (by rfl) ?_
      refine cmp_bne ?_
      (first | refine z_dec (fun hx => absurd rfl hx) (fun _ => ?_) | refine i_dec (fun hx => absurd rfl hx) (fun _ NI hNI => ?_) | refine ite_dec (fun hx => absurd rfl hx) (fun _ => ?_))
      refine B_cmp ?_
      refine T_meth hc2.room ?_
      refine O_item ?_
      refine W_name hc2.scope (by rfl) (by rfl) ?_
      refine W_int ?_
      refine ⟨_, _, _, _, _, rfl, rfl, by assumption, .inl ⟨3, rfl⟩, by decide, by rfl, ?_⟩
      refine ⟨_, _, _, _, _, rfl, by assumption, ⟨0, rfl⟩, ⟨1, rfl⟩, by rfl, by rfl, ?_⟩
      refine L_cons ?_
      refine O_item ?_
      refine W_name hc2.scope (by rfl) (by rfl) ?_
      refine W_int ?_
      refine ⟨_, _, _, _, _, rfl, rfl, by assumption, .inl ⟨3, rfl⟩, by decide, by rfl, ?_⟩
      refine L_nil ?_
      refine Fn.same1 (fun _ H => hard_same1 hg H) (by rfl) H7 (by exact .cons pz0 .nil) fun μ5 H9 => ?_
      refine W_name hc2.scope (by rfl) (by rfl) ?_
      refine cmp_bne ?_
      (first | refine z_dec (fun hx => absurd rfl hx) (fun _ => ?_) | refine i_dec (fun hx => absurd rfl hx) (fun _ NI hNI => ?_) | refine ite_dec (fun hx => absurd rfl hx) (fun _ => ?_))
      refine S_nil ?_
      refine PostN.go (by assumption) ?_
      have H10 := (H9.sel (P := [[(a, _)], _, _, _, [(R, _)], [(h, _)]]) (by exact .cons pz1 (.cons pz0 (.cons pz0 (.cons pz0 (.cons pz0 (.cons pz0 .nil))))))).mkThing.shut_at e2
      exact ⟨Sub.refl.set.set, _, by exact dec (by assumption), i + 1, rfl, rfl, hlt2, by (apply Own.sel; (· assumption); exact .cons pz1 (.cons pz1 (.cons pz0 .nil)))⟩
     ·obtain ⟨rest, pm⟩ := two_at e2 f2 hii
      have pm2 : ∀ X : List (Addr × O), (ls.flatten ++ X).Perm (l ++ (l0 ++ (rest ++ X))) := fun X => by
       have := pm.append_right X
       simpa only [List.append_assoc] using this
      have H4 : Own (l :: l0 :: rest :: [[(R, .list ((a0 :: S).map .ref))], [(h, .list (as.map .ref))]]) μ3 := (H3.pick (.tail (.tail .head))).to (pm2 _)
      have back2 : ∀ {μ2 : Mu}, Own (l :: l0 :: rest :: [[(R, .list ((a0 :: S).map .ref))], [(h, .list (as.map .ref))]]) μ2 → Own [[(R, .list ((a0 :: S).map .ref))], [(h, .list (as.map .ref))], ls.flatten] μ2 := fun H => by
       have H' : Own (ls.flatten :: [[(R, .list ((a0 :: S).map .ref))], [(h, .list (as.map .ref))]]) _ := H.to (pm2 _).symm
       (apply Own.sel; (· assumption); exact .cons pz1 (.cons pz1 (.cons pz0 .nil)))
      obtain ⟨g, o, lg, lo, hg, ho, rfl⟩ := hTh
      obtain ⟨g0, o0, lg0, lo0, hg0, ho0, rfl⟩ := hTh0
      have hg' := hg
      obtain ⟨dd, rfl⟩ := hg'
      have hg0' := hg0
      obtain ⟨dd0, rfl⟩ := hg0'
      have ho2 : HO o D lo := ho
      subst ho2
      have ho3 : HO o0 E lo0 := ho0
      subst ho3
      have H5 := (H4.thing.pick (.tail (.tail (.tail .head)))).thing
      have H6 : Own [[(a0, _)], [(g0, _)], [(dd0, _)], [(o0, _)], [(a, _)], [(g, _)], [(dd, _)], [(o, _)], rest, [(R, _)], [(h, _)]] μ3 := H5.eq
      refine S_assign hc2.scope hc2.celled (by rfl) ?_
      refine W_cmp ?_
      refine O_item ?_
      refine W_name hc2.scope (by rfl) (by rfl) ?_
      refine W_int ?_
      refine ⟨_, _, _, _, _, rfl, rfl, by assumption, .inl ⟨4, rfl⟩, by decide, by rfl, ?_⟩
      refine O_item ?_
      refine W_name hc2.scope (by rfl) (by rfl) ?_
      refine W_int ?_
      refine ⟨_, _, _, _, _, rfl, rfl, by assumption, .inl ⟨0, rfl⟩, by decide, by rfl, ?_⟩
      refine .eqr ⟨_, EqV.lists (xs := [D.t, D.v, D.c]) (ys := [E.t, E.v, E.c]) (H5.get (by exact pz5)) (H5.get (by exact pz2)), ?_⟩
      refine T_if0 fun RI hRI => ?_
      refine B_or2 ?_
      refine B_cmp ?_
      refine T_meth hc2.room ?_
      refine O_item ?_
      refine W_name hc2.scope (by rfl) (by rfl) ?_
      refine W_int ?_
      refine ⟨_, _, _, _, _, rfl, rfl, by assumption, .inl ⟨4, rfl⟩, by decide, by rfl, ?_⟩
      refine ⟨_, _, _, _, _, rfl, by assumption, ⟨5, rfl⟩, ⟨6, rfl⟩, by rfl, by rfl, ?_⟩
      refine L_cons ?_
      refine O_item ?_
      refine W_name hc2.scope (by rfl) (by rfl) ?_
      refine W_int ?_
      refine ⟨_, _, _, _, _, rfl, rfl, by assumption, .inl ⟨0, rfl⟩, by decide, by rfl, ?_⟩
      refine L_nil ?_
      refine Fn.same2 (fun _ H => hard_same hg hg0 H) (by rfl) H5 (by exact .cons pz4 (.cons pz1 .nil)) fun μ4 H7 => ?_
      have H8 : Own [[(g, _)], [(dd, _)], [(g0, _)], [(dd0, _)], [(a0, _)], [(o0, _)], [(a, _)], [(o, _)], rest, [(R, _)], [(h, _)]] μ4 := H7.eq
      refine W_name hc2.scope (by rfl) (by rfl) ?_
      refine cmp_bne ?_
      (first | refine z_dec (fun hx => absurd rfl hx) (fun _ => ?_) | refine i_dec (fun hx => absurd rfl hx) (fun _ NI hNI => ?_) | refine ite_dec (fun hx => absurd rfl hx) (fun _ => ?_))
      refine B_cmp ?_
      refine T_meth hc2.room ?_
      refine O_item ?_
      refine W_name hc2.scope (by rfl) (by rfl) ?_
      refine W_int ?_
      refine ⟨_, _, _, _, _, rfl, rfl, by assumption, .inl ⟨4, rfl⟩, by decide, by rfl, ?_⟩
      refine ⟨_, _, _, _, _, rfl, by assumption, ⟨2, rfl⟩, ⟨3, rfl⟩, by rfl, by rfl, ?_⟩
      refine L_cons ?_
      refine O_item ?_
      refine W_name hc2.scope (by rfl) (by rfl) ?_
      refine W_int ?_
      refine ⟨_, _, _, _, _, rfl, rfl, by assumption, .inl ⟨6, rfl⟩, by decide, by rfl, ?_⟩
      refine L_nil ?_
      refine Fn.same2 (fun _ H => hard_same hg0 hg H) (by rfl) H7 (by exact .cons pz1 (.cons pz0 .nil)) fun μ5 H9 => ?_
      refine W_name hc2.scope (by rfl) (by rfl) ?_
      refine cmp_bne ?_
      (first | refine z_dec (fun hx => absurd (HD.same_comm E D) hx) (fun _ => ?_) | refine i_dec (fun hx => absurd (HD.same_comm E D) hx) (fun _ NI hNI => ?_) | refine ite_dec (fun hx => absurd (HD.same_comm E D) hx) (fun _ => ?_))
      refine S_nil ?_
      refine PostN.go (by assumption) ?_
      have H10 := (H9.sel (P := [[(a, _)], [(g, _), (dd, _)], [(o, _)], [(a0, _)], [(g0, _), (dd0, _)], [(o0, _)], rest, [(R, _)], [(h, _)]]) (by exact .cons pz4 (.cons pz1 (.cons pz3 (.cons pz1 (.cons pz0 (.cons pz0 (.cons pz0 (.cons pz0 (.cons pz0 .nil))))))))))
      exact ⟨Sub.refl.set.set, _, by exact dec (by assumption), i + 1, rfl, rfl, hlt2, back2 (H10.eq (by simp))⟩
    ·refine .inl ⟨.listEnd (H3.get .head) (by rw [List.getElem?_eq_none_iff, List.length_map]; omega), ?_⟩
     refine S_ret ?_
     refine W_bool ?_
     refine PostF.ret (by assumption) ?_
     exact ⟨rfl, by (apply Own.sel; (· assumption); exact .cons pz1 (.cons pz1 .nil))⟩

theorem end_fn {h : Addr} {as : List Addr} {Ts : List TD} {ls : List (List (Addr × O))} {k : Nat} (hA : Alls Thing as Ts ls) (hw : ∀ T ∈ Ts, T.WF k) (hk : k ≤ 40) (hl : Ts.length ≤ 100) (hh : ∃ T, T ∈ Ts ∧ T.kind = 2) {μ : Mu} (H : Own [[(h, .list (as.map .ref))], ls.flatten] μ) : Fn w 8 558 [.ref h] μ
  (fun v μ' => v = .bool true) := by
 have hal : as.length = Ts.length := hA.length.1
 refine fn_go (ns := ["things"]) k558 (by (conv => lhs; whnf)) (by (conv => lhs; whnf)) (by kernel_rfl) (rvs1 fun a => by kernel_rfl) rfl rfl rfl rfl rfl fun c hc KQ hKQ => ?_
 refine T_for _ (fun j kk μ1 => ∃ (i : Nat) (Us : List TD) (ms : List (List (Addr × O))), kk = .range i ((Ts.length : Int) - i) ∧ j = Ts.length - i ∧ i ≤ Ts.length ∧ Alls Thing as Us ms ∧ (∀ T ∈ Us, T.WF (k + 4)) ∧ (∀ (q : Nat) T, i ≤ q → Us[q]? = some T → T.WF k) ∧ Us.map TD.kind = Ts.map TD.kind ∧
  Own [[(h, .list (as.map .ref))], ms.flatten] μ1) Sub.refl ?_ ?_
 ·refine I_range (by exact hc.scope) ?_
  refine O_len hc.scope ?_
  refine W_name hc.scope (by rfl) (by rfl) ?_
  refine ⟨_, _, _, rfl, by assumption, ⟨0, rfl⟩, by (simp; omega), ?_⟩
  refine ⟨_, rfl, ?_⟩
  exact ⟨by rw [List.length_map]; omega, _, 0, Ts, ls, by rw [List.length_map, hal]; simp, rfl, by exact Nat.le_of_ble_eq_true rfl, hA, fun T hT => (hw T hT).mono (by omega), fun q T _ hT => hw T (List.mem_of_getElem? hT), rfl, H⟩
 rintro c' hc' N hN j kk μ1 ⟨i, Us, ms, rfl, rfl, hi, hU, hW4, hW, hK, H1⟩
 have hc2 := hc' _ _ hc
 have hUl : Us.length = Ts.length := by have := congrArg List.length hK; simpa using this
 by_cases hlt : i < Ts.length
 ·refine .inr ⟨_, _, .range (by exact sub_pos' (by assumption)), ?_⟩
  refine A_name (by exact hc2.scope) (by exact hc2.celled) rfl ?_
  obtain ⟨T, hT⟩ : ∃ T, Us[i]? = some T := ⟨_, List.getElem?_eq_getElem (by exact eq_lt' (by assumption) (by assumption))⟩
  obtain ⟨a, l, a1, a2, hTh⟩ := hU.get hT
  have wT := hW i T (Nat.le_refl _) hT
  obtain ⟨g, o, lg, lo, hg, ho, rfl⟩ := hTh
  have H2 := ((H1.pick (.tail .head)).open_at a2).thing
  have fin : ∀ {T' : TD} {l2 l3 : List (Addr × O)} {μ2 : Mu}, TG g T' l2 → TO o T' l3 → T'.WF (k + 4) → T'.kind = T.kind → Own ([(a, .list [.int T.kind, .ref g, .ref o])] :: l2 :: l3 :: (ms.eraseIdx i).flatten :: [[(h, .list (as.map .ref))]]) μ2 →
    ∃ j', j' < Ts.length - i ∧ ∃ (i' : Nat) (Us : List TD) (ms : List (List (Addr × O))), It.range ((i : Int) + 1) ((Ts.length : Int) - i - 1) = .range i' ((Ts.length : Int) - i') ∧ j' = Ts.length - i' ∧ i' ≤ Ts.length ∧ Alls Thing as Us ms ∧ (∀ T ∈ Us, T.WF (k + 4)) ∧ (∀ (q : Nat) T, i' ≤ q → Us[q]? = some T → T.WF k) ∧ Us.map TD.kind = Ts.map TD.kind ∧
     Own [[(h, .list (as.map .ref))], ms.flatten] μ2 := fun {T' l2 l3 μ2} q1 q2 q3 q4 H5 => by
   rw [← q4] at H5
   refine ⟨Ts.length - (i + 1), by exact dec (by assumption), i + 1, Us.set i T', ms.set i _, rng_succ, rfl, hlt, hU.set a1 ⟨g, o, l2, l3, q1, q2, rfl⟩, fun U hU' => ?_, fun q U hq hU' => ?_, ?_, ((H5.mkThing).close_at (List.getElem?_eq_some_iff.mp a2).1).pick (.tail .head)⟩
   ·rcases List.mem_or_eq_of_mem_set hU' with z | z
    ·exact hW4 U z
    ·rw [z]; exact q3
   ·rw [List.getElem?_set_ne (by omega)] at hU'
    exact hW q U (by exact Nat.le_of_lt (by assumption)) hU'
   ·rw [← hK, List.map_set, q4]
    exact set_same (by rw [List.getElem?_map, hT]; rfl)
  refine T_unp3 hc2.scope hc2.celled (by rfl) ?_
  refine O_item ?_
  refine W_name hc2.scope (by rfl) (by rfl) ?_
  refine W_name hc2.scope (by rfl) (by rfl) ?_
  refine ⟨_, _, _, .ref a, _, rfl, rfl, H2, .inl (by exact ⟨4, rfl⟩), by exact nnI (by assumption) (by assumption) rfl, by simp [a1], ?_⟩
  cases T with
  | conf0 D =>
   refine ⟨_, _, _, _, _, rfl, by assumption, ⟨0, rfl⟩, ?_⟩
   refine T_if0 fun RI hRI => ?_
   refine B_cmp ?_
   refine W_name hc2.scope (by rfl) (by rfl) ?_
   refine W_int ?_
   refine cmp_lt ?_
   (first | refine z_T (by rfl) ?_ | refine i_T (by rfl) fun NI hNI => ?_ | refine ite_T (by rfl) ?_)
   refine T_expr ?_
   refine T_fn hc2.scope hc2.room rfl rfl ?_
   refine L_cons ?_
   refine W_name hc2.scope (by rfl) (by rfl) ?_
   refine L_cons ?_
   refine W_name hc2.scope (by rfl) (by rfl) ?_
   refine L_cons ?_
   refine W_bin ?_
   refine W_int ?_
   refine W_name hc2.scope (by rfl) (by rfl) ?_
   refine bin_add ?_
   refine L_nil ?_
   refine Fn.turn (fun _ H => grow_fn (.inl rfl) hg ho wT hk (by omega) (by omega) H) (by rfl) H2 (by exact .cons pz1 (.cons pz1 .nil)) fun _ E l2 l3 μ5 g1 g2 g3 H5 => ?_
   refine S_nil ?_
   refine PostN.go (by assumption) ?_
   exact ⟨Sub.refl.set.set.set.set, fin (T' := .conf0 E) g1 g2 g3 rfl (by (apply Own.sel; (· assumption); exact .cons pz2 (.cons pz0 (.cons pz0 (.cons pz0 (.cons pz0 .nil))))))⟩
  | conf1 D =>
   refine ⟨_, _, _, _, _, rfl, by assumption, ⟨0, rfl⟩, ?_⟩
   refine T_if0 fun RI hRI => ?_
   refine B_cmp ?_
   refine W_name hc2.scope (by rfl) (by rfl) ?_
   refine W_int ?_
   refine cmp_lt ?_
   (first | refine z_T (by rfl) ?_ | refine i_T (by rfl) fun NI hNI => ?_ | refine ite_T (by rfl) ?_)
   refine T_expr ?_
   refine T_fn hc2.scope hc2.room rfl rfl ?_
   refine L_cons ?_
   refine W_name hc2.scope (by rfl) (by rfl) ?_
   refine L_cons ?_
   refine W_name hc2.scope (by rfl) (by rfl) ?_
   refine L_cons ?_
   refine W_bin ?_
   refine W_int ?_
   refine W_name hc2.scope (by rfl) (by rfl) ?_
   refine bin_add ?_
   refine L_nil ?_
   refine Fn.turn (fun _ H => grow_fn (.inr rfl) hg ho wT hk (by omega) (by omega) H) (by rfl) H2 (by exact .cons pz1 (.cons pz1 .nil)) fun _ E l2 l3 μ5 g1 g2 g3 H5 => ?_
   refine S_nil ?_
   refine PostN.go (by assumption) ?_
   exact ⟨Sub.refl.set.set.set.set, fin (T' := .conf1 E) g1 g2 g3 rfl (by (apply Own.sel; (· assumption); exact .cons pz2 (.cons pz0 (.cons pz0 (.cons pz0 (.cons pz0 .nil))))))⟩
  | hard D =>
   have ho2 : HO o D lo := ho
   have ho' := ho2
   subst ho2
   have hf : (i : Int) % 3 = 0 ∨ (i : Int) % 3 = 1 ∨ (i : Int) % 3 = 2 := by exact c3 (em0 _ rfl) (em1 _ rfl)
   refine ⟨_, _, _, _, _, rfl, by assumption, ⟨0, rfl⟩, ?_⟩
   refine T_if0 fun RI hRI => ?_
   refine B_cmp ?_
   refine W_name hc2.scope (by rfl) (by rfl) ?_
   refine W_int ?_
   refine cmp_lt ?_
   (first | refine z_F (by rfl) ?_ | refine i_F (by rfl) fun NI hNI => ?_ | refine ite_F (by rfl) ?_)
   refine T_if0 fun RI hRI => ?_
   refine B_cmp ?_
   refine W_name hc2.scope (by rfl) (by rfl) ?_
   refine W_int ?_
   refine cmp_eq ?_
   (first | refine z_T (by rfl) ?_ | refine i_T (by rfl) fun NI hNI => ?_ | refine ite_T (by rfl) ?_)
   refine T_expr ?_
   refine T_fn hc2.scope hc2.room rfl rfl ?_
   refine L_cons ?_
   refine W_name hc2.scope (by rfl) (by rfl) ?_
   refine L_cons ?_
   refine W_name hc2.scope (by rfl) (by rfl) ?_
   refine L_cons ?_
   refine W_bin ?_
   refine W_name hc2.scope (by rfl) (by rfl) ?_
   refine W_int ?_
   ((refine bin_mod ?_ ?_); (· decide))
   refine L_cons ?_
   refine W_bin ?_
   refine W_bin ?_
   refine O_item ?_
   refine W_name hc2.scope (by rfl) (by rfl) ?_
   refine W_bin ?_
   refine W_name hc2.scope (by rfl) (by rfl) ?_
   refine W_int ?_
   ((refine bin_mod ?_ ?_); (· decide))
   rcases hf with h' | h' | h'
   all_goals
    rw [h']
    refine ⟨_, _, _, _, _, rfl, rfl, by assumption, .inl ⟨2, rfl⟩, by decide, by rfl, ?_⟩
    refine W_int ?_
    refine bin_add ?_
    refine W_name hc2.scope (by rfl) (by rfl) ?_
    refine bin_add ?_
    refine L_nil ?_
    refine Fn.turn2 (fun _ H => turn_hard hg ho' (by simp) H) (by rfl) H2 (by exact .cons pz1 (.cons pz1 .nil)) fun _ E l2 l3 μ5 g1 g2 H5 => ?_
    refine S_nil ?_
    refine PostN.go (by assumption) ?_
    exact ⟨Sub.refl.set.set.set.set, fin (T' := .hard E) g1 g2 trivial rfl (by (apply Own.sel; (· assumption); exact .cons pz2 (.cons pz0 (.cons pz0 (.cons pz0 (.cons pz0 .nil))))))⟩
  | entry D =>
   have ho2 : EO o D lo := ho
   have ho' := ho2
   subst ho2
   refine ⟨_, _, _, _, _, rfl, by assumption, ⟨0, rfl⟩, ?_⟩
   refine T_if0 fun RI hRI => ?_
   refine B_cmp ?_
   refine W_name hc2.scope (by rfl) (by rfl) ?_
   refine W_int ?_
   refine cmp_lt ?_
   (first | refine z_F (by rfl) ?_ | refine i_F (by rfl) fun NI hNI => ?_ | refine ite_F (by rfl) ?_)
   refine T_if0 fun RI hRI => ?_
   refine B_cmp ?_
   refine W_name hc2.scope (by rfl) (by rfl) ?_
   refine W_int ?_
   refine cmp_eq ?_
   (first | refine z_F (by rfl) ?_ | refine i_F (by rfl) fun NI hNI => ?_ | refine ite_F (by rfl) ?_)
   refine T_if0 fun RI hRI => ?_
   refine B_cmp ?_
   refine W_name hc2.scope (by rfl) (by rfl) ?_
   refine W_int ?_
   refine cmp_eq ?_
   (first | refine z_T (by rfl) ?_ | refine i_T (by rfl) fun NI hNI => ?_ | refine ite_T (by rfl) ?_)
   refine T_expr ?_
   refine T_fn hc2.scope hc2.room rfl rfl ?_
   refine L_cons ?_
   refine W_name hc2.scope (by rfl) (by rfl) ?_
   refine L_cons ?_
   refine W_name hc2.scope (by rfl) (by rfl) ?_
   refine L_cons ?_
   refine W_int ?_
   refine L_cons ?_
   refine W_bin ?_
   refine W_bin ?_
   refine O_item ?_
   refine W_name hc2.scope (by rfl) (by rfl) ?_
   refine W_int ?_
   refine ⟨_, _, _, _, _, rfl, rfl, by assumption, .inl ⟨2, rfl⟩, by decide, by rfl, ?_⟩
   refine W_int ?_
   refine bin_add ?_
   refine W_name hc2.scope (by rfl) (by rfl) ?_
   refine bin_add ?_
   refine L_nil ?_
   refine Fn.turn (fun _ H => turn_entry hg ho' (.inr (.inl rfl)) H) (by rfl) H2 (by exact .cons pz1 (.cons pz1 .nil)) fun _ E l2 l3 μ5 g1 g2 g3 H5 => ?_
   refine S_nil ?_
   refine PostN.go (by assumption) ?_
   exact ⟨Sub.refl.set.set.set.set, fin (T' := .entry E) g1 g2 (by show E.d.size ≤ _; rw [g3]; have : D.d.size ≤ k := wT; omega) rfl (by (apply Own.sel; (· assumption); exact .cons pz2 (.cons pz0 (.cons pz0 (.cons pz0 (.cons pz0 .nil))))))⟩
  | shot D =>
   refine ⟨_, _, _, _, _, rfl, by assumption, ⟨0, rfl⟩, ?_⟩
   refine T_if0 fun RI hRI => ?_
   refine B_cmp ?_
   refine W_name hc2.scope (by rfl) (by rfl) ?_
   refine W_int ?_
   refine cmp_lt ?_
   (first | refine z_F (by rfl) ?_ | refine i_F (by rfl) fun NI hNI => ?_ | refine ite_F (by rfl) ?_)
   refine T_if0 fun RI hRI => ?_
   refine B_cmp ?_
   refine W_name hc2.scope (by rfl) (by rfl) ?_
   refine W_int ?_
   refine cmp_eq ?_
   (first | refine z_F (by rfl) ?_ | refine i_F (by rfl) fun NI hNI => ?_ | refine ite_F (by rfl) ?_)
   refine T_if0 fun RI hRI => ?_
   refine B_cmp ?_
   refine W_name hc2.scope (by rfl) (by rfl) ?_
   refine W_int ?_
   refine cmp_eq ?_
   (first | refine z_F (by rfl) ?_ | refine i_F (by rfl) fun NI hNI => ?_ | refine ite_F (by rfl) ?_)
   refine T_if0 fun RI hRI => ?_
   refine B_cmp ?_
   refine W_name hc2.scope (by rfl) (by rfl) ?_
   refine W_int ?_
   refine cmp_eq ?_
   (first | refine z_T (by rfl) ?_ | refine i_T (by rfl) fun NI hNI => ?_ | refine ite_T (by rfl) ?_)
   refine T_expr ?_
   refine T_fn hc2.scope hc2.room rfl rfl ?_
   refine L_cons ?_
   refine W_name hc2.scope (by rfl) (by rfl) ?_
   refine L_cons ?_
   refine W_name hc2.scope (by rfl) (by rfl) ?_
   refine L_cons ?_
   refine W_bin ?_
   refine W_int ?_
   refine W_name hc2.scope (by rfl) (by rfl) ?_
   refine bin_add ?_
   refine L_nil ?_
   refine Fn.turn (fun _ H => grow_shot hg ho wT hk (by omega) (by omega) H) (by rfl) H2 (by exact .cons pz1 (.cons pz1 .nil)) fun _ E l2 l3 μ5 g1 g2 g3 H5 => ?_
   refine S_nil ?_
   refine PostN.go (by assumption) ?_
   exact ⟨Sub.refl.set.set.set.set, fin (T' := .shot E) g1 g2 g3 rfl (by (apply Own.sel; (· assumption); exact .cons pz2 (.cons pz0 (.cons pz0 (.cons pz0 (.cons pz0 .nil))))))⟩
  | msg D =>
   refine ⟨_, _, _, _, _, rfl, by assumption, ⟨0, rfl⟩, ?_⟩
   refine T_if0 fun RI hRI => ?_
   refine B_cmp ?_
   refine W_name hc2.scope (by rfl) (by rfl) ?_
   refine W_int ?_
   refine cmp_lt ?_
   (first | refine z_F (by rfl) ?_ | refine i_F (by rfl) fun NI hNI => ?_ | refine ite_F (by rfl) ?_)
   refine T_if0 fun RI hRI => ?_
   refine B_cmp ?_
   refine W_name hc2.scope (by rfl) (by rfl) ?_
   refine W_int ?_
   refine cmp_eq ?_
   (first | refine z_F (by rfl) ?_ | refine i_F (by rfl) fun NI hNI => ?_ | refine ite_F (by rfl) ?_)
   refine T_if0 fun RI hRI => ?_
   refine B_cmp ?_
   refine W_name hc2.scope (by rfl) (by rfl) ?_
   refine W_int ?_
   refine cmp_eq ?_
   (first | refine z_F (by rfl) ?_ | refine i_F (by rfl) fun NI hNI => ?_ | refine ite_F (by rfl) ?_)
   refine T_if0 fun RI hRI => ?_
   refine B_cmp ?_
   refine W_name hc2.scope (by rfl) (by rfl) ?_
   refine W_int ?_
   refine cmp_eq ?_
   (first | refine z_F (by rfl) ?_ | refine i_F (by rfl) fun NI hNI => ?_ | refine ite_F (by rfl) ?_)
   refine T_expr ?_
   refine T_fn hc2.scope hc2.room rfl rfl ?_
   refine L_cons ?_
   refine W_name hc2.scope (by rfl) (by rfl) ?_
   refine L_cons ?_
   refine W_name hc2.scope (by rfl) (by rfl) ?_
   refine L_cons ?_
   refine W_bin ?_
   refine W_int ?_
   refine W_name hc2.scope (by rfl) (by rfl) ?_
   refine bin_add ?_
   refine L_nil ?_
   refine Fn.turn (fun _ H => grow_message hg ho wT hk (by omega) (by omega) H) (by rfl) H2 (by exact .cons pz1 (.cons pz1 .nil)) fun _ E l2 l3 μ5 g1 g2 g3 H5 => ?_
   refine S_nil ?_
   refine PostN.go (by assumption) ?_
   exact ⟨Sub.refl.set.set.set.set, fin (T' := .msg E) g1 g2 g3 rfl (by (apply Own.sel; (· assumption); exact .cons pz2 (.cons pz0 (.cons pz0 (.cons pz0 (.cons pz0 .nil))))))⟩
 ·refine .inl ⟨.rangeEnd (by exact sub_nonpos' (by assumption)), ?_⟩
  refine S_ret ?_
  refine T_fn hc.scope hc.room rfl rfl ?_
  refine L_cons ?_
  refine W_name hc.scope (by rfl) (by rfl) ?_
  refine L_nil ?_
  have hh' : ∃ T, T ∈ Us ∧ T.kind = 2 := by
   obtain ⟨T, h1, h2⟩ := hh
   have : (2 : Int) ∈ Us.map TD.kind := by rw [hK]; exact List.mem_map.mpr ⟨T, h1, h2⟩
   obtain ⟨U, h3, h4⟩ := List.mem_map.mp this
   exact ⟨U, h3, h4⟩
  refine Fn.same2 (fun _ H => stand_fn hU (fun T hT => (hW4 T hT).fit (by omega)) (by exact eqle (by assumption) (by assumption) rfl) hh' H) (by rfl) H1 (by exact .cons pz0 (.cons pz0 .nil)) fun μ2 _ => ?_
  exact PostF.ret hKQ rfl

noncomputable def MD.upto (X : MD) (i : Nat) : MD := { X with n4 := if 4 < i then X.n4 else 0, n5 := if 5 < i then X.n5 else 0, n6 := if 6 < i then X.n6 else 0, n7 := if 7 < i then X.n7 else 0 }
theorem upto_say {X : MD} {i : Nat} {x : Int} (h4 : 4 ≤ i) (h8 : i < 8) (hx : (mlist X)[i]? = some (.int x)) : (X.upto i).say i x = X.upto (i + 1) ∧ X.say i x = X := by
 have : i = 4 ∨ i = 5 ∨ i = 6 ∨ i = 7 := by exact n48 (by assumption) (by assumption)
 rcases this with rfl | rfl | rfl | rfl
 all_goals
  have hx : some _ = some (V.int x) := hx
  cases hx
  exact ⟨rfl, rfl⟩
theorem bin_pow {i j : Int} {μ : Mu} {Q : V → Mu → Prop} (h : 0 ≤ j ∧ (Builtin.Int.intBits i : Int) * j ≤ 2 ^ 27) (q : Q (.int (i ^ j.toNat)) μ) : BinV .Pow (.int i) (.int j) μ Q := .pow ⟨h, q⟩
theorem message_fn {y z : Int} {μ : Mu} : Fn w 9 563 [.int y, .int z] μ (fun v μ' => ∃ p l D, v = .ref p ∧ Thing p (.msg D) l ∧ D.WF 4 ∧ Own [l] μ') := by
 have H : Own [] μ := ⟨List.nodup_nil, fun _ h => absurd h List.not_mem_nil⟩
 refine fn_go (ns := ["y", "z"]) k563 (by (conv => lhs; whnf)) (by (conv => lhs; whnf)) (by kernel_rfl) (rvs2 fun a b => by kernel_rfl) rfl rfl rfl rfl rfl fun c hc KQ hKQ => ?_
 refine S_assign hc.scope hc.celled (by rfl) ?_
 refine W_bin ?_
 refine O_list ?_
 refine L_cons ?_
 refine W_bin ?_
 refine W_name hc.scope (by rfl) (by rfl) ?_
 refine W_int ?_
 ((refine bin_mod ?_ ?_); (· decide))
 refine L_nil ?_
 refine ⟨_, by assumption, by exact Nat.le_of_ble_eq_true rfl, fun _ _ _ => ?_⟩
 rename_i q0 μ0 H0
 refine O_comp (fun n k acc μ1 => ∃ (i : Nat) (xs : List Int), k = .range i (7 - i) ∧ n = 7 - i ∧ i ≤ 7 ∧ acc = xs.map .int ∧ xs.length = i ∧ Own [[(q0, .list [.int (y % 21)])]] μ1) (by exact hc.scope) (by exact hc.celled) hc.own (by rfl) ?_ ?_
 ·refine I_range (by exact hc.scope) ?_
  refine W_int ?_
  refine ⟨_, rfl, ?_⟩
  exact ⟨by decide, _, 0, [], rfl, rfl, by exact Nat.le_of_ble_eq_true rfl, rfl, rfl, H0⟩
 ·rintro c' hc' N hN n k acc μ1 ⟨i, xs, rfl, rfl, hi, rfl, hxl, H1⟩
  rw [hc.room] at hc'
  refine ⟨by simp; omega, ?_⟩
  by_cases h : i < 7
  ·refine .inr ⟨_, _, .range (by exact sub_pos' (by assumption)), ?_⟩
   show WE c' _ _ μ1 _
   have h3 : 0 < (3 : Int) ^ (i : Int).toNat ∧ (3 : Int) ^ (i : Int).toNat < 1073741824 := by
    have : i = 0 ∨ i = 1 ∨ i = 2 ∨ i = 3 ∨ i = 4 ∨ i = 5 ∨ i = 6 := by exact n7 (by assumption)
    rcases this with rfl | rfl | rfl | rfl | rfl | rfl | rfl <;> decide
   refine W_bin ?_
   refine W_bin ?_
   refine W_int ?_
   refine W_bin ?_
   refine W_int ?_
   refine W_name hc'.scope (by rfl) (by rfl) ?_
   ((refine bin_mul ?_ ?_); (· exact ng63 (by assumption) rfl))
   refine bin_add ?_
   refine W_bin ?_
   refine W_bin ?_
   refine W_name hc'.scope (by rfl) (by rfl) ?_
   refine W_bin ?_
   refine W_int ?_
   refine W_name hc'.scope (by rfl) (by rfl) ?_
   refine bin_pow ⟨by omega, ?_⟩ ?_
   ·rw [show Builtin.Int.intBits 3 = 2 by decide]; omega
   refine bin_div h3 ?_
   refine W_int ?_
   ((refine bin_mod ?_ ?_); (· decide))
   refine bin_add ?_
   refine PostC.go (by assumption) ?_
   exact ⟨7 - (i + 1), by exact dec (by assumption), i + 1, xs ++ [_], rng_succ, rfl, h, by rw [List.map_append]; rfl, by simp [hxl], H1⟩
  ·have hi7 : i = 7 := by exact Nat.le_antisymm (by assumption) (Nat.le_of_not_lt (by assumption))
   subst hi7
   obtain ⟨x1, x2, x3, x4, x5, x6, x7, rfl⟩ : ∃ x1 x2 x3 x4 x5 x6 x7, xs = [x1, x2, x3, x4, x5, x6, x7] := by
    match xs, hxl with
    | [a, b, c, d, e, f, g], _ => exact ⟨a, b, c, d, e, f, g, rfl⟩
   refine .inl ⟨.rangeEnd (by decide), _, H1, fun E μ2 H2 => ?_⟩
   have H3 : Own [[(E, .list [.int x1, .int x2, .int x3, .int x4, .int x5, .int x6, .int x7])], [(q0, .list [.int (y % 21)])]] μ2 := H2
   refine bin_cat (by assumption) ⟨1, rfl⟩ ⟨0, rfl⟩ (by exact Nat.le_of_ble_eq_true rfl) (fun _ _ _ => ?_)
   refine S_assign hc.scope hc.celled (by rfl) ?_
   refine T_new hc.scope hc.room rfl rfl ?_
   refine L_cons ?_
   refine O_item ?_
   refine W_name hc.scope (by rfl) (by rfl) ?_
   refine W_int ?_
   refine ⟨_, _, _, _, _, rfl, rfl, by assumption, .inl ⟨0, rfl⟩, by decide, by rfl, ?_⟩
   refine L_cons ?_
   refine O_item ?_
   refine W_name hc.scope (by rfl) (by rfl) ?_
   refine W_int ?_
   refine ⟨_, _, _, _, _, rfl, rfl, by assumption, .inl ⟨0, rfl⟩, by decide, by rfl, ?_⟩
   refine L_cons ?_
   refine O_item ?_
   refine W_name hc.scope (by rfl) (by rfl) ?_
   refine W_int ?_
   refine ⟨_, _, _, _, _, rfl, rfl, by assumption, .inl ⟨0, rfl⟩, by decide, by rfl, ?_⟩
   refine L_cons ?_
   refine O_item ?_
   refine W_name hc.scope (by rfl) (by rfl) ?_
   refine W_int ?_
   refine ⟨_, _, _, _, _, rfl, rfl, by assumption, .inl ⟨0, rfl⟩, by decide, by rfl, ?_⟩
   refine L_nil ?_
   refine ⟨_, by assumption, fun _ _ _ _ => ?_⟩
   rename_i nl μ3 H4 a d μ4 H5
   refine msg_init_k (by rfl) H5 (by exact .cons pz0 (.cons pz0 .nil)) fun e μ5 H6 => ?_
   refine ⟨rfl, ?_⟩
   generalize hX : (⟨y % 21, x1, x2, x3, x4, x5, x6, x7, false, [], none, #[]⟩ : MD) = X
   refine S_assign hc.scope hc.celled (by rfl) ?_
   refine O_list ?_
   refine L_cons ?_
   refine W_name hc.scope (by rfl) (by rfl) ?_
   refine L_cons ?_
   refine W_cmp ?_
   refine W_bin ?_
   refine W_name hc.scope (by rfl) (by rfl) ?_
   refine W_int ?_
   ((refine bin_mod ?_ ?_); (· decide))
   refine W_int ?_
   refine cmp_eq ?_
   refine L_cons ?_
   refine O_list ?_
   refine L_nil ?_
   refine ⟨_, by assumption, by exact Nat.le_of_ble_eq_true rfl, fun _ _ _ => ?_⟩
   refine L_cons ?_
   refine W_none ?_
   refine L_cons ?_
   refine O_bytesOf hc.scope ?_
   refine O_list ?_
   refine L_cons ?_
   refine W_bin ?_
   refine W_name hc.scope (by rfl) (by rfl) ?_
   refine W_int ?_
   ((refine bin_mod ?_ ?_); (· decide))
   refine L_cons ?_
   refine W_int ?_
   refine L_nil ?_
   refine ⟨_, by assumption, by exact Nat.le_of_ble_eq_true rfl, fun _ _ _ => ?_⟩
   rename_i e' μ6 H7 qb μ7 H8
   refine ⟨qb, [z % 256, 1], _, rfl, H8, .head, ⟨fun n hn => ?_, by simp⟩, ?_⟩
   ·rcases List.mem_cons.mp hn with q | q
    ·rw [q]; omega
    ·rw [List.mem_singleton.mp q]; decide
   refine L_nil ?_
   refine ⟨_, by assumption, by exact Nat.le_of_ble_eq_true rfl, fun _ _ _ => ?_⟩
   rename_i b μ8 H9
   have H10 : Own [[(a, .inst 267 d)], [(d, .dict (mfs (X.upto 4) e .none))], [(e, .list [])], [(b, .list [.ref nl, .bool (decide (z % 2 = 0)), .ref e', .none, .bytes (byteArr [z % 256, 1])])], [(nl, .list (mlist X))], [(e', .list [])]] μ8 := by
    subst hX
    (apply Own.sel; (· assumption); exact .cons pz3 (.cons pz3 (.cons pz3 (.cons pz0 (.cons pz2 (.cons pz1 .nil))))))
   have hXs : X.rej = false ∧ X.es = [] ∧ X.shot = none ∧ X.ctx = #[] := by subst hX; exact ⟨rfl, rfl, rfl, rfl⟩
   clear hX
   refine T_for _ (fun j kk μ1 => ∃ i : Nat, kk = .range i ((8 : Int) - i) ∧ j = 8 - i ∧ 4 ≤ i ∧ i ≤ 8 ∧ Own [[(a, .inst 267 d)], [(d, .dict (mfs (X.upto i) e .none))], [(e, .list [])], [(b, .list [.ref nl, .bool (decide (z % 2 = 0)), .ref e', .none, .bytes (byteArr [z % 256, 1])])], [(nl, .list (mlist X))], [(e', .list [])]] μ1) Sub.refl ?_ ?_
   ·refine I_range2 (by exact hc.scope) ?_
    refine W_int ?_
    refine W_int ?_
    exact ⟨_, _, rfl, rfl, by decide, _, 4, rfl, rfl, by decide, by decide, H10⟩
   rintro c' hc' N hN j kk μ9 ⟨i, rfl, rfl, hi4, hi, H11⟩
   have hc2 := hc' _ _ hc
   by_cases h8 : i < 8
   ·refine .inr ⟨_, _, .range (by exact sub_pos' (by assumption)), ?_⟩
    refine A_name (by exact hc2.scope) (by exact hc2.celled) rfl ?_
    have hf : (i : Int) = 0 ∨ (i : Int) = 1 ∨ (i : Int) = 2 ∨ (i : Int) = 3 ∨ (i : Int) = 4 ∨ (i : Int) = 5 ∨ (i : Int) = 6 ∨ (i : Int) = 7 := by exact i8 (by assumption)
    obtain ⟨x, hx⟩ := mlist_at (D := X) hf
    have hx' : (mlist X)[i]? = some (.int x) := hx
    obtain ⟨u1, u2⟩ := upto_say hi4 h8 hx'
    refine T_expr ?_
    refine T_fn hc2.scope hc2.room rfl rfl ?_
    refine L_cons ?_
    refine W_name hc2.scope (by rfl) (by rfl) ?_
    refine L_cons ?_
    refine W_name hc2.scope (by rfl) (by rfl) ?_
    refine L_cons ?_
    refine W_name hc2.scope (by rfl) (by rfl) ?_
    refine L_cons ?_
    refine O_item ?_
    refine W_name hc2.scope (by rfl) (by rfl) ?_
    refine W_name hc2.scope (by rfl) (by rfl) ?_
    refine ⟨_, _, _, .int x, _, rfl, rfl, H11, .inl (by exact ⟨4, rfl⟩), by exact nnL (by assumption) rfl, hx, ?_⟩
    refine L_nil ?_
    refine Fn.own4 (fun _ H => say_fn hf H) (by rfl) H11 (by exact .cons pz0 (.cons pz0 (.cons pz1 (.cons pz1 .nil)))) fun _ μ10 H12 => ?_
    rw [u1, u2] at H12
    refine S_nil ?_
    refine PostN.go (by assumption) ?_
    exact ⟨Sub.refl.set, 8 - (i + 1), by exact dec (by assumption), i + 1, rng_succ, rfl, by exact le_add (by assumption), h8, by (apply Own.sel; (· assumption); exact .cons pz0 (.cons pz0 (.cons pz2 (.cons pz0 (.cons pz0 (.cons pz0 .nil))))))⟩
   refine .inl ⟨.rangeEnd (by exact sub_nonpos' (by assumption)), ?_⟩
   have hi8 : i = 8 := by exact Nat.le_antisymm (by assumption) (Nat.le_of_not_lt (by assumption))
   subst hi8
   have hU : X.upto 8 = X := rfl
   rw [hU] at H11
   refine T_setattr ?_
   refine O_item ?_
   refine W_name hc.scope (by rfl) (by rfl) ?_
   refine W_int ?_
   refine ⟨_, _, _, _, _, rfl, rfl, by assumption, .inl ⟨3, rfl⟩, by decide, by rfl, ?_⟩
   refine W_name hc.scope (by rfl) (by rfl) ?_
   refine ⟨_, _, _, _, _, _, rfl, by assumption, ⟨0, rfl⟩, pz1, by rfl, by exact Nat.le_of_ble_eq_true rfl, fun _ _ => ?_⟩
   refine T_setattr ?_
   refine O_item ?_
   refine W_name hc.scope (by rfl) (by rfl) ?_
   refine W_int ?_
   refine ⟨_, _, _, _, _, rfl, rfl, by assumption, .inl ⟨3, rfl⟩, by decide, by rfl, ?_⟩
   refine W_name hc.scope (by rfl) (by rfl) ?_
   refine ⟨_, _, _, _, _, _, rfl, by assumption, ⟨1, rfl⟩, pz0, by rfl, by exact Nat.le_of_ble_eq_true rfl, fun _ _ => ?_⟩
   rename_i μ10 H12 μ11 H13
   generalize hY : ({ X with rej := decide (z % 2 = 0), ctx := byteArr [z % 256, 1] } : MD) = Y
   have H14 : Own [[(a, .inst 267 d)], [(d, .dict (mfs Y e .none))], [(e, .list [])], [(b, .list [.ref nl, .bool Y.rej, .ref e', .none, .bytes Y.ctx])], [(nl, .list (mlist Y))], [(e', .list [])]] μ11 := by
    subst hY
    (apply Own.sel; (· assumption); exact .cons pz1 (.cons pz0 (.cons pz0 (.cons pz0 (.cons pz0 (.cons pz0 .nil))))))
   have hYc : Y.ctx.size = 2 := by subst hY; rfl
   clear hY H13 H12 H11
   have hN1 : 1 ≤ 1 + y / 7 % 3 ∧ 1 + y / 7 % 3 ≤ 3 := by omega
   refine T_for _ (fun j kk μ1 => ∃ (i : Nat) (es : List ED) (as bs : List Addr) (ls ls' : List (List (Addr × O))), kk = .range i ((1 + y / 7 % 3) - i) ∧ j = (1 + y / 7 % 3).toNat - i ∧ i ≤ (1 + y / 7 % 3).toNat ∧ es.length = i ∧ (∀ e ∈ es, e.WF 4) ∧ Alls EG as es ls ∧ Alls EO bs es ls' ∧
    Own [[(a, .inst 267 d)], [(d, .dict (mfs Y e .none))], [(e, .list (as.map .ref))], ls.flatten, [(b, .list [.ref nl, .bool Y.rej, .ref e', .none, .bytes Y.ctx])], [(nl, .list (mlist Y))], [(e', .list (bs.map .ref))], ls'.flatten] μ1) Sub.refl ?_ ?_
   ·refine I_range (by exact hc.scope) ?_
    refine W_bin ?_
    refine W_int ?_
    refine W_bin ?_
    refine W_bin ?_
    refine W_name hc.scope (by rfl) (by rfl) ?_
    refine W_int ?_
    ((refine bin_div ?_ ?_); (· decide))
    refine W_int ?_
    ((refine bin_mod ?_ ?_); (· decide))
    refine bin_add ?_
    refine ⟨_, rfl, ?_⟩
    exact ⟨by omega, _, 0, [], [], [], [], [], by simp, rfl, by exact Nat.le_of_ble_eq_true rfl, rfl, by simp, .nil, .nil, H14.eq⟩
   rintro c' hc' N hN j kk μ12 ⟨i, es, as, bs, ls, ls', rfl, rfl, hi, hel, hW, hA, hA', H15⟩
   have hc2 := hc' _ _ hc
   have hal : as.length = es.length := hA.length.1
   have hal' : bs.length = es.length := hA'.length.1
   by_cases hlt : i < (1 + y / 7 % 3).toNat
   ·refine .inr ⟨_, _, .range (by omega), ?_⟩
    refine A_name (by exact hc2.scope) (by exact hc2.celled) rfl ?_
    refine T_expr ?_
    refine T_fn hc2.scope hc2.room rfl rfl ?_
    refine L_cons ?_
    refine W_name hc2.scope (by rfl) (by rfl) ?_
    refine L_cons ?_
    refine W_name hc2.scope (by rfl) (by rfl) ?_
    refine L_cons ?_
    refine W_bin ?_
    refine W_bin ?_
    refine W_name hc2.scope (by rfl) (by rfl) ?_
    refine W_int ?_
    ((refine bin_mod ?_ ?_); (· decide))
    refine W_bin ?_
    refine W_int ?_
    refine W_name hc2.scope (by rfl) (by rfl) ?_
    ((refine bin_mul ?_ ?_); (· omega))
    refine bin_add ?_
    refine L_nil ?_
    refine Fn.call (fun _ H => entry_more (D := Y) (as := as) (bs := bs) (by omega) (by omega) H) (by rfl) H15 (by exact .cons pz0 (.cons pz0 (.cons pz0 (.cons pz1 (.cons pz2 .nil))))) ?_
    rintro _ _ μ13 ⟨y1, ly, z1, lz, g1, g2, H16⟩ hF
    have H17 := hF _ H16
    simp only [List.cons_append, List.nil_append] at H17
    refine S_nil ?_
    refine PostN.go (by assumption) ?_
    refine ⟨Sub.refl.set, (1 + y / 7 % 3).toNat - (i + 1), by exact dec (by assumption), i + 1, _, _, _, _, _, rng_succ, rfl, hlt, by simp [hel], fun x hx => ?_, hA.append (.one g1), hA'.append (.one g2), H17.fin (P := [[(a, _)], [(d, _)], [(e, _)], ls.flatten, ly, [(b, _)], [(nl, _)], [(e', _)], ls'.flatten, lz]) (by exact .cons pz0 (.cons pz0 (.cons pz0 (.cons pz4 (.cons pz0 (.cons pz0 (.cons pz2 (.cons pz0 (.cons pz1 (.cons pz0 .nil)))))))))) (by simp)⟩
    rcases List.mem_append.mp hx with q | q
    ·exact hW x q
    ·rw [List.mem_singleton.mp q]; show 1 ≤ 4; decide
   refine .inl ⟨.rangeEnd (by omega), ?_⟩
   refine S_assign hc.scope hc.celled (by rfl) ?_
   refine T_fn hc.scope hc.room rfl rfl ?_
   refine L_cons ?_
   refine T_fn hc.scope hc.room rfl rfl ?_
   refine L_cons ?_
   refine W_bin ?_
   refine W_bin ?_
   refine W_name hc.scope (by rfl) (by rfl) ?_
   refine W_int ?_
   ((refine bin_div ?_ ?_); (· decide))
   refine W_int ?_
   refine bin_add ?_
   refine L_nil ?_
   refine members_fn_k (by rfl) H15 fun mb lm M μ14 hM hM4 H16 => ?_
   refine L_cons ?_
   refine W_bin ?_
   refine W_name hc.scope (by rfl) (by rfl) ?_
   refine W_int ?_
   ((refine bin_div ?_ ?_); (· decide))
   refine L_nil ?_
   refine shot_fn_k hM (hM4.fit (by exact Nat.le_of_ble_eq_true rfl)) (by rfl) H16 (by exact .cons pz0 .nil) fun p sh lsh o lo E2 μ15 hS hO hc1 hd1 H17 => ?_
   refine T_setattr ?_
   refine O_item ?_
   refine W_name hc.scope (by rfl) (by rfl) ?_
   refine W_int ?_
   refine ⟨_, _, _, _, _, rfl, rfl, by assumption, .inl ⟨0, rfl⟩, by decide, by rfl, ?_⟩
   refine W_name hc.scope (by rfl) (by rfl) ?_
   refine ⟨_, _, _, _, _, _, rfl, by assumption, ⟨3, rfl⟩, pz4, by rfl, by exact Nat.le_of_ble_eq_true rfl, fun _ _ => ?_⟩
   refine OS_setitem ?_
   refine O_item ?_
   refine W_name hc.scope (by rfl) (by rfl) ?_
   refine W_int ?_
   refine ⟨_, _, _, _, _, rfl, rfl, by assumption, .inl ⟨1, rfl⟩, by decide, by rfl, ?_⟩
   refine W_name hc.scope (by rfl) (by rfl) ?_
   refine W_int ?_
   refine ⟨_, _, _, _, _, rfl, rfl, by assumption, pz7, by (simp; done), fun _ _ => ?_⟩
   refine S_ret ?_
   refine O_list ?_
   refine L_cons ?_
   refine W_int ?_
   refine L_cons ?_
   refine W_name hc.scope (by rfl) (by rfl) ?_
   refine L_cons ?_
   refine W_name hc.scope (by rfl) (by rfl) ?_
   refine L_nil ?_
   refine ⟨_, by assumption, by exact Nat.le_of_ble_eq_true rfl, fun _ _ _ => ?_⟩
   refine PostF.ret (by assumption) ?_
   rename_i μ16 H18 μ17 H19 p0 μ18 H20
   exact ⟨p0, _, { Y with es := es, shot := some E2 }, rfl, ⟨a, b, _, _, ⟨d, e, as, ls, _, lsh, hA, .some hS, rfl⟩, ⟨nl, e', bs, ls', _, lo, hA', .some hO, rfl⟩, rfl⟩,
    ⟨hW, by show es.length ≤ 4; omega, fun s hs => by cases hs; exact ⟨hc1 ▸ hM4, by exact le2 (by assumption) rfl⟩, by show Y.ctx.size ≤ 4; omega⟩, H20.fin (P := [[(p0, _)], [(a, _)], [(d, .dict (mfs { Y with es := es, shot := some E2 } e (.ref sh)))], [(e, _)], ls.flatten, lsh, [(b, _)], [(nl, .list (mlist { Y with es := es, shot := some E2 }))], [(e', _)], ls'.flatten, lo]) (by exact .cons pz0 (.cons pz5 (.cons pz1 (.cons pz4 (.cons pz4 (.cons pz2 (.cons pz0 (.cons pz2 (.cons pz2 (.cons pz2 (.cons pz1 .nil))))))))))) (by simp [mlist]; rfl)⟩
theorem log_small {i : Int} (h : i.natAbs ≤ 30000000000) : i.natAbs.log2 < 1920 := by
 by_cases z : i.natAbs = 0
 ·rw [z]; decide
 ·have : i.natAbs.log2 < 40 := (Nat.log2_lt z).mpr (by omega)
  omega
theorem check_fn {a : Addr} {D : CD} {l kb : List (Addr × O)} (hG : CG 365 a D l) (hs : D.Fit) (hw : D.v.length + D.o.length + D.l.length < 64) (h1 : ∀ x, x ∈ D.v ∨ x ∈ D.o ∨ x ∈ D.l → x ≠ 0) (h2 : ∀ x, x ∈ D.n ∨ x ∈ D.l → x.natAbs ≤ 30000000000) {μ : Mu} (H0 : Own [l, kb] μ) :
  FnX w 5 362 [.ref a] μ (fun v μ' => D.fits = true ∧ Own [l, kb] μ') (fun μ' => D.fits = false ∧ Own [l, kb] μ') := by
 have hG' := hG
 obtain ⟨d, x0, x1, x2, x3, rfl⟩ := hG
 have H : Own [[(a, .inst 365 d)], [(d, .dict (cfs 365 x0 x1 x2 x3 D.al))], [(x0, .list (List.map V.int D.v))], [(x1, .list (List.map V.int D.l))], [(x2, .list (List.map V.int D.o))], [(x3, .list (List.map V.int D.n))], kb] μ := H0.eq
 have fin : ∀ {μ2 : Mu}, Own [[(a, .inst 365 d)], [(d, .dict (cfs 365 x0 x1 x2 x3 D.al))], [(x0, .list (List.map V.int D.v))], [(x1, .list (List.map V.int D.l))], [(x2, .list (List.map V.int D.o))], [(x3, .list (List.map V.int D.n))], kb] μ2 →
  Own [(a, .inst 365 d) :: (d, .dict (cfs 365 x0 x1 x2 x3 D.al)) :: four x0 x1 x2 x3 D, kb] μ2 := fun H => H.eq
 refine fn_goX (ns := ["self"]) k362 (by (conv => lhs; whnf)) (by (conv => lhs; whnf)) (by kernel_rfl) (rvs1 fun a => by kernel_rfl) rfl rfl rfl rfl rfl fun c hc X KQ hKQ => ?_
 refine T_if fun RI hRI => (B_cmp (W_gint (t := 250) (i := 0) (by exact hc.scope) (by kernel_rfl) (by rfl) ?_))
 refine T_meth hc.room ?_
 refine W_name hc.scope (by rfl) (by rfl) ?_
 refine ⟨_, _, _, _, _, rfl, by assumption, ⟨0, rfl⟩, ⟨1, rfl⟩, by rfl, by rfl, ?_⟩
 refine L_nil ?_
 refine Fn.call (fun _ H => config_members hG' hs hw H) (by rfl) H0 (by exact .cons pz0 .nil) ?_
 rintro _ _ μ3 ⟨r, ys, rfl, hy, H3⟩ hF
 have H3 := hF.b2 H3
 refine cmp_in H3 (by exact ⟨0, rfl⟩) ?_
 rw [decide_eq_false (fun q => h1 0 ((hy 0).mp q) rfl)]
 have H4 : Own [[(a, .inst 365 d)], [(d, .dict (cfs 365 x0 x1 x2 x3 D.al))], [(x0, .list (List.map V.int D.v))], [(x1, .list (List.map V.int D.l))], [(x2, .list (List.map V.int D.o))], [(x3, .list (List.map V.int D.n))], kb] μ3 :=
  (H3.sel (P := [(a, .inst 365 d) :: (d, .dict (cfs 365 x0 x1 x2 x3 D.al)) :: four x0 x1 x2 x3 D, kb]) (by exact .cons pz1 (.cons pz1 .nil))).eq
 clear H3 hF
 (first | refine z_f ?_ | refine i_f fun NI hNI => ?_ | refine ite_f ?_ | skip)
 refine S_nil ?_
 refine fln_next ?_
 refine T_forX _ (fun j kk μ1 => ∃ (i : Nat), kk = .list x3 i ∧ j = D.n.length - i ∧ i ≤ D.n.length ∧ ((D.n.take i).all fun x => decide (x ∈ D.o) && !decide (x ∈ D.l) && !decide (x ∈ D.v)) = true ∧
  Own [[(a, .inst 365 d)], [(d, .dict (cfs 365 x0 x1 x2 x3 D.al))], [(x0, .list (List.map V.int D.v))], [(x1, .list (List.map V.int D.l))], [(x2, .list (List.map V.int D.o))], [(x3, .list (List.map V.int D.n))], kb] μ1) Sub.refl ?_ ?_
 ·refine OI_list ?_
  refine T_attr ?_
  refine W_name hc.scope (by rfl) (by rfl) ?_
  refine ⟨_, _, _, _, _, _, rfl, by assumption, ⟨0, rfl⟩, ⟨1, rfl⟩, by rfl, by rfl, ?_⟩
  refine ⟨_, _, _, rfl, by assumption, ⟨5, rfl⟩, ?_⟩
  exact ⟨_, 0, rfl, rfl, Nat.zero_le _, rfl, H4⟩
 rintro c' hc' hX N hN j kk μ1 ⟨i, rfl, rfl, hi, ha, H1⟩
 have hc2 := hc' _ _ hc
 have X2 := hX _ X
 by_cases h : i < D.n.length
 ·refine .inr ⟨.int D.n[i], _, .list (H1.get (by exact pz5)) (by simp [h]), ?_⟩
  refine A_name (by exact hc2.scope) (by exact hc2.celled) rfl ?_
  have lg := log_small (h2 _ (.inl (List.getElem_mem h)))
  have step : (decide (D.n[i] ∈ D.o) && !decide (D.n[i] ∈ D.l) && !decide (D.n[i] ∈ D.v)) = true → ((D.n.take (i + 1)).all fun x => decide (x ∈ D.o) && !decide (x ∈ D.l) && !decide (x ∈ D.v)) = true := fun q => by
   rw [List.take_succ_eq_append_getElem h, List.all_append, ha, Bool.true_and, List.all_cons, List.all_nil, Bool.and_true]; exact q
  have bad : (decide (D.n[i] ∈ D.o) && !decide (D.n[i] ∈ D.l) && !decide (D.n[i] ∈ D.v)) = false → D.fits = false := fun q => by
   unfold CD.fits
   have : (D.n.all fun x => decide (x ∈ D.o) && !decide (x ∈ D.l) && !decide (x ∈ D.v)) = false := by
    rw [List.all_eq_false]
    exact ⟨_, List.getElem_mem h, by rw [q]; exact Bool.false_ne_true⟩
   rw [this]; rfl
  refine T_if fun RI hRI => ?_
  refine B_cmp ?_
  refine W_name hc2.scope (by rfl) (by rfl) ?_
  refine T_attr ?_
  refine W_name hc2.scope (by rfl) (by rfl) ?_
  refine ⟨_, _, _, _, _, _, rfl, by assumption, ⟨0, rfl⟩, ⟨1, rfl⟩, by rfl, by rfl, ?_⟩
  refine cmp_notin (by assumption) ⟨4, rfl⟩ ?_
  (first | refine z_dec (fun h0 => ?_) (fun h0 => ?_) | refine i_dec (fun h0 NI hNI => ?_) (fun h0 NI hNI => ?_) | refine ite_dec (fun h0 => ?_) (fun h0 => ?_))
  ·exact T_raise X2 ⟨bad (by simp [h0]), fin H1⟩ (by exact hc2.scope) (X_fmt (by exact hc2.scope) rfl rfl lg (by decide))
  refine S_nil ?_
  refine fln_next ?_
  refine T_if fun RI hRI => ?_
  refine B_cmp ?_
  refine W_name hc2.scope (by rfl) (by rfl) ?_
  refine T_attr ?_
  refine W_name hc2.scope (by rfl) (by rfl) ?_
  refine ⟨_, _, _, _, _, _, rfl, by assumption, ⟨0, rfl⟩, ⟨1, rfl⟩, by rfl, by rfl, ?_⟩
  refine cmp_in (by assumption) ⟨3, rfl⟩ ?_
  (first | refine z_dec (fun h1 => ?_) (fun h1 => ?_) | refine i_dec (fun h1 NI hNI => ?_) (fun h1 NI hNI => ?_) | refine ite_dec (fun h1 => ?_) (fun h1 => ?_))
  ·exact T_raise X2 ⟨bad (by simp [h1]), fin H1⟩ (by exact hc2.scope) (X_fmt (by exact hc2.scope) rfl rfl lg (by decide))
  refine S_nil ?_
  refine fln_next ?_
  refine T_if0 fun RI hRI => ?_
  refine B_cmp ?_
  refine W_name hc2.scope (by rfl) (by rfl) ?_
  refine T_attr ?_
  refine W_name hc2.scope (by rfl) (by rfl) ?_
  refine ⟨_, _, _, _, _, _, rfl, by assumption, ⟨0, rfl⟩, ⟨1, rfl⟩, by rfl, by rfl, ?_⟩
  refine cmp_in (by assumption) ⟨2, rfl⟩ ?_
  (first | refine z_dec (fun h2 => ?_) (fun h2 => ?_) | refine i_dec (fun h2 NI hNI => ?_) (fun h2 NI hNI => ?_) | refine ite_dec (fun h2 => ?_) (fun h2 => ?_))
  ·exact T_raise X2 ⟨bad (by simp [h2]), fin H1⟩ (by exact hc2.scope) (X_fmt (by exact hc2.scope) rfl rfl lg (by decide))
  refine S_nil ?_
  refine PostN.go (by assumption) ?_
  have h0 : D.n[i] ∈ D.o := Classical.not_not.mp h0
  exact ⟨Sub.refl.set, _, by exact dec (by assumption), i + 1, rfl, rfl, h, step (by simp [h0, h1, h2]), H1⟩
 ·refine .inl ⟨.listEnd (H1.get (by exact pz5)) (by simp; omega), ?_⟩
  have hi2 : i = D.n.length := by exact Nat.le_antisymm (by assumption) (Nat.le_of_not_lt (by assumption))
  subst hi2
  rw [List.take_length] at ha
  refine T_forX _ (fun j kk μ1 => ∃ (i : Nat), kk = .list x1 i ∧ j = D.l.length - i ∧ i ≤ D.l.length ∧ ((D.l.take i).all fun x => !decide (x ∈ D.v) && !decide (x ∈ D.o)) = true ∧
   Own [[(a, .inst 365 d)], [(d, .dict (cfs 365 x0 x1 x2 x3 D.al))], [(x0, .list (List.map V.int D.v))], [(x1, .list (List.map V.int D.l))], [(x2, .list (List.map V.int D.o))], [(x3, .list (List.map V.int D.n))], kb] μ1) Sub.refl ?_ ?_
  ·refine OI_list ?_
   refine T_attr ?_
   refine W_name hc.scope (by rfl) (by rfl) ?_
   refine ⟨_, _, _, _, _, _, rfl, by assumption, ⟨0, rfl⟩, ⟨1, rfl⟩, by rfl, by rfl, ?_⟩
   refine ⟨_, _, _, rfl, by assumption, ⟨3, rfl⟩, ?_⟩
   exact ⟨_, 0, rfl, rfl, Nat.zero_le _, rfl, H1⟩
  rintro c'' hc'' hX' N hN j kk μ2 ⟨i, rfl, rfl, hi, ha2, H2⟩
  have hc3 := hc'' _ _ hc
  have X3 := hX' _ X
  by_cases h : i < D.l.length
  ·have step : (!decide (D.l[i] ∈ D.v) && !decide (D.l[i] ∈ D.o)) = true → ((D.l.take (i + 1)).all fun x => !decide (x ∈ D.v) && !decide (x ∈ D.o)) = true := fun q => by
    rw [List.take_succ_eq_append_getElem h, List.all_append, ha2, Bool.true_and, List.all_cons, List.all_nil, Bool.and_true]; exact q
   have bad : (!decide (D.l[i] ∈ D.v) && !decide (D.l[i] ∈ D.o)) = false → D.fits = false := fun q => by
    unfold CD.fits
    have : (D.l.all fun x => !decide (x ∈ D.v) && !decide (x ∈ D.o)) = false := by
     rw [List.all_eq_false]
     exact ⟨_, List.getElem_mem h, by rw [q]; exact Bool.false_ne_true⟩
    rw [this, Bool.and_false]; rfl
   have lg := log_small (h2 _ (.inr (List.getElem_mem h)))
   refine .inr ⟨.int D.l[i], _, .list (H2.get (by exact pz3)) (by simp [h]), ?_⟩
   refine A_name (by exact hc3.scope) (by exact hc3.celled) rfl ?_
   refine T_if fun RI hRI => ?_
   refine B_cmp ?_
   refine W_name hc3.scope (by rfl) (by rfl) ?_
   refine T_attr ?_
   refine W_name hc3.scope (by rfl) (by rfl) ?_
   refine ⟨_, _, _, _, _, _, rfl, by assumption, ⟨0, rfl⟩, ⟨1, rfl⟩, by rfl, by rfl, ?_⟩
   refine cmp_in (by assumption) ⟨2, rfl⟩ ?_
   (first | refine z_dec (fun h0 => ?_) (fun h0 => ?_) | refine i_dec (fun h0 NI hNI => ?_) (fun h0 NI hNI => ?_) | refine ite_dec (fun h0 => ?_) (fun h0 => ?_))
   ·exact T_raise X3 ⟨bad (by simp [h0]), fin H2⟩ (by exact hc3.scope) (X_fmt (by exact hc3.scope) rfl rfl lg (by decide))
   refine S_nil ?_
   refine fln_next ?_
   refine T_if0 fun RI hRI => ?_
   refine B_cmp ?_
   refine W_name hc3.scope (by rfl) (by rfl) ?_
   refine T_attr ?_
   refine W_name hc3.scope (by rfl) (by rfl) ?_
   refine ⟨_, _, _, _, _, _, rfl, by assumption, ⟨0, rfl⟩, ⟨1, rfl⟩, by rfl, by rfl, ?_⟩
   refine cmp_in (by assumption) ⟨4, rfl⟩ ?_
   (first | refine z_dec (fun h1 => ?_) (fun h1 => ?_) | refine i_dec (fun h1 NI hNI => ?_) (fun h1 NI hNI => ?_) | refine ite_dec (fun h1 => ?_) (fun h1 => ?_))
   ·exact T_raise X3 ⟨bad (by simp [h1]), fin H2⟩ (by exact hc3.scope) (X_fmt (by exact hc3.scope) rfl rfl lg (by decide))
   refine S_nil ?_
   refine PostN.go (by assumption) ?_
   exact ⟨Sub.refl.set, _, by exact dec (by assumption), i + 1, rfl, rfl, h, step (by simp [h0, h1]), H2⟩
  ·refine .inl ⟨.listEnd (H2.get (by exact pz3)) (by simp; omega), ?_⟩
   have hi2 : i = D.l.length := by exact Nat.le_antisymm (by assumption) (Nat.le_of_not_lt (by assumption))
   subst hi2
   rw [List.take_length] at ha2
   have e : D.fits = (decide (0 < D.o.length) || !D.al) := by unfold CD.fits; rw [ha, ha2]; rfl
   refine T_if0 fun RI hRI => ?_
   refine B_not ?_
   refine B_val ?_
   refine T_meth hc.room ?_
   refine W_name hc.scope (by rfl) (by rfl) ?_
   refine ⟨_, _, _, _, _, rfl, by assumption, ⟨0, rfl⟩, ⟨1, rfl⟩, by rfl, by rfl, ?_⟩
   refine L_nil ?_
   refine Fn.call (fun _ H => config_joint hG' hs H) (by rfl) (fin H2) (by exact .cons pz0 .nil) ?_
   rintro _ _ μ5 ⟨rfl, H5⟩ hF
   have H5 := hF.b1 H5
   have H6 : Own [[(a, .inst 365 d)], [(d, .dict (cfs 365 x0 x1 x2 x3 D.al))], [(x0, .list (List.map V.int D.v))], [(x1, .list (List.map V.int D.l))], [(x2, .list (List.map V.int D.o))], [(x3, .list (List.map V.int D.n))], kb] μ5 := H5.eq
   refine tru_bool ?_
   (first | refine z_b (fun h0 => ?_) (fun h0 => ?_) | refine i_b (fun h0 NI hNI => ?_) (fun h0 NI hNI => ?_) | refine ite_b (fun h0 => ?_) (fun h0 => ?_))
   ·refine T_if0 fun RI hRI => ?_
    refine B_val ?_
    refine T_attr ?_
    refine W_name hc.scope (by rfl) (by rfl) ?_
    refine ⟨_, _, _, _, _, _, rfl, by assumption, ⟨0, rfl⟩, ⟨1, rfl⟩, by rfl, by rfl, ?_⟩
    refine tru_bool ?_
    have h1 : ¬ 0 < D.o.length := by simpa using h0
    (first | refine z_b (fun h3 => ?_) (fun h3 => ?_) | refine i_b (fun h3 NI hNI => ?_) (fun h3 NI hNI => ?_) | refine ite_b (fun h3 => ?_) (fun h3 => ?_))
    ·exact T_raise X ⟨by rw [e, decide_eq_false h1, h3]; rfl, H5⟩ (by exact hc.scope) X_str
    ·refine S_nil ?_
     refine PostF.next (by assumption) ?_
     exact ⟨by rw [e, h3]; simp, H5⟩
   ·refine S_nil ?_
    refine PostF.next (by assumption) ?_
    have h1 : 0 < D.o.length := by simpa using h0
    exact ⟨by rw [e, decide_eq_true h1]; rfl, H5⟩

theorem config_of_fn {a : Addr} {D : CD} {l : List (Addr × O)} (hG : CG 194 a D l) (hs : D.Fit) (hw : D.v.length + D.o.length + D.l.length < 64) (h1 : ∀ x, x ∈ D.v ∨ x ∈ D.o ∨ x ∈ D.l → x ≠ 0) (h2 : ∀ x, x ∈ D.n ∨ x ∈ D.l → x.natAbs ≤ 30000000000) {μ : Mu} (H0 : Own [l] μ) :
  FnX w 6 376 [.ref a] μ (fun v μ' => ∃ b lb, v = .ref b ∧ CG 365 b D lb ∧ D.fits = true ∧ Own [lb, l] μ') (fun μ' => D.fits = false ∧ Own [l] μ') := by
 have hs' := hs
 obtain ⟨d, x0, x1, x2, x3, rfl⟩ := hG
 obtain ⟨⟨_, s0⟩, ⟨_, s1⟩, ⟨_, s2⟩, ⟨_, s3⟩⟩ := hs
 have H : Own [[(a, _)], [(d, _)], [(x0, _)], [(x1, _)], [(x2, _)], [(x3, _)]] μ := H0.eq
 refine fn_goX (ns := ["conf"]) k376 (by (conv => lhs; whnf)) (by (conv => lhs; whnf)) (by kernel_rfl) (rvs1 fun a => by kernel_rfl) rfl rfl rfl rfl rfl fun c hc X KQ hKQ => ?_
 refine S_assign hc.scope hc.celled (by rfl) ?_
 refine T_new hc.scope hc.room rfl rfl ?_
 refine L_cons ?_
 refine T_attr ?_
 refine W_name hc.scope (by rfl) (by rfl) ?_
 refine ⟨_, _, _, _, _, _, rfl, by assumption, ⟨0, rfl⟩, ⟨1, rfl⟩, by rfl, by rfl, ?_⟩
 refine L_cons ?_
 refine T_attr ?_
 refine W_name hc.scope (by rfl) (by rfl) ?_
 refine ⟨_, _, _, _, _, _, rfl, by assumption, ⟨0, rfl⟩, ⟨1, rfl⟩, by rfl, by rfl, ?_⟩
 refine L_cons ?_
 refine T_attr ?_
 refine W_name hc.scope (by rfl) (by rfl) ?_
 refine ⟨_, _, _, _, _, _, rfl, by assumption, ⟨0, rfl⟩, ⟨1, rfl⟩, by rfl, by rfl, ?_⟩
 refine L_cons ?_
 refine T_attr ?_
 refine W_name hc.scope (by rfl) (by rfl) ?_
 refine ⟨_, _, _, _, _, _, rfl, by assumption, ⟨0, rfl⟩, ⟨1, rfl⟩, by rfl, by rfl, ?_⟩
 refine L_cons ?_
 refine T_attr ?_
 refine W_name hc.scope (by rfl) (by rfl) ?_
 refine ⟨_, _, _, _, _, _, rfl, by assumption, ⟨0, rfl⟩, ⟨1, rfl⟩, by rfl, by rfl, ?_⟩
 refine L_nil ?_
 refine ⟨_, by assumption, fun _ _ _ _ => ?_⟩
 refine config_init_k (q0 := D.v) (q1 := D.o) (q2 := D.l) (q3 := D.n) (by exact le2 (by assumption) rfl) (by exact le2 (by assumption) rfl) (by exact le2 (by assumption) rfl) (by exact le2 (by assumption) rfl) (by rfl) (by assumption) (by exact .cons pz0 (.cons pz0 (.cons pz2 (.cons pz3 (.cons pz2 (.cons pz2 .nil)))))) fun E lb μ3 hE e0 e1 e2 e3 e4 H1 => ?_
 obtain rfl := CD.same hs' e0 e2 e1 e3 e4
 have H2 : Own [lb, (a, O.inst 194 d) :: (d, .dict (cfs 194 x0 x1 x2 x3 E.al)) :: four x0 x1 x2 x3 E] μ3 := (H1.sel (P := [lb, [(a, _)], [(d, _)], [(x0, _)], [(x1, _)], [(x2, _)], [(x3, _)]]) (by exact .cons pz0 (.cons pz4 (.cons pz4 (.cons pz0 (.cons pz1 (.cons pz0 (.cons pz0 .nil)))))))).eq
 clear H1
 have hE' := hE
 obtain ⟨d', y0, y1, y2, y3, rfl⟩ := hE
 have H3 := H2.uncons2
 refine ⟨rfl, T_expr (T_methX ?_)⟩
 refine W_name hc.scope (by rfl) (by rfl) ?_
 refine ⟨_, _, _, _, _, rfl, H3, by exact ⟨0, rfl⟩, by exact ⟨1, rfl⟩, by rfl, by rfl, ?_⟩
 refine L_nil ?_
 refine (check_fn hE' hs' hw h1 h2 H2).at (by exact hc.room) X (fun v μ' q => ?_) fun μ' q => ⟨q.1, q.2.sel (.cons (.tail .head) .nil)⟩
 obtain ⟨q1, H4⟩ := q
 refine S_ret ?_
 refine W_name hc.scope (by rfl) (by rfl) ?_
 refine PostF.ret (by assumption) ?_
 exact ⟨_, _, rfl, hE', q1, H4⟩
theorem law_config {a : Addr} {D : CD} {l : List (Addr × O)} (hG : CG 194 a D l) (hs : D.Fit) (hw : D.v.length + D.o.length + D.l.length < 64) (h1 : ∀ x, x ∈ D.v ∨ x ∈ D.o ∨ x ∈ D.l → x ≠ 0) (h2 : ∀ x, x ∈ D.n ∨ x ∈ D.l → x.natAbs ≤ 30000000000) {μ : Mu} (H : Own [l] μ) :
  Fn w 7 460 [.ref a] μ (fun v μ' => (D.fits = true ∧ ∃ b lb, v = .ref b ∧ CG 365 b D lb ∧ Own [lb, l] μ') ∨ (D.fits = false ∧ v = .none ∧ Own [l] μ')) := by
 refine FnX.fn (fn_goX (ns := ["conf"]) k460 (by (conv => lhs; whnf)) (by (conv => lhs; whnf)) (by kernel_rfl) (rvs1 fun a => by kernel_rfl) rfl rfl rfl rfl rfl fun c hc X0 KQ hKQ => ?_)
 refine T_try (PE := fun μ' => D.fits = false ∧ Own [l] μ') (by exact hc.scope) X0.env (fun c' hc' X => ?_) (fun m' μ' q => PostF.ret hKQ (.inr ⟨q.1, rfl, q.2⟩))
 have hc2 := hc' _ _ hc
 refine S_ret (T_fnX (by exact hc2.scope) (by rfl) (by rfl) ?_)
 refine L_cons ?_
 refine W_name hc2.scope (by rfl) (by rfl) ?_
 refine L_nil ?_
 exact (config_of_fn hG hs hw h1 h2 H).at (by exact hc2.room) X (fun v μ' hz0 => by obtain ⟨b, lb, e, h3, h4, h5⟩ := hz0; exact ⟨v, rfl, PostF.ret hKQ (.inl ⟨h4, b, lb, e, h3, h5⟩)⟩) fun _ q => q

theorem T_ifJ {c : Cx w} {m : Vars} {μ : Mu} {t : Expr} {b o rest : List Stmt} {p} {Q : Fl → Vars → Mu → Prop} (J : Vars → Mu → Prop) (k : ∀ m' μ', J m' μ' → WS c rest m' μ' Q) (h : ∀ R, PostB R (Bra c b m J Q) (Bra c o m J Q) → WB c t m μ R) : WS c (.If t b o p :: rest) m μ Q :=
 T_if fun R hR => h R fun r μ' q => by
  have up : ∀ {b : List Stmt}, Bra c b m J Q μ' → Bra c b m (fun m' μ2 => WS c rest m' μ2 Q) Q μ' := fun h N hN => h N fun fl m2 μ2 z => by
   cases fl with
   | next => exact hN .next _ _ (k _ _ z)
   | brk => exact hN .brk _ _ z
   | cont => exact hN .cont _ _ z
   | ret v => exact hN (.ret v) _ _ z
  cases r with
  | true => exact hR true _ (up q)
  | false => exact hR false _ (up q)
theorem Sub.none {m' : Vars} : Sub (fun _ => .none) m' := fun _ _ e => nomatch e
theorem Sub.put {m0 m' : Vars} {x : Str} {v : V} (h : Sub m0 m') (e : m' x = some v) : Sub (m0.set x v) m' := fun y u hy => by
 unfold Vars.set at hy
 split at hy
 ·rename_i q; rw [q, e]; exact hy
 ·exact h y u hy
theorem own_twin_fn {a : Addr} {T : TD} {l : List (Addr × O)} (hO : TO a T l) (hf : T.Fit) {μ : Mu} (H : Own [l] μ) : Fn w 4 448 [.int T.kind, .ref a] μ (fun v μ' => ∃ b lb, v = .ref b ∧ TO b T lb ∧ Own [lb, l] μ') := by
 cases T with
 | conf0 D => exact (own_twin_conf (.inl rfl) hO hf H).mono (by exact Nat.le_of_ble_eq_true rfl) fun _ _ h => h
 | conf1 D => exact (own_twin_conf (.inr rfl) hO hf H).mono (by exact Nat.le_of_ble_eq_true rfl) fun _ _ h => h
 | hard D => exact (own_twin_hard hO H).mono (by exact Nat.le_of_ble_eq_true rfl) fun _ _ h => h
 | entry D => exact (own_twin_entry hO H).mono (by exact Nat.le_of_ble_eq_true rfl) fun _ _ h => h
 | shot D => exact (own_twin_shot hO hf H).mono (by exact Nat.le_of_ble_eq_true rfl) fun _ _ h => h
 | msg D => exact own_twin_msg hO hf H
noncomputable def Stock (h : Addr) (k n : Nat) (μ : Mu) : Prop := ∃ as Ts ls, Alls Thing as Ts ls ∧ (∀ T ∈ Ts, T.WF k) ∧ n ≤ Ts.length ∧ Ts.length ≤ 26 ∧ (∃ T, T ∈ Ts ∧ T.kind = 2) ∧ Own [[(h, .list (as.map .ref))], ls.flatten] μ
theorem copy_fn {h : Addr} {as : List Addr} {Ts : List TD} {ls : List (List (Addr × O))} {k i : Nat} {y : Int} (hA : Alls Thing as Ts ls) (hw : ∀ T ∈ Ts, T.WF k) (hk : k ≤ 20) (hl : Ts.length ≤ 26) (hi : i < Ts.length) (hh : ∃ T, T ∈ Ts ∧ T.kind = 2) {μ : Mu} (H : Own [[(h, .list (as.map .ref))], ls.flatten] μ) :
  Fn w 10 467 [.ref h, .int i, .int y] μ (fun v μ' => v = .bool true ∧ Stock h k (if y % 3 ≠ 2 ∧ Ts.length < 26 then Ts.length + 1 else Ts.length) μ') := by
 have hal : as.length = Ts.length := hA.length.1
 refine fn_go (ns := ["things", "i", "y"]) k467 (by (conv => lhs; whnf)) (by (conv => lhs; whnf)) (by kernel_rfl) (rvs3 fun a b c => by kernel_rfl) rfl rfl rfl rfl rfl fun c hc KQ hKQ => ?_
 obtain ⟨T, hT⟩ : ∃ T, Ts[i]? = some T := ⟨_, List.getElem?_eq_getElem hi⟩
 obtain ⟨a, l, a1, a2, hTh⟩ := hA.get hT
 have wT := hw T (List.mem_of_getElem? hT)
 have fT := wT.fit (by omega)
 obtain ⟨g, o, lg, lo, hg, ho, rfl⟩ := hTh
 have H2 : Own ([(a, .list [.int T.kind, .ref g, .ref o])] :: lg :: lo :: (ls.eraseIdx i).flatten :: [[(h, .list (as.map .ref))]]) μ := ((H.pick (.tail .head)).open_at a2).thing
 have back : ∀ {μ2 : Mu}, Own ([(a, .list [.int T.kind, .ref g, .ref o])] :: lg :: lo :: (ls.eraseIdx i).flatten :: [[(h, .list (as.map .ref))]]) μ2 → Own [[(h, .list (as.map .ref))], ls.flatten] μ2 := fun H => ((H.mkThing).shut_at a2).pick (.tail .head)
 refine T_unp3 hc.scope hc.celled (by rfl) ?_
 refine O_item ?_
 refine W_name hc.scope (by rfl) (by rfl) ?_
 refine W_name hc.scope (by rfl) (by rfl) ?_
 refine ⟨_, _, _, .ref a, _, rfl, rfl, H2, .inl (by exact ⟨4, rfl⟩), by exact nnI (by assumption) (by assumption) rfl, by simp [a1], ?_⟩
 refine ⟨_, _, _, _, _, rfl, by assumption, ⟨0, rfl⟩, ?_⟩
 refine S_assign (by exact hc.scope) (by exact hc.celled) (by rfl) (W_name (by exact hc.scope) (by rfl) (by rfl) ?_)
 refine T_ifJ (fun m' μ2 => ∃ (T' : TD) (g' : Addr) (lg' : List (Addr × O)), Sub ((((((Vars.set (fun _ => none) "things" (.ref h)).set "i" (.int i)).set "kind" (.int T.kind)).set "own" (.ref o)).set "fresh" (.int T'.kind)).set "made" (.ref g')) m' ∧ TG g' T' lg' ∧ (∀ b lb, TO b T lb → TO b T' lb) ∧ T'.WF k ∧ (T.kind = 2 → T'.kind = 2) ∧
  Own (lg' :: [(a, .list [.int T.kind, .ref g, .ref o])] :: lg :: lo :: (ls.eraseIdx i).flatten :: [[(h, .list (as.map .ref))]]) μ2) ?_ (fun RI hRI => ?_)
 ·rintro m' μ2 ⟨T', g', lg', hs, q1, q2, q3, q4, H3⟩
  refine WS.lessM ?_ hs
  refine S_assign hc.scope hc.celled (by rfl) ?_
  refine O_list ?_
  refine L_cons ?_
  refine W_name hc.scope (by rfl) (by rfl) ?_
  refine L_cons ?_
  refine W_name hc.scope (by rfl) (by rfl) ?_
  refine L_cons ?_
  refine T_fn hc.scope hc.room rfl rfl ?_
  refine L_cons ?_
  refine W_name hc.scope (by rfl) (by rfl) ?_
  refine L_cons ?_
  refine W_name hc.scope (by rfl) (by rfl) ?_
  refine L_nil ?_
  refine Fn.copy (fun _ H => own_twin_fn ho fT H) (by rfl) H3 (by exact .cons pz3 .nil) fun b lb μ3 q5 H4 => ?_
  refine L_nil ?_
  refine ⟨_, by assumption, by exact Nat.le_of_ble_eq_true rfl, fun _ _ _ => ?_⟩
  refine T_if fun RI hRI => ?_
  refine B_cmp ?_
  refine O_len hc.scope ?_
  refine W_name hc.scope (by rfl) (by rfl) ?_
  refine ⟨_, _, _, rfl, by assumption, ⟨7, rfl⟩, by (simp; omega), ?_⟩
  refine W_int ?_
  refine cmp_lt ?_
  rename_i t μ4 H5
  (first | refine z_dec (fun h0 => ?_) (fun h0 => ?_) | refine i_dec (fun h0 NI hNI => ?_) (fun h0 NI hNI => ?_) | refine ite_dec (fun h0 => ?_) (fun h0 => ?_))
  ·refine T_expr ?_
   refine O_append ?_
   refine W_name hc.scope (by rfl) (by rfl) ?_
   refine ⟨_, _, _, rfl, by assumption, ⟨7, rfl⟩, ?_⟩
   refine W_name hc.scope (by rfl) (by rfl) ?_
   refine ⟨_, _, _, by assumption, pz7, by omega, fun _ _ => ?_⟩
   refine S_nil ?_
   refine fln_next ?_
   refine S_ret ?_
   refine W_bool ?_
   refine PostF.ret (by assumption) ?_
   rename_i μ5 H6
   have hlt : Ts.length < 26 := by simp only [List.length_map] at h0; omega
   refine ⟨rfl, as ++ [t], Ts ++ [T'], ls ++ [_], hA.append (.one ⟨g', b, lg', lb, q1, q2 b lb q5, rfl⟩), fun U hU => ?_, ?_, by simp; omega, ?_, ?_⟩
   ·rcases List.mem_append.mp hU with z | z
    ·exact hw U z
    ·rw [List.mem_singleton.mp z]; exact q3
   ·simp only [List.length_append, List.length_singleton]; split <;> omega
   ·obtain ⟨U, z1, z2⟩ := hh
    exact ⟨U, List.mem_append_left _ z1, z2⟩
   ·rw [List.map_append]
    have H7 : Own [[(h, .list (as.map .ref ++ [.ref t]))], [(t, .list [.int T'.kind, .ref g', .ref b])], lg', lb, [(a, .list [.int T.kind, .ref g, .ref o])], lg, lo, (ls.eraseIdx i).flatten] μ5 := by (apply Own.sel; (· assumption); exact .cons pz0 (.cons pz0 (.cons pz2 (.cons pz0 (.cons pz1 (.cons pz1 (.cons pz0 (.cons pz0 .nil))))))))
    have H8 : Own [[(a, .list [.int T.kind, .ref g, .ref o])], lg, lo, (ls.eraseIdx i).flatten, [(h, .list (as.map .ref ++ [.ref t]))], [(t, .list [.int T'.kind, .ref g', .ref b])], lg', lb] μ5 := by (apply Own.sel; (· assumption); exact .cons pz4 (.cons pz4 (.cons pz4 (.cons pz4 (.cons pz0 (.cons pz0 (.cons pz0 (.cons pz0 .nil))))))))
    have H9 := ((H8.mkThing).shut_at a2)
    exact H9.fin (P := [[(h, _)], ls.flatten, [(t, _)], lg', lb]) (by exact .cons pz1 (.cons pz0 (.cons pz0 (.cons pz0 (.cons pz0 .nil))))) (by simp)
  ·refine OS_setitem ?_
   refine W_name hc.scope (by rfl) (by rfl) ?_
   refine W_name hc.scope (by rfl) (by rfl) ?_
   refine W_name hc.scope (by rfl) (by rfl) ?_
   refine ⟨_, _, _, _, _, rfl, rfl, by assumption, pz7, by (simp; omega), fun _ _ => ?_⟩
   refine S_nil ?_
   refine fln_next ?_
   refine S_ret ?_
   refine W_bool ?_
   refine PostF.ret (by assumption) ?_
   rename_i μ5 H6
   have hge : ¬ Ts.length < 26 := by simp only [List.length_map] at h0; omega
   have hia : i < as.length := by exact eq_lt' (by assumption) (by assumption)
   have hil : i < ls.length := (List.getElem?_eq_some_iff.mp a2).1
   refine ⟨rfl, as.set i t, Ts.set i T', ls.set i _, hA.setA hia ⟨g', b, lg', lb, q1, q2 b lb q5, rfl⟩, fun U hU => ?_, ?_, by rw [List.length_set]; exact hl, ?_, ?_⟩
   ·rcases List.mem_or_eq_of_mem_set hU with z | z
    ·exact hw U z
    ·rw [z]; exact q3
   ·rw [List.length_set]; split <;> omega
   ·by_cases z : T.kind = 2
    ·exact ⟨T', List.mem_of_getElem? (i := i) (by rw [List.getElem?_set_self hi]), q4 z⟩
    ·obtain ⟨U, z1, z2⟩ := hh
     obtain ⟨j, hj⟩ := List.getElem?_of_mem z1
     have ne : i ≠ j := fun e => by rw [← e, hT] at hj; cases hj; exact z z2
     exact ⟨U, List.mem_of_getElem? (i := j) (by rw [List.getElem?_set_ne ne]; exact hj), z2⟩
   ·rw [List.map_set]
    have H7 : Own [[(t, .list [.int T'.kind, .ref g', .ref b])], lg', lb, (ls.eraseIdx i).flatten, [(h, .list ((as.map .ref).set i (.ref t)))]] μ5 := by (apply Own.sel; (· assumption); exact .cons pz1 (.cons pz3 (.cons pz1 (.cons pz4 (.cons pz0 .nil)))))
    exact ((H7.mkThing).close_at hil).pick (.tail .head)
 ·have fin : ∀ {m' : Vars} {μ2 : Mu} {T' : TD} {g' : Addr} {lg' : List (Addr × O)}, m' "things" = some (.ref h) → m' "i" = some (.int i) → m' "kind" = some (.int T.kind) → m' "own" = some (.ref o) → m' "fresh" = some (.int T'.kind) → m' "made" = some (.ref g') → TG g' T' lg' → (∀ b lb, TO b T lb → TO b T' lb) → T'.WF k → (T.kind = 2 → T'.kind = 2) →
    Own (lg' :: [(a, .list [.int T.kind, .ref g, .ref o])] :: lg :: lo :: (ls.eraseIdx i).flatten :: [[(h, .list (as.map .ref))]]) μ2 →
    ∃ (T' : TD) (g' : Addr) (lg' : List (Addr × O)), Sub ((((((Vars.set (fun _ => none) "things" (.ref h)).set "i" (.int i)).set "kind" (.int T.kind)).set "own" (.ref o)).set "fresh" (.int T'.kind)).set "made" (.ref g')) m' ∧ TG g' T' lg' ∧ (∀ b lb, TO b T lb → TO b T' lb) ∧ T'.WF k ∧ (T.kind = 2 → T'.kind = 2) ∧
  Own (lg' :: [(a, .list [.int T.kind, .ref g, .ref o])] :: lg :: lo :: (ls.eraseIdx i).flatten :: [[(h, .list (as.map .ref))]]) μ2 := fun {m' μ2 T' g' lg'} e1 e2 e3 e4 e5 e6 q1 q2 q3 q4 H3 => ⟨T', g', lg', ((((((Sub.none).put e1).put e2).put e3).put e4).put e5).put e6, q1, q2, q3, q4, H3⟩
  cases T with
  | conf0 D =>
   have hg' := hg
   obtain ⟨d, x0, x1, x2, x3, rfl⟩ := hg'
   have H4 := (H2.pick (.tail .head)).uncons2
   have wD : D.WF k := wT
   refine B_and2 ?_
   refine B_cmp ?_
   refine W_name hc.scope (by rfl) (by rfl) ?_
   refine W_int ?_
   refine cmp_eq ?_
   (first | refine z_T (by rfl) ?_ | refine i_T (by rfl) fun NI hNI => ?_ | refine ite_T (by rfl) ?_)
   refine B_cmp ?_
   refine W_bin ?_
   refine W_name hc.scope (by rfl) (by rfl) ?_
   refine W_int ?_
   ((refine bin_mod ?_ ?_); (· decide))
   refine W_int ?_
   refine cmp_eq ?_
   (first | refine z_dec (fun h0 => ?_) (fun h0 => ?_) | refine i_dec (fun h0 NI hNI => ?_) (fun h0 NI hNI => ?_) | refine ite_dec (fun h0 => ?_) (fun h0 => ?_))
   ·refine S_assign hc.scope hc.celled (by rfl) ?_
    refine T_fn hc.scope hc.room rfl rfl ?_
    refine L_cons ?_
    refine W_name hc.scope (by rfl) (by rfl) ?_
    refine L_nil ?_
    refine Fn.call (fun _ H => law_config hg fT (by have := wD.1.2.2; have := wD.2.1.2.2; have := wD.2.2.1.2.2; omega) (fun x hx => ?_) (fun x hx => ?_) H) (by rfl) H2 (by exact .cons pz1 .nil) fun v μ1 μ' q hF => ?_
    ·rcases hx with z | z | z
     ·have := (wD.1.2.1 x z).1; omega
     ·have := (wD.2.2.1.2.1 x z).1; omega
     ·have := (wD.2.1.2.1 x z).1; omega
    ·rcases hx with z | z
     ·have := wD.2.2.2.2.1 x z; omega
     ·have := wD.2.1.2.1 x z; omega
    rcases q with ⟨q1, b, lb, rfl, q2, H5⟩ | ⟨q1, rfl, H5⟩
    ·have H5 := hF.b2 H5
     refine S_assign hc.scope hc.celled (by rfl) ?_
     refine W_int ?_
     refine T_if fun RI hRI => ?_
     refine B_cmp ?_
     refine W_cmp ?_
     refine W_name hc.scope (by rfl) (by rfl) ?_
     refine W_none ?_
     refine cmp_is1 ?_
     refine T_fn hc.scope hc.room rfl rfl ?_
     refine L_cons ?_
     refine W_name hc.scope (by rfl) (by rfl) ?_
     refine L_nil ?_
     refine Fn.same1 (fun _ H => fits_fn ho fT H) (by rfl) H5 (by exact .cons pz3 .nil) fun μ2 H6 => ?_
     rw [q1]
     refine cmp_beq ?_
     (first | refine z_F (by rfl) ?_ | refine i_F (by rfl) fun NI hNI => ?_ | refine ite_F (by rfl) ?_)
     refine S_nil ?_
     refine fln_next ?_
     refine T_if0 fun RI hRI => ?_
     refine B_cmp ?_
     refine W_name hc.scope (by rfl) (by rfl) ?_
     refine W_none ?_
     refine cmp_is1 ?_
     (first | refine z_f ?_ | refine i_f fun NI hNI => ?_ | refine ite_f ?_ | skip)
     refine S_nil ?_
     refine fln_next ?_
     exact fin (T' := .conf1 D) rfl rfl rfl rfl rfl rfl q2 (fun _ _ z => z) wD (fun z => by cases z) (by (apply Own.sel; (· assumption); exact .cons pz1 (.cons pz2 (.cons pz1 (.cons pz0 (.cons pz0 (.cons pz0 .nil)))))))
    ·have H5 := hF.b1 H5
     refine S_assign hc.scope hc.celled (by rfl) ?_
     refine W_int ?_
     refine T_if fun RI hRI => ?_
     refine B_cmp ?_
     refine W_cmp ?_
     refine W_name hc.scope (by rfl) (by rfl) ?_
     refine W_none ?_
     refine cmp_is0 ?_
     refine T_fn hc.scope hc.room rfl rfl ?_
     refine L_cons ?_
     refine W_name hc.scope (by rfl) (by rfl) ?_
     refine L_nil ?_
     refine Fn.same1 (fun _ H => fits_fn ho fT H) (by rfl) H5 (by exact .cons pz2 .nil) fun μ2 H6 => ?_
     rw [q1]
     refine cmp_beq ?_
     (first | refine z_F (by rfl) ?_ | refine i_F (by rfl) fun NI hNI => ?_ | refine ite_F (by rfl) ?_)
     refine S_nil ?_
     refine fln_next ?_
     refine T_if0 fun RI hRI => ?_
     refine B_cmp ?_
     refine W_name hc.scope (by rfl) (by rfl) ?_
     refine W_none ?_
     refine cmp_is0 ?_
     (first | refine z_t ?_ | refine i_t fun NI hNI => ?_ | refine ite_t ?_ | skip)
     refine S_ret ?_
     refine W_bool ?_
     refine fln_ret ?_
     refine PostF.ret (by assumption) ?_
     exact ⟨rfl, as, Ts, ls, hA, hw, by rw [if_neg (by omega)]; exact Nat.le_refl _, hl, hh, back (by (apply Own.sel; (· assumption); exact .cons pz2 (.cons pz1 (.cons pz0 (.cons pz0 (.cons pz0 .nil))))))⟩
   ·refine T_if0 fun RI hRI => ?_
    refine B_and2 ?_
    refine B_cmp ?_
    refine W_name hc.scope (by rfl) (by rfl) ?_
    refine W_int ?_
    refine cmp_eq ?_
    (first | refine z_F (by rfl) ?_ | refine i_F (by rfl) fun NI hNI => ?_ | refine ite_F (by rfl) ?_)
    (first | refine z_f ?_ | refine i_f fun NI hNI => ?_ | refine ite_f ?_ | skip)
    refine S_assign hc.scope hc.celled (by rfl) ?_
    refine T_meth hc.room ?_
    refine W_name hc.scope (by rfl) (by rfl) ?_
    refine ⟨_, _, _, _, _, rfl, by assumption, ⟨0, rfl⟩, ⟨1, rfl⟩, by rfl, by rfl, ?_⟩
    refine L_nil ?_
    refine Fn.copy (fun _ H => conf_copy hg fT H) (by rfl) H2 (by exact .cons pz1 .nil) fun b lb μ3 q5 H5 => ?_
    refine S_nil ?_
    refine fln_next ?_
    exact fin (T' := .conf0 D) rfl rfl rfl rfl rfl rfl q5 (fun _ _ z => z) wT id (by (apply Own.sel; (· assumption); exact .cons pz0 (.cons pz1 (.cons pz0 (.cons pz0 (.cons pz0 (.cons pz0 .nil)))))))
  | conf1 D =>
   have hg' := hg
   obtain ⟨d, x0, x1, x2, x3, rfl⟩ := hg'
   have H4 := (H2.pick (.tail .head)).uncons2
   refine B_and2 ?_
   refine B_cmp ?_
   refine W_name hc.scope (by rfl) (by rfl) ?_
   refine W_int ?_
   refine cmp_eq ?_
   (first | refine z_F (by rfl) ?_ | refine i_F (by rfl) fun NI hNI => ?_ | refine ite_F (by rfl) ?_)
   (first | refine z_f ?_ | refine i_f fun NI hNI => ?_ | refine ite_f ?_ | skip)
   refine T_if0 fun RI hRI => ?_
   refine B_and2 ?_
   refine B_cmp ?_
   refine W_name hc.scope (by rfl) (by rfl) ?_
   refine W_int ?_
   refine cmp_eq ?_
   (first | refine z_T (by rfl) ?_ | refine i_T (by rfl) fun NI hNI => ?_ | refine ite_T (by rfl) ?_)
   refine B_cmp ?_
   refine W_bin ?_
   refine W_name hc.scope (by rfl) (by rfl) ?_
   refine W_int ?_
   ((refine bin_mod ?_ ?_); (· decide))
   refine W_int ?_
   refine cmp_eq ?_
   (first | refine z_dec (fun h0 => ?_) (fun h0 => ?_) | refine i_dec (fun h0 NI hNI => ?_) (fun h0 NI hNI => ?_) | refine ite_dec (fun h0 => ?_) (fun h0 => ?_))
   ·refine S_assign hc.scope hc.celled (by rfl) ?_
    refine T_meth hc.room ?_
    refine W_name hc.scope (by rfl) (by rfl) ?_
    refine ⟨_, _, _, _, _, rfl, by assumption, ⟨0, rfl⟩, ⟨1, rfl⟩, by rfl, by rfl, ?_⟩
    refine L_nil ?_
    refine Fn.copy (fun _ H => conf_state hg fT H) (by rfl) H2 (by exact .cons pz1 .nil) fun b lb μ3 q5 H5 => ?_
    refine S_assign hc.scope hc.celled (by rfl) ?_
    refine W_int ?_
    refine S_nil ?_
    refine fln_next ?_
    exact fin (T' := .conf0 D) rfl rfl rfl rfl rfl rfl q5 (fun _ _ z => z) wT (fun z => by cases z) (by (apply Own.sel; (· assumption); exact .cons pz0 (.cons pz1 (.cons pz0 (.cons pz0 (.cons pz0 (.cons pz0 .nil)))))))
   ·refine S_assign hc.scope hc.celled (by rfl) ?_
    refine T_meth hc.room ?_
    refine W_name hc.scope (by rfl) (by rfl) ?_
    refine ⟨_, _, _, _, _, rfl, by assumption, ⟨0, rfl⟩, ⟨1, rfl⟩, by rfl, by rfl, ?_⟩
    refine L_nil ?_
    refine Fn.copy (fun _ H => config_copy hg fT H) (by rfl) H2 (by exact .cons pz1 .nil) fun b lb μ3 q5 H5 => ?_
    refine S_nil ?_
    refine fln_next ?_
    exact fin (T' := .conf1 D) rfl rfl rfl rfl rfl rfl q5 (fun _ _ z => z) wT id (by (apply Own.sel; (· assumption); exact .cons pz0 (.cons pz1 (.cons pz0 (.cons pz0 (.cons pz0 (.cons pz0 .nil)))))))
  | hard D =>
   have hg' := hg
   obtain ⟨d, rfl⟩ := hg'
   have H4 := (H2.pick (.tail .head)).uncons2
   refine B_and2 ?_
   refine B_cmp ?_
   refine W_name hc.scope (by rfl) (by rfl) ?_
   refine W_int ?_
   refine cmp_eq ?_
   (first | refine z_F (by rfl) ?_ | refine i_F (by rfl) fun NI hNI => ?_ | refine ite_F (by rfl) ?_)
   (first | refine z_f ?_ | refine i_f fun NI hNI => ?_ | refine ite_f ?_ | skip)
   refine T_if0 fun RI hRI => ?_
   refine B_and2 ?_
   refine B_cmp ?_
   refine W_name hc.scope (by rfl) (by rfl) ?_
   refine W_int ?_
   refine cmp_eq ?_
   (first | refine z_F (by rfl) ?_ | refine i_F (by rfl) fun NI hNI => ?_ | refine ite_F (by rfl) ?_)
   (first | refine z_f ?_ | refine i_f fun NI hNI => ?_ | refine ite_f ?_ | skip)
   refine S_assign hc.scope hc.celled (by rfl) ?_
   refine T_meth hc.room ?_
   refine W_name hc.scope (by rfl) (by rfl) ?_
   refine ⟨_, _, _, _, _, rfl, by assumption, ⟨0, rfl⟩, ⟨1, rfl⟩, by rfl, by rfl, ?_⟩
   refine L_nil ?_
   refine Fn.copy (fun _ H => hard_copy hg H) (by rfl) H2 (by exact .cons pz1 .nil) fun b lb μ3 q5 H5 => ?_
   refine S_nil ?_
   refine fln_next ?_
   exact fin (T' := .hard D) rfl rfl rfl rfl rfl rfl q5 (fun _ _ z => z) wT id (by (apply Own.sel; (· assumption); exact .cons pz0 (.cons pz1 (.cons pz0 (.cons pz0 (.cons pz0 (.cons pz0 .nil)))))))
  | entry D =>
   have hg' := hg
   obtain ⟨d, rfl⟩ := hg'
   have H4 := (H2.pick (.tail .head)).uncons2
   refine B_and2 ?_
   refine B_cmp ?_
   refine W_name hc.scope (by rfl) (by rfl) ?_
   refine W_int ?_
   refine cmp_eq ?_
   (first | refine z_F (by rfl) ?_ | refine i_F (by rfl) fun NI hNI => ?_ | refine ite_F (by rfl) ?_)
   (first | refine z_f ?_ | refine i_f fun NI hNI => ?_ | refine ite_f ?_ | skip)
   refine T_if0 fun RI hRI => ?_
   refine B_and2 ?_
   refine B_cmp ?_
   refine W_name hc.scope (by rfl) (by rfl) ?_
   refine W_int ?_
   refine cmp_eq ?_
   (first | refine z_F (by rfl) ?_ | refine i_F (by rfl) fun NI hNI => ?_ | refine ite_F (by rfl) ?_)
   (first | refine z_f ?_ | refine i_f fun NI hNI => ?_ | refine ite_f ?_ | skip)
   refine S_assign hc.scope hc.celled (by rfl) ?_
   refine T_meth hc.room ?_
   refine W_name hc.scope (by rfl) (by rfl) ?_
   refine ⟨_, _, _, _, _, rfl, by assumption, ⟨0, rfl⟩, ⟨1, rfl⟩, by rfl, by rfl, ?_⟩
   refine L_nil ?_
   refine Fn.copy (fun _ H => entry_copy hg H) (by rfl) H2 (by exact .cons pz1 .nil) fun b lb μ3 q5 H5 => ?_
   refine S_nil ?_
   refine fln_next ?_
   exact fin (T' := .entry D) rfl rfl rfl rfl rfl rfl q5 (fun _ _ z => z) wT id (by (apply Own.sel; (· assumption); exact .cons pz0 (.cons pz1 (.cons pz0 (.cons pz0 (.cons pz0 (.cons pz0 .nil)))))))
  | shot D =>
   have hg' := hg
   obtain ⟨d, c', lc, hC, rfl⟩ := hg'
   have H4 := (H2.pick (.tail .head)).uncons2
   refine B_and2 ?_
   refine B_cmp ?_
   refine W_name hc.scope (by rfl) (by rfl) ?_
   refine W_int ?_
   refine cmp_eq ?_
   (first | refine z_F (by rfl) ?_ | refine i_F (by rfl) fun NI hNI => ?_ | refine ite_F (by rfl) ?_)
   (first | refine z_f ?_ | refine i_f fun NI hNI => ?_ | refine ite_f ?_ | skip)
   refine T_if0 fun RI hRI => ?_
   refine B_and2 ?_
   refine B_cmp ?_
   refine W_name hc.scope (by rfl) (by rfl) ?_
   refine W_int ?_
   refine cmp_eq ?_
   (first | refine z_F (by rfl) ?_ | refine i_F (by rfl) fun NI hNI => ?_ | refine ite_F (by rfl) ?_)
   (first | refine z_f ?_ | refine i_f fun NI hNI => ?_ | refine ite_f ?_ | skip)
   refine S_assign hc.scope hc.celled (by rfl) ?_
   refine T_meth hc.room ?_
   refine W_name hc.scope (by rfl) (by rfl) ?_
   refine ⟨_, _, _, _, _, rfl, by assumption, ⟨0, rfl⟩, ⟨1, rfl⟩, by rfl, by rfl, ?_⟩
   refine L_nil ?_
   refine Fn.copy (fun _ H => snap_copy hg fT H) (by rfl) H2 (by exact .cons pz1 .nil) fun b lb μ3 q5 H5 => ?_
   refine S_nil ?_
   refine fln_next ?_
   exact fin (T' := .shot D) rfl rfl rfl rfl rfl rfl q5 (fun _ _ z => z) wT id (by (apply Own.sel; (· assumption); exact .cons pz0 (.cons pz1 (.cons pz0 (.cons pz0 (.cons pz0 (.cons pz0 .nil)))))))
  | msg D =>
   have hg' := hg
   obtain ⟨d, e, as', ls', v', lv', _, _, rfl⟩ := hg'
   have H4 := (H2.pick (.tail .head)).uncons2
   refine B_and2 ?_
   refine B_cmp ?_
   refine W_name hc.scope (by rfl) (by rfl) ?_
   refine W_int ?_
   refine cmp_eq ?_
   (first | refine z_F (by rfl) ?_ | refine i_F (by rfl) fun NI hNI => ?_ | refine ite_F (by rfl) ?_)
   (first | refine z_f ?_ | refine i_f fun NI hNI => ?_ | refine ite_f ?_ | skip)
   refine T_if0 fun RI hRI => ?_
   refine B_and2 ?_
   refine B_cmp ?_
   refine W_name hc.scope (by rfl) (by rfl) ?_
   refine W_int ?_
   refine cmp_eq ?_
   (first | refine z_F (by rfl) ?_ | refine i_F (by rfl) fun NI hNI => ?_ | refine ite_F (by rfl) ?_)
   (first | refine z_f ?_ | refine i_f fun NI hNI => ?_ | refine ite_f ?_ | skip)
   refine S_assign hc.scope hc.celled (by rfl) ?_
   refine T_meth hc.room ?_
   refine W_name hc.scope (by rfl) (by rfl) ?_
   refine ⟨_, _, _, _, _, rfl, by assumption, ⟨0, rfl⟩, ⟨1, rfl⟩, by rfl, by rfl, ?_⟩
   refine L_nil ?_
   refine Fn.copy (fun _ H => msg_copy hg fT H) (by rfl) H2 (by exact .cons pz1 .nil) fun b lb μ3 q5 H5 => ?_
   refine S_nil ?_
   refine fln_next ?_
   exact fin (T' := .msg D) rfl rfl rfl rfl rfl rfl q5 (fun _ _ z => z) wT id (by (apply Own.sel; (· assumption); exact .cons pz0 (.cons pz1 (.cons pz0 (.cons pz0 (.cons pz0 (.cons pz0 .nil)))))))
theorem ws_lit {c : Cx w} {m : Vars} {μ : Mu} {B B' : List Stmt} {S S' : Scope} {r : Nat} {Q : Fl → Vars → Mu → Prop} (hB : B = B') (hS : S = S') (hc : At c r S) (h : At c r S' → WS c B' m μ Q) : WS c B m μ Q := by
 subst hB hS; exact h hc
noncomputable def StockN (h D : Addr) (ns : List Int) (k n : Nat) (μ : Mu) : Prop := ∃ as Ts ls, Alls Thing as Ts ls ∧ (∀ T ∈ Ts, T.WF k) ∧ n ≤ Ts.length ∧ Ts.length ≤ 26 ∧ (∃ T, T ∈ Ts ∧ T.kind = 2) ∧ Own [[(h, .list (as.map .ref))], ls.flatten, [(D, .list (ns.map .int))]] μ
theorem law_deeds {c : Cx w} (hc0 : At c 11 (fS 51)) {h D : Addr} {ns : List Int} (hp : 0 < ns.length) (hl : ns.length ≤ 40) (h0 : ∀ n ∈ ns, 0 ≤ n) {μ : Mu} (H : StockN h D ns 4 16 μ) {B : List Stmt} (hB : (fB 51).drop 13 = B) : WS c B ((Vars.set (fun _ => none) "nums" (.ref D)).set "things" (.ref h)) μ (fun fl _ _ => fl.val = .bool true) := by
 refine ws_lit (hB.symm.trans (by (conv => lhs; whnf))) (by (conv => lhs; whnf)) hc0 fun hc => ?_
 clear hB
 have hN : ∃ N : Nat, N ≤ 12 ∧ (6 + (if (ns.length : Int) / 3 < 6 then (ns.length : Int) / 3 else 6)) = (N : Int) := by
  split
  ·exact ⟨6 + ns.length / 3, by omega, by omega⟩
  ·exact ⟨12, by exact Nat.le_of_ble_eq_true rfl, by omega⟩
 obtain ⟨N, hN, eN⟩ := hN
 refine T_for _ (fun j kk μ1 => ∃ i : Nat, kk = .range i ((N : Int) - i) ∧ j = N - i ∧ i ≤ N ∧ StockN h D ns (4 + i) 16 μ1) Sub.refl ?_ ?_
 ·obtain ⟨as, Ts, ls, hA, hw, hn, h26, hh, H1⟩ := H
  refine I_range (by exact hc.scope) ?_
  refine W_bin ?_
  refine W_int ?_
  refine W_min hc.scope ?_
  refine W_int ?_
  refine W_bin ?_
  refine O_len hc.scope ?_
  refine W_name hc.scope (by rfl) (by rfl) ?_
  refine ⟨_, _, _, rfl, by assumption, ⟨2, rfl⟩, by (simp; omega), ?_⟩
  refine W_int ?_
  ((refine bin_div ?_ ?_); (· decide))
  refine ⟨6, _, rfl, rfl, ?_⟩
  rw [List.length_map]
  refine bin_add ⟨_, rfl, ?_⟩
  rw [eN]
  exact ⟨by exact nnM60 (by assumption) rfl, _, 0, rfl, rfl, by exact Nat.le_of_ble_eq_true rfl, as, Ts, ls, hA, hw, hn, h26, hh, H1⟩
 rintro c' hc' NJ hNJ j kk μ1 ⟨i, rfl, rfl, hi, as, Ts, ls, hA, hw, hn, h26, hh, H1⟩
 have hc2 := hc' _ _ hc
 have hal : as.length = Ts.length := hA.length.1
 by_cases hlt : i < N
 ·refine .inr ⟨_, _, .range (by exact sub_pos' (by assumption)), ?_⟩
  refine A_name (by exact hc2.scope) (by exact hc2.celled) rfl ?_
  refine S_assign hc2.scope hc2.celled (by rfl) ?_
  refine T_fn hc2.scope hc2.room rfl rfl ?_
  refine L_cons ?_
  refine W_name hc2.scope (by rfl) (by rfl) ?_
  refine L_cons ?_
  refine W_bin ?_
  refine W_int ?_
  refine W_bin ?_
  refine W_int ?_
  refine W_name hc2.scope (by rfl) (by rfl) ?_
  ((refine bin_mul ?_ ?_); (· omega))
  refine bin_add ?_
  refine L_nil ?_
  refine draw_fn_k hp (by exact le2 (by assumption) rfl) (by omega) (by omega) h0 (by rfl) H1 (by exact .cons pz2 .nil) fun y μ2 hy H2 => ?_
  refine S_assign hc2.scope hc2.celled (by rfl) ?_
  refine T_fn hc2.scope hc2.room rfl rfl ?_
  refine L_cons ?_
  refine W_name hc2.scope (by rfl) (by rfl) ?_
  refine L_cons ?_
  refine W_bin ?_
  refine W_int ?_
  refine W_bin ?_
  refine W_int ?_
  refine W_name hc2.scope (by rfl) (by rfl) ?_
  ((refine bin_mul ?_ ?_); (· omega))
  refine bin_add ?_
  refine L_nil ?_
  refine Fn.call (fun _ H => draw_fn hp (by exact le2 (by assumption) rfl) (by omega) (by omega) h0 H) (by rfl) H2 (by exact .cons pz0 .nil) ?_
  rintro _ _ μ3 ⟨z, rfl, hz, H3⟩ hF
  have H3 : Own [[(h, .list (as.map .ref))], ls.flatten, [(D, .list (ns.map .int))]] μ3 := (hF.b1 H3).sel (by exact .cons pz1 (.cons pz1 (.cons pz0 .nil)))
  clear hF H2
  refine S_assign (by exact hc2.scope) (by exact hc2.celled) (by rfl) ?_
  iterate 6 (first | refine W_bin ?_ | refine W_name hc2.scope (by rfl) (by rfl) ?_ | refine O_len hc2.scope ?_ | refine ⟨_, _, _, rfl, by assumption, ⟨0, rfl⟩, by (simp; omega), ?_⟩ | ((refine bin_mod ?_ ?_); (· (simp; omega))))
  have hmod : ∃ q : Nat, q < Ts.length ∧ y % ((as.map V.ref).length : Int) = (q : Int) := by
   rw [List.length_map, hal]
   have h1 : 0 ≤ y % (Ts.length : Int) := Int.emod_nonneg _ (by omega)
   have h2 : y % (Ts.length : Int) < Ts.length := Int.emod_lt_of_pos _ (by omega)
   exact ⟨(y % (Ts.length : Int)).toNat, by exact toNat_lt' (by assumption) (by assumption), by omega⟩
  obtain ⟨q, hq, eq⟩ := hmod
  rw [eq]
  refine T_ifJ (fun m' μ2 => Sub ((Vars.set (fun _ => none) "nums" (.ref D)).set "things" (.ref h)) m' ∧ StockN h D ns (4 + (i + 1)) 16 μ2) ?_ (fun RI hRI => ?_)
  ·rintro m' μ4 ⟨hs, as', Ts', ls', hA', hw', hn', h26', hh', H4⟩
   refine WS.lessM (m0 := (Vars.set (fun _ => none) "nums" (.ref D)).set "things" (.ref h)) ?_ hs
   refine T_if0 fun RI hRI => ?_
   refine B_not ?_
   refine B_val ?_
   refine T_fn hc2.scope hc2.room rfl rfl ?_
   refine L_cons ?_
   refine W_name hc2.scope (by rfl) (by rfl) ?_
   refine L_nil ?_
   refine Fn.same2 (fun _ H => stand_fn hA' (fun T hT => (hw' T hT).fit (by omega)) (by exact le2 (by assumption) rfl) hh' H) (by rfl) H4 (by exact .cons pz0 (.cons pz0 .nil)) fun μ5 H5 => ?_
   refine tru_bool ?_
   (first | refine z_F (by rfl) ?_ | refine i_F (by rfl) fun NI hNI => ?_ | refine ite_F (by rfl) ?_)
   refine S_nil ?_
   refine PostN.go (by assumption) ?_
   exact ⟨Sub.refl, _, by exact dec (by assumption), i + 1, rng_succ, rfl, hlt, as', Ts', ls', hA', hw', hn', h26', hh', H5⟩
  ·refine B_cmp ?_
   refine W_bin ?_
   refine W_name hc2.scope (by rfl) (by rfl) ?_
   refine W_int ?_
   ((refine bin_mod ?_ ?_); (· decide))
   refine W_int ?_
   refine cmp_eq ?_
   (first | refine z_dec (fun h3 => ?_) (fun h3 => ?_) | refine i_dec (fun h3 NI hNI => ?_) (fun h3 NI hNI => ?_) | refine ite_dec (fun h3 => ?_) (fun h3 => ?_))
   ·refine T_if0 fun RI hRI => ?_
    refine B_not ?_
    refine B_val ?_
    refine T_fn hc2.scope hc2.room rfl rfl ?_
    refine L_cons ?_
    refine W_name hc2.scope (by rfl) (by rfl) ?_
    refine L_cons ?_
    refine W_name hc2.scope (by rfl) (by rfl) ?_
    refine L_cons ?_
    refine W_bin ?_
    refine W_name hc2.scope (by rfl) (by rfl) ?_
    refine W_int ?_
    ((refine bin_div ?_ ?_); (· decide))
    refine L_nil ?_
    refine Fn.call (fun _ H => copy_fn hA hw (by omega) h26 hq hh H) (by rfl) H3 (by exact .cons pz0 (.cons pz0 .nil)) ?_
    rintro _ _ μ4 ⟨rfl, as', Ts', ls', hA', hw', hn', h26', hh', H4⟩ hF
    have H4 := hF.b2 H4
    refine tru_bool ?_
    (first | refine z_F (by rfl) ?_ | refine i_F (by rfl) fun NI hNI => ?_ | refine ite_F (by rfl) ?_)
    refine S_nil ?_
    refine fln_next ?_
    exact ⟨((Sub.none.put rfl).put rfl), as', Ts', ls', hA', fun T hT => (hw' T hT).mono (by omega), by split at hn' <;> omega, h26', hh', H4⟩
   ·obtain ⟨T, hT⟩ : ∃ T, Ts[q]? = some T := ⟨_, List.getElem?_eq_getElem hq⟩
    obtain ⟨a, l, a1, a2, hTh⟩ := hA.get hT
    have wT := hw T (List.mem_of_getElem? hT)
    refine T_expr ?_
    refine T_fn hc2.scope hc2.room rfl rfl ?_
    refine L_cons ?_
    refine O_item ?_
    refine W_name hc2.scope (by rfl) (by rfl) ?_
    refine W_name hc2.scope (by rfl) (by rfl) ?_
    refine ⟨_, _, _, .ref a, _, rfl, rfl, H3, .inl (by exact ⟨0, rfl⟩), by exact nnI62 (by assumption) (by assumption) rfl, by simp [a1], ?_⟩
    refine L_cons ?_
    refine W_bin ?_
    refine W_bin ?_
    refine W_name hc2.scope (by rfl) (by rfl) ?_
    refine W_int ?_
    ((refine bin_div ?_ ?_); (· decide))
    refine W_bin ?_
    refine W_name hc2.scope (by rfl) (by rfl) ?_
    refine O_len hc2.scope ?_
    refine W_name hc2.scope (by rfl) (by rfl) ?_
    refine ⟨_, _, _, rfl, by assumption, ⟨0, rfl⟩, by (simp; omega), ?_⟩
    ((refine bin_div ?_ ?_); (· (simp; omega)))
    refine bin_add ?_
    refine L_nil ?_
    have H4 := (H3.pick (.tail .head)).open_at a2
    refine Fn.call (fun _ H => turn_fn hTh wT (by omega) (by omega) H) (by rfl) H4 (by exact .cons pz0 .nil) ?_
    rintro _ _ μ5 ⟨T', l', hTh', wT', hk', H5⟩ hF
    have H5 := hF.b1 H5
    refine S_nil ?_
    refine fln_next ?_
    refine ⟨((Sub.none.put rfl).put rfl), as, Ts.set q T', ls.set q l', hA.set a1 hTh', fun U hU => ?_, by rw [List.length_set]; exact hn, by rw [List.length_set]; exact h26, ?_, (H5.close_at (List.getElem?_eq_some_iff.mp a2).1).pick (.tail .head)⟩
    ·rcases List.mem_or_eq_of_mem_set hU with z | z
     ·exact (hw U z).mono (by omega)
     ·rw [z]; exact wT'
    ·by_cases z : T.kind = 2
     ·exact ⟨T', List.mem_of_getElem? (i := q) (by rw [List.getElem?_set_self hq]), hk'.trans z⟩
     ·obtain ⟨U, z1, z2⟩ := hh
      obtain ⟨j, hj⟩ := List.getElem?_of_mem z1
      have ne : q ≠ j := fun e => by rw [← e, hT] at hj; cases hj; exact z z2
      exact ⟨U, List.mem_of_getElem? (i := j) (by rw [List.getElem?_set_ne ne]; exact hj), z2⟩
 have hi2 : i = N := by exact Nat.le_antisymm (by assumption) (Nat.le_of_not_lt (by assumption))
 refine .inl ⟨.rangeEnd (by exact sub_nonpos' (by assumption)), ?_⟩
 refine S_ret ?_
 refine T_fn hc.scope hc.room rfl rfl ?_
 refine L_cons ?_
 refine W_name hc.scope (by rfl) (by rfl) ?_
 refine L_nil ?_
 refine Fn.call (fun _ H => end_fn hA hw (by omega) (by exact le2 (by assumption) rfl) hh H) (by rfl) H1 (by exact .cons pz0 (.cons pz0 .nil)) fun v μ1 μ' h1 _ => ?_
 exact h1

theorem law_pairs {c : Cx w} (hc0 : At c 11 (fS 51)) {h D : Addr} {ns : List Int} (hp : 0 < ns.length) (hl : ns.length ≤ 40) (h0 : ∀ n ∈ ns, 0 ≤ n) {m : Vars} (hs : Sub ((Vars.set (fun _ => none) "nums" (.ref D)).set "things" (.ref h)) m) {μ : Mu} (H : StockN h D ns 4 16 μ) {B : List Stmt} (hB : (fB 51).drop 11 = B) : WS c B m μ (fun fl _ _ => fl.val = .bool true) := by
 refine ws_lit (hB.symm.trans (by (conv => lhs; whnf))) (by (conv => lhs; whnf)) hc0 fun hc => ?_
 clear hB
 refine @T_for w c _ _ _ _ _ _ _ _ _ (fun j kk μ1 => ∃ (q p0 p1 p2 p3 p4 : Addr) (i : Nat) (as : List Addr) (Ts : List TD) (ls : List (List (Addr × O))), kk = .tup q i ∧ j = 5 - i ∧ i ≤ 5 ∧ Alls Thing as Ts ls ∧ (∀ T ∈ Ts, T.WF 4) ∧ 16 ≤ Ts.length ∧ Ts.length ≤ 26 ∧ (∃ T, T ∈ Ts ∧ T.kind = 2) ∧
  Own [[(h, .list (as.map .ref))], ls.flatten, [(D, .list (ns.map .int))], [(q, .tup [.ref p0, .ref p1, .ref p2, .ref p3, .ref p4])], [(p0, .tup [.int 0, .int 2])], [(p1, .tup [.int 1, .int 2])], [(p2, .tup [.int 2, .int 2])], [(p3, .tup [.int 8, .int 0])], [(p4, .tup [.int 14, .int 0])]] μ1) hs ?_ ?_ (fun _ => rfl)
 ·obtain ⟨as, Ts, ls, hA, hw, hn, h26, hh, H1⟩ := H
  refine OI_tup ?_
  refine O_tuple ?_
  refine L_cons ?_
  refine O_tuple ?_
  refine L_cons ?_
  refine W_int ?_
  refine L_cons ?_
  refine W_int ?_
  refine L_nil ?_
  refine ⟨_, by assumption, by exact Nat.le_of_ble_eq_true rfl, fun _ _ _ => ?_⟩
  refine L_cons ?_
  refine O_tuple ?_
  refine L_cons ?_
  refine W_int ?_
  refine L_cons ?_
  refine W_int ?_
  refine L_nil ?_
  refine ⟨_, by assumption, by exact Nat.le_of_ble_eq_true rfl, fun _ _ _ => ?_⟩
  refine L_cons ?_
  refine O_tuple ?_
  refine L_cons ?_
  refine W_int ?_
  refine L_cons ?_
  refine W_int ?_
  refine L_nil ?_
  refine ⟨_, by assumption, by exact Nat.le_of_ble_eq_true rfl, fun _ _ _ => ?_⟩
  refine L_cons ?_
  refine O_tuple ?_
  refine L_cons ?_
  refine W_int ?_
  refine L_cons ?_
  refine W_int ?_
  refine L_nil ?_
  refine ⟨_, by assumption, by exact Nat.le_of_ble_eq_true rfl, fun _ _ _ => ?_⟩
  refine L_cons ?_
  refine O_tuple ?_
  refine L_cons ?_
  refine W_int ?_
  refine L_cons ?_
  refine W_int ?_
  refine L_nil ?_
  refine ⟨_, by assumption, by exact Nat.le_of_ble_eq_true rfl, fun _ _ _ => ?_⟩
  refine L_nil ?_
  refine ⟨_, by assumption, by exact Nat.le_of_ble_eq_true rfl, fun _ _ _ => ?_⟩
  refine ⟨_, _, _, rfl, by assumption, ⟨0, rfl⟩, ?_⟩
  exact ⟨_, _, _, _, _, _, _, 0, as, Ts, ls, rfl, rfl, by decide, hA, hw, hn, h26, hh, by (apply Own.sel; (· assumption); exact .cons pz6 (.cons pz6 (.cons pz6 (.cons pz0 (.cons pz4 (.cons pz3 (.cons pz2 (.cons pz1 (.cons pz0 .nil)))))))))⟩
 clear H hs
 rintro c' hc' N hN j kk μ1 ⟨q, p0, p1, p2, p3, p4, i, as, Ts, ls, rfl, rfl, hi, hA, hw, hn, h26, hh, H1⟩
 have hc2 := hc' _ _ hc
 by_cases h5 : i < 5
 ·obtain ⟨p, x, v, e1, e2, e3⟩ : ∃ (p : Addr) (x : Nat) (v : Int), ([V.ref p0, .ref p1, .ref p2, .ref p3, .ref p4])[i]? = some (.ref p) ∧ x < 16 ∧ In1 [(p, .tup [.int x, .int v])] [[(h, .list (as.map .ref))], ls.flatten, [(D, .list (ns.map .int))], [(q, .tup [.ref p0, .ref p1, .ref p2, .ref p3, .ref p4])], [(p0, .tup [.int 0, .int 2])], [(p1, .tup [.int 1, .int 2])], [(p2, .tup [.int 2, .int 2])], [(p3, .tup [.int 8, .int 0])], [(p4, .tup [.int 14, .int 0])]] := by
   match i, h5 with
   | 0, _ => exact ⟨p0, 0, 2, rfl, by decide, 4, rfl⟩
   | 1, _ => exact ⟨p1, 1, 2, rfl, by decide, 5, rfl⟩
   | 2, _ => exact ⟨p2, 2, 2, rfl, by decide, 6, rfl⟩
   | 3, _ => exact ⟨p3, 8, 0, rfl, by decide, 7, rfl⟩
   | 4, _ => exact ⟨p4, 14, 0, rfl, by decide, 8, rfl⟩
  refine .inr ⟨_, _, .tup (H1.get (by exact pz3)) e1, ?_⟩
  refine A_unp2 (by exact hc2.scope) (by exact hc2.celled) (by rfl) rfl H1 e3 ?_
  refine T_if0 fun RI hRI => ?_
  refine B_not ?_
  refine B_val ?_
  refine T_fn hc2.scope hc2.room rfl rfl ?_
  refine L_cons ?_
  refine W_name hc2.scope (by rfl) (by rfl) ?_
  refine L_cons ?_
  refine W_name hc2.scope (by rfl) (by rfl) ?_
  refine L_cons ?_
  refine W_name hc2.scope (by rfl) (by rfl) ?_
  refine L_nil ?_
  refine Fn.call (fun _ H => copy_fn hA hw (by exact Nat.le_of_ble_eq_true rfl) h26 (by omega) hh H) (by rfl) H1 (by exact .cons pz0 (.cons pz0 .nil)) ?_
  rintro _ _ μ2 ⟨rfl, as', Ts', ls', hA', hw', hn', h26', hh', H2⟩ hF
  have H2 := hF.b2 H2
  refine tru_bool ?_
  (first | refine z_F (by rfl) ?_ | refine i_F (by rfl) fun NI hNI => ?_ | refine ite_F (by rfl) ?_)
  refine S_nil ?_
  refine PostN.go (by assumption) ?_
  exact ⟨Sub.refl.set.set, _, by exact dec (by assumption), q, p0, p1, p2, p3, p4, i + 1, as', Ts', ls', rfl, rfl, h5, hA', hw', by split at hn' <;> omega, h26', hh', H2⟩
 refine .inl ⟨.tupEnd (H1.get (by exact pz3)) (by simp; omega), ?_⟩
 have H1 : Own [[(h, .list (as.map .ref))], ls.flatten, [(D, .list (ns.map .int))]] μ1 := by (apply Own.sel; (· assumption); exact .cons pz0 (.cons pz0 (.cons pz0 .nil)))
 clear hc2 hc' c'
 refine T_if fun RI hRI => ?_
 refine B_not ?_
 refine B_val ?_
 refine T_fn hc.scope hc.room rfl rfl ?_
 refine L_cons ?_
 refine W_name hc.scope (by rfl) (by rfl) ?_
 refine L_nil ?_
 refine Fn.same2 (fun _ H => stand_fn hA (fun T hT => (hw T hT).fit (by exact Nat.le_of_ble_eq_true rfl)) (by exact le2 (by assumption) rfl) hh H) (by rfl) H1 (by exact .cons pz0 (.cons pz0 .nil)) fun μ2 H2 => ?_
 refine tru_bool ?_
 (first | refine z_F (by rfl) ?_ | refine i_F (by rfl) fun NI hNI => ?_ | refine ite_F (by rfl) ?_)
 refine S_nil ?_
 refine fln_next ?_
 have k1 := @law_deeds w c hc0 h D ns hp hl h0 μ2
 exact @k1 ⟨as, Ts, ls, hA, hw, hn, h26, hh, H2⟩ _ (by (conv => lhs; whnf))
theorem law_firsts {c : Cx w} (hc0 : At c 11 (fS 51)) {h D : Addr} {ns : List Int} (hp : 0 < ns.length) (hl : ns.length ≤ 40) (h0 : ∀ n ∈ ns, 0 ≤ n) {m : Vars} (hs : Sub ((Vars.set (fun _ => none) "nums" (.ref D)).set "things" (.ref h)) m) {μ : Mu} (H : StockN h D ns 4 8 μ) {B : List Stmt} (hB : (fB 51).drop 10 = B) : WS c B m μ (fun fl _ _ => fl.val = .bool true) := by
 refine ws_lit (hB.symm.trans (by (conv => lhs; whnf))) (by (conv => lhs; whnf)) hc0 fun hc => ?_
 clear hB
 refine T_for _ (fun j kk μ1 => ∃ i : Nat, kk = .range i ((8 : Int) - i) ∧ j = 8 - i ∧ i ≤ 8 ∧ StockN h D ns 4 (8 + i) μ1) hs ?_ ?_
 ·refine I_range (by exact hc.scope) ?_
  refine W_int ?_
  refine ⟨_, rfl, ?_⟩
  exact ⟨by decide, _, 0, rfl, rfl, by decide, H⟩
 rintro c' hc' N hN j kk μ1 ⟨i, rfl, rfl, hi, as, Ts, ls, hA, hw, hn, h26, hh, H1⟩
 have hc2 := hc' _ _ hc
 by_cases h8 : i < 8
 ·refine .inr ⟨_, _, .range (by omega), ?_⟩
  refine A_name (by exact hc2.scope) (by exact hc2.celled) rfl ?_
  refine T_if0 fun RI hRI => ?_
  refine B_not ?_
  refine B_val ?_
  refine T_fn hc2.scope hc2.room rfl rfl ?_
  refine L_cons ?_
  refine W_name hc2.scope (by rfl) (by rfl) ?_
  refine L_cons ?_
  refine W_name hc2.scope (by rfl) (by rfl) ?_
  refine L_cons ?_
  refine W_int ?_
  refine L_nil ?_
  refine Fn.call (fun _ H => copy_fn hA hw (by exact Nat.le_of_ble_eq_true rfl) h26 (by omega) hh H) (by rfl) H1 (by exact .cons pz0 (.cons pz0 .nil)) ?_
  rintro _ _ μ2 ⟨rfl, as', Ts', ls', hA', hw', hn', h26', hh', H2⟩ hF
  have H2 := hF.b2 H2
  refine tru_bool ?_
  (first | refine z_F (by rfl) ?_ | refine i_F (by rfl) fun NI hNI => ?_ | refine ite_F (by rfl) ?_)
  refine S_nil ?_
  refine PostN.go (by assumption) ?_
  exact ⟨Sub.refl.set, _, by exact dec (by assumption), i + 1, rng_succ, rfl, h8, as', Ts', ls', hA', hw', by split at hn' <;> omega, h26', hh', H2⟩
 have hi8 : i = 8 := by exact Nat.le_antisymm (by assumption) (Nat.le_of_not_lt (by assumption))
 subst hi8
 refine .inl ⟨.rangeEnd (by decide), ?_⟩
 have k1 := @law_pairs w c hc0 h D ns hp hl h0 _ Sub.refl μ1
 exact @k1 ⟨as, Ts, ls, hA, hw, hn, h26, hh, H1⟩ _ (by (conv => lhs; whnf))

theorem law_things {c : Cx w} (hc0 : At c 11 (fS 51)) {D mb nb hd en pr sh sp e1 e2 e3 e4 : Addr} {y z : Int} {M : CD} {E : SD} {lm lsh lsp : List (Addr × O)} {ns : List Int} (hp : 0 < ns.length) (hl : ns.length ≤ 40) (h0 : ∀ n ∈ ns, 0 ≤ n) (hM : CO mb M lm) (hM4 : M.WF 4) (hS : SG sh E lsh) (hO : SO sp E lsp) (hE : E.WF 4) {μ : Mu}
  (H : Own [[(pr, .list [.ref sh, .ref sp])], lsh, lsp, [(en, .list [.int (z % 300), .int (300 + z / 7 % 300), .int 2, .bytes (byteArr [y % 256])])], [(hd, .list [.int (z % 3), .int (z / 3 % 3), .int (z / 9 % 3)])], [(nb, .list [.ref e1, .ref e2, .ref e3, .ref e4, .bool false]), (e1, .list []), (e2, .list []), (e3, .list []), (e4, .list [])], lm, [(D, .list (ns.map .int))]] μ)
  {B : List Stmt} (hB : (fB 51).drop 9 = B) : WS c B ((((((((Vars.set (fun _ => none) "nums" (.ref D)).set "y" (.int y)).set "z" (.int z)).set "members" (.ref mb)).set "nobody" (.ref nb)).set "hard" (.ref hd)).set "entry" (.ref en)).set "pair" (.ref pr)) μ (fun fl _ _ => fl.val = .bool true) := by
 refine ws_lit (hB.symm.trans (by (conv => lhs; whnf))) (by (conv => lhs; whnf)) hc0 fun hc => ?_
 clear hB
 have hN : CO nb ⟨[], [], [], [], false⟩ [(nb, .list [.ref e1, .ref e2, .ref e3, .ref e4, .bool false]), (e1, .list []), (e2, .list []), (e3, .list []), (e4, .list [])] := ⟨e1, e2, e3, e4, rfl⟩
 generalize hNl : [(nb, O.list [V.ref e1, .ref e2, .ref e3, .ref e4, .bool false]), (e1, .list []), (e2, .list []), (e3, .list []), (e4, .list [])] = ln at H hN
 clear hNl
 have hNW : CD.WF ⟨[], [], [], [], false⟩ 4 := ⟨⟨.nil, by simp, by simp⟩, ⟨.nil, by simp, by simp⟩, ⟨.nil, by simp, by simp⟩, ⟨.nil, by simp, by simp⟩⟩
 refine S_assign (by exact hc.scope) (by exact hc.celled) (by rfl) (WT.mono (Q := fun v μ' => ∃ h, v = .ref h ∧ StockN h D ns 4 8 μ') ?_ ?_)
 ·refine O_list (L_cons ?_)
  refine O_list ?_
  refine L_cons ?_
  refine W_int ?_
  refine L_cons ?_
  refine T_fn hc.scope hc.room rfl rfl ?_
  refine L_cons ?_
  refine W_int ?_
  refine L_cons ?_
  refine W_name hc.scope (by rfl) (by rfl) ?_
  refine L_cons ?_
  refine W_name hc.scope (by rfl) (by rfl) ?_
  refine L_nil ?_
  refine Fn.copy (fun _ H => made0 hM (hM4.fit (by exact Nat.le_of_ble_eq_true rfl)) H) (by rfl) H (by exact .cons pz6 .nil) fun g0 l0 μ1 hg0 H1 => ?_
  refine L_cons ?_
  refine W_name hc.scope (by rfl) (by rfl) ?_
  refine L_nil ?_
  refine ⟨_, by assumption, by exact Nat.le_of_ble_eq_true rfl, fun _ _ _ => ?_⟩
  refine L_cons ?_
  refine O_list ?_
  refine L_cons ?_
  refine W_int ?_
  refine L_cons ?_
  refine T_fn hc.scope hc.room rfl rfl ?_
  refine L_cons ?_
  refine W_int ?_
  refine L_cons ?_
  refine W_name hc.scope (by rfl) (by rfl) ?_
  refine L_cons ?_
  refine W_bin ?_
  refine W_name hc.scope (by rfl) (by rfl) ?_
  refine W_int ?_
  refine bin_add ?_
  refine L_nil ?_
  rename_i t0 μ2 H2
  refine Fn.copy (fun _ H => made1 hM (hM4.fit (by exact Nat.le_of_ble_eq_true rfl)) H) (by rfl) H2 (by exact .cons pz2 .nil) fun g1 l1 μ3 hg1 H3 => ?_
  refine L_cons ?_
  refine T_fn hc.scope hc.room rfl rfl ?_
  refine L_cons ?_
  refine W_name hc.scope (by rfl) (by rfl) ?_
  refine L_nil ?_
  refine Fn.copy (fun _ H => twin_fn hM (hM4.fit (by exact Nat.le_of_ble_eq_true rfl)) H) (by rfl) H3 (by exact .cons pz1 .nil) fun o1 lo1 μ4 ho1 H4 => ?_
  refine L_nil ?_
  refine ⟨_, by assumption, by exact Nat.le_of_ble_eq_true rfl, fun _ _ _ => ?_⟩
  refine L_cons ?_
  refine O_list ?_
  refine L_cons ?_
  refine W_int ?_
  refine L_cons ?_
  refine T_fn hc.scope hc.room rfl rfl ?_
  refine L_cons ?_
  refine W_int ?_
  refine L_cons ?_
  refine W_name hc.scope (by rfl) (by rfl) ?_
  refine L_cons ?_
  refine W_name hc.scope (by rfl) (by rfl) ?_
  refine L_nil ?_
  rename_i t1 μ5 H5
  refine Fn.copy (fun _ H => made0 hN (hNW.fit (by exact Nat.le_of_ble_eq_true rfl)) H) (by rfl) H5 (by exact .cons pz11 .nil) fun g2 l2 μ6 hg2 H6 => ?_
  refine L_cons ?_
  refine W_name hc.scope (by rfl) (by rfl) ?_
  refine L_nil ?_
  refine ⟨_, by assumption, by exact Nat.le_of_ble_eq_true rfl, fun _ _ _ => ?_⟩
  refine L_cons ?_
  refine O_list ?_
  refine L_cons ?_
  refine W_int ?_
  refine L_cons ?_
  refine T_new hc.scope hc.room rfl rfl ?_
  refine L_cons ?_
  refine O_item ?_
  refine W_name hc.scope (by rfl) (by rfl) ?_
  refine W_int ?_
  refine ⟨_, _, _, _, _, rfl, rfl, by assumption, .inl ⟨13, rfl⟩, by decide, by rfl, ?_⟩
  refine L_cons ?_
  refine O_item ?_
  refine W_name hc.scope (by rfl) (by rfl) ?_
  refine W_int ?_
  refine ⟨_, _, _, _, _, rfl, rfl, by assumption, .inl ⟨13, rfl⟩, by decide, by rfl, ?_⟩
  refine L_cons ?_
  refine O_item ?_
  refine W_name hc.scope (by rfl) (by rfl) ?_
  refine W_int ?_
  refine ⟨_, _, _, _, _, rfl, rfl, by assumption, .inl ⟨13, rfl⟩, by decide, by rfl, ?_⟩
  refine L_nil ?_
  refine ⟨_, by assumption, fun _ _ _ _ => ?_⟩
  rename_i t2 μ7 H7 a3 d3 μ8 H8
  clear H H1 H2 H3 H4 H5 H6 H7
  refine Fn.init (fun _ H => hard_init H) (by rfl) H8 (by exact .cons pz0 (.cons pz0 .nil)) fun l3 μ9 hg3 H9 => ?_
  refine ⟨rfl, ?_⟩
  refine L_cons ?_
  refine W_name hc.scope (by rfl) (by rfl) ?_
  refine L_nil ?_
  refine ⟨_, by assumption, by exact Nat.le_of_ble_eq_true rfl, fun _ _ _ => ?_⟩
  refine L_cons ?_
  refine O_list ?_
  refine L_cons ?_
  refine W_int ?_
  refine L_cons ?_
  refine T_new hc.scope hc.room rfl rfl ?_
  refine L_cons ?_
  refine O_item ?_
  refine W_name hc.scope (by rfl) (by rfl) ?_
  refine W_int ?_
  refine ⟨_, _, _, _, _, rfl, rfl, by assumption, .inl ⟨14, rfl⟩, by decide, by rfl, ?_⟩
  refine L_cons ?_
  refine O_item ?_
  refine W_name hc.scope (by rfl) (by rfl) ?_
  refine W_int ?_
  refine ⟨_, _, _, _, _, rfl, rfl, by assumption, .inl ⟨14, rfl⟩, by decide, by rfl, ?_⟩
  refine L_cons ?_
  refine O_item ?_
  refine W_name hc.scope (by rfl) (by rfl) ?_
  refine W_int ?_
  refine ⟨_, _, _, _, _, rfl, rfl, by assumption, .inl ⟨14, rfl⟩, by decide, by rfl, ?_⟩
  refine L_cons ?_
  refine O_item ?_
  refine W_name hc.scope (by rfl) (by rfl) ?_
  refine W_int ?_
  refine ⟨_, _, _, _, _, rfl, rfl, by assumption, .inl ⟨14, rfl⟩, by decide, by rfl, ?_⟩
  refine L_nil ?_
  refine ⟨_, by assumption, fun _ _ _ _ => ?_⟩
  rename_i t3 μ10 H10 a4 d4 μ11 H11
  refine Fn.init (fun _ H => entry_init H) (by rfl) H11 (by exact .cons pz0 (.cons pz0 .nil)) fun l4 μ12 hg4 H12 => ?_
  refine ⟨rfl, ?_⟩
  refine L_cons ?_
  refine W_name hc.scope (by rfl) (by rfl) ?_
  refine L_nil ?_
  refine ⟨_, by assumption, by exact Nat.le_of_ble_eq_true rfl, fun _ _ _ => ?_⟩
  refine L_cons ?_
  refine O_list ?_
  refine L_cons ?_
  refine W_int ?_
  refine L_cons ?_
  refine O_item ?_
  refine W_name hc.scope (by rfl) (by rfl) ?_
  refine W_int ?_
  refine ⟨_, _, _, _, _, rfl, rfl, by assumption, .inl ⟨13, rfl⟩, by decide, by rfl, ?_⟩
  refine L_cons ?_
  refine O_item ?_
  refine W_name hc.scope (by rfl) (by rfl) ?_
  refine W_int ?_
  refine ⟨_, _, _, _, _, rfl, rfl, by assumption, .inl ⟨13, rfl⟩, by decide, by rfl, ?_⟩
  refine L_nil ?_
  refine ⟨_, by assumption, by exact Nat.le_of_ble_eq_true rfl, fun _ _ _ => ?_⟩
  refine L_cons ?_
  refine T_fn hc.scope hc.room rfl rfl ?_
  refine L_cons ?_
  refine W_name hc.scope (by rfl) (by rfl) ?_
  refine L_cons ?_
  refine W_name hc.scope (by rfl) (by rfl) ?_
  refine L_nil ?_
  rename_i t4 μ13 H13 t5 μ14 H14
  clear H8 H9 H10 H11 H12 H13
  refine Fn.call (P := []) (fun _ _ => message_fn) (by rfl) H14 .nil ?_
  rintro _ _ μ15 ⟨t6, l6, X, rfl, hg6, hX, H15⟩ hF
  have H15 := hF.b1 H15
  refine L_cons ?_
  refine O_list ?_
  refine L_cons ?_
  refine W_int ?_
  refine L_cons ?_
  refine T_new hc.scope hc.room rfl rfl ?_
  refine L_cons ?_
  refine W_bin ?_
  refine W_name hc.scope (by rfl) (by rfl) ?_
  refine W_int ?_
  ((refine bin_mod ?_ ?_); (· decide))
  refine L_cons ?_
  refine W_int ?_
  refine L_cons ?_
  refine W_int ?_
  refine L_cons ?_
  refine W_name hc.scope (by rfl) (by rfl) ?_
  refine L_nil ?_
  refine ⟨_, by assumption, fun _ _ _ _ => ?_⟩
  rename_i a7 d7 μ16 H16
  refine msg_init_k (by rfl) H16 (by exact .cons pz0 (.cons pz0 .nil)) fun e7 μ17 H17 => ?_
  clear hF H14 H15 H16
  refine ⟨rfl, ?_⟩
  refine L_cons ?_
  refine O_list ?_
  refine L_cons ?_
  refine O_list ?_
  refine L_cons ?_
  refine W_bin ?_
  refine W_name hc.scope (by rfl) (by rfl) ?_
  refine W_int ?_
  ((refine bin_mod ?_ ?_); (· decide))
  refine L_cons ?_
  refine W_int ?_
  refine L_cons ?_
  refine W_int ?_
  refine L_cons ?_
  refine W_name hc.scope (by rfl) (by rfl) ?_
  refine L_cons ?_
  refine W_int ?_
  refine L_cons ?_
  refine W_int ?_
  refine L_cons ?_
  refine W_int ?_
  refine L_cons ?_
  refine W_int ?_
  refine L_nil ?_
  refine ⟨_, by assumption, by exact Nat.le_of_ble_eq_true rfl, fun _ _ _ => ?_⟩
  refine L_cons ?_
  refine W_bool ?_
  refine L_cons ?_
  refine O_list ?_
  refine L_nil ?_
  refine ⟨_, by assumption, by exact Nat.le_of_ble_eq_true rfl, fun _ _ _ => ?_⟩
  refine L_cons ?_
  refine W_none ?_
  refine L_cons ?_
  refine W_bytes ?_
  refine L_nil ?_
  refine ⟨_, by assumption, by exact Nat.le_of_ble_eq_true rfl, fun _ _ _ => ?_⟩
  refine L_nil ?_
  refine ⟨_, by assumption, by exact Nat.le_of_ble_eq_true rfl, fun _ _ _ => ?_⟩
  refine L_nil ?_
  refine ⟨_, by assumption, by exact Nat.le_of_ble_eq_true rfl, fun _ _ _ => ?_⟩
  rename_i n7 μ18 H18 f7 μ19 H19 b7 μ20 H20 t7 μ21 H21 h μ22 H22
  clear H17 H18 H19 H20 H21
  have H23 : Own [[(h, .list [.ref t0, .ref t1, .ref t2, .ref t3, .ref t4, .ref t5, .ref t6, .ref t7])], [(t0, .list [.int 0, .ref g0, .ref mb])], l0, lm, [(t1, .list [.int 1, .ref g1, .ref o1])], l1, lo1, [(t2, .list [.int 0, .ref g2, .ref nb])], l2, ln,
   [(t3, .list [.int 2, .ref a3, .ref hd])], l3, [(hd, .list [.int (z % 3), .int (z / 3 % 3), .int (z / 9 % 3)])], [(t4, .list [.int 3, .ref a4, .ref en])], l4, [(en, .list [.int (z % 300), .int (300 + z / 7 % 300), .int 2, .bytes (byteArr [y % 256])])],
   [(t5, .list [.int 4, .ref sh, .ref sp])], lsh, lsp, l6, [(t7, .list [.int 5, .ref a7, .ref b7])], [(a7, .inst 267 d7)], [(d7, .dict (mfs (MD.new (y % 21) 9 8 z) e7 .none))], [(e7, .list [])],
   [(b7, .list [.ref n7, .bool false, .ref f7, .none, .bytes #[]])], [(n7, .list [.int (y % 21), .int 9, .int 8, .int z, .int 0, .int 0, .int 0, .int 0])], [(f7, .list [])], [(D, .list (ns.map .int))]] μ22 := by (apply Own.sel; (· assumption); exact .cons pz0 (.cons pz20 (.cons pz20 (.cons pz18 (.cons pz16 (.cons pz17 (.cons pz16 (.cons pz13 (.cons pz13 (.cons pz13 (.cons pz11 (.cons pz11 (.cons pz15 (.cons pz9 (.cons pz9 (.cons pz12 (.cons pz8 (.cons pz9 (.cons pz9 (.cons pz7 (.cons pz0 (.cons pz3 (.cons pz3 (.cons pz3 (.cons pz0 (.cons pz1 (.cons pz0 (.cons pz1 .nil))))))))))))))))))))))))))))
  clear H22
  refine ⟨h, rfl, [t0, t1, t2, t3, t4, t5, t6, t7], [.conf0 M, .conf1 M, .conf0 _, .hard _, .entry _, .shot E, .msg X, .msg (MD.new (y % 21) 9 8 z)], _,
   .cons ⟨g0, mb, l0, lm, hg0, hM, rfl⟩ (.cons ⟨g1, o1, l1, lo1, hg1, ho1, rfl⟩ (.cons ⟨g2, nb, l2, ln, hg2, hN, rfl⟩ (.cons ⟨a3, hd, l3, _, hg3, rfl, rfl⟩ (.cons ⟨a4, en, l4, _, hg4, rfl, rfl⟩ (.cons ⟨sh, sp, lsh, lsp, hS, hO, rfl⟩ (.cons hg6
    (.cons ⟨a7, b7, _, _, ⟨d7, e7, [], [], .none, [], .nil, .none, rfl⟩, ⟨n7, f7, [], [], .none, [], .nil, .none, rfl⟩, rfl⟩ .nil))))))), ?_, Nat.le_of_ble_eq_true rfl, Nat.le_of_ble_eq_true rfl, ⟨_, .tail _ (.tail _ (.tail _ (.head _))), rfl⟩, H23.eq (by simp [TD.kind, MD.new])⟩
  intro T hT
  simp only [List.mem_cons, List.not_mem_nil, or_false] at hT
  rcases hT with rfl | rfl | rfl | rfl | rfl | rfl | rfl | rfl
  ·exact hM4
  ·exact hM4
  ·exact hNW
  ·trivial
  ·exact (by decide : 1 ≤ 4)
  ·exact hE
  ·exact hX
  ·exact ⟨fun e h => (nomatch h), Nat.le_of_ble_eq_true rfl, fun s h => (nomatch h), Nat.le_of_ble_eq_true rfl⟩
 ·rintro v μ' ⟨h, rfl, H'⟩
  refine @law_firsts w c hc0 h D ns hp hl h0 _ ?_ μ' H' _ (by (conv => lhs; whnf))
  exact ((Sub.none.put rfl).put rfl)

theorem law_start {c : Cx w} (hc0 : At c 11 (fS 51)) {D : Addr} {ns : List Int} (hp : 0 < ns.length) (hl : ns.length ≤ 40) (h0 : ∀ n ∈ ns, 0 ≤ n) {m : Vars} (hs : Sub (Vars.set (fun _ => none) "nums" (.ref D)) m) {μ : Mu} (H3 : Own [[(D, .list (ns.map .int))]] μ) {B : List Stmt} (hB : (fB 51).drop 2 = B) : WS c B m μ (fun fl _ _ => fl.val = .bool true) := by
 refine ws_lit (hB.symm.trans (by (conv => lhs; whnf))) (by (conv => lhs; whnf)) hc0 fun hc => ?_
 clear hB
 refine WS.lessM ?_ hs
 clear hs m
 refine S_assign hc.scope hc.celled (by rfl) ?_
 refine T_fn hc.scope hc.room rfl rfl ?_
 refine L_cons ?_
 refine W_name hc.scope (by rfl) (by rfl) ?_
 refine L_cons ?_
 refine W_int ?_
 refine L_nil ?_
 refine draw_fn_k hp (by exact le2 (by assumption) rfl) (by omega) (by omega) h0 (by rfl) H3 (by exact .cons pz0 .nil) fun y μ4 hy H4 => ?_
 refine S_assign hc.scope hc.celled (by rfl) ?_
 refine T_fn hc.scope hc.room rfl rfl ?_
 refine L_cons ?_
 refine W_name hc.scope (by rfl) (by rfl) ?_
 refine L_cons ?_
 refine W_int ?_
 refine L_nil ?_
 refine draw_fn_k hp (by exact le2 (by assumption) rfl) (by omega) (by omega) h0 (by rfl) H4 (by exact .cons pz0 .nil) fun z μ5 hz H5 => ?_
 refine S_assign hc.scope hc.celled (by rfl) ?_
 refine T_fn hc.scope hc.room rfl rfl ?_
 refine L_cons ?_
 refine W_name hc.scope (by rfl) (by rfl) ?_
 refine L_nil ?_
 refine members_fn_k (by rfl) H5 fun mb lm M μ6 hM hM4 H6 => ?_
 clear H3 H4 H5
 refine S_assign hc.scope hc.celled (by rfl) ?_
 refine O_list ?_
 refine L_cons ?_
 refine O_list ?_
 refine L_nil ?_
 refine ⟨_, by assumption, by exact Nat.le_of_ble_eq_true rfl, fun _ _ _ => ?_⟩
 refine L_cons ?_
 refine O_list ?_
 refine L_nil ?_
 refine ⟨_, by assumption, by exact Nat.le_of_ble_eq_true rfl, fun _ _ _ => ?_⟩
 refine L_cons ?_
 refine O_list ?_
 refine L_nil ?_
 refine ⟨_, by assumption, by exact Nat.le_of_ble_eq_true rfl, fun _ _ _ => ?_⟩
 refine L_cons ?_
 refine O_list ?_
 refine L_nil ?_
 refine ⟨_, by assumption, by exact Nat.le_of_ble_eq_true rfl, fun _ _ _ => ?_⟩
 refine L_cons ?_
 refine W_bool ?_
 refine L_nil ?_
 refine ⟨_, by assumption, by exact Nat.le_of_ble_eq_true rfl, fun _ _ _ => ?_⟩
 refine S_assign hc.scope hc.celled (by rfl) ?_
 refine O_list ?_
 refine L_cons ?_
 refine W_bin ?_
 refine W_name hc.scope (by rfl) (by rfl) ?_
 refine W_int ?_
 ((refine bin_mod ?_ ?_); (· decide))
 refine L_cons ?_
 refine W_bin ?_
 refine W_bin ?_
 refine W_name hc.scope (by rfl) (by rfl) ?_
 refine W_int ?_
 ((refine bin_div ?_ ?_); (· decide))
 refine W_int ?_
 ((refine bin_mod ?_ ?_); (· decide))
 refine L_cons ?_
 refine W_bin ?_
 refine W_bin ?_
 refine W_name hc.scope (by rfl) (by rfl) ?_
 refine W_int ?_
 ((refine bin_div ?_ ?_); (· decide))
 refine W_int ?_
 ((refine bin_mod ?_ ?_); (· decide))
 refine L_nil ?_
 refine ⟨_, by assumption, by exact Nat.le_of_ble_eq_true rfl, fun _ _ _ => ?_⟩
 refine S_assign hc.scope hc.celled (by rfl) ?_
 refine O_list ?_
 refine L_cons ?_
 refine W_bin ?_
 refine W_name hc.scope (by rfl) (by rfl) ?_
 refine W_int ?_
 ((refine bin_mod ?_ ?_); (· decide))
 refine L_cons ?_
 refine W_bin ?_
 refine W_int ?_
 refine W_bin ?_
 refine W_bin ?_
 refine W_name hc.scope (by rfl) (by rfl) ?_
 refine W_int ?_
 ((refine bin_div ?_ ?_); (· decide))
 refine W_int ?_
 ((refine bin_mod ?_ ?_); (· decide))
 refine bin_add ?_
 refine L_cons ?_
 refine W_int ?_
 refine L_cons ?_
 refine O_bytesOf hc.scope ?_
 refine O_list ?_
 refine L_cons ?_
 refine W_bin ?_
 refine W_name hc.scope (by rfl) (by rfl) ?_
 refine W_int ?_
 ((refine bin_mod ?_ ?_); (· decide))
 refine L_nil ?_
 refine ⟨_, by assumption, by exact Nat.le_of_ble_eq_true rfl, fun _ _ _ => ?_⟩
 rename_i e1 μ7 H7 e2 μ8 H8 e3 μ9 H9 e4 μ10 H10 nb μ11 H11 hd μ12 H12 bq μ13 H13
 clear H6 H7 H8 H9 H10 H11 H12
 refine ⟨_, [y % 256], _, rfl, H13, by exact ⟨0, rfl⟩, ⟨fun n hn => by rw [List.mem_singleton.mp hn]; omega, by simp⟩, ?_⟩
 refine L_nil ?_
 refine ⟨_, by assumption, by exact Nat.le_of_ble_eq_true rfl, fun _ _ _ => ?_⟩
 refine S_assign hc.scope hc.celled (by rfl) ?_
 refine T_fn hc.scope hc.room rfl rfl ?_
 refine L_cons ?_
 refine T_fn hc.scope hc.room rfl rfl ?_
 refine L_cons ?_
 refine W_name hc.scope (by rfl) (by rfl) ?_
 refine L_nil ?_
 rename_i en μ14 H14
 refine members_fn_k (by rfl) H14 fun mz lz Z μ15 hZ hZ4 H15 => ?_
 refine L_cons ?_
 refine W_bin ?_
 refine W_name hc.scope (by rfl) (by rfl) ?_
 refine W_int ?_
 refine bin_add ?_
 refine L_nil ?_
 refine shot_fn_k hZ (hZ4.fit (by exact Nat.le_of_ble_eq_true rfl)) (by rfl) H15 (by exact .cons pz0 .nil) fun p sh lsh o lo E μ16 hS hO hc1 hd1 H16 => ?_
 clear H13 H14 H15
 exact @law_things w c hc0 D mb nb hd en p sh o e1 e2 e3 e4 y z M E lm lsh lo ns hp hl h0 hM hM4 hS hO ⟨by rw [hc1]; exact hZ4, by exact le2 (by assumption) rfl⟩ μ16 ((H16.sel (P := [[(p, .list [.ref sh, .ref o])], lsh, lo, [(en, .list [.int (z % 300), .int (300 + z / 7 % 300), .int 2, .bytes (byteArr [y % 256])])], [(hd, .list [.int (z % 3), .int (z / 3 % 3), .int (z / 9 % 3)])], [(nb, .list [.ref e1, .ref e2, .ref e3, .ref e4, .bool false])], [(e1, .list [])], [(e2, .list [])], [(e3, .list [])], [(e4, .list [])], lm, [(D, .list (ns.map .int))]]) (by exact .cons pz0 (.cons pz0 (.cons pz0 (.cons pz0 (.cons pz1 (.cons pz1 (.cons pz4 (.cons pz3 (.cons pz2 (.cons pz1 (.cons pz1 (.cons pz1 .nil))))))))))))).eq) _ (by (conv => lhs; whnf))
theorem law_ws {c : Cx w} (hc0 : At c 11 (fS 51)) {a : Addr} {xs : List Int} {rvs : List Value} (hb : c.h₀.IsList a (List.toArray rvs)) (hv : VsIs (xs.map .int) rvs) (hxl : xs.length ≤ 1000000) {μ : Mu} : WS c (fB 51) (bindM ([Str.ofString "script"].zip [.ref a]) fun _ => none) μ (fun fl _ _ => fl.val = .bool true) := by
 refine ws_lit (by (conv => lhs; whnf)) (by (conv => lhs; whnf)) hc0 fun hc => ?_
 have h40 : (xs.take 40).length ≤ 40 := by rw [List.length_take]; omega
 generalize hL : xs.take 40 = L at h40
 refine OS_assignC (fun n k acc μ1 => ∃ (r : Addr) (i : Nat) (ns : List Int), k = .list r i ∧ n = L.length - i ∧ i ≤ L.length ∧ acc = ns.map .int ∧ ns.length = i ∧ (∀ n ∈ ns, 0 ≤ n) ∧ Own [[(r, .list (L.map .int))]] μ1) (by exact hc.scope) (by exact hc.celled) hc.own (by rfl) (by rfl) ?_ ?_
 ·refine OI_list (W_uptoB hb hv ⟨by decide, by rw [List.length_map]; exact hxl⟩ (W_name (by exact hc.scope) (by rfl) (by rfl) ⟨rfl, fun r hr => ?_⟩))
  have H0 : Own [] μ := ⟨List.nodup_nil, fun _ h => absurd h List.not_mem_nil⟩
  have H1 := H0.new (o := .list ((xs.map .int).take (40 : Int).toNat)) hr
  rw [← List.map_take, show ((40 : Int).toNat) = 40 from rfl, hL] at H1
  rw [← List.map_take, show ((40 : Int).toNat) = 40 from rfl, hL]
  refine ⟨_, _, _, rfl, H1, by exact ⟨0, rfl⟩, ?_⟩
  exact ⟨_, r, 0, [], rfl, rfl, by exact Nat.le_of_ble_eq_true rfl, rfl, rfl, by simp, H1.sel (.cons .head .nil)⟩
 ·rintro c' hc' N hN n k acc μ1 ⟨r, i, ns, rfl, rfl, hi, rfl, hnl, hn0, H1⟩
  refine ⟨by simp; omega, ?_⟩
  by_cases h : i < L.length
  ·refine .inr ⟨.int L[i], _, .list (H1.get (by exact pz0)) (by simp [h]), ?_⟩
   show WE c' _ _ μ1 _
   rw [hc.room] at hc'
   refine W_bin ?_
   refine W_name hc'.scope (by rfl) (by rfl) ?_
   refine W_int ?_
   ((refine bin_mod ?_ ?_); (· decide))
   refine PostC.go (by assumption) ?_
   exact ⟨L.length - (i + 1), by exact dec (by assumption), r, i + 1, ns ++ [_], rfl, rfl, h, by rw [List.map_append]; rfl, by simp [hnl], fun n hn => by
    rcases List.mem_append.mp hn with z | z
    ·exact hn0 n z
    ·rw [List.mem_singleton.mp z]; omega, H1⟩
  ·refine .inl ⟨.listEnd (H1.get (by exact pz0)) (by simp; omega), _, H1, fun D μ2 H2 => ?_⟩
   have hnl40 : ns.length ≤ 40 := by exact eqle2 (by assumption) (by assumption) (by assumption) rfl
   have H2 : Own [[(D, .list (ns.map .int))]] μ2 := H2.sel (.cons .head .nil)
   clear H1 hL h hi hnl h40
   refine T_ifJ (fun m' μ3 => ∃ (D' : Addr) (ns' : List Int), Sub (Vars.set (fun _ => none) "nums" (.ref D')) m' ∧ 0 < ns'.length ∧ ns'.length ≤ 40 ∧ (∀ n ∈ ns', 0 ≤ n) ∧ Own [[(D', .list (ns'.map .int))]] μ3) ?_ (fun RI hRI => ?_)
   ·rintro m' μ3 ⟨D', ns', hs, hp, hl, h0, H3⟩
    exact @law_start w c hc0 D' ns' hp hl h0 _ hs μ3 H3 _ (by (conv => lhs; whnf))
   ·refine B_cmp ?_
    refine O_len hc.scope ?_
    refine W_name hc.scope (by rfl) (by rfl) ?_
    refine ⟨_, _, _, rfl, by assumption, ⟨0, rfl⟩, by (simp; omega), ?_⟩
    refine W_int ?_
    refine cmp_eq ?_
    (first | refine z_dec (fun h0 => ?_) (fun h0 => ?_) | refine i_dec (fun h0 NI hNI => ?_) (fun h0 NI hNI => ?_) | refine ite_dec (fun h0 => ?_) (fun h0 => ?_))
    ·refine S_assign hc.scope hc.celled (by rfl) ?_
     refine O_list ?_
     refine L_cons ?_
     refine W_int ?_
     refine L_nil ?_
     refine ⟨_, by assumption, by exact Nat.le_of_ble_eq_true rfl, fun _ _ _ => ?_⟩
     refine S_nil ?_
     refine fln_next ?_
     rename_i D' μ4 H4
     exact ⟨D', [0], (Sub.none.put rfl), by decide, by decide, by simp, H4.sel (.cons .head .nil)⟩
    ·refine S_nil ?_
     refine fln_next ?_
     exact ⟨D, ns, (Sub.none.put rfl), by simp at h0; cases ns with | nil => simp at h0 | cons => simp, hnl40, hn0, H2⟩
end
section
variable {w : World}
theorem vs_ints : ∀ {rvs : List Value} {xs : List Int}, IntsAre rvs xs → VsIs (xs.map .int) rvs
  | _, _, .nil => trivial
  | _, _, .cons n t r => ⟨⟨t, rfl⟩, vs_ints r⟩
theorem no_cell : ((fS 51).names.all fun p => p.2 != .cell) = true := by kernel_rfl
theorem law_join (law : ∀ (c : Cx w), At c 11 (fS 51) → ∀ {a : Addr} {xs : List Int} {rvs : List Value}, c.h₀.IsList a (List.toArray rvs) → VsIs (xs.map .int) rvs → xs.length ≤ 1000000 → ∀ {μ : Mu}, WS c (fB 51) (bindM ([Str.ofString "script"].zip [.ref a]) fun _ => none) μ (fun fl _ _ => fl.val = .bool true))
    {s₁ : Shared} {mean : ExcName → Option Value} {mg mb : Str → Option Value} (KX : (KP w.params).In s₁.heap) (T : Top VW LW mean mg mb s₁.heap) {fa : Addr} {cd : Value} {h₁ : Heap} {tk : Nat} {a : Addr} {rvs : List Value} {xs : List Int}
    (hI : IntsAre rvs xs) (hL : s₁.heap.IsList a rvs.toArray) (hx : xs.length ≤ 63) {mm : Str → Option Value} (F : Fr s₁.heap s₁.heap.objs.size h₁ mm) (hmm : mm (Str.ofString "script") = some (.ref a)) {Q : Flow → Shared → Prop} {E : Value → Shared → Prop}
    (hQ : ∀ s', (∀ b o, s₁.heap.get? b = some o → s'.heap.get? b = some o) → s'.os = s₁.os → s'.gens = s₁.gens → Q (.ret (.bool true)) s') :
    wpAny (MM w) (callerA.deeper (envOf d0.name d0.scope s₁.heap.objs.size fa cd)) (execs d0.body (envOf d0.name d0.scope s₁.heap.objs.size fa cd)) Q E ⟨h₁, s₁.gens, s₁.drawn, tk, s₁.os⟩ := by
  let env := envOf d0.name d0.scope s₁.heap.objs.size fa cd
  let c : Cx w := { A := callerA.deeper env, h₀ := s₁.heap, outer := [], fenv := env, env := env, L := s₁.heap.objs.size, mean := mean, mg := mg, mb := mb, gens := s₁.gens, os := s₁.os, E := E, room := 11, PL := fun _ => True, H0 := fun _ => none, X := KX, T := T, hA := rfl, hf := rfl, hfk := by kernel_rfl, hek := by kernel_rfl, heg := rfl, heb := rfl, hh := rfl, hPL := fun _ _ => trivial, hd := (by show callerA.depth + 1 + 8 * 11 + 8 ≤ 1000; decide), hu := (by show callerA.units + 3 + 40 * 11 + 200 ≤ 9900; decide) }
  have hn : s₁.heap.get? s₁.heap.objs.size = none := get_of_lt (Nat.le_refl _)
  have kc : ∀ x, c.env.kindOf x ≠ some .cell := fun x q => by
    have := List.all_eq_true.mp no_cell _ (mem_of_lookup (show (fS 51).names.lookup x = some .cell from q))
    simp at this
  have R : Rel c (fun _ => none) (bindM ([Str.ofString "script"].zip [.ref a]) fun _ => none) (fun _ => none) ⟨h₁, s₁.gens, s₁.drawn, tk, s₁.os⟩ := by
    have only : ∀ x v, (bindM ([Str.ofString "script"].zip [.ref a]) fun _ => none) x = some v → x = Str.ofString "script" ∧ v = .ref a := fun x v e => by
      simp only [List.zip_cons_cons, List.zip_nil_right, bindM, Vars.set] at e
      split at e
      · rename_i q; cases e; exact ⟨q, rfl⟩
      · cases e
    refine ⟨rfl, rfl, F.keep, trivial, hn, ⟨_, F.ns, trivial⟩, hn, ⟨_, F.ns, fun x v e _ => ?_⟩, fun x v e q => ?_, fun x ca e => (nomatch e), fun x y ca e => (nomatch e), fun b hb => (nomatch hb), fun _ _ e => e, fun b o e => (nomatch e), fun b o e => (nomatch e)⟩
    · obtain ⟨rfl, rfl⟩ := only x v e
      exact ⟨_, hmm, rfl⟩
    · obtain ⟨rfl, rfl⟩ := only x v e
      rcases q with q | q
      · exact absurd q (kc _)
      · have : c.env.kindOf (Str.ofString "script") = some .local := by show (fS 51).names.lookup _ = _; kernel_rfl
        rw [this] at q; cases q
  refine wpAny_mono (law c ⟨rfl, rfl, fun x q => absurd q (kc x), rfl⟩ hL (vs_ints hI) (by omega) _ _ R) (fun f s' ⟨fl, m', μ', hf, R', q⟩ => ?_) fun _ _ z => z
  cases fl with
  | next => cases q
  | brk => cases q
  | cont => cases q
  | ret v =>
    have q : v = .bool true := q
    subst q
    obtain ⟨r, rfl, hr⟩ := hf
    cases hr
    exact hQ s' R'.base R'.os R'.gens
end
theorem J : rw0.Holds := hd (by
  intro w s₀ s₁ mg mb G Y fa o pm cd doc dV kV ho hd hcd hD hmg hg args vals as hpre hlay hrd hwl hlo
  have KX := kIn_of Y
  refine Ground.open G ?_
  intro T _ _ _ _
  clear hmg
  wrow_args hpre hlay hrd hwl hlo
  refine enter_call ?_
  w_top on
  refine codeAny_mono ?_ (fun _ _ g => GoodW.toG g)
  w_call any ho hd hcd hD T F
  refine law_join (fun c hc => law_ws hc) KX (by assumption) (by assumption) (by assumption) (by omega) (by assumption) rfl fun s' hk ho' hg' => ⟨.inl ⟨.bool true, .bool true, [], rfl, fun cls => ?_, .bool true, ?_, ?_⟩, hk, ho', hg'.trans hg⟩
  · rfl
  · exact postW_of rfl (w_eq_bool (w_res rfl) w_lit) rfl
  · exact fun _ => ⟨List.nodup_nil, fun _ h => (nomatch h)⟩)
end
end Mine

theorem PySem.Challenge.cw_xw0263_01_holds : PySem.Challenge.rw_xw0263_01.Holds :=
  Mine.J
