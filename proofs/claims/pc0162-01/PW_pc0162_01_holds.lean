import PyProof.Rows.All
import Wide.All
import OpenK.AllK
import Wide.FinOn
import PySem.Challenge.RW_pc0162_01
open PySem PySem.W PyProof.Rows
set_option Elab.async false
set_option maxRecDepth 100000
set_option maxHeartbeats 8000000
namespace Mine
namespace hd
noncomputable section
/-- the text's statements, by place -/
noncomputable def st0 : Stmt := .Pass ⟨0, 0, 0, 0⟩
noncomputable def top (k : Nat) : Stmt := (PySem.Challenge.pw_pc0162_01.main.body[k]?).getD st0
noncomputable def sub (k j : Nat) : Stmt := match top k with
  | .ClassDef _ _ _ b .. => (b[j]?).getD st0
  | _ => st0
noncomputable def nameOf : Stmt → Str
  | .FunctionDef n .. => n
  | _ => ""
noncomputable def argsOf : Stmt → Arguments
  | .FunctionDef _ a .. => a
  | _ => { posonlyargs := [], args := [], vararg := none, kwonlyargs := [], kw_defaults := [], kwarg := none, defaults := [] }
noncomputable def blockOf : Stmt → List Stmt
  | .FunctionDef _ _ b .. => b
  | _ => []
noncomputable def scopeOf : Stmt → Scope
  | .FunctionDef _ _ _ _ _ _ s .. => s
  | _ => { kind := .function, names := [], isGenerator := false, isCoroutine := false }
noncomputable def fnD (st : Stmt) (q : Str) (g : Addr) (cl : List (Str × Addr)) (dV kV doc pm : Value) (an : Option Addr) (cd ct : Value) (b : Addr) : FuncData :=
  ⟨nameOf st, q, argsOf st, .stmts (blockOf st), scopeOf st, g, cl, dV, kV, doc, pm, an, cd, ct, b⟩
noncomputable def en (P : Params) (k v : Value) : DictEntry := ⟨match k with
  | .str x _ => PyData.keyHash P x
  | _ => 0, k, v⟩
/-- what stands when the text's top is through: the objects that the law can come to -/
noncomputable def heap_39 : Params → Frag := fun P =>
  (2, (Obj.mk Value.none Option.none (Data.dict #[(en P (Value.str "type.__subclasses__.Exception.0" 237) (Value.int 45 0)), (en P (Value.str "type.__subclasses__.Exception.n" 238) (Value.int 1 0))] 2) #[])) ::
  (3, (Obj.mk (Value.type "dict") Option.none (Data.dict #[(en P (Value.str "__name__" 165) (Value.str "law_pc0162_01" 451)), (en P (Value.str "__doc__" 166) Value.none), (en P (Value.str "__package__" 167) Value.none), (en P (Value.str "__loader__" 168) (Value.builtin "__main__.__loader__#opaque")), (en P (Value.str "__spec__" 169) Value.none), (en P (Value.str "__annotations__" 170) (Value.ref 6)), (en P (Value.str "__builtins__" 171) (Value.ref 4)), (en P (Value.str "__file__" 173) (Value.str "/claim/cut.py" 172)), (en P (Value.str "__cached__" 174) Value.none), (en P (Value.str "_wall" 193) (Value.ref 21)), (en P (Value.str "unwound" 203) (Value.ref 28)), (en P (Value.str "T_NONE" 208) (Value.int (-1) 207)), (en P (Value.str "T_UPVAL" 210) (Value.int 10 209)), (en P (Value.str "LuaError" 240) (Value.ref 45)), (en P (Value.str "HeapObject" 273) (Value.ref 65)), (en P (Value.str "SIZE_UPVAL" 277) (Value.int 4 276)), (en P (Value.str "UpVal" 336) (Value.ref 115)), (en P (Value.str "Ground" 366) (Value.ref 134)), (en P (Value.str "spot_of" 375) (Value.ref 145)), (en P (Value.str "open_at" 384) (Value.ref 152)), (en P (Value.str "put_open" 392) (Value.ref 159)), (en P (Value.str "find_plain" 401) (Value.ref 166)), (en P (Value.str "take_closed" 411) (Value.ref 173)), (en P (Value.str "ERROR_IN_ERROR" 415) (Value.bytes #[101, 114, 114, 111, 114, 32, 105, 110, 32, 101, 114, 114, 111, 114, 32, 104, 97, 110, 100, 108, 105, 110, 103] 414)), (en P (Value.str "handled" 428) (Value.ref 180)), (en P (Value.str "guarded_work" 438) (Value.ref 187)), (en P (Value.str "taken_back" 450) (Value.ref 194)), (en P (Value.str "_law_deal" 458) (Value.ref 199)), (en P (Value.str "_law_take" 466) (Value.ref 206)), (en P (Value.str "_law_more" 474) (Value.ref 213)), (en P (Value.str "_law_replied" 484) (Value.ref 220)), (en P (Value.str "_law_plan" 490) (Value.ref 225)), (en P (Value.str "_law_guarded" 496) (Value.ref 230)), (en P (Value.str "_law_done" 517) (Value.ref 237)), (en P (Value.str "_law_due" 538) (Value.ref 244)), (en P (Value.str "_law_answered" 551) (Value.ref 251)), (en P (Value.str "law" 557) (Value.ref 256))] 37) #[])) ::
  (15, (Obj.mk (Value.type "tuple") Option.none (Data.seq #[] 0) #[])) ::
  (17, (Obj.mk (Value.type "tuple") Option.none (Data.seq #[(Value.str "k" 190)] 0) #[])) ::
  (18, (Obj.mk (Value.type "tuple") Option.none (Data.seq #[] 0) #[])) ::
  (20, (Obj.mk (Value.type "code") Option.none (Data.fields #[(Value.str "_wall" 187), (Value.str "_wall" 188), (Value.str "/claim/cut.py" 189), (Value.int 1 0), (Value.int 1 0), (Value.int 0 0), (Value.int 0 0), (Value.int 3 0), (Value.ref 15), (Value.bool Bool.true), (Value.int 181 0), (Value.ref 16), Value.none, (Value.ref 17), (Value.ref 18), (Value.ref 19), (Value.int 191 0), (Value.int 1 0), (Value.str "/claim/cut.py" 192)]) #[])) ::
  (21, (Obj.mk (Value.type "function") Option.none (Data.func (fnD (top 0) "_wall" 3 [] Value.none Value.none Value.none (Value.str "__main__" 164) Option.none (Value.ref 20) Value.none 0)) #[])) ::
  (22, (Obj.mk (Value.type "tuple") Option.none (Data.seq #[] 0) #[])) ::
  (24, (Obj.mk (Value.type "tuple") Option.none (Data.seq #[(Value.str "frames" 199), (Value.str "depth" 200)] 0) #[])) ::
  (25, (Obj.mk (Value.type "tuple") Option.none (Data.seq #[] 0) #[])) ::
  (27, (Obj.mk (Value.type "code") Option.none (Data.fields #[(Value.str "unwound" 196), (Value.str "unwound" 197), (Value.str "/claim/cut.py" 198), (Value.int 5 0), (Value.int 2 0), (Value.int 0 0), (Value.int 0 0), (Value.int 3 0), (Value.ref 22), (Value.bool Bool.true), (Value.int 181 0), (Value.ref 23), Value.none, (Value.ref 24), (Value.ref 25), (Value.ref 26), (Value.int 201 0), (Value.int 5 0), (Value.str "/claim/cut.py" 202)]) #[])) ::
  (28, (Obj.mk (Value.type "function") Option.none (Data.func (fnD (top 2) "unwound" 3 [] Value.none Value.none Value.none (Value.str "lua.frames" 194) Option.none (Value.ref 27) Value.none 0)) #[])) ::
  (29, (Obj.mk (Value.type "tuple") Option.none (Data.seq #[(Value.type "Exception")] 0) #[])) ::
  (36, (Obj.mk (Value.type "tuple") Option.none (Data.seq #[] 0) #[])) ::
  (38, (Obj.mk (Value.type "tuple") Option.none (Data.seq #[(Value.str "self" 226), (Value.str "value" 227)] 0) #[])) ::
  (39, (Obj.mk (Value.type "tuple") Option.none (Data.seq #[] 0) #[])) ::
  (41, (Obj.mk (Value.type "code") Option.none (Data.fields #[(Value.str "__init__" 223), (Value.str "LuaError.__init__" 224), (Value.str "/claim/cut.py" 225), (Value.int 13 0), (Value.int 2 0), (Value.int 0 0), (Value.int 0 0), (Value.int 3 0), (Value.ref 36), (Value.bool Bool.true), (Value.int 181 0), (Value.ref 37), Value.none, (Value.ref 38), (Value.ref 39), (Value.ref 40), (Value.int 228 0), (Value.int 13 0), (Value.str "/claim/cut.py" 229)]) #[])) ::
  (42, (Obj.mk (Value.type "function") Option.none (Data.func (fnD (sub 6 0) "LuaError.__init__" 3 [] Value.none Value.none Value.none (Value.str "lua.values" 204) Option.none (Value.ref 41) Value.none 0)) #[])) ::
  (43, (Obj.mk (Value.type "tuple") Option.none (Data.seq #[(Value.str "trace" 231), (Value.str "value" 232)] 0) #[])) ::
  (44, (Obj.mk (Value.type "dict") Option.none (Data.dict #[(en P (Value.str "__module__" 218) (Value.str "lua.values" 204)), (en P (Value.str "__firstlineno__" 222) (Value.int 11 221)), (en P (Value.str "__init__" 230) (Value.ref 42)), (en P (Value.str "__static_attributes__" 233) (Value.ref 43)), (en P (Value.str "__weakref__" 235) (Value.ref 46)), (en P (Value.str "__doc__" 236) Value.none)] 3) #[])) ::
  (45, (Obj.mk (Value.type "type") Option.none (Data.cls (ClassData.mk "LuaError" [(Value.type "Exception")] [(Value.ref 45), (Value.type "Exception"), (Value.type "BaseException"), (Value.type "object")] 44 "LuaError" Bool.true [] [] Bool.false Option.none Bool.false)) #[(Option.some (Value.ref 29)), Option.none, (Option.some (Value.str "LuaError" 211)), (Option.some (Value.str "LuaError" 219)), (Option.some (Value.builtin "Exception.__new__")), (Option.some (Value.bool Bool.true))])) ::
  (46, (Obj.mk (Value.type "getset_descriptor") Option.none (Data.fields #[(Value.str "__weakref__" 234), (Value.ref 45), (Value.builtin "ExceptionGroup.__weakref__"), Value.none]) #[])) ::
  (56, (Obj.mk (Value.type "tuple") Option.none (Data.seq #[] 0) #[])) ::
  (58, (Obj.mk (Value.type "tuple") Option.none (Data.seq #[(Value.str "self" 257), (Value.str "number" 258), (Value.str "size" 259)] 0) #[])) ::
  (59, (Obj.mk (Value.type "tuple") Option.none (Data.seq #[] 0) #[])) ::
  (61, (Obj.mk (Value.type "code") Option.none (Data.fields #[(Value.str "__init__" 254), (Value.str "HeapObject.__init__" 255), (Value.str "/claim/cut.py" 256), (Value.int 19 0), (Value.int 3 0), (Value.int 0 0), (Value.int 0 0), (Value.int 3 0), (Value.ref 56), (Value.bool Bool.true), (Value.int 181 0), (Value.ref 57), Value.none, (Value.ref 58), (Value.ref 59), (Value.ref 60), (Value.int 260 0), (Value.int 19 0), (Value.str "/claim/cut.py" 261)]) #[])) ::
  (62, (Obj.mk (Value.type "function") Option.none (Data.func (fnD (sub 7 1) "HeapObject.__init__" 3 [] Value.none Value.none Value.none (Value.str "lua.values" 204) Option.none (Value.ref 61) Value.none 0)) #[])) ::
  (63, (Obj.mk (Value.type "tuple") Option.none (Data.seq #[(Value.str "mark" 263), (Value.str "number" 264), (Value.str "size" 265)] 0) #[])) ::
  (64, (Obj.mk (Value.type "dict") Option.none (Data.dict #[(en P (Value.str "__module__" 248) (Value.str "lua.values" 204)), (en P (Value.str "__firstlineno__" 252) (Value.int 16 251)), (en P (Value.str "kind" 253) (Value.int (-1) 207)), (en P (Value.str "__init__" 262) (Value.ref 62)), (en P (Value.str "__static_attributes__" 266) (Value.ref 63)), (en P (Value.str "__dict__" 268) (Value.ref 66)), (en P (Value.str "__weakref__" 270) (Value.ref 67)), (en P (Value.str "__doc__" 271) Value.none)] 4) #[])) ::
  (65, (Obj.mk (Value.type "type") Option.none (Data.cls (ClassData.mk "HeapObject" [(Value.type "object")] [(Value.ref 65), (Value.type "object")] 64 "HeapObject" Bool.true [] [(Value.ref 115)] Bool.false Option.none Bool.false)) #[Option.none, Option.none, (Option.some (Value.str "HeapObject" 241)), (Option.some (Value.str "HeapObject" 249)), (Option.some (Value.builtin "object.__new__")), (Option.some (Value.bool Bool.true))])) ::
  (66, (Obj.mk (Value.type "getset_descriptor") Option.none (Data.fields #[(Value.str "__dict__" 267), (Value.ref 65), (Value.builtin "function.__dict__"), (Value.builtin "function.__dict__#set")]) #[])) ::
  (67, (Obj.mk (Value.type "getset_descriptor") Option.none (Data.fields #[(Value.str "__weakref__" 269), (Value.ref 65), (Value.builtin "ExceptionGroup.__weakref__"), Value.none]) #[])) ::
  (70, (Obj.mk (Value.type "tuple") Option.none (Data.seq #[(Value.ref 65)] 0) #[])) ::
  (77, (Obj.mk (Value.type "tuple") Option.none (Data.seq #[] 0) #[])) ::
  (79, (Obj.mk (Value.type "tuple") Option.none (Data.seq #[(Value.str "self" 294), (Value.str "thread" 295), (Value.str "index" 296)] 0) #[])) ::
  (80, (Obj.mk (Value.type "tuple") Option.none (Data.seq #[] 0) #[])) ::
  (82, (Obj.mk (Value.type "code") Option.none (Data.fields #[(Value.str "__init__" 291), (Value.str "UpVal.__init__" 292), (Value.str "/claim/cut.py" 293), (Value.int 28 0), (Value.int 3 0), (Value.int 0 0), (Value.int 0 0), (Value.int 3 0), (Value.ref 77), (Value.bool Bool.true), (Value.int 181 0), (Value.ref 78), Value.none, (Value.ref 79), (Value.ref 80), (Value.ref 81), (Value.int 297 0), (Value.int 28 0), (Value.str "/claim/cut.py" 298)]) #[])) ::
  (83, (Obj.mk (Value.type "function") Option.none (Data.func (fnD (sub 10 1) "UpVal.__init__" 3 [] Value.none Value.none Value.none (Value.str "lua.upvals" 274) Option.none (Value.ref 82) Value.none 0)) #[])) ::
  (84, (Obj.mk (Value.type "tuple") Option.none (Data.seq #[] 0) #[])) ::
  (86, (Obj.mk (Value.type "tuple") Option.none (Data.seq #[(Value.str "self" 303)] 0) #[])) ::
  (87, (Obj.mk (Value.type "tuple") Option.none (Data.seq #[] 0) #[])) ::
  (89, (Obj.mk (Value.type "code") Option.none (Data.fields #[(Value.str "is_open" 300), (Value.str "UpVal.is_open" 301), (Value.str "/claim/cut.py" 302), (Value.int 34 0), (Value.int 1 0), (Value.int 0 0), (Value.int 0 0), (Value.int 3 0), (Value.ref 84), (Value.bool Bool.true), (Value.int 181 0), (Value.ref 85), Value.none, (Value.ref 86), (Value.ref 87), (Value.ref 88), (Value.int 304 0), (Value.int 34 0), (Value.str "/claim/cut.py" 305)]) #[])) ::
  (90, (Obj.mk (Value.type "function") Option.none (Data.func (fnD (sub 10 2) "UpVal.is_open" 3 [] Value.none Value.none Value.none (Value.str "lua.upvals" 274) Option.none (Value.ref 89) Value.none 0)) #[])) ::
  (91, (Obj.mk (Value.type "property") Option.none (Data.fields #[(Value.ref 90), Value.none, Value.none, Value.none, (Value.str "is_open" 307), (Value.bool Bool.false)]) #[])) ::
  (92, (Obj.mk (Value.type "tuple") Option.none (Data.seq #[] 0) #[])) ::
  (94, (Obj.mk (Value.type "tuple") Option.none (Data.seq #[(Value.str "self" 311)] 0) #[])) ::
  (95, (Obj.mk (Value.type "tuple") Option.none (Data.seq #[] 0) #[])) ::
  (97, (Obj.mk (Value.type "code") Option.none (Data.fields #[(Value.str "get" 308), (Value.str "UpVal.get" 309), (Value.str "/claim/cut.py" 310), (Value.int 38 0), (Value.int 1 0), (Value.int 0 0), (Value.int 0 0), (Value.int 3 0), (Value.ref 92), (Value.bool Bool.true), (Value.int 181 0), (Value.ref 93), Value.none, (Value.ref 94), (Value.ref 95), (Value.ref 96), (Value.int 312 0), (Value.int 38 0), (Value.str "/claim/cut.py" 313)]) #[])) ::
  (98, (Obj.mk (Value.type "function") Option.none (Data.func (fnD (sub 10 3) "UpVal.get" 3 [] Value.none Value.none Value.none (Value.str "lua.upvals" 274) Option.none (Value.ref 97) Value.none 0)) #[])) ::
  (99, (Obj.mk (Value.type "tuple") Option.none (Data.seq #[] 0) #[])) ::
  (101, (Obj.mk (Value.type "tuple") Option.none (Data.seq #[(Value.str "self" 318), (Value.str "value" 319)] 0) #[])) ::
  (102, (Obj.mk (Value.type "tuple") Option.none (Data.seq #[] 0) #[])) ::
  (104, (Obj.mk (Value.type "code") Option.none (Data.fields #[(Value.str "set" 315), (Value.str "UpVal.set" 316), (Value.str "/claim/cut.py" 317), (Value.int 43 0), (Value.int 2 0), (Value.int 0 0), (Value.int 0 0), (Value.int 3 0), (Value.ref 99), (Value.bool Bool.true), (Value.int 181 0), (Value.ref 100), Value.none, (Value.ref 101), (Value.ref 102), (Value.ref 103), (Value.int 320 0), (Value.int 43 0), (Value.str "/claim/cut.py" 321)]) #[])) ::
  (105, (Obj.mk (Value.type "function") Option.none (Data.func (fnD (sub 10 4) "UpVal.set" 3 [] Value.none Value.none Value.none (Value.str "lua.upvals" 274) Option.none (Value.ref 104) Value.none 0)) #[])) ::
  (106, (Obj.mk (Value.type "tuple") Option.none (Data.seq #[] 0) #[])) ::
  (108, (Obj.mk (Value.type "tuple") Option.none (Data.seq #[(Value.str "self" 326)] 0) #[])) ::
  (109, (Obj.mk (Value.type "tuple") Option.none (Data.seq #[] 0) #[])) ::
  (111, (Obj.mk (Value.type "code") Option.none (Data.fields #[(Value.str "close" 323), (Value.str "UpVal.close" 324), (Value.str "/claim/cut.py" 325), (Value.int 46 0), (Value.int 1 0), (Value.int 0 0), (Value.int 0 0), (Value.int 3 0), (Value.ref 106), (Value.bool Bool.true), (Value.int 181 0), (Value.ref 107), Value.none, (Value.ref 108), (Value.ref 109), (Value.ref 110), (Value.int 327 0), (Value.int 46 0), (Value.str "/claim/cut.py" 328)]) #[])) ::
  (112, (Obj.mk (Value.type "function") Option.none (Data.func (fnD (sub 10 5) "UpVal.close" 3 [] Value.none Value.none Value.none (Value.str "lua.upvals" 274) Option.none (Value.ref 111) Value.none 0)) #[])) ::
  (113, (Obj.mk (Value.type "tuple") Option.none (Data.seq #[(Value.str "index" 330), (Value.str "thread" 331), (Value.str "value" 332)] 0) #[])) ::
  (114, (Obj.mk (Value.type "dict") Option.none (Data.dict #[(en P (Value.str "__module__" 285) (Value.str "lua.upvals" 274)), (en P (Value.str "__firstlineno__" 289) (Value.int 25 288)), (en P (Value.str "kind" 290) (Value.int 10 209)), (en P (Value.str "__init__" 299) (Value.ref 83)), (en P (Value.str "is_open" 307) (Value.ref 91)), (en P (Value.str "get" 314) (Value.ref 98)), (en P (Value.str "set" 322) (Value.ref 105)), (en P (Value.str "close" 329) (Value.ref 112)), (en P (Value.str "__static_attributes__" 333) (Value.ref 113)), (en P (Value.str "__doc__" 334) Value.none)] 2) #[])) ::
  (115, (Obj.mk (Value.type "type") Option.none (Data.cls (ClassData.mk "UpVal" [(Value.ref 65)] [(Value.ref 115), (Value.ref 65), (Value.type "object")] 114 "UpVal" Bool.true [] [] Bool.false Option.none Bool.false)) #[(Option.some (Value.ref 70)), Option.none, (Option.some (Value.str "UpVal" 278)), (Option.some (Value.str "UpVal" 286)), (Option.some (Value.builtin "object.__new__")), (Option.some (Value.bool Bool.true))])) ::
  (125, (Obj.mk (Value.type "tuple") Option.none (Data.seq #[] 0) #[])) ::
  (127, (Obj.mk (Value.type "tuple") Option.none (Data.seq #[(Value.str "self" 352), (Value.str "values" 353)] 0) #[])) ::
  (128, (Obj.mk (Value.type "tuple") Option.none (Data.seq #[] 0) #[])) ::
  (130, (Obj.mk (Value.type "code") Option.none (Data.fields #[(Value.str "__init__" 349), (Value.str "Ground.__init__" 350), (Value.str "/claim/cut.py" 351), (Value.int 53 0), (Value.int 2 0), (Value.int 0 0), (Value.int 0 0), (Value.int 3 0), (Value.ref 125), (Value.bool Bool.true), (Value.int 181 0), (Value.ref 126), Value.none, (Value.ref 127), (Value.ref 128), (Value.ref 129), (Value.int 354 0), (Value.int 53 0), (Value.str "/claim/cut.py" 355)]) #[])) ::
  (131, (Obj.mk (Value.type "function") Option.none (Data.func (fnD (sub 11 0) "Ground.__init__" 3 [] Value.none Value.none Value.none (Value.str "lua.upvals" 274) Option.none (Value.ref 130) Value.none 0)) #[])) ::
  (132, (Obj.mk (Value.type "tuple") Option.none (Data.seq #[(Value.str "open_upvals" 357), (Value.str "stack" 358)] 0) #[])) ::
  (133, (Obj.mk (Value.type "dict") Option.none (Data.dict #[(en P (Value.str "__module__" 344) (Value.str "lua.upvals" 274)), (en P (Value.str "__firstlineno__" 348) (Value.int 51 347)), (en P (Value.str "__init__" 356) (Value.ref 131)), (en P (Value.str "__static_attributes__" 359) (Value.ref 132)), (en P (Value.str "__dict__" 361) (Value.ref 135)), (en P (Value.str "__weakref__" 363) (Value.ref 136)), (en P (Value.str "__doc__" 364) Value.none)] 4) #[])) ::
  (134, (Obj.mk (Value.type "type") Option.none (Data.cls (ClassData.mk "Ground" [(Value.type "object")] [(Value.ref 134), (Value.type "object")] 133 "Ground" Bool.true [] [] Bool.false Option.none Bool.false)) #[Option.none, Option.none, (Option.some (Value.str "Ground" 337)), (Option.some (Value.str "Ground" 345)), (Option.some (Value.builtin "object.__new__")), (Option.some (Value.bool Bool.true))])) ::
  (135, (Obj.mk (Value.type "getset_descriptor") Option.none (Data.fields #[(Value.str "__dict__" 360), (Value.ref 134), (Value.builtin "function.__dict__"), (Value.builtin "function.__dict__#set")]) #[])) ::
  (136, (Obj.mk (Value.type "getset_descriptor") Option.none (Data.fields #[(Value.str "__weakref__" 362), (Value.ref 134), (Value.builtin "ExceptionGroup.__weakref__"), Value.none]) #[])) ::
  (139, (Obj.mk (Value.type "tuple") Option.none (Data.seq #[] 0) #[])) ::
  (141, (Obj.mk (Value.type "tuple") Option.none (Data.seq #[(Value.str "owner" 370), (Value.str "index" 371), (Value.str "at" 372)] 0) #[])) ::
  (142, (Obj.mk (Value.type "tuple") Option.none (Data.seq #[] 0) #[])) ::
  (144, (Obj.mk (Value.type "code") Option.none (Data.fields #[(Value.str "spot_of" 367), (Value.str "spot_of" 368), (Value.str "/claim/cut.py" 369), (Value.int 56 0), (Value.int 2 0), (Value.int 0 0), (Value.int 0 0), (Value.int 3 0), (Value.ref 139), (Value.bool Bool.true), (Value.int 181 0), (Value.ref 140), Value.none, (Value.ref 141), (Value.ref 142), (Value.ref 143), (Value.int 373 0), (Value.int 56 0), (Value.str "/claim/cut.py" 374)]) #[])) ::
  (145, (Obj.mk (Value.type "function") Option.none (Data.func (fnD (top 12) "spot_of" 3 [] Value.none Value.none Value.none (Value.str "lua.upvals" 274) Option.none (Value.ref 144) Value.none 0)) #[])) ::
  (146, (Obj.mk (Value.type "tuple") Option.none (Data.seq #[] 0) #[])) ::
  (148, (Obj.mk (Value.type "tuple") Option.none (Data.seq #[(Value.str "owner" 379), (Value.str "index" 380), (Value.str "at" 381)] 0) #[])) ::
  (149, (Obj.mk (Value.type "tuple") Option.none (Data.seq #[] 0) #[])) ::
  (151, (Obj.mk (Value.type "code") Option.none (Data.fields #[(Value.str "open_at" 376), (Value.str "open_at" 377), (Value.str "/claim/cut.py" 378), (Value.int 61 0), (Value.int 2 0), (Value.int 0 0), (Value.int 0 0), (Value.int 3 0), (Value.ref 146), (Value.bool Bool.true), (Value.int 181 0), (Value.ref 147), Value.none, (Value.ref 148), (Value.ref 149), (Value.ref 150), (Value.int 382 0), (Value.int 61 0), (Value.str "/claim/cut.py" 383)]) #[])) ::
  (152, (Obj.mk (Value.type "function") Option.none (Data.func (fnD (top 13) "open_at" 3 [] Value.none Value.none Value.none (Value.str "lua.upvals" 274) Option.none (Value.ref 151) Value.none 0)) #[])) ::
  (153, (Obj.mk (Value.type "tuple") Option.none (Data.seq #[] 0) #[])) ::
  (155, (Obj.mk (Value.type "tuple") Option.none (Data.seq #[(Value.str "owner" 388), (Value.str "upval" 389)] 0) #[])) ::
  (156, (Obj.mk (Value.type "tuple") Option.none (Data.seq #[] 0) #[])) ::
  (158, (Obj.mk (Value.type "code") Option.none (Data.fields #[(Value.str "put_open" 385), (Value.str "put_open" 386), (Value.str "/claim/cut.py" 387), (Value.int 66 0), (Value.int 2 0), (Value.int 0 0), (Value.int 0 0), (Value.int 3 0), (Value.ref 153), (Value.bool Bool.true), (Value.int 181 0), (Value.ref 154), Value.none, (Value.ref 155), (Value.ref 156), (Value.ref 157), (Value.int 390 0), (Value.int 66 0), (Value.str "/claim/cut.py" 391)]) #[])) ::
  (159, (Obj.mk (Value.type "function") Option.none (Data.func (fnD (top 14) "put_open" 3 [] Value.none Value.none Value.none (Value.str "lua.upvals" 274) Option.none (Value.ref 158) Value.none 0)) #[])) ::
  (160, (Obj.mk (Value.type "tuple") Option.none (Data.seq #[] 0) #[])) ::
  (162, (Obj.mk (Value.type "tuple") Option.none (Data.seq #[(Value.str "owner" 396), (Value.str "index" 397), (Value.str "found" 398)] 0) #[])) ::
  (163, (Obj.mk (Value.type "tuple") Option.none (Data.seq #[] 0) #[])) ::
  (165, (Obj.mk (Value.type "code") Option.none (Data.fields #[(Value.str "find_plain" 393), (Value.str "find_plain" 394), (Value.str "/claim/cut.py" 395), (Value.int 68 0), (Value.int 2 0), (Value.int 0 0), (Value.int 0 0), (Value.int 3 0), (Value.ref 160), (Value.bool Bool.true), (Value.int 181 0), (Value.ref 161), Value.none, (Value.ref 162), (Value.ref 163), (Value.ref 164), (Value.int 399 0), (Value.int 68 0), (Value.str "/claim/cut.py" 400)]) #[])) ::
  (166, (Obj.mk (Value.type "function") Option.none (Data.func (fnD (top 15) "find_plain" 3 [] Value.none Value.none Value.none (Value.str "lua.upvals" 274) Option.none (Value.ref 165) Value.none 0)) #[])) ::
  (167, (Obj.mk (Value.type "tuple") Option.none (Data.seq #[] 0) #[])) ::
  (169, (Obj.mk (Value.type "tuple") Option.none (Data.seq #[(Value.str "owner" 405), (Value.str "level" 406), (Value.str "found" 407), (Value.str "upval" 408)] 0) #[])) ::
  (170, (Obj.mk (Value.type "tuple") Option.none (Data.seq #[] 0) #[])) ::
  (172, (Obj.mk (Value.type "code") Option.none (Data.fields #[(Value.str "take_closed" 402), (Value.str "take_closed" 403), (Value.str "/claim/cut.py" 404), (Value.int 74 0), (Value.int 2 0), (Value.int 0 0), (Value.int 0 0), (Value.int 3 0), (Value.ref 167), (Value.bool Bool.true), (Value.int 181 0), (Value.ref 168), Value.none, (Value.ref 169), (Value.ref 170), (Value.ref 171), (Value.int 409 0), (Value.int 74 0), (Value.str "/claim/cut.py" 410)]) #[])) ::
  (173, (Obj.mk (Value.type "function") Option.none (Data.func (fnD (top 16) "take_closed" 3 [] Value.none Value.none Value.none (Value.str "lua.upvals" 274) Option.none (Value.ref 172) Value.none 0)) #[])) ::
  (174, (Obj.mk (Value.type "tuple") Option.none (Data.seq #[] 0) #[])) ::
  (176, (Obj.mk (Value.type "tuple") Option.none (Data.seq #[(Value.str "holder" 419), (Value.str "handling" 420), (Value.str "value" 421), (Value.str "reply" 422), (Value.str "most" 423), (Value.str "tries" 424), (Value.str "other" 425)] 0) #[])) ::
  (177, (Obj.mk (Value.type "tuple") Option.none (Data.seq #[] 0) #[])) ::
  (179, (Obj.mk (Value.type "code") Option.none (Data.fields #[(Value.str "handled" 416), (Value.str "handled" 417), (Value.str "/claim/cut.py" 418), (Value.int 83 0), (Value.int 3 0), (Value.int 0 0), (Value.int 0 0), (Value.int 3 0), (Value.ref 174), (Value.bool Bool.true), (Value.int 181 0), (Value.ref 175), Value.none, (Value.ref 176), (Value.ref 177), (Value.ref 178), (Value.int 426 0), (Value.int 83 0), (Value.str "/claim/cut.py" 427)]) #[])) ::
  (180, (Obj.mk (Value.type "function") Option.none (Data.func (fnD (top 19) "handled" 3 [] Value.none Value.none Value.none (Value.str "lua.guards" 412) Option.none (Value.ref 179) Value.none 0)) #[])) ::
  (181, (Obj.mk (Value.type "tuple") Option.none (Data.seq #[] 0) #[])) ::
  (183, (Obj.mk (Value.type "tuple") Option.none (Data.seq #[(Value.str "holder" 432), (Value.str "work" 433), (Value.str "handling" 434), (Value.str "error" 435)] 0) #[])) ::
  (184, (Obj.mk (Value.type "tuple") Option.none (Data.seq #[] 0) #[])) ::
  (186, (Obj.mk (Value.type "code") Option.none (Data.fields #[(Value.str "guarded_work" 429), (Value.str "guarded_work" 430), (Value.str "/claim/cut.py" 431), (Value.int 95 0), (Value.int 3 0), (Value.int 0 0), (Value.int 0 0), (Value.int 3 0), (Value.ref 181), (Value.bool Bool.true), (Value.int 181 0), (Value.ref 182), Value.none, (Value.ref 183), (Value.ref 184), (Value.ref 185), (Value.int 436 0), (Value.int 95 0), (Value.str "/claim/cut.py" 437)]) #[])) ::
  (187, (Obj.mk (Value.type "function") Option.none (Data.func (fnD (top 20) "guarded_work" 3 [] Value.none Value.none Value.none (Value.str "lua.guards" 412) Option.none (Value.ref 186) Value.none 0)) #[])) ::
  (188, (Obj.mk (Value.type "tuple") Option.none (Data.seq #[] 0) #[])) ::
  (190, (Obj.mk (Value.type "tuple") Option.none (Data.seq #[(Value.str "holder" 442), (Value.str "depth" 443), (Value.str "ccalls" 444), (Value.str "handling" 445), (Value.str "top" 446), (Value.str "closed" 447)] 0) #[])) ::
  (191, (Obj.mk (Value.type "tuple") Option.none (Data.seq #[] 0) #[])) ::
  (193, (Obj.mk (Value.type "code") Option.none (Data.fields #[(Value.str "taken_back" 439), (Value.str "taken_back" 440), (Value.str "/claim/cut.py" 441), (Value.int 101 0), (Value.int 5 0), (Value.int 0 0), (Value.int 0 0), (Value.int 3 0), (Value.ref 188), (Value.bool Bool.true), (Value.int 181 0), (Value.ref 189), Value.none, (Value.ref 190), (Value.ref 191), (Value.ref 192), (Value.int 448 0), (Value.int 101 0), (Value.str "/claim/cut.py" 449)]) #[])) ::
  (194, (Obj.mk (Value.type "function") Option.none (Data.func (fnD (top 21) "taken_back" 3 [] Value.none Value.none Value.none (Value.str "lua.guards" 412) Option.none (Value.ref 193) Value.none 0)) #[])) ::
  (195, (Obj.mk (Value.type "tuple") Option.none (Data.seq #[] 0) #[])) ::
  (198, (Obj.mk (Value.type "code") Option.none (Data.fields #[(Value.str "_law_deal" 453), (Value.str "_law_deal" 454), (Value.str "/claim/cut.py" 455), (Value.int 109 0), (Value.int 1 0), (Value.int 0 0), (Value.int 0 0), (Value.int 3 0), (Value.ref 195), (Value.bool Bool.true), (Value.int 181 0), (Value.ref 196), Value.none, Value.none, Value.none, (Value.ref 197), (Value.int 456 0), (Value.int 109 0), (Value.str "/claim/cut.py" 457)]) #[])) ::
  (199, (Obj.mk (Value.type "function") Option.none (Data.func (fnD (top 23) "_law_deal" 3 [] Value.none Value.none Value.none (Value.str "law_pc0162_01" 451) Option.none (Value.ref 198) Value.none 0)) #[])) ::
  (200, (Obj.mk (Value.type "tuple") Option.none (Data.seq #[] 0) #[])) ::
  (202, (Obj.mk (Value.type "tuple") Option.none (Data.seq #[(Value.str "deal" 462), (Value.str "many" 463)] 0) #[])) ::
  (203, (Obj.mk (Value.type "tuple") Option.none (Data.seq #[] 0) #[])) ::
  (205, (Obj.mk (Value.type "code") Option.none (Data.fields #[(Value.str "_law_take" 459), (Value.str "_law_take" 460), (Value.str "/claim/cut.py" 461), (Value.int 115 0), (Value.int 2 0), (Value.int 0 0), (Value.int 0 0), (Value.int 3 0), (Value.ref 200), (Value.bool Bool.true), (Value.int 181 0), (Value.ref 201), Value.none, (Value.ref 202), (Value.ref 203), (Value.ref 204), (Value.int 464 0), (Value.int 115 0), (Value.str "/claim/cut.py" 465)]) #[])) ::
  (206, (Obj.mk (Value.type "function") Option.none (Data.func (fnD (top 24) "_law_take" 3 [] Value.none Value.none Value.none (Value.str "law_pc0162_01" 451) Option.none (Value.ref 205) Value.none 0)) #[])) ::
  (207, (Obj.mk (Value.type "tuple") Option.none (Data.seq #[] 0) #[])) ::
  (209, (Obj.mk (Value.type "tuple") Option.none (Data.seq #[(Value.str "value" 470), (Value.str "more" 471)] 0) #[])) ::
  (210, (Obj.mk (Value.type "tuple") Option.none (Data.seq #[] 0) #[])) ::
  (212, (Obj.mk (Value.type "code") Option.none (Data.fields #[(Value.str "_law_more" 467), (Value.str "_law_more" 468), (Value.str "/claim/cut.py" 469), (Value.int 121 0), (Value.int 2 0), (Value.int 0 0), (Value.int 0 0), (Value.int 3 0), (Value.ref 207), (Value.bool Bool.true), (Value.int 181 0), (Value.ref 208), Value.none, (Value.ref 209), (Value.ref 210), (Value.ref 211), (Value.int 472 0), (Value.int 121 0), (Value.str "/claim/cut.py" 473)]) #[])) ::
  (213, (Obj.mk (Value.type "function") Option.none (Data.func (fnD (top 25) "_law_more" 3 [] Value.none Value.none Value.none (Value.str "law_pc0162_01" 451) Option.none (Value.ref 212) Value.none 0)) #[])) ::
  (214, (Obj.mk (Value.type "tuple") Option.none (Data.seq #[] 0) #[])) ::
  (216, (Obj.mk (Value.type "tuple") Option.none (Data.seq #[(Value.str "world" 478), (Value.str "times" 479), (Value.str "holder" 480), (Value.str "value" 481)] 0) #[])) ::
  (217, (Obj.mk (Value.type "tuple") Option.none (Data.seq #[] 0) #[])) ::
  (219, (Obj.mk (Value.type "code") Option.none (Data.fields #[(Value.str "_law_replied" 475), (Value.str "_law_replied" 476), (Value.str "/claim/cut.py" 477), (Value.int 123 0), (Value.int 4 0), (Value.int 0 0), (Value.int 0 0), (Value.int 3 0), (Value.ref 214), (Value.bool Bool.true), (Value.int 181 0), (Value.ref 215), Value.none, (Value.ref 216), (Value.ref 217), (Value.ref 218), (Value.int 482 0), (Value.int 123 0), (Value.str "/claim/cut.py" 483)]) #[])) ::
  (220, (Obj.mk (Value.type "function") Option.none (Data.func (fnD (top 26) "_law_replied" 3 [] Value.none Value.none Value.none (Value.str "law_pc0162_01" 451) Option.none (Value.ref 219) Value.none 0)) #[])) ::
  (221, (Obj.mk (Value.type "tuple") Option.none (Data.seq #[] 0) #[])) ::
  (224, (Obj.mk (Value.type "code") Option.none (Data.fields #[(Value.str "_law_plan" 485), (Value.str "_law_plan" 486), (Value.str "/claim/cut.py" 487), (Value.int 129 0), (Value.int 2 0), (Value.int 0 0), (Value.int 0 0), (Value.int 3 0), (Value.ref 221), (Value.bool Bool.true), (Value.int 181 0), (Value.ref 222), Value.none, Value.none, Value.none, (Value.ref 223), (Value.int 488 0), (Value.int 129 0), (Value.str "/claim/cut.py" 489)]) #[])) ::
  (225, (Obj.mk (Value.type "function") Option.none (Data.func (fnD (top 27) "_law_plan" 3 [] Value.none Value.none Value.none (Value.str "law_pc0162_01" 451) Option.none (Value.ref 224) Value.none 0)) #[])) ::
  (226, (Obj.mk (Value.type "tuple") Option.none (Data.seq #[] 0) #[])) ::
  (229, (Obj.mk (Value.type "code") Option.none (Data.fields #[(Value.str "_law_guarded" 491), (Value.str "_law_guarded" 492), (Value.str "/claim/cut.py" 493), (Value.int 136 0), (Value.int 3 0), (Value.int 0 0), (Value.int 0 0), (Value.int 3 0), (Value.ref 226), (Value.bool Bool.true), (Value.int 181 0), (Value.ref 227), Value.none, Value.none, Value.none, (Value.ref 228), (Value.int 494 0), (Value.int 136 0), (Value.str "/claim/cut.py" 495)]) #[])) ::
  (230, (Obj.mk (Value.type "function") Option.none (Data.func (fnD (top 28) "_law_guarded" 3 [] Value.none Value.none Value.none (Value.str "law_pc0162_01" 451) Option.none (Value.ref 229) Value.none 0)) #[])) ::
  (231, (Obj.mk (Value.type "tuple") Option.none (Data.seq #[] 0) #[])) ::
  (233, (Obj.mk (Value.type "tuple") Option.none (Data.seq #[(Value.str "world" 500), (Value.str "at" 501), (Value.str "frames" 502), (Value.str "calls" 503), (Value.str "places" 504), (Value.str "elder" 505), (Value.str "kind" 506), (Value.str "is_anew" 507), (Value.str "end" 508), (Value.str "holder" 509), (Value.str "depth" 510), (Value.str "top" 511), (Value.str "turn" 512), (Value.str "spot" 513), (Value.str "told" 514)] 0) #[])) ::
  (234, (Obj.mk (Value.type "tuple") Option.none (Data.seq #[] 0) #[])) ::
  (236, (Obj.mk (Value.type "code") Option.none (Data.fields #[(Value.str "_law_done" 497), (Value.str "_law_done" 498), (Value.str "/claim/cut.py" 499), (Value.int 153 0), (Value.int 2 0), (Value.int 0 0), (Value.int 0 0), (Value.int 3 0), (Value.ref 231), (Value.bool Bool.true), (Value.int 181 0), (Value.ref 232), Value.none, (Value.ref 233), (Value.ref 234), (Value.ref 235), (Value.int 515 0), (Value.int 153 0), (Value.str "/claim/cut.py" 516)]) #[])) ::
  (237, (Obj.mk (Value.type "function") Option.none (Data.func (fnD (top 29) "_law_done" 3 [] Value.none Value.none Value.none (Value.str "law_pc0162_01" 451) Option.none (Value.ref 236) Value.none 0)) #[])) ::
  (238, (Obj.mk (Value.type "tuple") Option.none (Data.seq #[] 0) #[])) ::
  (240, (Obj.mk (Value.type "tuple") Option.none (Data.seq #[(Value.str "world" 521), (Value.str "at" 522), (Value.str "ccalls" 523), (Value.str "frames" 524), (Value.str "handling" 525), (Value.str "more" 526), (Value.str "calls" 527), (Value.str "places" 528), (Value.str "elder" 529), (Value.str "kind" 530), (Value.str "is_anew" 531), (Value.str "end" 532), (Value.str "value" 533), (Value.str "deep" 534), (Value.str "many" 535)] 0) #[])) ::
  (241, (Obj.mk (Value.type "tuple") Option.none (Data.seq #[] 0) #[])) ::
  (243, (Obj.mk (Value.type "code") Option.none (Data.fields #[(Value.str "_law_due" 518), (Value.str "_law_due" 519), (Value.str "/claim/cut.py" 520), (Value.int 174 0), (Value.int 5 0), (Value.int 0 0), (Value.int 0 0), (Value.int 3 0), (Value.ref 238), (Value.bool Bool.true), (Value.int 181 0), (Value.ref 239), Value.none, (Value.ref 240), (Value.ref 241), (Value.ref 242), (Value.int 536 0), (Value.int 174 0), (Value.str "/claim/cut.py" 537)]) #[])) ::
  (244, (Obj.mk (Value.type "function") Option.none (Data.func (fnD (top 30) "_law_due" 3 [] Value.none Value.none Value.none (Value.str "law_pc0162_01" 451) Option.none (Value.ref 243) Value.none 0)) #[])) ::
  (245, (Obj.mk (Value.type "tuple") Option.none (Data.seq #[] 0) #[])) ::
  (247, (Obj.mk (Value.type "tuple") Option.none (Data.seq #[(Value.str "world" 542), (Value.str "value" 543), (Value.str "kind" 544), (Value.str "deep" 545), (Value.str "many" 546), (Value.str "handling" 547), (Value.str "turn" 548)] 0) #[])) ::
  (248, (Obj.mk (Value.type "tuple") Option.none (Data.seq #[] 0) #[])) ::
  (250, (Obj.mk (Value.type "code") Option.none (Data.fields #[(Value.str "_law_answered" 539), (Value.str "_law_answered" 540), (Value.str "/claim/cut.py" 541), (Value.int 185 0), (Value.int 6 0), (Value.int 0 0), (Value.int 0 0), (Value.int 3 0), (Value.ref 245), (Value.bool Bool.true), (Value.int 181 0), (Value.ref 246), Value.none, (Value.ref 247), (Value.ref 248), (Value.ref 249), (Value.int 549 0), (Value.int 185 0), (Value.str "/claim/cut.py" 550)]) #[])) ::
  (251, (Obj.mk (Value.type "function") Option.none (Data.func (fnD (top 31) "_law_answered" 3 [] Value.none Value.none Value.none (Value.str "law_pc0162_01" 451) Option.none (Value.ref 250) Value.none 0)) #[])) ::
  (252, (Obj.mk (Value.type "tuple") Option.none (Data.seq #[] 0) #[])) ::
  (255, (Obj.mk (Value.type "code") Option.none (Data.fields #[(Value.str "law" 552), (Value.str "law" 553), (Value.str "/claim/cut.py" 554), (Value.int 192 0), (Value.int 1 0), (Value.int 0 0), (Value.int 0 0), (Value.int 3 0), (Value.ref 252), (Value.bool Bool.true), (Value.int 181 0), (Value.ref 253), Value.none, Value.none, Value.none, (Value.ref 254), (Value.int 555 0), (Value.int 192 0), (Value.str "/claim/cut.py" 556)]) #[])) ::
  (256, (Obj.mk (Value.type "function") Option.none (Data.func (fnD (top 32) "law" 3 [] Value.none Value.none Value.none (Value.str "law_pc0162_01" 451) Option.none (Value.ref 255) Value.none 0)) #[])) :: []
noncomputable def view_39 : Program := { PySem.Challenge.pw_pc0162_01 with main := { PySem.Challenge.pw_pc0162_01.main with body := [0, 2, 4, 5, 6, 7, 9, 10, 11, 12, 13, 14, 15, 16, 18, 19, 20, 21, 23, 24, 25, 26, 27, 28, 29, 30, 31, 32].map top } }
end
end hd
end Mine

open PySem PySem.W PyProof.Rows PySem.Calls
set_option Elab.async false
set_option maxRecDepth 100000
set_option maxHeartbeats 8000000
namespace Mine
namespace hd
/-- all the objects that stand behind the text's top -/
noncomputable def objs : Params → List Obj := fun P =>
  (PySem.W.boot_o_0 P) ::
  (PySem.W.boot_o_1 P) ::
  (Obj.mk Value.none Option.none (Data.dict #[(en P (Value.str "type.__subclasses__.Exception.0" 237) (Value.int 45 0)), (en P (Value.str "type.__subclasses__.Exception.n" 238) (Value.int 1 0))] 2) #[]) ::
  (Obj.mk (Value.type "dict") Option.none (Data.dict #[(en P (Value.str "__name__" 165) (Value.str "law_pc0162_01" 451)), (en P (Value.str "__doc__" 166) Value.none), (en P (Value.str "__package__" 167) Value.none), (en P (Value.str "__loader__" 168) (Value.builtin "__main__.__loader__#opaque")), (en P (Value.str "__spec__" 169) Value.none), (en P (Value.str "__annotations__" 170) (Value.ref 6)), (en P (Value.str "__builtins__" 171) (Value.ref 4)), (en P (Value.str "__file__" 173) (Value.str "/claim/cut.py" 172)), (en P (Value.str "__cached__" 174) Value.none), (en P (Value.str "_wall" 193) (Value.ref 21)), (en P (Value.str "unwound" 203) (Value.ref 28)), (en P (Value.str "T_NONE" 208) (Value.int (-1) 207)), (en P (Value.str "T_UPVAL" 210) (Value.int 10 209)), (en P (Value.str "LuaError" 240) (Value.ref 45)), (en P (Value.str "HeapObject" 273) (Value.ref 65)), (en P (Value.str "SIZE_UPVAL" 277) (Value.int 4 276)), (en P (Value.str "UpVal" 336) (Value.ref 115)), (en P (Value.str "Ground" 366) (Value.ref 134)), (en P (Value.str "spot_of" 375) (Value.ref 145)), (en P (Value.str "open_at" 384) (Value.ref 152)), (en P (Value.str "put_open" 392) (Value.ref 159)), (en P (Value.str "find_plain" 401) (Value.ref 166)), (en P (Value.str "take_closed" 411) (Value.ref 173)), (en P (Value.str "ERROR_IN_ERROR" 415) (Value.bytes #[101, 114, 114, 111, 114, 32, 105, 110, 32, 101, 114, 114, 111, 114, 32, 104, 97, 110, 100, 108, 105, 110, 103] 414)), (en P (Value.str "handled" 428) (Value.ref 180)), (en P (Value.str "guarded_work" 438) (Value.ref 187)), (en P (Value.str "taken_back" 450) (Value.ref 194)), (en P (Value.str "_law_deal" 458) (Value.ref 199)), (en P (Value.str "_law_take" 466) (Value.ref 206)), (en P (Value.str "_law_more" 474) (Value.ref 213)), (en P (Value.str "_law_replied" 484) (Value.ref 220)), (en P (Value.str "_law_plan" 490) (Value.ref 225)), (en P (Value.str "_law_guarded" 496) (Value.ref 230)), (en P (Value.str "_law_done" 517) (Value.ref 237)), (en P (Value.str "_law_due" 538) (Value.ref 244)), (en P (Value.str "_law_answered" 551) (Value.ref 251)), (en P (Value.str "law" 557) (Value.ref 256))] 37) #[]) ::
  (PySem.W.boot_o_4 P) ::
  (PySem.W.boot_o_5 P) ::
  (PySem.W.boot_o_6 P) ::
  (PySem.W.boot_o_7 P) ::
  (PySem.W.boot_o_8 P) ::
  (PySem.W.boot_o_9 P) ::
  (PySem.W.boot_o_10 P) ::
  (Obj.mk (Value.type "tuple") Option.none (Data.seq #[] 0) #[]) ::
  (Obj.mk Value.none Option.none (Data.fields #[(Value.int 1 0), (Value.int 0 0), (Value.ref 20), (Value.int 5 0), (Value.int 0 0), (Value.ref 27), (Value.int 11 0), (Value.int 0 0), (Value.ref 34), (Value.int 16 0), (Value.int 0 0), (Value.ref 54), (Value.int 25 0), (Value.int 0 0), (Value.ref 75), (Value.int 51 0), (Value.int 0 0), (Value.ref 123), (Value.int 56 0), (Value.int 0 0), (Value.ref 144), (Value.int 61 0), (Value.int 0 0), (Value.ref 151), (Value.int 66 0), (Value.int 0 0), (Value.ref 158), (Value.int 68 0), (Value.int 0 0), (Value.ref 165), (Value.int 74 0), (Value.int 0 0), (Value.ref 172), (Value.int 83 0), (Value.int 0 0), (Value.ref 179), (Value.int 95 0), (Value.int 0 0), (Value.ref 186), (Value.int 101 0), (Value.int 0 0), (Value.ref 193), (Value.int 109 0), (Value.int 0 0), (Value.ref 198), (Value.int 115 0), (Value.int 0 0), (Value.ref 205), (Value.int 121 0), (Value.int 0 0), (Value.ref 212), (Value.int 123 0), (Value.int 0 0), (Value.ref 219), (Value.int 129 0), (Value.int 0 0), (Value.ref 224), (Value.int 136 0), (Value.int 0 0), (Value.ref 229), (Value.int 153 0), (Value.int 0 0), (Value.ref 236), (Value.int 174 0), (Value.int 0 0), (Value.ref 243), (Value.int 185 0), (Value.int 0 0), (Value.ref 250), (Value.int 192 0), (Value.int 0 0), (Value.ref 255)]) #[]) ::
  (Obj.mk (Value.type "code") Option.none (Data.fields #[(Value.str "<module>" 182), (Value.str "<module>" 183), (Value.str "/claim/cut.py" 184), (Value.int 1 0), (Value.int 0 0), (Value.int 0 0), (Value.int 0 0), (Value.int 0 0), (Value.ref 11), (Value.bool Bool.false), (Value.int 181 0), (Value.ref 12), Value.none, Value.none, Value.none, Value.none, (Value.int 185 0), (Value.int 1 0), (Value.str "/claim/cut.py" 186)]) #[]) ::
  (Obj.mk (Value.type "frame") Option.none Data.plain #[(Option.some (Value.ref 13)), (Option.some (Value.ref 3)), (Option.some (Value.ref 3)), Option.none, (Option.some (Value.str "__main__" 164)), Option.none, (Option.some (Value.ref 0))]) ::
  (Obj.mk (Value.type "tuple") Option.none (Data.seq #[] 0) #[]) ::
  (Obj.mk Value.none Option.none (Data.fields #[]) #[]) ::
  (Obj.mk (Value.type "tuple") Option.none (Data.seq #[(Value.str "k" 190)] 0) #[]) ::
  (Obj.mk (Value.type "tuple") Option.none (Data.seq #[] 0) #[]) ::
  (Obj.mk Value.none Option.none (Data.func (fnD (top 0) "_wall" 0 [] Value.none Value.none Value.none Value.none Option.none Value.none Value.none 0)) #[]) ::
  (Obj.mk (Value.type "code") Option.none (Data.fields #[(Value.str "_wall" 187), (Value.str "_wall" 188), (Value.str "/claim/cut.py" 189), (Value.int 1 0), (Value.int 1 0), (Value.int 0 0), (Value.int 0 0), (Value.int 3 0), (Value.ref 15), (Value.bool Bool.true), (Value.int 181 0), (Value.ref 16), Value.none, (Value.ref 17), (Value.ref 18), (Value.ref 19), (Value.int 191 0), (Value.int 1 0), (Value.str "/claim/cut.py" 192)]) #[]) ::
  (Obj.mk (Value.type "function") Option.none (Data.func (fnD (top 0) "_wall" 3 [] Value.none Value.none Value.none (Value.str "__main__" 164) Option.none (Value.ref 20) Value.none 0)) #[]) ::
  (Obj.mk (Value.type "tuple") Option.none (Data.seq #[] 0) #[]) ::
  (Obj.mk Value.none Option.none (Data.fields #[]) #[]) ::
  (Obj.mk (Value.type "tuple") Option.none (Data.seq #[(Value.str "frames" 199), (Value.str "depth" 200)] 0) #[]) ::
  (Obj.mk (Value.type "tuple") Option.none (Data.seq #[] 0) #[]) ::
  (Obj.mk Value.none Option.none (Data.func (fnD (top 2) "unwound" 0 [] Value.none Value.none Value.none Value.none Option.none Value.none Value.none 0)) #[]) ::
  (Obj.mk (Value.type "code") Option.none (Data.fields #[(Value.str "unwound" 196), (Value.str "unwound" 197), (Value.str "/claim/cut.py" 198), (Value.int 5 0), (Value.int 2 0), (Value.int 0 0), (Value.int 0 0), (Value.int 3 0), (Value.ref 22), (Value.bool Bool.true), (Value.int 181 0), (Value.ref 23), Value.none, (Value.ref 24), (Value.ref 25), (Value.ref 26), (Value.int 201 0), (Value.int 5 0), (Value.str "/claim/cut.py" 202)]) #[]) ::
  (Obj.mk (Value.type "function") Option.none (Data.func (fnD (top 2) "unwound" 3 [] Value.none Value.none Value.none (Value.str "lua.frames" 194) Option.none (Value.ref 27) Value.none 0)) #[]) ::
  (Obj.mk (Value.type "tuple") Option.none (Data.seq #[(Value.type "Exception")] 0) #[]) ::
  (Obj.mk (Value.type "builtin_function_or_method") Option.none (Data.fields #[(Value.builtin "type.__prepare__"), (Value.type "type")]) #[]) ::
  (Obj.mk (Value.type "dict") Option.none (Data.dict #[(en P (Value.str "__module__" 218) (Value.str "lua.values" 204)), (en P (Value.str "__qualname__" 220) (Value.str "LuaError" 219)), (en P (Value.str "__firstlineno__" 222) (Value.int 11 221)), (en P (Value.str "__init__" 230) (Value.ref 42)), (en P (Value.str "__static_attributes__" 233) (Value.ref 43))] 5) #[]) ::
  (Obj.mk (Value.type "tuple") Option.none (Data.seq #[] 0) #[]) ::
  (Obj.mk Value.none Option.none (Data.fields #[(Value.int 13 0), (Value.int 4 0), (Value.ref 41)]) #[]) ::
  (Obj.mk (Value.type "code") Option.none (Data.fields #[(Value.str "LuaError" 213), (Value.str "LuaError" 214), (Value.str "/claim/cut.py" 215), (Value.int 11 0), (Value.int 0 0), (Value.int 0 0), (Value.int 0 0), (Value.int 0 0), (Value.ref 32), (Value.bool Bool.false), (Value.int 181 0), (Value.ref 33), Value.none, Value.none, Value.none, Value.none, (Value.int 216 0), (Value.int 11 0), (Value.str "/claim/cut.py" 217)]) #[]) ::
  (Obj.mk (Value.type "frame") Option.none Data.plain #[(Option.some (Value.ref 34)), (Option.some (Value.ref 3)), (Option.some (Value.ref 31)), Option.none, (Option.some (Value.str "lua.values" 204)), Option.none, (Option.some (Value.ref 0))]) ::
  (Obj.mk (Value.type "tuple") Option.none (Data.seq #[] 0) #[]) ::
  (Obj.mk Value.none Option.none (Data.fields #[]) #[]) ::
  (Obj.mk (Value.type "tuple") Option.none (Data.seq #[(Value.str "self" 226), (Value.str "value" 227)] 0) #[]) ::
  (Obj.mk (Value.type "tuple") Option.none (Data.seq #[] 0) #[]) ::
  (Obj.mk Value.none Option.none (Data.func (fnD (sub 6 0) "LuaError.__init__" 0 [] Value.none Value.none Value.none Value.none Option.none Value.none Value.none 0)) #[]) ::
  (Obj.mk (Value.type "code") Option.none (Data.fields #[(Value.str "__init__" 223), (Value.str "LuaError.__init__" 224), (Value.str "/claim/cut.py" 225), (Value.int 13 0), (Value.int 2 0), (Value.int 0 0), (Value.int 0 0), (Value.int 3 0), (Value.ref 36), (Value.bool Bool.true), (Value.int 181 0), (Value.ref 37), Value.none, (Value.ref 38), (Value.ref 39), (Value.ref 40), (Value.int 228 0), (Value.int 13 0), (Value.str "/claim/cut.py" 229)]) #[]) ::
  (Obj.mk (Value.type "function") Option.none (Data.func (fnD (sub 6 0) "LuaError.__init__" 3 [] Value.none Value.none Value.none (Value.str "lua.values" 204) Option.none (Value.ref 41) Value.none 0)) #[]) ::
  (Obj.mk (Value.type "tuple") Option.none (Data.seq #[(Value.str "trace" 231), (Value.str "value" 232)] 0) #[]) ::
  (Obj.mk (Value.type "dict") Option.none (Data.dict #[(en P (Value.str "__module__" 218) (Value.str "lua.values" 204)), (en P (Value.str "__firstlineno__" 222) (Value.int 11 221)), (en P (Value.str "__init__" 230) (Value.ref 42)), (en P (Value.str "__static_attributes__" 233) (Value.ref 43)), (en P (Value.str "__weakref__" 235) (Value.ref 46)), (en P (Value.str "__doc__" 236) Value.none)] 3) #[]) ::
  (Obj.mk (Value.type "type") Option.none (Data.cls (ClassData.mk "LuaError" [(Value.type "Exception")] [(Value.ref 45), (Value.type "Exception"), (Value.type "BaseException"), (Value.type "object")] 44 "LuaError" Bool.true [] [] Bool.false Option.none Bool.false)) #[(Option.some (Value.ref 29)), Option.none, (Option.some (Value.str "LuaError" 211)), (Option.some (Value.str "LuaError" 219)), (Option.some (Value.builtin "Exception.__new__")), (Option.some (Value.bool Bool.true))]) ::
  (Obj.mk (Value.type "getset_descriptor") Option.none (Data.fields #[(Value.str "__weakref__" 234), (Value.ref 45), (Value.builtin "ExceptionGroup.__weakref__"), Value.none]) #[]) ::
  (Obj.mk (Value.type "super") Option.none (Data.fields #[(Value.ref 45), (Value.ref 45), (Value.ref 45)]) #[]) ::
  (Obj.mk (Value.type "builtin_function_or_method") Option.none (Data.fields #[(Value.builtin "object.__init_subclass__"), (Value.ref 45)]) #[]) ::
  (Obj.mk (Value.type "tuple") Option.none (Data.seq #[] 0) #[]) ::
  (Obj.mk (Value.type "builtin_function_or_method") Option.none (Data.fields #[(Value.builtin "type.__prepare__"), (Value.type "type")]) #[]) ::
  (Obj.mk (Value.type "dict") Option.none (Data.dict #[(en P (Value.str "__module__" 248) (Value.str "lua.values" 204)), (en P (Value.str "__qualname__" 250) (Value.str "HeapObject" 249)), (en P (Value.str "__firstlineno__" 252) (Value.int 16 251)), (en P (Value.str "kind" 253) (Value.int (-1) 207)), (en P (Value.str "__init__" 262) (Value.ref 62)), (en P (Value.str "__static_attributes__" 266) (Value.ref 63))] 6) #[]) ::
  (Obj.mk (Value.type "tuple") Option.none (Data.seq #[] 0) #[]) ::
  (Obj.mk Value.none Option.none (Data.fields #[(Value.int 19 0), (Value.int 4 0), (Value.ref 61)]) #[]) ::
  (Obj.mk (Value.type "code") Option.none (Data.fields #[(Value.str "HeapObject" 243), (Value.str "HeapObject" 244), (Value.str "/claim/cut.py" 245), (Value.int 16 0), (Value.int 0 0), (Value.int 0 0), (Value.int 0 0), (Value.int 0 0), (Value.ref 52), (Value.bool Bool.false), (Value.int 181 0), (Value.ref 53), Value.none, Value.none, Value.none, Value.none, (Value.int 246 0), (Value.int 16 0), (Value.str "/claim/cut.py" 247)]) #[]) ::
  (Obj.mk (Value.type "frame") Option.none Data.plain #[(Option.some (Value.ref 54)), (Option.some (Value.ref 3)), (Option.some (Value.ref 51)), Option.none, (Option.some (Value.str "lua.values" 204)), Option.none, (Option.some (Value.ref 0))]) ::
  (Obj.mk (Value.type "tuple") Option.none (Data.seq #[] 0) #[]) ::
  (Obj.mk Value.none Option.none (Data.fields #[]) #[]) ::
  (Obj.mk (Value.type "tuple") Option.none (Data.seq #[(Value.str "self" 257), (Value.str "number" 258), (Value.str "size" 259)] 0) #[]) ::
  (Obj.mk (Value.type "tuple") Option.none (Data.seq #[] 0) #[]) ::
  (Obj.mk Value.none Option.none (Data.func (fnD (sub 7 1) "HeapObject.__init__" 0 [] Value.none Value.none Value.none Value.none Option.none Value.none Value.none 0)) #[]) ::
  (Obj.mk (Value.type "code") Option.none (Data.fields #[(Value.str "__init__" 254), (Value.str "HeapObject.__init__" 255), (Value.str "/claim/cut.py" 256), (Value.int 19 0), (Value.int 3 0), (Value.int 0 0), (Value.int 0 0), (Value.int 3 0), (Value.ref 56), (Value.bool Bool.true), (Value.int 181 0), (Value.ref 57), Value.none, (Value.ref 58), (Value.ref 59), (Value.ref 60), (Value.int 260 0), (Value.int 19 0), (Value.str "/claim/cut.py" 261)]) #[]) ::
  (Obj.mk (Value.type "function") Option.none (Data.func (fnD (sub 7 1) "HeapObject.__init__" 3 [] Value.none Value.none Value.none (Value.str "lua.values" 204) Option.none (Value.ref 61) Value.none 0)) #[]) ::
  (Obj.mk (Value.type "tuple") Option.none (Data.seq #[(Value.str "mark" 263), (Value.str "number" 264), (Value.str "size" 265)] 0) #[]) ::
  (Obj.mk (Value.type "dict") Option.none (Data.dict #[(en P (Value.str "__module__" 248) (Value.str "lua.values" 204)), (en P (Value.str "__firstlineno__" 252) (Value.int 16 251)), (en P (Value.str "kind" 253) (Value.int (-1) 207)), (en P (Value.str "__init__" 262) (Value.ref 62)), (en P (Value.str "__static_attributes__" 266) (Value.ref 63)), (en P (Value.str "__dict__" 268) (Value.ref 66)), (en P (Value.str "__weakref__" 270) (Value.ref 67)), (en P (Value.str "__doc__" 271) Value.none)] 4) #[]) ::
  (Obj.mk (Value.type "type") Option.none (Data.cls (ClassData.mk "HeapObject" [(Value.type "object")] [(Value.ref 65), (Value.type "object")] 64 "HeapObject" Bool.true [] [(Value.ref 115)] Bool.false Option.none Bool.false)) #[Option.none, Option.none, (Option.some (Value.str "HeapObject" 241)), (Option.some (Value.str "HeapObject" 249)), (Option.some (Value.builtin "object.__new__")), (Option.some (Value.bool Bool.true))]) ::
  (Obj.mk (Value.type "getset_descriptor") Option.none (Data.fields #[(Value.str "__dict__" 267), (Value.ref 65), (Value.builtin "function.__dict__"), (Value.builtin "function.__dict__#set")]) #[]) ::
  (Obj.mk (Value.type "getset_descriptor") Option.none (Data.fields #[(Value.str "__weakref__" 269), (Value.ref 65), (Value.builtin "ExceptionGroup.__weakref__"), Value.none]) #[]) ::
  (Obj.mk (Value.type "super") Option.none (Data.fields #[(Value.ref 65), (Value.ref 65), (Value.ref 65)]) #[]) ::
  (Obj.mk (Value.type "builtin_function_or_method") Option.none (Data.fields #[(Value.builtin "object.__init_subclass__"), (Value.ref 65)]) #[]) ::
  (Obj.mk (Value.type "tuple") Option.none (Data.seq #[(Value.ref 65)] 0) #[]) ::
  (Obj.mk (Value.type "builtin_function_or_method") Option.none (Data.fields #[(Value.builtin "type.__prepare__"), (Value.type "type")]) #[]) ::
  (Obj.mk (Value.type "dict") Option.none (Data.dict #[(en P (Value.str "__module__" 285) (Value.str "lua.upvals" 274)), (en P (Value.str "__qualname__" 287) (Value.str "UpVal" 286)), (en P (Value.str "__firstlineno__" 289) (Value.int 25 288)), (en P (Value.str "kind" 290) (Value.int 10 209)), (en P (Value.str "__init__" 299) (Value.ref 83)), (en P (Value.str "is_open" 307) (Value.ref 91)), (en P (Value.str "get" 314) (Value.ref 98)), (en P (Value.str "set" 322) (Value.ref 105)), (en P (Value.str "close" 329) (Value.ref 112)), (en P (Value.str "__static_attributes__" 333) (Value.ref 113))] 10) #[]) ::
  (Obj.mk (Value.type "tuple") Option.none (Data.seq #[] 0) #[]) ::
  (Obj.mk Value.none Option.none (Data.fields #[(Value.int 28 0), (Value.int 4 0), (Value.ref 82), (Value.int 35 0), (Value.int 4 0), (Value.ref 89), (Value.int 38 0), (Value.int 4 0), (Value.ref 97), (Value.int 43 0), (Value.int 4 0), (Value.ref 104), (Value.int 46 0), (Value.int 4 0), (Value.ref 111)]) #[]) ::
  (Obj.mk (Value.type "code") Option.none (Data.fields #[(Value.str "UpVal" 280), (Value.str "UpVal" 281), (Value.str "/claim/cut.py" 282), (Value.int 25 0), (Value.int 0 0), (Value.int 0 0), (Value.int 0 0), (Value.int 0 0), (Value.ref 73), (Value.bool Bool.false), (Value.int 181 0), (Value.ref 74), Value.none, Value.none, Value.none, Value.none, (Value.int 283 0), (Value.int 25 0), (Value.str "/claim/cut.py" 284)]) #[]) ::
  (Obj.mk (Value.type "frame") Option.none Data.plain #[(Option.some (Value.ref 75)), (Option.some (Value.ref 3)), (Option.some (Value.ref 72)), Option.none, (Option.some (Value.str "lua.upvals" 274)), Option.none, (Option.some (Value.ref 0))]) ::
  (Obj.mk (Value.type "tuple") Option.none (Data.seq #[] 0) #[]) ::
  (Obj.mk Value.none Option.none (Data.fields #[]) #[]) ::
  (Obj.mk (Value.type "tuple") Option.none (Data.seq #[(Value.str "self" 294), (Value.str "thread" 295), (Value.str "index" 296)] 0) #[]) ::
  (Obj.mk (Value.type "tuple") Option.none (Data.seq #[] 0) #[]) ::
  (Obj.mk Value.none Option.none (Data.func (fnD (sub 10 1) "UpVal.__init__" 0 [] Value.none Value.none Value.none Value.none Option.none Value.none Value.none 0)) #[]) ::
  (Obj.mk (Value.type "code") Option.none (Data.fields #[(Value.str "__init__" 291), (Value.str "UpVal.__init__" 292), (Value.str "/claim/cut.py" 293), (Value.int 28 0), (Value.int 3 0), (Value.int 0 0), (Value.int 0 0), (Value.int 3 0), (Value.ref 77), (Value.bool Bool.true), (Value.int 181 0), (Value.ref 78), Value.none, (Value.ref 79), (Value.ref 80), (Value.ref 81), (Value.int 297 0), (Value.int 28 0), (Value.str "/claim/cut.py" 298)]) #[]) ::
  (Obj.mk (Value.type "function") Option.none (Data.func (fnD (sub 10 1) "UpVal.__init__" 3 [] Value.none Value.none Value.none (Value.str "lua.upvals" 274) Option.none (Value.ref 82) Value.none 0)) #[]) ::
  (Obj.mk (Value.type "tuple") Option.none (Data.seq #[] 0) #[]) ::
  (Obj.mk Value.none Option.none (Data.fields #[]) #[]) ::
  (Obj.mk (Value.type "tuple") Option.none (Data.seq #[(Value.str "self" 303)] 0) #[]) ::
  (Obj.mk (Value.type "tuple") Option.none (Data.seq #[] 0) #[]) ::
  (Obj.mk Value.none Option.none (Data.func (fnD (sub 10 2) "UpVal.is_open" 0 [] Value.none Value.none Value.none Value.none Option.none Value.none Value.none 0)) #[]) ::
  (Obj.mk (Value.type "code") Option.none (Data.fields #[(Value.str "is_open" 300), (Value.str "UpVal.is_open" 301), (Value.str "/claim/cut.py" 302), (Value.int 34 0), (Value.int 1 0), (Value.int 0 0), (Value.int 0 0), (Value.int 3 0), (Value.ref 84), (Value.bool Bool.true), (Value.int 181 0), (Value.ref 85), Value.none, (Value.ref 86), (Value.ref 87), (Value.ref 88), (Value.int 304 0), (Value.int 34 0), (Value.str "/claim/cut.py" 305)]) #[]) ::
  (Obj.mk (Value.type "function") Option.none (Data.func (fnD (sub 10 2) "UpVal.is_open" 3 [] Value.none Value.none Value.none (Value.str "lua.upvals" 274) Option.none (Value.ref 89) Value.none 0)) #[]) ::
  (Obj.mk (Value.type "property") Option.none (Data.fields #[(Value.ref 90), Value.none, Value.none, Value.none, (Value.str "is_open" 307), (Value.bool Bool.false)]) #[]) ::
  (Obj.mk (Value.type "tuple") Option.none (Data.seq #[] 0) #[]) ::
  (Obj.mk Value.none Option.none (Data.fields #[]) #[]) ::
  (Obj.mk (Value.type "tuple") Option.none (Data.seq #[(Value.str "self" 311)] 0) #[]) ::
  (Obj.mk (Value.type "tuple") Option.none (Data.seq #[] 0) #[]) ::
  (Obj.mk Value.none Option.none (Data.func (fnD (sub 10 3) "UpVal.get" 0 [] Value.none Value.none Value.none Value.none Option.none Value.none Value.none 0)) #[]) ::
  (Obj.mk (Value.type "code") Option.none (Data.fields #[(Value.str "get" 308), (Value.str "UpVal.get" 309), (Value.str "/claim/cut.py" 310), (Value.int 38 0), (Value.int 1 0), (Value.int 0 0), (Value.int 0 0), (Value.int 3 0), (Value.ref 92), (Value.bool Bool.true), (Value.int 181 0), (Value.ref 93), Value.none, (Value.ref 94), (Value.ref 95), (Value.ref 96), (Value.int 312 0), (Value.int 38 0), (Value.str "/claim/cut.py" 313)]) #[]) ::
  (Obj.mk (Value.type "function") Option.none (Data.func (fnD (sub 10 3) "UpVal.get" 3 [] Value.none Value.none Value.none (Value.str "lua.upvals" 274) Option.none (Value.ref 97) Value.none 0)) #[]) ::
  (Obj.mk (Value.type "tuple") Option.none (Data.seq #[] 0) #[]) ::
  (Obj.mk Value.none Option.none (Data.fields #[]) #[]) ::
  (Obj.mk (Value.type "tuple") Option.none (Data.seq #[(Value.str "self" 318), (Value.str "value" 319)] 0) #[]) ::
  (Obj.mk (Value.type "tuple") Option.none (Data.seq #[] 0) #[]) ::
  (Obj.mk Value.none Option.none (Data.func (fnD (sub 10 4) "UpVal.set" 0 [] Value.none Value.none Value.none Value.none Option.none Value.none Value.none 0)) #[]) ::
  (Obj.mk (Value.type "code") Option.none (Data.fields #[(Value.str "set" 315), (Value.str "UpVal.set" 316), (Value.str "/claim/cut.py" 317), (Value.int 43 0), (Value.int 2 0), (Value.int 0 0), (Value.int 0 0), (Value.int 3 0), (Value.ref 99), (Value.bool Bool.true), (Value.int 181 0), (Value.ref 100), Value.none, (Value.ref 101), (Value.ref 102), (Value.ref 103), (Value.int 320 0), (Value.int 43 0), (Value.str "/claim/cut.py" 321)]) #[]) ::
  (Obj.mk (Value.type "function") Option.none (Data.func (fnD (sub 10 4) "UpVal.set" 3 [] Value.none Value.none Value.none (Value.str "lua.upvals" 274) Option.none (Value.ref 104) Value.none 0)) #[]) ::
  (Obj.mk (Value.type "tuple") Option.none (Data.seq #[] 0) #[]) ::
  (Obj.mk Value.none Option.none (Data.fields #[]) #[]) ::
  (Obj.mk (Value.type "tuple") Option.none (Data.seq #[(Value.str "self" 326)] 0) #[]) ::
  (Obj.mk (Value.type "tuple") Option.none (Data.seq #[] 0) #[]) ::
  (Obj.mk Value.none Option.none (Data.func (fnD (sub 10 5) "UpVal.close" 0 [] Value.none Value.none Value.none Value.none Option.none Value.none Value.none 0)) #[]) ::
  (Obj.mk (Value.type "code") Option.none (Data.fields #[(Value.str "close" 323), (Value.str "UpVal.close" 324), (Value.str "/claim/cut.py" 325), (Value.int 46 0), (Value.int 1 0), (Value.int 0 0), (Value.int 0 0), (Value.int 3 0), (Value.ref 106), (Value.bool Bool.true), (Value.int 181 0), (Value.ref 107), Value.none, (Value.ref 108), (Value.ref 109), (Value.ref 110), (Value.int 327 0), (Value.int 46 0), (Value.str "/claim/cut.py" 328)]) #[]) ::
  (Obj.mk (Value.type "function") Option.none (Data.func (fnD (sub 10 5) "UpVal.close" 3 [] Value.none Value.none Value.none (Value.str "lua.upvals" 274) Option.none (Value.ref 111) Value.none 0)) #[]) ::
  (Obj.mk (Value.type "tuple") Option.none (Data.seq #[(Value.str "index" 330), (Value.str "thread" 331), (Value.str "value" 332)] 0) #[]) ::
  (Obj.mk (Value.type "dict") Option.none (Data.dict #[(en P (Value.str "__module__" 285) (Value.str "lua.upvals" 274)), (en P (Value.str "__firstlineno__" 289) (Value.int 25 288)), (en P (Value.str "kind" 290) (Value.int 10 209)), (en P (Value.str "__init__" 299) (Value.ref 83)), (en P (Value.str "is_open" 307) (Value.ref 91)), (en P (Value.str "get" 314) (Value.ref 98)), (en P (Value.str "set" 322) (Value.ref 105)), (en P (Value.str "close" 329) (Value.ref 112)), (en P (Value.str "__static_attributes__" 333) (Value.ref 113)), (en P (Value.str "__doc__" 334) Value.none)] 2) #[]) ::
  (Obj.mk (Value.type "type") Option.none (Data.cls (ClassData.mk "UpVal" [(Value.ref 65)] [(Value.ref 115), (Value.ref 65), (Value.type "object")] 114 "UpVal" Bool.true [] [] Bool.false Option.none Bool.false)) #[(Option.some (Value.ref 70)), Option.none, (Option.some (Value.str "UpVal" 278)), (Option.some (Value.str "UpVal" 286)), (Option.some (Value.builtin "object.__new__")), (Option.some (Value.bool Bool.true))]) ::
  (Obj.mk (Value.type "super") Option.none (Data.fields #[(Value.ref 115), (Value.ref 115), (Value.ref 115)]) #[]) ::
  (Obj.mk (Value.type "builtin_function_or_method") Option.none (Data.fields #[(Value.builtin "object.__init_subclass__"), (Value.ref 115)]) #[]) ::
  (Obj.mk (Value.type "tuple") Option.none (Data.seq #[] 0) #[]) ::
  (Obj.mk (Value.type "builtin_function_or_method") Option.none (Data.fields #[(Value.builtin "type.__prepare__"), (Value.type "type")]) #[]) ::
  (Obj.mk (Value.type "dict") Option.none (Data.dict #[(en P (Value.str "__module__" 344) (Value.str "lua.upvals" 274)), (en P (Value.str "__qualname__" 346) (Value.str "Ground" 345)), (en P (Value.str "__firstlineno__" 348) (Value.int 51 347)), (en P (Value.str "__init__" 356) (Value.ref 131)), (en P (Value.str "__static_attributes__" 359) (Value.ref 132))] 5) #[]) ::
  (Obj.mk (Value.type "tuple") Option.none (Data.seq #[] 0) #[]) ::
  (Obj.mk Value.none Option.none (Data.fields #[(Value.int 53 0), (Value.int 4 0), (Value.ref 130)]) #[]) ::
  (Obj.mk (Value.type "code") Option.none (Data.fields #[(Value.str "Ground" 339), (Value.str "Ground" 340), (Value.str "/claim/cut.py" 341), (Value.int 51 0), (Value.int 0 0), (Value.int 0 0), (Value.int 0 0), (Value.int 0 0), (Value.ref 121), (Value.bool Bool.false), (Value.int 181 0), (Value.ref 122), Value.none, Value.none, Value.none, Value.none, (Value.int 342 0), (Value.int 51 0), (Value.str "/claim/cut.py" 343)]) #[]) ::
  (Obj.mk (Value.type "frame") Option.none Data.plain #[(Option.some (Value.ref 123)), (Option.some (Value.ref 3)), (Option.some (Value.ref 120)), Option.none, (Option.some (Value.str "lua.upvals" 274)), Option.none, (Option.some (Value.ref 0))]) ::
  (Obj.mk (Value.type "tuple") Option.none (Data.seq #[] 0) #[]) ::
  (Obj.mk Value.none Option.none (Data.fields #[]) #[]) ::
  (Obj.mk (Value.type "tuple") Option.none (Data.seq #[(Value.str "self" 352), (Value.str "values" 353)] 0) #[]) ::
  (Obj.mk (Value.type "tuple") Option.none (Data.seq #[] 0) #[]) ::
  (Obj.mk Value.none Option.none (Data.func (fnD (sub 11 0) "Ground.__init__" 0 [] Value.none Value.none Value.none Value.none Option.none Value.none Value.none 0)) #[]) ::
  (Obj.mk (Value.type "code") Option.none (Data.fields #[(Value.str "__init__" 349), (Value.str "Ground.__init__" 350), (Value.str "/claim/cut.py" 351), (Value.int 53 0), (Value.int 2 0), (Value.int 0 0), (Value.int 0 0), (Value.int 3 0), (Value.ref 125), (Value.bool Bool.true), (Value.int 181 0), (Value.ref 126), Value.none, (Value.ref 127), (Value.ref 128), (Value.ref 129), (Value.int 354 0), (Value.int 53 0), (Value.str "/claim/cut.py" 355)]) #[]) ::
  (Obj.mk (Value.type "function") Option.none (Data.func (fnD (sub 11 0) "Ground.__init__" 3 [] Value.none Value.none Value.none (Value.str "lua.upvals" 274) Option.none (Value.ref 130) Value.none 0)) #[]) ::
  (Obj.mk (Value.type "tuple") Option.none (Data.seq #[(Value.str "open_upvals" 357), (Value.str "stack" 358)] 0) #[]) ::
  (Obj.mk (Value.type "dict") Option.none (Data.dict #[(en P (Value.str "__module__" 344) (Value.str "lua.upvals" 274)), (en P (Value.str "__firstlineno__" 348) (Value.int 51 347)), (en P (Value.str "__init__" 356) (Value.ref 131)), (en P (Value.str "__static_attributes__" 359) (Value.ref 132)), (en P (Value.str "__dict__" 361) (Value.ref 135)), (en P (Value.str "__weakref__" 363) (Value.ref 136)), (en P (Value.str "__doc__" 364) Value.none)] 4) #[]) ::
  (Obj.mk (Value.type "type") Option.none (Data.cls (ClassData.mk "Ground" [(Value.type "object")] [(Value.ref 134), (Value.type "object")] 133 "Ground" Bool.true [] [] Bool.false Option.none Bool.false)) #[Option.none, Option.none, (Option.some (Value.str "Ground" 337)), (Option.some (Value.str "Ground" 345)), (Option.some (Value.builtin "object.__new__")), (Option.some (Value.bool Bool.true))]) ::
  (Obj.mk (Value.type "getset_descriptor") Option.none (Data.fields #[(Value.str "__dict__" 360), (Value.ref 134), (Value.builtin "function.__dict__"), (Value.builtin "function.__dict__#set")]) #[]) ::
  (Obj.mk (Value.type "getset_descriptor") Option.none (Data.fields #[(Value.str "__weakref__" 362), (Value.ref 134), (Value.builtin "ExceptionGroup.__weakref__"), Value.none]) #[]) ::
  (Obj.mk (Value.type "super") Option.none (Data.fields #[(Value.ref 134), (Value.ref 134), (Value.ref 134)]) #[]) ::
  (Obj.mk (Value.type "builtin_function_or_method") Option.none (Data.fields #[(Value.builtin "object.__init_subclass__"), (Value.ref 134)]) #[]) ::
  (Obj.mk (Value.type "tuple") Option.none (Data.seq #[] 0) #[]) ::
  (Obj.mk Value.none Option.none (Data.fields #[]) #[]) ::
  (Obj.mk (Value.type "tuple") Option.none (Data.seq #[(Value.str "owner" 370), (Value.str "index" 371), (Value.str "at" 372)] 0) #[]) ::
  (Obj.mk (Value.type "tuple") Option.none (Data.seq #[] 0) #[]) ::
  (Obj.mk Value.none Option.none (Data.func (fnD (top 12) "spot_of" 0 [] Value.none Value.none Value.none Value.none Option.none Value.none Value.none 0)) #[]) ::
  (Obj.mk (Value.type "code") Option.none (Data.fields #[(Value.str "spot_of" 367), (Value.str "spot_of" 368), (Value.str "/claim/cut.py" 369), (Value.int 56 0), (Value.int 2 0), (Value.int 0 0), (Value.int 0 0), (Value.int 3 0), (Value.ref 139), (Value.bool Bool.true), (Value.int 181 0), (Value.ref 140), Value.none, (Value.ref 141), (Value.ref 142), (Value.ref 143), (Value.int 373 0), (Value.int 56 0), (Value.str "/claim/cut.py" 374)]) #[]) ::
  (Obj.mk (Value.type "function") Option.none (Data.func (fnD (top 12) "spot_of" 3 [] Value.none Value.none Value.none (Value.str "lua.upvals" 274) Option.none (Value.ref 144) Value.none 0)) #[]) ::
  (Obj.mk (Value.type "tuple") Option.none (Data.seq #[] 0) #[]) ::
  (Obj.mk Value.none Option.none (Data.fields #[]) #[]) ::
  (Obj.mk (Value.type "tuple") Option.none (Data.seq #[(Value.str "owner" 379), (Value.str "index" 380), (Value.str "at" 381)] 0) #[]) ::
  (Obj.mk (Value.type "tuple") Option.none (Data.seq #[] 0) #[]) ::
  (Obj.mk Value.none Option.none (Data.func (fnD (top 13) "open_at" 0 [] Value.none Value.none Value.none Value.none Option.none Value.none Value.none 0)) #[]) ::
  (Obj.mk (Value.type "code") Option.none (Data.fields #[(Value.str "open_at" 376), (Value.str "open_at" 377), (Value.str "/claim/cut.py" 378), (Value.int 61 0), (Value.int 2 0), (Value.int 0 0), (Value.int 0 0), (Value.int 3 0), (Value.ref 146), (Value.bool Bool.true), (Value.int 181 0), (Value.ref 147), Value.none, (Value.ref 148), (Value.ref 149), (Value.ref 150), (Value.int 382 0), (Value.int 61 0), (Value.str "/claim/cut.py" 383)]) #[]) ::
  (Obj.mk (Value.type "function") Option.none (Data.func (fnD (top 13) "open_at" 3 [] Value.none Value.none Value.none (Value.str "lua.upvals" 274) Option.none (Value.ref 151) Value.none 0)) #[]) ::
  (Obj.mk (Value.type "tuple") Option.none (Data.seq #[] 0) #[]) ::
  (Obj.mk Value.none Option.none (Data.fields #[]) #[]) ::
  (Obj.mk (Value.type "tuple") Option.none (Data.seq #[(Value.str "owner" 388), (Value.str "upval" 389)] 0) #[]) ::
  (Obj.mk (Value.type "tuple") Option.none (Data.seq #[] 0) #[]) ::
  (Obj.mk Value.none Option.none (Data.func (fnD (top 14) "put_open" 0 [] Value.none Value.none Value.none Value.none Option.none Value.none Value.none 0)) #[]) ::
  (Obj.mk (Value.type "code") Option.none (Data.fields #[(Value.str "put_open" 385), (Value.str "put_open" 386), (Value.str "/claim/cut.py" 387), (Value.int 66 0), (Value.int 2 0), (Value.int 0 0), (Value.int 0 0), (Value.int 3 0), (Value.ref 153), (Value.bool Bool.true), (Value.int 181 0), (Value.ref 154), Value.none, (Value.ref 155), (Value.ref 156), (Value.ref 157), (Value.int 390 0), (Value.int 66 0), (Value.str "/claim/cut.py" 391)]) #[]) ::
  (Obj.mk (Value.type "function") Option.none (Data.func (fnD (top 14) "put_open" 3 [] Value.none Value.none Value.none (Value.str "lua.upvals" 274) Option.none (Value.ref 158) Value.none 0)) #[]) ::
  (Obj.mk (Value.type "tuple") Option.none (Data.seq #[] 0) #[]) ::
  (Obj.mk Value.none Option.none (Data.fields #[]) #[]) ::
  (Obj.mk (Value.type "tuple") Option.none (Data.seq #[(Value.str "owner" 396), (Value.str "index" 397), (Value.str "found" 398)] 0) #[]) ::
  (Obj.mk (Value.type "tuple") Option.none (Data.seq #[] 0) #[]) ::
  (Obj.mk Value.none Option.none (Data.func (fnD (top 15) "find_plain" 0 [] Value.none Value.none Value.none Value.none Option.none Value.none Value.none 0)) #[]) ::
  (Obj.mk (Value.type "code") Option.none (Data.fields #[(Value.str "find_plain" 393), (Value.str "find_plain" 394), (Value.str "/claim/cut.py" 395), (Value.int 68 0), (Value.int 2 0), (Value.int 0 0), (Value.int 0 0), (Value.int 3 0), (Value.ref 160), (Value.bool Bool.true), (Value.int 181 0), (Value.ref 161), Value.none, (Value.ref 162), (Value.ref 163), (Value.ref 164), (Value.int 399 0), (Value.int 68 0), (Value.str "/claim/cut.py" 400)]) #[]) ::
  (Obj.mk (Value.type "function") Option.none (Data.func (fnD (top 15) "find_plain" 3 [] Value.none Value.none Value.none (Value.str "lua.upvals" 274) Option.none (Value.ref 165) Value.none 0)) #[]) ::
  (Obj.mk (Value.type "tuple") Option.none (Data.seq #[] 0) #[]) ::
  (Obj.mk Value.none Option.none (Data.fields #[]) #[]) ::
  (Obj.mk (Value.type "tuple") Option.none (Data.seq #[(Value.str "owner" 405), (Value.str "level" 406), (Value.str "found" 407), (Value.str "upval" 408)] 0) #[]) ::
  (Obj.mk (Value.type "tuple") Option.none (Data.seq #[] 0) #[]) ::
  (Obj.mk Value.none Option.none (Data.func (fnD (top 16) "take_closed" 0 [] Value.none Value.none Value.none Value.none Option.none Value.none Value.none 0)) #[]) ::
  (Obj.mk (Value.type "code") Option.none (Data.fields #[(Value.str "take_closed" 402), (Value.str "take_closed" 403), (Value.str "/claim/cut.py" 404), (Value.int 74 0), (Value.int 2 0), (Value.int 0 0), (Value.int 0 0), (Value.int 3 0), (Value.ref 167), (Value.bool Bool.true), (Value.int 181 0), (Value.ref 168), Value.none, (Value.ref 169), (Value.ref 170), (Value.ref 171), (Value.int 409 0), (Value.int 74 0), (Value.str "/claim/cut.py" 410)]) #[]) ::
  (Obj.mk (Value.type "function") Option.none (Data.func (fnD (top 16) "take_closed" 3 [] Value.none Value.none Value.none (Value.str "lua.upvals" 274) Option.none (Value.ref 172) Value.none 0)) #[]) ::
  (Obj.mk (Value.type "tuple") Option.none (Data.seq #[] 0) #[]) ::
  (Obj.mk Value.none Option.none (Data.fields #[]) #[]) ::
  (Obj.mk (Value.type "tuple") Option.none (Data.seq #[(Value.str "holder" 419), (Value.str "handling" 420), (Value.str "value" 421), (Value.str "reply" 422), (Value.str "most" 423), (Value.str "tries" 424), (Value.str "other" 425)] 0) #[]) ::
  (Obj.mk (Value.type "tuple") Option.none (Data.seq #[] 0) #[]) ::
  (Obj.mk Value.none Option.none (Data.func (fnD (top 19) "handled" 0 [] Value.none Value.none Value.none Value.none Option.none Value.none Value.none 0)) #[]) ::
  (Obj.mk (Value.type "code") Option.none (Data.fields #[(Value.str "handled" 416), (Value.str "handled" 417), (Value.str "/claim/cut.py" 418), (Value.int 83 0), (Value.int 3 0), (Value.int 0 0), (Value.int 0 0), (Value.int 3 0), (Value.ref 174), (Value.bool Bool.true), (Value.int 181 0), (Value.ref 175), Value.none, (Value.ref 176), (Value.ref 177), (Value.ref 178), (Value.int 426 0), (Value.int 83 0), (Value.str "/claim/cut.py" 427)]) #[]) ::
  (Obj.mk (Value.type "function") Option.none (Data.func (fnD (top 19) "handled" 3 [] Value.none Value.none Value.none (Value.str "lua.guards" 412) Option.none (Value.ref 179) Value.none 0)) #[]) ::
  (Obj.mk (Value.type "tuple") Option.none (Data.seq #[] 0) #[]) ::
  (Obj.mk Value.none Option.none (Data.fields #[]) #[]) ::
  (Obj.mk (Value.type "tuple") Option.none (Data.seq #[(Value.str "holder" 432), (Value.str "work" 433), (Value.str "handling" 434), (Value.str "error" 435)] 0) #[]) ::
  (Obj.mk (Value.type "tuple") Option.none (Data.seq #[] 0) #[]) ::
  (Obj.mk Value.none Option.none (Data.func (fnD (top 20) "guarded_work" 0 [] Value.none Value.none Value.none Value.none Option.none Value.none Value.none 0)) #[]) ::
  (Obj.mk (Value.type "code") Option.none (Data.fields #[(Value.str "guarded_work" 429), (Value.str "guarded_work" 430), (Value.str "/claim/cut.py" 431), (Value.int 95 0), (Value.int 3 0), (Value.int 0 0), (Value.int 0 0), (Value.int 3 0), (Value.ref 181), (Value.bool Bool.true), (Value.int 181 0), (Value.ref 182), Value.none, (Value.ref 183), (Value.ref 184), (Value.ref 185), (Value.int 436 0), (Value.int 95 0), (Value.str "/claim/cut.py" 437)]) #[]) ::
  (Obj.mk (Value.type "function") Option.none (Data.func (fnD (top 20) "guarded_work" 3 [] Value.none Value.none Value.none (Value.str "lua.guards" 412) Option.none (Value.ref 186) Value.none 0)) #[]) ::
  (Obj.mk (Value.type "tuple") Option.none (Data.seq #[] 0) #[]) ::
  (Obj.mk Value.none Option.none (Data.fields #[]) #[]) ::
  (Obj.mk (Value.type "tuple") Option.none (Data.seq #[(Value.str "holder" 442), (Value.str "depth" 443), (Value.str "ccalls" 444), (Value.str "handling" 445), (Value.str "top" 446), (Value.str "closed" 447)] 0) #[]) ::
  (Obj.mk (Value.type "tuple") Option.none (Data.seq #[] 0) #[]) ::
  (Obj.mk Value.none Option.none (Data.func (fnD (top 21) "taken_back" 0 [] Value.none Value.none Value.none Value.none Option.none Value.none Value.none 0)) #[]) ::
  (Obj.mk (Value.type "code") Option.none (Data.fields #[(Value.str "taken_back" 439), (Value.str "taken_back" 440), (Value.str "/claim/cut.py" 441), (Value.int 101 0), (Value.int 5 0), (Value.int 0 0), (Value.int 0 0), (Value.int 3 0), (Value.ref 188), (Value.bool Bool.true), (Value.int 181 0), (Value.ref 189), Value.none, (Value.ref 190), (Value.ref 191), (Value.ref 192), (Value.int 448 0), (Value.int 101 0), (Value.str "/claim/cut.py" 449)]) #[]) ::
  (Obj.mk (Value.type "function") Option.none (Data.func (fnD (top 21) "taken_back" 3 [] Value.none Value.none Value.none (Value.str "lua.guards" 412) Option.none (Value.ref 193) Value.none 0)) #[]) ::
  (Obj.mk (Value.type "tuple") Option.none (Data.seq #[] 0) #[]) ::
  (Obj.mk Value.none Option.none (Data.fields #[]) #[]) ::
  (Obj.mk Value.none Option.none (Data.func (fnD (top 23) "_law_deal" 0 [] Value.none Value.none Value.none Value.none Option.none Value.none Value.none 0)) #[]) ::
  (Obj.mk (Value.type "code") Option.none (Data.fields #[(Value.str "_law_deal" 453), (Value.str "_law_deal" 454), (Value.str "/claim/cut.py" 455), (Value.int 109 0), (Value.int 1 0), (Value.int 0 0), (Value.int 0 0), (Value.int 3 0), (Value.ref 195), (Value.bool Bool.true), (Value.int 181 0), (Value.ref 196), Value.none, Value.none, Value.none, (Value.ref 197), (Value.int 456 0), (Value.int 109 0), (Value.str "/claim/cut.py" 457)]) #[]) ::
  (Obj.mk (Value.type "function") Option.none (Data.func (fnD (top 23) "_law_deal" 3 [] Value.none Value.none Value.none (Value.str "law_pc0162_01" 451) Option.none (Value.ref 198) Value.none 0)) #[]) ::
  (Obj.mk (Value.type "tuple") Option.none (Data.seq #[] 0) #[]) ::
  (Obj.mk Value.none Option.none (Data.fields #[]) #[]) ::
  (Obj.mk (Value.type "tuple") Option.none (Data.seq #[(Value.str "deal" 462), (Value.str "many" 463)] 0) #[]) ::
  (Obj.mk (Value.type "tuple") Option.none (Data.seq #[] 0) #[]) ::
  (Obj.mk Value.none Option.none (Data.func (fnD (top 24) "_law_take" 0 [] Value.none Value.none Value.none Value.none Option.none Value.none Value.none 0)) #[]) ::
  (Obj.mk (Value.type "code") Option.none (Data.fields #[(Value.str "_law_take" 459), (Value.str "_law_take" 460), (Value.str "/claim/cut.py" 461), (Value.int 115 0), (Value.int 2 0), (Value.int 0 0), (Value.int 0 0), (Value.int 3 0), (Value.ref 200), (Value.bool Bool.true), (Value.int 181 0), (Value.ref 201), Value.none, (Value.ref 202), (Value.ref 203), (Value.ref 204), (Value.int 464 0), (Value.int 115 0), (Value.str "/claim/cut.py" 465)]) #[]) ::
  (Obj.mk (Value.type "function") Option.none (Data.func (fnD (top 24) "_law_take" 3 [] Value.none Value.none Value.none (Value.str "law_pc0162_01" 451) Option.none (Value.ref 205) Value.none 0)) #[]) ::
  (Obj.mk (Value.type "tuple") Option.none (Data.seq #[] 0) #[]) ::
  (Obj.mk Value.none Option.none (Data.fields #[]) #[]) ::
  (Obj.mk (Value.type "tuple") Option.none (Data.seq #[(Value.str "value" 470), (Value.str "more" 471)] 0) #[]) ::
  (Obj.mk (Value.type "tuple") Option.none (Data.seq #[] 0) #[]) ::
  (Obj.mk Value.none Option.none (Data.func (fnD (top 25) "_law_more" 0 [] Value.none Value.none Value.none Value.none Option.none Value.none Value.none 0)) #[]) ::
  (Obj.mk (Value.type "code") Option.none (Data.fields #[(Value.str "_law_more" 467), (Value.str "_law_more" 468), (Value.str "/claim/cut.py" 469), (Value.int 121 0), (Value.int 2 0), (Value.int 0 0), (Value.int 0 0), (Value.int 3 0), (Value.ref 207), (Value.bool Bool.true), (Value.int 181 0), (Value.ref 208), Value.none, (Value.ref 209), (Value.ref 210), (Value.ref 211), (Value.int 472 0), (Value.int 121 0), (Value.str "/claim/cut.py" 473)]) #[]) ::
  (Obj.mk (Value.type "function") Option.none (Data.func (fnD (top 25) "_law_more" 3 [] Value.none Value.none Value.none (Value.str "law_pc0162_01" 451) Option.none (Value.ref 212) Value.none 0)) #[]) ::
  (Obj.mk (Value.type "tuple") Option.none (Data.seq #[] 0) #[]) ::
  (Obj.mk Value.none Option.none (Data.fields #[]) #[]) ::
  (Obj.mk (Value.type "tuple") Option.none (Data.seq #[(Value.str "world" 478), (Value.str "times" 479), (Value.str "holder" 480), (Value.str "value" 481)] 0) #[]) ::
  (Obj.mk (Value.type "tuple") Option.none (Data.seq #[] 0) #[]) ::
  (Obj.mk Value.none Option.none (Data.func (fnD (top 26) "_law_replied" 0 [] Value.none Value.none Value.none Value.none Option.none Value.none Value.none 0)) #[]) ::
  (Obj.mk (Value.type "code") Option.none (Data.fields #[(Value.str "_law_replied" 475), (Value.str "_law_replied" 476), (Value.str "/claim/cut.py" 477), (Value.int 123 0), (Value.int 4 0), (Value.int 0 0), (Value.int 0 0), (Value.int 3 0), (Value.ref 214), (Value.bool Bool.true), (Value.int 181 0), (Value.ref 215), Value.none, (Value.ref 216), (Value.ref 217), (Value.ref 218), (Value.int 482 0), (Value.int 123 0), (Value.str "/claim/cut.py" 483)]) #[]) ::
  (Obj.mk (Value.type "function") Option.none (Data.func (fnD (top 26) "_law_replied" 3 [] Value.none Value.none Value.none (Value.str "law_pc0162_01" 451) Option.none (Value.ref 219) Value.none 0)) #[]) ::
  (Obj.mk (Value.type "tuple") Option.none (Data.seq #[] 0) #[]) ::
  (Obj.mk Value.none Option.none (Data.fields #[]) #[]) ::
  (Obj.mk Value.none Option.none (Data.func (fnD (top 27) "_law_plan" 0 [] Value.none Value.none Value.none Value.none Option.none Value.none Value.none 0)) #[]) ::
  (Obj.mk (Value.type "code") Option.none (Data.fields #[(Value.str "_law_plan" 485), (Value.str "_law_plan" 486), (Value.str "/claim/cut.py" 487), (Value.int 129 0), (Value.int 2 0), (Value.int 0 0), (Value.int 0 0), (Value.int 3 0), (Value.ref 221), (Value.bool Bool.true), (Value.int 181 0), (Value.ref 222), Value.none, Value.none, Value.none, (Value.ref 223), (Value.int 488 0), (Value.int 129 0), (Value.str "/claim/cut.py" 489)]) #[]) ::
  (Obj.mk (Value.type "function") Option.none (Data.func (fnD (top 27) "_law_plan" 3 [] Value.none Value.none Value.none (Value.str "law_pc0162_01" 451) Option.none (Value.ref 224) Value.none 0)) #[]) ::
  (Obj.mk (Value.type "tuple") Option.none (Data.seq #[] 0) #[]) ::
  (Obj.mk Value.none Option.none (Data.fields #[]) #[]) ::
  (Obj.mk Value.none Option.none (Data.func (fnD (top 28) "_law_guarded" 0 [] Value.none Value.none Value.none Value.none Option.none Value.none Value.none 0)) #[]) ::
  (Obj.mk (Value.type "code") Option.none (Data.fields #[(Value.str "_law_guarded" 491), (Value.str "_law_guarded" 492), (Value.str "/claim/cut.py" 493), (Value.int 136 0), (Value.int 3 0), (Value.int 0 0), (Value.int 0 0), (Value.int 3 0), (Value.ref 226), (Value.bool Bool.true), (Value.int 181 0), (Value.ref 227), Value.none, Value.none, Value.none, (Value.ref 228), (Value.int 494 0), (Value.int 136 0), (Value.str "/claim/cut.py" 495)]) #[]) ::
  (Obj.mk (Value.type "function") Option.none (Data.func (fnD (top 28) "_law_guarded" 3 [] Value.none Value.none Value.none (Value.str "law_pc0162_01" 451) Option.none (Value.ref 229) Value.none 0)) #[]) ::
  (Obj.mk (Value.type "tuple") Option.none (Data.seq #[] 0) #[]) ::
  (Obj.mk Value.none Option.none (Data.fields #[]) #[]) ::
  (Obj.mk (Value.type "tuple") Option.none (Data.seq #[(Value.str "world" 500), (Value.str "at" 501), (Value.str "frames" 502), (Value.str "calls" 503), (Value.str "places" 504), (Value.str "elder" 505), (Value.str "kind" 506), (Value.str "is_anew" 507), (Value.str "end" 508), (Value.str "holder" 509), (Value.str "depth" 510), (Value.str "top" 511), (Value.str "turn" 512), (Value.str "spot" 513), (Value.str "told" 514)] 0) #[]) ::
  (Obj.mk (Value.type "tuple") Option.none (Data.seq #[] 0) #[]) ::
  (Obj.mk Value.none Option.none (Data.func (fnD (top 29) "_law_done" 0 [] Value.none Value.none Value.none Value.none Option.none Value.none Value.none 0)) #[]) ::
  (Obj.mk (Value.type "code") Option.none (Data.fields #[(Value.str "_law_done" 497), (Value.str "_law_done" 498), (Value.str "/claim/cut.py" 499), (Value.int 153 0), (Value.int 2 0), (Value.int 0 0), (Value.int 0 0), (Value.int 3 0), (Value.ref 231), (Value.bool Bool.true), (Value.int 181 0), (Value.ref 232), Value.none, (Value.ref 233), (Value.ref 234), (Value.ref 235), (Value.int 515 0), (Value.int 153 0), (Value.str "/claim/cut.py" 516)]) #[]) ::
  (Obj.mk (Value.type "function") Option.none (Data.func (fnD (top 29) "_law_done" 3 [] Value.none Value.none Value.none (Value.str "law_pc0162_01" 451) Option.none (Value.ref 236) Value.none 0)) #[]) ::
  (Obj.mk (Value.type "tuple") Option.none (Data.seq #[] 0) #[]) ::
  (Obj.mk Value.none Option.none (Data.fields #[]) #[]) ::
  (Obj.mk (Value.type "tuple") Option.none (Data.seq #[(Value.str "world" 521), (Value.str "at" 522), (Value.str "ccalls" 523), (Value.str "frames" 524), (Value.str "handling" 525), (Value.str "more" 526), (Value.str "calls" 527), (Value.str "places" 528), (Value.str "elder" 529), (Value.str "kind" 530), (Value.str "is_anew" 531), (Value.str "end" 532), (Value.str "value" 533), (Value.str "deep" 534), (Value.str "many" 535)] 0) #[]) ::
  (Obj.mk (Value.type "tuple") Option.none (Data.seq #[] 0) #[]) ::
  (Obj.mk Value.none Option.none (Data.func (fnD (top 30) "_law_due" 0 [] Value.none Value.none Value.none Value.none Option.none Value.none Value.none 0)) #[]) ::
  (Obj.mk (Value.type "code") Option.none (Data.fields #[(Value.str "_law_due" 518), (Value.str "_law_due" 519), (Value.str "/claim/cut.py" 520), (Value.int 174 0), (Value.int 5 0), (Value.int 0 0), (Value.int 0 0), (Value.int 3 0), (Value.ref 238), (Value.bool Bool.true), (Value.int 181 0), (Value.ref 239), Value.none, (Value.ref 240), (Value.ref 241), (Value.ref 242), (Value.int 536 0), (Value.int 174 0), (Value.str "/claim/cut.py" 537)]) #[]) ::
  (Obj.mk (Value.type "function") Option.none (Data.func (fnD (top 30) "_law_due" 3 [] Value.none Value.none Value.none (Value.str "law_pc0162_01" 451) Option.none (Value.ref 243) Value.none 0)) #[]) ::
  (Obj.mk (Value.type "tuple") Option.none (Data.seq #[] 0) #[]) ::
  (Obj.mk Value.none Option.none (Data.fields #[]) #[]) ::
  (Obj.mk (Value.type "tuple") Option.none (Data.seq #[(Value.str "world" 542), (Value.str "value" 543), (Value.str "kind" 544), (Value.str "deep" 545), (Value.str "many" 546), (Value.str "handling" 547), (Value.str "turn" 548)] 0) #[]) ::
  (Obj.mk (Value.type "tuple") Option.none (Data.seq #[] 0) #[]) ::
  (Obj.mk Value.none Option.none (Data.func (fnD (top 31) "_law_answered" 0 [] Value.none Value.none Value.none Value.none Option.none Value.none Value.none 0)) #[]) ::
  (Obj.mk (Value.type "code") Option.none (Data.fields #[(Value.str "_law_answered" 539), (Value.str "_law_answered" 540), (Value.str "/claim/cut.py" 541), (Value.int 185 0), (Value.int 6 0), (Value.int 0 0), (Value.int 0 0), (Value.int 3 0), (Value.ref 245), (Value.bool Bool.true), (Value.int 181 0), (Value.ref 246), Value.none, (Value.ref 247), (Value.ref 248), (Value.ref 249), (Value.int 549 0), (Value.int 185 0), (Value.str "/claim/cut.py" 550)]) #[]) ::
  (Obj.mk (Value.type "function") Option.none (Data.func (fnD (top 31) "_law_answered" 3 [] Value.none Value.none Value.none (Value.str "law_pc0162_01" 451) Option.none (Value.ref 250) Value.none 0)) #[]) ::
  (Obj.mk (Value.type "tuple") Option.none (Data.seq #[] 0) #[]) ::
  (Obj.mk Value.none Option.none (Data.fields #[]) #[]) ::
  (Obj.mk Value.none Option.none (Data.func (fnD (top 32) "law" 0 [] Value.none Value.none Value.none Value.none Option.none Value.none Value.none 0)) #[]) ::
  (Obj.mk (Value.type "code") Option.none (Data.fields #[(Value.str "law" 552), (Value.str "law" 553), (Value.str "/claim/cut.py" 554), (Value.int 192 0), (Value.int 1 0), (Value.int 0 0), (Value.int 0 0), (Value.int 3 0), (Value.ref 252), (Value.bool Bool.true), (Value.int 181 0), (Value.ref 253), Value.none, Value.none, Value.none, (Value.ref 254), (Value.int 555 0), (Value.int 192 0), (Value.str "/claim/cut.py" 556)]) #[]) ::
  (Obj.mk (Value.type "function") Option.none (Data.func (fnD (top 32) "law" 3 [] Value.none Value.none Value.none (Value.str "law_pc0162_01" 451) Option.none (Value.ref 255) Value.none 0)) #[]) ::
  []
/-- behind the imports -/
noncomputable def h0 : Params → Heap := fun P => ⟨(((((objs P).take 15).set 2 (PySem.W.boot_o_2 P)).set 3 (PySem.W.boot_o_3 P)).set 12 (Obj.mk Value.none Option.none (Data.fields #[]) #[])).toArray, {}⟩
/-- behind 7, 10, 11, 19 statements -/
noncomputable def h1 : Params → Heap := fun P => ⟨((((objs P).take 49).set 3 (Obj.mk (Value.type "dict") Option.none (Data.dict #[(en P (Value.str "__name__" 165) (Value.str "lua.values" 204)), (en P (Value.str "__doc__" 166) Value.none), (en P (Value.str "__package__" 167) Value.none), (en P (Value.str "__loader__" 168) (Value.builtin "__main__.__loader__#opaque")), (en P (Value.str "__spec__" 169) Value.none), (en P (Value.str "__annotations__" 170) (Value.ref 6)), (en P (Value.str "__builtins__" 171) (Value.ref 4)), (en P (Value.str "__file__" 173) (Value.str "/claim/cut.py" 172)), (en P (Value.str "__cached__" 174) Value.none), (en P (Value.str "_wall" 193) (Value.ref 21)), (en P (Value.str "unwound" 203) (Value.ref 28)), (en P (Value.str "T_NONE" 208) (Value.int (-1) 207)), (en P (Value.str "T_UPVAL" 210) (Value.int 10 209)), (en P (Value.str "LuaError" 240) (Value.ref 45))] 14) #[])).set 12 (Obj.mk Value.none Option.none (Data.fields #[(Value.int 1 0), (Value.int 0 0), (Value.ref 20), (Value.int 5 0), (Value.int 0 0), (Value.ref 27), (Value.int 11 0), (Value.int 0 0), (Value.ref 34)]) #[])).toArray, {}⟩
noncomputable def h2 : Params → Heap := fun P => ⟨(((((objs P).take 70).set 3 (Obj.mk (Value.type "dict") Option.none (Data.dict #[(en P (Value.str "__name__" 165) (Value.str "lua.upvals" 274)), (en P (Value.str "__doc__" 166) Value.none), (en P (Value.str "__package__" 167) Value.none), (en P (Value.str "__loader__" 168) (Value.builtin "__main__.__loader__#opaque")), (en P (Value.str "__spec__" 169) Value.none), (en P (Value.str "__annotations__" 170) (Value.ref 6)), (en P (Value.str "__builtins__" 171) (Value.ref 4)), (en P (Value.str "__file__" 173) (Value.str "/claim/cut.py" 172)), (en P (Value.str "__cached__" 174) Value.none), (en P (Value.str "_wall" 193) (Value.ref 21)), (en P (Value.str "unwound" 203) (Value.ref 28)), (en P (Value.str "T_NONE" 208) (Value.int (-1) 207)), (en P (Value.str "T_UPVAL" 210) (Value.int 10 209)), (en P (Value.str "LuaError" 240) (Value.ref 45)), (en P (Value.str "HeapObject" 273) (Value.ref 65)), (en P (Value.str "SIZE_UPVAL" 277) (Value.int 4 276))] 16) #[])).set 12 (Obj.mk Value.none Option.none (Data.fields #[(Value.int 1 0), (Value.int 0 0), (Value.ref 20), (Value.int 5 0), (Value.int 0 0), (Value.ref 27), (Value.int 11 0), (Value.int 0 0), (Value.ref 34), (Value.int 16 0), (Value.int 0 0), (Value.ref 54)]) #[])).set 65 (Obj.mk (Value.type "type") Option.none (Data.cls (ClassData.mk "HeapObject" [(Value.type "object")] [(Value.ref 65), (Value.type "object")] 64 "HeapObject" Bool.true [] [] Bool.false Option.none Bool.false)) #[Option.none, Option.none, (Option.some (Value.str "HeapObject" 241)), (Option.some (Value.str "HeapObject" 249)), (Option.some (Value.builtin "object.__new__")), (Option.some (Value.bool Bool.true))])).toArray, {}⟩
noncomputable def h4 : Params → Heap := fun P => ⟨((((objs P).take 118).set 3 (Obj.mk (Value.type "dict") Option.none (Data.dict #[(en P (Value.str "__name__" 165) (Value.str "lua.upvals" 274)), (en P (Value.str "__doc__" 166) Value.none), (en P (Value.str "__package__" 167) Value.none), (en P (Value.str "__loader__" 168) (Value.builtin "__main__.__loader__#opaque")), (en P (Value.str "__spec__" 169) Value.none), (en P (Value.str "__annotations__" 170) (Value.ref 6)), (en P (Value.str "__builtins__" 171) (Value.ref 4)), (en P (Value.str "__file__" 173) (Value.str "/claim/cut.py" 172)), (en P (Value.str "__cached__" 174) Value.none), (en P (Value.str "_wall" 193) (Value.ref 21)), (en P (Value.str "unwound" 203) (Value.ref 28)), (en P (Value.str "T_NONE" 208) (Value.int (-1) 207)), (en P (Value.str "T_UPVAL" 210) (Value.int 10 209)), (en P (Value.str "LuaError" 240) (Value.ref 45)), (en P (Value.str "HeapObject" 273) (Value.ref 65)), (en P (Value.str "SIZE_UPVAL" 277) (Value.int 4 276)), (en P (Value.str "UpVal" 336) (Value.ref 115))] 17) #[])).set 12 (Obj.mk Value.none Option.none (Data.fields #[(Value.int 1 0), (Value.int 0 0), (Value.ref 20), (Value.int 5 0), (Value.int 0 0), (Value.ref 27), (Value.int 11 0), (Value.int 0 0), (Value.ref 34), (Value.int 16 0), (Value.int 0 0), (Value.ref 54), (Value.int 25 0), (Value.int 0 0), (Value.ref 75)]) #[])).toArray, {}⟩
noncomputable def h5 : Params → Heap := fun P => ⟨((((objs P).take 174).set 3 (Obj.mk (Value.type "dict") Option.none (Data.dict #[(en P (Value.str "__name__" 165) (Value.str "lua.guards" 412)), (en P (Value.str "__doc__" 166) Value.none), (en P (Value.str "__package__" 167) Value.none), (en P (Value.str "__loader__" 168) (Value.builtin "__main__.__loader__#opaque")), (en P (Value.str "__spec__" 169) Value.none), (en P (Value.str "__annotations__" 170) (Value.ref 6)), (en P (Value.str "__builtins__" 171) (Value.ref 4)), (en P (Value.str "__file__" 173) (Value.str "/claim/cut.py" 172)), (en P (Value.str "__cached__" 174) Value.none), (en P (Value.str "_wall" 193) (Value.ref 21)), (en P (Value.str "unwound" 203) (Value.ref 28)), (en P (Value.str "T_NONE" 208) (Value.int (-1) 207)), (en P (Value.str "T_UPVAL" 210) (Value.int 10 209)), (en P (Value.str "LuaError" 240) (Value.ref 45)), (en P (Value.str "HeapObject" 273) (Value.ref 65)), (en P (Value.str "SIZE_UPVAL" 277) (Value.int 4 276)), (en P (Value.str "UpVal" 336) (Value.ref 115)), (en P (Value.str "Ground" 366) (Value.ref 134)), (en P (Value.str "spot_of" 375) (Value.ref 145)), (en P (Value.str "open_at" 384) (Value.ref 152)), (en P (Value.str "put_open" 392) (Value.ref 159)), (en P (Value.str "find_plain" 401) (Value.ref 166)), (en P (Value.str "take_closed" 411) (Value.ref 173)), (en P (Value.str "ERROR_IN_ERROR" 415) (Value.bytes #[101, 114, 114, 111, 114, 32, 105, 110, 32, 101, 114, 114, 111, 114, 32, 104, 97, 110, 100, 108, 105, 110, 103] 414))] 24) #[])).set 12 (Obj.mk Value.none Option.none (Data.fields #[(Value.int 1 0), (Value.int 0 0), (Value.ref 20), (Value.int 5 0), (Value.int 0 0), (Value.ref 27), (Value.int 11 0), (Value.int 0 0), (Value.ref 34), (Value.int 16 0), (Value.int 0 0), (Value.ref 54), (Value.int 25 0), (Value.int 0 0), (Value.ref 75), (Value.int 51 0), (Value.int 0 0), (Value.ref 123), (Value.int 56 0), (Value.int 0 0), (Value.ref 144), (Value.int 61 0), (Value.int 0 0), (Value.ref 151), (Value.int 66 0), (Value.int 0 0), (Value.ref 158), (Value.int 68 0), (Value.int 0 0), (Value.ref 165), (Value.int 74 0), (Value.int 0 0), (Value.ref 172)]) #[])).toArray, {}⟩
/-- at the end -/
noncomputable def h3 : Params → Heap := fun P => ⟨(objs P).toArray, {}⟩
noncomputable abbrev prog : Program := PySem.Challenge.rw_pc0162_01.row.toRowW.prog
noncomputable def env0 : Env := { scope := prog.main.scope, locals := mainNs, globals := mainNs, cells := [], code := .ref 13, frame := some 14 }
noncomputable def sts : List Stmt := behindTheImports prog
noncomputable def code0 : Code := .body sts env0
abbrev p0 : Pos := ⟨0, 0, 0, 0⟩
abbrev ann0 : Option Value := some (.ref 6)
theorem go : ∀ (w : World) (os : OsState), topGo treeTable prog w 11 ann0 12 ⟨boot_heap w.params, #[], boot_drawn, boot_toks, os⟩ (topStub prog) = some (⟨h0 w.params, #[], {}, 187, os⟩, ⟨denote treeTable code0, code0, p0, [topFrame p0]⟩) := by
  intro w os
  kernel_rfl
theorem seg0 : ∀ (w : World) (os : OsState), segRun treeTable prog w 11 ann0 1 1 ⟨h0 w.params, #[], {}, 187, os⟩ (PySem.W.blockOf sts env0 code0 p0 [topFrame p0]) = some (.next, ⟨h0 w.params, #[], {}, 187, os⟩, code0, p0) := by
  intro w os
  kernel_rfl
theorem seg1 : ∀ (w : World) (os : OsState), segRun treeTable prog w 11 ann0 1 330 ⟨h0 w.params, #[], {}, 187, os⟩ (piecesOf (sts.take 7) env0 code0 p0 [topFrame p0]) = some (.next, ⟨h1 w.params, #[], {}, 241, os⟩, code0, ⟨11, 0, 15, 23⟩) := by
  intro w os
  kernel_rfl
theorem seg2 : ∀ (w : World) (os : OsState), segRun treeTable prog w 11 ann0 1 257 ⟨h1 w.params, #[], {}, 241, os⟩ (piecesOf ((sts.drop 7).take 3) env0 code0 ⟨11, 0, 15, 23⟩ [topFrame p0]) = some (.next, ⟨h2 w.params, #[], {}, 278, os⟩, code0, ⟨24, 0, 24, 10⟩) := by
  intro w os
  kernel_rfl
theorem seg3 : ∀ (w : World) (os : OsState), segRun treeTable prog w 11 ann0 1 445 ⟨h2 w.params, #[], {}, 278, os⟩ (piecesOf ((sts.drop 10).take 1) env0 code0 ⟨24, 0, 24, 10⟩ [topFrame p0]) = some (.next, ⟨h4 w.params, #[], {}, 337, os⟩, code0, ⟨25, 0, 50, 27⟩) := by
  intro w os
  kernel_rfl
theorem seg4 : ∀ (w : World) (os : OsState), segRun treeTable prog w 11 ann0 1 397 ⟨h4 w.params, #[], {}, 337, os⟩ (piecesOf ((sts.drop 11).take 8) env0 code0 ⟨25, 0, 50, 27⟩ [topFrame p0]) = some (.next, ⟨h5 w.params, #[], {}, 416, os⟩, code0, ⟨82, 0, 82, 14⟩) := by
  intro w os
  kernel_rfl
theorem seg5 : ∀ (w : World) (os : OsState), segRun treeTable prog w 11 ann0 1 429 ⟨h5 w.params, #[], {}, 416, os⟩ (piecesOf (sts.drop 19) env0 code0 ⟨82, 0, 82, 14⟩ [topFrame p0]) = some (.next, ⟨h3 w.params, #[], {}, 558, os⟩, code0, ⟨192, 0, 205, 81⟩) := by
  intro w os
  kernel_rfl
theorem ends : ∀ (w : World) (os : OsState), topRun treeTable prog w 11 ann0 2 ⟨h3 w.params, #[], {}, 558, os⟩ ⟨doneF .next, code0, ⟨192, 0, 205, 81⟩, [topFrame p0]⟩ = some ⟨h3 w.params, #[], {}, 558, os⟩ := by
  intro w os
  kernel_rfl
theorem run : ∀ (w : World) (os : OsState), topRun treeTable prog w 11 ann0 (12 + (1 + (330 + (257 + (445 + (397 + (429 + 2))))))) ⟨boot_heap w.params, #[], boot_drawn, boot_toks, os⟩ (topStub prog) = some ⟨h3 w.params, #[], {}, 558, os⟩ := fun w os => by
  refine go_top (go w os) ?_
  refine piece_block (seg0 w os) ?_
  have e : sts = sts.take 7 ++ ((sts.drop 7).take 3 ++ ((sts.drop 10).take 1 ++ ((sts.drop 11).take 8 ++ (sts.drop 19 ++ [])))) := by
    rw [List.append_nil, show sts.drop 19 = (sts.drop 11).drop 8 by rw [List.drop_drop], List.take_append_drop, show sts.drop 11 = (sts.drop 10).drop 1 by rw [List.drop_drop], List.take_append_drop,
      show sts.drop 10 = (sts.drop 7).drop 3 by rw [List.drop_drop], List.take_append_drop, List.take_append_drop]
  rw [e]
  refine piece_app (seg1 w os) ?_
  refine piece_app (seg2 w os) ?_
  refine piece_app (seg3 w os) ?_
  refine piece_app (seg4 w os) ?_
  refine piece_app (seg5 w os) ?_
  exact piece_nil (ends w os)
theorem opens : ∀ w : World, (fencedOpening treeTable prog w 3830).map (fun s => (s.heap, s.gens, s.drawn, s.toks)) = some (boot_heap w.params, #[], boot_drawn, boot_toks) := by
  intro w
  kernel_rfl
theorem size : ∀ w : World, ((boot_heap w.params).isNs mainGlobals && (#[] : Array GenState).size == 0, (boot_heap w.params).objs.size, (boot_heap w.params).nsMap mainGlobals "__annotations__") = (true, 11, ann0) := by
  intro w
  kernel_rfl
end hd
noncomputable abbrev hook : Hook := kmHook hd.heap_39 (2 :: 3 :: 15 :: 17 :: 18 :: 20 :: 21 :: 22 :: 24 :: 25 :: 27 :: 28 :: 29 :: 36 :: 38 :: 39 :: 41 :: 42 :: 43 :: 44 :: 45 :: 46 :: 56 :: 58 :: 59 :: 61 :: 62 :: 63 :: 64 :: 65 :: 66 :: 67 :: 70 :: 77 :: 79 :: 80 :: 82 :: 83 :: 84 :: 86 :: 87 :: 89 :: 90 :: 91 :: 92 :: 94 :: 95 :: 97 :: 98 :: 99 :: 101 :: 102 :: 104 :: 105 :: 106 :: 108 :: 109 :: 111 :: 112 :: 113 :: 114 :: 115 :: 125 :: 127 :: 128 :: 130 :: 131 :: 132 :: 133 :: 134 :: 135 :: 136 :: 139 :: 141 :: 142 :: 144 :: 145 :: 146 :: 148 :: 149 :: 151 :: 152 :: 153 :: 155 :: 156 :: 158 :: 159 :: 160 :: 162 :: 163 :: 165 :: 166 :: 167 :: 169 :: 170 :: 172 :: 173 :: 174 :: 176 :: 177 :: 179 :: 180 :: 181 :: 183 :: 184 :: 186 :: 187 :: 188 :: 190 :: 191 :: 193 :: 194 :: 195 :: 198 :: 199 :: 200 :: 202 :: 203 :: 205 :: 206 :: 207 :: 209 :: 210 :: 212 :: 213 :: 214 :: 216 :: 217 :: 219 :: 220 :: 221 :: 224 :: 225 :: 226 :: 229 :: 230 :: 231 :: 233 :: 234 :: 236 :: 237 :: 238 :: 240 :: 241 :: 243 :: 244 :: 245 :: 247 :: 248 :: 250 :: 251 :: 252 :: 255 :: 256 :: []) (fun _ => by kernel_rfl) [227]
theorem looks_a : ∀ (w : World) (os : OsState), (staticsOk (importedModules hd.prog.main.body) (boot_heap w.params) (hd.h3 w.params) && namesBound hd.prog (hd.h3 w.params) && gensDone ⟨hd.h3 w.params, #[], {}, 558, os⟩ && laidKept (boot_heap w.params) (hd.h3 w.params)) = true := by
  intro w os
  kernel_rfl
theorem looks_b : ∀ (w : World) (os : OsState), openSeen hd.view_39 ["HeapObject", "UpVal"] (importedModules hd.prog.main.body) (fun s => xlAt hd.view_39 [] s && recOk PySem.Challenge.rw_pc0162_01.row.toRowW.records s) true ⟨hd.h3 w.params, #[], {}, 558, os⟩ = openGood hd.view_39 ["HeapObject", "UpVal"] := by
  intro w os
  kernel_rfl
theorem looks_c : ∀ (w : World) (os : OsState), Hook.obs hook ⟨hd.h3 w.params, #[], {}, 558, os⟩ = Hook.val hook w := by
  intro w os
  kernel_rfl
theorem left_all : LeftO PySem.Challenge.rw_pc0162_01.row.toRowW.prog hd.view_39 ["HeapObject", "UpVal"] (fun s => xlAt hd.view_39 [] s && recOk PySem.Challenge.rw_pc0162_01.row.toRowW.records s) (Hook.obs hook) (Hook.val hook) 3830 :=
  LeftO.of_pieces hd.opens hd.size hd.run rfl fun w => funext fun os => by rw [looks_a, looks_b, looks_c]
end Mine

open PySem PySem.W PyProof.Rows PySem.Calls
set_option Elab.async false
set_option maxRecDepth 100000
set_option maxHeartbeats 4000000
set_option genSizeOf false

namespace Mine

/-- a goal is put aside while things are taken apart -/
theorem cps {g : Prop} (h : ∀ X : Prop, (g → X) → X) : g := h g id

/-- abstract values: no tokens; places of the abstract heap as numbers -/
inductive AV where
  | none | bool (b : Bool) | int (i : Int) | str (s : Str) | bytes (b : Array UInt8)
  | ref (i : Nat) | obj (a : Addr) | builtin (id : String) | type (n : String)
noncomputable instance : DecidableEq AV := fun a b => Classical.propDecidable (a = b)

/-- abstract objects -/
inductive AO where
  | list (xs : List AV) | tuple (xs : List AV) | dict (es : List (Str × AV)) | map (es : List (Str × AV)) | range (n : Int)
  | inst (c : Addr) (d : Nat) | exc (c : Addr) (d : Option Nat) (clean : Bool) (fresh : Bool)
  | cell (v : Option AV) | clos (k : Nat) (cs : List (Str × Nat))
noncomputable instance : DecidableEq AO := fun a b => Classical.propDecidable (a = b)

structure AS where
  loc : Str → Option AV
  cells : List (Str × Nat)
  hp : List AO
  hd : Option Nat

inductive Res (α : Type) where
  | ok (a : α) (σ : AS) | exc (x : Nat) (σ : AS) | stuck

noncomputable def Res.bind {α β : Type} : Res α → (α → AS → Res β) → Res β
  | .ok a σ, f => f a σ
  | .exc x σ, _ => .exc x σ
  | .stuck, _ => .stuck

noncomputable abbrev AM (α : Type) := AS → Res α
noncomputable def AM.pure {α : Type} (a : α) : AM α := fun σ => .ok a σ
noncomputable def AM.bind {α β : Type} (m : AM α) (f : α → AM β) : AM β := fun σ => (m σ).bind f
noncomputable instance : Monad AM where
  pure := AM.pure
  bind := AM.bind
noncomputable def stuck {α : Type} : AM α := fun _ => .stuck
theorem bind_ap {α β : Type} (m : AM α) (f : α → AM β) (σ : AS) : (m >>= f) σ = (m σ).bind f := rfl
theorem pure_ap {α : Type} (a : α) (σ : AS) : (Pure.pure a : AM α) σ = .ok a σ := rfl

/-- a value stands for an abstract one -/
inductive VR (ρ : List Addr) : AV → Value → Prop
  | none : VR ρ .none .none
  | bool (b) : VR ρ (.bool b) (.bool b)
  | int (i t) : VR ρ (.int i) (.int i t)
  | str (s t) : VR ρ (.str s) (.str s t)
  | bytes (b t) : VR ρ (.bytes b) (.bytes b t)
  | ref {i a} : ρ[i]? = some a → VR ρ (.ref i) (.ref a)
  | obj (a) : VR ρ (.obj a) (.ref a)
  | builtin (i) : VR ρ (.builtin i) (.builtin i)
  | type (n) : VR ρ (.type n) (.type n)

/-- what stands for an abstract value of a known kind -/
noncomputable def VRf (ρ : List Addr) : AV → Value → Prop
  | .none, v => v = .none
  | .bool b, v => v = .bool b
  | .int i, v => ∃ t, v = .int i t
  | .str s, v => ∃ t, v = .str s t
  | .bytes b, v => ∃ t, v = .bytes b t
  | .ref i, v => ∃ a, ρ[i]? = some a ∧ v = .ref a
  | .obj a, v => v = .ref a
  | .builtin i, v => v = .builtin i
  | .type n, v => v = .type n
theorem VR.to {ρ : List Addr} {a : AV} {v : Value} (h : VR ρ a v) : VRf ρ a v := by
  cases h with
  | none => rfl
  | bool b => rfl
  | int i t => exact ⟨_, rfl⟩
  | str s t => exact ⟨_, rfl⟩
  | bytes b t => exact ⟨_, rfl⟩
  | ref e => exact ⟨_, e, rfl⟩
  | obj a => rfl
  | builtin i => rfl
  | type n => rfl
section
variable {ρ : List Addr} {v : Value}
theorem VR.inone (h : VR ρ .none v) : v = .none := h.to
theorem VR.ibool {b} (h : VR ρ (.bool b) v) : v = .bool b := h.to
theorem VR.iint {i} (h : VR ρ (.int i) v) : ∃ t, v = .int i t := h.to
theorem VR.istr {s} (h : VR ρ (.str s) v) : ∃ t, v = .str s t := h.to
theorem VR.ibytes {b} (h : VR ρ (.bytes b) v) : ∃ t, v = .bytes b t := h.to
theorem VR.iref {i} (h : VR ρ (.ref i) v) : ∃ a, ρ[i]? = some a ∧ v = .ref a := h.to
theorem VR.iobj {a} (h : VR ρ (.obj a) v) : v = .ref a := h.to
theorem VR.ibi {i} (h : VR ρ (.builtin i) v) : v = .builtin i := h.to
theorem VR.ity {n} (h : VR ρ (.type n) v) : v = .type n := h.to
end

inductive OV (ρ : List Addr) : Option AV → Option Value → Prop
  | none {v} : OV ρ none v
  | some {x v} : VR ρ x v → OV ρ (some x) (some v)

inductive All2 {α β : Type} (R : α → β → Prop) : List α → List β → Prop
  | nil : All2 R [] []
  | cons {a b as bs} : R a b → All2 R as bs → All2 R (a :: as) (b :: bs)

theorem All2.inil {α β : Type} {R : α → β → Prop} {bs : List β} (h : All2 R [] bs) : bs = [] := by cases h; rfl
theorem All2.imp {α β : Type} {R S : α → β → Prop} (h : ∀ a b, R a b → S a b) {as : List α} {bs : List β} (t : All2 R as bs) : All2 S as bs := by
  induction t with
  | nil => exact .nil
  | cons r _ ih => exact .cons (h _ _ r) ih
theorem All2.length {α β : Type} {R : α → β → Prop} {as : List α} {bs : List β} (t : All2 R as bs) : as.length = bs.length := by
  induction t with
  | nil => rfl
  | cons _ _ ih => exact congrArg Nat.succ ih
theorem All2.get {α β : Type} {R : α → β → Prop} {as : List α} {bs : List β} (t : All2 R as bs) : ∀ {i : Nat} {a : α}, as[i]? = some a → ∃ b, bs[i]? = some b ∧ R a b := by
  induction t with
  | nil => intro i a e; cases e
  | cons r _ ih =>
    intro i a e
    cases i with
    | zero => exact ⟨_, rfl, Option.some.inj e ▸ r⟩
    | succ i => exact ih (i := i) e
theorem All2.append {α β : Type} {R : α → β → Prop} {as : List α} {bs : List β} {as' : List α} {bs' : List β} (t : All2 R as bs) (h : All2 R as' bs') : All2 R (as ++ as') (bs ++ bs') := by
  induction t with
  | nil => exact h
  | cons r _ ih => exact .cons r ih
theorem All2.set {α β : Type} {R : α → β → Prop} {as : List α} {bs : List β} (t : All2 R as bs) {a : α} {b : β} (h : R a b) : ∀ i, All2 R (as.set i a) (bs.set i b) := by
  induction t with
  | nil => exact fun _ => .nil
  | cons r t ih =>
    intro i
    cases i with
    | zero => exact .cons h t
    | succ i => exact .cons r (ih i)

theorem VR.mono {ρ ρ' : List Addr} (h : ρ <+: ρ') {x : AV} {v : Value} (r : VR ρ x v) : VR ρ' x v := by
  cases r with
  | ref e =>
    obtain ⟨t, rfl⟩ := h
    refine .ref ?_
    rw [List.getElem?_append_left (List.getElem?_eq_some_iff.mp e).1]; exact e
  | none => exact .none
  | bool => exact .bool _
  | int => exact .int _ _
  | str => exact .str _ _
  | bytes => exact .bytes _ _
  | obj => exact .obj _
  | builtin => exact .builtin _
  | type => exact .type _
theorem pre_get {ρ ρ' : List Addr} (h : ρ <+: ρ') {i : Nat} {a : Addr} (e : ρ[i]? = some a) : ρ'[i]? = some a := by
  obtain ⟨t, rfl⟩ := h
  rw [List.getElem?_append_left (List.getElem?_eq_some_iff.mp e).1]; exact e
theorem OV.mono {ρ ρ' : List Addr} (h : ρ <+: ρ') {x : Option AV} {v : Option Value} (r : OV ρ x v) : OV ρ' x v := by
  cases r with
  | none => exact .none
  | some r => exact .some (r.mono h)

/-- entries of a dict with str keys -/
structure DE (P : Params) (ρ : List Addr) (p : Str × AV) (e : DictEntry) : Prop where
  hash : e.hash = PyData.keyHash P p.1
  key : ∃ t, e.key = .str p.1 t
  val : VR ρ p.2 e.val

/-- a code object of a given name among what was made -/
noncomputable def CodeAt (ext : List (Addr × Obj)) (c' : Addr) (qual : Str) : Prop := ∃ oc vs t, (c', oc) ∈ ext ∧ oc.data = .fields vs ∧ vs[1]? = some (.str qual t)

set_option genInjectivity false in
/-- a lambda of the text -/
structure Lam where
  qual : Str
  params : Arguments
  body : Expr
  scope : Scope
  pos : Pos

set_option genInjectivity false in
/-- what is fixed for the whole run -/
structure Gd where
  prog : Program
  w : World
  K : Frag
  p : Program
  loose : List Str
  mean : ExcName → Option Value
  mg : Str → Option Value
  mb : Str → Option Value
  base : Heap
  /-- the list that the law is given -/
  old : Addr
  oldVs : List AV
  oldOk : ∃ vs : List Value, base.IsList old vs.toArray ∧ All2 (VR []) oldVs vs ∧ oldVs.length < 1000000
  lams : List Lam
  lamScope : Scope
  lamQual : Str
  tabP : Addr
  tabC : Addr
  X : K.In base
  T : Top p loose mean mg mb base
  C : CodeHd base tabC tabP
  /-- attributes that lie in an instance's dict -/
  atts : List (Addr × Str)
  attsOk : ∀ q ∈ atts, plainGet K q.1 q.2 = true ∧ hasDictIn K q.1 = true ∧ (∃ attr, findIn K (.ref q.1) q.2 = some attr ∧ noGet K attr = true) ∧
    findIn K (.ref q.1) "__setattr__" = some (some (.builtin "object.__setattr__")) ∧ plainOver K q.1 = true ∧ takerIn K q.1 q.2 = some none
  /-- methods: class, name, function -/
  meths : List (Addr × Str × Addr)
  methsOk : ∀ q ∈ meths, plainGet K q.1 q.2.1 = true ∧ findIn K (.ref q.1) q.2.1 = some (some (.ref q.2.2)) ∧ isFn K (.ref q.2.2) = true
  /-- what may be called -/
  callees : List Addr
  calleesOk : ∀ a ∈ callees, keepIn K (.ref a) = true
noncomputable def Gd.pm (G : Gd) : Value := (G.mg "__name__").getD .none
noncomputable abbrev Gd.M (G : Gd) : Model := model G.prog G.w

inductive OR (G : Gd) (ext : List (Addr × Obj)) (ρ : List Addr) : AO → Obj → Prop
  | list {xs vs n} : All2 (VR ρ) xs vs → OR G ext ρ (.list xs) (listOf vs.toArray n)
  | tuple {xs vs} : All2 (VR ρ) xs vs → OR G ext ρ (.tuple xs) { cls := .type "tuple", data := .seq vs.toArray }
  | dict {es des n} : All2 (DE G.w.params ρ) es des → OR G ext ρ (.dict es) (dictOf des n)
  | map {es kvs o} : Obj.IsDictOf (PySem.strKind G.prog G.w) o kvs → All2 (fun (p : Str × AV) (q : Str × Value) => p.1 = q.1 ∧ VR ρ p.2 q.2) es kvs → OR G ext ρ (.map es) o
  | range {n t u v} : OR G ext ρ (.range n) { cls := .type "range", dict := none, data := .fields #[.int 0 t, .int n u, .int 1 v], slots := #[] }
  | inst {c d dx} : ρ[d]? = some dx → OR G ext ρ (.inst c d) (instObj c dx)
  | exc {c d cl fs od vs sl} : (∀ i, d = some i → ∃ dx, ρ[i]? = some dx ∧ od = some dx) → (d = none → od = none) → 5 < vs.size → (cl = true → vs[2]? = some .none) → (fs = true → vs[1]? = some .none) → OR G ext ρ (.exc c d cl fs) ⟨.ref c, od, .fields vs, sl⟩
  | cell {v v' o} : o.data = .cell v' → OV ρ v v' → OR G ext ρ (.cell v) o
  | clos {k cs l cl c' ctv} : G.lams[k]? = some l → All2 (fun (p : Str × Nat) (q : Str × Addr) => p.1 = q.1 ∧ ρ[p.2]? = some q.2) cs cl → CodeAt ext c' l.qual →
      OR G ext ρ (.clos k cs) (kla_obj "<lambda>" l.qual l.params l.body l.scope cl G.pm c' ctv)

theorem OR.mono {G : Gd} {ext ext' : List (Addr × Obj)} {ρ ρ' : List Addr} (h : ρ <+: ρ') (hx : ∀ p ∈ ext, p ∈ ext') {x : AO} {o : Obj} (r : OR G ext ρ x o) : OR G ext' ρ' x o := by
  cases r with
  | list a => exact .list (a.imp fun _ _ r => r.mono h)
  | tuple a => exact .tuple (a.imp fun _ _ r => r.mono h)
  | dict a => exact .dict (a.imp fun _ _ r => ⟨r.hash, r.key, r.val.mono h⟩)
  | map a b => exact .map a (b.imp fun _ _ r => ⟨r.1, r.2.mono h⟩)
  | range => exact .range
  | inst a => exact .inst (pre_get h a)
  | exc a b c d f => exact .exc (fun i e => let ⟨dx, q, z⟩ := a i e; ⟨dx, pre_get h q, z⟩) b c d f
  | cell a b => exact .cell a (b.mono h)
  | clos a b c => exact .clos a (b.imp fun _ _ q => ⟨q.1, pre_get h q.2⟩) (let ⟨oc, vs, t, m, r⟩ := c; ⟨oc, vs, t, hx _ m, r⟩)

noncomputable def NsObj (o : Obj) (m : Str → Option Value) : Prop := ∃ es ep, o.data = .dict es ep ∧ StrKeys es ∧ ∀ name, nsFind es name = m name

end Mine

open PySem PySem.W PyProof.Rows PySem.Calls
set_option Elab.async false
set_option maxRecDepth 100000
set_option maxHeartbeats 4000000
set_option linter.unusedVariables false
namespace Mine

/-- an entry of a trace -/
noncomputable def TbLike (o : Obj) (ts : Array Value) : Prop := o.cls = .type "traceback" ∧ ∀ q t, ts[1]? ≠ some (.str q t)
/-- no entry of a trace -/
noncomputable def NotTb (o : Obj) : Prop := o.cls ≠ .type "traceback" ∨ (∀ vs, o.data ≠ .fields vs) ∨ ∃ vs q t, o.data = .fields vs ∧ vs[1]? = some (.str q t)
theorem NotTb.no {o : Obj} {ts : Array Value} (h : NotTb o) (hd : o.data = .fields ts) (ht : TbLike o ts) : False := by
  refine cps fun X_ k_ => ?_
  rcases h with h | h | ⟨vs, q, t, h1, h2⟩
  all_goals refine k_ ?_
  all_goals clear k_ X_
  · exact h ht.1
  · exact h _ hd
  · rw [hd] at h1; cases h1; exact ht.2 _ _ h2
theorem TbLike.set {o : Obj} {ts : Array Value} (ht : TbLike o ts) (f : Array Value → Array Value) (v : Value) : TbLike (Obj.mapFields f o) (ts.setIfInBounds 3 v) :=
  ⟨(Obj.cls_mapFields _ _).trans ht.1, fun q t => by rw [Array.getElem?_setIfInBounds_ne (by decide)]; exact ht.2 q t⟩
structure ExtOk (G : Gd) (its : List (Addr × Obj)) (ext : List (Addr × Obj)) : Prop where
  its : ∀ q ∈ its, q ∈ ext ∧ q.1 ≠ G.tabP
  tab : ∃ ps, (G.tabP, tabObj ps) ∈ ext ∧ TriplesOk ps.toList ∧ ∀ l ∈ G.lams, ∀ cv, codeAmong l.pos ps.toList = some cv → ∃ c', cv = .ref c' ∧ CodeAt ext c' l.qual
  noTb : ∀ p ∈ ext, NotTb p.2

set_option genInjectivity false in
/-- what is fixed while a block of a frame runs -/
structure Cx where
  A : Around
  env : Env
  L : Addr
  frs : List (Addr × (Str → Option Value))
  its : List (Addr × Obj)

noncomputable abbrev FrR (f : Addr × (Str → Option Value)) (p : Addr × Obj) : Prop := p.1 = f.1 ∧ NsObj p.2 f.2
noncomputable abbrev CellR (ρ : List Addr) (p : Str × Nat) (q : Str × Addr) : Prop := p.1 = q.1 ∧ ρ[p.2]? = some q.2

/-- the exception that is being handled -/
noncomputable def HdOk (c : Cx) (ρ : List Addr) (hd : Option Nat) : Prop := match hd with
  | none => c.A.handled = none
  | some i => ∃ a, ρ[i]? = some a ∧ c.A.handled = some (.ref a)
theorem HdOk.mono {c : Cx} {ρ ρ' : List Addr} {hd : Option Nat} (h : ρ <+: ρ') (x : HdOk c ρ hd) : HdOk c ρ' hd := by
  cases hd with
  | none => exact x
  | some i => obtain ⟨a, e, r⟩ := x; exact ⟨a, pre_get h e, r⟩

structure St (G : Gd) (c : Cx) (σ : AS) (ρ : List Addr) (h : Heap) (m : Str → Option Value) (ent fent ext : List (Addr × Obj)) : Prop where
  fr : Fr G.base c.L h m
  nw : News G.base c.L h (ent ++ (fent ++ ext))
  nd : ((ent ++ (fent ++ ext)).map (·.1)).Nodup
  loc : ∀ x, OV ρ (σ.loc x) (m x)
  keys : ent.map (·.1) = ρ
  objs : All2 (fun o (p : Addr × Obj) => OR G ext ρ o p.2) σ.hp ent
  frames : All2 FrR c.frs fent
  ext : ExtOk G c.its ext
  cells : All2 (CellR ρ) σ.cells c.env.cells
  hd : HdOk c ρ σ.hd

noncomputable def Rel (G : Gd) (c : Cx) (σ : AS) (ρ : List Addr) (h : Heap) : Prop := ∃ m ent fent ext, St G c σ ρ h m ent fent ext

section
variable {G : Gd} {c : Cx} {σ : AS} {ρ : List Addr} {h h' : Heap} {m : Str → Option Value} {ent fent ext : List (Addr × Obj)}

theorem nodup_app {a b : List (Addr × Obj)} (h : ((a ++ b).map (·.1)).Nodup) : (a.map (·.1)).Nodup ∧ (b.map (·.1)).Nodup ∧ ∀ p ∈ a, ∀ q ∈ b, p.1 ≠ q.1 := by
  rw [List.map_append, List.nodup_append] at h
  exact ⟨h.1, h.2.1, fun p hp q hq => h.2.2 _ (List.mem_map_of_mem hp) _ (List.mem_map_of_mem hq)⟩

theorem St.objAt (S : St G c σ ρ h m ent fent ext) {i : Nat} {o : AO} (e : σ.hp[i]? = some o) :
    ∃ a ob, ρ[i]? = some a ∧ ent[i]? = some (a, ob) ∧ OR G ext ρ o ob ∧ h.get? a = some ob ∧ a ≠ c.L ∧ G.base.get? a = none := by
  refine cps fun X_ k_ => ?_
  obtain ⟨⟨a, ob⟩, hp, hr⟩ := S.objs.get e
  refine k_ ?_
  clear k_ X_
  have hm : (a, ob) ∈ ent := List.mem_of_getElem? hp
  have z := S.nw (a, ob) (List.mem_append_left _ hm)
  refine ⟨a, ob, ?_, hp, hr, z.1, z.2.1, z.2.2⟩
  rw [← S.keys, List.getElem?_map, hp]; rfl

theorem upd_at {d : Addr} {o o' : Obj} : ∀ {ent rest : List (Addr × Obj)} {i : Nat}, ((ent ++ rest).map (·.1)).Nodup → ent[i]? = some (d, o) → Upd d o o' (ent ++ rest) (ent.set i (d, o') ++ rest)
  | (a, x) :: r, rest, 0, nd, e => by
    simp at e
    obtain ⟨rfl, rfl⟩ := e
    rw [List.cons_append, List.map_cons, List.nodup_cons] at nd
    exact .head fun p hp q => nd.1 (List.mem_map.mpr ⟨p, hp, q⟩)
  | (a, x) :: r, rest, i + 1, nd, e => by
    simp at e
    rw [List.cons_append, List.map_cons, List.nodup_cons] at nd
    refine .tail (fun q => nd.1 ?_) (upd_at nd.2 e)
    have : d ∈ (r ++ rest).map (·.1) := List.mem_map.mpr ⟨(d, o), List.mem_append_left _ (List.mem_of_getElem? e), rfl⟩
    exact (show a = d from q) ▸ this

theorem set_keys {d : Addr} {o o' : Obj} : ∀ {ent : List (Addr × Obj)} {i : Nat}, ent[i]? = some (d, o) → (ent.set i (d, o')).map (·.1) = ent.map (·.1)
  | (a, x) :: r, 0, e => by simp at e; obtain ⟨rfl, rfl⟩ := e; rfl
  | (a, x) :: r, i + 1, e => by simp at e; simp [set_keys e]

/-- an object of the abstract heap is another one now -/
theorem St.update (S : St G c σ ρ h m ent fent ext) {i : Nat} {d : Addr} {ob ob' : Obj} {o' : AO} (e : ent[i]? = some (d, ob)) (r : OR G ext ρ o' ob')
    (F' : Fr G.base c.L h' m) (N' : News G.base c.L h' (ent.set i (d, ob') ++ (fent ++ ext))) : St G c { σ with hp := σ.hp.set i o' } ρ h' m (ent.set i (d, ob')) fent ext := by
  refine ⟨F', N', ?_, S.loc, (set_keys e).trans S.keys, ?_, S.frames, S.ext, S.cells, S.hd⟩
  · have := S.nd
    rw [List.map_append] at this ⊢
    rw [set_keys e]; exact this
  · exact S.objs.set (b := (d, ob')) r i

/-- a new object -/
theorem St.alloc (S : St G c σ ρ h m ent fent ext) {a : Addr} {ob : Obj} {o : AO} (r : OR G ext ρ o ob) (hl : ∀ p ∈ ent ++ (fent ++ ext), p.1 < a)
    (F' : Fr G.base c.L h' m) (N' : News G.base c.L h' ((a, ob) :: (ent ++ (fent ++ ext)))) : St G c { σ with hp := σ.hp ++ [o] } (ρ ++ [a]) h' m (ent ++ [(a, ob)]) fent ext := by
  have hp : ρ <+: ρ ++ [a] := ⟨[a], rfl⟩
  refine ⟨F', fun p hp => N' p ?_, ?_, fun x => (S.loc x).mono hp, by rw [List.map_append, S.keys]; rfl, ?_, S.frames, S.ext, S.cells.imp fun _ _ q => ⟨q.1, pre_get hp q.2⟩, S.hd.mono hp⟩
  · simp only [List.append_assoc, List.cons_append, List.nil_append, List.mem_append, List.mem_cons] at hp ⊢
    refine cps fun X_ k_ => ?_
    rcases hp with h | h | h | h
    all_goals refine k_ ?_
    all_goals clear k_ X_
    · exact .inr (.inl h)
    · exact .inl h
    · exact .inr (.inr (.inl h))
    · exact .inr (.inr (.inr h))
  · have nd := S.nd
    have e : ((ent ++ [(a, ob)]) ++ (fent ++ ext)).map (·.1) = ent.map (·.1) ++ a :: (fent ++ ext).map (·.1) := by simp
    rw [e, List.perm_middle.nodup_iff, List.nodup_cons]
    rw [List.map_append] at nd
    refine ⟨fun q => ?_, nd⟩
    rw [← List.map_append] at q
    refine cps fun X_ k_ => ?_
    obtain ⟨p, hq, e⟩ := List.mem_map.mp q
    refine k_ ?_
    clear k_ X_
    have z := hl p hq
    rw [e] at z
    exact Nat.lt_irrefl _ z
  · exact (S.objs.imp fun _ _ q => q.mono hp fun _ z => z).append (.cons (r.mono hp fun _ z => z) .nil)

/-- a local name is stored -/
theorem St.store (S : St G c σ ρ h m ent fent ext) {x : Str} {v : AV} {v' : Value} (r : VR ρ v v')
    (F' : Fr G.base c.L h' (fun y => if y = x then some v' else m y)) (N' : News G.base c.L h' (ent ++ (fent ++ ext))) :
    St G c { σ with loc := fun y => if y = x then some v else σ.loc y } ρ h' (fun y => if y = x then some v' else m y) ent fent ext := by
  refine ⟨F', N', S.nd, fun y => ?_, S.keys, S.objs, S.frames, S.ext, S.cells, S.hd⟩
  by_cases q : y = x
  · simp only [q, if_true]; exact .some r
  · simp only [q, if_false]; exact S.loc y
/-- only tokens were drawn, or things were made that are not looked at -/
theorem St.same (S : St G c σ ρ h m ent fent ext) (F' : Fr G.base c.L h' m) (N' : News G.base c.L h' (ent ++ (fent ++ ext))) : St G c σ ρ h' m ent fent ext :=
  ⟨F', N', S.nd, S.loc, S.keys, S.objs, S.frames, S.ext, S.cells, S.hd⟩
end

/-- predicate transformers -/
noncomputable abbrev PT (α : Type) := (α → Shared → Prop) → (Value → Shared → Prop) → Shared → Prop
noncomputable def PT.bind {α β : Type} (p : PT α) (f : α → PT β) : PT β := fun Q E s => p (fun a s' => f a Q E s') E s
noncomputable abbrev pt (G : Gd) (c : Cx) {α : Type} (t : Sem α) : PT α := fun Q E s => wpAny G.M c.A t Q E s
noncomputable abbrev up (s : Shared) (h : Heap) (tk : Nat) : Shared := { s with heap := h, toks := tk }

/-- an exception's own state ahead of a note: fresh, or traced (its newest entry is its own, its flight is over) -/
noncomputable def Trace (h : Heap) (vs : Array Value) (bad : Addr → Prop) : Prop := vs[1]? = some .none ∨
  ∃ Tb oT ts, vs[1]? = some (.ref Tb) ∧ h.get? Tb = some oT ∧ oT.data = .fields ts ∧ ts[3]? = some .none ∧ ¬ bad Tb ∧ TbLike oT ts
/-- an exception on its way in this frame: fresh, or handed up by a callee -/
noncomputable def Fly (G : Gd) (σ : AS) (x : Nat) (h : Heap) (e : Addr) : Prop := (∃ C d cl, σ.hp[x]? = some (.exc C d cl false)) ∧ ∃ oe vs, h.get? e = some oe ∧ oe.data = .fields vs ∧ 5 < vs.size ∧ Trace h vs fun b => b = e ∨ G.base.get? b ≠ none

noncomputable def W (G : Gd) (c : Cx) {α β : Type} (ρ : List Addr) (s : Shared) (p : PT α) (RV : List Addr → β → α → Prop) : Res β → Prop
  | .ok v σ' => ∀ Q E, (∀ ρ' v' h' tk, ρ <+: ρ' → Rel G c σ' ρ' h' → RV ρ' v v' → Q v' (up s h' tk)) → p Q E s
  | .exc x σ' => ∀ Q E, (∀ ρ' e h' tk, ρ <+: ρ' → Rel G c σ' ρ' h' → ρ'[x]? = some e → Fly G σ' x h' e → E (.ref e) (up s h' tk)) → p Q E s
  | .stuck => True

section
variable {G : Gd} {c : Cx} {α β γ δ : Type} {ρ : List Addr} {s : Shared} {p : PT α} {RV : List Addr → β → α → Prop} {RW : List Addr → δ → γ → Prop} {r : Res β}

theorem W.conv {p' : PT α} (k : ∀ Q E, p' Q E s → p Q E s) (h : W G c ρ s p' RV r) : W G c ρ s p RV r := by
  cases r with
  | ok v σ' => exact fun Q E q => k _ _ (h Q E q)
  | exc x σ' => exact fun Q E q => k _ _ (h Q E q)
  | stuck => trivial
theorem W.bind {f : α → PT γ} {g : β → AS → Res δ} (h : W G c ρ s p RV r)
    (k : ∀ v σ', ∀ ρ' v' h' tk, ρ <+: ρ' → Rel G c σ' ρ' h' → RV ρ' v v' → W G c ρ' (up s h' tk) (f v') RW (g v σ')) : W G c ρ s (p.bind f) RW (r.bind g) := by
  cases r with
  | stuck => trivial
  | exc x σ' => exact fun Q E q => h _ _ q
  | ok v σ' =>
    show W G c ρ s (p.bind f) RW (g v σ')
    cases hg : g v σ' with
    | stuck => trivial
    | ok u σ'' =>
      refine fun Q E q => h _ _ fun ρ' v' h' tk a b d => ?_
      have z := k v σ' ρ' v' h' tk a b d
      rw [hg] at z
      exact z Q E fun ρ'' v'' h'' tk' a' b' d' => q ρ'' v'' h'' tk' (a.trans a') b' d'
    | exc x σ'' =>
      refine fun Q E q => h _ _ fun ρ' v' h' tk a b d => ?_
      have z := k v σ' ρ' v' h' tk a b d
      rw [hg] at z
      exact z Q E fun ρ'' v'' h'' tk' a' b' d' => q ρ'' v'' h'' tk' (a.trans a') b' d'
theorem W.pure {a : α} {b : β} {σ : AS} (R : Rel G c σ ρ s.heap) (r : RV ρ b a) : W G c ρ s (fun Q _ s => Q a s) RV (.ok b σ) :=
  fun _ _ q => q ρ a s.heap s.toks (List.prefix_refl _) R r
end

-- looking at a value, at an object
section
variable {β : Type}
noncomputable def onInt (a : AV) (f : Int → Res β) : Res β := match a with | .int x => f x | _ => .stuck
noncomputable def onStr (a : AV) (f : Str → Res β) : Res β := match a with | .str x => f x | _ => .stuck
noncomputable def onRef (a : AV) (f : Nat → Res β) : Res β := match a with | .ref i => f i | _ => .stuck
noncomputable def onOpt {γ : Type} (o : Option γ) (f : γ → Res β) : Res β := match o with | some x => f x | none => .stuck
noncomputable def args1 (as : List AV) (f : AV → Res β) : Res β := match as with
  | [] => .stuck
  | a :: r => match r with | [] => f a | _ :: _ => .stuck
noncomputable def args2 (as : List AV) (f : AV → AV → Res β) : Res β := match as with
  | [] => .stuck
  | a :: r => args1 r (f a)
noncomputable def args3 (as : List AV) (f : AV → AV → AV → Res β) : Res β := match as with
  | [] => .stuck
  | a :: r => args2 r (f a)
noncomputable def onList (σ : AS) (i : Nat) (f : List AV → Res β) : Res β := match σ.hp[i]? with
  | some o => (match o with | .list xs => f xs | _ => .stuck)
  | none => .stuck
noncomputable def onTup (σ : AS) (i : Nat) (f : List AV → Res β) : Res β := match σ.hp[i]? with
  | some o => (match o with | .tuple xs => f xs | _ => .stuck)
  | none => .stuck
noncomputable def onDict (σ : AS) (i : Nat) (f : List (Str × AV) → Res β) : Res β := match σ.hp[i]? with
  | some o => (match o with | .dict xs => f xs | _ => .stuck)
  | none => .stuck
noncomputable def onInst (σ : AS) (i : Nat) (f : Addr → Nat → Res β) : Res β := match σ.hp[i]? with
  | some o => (match o with | .inst C d => f C d | _ => .stuck)
  | none => .stuck
noncomputable def onExc (σ : AS) (i : Nat) (f : Addr → Option Nat → Bool → Bool → Res β) : Res β := match σ.hp[i]? with
  | some o => (match o with | .exc C d cl fs => f C d cl fs | _ => .stuck)
  | none => .stuck
noncomputable def onClos (σ : AS) (i : Nat) (f : Nat → List (Str × Nat) → Res β) : Res β := match σ.hp[i]? with
  | some o => (match o with | .clos k cs => f k cs | _ => .stuck)
  | none => .stuck
noncomputable def onCell (σ : AS) (i : Nat) (f : Option AV → Res β) : Res β := match σ.hp[i]? with
  | some o => (match o with | .cell v => f v | _ => .stuck)
  | none => .stuck
variable {G : Gd} {c : Cx} {α : Type} {σ : AS} {ρ : List Addr} {s : Shared} {RV : List Addr → β → α → Prop}
theorem W.onInt {p : Value → PT α} {a : AV} {a' : Value} {f : Int → Res β} (ha : VR ρ a a') (k : ∀ x t, W G c ρ s (p (.int x t)) RV (f x)) : W G c ρ s (p a') RV (onInt a f) := by
  cases a with
  | int x =>
    obtain ⟨t, rfl⟩ := ha.iint
    exact k x t
  | _ => trivial
theorem W.onStr {p : Value → PT α} {a : AV} {a' : Value} {f : Str → Res β} (ha : VR ρ a a') (k : ∀ x t, W G c ρ s (p (.str x t)) RV (f x)) : W G c ρ s (p a') RV (onStr a f) := by
  cases a with
  | str x =>
    obtain ⟨t, rfl⟩ := ha.istr
    exact k x t
  | _ => trivial
theorem W.onRef {p : Value → PT α} {a : AV} {a' : Value} {f : Nat → Res β} (ha : VR ρ a a') (k : ∀ i b, ρ[i]? = some b → a = .ref i → W G c ρ s (p (.ref b)) RV (f i)) : W G c ρ s (p a') RV (onRef a f) := by
  cases a with
  | ref i =>
    obtain ⟨b, e, rfl⟩ := ha.iref
    exact k i b e rfl
  | _ => trivial
theorem W.onOpt {γ : Type} {p : PT α} {o : Option γ} {f : γ → Res β} (k : ∀ x, o = some x → W G c ρ s p RV (f x)) : W G c ρ s p RV (onOpt o f) := by
  cases o with
  | some x => exact k x rfl
  | none => trivial
theorem W.when {p : PT α} {q : Prop} [Decidable q] {r : Res β} (k : q → W G c ρ s p RV r) : W G c ρ s p RV (if q then r else .stuck) := by
  by_cases h : q
  · rw [if_pos h]; exact k h
  · rw [if_neg h]; trivial
theorem W.args1 {p : List Value → PT α} {as : List AV} {as' : List Value} {f : AV → Res β} (ha : All2 (VR ρ) as as') (k : ∀ a a', VR ρ a a' → W G c ρ s (p [a']) RV (f a)) : W G c ρ s (p as') RV (args1 as f) := by
  cases ha with
  | nil => trivial
  | cons r t =>
    cases t with
    | nil => exact k _ _ r
    | cons _ _ => trivial
theorem W.args2 {p : List Value → PT α} {as : List AV} {as' : List Value} {f : AV → AV → Res β} (ha : All2 (VR ρ) as as') (k : ∀ a b a' b', VR ρ a a' → VR ρ b b' → W G c ρ s (p [a', b']) RV (f a b)) : W G c ρ s (p as') RV (args2 as f) := by
  cases ha with
  | nil => trivial
  | @cons a a' _ _ r t => exact W.args1 (p := fun l => p (a' :: l)) t fun b b' r' => k _ _ _ _ r r'
theorem W.args3 {p : List Value → PT α} {as : List AV} {as' : List Value} {f : AV → AV → AV → Res β} (ha : All2 (VR ρ) as as') (k : ∀ a b x a' b' x', VR ρ a a' → VR ρ b b' → VR ρ x x' → W G c ρ s (p [a', b', x']) RV (f a b x)) : W G c ρ s (p as') RV (args3 as f) := by
  cases ha with
  | nil => trivial
  | @cons a a' _ _ r t => exact W.args2 (p := fun l => p (a' :: l)) t fun b x b' x' r' r'' => k _ _ _ _ _ _ r r' r''
variable {p : PT α} {i : Nat}
theorem W.onList {f : List AV → Res β} (k : ∀ xs, σ.hp[i]? = some (.list xs) → W G c ρ s p RV (f xs)) : W G c ρ s p RV (onList σ i f) := by
  unfold Mine.onList
  cases e : σ.hp[i]? with
  | none => trivial
  | some o => cases o with
    | list xs => exact k xs e
    | _ => trivial
theorem W.onTup {f : List AV → Res β} (k : ∀ xs, σ.hp[i]? = some (.tuple xs) → W G c ρ s p RV (f xs)) : W G c ρ s p RV (onTup σ i f) := by
  unfold Mine.onTup
  cases e : σ.hp[i]? with
  | none => trivial
  | some o => cases o with
    | tuple xs => exact k xs e
    | _ => trivial
theorem W.onDict {f : List (Str × AV) → Res β} (k : ∀ xs, σ.hp[i]? = some (.dict xs) → W G c ρ s p RV (f xs)) : W G c ρ s p RV (onDict σ i f) := by
  unfold Mine.onDict
  cases e : σ.hp[i]? with
  | none => trivial
  | some o => cases o with
    | dict xs => exact k xs e
    | _ => trivial
theorem W.onInst {f : Addr → Nat → Res β} (k : ∀ C d, σ.hp[i]? = some (.inst C d) → W G c ρ s p RV (f C d)) : W G c ρ s p RV (onInst σ i f) := by
  unfold Mine.onInst
  cases e : σ.hp[i]? with
  | none => trivial
  | some o => cases o with
    | inst C d => exact k C d e
    | _ => trivial
theorem W.onExc {f : Addr → Option Nat → Bool → Bool → Res β} (k : ∀ C d cl fs, σ.hp[i]? = some (.exc C d cl fs) → W G c ρ s p RV (f C d cl fs)) : W G c ρ s p RV (onExc σ i f) := by
  unfold Mine.onExc
  cases e : σ.hp[i]? with
  | none => trivial
  | some o => cases o with
    | exc C d cl fs => exact k C d cl fs e
    | _ => trivial
theorem W.onClos {f : Nat → List (Str × Nat) → Res β} (k : ∀ j cs, σ.hp[i]? = some (.clos j cs) → W G c ρ s p RV (f j cs)) : W G c ρ s p RV (onClos σ i f) := by
  unfold Mine.onClos
  cases e : σ.hp[i]? with
  | none => trivial
  | some o => cases o with
    | clos j cs => exact k j cs e
    | _ => trivial
theorem W.onCell {f : Option AV → Res β} (k : ∀ v, σ.hp[i]? = some (.cell v) → W G c ρ s p RV (f v)) : W G c ρ s p RV (onCell σ i f) := by
  unfold Mine.onCell
  cases e : σ.hp[i]? with
  | none => trivial
  | some o => cases o with
    | cell v => exact k v e
    | _ => trivial
theorem onRef_ns {a : AV} {f : Nat → Res β} (h : onRef a f ≠ .stuck) : ∃ i, a = .ref i ∧ f i ≠ .stuck := by
  cases a with
  | ref i => exact ⟨i, rfl, h⟩
  | _ => exact absurd rfl h
theorem onList_ns {f : List AV → Res β} (h : onList σ i f ≠ .stuck) : ∃ xs, σ.hp[i]? = some (.list xs) ∧ f xs ≠ .stuck := by
  unfold Mine.onList at h
  cases e : σ.hp[i]? with
  | none => rw [e] at h; exact absurd rfl h
  | some o =>
    rw [e] at h
    cases o with
    | list xs => exact ⟨xs, rfl, h⟩
    | _ => exact absurd rfl h
theorem onDict_ns {f : List (Str × AV) → Res β} (h : onDict σ i f ≠ .stuck) : ∃ xs, σ.hp[i]? = some (.dict xs) ∧ f xs ≠ .stuck := by
  unfold Mine.onDict at h
  cases e : σ.hp[i]? with
  | none => rw [e] at h; exact absurd rfl h
  | some o =>
    rw [e] at h
    cases o with
    | dict xs => exact ⟨xs, rfl, h⟩
    | _ => exact absurd rfl h
theorem onInst_ns {f : Addr → Nat → Res β} (h : onInst σ i f ≠ .stuck) : ∃ C d, σ.hp[i]? = some (.inst C d) ∧ f C d ≠ .stuck := by
  unfold Mine.onInst at h
  cases e : σ.hp[i]? with
  | none => rw [e] at h; exact absurd rfl h
  | some o =>
    rw [e] at h
    cases o with
    | inst C d => exact ⟨C, d, rfl, h⟩
    | _ => exact absurd rfl h
theorem when_ns {q : Prop} [Decidable q] {r : Res β} (h : (if q then r else .stuck) ≠ .stuck) : q ∧ r ≠ .stuck := by
  by_cases e : q
  · rw [if_pos e] at h; exact ⟨e, h⟩
  · rw [if_neg e] at h; exact absurd rfl h
theorem onRef_e {i : Nat} {f : Nat → Res β} : onRef (.ref i) f = f i := rfl
theorem onList_e {xs : List AV} {f : List AV → Res β} (h : σ.hp[i]? = some (.list xs)) : onList σ i f = f xs := by unfold Mine.onList; rw [h]
theorem onDict_e {xs : List (Str × AV)} {f : List (Str × AV) → Res β} (h : σ.hp[i]? = some (.dict xs)) : onDict σ i f = f xs := by unfold Mine.onDict; rw [h]
theorem onExc_e {C : Addr} {d : Option Nat} {cl fs : Bool} {f : Addr → Option Nat → Bool → Bool → Res β} (h : σ.hp[i]? = some (.exc C d cl fs)) : onExc σ i f = f C d cl fs := by unfold Mine.onExc; rw [h]
theorem onClos_e {j : Nat} {cs : List (Str × Nat)} {f : Nat → List (Str × Nat) → Res β} (h : σ.hp[i]? = some (.clos j cs)) : onClos σ i f = f j cs := by unfold Mine.onClos; rw [h]
theorem onTup_e {xs : List AV} {f : List AV → Res β} (h : σ.hp[i]? = some (.tuple xs)) : onTup σ i f = f xs := by unfold Mine.onTup; rw [h]
theorem onInst_e {C : Addr} {d : Nat} {f : Addr → Nat → Res β} (h : σ.hp[i]? = some (.inst C d)) : onInst σ i f = f C d := by unfold Mine.onInst; rw [h]
end
end Mine

open PySem PySem.W PyProof.Rows PySem.Calls
set_option Elab.async false
set_option maxRecDepth 100000
set_option maxHeartbeats 4000000
set_option linter.unusedVariables false
namespace Mine

/-- what a heap is behind a note of a frame upon an exception -/
structure Noted (fl : Value) (frames : List Addr) (e : Addr) (oe : Obj) (h h' : Heap) : Prop where
  made : ∃ T oT ts, h'.get? e = some (Obj.mapFields (·.setIfInBounds 1 (Value.ref T)) oe) ∧ h.get? T = none ∧ T ≠ e ∧ h'.get? T = some oT ∧ oT.data = .fields ts ∧ ts[3]? = some fl ∧ TbLike oT ts
  keep : ∀ b o, b ≠ e → h.get? b = some o → ∃ sl, h'.get? b = some { o with slots := sl } ∧ (b ∉ frames → h'.get? b = some o)

section
variable {M : Model} {A : Around} {E : Value → Shared → Prop} {s : Shared}

theorem entry_at {base : Heap} {env : Env} {outer : List Env} {L e : Addr} {oe : Obj} {vs : Array Value} {head : Value} {hadNext : Bool} {Q : Unit → Shared → Prop}
    (hfr : A.frames = some (env :: outer)) (hl : s.heap.FunFrames base (env :: outer)) (hf : env.frame = some L)
    (he : s.heap.get? e = some oe) (hd : oe.data = .fields vs) (hsz : 1 < vs.size)
    (h : ∀ h', Noted (rawInt L) ((env :: outer).filterMap (·.frame)) e oe s.heap h' → Q () { s with heap := h' }) :
    wpAny M A (do let a ← frameOf env; let pl ← entryPlaceOf L hadNext; let b ← EntryCells.newEntry head a .none (rawInt L) .none pl; setField (.ref e) 1 b) Q E s := by
  have hene : e ∉ (env :: outer).filterMap (·.frame) := fun hm => by
    refine cps fun X_ k_ => ?_
    obtain ⟨_, o, ho, hnf⟩ := hl.mem hm
    refine k_ ?_
    clear k_ X_
    rw [he] at ho; injection ho with ho; subst ho; exact hnf vs hd
  refine wpAny_bind (wpAny_frameOf_fun hfr hl hf fun h₁ hs₁ => ?_)
  refine wpAny_bind (wpAny_entryPlaceOf fun pl hpl => ?_)
  unfold EntryCells.newEntry newFields
  refine wpAny_bind (wpAny_newObj_type ?_ (hpl.sizeOk5 _ _ _ _ _))
  have he₁ : h₁.get? e = some oe := (hs₁.2.1 e hene).trans he
  generalize hT : ({ cls := .type "traceback", dict := none, data := .fields ([head, .ref L, .none, rawInt L, .none] ++ (if pl.isEmpty then List.replicate 6 Value.none else pl)).toArray } : Obj) = oT
  have he₂ := Heap.get?_push_of_some (h := h₁) oT he₁
  refine wpAny_setField he₂ hd hsz (h _ ?_)
  have hTe : h₁.objs.size ≠ e := Nat.ne_of_gt (Heap.lt_size he₁)
  have hd₃ := Obj.data_mapFields hd (·.setIfInBounds 1 (Value.ref h₁.objs.size))
  have he₃ := Heap.get?_update_self (Obj.mapFields (·.setIfInBounds 1 (Value.ref h₁.objs.size))) he₂ (Obj.isFreed_of_fields hd₃)
  have hT₃ := (Heap.get?_update_other (h₁.push oT) (Obj.mapFields (·.setIfInBounds 1 (Value.ref h₁.objs.size))) (Ne.symm hTe)).trans (Heap.get?_push_size h₁ (by rw [← hT]; rfl))
  refine ⟨⟨h₁.objs.size, oT, _, he₃, ?_, hTe, hT₃, by rw [← hT], ?_, by rw [← hT], ?_⟩, fun b o hbe hb => ?_⟩
  · rw [hs₁.1]; exact Heap.get?_none_of_le (Nat.le_refl _)
  · first | (simp; done) | (rcases hpl with rfl | ⟨_, _, _, _, _, _, _, rfl⟩ <;> simp)
  · intro q t; first | (simp; done) | (rcases hpl with rfl | ⟨_, _, _, _, _, _, _, rfl⟩ <;> simp)
  · obtain ⟨sl, hs⟩ := hs₁.2.2 b o hb
    have step : ∀ o', h₁.get? b = some o' → ((h₁.push oT).update e (Obj.mapFields (·.setIfInBounds 1 (Value.ref h₁.objs.size)))).get? b = some o' := fun o' q => by
      rw [Heap.get?_update_other _ _ (Ne.symm hbe)]
      exact Heap.get?_push_of_some _ q
    exact ⟨sl, step _ hs, fun hnf => step _ ((hs₁.2.1 b hnf).trans hb)⟩

/-- what a heap is behind a note: everything but the exception, its old entry and the frames' slots stands -/
structure NotedX (fl : Value) (frames : List Addr) (e : Addr) (oe : Obj) (vs : Array Value) (h h' : Heap) : Prop where
  made : ∃ T oT ts, h'.get? e = some (Obj.mapFields (·.setIfInBounds 1 (Value.ref T)) oe) ∧ h.get? T = none ∧ T ≠ e ∧ h'.get? T = some oT ∧ oT.data = .fields ts ∧ ts[3]? = some fl ∧ TbLike oT ts
  keep : ∀ b o, b ≠ e → vs[1]? ≠ some (.ref b) → h.get? b = some o → ∃ sl, h'.get? b = some { o with slots := sl } ∧ (b ∉ frames → h'.get? b = some o)

theorem note_at {base : Heap} {env : Env} {outer : List Env} {L e : Addr} {oe : Obj} {vs : Array Value} {bad : Addr → Prop} {Q : Unit → Shared → Prop}
    (hfr : A.frames = some (env :: outer)) (hl : s.heap.FunFrames base (env :: outer)) (hf : env.frame = some L)
    (he : s.heap.get? e = some oe) (hd : oe.data = .fields vs) (hsz : 5 < vs.size) (ht : Trace s.heap vs bad) (hbad : bad e)
    (h : ∀ h', NotedX (rawInt L) ((env :: outer).filterMap (·.frame)) e oe vs s.heap h' → Q () { s with heap := h' }) : wpAny M A (noteFrame (.ref e) env) Q E s := by
  unfold noteFrame
  simp only [hf]
  refine cps fun X_ k_ => ?_
  rcases ht with h1 | ⟨Tb, oT, ts, h1, hT, hdT, h3, hb, hc⟩
  all_goals refine k_ ?_
  all_goals clear k_ X_
  · refine wpAny_bind (wpAny_field he hd h1 ?_)
    rw [if_neg (by decide)]
    refine entry_at hfr hl hf he hd (by omega) fun h' N => h h' ⟨N.made, fun b o hbe _ hbo => N.keep b o hbe hbo⟩
  · have hTe : Tb ≠ e := fun q => hb (q ▸ hbad)
    refine wpAny_bind (wpAny_field he hd h1 ?_)
    rw [if_pos (show (Value.ref Tb != Value.none) = true from by simp)]
    refine wpAny_bind (wpAny_field hT hdT h3 ?_)
    rw [if_neg (show ¬ ((Value.none == rawInt L) = true) from by simp [rawInt])]
    refine wpAny_bind (wpAny_setField hT hdT (Array.getElem?_eq_some_iff.mp h3).1 ?_)
    have other : ∀ b, b ≠ Tb → (s.heap.update Tb (Obj.mapFields (·.setIfInBounds 3 Value.none))).get? b = s.heap.get? b := fun b hb => Heap.get?_update_other _ _ (Ne.symm hb)
    have noRecord : ∀ b o, s.heap.get? b = some o → (∀ vs, o.data ≠ .fields vs) → b ≠ Tb := fun b o hb hnf q => by
      rw [q, hT] at hb; injection hb with hb; subst hb; exact hnf ts hdT
    refine entry_at hfr (hl.of_keeps fun b o hb hnf => ⟨o, (other b (noRecord b o hb hnf)).trans hb, rfl⟩) hf ((other e (Ne.symm hTe)).trans he) hd (by omega) fun h' N => h h' ⟨?_, fun b o hbe hbt hbo => ?_⟩
    · refine cps fun X_ k_ => ?_
      obtain ⟨T, oT', ts', a1, a2, a3, a4⟩ := N.made
      refine k_ ?_
      clear k_ X_
      refine ⟨T, oT', ts', a1, ?_, a3, a4⟩
      by_cases q : T = Tb
      · exfalso
        have hu := Heap.get?_update_self (Obj.mapFields (·.setIfInBounds 3 Value.none)) hT (Obj.isFreed_of_fields (Obj.data_mapFields hdT _))
        rw [q] at a2
        rw [a2] at hu
        cases hu
      · rw [← other T q]; exact a2
    · exact N.keep b o hbe ((other b fun q => hbt (q ▸ h1)).trans hbo)

/-- leaving a frame by an exception -/
theorem leave_at {base : Heap} {env : Env} {outer : List Env} {L e : Addr} {oe : Obj} {vs : Array Value} {bad : Addr → Prop} {Q : Unit → Shared → Prop}
    (hfr : A.frames = some (env :: outer)) (hl : s.heap.FunFrames base (env :: outer)) (hf : env.frame = some L)
    (he : s.heap.get? e = some oe) (hd : oe.data = .fields vs) (hsz : 5 < vs.size) (ht : Trace s.heap vs bad) (hbad : bad e)
    (h : ∀ h', NotedX .none ((env :: outer).filterMap (·.frame)) e oe vs s.heap h' → Q () { s with heap := h' }) : wpAny M A (leaving env (.ref e)) Q E s := by
  unfold leaving
  refine wpAny_bind (note_at hfr hl hf he hd hsz ht hbad fun h₁ N => ?_)
  refine cps fun X_ k_ => ?_
  obtain ⟨T, oT, ts, a1, a2, a3, a4, a5, a6, a7⟩ := N.made
  refine k_ ?_
  clear k_ X_
  have hd₁ := Obj.data_mapFields hd (·.setIfInBounds 1 (Value.ref T))
  have hT3 : 3 < ts.size := (Array.getElem?_eq_some_iff.mp a6).1
  unfold setFlight
  have hx1 : (vs.setIfInBounds 1 (Value.ref T))[1]? = some (.ref T) := by
    rw [Array.getElem?_setIfInBounds_self_of_lt (by omega)]
  refine wpAny_bind (wpAny_field a1 hd₁ hx1 ?_)
  rw [if_pos (show (Value.ref T != Value.none) = true from by simp)]
  refine wpAny_setField a4 a5 hT3 (h _ ?_)
  have other : ∀ b, b ≠ T → (h₁.update T (Obj.mapFields (·.setIfInBounds 3 ((none : Option Addr).elim Value.none fun f => rawInt f)))).get? b = h₁.get? b := fun b hb => Heap.get?_update_other _ _ (Ne.symm hb)
  refine ⟨⟨T, _, _, (other e (Ne.symm a3)).trans a1, a2, a3, Heap.get?_update_self _ a4 (Obj.isFreed_of_fields (Obj.data_mapFields a5 _)), Obj.data_mapFields a5 _, ?_, a7.set _ _⟩, fun b o hbe hbt hbo => ?_⟩
  · simp [hT3]
  · refine cps fun X_ k_ => ?_
    obtain ⟨sl, k1, k2⟩ := N.keep b o hbe hbt hbo
    refine k_ ?_
    clear k_ X_
    have hbT : b ≠ T := fun q => by rw [q, a2] at hbo; cases hbo
    exact ⟨sl, (other b hbT).trans k1, fun hn => (other b hbT).trans (k2 hn)⟩
end
end Mine

open PySem PySem.W PyProof.Rows PySem.Calls
set_option Elab.async false
set_option maxRecDepth 100000
set_option maxHeartbeats 4000000
set_option linter.unusedVariables false
namespace Mine

structure OkCx (G : Gd) (n : Nat) (sc : Scope) (c : Cx) : Prop where
  hsc : c.env.scope = sc
  kind : sc.kind = .function
  loc : c.env.locals = c.L
  gl : c.env.globals = mainGlobals
  bu : c.env.builtins = builtinsNs
  depth : c.A.depth + 12 * n + 20 < recursionLimit
  units : c.A.units + 60 * n + 100 < cLine
  frs : ∃ e l, c.A.frames = some (e :: l) ∧ c.env.frame = e.frame ∧ ∀ x ∈ e :: l, x.scope.kind ≠ .module ∧ ∃ a, x.frame = some a ∧ (a = c.L ∨ a ∈ c.frs.map (·.1))
  lam : sc = G.lamScope → ∃ a, c.env = envX G.lamQual sc c.L a (.ref G.tabC) c.env.cells

/-- an expression does what an abstract program does -/
noncomputable def RefE (G : Gd) (n : Nat) (sc : Scope) (e : Expr) (m : AM AV) : Prop := ∀ c σ ρ s, OkCx G n sc c → Rel G c σ ρ s.heap → W G c ρ s (pt G c (eval e c.env)) VR (m σ)
/-- .. as a test -/
noncomputable def RefT (G : Gd) (n : Nat) (sc : Scope) (e : Expr) (m : AM Bool) : Prop := ∀ c σ ρ s, OkCx G n sc c → Rel G c σ ρ s.heap → W G c ρ s (pt G c (PySem.isTrue e c.env (eval e c.env))) (fun _ b b' => b' = b) (m σ)

noncomputable def aLoc (x : Str) : AM AV := fun σ => match σ.loc x with | some v => .ok v σ | none => .stuck
noncomputable def aCell (x : Str) : AM AV := fun σ => match σ.cells.lookup x with
  | some i => onCell σ i fun v => onOpt v fun v => .ok v σ
  | none => .stuck

theorem cells_lookup {ρ : List Addr} {as : List (Str × Nat)} {bs : List (Str × Addr)} (h : All2 (CellR ρ) as bs) {x : Str} {i : Nat} : as.lookup x = some i → ∃ a, bs.lookup x = some a ∧ ρ[i]? = some a := by
  induction h with
  | nil => exact fun e => nomatch e
  | @cons p q as bs r t ih =>
    obtain ⟨n, j⟩ := p
    obtain ⟨n', b⟩ := q
    obtain ⟨r1, r2⟩ := r
    dsimp only at r1 r2
    subst r1
    intro e
    rw [List.lookup_cons] at e ⊢
    cases q : x == n with
    | true => rw [q] at e; cases e; exact ⟨b, rfl, r2⟩
    | false => rw [q] at e; exact ih e

section
variable {G : Gd} {n : Nat} {sc : Scope}

theorem ref_loc {x : Str} {pos : Pos} (hx : sc.names.lookup x = some .local) (hd : (x == ("__debug__" : Str)) = false := by decide) : RefE G n sc (.Name x pos) (aLoc x) := by
  intro c σ ρ s hc R
  refine cps fun X_ k_ => ?_
  obtain ⟨m, ent, fent, ext, S⟩ := R
  refine k_ ?_
  clear k_ X_
  have hl := S.loc x
  unfold aLoc
  cases e : σ.loc x with
  | none => trivial
  | some v =>
    rw [e] at hl
    cases hm : m x with
    | none => rw [hm] at hl; cases hl
    | some v' =>
      rw [hm] at hl
      cases hl with | some r =>
      intro Q E q
      refine wpAny_Name (wpAny_loadName_local (by rw [hc.hsc]; exact hc.kind) (by unfold Env.kindOf; rw [hc.hsc]; exact hx) (by rw [hc.loc]; exact S.fr.ns) hm ?_) hd
      exact q ρ v' s.heap s.toks (List.prefix_refl _) ⟨m, ent, fent, ext, S⟩ r

theorem ref_cell {x : Str} {pos : Pos} (hx : sc.names.lookup x = some .cell ∨ sc.names.lookup x = some .free) (hd : (x == ("__debug__" : Str)) = false := by decide) (hn : (x == ("__classdict__" : Str)) = false := by decide) :
    RefE G n sc (.Name x pos) (aCell x) := by
  intro c σ ρ s hc R
  refine cps fun X_ k_ => ?_
  obtain ⟨m, ent, fent, ext, S⟩ := R
  refine k_ ?_
  clear k_ X_
  unfold aCell
  cases e : σ.cells.lookup x with
  | none => trivial
  | some i =>
    refine cps fun X_ k_ => ?_
    obtain ⟨a, ha, hρ⟩ := cells_lookup S.cells e
    refine k_ ?_
    clear k_ X_
    dsimp only
    refine W.onCell fun v hv => ?_
    refine W.onOpt fun v ev => ?_
    subst ev
    refine cps fun X_ k_ => ?_
    obtain ⟨a', ob, e1, e2, r, e3, e4, e5⟩ := S.objAt hv
    refine k_ ?_
    clear k_ X_
    rw [hρ] at e1
    cases e1
    cases r with | cell hd' ov =>
    cases ov with | some rv =>
    intro Q E q
    have cell : s.heap.IsCell a (some _) := ⟨ob, e3, hd'⟩
    have fin := q ρ _ s.heap s.toks (List.prefix_refl _) ⟨m, ent, fent, ext, S⟩ rv
    rcases hx with hx | hx
    · exact wpAny_Name (wpAny_loadName_cell (by rw [hc.hsc]; exact hc.kind) (by unfold Env.kindOf; rw [hc.hsc]; exact hx) ha cell fin) hd
    · exact wpAny_Name (wpAny_loadName_free (by rw [hc.hsc]; exact hc.kind) (by unfold Env.kindOf; rw [hc.hsc]; exact hx) ha cell fin hn) hd

theorem ref_glob {x : Str} {pos : Pos} {v : Value} {a : AV} (hx : sc.names.lookup x = some .globalImplicit) (e : nsIn G.K mainGlobals x = some (some v)) (r : VR [] a v) (hd : (x == ("__debug__" : Str)) = false := by decide) :
    RefE G n sc (.Name x pos) (pure a) := by
  intro c σ ρ s hc R Q E q
  refine cps fun X_ k_ => ?_
  obtain ⟨m, ent, fent, ext, S⟩ := R
  refine k_ ?_
  clear k_ X_
  refine Name_function_global (by rw [hc.hsc]; exact hc.kind) (by unfold Env.kindOf; rw [hc.hsc]; exact hx) (loadGlobal_global (mg := G.mg) (by rw [hc.gl]; exact G.T.g.keeps S.fr.keep) (mg_of G.X G.T.g e) ?_) hd
  exact q ρ v s.heap s.toks (List.prefix_refl _) ⟨m, ent, fent, ext, S⟩ (r.mono List.nil_prefix)

theorem ref_builtin {x : Str} {pos : Pos} {v : Value} {a : AV} (hx : sc.names.lookup x = some .globalImplicit) (e : nsIn G.K mainGlobals x = some none) (hv : bootBuiltins x = some v) (hn : x ≠ "__name__") (r : VR [] a v) (hd : (x == ("__debug__" : Str)) = false := by decide) :
    RefE G n sc (.Name x pos) (pure a) := by
  intro c σ ρ s hc R Q E q
  refine cps fun X_ k_ => ?_
  obtain ⟨m, ent, fent, ext, S⟩ := R
  refine k_ ?_
  clear k_ X_
  refine Name_function_global (by rw [hc.hsc]; exact hc.kind) (by unfold Env.kindOf; rw [hc.hsc]; exact hx) (loadGlobal_builtin (mg := G.mg) (mb := G.mb) (by rw [hc.gl]; exact G.T.g.keeps S.fr.keep) (mg_none_of G.X G.T.g e) (by rw [hc.bu]; exact G.T.b.keeps S.fr.keep) ((G.T.builtins x hn).trans hv) ?_) hd
  exact q ρ v s.heap s.toks (List.prefix_refl _) ⟨m, ent, fent, ext, S⟩ (r.mono List.nil_prefix)

theorem ref_int {i : Int} {k : Nat} {pos : Pos} : RefE G n sc (.Constant (.int i) k pos) (pure (.int i)) := fun c σ ρ s hc R Q E q =>
  wpAny_Constant_int (q ρ _ s.heap _ (List.prefix_refl _) R (.int _ _))
theorem ref_str {x : Str} {k : Nat} {pos : Pos} : RefE G n sc (.Constant (.str x) k pos) (pure (.str x)) := fun c σ ρ s hc R Q E q =>
  wpAny_Constant_str (q ρ _ s.heap _ (List.prefix_refl _) R (.str _ _))
theorem ref_none {k : Nat} {pos : Pos} : RefE G n sc (.Constant .none k pos) (pure .none) := fun c σ ρ s hc R Q E q =>
  wpAny_Constant_none (q ρ _ s.heap _ (List.prefix_refl _) R .none)
theorem ref_bool {b : Bool} {k : Nat} {pos : Pos} : RefE G n sc (.Constant (.bool b) k pos) (pure (.bool b)) := fun c σ ρ s hc R Q E q =>
  wpAny_Constant_bool (q ρ _ s.heap _ (List.prefix_refl _) R (.bool b))
end
end Mine

open PySem PySem.W PyProof.Rows PySem.Calls
set_option Elab.async false
set_option maxRecDepth 100000
set_option maxHeartbeats 4000000
set_option linter.unusedVariables false
namespace Mine

noncomputable def small (i : Int) : Bool := decide (-1152921504606846976 < i) && decide (i < 1152921504606846976)

/-- two ints -/
noncomputable def int2 (a b : AV) (f : Int → Int → Res AV) : Res AV := match a with
  | .int x => (match b with | .int y => f x y | _ => .stuck)
  | _ => .stuck
noncomputable def aBin (op : Operator) (a b : AV) : AM AV := fun σ => match op with
  | .Add => int2 a b fun x y => .ok (.int (x + y)) σ
  | .Sub => int2 a b fun x y => .ok (.int (x - y)) σ
  | .Mult => int2 a b fun x y => if small x then .ok (.int (x * y)) σ else .stuck
  | .Mod => int2 a b fun x y => if y = 0 then .stuck else .ok (.int (Int.fmod x y)) σ
  | .FloorDiv => int2 a b fun x y => if y = 0 then .stuck else if small y then .ok (.int (Int.fdiv x y)) σ else .stuck
  | _ => .stuck
noncomputable def aTruth (a : AV) : AM Bool := fun σ => match a with
  | .bool b => .ok b σ
  | .none => .ok false σ
  | _ => .stuck
noncomputable def aUn (op : UnaryOp) (a : AV) : AM AV := match op with
  | .Not => do let b ← aTruth a; pure (.bool !b)
  | .USub => match a with
    | .int x => pure (.int (-x))
    | _ => stuck
  | _ => stuck
noncomputable def aCmp (op : CmpOp) (a b : AV) : AM AV := fun σ => match op with
  | .Lt => int2 a b fun x y => .ok (.bool (decide (x < y))) σ
  | .Gt => int2 a b fun x y => .ok (.bool (decide (y < x))) σ
  | .LtE => int2 a b fun x y => .ok (.bool (decide (x ≤ y))) σ
  | .GtE => int2 a b fun x y => .ok (.bool (decide (y ≤ x))) σ
  | .Eq => match a with
    | .bool x => (match b with | .bool y => .ok (.bool (x == y)) σ | _ => .stuck)
    | _ => int2 a b fun x y => .ok (.bool (x == y)) σ
  | .NotEq => int2 a b fun x y => .ok (.bool (x != y)) σ
  | .Is => match b with
    | .none => (match a with | .builtin _ => .stuck | .none => .ok (.bool true) σ | _ => .ok (.bool false) σ)
    | _ => .stuck
  | .IsNot => match b with
    | .none => (match a with | .builtin _ => .stuck | .none => .ok (.bool false) σ | _ => .ok (.bool true) σ)
    | _ => .stuck
  | _ => .stuck

noncomputable def aAnd : List (AM Bool) → AM Bool
  | [] => pure true
  | m :: r => do if ← m then aAnd r else pure false
noncomputable def aOr : List (AM Bool) → AM Bool
  | [] => pure false
  | m :: r => do if ← m then pure true else aOr r
/-- «and», «or» as values -/
noncomputable def aBool (op : BoolOp) : List (AM AV) → AM AV
  | [] => stuck
  | [m] => m
  | m :: r => do
    let v ← m
    let t ← aTruth v
    match op, t with
    | .And, false => pure v
    | .Or, true => pure v
    | _, _ => aBool op r

section
variable {G : Gd} {n : Nat} {sc : Scope} {c : Cx} {σ : AS} {ρ : List Addr} {s : Shared} {a b : AV} {a' b' : Value}

theorem small_log {x : Int} (h : small x = true) : x.natAbs < 2 ^ 60 := by
  simp only [small, Bool.and_eq_true, decide_eq_true_eq] at h
  omega
theorem log_small {x : Int} (h : small x = true) : x.natAbs.log2 < 9000 := by
  have h' := small_log h
  by_cases z : x.natAbs = 0
  · rw [z]; decide
  · exact Nat.lt_trans ((Nat.log2_lt z).mpr h') (by decide)
theorem int2_ok {p : PT Value} {f : Int → Int → Res AV} (ha : VR ρ a a') (hb : VR ρ b b') (k : ∀ x y t u, a' = .int x t → b' = .int y u → W G c ρ s p VR (f x y)) : W G c ρ s p VR (int2 a b f) := by
  cases a with
  | int x =>
    cases b with
    | int y =>
      obtain ⟨t, e1⟩ := ha.iint
      obtain ⟨u, e2⟩ := hb.iint
      exact k x y t u e1 e2
    | _ => trivial
  | _ => trivial
theorem bin_ok (op : Operator) (R : Rel G c σ ρ s.heap) (ha : VR ρ a a') (hb : VR ρ b b') : W G c ρ s (pt G c (binaryOp op a' b')) VR (aBin op a b σ) := by
  cases op with
  | Add =>
    refine int2_ok ha hb fun x y t u e1 e2 => ?_
    subst e1 e2
    exact fun Q E q => add_int (q ρ _ s.heap _ (List.prefix_refl _) R (.int _ _))
  | Sub =>
    refine int2_ok ha hb fun x y t u e1 e2 => ?_
    subst e1 e2
    exact fun Q E q => sub_int (q ρ _ s.heap _ (List.prefix_refl _) R (.int _ _))
  | Mult =>
    refine int2_ok ha hb fun x y t u e1 e2 => ?_
    subst e1 e2
    split
    · rename_i h
      refine fun Q E q => mul_int (q ρ _ s.heap _ (List.prefix_refl _) R (.int _ _)) (.of_left (intBits_le_64 ?_ ?_))
      · have := small_log h; omega
      · have := small_log h; omega
    · trivial
  | Mod =>
    refine int2_ok ha hb fun x y t u e1 e2 => ?_
    subst e1 e2
    split
    · trivial
    · rename_i h
      exact fun Q E q => mod_int' h (q ρ _ s.heap _ (List.prefix_refl _) R (.int _ _))
  | FloorDiv =>
    refine int2_ok ha hb fun x y t u e1 e2 => ?_
    subst e1 e2
    split
    · trivial
    · rename_i h
      split
      · rename_i h'
        exact fun Q E q => floordiv_int h (q ρ _ s.heap _ (List.prefix_refl _) R (.int _ _)) (.inl (PyProof.noPylong_of_log2 (log_small h')))
      · trivial
  | _ => trivial
theorem truth_ok (R : Rel G c σ ρ s.heap) (ha : VR ρ a a') : W G c ρ s (pt G c (truthy a')) (fun _ b b' => b' = b) (aTruth a σ) := by
  unfold aTruth
  split
  · (replace ha := ha.ibool; obtain rfl := ha)
    exact fun Q E q => wpAny_truthy_bool (q ρ _ s.heap _ (List.prefix_refl _) R rfl)
  · (replace ha := ha.inone; obtain rfl := ha)
    exact fun Q E q => wpAny_pure (q ρ _ s.heap _ (List.prefix_refl _) R rfl)
  · trivial
theorem un_ok (op : UnaryOp) (R : Rel G c σ ρ s.heap) (ha : VR ρ a a') : W G c ρ s (pt G c (unaryOp op a')) VR (aUn op a σ) := by
  cases op with
  | Not =>
    refine W.conv (p' := PT.bind (pt G c (truthy a')) fun b => fun Q E s => Q (.bool !b) s) (fun Q E q => not_of q) ?_
    refine W.bind (truth_ok R ha) fun v σ' ρ' v' h' tk hp R' r => ?_
    subst r
    exact W.pure R' (.bool _)
  | USub =>
    cases ha with
    | int x t => exact fun Q E q => neg_int (q ρ _ s.heap _ (List.prefix_refl _) R (.int _ _))
    | _ => trivial
  | _ => trivial
theorem cmp_ok (op : CmpOp) (R : Rel G c σ ρ s.heap) (ha : VR ρ a a') (hb : VR ρ b b') : W G c ρ s (pt G c (compareOp op a' b')) VR (aCmp op a b σ) := by
  cases op with
  | Lt => refine int2_ok ha hb fun x y t u e1 e2 => ?_; subst e1 e2; exact fun Q E q => lt_int (q ρ _ s.heap _ (List.prefix_refl _) R (.bool _))
  | Gt => refine int2_ok ha hb fun x y t u e1 e2 => ?_; subst e1 e2; exact fun Q E q => gt_int (q ρ _ s.heap _ (List.prefix_refl _) R (.bool _))
  | LtE => refine int2_ok ha hb fun x y t u e1 e2 => ?_; subst e1 e2; exact fun Q E q => le_int (q ρ _ s.heap _ (List.prefix_refl _) R (.bool _))
  | GtE => refine int2_ok ha hb fun x y t u e1 e2 => ?_; subst e1 e2; exact fun Q E q => ge_int (q ρ _ s.heap _ (List.prefix_refl _) R (.bool _))
  | NotEq => refine int2_ok ha hb fun x y t u e1 e2 => ?_; subst e1 e2; exact fun Q E q => ne_int (q ρ _ s.heap _ (List.prefix_refl _) R (.bool _))
  | Eq =>
    cases ha with
    | bool x =>
      cases hb with
      | bool y =>
        refine fun Q E q => ?_
        have z := q ρ (.bool _) s.heap s.toks (List.prefix_refl _) R (.bool _)
        walk1
        exact z
      | _ => trivial
    | int x t =>
      cases hb with
      | int y u => exact fun Q E q => eq_int (q ρ _ s.heap _ (List.prefix_refl _) R (.bool _))
      | _ => trivial
    | _ => trivial
  | Is =>
    cases hb with
    | none =>
      cases ha with
      | builtin => trivial
      | none => exact fun Q E q => wpAny_is_self (by rfl) (q ρ _ s.heap _ (List.prefix_refl _) R (.bool _))
      | _ => exact fun Q E q => wpAny_is_other (by rfl) (by intro x; cases x) (q ρ _ s.heap _ (List.prefix_refl _) R (.bool _))
    | _ => trivial
  | IsNot =>
    cases hb with
    | none =>
      cases ha with
      | builtin => trivial
      | none => exact fun Q E q => wpAny_isNot_self (by rfl) (q ρ _ s.heap _ (List.prefix_refl _) R (.bool _))
      | _ => exact fun Q E q => wpAny_isNot_other (by rfl) (by intro x; cases x) (q ρ _ s.heap _ (List.prefix_refl _) R (.bool _))
    | _ => trivial
  | _ => trivial

theorem ref_bin {l r : Expr} {op : Operator} {pos : Pos} {ml mr : AM AV} (hl : RefE G n sc l ml) (hr : RefE G n sc r mr) : RefE G n sc (.BinOp l op r pos) (do let a ← ml; let b ← mr; aBin op a b) := by
  intro c σ ρ s hc R
  refine W.conv (p' := PT.bind (pt G c (eval l c.env)) fun a => PT.bind (pt G c (eval r c.env)) fun b => pt G c (binaryOp op a b)) (fun Q E q => wpAny_BinOp q) ?_
  refine W.bind (hl c σ ρ s hc R) fun v σ' ρ' v' h' tk hp R' rv => W.bind (hr c σ' ρ' _ hc R') fun u σ'' ρ'' u' h'' tk' hp' R'' ru => ?_
  exact bin_ok op R'' (rv.mono hp') ru
theorem ref_un {x : Expr} {op : UnaryOp} {pos : Pos} {mx : AM AV} (hx : RefE G n sc x mx) : RefE G n sc (.UnaryOp op x pos) (do let a ← mx; aUn op a) := by
  intro c σ ρ s hc R
  refine W.conv (p' := PT.bind (pt G c (eval x c.env)) fun a => pt G c (unaryOp op a)) (fun Q E q => wpAny_UnaryOp q) ?_
  exact W.bind (hx c σ ρ s hc R) fun v σ' ρ' v' h' tk hp R' rv => un_ok op R' rv
/-- a comparison of two values as RefE, by a meaning of the comparison -/
noncomputable def CmpOk (G : Gd) (n : Nat) (sc : Scope) (op : CmpOp) (f : AV → AV → AM AV) : Prop := ∀ c σ ρ s a b a' b', OkCx G n sc c → Rel G c σ ρ s.heap → VR ρ a a' → VR ρ b b' → W G c ρ s (pt G c (compareOp op a' b')) VR (f a b σ)
theorem cmpOk (op : CmpOp) : CmpOk G n sc op (aCmp op) := fun c σ ρ s a b a' b' hc R ha hb => cmp_ok op R ha hb
theorem ref_cmp {l r : Expr} {op : CmpOp} {pos : Pos} {ml mr : AM AV} {f : AV → AV → AM AV} (hf : CmpOk G n sc op f) (hl : RefE G n sc l ml) (hr : RefE G n sc r mr) (hm : behindInMarks op r = false := by rfl) :
    RefE G n sc (.Compare l [op] [r] pos) (do let a ← ml; let b ← mr; f a b) := by
  intro c σ ρ s hc R
  refine W.conv (p' := PT.bind (pt G c (eval l c.env)) fun a => PT.bind (pt G c (eval r c.env)) fun b => pt G c (compareOp op a b)) (fun Q E q => wpAny_Compare1 q hm) ?_
  refine W.bind (hl c σ ρ s hc R) fun v σ' ρ' v' h' tk hp R' rv => W.bind (hr c σ' ρ' _ hc R') fun u σ'' ρ'' u' h'' tk' hp' R'' ru => ?_
  exact hf c _ _ _ _ _ _ _ hc R'' (rv.mono hp') ru

theorem reft_cmp {l r : Expr} {op : CmpOp} {pos : Pos} {ml mr : AM AV} {f : AV → AV → AM AV} (hf : CmpOk G n sc op f) (hl : RefE G n sc l ml) (hr : RefE G n sc r mr) (hm : behindInMarks op r = false := by rfl) :
    RefT G n sc (.Compare l [op] [r] pos) (do let a ← ml; let b ← mr; let x ← f a b; aTruth x) := by
  intro c σ ρ s hc R
  refine W.conv (p' := PT.bind (pt G c (eval l c.env)) fun a => PT.bind (pt G c (eval r c.env)) fun b => PT.bind (pt G c (compareOp op a b)) fun x => pt G c (truthy x)) (fun Q E q => wpAny_isTrue_Compare1 q hm) ?_
  refine W.bind (hl c σ ρ s hc R) fun v σ' ρ' v' h' tk hp R' rv => W.bind (hr c σ' ρ' _ hc R') fun u σ'' ρ'' u' h'' tk' hp' R'' ru => ?_
  exact W.bind (hf c _ _ _ _ _ _ _ hc R'' (rv.mono hp') ru) fun x σ₃ ρ₃ x' h₃ tk₃ hp₃ R₃ rx => truth_ok R₃ rx
theorem reft_not {x : Expr} {pos : Pos} {m : AM Bool} (hx : RefT G n sc x m) : RefT G n sc (.UnaryOp .Not x pos) (do let b ← m; pure !b) := by
  intro c σ ρ s hc R
  refine W.conv (p' := PT.bind (pt G c (PySem.isTrue x c.env (eval x c.env))) fun b => fun Q E s => Q (!b) s) (fun Q E q => wpAny_isTrue_Not q) ?_
  refine W.bind (hx c σ ρ s hc R) fun v σ' ρ' v' h' tk hp R' rv => ?_
  subst rv
  exact W.pure R' rfl
theorem reft_val {x : Expr} {m : AM AV} (hx : RefE G n sc x m) (he : ∀ env whole, PySem.isTrue x env whole = (do let v ← whole; standAt x.pos; holding [v] (truthy v)) := by intros; rfl) : RefT G n sc x (do let a ← m; aTruth a) := by
  intro c σ ρ s hc R
  refine W.conv (p' := PT.bind (pt G c (eval x c.env)) fun a => pt G c (truthy a)) (fun Q E q => wpAny_isTrue_value q (he _ _)) ?_
  exact W.bind (hx c σ ρ s hc R) fun v σ' ρ' v' h' tk hp R' rv => truth_ok R' rv
/-- a list of tests -/
noncomputable def RefTs (G : Gd) (n : Nat) (sc : Scope) : List Expr → List (AM Bool) → Prop := All2 (RefT G n sc)
theorem allTrue_and {xs : List Expr} {ms : List (AM Bool)} (h : All2 (RefT G n sc) xs ms) : ∀ c σ ρ s, OkCx G n sc c → Rel G c σ ρ s.heap → W G c ρ s (pt G c (allTrue .And xs c.env)) (fun _ b b' => b' = b) (aAnd ms σ) := by
  induction h with
  | nil => exact fun c σ ρ s hc R => fun Q E q => wpAny_allTrue_And_nil (q ρ _ s.heap _ (List.prefix_refl _) R rfl)
  | @cons x m xs ms hx t ih =>
    intro c σ ρ s hc R
    refine W.conv (p' := PT.bind (pt G c (PySem.isTrue x c.env (eval x c.env))) fun b => fun Q E s => if b = true then wpAny G.M c.A (allTrue .And xs c.env) Q E s else Q false s) (fun Q E q => wpAny_allTrue_And_cons q) ?_
    refine W.bind (hx c σ ρ s hc R) fun v σ' ρ' v' h' tk hp R' rv => ?_
    subst rv
    cases v' with
    | true => exact ih c σ' ρ' _ hc R'
    | false => exact W.pure R' rfl
theorem allTrue_or {xs : List Expr} {ms : List (AM Bool)} (h : All2 (RefT G n sc) xs ms) : ∀ c σ ρ s, OkCx G n sc c → Rel G c σ ρ s.heap → W G c ρ s (pt G c (allTrue .Or xs c.env)) (fun _ b b' => b' = b) (aOr ms σ) := by
  induction h with
  | nil => exact fun c σ ρ s hc R => fun Q E q => wpAny_allTrue_Or_nil (q ρ _ s.heap _ (List.prefix_refl _) R rfl)
  | @cons x m xs ms hx t ih =>
    intro c σ ρ s hc R
    refine W.conv (p' := PT.bind (pt G c (PySem.isTrue x c.env (eval x c.env))) fun b => fun Q E s => if b = true then Q true s else wpAny G.M c.A (allTrue .Or xs c.env) Q E s) (fun Q E q => wpAny_allTrue_Or_cons q) ?_
    refine W.bind (hx c σ ρ s hc R) fun v σ' ρ' v' h' tk hp R' rv => ?_
    subst rv
    cases v' with
    | false => exact ih c σ' ρ' _ hc R'
    | true => exact W.pure R' rfl
theorem reft_and {xs : List Expr} {ms : List (AM Bool)} {pos : Pos} (h : RefTs G n sc xs ms) : RefT G n sc (.BoolOp .And xs pos) (aAnd ms) := fun c σ ρ s hc R =>
  W.conv (fun Q E q => wpAny_isTrue_BoolOp q) (allTrue_and h c σ ρ s hc R)
theorem reft_or {xs : List Expr} {ms : List (AM Bool)} {pos : Pos} (h : RefTs G n sc xs ms) : RefT G n sc (.BoolOp .Or xs pos) (aOr ms) := fun c σ ρ s hc R =>
  W.conv (fun Q E q => wpAny_isTrue_BoolOp q) (allTrue_or h c σ ρ s hc R)

/-- a list of expressions, each by itself -/
noncomputable def RefEs (G : Gd) (n : Nat) (sc : Scope) : List Expr → List (AM AV) → Prop := All2 (RefE G n sc)
theorem bool_ok (op : BoolOp) (pos : Pos) {xs : List Expr} {ms : List (AM AV)} (h : All2 (RefE G n sc) xs ms) : ∀ c σ ρ s, OkCx G n sc c → Rel G c σ ρ s.heap → W G c ρ s (pt G c (boolOp pos op (evalEach xs c.env))) VR (aBool op ms σ) := by
  induction h with
  | nil => exact fun c σ ρ s hc R => trivial
  | @cons x m xs ms hx t ih =>
    intro c σ ρ s hc R
    cases t with
    | nil => exact hx c σ ρ s hc R
    | @cons y m' xs ms' hy t' =>
      refine W.conv (p' := PT.bind (pt G c (eval x c.env)) fun v => PT.bind (pt G c (truthy v)) fun t => pt G c (match op, t with | .And, false => pure v | .Or, true => pure v | _, _ => boolOp pos op (evalEach (y :: xs) c.env)))
        (fun Q E q => wpAny_bind (wpAny_mono q (fun v s₁ q₁ => wpAny_bind (wpAny_standAt (wpAny_bind (wpAny_holding (wpAny_mono q₁ (fun t s₂ q₂ => ?_) fun _ _ z => z))))) fun _ _ z => z)) ?_
      · cases op <;> cases t <;> exact q₂
      · refine W.bind (hx c σ ρ s hc R) fun v σ' ρ' v' h' tk hp R' rv => W.bind (truth_ok R' rv) fun b σ'' ρ'' b' h'' tk' hp' R'' rb => ?_
        subst rb
        cases op <;> cases b' <;> first
          | exact ih c σ'' ρ'' _ hc R''
          | exact W.conv (fun Q E q => wpAny_pure q) (W.pure R'' (rv.mono hp'))
theorem ref_boolop {op : BoolOp} {xs : List Expr} {ms : List (AM AV)} {pos : Pos} (h : RefEs G n sc xs ms) : RefE G n sc (.BoolOp op xs pos) (aBool op ms) := fun c σ ρ s hc R => bool_ok op pos h c σ ρ s hc R
theorem ref_ifexp {t x y : Expr} {pos : Pos} {mt : AM Bool} {mx my : AM AV} (ht : RefT G n sc t mt) (hx : RefE G n sc x mx) (hy : RefE G n sc y my) : RefE G n sc (.IfExp t x y pos) (do if ← mt then mx else my) := by
  intro c σ ρ s hc R
  refine W.conv (p' := PT.bind (pt G c (PySem.isTrue t c.env (eval t c.env))) fun b => fun Q E s => if b = true then wpAny G.M c.A (eval x c.env) Q E s else wpAny G.M c.A (eval y c.env) Q E s) (fun Q E q => wpAny_IfExp q) ?_
  refine W.bind (ht c σ ρ s hc R) fun v σ' ρ' v' h' tk hp R' rv => ?_
  subst rv
  cases v' with
  | true => exact hx c σ' ρ' _ hc R'
  | false => exact hy c σ' ρ' _ hc R'
end
end Mine

open PySem PySem.W PyProof.Rows PySem.Calls
set_option Elab.async false
set_option maxRecDepth 100000
set_option maxHeartbeats 4000000
set_option linter.unusedVariables false
namespace Mine

/-- a value that may be handed out of a dict as it is -/
noncomputable def plainV : AV → Bool
  | .builtin _ => false
  | _ => true
noncomputable def aget (name : Str) : List (Str × AV) → Option AV
  | [] => none
  | p :: r => if p.1 = name then some p.2 else aget name r
noncomputable def aput (name : Str) (x : AV) : List (Str × AV) → List (Str × AV)
  | [] => [(name, x)]
  | p :: r => if p.1 = name then (p.1, x) :: r else p :: aput name x r

noncomputable def aGet (G : Gd) (v : AV) (name : Str) : AM AV := fun σ => onRef v fun i => onInst σ i fun C d => if (C, name) ∈ G.atts then onDict σ d fun es => onOpt (aget name es) fun x => if plainV x then .ok x σ else .stuck else .stuck
noncomputable def aSet (G : Gd) (v : AV) (name : Str) (x : AV) : AM Unit := fun σ => onRef v fun i => onInst σ i fun C d => if (C, name) ∈ G.atts then onDict σ d fun es =>
  if es.length < 900 then .ok () { σ with hp := σ.hp.set d (.dict (aput name x es)) } else .stuck else .stuck

theorem plainV_ok {ρ : List Addr} {x : AV} {v : Value} (h : plainV x = true) (r : VR ρ x v) : handedIn v = true := by
  cases r <;> first | rfl | cases h

theorem isStr_key {n m : Str} {t : Tok} : (Value.str n t).isStr m = decide (n = m) := by
  show (n == m) = decide (n = m)
  exact Bool.eq_iff_iff.mpr (by rw [beq_iff_eq, decide_eq_true_iff])

section
variable {P : Params} {ρ : List Addr}
theorem de_get {name : Str} {es : List (Str × AV)} {des : List DictEntry} (h : All2 (DE P ρ) es des) {x : AV} : aget name es = some x → ∃ v, getL name des = some (some v) ∧ VR ρ x v := by
  induction h with
  | nil => exact fun e => nomatch e
  | @cons p d es des r t ih =>
    intro e
    refine cps fun X_ k_ => ?_
    obtain ⟨tk, hk⟩ := r.key
    have hs : d.key.isStr name = decide (p.1 = name) := by rw [hk, isStr_key]
    refine k_ ?_
    clear k_ X_
    unfold aget at e
    unfold getL
    rw [List.find?_cons, hs]
    by_cases q : p.1 = name
    · rw [if_pos q] at e
      cases e
      simp only [q, decide_true]
      exact ⟨_, rfl, r.val⟩
    · rw [if_neg q] at e
      simp only [q, decide_false]
      refine cps fun X_ k_ => ?_
      obtain ⟨v, hv, rv⟩ := ih e
      refine k_ ?_
      clear k_ X_
      refine ⟨v, ?_, rv⟩
      unfold getL at hv
      split at hv
      · rename_i en he
        rw [he]; exact hv
      · split at hv <;> cases hv
theorem de_norefs {es : List (Str × AV)} {des : List DictEntry} (h : All2 (DE P ρ) es des) : des.any (·.refKey) = false := by
  induction h with
  | nil => rfl
  | cons r t ih =>
    obtain ⟨tk, hk⟩ := r.key
    rw [List.any_cons, ih, Bool.or_false]
    unfold DictEntry.refKey
    rw [hk]
theorem de_some {name : Str} {es : List (Str × AV)} {des : List DictEntry} (h : All2 (DE P ρ) es des) : (getL name des).isSome = true := by
  unfold getL
  split
  · rfl
  · rw [de_norefs h]; rfl
theorem de_none {name : Str} {es : List (Str × AV)} {des : List DictEntry} (h : All2 (DE P ρ) es des) : aget name es = none → getL name des = some none := by
  induction h with
  | nil => exact fun _ => rfl
  | @cons p d es des r t ih =>
    intro e
    obtain ⟨tk, hk⟩ := r.key
    unfold aget at e
    have hs : d.key.isStr name = decide (p.1 = name) := by rw [hk, isStr_key]
    by_cases q : p.1 = name
    · rw [if_pos q] at e; cases e
    · rw [if_neg q] at e
      have z := ih e
      unfold getL at z ⊢
      rw [List.find?_cons, hs]
      simp only [q, decide_false]
      have hr : d.refKey = false := by unfold DictEntry.refKey; rw [hk]
      rw [List.any_cons, hr, Bool.false_or]
      exact z
theorem de_put {name : Str} {x : AV} {v : Value} {tk : Tok} (hx : VR ρ x v) {es : List (Str × AV)} {des : List DictEntry} (h : All2 (DE P ρ) es des) : All2 (DE P ρ) (aput name x es) (putL name (PyData.keyHash P name) (.str name tk) v des) := by
  induction h with
  | nil => exact .cons ⟨rfl, ⟨tk, rfl⟩, hx⟩ .nil
  | @cons p d es des r t ih =>
    obtain ⟨tk', hk⟩ := r.key
    have hs : d.key.isStr name = decide (p.1 = name) := by rw [hk, isStr_key]
    unfold aput putL
    rw [hs]
    by_cases q : p.1 = name
    · simp only [q, decide_true, if_true]
      exact .cons ⟨q ▸ r.hash, ⟨tk', q ▸ hk⟩, hx⟩ t
    · simp only [q, decide_false, if_false]
      exact .cons r ih
theorem aput_len (name : Str) (x : AV) : ∀ es : List (Str × AV), (aput name x es).length ≤ es.length + 1
  | [] => by simp [aput]
  | p :: r => by
    unfold aput
    split
    · simp
    · have := aput_len name x r; simp only [List.length_cons]; omega
end

section
variable {G : Gd} {n : Nat} {sc : Scope} {c : Cx} {σ : AS} {ρ : List Addr} {s : Shared} {a b x : AV} {a' b' x' : Value} {h : Heap} {m : Str → Option Value} {ent fent ext : List (Addr × Obj)}

theorem St.inst (S : St G c σ ρ h m ent fent ext) {i d : Nat} {C : Addr} {es : List (Str × AV)} (e : σ.hp[i]? = some (.inst C d)) (e' : σ.hp[d]? = some (.dict es)) :
    ∃ a dx des k, ρ[i]? = some a ∧ ent[d]? = some (dx, dictOf des k) ∧ All2 (DE G.w.params ρ) es des ∧ W.InstAt h a (instObj C dx) C (some (dictOf des k)) ∧ h.get? dx = some (dictOf des k) := by
  refine cps fun X_ k_ => ?_
  obtain ⟨a, ob, e1, e2, r, e3, e4, e5⟩ := S.objAt e
  obtain ⟨dx, od, f1, f2, r', f3, f4, f5⟩ := S.objAt e'
  refine k_ ?_
  clear k_ X_
  cases r with | inst hd =>
  rw [hd] at f1
  cases f1
  cases r' with | dict hde =>
  exact ⟨a, _, _, _, e1, f2, hde, ⟨e3, rfl, rfl, f3⟩, f3⟩

theorem get_ok (name : Str) (expr : Bool) (R : Rel G c σ ρ s.heap) (ha : VR ρ a a') : W G c ρ s (pt G c (getAttr a' name expr)) VR (aGet G a name σ) := by
  refine W.onRef (p := fun v => pt G c (getAttr v name expr)) ha fun i b e1' eo => ?_
  refine W.onInst fun C d e => ?_
  refine W.when fun hm => ?_
  refine W.onDict fun es e' => ?_
  refine W.onOpt fun x hx => ?_
  refine W.when fun hp => ?_
  refine cps fun X_ k_ => ?_
  obtain ⟨m, ent, fent, ext, S⟩ := R
  obtain ⟨y, dx, des, k, e1, e2, e3, I, e4⟩ := S.inst e e'
  obtain ⟨v, hv, rv⟩ := de_get e3 hx
  obtain ⟨k1, k2, ⟨attr, k3, k4⟩, _⟩ := G.attsOk _ hm
  refine k_ ?_
  clear k_ X_
  rw [e1] at e1'
  obtain rfl := Option.some.inj e1'
  exact fun Q E q => get_own S.fr G.X I k1 k2 k3 k4 hv (plainV_ok hp rv) (q ρ v s.heap _ (List.prefix_refl _) ⟨m, ent, fent, ext, S⟩ rv)
theorem set_ok (name : Str) (R : Rel G c σ ρ s.heap) (ha : VR ρ a a') (hx : VR ρ x x') : W G c ρ s (pt G c (setAttr a' name x')) (fun _ _ _ => True) (aSet G a name x σ) := by
  refine W.onRef (p := fun v => pt G c (setAttr v name x')) ha fun i b e1' eo => ?_
  refine W.onInst fun C d e => ?_
  refine W.when fun hm => ?_
  refine W.onDict fun es e' => ?_
  refine W.when fun hl => ?_
  refine cps fun X_ k_ => ?_
  obtain ⟨m, ent, fent, ext, S⟩ := R
  obtain ⟨y, dx, des, k, e1, e2, e3, I, e4⟩ := S.inst e e'
  obtain ⟨k1, k2, _, k5, k6, k7⟩ := G.attsOk _ hm
  refine k_ ?_
  clear k_ X_
  rw [e1] at e1'
  obtain rfl := Option.some.inj e1'
  have hz : (putL name (PyData.keyHash G.w.params name) (.str name (s.toks + 1)) x' des).length ≤ 1000 := by
    have := (de_put (P := G.w.params) (name := name) (tk := s.toks + 1) hx e3).length
    have := aput_len name x es
    omega
  refine fun Q E q => set_dict S.fr G.X S.nw I rfl k5 k6 k7 k2 (de_some e3) rfl (upd_at S.nd e2) hz fun h' F' N' => ?_
  exact q ρ () h' _ (List.prefix_refl _) ⟨m, _, fent, ext, S.update e2 (.dict (de_put hx e3)) F' N'⟩ trivial

theorem ref_attr {e : Expr} {name : Str} {pos : Pos} {me : AM AV} (he : RefE G n sc e me)
    (hs : ∀ env, eval (Expr.Attribute e name pos) env = (do
          let o ← eval e env
          standAt (Pos.atName pos)
          let r ← holding [o] (getAttr o name true)
          letTemporaryGo e o r
          pure r) := by intros; rfl) : RefE G n sc (.Attribute e name pos) (do let v ← me; aGet G v name) := by
  intro c σ ρ s hc R
  refine W.conv (p' := PT.bind (pt G c (eval e c.env)) fun v => pt G c (getAttr v name true)) (fun Q E q => Attribute_any_ q (hs _)) ?_
  exact W.bind (he c σ ρ s hc R) fun v σ' ρ' v' h' tk hp R' rv => get_ok name true R' rv
end
end Mine

open PySem PySem.W PyProof.Rows PySem.Calls
set_option Elab.async false
set_option maxRecDepth 100000
set_option maxHeartbeats 4000000
set_option linter.unusedVariables false
namespace Mine

noncomputable def aItem (v i : AV) : AM AV := fun σ => onRef v fun r => onOpt σ.hp[r]? fun o => match o with
  | .list xs => onInt i fun k => if 0 ≤ k then onOpt xs[k.toNat]? fun x => if xs.length < 1000000 then .ok x σ else .stuck else .stuck
  | .tuple xs => onInt i fun k => if 0 ≤ k then onOpt xs[k.toNat]? fun x => if xs.length < 1000000 then .ok x σ else .stuck else .stuck
  | .map es => onStr i fun x => onOpt (aget x es) fun y => .ok y σ
  | _ => .stuck
noncomputable def aSetItem (v i x : AV) : AM Unit := fun σ => onRef v fun r => onOpt σ.hp[r]? fun o => match o with
  | .list xs => onInt i fun k => if 0 ≤ k then (if k.toNat < xs.length ∧ xs.length < 1000000 then .ok () { σ with hp := σ.hp.set r (.list (xs.set k.toNat x)) } else .stuck) else .stuck
  | .map es => onStr i fun y => if (aget y es).isSome ∧ es.length < 1000 then .ok () { σ with hp := σ.hp.set r (.map (aput y x es)) } else .stuck
  | _ => .stuck

section
variable {G : Gd} {n : Nat} {sc : Scope} {c : Cx} {σ : AS} {ρ : List Addr} {s : Shared} {a b x : AV} {a' b' x' : Value} {h : Heap} {m : Str → Option Value} {ent fent ext : List (Addr × Obj)}

theorem toArr {α : Type} {l : List α} {i : Nat} : l.toArray[i]? = l[i]? := by simp

theorem kv_get {ρ : List Addr} {name : Str} {es : List (Str × AV)} {kvs : List (Str × Value)} (h : All2 (fun (p : Str × AV) (q : Str × Value) => p.1 = q.1 ∧ VR ρ p.2 q.2) es kvs) {x : AV} : aget name es = some x → ∃ v, valueAt kvs name = some v ∧ VR ρ x v := by
  induction h with
  | nil => exact fun e => nomatch e
  | @cons p kv es kvs r t ih =>
    obtain ⟨k, v⟩ := kv
    obtain ⟨r1, r2⟩ := r
    dsimp only at r1 r2
    intro e
    unfold aget at e
    by_cases q : p.1 = name
    · rw [if_pos q] at e
      cases e
      refine ⟨v, ?_, r2⟩
      rw [← r1, q]
      simp [valueAt]
    · rw [if_neg q] at e
      refine cps fun X_ k_ => ?_
      obtain ⟨v', hv, rv⟩ := ih e
      refine k_ ?_
      clear k_ X_
      refine ⟨v', ?_, rv⟩
      rw [← hv]
      have : k ≠ name := r1 ▸ q
      simp [valueAt, this]
theorem kv_any {ρ : List Addr} {name : Str} {es : List (Str × AV)} {kvs : List (Str × Value)} (h : All2 (fun (p : Str × AV) (q : Str × Value) => p.1 = q.1 ∧ VR ρ p.2 q.2) es kvs) {x : AV} : aget name es = some x → (kvs.any fun kv => decide (kv.1 = name)) = true := by
  induction h with
  | nil => exact fun e => nomatch e
  | @cons p kv es kvs r t ih =>
    obtain ⟨r1, r2⟩ := r
    intro e
    unfold aget at e
    rw [List.any_cons]
    by_cases q : p.1 = name
    · simp [← r1, q]
    · rw [if_neg q] at e
      rw [ih e, Bool.or_true]
theorem kv_put {ρ : List Addr} {name : Str} {x : AV} {v : Value} (hx : VR ρ x v) {es : List (Str × AV)} {kvs : List (Str × Value)} (h : All2 (fun (p : Str × AV) (q : Str × Value) => p.1 = q.1 ∧ VR ρ p.2 q.2) es kvs) : (es.map (·.1)).Nodup →
    All2 (fun (p : Str × AV) (q : Str × Value) => p.1 = q.1 ∧ VR ρ p.2 q.2) (if (aget name es).isSome then aput name x es else es) (kvs.map fun kv => if kv.1 = name then (kv.1, v) else kv) := by
  induction h with
  | nil => exact fun _ => .nil
  | @cons p kv es kvs r t ih =>
    obtain ⟨k, v'⟩ := kv
    obtain ⟨r1, r2⟩ := r
    dsimp only at r1 r2
    intro nd
    rw [List.map_cons, List.nodup_cons] at nd
    have z := ih nd.2
    clear ih
    unfold aget aput
    by_cases q : p.1 = name
    · have q' : k = name := r1 ▸ q
      simp only [q, if_true, Option.isSome_some, List.map_cons, q']
      refine .cons ⟨rfl, hx⟩ ?_
      have hno : aget name es = none := by
        cases e : aget name es with
        | none => rfl
        | some y =>
          exfalso
          apply nd.1
          rw [q]
          clear z nd t
          induction es with
          | nil => cases e
          | cons a es ih =>
            unfold aget at e
            split at e
            · rename_i h; rw [List.map_cons, h]; exact .head _
            · rw [List.map_cons]; exact .tail _ (ih e)
      rw [hno] at z
      exact z
    · have q' : ¬ k = name := r1 ▸ q
      simp only [q, if_false, List.map_cons, q']
      split
      · rename_i h
        rw [if_pos h] at z
        exact .cons ⟨r1, r2⟩ z
      · rename_i h
        rw [if_neg h] at z
        exact .cons ⟨r1, r2⟩ z
theorem kv_keys {ρ : List Addr} {es : List (Str × AV)} {kvs : List (Str × Value)} (h : All2 (fun (p : Str × AV) (q : Str × Value) => p.1 = q.1 ∧ VR ρ p.2 q.2) es kvs) : es.map (·.1) = kvs.map (·.1) := by
  induction h with
  | nil => rfl
  | cons r _ ih => rw [List.map_cons, List.map_cons, ih, r.1]

theorem item_ok {value slice : Expr} (hs : ∀ v i, subscripted slice false v i = operate [v, i] (getItem v i)) (R : Rel G c σ ρ s.heap) (ha : VR ρ a a') (hb : VR ρ b b') :
    W G c ρ s (pt G c (subscriptTail value slice a' b')) VR (aItem a b σ) := by
  refine W.onRef (p := fun v => pt G c (subscriptTail value slice v b')) ha fun r d ha _ => ?_
  refine W.onOpt fun o e => ?_
  have R0 := R
  refine cps fun X_ k_ => ?_
  obtain ⟨m, ent, fent, ext, S⟩ := R
  obtain ⟨d', ob, e1, e2, r', e3, e4, e5⟩ := S.objAt e
  refine k_ ?_
  clear k_ X_
  rw [e1] at ha
  obtain rfl := Option.some.inj ha
  cases r' with
  | @list xs vs n hv =>
    refine W.onInt (p := fun v => pt G c (subscriptTail value slice _ v)) hb fun k t => ?_
    refine W.when fun h0 => ?_
    refine W.onOpt fun x hx => ?_
    refine W.when fun hl => ?_
    refine cps fun X_ k_ => ?_
    obtain ⟨v, hv', rv⟩ := hv.get hx
    refine k_ ?_
    clear k_ X_
    have hk : k.toNat < xs.length := (List.getElem?_eq_some_iff.mp hx).1
    refine fun Q E q => tail_any (T := "list") ⟨_, e3, rfl⟩ slot_list_getitem.lookup (wpAny_getItem_list ⟨_, e3, rfl, _, rfl⟩ h0 (by omega) (by rw [toArr]; exact hv') ?_) (hs _ _)
    exact q ρ v s.heap s.toks (List.prefix_refl _) R0 rv
  | @tuple xs vs hv =>
    refine W.onInt (p := fun v => pt G c (subscriptTail value slice _ v)) hb fun k t => ?_
    refine W.when fun h0 => ?_
    refine W.onOpt fun x hx => ?_
    refine W.when fun hl => ?_
    refine cps fun X_ k_ => ?_
    obtain ⟨v, hv', rv⟩ := hv.get hx
    refine k_ ?_
    clear k_ X_
    have hk : k.toNat < xs.length := (List.getElem?_eq_some_iff.mp hx).1
    have hlen := hv.length
    refine fun Q E q => item_tupleT ⟨_, e3, rfl, _, rfl⟩ (by omega) (by omega) (seqIndex_of h0 (by omega)) hv' ?_ (hs _ _)
    exact q ρ v s.heap s.toks (List.prefix_refl _) R0 rv
  | @map es kvs o hd hkv =>
    refine W.onStr (p := fun v => pt G c (subscriptTail value slice _ v)) hb fun y t => ?_
    refine W.onOpt fun x hx => ?_
    refine cps fun X_ k_ => ?_
    obtain ⟨v, hv, rv⟩ := kv_get hkv hx
    obtain ⟨des, ep, hex, hdat, hks, hps, hnd⟩ := hd
    refine k_ ?_
    clear k_ X_
    have D : Heap.DictOf (PySem.strKind G.prog G.w) s.heap _ _ := ⟨ob, des, ep, e3, hex, hdat, hks, hps, hnd⟩
    refine fun Q E q => tail_any (T := "dict") ⟨_, e3, hex.1⟩ slot_dict_getitem.lookup (wpAny_getItem_of (k := y) (strKind_is _ _ _ _) D.mapOf hv ?_) (hs _ _)
    exact q ρ v s.heap _ (List.prefix_refl _) R0 rv
  | _ => trivial

theorem fr_change (F : Fr G.base c.L h m) {d : Addr} {h' : Heap} (hs : Heap.SameBut d h h') (h1 : d ≠ c.L) (h2 : G.base.get? d = none) : Fr G.base c.L h' m := F.change hs h1 h2
theorem setitem_ok (R : Rel G c σ ρ s.heap) (ha : VR ρ a a') (hb : VR ρ b b') (hx : VR ρ x x') : W G c ρ s (pt G c (setItem a' b' x')) (fun _ _ _ => True) (aSetItem a b x σ) := by
  refine W.onRef (p := fun v => pt G c (setItem v b' x')) ha fun r d ha _ => ?_
  refine W.onOpt fun o e => ?_
  refine cps fun X_ k_ => ?_
  obtain ⟨m, ent, fent, ext, S⟩ := R
  obtain ⟨d', ob, e1, e2, r', e3, e4, e5⟩ := S.objAt e
  refine k_ ?_
  clear k_ X_
  rw [e1] at ha
  obtain rfl := Option.some.inj ha
  cases r' with
  | @list xs vs nn hv =>
    refine W.onInt (p := fun v => pt G c (setItem _ v x')) hb fun k t => ?_
    refine W.when fun h0 => ?_
    refine W.when fun hk => ?_
    have hlen := hv.length
    have U := upd_at (o' := listOf (vs.set k.toNat x').toArray nn) S.nd e2
    refine cps fun X_ k_ => ?_
    obtain ⟨pre, post, ea, eb, ha', hb'⟩ := U.split
    refine k_ ?_
    clear k_ X_
    have hnw := S.nw
    rw [ea] at hnw
    refine fun Q E q => ki_setAt e3 h0 (by omega) (by rw [List.size_toArray]; omega) ?_
    have F' := S.fr.change (Heap.SameBut.update (f := Obj.mapSeq (·.setIfInBounds k.toNat x')) ..) e4 e5
    have N' := ki_turn (its' := (vs.set k.toNat x').toArray) (n' := nn) (·.setIfInBounds k.toNat x') hnw ha' hb' (by apply Array.toList_inj.mp; simp) (by simp)
    rw [← eb] at N'
    exact q ρ () _ s.toks (List.prefix_refl _) ⟨m, _, fent, ext, S.update e2 (.list (hv.set hx _)) F' N'⟩ trivial
  | @map es kvs o hd hkv =>
    refine W.onStr (p := fun v => pt G c (setItem _ v x')) hb fun y t => ?_
    refine W.when fun hx' => ?_
    refine cps fun X_ k_ => ?_
    obtain ⟨des, ep, hex, hdat, hks, hps, hnd⟩ := hd
    have D : Heap.DictOf (PySem.strKind G.prog G.w) s.heap _ _ := ⟨ob, des, ep, e3, hex, hdat, hks, hps, hnd⟩
    obtain ⟨y', hy'⟩ := Option.isSome_iff_exists.mp hx'.1
    refine k_ ?_
    clear k_ X_
    have hst : stored kvs y x' = kvs.map fun kv => if kv.1 = y then (kv.1, x') else kv := by unfold stored; rw [if_pos (kv_any hkv hy')]
    have hnd' : (es.map (·.1)).Nodup := by rw [kv_keys hkv]; exact hnd
    have hput := kv_put (name := y) hx hkv hnd'
    rw [if_pos hx'.1, ← hst] at hput
    have hlen := (kv_keys hkv ▸ (List.length_map (as := es) (·.1)).symm : es.length = (kvs.map (·.1)).length)
    rw [List.length_map] at hlen
    refine fun Q E q => wpAny_setItem_pairs (k := y) (strKind_is _ _ _ _) D (fun h' hD' hs' => ?_) (by rw [sizeLine_eq]; omega)
    refine cps fun X_ k_ => ?_
    obtain ⟨ob', des', ep', e3', hex', hdat', hks', hps', hnd''⟩ := hD'
    have U := upd_at (o' := ob') S.nd e2
    obtain ⟨pre, post, ea, eb, ha', hb'⟩ := U.split
    refine k_ ?_
    clear k_ X_
    have hnw := S.nw
    rw [ea] at hnw
    have N' := news_set hnw ha' hb' hs' e3'
    rw [← eb] at N'
    exact q ρ () _ _ (List.prefix_refl _) ⟨m, _, fent, ext, S.update e2 (.map ⟨des', ep', hex', hdat', hks', hps', hnd''⟩ hput) (S.fr.change hs' e4 e5) N'⟩ trivial
  | _ => trivial

theorem ref_sub {e i : Expr} {pos : Pos} {me mi : AM AV} (he : RefE G n sc e me) (hi : RefE G n sc i mi) (hs : ∀ v u, subscripted i false v u = operate [v, u] (getItem v u) := by intros; rfl) :
    RefE G n sc (.Subscript e i pos) (do let v ← me; let k ← mi; aItem v k) := by
  intro c σ ρ s hc R
  refine W.conv (p' := PT.bind (pt G c (eval e c.env)) fun a => PT.bind (pt G c (eval i c.env)) fun b => pt G c (subscriptTail e i a b)) (fun Q E q => Subscript_ q) ?_
  refine W.bind (he c σ ρ s hc R) fun v σ' ρ' v' h' tk hp R' rv => W.bind (hi c σ' ρ' _ hc R') fun u σ'' ρ'' u' h'' tk' hp' R'' ru => ?_
  exact item_ok hs R'' (rv.mono hp') ru
end
end Mine

open PySem PySem.W PyProof.Rows PySem.Calls
set_option Elab.async false
set_option maxRecDepth 100000
set_option maxHeartbeats 4000000
set_option linter.unusedVariables false
namespace Mine

/-- how a statement ends -/
inductive AF where
  | next | brk | cont | ret (v : AV)
inductive RF (ρ : List Addr) : AF → Flow → Prop
  | next : RF ρ .next .next
  | brk : RF ρ .brk .brk
  | cont : RF ρ .cont .cont
  | ret {v v'} : VR ρ v v' → RF ρ (.ret v) (.ret v')
theorem RF.mono {ρ ρ' : List Addr} (h : ρ <+: ρ') {x : AF} {v : Flow} (r : RF ρ x v) : RF ρ' x v := by
  cases r with
  | next => exact .next
  | brk => exact .brk
  | cont => exact .cont
  | ret r => exact .ret (r.mono h)

noncomputable def RefS (G : Gd) (n : Nat) (sc : Scope) (st : Stmt) (m : AM AF) : Prop := ∀ c σ ρ s, OkCx G n sc c → Rel G c σ ρ s.heap → W G c ρ s (pt G c (exec st c.env)) RF (m σ)
noncomputable def RefB (G : Gd) (n : Nat) (sc : Scope) (b : List Stmt) (m : AM AF) : Prop := ∀ c σ ρ s, OkCx G n sc c → Rel G c σ ρ s.heap → W G c ρ s (pt G c (execs b c.env)) RF (m σ)

/-- a value is stored under a name -/
noncomputable def RefN (G : Gd) (n : Nat) (sc : Scope) (x : Str) (st : AV → AM Unit) : Prop := ∀ c σ ρ s v v', OkCx G n sc c → Rel G c σ ρ s.heap → VR ρ v v' → W G c ρ s (pt G c (storeName c.env x v')) (fun _ _ _ => True) (st v σ)
noncomputable def aStore (x : Str) (v : AV) : AM Unit := fun σ => .ok () { σ with loc := fun y => if y = x then some v else σ.loc y }
noncomputable def aStoreC (x : Str) (v : AV) : AM Unit := fun σ => match σ.cells.lookup x with
  | some i => onCell σ i fun _ => .ok () { σ with hp := σ.hp.set i (.cell (some v)) }
  | none => .stuck
noncomputable def aSeq : List (AM AF) → AM AF
  | [] => pure .next
  | [m] => m
  | m :: r => do
    let f ← m
    match f with
    | .next => aSeq r
    | f => pure f
noncomputable def aArgs : List (AM AV) → AM (List AV)
  | [] => pure []
  | m :: r => do
    let v ← m
    let vs ← aArgs r
    pure (v :: vs)

/-- arguments, none of them starred -/
inductive RefA (G : Gd) (n : Nat) (sc : Scope) : List Expr → List (AM AV) → Prop
  | nil : RefA G n sc [] []
  | cons {e m es ms} : RefE G n sc e m → (∀ rest env, starEach (e :: rest) env = (false, eval e env) :: starEach rest env) → RefA G n sc es ms → RefA G n sc (e :: es) (m :: ms)

section
variable {G : Gd} {n : Nat} {sc : Scope} {c : Cx} {σ : AS} {ρ : List Addr} {s : Shared} {a b x : AV} {a' b' x' : Value} {h : Heap} {m : Str → Option Value} {ent fent ext : List (Addr × Obj)}

theorem kind_false (hc : OkCx G n sc c) : (c.env.scope.kind == .class || (c.env.scope.kind == .module && c.env.locals != c.env.globals)) = false := by
  rw [hc.hsc, hc.kind]; rfl
theorem store_loc {x : Str} (hx : sc.names.lookup x = some .local) : RefN G n sc x (aStore x) := by
  intro c σ ρ s v v' hc R r Q E q
  refine cps fun X_ k_ => ?_
  obtain ⟨m, ent, fent, ext, S⟩ := R
  refine k_ ?_
  clear k_ X_
  refine wpAny_storeName_local (m := m) (by unfold Env.kindOf; rw [hc.hsc]; exact hx) (by rw [hc.loc]; exact S.fr.ns) (fun h' hn hs => ?_) (kind_false hc)
  rw [hc.loc] at hn hs
  exact q ρ () h' _ (List.prefix_refl _) ⟨_, ent, fent, ext, S.store r (S.fr.set hn hs) (S.nw.set hs)⟩ trivial
theorem store_cell {x : Str} (hx : sc.names.lookup x = some .cell) : RefN G n sc x (aStoreC x) := by
  intro c σ ρ s v v' hc R r
  refine cps fun X_ k_ => ?_
  obtain ⟨m, ent, fent, ext, S⟩ := R
  refine k_ ?_
  clear k_ X_
  unfold aStoreC
  cases e : σ.cells.lookup x with
  | none => trivial
  | some i =>
    refine cps fun X_ k_ => ?_
    obtain ⟨a, ha, hρ⟩ := cells_lookup S.cells e
    refine k_ ?_
    clear k_ X_
    refine W.onCell fun v0 hv => ?_
    refine cps fun X_ k_ => ?_
    obtain ⟨a', ob, e1, e2, r0, e3, e4, e5⟩ := S.objAt hv
    refine k_ ?_
    clear k_ X_
    rw [hρ] at e1
    cases e1
    cases r0 with | cell hd' ov =>
    refine fun Q E q => wpAny_storeName_cell (by rw [hc.hsc]; exact hc.kind) (by unfold Env.kindOf; rw [hc.hsc]; exact hx) ha ⟨ob, e3, hd'⟩ fun h' hv' hs => ?_
    refine cps fun X_ k_ => ?_
    obtain ⟨ob', e3', hd''⟩ := hv'
    have U := upd_at (o' := ob') S.nd e2
    obtain ⟨pre, post, ea, eb, ha', hb'⟩ := U.split
    refine k_ ?_
    clear k_ X_
    have hnw := S.nw
    rw [ea] at hnw
    have N' := news_set hnw ha' hb' hs e3'
    rw [← eb] at N'
    exact q ρ () h' s.toks (List.prefix_refl _) ⟨m, _, fent, ext, S.update e2 (.cell hd'' (.some r)) (S.fr.change hs e4 e5) N'⟩ trivial

theorem args_ok (pos : Pos) {es : List Expr} {ms : List (AM AV)} (h : RefA G n sc es ms) : ∀ c σ ρ s, OkCx G n sc c → Rel G c σ ρ s.heap →
    W G c ρ s (pt G c (spliced (backTo pos (starEach es c.env)))) (fun ρ => All2 (VR ρ)) (aArgs ms σ) := by
  induction h with
  | nil => exact fun c σ ρ s hc R => fun Q E q => spliced_nil (q ρ [] s.heap s.toks (List.prefix_refl _) R .nil)
  | @cons e m es ms he hs t ih =>
    intro c σ ρ s hc R
    rw [hs]
    refine W.conv (p' := PT.bind (pt G c (eval e c.env)) fun v => PT.bind (pt G c (spliced (backTo pos (starEach es c.env)))) fun vs => fun Q E s => Q (v :: vs) s) (fun Q E q => spliced_cons q) ?_
    refine W.bind (he c σ ρ s hc R) fun v σ' ρ' v' h' tk hp R' rv => W.bind (ih c σ' ρ' _ hc R') fun u σ'' ρ'' u' h'' tk' hp' R'' ru => ?_
    exact W.pure R'' (.cons (rv.mono hp') ru)

theorem St.len (S : St G c σ ρ h m ent fent ext) : ρ.length = σ.hp.length := by rw [← S.keys, List.length_map, S.objs.length]
theorem St.newGet (S : St G c σ ρ h m ent fent ext) (a : Addr) : (ρ ++ [a])[σ.hp.length]? = some a := by rw [← S.len]; simp
theorem St.below (S : St G c σ ρ h m ent fent ext) : ∀ p ∈ ent ++ (fent ++ ext), p.1 < h.objs.size := fun p hp => Heap.lt_size (S.nw p hp).1

noncomputable def aNew (o : AO) : AM AV := fun σ => .ok (.ref σ.hp.length) { σ with hp := σ.hp ++ [o] }
noncomputable def aTuple (vs : List AV) : AM AV := if vs.length < 1000000 then aNew (.tuple vs) else stuck
noncomputable def aList (vs : List AV) : AM AV := if vs.length < 1000000 then aNew (.list vs) else stuck

theorem tuple_ok {vs : List AV} {vs' : List Value} (R : Rel G c σ ρ s.heap) (hv : All2 (VR ρ) vs vs') : W G c ρ s (pt G c (newTuple vs')) VR (aTuple vs σ) := by
  unfold aTuple
  split
  · rename_i hl
    refine cps fun X_ k_ => ?_
    obtain ⟨m, ent, fent, ext, S⟩ := R
    refine k_ ?_
    clear k_ X_
    have hlen := hv.length
    refine fun Q E q => newTuple_N S.fr S.nw (fun h'' F' N' => ?_) (by rw [sizeLine_eq]; omega)
    exact q (ρ ++ [_]) _ h'' _ ⟨_, rfl⟩ ⟨m, _, fent, ext, S.alloc (.tuple hv) S.below F' N'⟩ (.ref (S.newGet _))
  · trivial
theorem list_ok {vs : List AV} {vs' : List Value} (R : Rel G c σ ρ s.heap) (hv : All2 (VR ρ) vs vs') : W G c ρ s (pt G c (newList vs')) VR (aList vs σ) := by
  unfold aList
  split
  · rename_i hl
    refine cps fun X_ k_ => ?_
    obtain ⟨m, ent, fent, ext, S⟩ := R
    refine k_ ?_
    clear k_ X_
    have hlen := hv.length
    refine fun Q E q => newList_K S.fr S.nw (fun l h'' F' N' hl' => ?_) (by rw [sizeLine_eq]; omega)
    exact q (ρ ++ [_]) _ h'' _ ⟨_, rfl⟩ ⟨m, _, fent, ext, S.alloc (.list hv) hl' F' N'⟩ (.ref (S.newGet _))
  · trivial
theorem ref_tuple {es : List Expr} {ms : List (AM AV)} {k : Nat} {pos : Pos} (h : RefA G n sc es ms) : RefE G n sc (.Tuple es k pos) (do let vs ← aArgs ms; aTuple vs) := by
  intro c σ ρ s hc R
  refine W.conv (p' := PT.bind (pt G c (spliced (backTo pos (starEach es c.env)))) fun vs => pt G c (newTuple vs)) (fun Q E q => Tuple_ q) ?_
  exact W.bind (args_ok pos h c σ ρ s hc R) fun vs σ' ρ' vs' h' tk hp R' rv => tuple_ok R' rv
theorem ref_list {es : List Expr} {ms : List (AM AV)} {pos : Pos} (h : RefA G n sc es ms) : RefE G n sc (.List es pos) (do let vs ← aArgs ms; aList vs) := by
  intro c σ ρ s hc R
  refine W.conv (p' := PT.bind (pt G c (spliced (backTo pos (starEach es c.env)))) fun vs => pt G c (newList vs)) (fun Q E q => List_ q) ?_
  exact W.bind (args_ok pos h c σ ρ s hc R) fun vs σ' ρ' vs' h' tk hp R' rv => list_ok R' rv

-- statements
theorem refb_nil : RefB G n sc [] (aSeq []) := fun c σ ρ s hc R Q E q => wpAny_execs_nil (q ρ _ s.heap s.toks (List.prefix_refl _) R .next)
theorem refb_one {st : Stmt} {m : AM AF} (h : RefS G n sc st m) : RefB G n sc [st] (aSeq [m]) := fun c σ ρ s hc R =>
  W.conv (fun Q E q => wpAny_execs_cons (wpAny_mono q (fun f s' q' => by cases f <;> first | exact wpAny_execs_nil q' | exact q') fun _ _ z => z)) (h c σ ρ s hc R)
theorem refb_cons {st st' : Stmt} {rest : List Stmt} {m m' : AM AF} {ms : List (AM AF)} (h : RefS G n sc st m) (t : RefB G n sc (st' :: rest) (aSeq (m' :: ms))) : RefB G n sc (st :: st' :: rest) (aSeq (m :: m' :: ms)) := by
  intro c σ ρ s hc R
  refine W.conv (p' := PT.bind (pt G c (exec st c.env)) fun f => fun Q E s => match f with | .next => wpAny G.M c.A (execs (st' :: rest) c.env) Q E s | f => Q f s) (fun Q E q => wpAny_execs_cons q) ?_
  refine W.bind (h c σ ρ s hc R) fun f σ' ρ' f' h' tk hp R' rf => ?_
  cases rf with
  | next => exact t c σ' ρ' _ hc R'
  | brk => exact W.pure (a := Flow.brk) (RV := RF) R' RF.brk
  | cont => exact W.pure (a := Flow.cont) (RV := RF) R' RF.cont
  | ret r => exact W.pure (a := Flow.ret _) (RV := RF) R' (RF.ret r)

theorem refs_assign {x : Str} {p' pos : Pos} {e : Expr} {me : AM AV} {st : AV → AM Unit} (he : RefE G n sc e me) (hs : RefN G n sc x st)
    (hw : ∀ env, env.scope = sc → swapsWith e (some (.Name x p')) pos.line env = pure false := by intros; rfl) : RefS G n sc (.Assign [.Name x p'] e pos) (do let v ← me; st v; pure .next) := by
  intro c σ ρ s hc R
  refine W.conv (p' := PT.bind (pt G c (eval e c.env)) fun v => PT.bind (pt G c (storeName c.env x v)) fun _ => fun Q E s => Q .next s) (fun Q E q => wpAny_Assign_Name q (hw _ hc.hsc)) ?_
  exact W.bind (he c σ ρ s hc R) fun v σ' ρ' v' h' tk hp R' rv => W.bind (hs c σ' ρ' _ v v' hc R' rv) fun _ σ'' ρ'' _ h'' tk' hp' R'' _ => W.pure R'' .next
theorem refs_setattr {o e : Expr} {name : Str} {p' pos : Pos} {mo me : AM AV} (he : RefE G n sc e me) (ho : RefE G n sc o mo) (hw : ∀ env, swapsWith e (some (.Attribute o name p')) pos.line env = pure false := by intros; rfl) :
    RefS G n sc (.Assign [.Attribute o name p'] e pos) (do let v ← me; let ov ← mo; aSet G ov name v; pure .next) := by
  intro c σ ρ s hc R
  refine W.conv (p' := PT.bind (pt G c (eval e c.env)) fun v => PT.bind (pt G c (eval o c.env)) fun ov => PT.bind (pt G c (setAttr ov name v)) fun _ => fun Q E s => Q .next s) (fun Q E q => plainObj_wpAny_Assign_Attribute q (hw _)) ?_
  refine W.bind (he c σ ρ s hc R) fun v σ' ρ' v' h' tk hp R' rv => W.bind (ho c σ' ρ' _ hc R') fun u σ'' ρ'' u' h'' tk' hp' R'' ru => ?_
  exact W.bind (set_ok name R'' ru (rv.mono hp')) fun _ σ₃ ρ₃ _ h₃ tk₃ hp₃ R₃ _ => W.pure R₃ .next
theorem refs_setitem {o i e : Expr} {p' pos : Pos} {mo mi me : AM AV} (he : RefE G n sc e me) (ho : RefE G n sc o mo) (hi : RefE G n sc i mi) (hw : ∀ env, swapsWith e (some (.Subscript o i p')) pos.line env = pure false := by intros; rfl) :
    RefS G n sc (.Assign [.Subscript o i p'] e pos) (do let v ← me; let ov ← mo; let iv ← mi; aSetItem ov iv v; pure .next) := by
  intro c σ ρ s hc R
  refine W.conv (p' := PT.bind (pt G c (eval e c.env)) fun v => PT.bind (pt G c (eval o c.env)) fun ov => PT.bind (pt G c (eval i c.env)) fun iv => PT.bind (pt G c (setItem ov iv v)) fun _ => fun Q E s => Q .next s) (fun Q E q => wpAny_Assign_Subscript q (hw _)) ?_
  refine W.bind (he c σ ρ s hc R) fun v σ' ρ' v' h' tk hp R' rv => W.bind (ho c σ' ρ' _ hc R') fun u σ'' ρ'' u' h'' tk' hp' R'' ru => W.bind (hi c σ'' ρ'' _ hc R'') fun k σ₃ ρ₃ k' h₃ tk₃ hp₃ R₃ rk => ?_
  exact W.bind (setitem_ok R₃ (ru.mono hp₃) rk ((rv.mono hp').mono hp₃)) fun _ σ₄ ρ₄ _ h₄ tk₄ hp₄ R₄ _ => W.pure R₄ .next
/-- += on ints alone -/
noncomputable def aIncr (a b : AV) : AM AV := fun σ => int2 a b fun x y => .ok (.int (x + y)) σ
theorem incr_ok (R : Rel G c σ ρ s.heap) (ha : VR ρ a a') (hb : VR ρ b b') : W G c ρ s (pt G c (inplaceOp .Add a' b')) VR (aIncr a b σ) := by
  refine int2_ok ha hb fun x y t u e1 e2 => ?_
  subst e1 e2
  exact fun Q E q => iadd_int (q ρ _ s.heap _ (List.prefix_refl _) R (.int _ _))
theorem load_ok {x : Str} (hx : sc.names.lookup x = some .local) (hc : OkCx G n sc c) (R : Rel G c σ ρ s.heap) : W G c ρ s (pt G c (loadName c.env x)) VR (aLoc x σ) := by
  refine cps fun X_ k_ => ?_
  obtain ⟨m, ent, fent, ext, S⟩ := R
  refine k_ ?_
  clear k_ X_
  have hl := S.loc x
  unfold aLoc
  cases e : σ.loc x with
  | none => trivial
  | some v =>
    rw [e] at hl
    cases hm : m x with
    | none => rw [hm] at hl; cases hl
    | some v' =>
      rw [hm] at hl
      cases hl with | some r =>
      exact fun Q E q => wpAny_loadName_local (by rw [hc.hsc]; exact hc.kind) (by unfold Env.kindOf; rw [hc.hsc]; exact hx) (by rw [hc.loc]; exact S.fr.ns) hm
        (q ρ v' s.heap s.toks (List.prefix_refl _) ⟨m, ent, fent, ext, S⟩ r)
theorem refs_aug {x : Str} {p' pos : Pos} {e : Expr} {me : AM AV} (hx : sc.names.lookup x = some .local) (he : RefE G n sc e me) : RefS G n sc (.AugAssign (.Name x p') .Add e pos) (do let o ← aLoc x; let v ← me; let r ← aIncr o v; aStore x r; pure .next) := by
  intro c σ ρ s hc R
  refine W.conv (p' := PT.bind (pt G c (loadName c.env x)) fun o => PT.bind (pt G c (eval e c.env)) fun v => PT.bind (pt G c (inplaceOp .Add o v)) fun r => PT.bind (pt G c (storeName c.env x r)) fun _ => fun Q E s => Q .next s) (fun Q E q => wpAny_AugAssign_Name q) ?_
  refine W.bind (load_ok hx hc R) fun v σ' ρ' v' h' tk hp R' rv => W.bind (he c σ' ρ' _ hc R') fun u σ'' ρ'' u' h'' tk' hp' R'' ru => W.bind (incr_ok R'' (rv.mono hp') ru) fun r σ₃ ρ₃ r' h₃ tk₃ hp₃ R₃ rr => ?_
  exact W.bind (store_loc hx c _ _ _ _ _ hc R₃ rr) fun _ σ₄ ρ₄ _ h₄ tk₄ hp₄ R₄ _ => W.pure R₄ .next
theorem refs_augattr {o e : Expr} {name : Str} {p' pos : Pos} {mo me : AM AV} (ho : RefE G n sc o mo) (he : RefE G n sc e me) : RefS G n sc (.AugAssign (.Attribute o name p') .Add e pos)
    (do let ov ← mo; let old ← aGet G ov name; let v ← me; let r ← aIncr old v; aSet G ov name r; pure .next) := by
  intro c σ ρ s hc R
  refine W.conv (p' := PT.bind (pt G c (eval o c.env)) fun ov => PT.bind (pt G c (getAttr ov name true)) fun old => PT.bind (pt G c (eval e c.env)) fun v => PT.bind (pt G c (inplaceOp .Add old v)) fun r => PT.bind (pt G c (setAttr ov name r)) fun _ => fun Q E s => Q .next s) (fun Q E q => wpAny_AugAssign_AttributeAny q) ?_
  refine W.bind (ho c σ ρ s hc R) fun ov σ' ρ' ov' h' tk hp R' ro => W.bind (get_ok name true R' ro) fun v σ₁ ρ₁ v' h₁ tk₁ hp₁ R₁ rv => W.bind (he c σ₁ ρ₁ _ hc R₁) fun u σ₂ ρ₂ u' h₂ tk₂ hp₂ R₂ ru => W.bind (incr_ok R₂ (rv.mono hp₂) ru) fun r σ₃ ρ₃ r' h₃ tk₃ hp₃ R₃ rr => ?_
  exact W.bind (set_ok name R₃ (((ro.mono hp₁).mono hp₂).mono hp₃) rr) fun _ σ₄ ρ₄ _ h₄ tk₄ hp₄ R₄ _ => W.pure R₄ .next
theorem refs_expr {e : Expr} {pos : Pos} {me : AM AV} (he : RefE G n sc e me) (hw : ∀ env, swapsWith e none pos.line env = pure false := by intros; rfl) : RefS G n sc (.Expr e pos) (do let _ ← me; pure .next) := by
  intro c σ ρ s hc R
  refine W.conv (p' := PT.bind (pt G c (eval e c.env)) fun _ => fun Q E s => Q .next s) (fun Q E q => wpAny_Expr_any q (by unfold interactive; rw [hc.hsc, hc.kind]; rfl) (hw _)) ?_
  exact W.bind (he c σ ρ s hc R) fun v σ' ρ' v' h' tk hp R' rv => W.pure R' .next
theorem refs_if {t : Expr} {b e : List Stmt} {pos : Pos} {mt : AM Bool} {mb me : AM AF} (ht : RefT G n sc t mt) (hb : RefB G n sc b mb) (he : RefB G n sc e me) : RefS G n sc (.If t b e pos) (do if ← mt then mb else me) := by
  intro c σ ρ s hc R
  refine W.conv (p' := PT.bind (pt G c (PySem.isTrue t c.env (eval t c.env))) fun x => fun Q E s => if x = true then wpAny G.M c.A (execs b c.env) Q E s else wpAny G.M c.A (execs e c.env) Q E s) (fun Q E q => wpAny_If q) ?_
  refine W.bind (ht c σ ρ s hc R) fun v σ' ρ' v' h' tk hp R' rv => ?_
  subst rv
  cases v' with
  | true => exact hb c σ' ρ' _ hc R'
  | false => exact he c σ' ρ' _ hc R'
theorem refs_ret {e : Expr} {pos : Pos} {me : AM AV} (he : RefE G n sc e me) : RefS G n sc (.Return (some e) pos) (do let v ← me; pure (.ret v)) := by
  intro c σ ρ s hc R
  refine W.conv (p' := PT.bind (pt G c (eval e c.env)) fun v => fun Q E s => Q (.ret v) s) (fun Q E q => wpAny_Return_some q) ?_
  exact W.bind (he c σ ρ s hc R) fun v σ' ρ' v' h' tk hp R' rv => W.pure R' (.ret rv)
end
end Mine

open PySem PySem.W PyProof.Rows PySem.Calls
set_option Elab.async false
set_option maxRecDepth 100000
set_option maxHeartbeats 4000000
set_option linter.unusedVariables false
namespace Mine

structure OkA (G : Gd) (n : Nat) (c : Cx) : Prop where
  depth : c.A.depth + 12 * n + 10 < recursionLimit
  units : c.A.units + 60 * n + 50 < cLine
  frs : ∃ l, c.A.frames = some l ∧ ∀ x ∈ l, x.scope.kind ≠ .module ∧ ∃ a, x.frame = some a ∧ (a = c.L ∨ a ∈ c.frs.map (·.1))

noncomputable def pcall (G : Gd) (c : Cx) (f : Value) (as : List Value) : PT Value := fun Q E s => codeAny G.M c.A (.call f ⟨as, []⟩) (fun r s' => match r with | .ok (.ret v) => Q v s' | .ok _ => False | .error e => E e s') s
noncomputable def CallOk (G : Gd) (n : Nat) (cf : AV → List AV → AM AV) : Prop := ∀ c σ ρ s f f' as as', OkA G n c → Rel G c σ ρ s.heap → VR ρ f f' → All2 (VR ρ) as as' → W G c ρ s (pcall G c f' as') VR (cf f as σ)
noncomputable def FnOk (G : Gd) (n : Nat) (f : Addr) (af : List AV → AM AV) : Prop := ∀ c σ ρ s as as', OkA G n c → Rel G c σ ρ s.heap → All2 (VR ρ) as as' → W G c ρ s (pcall G c (.ref f) as') VR (af as σ)

/-- a call of a function: its own names, the heap handed on -/
noncomputable def aFn (params : List Str) (mb : AM AF) (as : List AV) : AM AV := fun σ =>
  if as.length = params.length then
    match mb { loc := fun x => (params.zip as).reverse.lookup x, cells := [], hp := σ.hp, hd := σ.hd } with
    | .ok f σ' => .ok (match f with | .ret v => v | _ => .none) { σ with hp := σ'.hp }
    | .exc x σ' => .exc x { σ with hp := σ'.hp }
    | .stuck => .stuck
  else .stuck

section
variable {G : Gd} {n : Nat} {sc : Scope} {c : Cx} {σ : AS} {ρ : List Addr} {s : Shared} {h : Heap} {m : Str → Option Value} {ent fent ext : List (Addr × Obj)}

theorem OkCx.okA (hc : OkCx G n sc c) : OkA G n c := by
  refine cps fun X_ k_ => ?_
  obtain ⟨e, l, h1, h2, h3⟩ := hc.frs
  refine k_ ?_
  clear k_ X_
  have := hc.depth
  have := hc.units
  exact ⟨by omega, by omega, e :: l, h1, h3⟩

theorem All2.mapR {α β γ : Type} {R : α → β → Prop} {S : α → γ → Prop} {f : β → γ} {as : List α} {bs : List β} (t : All2 R as bs) (h : ∀ a b, b ∈ bs → R a b → S a (f b)) : All2 S as (bs.map f) := by
  induction t with
  | nil => exact .nil
  | cons r _ ih => exact .cons (h _ _ (.head _) r) (ih fun a b hb => h a b (.tail _ hb))

theorem All2.mapRI {α β γ : Type} {R : α → β → Prop} {S : α → γ → Prop} {f : β → γ} {as : List α} {bs : List β} (t : All2 R as bs) (h : ∀ (i : Nat) (a : α) (b : β), as[i]? = some a → bs[i]? = some b → R a b → S a (f b)) : All2 S as (bs.map f) := by
  induction t with
  | nil => exact .nil
  | cons r _ ih => exact .cons (h 0 _ _ rfl rfl r) (ih fun i a b ha hb => h (i + 1) a b ha hb)

theorem or_cls {ext : List (Addr × Obj)} {o : AO} {ob : Obj} (r : OR G ext ρ o ob) : NotTb ob := by
  cases r with
  | list => exact .inl (by intro q; injection q with q; revert q; decide)
  | tuple => exact .inl (by intro q; injection q with q; revert q; decide)
  | dict => exact .inl (by intro q; injection q with q; revert q; decide)
  | map a b => exact .inr <| .inl fun vs q => by obtain ⟨_, _, _, hd, _⟩ := a; rw [hd] at q; cases q
  | range => exact .inl (by intro q; injection q with q; revert q; decide)
  | inst => exact .inl (by intro q; cases q)
  | exc => exact .inl (by intro q; cases q)
  | cell a b => exact .inr <| .inl fun vs q => by rw [a] at q; cases q
  | clos => exact .inl (by intro q; injection q with q; revert q; decide)

theorem upSlots (o : Obj) : ({ o with slots := o.slots } : Obj) = o := rfl

/-- the ledger behind a note of an exception -/
theorem St.noted (S : St G c σ ρ h m ent fent ext) {fl : Value} {frames : List Addr} {x : Nat} {e : Addr} {oe : Obj} {vs : Array Value} {h' : Heap} (hx : ρ[x]? = some e) (hfs : ∃ C d cl, σ.hp[x]? = some (.exc C d cl false)) (he : h.get? e = some oe) (hd : oe.data = .fields vs) (hsz : 5 < vs.size)
    (ht : Trace h vs fun b => b = e ∨ G.base.get? b ≠ none) (hfr : ∀ a ∈ frames, a = c.L ∨ a ∈ c.frs.map (·.1)) (N : NotedX fl frames e oe vs h h') : ∃ ent' fent', St G c σ ρ h' m ent' fent' ext := by
  refine cps fun X_ k_ => ?_
  obtain ⟨T, oT, ts, a1, a2, a3, a4, a5, a6, a7⟩ := N.made
  refine k_ ?_
  clear k_ X_
  have hfk : fent.map (·.1) = c.frs.map (·.1) := by
    have := S.frames
    clear hfr
    generalize c.frs = l at this
    clear S
    induction this with
    | nil => rfl
    | cons r t ih => rw [List.map_cons, List.map_cons, ih, r.1]
  have hnd := nodup_app S.nd
  have hnd2 := nodup_app hnd.2.1 |>.2.2
  -- the old entry is nobody's
  have hold : ∀ b o, h.get? b = some o → NotTb o → vs[1]? ≠ some (.ref b) := fun b o hb hcls q => by
    refine cps fun X_ k_ => ?_
    rcases ht with h1 | ⟨Tb, oT', ts', h1, hT, hdT, h3, hb', hc⟩
    all_goals refine k_ ?_
    all_goals clear k_ X_
    · rw [h1] at q; cases q
    · rw [h1] at q
      cases q
      rw [hT] at hb
      cases hb
      exact hcls.no hdT hc
  have entFr : ∀ p ∈ ent, p.1 ∉ frames := fun p hp hm => by
    rcases hfr _ hm with q | q
    · exact (S.nw p (List.mem_append_left _ hp)).2.1 q
    · rw [← hfk] at q
      refine cps fun X_ k_ => ?_
      obtain ⟨p', hp', e'⟩ := List.mem_map.mp q
      refine k_ ?_
      clear k_ X_
      exact hnd.2.2 p hp p' (List.mem_append_left _ hp') e'.symm
  have extFr : ∀ p ∈ ext, p.1 ∉ frames := fun p hp hm => by
    rcases hfr _ hm with q | q
    · exact (S.nw p (List.mem_append_right _ (List.mem_append_right _ hp))).2.1 q
    · rw [← hfk] at q
      refine cps fun X_ k_ => ?_
      obtain ⟨p', hp', e'⟩ := List.mem_map.mp q
      refine k_ ?_
      clear k_ X_
      exact hnd2 p' hp' p hp e'
  have hee : (e, oe) ∈ ent := by
    have hk := S.keys
    have : (ent.map (·.1))[x]? = some e := by rw [hk]; exact hx
    rw [List.getElem?_map] at this
    cases q : ent[x]? with
    | none => rw [q] at this; cases this
    | some p =>
      rw [q] at this
      have e1 : p.1 = e := by simpa using this
      have hm := List.mem_of_getElem? q
      have z := (S.nw p (List.mem_append_left _ hm)).1
      rw [e1, he] at z
      cases z
      exact e1 ▸ hm
  have keepEnt : ∀ p ∈ ent, p.1 ≠ e → h'.get? p.1 = some p.2 := fun p hp hne => by
    have z := S.nw p (List.mem_append_left _ hp)
    have hor : NotTb p.2 := by
      refine cps fun X_ k_ => ?_
      obtain ⟨i, hi⟩ := List.getElem?_of_mem hp
      have hlen := S.objs.length
      have : i < σ.hp.length := by rw [hlen]; exact (List.getElem?_eq_some_iff.mp hi).1
      obtain ⟨p', hp', r⟩ := S.objs.get (List.getElem?_eq_getElem this)
      refine k_ ?_
      clear k_ X_
      rw [hi] at hp'
      cases hp'
      exact or_cls r
    refine cps fun X_ k_ => ?_
    obtain ⟨sl, k1, k2⟩ := N.keep p.1 p.2 hne (hold _ _ z.1 hor) z.1
    refine k_ ?_
    clear k_ X_
    exact k2 (entFr p hp)
  have keepExt : ∀ p ∈ ext, h'.get? p.1 = some p.2 := fun p hp => by
    have z := S.nw p (List.mem_append_right _ (List.mem_append_right _ hp))
    have hne : p.1 ≠ e := fun q => hnd.2.2 _ hee p (List.mem_append_right _ hp) q.symm
    refine cps fun X_ k_ => ?_
    obtain ⟨sl, k1, k2⟩ := N.keep p.1 p.2 hne (hold _ _ z.1 (S.ext.noTb p hp)) z.1
    refine k_ ?_
    clear k_ X_
    exact k2 (extFr p hp)
  have frDict : ∀ p ∈ fent, ∃ es ep, p.2.data = .dict es ep := fun p hp => by
    refine cps fun X_ k_ => ?_
    obtain ⟨i, hi⟩ := List.getElem?_of_mem hp
    have hlen := S.frames.length
    have : i < c.frs.length := by rw [hlen]; exact (List.getElem?_eq_some_iff.mp hi).1
    obtain ⟨p', hp', r⟩ := S.frames.get (List.getElem?_eq_getElem this)
    refine k_ ?_
    clear k_ X_
    rw [hi] at hp'
    cases hp'
    refine cps fun X_ k_ => ?_
    obtain ⟨es, ep, hd, _⟩ := r.2
    refine k_ ?_
    clear k_ X_
    exact ⟨es, ep, hd⟩
  have keepFr : ∀ p ∈ fent, ∃ sl, h'.get? p.1 = some { p.2 with slots := sl } := fun p hp => by
    have z := S.nw p (List.mem_append_right _ (List.mem_append_left _ hp))
    have hne : p.1 ≠ e := fun q => hnd.2.2 _ hee p (List.mem_append_left _ hp) q.symm
    refine cps fun X_ k_ => ?_
    obtain ⟨es, ep, hdd⟩ := frDict p hp
    obtain ⟨sl, k1, k2⟩ := N.keep p.1 p.2 hne (hold _ _ z.1 (.inr <| .inl fun vs q => by rw [hdd] at q; cases q)) z.1
    refine k_ ?_
    clear k_ X_
    exact ⟨sl, k1⟩
  let f : Addr × Obj → Addr × Obj := fun p => (p.1, (h'.get? p.1).getD p.2)
  have fk : ∀ l : List (Addr × Obj), (l.map f).map (·.1) = l.map (·.1) := fun l => by rw [List.map_map]; rfl
  have hEx : ∀ p ∈ ext, f p = p := fun p hp => by show (p.1, (h'.get? p.1).getD p.2) = p; rw [keepExt p hp]; rfl
  have hExt : ext.map f = ext := by
    have : ∀ l : List (Addr × Obj), (∀ p ∈ l, f p = p) → l.map f = l := fun l hl => by
      induction l with
      | nil => rfl
      | cons a l ih => rw [List.map_cons, hl a (.head _), ih fun p hp => hl p (.tail _ hp)]
    exact this ext hEx
  have there : ∀ p ∈ ent ++ (fent ++ ext), ∃ o', h'.get? p.1 = some o' := fun p hp => by
    rcases List.mem_append.mp hp with hp | hp
    · by_cases q : p.1 = e
      · exact ⟨_, q ▸ a1⟩
      · exact ⟨_, keepEnt p hp q⟩
    · rcases List.mem_append.mp hp with hp | hp
      · obtain ⟨sl, k⟩ := keepFr p hp; exact ⟨_, k⟩
      · exact ⟨_, keepExt p hp⟩
  have frN : ∀ a ∈ frames, G.base.get? a = none := fun a ha => by
    rcases hfr a ha with q | q
    · rw [q]; exact Heap.get?_none_of_le S.fr.above
    · rw [← hfk] at q
      refine cps fun X_ k_ => ?_
      obtain ⟨p', hp', e'⟩ := List.mem_map.mp q
      refine k_ ?_
      clear k_ X_
      rw [← e']
      exact (S.nw p' (List.mem_append_right _ (List.mem_append_left _ hp'))).2.2
  refine ⟨ent.map f, fent.map f, ⟨⟨?_, fun b o hb => ?_, S.fr.above⟩, fun p hp => ?_, ?_, S.loc, (fk ent).trans S.keys, ?_, ?_, S.ext, S.cells, S.hd⟩⟩
  · refine cps fun X_ k_ => ?_
    obtain ⟨oL, es, ep, hL, hLd, hLk, hLf⟩ := S.fr.ns
    have hLe : c.L ≠ e := fun q => (S.nw _ (List.mem_append_left _ hee)).2.1 q.symm
    obtain ⟨sl, k1, k2⟩ := N.keep c.L oL hLe (hold _ _ hL (.inr <| .inl fun vs q => by rw [hLd] at q; cases q)) hL
    refine k_ ?_
    clear k_ X_
    exact ⟨_, es, ep, k1, hLd, hLk, hLf⟩
  · have hbh := S.fr.keep b o hb
    have hbe : b ≠ e := fun q => by rw [q, (S.nw _ (List.mem_append_left _ hee)).2.2] at hb; cases hb
    have hbt : vs[1]? ≠ some (.ref b) := fun q => by
      refine cps fun X_ k_ => ?_
      rcases ht with h1 | ⟨Tb, oT', ts', h1, hT, hdT, h3, hb', hc⟩
      all_goals refine k_ ?_
      all_goals clear k_ X_
      · rw [h1] at q; cases q
      · rw [h1] at q
        cases q
        exact hb' (.inr (by rw [hb]; simp))
    refine cps fun X_ k_ => ?_
    obtain ⟨sl, k1, k2⟩ := N.keep b o hbe hbt hbh
    refine k_ ?_
    clear k_ X_
    exact k2 fun hm => by rw [frN b hm] at hb; cases hb
  · rw [← hExt, ← List.map_append, ← List.map_append] at hp
    refine cps fun X_ k_ => ?_
    obtain ⟨p', hp', rfl⟩ := List.mem_map.mp hp
    obtain ⟨o', ho'⟩ := there p' hp'
    refine k_ ?_
    clear k_ X_
    refine ⟨?_, (S.nw p' hp').2⟩
    show h'.get? p'.1 = some ((h'.get? p'.1).getD p'.2)
    rw [ho']; rfl
  · rw [← hExt, ← List.map_append, ← List.map_append, fk]
    exact S.nd
  · refine S.objs.mapRI fun i o p ho hpi r => ?_
    have hp : p ∈ ent := List.mem_of_getElem? hpi
    show OR G ext ρ o ((h'.get? p.1).getD p.2)
    by_cases q : p.1 = e
    · have hp2 : p.2 = oe := by
        have z := (S.nw p (List.mem_append_left _ hp)).1
        rw [q, he] at z
        exact (Option.some.inj z).symm
      rw [q, a1]
      show OR G ext ρ o (Obj.mapFields (·.setIfInBounds 1 (Value.ref T)) oe)
      rw [hp2] at r
      cases r with
      | exc b1 b2 b3 b4 b5 =>
        cases hd
        refine .exc b1 b2 (by simpa using hsz) (fun hcl => ?_) fun hfr => ?_
        · have := b4 hcl
          rw [Array.getElem?_setIfInBounds_ne (by decide)]; exact this
        · refine cps fun X_ k_ => ?_
          obtain ⟨C', d', cl', hfs⟩ := hfs
          refine k_ ?_
          clear k_ X_
          have hix : i = x := by
            have h1 : ρ[i]? = some e := by rw [← S.keys, List.getElem?_map, hpi, ← q]; rfl
            have nd := hnd.1
            rw [S.keys] at nd
            exact (List.getElem?_inj (List.getElem?_eq_some_iff.mp h1).1 nd).mp (h1.trans hx.symm)
          rw [hix, hfs] at ho
          cases ho
          cases hfr
      | cell b1 b2 => rw [hd] at b1; cases b1
      | map b1 b2 => obtain ⟨_, _, _, hdd, _⟩ := b1; rw [hd] at hdd; cases hdd
      | range =>
        cases hd
        exact absurd hsz (show ¬ (5 < 3) from by decide)
      | _ => cases hd
    · rw [keepEnt p hp q]; exact r
  · refine S.frames.mapR fun fr p hp r => ⟨r.1, ?_⟩
    refine cps fun X_ k_ => ?_
    obtain ⟨sl, k⟩ := keepFr p hp
    obtain ⟨es, ep, z⟩ := r.2
    refine k_ ?_
    clear k_ X_
    refine ⟨es, ep, ?_⟩
    show ((h'.get? p.1).getD p.2).data = .dict es ep ∧ _
    rw [k]
    exact z
end
end Mine

open PySem PySem.W PyProof.Rows PySem.Calls
set_option Elab.async false
set_option maxRecDepth 100000
set_option maxHeartbeats 4000000
set_option linter.unusedVariables false
namespace Mine

section
variable {G : Gd} {n : Nat} {sc : Scope} {c : Cx} {σ : AS} {ρ : List Addr} {s : Shared} {h : Heap} {m : Str → Option Value} {ent fent ext : List (Addr × Obj)}

theorem OkA.call (hc : OkA G n c) {f : AV} {f' : Value} {as : List AV} {as' : List Value} {cf : AV → List AV → AM AV} (hcf : CallOk G n cf) (R : Rel G c σ ρ s.heap) (hf : VR ρ f f') (ha : All2 (VR ρ) as as') :
    W G c ρ s (pt G c (PySem.call f' as')) VR (cf f as σ) := W.conv (fun Q E q => wpAny_call q) (hcf c σ ρ s f f' as as' hc R hf ha)

/-- back in the caller's frame -/
theorem St.back' (S : St G c σ ρ h m ent fent ext) {c' : Cx} {σ' : AS} {ρ' : List Addr} {h' : Heap} (hp : ρ <+: ρ') (hfr : c'.frs = (c.L, m) :: c.frs) (hit : c'.its = c.its) (R : Rel G c' σ' ρ' h') : ∃ ent' fent' ext' m', St G c { σ with hp := σ'.hp } ρ' h' m ent' fent' ext' ∧ (∀ p ∈ ent' ++ (fent' ++ ext'), p.1 ≠ c'.L) ∧ c.L ≠ c'.L ∧ h'.Ns c'.L m' ∧ G.base.get? c'.L = none := by
  refine cps fun X_ k_ => ?_
  obtain ⟨m', ent', fent', ext', S'⟩ := R
  refine k_ ?_
  clear k_ X_
  have hf := S'.frames
  rw [hfr] at hf
  generalize hg : fent' = gg at hf
  cases hf with
  | cons r t =>
    rename_i pL fent''
    subst hg
    refine cps fun X_ k_ => ?_
    obtain ⟨r1, es, ep, rd, rk, rf⟩ := r
    refine k_ ?_
    clear k_ X_
    dsimp only at r1
    have hnd := S'.nd
    have key : ent' ++ (pL :: fent'' ++ ext') = ent' ++ pL :: (fent'' ++ ext') := by simp
    rw [key, List.map_append, List.map_cons, List.perm_middle.nodup_iff, List.nodup_cons] at hnd
    have hL := S'.nw pL (List.mem_append_right _ (List.mem_append_left _ (.head _)))
    have sub : ∀ p ∈ ent' ++ (fent'' ++ ext'), p ∈ ent' ++ (pL :: fent'' ++ ext') := fun p hp => by
      simp only [List.mem_append, List.mem_cons, List.cons_append] at hp ⊢
      refine cps fun X_ k_ => ?_
      rcases hp with h | h | h
      all_goals refine k_ ?_
      all_goals clear k_ X_
      · exact .inl h
      · exact .inr (.inr (.inl h))
      · exact .inr (.inr (.inr h))
    refine ⟨ent', fent'', ext', m', ⟨⟨⟨pL.2, es, ep, r1 ▸ hL.1, rd, rk, rf⟩, S'.fr.keep, S.fr.above⟩, fun p hp => ?_, ?_, fun x => (S.loc x).mono hp, S'.keys, S'.objs, t, hit ▸ S'.ext, S.cells.imp fun _ _ q => ⟨q.1, pre_get hp q.2⟩, S.hd.mono hp⟩, fun p hp => (S'.nw p (sub p hp)).2.1, fun q => hL.2.1 (r1.trans q), S'.fr.ns, Heap.get?_none_of_le S'.fr.above⟩
    · have z := S'.nw p (sub p hp)
      refine ⟨z.1, fun q => hnd.1 ?_, z.2.2⟩
      rw [r1, ← q, ← List.map_append]
      exact List.mem_map_of_mem hp
    · rw [List.map_append]; exact hnd.2

theorem St.back (S : St G c σ ρ h m ent fent ext) {c' : Cx} {σ' : AS} {ρ' : List Addr} {h' : Heap} (hp : ρ <+: ρ') (hfr : c'.frs = (c.L, m) :: c.frs) (hit : c'.its = c.its) (R : Rel G c' σ' ρ' h') : Rel G c { σ with hp := σ'.hp } ρ' h' := by
  refine cps fun X_ k_ => ?_
  obtain ⟨ent', fent', ext', m', S', _⟩ := S.back' hp hfr hit R
  refine k_ ?_
  clear k_ X_
  exact ⟨m, ent', fent', ext', S'⟩

theorem St.funFrames (S : St G c σ ρ h m ent fent ext) {l : List Env} (hl : ∀ x ∈ l, x.scope.kind ≠ .module ∧ ∃ a, x.frame = some a ∧ (a = c.L ∨ a ∈ c.frs.map (·.1))) : h.FunFrames G.base l := by
  induction l with
  | nil => trivial
  | cons x l ih =>
    refine cps fun X_ k_ => ?_
    obtain ⟨h1, a, h2, h3⟩ := hl x (.head _)
    refine k_ ?_
    clear k_ X_
    refine ⟨h1, ?_, ih fun y hy => hl y (.tail _ hy)⟩
    rcases h3 with rfl | h3
    · refine cps fun X_ k_ => ?_
      obtain ⟨oL, es, ep, hL, hLd, _⟩ := S.fr.ns
      refine k_ ?_
      clear k_ X_
      exact ⟨_, oL, h2, Heap.get?_none_of_le S.fr.above, hL, fun vs q => by rw [hLd] at q; cases q⟩
    · refine cps fun X_ k_ => ?_
      obtain ⟨fr, hf, rfl⟩ := List.mem_map.mp h3
      obtain ⟨i, hi⟩ := List.getElem?_of_mem hf
      obtain ⟨p, hp, r1, es, ep, rd, _⟩ := S.frames.get hi
      refine k_ ?_
      clear k_ X_
      have z := S.nw p (List.mem_append_right _ (List.mem_append_left _ (List.mem_of_getElem? hp)))
      rw [r1] at z
      exact ⟨_, p.2, h2, z.2.2, z.1, fun vs q => by rw [rd] at q; cases q⟩

/-- an exception leaves a frame: what stands behind it -/
theorem leave_ok {env : Env} {outer : List Env} {L : Addr} {x : Nat} {e : Addr} {Q : Unit → Shared → Prop} {E : Value → Shared → Prop} (R : Rel G c σ ρ s.heap) (hA : c.A.frames = some (env :: outer)) (hf : env.frame = some L)
    (hl : ∀ y ∈ env :: outer, y.scope.kind ≠ .module ∧ ∃ a, y.frame = some a ∧ (a = c.L ∨ a ∈ c.frs.map (·.1))) (hx : ρ[x]? = some e) (hfly : Fly G σ x s.heap e)
    (k : ∀ h', Rel G c σ ρ h' → Fly G σ x h' e → Q () { s with heap := h' }) : wpAny G.M c.A (leaving env (.ref e)) Q E s := by
  refine cps fun X_ k_ => ?_
  obtain ⟨m, ent, fent, ext, S⟩ := R
  obtain ⟨hfs, oe, vs, he, hd, hsz, ht⟩ := hfly
  refine k_ ?_
  clear k_ X_
  refine leave_at hA (S.funFrames hl) hf he hd hsz ht (.inl rfl) fun h' N => k h' ?_ ?_
  · have hfr' : ∀ a ∈ (env :: outer).filterMap (·.frame), a = c.L ∨ a ∈ c.frs.map (·.1) := fun a ha => by
      refine cps fun X_ k_ => ?_
      obtain ⟨y, hy, hya⟩ := List.mem_filterMap.mp ha
      obtain ⟨_, b, hb, hb'⟩ := hl y hy
      refine k_ ?_
      clear k_ X_
      rw [hya] at hb
      cases hb
      exact hb'
    refine cps fun X_ k_ => ?_
    obtain ⟨ent', fent', S'⟩ := S.noted hx hfs he hd hsz ht hfr' N
    refine k_ ?_
    clear k_ X_
    exact ⟨m, ent', fent', ext, S'⟩
  · refine cps fun X_ k_ => ?_
    obtain ⟨T, oT, ts, a1, a2, a3, a4, a5, a6, a7⟩ := N.made
    refine k_ ?_
    clear k_ X_
    have hd₁ := Obj.data_mapFields hd (·.setIfInBounds 1 (Value.ref T))
    refine ⟨hfs, _, _, a1, hd₁, by simpa using hsz, .inr ⟨T, oT, ts, ?_, a4, a5, a6, fun q => ?_, a7⟩⟩
    · rw [Array.getElem?_setIfInBounds_self_of_lt (by omega)]
    · rcases q with q | q
      · exact a3 q
      · apply q
        cases hb : G.base.get? T with
        | none => rfl
        | some o => have := S.fr.keep _ _ hb; rw [a2] at this; cases this

theorem zip_lookup {ρ : List Addr} {xs : List (Str × AV)} {ys : List (Str × Value)} (h : All2 (fun (p : Str × AV) (q : Str × Value) => p.1 = q.1 ∧ VR ρ p.2 q.2) xs ys) (x : Str) : OV ρ (xs.lookup x) (ys.lookup x) := by
  induction h with
  | nil => exact .none
  | @cons p q xs ys r t ih =>
    obtain ⟨k, v⟩ := q
    obtain ⟨k', v'⟩ := p
    obtain ⟨r1, r2⟩ := r
    dsimp only at r1 r2
    subst r1
    rw [List.lookup_cons, List.lookup_cons]
    cases q : x == k' with
    | true => exact .some r2
    | false => exact ih
theorem All2.reverse {α β : Type} {R : α → β → Prop} {as : List α} {bs : List β} (h : All2 R as bs) : All2 R as.reverse bs.reverse := by
  induction h with
  | nil => exact .nil
  | cons r t ih => rw [List.reverse_cons, List.reverse_cons]; exact ih.append (.cons r .nil)
theorem All2.zipL {ρ : List Addr} {ps : List Str} {as : List AV} {bs : List Value} (h : All2 (VR ρ) as bs) : All2 (fun (p : Str × AV) (q : Str × Value) => p.1 = q.1 ∧ VR ρ p.2 q.2) (ps.zip as) (ps.zip bs) := by
  induction h generalizing ps with
  | nil => rw [List.zip_nil_right, List.zip_nil_right]; exact .nil
  | cons r _ ih =>
    cases ps with
    | nil => exact .nil
    | cons p ps => exact .cons ⟨rfl, r⟩ ih

/-- a def of the text: what is known of its object -/
structure FnIs (G : Gd) (f : Addr) (fd : FuncData) (params : List Str) (body : List Stmt) (sc : Scope) : Prop where
  at_ : ∃ oc od sl, G.K.lookup f = some ⟨oc, od, .func fd, sl⟩
  code : codeIn G.K fd.code fd.qualname = true
  body : fd.body = .stmts body
  scope : fd.scope = sc
  globals : fd.globals = mainGlobals
  builtins : fd.builtins = builtinsNs
  closure : fd.closure = []
  bind : ∀ s as', as'.length = params.length → BindsTo s fd ⟨as', []⟩ (params.zip as')
  co : sc.isCoroutine = false
  gen : sc.isGenerator = false
  kind : sc.kind = .function
  lam : sc = G.lamScope → fd.qualname = G.lamQual ∧ fd.code = .ref G.tabC

theorem fn_plain {f : Addr} {fd : FuncData} {params : List Str} {body : List Stmt} {mb : AM AF} (F : FnIs G f fd params body sc) (hcell : ∀ x ∈ sc.names, x.2 ≠ .cell) (hloc : ∀ x ∈ params, sc.names.lookup x = some .local)
    (hb : RefB G n sc body mb) : FnOk G (n + 1) f (aFn params mb) := by
  intro c σ ρ s as as' hc R ha
  unfold aFn
  split
  · rename_i hlen
    refine cps fun X_ k_ => ?_
    obtain ⟨m, ent, fent, ext, S⟩ := R
    obtain ⟨oc, od, sl, ho⟩ := F.at_
    have hlen' : as'.length = params.length := ha.length ▸ hlen
    have hfo : s.heap.get? f = some ⟨oc, od, .func fd, sl⟩ := S.fr.keep _ _ (G.X _ _ ho)
    have hcd := codeRec_of (G.X.keeps S.fr.keep) F.code
    obtain ⟨l, hA, hl⟩ := hc.frs
    refine k_ ?_
    clear k_ X_
    have hdep := hc.depth
    have huni := hc.units
    have hLlt := S.fr.ns.lt
    -- the callee's context
    let L' := s.heap.objs.size
    let env' := callEnv fd L' f
    let c' : Cx := { A := c.A.deeper env', env := env', L := L', frs := (c.L, m) :: c.frs, its := c.its }
    have hA' : c'.A.frames = some (env' :: l) := Around.frames_deeper hA
    have hlf : ∀ y ∈ env' :: l, y.scope.kind ≠ .module ∧ ∃ a, y.frame = some a ∧ (a = c'.L ∨ a ∈ c'.frs.map (·.1)) := fun y hy => by
      rcases List.mem_cons.mp hy with rfl | hy
      · refine ⟨?_, L', rfl, .inl rfl⟩
        show fd.scope.kind ≠ .module
        rw [F.scope, F.kind]; decide
      · refine cps fun X_ k_ => ?_
        obtain ⟨h1, a, h2, h3⟩ := hl y hy
        refine k_ ?_
        clear k_ X_
        refine ⟨h1, a, h2, .inr ?_⟩
        rcases h3 with rfl | h3
        · exact .head _
        · exact .tail _ h3
    have hc' : OkCx G n sc c' := ⟨F.scope, F.kind, rfl, F.globals, F.builtins, by show c.A.depth + 1 + 12 * n + 20 < recursionLimit; omega, by show c.A.units + 3 + 60 * n + 100 < cLine; omega, ⟨env', l, hA', rfl, hlf⟩, fun q => ⟨f, by
      obtain ⟨q1, q2⟩ := F.lam q
      show callEnv fd L' f = envX G.lamQual sc L' f (.ref G.tabC) fd.closure
      unfold callEnv newEnv
      rw [F.scope, F.globals, F.builtins, q1, q2]⟩⟩
    let σ' : AS := { loc := fun x => (params.zip as).reverse.lookup x, cells := [], hp := σ.hp, hd := σ.hd }
    have enter : ∀ h₀ : Heap, (h₀.Ns L' fun x => (params.zip as').reverse.lookup x) → (∀ b o, s.heap.get? b = some o → h₀.get? b = some o) → Rel G c' σ' ρ h₀ := fun h₀ hns hk => by
      refine cps fun X_ k_ => ?_
      obtain ⟨oL, es, ep, hL, hLd, hLk, hLf⟩ := S.fr.ns
      refine k_ ?_
      clear k_ X_
      refine ⟨_, ent, (c.L, oL) :: fent, ext, ⟨⟨hns, fun b o q => hk b o (S.fr.keep b o q), Nat.le_trans S.fr.above (Nat.le_of_lt hLlt)⟩, fun p hp => ?_, ?_, fun x => zip_lookup (All2.reverse (All2.zipL ha)) x, S.keys, S.objs, .cons ⟨rfl, es, ep, hLd, hLk, hLf⟩ S.frames, S.ext, ?_, S.hd⟩⟩
      · have hp' : p = (c.L, oL) ∨ p ∈ ent ++ (fent ++ ext) := by
          simp only [List.mem_append, List.mem_cons, List.cons_append] at hp ⊢
          refine cps fun X_ k_ => ?_
          rcases hp with h | h | h | h
          all_goals refine k_ ?_
          all_goals clear k_ X_
          · exact .inr (.inl h)
          · exact .inl h
          · exact .inr (.inr (.inl h))
          · exact .inr (.inr (.inr h))
        rcases hp' with rfl | hp'
        · exact ⟨hk _ _ hL, Nat.ne_of_lt hLlt, Heap.get?_none_of_le S.fr.above⟩
        · have z := S.nw p hp'
          exact ⟨hk _ _ z.1, Nat.ne_of_lt (Heap.lt_size z.1), z.2.2⟩
      · have key : ent ++ ((c.L, oL) :: fent ++ ext) = ent ++ (c.L, oL) :: (fent ++ ext) := by simp
        rw [key, List.map_append, List.map_cons, List.perm_middle.nodup_iff, List.nodup_cons, ← List.map_append]
        refine ⟨fun q => ?_, S.nd⟩
        refine cps fun X_ k_ => ?_
        obtain ⟨p, hp, e⟩ := List.mem_map.mp q
        refine k_ ?_
        clear k_ X_
        exact (S.nw p hp).2.1 e
      · show All2 (CellR ρ) [] fd.closure
        rw [F.closure]; exact .nil
    have core := fun h₀ hns hk => hb c' σ' ρ { s with heap := h₀, toks := s.toks + (params.zip as').length } hc' (enter h₀ hns hk)
    cases hmb : mb σ' with
    | stuck => trivial
    | ok fl σ'' =>
      intro Q E q
      refine codeAny_call_def (fd := fd) (binds := params.zip as') (by omega) hfo rfl (G.T.nolimit.keeps S.fr.keep) hcd F.body (F.bind _ _ hlen') (by rw [F.scope]; exact hcell) (fun x hx => by rw [F.scope]; exact hloc _ (List.of_mem_zip hx).1) (fun h₀ hns hk => ?_) (by rw [F.scope]; exact F.co) (by rw [F.scope]; exact F.gen) (by rw [F.scope]; exact F.kind)
      have z := core h₀ hns hk
      rw [hmb] at z
      refine z _ _ fun ρ' fl' h' tk hp R' rf => ?_
      have back := S.back (c' := c') hp rfl rfl R'
      cases rf with
      | ret rv => exact q ρ' _ h' tk hp back rv
      | next => exact q ρ' _ h' tk hp back .none
      | brk => exact q ρ' _ h' tk hp back .none
      | cont => exact q ρ' _ h' tk hp back .none
    | exc x σ'' =>
      intro Q E q
      refine codeAny_call_def (fd := fd) (binds := params.zip as') (by omega) hfo rfl (G.T.nolimit.keeps S.fr.keep) hcd F.body (F.bind _ _ hlen') (by rw [F.scope]; exact hcell) (fun x hx => by rw [F.scope]; exact hloc _ (List.of_mem_zip hx).1) (fun h₀ hns hk => ?_) (by rw [F.scope]; exact F.co) (by rw [F.scope]; exact F.gen) (by rw [F.scope]; exact F.kind)
      have z := core h₀ hns hk
      rw [hmb] at z
      refine z _ _ fun ρ' e h' tk hp R' hx hfly => ?_
      refine leave_ok (c := c') (s := up s h' tk) R' hA' rfl hlf hx hfly fun h'' R'' hfly' => ?_
      exact q ρ' e h'' tk hp (S.back (c' := c') hp rfl rfl R'') hx hfly'
  · trivial
end
end Mine

open PySem PySem.W PyProof.Rows PySem.Calls
set_option Elab.async false
set_option maxRecDepth 100000
set_option maxHeartbeats 4000000
set_option linter.unusedVariables false
namespace Mine

/-- what a call of a value does -/
noncomputable def COk (G : Gd) (n : Nat) (f : AV) (af : List AV → AM AV) : Prop := ∀ c σ ρ s f' as as', OkA G n c → Rel G c σ ρ s.heap → VR ρ f f' → All2 (VR ρ) as as' → W G c ρ s (pt G c (PySem.call f' as')) VR (af as σ)

noncomputable def keepable (G : Gd) (σ : AS) : AV → Bool
  | .obj a => decide (a ∈ G.callees)
  | .ref i => (match σ.hp[i]? with | some (.clos _ _) => true | _ => false)
  | .builtin _ => true
  | .type _ => true
  | _ => false
noncomputable def aKeep (G : Gd) (f : AV) : AM Unit := fun σ => if keepable G σ f then .ok () σ else .stuck

section
variable {G : Gd} {n : Nat} {sc : Scope} {c : Cx} {σ : AS} {ρ : List Addr} {s : Shared} {h : Heap} {m : Str → Option Value} {ent fent ext : List (Addr × Obj)}

theorem FnOk.cok {f : Addr} {af : List AV → AM AV} (h : FnOk G n f af) : COk G n (.obj f) af := fun c σ ρ s f' as as' hc R hf ha => by
  (replace hf := hf.iobj; obtain rfl := hf)
  exact W.conv (fun Q E q => wpAny_call q) (h c σ ρ s as as' hc R ha)

theorem keeper_ok {f : AV} {f' : Value} (R : Rel G c σ ρ h) (hv : VR ρ f f') (hk : keepable G σ f = true) : ∃ k, (k = Keeper.frame ∨ k = Keeper.machine ∨ k = Keeper.boundFrame) ∧ Looks G.M h (keeperOf f') k := by
  refine cps fun X_ k_ => ?_
  obtain ⟨m, ent, fent, ext, S⟩ := R
  refine k_ ?_
  clear k_ X_
  cases hv with
  | obj a => exact keeps_K (G.calleesOk a (of_decide_eq_true hk)) _ (G.X.keeps S.fr.keep)
  | @ref i a hi =>
    unfold keepable at hk
    dsimp only at hk
    split at hk
    · rename_i k cs e
      refine cps fun X_ k_ => ?_
      obtain ⟨a', ob, e1, e2, r, e3, e4, e5⟩ := S.objAt e
      refine k_ ?_
      clear k_ X_
      rw [hi] at e1
      cases e1
      cases r with | clos =>
      exact keeps_F _ ⟨_, _, _, _, e3⟩
    · cases hk
  | builtin => exact ⟨.machine, .inr (.inl rfl), Looks.of_pure rfl⟩
  | type => exact ⟨.machine, .inr (.inl rfl), Looks.of_pure rfl⟩
  | _ => cases hk

theorem W.and {α β : Type} {p : PT α} {RV : List Addr → β → α → Prop} {r : Res β} {P : Shared → Prop} (hP : P s) (h : W G c ρ s p RV r) : W G c ρ s (fun Q E s => P s ∧ p Q E s) RV r := by
  cases r with
  | ok v σ' => exact fun Q E q => ⟨hP, h Q E q⟩
  | exc x σ' => exact fun Q E q => ⟨hP, h Q E q⟩
  | stuck => trivial

theorem star_plain (pos : Pos) {es : List Expr} {ms : List (AM AV)} {env : Env} (h : RefA G n sc es ms) : (backTo pos (starEach es env)).any (·.1) = false := by
  induction h with
  | nil => rfl
  | @cons e m es ms he hs t ih =>
    rw [hs]
    show (false || (backTo pos (starEach es env)).any (·.1)) = false
    rw [ih]; rfl

theorem callwith_ok {f : AV} {f' : Value} {first : List AV} {first' : List Value} {args : List Expr} {ms : List (AM AV)} {cf : List AV → AM AV} {pos : Pos} (hc : OkCx G n sc c) (R : Rel G c σ ρ s.heap) (hf : VR ρ f f') (hfi : All2 (VR ρ) first first')
    (ha : RefA G n sc args ms) (hcall : COk G n f cf) : W G c ρ s (pt G c (callWith pos f' first' (backTo pos (starEach args c.env)) [])) VR ((do let vs ← aArgs ms; aKeep G f; cf (first ++ vs)) σ) := by
  let P : Heap → Prop := fun h => ∃ k, (k = Keeper.frame ∨ k = Keeper.machine ∨ k = Keeper.boundFrame) ∧ Looks G.M h (keeperOf f') k
  have core : ∀ vs σ', ∀ ρ' vs' h' tk, ρ <+: ρ' → Rel G c σ' ρ' h' → All2 (VR ρ') vs vs' → W G c ρ' (up s h' tk) (fun Q E s₁ => P s₁.heap ∧ pt G c (PySem.call f' (first' ++ vs')) Q E s₁) VR ((do aKeep G f; cf (first ++ vs)) σ') := fun vs σ' ρ' vs' h' tk hp R' rv => by
    show W _ _ _ _ _ _ ((aKeep G f σ').bind _)
    unfold aKeep
    split
    · rename_i hk
      exact W.and (P := fun s₁ => P s₁.heap) (keeper_ok R' (hf.mono hp) hk) (hcall c σ' ρ' _ f' _ _ hc.okA R' (hf.mono hp) ((hfi.imp fun _ _ r => r.mono hp).append rv))
    · trivial
  cases ha with
  | nil =>
    refine W.conv (p' := fun Q E s₁ => P s₁.heap ∧ pt G c (PySem.call f' (first' ++ [])) Q E s₁) (fun Q E q => callWith_of (P := P) rfl (fun h hP => hP) (evalArgs_nil3 q)) ?_
    have z := core [] σ ρ [] s.heap s.toks (List.prefix_refl _) R .nil
    exact z
  | @cons e m es ms he hs t =>
    have hp := star_plain (env := c.env) pos (RefA.cons he hs t)
    refine W.conv (p' := PT.bind (pt G c (spliced (backTo pos (starEach (e :: es) c.env)))) fun vs => fun Q E s₁ => P s₁.heap ∧ pt G c (PySem.call f' (first' ++ vs)) Q E s₁)
      (fun Q E q => callWith_of (P := P) (by rw [hp]; rfl) (fun h hP => hP) ?_) ?_
    · rw [hs] at q ⊢
      exact evalArgs_plain q
    · exact W.bind (args_ok pos (RefA.cons he hs t) c σ ρ s hc R) core

theorem W.bindE {α β γ δ : Type} {p : PT α} {RV : List Addr → β → α → Prop} {RW : List Addr → δ → γ → Prop} {r : Res β} {f : α → PT γ} {g : β → AS → Res δ} (h : W G c ρ s p RV r)
    (k : ∀ v σ', r = .ok v σ' → ∀ ρ' v' h' tk, ρ <+: ρ' → Rel G c σ' ρ' h' → RV ρ' v v' → W G c ρ' (up s h' tk) (f v') RW (g v σ')) : W G c ρ s (p.bind f) RW (r.bind g) := by
  cases r with
  | stuck => trivial
  | exc x σ' => exact fun Q E q => h _ _ q
  | ok v σ' =>
    show W G c ρ s (p.bind f) RW (g v σ')
    cases hg : g v σ' with
    | stuck => trivial
    | ok u σ'' =>
      refine fun Q E q => h _ _ fun ρ' v' h' tk a b d => ?_
      have z := k v σ' rfl ρ' v' h' tk a b d
      rw [hg] at z
      exact z Q E fun ρ'' v'' h'' tk' a' b' d' => q ρ'' v'' h'' tk' (a.trans a') b' d'
    | exc x σ'' =>
      refine fun Q E q => h _ _ fun ρ' v' h' tk a b d => ?_
      have z := k v σ' rfl ρ' v' h' tk a b d
      rw [hg] at z
      exact z Q E fun ρ'' v'' h'' tk' a' b' d' => q ρ'' v'' h'' tk' (a.trans a') b' d'

/-- a call of a known thing -/
theorem ref_call {id : Str} {p pos : Pos} {args : List Expr} {ms : List (AM AV)} {f : AV} {cf : List AV → AM AV} (hf : RefE G n sc (.Name id p) (pure f)) (hcall : COk G n f cf) (ha : RefA G n sc args ms) :
    RefE G n sc (.Call (.Name id p) args [] pos) (do let vs ← aArgs ms; aKeep G f; cf vs) := by
  intro c σ ρ s hc R
  refine W.conv (p' := PT.bind (pt G c (eval (.Name id p) c.env)) fun v => pt G c (callWith pos v [] (backTo pos (starEach args c.env)) [])) (fun Q E q => wpAny_Call_NameR q) ?_
  refine W.bindE (RW := VR) (f := fun v => pt G c (callWith pos v [] (backTo pos (starEach args c.env)) [])) (g := fun _ σ => (do let vs ← aArgs ms; aKeep G f; cf vs : AM AV) σ) (hf c σ ρ s hc R) fun v σ' e ρ' v' h' tk hp R' rv => ?_
  cases e
  exact callwith_ok hc R' rv .nil ha hcall
/-- a call of whatever a name holds -/
theorem ref_calld {id : Str} {p pos : Pos} {args : List Expr} {ms : List (AM AV)} {mf : AM AV} {cf : AV → List AV → AM AV} (hf : RefE G n sc (.Name id p) mf) (hcall : ∀ f, COk G n f (cf f)) (ha : RefA G n sc args ms) :
    RefE G n sc (.Call (.Name id p) args [] pos) (do let f ← mf; let vs ← aArgs ms; aKeep G f; cf f vs) := by
  intro c σ ρ s hc R
  refine W.conv (p' := PT.bind (pt G c (eval (.Name id p) c.env)) fun v => pt G c (callWith pos v [] (backTo pos (starEach args c.env)) [])) (fun Q E q => wpAny_Call_NameR q) ?_
  exact W.bind (hf c σ ρ s hc R) fun v σ' ρ' v' h' tk hp R' rv => callwith_ok hc R' rv .nil ha (hcall v)

/-- methods: what is found, what is handed ahead -/
noncomputable def MOk (G : Gd) (name : Str) (look : AV → AM (AV × List AV)) : Prop := ∀ c σ ρ s o o' pl, Rel G c σ ρ s.heap → VR ρ o o' →
  W G c ρ s (pt G c (getMethod o' name pl)) (fun ρ x y => VR ρ x.1 y.1 ∧ All2 (VR ρ) x.2 y.2) (look o σ)
theorem ref_method {o : Expr} {name : Str} {apos pos : Pos} {args : List Expr} {ms : List (AM AV)} {mo : AM AV} {look : AV → AM (AV × List AV)} {cf : AV → List AV → AM AV} {pl : Env → Sem Bool} (ho : RefE G n sc o mo) (hm : MOk G name look) (hcall : ∀ f, COk G n f (cf f)) (ha : RefA G n sc args ms)
    (he : ∀ env, eval (.Call (.Attribute o name apos) args [] pos) env = (do
      let ov ← eval o env
      standAt apos.atName
      let (f, first) ← holding [ov] (getMethod ov name (pl env))
      callWith pos f first (backTo pos (starEach args env)) (backToKw pos (keywordEach [] env))) := by intros; rfl) :
    RefE G n sc (.Call (.Attribute o name apos) args [] pos) (do let ov ← mo; let x ← look ov; let vs ← aArgs ms; aKeep G x.1; cf x.1 (x.2 ++ vs)) := by
  intro c σ ρ s hc R
  refine W.conv (p' := PT.bind (pt G c (eval o c.env)) fun ov => PT.bind (pt G c (getMethod ov name (pl c.env))) fun fx => pt G c (callWith pos fx.1 fx.2 (backTo pos (starEach args c.env)) (backToKw pos (keywordEach [] c.env)))) (fun Q E q => methodCall_KW q (he _)) ?_
  refine W.bind (ho c σ ρ s hc R) fun v σ' ρ' v' h' tk hp R' rv => W.bind (hm c σ' ρ' _ v v' _ R' rv) fun x σ'' ρ'' x' h'' tk' hp' R'' rx => ?_
  exact callwith_ok hc R'' rx.1 rx.2 ha (hcall x.1)

-- builtins
/-- what a list is, as the machine has it -/
theorem St.list (S : St G c σ ρ h m ent fent ext) {i : Nat} {xs : List AV} {a' : Value} (e : σ.hp[i]? = some (.list xs)) (ha : VR ρ (.ref i) a') : ∃ a vs k, a' = .ref a ∧ All2 (VR ρ) xs vs ∧ ent[i]? = some (a, listOf vs.toArray k) ∧ h.get? a = some (listOf vs.toArray k) := by
  refine cps fun X_ k_ => ?_
  obtain ⟨a, ob, e1, e2, r, e3, e4, e5⟩ := S.objAt e
  refine k_ ?_
  clear k_ X_
  cases ha with | ref ha =>
  rw [e1] at ha
  cases ha
  cases r with | list hv =>
  exact ⟨_, _, _, rfl, hv, e2, e3⟩

/-- a method of an instance -/
noncomputable def aMeth (G : Gd) (name : Str) (f : Addr) (o : AV) : AM (AV × List AV) := fun σ => onRef o fun i => onInst σ i fun C d =>
  if (C, name, f) ∈ G.meths then onDict σ d fun es => if aget name es = none then .ok (.obj f, [o]) σ else .stuck else .stuck
theorem meth_ok (name : Str) (f : Addr) : MOk G name (aMeth G name f) := by
  intro c σ ρ s o o' pl R ho
  refine W.onRef (p := fun v => pt G c (getMethod v name pl)) ho fun i b e1' eo => ?_
  refine W.onInst fun C d e => ?_
  refine W.when fun hm => ?_
  refine W.onDict fun es e' => ?_
  refine W.when fun hn => ?_
  have R0 := R
  refine cps fun X_ k_ => ?_
  obtain ⟨m, ent, fent, ext, S⟩ := R
  obtain ⟨y, dx, des, k, e1, e2, e3, I, e4⟩ := S.inst e e'
  obtain ⟨k1, k2, k3⟩ := G.methsOk _ hm
  refine k_ ?_
  clear k_ X_
  rw [e1] at e1'
  obtain rfl := Option.some.inj e1'
  exact fun Q E q => method_inst S.fr G.X I k1 k2 k3 (de_none e3 hn) (q ρ (_, _) s.heap s.toks (List.prefix_refl _) R0 ⟨.obj _, .cons (eo ▸ .ref e1) .nil⟩)
/-- a list's method -/
noncomputable def aLMeth (id : String) (o : AV) : AM (AV × List AV) := fun σ => onRef o fun i => onList σ i fun _ => .ok (.builtin id, [o]) σ
theorem lmeth_ok {name : Str} {id : String} (slot : Slot "list" name id) (hty : typeOf (.builtin id) = pure (.type "method_descriptor")) : MOk G name (aLMeth id) := by
  intro c σ ρ s o o' pl R ho
  refine W.onRef (p := fun v => pt G c (getMethod v name pl)) ho fun i b e1' eo => ?_
  refine W.onList fun xs e => ?_
  have R0 := R
  refine cps fun X_ k_ => ?_
  obtain ⟨m, ent, fent, ext, S⟩ := R
  obtain ⟨a, vs, k, ea, hv, e2, e3⟩ := S.list e (.ref e1')
  refine k_ ?_
  clear k_ X_
  obtain rfl := Value.ref.inj ea
  exact fun Q E q => kl_method S.nw (List.mem_append_left _ (List.mem_of_getElem? e2)) slot hty (q ρ (_, _) s.heap s.toks (List.prefix_refl _) R0 ⟨.builtin _, .cons (eo ▸ .ref e1') .nil⟩)

theorem call1 {f' : Value} {as : List AV} {as' : List Value} {f : AV → Res AV} (ha : All2 (VR ρ) as as') (k : ∀ a a', VR ρ a a' → W G c ρ s (pt G c (PySem.call f' [a'])) VR (f a)) : W G c ρ s (pt G c (PySem.call f' as')) VR (args1 as f) := W.args1 (p := fun l => pt G c (PySem.call f' l)) ha k
theorem call2 {f' : Value} {as : List AV} {as' : List Value} {f : AV → AV → Res AV} (ha : All2 (VR ρ) as as') (k : ∀ a b a' b', VR ρ a a' → VR ρ b b' → W G c ρ s (pt G c (PySem.call f' [a', b'])) VR (f a b)) : W G c ρ s (pt G c (PySem.call f' as')) VR (args2 as f) := W.args2 (p := fun l => pt G c (PySem.call f' l)) ha k
theorem call3 {f' : Value} {as : List AV} {as' : List Value} {f : AV → AV → AV → Res AV} (ha : All2 (VR ρ) as as') (k : ∀ a b x a' b' x', VR ρ a a' → VR ρ b b' → VR ρ x x' → W G c ρ s (pt G c (PySem.call f' [a', b', x'])) VR (f a b x)) : W G c ρ s (pt G c (PySem.call f' as')) VR (args3 as f) := W.args3 (p := fun l => pt G c (PySem.call f' l)) ha k
noncomputable def bLen (as : List AV) : AM AV := fun σ => args1 as fun a => onRef a fun i => onList σ i fun xs => if xs.length < 1000000 then .ok (.int xs.length) σ else .stuck
theorem len_ok : COk G n (.builtin "len") bLen := by
  intro c σ ρ s f' as as' hc R hf ha
  (replace hf := hf.ibi; obtain rfl := hf)
  refine call1 ha fun a a' r => ?_
  refine W.onRef (p := fun v => pt G c (PySem.call _ [v])) r fun i b e1' eo => ?_
  refine W.onList fun xs e => ?_
  refine W.when fun hl => ?_
  have R0 := R
  refine cps fun X_ k_ => ?_
  obtain ⟨m, ent, fent, ext, S⟩ := R
  obtain ⟨a, vs, k, ea, hv, e2, e3⟩ := S.list e (.ref e1')
  refine k_ ?_
  clear k_ X_
  obtain rfl := Value.ref.inj ea
  have hlen := hv.length
  refine fun Q E q => PyProof.Rows.len_list (items := vs.toArray) ⟨_, e3, rfl, _, rfl⟩ (by rw [List.size_toArray]; omega) ?_
  have z := q ρ (.int ((vs.toArray.size : Nat) : Int) (s.toks + 1)) s.heap (s.toks + 1 + 1) (List.prefix_refl _) R0
  rw [List.size_toArray, ← hlen] at z ⊢
  exact z (.int _ _)
noncomputable def bMin (as : List AV) : AM AV := fun σ => args2 as fun a b => onInt a fun a => onInt b fun b => if σ.hd = none then .ok (.int (if b < a then b else a)) σ else .stuck
noncomputable def bMax (as : List AV) : AM AV := fun σ => args2 as fun a b => onInt a fun a => onInt b fun b => if σ.hd = none then .ok (.int (if b > a then b else a)) σ else .stuck
theorem min_ok : COk G n (.builtin "min") bMin := by
  intro c σ ρ s f' as as' hc R hf ha
  (replace hf := hf.ibi; obtain rfl := hf)
  refine call2 ha fun a b a' b' ra rb => ?_
  refine W.onInt (p := fun v => pt G c (PySem.call (.builtin "min") [v, b'])) ra fun x t => ?_
  refine W.onInt (p := fun v => pt G c (PySem.call (.builtin "min") [.int x t, v])) rb fun y u => ?_
  refine W.when fun hd => ?_
  refine cps fun X_ k_ => ?_
  obtain ⟨m, ent, fent, ext, S⟩ := R
  refine k_ ?_
  clear k_ X_
  have hh := S.hd
  rw [hd] at hh
  refine fun Q E q => min_two_N hh S.fr S.nw fun h' tk F' N' => ?_
  exact q ρ _ h' tk (List.prefix_refl _) ⟨m, ent, fent, ext, S.same F' N'⟩ (.int _ _)
theorem max_ok : COk G n (.builtin "max") bMax := by
  intro c σ ρ s f' as as' hc R hf ha
  (replace hf := hf.ibi; obtain rfl := hf)
  refine call2 ha fun a b a' b' ra rb => ?_
  refine W.onInt (p := fun v => pt G c (PySem.call (.builtin "max") [v, b'])) ra fun x t => ?_
  refine W.onInt (p := fun v => pt G c (PySem.call (.builtin "max") [.int x t, v])) rb fun y u => ?_
  refine W.when fun hd => ?_
  refine cps fun X_ k_ => ?_
  obtain ⟨m, ent, fent, ext, S⟩ := R
  refine k_ ?_
  clear k_ X_
  have hh := S.hd
  rw [hd] at hh
  refine fun Q E q => max_two_N hh S.fr S.nw fun h' tk F' N' => ?_
  exact q ρ _ h' tk (List.prefix_refl _) ⟨m, ent, fent, ext, S.same F' N'⟩ (.int _ _)
noncomputable def bAbs (as : List AV) : AM AV := fun σ => args1 as fun a => onInt a fun a => .ok (.int (if a < 0 then -a else a)) σ
theorem abs_ok : COk G n (.builtin "abs") bAbs := by
  intro c σ ρ s f' as as' hc R hf ha
  (replace hf := hf.ibi; obtain rfl := hf)
  refine call1 ha fun a a' r => ?_
  refine W.onInt (p := fun v => pt G c (PySem.call (.builtin "abs") [v])) r fun x t => ?_
  exact fun Q E q => call_abs_int fun u tk => q ρ _ s.heap tk (List.prefix_refl _) R (.int _ _)
noncomputable def bInt (as : List AV) : AM AV := fun σ => args1 as fun a => onInt a fun a => .ok (.int a) σ
theorem int_ok : COk G n (.type "int") bInt := by
  intro c σ ρ s f' as as' hc R hf ha
  (replace hf := hf.ity; obtain rfl := hf)
  refine call1 ha fun a a' r => ?_
  refine W.onInt (p := fun v => pt G c (PySem.call (.type "int") [v])) r fun x t => ?_
  exact fun Q E q => call_int_int (q ρ _ s.heap s.toks (List.prefix_refl _) R (.int _ _))
theorem sub_bytes_bytes : isSubtype (.type "bytes") (.type "bytes") = pure true := by rw [isSubtype_type]; kernel_rfl
noncomputable def bIsBytes (as : List AV) : AM AV := fun σ => args2 as fun a b => if b = .type "bytes" then (match a with
  | .int _ => .ok (.bool false) σ
  | .bytes _ => .ok (.bool true) σ
  | _ => .stuck) else .stuck
theorem isbytes_ok : COk G n (.builtin "isinstance") bIsBytes := by
  intro c σ ρ s f' as as' hc R hf ha
  (replace hf := hf.ibi; obtain rfl := hf)
  refine call2 ha fun a b a' b' ra rb => ?_
  refine W.when fun eb => ?_
  subst eb
  (replace rb := rb.ity; obtain rfl := rb)
  cases a with
  | int x =>
    (replace ra := ra.iint; obtain ⟨_, rfl⟩ := ra)
    exact fun Q E q => IsiPair.int_bytes (q ρ _ s.heap _ (List.prefix_refl _) R (.bool _))
  | bytes x =>
    (replace ra := ra.ibytes; obtain ⟨_, rfl⟩ := ra)
    exact fun Q E q => call_isinstance (isinstance_true F.isi_meta_bytes sub_bytes_bytes) ⟨rfl, q ρ _ s.heap s.toks (List.prefix_refl _) R (.bool _)⟩
  | _ => trivial
noncomputable def bRange (as : List AV) : AM AV := fun σ => args1 as fun a => onInt a fun a => aNew (.range a) σ
theorem range_ok : COk G n (.type "range") bRange := by
  intro c σ ρ s f' as as' hc R hf ha
  (replace hf := hf.ity; obtain rfl := hf)
  refine call1 ha fun a a' r => ?_
  refine W.onInt (p := fun v => pt G c (PySem.call (.type "range") [v])) r fun x t => ?_
  refine cps fun X_ k_ => ?_
  obtain ⟨m, ent, fent, ext, S⟩ := R
  refine k_ ?_
  clear k_ X_
  refine fun Q E q => range1_rows S.fr S.nw fun h' tk t₁ u₁ v₁ hr F' N' hk => ?_
  refine q (ρ ++ [_]) _ h' tk ⟨_, rfl⟩ ⟨m, _, fent, ext, S.alloc (.range (t := t₁) (u := u₁) (v := v₁)) S.below F' (show News G.base c.L h' ((s.heap.objs.size, _) :: _) from fun p hp => ?_)⟩ (.ref (S.newGet _))
  rcases List.mem_cons.mp hp with rfl | hp
  · exact ⟨hr, Nat.ne_of_gt S.fr.ns.lt, Heap.get?_none_of_le (Nat.le_of_lt (Nat.lt_of_le_of_lt S.fr.above S.fr.ns.lt))⟩
  · exact N' p hp
noncomputable def bList (as : List AV) : AM AV := fun σ => args1 as fun a => onRef a fun i => onList σ i fun xs => if xs.length < 1000000 then aNew (.list xs) σ else .stuck
theorem mklist_ok : COk G n (.type "list") bList := by
  intro c σ ρ s f' as as' hc R hf ha
  (replace hf := hf.ity; obtain rfl := hf)
  refine call1 ha fun a a' r => ?_
  refine W.onRef (p := fun v => pt G c (PySem.call _ [v])) r fun i b e1' eo => ?_
  refine W.onList fun xs e => ?_
  refine W.when fun hl => ?_
  refine cps fun X_ k_ => ?_
  obtain ⟨m, ent, fent, ext, S⟩ := R
  obtain ⟨a, vs, k, ea, hv, e2, e3⟩ := S.list e (.ref e1')
  refine k_ ?_
  clear k_ X_
  obtain rfl := Value.ref.inj ea
  have hlen := hv.length
  refine fun Q E q => list_copyK (items := vs.toArray) S.fr S.nw ⟨_, e3, rfl, _, rfl⟩ (fun D c' h' F' N' hl' => ?_) (by rw [sizeLine_eq, List.size_toArray]; omega)
  exact q (ρ ++ [_]) _ h' _ ⟨_, rfl⟩ ⟨m, _, fent, ext, S.alloc (.list hv) hl' F' N'⟩ (.ref (S.newGet _))

-- a list's own methods
noncomputable def bAppend (as : List AV) : AM AV := fun σ => args2 as fun a x => onRef a fun i => onList σ i fun xs => if xs.length < 1000000 then .ok .none { σ with hp := σ.hp.set i (.list (xs ++ [x])) } else .stuck
theorem append_ok : COk G n (.builtin "list.append") bAppend := by
  intro c σ ρ s f' as as' hc R hf ha
  (replace hf := hf.ibi; obtain rfl := hf)
  refine call2 ha fun a x a' x' r r' => ?_
  refine W.onRef (p := fun v => pt G c (PySem.call (.builtin "list.append") [v, x'])) r fun i b e1' eo => ?_
  refine W.onList fun xs e => ?_
  refine W.when fun hl => ?_
  refine cps fun X_ k_ => ?_
  obtain ⟨m, ent, fent, ext, S⟩ := R
  obtain ⟨a, vs, k, ea, hv, e2, e3⟩ := S.list e (.ref e1')
  refine k_ ?_
  clear k_ X_
  obtain rfl := Value.ref.inj ea
  have hlen := hv.length
  have hpush : vs.toArray.push x' = (vs ++ [x']).toArray := by simp
  have U := upd_at (o' := listOf (vs.toArray.push x') (k + 1)) S.nd e2
  refine fun Q E q => append_K S.fr S.nw U (fun h' F' N' => ?_) (by rw [sizeLine_eq, List.size_toArray]; omega)
  rw [hpush] at N'
  exact q ρ _ h' s.toks (List.prefix_refl _) ⟨m, _, fent, ext, S.update e2 (.list (hv.append (.cons r' .nil))) F' N'⟩ .none

noncomputable def bInsert (as : List AV) : AM AV := fun σ => args3 as fun a b x => onRef a fun i => onInt b fun k => onList σ i fun xs =>
  if xs.length < 1000000 ∧ 0 ≤ k ∧ k.toNat ≤ xs.length then .ok .none { σ with hp := σ.hp.set i (.list (xs.take k.toNat ++ x :: xs.drop k.toNat)) } else .stuck
theorem All2.take {α β : Type} {R : α → β → Prop} {as : List α} {bs : List β} (t : All2 R as bs) : ∀ i, All2 R (as.take i) (bs.take i) := by
  induction t with
  | nil => intro i; rw [List.take_nil, List.take_nil]; exact .nil
  | cons r _ ih =>
    intro i
    cases i with
    | zero => exact .nil
    | succ i => exact .cons r (ih i)
theorem All2.drop {α β : Type} {R : α → β → Prop} {as : List α} {bs : List β} (t : All2 R as bs) : ∀ i, All2 R (as.drop i) (bs.drop i) := by
  induction t with
  | nil => intro i; rw [List.drop_nil, List.drop_nil]; exact .nil
  | cons r t ih =>
    intro i
    cases i with
    | zero => exact .cons r t
    | succ i => exact ih i
theorem insert_ok : COk G n (.builtin "list.insert") bInsert := by
  intro c σ ρ s f' as as' hc R hf ha
  (replace hf := hf.ibi; obtain rfl := hf)
  refine call3 ha fun a b x a' b' x' r r1 r' => ?_
  refine W.onRef (p := fun v => pt G c (PySem.call (.builtin "list.insert") [v, b', x'])) r fun i d e1' eo => ?_
  refine W.onInt (p := fun v => pt G c (PySem.call (.builtin "list.insert") [.ref d, v, x'])) r1 fun kk t => W.onList fun xs e => W.when fun hl => ?_
  refine cps fun X_ k_ => ?_
  obtain ⟨hl, h0, hk⟩ := hl
  obtain ⟨m, ent, fent, ext, S⟩ := R
  obtain ⟨a, vs, k, ea, hv, e2, e3⟩ := S.list e (.ref e1')
  refine k_ ?_
  clear k_ X_
  obtain rfl := Value.ref.inj ea
  have hlen := hv.length
  have he : kl_ins vs.toArray.toList kk x' = vs.take kk.toNat ++ x' :: vs.drop kk.toNat := by
    unfold kl_ins
    rw [if_neg (by omega), Nat.min_eq_left (by simp; omega)]
  refine fun Q E q => kl_insert S.fr S.nw (PySem.fitsIndex_of h0 (by omega)) he (upd_at S.nd e2) (by rw [sizeLine_eq]; simp; omega) fun h' F' N' => ?_
  exact q ρ _ h' s.toks (List.prefix_refl _) ⟨m, _, fent, ext, S.update e2 (.list ((hv.take _).append (.cons r' (hv.drop _)))) F' N'⟩ .none

noncomputable def bPop (as : List AV) : AM AV := fun σ => match as with
  | [] => .stuck
  | a :: r => onRef a fun i => onList σ i fun xs => match r with
    | [] => onOpt xs.getLast? fun x => if xs.length < 1000000 then .ok x { σ with hp := σ.hp.set i (.list xs.dropLast) } else .stuck
    | b :: r' => match xs with
      | [] => .stuck
      | x :: ys => if (b = .int 0 ∧ r' = []) ∧ ys.length < 1000000 then .ok x { σ with hp := σ.hp.set i (.list ys) } else .stuck
theorem kl_last_eq : ∀ {l : List Value} {p : List Value} {y : Value}, l = p ++ [y] → kl_last l = some (p, y)
  | _, [], y, rfl => rfl
  | _, x :: p, y, rfl => by
    show (match kl_last (p ++ [y]) with | some (p, y) => some (x :: p, y) | none => some ([], x)) = _
    rw [kl_last_eq rfl]
theorem All2.last {α β : Type} {R : α → β → Prop} {as : List α} {bs : List β} (h : All2 R as bs) {a : α} (e : as.getLast? = some a) : ∃ b, bs = bs.dropLast ++ [b] ∧ R a b ∧ All2 R as.dropLast bs.dropLast := by
  induction h with
  | nil => cases e
  | @cons x y xs ys r t ih =>
    cases t with
    | nil => simp at e; subst e; exact ⟨_, rfl, r, .nil⟩
    | @cons x' y' xs' ys' r' t' =>
      rw [List.getLast?_cons_cons] at e
      refine cps fun X_ k_ => ?_
      obtain ⟨b, e1, e2, e3⟩ := ih e
      refine k_ ?_
      clear k_ X_
      exact ⟨b, by rw [List.dropLast_cons_cons, List.cons_append, ← e1], e2, by rw [List.dropLast_cons_cons, List.dropLast_cons_cons]; exact .cons r e3⟩
theorem pop_ok : COk G n (.builtin "list.pop") bPop := by
  intro c σ ρ s f' as as' hc R hf ha
  (replace hf := hf.ibi; obtain rfl := hf)
  cases ha with
  | nil => trivial
  | @cons a0 a0' r r' ra t =>
    refine W.onRef (p := fun v => pt G c (PySem.call (.builtin "list.pop") (v :: r'))) ra fun i d e1' eo => ?_
    refine W.onList fun xs e => ?_
    refine cps fun X_ k_ => ?_
    obtain ⟨m, ent, fent, ext, S⟩ := R
    obtain ⟨a, vs, k', ea, hv, e2, e3⟩ := S.list e (.ref e1')
    refine k_ ?_
    clear k_ X_
    obtain rfl := Value.ref.inj ea
    cases t with
    | nil =>
      refine W.onOpt fun x hx => ?_
      refine W.when fun hl => ?_
      have hlen := hv.length
      refine cps fun X_ k_ => ?_
      obtain ⟨y, hy1, hy2, hy3⟩ := hv.last hx
      refine k_ ?_
      clear k_ X_
      refine fun Q E q => kl_pop (its := vs.toArray) S.fr S.nw (kl_last_eq hy1) (upd_at S.nd e2) (by rw [sizeLine_eq]; simp; omega) fun h' F' N' => ?_
      exact q ρ _ h' s.toks (List.prefix_refl _) ⟨m, _, fent, ext, S.update e2 (.list hy3) F' N'⟩ hy2
    | @cons b b' r r' rb t =>
      cases hv with
      | nil => trivial
      | @cons x y xs ys ry hv =>
        refine W.when fun hl => ?_
        obtain ⟨⟨rfl, rfl⟩, hl⟩ := hl
        (replace t := t.inil; obtain rfl := t)
        (replace rb := rb.iint; obtain ⟨_, rfl⟩ := rb)
        have hlen := hv.length
        refine fun Q E q => kl_popAt (its := (y :: ys).toArray) (k := 0) (p := []) (q := ys) S.fr S.nw rfl (by unfold seqIndex?; simp) rfl (upd_at S.nd e2) (by rw [sizeLine_eq]; simp; omega) fun h' F' N' => ?_
        exact q ρ _ h' s.toks (List.prefix_refl _) ⟨m, _, fent, ext, S.update e2 (.list hv) F' N'⟩ ry
end
end Mine

open PySem PySem.W PyProof.Rows PySem.Calls
set_option Elab.async false
set_option maxRecDepth 100000
set_option maxHeartbeats 400000
set_option linter.unusedVariables false
namespace Mine
open Builtin Builtin.ObjectAttr

noncomputable def excMro (C : Addr) : List Value := [.ref C, .type "Exception", .type "BaseException", .type "object"]
/-- a class of exceptions of the text -/
structure ExcCls (K : Frag) (C : Addr) : Prop where
  cls : ∃ cd, clsIn K C = some cd ∧ cd.mro = excMro C ∧ cd.hasDict = true
  ga : findIn K (.ref C) "__getattribute__" = some (some (.builtin "BaseException.__getattribute__"))
  gb : findIn K (.ref C) "__getattr__" = some none
  sa : findIn K (.ref C) "__setattr__" = some (some (.builtin "object.__setattr__"))

section
variable {prog : Program} {w : World} {A : Around} {E : Value → Shared → Prop} {s : Shared} {K : Frag} {x C L : Addr} {h₀ : Heap} {m : Str → Option Value} {news : List (Addr × Obj)} {ox : Obj} {od : Option Obj} {name : Str} {v : Value}

theorem ExcCls.isBase (X : ExcCls K C) : mroIn K C (.type "BaseException") = some true := by
  refine cps fun X_ k_ => ?_
  obtain ⟨cd, h1, h2, h3⟩ := X.cls
  refine k_ ?_
  clear k_ X_
  unfold mroIn
  rw [h1, Option.bind_some, h2]
  rfl
theorem ExcCls.isObject (X : ExcCls K C) : mroIn K C (.type "object") = some true := by
  refine cps fun X_ k_ => ?_
  obtain ⟨cd, h1, h2, h3⟩ := X.cls
  refine k_ ?_
  clear k_ X_
  unfold mroIn
  rw [h1, Option.bind_some, h2]
  rfl

theorem bga_call {tk : Tok} {R : Result → Shared → Prop} (X : K.In s.heap) (EC : ExcCls K C) (I : InstAt s.heap x ox C od) (hf : findObj K C od name = some (.value v)) (h : R (.ok (.ret v)) s) :
    codeAny (model prog w) A (.call (.builtin "BaseException.__getattribute__") ⟨[.ref x, .str name tk], []⟩) R s := by
  have FX := PySem.F.attr_Exception
  have sub : Looks (model prog w) s.heap (isInstance (.ref x) (.type "BaseException")) true := I.type.andThen (looks_mroIn X EC.isBase)
  refine codeAny_call_builtin FX.ga.plain F.entry_bexc_ga (@check_slot (model prog w) _ _ s "BaseException.__getattribute__" "BaseException" "__getattribute__" (.ref x) [.str name tk] [] _ (by decide +kernel) (by decide +kernel) sub (F.args_bexc_ga (.ref x) (.str name tk)) ?_)
  refine cps fun X_ k_ => ?_
  obtain ⟨hh', g, d, t, os⟩ := s
  refine k_ ?_
  clear k_ X_
  have L0 := I.type (M := model prog w)
  have L1 := looks_find (M := model prog w) X I hf
  unfold Builtin.«object.__getattribute__»
  repeat lk
  exact h

theorem get_exc {expr : Bool} {Q : Value → Shared → Prop} (X : K.In s.heap) (EC : ExcCls K C) (I : InstAt s.heap x ox C od) (hf : findObj K C od name = some (.value v)) (hh : handedIn v = true) (h : Q v { s with toks := s.toks + 1 }) :
    wpAny (model prog w) A (getAttr (.ref x) name expr) Q E s := by
  refine cps fun X_ k_ => ?_
  obtain ⟨hh', g, d, t, os⟩ := s
  refine k_ ?_
  clear k_ X_
  have L0 := I.type (M := model prog w)
  have L1 := looks_findIn (M := model prog w) X EC.ga
  have L2 := looks_findIn (M := model prog w) X EC.gb
  have f3 := PySem.F.attr_Exception.ga.bind (.ref x)
  unfold getAttr getAttrBy
  refine wpAny_bind (wpAny_mkText (wpAny_holding (wpAny_bind (L0.at (wpAny_bind (L1.at ?_))))))
  have hx2 : (Value.builtin "BaseException.__getattribute__" == Value.builtin "object.__getattribute__") = false := by decide +kernel
  show wpAny _ _ (if (true && (Value.builtin "BaseException.__getattribute__" == Value.builtin "object.__getattribute__")) = true then _ else getAttrByItsOwn _ _ _ _ _ _) _ _ _
  rw [hx2]
  simp only [Bool.and_false, Bool.false_eq_true, if_false]
  unfold getAttrByItsOwn hookBefore callGetattribute boundAndCalled
  refine wpAny_bind (L2.at ?_)
  refine wpAny_bind (wpAny_attempt (wpAny_holding ?_))
  have hx0 : (expr && onTheHeap (Value.builtin "BaseException.__getattribute__")) = false := by cases expr <;> rfl
  rw [hx0]
  simp only [Bool.false_eq_true, if_false]
  rw [f3]
  refine wpAny_bind (wpAny_pure (wpAny_call (bga_call (s := ⟨hh', g, d, t + 1, os⟩) X EC I hf ?_)))
  show wpAny _ _ (handedOut v) _ _ _
  rw [handedOut_of hh]; exact wpAny_pure h

theorem osa_exc {tk : Tok} {R : Result → Shared → Prop} (X : K.In s.heap) (EC : ExcCls K C) (I : InstAt s.heap x ox C od) (ht : findIn K (.ref C) name = some none)
    (h : ∀ b, wpAny (model prog w) A.in1 (storeInOwnDict (.ref x) (.ref C) (.str name tk) name v b)
      (fun fin s' => match fin with | .done f => R (.ok f) s' | .again c' => c'.quiet = true ∧ codeAny (model prog w) A c' R s') (fun e s' => R (.error e) s') s) :
    codeAny (model prog w) A (.call (.builtin "object.__setattr__") ⟨[.ref x, .str name tk, v], []⟩) R s := by
  have SF := PySem.F.store_object
  refine cps fun X_ k_ => ?_
  obtain ⟨cd, hc, ho, hd⟩ := EC.cls
  refine k_ ?_
  clear k_ X_
  have sub : Looks (model prog w) s.heap (isInstance (.ref x) (.type "object")) true := I.type.andThen (looks_mroIn X EC.isObject)
  refine codeAny_call_builtin SF.slot.plain SF.entry (@check_slot (model prog w) _ _ s "object.__setattr__" "object" "__setattr__" (.ref x) [.str name tk, v] [] _ SF.kind SF.split sub (SF.args (.ref x) (.str name tk) v) ?_)
  have hm : Looks (model prog w) s.heap (mroOf (.ref C)) cd.mro := (looks_clsIn X hc).andThen .now
  have L3 : Looks (model prog w) s.heap (storeTaker? none) none := .now
  rw [osa_eq, refuse_eq]
  refine wpAny_bind (wpAny_bind (I.type.here (wpAny_bind (hm.here ?_))))
  rw [ho, excMro, refuseLoop_ref, PySem.F.store_Exception.passes]
  refine wpAny_pure (wpAny_bind (I.type.here (wpAny_bind ((looks_findIn X ht).here (wpAny_bind (L3.here ?_))))))
  exact h _

/-- a first field makes the dict -/
theorem set_exc_new {Q : Unit → Shared → Prop} {pre post : List (Addr × Obj)} (F : Fr h₀ L s.heap m) (N : News h₀ L s.heap (pre ++ (x, ox) :: post)) (X₀ : K.In h₀) (EC : ExcCls K C) (I : InstAt s.heap x ox C none) (hod : ox.dict = none)
    (ht : findIn K (.ref C) name = some none) (h1 : ∀ p ∈ pre, p.1 ≠ x) (h2 : ∀ p ∈ post, p.1 ≠ x)
    (h : ∀ h₁ h₂ h' n, Fr h₀ L h₁ m → News h₀ L h₁ ((s.heap.objs.size, dictOf [] 0) :: (pre ++ (x, ox) :: post)) → Fr h₀ L h₂ m → News h₀ L h₂ ((s.heap.objs.size, dictOf [] 0) :: (pre ++ (x, { ox with dict := some s.heap.objs.size }) :: post)) →
      Fr h₀ L h' m → News h₀ L h' ((s.heap.objs.size, dictOf [⟨PyData.keyHash w.params name, .str name (s.toks + 1), v⟩] n) :: (pre ++ (x, { ox with dict := some s.heap.objs.size }) :: post)) → Q () { s with heap := h', toks := s.toks + 2 }) :
    wpAny (model prog w) A (setAttr (.ref x) name v) Q E s := by
  have X := X₀.keeps F.keep
  refine set_plain X I EC.sa (osa_exc (s := { s with toks := s.toks + 1 }) X EC I ht fun b => ?_)
  refine cps fun X_ k_ => ?_
  obtain ⟨cd, hc, -, hd'⟩ := EC.cls
  obtain ⟨hx, hcl, hn, -⟩ := I
  obtain ⟨oc, odi, oda, osl⟩ := ox
  refine k_ ?_
  clear k_ X_
  dsimp only at hcl hod
  subst hcl hod
  have hxs : x ≠ s.heap.objs.size := Nat.ne_of_lt (Heap.lt_size hx)
  refine wpAny_bind (wpAny_pure (wpAny_bind (wpAny_bind (wpAny_loadPart hx ?_))))
  refine wpAny_bind (looks_clsIn X hc _ _ _ _ (fun _ _ e => e) ?_)
  rw [hd']
  have goal : ∀ (k : Option Addr → Shared → Prop) E', k (some s.heap.objs.size) { s with heap := (s.heap.push { cls := .type "dict", data := .dict #[] }).update x fun o => { cls := o.cls, dict := some s.heap.objs.size, data := o.data, slots := o.slots }, toks := s.toks + 1 } →
      wpAny (model prog w) A.in1 (match oda with
                  | Data.cls c => pure none
                  | x_1 => do
                    let d ← alloc { cls := Value.type "dict", data := Data.dict #[] }
                    update x fun o => { cls := o.cls, dict := some d, data := o.data, slots := o.slots }
                    dictMade (Value.ref C) x d) k E' { s with toks := s.toks + 1 } := fun k E' hk => by
    have hx₁ : (s.heap.push { cls := .type "dict", data := .dict #[] }).get? x = some ⟨.ref C, none, oda, osl⟩ := Heap.get?_push_of_some _ hx
    cases oda <;> first
      | (refine wpAny_bind (wpAny_alloc' ?_); refine wpAny_bind (wpAny_update' hx₁ ?_); exact wpAny_pure hk)
      | cases hn
  refine goal _ _ ?_
  have N1 := N.push F { cls := .type "dict", data := .dict #[] }
  have F1 := F.push (o := { cls := .type "dict", data := .dict #[] })
  have hsz : ∀ p ∈ pre ++ (x, (⟨.ref C, none, oda, osl⟩ : Obj)) :: post, p.1 ≠ s.heap.objs.size := fun p hp => Nat.ne_of_lt (Heap.lt_size (N p hp).1)
  obtain ⟨F2, N2⟩ := news_upd (d := x) (o' := ⟨.ref C, some s.heap.objs.size, oda, osl⟩) (f := fun o => { cls := o.cls, dict := some s.heap.objs.size, data := o.data, slots := o.slots }) (pre := (s.heap.objs.size, { cls := .type "dict", data := .dict #[] }) :: pre) (post := post) F1 N1
    (fun p hp => by rcases List.mem_cons.mp hp with rfl | hp; exact Ne.symm hxs; exact h1 p hp) h2 rfl (by have hfr := (Heap.get?_some_iff.mp hx).2; cases oda <;> first | rfl | exact hfr | cases hn)
  have h3 : ∀ p ∈ pre ++ (x, (⟨.ref C, some s.heap.objs.size, oda, osl⟩ : Obj)) :: post, p.1 ≠ s.heap.objs.size := fun p hp => by
    rcases List.mem_append.mp hp with q | q
    · exact hsz p (List.mem_append_left _ q)
    · rcases List.mem_cons.mp q with rfl | q
      · exact hxs
      · exact hsz p (List.mem_append_right _ (List.mem_cons_of_mem _ q))
  obtain ⟨F3, N3⟩ := news_upd (d := s.heap.objs.size) (o' := dictOf [⟨PyData.keyHash w.params name, .str name (s.toks + 1), v⟩] (putN name [] 0)) (f := Obj.putName name (PyData.keyHash w.params name) (.str name (s.toks + 1)) v) (pre := []) (post := pre ++ (x, _) :: post) F2 N2
    (fun p hp => nomatch hp) h3 (putName_dict name _ _ v [] 0) rfl
  have D := (N2 (s.heap.objs.size, { cls := .type "dict", data := .dict #[] }) (.head _)).1
  have D' := (N3 (s.heap.objs.size, _) (.head _)).1
  have c : (!(#[] : Array DictEntry).any (·.key.isStr name) && (#[] : Array DictEntry).any (·.refKey)) = false := by simp
  show wpAny _ _ (storeInDict s.heap.objs.size (.str name s.toks) name v) _ _ _
  refine wpAny_bind (wpAny_pure (wpAny_bind ?_))
  unfold nsSet
  refine wpAny_bind (wpAny_bind (wpAny_askSetting (wpAny_pure (wpAny_bind (wpAny_mkText (wpAny_bind (wpAny_loadPart D ?_)))))))
  dsimp only
  rw [aRefKeyMayBeTheName_at, c]
  refine wpAny_updatePart D ?_
  refine wpAny_bind (wpAny_lookBehind D' (pastItsLine_dict (by rw [List.size_toArray, sizeLine_eq]; exact Nat.le_of_ble_eq_true rfl)) ?_)
  exact wpAny_pure (h _ _ _ _ F1 N1 F2 N2 F3 N3)

theorem set_exc_old {Q : Unit → Shared → Prop} {news' : List (Addr × Obj)} {es : List DictEntry} {n : Nat} {dx : Addr} (F : Fr h₀ L s.heap m) (N : News h₀ L s.heap news) (X₀ : K.In h₀) (EC : ExcCls K C) (I : InstAt s.heap x ox C (some (dictOf es n))) (hdx : ox.dict = some dx)
    (ht : findIn K (.ref C) name = some none) (hl : (getL name es).isSome = true)
    (U : Upd dx (dictOf es n) (dictOf (putL name (PyData.keyHash w.params name) (.str name (s.toks + 1)) v es) (putN name es n)) news news') (hz : (putL name (PyData.keyHash w.params name) (.str name (s.toks + 1)) v es).length ≤ 1000)
    (h : ∀ h', Fr h₀ L h' m → News h₀ L h' news' → Q () { s with heap := h', toks := s.toks + 2 }) :
    wpAny (model prog w) A (setAttr (.ref x) name v) Q E s := by
  have X := X₀.keeps F.keep
  refine cps fun X_ k_ => ?_
  obtain ⟨pre, post, rfl, rfl, h1, h2⟩ := U.split
  refine k_ ?_
  clear k_ X_
  refine set_plain X I EC.sa (osa_exc (s := { s with toks := s.toks + 1 }) X EC I ht fun b => ?_)
  refine cps fun X_ k_ => ?_
  obtain ⟨cd, hc, -, hd'⟩ := EC.cls
  obtain ⟨U1, U2⟩ := news_upd (f := Obj.putName name (PyData.keyHash w.params name) (.str name (s.toks + 1)) v) F N h1 h2 (putName_dict name _ _ v es n) rfl
  have D := (N (dx, dictOf es n) (by simp)).1
  have D' := (U2 (dx, _) (List.mem_append_right _ (.head _))).1
  obtain ⟨hx, hcl, hn, -⟩ := I
  obtain ⟨oc, odi, oda, osl⟩ := ox
  refine k_ ?_
  clear k_ X_
  dsimp only at hcl hdx
  subst hcl hdx
  refine wpAny_bind (wpAny_pure (wpAny_bind (wpAny_bind (wpAny_loadPart hx ?_))))
  refine wpAny_bind (looks_clsIn X hc _ _ _ _ (fun _ _ e => e) ?_)
  rw [hd']
  refine wpAny_pure (a := some dx) (wpAny_bind (wpAny_pure (wpAny_bind ?_)))
  unfold nsSet
  refine wpAny_bind (wpAny_bind (wpAny_askSetting (wpAny_pure (wpAny_bind (wpAny_mkText (wpAny_bind (wpAny_loadPart D ?_)))))))
  dsimp only [dictOf]
  have c : (!(es.toArray).any (·.key.isStr name) && (es.toArray).any (·.refKey)) = false := by
    unfold getL at hl
    rw [List.any_toArray, List.any_toArray]
    split at hl
    · rename_i en he
      rw [List.any_eq_true.mpr ⟨en, List.mem_of_find?_eq_some he, List.find?_some he⟩]; rfl
    · split at hl
      · cases hl
      · rename_i z; rw [Bool.not_eq_true] at z; rw [z, Bool.and_false]
  rw [aRefKeyMayBeTheName_at, c]
  refine wpAny_updatePart D ?_
  refine wpAny_bind (wpAny_lookBehind D' (pastItsLine_dict (by rw [List.size_toArray, sizeLine_eq]; omega)) ?_)
  exact wpAny_pure (h _ U1 U2)
end

/-- the class of exceptions that the text makes -/
structure ExcFacts (G : Gd) (C : Addr) (names : List Str) : Prop where
  cls : ExcCls G.K C
  none : ∀ x ∈ names, findIn G.K (.ref C) x = some none

noncomputable def xGet (C : Addr) (name : Str) (v : AV) : AM AV := fun σ => onRef v fun i => onExc σ i fun C' d _ _ => onOpt d fun d => if C' = C then onDict σ d fun es => onOpt (aget name es) fun x => if plainV x then .ok x σ else .stuck else .stuck
noncomputable def xSet (C : Addr) (v : AV) (name : Str) (x : AV) : AM Unit := fun σ => onRef v fun i => onExc σ i fun C' d cl fs => if C' = C then (match d with
    | some d => onDict σ d fun es => if es.length < 900 then .ok () { σ with hp := σ.hp.set d (.dict (aput name x es)) } else .stuck
    | none => .ok () { σ with hp := (σ.hp.set i (.exc C (some σ.hp.length) cl fs)) ++ [.dict [(name, x)]] }) else .stuck

section
variable {G : Gd} {n : Nat} {sc : Scope} {c : Cx} {σ : AS} {ρ : List Addr} {s : Shared} {h : Heap} {m : Str → Option Value} {ent fent ext : List (Addr × Obj)} {C : Addr} {names : List Str}

theorem St.exc (S : St G c σ ρ h m ent fent ext) {i d : Nat} {cl fs : Bool} {es : List (Str × AV)} (e : σ.hp[i]? = some (.exc C (some d) cl fs)) (e' : σ.hp[d]? = some (.dict es)) :
    ∃ a ox dx des k, ρ[i]? = some a ∧ ent[d]? = some (dx, dictOf des k) ∧ All2 (DE G.w.params ρ) es des ∧ W.InstAt h a ox C (some (dictOf des k)) ∧ ox.dict = some dx := by
  refine cps fun X_ k_ => ?_
  obtain ⟨a, ob, e1, e2, r, e3, e4, e5⟩ := S.objAt e
  obtain ⟨dx, od, f1, f2, r', f3, f4, f5⟩ := S.objAt e'
  refine k_ ?_
  clear k_ X_
  cases r with | exc hd hd' hsz hcl hfs =>
  refine cps fun X_ k_ => ?_
  obtain ⟨dx', q1, q2⟩ := hd d rfl
  refine k_ ?_
  clear k_ X_
  rw [q1] at f1
  cases f1
  subst q2
  cases r' with | dict hde =>
  exact ⟨a, _, _, _, _, e1, f2, hde, ⟨e3, rfl, rfl, f3⟩, rfl⟩

theorem xget_ok {a : AV} {a' : Value} (XF : ExcFacts G C names) (name : Str) (hn : name ∈ names) (expr : Bool) (R : Rel G c σ ρ s.heap) (ha : VR ρ a a') : W G c ρ s (pt G c (getAttr a' name expr)) VR (xGet C name a σ) := by
  refine W.onRef (p := fun v => pt G c (getAttr v name expr)) ha fun i b e1' eo => ?_
  refine W.onExc fun C' d cl fs e => ?_
  refine W.onOpt fun d ed => ?_
  subst ed
  refine W.when fun hC => ?_
  subst hC
  refine W.onDict fun es e' => ?_
  refine W.onOpt fun x hx => ?_
  refine W.when fun hp => ?_
  refine cps fun X_ k_ => ?_
  obtain ⟨m, ent, fent, ext, S⟩ := R
  obtain ⟨y, ox, dx, des, k, e1, e2, e3, I, e4⟩ := S.exc e e'
  obtain ⟨v, hv, rv⟩ := de_get e3 hx
  obtain ⟨cd, hc, -, hd⟩ := XF.cls.cls
  refine k_ ?_
  clear k_ X_
  rw [e1] at e1'
  obtain rfl := Option.some.inj e1'
  have hh : hasDictIn G.K C' = true := by unfold hasDictIn; rw [hc]; exact hd
  exact fun Q E q => get_exc (G.X.keeps S.fr.keep) XF.cls I (findObj_own hh (XF.none _ hn) rfl hv) (plainV_ok hp rv) (q ρ v s.heap _ (List.prefix_refl _) ⟨m, ent, fent, ext, S⟩ rv)
theorem ref_attrx {e : Expr} {name : Str} {pos : Pos} {me : AM AV} (XF : ExcFacts G C names) (he : RefE G n sc e me) (hn : name ∈ names)
    (hs : ∀ env, eval (Expr.Attribute e name pos) env = (do
          let o ← eval e env
          standAt (Pos.atName pos)
          let r ← holding [o] (getAttr o name true)
          letTemporaryGo e o r
          pure r) := by intros; rfl) : RefE G n sc (.Attribute e name pos) (do let v ← me; xGet C name v) := by
  intro c σ ρ s hc R
  refine W.conv (p' := PT.bind (pt G c (eval e c.env)) fun v => pt G c (getAttr v name true)) (fun Q E q => Attribute_any_ q (hs _)) ?_
  exact W.bind (he c σ ρ s hc R) fun v σ' ρ' v' h' tk hp R' rv => xget_ok XF name hn true R' rv

theorem xset_ok {a x : AV} {a' x' : Value} (XF : ExcFacts G C names) (name : Str) (hn : name ∈ names) (R : Rel G c σ ρ s.heap) (ha : VR ρ a a') (hx : VR ρ x x') : W G c ρ s (pt G c (setAttr a' name x')) (fun _ _ _ => True) (xSet C a name x σ) := by
  refine W.onRef (p := fun v => pt G c (setAttr v name x')) ha fun i0 b e1' eo => ?_
  refine W.onExc fun C' d cl fs e => ?_
  refine W.when fun hC => ?_
  subst hC
  cases d with
  | some d =>
    refine W.onDict fun es e' => ?_
    refine W.when fun hl => ?_
    refine cps fun X_ k_ => ?_
    obtain ⟨m, ent, fent, ext, S⟩ := R
    obtain ⟨y, ox, dx, des, k, e1, e2, e3, I, e4⟩ := S.exc e e'
    refine k_ ?_
    clear k_ X_
    rw [e1] at e1'
    obtain rfl := Option.some.inj e1'
    have hz : (putL name (PyData.keyHash G.w.params name) (.str name (s.toks + 1)) x' des).length ≤ 1000 := by
      have := (de_put (P := G.w.params) (name := name) (tk := s.toks + 1) hx e3).length
      have := aput_len name x es
      omega
    refine fun Q E q => set_exc_old S.fr S.nw G.X XF.cls I e4 (XF.none _ hn) (de_some e3) (upd_at S.nd e2) hz fun h' F' N' => ?_
    exact q ρ () h' _ (List.prefix_refl _) ⟨m, _, fent, ext, S.update e2 (.dict (de_put hx e3)) F' N'⟩ trivial
  | none =>
    refine cps fun X_ k_ => ?_
    obtain ⟨m, ent, fent, ext, S⟩ := R
    obtain ⟨a0, ob, e1, e2, r, e3, e4, e5⟩ := S.objAt e
    refine k_ ?_
    clear k_ X_
    rw [e1] at e1'
    obtain rfl := Option.some.inj e1'
    cases r with | exc hd hd' hsz hcl hfs =>
    have hod := hd' rfl
    subst hod
    have hi : i0 < σ.hp.length := (List.getElem?_eq_some_iff.mp e).1
    have hlen := S.len
    have hie : i0 < ent.length := by rw [← S.objs.length]; exact hi
    generalize hox : (⟨.ref C', none, .fields _, _⟩ : Obj) = ox at e2 e3
    have hox' : ox.dict = none := by rw [← hox]
    have I : W.InstAt s.heap a0 ox C' none := by rw [← hox]; exact ⟨by rw [hox]; exact e3, rfl, rfl, trivial⟩
    refine cps fun X_ k_ => ?_
    obtain ⟨pre, post, ea, eb, h1, h2⟩ := (upd_at (o' := { ox with dict := some s.heap.objs.size }) S.nd e2).split
    refine k_ ?_
    clear k_ X_
    have hnw := S.nw
    rw [ea] at hnw
    refine fun Q E q => set_exc_new S.fr hnw G.X XF.cls I hox' (XF.none _ hn) h1 h2 fun h₁ h₂ h' k F1 N1 F2 N2 F3 N3 => ?_
    rw [← ea] at N1
    have S1 := S.alloc (.dict .nil) S.below F1 N1
    have sub : ∀ (D : Addr × Obj) p, p ∈ (ent ++ [D]).set i0 (a0, { ox with dict := some s.heap.objs.size }) ++ (fent ++ ext) → p ∈ D :: (pre ++ (a0, { ox with dict := some s.heap.objs.size }) :: post) := fun D p hp => by
      rw [List.set_append_left _ _ hie] at hp
      rw [← eb]
      simp only [List.mem_append, List.mem_cons, List.mem_singleton] at hp ⊢
      refine cps fun X_ k_ => ?_
      rcases hp with (h | h | h) | h
      all_goals refine k_ ?_
      all_goals clear k_ X_
      · exact .inr (.inl h)
      · exact .inl h
      · exact absurd h (by simp)
      · exact .inr (.inr h)
    have e2' : (ent ++ [(s.heap.objs.size, dictOf [] 0)])[i0]? = some (a0, ox) := by rw [List.getElem?_append_left hie]; exact e2
    have S2 := S1.update e2' (o' := .exc C' (some σ.hp.length) cl fs) (ob' := { ox with dict := some s.heap.objs.size }) (by
      rw [← hox]
      exact .exc (fun j e => by cases e; exact ⟨_, S.newGet _, rfl⟩) (fun e => by cases e) hsz hcl hfs) F2 (fun p hp => N2 p (sub _ p hp))
    have e3' : ((ent ++ [(s.heap.objs.size, dictOf [] 0)]).set i0 (a0, { ox with dict := some s.heap.objs.size }))[σ.hp.length]? = some (s.heap.objs.size, dictOf [] 0) := by
      rw [List.set_append_left _ _ hie, List.getElem?_append_right (Nat.le_of_eq (by rw [List.length_set, S.objs.length])), List.length_set, S.objs.length, Nat.sub_self]; rfl
    have set3 : ∀ D' : Addr × Obj, ((ent ++ [(s.heap.objs.size, dictOf [] 0)]).set i0 (a0, { ox with dict := some s.heap.objs.size })).set σ.hp.length D' = (ent ++ [D']).set i0 (a0, { ox with dict := some s.heap.objs.size }) := fun D' => by
      rw [List.set_append_left _ _ hie, List.set_append_left _ _ hie, List.set_append_right _ _ (Nat.le_of_eq (by rw [List.length_set, S.objs.length])), List.length_set, S.objs.length, Nat.sub_self]; rfl
    have hde : All2 (DE G.w.params (ρ ++ [s.heap.objs.size])) [(name, x)] [⟨PyData.keyHash G.w.params name, .str name (s.toks + 1), x'⟩] := .cons ⟨rfl, ⟨_, rfl⟩, VR.mono ⟨_, rfl⟩ hx⟩ .nil
    have S3 := S2.update e3' (o' := .dict [(name, x)]) (.dict (n := k) hde) F3 (fun p hp => N3 p (sub _ p (by rw [← set3]; exact hp)))
    have seth : ((σ.hp ++ [AO.dict []]).set i0 (AO.exc C' (some σ.hp.length) cl fs)).set σ.hp.length (AO.dict [(name, x)]) = σ.hp.set i0 (AO.exc C' (some σ.hp.length) cl fs) ++ [AO.dict [(name, x)]] := by
      rw [List.set_append_left _ _ hi, List.set_append_right _ _ (Nat.le_of_eq (by rw [List.length_set])), List.length_set, Nat.sub_self]; rfl
    have R3 : Rel G c { σ with hp := ((σ.hp ++ [AO.dict []]).set i0 (AO.exc C' (some σ.hp.length) cl fs)).set σ.hp.length (AO.dict [(name, x)]) } (ρ ++ [s.heap.objs.size]) h' := ⟨m, _, fent, ext, S3⟩
    rw [seth] at R3
    exact q (ρ ++ [s.heap.objs.size]) () h' _ (List.prefix_append _ _) R3 trivial
theorem refs_setattrx {o e : Expr} {name : Str} {p' pos : Pos} {mo me : AM AV} (XF : ExcFacts G C names) (he : RefE G n sc e me) (ho : RefE G n sc o mo) (hn : name ∈ names) (hw : ∀ env, swapsWith e (some (.Attribute o name p')) pos.line env = pure false := by intros; rfl) :
    RefS G n sc (.Assign [.Attribute o name p'] e pos) (do let v ← me; let ov ← mo; xSet C ov name v; pure .next) := by
  intro c σ ρ s hc R
  refine W.conv (p' := PT.bind (pt G c (eval e c.env)) fun v => PT.bind (pt G c (eval o c.env)) fun ov => PT.bind (pt G c (setAttr ov name v)) fun _ => fun Q E s => Q .next s) (fun Q E q => plainObj_wpAny_Assign_Attribute q (hw _)) ?_
  refine W.bind (he c σ ρ s hc R) fun v σ' ρ' v' h' tk hp R' rv => W.bind (ho c σ' ρ' _ hc R') fun u σ'' ρ'' u' h'' tk' hp' R'' ru => ?_
  exact W.bind (xset_ok XF name hn R'' ru (rv.mono hp')) fun _ σ₃ ρ₃ _ h₃ tk₃ hp₃ R₃ _ => W.pure R₃ .next
end
end Mine

open PySem PySem.W PyProof.Rows PySem.Calls
set_option Elab.async false
set_option maxRecDepth 100000
set_option maxHeartbeats 400000
set_option linter.unusedVariables false
namespace Mine

section
variable {G : Gd} {n : Nat} {sc : Scope} {c : Cx} {σ : AS} {ρ : List Addr} {s : Shared} {h h' : Heap} {m : Str → Option Value} {ent fent ext : List (Addr × Obj)} {C : Addr} {names : List Str}

/-- a new object, its place told apart from all -/
theorem St.allocN (S : St G c σ ρ h m ent fent ext) {a : Addr} {ob : Obj} {o : AO} (r : OR G ext ρ o ob) (hl : ∀ p ∈ ent ++ (fent ++ ext), p.1 ≠ a)
    (F' : Fr G.base c.L h' m) (N' : News G.base c.L h' ((a, ob) :: (ent ++ (fent ++ ext)))) : St G c { σ with hp := σ.hp ++ [o] } (ρ ++ [a]) h' m (ent ++ [(a, ob)]) fent ext := by
  have hp : ρ <+: ρ ++ [a] := ⟨[a], rfl⟩
  refine ⟨F', fun p hp => N' p ?_, ?_, fun x => (S.loc x).mono hp, by rw [List.map_append, S.keys]; rfl, ?_, S.frames, S.ext, S.cells.imp fun _ _ q => ⟨q.1, pre_get hp q.2⟩, S.hd.mono hp⟩
  · simp only [List.append_assoc, List.cons_append, List.nil_append, List.mem_append, List.mem_cons] at hp ⊢
    refine cps fun X_ k_ => ?_
    rcases hp with h | h | h | h
    all_goals refine k_ ?_
    all_goals clear k_ X_
    · exact .inr (.inl h)
    · exact .inl h
    · exact .inr (.inr (.inl h))
    · exact .inr (.inr (.inr h))
  · have nd := S.nd
    have e : ((ent ++ [(a, ob)]) ++ (fent ++ ext)).map (·.1) = ent.map (·.1) ++ a :: (fent ++ ext).map (·.1) := by simp
    rw [e, List.perm_middle.nodup_iff, List.nodup_cons]
    rw [List.map_append] at nd
    refine ⟨fun q => ?_, nd⟩
    rw [← List.map_append] at q
    refine cps fun X_ k_ => ?_
    obtain ⟨p, hq, e⟩ := List.mem_map.mp q
    refine k_ ?_
    clear k_ X_
    exact hl p hq e
  · exact (S.objs.imp fun _ _ q => q.mono hp fun _ z => z).append (.cons (r.mono hp fun _ z => z) .nil)

theorem Rel.at_ (c' : Cx) (h1 : c'.L = c.L) (h2 : c'.frs = c.frs) (h3 : c'.env.cells = c.env.cells) (h4 : c'.A.handled = c.A.handled) (h5 : c'.its = c.its) (R : Rel G c σ ρ h) : Rel G c' σ ρ h := by
  refine cps fun X_ k_ => ?_
  obtain ⟨m, ent, fent, ext, S⟩ := R
  refine k_ ?_
  clear k_ X_
  refine ⟨m, ent, fent, ext, ⟨h1 ▸ S.fr, h1 ▸ S.nw, S.nd, S.loc, S.keys, S.objs, h2 ▸ S.frames, h5 ▸ S.ext, h3 ▸ S.cells, ?_⟩⟩
  have hd := S.hd
  unfold HdOk at hd ⊢
  rw [h4]; exact hd
/-- another surrounding, the frames the same -/
noncomputable def Cx.around (c : Cx) (A : Around) : Cx := { c with A := A }
theorem OkA.around {k : Nat} {A' : Around} (hc : OkA G n c) (h1 : A'.frames = c.A.frames) (h2 : A'.depth + 12 * k + 10 < recursionLimit) (h3 : A'.units + 60 * k + 50 < cLine) : OkA G k (c.around A') := by
  refine cps fun X_ k_ => ?_
  obtain ⟨l, a, b⟩ := hc.frs
  refine k_ ?_
  clear k_ X_
  exact ⟨h2, h3, l, h1.trans a, b⟩

noncomputable def aInst (C : Addr) (af : List AV → AM AV) (as : List AV) : AM AV := fun σ => match af (.ref (σ.hp.length + 1) :: as) { σ with hp := σ.hp ++ [.dict []] ++ [.inst C σ.hp.length] } with
  | .ok .none σ' => .ok (.ref (σ.hp.length + 1)) σ'
  | _ => .stuck
theorem cok_inst {fI : Addr} {af : List AV → AM AV} (hm : makesIn G.K C = true) (hi : findIn G.K (.ref C) "__init__" = some (some (.ref fI))) (hf : isFn G.K (.ref fI) = true) (h : FnOk G n fI af) : COk G (n + 1) (.obj C) (aInst C af) := by
  intro c σ ρ s f' as as' hc R hf' ha
  (replace hf' := hf'.iobj; obtain rfl := hf')
  refine cps fun X_ k_ => ?_
  obtain ⟨m, ent, fent, ext, S⟩ := R
  refine k_ ?_
  clear k_ X_
  unfold aInst
  split
  · rename_i σ' e
    refine fun Q E q => call_cls S.fr G.X S.nw hm hi hf fun x dx h' F' N' hl hlt => ?_
    have S1 := S.alloc (.dict .nil) hl F' (fun p hp => N' p (List.mem_cons_of_mem _ hp))
    have hl2 : ∀ p ∈ (ent ++ [(dx, dictOf [] 0)]) ++ (fent ++ ext), p.1 < x := fun p hp => by
      simp only [List.append_assoc, List.mem_append, List.mem_cons, List.cons_append, List.nil_append] at hp
      have : p = (dx, dictOf [] 0) ∨ p ∈ ent ++ (fent ++ ext) := by
        refine cps fun X_ k_ => ?_
        rcases hp with h | h | h | h
        all_goals refine k_ ?_
        all_goals clear k_ X_
        · exact .inr (List.mem_append_left _ h)
        · exact .inl h
        · exact .inr (List.mem_append_right _ (List.mem_append_left _ h))
        · exact .inr (List.mem_append_right _ (List.mem_append_right _ h))
      rcases this with rfl | h
      · exact hlt
      · exact Nat.lt_trans (hl p h) hlt
    have S2 := S1.alloc (o := .inst C σ.hp.length) (.inst (S.newGet dx)) hl2 F' (fun p hp => N' p (by
      simp only [List.append_assoc, List.mem_append, List.mem_cons, List.cons_append, List.nil_append] at hp ⊢
      refine cps fun X_ k_ => ?_
      rcases hp with h | h | h | h | h
      all_goals refine k_ ?_
      all_goals clear k_ X_
      · exact .inl h
      · exact .inr (.inr (.inl h))
      · exact .inr (.inl h)
      · exact .inr (.inr (.inr (.inl h)))
      · exact .inr (.inr (.inr (.inr h)))))
    have hx : ((ρ ++ [dx]) ++ [x])[σ.hp.length + 1]? = some x := by
      have := S1.newGet x
      rwa [List.length_append] at this
    have hd := hc.depth
    have hu := hc.units
    let A' := c.A.under (.builtin "type.__call__" ⟨.ref C :: as', []⟩)
    have z := h (c.around A') _ ((ρ ++ [dx]) ++ [x]) { s with heap := h' } (.ref (σ.hp.length + 1) :: as) (.ref x :: as') (hc.around rfl (by show c.A.depth + 1 + 12 * n + 10 < _; omega) (by show c.A.units + 1 + 60 * n + 50 < _; omega))
      (Rel.at_ (c := c) (c.around A') rfl rfl rfl rfl rfl ⟨m, _, fent, ext, S2⟩) (.cons (.ref hx) (ha.imp fun _ _ r => (r.mono ⟨_, rfl⟩).mono ⟨_, rfl⟩))
    rw [e] at z
    refine codeAny_mono (z (fun v s' => v = .none ∧ Q (.ref x) s') E fun ρ' v' h'' tk hp R' rv => ?_) fun r s' y => ?_
    · (replace rv := rv.inone; obtain rfl := rv)
      refine ⟨rfl, q ρ' (.ref x) h'' tk (((List.prefix_append _ _).trans (List.prefix_append _ _)).trans hp) (Rel.at_ (c := c.around A') c rfl rfl rfl rfl rfl R') (.ref (pre_get hp hx))⟩
    · rcases r with e | (v | _ | _ | _) <;> first | exact y | exact y.elim
  · trivial

noncomputable def aExc (C : Addr) (af : List AV → AM AV) (as : List AV) : AM AV := fun σ => if as.length < 1000 then (match af (.ref σ.hp.length :: as) { σ with hp := σ.hp ++ [.exc C none true true] } with
  | .ok .none σ' => .ok (.ref σ.hp.length) σ'
  | _ => .stuck) else .stuck
theorem cok_exc {fI N : Addr} {af : List AV → AM AV} {nm q : Str} {bs : List Value} {sn : List Str} {sub : List Value} {ab : Bool} {col : Option Bool} {dd : Option Addr} {k0 k1 k2 k3 k5 : Option Value} {on : Obj} {mN : Str → Option Value}
    (hC : G.K.lookup C = some (excClassObj nm q C N bs [.type "Exception", .type "BaseException", .type "object"] true sn sub ab col dd k0 k1 k2 k3 k5 "Exception.__new__")) (hN : G.K.lookup N = some on) (hns : NsObj on mN) (hi : mN "__init__" = some (.ref fI)) (hf : isFn G.K (.ref fI) = true) (hfo : ∃ o, G.K.lookup fI = some o ∧ o.cls = .type "function")
    (h : FnOk G n fI af) : COk G (n + 1) (.obj C) (aExc C af) := by
  intro c σ ρ s f' as as' hc R hf' ha
  (replace hf' := hf'.iobj; obtain rfl := hf')
  refine cps fun X_ k_ => ?_
  obtain ⟨m, ent, fent, ext, S⟩ := R
  refine k_ ?_
  clear k_ X_
  unfold aExc
  split
  · rename_i hlen
    split
    · rename_i σ' e
      have X := G.X.keeps S.fr.keep
      refine cps fun X_ k_ => ?_
      obtain ⟨of, hof, hfc⟩ := hfo
      obtain ⟨es, ep, n1, n2, n3⟩ := hns
      refine k_ ?_
      clear k_ X_
      have hn : s.heap.Ns N mN := ⟨on, es, ep, X _ _ hN, n1, n2, n3⟩
      have hlen' := ha.length
      refine fun Q E q => wpAny_call_exc_init (rest := as') PySem.F.excBase_Exception (X _ _ hC) hn hi (X _ _ hof) hfc (fun h' e he => ?_) (by rw [sizeLine_eq]; omega)
      refine cps fun X_ k_ => ?_
      obtain ⟨k1, k2, t, k3, k4, k5⟩ := he
      refine k_ ?_
      clear k_ X_
      have N' : News G.base c.L h' ((e, { cls := .ref C, data := .fields #[.ref t, .none, .none, .none, .bool false, .none] }) :: (ent ++ (fent ++ ext))) := fun p hp => by
        rcases List.mem_cons.mp hp with rfl | hp
        · refine ⟨k3, fun q => ?_, ?_⟩
          · refine cps fun X_ k_ => ?_
            obtain ⟨oL, _, _, hL, _⟩ := S.fr.ns
            refine k_ ?_
            clear k_ X_
            have q : e = c.L := q
            rw [q, hL] at k2; cases k2
          · cases hb : G.base.get? e with
            | none => rfl
            | some o => rw [S.fr.keep _ _ hb] at k2; cases k2
        · exact ⟨k1 _ _ (S.nw p hp).1, (S.nw p hp).2⟩
      have F' : Fr G.base c.L h' m := ⟨S.fr.ns.keeps k1, fun b o q => k1 _ _ (S.fr.keep b o q), S.fr.above⟩
      have S1 := S.allocN (o := .exc C none true true) (ob := { cls := .ref C, data := .fields #[.ref t, .none, .none, .none, .bool false, .none] }) (.exc (fun _ e => by cases e) (fun _ => rfl) (Nat.lt_of_succ_le (Nat.le_refl 6)) (fun _ => rfl) (fun _ => rfl)) (fun p hp q => by
        have z := (S.nw p hp).1
        rw [q, k2] at z; cases z) F' N'
      have hx := S.newGet e
      have hd := hc.depth
      have hu := hc.units
      let A' := c.A.under (.builtin "type.__call__" ⟨.ref C :: as', []⟩)
      have z := h (c.around A') _ (ρ ++ [e]) { s with heap := h' } (.ref σ.hp.length :: as) (.ref e :: as') (hc.around rfl (by show c.A.depth + 1 + 12 * n + 10 < _; omega) (by show c.A.units + 1 + 60 * n + 50 < _; omega))
        (Rel.at_ (c := c) (c.around A') rfl rfl rfl rfl rfl ⟨m, _, fent, ext, S1⟩) (.cons (.ref hx) (ha.imp fun _ _ r => r.mono ⟨_, rfl⟩))
      rename_i he'
      rw [he'] at z
      refine wpAny_call (z (fun r s' => r = .none ∧ Q (.ref e) s') E fun ρ' v' h'' tk hp R' rv => ?_)
      (replace rv := rv.inone; obtain rfl := rv)
      exact ⟨rfl, q ρ' (.ref e) h'' tk ((List.prefix_append _ _).trans hp) (Rel.at_ (c := c.around A') c rfl rfl rfl rfl rfl R') (.ref (pre_get hp hx))⟩
    · trivial
  · trivial

/-- a property of an instance -/
structure PropIs (G : Gd) (C : Addr) (name : Str) (fget : Addr) : Prop where
  get : plainGet G.K C name = true
  dict : hasDictIn G.K C = true
  at_ : ∃ p rest, findIn G.K (.ref C) name = some (some (.ref p)) ∧ specialIn G.K (.ref p) "__get__" = some (some (.builtin "property.__get__")) ∧ takesIn G.K (.ref p) = some true ∧ recIn G.K p "property" = some (.ref fget :: rest)
noncomputable def aProp (C : Addr) (af : List AV → AM AV) (v : AV) : AM AV := fun σ => onRef v fun i => onInst σ i fun C' d => if C' = C then onDict σ d fun _ => (match af [v] σ with
          | .ok x σ' => if plainV x then .ok x σ' else .stuck
          | _ => .stuck) else .stuck
theorem ref_prop {e : Expr} {name : Str} {pos : Pos} {me : AM AV} {fget : Addr} {af : List AV → AM AV} (PI : PropIs G C name fget) (h : FnOk G n fget af) (he : RefE G (n + 1) sc e me)
    (hs : ∀ env, eval (Expr.Attribute e name pos) env = (do
          let o ← eval e env
          standAt (Pos.atName pos)
          let r ← holding [o] (getAttr o name true)
          letTemporaryGo e o r
          pure r) := by intros; rfl) : RefE G (n + 1) sc (.Attribute e name pos) (do let v ← me; aProp C af v) := by
  intro c σ ρ s hc R
  refine W.conv (p' := PT.bind (pt G c (eval e c.env)) fun v => pt G c (getAttr v name true)) (fun Q E q => Attribute_any_ q (hs _)) ?_
  refine W.bind (he c σ ρ s hc R) fun v σ' ρ' v' h' tk hp R' rv => ?_
  refine W.onRef (p := fun v => pt G c (getAttr v name true)) rv fun i b ha ev => ?_
  subst ev
  refine W.onInst fun C' d e1 => ?_
  refine W.when fun hC => ?_
  subst hC
  refine W.onDict fun es e2 => ?_
  cases e3 : af [.ref i] σ' with
  | stuck => trivial
  | exc x σ2 => trivial
  | ok x σ2 =>
  refine W.when fun hpl => ?_
  have R0 := R'
  refine cps fun X_ k_ => ?_
  obtain ⟨m, ent, fent, ext, S⟩ := R'
  obtain ⟨y, dx, des, k, f1, f2, f3, I, f4⟩ := S.inst e1 e2
  refine k_ ?_
  clear k_ X_
  rw [f1] at ha
  obtain rfl := Option.some.inj ha
  refine cps fun X_ k_ => ?_
  obtain ⟨p, rest, g1, g2, g3, g4⟩ := PI.at_
  refine k_ ?_
  clear k_ X_
  have hA := hc.okA
  have hd := hA.depth
  have hu := hA.units
  refine fun Q E q => get_prop S.fr G.X I PI.get PI.dict g1 g2 g3 g4 ?_
  have z := h (c.around c.A.in1) _ ρ' { (up s h' tk) with toks := tk + 1 } [_] [.ref y] (hA.around rfl (by show c.A.depth + 12 * n + 10 < _; omega) (by show c.A.units + 1 + 60 * n + 50 < _; omega))
    (Rel.at_ (c := c) (c.around c.A.in1) rfl rfl rfl rfl rfl R0) (.cons (.ref f1) .nil)
  rw [e3] at z
  refine z (fun v s' => wpAny (model G.prog G.w) c.A (handedOut v) Q E s') _ fun ρ'' v'' h'' tk' hp' R'' rv'' => ?_
  rw [handedOut_of (plainV_ok hpl rv'')]
  exact wpAny_pure (q ρ'' v'' h'' tk' hp' (Rel.at_ (c := c.around c.A.in1) c rfl rfl rfl rfl rfl R'') rv'')

noncomputable def aCMeth (C f : Addr) (o : AV) : AM (AV × List AV) := fun σ => match o with
  | .obj C' => if C' = C then .ok (.obj f, []) σ else .stuck
  | _ => .stuck
/-- a function found upon its class -/
theorem cmeth_ok {name : Str} {f : Addr} {mc : Value} (h1 : specialIn G.K (.ref C) "__getattribute__" = some (some (.builtin "type.__getattribute__"))) (h2 : typeIn G.K (.ref C) = some mc) (h3 : readsIn G.K C mc = true) (h4 : findCls G.K (.ref C) mc name = some (.val (.ref f))) :
    MOk G name (aCMeth C f) := by
  intro c σ ρ s o o' pl R ho
  unfold aCMeth
  split
  · split
    · rename_i hC
      subst hC
      (replace ho := ho.iobj; obtain rfl := ho)
      refine cps fun X_ k_ => ?_
      obtain ⟨m, ent, fent, ext, S⟩ := R
      refine k_ ?_
      clear k_ X_
      refine fun Q E q => method_of_cls S.fr G.X h1 (cls_val S.fr G.X h2 h3 h4 rfl ?_)
      exact q ρ (_, _) s.heap _ (List.prefix_refl _) ⟨m, ent, fent, ext, S⟩ ⟨.obj _, .nil⟩
    · trivial
  · trivial
end
end Mine

open PySem PySem.W PyProof.Rows PySem.Calls
set_option Elab.async false
set_option maxRecDepth 100000
set_option maxHeartbeats 400000
set_option linter.unusedVariables false
namespace Mine

section
variable {prog : Program} {w : World} {A : Around} {E : Value → Shared → Prop} {s : Shared} {env : Env}
variable {nm q : Str} {C N : Addr} {bs : List Value} {sn : List Str} {sub : List Value} {ab : Bool} {col : Option Bool} {dd : Option Addr} {k0 k1 k2 k3 k5 : Option Value} {newId : String}

theorem entry_unchain : entryFor table "proto.unchain" = some Builtin.«proto.unchain» := entryFor_of_tree (by kernel_rfl)
noncomputable def ExcKnown (K : Frag) (C : Addr) : Prop := ∃ nm q N bs sn sub ab col dd k0 k1 k2 k3 k5 newId, K.lookup C = some (excClassObj nm q C N bs [.type "Exception", .type "BaseException", .type "object"] true sn sub ab col dd k0 k1 k2 k3 k5 newId)
theorem raise_made {K : Frag} {C : Addr} {x : Sem Value} {Q : Flow → Shared → Prop} (XK : ExcKnown K C)
    (h : wpAny (model prog w) A x (fun v s₁ => ∃ e od vs sl, v = .ref e ∧ K.In s₁.heap ∧
      s₁.heap.get? e = some ⟨.ref C, od, .fields vs, sl⟩ ∧ vs[1]? = some .none ∧ wpAny (model prog w) A (raiseNew (.ref e) : Sem Flow) Q E s₁) E s) :
    wpAny (model prog w) A (raiseStmt env (some x) none) Q E s := by
  refine cps fun X_ k_ => ?_
  obtain ⟨nm, q', N, bs, sn, sub, ab, col, dd, k0, k1, k2, k3, k5, newId, hK⟩ := XK
  refine k_ ?_
  clear k_ X_
  have hcB : (Value.ref C :: [Value.type "Exception", .type "BaseException", .type "object"]).contains (.type "BaseException") = true := rfl
  unfold raiseStmt
  refine wpAny_bind (wpAny_mono h (fun v s₁ h₁ => ?_) fun _ _ x => x)
  refine cps fun X_ k_ => ?_
  obtain ⟨e, od, vs, sl, rfl, X, he, h1, hE⟩ := h₁
  have hC := X _ _ hK
  obtain ⟨hp, g, d, tk, os⟩ := s₁
  refine k_ ?_
  clear k_ X_
  repeat (first | with_reducible refine wpAny_field he rfl h1 ?_ | with_reducible refine wpAny_loadPart_at he ?_ | with_reducible refine wpAny_loadPart_at hC ?_ | (with_reducible refine wpAny_isSubtype_exc hC ?_; rw [hcB]) | wp_step)
  exact hE

theorem raiseNew_none {α : Type} {e : Addr} {Q : α → Shared → Prop} (hh : A.handled = none) (h : E (.ref e) s) : wpAny (model prog w) A (raiseNew (.ref e) : Sem α) Q E s := wpAny_raiseNew_none hh h

theorem raiseNew_some {α : Type} {e hx : Addr} {oh : Obj} {vh : Array Value} {oe : Obj} {ve : Array Value} {Q : α → Shared → Prop} (hh : A.handled = some (.ref hx)) (hne : hx ≠ e) (hho : s.heap.get? hx = some oh) (hhd : oh.data = .fields vh) (h2 : vh[2]? = some .none)
    (heo : s.heap.get? e = some oe) (hed : oe.data = .fields ve) (hsz : 2 < ve.size)
    (h : E (.ref e) { s with heap := s.heap.update e (Obj.mapFields (·.setIfInBounds 2 (Value.ref hx))) }) : wpAny (model prog w) A (raiseNew (.ref e) : Sem α) Q E s := by
  unfold raiseNew
  refine wpAny_bind (wpAny_handled ?_)
  rw [hh]
  dsimp only
  rw [if_pos (show (Value.ref hx != Value.ref e) = true from by simp [hne])]
  refine wpAny_bind (wpAny_holding (wpAny_runValue (codeAny_builtin entry_unchain ?_)))
  unfold Builtin.«proto.unchain»
  refine wpAny_bind (wpAny_field hho hhd h2 ?_)
  refine wpAny_pure ?_
  show wpAny _ _ _ _ _ _
  refine wpAny_bind ?_
  unfold updateField
  refine wpAny_bind (wpAny_load heo ?_)
  rw [hed]
  dsimp only
  rw [if_pos hsz]
  exact wpAny_update' heo (wpAny_throw h)

end

theorem set_same {α : Type} : ∀ {l : List α} {i : Nat} {a : α}, l[i]? = some a → l.set i a = l
  | _ :: _, 0, _, e => by simp at e; subst e; rfl
  | _ :: l, i + 1, _, e => by simp at e; simp [set_same e]
noncomputable def aRaise (C : Addr) (v : AV) : AM AF := fun σ => onRef v fun i => onExc σ i fun C' d cl fs => if C' = C ∧ fs = true then (match σ.hd with
    | none => .exc i { σ with hp := σ.hp.set i (.exc C' d cl false) }
    | some j => if j ≠ i then onExc σ j fun _ _ cl' _ => if cl' = true then .exc i { σ with hp := σ.hp.set i (.exc C' d false false) } else .stuck else .stuck) else .stuck

section
variable {G : Gd} {n : Nat} {sc : Scope} {c : Cx} {σ : AS} {ρ : List Addr} {s : Shared} {h h' : Heap} {m : Str → Option Value} {ent fent ext : List (Addr × Obj)} {C : Addr} {names : List Str}
theorem refs_raise {x : Expr} {pos : Pos} {mx : AM AV} (XK : ExcKnown G.K C) (hx : RefE G n sc x mx) : RefS G n sc (.Raise (some x) none pos) (do let v ← mx; aRaise C v) := by
  intro c σ ρ s hc R
  refine W.conv (p' := PT.bind (pt G c (eval x c.env)) fun v => fun Q E s₁ => ∃ e od vs sl, v = .ref e ∧ G.K.In s₁.heap ∧
      s₁.heap.get? e = some ⟨.ref C, od, .fields vs, sl⟩ ∧ vs[1]? = some .none ∧ wpAny G.M c.A (raiseNew (.ref e) : Sem Flow) Q E s₁) (fun Q E q => ?_) ?_
  · rw [arm_exec_Raise]
    exact wpAny_bind (wpAny_standAt (raise_made XK (wpAny_bind (wpAny_mono q (fun v s₁ h₁ => wpAny_bind (wpAny_standAt (wpAny_pure h₁))) fun _ _ z => z))))
  · refine W.bind (hx c σ ρ s hc R) fun v σ' ρ' v' h' tk hp R' rv => ?_
    refine W.onRef (p := fun v => fun Q E s₁ => ∃ e od vs sl, v = .ref e ∧ G.K.In s₁.heap ∧ s₁.heap.get? e = some ⟨.ref C, od, .fields vs, sl⟩ ∧ vs[1]? = some .none ∧ wpAny G.M c.A (raiseNew (.ref e) : Sem Flow) Q E s₁) rv fun i a ha _ => ?_
    refine W.onExc fun C' d cl fs e1 => ?_
    refine W.when fun hC => ?_
    obtain ⟨rfl, rfl⟩ := hC
    refine cps fun X_ k_ => ?_
    obtain ⟨m, ent, fent, ext, S⟩ := R'
    obtain ⟨a', ob, f1, f2, r, f3, f4, f5⟩ := S.objAt e1
    refine k_ ?_
    clear k_ X_
    rw [f1] at ha
    obtain rfl := Option.some.inj ha
    cases r with | @exc _ _ _ _ od vs sl q1 q2 q3 q4 q5 =>
    cases hd : σ'.hd with
    | none =>
      have hh := S.hd
      rw [hd] at hh
      intro Q E q
      refine ⟨a', od, vs, sl, rfl, G.X.keeps S.fr.keep, f3, q5 rfl, raiseNew_none hh ?_⟩
      have S1 := S.update (ob' := ⟨.ref C', od, .fields vs, sl⟩) (o' := .exc C' d cl false) f2 (.exc q1 q2 q3 q4 (fun e => by cases e)) S.fr (by rw [set_same f2]; exact S.nw)
      rw [hd] at S1
      refine q ρ' a' h' tk (List.prefix_refl _) ⟨m, _, fent, ext, S1⟩ f1 ⟨⟨C', d, cl, ?_⟩, _, vs, f3, rfl, q3, .inl (q5 rfl)⟩
      show (σ'.hp.set i _)[i]? = _
      rw [List.getElem?_set_self (List.getElem?_eq_some_iff.mp e1).1]
    | some j =>
      refine W.when fun hji => ?_
      refine W.onExc fun C₂ d₂ cl₂ fs₂ e2 => ?_
      refine W.when fun hcl => ?_
      subst hcl
      refine cps fun X_ k_ => ?_
      obtain ⟨b, ob₂, g1, g2, r₂, g3, g4, g5⟩ := S.objAt e2
      refine k_ ?_
      clear k_ X_
      have hh := S.hd
      rw [hd] at hh
      refine cps fun X_ k_ => ?_
      obtain ⟨b', g1', hh⟩ := hh
      refine k_ ?_
      clear k_ X_
      rw [g1] at g1'
      cases g1'
      cases r₂ with | @exc _ _ _ _ od₂ vs₂ sl₂ p1 p2 p3 p4 p5 =>
      have hne : b ≠ a' := fun q => by
        subst q
        have nd := (nodup_app S.nd).1
        rw [S.keys] at nd
        exact hji ((List.getElem?_inj (List.getElem?_eq_some_iff.mp g1).1 nd).mp (g1.trans f1.symm))
      intro Q E q
      refine ⟨a', od, vs, sl, rfl, G.X.keeps S.fr.keep, f3, q5 rfl, raiseNew_some hh hne g3 rfl (p4 rfl) f3 rfl (by omega) ?_⟩
      refine cps fun X_ k_ => ?_
      obtain ⟨pre, post, ea, eb, k1, k2⟩ := (upd_at (o' := ⟨.ref C', od, .fields (vs.setIfInBounds 2 (.ref b)), sl⟩) S.nd f2).split
      refine k_ ?_
      clear k_ X_
      have hnw := S.nw
      rw [ea] at hnw
      obtain ⟨F', N'⟩ := news_upd (o' := ⟨.ref C', od, .fields (vs.setIfInBounds 2 (.ref b)), sl⟩) (f := Obj.mapFields (·.setIfInBounds 2 (Value.ref b))) S.fr hnw k1 k2 rfl rfl
      rw [← eb] at N'
      have S1 := S.update (o' := .exc C' d false false) f2 (.exc (ext := ext) q1 q2 (by simpa using q3) (fun e => by cases e) (fun e => by cases e)) F' N'
      rw [hd] at S1
      refine q ρ' a' _ tk (List.prefix_refl _) ⟨m, _, fent, ext, S1⟩ f1 ⟨⟨C', d, false, ?_⟩, _, _, Heap.get?_update_self _ f3 rfl, rfl, by simpa using q3, .inl ?_⟩
      · show (σ'.hp.set i _)[i]? = _
        rw [List.getElem?_set_self (List.getElem?_eq_some_iff.mp e1).1]
      · rw [Array.getElem?_setIfInBounds_ne (by decide)]; exact q5 rfl
end
end Mine

open PySem PySem.W PyProof.Rows PySem.Calls
set_option Elab.async false
set_option maxRecDepth 100000
set_option maxHeartbeats 400000
set_option linter.unusedVariables false
namespace Mine

theorem noteFrame_congr {e : Value} {env env' : Env} (h : env.frame = env'.frame) : noteFrame e env = noteFrame e env' := by
  unfold noteFrame PySem.frameOf
  rw [h]

section
variable {G : Gd} {n : Nat} {sc : Scope} {c : Cx} {σ : AS} {ρ : List Addr} {s : Shared} {h h' : Heap} {m : Str → Option Value} {ent fent ext : List (Addr × Obj)} {C : Addr} {names : List Str}

/-- an entry of a trace may change -/
theorem St.touch (S : St G c σ ρ h m ent fent ext) {T : Addr} {oT : Obj} {ts : Array Value} (f : Array Value → Array Value) (hT : h.get? T = some oT) (hd : oT.data = .fields ts) (hc : TbLike oT ts) (hb : G.base.get? T = none) :
    St G c σ ρ (h.update T (Obj.mapFields f)) m ent fent ext := by
  have other : ∀ b, b ≠ T → (h.update T (Obj.mapFields f)).get? b = h.get? b := fun b hb => Heap.get?_update_other _ _ (Ne.symm hb)
  have ne : ∀ p ∈ ent ++ (fent ++ ext), p.1 ≠ T := fun p hp q => by
    have z := (S.nw p hp).1
    rw [q, hT] at z
    cases z
    rcases List.mem_append.mp hp with hp | hp
    · refine cps fun X_ k_ => ?_
      obtain ⟨i, hi⟩ := List.getElem?_of_mem hp
      have hlen := S.objs.length
      have : i < σ.hp.length := by rw [hlen]; exact (List.getElem?_eq_some_iff.mp hi).1
      obtain ⟨p', hp', r⟩ := S.objs.get (List.getElem?_eq_getElem this)
      refine k_ ?_
      clear k_ X_
      rw [hi] at hp'
      cases hp'
      exact (or_cls r).no hd hc
    · rcases List.mem_append.mp hp with hp | hp
      · refine cps fun X_ k_ => ?_
        obtain ⟨i, hi⟩ := List.getElem?_of_mem hp
        have hlen := S.frames.length
        have : i < c.frs.length := by rw [hlen]; exact (List.getElem?_eq_some_iff.mp hi).1
        obtain ⟨p', hp', r⟩ := S.frames.get (List.getElem?_eq_getElem this)
        refine k_ ?_
        clear k_ X_
        rw [hi] at hp'
        cases hp'
        refine cps fun X_ k_ => ?_
        obtain ⟨es, ep, hdd, _⟩ := r.2
        refine k_ ?_
        clear k_ X_
        rw [hd] at hdd; cases hdd
      · exact (S.ext.noTb p hp).no hd hc
  refine ⟨⟨?_, fun b o hbo => ?_, S.fr.above⟩, fun p hp => ?_, S.nd, S.loc, S.keys, S.objs, S.frames, S.ext, S.cells, S.hd⟩
  · refine cps fun X_ k_ => ?_
    obtain ⟨oL, es, ep, hL, hLd, r⟩ := S.fr.ns
    refine k_ ?_
    clear k_ X_
    refine ⟨oL, es, ep, (other _ fun q => ?_).trans hL, hLd, r⟩
    rw [q, hT] at hL; cases hL; rw [hd] at hLd; cases hLd
  · exact (other b fun q => by rw [q, hb] at hbo; cases hbo).trans (S.fr.keep b o hbo)
  · exact ⟨(other _ (ne p hp)).trans (S.nw p hp).1, (S.nw p hp).2⟩

theorem setFlight_ok {x : Nat} {e : Addr} {Q : Unit → Shared → Prop} {E : Value → Shared → Prop} {A : Around} (R : Rel G c σ ρ s.heap) (hx : ρ[x]? = some e) (hfly : Fly G σ x s.heap e) (k : ∀ h', Rel G c σ ρ h' → Q () { s with heap := h' }) : wpAny G.M A (setFlight (.ref e) none) Q E s := by
  refine cps fun X_ k_ => ?_
  obtain ⟨hfs, oe, vs, he, hd, hsz, ht⟩ := hfly
  refine k_ ?_
  clear k_ X_
  unfold setFlight
  refine cps fun X_ k_ => ?_
  rcases ht with h1 | ⟨Tb, oT, ts, h1, hT, hdT, h3, hb, hc⟩
  all_goals refine k_ ?_
  all_goals clear k_ X_
  · refine wpAny_bind (wpAny_field he hd h1 ?_)
    rw [if_neg (by decide)]
    exact wpAny_pure (k s.heap R)
  · refine wpAny_bind (wpAny_field he hd h1 ?_)
    rw [if_pos (show (Value.ref Tb != Value.none) = true from by simp)]
    refine cps fun X_ k_ => ?_
    obtain ⟨m, ent, fent, ext, S⟩ := R
    refine k_ ?_
    clear k_ X_
    refine wpAny_setField hT hdT (Array.getElem?_eq_some_iff.mp h3).1 (k _ ⟨m, ent, fent, ext, S.touch _ hT hdT hc ?_⟩)
    cases q : G.base.get? Tb with
    | none => rfl
    | some o => exact absurd (.inr (by rw [q]; simp)) hb

/-- an exception caught in its frame -/
theorem land_ok {env : Env} {outer : List Env} {L : Addr} {x : Nat} {e : Addr} {Q : Unit → Shared → Prop} {E : Value → Shared → Prop} (R : Rel G c σ ρ s.heap) (hA : c.A.frames = some (env :: outer)) (hf : env.frame = some L)
    (hl : ∀ y ∈ env :: outer, y.scope.kind ≠ .module ∧ ∃ a, y.frame = some a ∧ (a = c.L ∨ a ∈ c.frs.map (·.1))) (hx : ρ[x]? = some e) (hfly : Fly G σ x s.heap e)
    (k : ∀ h', Rel G c σ ρ h' → Fly G σ x h' e → Q () { s with heap := h' }) : wpAny G.M c.A (noteFrame (.ref e) env) (fun _ s₂ => wpAny G.M c.A (setFlight (.ref e) none) Q E s₂) E s := by
  refine cps fun X_ k_ => ?_
  obtain ⟨m, ent, fent, ext, S⟩ := R
  obtain ⟨hfs, oe, vs, he, hd, hsz, ht⟩ := hfly
  refine k_ ?_
  clear k_ X_
  have hfr' : ∀ a ∈ (env :: outer).filterMap (·.frame), a = c.L ∨ a ∈ c.frs.map (·.1) := fun a ha => by
    refine cps fun X_ k_ => ?_
    obtain ⟨y, hy, hya⟩ := List.mem_filterMap.mp ha
    obtain ⟨_, b, hb, hb'⟩ := hl y hy
    refine k_ ?_
    clear k_ X_
    rw [hya] at hb
    cases hb
    exact hb'
  refine note_at hA (S.funFrames hl) hf he hd hsz ht (.inl rfl) fun h' N => ?_
  refine cps fun X_ k_ => ?_
  obtain ⟨ent', fent', S'⟩ := S.noted hx hfs he hd hsz ht hfr' N
  obtain ⟨T, oT, ts, a1, a2, a3, a4, a5, a6, a7⟩ := N.made
  refine k_ ?_
  clear k_ X_
  have hd₁ := Obj.data_mapFields hd (·.setIfInBounds 1 (Value.ref T))
  have hT3 : 3 < ts.size := (Array.getElem?_eq_some_iff.mp a6).1
  have hTb : G.base.get? T = none := by
    cases hb : G.base.get? T with
    | none => rfl
    | some o => have := S.fr.keep _ _ hb; rw [a2] at this; cases this
  have hx1 : (vs.setIfInBounds 1 (Value.ref T))[1]? = some (.ref T) := by
    rw [Array.getElem?_setIfInBounds_self_of_lt (by omega)]
  unfold setFlight
  refine wpAny_bind (wpAny_field a1 hd₁ hx1 ?_)
  rw [if_pos (show (Value.ref T != Value.none) = true from by simp)]
  refine wpAny_setField a4 a5 hT3 (k _ ⟨m, ent', fent', ext, S'.touch _ a4 a5 a7 hTb⟩ ⟨hfs, _, _, (Heap.get?_update_other _ _ a3).trans a1, hd₁, by simpa using hsz, .inr ⟨T, _, _, hx1, Heap.get?_update_self _ a4 (Obj.isFreed_of_fields (Obj.data_mapFields a5 _)), Obj.data_mapFields a5 _, ?_, ?_, a7.set _ _⟩⟩)
  · simp [hT3]
  · rintro (q | q)
    · exact a3 q
    · exact q hTb

noncomputable def aTry (C : Addr) (nm : Str) (mb ms : AM AF) : AM AF := fun σ => match mb σ with
  | .ok f σ' => .ok f σ'
  | .exc x σ' => (match σ'.hp[x]? with
    | some (.exc C' _ _ _) => if C' = C then (match ms { σ' with loc := fun y => if y = nm then some (.ref x) else σ'.loc y, hd := some x } with
      | .ok f σ'' => .ok f { σ'' with loc := fun y => if y = nm then none else σ''.loc y, hd := σ'.hd }
      | _ => .stuck) else .stuck
    | _ => .stuck)
  | .stuck => .stuck

theorem OkCx.marked (hc : OkCx G n sc c) (v : Option Value) : OkCx G n sc (c.around (c.A.mark v)) := ⟨hc.hsc, hc.kind, hc.loc, hc.gl, hc.bu, hc.depth, hc.units, hc.frs, hc.lam⟩

theorem St.marked (S : St G c σ ρ h m ent fent ext) {x : Nat} {e : Addr} (hx : ρ[x]? = some e) : St G (c.around (c.A.mark (some (.ref e)))) { σ with hd := some x } ρ h m ent fent ext :=
  ⟨S.fr, S.nw, S.nd, S.loc, S.keys, S.objs, S.frames, S.ext, S.cells, ⟨e, hx, rfl⟩⟩

theorem refs_try {x0 : Str} {p0 : Pos} {nm : Str} {b : List Stmt} {b₀ : Stmt} {suite : List Stmt} {hpos pos : Pos} {mb ms : AM AF} (XK : ExcKnown G.K C) (hx0 : sc.names.lookup x0 = some .globalImplicit) (hg0 : nsIn G.K mainGlobals x0 = some (some (.ref C))) (hn : sc.names.lookup nm = some .local) (hb : RefB G n sc b mb) (hs : RefB G n sc (b₀ :: suite) ms) (hd0 : (x0 == ("__debug__" : Str)) = false := by decide) :
    RefS G n sc (.Try b [.ExceptHandler (some (.Name x0 p0)) (some nm) (b₀ :: suite) hpos] [] [] pos) (aTry C nm mb ms) := by
  intro c σ ρ s hc R
  have hB := hb c σ ρ s hc R
  unfold aTry
  cases hm : mb σ with
  | stuck => trivial
  | ok f σ' =>
    rw [hm] at hB
    intro Q E q
    refine wpAny_Try_except (hB _ _ fun ρ' f' h' tk hp R' rf => ?_)
    have z := q ρ' f' h' tk hp R' rf
    cases rf with
    | next => exact wpAny_execs_nil z
    | _ => exact z
  | exc x σ' =>
    rw [hm] at hB
    dsimp only
    split
    · rename_i C' d cl fs hx'
      split
      · rename_i hC
        subst hC
        split
        · rename_i f σ'' hms
          intro Q E q
          refine wpAny_Try_except (hB _ _ fun ρ' e h' tk hp R' hx hfly => ?_)
          refine cps fun X_ k_ => ?_
          obtain ⟨e0, l, hA, hfe, hlf⟩ := hc.frs
          obtain ⟨-, L, hL, -⟩ := hlf e0 (.head _)
          refine k_ ?_
          clear k_ X_
          rw [noteFrame_congr hfe]
          refine land_ok (s := up s h' tk) R' hA hL hlf hx hfly fun h₂ R₂ hfly₂ => ?_
          let c' : Cx := c.around (c.A.mark (some (.ref e)))
          have hc' : OkCx G n sc c' := hc.marked _
          refine cps fun X_ k_ => ?_
          obtain ⟨m, ent, fent, ext, S₂⟩ := R₂
          refine k_ ?_
          clear k_ X_
          have SM := S₂.marked hx
          refine wpAny_handleBy_cons (codeAny_handlers_test ?_) (by intro q; cases q)
          refine Name_function_global (A := c'.A) (env := c.env) (by rw [hc.hsc]; exact hc.kind) (by unfold Env.kindOf; rw [hc.hsc]; exact hx0) (loadGlobal_global (mg := G.mg) (by rw [hc.gl]; exact G.T.g.keeps S₂.fr.keep) (mg_of G.X G.T.g hg0) ?_) hd0
          refine cps fun X_ k_ => ?_
          obtain ⟨a₃, ob₃, g1, g2, r₃, g3, g4, g5⟩ := S₂.objAt hx'
          refine k_ ?_
          clear k_ X_
          rw [hx] at g1
          cases g1
          refine cps fun X_ k_ => ?_
          obtain ⟨nm', q', N, bs, sn, sub, ab, col, dd, k0, k1, k2, k3, k5, newId, hK⟩ := XK
          refine k_ ?_
          clear k_ X_
          have hcls : ob₃.cls = .ref C' := by cases r₃; rfl
          refine wpAny_excMatches_sub_self (G.X.keeps S₂.fr.keep _ _ hK) g3 hcls (by rfl) ?_
          dsimp only [if_true]
          refine codeAny_handlers_suite_as ?_
          refine setFlight_ok (s := { up s h' tk with heap := h₂ }) (c := c') ⟨m, ent, fent, ext, SM⟩ hx hfly₂ fun h₄ R₄ => ?_
          refine store_loc hn c' _ ρ' { up s h' tk with heap := h₄ } (.ref x) (.ref e) hc' R₄ (.ref hx) _ _ fun ρ₅ _ h₅ tk₅ hp₅ R₅ _ => ?_
          have zs := hs c' _ ρ₅ { s with heap := h₅, toks := tk₅ } hc' R₅
          rw [show ms _ = _ from hms] at zs
          refine zs _ _ fun ρ₆ f' h₆ tk₆ hp₆ R₆ rf => ?_
          refine cps fun X_ k_ => ?_
          obtain ⟨m₆, ent₆, fent₆, ext₆, S₆⟩ := R₆
          refine k_ ?_
          clear k_ X_
          refine wpAny_bind (wpAny_bindName (wpAny_storeName_local (env := c.env) (m := m₆) (by unfold Env.kindOf; rw [hc.hsc]; exact hn) (by rw [hc.loc]; exact S₆.fr.ns) (fun h₇ hn₇ hs₇ => ?_) (kind_false hc)))
          rw [hc.loc] at hn₇ hs₇
          have F₇ : Fr G.base c.L h₇ _ := S₆.fr.set hn₇ hs₇
          have N₇ : News G.base c.L h₇ _ := S₆.nw.set hs₇
          unfold unbindBehindTheSuite
          refine wpAny_onRaise (wpAny_unbindName_local (env := c.env) (m := fun y => if y = nm then some .none else m₆ y) (v := .none) (by unfold Env.kindOf; rw [hc.hsc]; exact hn) (by rw [hc.loc]; exact hn₇) (by simp) (kind_false hc) fun h₈ u hn₈ hs₈ => ?_)
          rw [hc.loc] at hn₈ hs₈
          have F₈ : Fr G.base c.L h₈ _ := F₇.set hn₈ hs₈
          have N₈ : News G.base c.L h₈ _ := N₇.set hs₈
          have hd6 := S₆.hd
          refine q ρ₆ f' h₈ _ (hp.trans (hp₅.trans hp₆)) ⟨_, ent₆, fent₆, ext₆, ⟨F₈, N₈, S₆.nd, fun y => ?_, S₆.keys, S₆.objs, S₆.frames, S₆.ext, S₆.cells, S₂.hd.mono (hp₅.trans hp₆)⟩⟩ rf
          dsimp only
          by_cases hy : y = nm
          · simp only [hy, if_true]; exact .none
          · simp only [hy, if_false]; exact S₆.loc y
        · trivial
      · trivial
    · trivial
end
end Mine

open PySem PySem.W PyProof.Rows PySem.Calls
set_option Elab.async false
set_option maxRecDepth 100000
set_option maxHeartbeats 400000
set_option linter.unusedVariables false
namespace Mine

/-- a value goes into a target -/
noncomputable def RefAs (G : Gd) (n : Nat) (sc : Scope) (t : Expr) (st : AV → AM Unit) : Prop := ∀ c σ ρ s v v', OkCx G n sc c → Rel G c σ ρ s.heap → VR ρ v v' → W G c ρ s (pt G c (assign t c.env v')) (fun _ _ _ => True) (st v σ)

noncomputable def aWhile (mt : AM Bool) (mb : AM AF) : Nat → AM AF
  | 0 => stuck
  | k + 1 => fun σ => match mt σ with
    | .ok true σ₁ => (match mb σ₁ with
      | .ok .next σ₂ => aWhile mt mb k σ₂
      | .ok .cont σ₂ => aWhile mt mb k σ₂
      | .ok .brk σ₂ => .ok .next σ₂
      | .ok (.ret v) σ₂ => .ok (.ret v) σ₂
      | _ => .stuck)
    | .ok false σ₁ => .ok .next σ₁
    | _ => .stuck
theorem aWhile_noexc (mt : AM Bool) (mb : AM AF) : ∀ (k : Nat) (σ : AS) (x : Nat) (σ' : AS), aWhile mt mb k σ ≠ .exc x σ'
  | 0, _, _, _ => by intro h; cases h
  | k + 1, σ, x, σ' => by
    intro h
    unfold aWhile at h
    split at h
    · split at h
      · exact aWhile_noexc mt mb k _ _ _ h
      · exact aWhile_noexc mt mb k _ _ _ h
      · cases h
      · cases h
      · cases h
    · cases h
    · cases h

section
variable {G : Gd} {n : Nat} {sc : Scope} {c : Cx} {σ : AS} {ρ : List Addr} {s : Shared} {h h' : Heap} {m : Str → Option Value} {ent fent ext : List (Addr × Obj)} {C : Addr} {names : List Str}

theorem refs_while {t : Expr} {b : List Stmt} {pos : Pos} {mt : AM Bool} {mb : AM AF} (K : Nat) (ht : RefT G n sc t mt) (hb : RefB G n sc b mb) : RefS G n sc (.While t b [] pos) (aWhile mt mb K) := by
  intro c σ ρ s hc R
  cases hr : aWhile mt mb K σ with
  | stuck => trivial
  | exc x σ' => exact absurd hr (aWhile_noexc _ _ _ _ _ _)
  | ok f σf =>
    intro Q E q
    refine wpAny_While ?_
    refine codeAny_whileLoop (fun k s₁ => ∃ σ₁ ρ₁ h₁ tk₁, s₁ = up s h₁ tk₁ ∧ ρ <+: ρ₁ ∧ Rel G c σ₁ ρ₁ h₁ ∧ aWhile mt mb k σ₁ = .ok f σf) ?_ K ⟨σ, ρ, s.heap, s.toks, rfl, List.prefix_refl _, R, hr⟩
    intro k s₁ h_1
    refine cps fun X_ k_ => ?_
    obtain ⟨σ₁, ρ₁, h₁, tk₁, rfl, hp₁, R₁, hr₁⟩ := h_1
    refine k_ ?_
    clear k_ X_
    cases k with
    | zero => cases hr₁
    | succ k =>
      unfold aWhile at hr₁
      have zt := ht c σ₁ ρ₁ (up s h₁ tk₁) hc R₁
      cases hmt : mt σ₁ with
      | stuck => rw [hmt] at hr₁; cases hr₁
      | exc x σ₂ => rw [hmt] at hr₁; cases hr₁
      | ok bv σ₂ =>
        rw [hmt] at hr₁ zt
        refine zt _ _ fun ρ₂ b' h₂ tk₂ hp₂ R₂ hb' => ?_
        subst hb'
        cases b' with
        | false =>
          cases hr₁
          exact wpAny_execs_nil (q ρ₂ .next h₂ tk₂ (hp₁.trans hp₂) R₂ .next)
        | true =>
          have zb := hb c σ₂ ρ₂ (up s h₂ tk₂) hc R₂
          dsimp only at hr₁
          cases hmb : mb σ₂ with
          | stuck => rw [hmb] at hr₁; cases hr₁
          | exc x σ₃ => rw [hmb] at hr₁; cases hr₁
          | ok f₁ σ₃ =>
            rw [hmb] at hr₁ zb
            refine zb _ _ fun ρ₃ f' h₃ tk₃ hp₃ R₃ rf => ?_
            cases rf with
            | next => exact ⟨k, Nat.lt_succ_self _, σ₃, ρ₃, h₃, tk₃, rfl, hp₁.trans (hp₂.trans hp₃), R₃, hr₁⟩
            | cont => exact ⟨k, Nat.lt_succ_self _, σ₃, ρ₃, h₃, tk₃, rfl, hp₁.trans (hp₂.trans hp₃), R₃, hr₁⟩
            | brk => cases hr₁; exact q ρ₃ .next h₃ tk₃ (hp₁.trans (hp₂.trans hp₃)) R₃ .next
            | ret rv => cases hr₁; exact q ρ₃ _ h₃ tk₃ (hp₁.trans (hp₂.trans hp₃)) R₃ (.ret rv)

/-- a thing kept beside: an iterator -/
noncomputable def Cx.holdIt (c : Cx) (q : Addr × Obj) : Cx := { c with its := q :: c.its }
theorem OkCx.holdIt (hc : OkCx G n sc c) (q : Addr × Obj) : OkCx G n sc (c.holdIt q) := ⟨hc.hsc, hc.kind, hc.loc, hc.gl, hc.bu, hc.depth, hc.units, hc.frs, hc.lam⟩

theorem St.keepIt (S : St G c σ ρ h m ent fent ext) {a : Addr} {o : Obj} (hl : ∀ p ∈ ent ++ (fent ++ ext), p.1 ≠ a) (ho : NotTb o) (F' : Fr G.base c.L h' m) (N' : News G.base c.L h' ((a, o) :: (ent ++ (fent ++ ext)))) :
    St G (c.holdIt (a, o)) σ ρ h' m ent fent ((a, o) :: ext) := by
  refine ⟨F', fun p hp => N' p ?_, ?_, S.loc, S.keys, S.objs.imp fun _ _ q => q.mono (List.prefix_refl _) fun _ z => List.mem_cons_of_mem _ z, S.frames, ⟨?_, ?_, ?_⟩, S.cells, S.hd⟩
  · simp only [List.mem_append, List.mem_cons] at hp ⊢
    refine cps fun X_ k_ => ?_
    rcases hp with h | h | h | h
    all_goals refine k_ ?_
    all_goals clear k_ X_
    · exact .inr (.inl h)
    · exact .inr (.inr (.inl h))
    · exact .inl h
    · exact .inr (.inr (.inr h))
  · have e : (ent ++ (fent ++ (a, o) :: ext)).map (·.1) = (ent ++ fent).map (·.1) ++ a :: ext.map (·.1) := by simp
    have nd := S.nd
    rw [e, List.perm_middle.nodup_iff, List.nodup_cons]
    have e2 : (ent ++ fent).map (·.1) ++ ext.map (·.1) = (ent ++ (fent ++ ext)).map (·.1) := by simp
    rw [e2]
    refine ⟨fun q => ?_, nd⟩
    refine cps fun X_ k_ => ?_
    obtain ⟨p, hp, e⟩ := List.mem_map.mp q
    refine k_ ?_
    clear k_ X_
    exact hl p hp e
  · intro q hq
    rcases List.mem_cons.mp hq with rfl | hq
    · refine ⟨.head _, fun q => ?_⟩
      refine cps fun X_ k_ => ?_
      obtain ⟨ps, a1, a2, a3⟩ := S.ext.tab
      refine k_ ?_
      clear k_ X_
      exact hl _ (List.mem_append_right _ (List.mem_append_right _ a1)) q.symm
    · exact ⟨List.mem_cons_of_mem _ (S.ext.its q hq).1, (S.ext.its q hq).2⟩
  · refine cps fun X_ k_ => ?_
    obtain ⟨ps, a1, a2, a3⟩ := S.ext.tab
    refine k_ ?_
    clear k_ X_
    exact ⟨ps, List.mem_cons_of_mem _ a1, a2, fun l hl cv hcv => let ⟨c', e, oc, vs, t, z1, z2⟩ := a3 l hl cv hcv; ⟨c', e, oc, vs, t, List.mem_cons_of_mem _ z1, z2⟩⟩
  · intro p hp
    rcases List.mem_cons.mp hp with rfl | hp
    · exact ho
    · exact S.ext.noTb p hp

theorem OR.codes {ext' : List (Addr × Obj)} {x : AO} {o : Obj} (codeX : ∀ c' q, CodeAt ext c' q → CodeAt ext' c' q) (r : OR G ext ρ x o) : OR G ext' ρ x o := by
  cases r with
  | list a => exact .list a
  | tuple a => exact .tuple a
  | dict a => exact .dict a
  | map a b => exact .map a b
  | range => exact .range
  | inst a => exact .inst a
  | exc a b c d f => exact .exc a b c d f
  | cell a b => exact .cell a b
  | clos a b c => exact .clos a b (codeX _ _ c)
/-- what an iterator looks like -/
noncomputable def ItLike (o : Obj) : Prop := NotTb o ∧ (∀ ps, o ≠ tabObj ps) ∧ ∀ vs q t, o.data = .fields vs → vs[1]? ≠ some (.str q t)

noncomputable def swapAt (a : Addr) (o' : Obj) (p : Addr × Obj) : Addr × Obj := if p.1 = a then (a, o') else p
theorem swapAt_key (a : Addr) (o' : Obj) (p : Addr × Obj) : (swapAt a o' p).1 = p.1 := by
  unfold swapAt; split
  · rename_i h; exact h.symm
  · rfl
theorem St.turnIt {a : Addr} {o o' : Obj} (S : St G (c.holdIt (a, o)) σ ρ h m ent fent ext) (ho : ItLike o) (ho' : ItLike o') (hs : Heap.SameBut a h h') (hg : h'.get? a = some o') (hits : ∀ q ∈ c.its, q.1 ≠ a) :
    St G (c.holdIt (a, o')) σ ρ h' m ent fent (ext.map (swapAt a o')) := by
  have hmem : (a, o) ∈ ext := (S.ext.its _ (.head _)).1
  have hnd := nodup_app S.nd
  have hnd2 := nodup_app hnd.2.1
  have only : ∀ p ∈ ext, p.1 = a → p = (a, o) := fun p hp e => by
    have z := (S.nw p (List.mem_append_right _ (List.mem_append_right _ hp))).1
    have z2 := (S.nw _ (List.mem_append_right _ (List.mem_append_right _ hmem))).1
    rw [e, z2] at z
    obtain ⟨p1, p2⟩ := p
    cases e
    cases z
    rfl
  have neE : ∀ p ∈ ent, p.1 ≠ a := fun p hp => hnd.2.2 p hp _ (List.mem_append_right _ hmem)
  have neF : ∀ p ∈ fent, p.1 ≠ a := fun p hp => hnd2.2.2 p hp _ hmem
  have za := S.nw _ (List.mem_append_right _ (List.mem_append_right _ hmem))
  have keepX : ∀ p ∈ ext, p.2 ≠ o → p ∈ ext.map (swapAt a o') := fun p hp hne => by
    refine List.mem_map.mpr ⟨p, hp, ?_⟩
    unfold swapAt
    rw [if_neg fun e => hne (by rw [only p hp e])]
  have codeX : ∀ c' q, CodeAt ext c' q → CodeAt (ext.map (swapAt a o')) c' q := fun c' q ⟨oc, vs, t, z1, z2, z3⟩ => ⟨oc, vs, t, keepX _ z1 (fun e => ho.2.2 vs q t (by rw [← e]; exact z2) z3), z2, z3⟩
  refine ⟨S.fr.change hs za.2.1 za.2.2, fun p hp => ?_, ?_, S.loc, S.keys, ?_, S.frames, ⟨?_, ?_, ?_⟩, S.cells, S.hd⟩
  · rcases List.mem_append.mp hp with hp | hp
    · have z := S.nw p (List.mem_append_left _ hp)
      exact ⟨(hs.2 _ (neE p hp)).trans z.1, z.2⟩
    · rcases List.mem_append.mp hp with hp | hp
      · have z := S.nw p (List.mem_append_right _ (List.mem_append_left _ hp))
        exact ⟨(hs.2 _ (neF p hp)).trans z.1, z.2⟩
      · refine cps fun X_ k_ => ?_
        obtain ⟨p', hp', rfl⟩ := List.mem_map.mp hp
        refine k_ ?_
        clear k_ X_
        have z := S.nw p' (List.mem_append_right _ (List.mem_append_right _ hp'))
        unfold swapAt
        split
        · exact ⟨hg, za.2⟩
        · rename_i hne
          exact ⟨(hs.2 _ hne).trans z.1, z.2⟩
  · have e : (ent ++ (fent ++ ext.map (swapAt a o'))).map (·.1) = (ent ++ (fent ++ ext)).map (·.1) := by
      simp only [List.map_append, List.map_map]
      congr 2
      exact List.map_congr_left fun p hp => swapAt_key a o' p
    rw [e]; exact S.nd
  · exact S.objs.imp fun x p r => r.codes codeX
  · intro q hq
    rcases List.mem_cons.mp hq with rfl | hq
    · exact ⟨List.mem_map.mpr ⟨_, hmem, by unfold swapAt; rw [if_pos rfl]⟩, (S.ext.its _ (.head _)).2⟩
    · exact ⟨List.mem_map.mpr ⟨q, (S.ext.its q (List.mem_cons_of_mem _ hq)).1, by unfold swapAt; rw [if_neg (hits q hq)]⟩, (S.ext.its q (List.mem_cons_of_mem _ hq)).2⟩
  · refine cps fun X_ k_ => ?_
    obtain ⟨ps, a1, a2, a3⟩ := S.ext.tab
    refine k_ ?_
    clear k_ X_
    exact ⟨ps, keepX _ a1 (fun e => ho.2.1 ps e.symm), a2, fun l hl cv hcv => let ⟨c', e, z⟩ := a3 l hl cv hcv; ⟨c', e, codeX _ _ z⟩⟩
  · intro p hp
    refine cps fun X_ k_ => ?_
    obtain ⟨p', hp', rfl⟩ := List.mem_map.mp hp
    refine k_ ?_
    clear k_ X_
    unfold swapAt
    split
    · exact ho'.1
    · exact S.ext.noTb p' hp'
/-- the iterator is let go -/
theorem St.dropIt {a : Addr} {o : Obj} (S : St G (c.holdIt (a, o)) σ ρ h m ent fent ext) (ho : ItLike o) (hs : Heap.ExtBut a h h') (hits : ∀ q ∈ c.its, q.1 ≠ a) : St G c σ ρ h' m ent fent (ext.filter fun p => decide (p.1 ≠ a)) := by
  have hmem : (a, o) ∈ ext := (S.ext.its _ (.head _)).1
  have hnd := nodup_app S.nd
  have hnd2 := nodup_app hnd.2.1
  have only : ∀ p ∈ ext, p.1 = a → p = (a, o) := fun p hp e => by
    have z := (S.nw p (List.mem_append_right _ (List.mem_append_right _ hp))).1
    have z2 := (S.nw _ (List.mem_append_right _ (List.mem_append_right _ hmem))).1
    rw [e, z2] at z
    obtain ⟨p1, p2⟩ := p
    cases e
    cases z
    rfl
  have neE : ∀ p ∈ ent, p.1 ≠ a := fun p hp => hnd.2.2 p hp _ (List.mem_append_right _ hmem)
  have neF : ∀ p ∈ fent, p.1 ≠ a := fun p hp => hnd2.2.2 p hp _ hmem
  have za := S.nw _ (List.mem_append_right _ (List.mem_append_right _ hmem))
  have keepX : ∀ p ∈ ext, p.2 ≠ o → p ∈ ext.filter fun p => decide (p.1 ≠ a) := fun p hp hne => List.mem_filter.mpr ⟨hp, by simp only [decide_eq_true_eq]; exact fun e => hne (by rw [only p hp e])⟩
  have codeX : ∀ c' q, CodeAt ext c' q → CodeAt (ext.filter fun p => decide (p.1 ≠ a)) c' q := fun c' q ⟨oc, vs, t, z1, z2, z3⟩ => ⟨oc, vs, t, keepX _ z1 (fun e => ho.2.2 vs q t (by rw [← e]; exact z2) z3), z2, z3⟩
  refine ⟨⟨S.fr.ns.at' fun o e => hs _ o (fun q => ?_) e, fun b o hb => hs b o (fun q => ?_) (S.fr.keep b o hb), S.fr.above⟩, fun p hp => ?_, ?_, S.loc, S.keys, ?_, S.frames, ⟨?_, ?_, ?_⟩, S.cells, S.hd⟩
  · exact za.2.1 q.symm
  · rw [q, za.2.2] at hb; cases hb
  · have hp' : p ∈ ent ++ (fent ++ ext) ∧ p.1 ≠ a := by
      rcases List.mem_append.mp hp with hp | hp
      · exact ⟨List.mem_append_left _ hp, neE p hp⟩
      · rcases List.mem_append.mp hp with hp | hp
        · exact ⟨List.mem_append_right _ (List.mem_append_left _ hp), neF p hp⟩
        · obtain ⟨h1, h2⟩ := List.mem_filter.mp hp
          exact ⟨List.mem_append_right _ (List.mem_append_right _ h1), by simpa using h2⟩
    have z := S.nw p hp'.1
    exact ⟨hs _ _ hp'.2 z.1, z.2⟩
  · refine List.Sublist.nodup ?_ S.nd
    exact ((List.Sublist.refl _).append ((List.Sublist.refl _).append List.filter_sublist)).map _
  · exact S.objs.imp fun x p r => r.codes codeX
  · intro q hq
    exact ⟨List.mem_filter.mpr ⟨(S.ext.its q (List.mem_cons_of_mem _ hq)).1, by simpa using hits q hq⟩, (S.ext.its q (List.mem_cons_of_mem _ hq)).2⟩
  · refine cps fun X_ k_ => ?_
    obtain ⟨ps, a1, a2, a3⟩ := S.ext.tab
    refine k_ ?_
    clear k_ X_
    exact ⟨ps, keepX _ a1 (fun e => ho.2.1 ps e.symm), a2, fun l hl cv hcv => let ⟨c', e, z⟩ := a3 l hl cv hcv; ⟨c', e, codeX _ _ z⟩⟩
  · exact fun p hp => S.ext.noTb p (List.mem_filter.mp hp).1
end
end Mine

open PySem PySem.W PyProof.Rows PySem.Calls
set_option Elab.async false
set_option maxRecDepth 100000
set_option maxHeartbeats 400000
set_option linter.unusedVariables false
namespace Mine

noncomputable def aForL (st : AV → AM Unit) (mb : AM AF) (r : Nat) : Nat → Nat → AM AF
  | 0, _ => stuck
  | k + 1, i => fun σ => match σ.hp[r]? with
    | some (.list xs) => (match xs[i]? with
      | some v => (match st v σ with
        | .ok _ σ₁ => (match mb σ₁ with
          | .ok .next σ₂ => aForL st mb r k (i + 1) σ₂
          | .ok .cont σ₂ => aForL st mb r k (i + 1) σ₂
          | .ok .brk σ₂ => .ok .next σ₂
          | .ok (.ret v) σ₂ => .ok (.ret v) σ₂
          | _ => .stuck)
        | _ => .stuck)
      | none => if σ.hd = none then .ok .next σ else .stuck)
    | _ => .stuck
noncomputable def aForR (st : AV → AM Unit) (mb : AM AF) : Nat → Int → AM AF
  | 0, _ => fun σ => if σ.hd = none then .ok .next σ else .stuck
  | k + 1, x => fun σ => match st (.int x) σ with
    | .ok _ σ₁ => (match mb σ₁ with
      | .ok .next σ₂ => aForR st mb k (x + 1) σ₂
      | .ok .cont σ₂ => aForR st mb k (x + 1) σ₂
      | .ok .brk σ₂ => .ok .next σ₂
      | .ok (.ret v) σ₂ => .ok (.ret v) σ₂
      | _ => .stuck)
    | _ => .stuck
noncomputable def aFor (st : AV → AM Unit) (mb : AM AF) (v : AV) : AM AF := fun σ => match v with
  | .ref r => (match σ.hp[r]? with
    | some (.list xs) => aForL st mb r (xs.length + 1) 0 σ
    | some (.range n) => if small n then aForR st mb n.toNat 0 σ else .stuck
    | _ => .stuck)
  | _ => .stuck

theorem aForL_noexc (st : AV → AM Unit) (mb : AM AF) (r : Nat) : ∀ (k i : Nat) (σ : AS) (x : Nat) (σ' : AS), aForL st mb r k i σ ≠ .exc x σ'
  | 0, _, _, _, _ => by intro h; cases h
  | k + 1, i, σ, x, σ' => by
    intro h
    unfold aForL at h
    split at h
    · split at h
      · split at h
        · split at h
          · exact aForL_noexc st mb r k _ _ _ _ h
          · exact aForL_noexc st mb r k _ _ _ _ h
          · cases h
          · cases h
          · cases h
        · cases h
      · split at h <;> cases h
    · cases h
theorem aForR_noexc (st : AV → AM Unit) (mb : AM AF) : ∀ (k : Nat) (i : Int) (σ : AS) (x : Nat) (σ' : AS), aForR st mb k i σ ≠ .exc x σ'
  | 0, _, _, _, _ => by intro h; unfold aForR at h; split at h <;> cases h
  | k + 1, i, σ, x, σ' => by
    intro h
    unfold aForR at h
    split at h
    · split at h
      · exact aForR_noexc st mb k _ _ _ _ h
      · exact aForR_noexc st mb k _ _ _ _ h
      · cases h
      · cases h
      · cases h
    · cases h

section
variable {G : Gd} {n : Nat} {sc : Scope} {c : Cx} {σ : AS} {ρ : List Addr} {s : Shared} {h h' : Heap} {m : Str → Option Value} {ent fent ext : List (Addr × Obj)} {C : Addr} {names : List Str}

theorem refas_name {x : Str} {px : Pos} {st : AV → AM Unit} (hs : RefN G n sc x st) : RefAs G n sc (.Name x px) st := fun c σ ρ s v v' hc R rv => W.conv (fun Q E q => wpAny_assign_Name q) (hs c σ ρ s v v' hc R rv)

theorem like_list {l : Addr} {i : Nat} {o : Obj} (h1 : o.cls = .type "list_iterator") (h2 : o.data = .fields #[.ref l, .int i 0]) : ItLike o :=
  ⟨.inl (by rw [h1]; intro q; injection q with q; revert q; decide), fun ps q => (by rw [q] at h1; cases h1), fun vs q t e => by rw [h2] at e; cases e; intro z; simp at z⟩
theorem like_range {a b d : Int} : ItLike { cls := .type "range_iterator", data := .fields #[rawInt a, rawInt b, rawInt d] } :=
  ⟨.inl (by intro q; injection q with q; revert q; decide), fun ps q => (by injection q with q; cases q), fun vs q t e => by cases e; intro z; simp [rawInt] at z⟩

theorem rel_dropIt {a : Addr} {o : Obj} (R : Rel G (c.holdIt (a, o)) σ ρ h) (ho : ItLike o) (hs : Heap.ExtBut a h h') (hits : ∀ q ∈ c.its, q.1 ≠ a) : Rel G c σ ρ h' := by
  refine cps fun X_ k_ => ?_
  obtain ⟨m, ent, fent, ext, S⟩ := R
  refine k_ ?_
  clear k_ X_
  exact ⟨m, _, _, _, S.dropIt ho hs hits⟩

theorem loop_list {t : Expr} {b : List Stmt} {st : AV → AM Unit} {mb : AM AF} {r : Nat} (hst : RefAs G n sc t st) (hb : RefB G n sc b mb) (hc : OkCx G n sc c) {f : AF} {σf : AS} {Q : Flow → Shared → Prop} {E : Value → Shared → Prop} {Er : Value → Shared → Prop} {it l : Addr}
    (hits : ∀ q ∈ c.its, q.1 ≠ it) (hl : ρ[r]? = some l) (hto : ∀ (o : Obj), o.cls = .type "list_iterator" → ∀ v (M : Model) (A : Around) Q E (s : Shared), s.heap.get? it = some o → Q () s → wpAny M A (letOwnedTupleGo t (.ref it) v) Q E s)
    (q : ∀ ρ' f' h' tk, ρ <+: ρ' → Rel G c σf ρ' h' → RF ρ' f f' → Q f' (up s h' tk)) :
    ∀ k i σ₀ o, aForL st mb r k i σ₀ = .ok f σf → o.cls = .type "list_iterator" → o.data = .fields #[.ref l, .int i 0] → Rel G (c.holdIt (it, o)) σ₀ ρ s.heap →
      codeAny G.M c.A (.forLoop t (.ref it) b [] c.env) (fun r s' => match r with | .ok f => Q f s' | .error e => Er e s') s := by
  intro k i σ₀ o hr ho1 ho2 R
  refine codeAny_forLoop_any (fun k s₁ => ∃ σ₁ ρ₁ h₁ tk₁ i₁ o₁, s₁ = up s h₁ tk₁ ∧ ρ <+: ρ₁ ∧ o₁.cls = .type "list_iterator" ∧ o₁.data = .fields #[.ref l, .int (i₁ : Nat) 0] ∧ Rel G (c.holdIt (it, o₁)) σ₁ ρ₁ h₁ ∧ aForL st mb r k i₁ σ₁ = .ok f σf) ?_ k
    ⟨σ₀, ρ, s.heap, s.toks, i, o, rfl, List.prefix_refl _, ho1, ho2, R, hr⟩
  intro k s₁ h_1
  refine cps fun X_ k_ => ?_
  obtain ⟨σ₁, ρ₁, h₁, tk₁, i₁, o₁, rfl, hp₁, hc₁, hd₁, R₁, hr₁⟩ := h_1
  refine k_ ?_
  clear k_ X_
  cases k with
  | zero => cases hr₁
  | succ k =>
    unfold aForL at hr₁
    refine cps fun X_ k_ => ?_
    obtain ⟨m, ent, fent, ext, S⟩ := R₁
    refine k_ ?_
    clear k_ X_
    have hio : h₁.get? it = some o₁ := (S.nw _ (List.mem_append_right _ (List.mem_append_right _ (S.ext.its _ (.head _)).1))).1
    have hit : h₁.IsListIter it l i₁ := ⟨o₁, hio, hc₁, hd₁⟩
    split at hr₁
    · rename_i xs hxs
      refine cps fun X_ k_ => ?_
      obtain ⟨a, vs, kk, ha, hv, e2, e3⟩ := S.list hxs (.ref (pre_get hp₁ hl))
      refine k_ ?_
      clear k_ X_
      cases ha
      have hIL : h₁.IsList l vs.toArray := ⟨_, e3, rfl, _, rfl⟩
      split at hr₁
      · rename_i v hxv
        refine cps fun X_ k_ => ?_
        obtain ⟨v', hv', rv⟩ := hv.get hxv
        refine k_ ?_
        clear k_ X_
        refine wpAny_pyNext_list_item (s := up s h₁ tk₁) hit hIL (by rw [toArr]; exact hv') fun h₂ hit₂ hs₂ => ?_
        refine cps fun X_ k_ => ?_
        obtain ⟨o₂, ho₂, hc₂, hd₂⟩ := hit₂
        refine k_ ?_
        clear k_ X_
        have S₂ := S.turnIt (like_list hc₁ hd₁) (like_list hc₂ hd₂) hs₂ ho₂ hits
        have hc2 : OkCx G n sc (c.holdIt (it, o₂)) := hc.holdIt _
        refine hto o₂ hc₂ _ _ _ _ _ _ ho₂ ?_
        have z1 := hst (c.holdIt (it, o₂)) σ₁ ρ₁ (up s h₂ tk₁) v v' hc2 ⟨_, _, _, _, S₂⟩ rv
        cases hsv : st v σ₁ with
        | stuck => rw [hsv] at hr₁; cases hr₁
        | exc x σ₃ => rw [hsv] at hr₁; cases hr₁
        | ok u σ₃ =>
          rw [hsv] at hr₁ z1
          refine z1 _ _ fun ρ₃ _ h₃ tk₃ hp₃ R₃ _ => ?_
          have zb := hb (c.holdIt (it, o₂)) σ₃ ρ₃ (up s h₃ tk₃) hc2 R₃
          dsimp only at hr₁
          cases hmb : mb σ₃ with
          | stuck => rw [hmb] at hr₁; cases hr₁
          | exc x σ₄ => rw [hmb] at hr₁; cases hr₁
          | ok f₁ σ₄ =>
            rw [hmb] at hr₁ zb
            refine zb _ _ fun ρ₄ f' h₄ tk₄ hp₄ R₄ rf => ?_
            have hpp := hp₁.trans (hp₃.trans hp₄)
            cases rf with
            | next => exact ⟨k, Nat.lt_succ_self _, σ₄, ρ₄, h₄, tk₄, i₁ + 1, o₂, rfl, hpp, hc₂, hd₂, R₄, hr₁⟩
            | cont => exact ⟨k, Nat.lt_succ_self _, σ₄, ρ₄, h₄, tk₄, i₁ + 1, o₂, rfl, hpp, hc₂, hd₂, R₄, hr₁⟩
            | brk => cases hr₁; exact q ρ₄ .next h₄ tk₄ hpp (rel_dropIt R₄ (like_list hc₂ hd₂) (fun _ _ _ e => e) hits) .next
            | ret rv => cases hr₁; exact q ρ₄ _ h₄ tk₄ hpp (rel_dropIt R₄ (like_list hc₂ hd₂) (fun _ _ _ e => e) hits) (.ret rv)
      · rename_i hxv
        split at hr₁
        · rename_i hhd
          cases hr₁
          have hh := S.hd
          rw [hhd] at hh
          have hlen := hv.length
          refine wpAny_pyNext_list_end (s := up s h₁ tk₁) hh hit hIL (by rw [toArr, List.getElem?_eq_none_iff, ← hlen]; exact List.getElem?_eq_none_iff.mp hxv) fun h₂ hs₂ => ?_
          exact wpAny_execs_nil (q ρ₁ .next h₂ tk₁ hp₁ (rel_dropIt ⟨_, _, _, _, S⟩ (like_list hc₁ hd₁) hs₂ hits) .next)
        · cases hr₁
    · cases hr₁

theorem loop_range {t : Expr} {b : List Stmt} {st : AV → AM Unit} {mb : AM AF} (hst : RefAs G n sc t st) (hb : RefB G n sc b mb) (hc : OkCx G n sc c) {f : AF} {σf : AS} {Q : Flow → Shared → Prop} {E : Value → Shared → Prop} {Er : Value → Shared → Prop} {it : Addr}
    (hits : ∀ q ∈ c.its, q.1 ≠ it) (hto : ∀ v, letOwnedTupleGo t (.ref it) v = pure ())
    (q : ∀ ρ' f' h' tk, ρ <+: ρ' → Rel G c σf ρ' h' → RF ρ' f f' → Q f' (up s h' tk)) :
    ∀ k (i : Int) σ₀, aForR st mb k i σ₀ = .ok f σf → Rel G (c.holdIt (it, { cls := .type "range_iterator", data := .fields #[rawInt i, rawInt (k : Nat), rawInt 1] })) σ₀ ρ s.heap →
      codeAny G.M c.A (.forLoop t (.ref it) b [] c.env) (fun r s' => match r with | .ok f => Q f s' | .error e => Er e s') s := by
  intro k i σ₀ hr R
  refine codeAny_forLoop_any (fun k s₁ => ∃ σ₁ ρ₁ h₁ tk₁ i₁ k₀, k = k₀ + 1 ∧ s₁ = up s h₁ tk₁ ∧ ρ <+: ρ₁ ∧ Rel G (c.holdIt (it, { cls := .type "range_iterator", data := .fields #[rawInt i₁, rawInt (k₀ : Nat), rawInt 1] })) σ₁ ρ₁ h₁ ∧ aForR st mb k₀ i₁ σ₁ = .ok f σf) ?_ (k + 1)
    ⟨σ₀, ρ, s.heap, s.toks, i, k, rfl, rfl, List.prefix_refl _, R, hr⟩
  intro _ s₁ h_2
  refine cps fun X_ k_ => ?_
  obtain ⟨σ₁, ρ₁, h₁, tk₁, i₁, k, rfl, rfl, hp₁, R₁, hr₁⟩ := h_2
  refine k_ ?_
  clear k_ X_
  refine cps fun X_ k_ => ?_
  obtain ⟨m, ent, fent, ext, S⟩ := R₁
  refine k_ ?_
  clear k_ X_
  have hit : IsRangeIter h₁ it i₁ (k : Nat) 1 := (S.nw _ (List.mem_append_right _ (List.mem_append_right _ (S.ext.its _ (.head _)).1))).1
  cases k with
  | zero =>
    unfold aForR at hr₁
    split at hr₁
    · rename_i hhd
      cases hr₁
      have hh := S.hd
      rw [hhd] at hh
      refine wpAny_pyNext_range_end (s := up s h₁ tk₁) hh hit (by simp) fun h₂ hs₂ => ?_
      exact wpAny_execs_nil (q ρ₁ .next h₂ tk₁ hp₁ (rel_dropIt ⟨_, _, _, _, S⟩ like_range hs₂ hits) .next)
    · cases hr₁
  | succ k =>
    unfold aForR at hr₁
    refine wpAny_pyNext_range_item (s := up s h₁ tk₁) hit (by omega) fun h₂ hit₂ hs₂ => ?_
    have hit₂' : h₂.get? it = some { cls := .type "range_iterator", data := .fields #[rawInt (i₁ + 1), rawInt (k : Nat), rawInt 1] } := by
      have e : (((k + 1 : Nat) : Int) - 1) = (k : Nat) := by omega
      rw [e] at hit₂
      exact hit₂
    have S₂ := S.turnIt like_range like_range hs₂ hit₂' hits
    have hc2 : OkCx G n sc (c.holdIt (it, { cls := .type "range_iterator", data := .fields #[rawInt (i₁ + 1), rawInt (k : Nat), rawInt 1] })) := hc.holdIt _
    refine wpAny_of_eq (hto _) ?_
    have z1 := hst _ σ₁ ρ₁ (up s h₂ (tk₁ + 1)) (.int i₁) (.int i₁ tk₁) hc2 ⟨_, _, _, _, S₂⟩ (.int _ _)
    cases hsv : st (.int i₁) σ₁ with
    | stuck => rw [hsv] at hr₁; cases hr₁
    | exc x σ₃ => rw [hsv] at hr₁; cases hr₁
    | ok u σ₃ =>
      rw [hsv] at hr₁ z1
      refine z1 _ _ fun ρ₃ _ h₃ tk₃ hp₃ R₃ _ => ?_
      have zb := hb _ σ₃ ρ₃ (up s h₃ tk₃) hc2 R₃
      dsimp only at hr₁
      cases hmb : mb σ₃ with
      | stuck => rw [hmb] at hr₁; cases hr₁
      | exc x σ₄ => rw [hmb] at hr₁; cases hr₁
      | ok f₁ σ₄ =>
        rw [hmb] at hr₁ zb
        refine zb _ _ fun ρ₄ f' h₄ tk₄ hp₄ R₄ rf => ?_
        have hpp := hp₁.trans (hp₃.trans hp₄)
        cases rf with
        | next => exact ⟨k + 1, Nat.lt_succ_self _, σ₄, ρ₄, h₄, tk₄, i₁ + 1, k, rfl, rfl, hpp, R₄, hr₁⟩
        | cont => exact ⟨k + 1, Nat.lt_succ_self _, σ₄, ρ₄, h₄, tk₄, i₁ + 1, k, rfl, rfl, hpp, R₄, hr₁⟩
        | brk => cases hr₁; exact q ρ₄ .next h₄ tk₄ hpp (rel_dropIt R₄ like_range (fun _ _ _ e => e) hits) .next
        | ret rv => cases hr₁; exact q ρ₄ _ h₄ tk₄ hpp (rel_dropIt R₄ like_range (fun _ _ _ e => e) hits) (.ret rv)

theorem for_ok {t : Expr} {b : List Stmt} {st : AV → AM Unit} {mb : AM AF} {v : AV} {v' : Value} (hst : RefAs G n sc t st) (hb : RefB G n sc b mb) (hc : OkCx G n sc c) (R : Rel G c σ ρ s.heap) (rv : VR ρ v v')
    (hto : ∀ it v (o : Obj) (M : Model) (A : Around) Q E (s : Shared), (o.cls = .type "list_iterator" ∨ o.cls = .type "range_iterator") → s.heap.get? it = some o → Q () s → wpAny M A (letOwnedTupleGo t (.ref it) v) Q E s) (htr : (∃ x p, t = .Name x p) ∨ ∀ (r : Nat) (n : Int), v ≠ .ref r ∨ σ.hp[r]? ≠ some (AO.range n)) :
    W G c ρ s (fun Q E s => wpAny G.M c.A (pyIter v') (fun it s₂ => codeAny G.M c.A (.forLoop t it b [] c.env) (fun r s' => match r with | .ok f => Q f s' | .error e => cameBackBy G.M c.A c.env E e s') s₂) E s) RF (aFor st mb v σ) := by
  cases hr : aFor st mb v σ with
  | stuck => trivial
  | exc x σ' =>
    exfalso
    unfold aFor at hr
    split at hr
    · split at hr
      · exact aForL_noexc _ _ _ _ _ _ _ _ hr
      · split at hr
        · exact aForR_noexc _ _ _ _ _ _ _ hr
        · cases hr
      · cases hr
    · cases hr
  | ok f σf =>
    intro Q E q
    refine cps fun X_ k_ => ?_
    obtain ⟨m, ent, fent, ext, S⟩ := R
    refine k_ ?_
    clear k_ X_
    unfold aFor at hr
    have fresh : ∀ p ∈ ent ++ (fent ++ ext), p.1 ≠ s.heap.objs.size := fun p hp => Nat.ne_of_lt (Heap.lt_size (S.nw p hp).1)
    have hits : ∀ q ∈ c.its, q.1 ≠ s.heap.objs.size := fun q hq => fresh q (List.mem_append_right _ (List.mem_append_right _ (S.ext.its q hq).1))
    split at hr
    · rename_i r
      split at hr
      · rename_i xs hxs
        refine cps fun X_ k_ => ?_
        obtain ⟨a, vs, kk, ha, hv, e2, e3⟩ := S.list hxs rv
        refine k_ ?_
        clear k_ X_
        subst ha
        cases rv with | ref hl =>
        refine wpAny_pyIter_list (items := vs.toArray) ⟨_, e3, rfl, _, rfl⟩ ?_
        have S1 := S.keepIt (o := { cls := .type "list_iterator", data := .fields #[.ref a, .int 0 0] }) fresh (like_list (l := a) (i := 0) rfl rfl).1 (S.fr.push _) (S.nw.push S.fr _)
        exact loop_list (E := E) (σf := σf) (f := f) hst hb hc hits hl (fun o ho v M A Q E s hs hq => hto _ v o M A Q E s (.inl ho) hs hq) (fun ρ' f' h' tk hp R' rf => q ρ' f' h' tk hp R' rf) _ 0 _ _ hr rfl rfl ⟨_, _, _, _, S1⟩
      · rename_i nn hxs
        split at hr
        · rename_i hsm
          refine cps fun X_ k_ => ?_
          obtain ⟨a, ob, e1, e2, r', e3, e4, e5⟩ := S.objAt hxs
          refine k_ ?_
          clear k_ X_
          cases rv with | ref hl =>
          rw [e1] at hl
          cases hl
          cases r' with | @range n0 t0 u0 v0 =>
          have hsmall := small_log hsm
          have hsm' : Builtin.Range.small 0 nn 1 = true := PySem.small_one (by decide) (by decide) (by omega) (by omega)
          refine wpAny_pyIter_range (r := a) (a := 0) (b := nn) (c := 1) e3 hsm' ?_
          have hsz : Builtin.Range.rangeSize 0 nn 1 = (nn.toNat : Int) := by rw [rangeSize_one]; split <;> omega
          rw [hsz]
          have S1 := S.keepIt (o := { cls := .type "range_iterator", data := .fields #[rawInt 0, rawInt (nn.toNat : Nat), rawInt 1] }) fresh like_range.1 (S.fr.push _) (S.nw.push S.fr _)
          refine cps fun X_ k_ => ?_
          rcases htr with ⟨x, p, rfl⟩ | hno
          all_goals refine k_ ?_
          all_goals clear k_ X_
          · exact loop_range (E := E) (σf := σf) (f := f) hst hb hc hits (fun v => rfl) (fun ρ' f' h' tk hp R' rf => q ρ' f' h' tk hp R' rf) _ 0 _ hr ⟨_, _, _, _, S1⟩
          · rcases hno r nn with h | h
            · exact absurd rfl h
            · exact absurd hxs h
        · cases hr
      · cases hr
    · cases hr

theorem refs_for {x : Str} {px : Pos} {it : Expr} {b : List Stmt} {pos : Pos} {st : AV → AM Unit} {mb : AM AF} {mi : AM AV} (hi : RefE G n sc it mi) (hst : RefN G n sc x st) (hb : RefB G n sc b mb) (hs : ∀ env x, foldedSetIterable it env x = pure x := by intros; rfl) :
    RefS G n sc (.For (.Name x px) it b [] pos) (do let v ← mi; aFor st mb v) := by
  intro c σ ρ s hc R
  refine W.conv (p' := PT.bind (pt G c (eval it c.env)) fun x' => fun Q E s => wpAny G.M c.A (pyIter x') (fun it s₂ => codeAny G.M c.A (.forLoop (.Name x px) it b [] c.env) (fun r s' => match r with | .ok f => Q f s' | .error e => cameBackBy G.M c.A c.env E e s') s₂) E s) (fun Q E q => wpAny_For q (hs _)) ?_
  exact W.bind (hi c σ ρ s hc R) fun v σ' ρ' v' h' tk hp R' rv => for_ok (refas_name hst) hb hc R' rv (fun it v o M A Q E s _ _ hq => wpAny_pure hq) (.inl ⟨_, _, rfl⟩)
end
end Mine

open PySem PySem.W PyProof.Rows PySem.Calls
set_option Elab.async false
set_option maxRecDepth 100000
set_option maxHeartbeats 400000
set_option linter.unusedVariables false
namespace Mine

/-- what is being handled was raised when nothing was being handled -/
noncomputable def HdClean (A : Around) (h : Heap) : Prop := A.handled = none ∨ ∃ hx oh vh, A.handled = some (.ref hx) ∧ h.get? hx = some oh ∧ oh.data = .fields vh ∧ vh[2]? = some .none

section
variable {prog : Program} {w : World} {A : Around} {E : Value → Shared → Prop} {s : Shared}
theorem HdClean.ext {h h' : Heap} {a : Addr} (x : HdClean A h) (hs : Heap.ExtBut a h h') (hne : ∀ hx, A.handled = some (.ref hx) → hx ≠ a) : HdClean A h' := by
  refine cps fun X_ k_ => ?_
  rcases x with x | ⟨hx, oh, vh, e, e1, e2, e3⟩
  all_goals refine k_ ?_
  all_goals clear k_ X_
  · exact .inl x
  · exact .inr ⟨hx, oh, vh, e, hs _ _ (hne hx e) e1, e2, e3⟩

theorem stop_raised {α : Type} {Q : α → Shared → Prop} (hcl : HdClean A s.heap) {o1 o2 : Obj} {ve : Array Value} (hd2 : o2.data = .fields ve) (hsz : 2 < ve.size)
    (h : ∀ h', (∀ b o, s.heap.get? b = some o → h'.get? b = some o) → (∃ o, h'.get? (s.heap.objs.size + 1) = some o ∧ o.cls = o2.cls) → E (.ref (s.heap.objs.size + 1)) { s with heap := h' }) :
    wpAny (model prog w) A (raiseNew (.ref (s.heap.objs.size + 1)) : Sem α) Q E { s with heap := (s.heap.push o1).push o2 } := by
  have hk : ∀ b o, s.heap.get? b = some o → ((s.heap.push o1).push o2).get? b = some o := fun b o e => Heap.get?_push_of_some _ (Heap.get?_push_of_some _ e)
  have hnew : ((s.heap.push o1).push o2).get? (s.heap.objs.size + 1) = some o2 := by
    have := Heap.get?_push_size (s.heap.push o1) (o := o2) (Obj.isFreed_of_fields hd2)
    rwa [Heap.size_push] at this
  refine cps fun X_ k_ => ?_
  rcases hcl with hh | ⟨hx, oh, vh, hh, e1, e2, e3⟩
  all_goals refine k_ ?_
  all_goals clear k_ X_
  · exact wpAny_raiseNew_none hh (h _ hk ⟨o2, hnew, rfl⟩)
  · have hlt := Heap.lt_size e1
    refine raiseNew_some hh (Nat.ne_of_lt (Nat.lt_succ_of_lt hlt)) (hk _ _ e1) e2 e3 hnew hd2 hsz (h _ (fun b o e => ?_) ⟨_, Heap.get?_update_self _ hnew (Obj.isFreed_of_fields (Obj.data_mapFields hd2 _)), Obj.cls_mapFields ..⟩)
    have := Heap.lt_size e
    exact (Heap.get?_update_other _ _ (Nat.ne_of_gt (Nat.lt_succ_of_lt this))).trans (hk b o e)

theorem tuple_end {it t : Addr} {i : Nat} {items : Array Value} {Q : Option Value → Shared → Prop} (hcl : HdClean A s.heap) (hne : ∀ hx, A.handled = some (.ref hx) → hx ≠ it)
    (hit : s.heap.IsTupleIter it t i) (ht : s.heap.IsTuple t items) (hx : items[i]? = none)
    (hQ : ∀ h', Heap.ExtBut it s.heap h' → Q none { s with heap := h' }) : wpAny (model prog w) A (pyNext (.ref it)) Q E s := by
  refine cps fun X_ k_ => ?_
  obtain ⟨o, ho, hc, hd⟩ := id hit
  obtain ⟨ol, hol, _, nl, hdl⟩ := ht
  refine k_ ?_
  clear k_ X_
  unfold pyNext
  refine wpAny_bind (wpAny_attempt (wpAny_callSpecial?_slot (name := Str.ofString "__next__") hit.typeIs F.slot_tuple_iterator_next
    (wpAny_call_entry F.slot_tuple_iterator_next hit.typeIs F.entry_tuple_iterator_next ?_ (F.args_tuple_iterator_next_1 _))))
  show wpAny _ _ (field (.ref it) 0 >>= _) _ _ s
  refine wpAny_bind (wpAny_field ho hd (x := .ref t) rfl ?_)
  show wpAny _ _ (if (Value.ref t == Value.none) = true then _ else _) _ _ s
  rw [if_neg (show ¬ ((Value.ref t == Value.none) = true) from Bool.false_ne_true)]
  show wpAny _ _ (field (.ref it) 1 >>= _) _ _ s
  refine wpAny_bind (wpAny_field ho hd (x := .int i 0) rfl ?_)
  show wpAny _ _ (seqItems? (.ref t) >>= _) _ _ s
  refine wpAny_bind (wpAny_seqItems hol hdl ?_)
  simp only [Int.toNat_natCast, hx]
  refine wpAny_bind (wpAny_rule (wpAny_bind (wpAny_setField ho hd (by simp) ?_)))
  show wpAny _ _ (newExc (.type "StopIteration") [] >>= _) _ _ _
  refine wpAny_bind ?_
  simp only [newExc, newTuple]
  refine wpAny_bind (wpAny_newObj_type ?_ (by size_fits))
  refine wpAny_bind (m := firstArgMember _ _) (wpAny_of_eq (a := Value.none) (by first | rfl | (simp only [firstArgMember]; rfl)) ?_)
  refine wpAny_newObj_type ?_ (by size_fits)
  have hs : Heap.SameBut it s.heap (s.heap.update it (Obj.mapFields (·.setIfInBounds 0 .none))) := Heap.SameBut.update ..
  rw [Heap.size_push]
  refine stop_raised (A := A.in1) (s := { s with heap := s.heap.update it (Obj.mapFields (·.setIfInBounds 0 .none)) }) (hcl.ext hs.extBut hne) rfl (Nat.lt_of_lt_of_le (by decide : 2 < 6) (by simp)) fun h' hk he => ?_
  refine cps fun X_ k_ => ?_
  obtain ⟨oe, he, hce⟩ := he
  refine k_ ?_
  clear k_ X_
  refine wpAny_bind (wpAny_isInstance (T := "StopIteration") (b := true) ⟨_, he, hce⟩ isSubtype_stop ?_)
  exact wpAny_pure (hQ _ fun b o hb e => hk b o (hs.extBut b o hb e))

theorem unpack_items {t : Addr} {items : Array Value} {Q : List Value → Shared → Prop} (hcl : HdClean A s.heap) (ht : s.heap.IsTuple t items)
    (hQ : ∀ h', Heap.ExtBut s.heap.objs.size s.heap h' → Q items.toList { s with heap := h' }) : wpAny (model prog w) A (unpackItems (.ref t) items.size none) Q E s := by
  have hlt : t ≠ s.heap.objs.size := by obtain ⟨o, ho, _⟩ := ht; exact Nat.ne_of_lt (Heap.lt_size ho)
  have hcur : ∀ hx, A.handled = some (.ref hx) → hx ≠ s.heap.objs.size := fun hx e => by
    refine cps fun X_ k_ => ?_
    rcases hcl with x | ⟨hx', oh, vh, e', e1, _, _⟩
    all_goals refine k_ ?_
    all_goals clear k_ X_
    · rw [x] at e; cases e
    · rw [e'] at e; cases e; exact Nat.ne_of_lt (Heap.lt_size e1)
  unfold unpackItems
  refine wpAny_bind ?_
  unfold notIterableAtAll
  refine wpAny_bind (wpAny_specialOf ht.typeIs F.slot_tuple_iter.lookup ?_)
  refine wpAny_pure ?_
  simp only [Bool.false_eq_true, if_false]
  refine wpAny_bind (wpAny_holding (wpAny_pyIter_tuple ht ?_))
  refine wpAny_bind (wpAny_holding (wpAny_draw_tuple hlt items.size 0 _ _ ⟨_, Heap.get?_push_size _ rfl, rfl, rfl⟩ (ht.push _) (by omega) fun h₁ hit₁ hs₁ => ?_))
  have hall : List.take items.size (List.drop 0 items.toList) = items.toList := by
    rw [List.drop_zero]; exact List.take_of_length_le (by simp)
  rw [hall]
  rw [if_neg (by simp)]
  have ht₁ : h₁.IsTuple t items := (ht.push _).extBut hs₁.extBut hlt
  have ext1 : Heap.ExtBut s.heap.objs.size s.heap h₁ := fun b o hb e => hs₁.extBut b o hb (Heap.get?_push_of_some _ e)
  refine wpAny_bind (wpAny_holding (tuple_end (s := { s with heap := h₁ }) (hcl.ext ext1 hcur) hcur hit₁ ht₁ (by simp) fun h₂ he₂ => ?_))
  simp only [Option.isSome_none, Bool.false_eq_true, if_false]
  exact wpAny_pure (hQ h₂ fun b o hb e => he₂ b o hb (ext1 b o hb e))
end

noncomputable def hdClean (σ : AS) : Bool := match σ.hd with
  | none => true
  | some j => (match σ.hp[j]? with | some (.exc _ _ true _) => true | _ => false)
noncomputable def aUnpack (k : Nat) (v : AV) : AM (List AV) := fun σ => onRef v fun r => onTup σ r fun xs => if xs.length = k ∧ hdClean σ = true then .ok xs σ else .stuck
noncomputable def aStores : List (AV → AM Unit) → List AV → AM Unit
  | st :: sts, x :: xs => do st x; aStores sts xs
  | _, _ => pure ()

section
variable {G : Gd} {n : Nat} {sc : Scope} {c : Cx} {σ : AS} {ρ : List Addr} {s : Shared} {h h' : Heap} {m : Str → Option Value} {ent fent ext : List (Addr × Obj)} {C : Addr} {names : List Str}

theorem hdClean_ok (S : St G c σ ρ h m ent fent ext) (hc : hdClean σ = true) : HdClean c.A h := by
  unfold hdClean at hc
  have hd := S.hd
  split at hc
  · rename_i e
    rw [e] at hd
    exact .inl hd
  · rename_i j e
    rw [e] at hd
    refine cps fun X_ k_ => ?_
    obtain ⟨a, ha, hh⟩ := hd
    refine k_ ?_
    clear k_ X_
    split at hc
    · rename_i e'
      refine cps fun X_ k_ => ?_
      obtain ⟨a', ob, e1, e2, r, e3, e4, e5⟩ := S.objAt e'
      refine k_ ?_
      clear k_ X_
      rw [ha] at e1
      cases e1
      cases r with | exc q1 q2 q3 q4 q5 =>
      exact .inr ⟨_, _, _, hh, e3, rfl, q4 rfl⟩
    · cases hc
theorem St.ext_ (S : St G c σ ρ s.heap m ent fent ext) (hs : Heap.ExtBut s.heap.objs.size s.heap h') : St G c σ ρ h' m ent fent ext := by
  have keep : ∀ b o, s.heap.get? b = some o → h'.get? b = some o := fun b o e => hs b o (Nat.ne_of_lt (Heap.lt_size e)) e
  exact S.same ⟨S.fr.ns.keeps keep, fun b o e => keep b o (S.fr.keep b o e), S.fr.above⟩ (fun p hp => ⟨keep _ _ (S.nw p hp).1, (S.nw p hp).2⟩)
theorem unpack_ok {k : Nat} {v : AV} {v' : Value} (R : Rel G c σ ρ s.heap) (rv : VR ρ v v') : W G c ρ s (pt G c (unpackItems v' k none)) (fun ρ => All2 (VR ρ)) (aUnpack k v σ) := by
  refine W.onRef (p := fun v => pt G c (unpackItems v k none)) rv fun i b e1' eo => ?_
  refine W.onTup fun xs e => ?_
  refine W.when fun hk => ?_
  refine cps fun X_ k_ => ?_
  obtain ⟨hk, hcl⟩ := hk
  subst hk
  obtain ⟨m, ent, fent, ext, S⟩ := R
  obtain ⟨a, ob, e1, e2, r, e3, e4, e5⟩ := S.objAt e
  refine k_ ?_
  clear k_ X_
  rw [e1] at e1'
  obtain rfl := Option.some.inj e1'
  cases r with | @tuple _ vs hv =>
  have hlen := hv.length
  intro Q E q
  have hz : xs.length = vs.toArray.size := by rw [List.size_toArray]; exact hlen
  show wpAny _ _ (unpackItems (.ref a) xs.length none) _ _ _
  rw [hz]
  refine unpack_items (hdClean_ok S hcl) ⟨_, e3, rfl, _, rfl⟩ fun h' hs => ?_
  exact q ρ _ h' s.toks (List.prefix_refl _) ⟨m, _, _, _, S.ext_ hs⟩ hv

/-- targets, one behind the other -/
noncomputable def RefAss (G : Gd) (n : Nat) (sc : Scope) : List (Env → Value → Sem Unit) → List (AV → AM Unit) → Prop := All2 fun t st => ∀ c σ ρ s v v', OkCx G n sc c → Rel G c σ ρ s.heap → VR ρ v v' → W G c ρ s (pt G c (t c.env v')) (fun _ _ _ => True) (st v σ)
theorem inOrder_ok {ts : List (Env → Value → Sem Unit)} {sts : List (AV → AM Unit)} (h : RefAss G n sc ts sts) : ∀ c σ ρ s (xs : List AV) (xs' : List Value), OkCx G n sc c → Rel G c σ ρ s.heap → All2 (VR ρ) xs xs' →
    W G c ρ s (pt G c (assignInOrder (ts.map fun t => t c.env) xs')) (fun _ _ _ => True) (aStores sts xs σ) := by
  induction h with
  | nil =>
    intro c σ ρ s xs xs' hc R hx
    have : aStores [] xs σ = .ok () σ := by cases xs <;> rfl
    rw [this]
    exact fun Q E q => wpAny_pure (q ρ () s.heap s.toks (List.prefix_refl _) R trivial)
  | @cons t₀ st₀ ts₀ sts₀ ht t ih =>
    intro c σ ρ s xs xs' hc R hx
    cases hx with
    | nil => exact fun Q E q => wpAny_pure (q ρ () s.heap s.toks (List.prefix_refl _) R trivial)
    | @cons x x' xr xr' rx tx =>
      refine W.conv (p' := PT.bind (pt G c (t₀ c.env x')) fun _ => pt G c (assignInOrder (ts₀.map fun (t : Env → Value → Sem Unit) => t c.env) xr')) (fun Q E q => wpAny_bind (wpAny_holding q)) ?_
      exact W.bind (ht c σ ρ s _ _ hc R rx) fun _ σ' ρ' _ h' tk hp R' _ => ih c σ' ρ' _ _ _ hc R' (tx.imp fun _ _ r => r.mono hp)

theorem refs_tuple {e : Expr} {elts : List Expr} {x1 : Nat} {tpos pos : Pos} {me : AM AV} {ts : List (Env → Value → Sem Unit)} {sts : List (AV → AM Unit)} (he : RefE G n sc e me) (hts : RefAss G n sc ts sts)
    (h1 : ∀ env, (assignEach elts env).map (·.2) = ts.map fun t => t env) (h2 : ∀ env, (assignEach elts env).findIdx? (·.1) = none) (h3 : ∀ env, swapsWithSole [.Tuple elts x1 tpos] e pos.line env = pure false)
    (h4 : ∀ env, env.scope = sc → swappedStores [.Tuple elts x1 tpos] e env = pure none) :
    RefS G n sc (.Assign [.Tuple elts x1 tpos] e pos) (do let v ← me; let xs ← aUnpack ts.length v; aStores sts xs; pure .next) := by
  intro c σ ρ s hc R
  refine W.conv (p' := PT.bind (pt G c (eval e c.env)) fun v => PT.bind (pt G c (unpackItems v ts.length none)) fun xs => PT.bind (pt G c (assignInOrder (ts.map fun t => t c.env) xs)) fun _ => fun Q E s => Q .next s) (fun Q E q => wpAny_Assign_stores (wpAny_mono q (fun v s₁ q₁ => ?_) fun _ _ z => z) (h3 _) (h4 _ hc.hsc)) ?_
  · show wpAny _ _ (assign (.Tuple elts x1 tpos) c.env v) _ _ _
    rw [arm_assign_Tuple]
    refine wpAny_bind (wpAny_standAt ?_)
    unfold unpack
    rw [h2]
    have hl : (assignEach elts c.env).length = ts.length := by
      have := congrArg List.length (h1 c.env)
      simpa using this
    rw [hl, h1]
    exact wpAny_bind (wpAny_holding q₁)
  · refine W.bind (he c σ ρ s hc R) fun v σ' ρ' v' h' tk hp R' rv => W.bind (unpack_ok R' rv) fun xs σ'' ρ'' xs' h'' tk' hp' R'' rx => ?_
    exact W.bind (inOrder_ok hts c _ _ _ _ _ hc R'' rx) fun _ σ₃ ρ₃ _ h₃ tk₃ hp₃ R₃ _ => W.pure R₃ .next

theorem refs_swapped {e : Expr} {targets : List Expr} {pos : Pos} {me : AM AV} {names : List Str} {sts : List (AV → AM Unit)} (he : RefE G n sc e me) (hts : RefAss G n sc (names.reverse.map fun n env => bindName env n) sts)
    (h3 : ∀ env, swapsWithSole targets e pos.line env = pure false) (h4 : ∀ env, env.scope = sc → swappedStores targets e env = pure (some names)) :
    RefS G n sc (.Assign targets e pos) (do let v ← me; let xs ← aUnpack names.length v; aStores sts xs.reverse; pure .next) := by
  intro c σ ρ s hc R
  refine W.conv (p' := PT.bind (pt G c (eval e c.env)) fun v => PT.bind (pt G c (unpackItems v names.length none)) fun xs => PT.bind (pt G c (assignInOrder ((names.reverse.map fun n env => bindName env n).map fun t => t c.env) xs.reverse)) fun _ => fun Q E s => Q .next s) (fun Q E q => ?_) ?_
  · rw [exec_Assign_arm]
    refine wpAny_bind (wpAny_standAt ?_)
    rw [h3]
    refine wpAny_bind (wpAny_pure ?_)
    rw [if_neg (by decide)]
    refine wpAny_bind (wpAny_mono q (fun v s₁ q₁ => ?_) fun _ _ z => z)
    rw [h4 _ hc.hsc]
    refine wpAny_bind (wpAny_pure ?_)
    refine wpAny_bind (wpAny_rule (wpAny_bind (wpAny_mono q₁ (fun xs s₂ q₂ => wpAny_bind ?_) fun _ _ z => z)))
    rw [List.map_map] at q₂
    exact wpAny_mono q₂ (fun _ _ z => wpAny_pure z) fun _ _ z => z
  · refine W.bind (he c σ ρ s hc R) fun v σ' ρ' v' h' tk hp R' rv => W.bind (unpack_ok R' rv) fun xs σ'' ρ'' xs' h'' tk' hp' R'' rx => ?_
    exact W.bind (inOrder_ok hts c _ _ _ _ _ hc R'' rx.reverse) fun _ σ₃ ρ₃ _ h₃ tk₃ hp₃ R₃ _ => W.pure R₃ .next

/-- a name among the targets -/
theorem refa_name {x : Str} {p : Pos} {st : AV → AM Unit} (hs : RefN G n sc x st) : ∀ c σ ρ s v v', OkCx G n sc c → Rel G c σ ρ s.heap → VR ρ v v' → W G c ρ s (pt G c (assign (.Name x p) c.env v')) (fun _ _ _ => True) (st v σ) := refas_name hs
theorem refa_bind {x : Str} {st : AV → AM Unit} (hs : RefN G n sc x st) : ∀ c σ ρ s v v', OkCx G n sc c → Rel G c σ ρ s.heap → VR ρ v v' → W G c ρ s (pt G c (bindName c.env x v')) (fun _ _ _ => True) (st v σ) := fun c σ ρ s v v' hc R rv => W.conv (fun Q E q => wpAny_bindName q) (hs c σ ρ s v v' hc R rv)
/-- an attribute of a named thing among the targets -/
theorem refa_attr {o : Expr} {name : Str} {p : Pos} {mo : AM AV} (ho : RefE G n sc o mo) : ∀ c σ ρ s v v', OkCx G n sc c → Rel G c σ ρ s.heap → VR ρ v v' → W G c ρ s (pt G c (assign (.Attribute o name p) c.env v')) (fun _ _ _ => True) ((do let ov ← mo; aSet G ov name v) σ) := by
  intro c σ ρ s v v' hc R rv
  refine W.conv (p' := PT.bind (pt G c (eval o c.env)) fun ov => pt G c (setAttr ov name v')) (fun Q E q => ?_) ?_
  · rw [arm_assign_Attribute]
    exact wpAny_bind (wpAny_holding (wpAny_mono q (fun ov s₁ q₁ => wpAny_bind (wpAny_standAt (wpAny_bind (wpAny_holding (wpAny_mono q₁ (fun _ s₂ q₂ => wpAny_release q₂) fun _ _ z => z))))) fun _ _ z => z))
  · exact W.bind (ho c σ ρ s hc R) fun u σ'' ρ'' u' h'' tk' hp' R'' ru => set_ok name R'' ru (rv.mono hp')
end
end Mine

open PySem PySem.W PyProof.Rows PySem.Calls
set_option Elab.async false
set_option maxRecDepth 100000
set_option maxHeartbeats 400000
set_option linter.unusedVariables false
namespace Mine

noncomputable def aBind : List (Str × AV) → (Str → Option AV) → Str → Option AV
  | [], f => f
  | (n, v) :: r, f => aBind r (fun y => if y = n then some v else f y)
noncomputable def mkCells (k : Nat) : List Str → List (Str × Nat)
  | [] => []
  | x :: r => (x, k) :: mkCells (k + 1) r
noncomputable def isLoc (sc : Scope) (x : Str) : Bool := sc.names.lookup x == some .local
/-- a call of a function that has cells -/
noncomputable def aFnC (sc : Scope) (cns : List Str) (params : List Str) (mb : AM AF) (as : List AV) : AM AV := fun σ =>
  if as.length = params.length then
    match mb { loc := fun x => if isLoc sc x then aBind (params.zip as) (fun _ => none) x else none, cells := mkCells σ.hp.length cns, hp := σ.hp ++ cns.map (fun x => AO.cell (aBind (params.zip as) (fun _ => none) x)), hd := σ.hd } with
    | .ok f σ' => .ok (match f with | .ret v => v | _ => .none) { σ with hp := σ'.hp }
    | .exc x σ' => .exc x { σ with hp := σ'.hp }
    | .stuck => .stuck
  else .stuck

noncomputable abbrev NV (ρ : List Addr) (p : Str × AV) (q : Str × Value) : Prop := p.1 = q.1 ∧ VR ρ p.2 q.2
theorem bindL_ok {ρ : List Addr} {k : Str → Option NameKind} {x : Str} (hk : k x = some .local) {xs : List (Str × AV)} {ys : List (Str × Value)} (h : All2 (NV ρ) xs ys) : ∀ {f : Str → Option AV} {m : Str → Option Value}, OV ρ (f x) (m x) → OV ρ (aBind xs f x) (bindL k ys m x) := by
  induction h with
  | nil => exact fun h => h
  | @cons p p' xs ys r t ih =>
    intro f m h
    obtain ⟨n, v⟩ := p
    obtain ⟨n', v'⟩ := p'
    obtain ⟨r1, r2⟩ := r
    dsimp only at r1 r2
    subst r1
    refine ih (f := fun y => if y = n then some v else f y) ?_
    by_cases q : x = n
    · subst q
      rw [if_pos rfl, if_pos hk, if_pos rfl]; exact .some r2
    · rw [if_neg q]
      by_cases kn : k n = some .local
      · rw [if_pos kn, if_neg q]; exact h
      · rw [if_neg kn]; exact h
theorem bindC_ok {ρ : List Addr} {k : Str → Option NameKind} {x : Str} (hk : k x ≠ some .local) {xs : List (Str × AV)} {ys : List (Str × Value)} (h : All2 (NV ρ) xs ys) : ∀ {f : Str → Option AV} {m : Str → Option Value}, OV ρ (f x) (m x) → OV ρ (aBind xs f x) (bindC k ys m x) := by
  induction h with
  | nil => exact fun h => h
  | @cons p p' xs ys r t ih =>
    intro f m h
    obtain ⟨n, v⟩ := p
    obtain ⟨n', v'⟩ := p'
    obtain ⟨r1, r2⟩ := r
    dsimp only at r1 r2
    subst r1
    refine ih (f := fun y => if y = n then some v else f y) ?_
    by_cases q : x = n
    · subst q
      rw [if_pos rfl, if_neg hk, if_pos rfl]; exact .some r2
    · rw [if_neg q]
      by_cases kn : k n = some .local
      · rw [if_pos kn]; exact h
      · rw [if_neg kn, if_neg q]; exact h
theorem mkCells_ok {ρ : List Addr} : ∀ {cs : List (Str × Addr)} {k : Nat}, (∀ i q, cs[i]? = some q → ρ[k + i]? = some q.2) → All2 (CellR ρ) (mkCells k (cs.map (·.1))) cs
  | [], _, _ => .nil
  | q :: cs, k, h => .cons ⟨rfl, by have := h 0 q rfl; simpa using this⟩ (mkCells_ok fun i q' e => by have := h (i + 1) q' (by simpa using e); rwa [show k + (i + 1) = k + 1 + i by omega] at this)

theorem lookup_of_mem_map {x : Str} : ∀ {l : List (Str × Addr)}, x ∈ l.map (·.1) → (l.lookup x).isSome = true
  | (k, v) :: l, h => by
    rw [List.lookup_cons]
    cases q : x == k with
    | true => rfl
    | false =>
      refine lookup_of_mem_map (l := l) ?_
      rcases List.mem_cons.mp h with h | h
      · have h : x = k := h
        rw [h] at q; simp at q
      · exact h
theorem cellsAre_ok {G : Gd} {ext : List (Addr × Obj)} {ρ : List Addr} {cm : Str → Option Value} {g : Str → Option AV} {cs : List (Str × Addr)} {cells : List (Addr × Obj)} (h : CellsAre cm cs cells) : (∀ x ∈ cs.map (·.1), OV ρ (g x) (cm x)) →
    All2 (fun o (p : Addr × Obj) => OR G ext ρ o p.2) ((cs.map (·.1)).map fun x => AO.cell (g x)) cells ∧ cells.map (·.1) = cs.map (·.2) := by
  induction h with
  | nil => exact fun _ => ⟨.nil, rfl⟩
  | cons hd t ih =>
    intro h
    obtain ⟨a, b⟩ := ih fun x hx => h x (.tail _ hx)
    exact ⟨.cons (.cell hd (h _ (.head _))) a, congrArg _ b⟩

/-- a def of the text whose names may be cells -/
structure FnIsC (G : Gd) (f : Addr) (fd : FuncData) (params : List Str) (body : List Stmt) (sc : Scope) (cns : List Str) : Prop extends FnIs G f fd params body sc where
  names : (cellsFrom 0 sc.names []).map (·.1) = cns
  nodup : cns.Nodup
  kinds : ∀ x ∈ params, sc.names.lookup x = some .local ∨ (sc.names.lookup x = some .cell ∧ x ∈ cns)
  cellk : ∀ x ∈ cns, sc.names.lookup x ≠ some .local

section
variable {G : Gd} {n : Nat} {sc : Scope} {c : Cx} {σ : AS} {ρ : List Addr} {s : Shared} {h h' : Heap} {m : Str → Option Value} {ent fent ext : List (Addr × Obj)} {C : Addr} {names : List Str}

/-- a frame is entered: new cells, new names -/
theorem St.enter (S : St G c σ ρ s.heap m ent fent ext) {h₁ : Heap} {L' : Addr} {m' : Str → Option Value} {cells : List (Addr × Obj)} {A' : Around} {env' : Env} {loc : Str → Option AV} {cs : List (Str × Nat)} {hp' : List AO}
    (hL : L' = s.heap.objs.size) (hns : h₁.Ns L' m') (hk : ∀ b o, s.heap.get? b = some o → h₁.get? b = some o) (NC : News s.heap L' h₁ cells) (hnd : (cells.map (·.1)).Nodup) (hloc : ∀ x, OV (ρ ++ cells.map (·.1)) (loc x) (m' x))
    (hobj : All2 (fun o (p : Addr × Obj) => OR G ext (ρ ++ cells.map (·.1)) o p.2) hp' cells) (hcs : All2 (CellR (ρ ++ cells.map (·.1))) cs env'.cells) (hA : A'.handled = c.A.handled) :
    Rel G { A := A', env := env', L := L', frs := (c.L, m) :: c.frs, its := c.its } { loc, cells := cs, hp := σ.hp ++ hp', hd := σ.hd } (ρ ++ cells.map (·.1)) h₁ := by
  have hpre : ρ <+: ρ ++ cells.map (·.1) := List.prefix_append _ _
  have hLlt := S.fr.ns.lt
  refine cps fun X_ k_ => ?_
  obtain ⟨oL, es, ep, hL', hLd, hLk, hLf⟩ := S.fr.ns
  refine k_ ?_
  clear k_ X_
  have old : ∀ p ∈ (c.L, oL) :: (ent ++ (fent ++ ext)), s.heap.get? p.1 = some p.2 := fun p hp => by
    rcases List.mem_cons.mp hp with rfl | hp
    · exact hL'
    · exact (S.nw p hp).1
  refine ⟨m', ent ++ cells, (c.L, oL) :: fent, ext, ⟨⟨hns, fun b o q => hk b o (S.fr.keep b o q), by rw [hL]; exact Nat.le_trans S.fr.above (Nat.le_of_lt hLlt)⟩, fun p hp => ?_, ?_, hloc, by rw [List.map_append, S.keys], (S.objs.imp fun _ _ q => q.mono hpre fun _ z => z).append hobj, .cons ⟨rfl, es, ep, hLd, hLk, hLf⟩ S.frames, S.ext, hcs, ?_⟩⟩
  · have hp' : p ∈ cells ∨ p ∈ (c.L, oL) :: (ent ++ (fent ++ ext)) := by
      simp only [List.mem_append, List.mem_cons, List.cons_append] at hp ⊢
      refine cps fun X_ k_ => ?_
      rcases hp with (h | h) | h | h | h
      all_goals refine k_ ?_
      all_goals clear k_ X_
      · exact .inr (.inr (.inl h))
      · exact .inl h
      · exact .inr (.inl h)
      · exact .inr (.inr (.inr (.inl h)))
      · exact .inr (.inr (.inr (.inr h)))
    rcases hp' with hp' | hp'
    · have z := NC p hp'
      refine ⟨z.1, z.2.1, ?_⟩
      cases q : G.base.get? p.1 with
      | none => rfl
      | some o => have := S.fr.keep _ _ q; rw [z.2.2] at this; cases this
    · refine ⟨hk _ _ (old p hp'), ?_, ?_⟩
      · show p.1 ≠ L'
        rw [hL]; exact Nat.ne_of_lt (Heap.lt_size (old p hp'))
      · rcases List.mem_cons.mp hp' with rfl | hp'
        · exact Heap.get?_none_of_le S.fr.above
        · exact (S.nw p hp').2.2
  · have e : ((ent ++ cells) ++ ((c.L, oL) :: fent ++ ext)).map (·.1) = ent.map (·.1) ++ (cells.map (·.1) ++ c.L :: (fent ++ ext).map (·.1)) := by simp
    rw [e]
    have nd := S.nd
    have perm : (ent.map (·.1) ++ (cells.map (·.1) ++ c.L :: (fent ++ ext).map (·.1))).Perm (cells.map (·.1) ++ c.L :: (ent ++ (fent ++ ext)).map (·.1)) := by
      rw [List.map_append (l₁ := ent)]
      refine (List.perm_append_comm_assoc _ _ _).trans (List.Perm.append_left _ ?_)
      exact List.perm_middle
    rw [perm.nodup_iff, List.nodup_append]
    refine ⟨hnd, List.nodup_cons.mpr ⟨fun q => ?_, nd⟩, fun a ha b hb q => ?_⟩
    · refine cps fun X_ k_ => ?_
      obtain ⟨p, hp, e⟩ := List.mem_map.mp q
      refine k_ ?_
      clear k_ X_
      exact (S.nw p hp).2.1 e
    · subst q
      refine cps fun X_ k_ => ?_
      obtain ⟨p, hp, rfl⟩ := List.mem_map.mp ha
      have z := (NC p hp).2.2
      rcases List.mem_cons.mp hb with hb | hb
      all_goals refine k_ ?_
      all_goals clear k_ X_
      · rw [hb, hL'] at z; cases z
      · refine cps fun X_ k_ => ?_
        obtain ⟨p', hp', e⟩ := List.mem_map.mp hb
        refine k_ ?_
        clear k_ X_
        have z' := (S.nw p' hp').1
        rw [e, z] at z'; cases z'
  · have hd := S.hd.mono hpre
    unfold HdOk at hd ⊢
    dsimp only at hd ⊢
    rw [hA]; exact hd

theorem fn_cells {f : Addr} {fd : FuncData} {params : List Str} {body : List Stmt} {mb : AM AF} {cns : List Str} (F : FnIsC G f fd params body sc cns) (hb : RefB G n sc body mb) : FnOk G (n + 1) f (aFnC sc cns params mb) := by
  intro c σ ρ s as as' hc R ha
  unfold aFnC
  split
  · rename_i hlen
    refine cps fun X_ k_ => ?_
    obtain ⟨m, ent, fent, ext, S⟩ := R
    obtain ⟨oc, od, sl, ho⟩ := F.at_
    have hlen' : as'.length = params.length := ha.length ▸ hlen
    have hfo : s.heap.get? f = some ⟨oc, od, .func fd, sl⟩ := S.fr.keep _ _ (G.X _ _ ho)
    have hcd := codeRec_of (G.X.keeps S.fr.keep) F.code
    obtain ⟨l, hA, hl⟩ := hc.frs
    refine k_ ?_
    clear k_ X_
    have hdep := hc.depth
    have huni := hc.units
    let L' := s.heap.objs.size
    let cs := cellsFrom (L' + 1) sc.names []
    have hcns : cs.map (·.1) = cns := (cellsFrom_names sc.names _ _ [] [] rfl).trans F.names
    let env' := newEnv fd.scope L' fd.globals (cellsFrom (L' + 1) fd.scope.names []) (fd.qualname ++ ".<locals>.") (some f) fd.code none fd.builtins
    let c' : Cx := { A := c.A.deeper env', env := env', L := L', frs := (c.L, m) :: c.frs, its := c.its }
    have hA' : c'.A.frames = some (env' :: l) := Around.frames_deeper hA
    have hlf : ∀ y ∈ env' :: l, y.scope.kind ≠ .module ∧ ∃ a, y.frame = some a ∧ (a = c'.L ∨ a ∈ c'.frs.map (·.1)) := fun y hy => by
      rcases List.mem_cons.mp hy with rfl | hy
      · refine ⟨?_, L', rfl, .inl rfl⟩
        show fd.scope.kind ≠ .module
        rw [F.scope, F.kind]; decide
      · refine cps fun X_ k_ => ?_
        obtain ⟨h1, a, h2, h3⟩ := hl y hy
        refine k_ ?_
        clear k_ X_
        refine ⟨h1, a, h2, .inr ?_⟩
        rcases h3 with rfl | h3
        · exact .head _
        · exact .tail _ h3
    have hc' : OkCx G n sc c' := ⟨F.scope, F.kind, rfl, F.globals, F.builtins, by show c.A.depth + 1 + 12 * n + 20 < recursionLimit; omega, by show c.A.units + 3 + 60 * n + 100 < cLine; omega, ⟨env', l, hA', rfl, hlf⟩, fun q => ⟨f, by
      obtain ⟨q1, q2⟩ := F.lam q
      show newEnv fd.scope L' fd.globals (cellsFrom (L' + 1) fd.scope.names []) (fd.qualname ++ ".<locals>.") (some f) fd.code none fd.builtins = envX G.lamQual sc L' f (.ref G.tabC) (cellsFrom (L' + 1) fd.scope.names [])
      unfold newEnv
      rw [F.scope, F.globals, F.builtins, q1, q2]⟩⟩
    have hz : All2 (NV ρ) (params.zip as) (params.zip as') := All2.zipL ha
    have call : ∀ (R : Result → Shared → Prop), (∀ h₁ tk cells, Rel G c' { loc := fun x => if isLoc sc x then aBind (params.zip as) (fun _ => none) x else none, cells := mkCells σ.hp.length cns, hp := σ.hp ++ cns.map (fun x => AO.cell (aBind (params.zip as) (fun _ => none) x)), hd := σ.hd } (ρ ++ cells) h₁ →
        wpAny G.M c'.A (execs body env') (fun f s' => R (.ok (.ret (match f with | .ret v => v | _ => .none))) s') (fun e s' => wpAny G.M c'.A (leaving env' e) (fun _ s'' => R (.error e) s'') (fun e' s'' => R (.error e') s'') s') { s with heap := h₁, toks := tk }) →
        codeAny G.M c.A (.call (.ref f) ⟨as', []⟩) R s := fun R hR => by
      refine codeAny_call_function (by omega) hfo rfl (by rw [F.scope]; exact F.co) (by rw [F.scope]; exact F.gen) F.body hcd (F.bind s as' hlen' _ _ _ _ ?_)
      rw [F.closure]
      refine wpAny_newFunctionEnv_cells (by rw [F.scope]; exact F.kind) (fun x hx => ?_) fun env he s' x => ?_
      · rw [F.scope]
        refine cps fun X_ k_ => ?_
        rcases F.kinds _ (List.of_mem_zip hx).1 with q | ⟨q, q'⟩
        all_goals refine k_ ?_
        all_goals clear k_ X_
        · exact .inl q
        · refine .inr ⟨q, ?_⟩
          exact lookup_of_mem_map (by rw [cellsFrom_names sc.names _ 0 [] [] rfl, F.names]; exact q')
      · subst he
        refine ⟨(G.T.nolimit.keeps S.fr.keep).keeps x.toInCall.keep, codeAny_func ?_⟩
        refine cps fun X_ k_ => ?_
        obtain ⟨h₁, tk, rfl, _⟩ := x.done
        have hndc : (cs.map (·.1)).Nodup := by rw [hcns]; exact F.nodup
        have xcell : ∀ n c, (cellsFrom (L' + 1) fd.scope.names []).lookup n = some c → _ := x.cell
        have xap : (cellsFrom (L' + 1) fd.scope.names []).Pairwise fun x y => x.2 ≠ y.2 := x.apart
        have xab : ∀ n c, (n, c) ∈ cellsFrom (L' + 1) fd.scope.names [] → L' < c := x.above
        obtain ⟨cells, NC, Y⟩ := Cl.news (h₀ := s.heap) (L := L') (cs := cs) (cm := bindC env'.kindOf (params.zip as') fun _ => none) (Nat.le_refl _) fun n c hm => ⟨xcell n c (by rw [F.scope]; exact lookup_of_mem_nodup hndc hm), xab n c (by rw [F.scope]; exact hm)⟩
        refine k_ ?_
        clear k_ X_
        refine hR h₁ tk (cells.map (·.1)) ?_
        have hov : ∀ ρ', ρ <+: ρ' → ∀ x ∈ cs.map (·.1), OV ρ' (aBind (params.zip as) (fun _ => none) x) (bindC env'.kindOf (params.zip as') (fun _ => none) x) := fun ρ' hp x hx => by
          refine bindC_ok (fun q => F.cellk x (hcns ▸ hx) (by rw [← F.scope]; exact q)) (hz.imp fun _ _ r => ⟨r.1, r.2.mono hp⟩) .none
        obtain ⟨Y1, Y2⟩ := cellsAre_ok (G := G) (ext := ext) Y (hov _ (List.prefix_append ρ (cells.map (·.1))))
        rw [hcns] at Y1
        refine S.enter (A' := c'.A) (env' := env') (L' := L') rfl x.toInCall.ns x.toInCall.keep NC ?_ (fun y => ?_) Y1 ?_ rfl
        · rw [Y2]
          have := (List.pairwise_map (f := Prod.snd) (R := fun a b : Addr => a ≠ b)).mpr xap
          rw [F.scope] at this
          exact this
        · unfold isLoc
          split
          · rename_i hy
            refine bindL_ok (show env'.kindOf y = some .local from ?_) (hz.imp fun _ _ r => ⟨r.1, r.2.mono (List.prefix_append _ _)⟩) .none
            show fd.scope.names.lookup y = _
            rw [F.scope]; exact beq_iff_eq.mp hy
          · exact .none
        · show All2 _ _ (cellsFrom (L' + 1) fd.scope.names [])
          rw [F.scope, ← hcns]
          refine mkCells_ok fun i q hi => ?_
          rw [Y2, List.getElem?_append_right (by rw [S.len]; omega), S.len, Nat.add_sub_cancel_left, List.getElem?_map, hi]; rfl
    cases hmb : mb _ with
    | stuck => trivial
    | ok fl σ'' =>
      intro Q E q
      refine call _ fun h₁ tk cells R₁ => ?_
      have z := hb c' _ _ { s with heap := h₁, toks := tk } hc' R₁
      rw [hmb] at z
      refine z _ _ fun ρ' fl' h' tk hp R' rf => ?_
      have back := S.back (c' := c') ((List.prefix_append _ _).trans hp) rfl rfl R'
      have hp' := (List.prefix_append ρ cells).trans hp
      cases rf with
      | ret rv => exact q ρ' _ h' tk hp' back rv
      | next => exact q ρ' _ h' tk hp' back .none
      | brk => exact q ρ' _ h' tk hp' back .none
      | cont => exact q ρ' _ h' tk hp' back .none
    | exc x σ'' =>
      intro Q E q
      refine call _ fun h₁ tk cells R₁ => ?_
      have z := hb c' _ _ { s with heap := h₁, toks := tk } hc' R₁
      rw [hmb] at z
      refine z _ _ fun ρ' e h' tk hp R' hx hfly => ?_
      refine leave_ok (c := c') (s := up s h' tk) R' hA' rfl hlf hx hfly fun h'' R'' hfly' => ?_
      have hp' := (List.prefix_append ρ cells).trans hp
      exact q ρ' e h'' tk hp' (S.back (c' := c') hp' rfl rfl R'') hx hfly'
  · trivial
end
end Mine

open PySem PySem.W PyProof.Rows PySem.Calls
set_option Elab.async false
set_option maxRecDepth 100000
set_option maxHeartbeats 400000
set_option linter.unusedVariables false
namespace Mine

theorem triples_ind {P : List Value → Prop} (h0 : P []) (h1 : ∀ a t b u c r, TriplesOk r → P r → P (.int a t :: .int b u :: c :: r)) (n : Nat) : ∀ l : List Value, l.length ≤ n → TriplesOk l → P l := by
  induction n with
  | zero => exact fun l hl _ => by rw [List.eq_nil_of_length_eq_zero (Nat.le_zero.mp hl)]; exact h0
  | succ n ih =>
    intro l hl h
    cases l with
    | nil => exact h0
    | cons x l =>
      cases x with
      | int a t =>
        cases l with
        | nil => exact h.elim
        | cons y l =>
          cases y with
          | int b u =>
            cases l with
            | nil => exact h.elim
            | cons c r => exact h1 a t b u c r h (ih r (Nat.le_of_succ_le (Nat.le_of_succ_le (Nat.le_of_succ_le_succ hl))) h)
          | _ => exact h.elim
      | _ => exact h.elim
theorem triples_app {l r : List Value} (h : TriplesOk l) (h' : TriplesOk r) : TriplesOk (l ++ r) :=
  triples_ind (P := fun l => TriplesOk (l ++ r)) h' (fun a t b u c q _ ih => ih) l.length l (Nat.le_refl _) h
theorem triples_one {ps : Array Value} {q : Str} {t : Tok} (h : TriplesOk ps.toList) (h1 : ps[1]? = some (.str q t)) : False := by
  obtain ⟨l⟩ := ps
  rw [List.getElem?_toArray] at h1
  revert h1
  exact triples_ind (P := fun l => l[1]? = some (.str q t) → False) (fun e => nomatch e) (fun _ _ _ _ _ _ _ _ e => nomatch e) l.length l (Nat.le_refl _) h
theorem among_app {pos : Pos} {l r : List Value} (h : TriplesOk l) : codeAmong pos (l ++ r) = (codeAmong pos l).or (codeAmong pos r) :=
  triples_ind (P := fun l => codeAmong pos (l ++ r) = (codeAmong pos l).or (codeAmong pos r)) rfl (fun a t b u c q _ ih => by
    show (if _ then some c else codeAmong pos (q ++ r)) = (if _ then some c else codeAmong pos q).or _
    split
    · rfl
    · exact ih) l.length l (Nat.le_refl _) h

/-- the cells that a lambda takes along -/
noncomputable def aPick (σ : AS) : List Str → Option (List (Str × Nat))
  | [] => some []
  | x :: r => (match σ.cells.lookup x, aPick σ r with
    | some i, some t => some ((x, i) :: t)
    | _, _ => none)
noncomputable def aLambda (k : Nat) (fns : List Str) : AM AV := fun σ => match aPick σ fns with
  | some cs => aNew (.clos k cs) σ
  | none => .stuck

section
variable {G : Gd} {n : Nat} {sc : Scope} {c : Cx} {σ : AS} {ρ : List Addr} {s : Shared} {h h' : Heap} {m : Str → Option Value} {ent fent ext : List (Addr × Obj)} {C : Addr} {names : List Str}

theorem pick_ok (S : St G c σ ρ h m ent fent ext) : ∀ {fns : List Str} {cs : List (Str × Nat)}, aPick σ fns = some cs → ∃ cl : List (Str × Addr), fns.mapM (fun x => (c.env.cells.lookup x).map fun a => (x, a)) = some cl ∧ All2 (CellR ρ) cs cl
  | [], cs, e => by cases e; exact ⟨[], rfl, .nil⟩
  | x :: r, cs, e => by
    unfold aPick at e
    split at e
    · rename_i i t e1 e2
      cases e
      refine cps fun X_ k_ => ?_
      obtain ⟨a, ha, hρ⟩ := cells_lookup S.cells e1
      obtain ⟨cl, h1, h2⟩ := pick_ok S e2
      refine k_ ?_
      clear k_ X_
      exact ⟨(x, a) :: cl, by simp [List.mapM_cons, ha, h1], .cons ⟨rfl, hρ⟩ h2⟩
    · cases e

/-- the table of codes, among what was made -/
theorem St.table (S : St G c σ ρ h m ent fent ext) {ps : Array Value} (hm : (G.tabP, tabObj ps) ∈ ext) : ∃ pre post, ext = pre ++ (G.tabP, tabObj ps) :: post ∧ (∀ p ∈ ent ++ (fent ++ pre), p.1 ≠ G.tabP) ∧ ∀ p ∈ post, p.1 ≠ G.tabP := by
  refine cps fun X_ k_ => ?_
  obtain ⟨pre, post, e⟩ := List.append_of_mem hm
  refine k_ ?_
  clear k_ X_
  subst e
  refine ⟨pre, post, rfl, ?_⟩
  have nd := S.nd
  have e : (ent ++ (fent ++ (pre ++ (G.tabP, tabObj ps) :: post))).map (·.1) = (ent ++ (fent ++ pre)).map (·.1) ++ G.tabP :: post.map (·.1) := by simp
  rw [e, List.perm_middle.nodup_iff, List.nodup_cons] at nd
  exact ⟨fun p hp q => nd.1 (List.mem_append_left _ (q ▸ List.mem_map_of_mem hp)), fun p hp q => nd.1 (List.mem_append_right _ (q ▸ List.mem_map_of_mem hp))⟩

theorem updF_at {d : Addr} {o : Obj} : ∀ {pre post : List (Addr × Obj)}, (∀ p ∈ pre, p.1 ≠ d) → (∀ p ∈ post, p.1 ≠ d) → UpdF d o (pre ++ (d, o) :: post) (fun o' => pre ++ (d, o') :: post)
  | [], _, _, h => .head h
  | p :: pre, _, h1, h2 => .tail (h1 p (.head _)) (updF_at (fun q hq => h1 q (.tail _ hq)) h2)
/-- the lambda's closure as the machine reads it -/
noncomputable def ClosFor (l : Lam) (fns : List Str) : Prop := ∀ (env : Env) (cl : List (Str × Addr)), fns.mapM (fun x => (env.cells.lookup x).map fun a => (x, a)) = some cl → closureFor l.scope env = pure cl

theorem ref_lambda {l : Lam} {k : Nat} {fns : List Str} (hsc : sc = G.lamScope) (hk : G.lams[k]? = some l) (hq : l.qual = G.lamQual ++ ".<locals>." ++ "<lambda>") (hcf : ClosFor l fns) (hdef : ∀ env, defaultsOf l.params env = ([], [])) (hall : ∀ l' ∈ G.lams, l'.qual = l.qual) :
    RefE G n sc (.Lambda l.params l.body l.scope l.pos) (aLambda k fns) := by
  intro c σ ρ s hc R
  refine cps fun X_ k_ => ?_
  obtain ⟨m, ent, fent, ext, S⟩ := R
  refine k_ ?_
  clear k_ X_
  unfold aLambda
  split
  · rename_i cs hcs
    intro Q E q
    refine cps fun X_ k_ => ?_
    obtain ⟨cl, h1, h2⟩ := pick_ok S hcs
    obtain ⟨a, henv⟩ := hc.lam hsc
    refine k_ ?_
    clear k_ X_
    have hcl := hcf c.env cl h1
    refine kla_eval (hdef _) ?_
    have hqual : c.env.qual ++ "<lambda>" = l.qual := by rw [henv, hq]
    rw [hqual, henv]
    rw [henv] at hcl
    refine cps fun X_ k_ => ?_
    obtain ⟨ps, t1, t2, t3⟩ := S.ext.tab
    refine k_ ?_
    clear k_ X_
    have hl : l ∈ G.lams := List.mem_of_getElem? hk
    cases hf : codeAmong l.pos ps.toList with
    | some cv =>
      refine cps fun X_ k_ => ?_
      obtain ⟨c', rfl, hcode⟩ := t3 l hl cv hf
      refine k_ ?_
      clear k_ X_
      refine kla_hit S.fr S.nw G.T G.C rfl (List.mem_append_right _ (List.mem_append_right _ t1)) t2 hf hcl fun f ctv h' tk F' N' hlt => ?_
      have S1 := S.alloc (o := .clos k cs) (.clos (ctv := ctv) (cl := cl) hk h2 hcode) hlt F' N'
      exact q (ρ ++ [f]) (.ref f) h' tk (List.prefix_append _ _) ⟨m, _, fent, ext, S1⟩ (.ref (S.newGet f))
    | none =>
      refine cps fun X_ k_ => ?_
      obtain ⟨pre, post, e, k1, k2⟩ := S.table t1
      refine k_ ?_
      clear k_ X_
      have eN : ent ++ (fent ++ ext) = (ent ++ (fent ++ pre)) ++ (G.tabP, tabObj ps) :: post := by rw [e]; simp
      have hnw := S.nw
      rw [eN] at hnw
      refine kla_nest S.fr hnw G.T G.C rfl (updF_at k1 k2) t2 hf hcl fun f c' oc vs t ctv h' tk F' N' d1 d2 l1 l2 => ?_
      have old : ∀ p ∈ ext, p.2 ≠ tabObj ps → p ∈ (c', oc) :: (pre ++ (G.tabP, tabObj (ps ++ #[rawInt l.pos.line, rawInt l.pos.col, .ref c'])) :: post) := fun p hp hne => by
        rw [e] at hp
        simp only [List.mem_append, List.mem_cons] at hp ⊢
        refine cps fun X_ k_ => ?_
        rcases hp with h | h | h
        all_goals refine k_ ?_
        all_goals clear k_ X_
        · exact .inr (.inl h)
        · exact absurd (by rw [h]) hne
        · exact .inr (.inr (.inr h))
      have codeX : ∀ a q, CodeAt ext a q → CodeAt ((c', oc) :: (pre ++ (G.tabP, tabObj (ps ++ #[rawInt l.pos.line, rawInt l.pos.col, .ref c'])) :: post)) a q := fun a q ⟨oc', vs', t', z1, z2, z3⟩ => by
        by_cases hp : a = G.tabP
        · exfalso
          have y1 := (S.nw _ (List.mem_append_right _ (List.mem_append_right _ z1))).1
          have y2 := (S.nw _ (List.mem_append_right _ (List.mem_append_right _ t1))).1
          rw [hp, y2] at y1
          cases y1
          cases z2
          exact triples_one t2 z3
        · refine ⟨oc', vs', t', ?_, z2, z3⟩
          rw [e] at z1
          simp only [List.mem_append, List.mem_cons] at z1 ⊢
          refine cps fun X_ k_ => ?_
          rcases z1 with h | h | h
          all_goals refine k_ ?_
          all_goals clear k_ X_
          · exact .inr (.inl h)
          · exact absurd (congrArg Prod.fst h) hp
          · exact .inr (.inr (.inr h))
      have S1 : St G c σ ρ h' m ent fent ((c', oc) :: (pre ++ (G.tabP, tabObj (ps ++ #[rawInt l.pos.line, rawInt l.pos.col, .ref c'])) :: post)) := by
        have fresh : ∀ p ∈ ent ++ (fent ++ ext), p.1 ≠ c' := fun p hp => by
          rw [eN] at hp
          exact Nat.ne_of_lt (l1 p hp)
        refine ⟨F', fun p hp => N' p ?_, ?_, S.loc, S.keys, S.objs.imp fun x p r => r.codes codeX, S.frames, ⟨fun q hq => ?_, ?_, fun p hp => ?_⟩, S.cells, S.hd⟩
        · simp only [List.mem_append, List.mem_cons] at hp ⊢
          refine cps fun X_ k_ => ?_
          rcases hp with h | h | h | h | h | h
          all_goals refine k_ ?_
          all_goals clear k_ X_
          · exact .inr (.inr (.inl (.inl h)))
          · exact .inr (.inr (.inl (.inr (.inl h))))
          · exact .inr (.inl h)
          · exact .inr (.inr (.inl (.inr (.inr h))))
          · exact .inr (.inr (.inr (.inl h)))
          · exact .inr (.inr (.inr (.inr h)))
        · have nd := S.nd
          have e1 : (ent ++ (fent ++ ((c', oc) :: (pre ++ (G.tabP, tabObj (ps ++ #[rawInt l.pos.line, rawInt l.pos.col, .ref c'])) :: post)))).map (·.1) = (ent ++ fent).map (·.1) ++ c' :: (pre ++ (G.tabP, tabObj ps) :: post).map (·.1) := by simp
          rw [e1, List.perm_middle.nodup_iff, List.nodup_cons, ← e]
          have e2 : (ent ++ fent).map (·.1) ++ ext.map (·.1) = (ent ++ (fent ++ ext)).map (·.1) := by simp
          rw [e2]
          refine ⟨fun q => ?_, nd⟩
          refine cps fun X_ k_ => ?_
          obtain ⟨p, hp, e⟩ := List.mem_map.mp q
          refine k_ ?_
          clear k_ X_
          exact fresh p hp e
        · obtain ⟨y1, y2⟩ := S.ext.its q hq
          refine ⟨?_, y2⟩
          rw [e] at y1
          simp only [List.mem_append, List.mem_cons] at y1 ⊢
          refine cps fun X_ k_ => ?_
          rcases y1 with h | h | h
          all_goals refine k_ ?_
          all_goals clear k_ X_
          · exact .inr (.inl h)
          · exact absurd (congrArg Prod.fst h) y2
          · exact .inr (.inr (.inr h))
        · refine ⟨_, List.mem_cons_of_mem _ (List.mem_append_right _ (.head _)), ?_, fun l' hl' cv hcv => ?_⟩
          · rw [Array.toList_append]
            exact triples_app t2 trivial
          · rw [Array.toList_append, among_app t2] at hcv
            cases hq' : codeAmong l'.pos ps.toList with
            | some cv' =>
              rw [hq'] at hcv
              cases hcv
              refine cps fun X_ k_ => ?_
              obtain ⟨a, z, z'⟩ := t3 l' hl' _ hq'
              refine k_ ?_
              clear k_ X_
              exact ⟨a, z, codeX _ _ z'⟩
            | none =>
              rw [hq'] at hcv
              have hcv : (if _ then some (Value.ref c') else none) = some cv := hcv
              split at hcv
              · cases hcv
                exact ⟨c', rfl, oc, vs, t, .head _, d1, by rw [hall l' hl']; exact d2⟩
              · cases hcv
        · rcases List.mem_cons.mp hp with rfl | hp
          · exact .inr (.inr ⟨vs, _, t, d1, d2⟩)
          · by_cases hpt : p.1 = G.tabP
            · have : p.2 = tabObj (ps ++ #[rawInt l.pos.line, rawInt l.pos.col, .ref c']) := by
                rcases List.mem_append.mp hp with hp | hp
                · exact absurd hpt (k1 p (List.mem_append_right _ (List.mem_append_right _ hp)))
                · rcases List.mem_cons.mp hp with rfl | hp
                  · rfl
                  · exact absurd hpt (k2 p hp)
              rw [this]
              exact .inl (by intro q; cases q)
            · refine S.ext.noTb p ?_
              rw [e]
              simp only [List.mem_append, List.mem_cons] at hp ⊢
              refine cps fun X_ k_ => ?_
              rcases hp with h | h | h
              all_goals refine k_ ?_
              all_goals clear k_ X_
              · exact .inl h
              · exact absurd (congrArg Prod.fst h) hpt
              · exact .inr (.inr h)
      have S2 := S1.alloc (a := f) (o := .clos k cs) (.clos (ctv := ctv) (cl := cl) hk h2 ⟨oc, vs, t, .head _, d1, d2⟩) (fun p hp => ?_) F' (fun p hp => N' p ?_)
      · exact q (ρ ++ [f]) (.ref f) h' tk (List.prefix_append _ _) ⟨m, _, fent, _, S2⟩ (.ref (S.newGet f))
      · simp only [List.mem_append, List.mem_cons] at hp
        have lt : ∀ p ∈ ent ++ (fent ++ pre) ++ (G.tabP, tabObj ps) :: post, p.1 < f := fun p hp => Nat.lt_trans (l1 p hp) l2
        refine cps fun X_ k_ => ?_
        rcases hp with h | h | h | h | h | h
        all_goals refine k_ ?_
        all_goals clear k_ X_
        · exact lt p (by simp [h])
        · exact lt p (by simp [h])
        · rw [h]; exact l2
        · exact lt p (by simp [h])
        · rw [h]; exact lt (G.tabP, tabObj ps) (by simp)
        · exact lt p (by simp [h])
      · simp only [List.mem_append, List.mem_cons] at hp ⊢
        refine cps fun X_ k_ => ?_
        rcases hp with h | h | h | h | h | h | h
        all_goals refine k_ ?_
        all_goals clear k_ X_
        · exact .inl h
        · exact .inr (.inr (.inl (.inl h)))
        · exact .inr (.inr (.inl (.inr (.inl h))))
        · exact .inr (.inl h)
        · exact .inr (.inr (.inl (.inr (.inr h))))
        · exact .inr (.inr (.inr (.inl h)))
        · exact .inr (.inr (.inr (.inr h)))
  · trivial

/-- a lambda as it is called -/
structure LamIs (l : Lam) (params : List Str) : Prop where
  co : l.scope.isCoroutine = false
  gen : l.scope.isGenerator = false
  kind : l.scope.kind = .function
  cell : ∀ x ∈ l.scope.names, x.2 ≠ .cell
  loc : ∀ x ∈ params, l.scope.names.lookup x = some .local
  bind : ∀ cl pm cdv ct as', as'.length = params.length → bindArgs (kla_fn "<lambda>" l.qual l.params l.body l.scope cl pm cdv ct) ⟨as', []⟩ = pure (params.zip as')

noncomputable def aClos (params : Nat → List Str) (bodies : Nat → AM AV) (f : AV) (as : List AV) : AM AV := fun σ => onRef f fun i => onClos σ i fun k cs =>
  if as.length = (params k).length then (match bodies k { loc := fun x => ((params k).zip as).reverse.lookup x, cells := cs, hp := σ.hp, hd := σ.hd } with
      | .ok v σ' => .ok v { σ with hp := σ'.hp }
      | .exc x σ' => .exc x { σ with hp := σ'.hp }
      | .stuck => .stuck) else .stuck

theorem clos_ok {params : Nat → List Str} {bodies : Nat → AM AV} (hall : ∀ k l, G.lams[k]? = some l → LamIs l (params k) ∧ l.scope ≠ G.lamScope ∧ RefE G n l.scope l.body (bodies k)) : ∀ f, COk G (n + 1) f (aClos params bodies f) := by
  intro f c σ ρ s f' as as' hc R hf ha
  refine W.onRef (p := fun v => pt G c (PySem.call v as')) hf fun i a hfa _ => ?_
  refine W.onClos fun k cs hcl => ?_
  refine W.when fun hlen => ?_
  refine cps fun X_ k_ => ?_
  obtain ⟨m, ent, fent, ext, S⟩ := R
  obtain ⟨a', ob, e1, e2, r, e3, e4, e5⟩ := S.objAt hcl
  refine k_ ?_
  clear k_ X_
  rw [e1] at hfa
  obtain rfl := Option.some.inj hfa
  cases r with | @clos _ _ l cl cc ctv hk h2 hcode =>
  refine cps fun X_ k_ => ?_
  obtain ⟨LI, hls, hb⟩ := hall k l hk
  obtain ⟨oc, vs, t, z1, z2, z3⟩ := hcode
  have hcd : s.heap.CodeRec (.ref cc) l.qual := ⟨cc, oc, vs, t, rfl, (S.nw _ (List.mem_append_right _ (List.mem_append_right _ z1))).1, z2, z3⟩
  have hlen' : as'.length = (params k).length := ha.length ▸ hlen
  obtain ⟨lf, hA, hl⟩ := hc.frs
  refine k_ ?_
  clear k_ X_
  have hdep := hc.depth
  have huni := hc.units
  let L' := s.heap.objs.size
  let env' := envX l.qual l.scope L' a' (.ref cc) cl
  let c' : Cx := { A := c.A.deeper env', env := env', L := L', frs := (c.L, m) :: c.frs, its := c.its }
  have hA' : c'.A.frames = some (env' :: lf) := Around.frames_deeper hA
  have hlf : ∀ y ∈ env' :: lf, y.scope.kind ≠ .module ∧ ∃ a, y.frame = some a ∧ (a = c'.L ∨ a ∈ c'.frs.map (·.1)) := fun y hy => by
    rcases List.mem_cons.mp hy with rfl | hy
    · refine ⟨?_, L', rfl, .inl rfl⟩
      show l.scope.kind ≠ .module
      rw [LI.kind]; decide
    · refine cps fun X_ k_ => ?_
      obtain ⟨h1, a, h2, h3⟩ := hl y hy
      refine k_ ?_
      clear k_ X_
      refine ⟨h1, a, h2, .inr ?_⟩
      rcases h3 with rfl | h3
      · exact .head _
      · exact .tail _ h3
  have hc' : OkCx G n l.scope c' := ⟨rfl, LI.kind, rfl, rfl, rfl, by show c.A.depth + 1 + 12 * n + 20 < recursionLimit; omega, by show c.A.units + 3 + 60 * n + 100 < cLine; omega, ⟨env', lf, hA', rfl, hlf⟩, fun q => absurd q hls⟩
  have hloc : ∀ y ∈ (params k).zip as', l.scope.names.lookup y.1 = some .local := fun y hy => LI.loc _ (List.of_mem_zip hy).1
  have call : ∀ (R : Result → Shared → Prop), (∀ h₁ tk, Rel G c' { loc := fun x => ((params k).zip as).reverse.lookup x, cells := cs, hp := σ.hp, hd := σ.hd } ρ h₁ →
      wpAny G.M c'.A (eval l.body env') (fun v s' => R (.ok (.ret v)) s') (fun e' s' => wpAny G.M c'.A (leaving env' e') (fun _ s'' => R (.error e') s'') (fun e'' s'' => R (.error e'') s'') s') { s with heap := h₁, toks := tk }) →
      codeAny G.M c.A (.call (.ref _) ⟨as', []⟩) R s := fun R hR => by
    refine kla_callFunE (by omega) e3 rfl LI.co LI.gen rfl hcd ?_
    rw [LI.bind cl _ _ _ as' hlen']
    refine wpAny_pure (wpAny_newFunctionEnv LI.cell hloc (fun h₁ hns hsb => ⟨((G.T.nolimit).keeps S.fr.keep).fresh _ hsb, ?_⟩) LI.kind)
    show codeAny _ _ (.expr l.body env') _ _
    have hk₁ : ∀ b o, s.heap.get? b = some o → h₁.get? b = some o := fun b o e => hsb.extBut b o (Nat.ne_of_lt (Heap.lt_size e)) (Heap.get?_push_of_some _ e)
    refine kla_codeExpr (hR h₁ _ ?_)
    have RE := S.enter (A' := c'.A) (env' := env') (L' := L') (m' := fun y => ((params k).zip as').reverse.lookup y) (cells := []) (hp' := []) (cs := cs) (loc := fun x => ((params k).zip as).reverse.lookup x) rfl hns hk₁ (fun p hp => nomatch hp) List.nodup_nil
      (fun x => by rw [List.map_nil, List.append_nil]; exact zip_lookup (All2.reverse (All2.zipL ha)) x) .nil (by rw [List.map_nil, List.append_nil]; exact h2) rfl
    rw [List.map_nil, List.append_nil, List.append_nil] at RE
    exact RE
  cases hmb : bodies k _ with
  | stuck => trivial
  | ok v σ'' =>
    intro Q E q
    refine wpAny_call (call _ fun h₁ tk R₁ => ?_)
    have z := hb c' _ _ { s with heap := h₁, toks := tk } hc' R₁
    rw [hmb] at z
    exact z _ _ fun ρ' v' h' tk hp R' rv => q ρ' _ h' tk hp (S.back (c' := c') hp rfl rfl R') rv
  | exc x σ'' =>
    intro Q E q
    refine wpAny_call (call _ fun h₁ tk R₁ => ?_)
    have z := hb c' _ _ { s with heap := h₁, toks := tk } hc' R₁
    rw [hmb] at z
    refine z _ _ fun ρ' e h' tk hp R' hx hfly => ?_
    refine leave_ok (c := c') (s := up s h' tk) R' hA' rfl hlf hx hfly fun h'' R'' hfly' => ?_
    exact q ρ' e h'' tk hp (S.back (c' := c') hp rfl rfl R'') hx hfly'
end
end Mine

open PySem PySem.W PyProof.Rows PySem.Calls
set_option Elab.async false
set_option maxRecDepth 100000
set_option maxHeartbeats 400000
set_option linter.unusedVariables false
namespace Mine

inductive RefIfs (G : Gd) (n : Nat) (sc : Scope) : List Expr → AM Bool → Prop
  | nil : RefIfs G n sc [] (pure true)
  | one {t m} : RefT G n sc t m → RefIfs G n sc [t] m
noncomputable def aCompBody (acc : Nat) (mt : AM Bool) (me : AM AV) : AM AF := do
  let b ← mt
  if b then (do let x ← me; let _ ← bAppend [.ref acc, x]; pure .next) else pure .next
noncomputable def aComp (fns : List Str) (st : AV → AM Unit) (mt : AM Bool) (me : AM AV) (v : AV) : AM AV := fun σ => match aPick σ fns with
  | some cs => (match aFor st (aCompBody σ.hp.length mt me) v { loc := fun _ => none, cells := cs, hp := σ.hp ++ [.list []], hd := σ.hd } with
    | .ok .next σ' => .ok (.ref σ.hp.length) { σ with hp := σ'.hp }
    | _ => .stuck)
  | none => .stuck

section
variable {prog : Program} {w : World} {A : Around} {E : Value → Shared → Prop} {R : Result → Shared → Prop} {s : Shared}
theorem comp_loop_any {elt target iter : Expr} {ifs : List Expr} {scope : Scope} {pos : Pos} {it acc : Value} {env : Env} (I : Nat → Shared → Prop)
    (turn : ∀ n s, I n s → wpAny (model prog w) A (pyNext it) (fun r s₁ => match r with
      | none => R (.ok .next) s₁
      | some v => wpAny (model prog w) A (letOwnedTupleGo target it v) (fun _ s₁' => wpAny (model prog w) A (assign target env v) (fun _ s₂ =>
          wpAny (model prog w) A (forIn ifs true fun c r => if r = true then do let ok ← PySem.isTrue c env (eval c env); pure (ForInStep.yield ok) else pure (ForInStep.yield r)) (fun ok s₃ =>
            if ok = true then wpAny (model prog w) A (eval elt env) (fun x s₄ =>
              wpAny (model prog w) A (call (.builtin "list.append") [acc, x]) (fun _ s₅ => ∃ m, m < n ∧ I m s₅) (notedBy (model prog w) A env fun e s' => R (.error e) s') s₄) (notedBy (model prog w) A env fun e s' => R (.error e) s') s₃
            else ∃ m, m < n ∧ I m s₃) (notedBy (model prog w) A env fun e s' => R (.error e) s') s₂) (notedBy (model prog w) A env fun e s' => R (.error e) s') s₁') (notedBy (model prog w) A env fun e s' => R (.error e) s') s₁) (notedBy (model prog w) A env fun e s' => R (.error e) s') s)
    (n : Nat) (h : I n s) : codeAny (model prog w) A (.compLoop (.ListComp elt [⟨target, iter, ifs, 0⟩] scope pos) 0 it acc env) R s := by
  refine codeAny_loop rfl I (fun n s hI => ?_) n h
  show wpAny _ A ((compTurn (.ListComp elt [⟨target, iter, ifs, 0⟩] scope pos) 0 it acc env).onRaise (fun x => do noteFrame x env; theTreesLotGoes x)) _ _ s
  refine wpAny_noted ?_
  rw [compTurn_list]
  refine wpAny_bind (wpAny_standAt (wpAny_bind (wpAny_mono (turn n s hI) (fun r s₁ h₁ => ?_) fun _ _ h' => h')))
  cases r with
  | none => exact wpAny_pure h₁
  | some v =>
    refine wpAny_bind (wpAny_mono h₁ (fun _ s₁' h₁' => wpAny_bind (wpAny_mono h₁' (fun _ s₂ h₂ => wpAny_bind (wpAny_mono h₂ (fun ok s₃ h₃ => ?_) fun _ _ h' => h')) fun _ _ h' => h')) fun _ _ h' => h')
    cases ok with
    | false => exact wpAny_pure ⟨rfl, h₃⟩
    | true =>
      exact wpAny_bind (wpAny_bind (wpAny_mono h₃ (fun x s₄ h₄ => wpAny_bind (wpAny_mono h₄ (fun _ s₅ h₅ => wpAny_pure (wpAny_pure ⟨rfl, h₅⟩)) fun _ _ h' => h')) fun _ _ h' => h'))
end

section
variable {G : Gd} {n : Nat} {sc : Scope} {c : Cx} {σ : AS} {ρ : List Addr} {s : Shared} {h h' : Heap} {m : Str → Option Value} {ent fent ext : List (Addr × Obj)} {C : Addr} {names : List Str}

noncomputable abbrev pbody (G : Gd) (c : Cx) (ifs : List Expr) (elt : Expr) (acc' : Value) : PT Unit := fun Q E s => wpAny G.M c.A (forIn ifs true fun t r => if r = true then do let ok ← PySem.isTrue t c.env (eval t c.env); pure (ForInStep.yield ok) else pure (ForInStep.yield r)) (fun ok s₃ =>
  if ok = true then wpAny G.M c.A (eval elt c.env) (fun x s₄ => wpAny G.M c.A (call (.builtin "list.append") [acc', x]) (fun _ s₅ => Q () s₅) E s₄) E s₃ else Q () s₃) E s
theorem body_ok {ifs : List Expr} {elt : Expr} {mt : AM Bool} {me : AM AV} {acc : Nat} {acc' : Value} (hi : RefIfs G n sc ifs mt) (he : RefE G n sc elt me) : ∀ c σ ρ s, OkCx G n sc c → Rel G c σ ρ s.heap → VR ρ (.ref acc) acc' →
    W G c ρ s (pbody G c ifs elt acc') (fun _ f _ => f = AF.next) (aCompBody acc mt me σ) := by
  intro c σ ρ s hc R ra
  have tests : W G c ρ s (pt G c (forIn ifs true fun t r => if r = true then do let ok ← PySem.isTrue t c.env (eval t c.env); pure (ForInStep.yield ok) else pure (ForInStep.yield r))) (fun _ b b' => b' = b) (mt σ) := by
    cases hi with
    | nil => exact fun Q E q => wpAny_tests_nil (q ρ _ s.heap s.toks (List.prefix_refl _) R rfl)
    | one ht => exact W.conv (fun Q E q => wpAny_tests_one q) (ht c σ ρ s hc R)
  refine W.conv (p' := PT.bind (pt G c (forIn ifs true fun t r => if r = true then do let ok ← PySem.isTrue t c.env (eval t c.env); pure (ForInStep.yield ok) else pure (ForInStep.yield r))) fun ok => fun Q E s₃ =>
    if ok = true then wpAny G.M c.A (eval elt c.env) (fun x s₄ => wpAny G.M c.A (call (.builtin "list.append") [acc', x]) (fun _ s₅ => Q () s₅) E s₄) E s₃ else Q () s₃) (fun Q E q => q) ?_
  refine W.bind tests fun b σ' ρ' b' h' tk hp R' rb => ?_
  subst rb
  cases b' with
  | false => exact W.pure (a := ()) (RV := fun _ f _ => f = AF.next) R' rfl
  | true =>
    refine W.conv (p' := PT.bind (pt G c (eval elt c.env)) fun x => PT.bind (pt G c (call (.builtin "list.append") [acc', x])) fun _ => fun Q E s => Q () s) (fun Q E q => q) ?_
    refine W.bind (he c σ' ρ' _ hc R') fun x σ'' ρ'' x' h'' tk' hp' R'' rx => ?_
    exact W.bind (append_ok (n := n) c σ'' ρ'' _ _ [.ref acc, x] [acc', x'] hc.okA R'' (.builtin _) (.cons ((ra.mono hp).mono hp') (.cons rx .nil))) fun _ σ₃ ρ₃ _ h₃ tk₃ hp₃ R₃ _ => W.pure (a := ()) (RV := fun _ f _ => f = AF.next) R₃ rfl

/-- how a loop's body acts, for the two kinds of iterators -/
noncomputable def BodyOk (G : Gd) (n : Nat) (sc : Scope) (acc : Nat) (acc' : Value) (ifs : List Expr) (elt : Expr) (mb : AM AF) : Prop := ∀ c σ ρ s, OkCx G n sc c → Rel G c σ ρ s.heap → VR ρ (.ref acc) acc' → W G c ρ s (pbody G c ifs elt acc') (fun _ f _ => f = AF.next) (mb σ)

theorem comp_list {t elt iter : Expr} {ifs : List Expr} {scope : Scope} {pos : Pos} {st : AV → AM Unit} {mb : AM AF} {r acc : Nat} {acc' : Value} (hst : RefAs G n sc t st) (hb : BodyOk G n sc acc acc' ifs elt mb) (hc : OkCx G n sc c) {f : AF} {σf : AS} {R : Result → Shared → Prop} {it l : Addr}
    (hits : ∀ q ∈ c.its, q.1 ≠ it) (hl : ρ[r]? = some l) (hacc : VR ρ (.ref acc) acc') (hto : ∀ (o : Obj), o.cls = .type "list_iterator" → ∀ v (M : Model) (A : Around) Q E (s : Shared), s.heap.get? it = some o → Q () s → wpAny M A (letOwnedTupleGo t (.ref it) v) Q E s)
    (q : ∀ ρ' h' tk, ρ <+: ρ' → Rel G c σf ρ' h' → R (.ok .next) (up s h' tk)) :
    ∀ k i σ₀ o, aForL st mb r k i σ₀ = .ok f σf → o.cls = .type "list_iterator" → o.data = .fields #[.ref l, .int i 0] → Rel G (c.holdIt (it, o)) σ₀ ρ s.heap →
      codeAny G.M c.A (.compLoop (.ListComp elt [⟨t, iter, ifs, 0⟩] scope pos) 0 (.ref it) acc' c.env) R s := by
  intro k i σ₀ o hr ho1 ho2 R0
  let I : Nat → Shared → Prop := fun k s₁ => ∃ (σ₁ : AS) (ρ₁ : List Addr) (h₁ : Heap) (tk₁ : Nat) (i₁ : Nat) (o₁ : Obj), s₁ = up s h₁ tk₁ ∧ ρ <+: ρ₁ ∧ o₁.cls = .type "list_iterator" ∧ o₁.data = .fields #[.ref l, .int (i₁ : Nat) 0] ∧ Rel G (c.holdIt (it, o₁)) σ₁ ρ₁ h₁ ∧ aForL st mb r k i₁ σ₁ = .ok f σf
  refine comp_loop_any I ?_ k
    ⟨σ₀, ρ, s.heap, s.toks, i, o, rfl, List.prefix_refl _, ho1, ho2, R0, hr⟩
  intro k s₁ h_1
  refine cps fun X_ k_ => ?_
  obtain ⟨σ₁, ρ₁, h₁, tk₁, i₁, o₁, rfl, hp₁, hc₁, hd₁, R₁, hr₁⟩ := h_1
  refine k_ ?_
  clear k_ X_
  cases k with
  | zero => cases hr₁
  | succ k =>
    unfold aForL at hr₁
    refine cps fun X_ k_ => ?_
    obtain ⟨m, ent, fent, ext, S⟩ := R₁
    refine k_ ?_
    clear k_ X_
    have hio : h₁.get? it = some o₁ := (S.nw _ (List.mem_append_right _ (List.mem_append_right _ (S.ext.its _ (.head _)).1))).1
    have hit : h₁.IsListIter it l i₁ := ⟨o₁, hio, hc₁, hd₁⟩
    split at hr₁
    · rename_i xs hxs
      refine cps fun X_ k_ => ?_
      obtain ⟨a, vs, kk, ha, hv, e2, e3⟩ := S.list hxs (.ref (pre_get hp₁ hl))
      refine k_ ?_
      clear k_ X_
      cases ha
      have hIL : h₁.IsList l vs.toArray := ⟨_, e3, rfl, _, rfl⟩
      split at hr₁
      · rename_i v hxv
        refine cps fun X_ k_ => ?_
        obtain ⟨v', hv', rv⟩ := hv.get hxv
        refine k_ ?_
        clear k_ X_
        refine wpAny_pyNext_list_item (s := up s h₁ tk₁) hit hIL (by rw [toArr]; exact hv') fun h₂ hit₂ hs₂ => ?_
        refine cps fun X_ k_ => ?_
        obtain ⟨o₂, ho₂, hc₂, hd₂⟩ := hit₂
        refine k_ ?_
        clear k_ X_
        have S₂ := S.turnIt (like_list hc₁ hd₁) (like_list hc₂ hd₂) hs₂ ho₂ hits
        have hc2 : OkCx G n sc (c.holdIt (it, o₂)) := hc.holdIt _
        refine hto o₂ hc₂ _ _ _ _ _ _ ho₂ ?_
        have z1 := hst (c.holdIt (it, o₂)) σ₁ ρ₁ (up s h₂ tk₁) v v' hc2 ⟨_, _, _, _, S₂⟩ rv
        cases hsv : st v σ₁ with
        | stuck => rw [hsv] at hr₁; cases hr₁
        | exc x σ₃ => rw [hsv] at hr₁; cases hr₁
        | ok u σ₃ =>
          rw [hsv] at hr₁ z1
          refine z1 _ _ fun ρ₃ _ h₃ tk₃ hp₃ R₃ _ => ?_
          have zb := hb (c.holdIt (it, o₂)) σ₃ ρ₃ (up s h₃ tk₃) hc2 R₃ (hacc.mono (hp₁.trans hp₃))
          dsimp only at hr₁
          cases hmb : mb σ₃ with
          | stuck => rw [hmb] at hr₁; cases hr₁
          | exc x σ₄ => rw [hmb] at hr₁; cases hr₁
          | ok f₁ σ₄ =>
            rw [hmb] at hr₁ zb
            refine zb (fun _ s₅ => ∃ m, m < k + 1 ∧ I m s₅) _ fun ρ₄ f' h₄ tk₄ hp₄ R₄ rf => ?_
            have hpp := hp₁.trans (hp₃.trans hp₄)
            subst rf
            exact ⟨k, Nat.lt_succ_self _, σ₄, ρ₄, h₄, tk₄, i₁ + 1, o₂, rfl, hpp, hc₂, hd₂, R₄, hr₁⟩
      · rename_i hxv
        split at hr₁
        · rename_i hhd
          cases hr₁
          have hh := S.hd
          rw [hhd] at hh
          have hlen := hv.length
          refine wpAny_pyNext_list_end (s := up s h₁ tk₁) hh hit hIL (by rw [toArr, List.getElem?_eq_none_iff, ← hlen]; exact List.getElem?_eq_none_iff.mp hxv) fun h₂ hs₂ => ?_
          exact q ρ₁ h₂ tk₁ hp₁ (rel_dropIt ⟨_, _, _, _, S⟩ (like_list hc₁ hd₁) hs₂ hits)
        · cases hr₁
    · cases hr₁

theorem comp_range {t elt iter : Expr} {ifs : List Expr} {scope : Scope} {pos : Pos} {st : AV → AM Unit} {mb : AM AF} {acc : Nat} {acc' : Value} (hst : RefAs G n sc t st) (hb : BodyOk G n sc acc acc' ifs elt mb) (hc : OkCx G n sc c) {f : AF} {σf : AS} {R : Result → Shared → Prop} {it : Addr}
    (hits : ∀ q ∈ c.its, q.1 ≠ it) (hacc : VR ρ (.ref acc) acc') (hto : ∀ v, letOwnedTupleGo t (.ref it) v = pure ())
    (q : ∀ ρ' h' tk, ρ <+: ρ' → Rel G c σf ρ' h' → R (.ok .next) (up s h' tk)) :
    ∀ k (i : Int) σ₀, aForR st mb k i σ₀ = .ok f σf → Rel G (c.holdIt (it, { cls := .type "range_iterator", data := .fields #[rawInt i, rawInt (k : Nat), rawInt 1] })) σ₀ ρ s.heap →
      codeAny G.M c.A (.compLoop (.ListComp elt [⟨t, iter, ifs, 0⟩] scope pos) 0 (.ref it) acc' c.env) R s := by
  intro k i σ₀ hr R0
  let I : Nat → Shared → Prop := fun k s₁ => ∃ (σ₁ : AS) (ρ₁ : List Addr) (h₁ : Heap) (tk₁ : Nat) (i₁ : Int) (k₀ : Nat), k = k₀ + 1 ∧ s₁ = up s h₁ tk₁ ∧ ρ <+: ρ₁ ∧ Rel G (c.holdIt (it, { cls := .type "range_iterator", data := .fields #[rawInt i₁, rawInt (k₀ : Nat), rawInt 1] })) σ₁ ρ₁ h₁ ∧ aForR st mb k₀ i₁ σ₁ = .ok f σf
  refine comp_loop_any I ?_ (k + 1)
    ⟨σ₀, ρ, s.heap, s.toks, i, k, rfl, rfl, List.prefix_refl _, R0, hr⟩
  intro _ s₁ h_2
  refine cps fun X_ k_ => ?_
  obtain ⟨σ₁, ρ₁, h₁, tk₁, i₁, k, rfl, rfl, hp₁, R₁, hr₁⟩ := h_2
  refine k_ ?_
  clear k_ X_
  refine cps fun X_ k_ => ?_
  obtain ⟨m, ent, fent, ext, S⟩ := R₁
  refine k_ ?_
  clear k_ X_
  have hit : IsRangeIter h₁ it i₁ (k : Nat) 1 := (S.nw _ (List.mem_append_right _ (List.mem_append_right _ (S.ext.its _ (.head _)).1))).1
  cases k with
  | zero =>
    unfold aForR at hr₁
    split at hr₁
    · rename_i hhd
      cases hr₁
      have hh := S.hd
      rw [hhd] at hh
      refine wpAny_pyNext_range_end (s := up s h₁ tk₁) hh hit (by simp) fun h₂ hs₂ => ?_
      exact q ρ₁ h₂ tk₁ hp₁ (rel_dropIt ⟨_, _, _, _, S⟩ like_range hs₂ hits)
    · cases hr₁
  | succ k =>
    unfold aForR at hr₁
    refine wpAny_pyNext_range_item (s := up s h₁ tk₁) hit (by omega) fun h₂ hit₂ hs₂ => ?_
    have hit₂' : h₂.get? it = some { cls := .type "range_iterator", data := .fields #[rawInt (i₁ + 1), rawInt (k : Nat), rawInt 1] } := by
      have e : (((k + 1 : Nat) : Int) - 1) = (k : Nat) := by omega
      rw [e] at hit₂
      exact hit₂
    have S₂ := S.turnIt like_range like_range hs₂ hit₂' hits
    have hc2 : OkCx G n sc (c.holdIt (it, { cls := .type "range_iterator", data := .fields #[rawInt (i₁ + 1), rawInt (k : Nat), rawInt 1] })) := hc.holdIt _
    refine wpAny_of_eq (hto _) ?_
    have z1 := hst _ σ₁ ρ₁ (up s h₂ (tk₁ + 1)) (.int i₁) (.int i₁ tk₁) hc2 ⟨_, _, _, _, S₂⟩ (.int _ _)
    cases hsv : st (.int i₁) σ₁ with
    | stuck => rw [hsv] at hr₁; cases hr₁
    | exc x σ₃ => rw [hsv] at hr₁; cases hr₁
    | ok u σ₃ =>
      rw [hsv] at hr₁ z1
      refine z1 _ _ fun ρ₃ _ h₃ tk₃ hp₃ R₃ _ => ?_
      have zb := hb _ σ₃ ρ₃ (up s h₃ tk₃) hc2 R₃ (hacc.mono (hp₁.trans hp₃))
      dsimp only at hr₁
      cases hmb : mb σ₃ with
      | stuck => rw [hmb] at hr₁; cases hr₁
      | exc x σ₄ => rw [hmb] at hr₁; cases hr₁
      | ok f₁ σ₄ =>
        rw [hmb] at hr₁ zb
        refine zb (fun _ s₅ => ∃ m, m < k + 1 + 1 ∧ I m s₅) _ fun ρ₄ f' h₄ tk₄ hp₄ R₄ rf => ?_
        have hpp := hp₁.trans (hp₃.trans hp₄)
        subst rf
        exact ⟨k + 1, Nat.lt_succ_self _, σ₄, ρ₄, h₄, tk₄, i₁ + 1, k, rfl, rfl, hpp, R₄, hr₁⟩

theorem comp_core {t elt iter : Expr} {ifs : List Expr} {scope sc₂ : Scope} {pos : Pos} {st : AV → AM Unit} {mt : AM Bool} {me : AM AV} {v : AV} {v' : Value} {use : Option (Value → Sem Unit)} {Q : Value → Shared → Prop} {E : Value → Shared → Prop} {σf : AS}
    (hrel : ∀ env : Env, env.scope = sc → relabel scope env = sc₂) (hk2 : sc₂.kind = .function) (hls : sc₂ ≠ G.lamScope) (hcell : ∀ x ∈ scope.names, x.2 ≠ .cell) (hkind : scope.kind = .function)
    (hst : RefAs G n sc₂ t st) (hi : RefIfs G n sc₂ ifs mt) (he : RefE G n sc₂ elt me)
    (hto : ∀ it v (o : Obj) (M : Model) (A : Around) Q E (s : Shared), o.cls = .type "list_iterator" → s.heap.get? it = some o → Q () s → wpAny M A (letOwnedTupleGo t (.ref it) v) Q E s) (htr : (∃ x p, t = .Name x p) ∨ ∀ (r : Nat) (n : Int), v ≠ .ref r ∨ σ.hp[r]? ≠ some (AO.range n))
    {cl : List (Str × Addr)} {cs : List (Str × Nat)} (hc : OkCx G n sc c) (S : St G c σ ρ s.heap m ent fent ext) (rv : VR ρ v v') (hcl : All2 (CellR ρ) cs cl)
    (hr : aFor st (aCompBody σ.hp.length mt me) v { loc := fun _ => none, cells := cs, hp := σ.hp ++ [.list []], hd := σ.hd } = .ok .next σf)
    (k : ∀ ρ' acc' C h' tk m' oC, ρ <+: ρ' → Rel G (c.holdIt (C, oC)) { σ with hp := σf.hp } ρ' h' → (∀ q ∈ c.its, q.1 ≠ C) → NsObj oC m' → VR ρ' (.ref σ.hp.length) acc' → compPost G.M c.A E use Q acc' C (.ok .next) (up s h' tk)) :
    wpAny G.M c.A (pyIter v') (fun it s₂ => wpAny G.M c.A (newList []) (fun acc s₃ =>
      wpAny G.M c.A (newFunctionEnv scope c.env.globals cl [] c.env.qual none .none (some c.env)) (fun cenv s₄ =>
        codeAny G.M c.A (.compStart (.ListComp elt [⟨t, iter, ifs, 0⟩] scope pos) 0 it acc { cenv with scope := relabel scope c.env }) (compPost G.M c.A E use Q acc cenv.locals) s₄) E s₃) E s₂) E s := by
  have fresh : ∀ p ∈ ent ++ (fent ++ ext), p.1 ≠ s.heap.objs.size := fun p hp => Nat.ne_of_lt (Heap.lt_size (S.nw p hp).1)
  have hits : ∀ q ∈ c.its, q.1 ≠ s.heap.objs.size := fun q hq => fresh q (List.mem_append_right _ (List.mem_append_right _ (S.ext.its q hq).1))
  -- the common road behind the making of the iterator
  have road : ∀ (o : Obj), ItLike o → ∀ (R₁ : Rel G (c.holdIt (s.heap.objs.size, o)) σ ρ (s.heap.push o)), (s.heap.push o).objs.size = s.heap.objs.size + 1 →
      (∀ (cI : Cx) ρ₂ s₄ acc' (RR : Result → Shared → Prop), OkCx G n sc₂ cI → ρ <+: ρ₂ → (∀ q ∈ cI.its, q.1 ≠ s.heap.objs.size) → VR ρ₂ (.ref σ.hp.length) acc' →
        Rel G (cI.holdIt (s.heap.objs.size, o)) { loc := fun _ => none, cells := cs, hp := σ.hp ++ [.list []], hd := σ.hd } ρ₂ s₄.heap →
        (∀ ρ' h' tk, ρ₂ <+: ρ' → Rel G cI σf ρ' h' → RR (.ok .next) (up s₄ h' tk)) → codeAny G.M cI.A (.compStart (.ListComp elt [⟨t, iter, ifs, 0⟩] scope pos) 0 (.ref s.heap.objs.size) acc' cI.env) RR s₄) →
      wpAny G.M c.A (newList []) (fun acc s₃ =>
      wpAny G.M c.A (newFunctionEnv scope c.env.globals cl [] c.env.qual none .none (some c.env)) (fun cenv s₄ =>
        codeAny G.M c.A (.compStart (.ListComp elt [⟨t, iter, ifs, 0⟩] scope pos) 0 (.ref s.heap.objs.size) acc { cenv with scope := relabel scope c.env }) (compPost G.M c.A E use Q acc cenv.locals) s₄) E s₃) E { s with heap := s.heap.push o } := by
    intro o hlike R₁ hsz loop
    have zl := list_ok (c := c.holdIt (s.heap.objs.size, o)) (s := { s with heap := s.heap.push o }) (vs := []) (vs' := []) R₁ .nil
    refine zl _ _ fun ρ₂ acc' h₂ tk₂ hp₂ R₂ ra => ?_
    refine cps fun X_ k_ => ?_
    obtain ⟨m₂, ent₂, fent₂, ext₂, S₂⟩ := R₂
    refine k_ ?_
    clear k_ X_
    refine wpAny_newFunctionEnv hcell (by intro y hy; simp at hy) (fun h₁ hns hsb => ?_) hkind
    have hk₁ : ∀ b o, h₂.get? b = some o → h₁.get? b = some o := fun b o e => hsb.extBut b o (Nat.ne_of_lt (Heap.lt_size e)) (Heap.get?_push_of_some _ e)
    let C := h₂.objs.size
    let envI : Env := { newEnv scope C c.env.globals cl c.env.qual none .none (some c.env) c.env.builtins with scope := relabel scope c.env }
    have RE := S₂.enter (s := { s with heap := h₂, toks := tk₂ }) (A' := c.A) (env' := envI) (L' := C) (m' := fun _ => none) (cells := []) (hp' := []) (cs := cs) (loc := fun _ => none) rfl hns hk₁ (fun p hp => nomatch hp) List.nodup_nil
      (fun x => .none) .nil (by rw [List.map_nil, List.append_nil]; exact hcl.imp fun _ _ q => ⟨q.1, pre_get hp₂ q.2⟩) rfl
    rw [List.map_nil, List.append_nil, List.append_nil] at RE
    let cI : Cx := { A := c.A, env := envI, L := C, frs := (c.L, m₂) :: c.frs, its := c.its }
    have hcI : OkCx G n sc₂ cI := by
      refine cps fun X_ k_ => ?_
      obtain ⟨e0, l, f1, f2, f3⟩ := hc.frs
      refine k_ ?_
      clear k_ X_
      refine ⟨hrel _ hc.hsc, hk2, rfl, hc.gl, hc.bu, hc.depth, hc.units, ⟨e0, l, f1, f2, fun x hx => ?_⟩, fun q => absurd q hls⟩
      refine cps fun X_ k_ => ?_
      obtain ⟨g1, b, g2, g3⟩ := f3 x hx
      refine k_ ?_
      clear k_ X_
      refine ⟨g1, b, g2, .inr ?_⟩
      rcases g3 with rfl | g3
      · exact .head _
      · exact .tail _ g3
    refine loop cI ρ₂ _ acc' _ hcI hp₂ hits ra RE fun ρ' h' tk hp' R' => ?_
    -- back in the function's frame
    have z := S₂.dropIt (c := c) hlike (fun _ _ _ e => e) hits
    refine cps fun X_ k_ => ?_
    obtain ⟨ent₃, fent₃, ext₃, m₃, S₃, hne, hLC, hnsC, hbC⟩ := z.back' (c' := cI) hp' rfl rfl R'
    obtain ⟨oC, es, ep, hgC, hdC, hkC, hfC⟩ := hnsC
    refine k_ ?_
    clear k_ X_
    have hnot : NotTb oC := .inr (.inl fun vs q => by rw [hdC] at q; cases q)
    have SK := S₃.keepIt (a := C) (o := oC) hne hnot S₃.fr (fun p hp => by
      rcases List.mem_cons.mp hp with rfl | hp
      · exact ⟨hgC, Ne.symm hLC, hbC⟩
      · exact S₃.nw p hp)
    exact k ρ' acc' C h' tk m₃ oC (hp₂.trans hp') ⟨_, _, _, _, SK⟩ (fun q hq => hne q (List.mem_append_right _ (List.mem_append_right _ (S₃.ext.its q hq).1))) ⟨es, ep, hdC, hkC, hfC⟩ (ra.mono hp')
  unfold aFor at hr
  split at hr
  · rename_i r
    split at hr
    · rename_i xs hxs0
      have hxs : σ.hp[r]? = some (.list xs) ∨ (r = σ.hp.length ∧ xs = []) := by
        by_cases hlt : r < σ.hp.length
        · rw [List.getElem?_append_left hlt] at hxs0; exact .inl hxs0
        · rw [List.getElem?_append_right (Nat.le_of_not_lt hlt)] at hxs0
          cases hd : r - σ.hp.length with
          | zero => rw [hd] at hxs0; simp at hxs0; exact .inr ⟨by omega, hxs0⟩
          | succ j => rw [hd] at hxs0; simp at hxs0
      refine cps fun X_ k_ => ?_
      rcases hxs with hxs | ⟨rfl, rfl⟩
      all_goals refine k_ ?_
      all_goals clear k_ X_
      · refine cps fun X_ k_ => ?_
        obtain ⟨l, vs, kk, ha, hv, e2, e3⟩ := S.list hxs rv
        refine k_ ?_
        clear k_ X_
        subst ha
        cases rv with | ref hl =>
        refine wpAny_pyIter_list (items := vs.toArray) ⟨_, e3, rfl, _, rfl⟩ ?_
        have hlk : ItLike { cls := .type "list_iterator", data := .fields #[.ref l, .int 0 0] } := like_list (l := l) (i := 0) rfl rfl
        have S1 := S.keepIt (o := { cls := .type "list_iterator", data := .fields #[.ref l, .int 0 0] }) fresh hlk.1 (S.fr.push _) (S.nw.push S.fr _)
        refine road _ hlk ⟨_, _, _, _, S1⟩ (Heap.size_push ..) fun cI ρ₂ s₄ acc' RR hcI hp₂ hitI ra RI q => ?_
        have hl2 : ρ₂[r]? = some l := pre_get hp₂ hl
        have loop := comp_list (R := RR) (s := s₄) (ρ := ρ₂) (acc' := acc') (elt := elt) (iter := iter) (scope := scope) (pos := pos) hst (body_ok hi he) hcI hitI hl2 ra (fun o ho v M A Q E s hs hq => hto _ v o M A Q E s ho hs hq) q _ 0 _ _ hr rfl rfl RI
        refine codeAny_compStart_list loop ?_
        refine cps fun X_ k_ => ?_
        obtain ⟨mI, entI, fentI, extI, SI⟩ := RI
        refine k_ ?_
        clear k_ X_
        have hio := (SI.nw _ (List.mem_append_right _ (List.mem_append_right _ (SI.ext.its _ (.head _)).1))).1
        exact wpAny_pyIter_listiter (l := l) (i := 0) ⟨_, hio, rfl, rfl⟩ loop
      · exfalso
        obtain ⟨a', rfl⟩ : ∃ a', v' = .ref a' := by (replace rv := rv.iref; obtain ⟨_, _, rfl⟩ := rv); exact ⟨_, rfl⟩
        cases rv with | ref hl =>
        have := (List.getElem?_eq_some_iff.mp hl).1
        rw [S.len] at this
        exact Nat.lt_irrefl _ this
    · rename_i nn hxs0
      have hxs : σ.hp[r]? = some (.range nn) := by
        by_cases hlt : r < σ.hp.length
        · rw [List.getElem?_append_left hlt] at hxs0; exact hxs0
        · rw [List.getElem?_append_right (Nat.le_of_not_lt hlt)] at hxs0
          cases hd : r - σ.hp.length with
          | zero => rw [hd] at hxs0; simp at hxs0
          | succ j => rw [hd] at hxs0; simp at hxs0
      split at hr
      · rename_i hsm
        refine cps fun X_ k_ => ?_
        obtain ⟨l, ob, e1, e2, r', e3, e4, e5⟩ := S.objAt hxs
        refine k_ ?_
        clear k_ X_
        cases rv with | ref hl =>
        rw [e1] at hl
        cases hl
        cases r' with | @range n0 t0 u0 v0 =>
        have hsmall := small_log hsm
        have hsm' : Builtin.Range.small 0 nn 1 = true := PySem.small_one (by decide) (by decide) (by omega) (by omega)
        refine wpAny_pyIter_range (r := l) (a := 0) (b := nn) (c := 1) e3 hsm' ?_
        have hsz : Builtin.Range.rangeSize 0 nn 1 = (nn.toNat : Int) := by rw [rangeSize_one]; split <;> omega
        rw [hsz]
        have S1 := S.keepIt (o := { cls := .type "range_iterator", data := .fields #[rawInt 0, rawInt (nn.toNat : Nat), rawInt 1] }) fresh like_range.1 (S.fr.push _) (S.nw.push S.fr _)
        refine cps fun X_ k_ => ?_
        rcases htr with ⟨x, p, rfl⟩ | hno
        all_goals refine k_ ?_
        all_goals clear k_ X_
        · refine road _ like_range ⟨_, _, _, _, S1⟩ (Heap.size_push ..) fun cI ρ₂ s₄ acc' RR hcI hp₂ hitI ra RI q => ?_
          have loop := comp_range (R := RR) (s := s₄) (ρ := ρ₂) (acc' := acc') (elt := elt) (iter := iter) (scope := scope) (pos := pos) hst (body_ok hi he) hcI hitI ra (fun v => rfl) q _ 0 _ hr RI
          refine codeAny_compStart_list loop ?_
          refine cps fun X_ k_ => ?_
          obtain ⟨mI, entI, fentI, extI, SI⟩ := RI
          refine k_ ?_
          clear k_ X_
          have hio := (SI.nw _ (List.mem_append_right _ (List.mem_append_right _ (SI.ext.its _ (.head _)).1))).1
          exact wpAny_pyIter_rangeiter (x := 0) (left := (nn.toNat : Nat)) (step := 1) hio loop
        · rcases hno r nn with hno | hno
          · exact absurd rfl hno
          · exact absurd hxs hno
      · cases hr
    · cases hr
  · cases hr

/-- the cells a block of its own takes along -/
noncomputable def ClosForC (scope : Scope) (fns : List Str) : Prop := ∀ (env : Env) (cl : List (Str × Addr)), fns.mapM (fun x => (env.cells.lookup x).map fun a => (x, a)) = some cl → closureFor scope env = pure cl

structure CompIs (G : Gd) (sc : Scope) (scope sc₂ : Scope) (fns : List Str) : Prop where
  rel : ∀ env : Env, env.scope = sc → relabel scope env = sc₂
  kind2 : sc₂.kind = .function
  lam : sc₂ ≠ G.lamScope
  cell : ∀ x ∈ scope.names, x.2 ≠ .cell
  kind : scope.kind = .function
  names : ∀ x ∈ scope.names, x.2 = .local → scope.names.lookup x.1 = some .local
  clos : ClosForC scope fns

/-- the cells are there -/
noncomputable def aHas (fns : List Str) : AM Unit := fun σ => match aPick σ fns with
  | some _ => .ok () σ
  | none => .stuck
/-- a list alone is walked -/
noncomputable def aOnlyList (v : AV) : AM Unit := fun σ => onRef v fun r => onList σ r fun _ => .ok () σ
theorem onlyList_cases (v : AV) (σ : AS) : aOnlyList v σ = .stuck ∨ ∃ r xs, v = .ref r ∧ σ.hp[r]? = some (.list xs) ∧ aOnlyList v σ = .ok () σ := by
  by_cases q : aOnlyList v σ = .stuck
  · exact .inl q
  · obtain ⟨r, rfl, h⟩ := onRef_ns q
    obtain ⟨xs, h1, -⟩ := onList_ns h
    exact .inr ⟨r, xs, rfl, h1, onList_e h1⟩

noncomputable abbrev pcomp (G : Gd) (c : Cx) (t elt iter : Expr) (ifs : List Expr) (scope : Scope) (pos : Pos) (cl : List (Str × Addr)) (use : Option (Value → Sem Unit)) (x : Value) : PT Value := fun Q E s =>
  wpAny G.M c.A (pyIter x) (fun it s₂ => wpAny G.M c.A (newList []) (fun acc s₃ =>
      wpAny G.M c.A (newFunctionEnv scope c.env.globals cl [] c.env.qual none .none (some c.env)) (fun cenv s₄ =>
        codeAny G.M c.A (.compStart (.ListComp elt [⟨t, iter, ifs, 0⟩] scope pos) 0 it acc { cenv with scope := relabel scope c.env }) (compPost G.M c.A E use Q acc cenv.locals) s₄) E s₃) E s₂) E s

noncomputable def TargetOk (t : Expr) (mo : AV → AM Unit) : Prop := (∀ it v (o : Obj) (M : Model) (A : Around) Q E (s : Shared), o.cls = .type "list_iterator" → s.heap.get? it = some o → Q () s → wpAny M A (letOwnedTupleGo t (.ref it) v) Q E s) ∧
  ((mo = (fun _ => pure ()) ∧ ∃ x p, t = .Name x p) ∨ mo = aOnlyList)
theorem target_name (x : Str) (p : Pos) : TargetOk (.Name x p) (fun _ => pure ()) := ⟨fun it v o M A Q E s _ _ hq => wpAny_pure hq, .inl ⟨rfl, _, _, rfl⟩⟩
theorem let_owned {es : List Expr} {k : Nat} {p : Pos} {it : Addr} {v : Value} {o : Obj} {M : Model} {A : Around} {Q : Unit → Shared → Prop} {E : Value → Shared → Prop} {s : Shared} (ho : o.cls = .type "list_iterator" ∨ o.cls = .type "range_iterator") (hs : s.heap.get? it = some o) (hq : Q () s) :
    wpAny M A (letOwnedTupleGo (.Tuple es k p) (.ref it) v) Q E s := by
  unfold letOwnedTupleGo
  cases v with
  | ref a =>
    refine wpAny_bind (wpAny_load hs ?_)
    refine cps fun X_ k_ => ?_
    obtain ⟨oc, od, odt, osl⟩ := o
    refine k_ ?_
    clear k_ X_
    dsimp only at ho
    rcases ho with ho | ho <;> subst ho <;> cases odt <;> first | exact wpAny_pure hq | exact hq | (dsimp only; rw [if_neg (by decide +revert)]; exact wpAny_pure hq)
  | _ => exact wpAny_pure hq
theorem target_tuple (es : List Expr) (k : Nat) (p : Pos) : TargetOk (.Tuple es k p) aOnlyList := ⟨fun it v o M A Q E s ho hs hq => let_owned (.inl ho) hs hq, .inr rfl⟩

theorem comp_value {t elt iter : Expr} {ifs : List Expr} {scope sc₂ : Scope} {pos : Pos} {st : AV → AM Unit} {mt : AM Bool} {me : AM AV} {fns : List Str} {mo : AV → AM Unit} {v : AV} {v' : Value} {cl : List (Str × Addr)} (CI : CompIs G sc scope sc₂ fns)
    (hto : TargetOk t mo) (hst : RefAs G n sc₂ t st) (hi : RefIfs G n sc₂ ifs mt) (he : RefE G n sc₂ elt me) (hc : OkCx G n sc c) (R : Rel G c σ ρ s.heap) (rv : VR ρ v v') (hcl : fns.mapM (fun x => (c.env.cells.lookup x).map fun a => (x, a)) = some cl)
    {use : Option (Value → Sem Unit)} {Q : Value → Shared → Prop} {E : Value → Shared → Prop} {a : AV} {σ' : AS} (hr : (do mo v; aComp fns st mt me v : AM AV) σ = .ok a σ')
    (k : ∀ ρ' acc' C h' tk m' oC, ρ <+: ρ' → Rel G (c.holdIt (C, oC)) σ' ρ' h' → (∀ q ∈ c.its, q.1 ≠ C) → NsObj oC m' → VR ρ' a acc' → compPost G.M c.A E use Q acc' C (.ok .next) (up s h' tk)) :
    pcomp G c t elt iter ifs scope pos cl use v' Q E s := by
  refine cps fun X_ k_ => ?_
  obtain ⟨m, ent, fent, ext, S⟩ := R
  have hr' : aComp fns st mt me v σ = .ok a σ' ∧ ((∃ x p, t = .Name x p) ∨ ∀ (r : Nat) (n : Int), v ≠ .ref r ∨ σ.hp[r]? ≠ some (AO.range n)) := by
    rcases hto.2 with ⟨rfl, h⟩ | rfl
    · exact ⟨hr, .inl h⟩
    · replace hr : (aOnlyList v σ).bind (fun _ => aComp fns st mt me v) = .ok a σ' := hr
      rcases onlyList_cases v σ with q | ⟨r, xs, rfl, hxs, q⟩
      · rw [q] at hr; cases hr
      · rw [q] at hr
        refine ⟨hr, .inr fun r' n' => ?_⟩
        by_cases q : r' = r
        · subst q; exact .inr (by rw [hxs]; intro z; cases z)
        · exact .inl (by intro z; cases z; exact q rfl)
  obtain ⟨hr, htr⟩ := hr'
  refine k_ ?_
  clear k_ X_
  unfold aComp at hr
  split at hr
  · rename_i cs hcs
    split at hr
    · rename_i σf hf
      cases hr
      refine cps fun X_ k_ => ?_
      obtain ⟨cl', h1, h2⟩ := pick_ok S hcs
      refine k_ ?_
      clear k_ X_
      rw [hcl] at h1
      cases h1
      exact comp_core CI.rel CI.kind2 CI.lam CI.cell CI.kind hst hi he hto.1 htr hc S rv h2 hf k
    · cases hr
  · cases hr

theorem aComp_noexc (fns : List Str) (st : AV → AM Unit) (mt : AM Bool) (me : AM AV) (v : AV) (σ : AS) (x : Nat) (σ' : AS) : aComp fns st mt me v σ ≠ .exc x σ' := by
  intro h
  unfold aComp at h
  split at h
  · split at h <;> cases h
  · cases h
theorem mo_noexc {t : Expr} {mo : AV → AM Unit} (h : TargetOk t mo) (v : AV) (σ : AS) (x : Nat) (σ' : AS) : mo v σ ≠ .exc x σ' := by
  intro q
  refine cps fun X_ k_ => ?_
  rcases h.2 with ⟨rfl, _⟩ | rfl
  all_goals refine k_ ?_
  all_goals clear k_ X_
  · cases q
  · rcases onlyList_cases v σ with h | ⟨_, _, _, _, h⟩
    · rw [h] at q; cases q
    · rw [h] at q; cases q
theorem both_noexc {t : Expr} {mo : AV → AM Unit} (h : TargetOk t mo) (fns : List Str) (st : AV → AM Unit) (mt : AM Bool) (me : AM AV) (v : AV) (σ : AS) (x : Nat) (σ' : AS) : (do mo v; aComp fns st mt me v : AM AV) σ ≠ .exc x σ' := by
  intro q
  have q : (mo v σ).bind (fun _ => aComp fns st mt me v) = .exc x σ' := q
  cases hm : mo v σ with
  | ok u σ₁ => rw [hm] at q; exact aComp_noexc _ _ _ _ _ _ _ _ q
  | exc y σ₁ => exact mo_noexc h _ _ _ _ hm
  | stuck => rw [hm] at q; cases q

theorem like_frame {oC : Obj} {m' : Str → Option Value} (h : NsObj oC m') : ItLike oC := by
  refine cps fun X_ k_ => ?_
  obtain ⟨es, ep, hd, hk, hf⟩ := h
  refine k_ ?_
  clear k_ X_
  exact ⟨.inr (.inl fun vs q => (by rw [hd] at q; cases q)), fun ps q => (by rw [q] at hd; cases hd), fun vs q t e => (by rw [hd] at e; cases e)⟩

/-- a list made by a block of its own, as a value -/
theorem ref_comp {t elt iter : Expr} {ifs : List Expr} {scope sc₂ : Scope} {pos : Pos} {st : AV → AM Unit} {mt : AM Bool} {me mi : AM AV} {fns : List Str} {mo : AV → AM Unit} (CI : CompIs G sc scope sc₂ fns) (hto : TargetOk t mo)
    (hit : RefE G n sc iter mi) (hst : RefAs G n sc₂ t st) (hi : RefIfs G n sc₂ ifs mt) (he : RefE G n sc₂ elt me) (hs : ∀ env x, foldedSetIterable iter env x = pure x := by intros; rfl) :
    RefE G n sc (.ListComp elt [⟨t, iter, ifs, 0⟩] scope pos) (do aHas fns; let v ← mi; mo v; aComp fns st mt me v) := by
  intro c σ ρ s hc R
  show W G c ρ s _ VR ((aHas fns σ).bind _)
  unfold aHas
  cases hp : aPick σ fns with
  | none => trivial
  | some cs =>
    have R0 := R
    refine cps fun X_ k_ => ?_
    obtain ⟨m, ent, fent, ext, S⟩ := R
    obtain ⟨cl, h1, h2⟩ := pick_ok S hp
    refine k_ ?_
    clear k_ X_
    show W G c ρ s _ VR ((do let v ← mi; mo v; aComp fns st mt me v : AM AV) σ)
    refine W.conv (p' := PT.bind (pt G c (eval iter c.env)) fun x => pcomp G c t elt iter ifs scope pos cl none x) (fun Q E q => ?_) ?_
    · show wpAny _ _ (eval _ _) _ _ _
      rw [eval_ListComp]
      exact wpAny_comprehension_free (use := none) rfl (hs _) (CI.clos _ _ h1) CI.kind CI.names q
    · refine W.bind (hit c σ ρ s hc R0) fun v σ' ρ' v' h' tk hp' R' rv => ?_
      cases hr : (do mo v; aComp fns st mt me v : AM AV) σ' with
      | stuck => trivial
      | exc x σ₁ => exact absurd hr (both_noexc hto _ _ _ _ _ _ _ _)
      | ok a σ₁ =>
        intro Q E q
        refine comp_value (s := up s h' tk) CI hto hst hi he hc R' rv h1 hr fun ρ₂ acc' C h₂ tk₂ m₂ oC hp₂ R₂ hits hns ra => ?_
        refine cps fun X_ k_ => ?_
        obtain ⟨m₃, ent₃, fent₃, ext₃, S₃⟩ := R₂
        have hgC := (S₃.nw _ (List.mem_append_right _ (List.mem_append_right _ (S₃.ext.its _ (.head _)).1))).1
        have hlk := like_frame hns
        obtain ⟨es, ep, hd, hk, hf⟩ := hns
        refine k_ ?_
        clear k_ X_
        refine ⟨m₂, ⟨oC, es, ep, hgC, hd, hk, hf⟩, fun h₄ hs₄ => ?_⟩
        exact q ρ₂ acc' h₄ tk₂ hp₂ (rel_dropIt ⟨_, _, _, _, S₃⟩ hlk hs₄.extBut hits) ra

/-- .. and stored under a name at once -/
theorem refs_comp {y : Str} {py spos : Pos} {t elt iter : Expr} {ifs : List Expr} {scope sc₂ : Scope} {pos : Pos} {st : AV → AM Unit} {mt : AM Bool} {me mi : AM AV} {fns : List Str} {mo : AV → AM Unit} {sty : AV → AM Unit} (CI : CompIs G sc scope sc₂ fns) (hto : TargetOk t mo)
    (hit : RefE G n sc iter mi) (hst : RefAs G n sc₂ t st) (hi : RefIfs G n sc₂ ifs mt) (he : RefE G n sc₂ elt me) (hy : RefN G n sc y sty) (hyn : ∀ v σ x σ', sty v σ ≠ .exc x σ') (hsw : ∀ env : Env, env.scope = sc → swapsWith (.ListComp elt [⟨t, iter, ifs, 0⟩] scope pos) (some (.Name y py)) spos.line env = pure true)
    (hs : ∀ env x, foldedSetIterable iter env x = pure x := by intros; rfl) :
    RefS G n sc (.Assign [.Name y py] (.ListComp elt [⟨t, iter, ifs, 0⟩] scope pos) spos) (do aHas fns; let v ← mi; mo v; let a ← aComp fns st mt me v; sty a; pure .next) := by
  intro c σ ρ s hc R
  show W G c ρ s _ RF ((aHas fns σ).bind _)
  unfold aHas
  cases hp : aPick σ fns with
  | none => trivial
  | some cs =>
    have R0 := R
    refine cps fun X_ k_ => ?_
    obtain ⟨m, ent, fent, ext, S⟩ := R
    obtain ⟨cl, h1, h2⟩ := pick_ok S hp
    refine k_ ?_
    clear k_ X_
    show W G c ρ s _ RF ((do let v ← mi; mo v; let a ← aComp fns st mt me v; sty a; pure .next : AM AF) σ)
    refine W.conv (p' := PT.bind (pt G c (eval iter c.env)) fun x => fun Q E s => pcomp G c t elt iter ifs scope pos cl (some (assign (.Name y py) c.env)) x (fun _ s' => Q .next s') E s) (fun Q E q => ?_) ?_
    · rw [exec_Assign_Name_used _ _ _ _ (hsw _ hc.hsc)]
      refine wpAny_bind (wpAny_standAt (wpAny_bind ?_))
      show wpAny _ _ (do let _ ← comprehension (.ListComp elt [⟨t, iter, ifs, 0⟩] scope pos) scope c.env _ (newList []) false (eval iter c.env) (some (assign (.Name y py) c.env))) _ _ s
      exact wpAny_bind (wpAny_mono (wpAny_comprehension_free (use := some (assign (.Name y py) c.env)) (Q := fun _ s' => Q .next s') rfl (hs _) (CI.clos _ _ h1) CI.kind CI.names q) (fun _ s' hq => wpAny_pure (wpAny_pure hq)) fun _ _ e => e)
    · refine W.bind (hit c σ ρ s hc R0) fun v σ' ρ' v' h' tk hp' R' rv => ?_
      have e : (do mo v; let a ← aComp fns st mt me v; sty a; pure .next : AM AF) σ' = ((do mo v; aComp fns st mt me v : AM AV) σ').bind fun a => (do sty a; pure .next : AM AF) := by
        show (mo v σ').bind _ = ((mo v σ').bind _).bind _
        cases mo v σ' <;> rfl
      rw [e]
      cases hr : (do mo v; aComp fns st mt me v : AM AV) σ' with
      | stuck => trivial
      | exc x σ₁ => exact absurd hr (both_noexc hto _ _ _ _ _ _ _ _)
      | ok a σ₁ =>
        show W _ _ _ _ _ _ ((sty a σ₁).bind fun _ => (pure .next : AM AF))
        cases hsty : sty a σ₁ with
        | stuck => trivial
        | exc x σ₂ => exact absurd hsty (hyn _ _ _ _)
        | ok u σ₂ =>
          intro Q E q
          refine comp_value (s := up s h' tk) CI hto hst hi he hc R' rv h1 hr fun ρ₂ acc' C h₂ tk₂ m₂ oC hp₂ R₂ hits hns ra => ?_
          have hlk := like_frame hns
          have z := refas_name (px := py) hy (c.holdIt (C, oC)) σ₁ ρ₂ (up (up s h' tk) h₂ tk₂) a acc' (hc.holdIt _) R₂ ra
          rw [hsty] at z
          refine z _ _ fun ρ₃ _ h₃ tk₃ hp₃ R₃ _ => ?_
          refine cps fun X_ k_ => ?_
          obtain ⟨m₃, ent₃, fent₃, ext₃, S₃⟩ := R₃
          have hgC := (S₃.nw _ (List.mem_append_right _ (List.mem_append_right _ (S₃.ext.its _ (.head _)).1))).1
          obtain ⟨es, ep, hd, hk, hf⟩ := hns
          refine k_ ?_
          clear k_ X_
          refine ⟨m₂, ⟨oC, es, ep, hgC, hd, hk, hf⟩, fun h₄ hs₄ => ?_⟩
          exact q ρ₃ .next h₄ tk₃ (hp₂.trans hp₃) (rel_dropIt ⟨_, _, _, _, S₃⟩ hlk hs₄.extBut hits) .next
end
end Mine

open PySem PySem.W PyProof.Rows PySem.Calls PySem.SeqAt PySem.MeetsSeq PySem.SeqRoads2
set_option Elab.async false
set_option maxRecDepth 100000
set_option maxHeartbeats 400000
set_option linter.unusedVariables false
namespace Mine

noncomputable def allSame (f : AV → AV → Bool) : List AV → List AV → Bool
  | [], ys => (match ys with | [] => true | _ :: _ => false)
  | x :: xs, ys => (match ys with | [] => false | y :: ys => f x y && allSame f xs ys)
noncomputable def atomSame (a b : AV) : Bool := match a with
  | .none => decide (b = .none)
  | .int x => decide (b = .int x)
  | .str x => decide (b = .str x)
  | .bytes x => decide (b = .bytes x)
  | .ref x => decide (b = .ref x)
  | _ => false
noncomputable def listAt (hp : List AO) (i : Nat) : Option (List AV) := match hp[i]? with
  | some o => (match o with | .list xs => some xs | _ => none)
  | none => none
noncomputable def tupAt (hp : List AO) (i : Nat) : Option (List AV) := match hp[i]? with
  | some o => (match o with | .tuple xs => some xs | _ => none)
  | none => none
theorem listAt_some {hp : List AO} {i : Nat} {xs : List AV} (h : listAt hp i = some xs) : hp[i]? = some (.list xs) := by
  unfold listAt at h
  cases e : hp[i]? with
  | none => rw [e] at h; exact nomatch h
  | some o =>
    rw [e] at h
    cases o with
    | list ys => exact congrArg (fun l => some (AO.list l)) (Option.some.inj h)
    | _ => exact nomatch h
theorem tupAt_some {hp : List AO} {i : Nat} {xs : List AV} (h : tupAt hp i = some xs) : hp[i]? = some (.tuple xs) := by
  unfold tupAt at h
  cases e : hp[i]? with
  | none => rw [e] at h; exact nomatch h
  | some o =>
    rw [e] at h
    cases o with
    | tuple ys => exact congrArg (fun l => some (AO.tuple l)) (Option.some.inj h)
    | _ => exact nomatch h
noncomputable def both (a b : Option (List AV)) (f : List AV → List AV → Bool) : Bool := match a with
  | some xs => (match b with | some ys => f xs ys | none => false)
  | none => false
theorem both_inv {a b : Option (List AV)} {f : List AV → List AV → Bool} (h : both a b f = true) : ∃ xs ys, a = some xs ∧ b = some ys ∧ f xs ys = true := by
  cases a with
  | none => exact nomatch h
  | some xs => cases b with
    | none => exact nomatch h
    | some ys => exact ⟨xs, ys, rfl, rfl, h⟩
noncomputable def seqSame (hp : List AO) (f : List AV → List AV → Bool) (x y : AV) : Bool := match x with
  | .ref i => (match y with
    | .ref j => both (listAt hp i) (listAt hp j) f || both (tupAt hp i) (tupAt hp j) f
    | _ => false)
  | _ => false
theorem seqSame_inv {hp : List AO} {f : List AV → List AV → Bool} {x y : AV} (h : seqSame hp f x y = true) : ∃ i j xs ys, x = .ref i ∧ y = .ref j ∧ f xs ys = true ∧ (hp[i]? = some (.list xs) ∧ hp[j]? = some (.list ys) ∨ hp[i]? = some (.tuple xs) ∧ hp[j]? = some (.tuple ys)) := by
  cases x with
  | ref i => cases y with
    | ref j =>
      rcases Bool.or_eq_true_iff.mp h with h | h
      · obtain ⟨xs, ys, h1, h2, h3⟩ := both_inv h
        exact ⟨i, j, xs, ys, rfl, rfl, h3, .inl ⟨listAt_some h1, listAt_some h2⟩⟩
      · obtain ⟨xs, ys, h1, h2, h3⟩ := both_inv h
        exact ⟨i, j, xs, ys, rfl, rfl, h3, .inr ⟨tupAt_some h1, tupAt_some h2⟩⟩
    | _ => exact nomatch h
  | _ => exact nomatch h
/-- two values that are the same for «==», found so by walking them -/
noncomputable def same (hp : List AO) : Nat → AV → AV → Bool
  | 0, x, y => atomSame x y
  | d + 1, x, y => atomSame x y || seqSame hp (allSame (same hp d)) x y
noncomputable def aEqS (op : CmpOp) (a b : AV) : AM AV := fun σ => match op with
  | .Eq => onRef a fun i => onRef b fun j => onOpt σ.hp[i]? fun o => (match o with
    | .list xs => onList σ j fun ys => if allSame (same σ.hp 4) xs ys then .ok (.bool true) σ else .stuck
    | .tuple xs => onTup σ j fun ys => if allSame (same σ.hp 4) xs ys then .ok (.bool true) σ else .stuck
    | _ => .stuck)
  | .NotEq => (match a with
    | .ref i => onRef b fun j => onList σ i fun xs => onList σ j fun ys => if allSame (same σ.hp 4) xs ys then .ok (.bool false) σ else .stuck
    | .none => if b = .none then .ok (.bool false) σ else .stuck
    | .bytes x => (match b with | .bytes y => .ok (.bool (x.toList != y.toList)) σ | _ => .stuck)
    | _ => int2 a b fun x y => .ok (.bool (x != y)) σ)
  | _ => .stuck

theorem allSame_len {f : AV → AV → Bool} {xs ys : List AV} (h : allSame f xs ys = true) : xs.length = ys.length := by
  induction xs generalizing ys with
  | nil => cases ys with
    | nil => rfl
    | cons y ys => exact nomatch h
  | cons x xs ih => cases ys with
    | nil => exact nomatch h
    | cons y ys => exact congrArg Nat.succ (ih (Bool.and_eq_true_iff.mp h).2)
theorem allSame_get {f : AV → AV → Bool} {xs ys : List AV} (h : allSame f xs ys = true) {j : Nat} {x y : AV} (hx : xs[j]? = some x) (hy : ys[j]? = some y) : f x y = true := by
  induction xs generalizing ys j with
  | nil => exact nomatch hx
  | cons x' xs ih => cases ys with
    | nil => exact nomatch hy
    | cons y' ys =>
      have h : (f x' y' && allSame f xs ys) = true := h
      have h := Bool.and_eq_true_iff.mp h
      cases j with
      | zero => rw [← Option.some.inj hx, ← Option.some.inj hy]; exact h.1
      | succ j => exact ih h.2 hx hy

theorem eqAt_bytes (b c : Array UInt8) (t u : Tok) (h : b = c) (A : Around) (s : Shared) : EqAt A s (.bytes b t) (.bytes c u) true := by
  intro prog w E Q hq
  unfold eqBool
  refine wpAny_holding ?_
  refine wpAny_ite_split (fun hab => ?_) (fun hab => ?_)
  · exact wpAny_bind (wpAny_rule (wpAny_pure hq))
  · exact wpAny_bind (richCompare_gives (op := .Eq) (typeIs_bytes s b t) (typeIs_bytes s c u) FB.slot_bytes_eq FB.entry_bytes_eq (FB.args_bytes_eq_2 _ _) (gives_bytes_eq b c t u) (by simp [Made.takes]) (wpAny_truthy_bool (by subst h; simpa using hq)))

section
variable {G : Gd} {n : Nat} {sc : Scope} {c : Cx} {σ : AS} {ρ : List Addr} {s : Shared} {h h' : Heap} {m : Str → Option Value} {ent fent ext : List (Addr × Obj)} {C : Addr} {names : List Str}

theorem atom_ok {A : Around} {x y : AV} {x' y' : Value} (h : atomSame x y = true) (hx : VR ρ x x') (hy : VR ρ y y') : EqAt A s x' y' true := by
  cases x with
  | none =>
    obtain rfl := of_decide_eq_true h
    (replace hx := hx.inone; obtain rfl := hx); (replace hy := hy.inone; obtain rfl := hy); exact EqAt.same _
  | int a =>
    obtain rfl := of_decide_eq_true h
    (replace hx := hx.iint; obtain ⟨t, rfl⟩ := hx); (replace hy := hy.iint; obtain ⟨u, rfl⟩ := hy)
    have := (EqGives.int a a t u).at A s
    rwa [show (a == a) = true from beq_self_eq_true a] at this
  | str a =>
    obtain rfl := of_decide_eq_true h
    (replace hx := hx.istr; obtain ⟨t, rfl⟩ := hx); (replace hy := hy.istr; obtain ⟨u, rfl⟩ := hy)
    have := (EqGives.str a a t u).at A s
    simpa using this
  | bytes a =>
    obtain rfl := of_decide_eq_true h
    (replace hx := hx.ibytes; obtain ⟨_, rfl⟩ := hx); (replace hy := hy.ibytes; obtain ⟨_, rfl⟩ := hy)
    exact eqAt_bytes _ _ _ _ rfl _ _
  | ref i =>
    obtain rfl := of_decide_eq_true h
    (replace hx := hx.iref; obtain ⟨a, h1, rfl⟩ := hx); (replace hy := hy.iref; obtain ⟨b, h2, rfl⟩ := hy)
    rw [h2] at h1
    obtain rfl := Option.some.inj h1
    exact EqAt.same _
  | _ => exact nomatch h

theorem St.seqs (S : St G c σ ρ s.heap m ent fent ext) {i : Nat} {xs : List AV} {a : Addr} (e : σ.hp[i]? = some (.list xs)) (ha : ρ[i]? = some a) : ∃ vs, s.heap.IsList a vs.toArray ∧ All2 (VR ρ) xs vs := by
  refine cps fun X_ k_ => ?_
  obtain ⟨a', ob, e1, e2, r, e3, e4, e5⟩ := S.objAt e
  refine k_ ?_
  clear k_ X_
  rw [ha] at e1; cases e1
  cases r with | list hv => exact ⟨_, ⟨_, e3, rfl, _, rfl⟩, hv⟩
theorem St.tups (S : St G c σ ρ s.heap m ent fent ext) {i : Nat} {xs : List AV} {a : Addr} (e : σ.hp[i]? = some (.tuple xs)) (ha : ρ[i]? = some a) : ∃ vs, s.heap.IsTuple a vs.toArray ∧ All2 (VR ρ) xs vs := by
  refine cps fun X_ k_ => ?_
  obtain ⟨a', ob, e1, e2, r, e3, e4, e5⟩ := S.objAt e
  refine k_ ?_
  clear k_ X_
  rw [ha] at e1; cases e1
  cases r with | tuple hv => exact ⟨_, ⟨_, e3, rfl, _, rfl⟩, hv⟩
theorem all_true (k : Nat) : (List.range k).all (fun _ => true) = true := by simp

theorem elems_ok {A : Around} {f : AV → AV → Bool} (hf : ∀ x y x' y', f x y = true → VR ρ x x' → VR ρ y y' → EqAt A s x' y' true) {xs ys : List AV} {vs us : List Value} (h : allSame f xs ys = true) (hx : All2 (VR ρ) xs vs) (hy : All2 (VR ρ) ys us) :
    ∀ j (h1 : j < vs.toArray.size) (h2 : j < us.toArray.size), EqAt A s vs.toArray[j] us.toArray[j] true := fun j h1 h2 => by
  rw [List.size_toArray] at h1 h2
  have l1 := hx.length
  have l2 := hy.length
  refine cps fun X_ k_ => ?_
  obtain ⟨v, hv, rv⟩ := hx.get (List.getElem?_eq_getElem (show j < xs.length by omega))
  obtain ⟨u, hu, ru⟩ := hy.get (List.getElem?_eq_getElem (show j < ys.length by omega))
  refine k_ ?_
  clear k_ X_
  have e1 : vs.toArray[j] = v := by
    rw [List.getElem?_eq_getElem h1] at hv
    simpa using hv
  have e2 : us.toArray[j] = u := by
    rw [List.getElem?_eq_getElem h2] at hu
    simpa using hu
  rw [e1, e2]
  exact hf _ _ _ _ (allSame_get h (List.getElem?_eq_getElem _) (List.getElem?_eq_getElem _)) rv ru

theorem same_ok (S : St G c σ ρ s.heap m ent fent ext) (d : Nat) : ∀ (A : Around) (x y : AV) (x' y' : Value), A.units + d < cLine → same σ.hp d x y = true → VR ρ x x' → VR ρ y y' → EqAt A s x' y' true := by
  induction d with
  | zero => exact fun A x y x' y' hu h hx hy => atom_ok h hx hy
  | succ d ih =>
    intro A x y x' y' hu h hx hy
    unfold same at h
    rw [Bool.or_eq_true] at h
    rcases h with h | h
    · exact atom_ok h hx hy
    · refine cps fun X_ k_ => ?_
      obtain ⟨i, j, xs, ys, rfl, rfl, h, q⟩ := seqSame_inv h
      (replace hx := hx.iref; obtain ⟨a, h1, rfl⟩ := hx); (replace hy := hy.iref; obtain ⟨b, h2, rfl⟩ := hy)
      refine k_ ?_
      clear k_ X_
      by_cases hab : a = b
      · rw [hab]; exact EqAt.same _
      · rcases q with ⟨q1, q2⟩ | ⟨q1, q2⟩
        · refine cps fun X_ k_ => ?_
          obtain ⟨vs, v1, v2⟩ := S.seqs q1 h1
          obtain ⟨us, u1, u2⟩ := S.seqs q2 h2
          refine k_ ?_
          clear k_ X_
          have hsz : vs.toArray.size = us.toArray.size := by rw [List.size_toArray, List.size_toArray, ← v2.length, ← u2.length, allSame_len h]
          have z := RcAt.lists (A := A) (e := fun _ => true) v1 u1 hsz (by omega) (elems_ok (fun x y x' y' => ih A.in1 x y x' y' (by show A.units + 1 + d < _; omega)) h v2 u2)
          rw [all_true] at z
          exact EqAt.of_refs hab z
        · refine cps fun X_ k_ => ?_
          obtain ⟨vs, v1, v2⟩ := S.tups q1 h1
          obtain ⟨us, u1, u2⟩ := S.tups q2 h2
          refine k_ ?_
          clear k_ X_
          have hsz : vs.toArray.size = us.toArray.size := by rw [List.size_toArray, List.size_toArray, ← v2.length, ← u2.length, allSame_len h]
          have z := RcAt.tuples (A := A) (e := fun _ => true) v1 u1 (by omega) (elems_ok (fun x y x' y' => ih A.in1 x y x' y' (by show A.units + 1 + d < _; omega)) h v2 u2)
          rw [all_true, hsz] at z
          simp only [BEq.rfl, Bool.and_self] at z
          exact EqAt.of_refs hab z

theorem eqS_ok (op : CmpOp) : CmpOk G n sc op (aEqS op) := by
  intro c σ ρ s a b a' b' hc R ha hb
  have R0 := R
  refine cps fun X_ k_ => ?_
  obtain ⟨m, ent, fent, ext, S⟩ := R
  refine k_ ?_
  clear k_ X_
  have hu := hc.units
  have room : ∀ x y x' y', same σ.hp 4 x y = true → VR ρ x x' → VR ρ y y' → EqAt c.A.in1 s x' y' true := fun x y x' y' => same_ok S 4 _ x y x' y' (by show c.A.units + 1 + 4 < _; omega)
  cases op with
  | Eq =>
    refine W.onRef (p := fun v => pt G c (compareOp .Eq v b')) ha fun i x h1 _ => ?_
    refine W.onRef (p := fun v => pt G c (compareOp .Eq _ v)) hb fun j y h2 _ => ?_
    refine W.onOpt fun o q1 => ?_
    cases o with
    | list xs =>
      refine W.onList fun ys q2 => ?_
      refine W.when fun h => ?_
      refine cps fun X_ k_ => ?_
      obtain ⟨vs, v1, v2⟩ := S.seqs q1 h1
      obtain ⟨us, u1, u2⟩ := S.seqs q2 h2
      refine k_ ?_
      clear k_ X_
      have hsz : vs.toArray.size = us.toArray.size := by rw [List.size_toArray, List.size_toArray, ← v2.length, ← u2.length, allSame_len h]
      refine fun Q E q => eq_listAt (e := fun _ => true) v1 u1 hsz (by omega) (elems_ok room h v2 u2) ?_
      rw [all_true]
      exact q ρ _ s.heap s.toks (List.prefix_refl _) R0 (.bool _)
    | tuple xs =>
      refine W.onTup fun ys q2 => ?_
      refine W.when fun h => ?_
      refine cps fun X_ k_ => ?_
      obtain ⟨vs, v1, v2⟩ := S.tups q1 h1
      obtain ⟨us, u1, u2⟩ := S.tups q2 h2
      refine k_ ?_
      clear k_ X_
      have hsz : vs.toArray.size = us.toArray.size := by rw [List.size_toArray, List.size_toArray, ← v2.length, ← u2.length, allSame_len h]
      refine fun Q E q => eq_tupleAt (e := fun _ => true) v1 u1 (by omega) (elems_ok room h v2 u2) ?_
      rw [all_true, hsz]
      simp only [BEq.rfl, Bool.and_self]
      exact q ρ _ s.heap s.toks (List.prefix_refl _) R0 (.bool _)
    | _ => trivial
  | NotEq =>
    cases a with
    | ref i =>
      (replace ha := ha.iref; obtain ⟨x, h1, rfl⟩ := ha)
      refine W.onRef (p := fun v => pt G c (compareOp .NotEq _ v)) hb fun j y h2 _ => ?_
      refine W.onList fun xs q1 => ?_
      refine W.onList fun ys q2 => ?_
      refine W.when fun h => ?_
      refine cps fun X_ k_ => ?_
      obtain ⟨vs, v1, v2⟩ := S.seqs q1 h1
      obtain ⟨us, u1, u2⟩ := S.seqs q2 h2
      have hsz : vs.toArray.size = us.toArray.size := by rw [List.size_toArray, List.size_toArray, ← v2.length, ← u2.length, allSame_len h]
      obtain ⟨⟨cls, dd, data, sl⟩, ho, hcl, n1, hd⟩ := id v1
      obtain ⟨⟨cls2, dd2, data2, sl2⟩, ho2, hcl2, n2, hd2⟩ := id u1
      refine k_ ?_
      clear k_ X_
      simp only at hcl hd hcl2 hd2
      subst hcl hd hcl2 hd2
      intro Q E q
      refine richCompare_meets_room (op := .NotEq) ⟨_, ho, rfl⟩ ⟨_, ho2, rfl⟩ F.slot_list_ne F.entry_list_ne (F.args_list_ne_2 _ _) (list_neAt _ _ _ _ n1 n2 dd dd2 sl sl2 hsz (fun _ => true))
        ⟨ho, ho2, elems_ok room h v2 u2, show Value.bool (!(List.range vs.toArray.size).all fun _ => true) ≠ Value.notImplemented ∧ Q (.bool (!(List.range vs.toArray.size).all fun _ => true)) s from ⟨(fun x => nomatch x), ?_⟩⟩ (by omega)
      rw [all_true]
      exact q ρ _ s.heap s.toks (List.prefix_refl _) R0 (.bool _)
    | int x =>
      have z : W G c ρ s (pt G c (compareOp .NotEq a' b')) VR (int2 (.int x) b fun x y => .ok (.bool (x != y)) σ) := int2_ok ha hb fun x y t u e1 e2 => by
        subst e1 e2
        exact fun Q E q => ne_int (q ρ _ s.heap _ (List.prefix_refl _) R0 (.bool _))
      exact z
    | none =>
      refine W.when fun h => ?_
      subst h
      (replace ha := ha.inone; obtain rfl := ha); (replace hb := hb.inone; obtain rfl := hb); exact fun Q E q => PySem.EqNone.ne_none_none (q ρ _ s.heap s.toks (List.prefix_refl _) R0 (.bool _))
    | bytes x => cases b with
      | bytes y => (replace ha := ha.ibytes; obtain ⟨_, rfl⟩ := ha); (replace hb := hb.ibytes; obtain ⟨_, rfl⟩ := hb); exact fun Q E q => ne_bytes (q ρ _ s.heap s.toks (List.prefix_refl _) R0 (.bool _))
      | _ => trivial
    | _ => trivial
  | _ => trivial

/-- «xs[:40]» -/
noncomputable def aUpto (G : Gd) (k : Nat) (v : AV) : AM AV := fun σ => match v with
  | .obj a => if a = G.old then aNew (.list (G.oldVs.take k)) σ else .stuck
  | .ref r => onList σ r fun xs => if xs.length < 1000000 then aNew (.list (xs.take k)) σ else .stuck
  | _ => .stuck
theorem All2.take' {α β : Type} {R : α → β → Prop} {as : List α} {bs : List β} (h : All2 R as bs) (i : Nat) : All2 R (as.take i) (bs.take i) := h.take i
theorem ref_upto {e : Expr} {k kk : Nat} {cp p pos : Pos} {me : AM AV} (he : RefE G n sc e me) (ht : ∀ o r, letTemporaryGo e o r = pure () := by intros; rfl) :
    RefE G n sc (.Subscript e (.Slice none (some (.Constant (.int (k : Nat)) kk cp)) none p) pos) (do let v ← me; aUpto G k v) := by
  intro c σ ρ s hc R
  refine W.conv (p' := PT.bind (pt G c (eval e c.env)) fun o => fun Q E s₂ => ∃ l items, o = .ref l ∧ s₂.heap.IsList l items ∧ items.size ≤ sizeLine ∧
      ∀ tk, Q (.ref (s₂.heap.objs.size + 1)) { s₂ with heap := (s₂.heap.push { cls := .type "slice", data := .fields #[.none, .int (k : Nat) s₂.toks, .none] }).push { cls := .type "list", data := .seq (slicePick items none (some (k : Nat)) none) }, toks := tk }) (fun Q E q => ?_) ?_
  · refine wpAny_Subscript_list_slice (wpAny_mono q (fun o s₁ q₁ => ?_) fun _ _ z => z) ht
    refine cps fun X_ k_ => ?_
    obtain ⟨l, items, rfl, hl, hsz, hQ⟩ := q₁
    refine k_ ?_
    clear k_ X_
    refine wpAny_of_eq (a := Value.none) rfl ?_
    show wpAny _ _ (eval (.Constant (.int (k : Nat)) kk cp) c.env) _ _ _
    refine wpAny_Constant_int ?_
    exact ⟨l, items, none, some (k : Nat), rfl, hl, hsz, .none, .int _ _, hQ _⟩
  · refine W.bind (he c σ ρ s hc R) fun v σ' ρ' v' h' tk hp R' rv => ?_
    refine cps fun X_ k_ => ?_
    obtain ⟨m, ent, fent, ext, S⟩ := R'
    refine k_ ?_
    clear k_ X_
    have fin : ∀ (l : Addr) (vs : List Value) (xs : List AV), h'.IsList l vs.toArray → All2 (VR ρ') xs vs → xs.length < 1000000 → v' = .ref l → W G c ρ' (up s h' tk) (fun Q E s₂ => ∃ l items, v' = .ref l ∧ s₂.heap.IsList l items ∧ items.size ≤ sizeLine ∧
      ∀ tk, Q (.ref (s₂.heap.objs.size + 1)) { s₂ with heap := (s₂.heap.push { cls := .type "slice", data := .fields #[.none, .int (k : Nat) s₂.toks, .none] }).push { cls := .type "list", data := .seq (slicePick items none (some (k : Nat)) none) }, toks := tk }) VR (aNew (.list (xs.take k)) σ') := by
      intro a vs xs hIL hv hl hva
      have hlen := hv.length
      intro Q E q
      refine ⟨a, vs.toArray, hva, hIL, by rw [List.size_toArray, sizeLine_eq]; omega, fun tk' => ?_⟩
      rw [slicePick_upto']
      have F1 := S.fr.push (o := { cls := .type "slice", data := .fields #[.none, .int (k : Nat) tk, .none] })
      have F2 := F1.push (o := { cls := .type "list", data := .seq (vs.take k).toArray })
      have keep : ∀ b o, h'.get? b = some o → ((h'.push { cls := .type "slice", data := .fields #[.none, .int (k : Nat) tk, .none] }).push { cls := .type "list", data := .seq (vs.take k).toArray }).get? b = some o := fun b o e => Heap.get?_push_of_some _ (Heap.get?_push_of_some _ e)
      have hnew : ((h'.push { cls := .type "slice", data := .fields #[.none, .int (k : Nat) tk, .none] }).push { cls := .type "list", data := .seq (vs.take k).toArray }).get? (h'.objs.size + 1) = some (listOf (vs.take k).toArray 0) := by
        have := Heap.get?_push_size (h'.push { cls := .type "slice", data := .fields #[.none, .int (k : Nat) tk, .none] }) (o := listOf (vs.take k).toArray 0) rfl
        rwa [Heap.size_push] at this
      have S1 := S.alloc (a := h'.objs.size + 1) (ob := listOf (vs.take k).toArray 0) (o := .list (xs.take k)) (.list (hv.take k)) (fun p hp => Nat.lt_succ_of_lt (S.below p hp)) F2 (fun p hp => by
        rcases List.mem_cons.mp hp with rfl | hp
        · exact ⟨hnew, Nat.ne_of_gt (Nat.lt_succ_of_lt S.fr.ns.lt), Heap.get?_none_of_le (Nat.le_trans S.fr.above (Nat.le_of_lt (Nat.lt_succ_of_lt S.fr.ns.lt)))⟩
        · exact ⟨keep _ _ (S.nw p hp).1, (S.nw p hp).2⟩)
      have z := q (ρ' ++ [h'.objs.size + 1]) (.ref (h'.objs.size + 1)) _ tk' (List.prefix_append _ _) ⟨m, _, fent, ext, S1⟩ (.ref (S.newGet _))
      simpa using z
    cases v with
    | obj a0 =>
      refine W.when fun ha0 => ?_
      subst ha0
      refine cps fun X_ k_ => ?_
      obtain ⟨vs, o1, o2, o3⟩ := G.oldOk
      refine k_ ?_
      clear k_ X_
      (replace rv := rv.iobj; obtain rfl := rv)
      refine cps fun X_ k_ => ?_
      obtain ⟨o, ho, hr⟩ := o1
      refine k_ ?_
      clear k_ X_
      exact fin _ vs G.oldVs ⟨o, S.fr.keep _ _ ho, hr⟩ (o2.imp fun _ _ r => r.mono List.nil_prefix) o3 rfl
    | ref r =>
      refine W.onList fun xs hxs => ?_
      refine W.when fun hl => ?_
      refine cps fun X_ k_ => ?_
      obtain ⟨a, vs, kk', ea, hv, e2, e3⟩ := S.list hxs rv
      refine k_ ?_
      clear k_ X_
      exact fin a vs xs ⟨_, e3, rfl, _, rfl⟩ hv hl ea
    | _ => trivial

/-- the pairs of a dict display whose keys are written strs -/
inductive RefD (G : Gd) (n : Nat) (sc : Scope) : List (Option Expr) → List Expr → List Str → List (AM AV) → Prop
  | nil : RefD G n sc [] [] [] []
  | cons {x k p e m ks es xs ms} : RefE G n sc e m → RefD G n sc ks es xs ms → RefD G n sc (some (.Constant (.str x) k p) :: ks) (e :: es) (x :: xs) (m :: ms)
noncomputable def aDict (xs : List Str) (ms : List (AM AV)) : AM AV := fun σ => match aArgs ms { σ with hp := σ.hp ++ [.map []] } with
  | .ok vs σ' => if xs.Nodup ∧ xs.length = vs.length ∧ vs.length ≤ 15 then (match σ'.hp[σ.hp.length]? with
    | some (.map []) => .ok (.ref σ.hp.length) { σ' with hp := σ'.hp.set σ.hp.length (.map (xs.zip vs)) }
    | _ => .stuck) else .stuck
  | .exc x σ' => .exc x σ'
  | .stuck => .stuck
noncomputable def pairsOf (pos : Pos) (ks : List (Option Expr)) (es : List Expr) (env : Env) : List (Sem Value × Sem Value) := match ks, es with
  | some k :: ks, e :: es => (eval k env, do let x ← eval e env; standAt pos; pure x) :: pairsOf pos ks es env
  | _, _ => []
theorem pairs_shape (pos : Pos) {xs : List Str} {ms : List (AM AV)} : ∀ {ks : List (Option Expr)} {es : List Expr} {env : Env}, RefD G n sc ks es xs ms → (evalEachOpt ks env).zip ((evalEach es env).map fun v => do let x ← v; standAt pos; pure x) = (pairsOf pos ks es env).map fun p => (some p.1, p.2) := by
  intro ks es env h
  induction h with
  | nil => rfl
  | cons he t ih => exact congrArg _ ih
theorem pairs_len (pos : Pos) {xs : List Str} {ms : List (AM AV)} {ks : List (Option Expr)} {es : List Expr} {env : Env} (h : RefD G n sc ks es xs ms) : (pairsOf pos ks es env).length = xs.length ∧ ms.length = xs.length := by
  induction h with
  | nil => exact ⟨rfl, rfl⟩
  | cons he t ih => exact ⟨by simp [pairsOf, ih.1], by simp [ih.2]⟩
noncomputable abbrev PV (ρ : List Addr) (p : Str × AV) (q : Value × Value) : Prop := (∃ t, q.1 = .str p.1 t) ∧ VR ρ p.2 q.2
theorem pairs_ok (pos : Pos) {ks : List (Option Expr)} {es : List Expr} {xs : List Str} {ms : List (AM AV)} (h : RefD G n sc ks es xs ms) : ∀ c σ ρ s, OkCx G n sc c → Rel G c σ ρ s.heap →
    W G c ρ s (pt G c (evalPairs (pairsOf pos ks es c.env))) (fun ρ vs ps => All2 (PV ρ) (xs.zip vs) ps ∧ vs.length = xs.length) (aArgs ms σ) := by
  induction h with
  | nil => exact fun c σ ρ s hc R => fun Q E q => wpAny_pure (q ρ [] s.heap s.toks (List.prefix_refl _) R ⟨.nil, rfl⟩)
  | @cons x k p e m ks es xs ms he t ih =>
    intro c σ ρ s hc R
    refine W.conv (p' := PT.bind (pt G c (eval (.Constant (.str x) k p) c.env)) fun kv => PT.bind (pt G c (eval e c.env)) fun vv => PT.bind (pt G c (evalPairs (pairsOf pos ks es c.env))) fun r => fun Q E s => Q ((kv, vv) :: r) s) (fun Q E q => ?_) ?_
    · show wpAny _ _ (evalPairs ((_, _) :: _)) _ _ _
      rw [evalPairs]
      exact wpAny_bind (wpAny_mono q (fun kv s₁ q₁ => wpAny_bind (wpAny_holding (wpAny_bind (wpAny_mono q₁ (fun vv s₂ q₂ => wpAny_bind (wpAny_standAt (wpAny_pure (wpAny_bind (wpAny_holding (wpAny_mono q₂ (fun r s₃ q₃ => wpAny_pure q₃) fun _ _ z => z)))))) fun _ _ z => z)))) fun _ _ z => z)
    · have z := (ref_str (G := G) (n := n) (sc := sc) (x := x) (k := k) (pos := p)) c σ ρ s hc R
      refine W.bindE (r := Res.ok (AV.str x) σ) (g := fun _ σ => aArgs (_ :: _) σ) z fun v σ' e ρ' kv h' tk hp R' rk => ?_
      cases e
      (replace rk := rk.istr; obtain ⟨_, rfl⟩ := rk)
      refine W.bind (he c σ ρ' _ hc R') fun v σ'' ρ'' vv h'' tk' hp' R'' rv => ?_
      refine W.bind (ih c σ'' ρ'' _ hc R'') fun vs σ₃ ρ₃ ps h₃ tk₃ hp₃ R₃ rr => ?_
      exact W.pure R₃ ⟨.cons ⟨⟨_, rfl⟩, rv.mono hp₃⟩ rr.1, by simp [rr.2]⟩

theorem pv_keys {ρ : List Addr} {xs : List (Str × AV)} {ps : List (Value × Value)} (h : All2 (PV ρ) xs ps) : allStrKeys ps = true ∧ All2 (fun (p : Str × AV) (q : Str × Value) => p.1 = q.1 ∧ VR ρ p.2 q.2) xs (strPairs ps) := by
  induction h with
  | nil => exact ⟨rfl, .nil⟩
  | @cons x kv xs ps r t ih =>
    refine cps fun X_ k_ => ?_
    obtain ⟨⟨tk, rk⟩, rv⟩ := r
    refine k_ ?_
    clear k_ X_
    obtain ⟨k, v⟩ := kv
    dsimp only at rk rv
    subst rk
    exact ⟨ih.1, .cons ⟨rfl, rv⟩ ih.2⟩

theorem ref_dict {ks : List (Option Expr)} {es : List Expr} {xs : List Str} {ms : List (AM AV)} {pos : Pos} (h : RefD G n sc ks es xs ms) (h0 : xs ≠ []) (h15 : xs.length ≤ 15) : RefE G n sc (.Dict ks es pos) (aDict xs ms) := by
  intro c σ ρ s hc R
  refine cps fun X_ k_ => ?_
  obtain ⟨m, ent, fent, ext, S⟩ := R
  refine k_ ?_
  clear k_ X_
  have hpl := pairs_len pos (env := c.env) h
  have F1 := S.fr.push (o := { cls := .type "dict", data := .dict #[] })
  have hempty : Obj.IsDictOf (PySem.strKind G.prog G.w) { cls := .type "dict", data := .dict #[] } [] := by
    refine cps fun X_ k_ => ?_
    obtain ⟨o, ho, hd⟩ := Heap.dictOf_iff.mp (Heap.DictOf.new (knd := PySem.strKind G.prog G.w) s.heap)
    refine k_ ?_
    clear k_ X_
    rw [Heap.get?_push_size _ rfl] at ho
    cases ho
    exact hd
  have S1 := S.alloc (o := .map []) (ob := { cls := .type "dict", data := .dict #[] }) (.map hempty .nil) S.below F1 (S.nw.push S.fr _)
  have z := pairs_ok pos h c _ _ { s with heap := s.heap.push { cls := .type "dict", data := .dict #[] } } hc ⟨m, _, fent, ext, S1⟩
  unfold aDict
  cases hm : aArgs ms { σ with hp := σ.hp ++ [.map []] } with
  | stuck => trivial
  | exc x σ' =>
    rw [hm] at z
    intro Q E q
    exact wpAny_Dict_pairs (knd := PySem.strKind G.prog G.w) (pairs_shape pos h) (fun e => h0 (by have := hpl.1; rw [e] at this; exact List.length_eq_zero_iff.mp this.symm)) (by rw [hpl.1]; exact h15)
      (z _ _ fun ρ' e h' tk hp R' hx hf => q ρ' e h' tk ((List.prefix_append _ _).trans hp) R' hx hf)
  | ok vs σ' =>
    rw [hm] at z
    dsimp only
    split
    · rename_i hgood
      refine cps fun X_ k_ => ?_
      obtain ⟨hnd, hlen, h15'⟩ := hgood
      refine k_ ?_
      clear k_ X_
      split
      · rename_i hmap
        intro Q E q
        refine wpAny_Dict_pairs (knd := PySem.strKind G.prog G.w) (pairs_shape pos h) (fun e => h0 (by have := hpl.1; rw [e] at this; exact List.length_eq_zero_iff.mp this.symm)) (by rw [hpl.1]; exact h15) ?_
        refine z _ _ fun ρ' ps h' tk hp R' rr => ?_
        refine cps fun X_ k_ => ?_
        obtain ⟨rp, hl2⟩ := rr
        obtain ⟨m₂, ent₂, fent₂, ext₂, S₂⟩ := R'
        obtain ⟨a, ob, e1, e2, r, e3, e4, e5⟩ := S₂.objAt hmap
        refine k_ ?_
        clear k_ X_
        have ea : a = s.heap.objs.size := by
          have := pre_get hp (S.newGet s.heap.objs.size)
          rw [e1] at this
          exact Option.some.inj this
        subst ea
        cases r with | @map _ kvs _ hd hkv =>
        (replace hkv := hkv.inil; obtain rfl := hkv)
        refine cps fun X_ k_ => ?_
        obtain ⟨des, ep, hex, hdat, hks, hps, hnd'⟩ := hd
        obtain ⟨hall, hkvs⟩ := pv_keys rp
        refine k_ ?_
        clear k_ X_
        have hkeys : (xs.zip vs).map (·.1) = xs := by rw [List.map_fst_zip]; omega
        have hn : ((strPairs ps).map (·.1)).Nodup := by rw [← kv_keys hkvs, hkeys]; exact hnd
        refine display_done_str hall hn ⟨ob, des, ep, e3, hex, hdat, hks, hps, hnd'⟩ fun h₃ hD hs => ?_
        refine cps fun X_ k_ => ?_
        obtain ⟨ob', des', ep', e3', hex', hdat', hks', hps', hnd''⟩ := hD
        have U := upd_at (o' := ob') S₂.nd e2
        obtain ⟨pre, post, ea, eb, ha', hb'⟩ := U.split
        refine k_ ?_
        clear k_ X_
        have hnw := S₂.nw
        rw [ea] at hnw
        have N' := news_set hnw ha' hb' hs e3'
        rw [← eb] at N'
        exact q ρ' _ h₃ _ ((List.prefix_append _ _).trans hp) ⟨m₂, _, fent₂, ext₂, S₂.update e2 (.map ⟨des', ep', hex', hdat', hks', hps', hnd''⟩ hkvs) (S₂.fr.change hs e4 e5) N'⟩ (.ref e1)
      · trivial
    · trivial
end
end Mine

open PySem PySem.W PyProof.Rows PySem.Calls
set_option Elab.async false
set_option maxRecDepth 100000
set_option maxHeartbeats 400000
set_option linter.unusedVariables false
namespace Mine

/-- a callee that the machine or a plain def keeps -/
noncomputable def static (G : Gd) : AV → Bool
  | .obj a => decide (a ∈ G.callees)
  | .builtin _ => true
  | .type _ => true
  | _ => false
theorem static_keep {G : Gd} {f : AV} (h : static G f = true) (σ : AS) : aKeep G f σ = .ok () σ := by
  unfold aKeep
  have k : keepable G σ f = true := by cases f <;> first | exact h | rfl | cases h
  rw [if_pos k]

noncomputable def aCall (af : List AV → AM AV) (ms : List (AM AV)) : AM AV := do let vs ← aArgs ms; af vs
noncomputable def aMCall (look : AV → AM Unit) (af : List AV → AM AV) (mo : AM AV) (ms : List (AM AV)) : AM AV := do
  let ov ← mo
  look ov
  let vs ← aArgs ms
  af (ov :: vs)
noncomputable def aIsList (o : AV) : AM Unit := fun σ => onRef o fun i => onList σ i fun _ => .ok () σ
/-- an instance whose own dict does not hide a method -/
noncomputable def aIsInst (C : Addr) (name : Str) (o : AV) : AM Unit := fun σ => onRef o fun i => onInst σ i fun C' d => if C' = C then onDict σ d fun es => if aget name es = none then .ok () σ else .stuck else .stuck

section
variable {G : Gd} {n : Nat} {sc : Scope}

theorem bind_congr' {α β : Type} {m : AM α} {f g : α → AM β} (h : ∀ a σ, f a σ = g a σ) (σ : AS) : (m >>= f) σ = (m >>= g) σ := by
  show (m σ).bind f = (m σ).bind g
  cases m σ <;> first | rfl | exact h _ _
theorem RefE.congr {e : Expr} {m m' : AM AV} (h : RefE G n sc e m) (q : ∀ σ, m σ = m' σ) : RefE G n sc e m' := fun c σ ρ s hc R => q σ ▸ h c σ ρ s hc R

theorem ref_callf {id : Str} {p pos : Pos} {args : List Expr} {ms : List (AM AV)} {f : AV} {cf : List AV → AM AV} (hf : RefE G n sc (.Name id p) (pure f)) (hs : static G f = true) (hcall : COk G n f cf) (ha : RefA G n sc args ms) :
    RefE G n sc (.Call (.Name id p) args [] pos) (aCall cf ms) :=
  (ref_call hf hcall ha).congr fun σ => bind_congr' (fun vs σ => by show (aKeep G f σ).bind _ = _; rw [static_keep hs]; rfl) σ
/-- a def of the text, called by its name -/
theorem ref_fn {id : Str} {p pos : Pos} {a : Addr} {args : List Expr} {ms : List (AM AV)} {af : List AV → AM AV} (hx : sc.names.lookup id = some .globalImplicit) (e : nsIn G.K mainGlobals id = some (some (.ref a))) (hm : a ∈ G.callees) (h : COk G n (.obj a) af) (ha : RefA G n sc args ms) (hd : (id == ("__debug__" : Str)) = false := by decide) :
    RefE G n sc (.Call (.Name id p) args [] pos) (aCall af ms) := ref_callf (ref_glob hx e (.obj a) hd) (by unfold static; exact decide_eq_true hm) h ha
/-- a builtin, called by its name -/
theorem ref_bi {id : Str} {p pos : Pos} {v : String} {args : List Expr} {ms : List (AM AV)} {af : List AV → AM AV} (hx : sc.names.lookup id = some .globalImplicit) (e : nsIn G.K mainGlobals id = some none) (hv : bootBuiltins id = some (.builtin v)) (hn : id ≠ "__name__") (h : COk G n (.builtin v) af) (ha : RefA G n sc args ms)
    (hd : (id == ("__debug__" : Str)) = false := by decide) : RefE G n sc (.Call (.Name id p) args [] pos) (aCall af ms) := ref_callf (ref_builtin hx e hv hn (.builtin v) hd) rfl h ha
theorem ref_ty {id : Str} {p pos : Pos} {v : String} {args : List Expr} {ms : List (AM AV)} {af : List AV → AM AV} (hx : sc.names.lookup id = some .globalImplicit) (e : nsIn G.K mainGlobals id = some none) (hv : bootBuiltins id = some (.type v)) (hn : id ≠ "__name__") (h : COk G n (.type v) af) (ha : RefA G n sc args ms)
    (hd : (id == ("__debug__" : Str)) = false := by decide) : RefE G n sc (.Call (.Name id p) args [] pos) (aCall af ms) := ref_callf (ref_builtin hx e hv hn (.type v) hd) rfl h ha

/-- a method call whose callee is known -/
theorem ref_method1 {o : Expr} {name : Str} {apos pos : Pos} {args : List Expr} {ms : List (AM AV)} {mo : AM AV} {look : AV → AM (AV × List AV)} {f0 : AV} {cf : List AV → AM AV} {pl : Env → Sem Bool} (ho : RefE G n sc o mo) (hm : MOk G name look) (hl : ∀ o σ x σ', look o σ = .ok x σ' → x.1 = f0) (hs : static G f0 = true) (hcall : COk G n f0 cf) (ha : RefA G n sc args ms)
    (he : ∀ env, eval (.Call (.Attribute o name apos) args [] pos) env = (do
      let ov ← eval o env
      standAt apos.atName
      let (f, first) ← holding [ov] (getMethod ov name (pl env))
      callWith pos f first (backTo pos (starEach args env)) (backToKw pos (keywordEach [] env))) := by intros; rfl) :
    RefE G n sc (.Call (.Attribute o name apos) args [] pos) (do let ov ← mo; let x ← look ov; let vs ← aArgs ms; cf (x.2 ++ vs)) := by
  intro c σ ρ s hc R
  refine W.conv (p' := PT.bind (pt G c (eval o c.env)) fun ov => PT.bind (pt G c (getMethod ov name (pl c.env))) fun fx => pt G c (callWith pos fx.1 fx.2 (backTo pos (starEach args c.env)) (backToKw pos (keywordEach [] c.env)))) (fun Q E q => methodCall_KW q (he _)) ?_
  refine W.bind (ho c σ ρ s hc R) fun v σ' ρ' v' h' tk hp R' rv => W.bindE (hm c σ' ρ' _ v v' _ R' rv) fun x σ'' e ρ'' x' h'' tk' hp' R'' rx => ?_
  have e1 := hl _ _ _ _ e
  have z := callwith_ok (s := up (up s h' tk) h'' tk') (pos := pos) (cf := cf) hc R'' rx.1 rx.2 ha (e1 ▸ hcall)
  rw [e1] at z
  have e2 : ((do let vs ← aArgs ms; aKeep G f0; cf (x.2 ++ vs) : AM AV) σ'') = ((do let vs ← aArgs ms; cf (x.2 ++ vs) : AM AV) σ'') := bind_congr' (fun vs σ => by show (aKeep G f0 σ).bind _ = _; rw [static_keep hs]; rfl) σ''
  rw [e2] at z
  exact z
theorem ref_lmeth {o : Expr} {name : Str} {id : String} {apos pos : Pos} {args : List Expr} {ms : List (AM AV)} {mo : AM AV} {cf : List AV → AM AV} {pl : Env → Sem Bool} (slot : Slot "list" name id) (hty : typeOf (.builtin id) = pure (.type "method_descriptor")) (hcall : COk G n (.builtin id) cf) (ho : RefE G n sc o mo) (ha : RefA G n sc args ms)
    (he : ∀ env, eval (.Call (.Attribute o name apos) args [] pos) env = (do
      let ov ← eval o env
      standAt apos.atName
      let (f, first) ← holding [ov] (getMethod ov name (pl env))
      callWith pos f first (backTo pos (starEach args env)) (backToKw pos (keywordEach [] env))) := by intros; rfl) :
    RefE G n sc (.Call (.Attribute o name apos) args [] pos) (aMCall aIsList cf mo ms) := by
  refine (ref_method1 (f0 := .builtin id) ho (lmeth_ok slot hty) (fun o σ x σ' e => ?_) rfl hcall ha he).congr fun σ => bind_congr' (fun ov σ => ?_) σ
  · obtain ⟨i, rfl, h⟩ := onRef_ns (fun q => by rw [show aLMeth id o σ = .stuck from q] at e; cases e)
    obtain ⟨xs, h1, -⟩ := onList_ns h
    rw [show aLMeth id (.ref i) σ = .ok (.builtin id, [.ref i]) σ from onList_e h1] at e
    cases e; rfl
  · show (aLMeth id ov σ).bind _ = (aIsList ov σ).bind _
    by_cases q : aIsList ov σ = .stuck
    · by_cases q2 : aLMeth id ov σ = .stuck
      · rw [q, q2]; rfl
      · obtain ⟨i, rfl, h⟩ := onRef_ns q2
        obtain ⟨xs, h1, -⟩ := onList_ns h
        rw [show aIsList (.ref i) σ = .ok () σ from onList_e h1] at q
        cases q
    · obtain ⟨i, rfl, h⟩ := onRef_ns q
      obtain ⟨xs, h1, -⟩ := onList_ns h
      rw [show aIsList (.ref i) σ = .ok () σ from onList_e h1, show aLMeth id (.ref i) σ = .ok (.builtin id, [.ref i]) σ from onList_e h1]
      rfl
theorem ref_imeth {o : Expr} {name : Str} {C f : Addr} {apos pos : Pos} {args : List Expr} {ms : List (AM AV)} {mo : AM AV} {cf : List AV → AM AV} {pl : Env → Sem Bool} (hmem : (C, name, f) ∈ G.meths) (hm : f ∈ G.callees) (hcall : COk G n (.obj f) cf) (ho : RefE G n sc o mo) (ha : RefA G n sc args ms)
    (he : ∀ env, eval (.Call (.Attribute o name apos) args [] pos) env = (do
      let ov ← eval o env
      standAt apos.atName
      let (f, first) ← holding [ov] (getMethod ov name (pl env))
      callWith pos f first (backTo pos (starEach args env)) (backToKw pos (keywordEach [] env))) := by intros; rfl) :
    RefE G n sc (.Call (.Attribute o name apos) args [] pos) (aMCall (aIsInst C name) cf mo ms) := by
  have base := ref_method1 (f0 := .obj f) ho (meth_ok name f) (fun o σ x σ' e => by
    obtain ⟨i, rfl, h⟩ := onRef_ns (fun q => by rw [show aMeth G name f o σ = .stuck from q] at e; cases e)
    obtain ⟨C', d, h1, h⟩ := onInst_ns h
    obtain ⟨h2, h⟩ := when_ns h
    obtain ⟨es, h3, h⟩ := onDict_ns h
    obtain ⟨h4, -⟩ := when_ns h
    rw [show aMeth G name f (.ref i) σ = .ok (.obj f, [.ref i]) σ from (onInst_e h1).trans ((if_pos h2).trans ((onDict_e h3).trans (if_pos h4)))] at e
    cases e; rfl) (by unfold static; exact decide_eq_true hm) hcall ha he
  intro c σ ρ s hc R
  have z := base c σ ρ s hc R
  have key : ∀ ov σ, (aIsInst C name ov σ ≠ .stuck) → ((do let x ← aMeth G name f ov; let vs ← aArgs ms; cf (x.2 ++ vs) : AM AV) σ) = ((do aIsInst C name ov; let vs ← aArgs ms; cf (ov :: vs) : AM AV) σ) := fun ov σ hne => by
    show (aMeth G name f ov σ).bind _ = (aIsInst C name ov σ).bind _
    obtain ⟨i, rfl, h⟩ := onRef_ns hne
    obtain ⟨C', d, h1, h⟩ := onInst_ns h
    obtain ⟨eC, g⟩ := when_ns h
    clear h
    subst eC
    obtain ⟨es, h3, g⟩ := onDict_ns g
    obtain ⟨h4, -⟩ := when_ns g
    rw [show aMeth G name f (.ref i) σ = .ok (.obj f, [.ref i]) σ from (onInst_e h1).trans ((if_pos hmem).trans ((onDict_e h3).trans (if_pos h4))),
      show aIsInst C' name (.ref i) σ = .ok () σ from (onInst_e h1).trans ((if_pos rfl).trans ((onDict_e h3).trans (if_pos h4)))]
    rfl
  show W G c ρ s _ VR ((mo σ).bind _)
  have z : W G c ρ s _ VR ((mo σ).bind _) := z
  cases hm' : mo σ with
  | stuck => trivial
  | exc x σ' => rw [hm'] at z; exact z
  | ok ov σ' =>
    rw [hm'] at z
    by_cases hst : aIsInst C name ov σ' = .stuck
    · show W G c ρ s _ VR ((aIsInst C name ov σ').bind _)
      rw [hst]; trivial
    · have z : W G c ρ s _ VR ((do let x ← aMeth G name f ov; let vs ← aArgs ms; cf (x.2 ++ vs) : AM AV) σ') := z
      rw [key ov σ' hst] at z
      exact z
theorem ref_cmeth {o : Expr} {name : Str} {C f : Addr} {mc : Value} {apos pos : Pos} {args : List Expr} {ms : List (AM AV)} {cf : List AV → AM AV} {pl : Env → Sem Bool} (h1 : specialIn G.K (.ref C) "__getattribute__" = some (some (.builtin "type.__getattribute__"))) (h2 : typeIn G.K (.ref C) = some mc) (h3 : readsIn G.K C mc = true) (h4 : findCls G.K (.ref C) mc name = some (.val (.ref f)))
    (hm : f ∈ G.callees) (hcall : COk G n (.obj f) cf) (ho : RefE G n sc o (pure (.obj C))) (ha : RefA G n sc args ms)
    (he : ∀ env, eval (.Call (.Attribute o name apos) args [] pos) env = (do
      let ov ← eval o env
      standAt apos.atName
      let (f, first) ← holding [ov] (getMethod ov name (pl env))
      callWith pos f first (backTo pos (starEach args env)) (backToKw pos (keywordEach [] env))) := by intros; rfl) :
    RefE G n sc (.Call (.Attribute o name apos) args [] pos) (aCall cf ms) := by
  refine (ref_method1 (f0 := .obj f) ho (cmeth_ok h1 h2 h3 h4) (fun o σ x σ' e => ?_) (by unfold static; exact decide_eq_true hm) hcall ha he).congr fun σ => ?_
  · unfold aCMeth at e
    split at e
    · split at e
      · cases e; rfl
      · cases e
    · cases e
  · show (aCMeth C f (.obj C) σ).bind _ = _
    unfold aCMeth
    dsimp only
    rw [if_pos rfl]; rfl
end
end Mine

open PySem PySem.W PyProof.Rows PySem.Calls
set_option Elab.async false
set_option maxRecDepth 100000
set_option maxHeartbeats 400000
set_option linter.unusedVariables false
namespace Mine

theorem nx_store {x : Str} : ∀ (v : AV) (σ : AS) (y : Nat) (σ' : AS), aStore x v σ ≠ .exc y σ' := fun v σ y σ' h => by cases h

/-- a block's own names, as its function sees them -/
noncomputable def relabelS (scope sc : Scope) : Scope := { scope with names := scope.names.map fun (n, k) => if (k == .free && sc.kind == .function && sc.names.lookup n == some .cell) then (n, .cell) else (n, k) }
noncomputable def freesOf : List (Str × NameKind) → List Str → List Str
  | [], acc => acc
  | (n, k) :: r, acc => if k == .free then freesOf r (n :: acc) else freesOf r acc

noncomputable def closF (env : Env) : List (Str × NameKind) → List (Str × Addr) → Sem (List (Str × Addr))
  | [], cs => pure cs
  | (n, k) :: r, cs => if k == .free then cellOf env n >>= fun a => closF env r ((n, a) :: cs) else closF env r cs
theorem closureFor_eq (scope : Scope) (env : Env) : closureFor scope env = closF env scope.names [] := by
  unfold closureFor
  have : ∀ (l : List (Str × NameKind)) (cs : List (Str × Addr)), (forIn l cs fun (x : Str × NameKind) r => (if (x.2 == NameKind.free) = true then (do let a ← cellOf env x.1; pure (ForInStep.yield ((x.1, a) :: r))) else pure (ForInStep.yield r) : Sem (ForInStep (List (Str × Addr))))) = closF env l cs := fun l => by
    induction l with
    | nil => intro cs; rfl
    | cons x l ih =>
      intro cs
      obtain ⟨nm, k⟩ := x
      rw [List.forIn_cons]
      unfold closF
      dsimp only
      split
      · rw [bind_assoc]
        congr 1
        funext a
        rw [pure_bind]
        exact ih _
      · rw [pure_bind]
        exact ih _
  refine Eq.trans ?_ (this scope.names [])
  show (forIn scope.names [] _ >>= fun s => pure s) = _
  rw [bind_pure]
theorem frees_mem {x : Str} : ∀ {l : List (Str × NameKind)} {acc : List Str}, x ∈ acc → x ∈ freesOf l acc
  | [], _, h => h
  | (nm, k) :: r, acc, h => by
    unfold freesOf
    split
    · exact frees_mem (.tail _ h)
    · exact frees_mem h
theorem mapM_some {α β : Type} {f : α → Option β} : ∀ {l : List α} {r : List β}, l.mapM f = some r → ∀ x ∈ l, ∃ y, f x = some y
  | a :: l, r, h, x, hx => by
    rw [List.mapM_cons] at h
    cases e : f a with
    | none => rw [e] at h; cases h
    | some y =>
      rw [e] at h
      rcases List.mem_cons.mp hx with rfl | hx
      · exact ⟨y, e⟩
      · cases e2 : l.mapM f with
        | none => simp [e2] at h
        | some r2 => exact mapM_some e2 x hx
theorem clos_lookups (env : Env) : ∀ (l : List (Str × NameKind)) (acc : List Str) (ca cl : List (Str × Addr)), acc.mapM (fun x => (env.cells.lookup x).map fun a => (x, a)) = some ca → (freesOf l acc).mapM (fun x => (env.cells.lookup x).map fun a => (x, a)) = some cl → closF env l ca = pure cl
  | [], acc, ca, cl, h1, h2 => by
    unfold freesOf at h2
    rw [h1] at h2
    cases h2; rfl
  | (nm, k) :: r, acc, ca, cl, h1, h2 => by
    unfold freesOf at h2
    unfold closF
    split at h2
    · rename_i hk
      rw [if_pos hk]
      refine cps fun X_ k_ => ?_
      obtain ⟨p, hp⟩ := mapM_some h2 nm (frees_mem (.head _))
      obtain ⟨a, ha, rfl⟩ := Option.map_eq_some_iff.mp hp
      refine k_ ?_
      clear k_ X_
      unfold cellOf
      rw [ha]
      show (pure a >>= _) = _
      rw [pure_bind]
      exact clos_lookups env r (nm :: acc) ((nm, a) :: ca) cl (by simp [List.mapM_cons, ha, h1]) h2
    · rename_i hk
      rw [if_neg hk]
      exact clos_lookups env r acc ca cl h1 h2
theorem closFor (scope : Scope) : ClosForC scope (freesOf scope.names []) := fun env cl h => by
  rw [closureFor_eq]
  exact clos_lookups env scope.names [] [] cl rfl h

section
variable {G : Gd} {n : Nat} {sc : Scope}
theorem compIs_of {scope : Scope} (hLS : G.lamScope.names.length = 21) (hl : (relabelS scope sc).names.length ≠ 21) (hk : scope.kind = .function) (hcell : (scope.names.all fun x => x.2 != .cell) = true) (hn : (scope.names.all fun x => x.2 != .local || scope.names.lookup x.1 == some .local) = true) :
    CompIs G sc scope (relabelS scope sc) (freesOf scope.names []) where
  rel := fun env h => by subst h; rfl
  kind2 := hk
  lam := fun q => hl (by rw [q]; exact hLS)
  cell := fun x hx q => by
    have := List.all_eq_true.mp hcell x hx
    rw [q] at this
    exact absurd this (by decide)
  kind := hk
  names := fun x hx q => by
    have := List.all_eq_true.mp hn x hx
    rw [q] at this
    simpa using this
  clos := closFor scope

/-- several names as one target -/
theorem refas_tuple {elts : List Expr} {x1 : Nat} {tpos : Pos} {ts : List (Env → Value → Sem Unit)} {sts : List (AV → AM Unit)} (hts : RefAss G n sc ts sts) (h1 : ∀ env, (assignEach elts env).map (·.2) = ts.map fun t => t env) (h2 : ∀ env, (assignEach elts env).findIdx? (·.1) = none) :
    RefAs G n sc (.Tuple elts x1 tpos) (fun v => do let xs ← aUnpack ts.length v; aStores sts xs) := by
  intro c σ ρ s v v' hc R rv
  refine W.conv (p' := PT.bind (pt G c (unpackItems v' ts.length none)) fun xs => pt G c (assignInOrder (ts.map fun t => t c.env) xs)) (fun Q E q => ?_) ?_
  · rw [arm_assign_Tuple]
    refine wpAny_bind (wpAny_standAt ?_)
    unfold unpack
    rw [h2]
    have hl : (assignEach elts c.env).length = ts.length := by
      have := congrArg List.length (h1 c.env)
      simpa using this
    rw [hl, h1]
    exact wpAny_bind (wpAny_holding q)
  · exact W.bind (unpack_ok R rv) fun xs σ'' ρ'' xs' h'' tk' hp' R'' rx => inOrder_ok hts c _ _ _ _ _ hc R'' rx
theorem refs_forT {elts : List Expr} {x1 : Nat} {tpos : Pos} {it : Expr} {b : List Stmt} {pos : Pos} {mb : AM AF} {mi : AM AV} {ts : List (Env → Value → Sem Unit)} {sts : List (AV → AM Unit)} (hi : RefE G n sc it mi) (hts : RefAss G n sc ts sts) (h1 : ∀ env, (assignEach elts env).map (·.2) = ts.map fun t => t env) (h2 : ∀ env, (assignEach elts env).findIdx? (·.1) = none)
    (hb : RefB G n sc b mb) (hs : ∀ env x, foldedSetIterable it env x = pure x := by intros; rfl) :
    RefS G n sc (.For (.Tuple elts x1 tpos) it b [] pos) (do let v ← mi; aOnlyList v; aFor (fun v => do let xs ← aUnpack ts.length v; aStores sts xs) mb v) := by
  intro c σ ρ s hc R
  refine W.conv (p' := PT.bind (pt G c (eval it c.env)) fun x' => fun Q E s => wpAny G.M c.A (pyIter x') (fun it s₂ => codeAny G.M c.A (.forLoop (.Tuple elts x1 tpos) it b [] c.env) (fun r s' => match r with | .ok f => Q f s' | .error e => cameBackBy G.M c.A c.env E e s') s₂) E s) (fun Q E q => wpAny_For q (hs _)) ?_
  refine W.bind (hi c σ ρ s hc R) fun v σ' ρ' v' h' tk hp R' rv => ?_
  show W _ _ _ _ _ _ ((aOnlyList v σ').bind _)
  rcases onlyList_cases v σ' with q | ⟨r, xs, rfl, hxs, q⟩
  · rw [q]; trivial
  · rw [q]
    refine for_ok (refas_tuple hts h1 h2) hb hc R' rv (fun it v o M A Q E s ho hs hq => let_owned ho hs hq) (.inr fun r' n' => ?_)
    by_cases q : r' = r
    · subst q
      exact .inr (by rw [hxs]; intro z; cases z)
    · exact .inl (by intro z; cases z; exact q rfl)
end

noncomputable def P0 : Params := { mergeTok := id, strHash := fun _ => 0, shareClass := id, idOf := fun n => n, idOfShared := fun _ _ => 0, followText := fun _ => false, idOfImm := fun _ => 0 }
noncomputable def dummyFd : FuncData := { name := "", qualname := "", params := { posonlyargs := [], args := [], vararg := none, kwonlyargs := [], kw_defaults := [], kwarg := none, defaults := [] }, body := .stmts [], scope := { kind := .function, names := [], isGenerator := false, isCoroutine := false }, globals := 0, closure := [], defaults := .none, kwdefaults := .none, code := .none, pyModule := .none, builtins := 0 }
noncomputable def fdOf (k : Addr) : FuncData := match (hd.heap_39 P0).lookup k with
  | some ⟨_, _, .func fd, _⟩ => fd
  | _ => dummyFd
noncomputable def bodyOf (k : Addr) : List Stmt := match (fdOf k).body with
  | .stmts b => b
  | _ => []
noncomputable def scOf (k : Addr) : Scope := (fdOf k).scope

noncomputable def kCallees : List Addr := [28, 42, 45, 62, 83, 90, 98, 112, 115, 131, 134, 145, 152, 159, 166, 173, 180, 187, 194, 199, 206, 213, 220, 225, 230, 237, 244, 251, 256]
noncomputable def kAtts : List (Addr × Str) := [(134, "stack"), (134, "open_upvals"), (134, "frames"), (134, "ccalls"), (134, "handling"), (134, "top"), (115, "thread"), (115, "index"), (115, "value"), (115, "number"), (115, "mark"), (115, "size")]
noncomputable def kMeths : List (Addr × Str × Addr) := [(115, "get", 98), (115, "close", 112)]
noncomputable def dummyLam : Lam := { qual := "", params := { posonlyargs := [], args := [], vararg := none, kwonlyargs := [], kw_defaults := [], kwarg := none, defaults := [] }, body := .Constant .none 0 ⟨0, 0, 0, 0⟩, scope := { kind := .function, names := [], isGenerator := false, isCoroutine := false }, pos := ⟨0, 0, 0, 0⟩ }
noncomputable def lamReply : Lam := match List.head? (List.drop 3 (bodyOf 230)) with
  | some (Stmt.Assign _ (Expr.IfExp _ _ (Expr.Tuple (Expr.Lambda ps b sc pos :: _) _ _) _) _) => ⟨(fdOf 230).qualname ++ ".<locals>." ++ "<lambda>", ps, b, sc, pos⟩
  | _ => dummyLam
noncomputable def lamWork : Lam := match List.head? (List.drop 4 (bodyOf 230)) with
  | some (Stmt.Assign _ (Expr.Call _ (_ :: Expr.Lambda ps b sc pos :: _) _ _) _) => ⟨(fdOf 230).qualname ++ ".<locals>." ++ "<lambda>", ps, b, sc, pos⟩
  | _ => dummyLam
/-- what is known of the run -/
structure Known (G : Gd) : Prop where
  K : G.K = hd.heap_39 G.w.params
  ls : G.lamScope = scOf 230
  lq : G.lamQual = (fdOf 230).qualname
  tabC : G.tabC = 229
  callees : G.callees = kCallees
  atts : G.atts = kAtts
  meths : G.meths = kMeths
  lams : G.lams = [lamReply, lamWork]
theorem lams_qual {G : Gd} (hG : Known G) : ∀ l' ∈ G.lams, l'.qual = (fdOf 230).qualname ++ ".<locals>." ++ "<lambda>" := by
  rw [hG.lams]
  intro l' h
  rcases List.mem_cons.mp h with rfl | h
  · rfl
  · rcases List.mem_cons.mp h with rfl | h
    · rfl
    · cases h
theorem g_len (P : Params) : nsIn (hd.heap_39 P) mainGlobals "len" = some none := by rfl
theorem g_min (P : Params) : nsIn (hd.heap_39 P) mainGlobals "min" = some none := by rfl
theorem g_max (P : Params) : nsIn (hd.heap_39 P) mainGlobals "max" = some none := by rfl
theorem g_abs (P : Params) : nsIn (hd.heap_39 P) mainGlobals "abs" = some none := by rfl
theorem g_isinstance (P : Params) : nsIn (hd.heap_39 P) mainGlobals "isinstance" = some none := by rfl
theorem g_int (P : Params) : nsIn (hd.heap_39 P) mainGlobals "int" = some none := by rfl
theorem g_range (P : Params) : nsIn (hd.heap_39 P) mainGlobals "range" = some none := by rfl
theorem g_list (P : Params) : nsIn (hd.heap_39 P) mainGlobals "list" = some none := by rfl
theorem g_bytes (P : Params) : nsIn (hd.heap_39 P) mainGlobals "bytes" = some none := by rfl
theorem g_unwound (P : Params) : nsIn (hd.heap_39 P) mainGlobals "unwound" = some (some (.ref 28)) := by rfl
theorem g_spot_of (P : Params) : nsIn (hd.heap_39 P) mainGlobals "spot_of" = some (some (.ref 145)) := by rfl
theorem g_open_at (P : Params) : nsIn (hd.heap_39 P) mainGlobals "open_at" = some (some (.ref 152)) := by rfl
theorem g_put_open (P : Params) : nsIn (hd.heap_39 P) mainGlobals "put_open" = some (some (.ref 159)) := by rfl
theorem g_find_plain (P : Params) : nsIn (hd.heap_39 P) mainGlobals "find_plain" = some (some (.ref 166)) := by rfl
theorem g_take_closed (P : Params) : nsIn (hd.heap_39 P) mainGlobals "take_closed" = some (some (.ref 173)) := by rfl
theorem g_handled (P : Params) : nsIn (hd.heap_39 P) mainGlobals "handled" = some (some (.ref 180)) := by rfl
theorem g_guarded_work (P : Params) : nsIn (hd.heap_39 P) mainGlobals "guarded_work" = some (some (.ref 187)) := by rfl
theorem g_taken_back (P : Params) : nsIn (hd.heap_39 P) mainGlobals "taken_back" = some (some (.ref 194)) := by rfl
theorem g_law_deal (P : Params) : nsIn (hd.heap_39 P) mainGlobals "_law_deal" = some (some (.ref 199)) := by rfl
theorem g_law_take (P : Params) : nsIn (hd.heap_39 P) mainGlobals "_law_take" = some (some (.ref 206)) := by rfl
theorem g_law_more (P : Params) : nsIn (hd.heap_39 P) mainGlobals "_law_more" = some (some (.ref 213)) := by rfl
theorem g_law_replied (P : Params) : nsIn (hd.heap_39 P) mainGlobals "_law_replied" = some (some (.ref 220)) := by rfl
theorem g_law_plan (P : Params) : nsIn (hd.heap_39 P) mainGlobals "_law_plan" = some (some (.ref 225)) := by rfl
theorem g_law_guarded (P : Params) : nsIn (hd.heap_39 P) mainGlobals "_law_guarded" = some (some (.ref 230)) := by rfl
theorem g_law_done (P : Params) : nsIn (hd.heap_39 P) mainGlobals "_law_done" = some (some (.ref 237)) := by rfl
theorem g_law_due (P : Params) : nsIn (hd.heap_39 P) mainGlobals "_law_due" = some (some (.ref 244)) := by rfl
theorem g_law_answered (P : Params) : nsIn (hd.heap_39 P) mainGlobals "_law_answered" = some (some (.ref 251)) := by rfl
theorem g_LuaError (P : Params) : nsIn (hd.heap_39 P) mainGlobals "LuaError" = some (some (.ref 45)) := by rfl
theorem g_HeapObject (P : Params) : nsIn (hd.heap_39 P) mainGlobals "HeapObject" = some (some (.ref 65)) := by rfl
theorem g_UpVal (P : Params) : nsIn (hd.heap_39 P) mainGlobals "UpVal" = some (some (.ref 115)) := by rfl
theorem g_Ground (P : Params) : nsIn (hd.heap_39 P) mainGlobals "Ground" = some (some (.ref 134)) := by rfl
theorem g_SIZE_UPVAL (P : Params) : ∃ t, nsIn (hd.heap_39 P) mainGlobals "SIZE_UPVAL" = some (some (.int 4 t)) := ⟨_, by rfl⟩
theorem g_ERROR_IN_ERROR (P : Params) : ∃ b t, nsIn (hd.heap_39 P) mainGlobals "ERROR_IN_ERROR" = some (some (.bytes b t)) := ⟨_, _, by rfl⟩
theorem len0 {α : Type} {as : List α} (h : as.length = 0) : as = [] := List.length_eq_zero_iff.mp h
theorem len_s {α : Type} {as : List α} {n : Nat} (h : as.length = n + 1) : ∃ a t, as = a :: t ∧ t.length = n := by
  cases as with
  | nil => cases h
  | cons a t => exact ⟨a, t, rfl, Nat.succ.inj h⟩
theorem len1 {α : Type} {as : List α} (h : as.length = 1) : ∃ a, as = [a] := by obtain ⟨a, t, rfl, e⟩ := len_s h; rw [len0 e]; exact ⟨a, rfl⟩
theorem len2 {α : Type} {as : List α} (h : as.length = 2) : ∃ a b, as = [a, b] := by obtain ⟨a, t, rfl, e⟩ := len_s h; obtain ⟨b, rfl⟩ := len1 e; exact ⟨a, b, rfl⟩
theorem len3 {α : Type} {as : List α} (h : as.length = 3) : ∃ a b c, as = [a, b, c] := by obtain ⟨a, t, rfl, e⟩ := len_s h; obtain ⟨b, c, rfl⟩ := len2 e; exact ⟨a, b, c, rfl⟩
theorem len4 {α : Type} {as : List α} (h : as.length = 4) : ∃ a b c d, as = [a, b, c, d] := by obtain ⟨a, t, rfl, e⟩ := len_s h; obtain ⟨b, c, d, rfl⟩ := len3 e; exact ⟨a, b, c, d, rfl⟩
theorem len5 {α : Type} {as : List α} (h : as.length = 5) : ∃ a b c d e, as = [a, b, c, d, e] := by obtain ⟨a, t, rfl, e⟩ := len_s h; obtain ⟨b, c, d, f, rfl⟩ := len4 e; exact ⟨a, b, c, d, f, rfl⟩
theorem len6 {α : Type} {as : List α} (h : as.length = 6) : ∃ a b c d e f, as = [a, b, c, d, e, f] := by obtain ⟨a, t, rfl, e⟩ := len_s h; obtain ⟨b, c, d, f, g, rfl⟩ := len5 e; exact ⟨a, b, c, d, f, g, rfl⟩
end Mine

open PySem PySem.W PyProof.Rows PySem.Calls
set_option Elab.async false
set_option maxRecDepth 100000
set_option maxHeartbeats 1000000
set_option linter.unusedVariables false
namespace Mine
variable {G : Gd}

theorem is_28 (hG : Known G) : FnIs G 28 (fdOf 28) ["frames", "depth"] (bodyOf 28) (scOf 28) where
  at_ := by rw [hG.K]; exact ⟨_, _, _, rfl⟩
  code := by rw [hG.K]; rfl
  body := rfl
  scope := rfl
  globals := rfl
  builtins := rfl
  closure := rfl
  bind := fun s as' h => by obtain ⟨x0, x1, rfl⟩ := len2 h; exact BindsTo.of_eq rfl
  co := rfl
  gen := rfl
  kind := rfl
  lam := fun q => by rw [hG.ls] at q; exact absurd (congrArg (fun s => s.names.length) q) (by decide)
noncomputable def d_28 (hG : Known G) : { m : AM AF // ∀ n, RefB G (n + 0) (scOf 28) (bodyOf 28) m } := ⟨_, fun n =>
 (refb_one (refs_while 2000 (reft_cmp (cmpOk _) (ref_bi rfl (hG.K ▸ g_len _) rfl (by decide) len_ok (.cons (ref_loc rfl) (fun _ _ => rfl) .nil)) (ref_loc rfl))
 (refb_one (refs_expr (ref_lmeth PySem.F.slot_list_pop PySem.F.type_list_pop pop_ok (ref_loc rfl) .nil)))))⟩
theorem fn_28 (hG : Known G) (n : Nat) : FnOk G (n + 1) 28 (aFn ["frames", "depth"] (d_28 hG).1) := fn_plain (n := n + 0) (is_28 hG) (by decide) (by decide) ((d_28 hG).2 n)
theorem is_206 (hG : Known G) : FnIs G 206 (fdOf 206) ["deal", "many"] (bodyOf 206) (scOf 206) where
  at_ := by rw [hG.K]; exact ⟨_, _, _, rfl⟩
  code := by rw [hG.K]; rfl
  body := rfl
  scope := rfl
  globals := rfl
  builtins := rfl
  closure := rfl
  bind := fun s as' h => by obtain ⟨x0, x1, rfl⟩ := len2 h; exact BindsTo.of_eq rfl
  co := rfl
  gen := rfl
  kind := rfl
  lam := fun q => by rw [hG.ls] at q; exact absurd (congrArg (fun s => s.names.length) q) (by decide)
noncomputable def d_206 (hG : Known G) : { m : AM AF // ∀ n, RefB G (n + 0) (scOf 206) (bodyOf 206) m } := ⟨_, fun n =>
 (refb_cons (refs_if (reft_cmp (cmpOk _) (ref_sub (ref_loc rfl) ref_int) (ref_bi rfl (hG.K ▸ g_len _) rfl (by decide) len_ok (.cons (ref_sub (ref_loc rfl) ref_int) (fun _ _ => rfl) .nil)))
 (refb_cons (refs_setitem (ref_bin (ref_sub (ref_loc rfl) ref_int) ref_int) (ref_loc rfl) ref_int)
 (refb_one (refs_ret (ref_bin (ref_sub (ref_sub (ref_loc rfl) ref_int) (ref_bin (ref_sub (ref_loc rfl) ref_int) ref_int)) (ref_loc rfl)))))
 refb_nil)
 (refb_cons (refs_setitem (ref_bin (ref_bin (ref_bin (ref_sub (ref_loc rfl) ref_int) ref_int) ref_int) ref_int) (ref_loc rfl) ref_int)
 (refb_one (refs_ret (ref_bin (ref_bin (ref_sub (ref_loc rfl) ref_int) ref_int) (ref_loc rfl))))))⟩
theorem fn_206 (hG : Known G) (n : Nat) : FnOk G (n + 1) 206 (aFn ["deal", "many"] (d_206 hG).1) := fn_plain (n := n + 0) (is_206 hG) (by decide) (by decide) ((d_206 hG).2 n)
theorem is_145 (hG : Known G) : FnIs G 145 (fdOf 145) ["owner", "index"] (bodyOf 145) (scOf 145) where
  at_ := by rw [hG.K]; exact ⟨_, _, _, rfl⟩
  code := by rw [hG.K]; rfl
  body := rfl
  scope := rfl
  globals := rfl
  builtins := rfl
  closure := rfl
  bind := fun s as' h => by obtain ⟨x0, x1, rfl⟩ := len2 h; exact BindsTo.of_eq rfl
  co := rfl
  gen := rfl
  kind := rfl
  lam := fun q => by rw [hG.ls] at q; exact absurd (congrArg (fun s => s.names.length) q) (by decide)
noncomputable def d_145 (hG : Known G) : { m : AM AF // ∀ n, RefB G (n + 0) (scOf 145) (bodyOf 145) m } := ⟨_, fun n =>
 (refb_cons (refs_assign ref_int (store_loc rfl))
 (refb_cons (refs_while 2000 (reft_and (.cons (reft_cmp (cmpOk _) (ref_loc rfl) (ref_bi rfl (hG.K ▸ g_len _) rfl (by decide) len_ok (.cons (ref_attr (ref_loc rfl)) (fun _ _ => rfl) .nil))) (.cons (reft_cmp (cmpOk _) (ref_attr (ref_sub (ref_attr (ref_loc rfl)) (ref_loc rfl))) (ref_loc rfl)) .nil)))
 (refb_one (refs_aug rfl ref_int)))
 (refb_one (refs_ret (ref_loc rfl)))))⟩
theorem fn_145 (hG : Known G) (n : Nat) : FnOk G (n + 1) 145 (aFn ["owner", "index"] (d_145 hG).1) := fn_plain (n := n + 0) (is_145 hG) (by decide) (by decide) ((d_145 hG).2 n)
theorem is_213 (hG : Known G) : FnIs G 213 (fdOf 213) ["value", "more"] (bodyOf 213) (scOf 213) where
  at_ := by rw [hG.K]; exact ⟨_, _, _, rfl⟩
  code := by rw [hG.K]; rfl
  body := rfl
  scope := rfl
  globals := rfl
  builtins := rfl
  closure := rfl
  bind := fun s as' h => by obtain ⟨x0, x1, rfl⟩ := len2 h; exact BindsTo.of_eq rfl
  co := rfl
  gen := rfl
  kind := rfl
  lam := fun q => by rw [hG.ls] at q; exact absurd (congrArg (fun s => s.names.length) q) (by decide)
noncomputable def d_213 (hG : Known G) : { m : AM AF // ∀ n, RefB G (n + 0) (scOf 213) (bodyOf 213) m } := ⟨_, fun n =>
 (refb_one (refs_ret (ref_bin (ref_ifexp (reft_val (ref_bi rfl (hG.K ▸ g_isinstance _) rfl (by decide) isbytes_ok (.cons (ref_loc rfl) (fun _ _ => rfl) (.cons (ref_builtin rfl (hG.K ▸ g_bytes _) rfl (by decide) (.type _)) (fun _ _ => rfl) .nil)))) ref_int (ref_loc rfl)) (ref_loc rfl))))⟩
theorem fn_213 (hG : Known G) (n : Nat) : FnOk G (n + 1) 213 (aFn ["value", "more"] (d_213 hG).1) := fn_plain (n := n + 0) (is_213 hG) (by decide) (by decide) ((d_213 hG).2 n)
theorem is_62 (hG : Known G) : FnIs G 62 (fdOf 62) ["self", "number", "size"] (bodyOf 62) (scOf 62) where
  at_ := by rw [hG.K]; exact ⟨_, _, _, rfl⟩
  code := by rw [hG.K]; rfl
  body := rfl
  scope := rfl
  globals := rfl
  builtins := rfl
  closure := rfl
  bind := fun s as' h => by obtain ⟨x0, x1, x2, rfl⟩ := len3 h; exact BindsTo.of_eq rfl
  co := rfl
  gen := rfl
  kind := rfl
  lam := fun q => by rw [hG.ls] at q; exact absurd (congrArg (fun s => s.names.length) q) (by decide)
noncomputable def d_62 (hG : Known G) : { m : AM AF // ∀ n, RefB G (n + 0) (scOf 62) (bodyOf 62) m } := ⟨_, fun n =>
 (refb_cons (refs_setattr (ref_loc rfl) (ref_loc rfl))
 (refb_cons (refs_setattr ref_int (ref_loc rfl))
 (refb_one (refs_setattr (ref_loc rfl) (ref_loc rfl)))))⟩
theorem fn_62 (hG : Known G) (n : Nat) : FnOk G (n + 1) 62 (aFn ["self", "number", "size"] (d_62 hG).1) := fn_plain (n := n + 0) (is_62 hG) (by decide) (by decide) ((d_62 hG).2 n)
end Mine

open PySem PySem.W PyProof.Rows PySem.Calls
set_option Elab.async false
set_option maxRecDepth 100000
set_option maxHeartbeats 1000000
set_option linter.unusedVariables false
namespace Mine
variable {G : Gd}

theorem xf_LuaError (hG : Known G) : ExcFacts G 45 ["value", "trace"] where
  cls := by
    rw [hG.K]
    exact { cls := ⟨_, rfl, rfl, rfl⟩, ga := by rfl, gb := by rfl, sa := by rfl }
  none := by
    rw [hG.K]
    intro x hx
    rcases List.mem_cons.mp hx with rfl | hx
    · rfl
    · rcases List.mem_cons.mp hx with rfl | hx
      · rfl
      · cases hx
theorem excKnown_of {K : Frag} {C : Addr} {nm q : Str} {N : Addr} {bs : List Value} {sn : List Str} {sub : List Value} {ab : Bool} {col : Option Bool} {dd : Option Addr} {k0 k1 k2 k3 k5 : Option Value} {newId : String}
    (h : K.lookup C = some (excClassObj nm q C N bs [.type "Exception", .type "BaseException", .type "object"] true sn sub ab col dd k0 k1 k2 k3 k5 newId)) : ExcKnown K C := ⟨nm, q, N, bs, sn, sub, ab, col, dd, k0, k1, k2, k3, k5, newId, h⟩
theorem xk_LuaError (hG : Known G) : ExcKnown G.K 45 := by
  rw [hG.K]
  exact excKnown_of (by rfl)
noncomputable def valOf (x : Str) : Value := match nsIn (hd.heap_39 P0) mainGlobals x with
  | some (some v) => v
  | _ => .none
theorem g_SIZE (P : Params) : nsIn (hd.heap_39 P) mainGlobals "SIZE_UPVAL" = some (some (valOf "SIZE_UPVAL")) := by rfl
theorem g_ERR (P : Params) : nsIn (hd.heap_39 P) mainGlobals "ERROR_IN_ERROR" = some (some (valOf "ERROR_IN_ERROR")) := by rfl

theorem is_42 (hG : Known G) : FnIs G 42 (fdOf 42) ["self", "value"] (bodyOf 42) (scOf 42) where
  at_ := by rw [hG.K]; exact ⟨_, _, _, rfl⟩
  code := by rw [hG.K]; rfl
  body := rfl
  scope := rfl
  globals := rfl
  builtins := rfl
  closure := rfl
  bind := fun s as' h => by obtain ⟨x0, x1, rfl⟩ := len2 h; exact BindsTo.of_eq rfl
  co := rfl
  gen := rfl
  kind := rfl
  lam := fun q => by rw [hG.ls] at q; exact absurd (congrArg (fun s => s.names.length) q) (by decide)
noncomputable def d_42 (hG : Known G) : { m : AM AF // ∀ n, RefB G (n + 0) (scOf 42) (bodyOf 42) m } := ⟨_, fun n =>
 (refb_cons (refs_setattrx (xf_LuaError hG) (ref_loc rfl) (ref_loc rfl) (by decide))
 (refb_one (refs_setattrx (xf_LuaError hG) (ref_list .nil) (ref_loc rfl) (by decide))))⟩
theorem fn_42 (hG : Known G) (n : Nat) : FnOk G (n + 1) 42 (aFn ["self", "value"] (d_42 hG).1) := fn_plain (n := n + 0) (is_42 hG) (by decide) (by decide) ((d_42 hG).2 n)
theorem strk {es : Array DictEntry} (h : (es.toList.all fun e => match e.key with | .str _ _ => true | _ => false) = true) : StrKeys es := fun e he => by
  have := List.all_eq_true.mp h e (by simpa using he)
  split at this
  · rename_i n t q; exact ⟨n, t, q⟩
  · cases this
theorem ns_44 (P : Params) : ∃ o es ep, (hd.heap_39 P).lookup 44 = some o ∧ o.data = .dict es ep ∧ StrKeys es ∧ nsFind es "__init__" = some (.ref 42) := ⟨_, _, _, rfl, rfl, strk rfl, rfl⟩
theorem cok_LuaError (hG : Known G) (n : Nat) : COk G (n + 2) (.obj 45) (aExc 45 (aFn ["self", "value"] (d_42 hG).1)) := by
  have hK := hG.K
  refine cps fun X_ k_ => ?_
  obtain ⟨o, es, ep, h1, h2, h3, h4⟩ := ns_44 G.w.params
  refine k_ ?_
  clear k_ X_
  exact cok_exc (n := n + 1) (N := 44) (on := o) (mN := nsFind es) (by rw [hK]; rfl) (by rw [hK]; exact h1) ⟨es, ep, h2, h3, fun _ => rfl⟩ h4 (by rw [hK]; rfl) (by rw [hK]; exact ⟨_, rfl, rfl⟩) (fn_42 hG n)

end Mine

open PySem PySem.W PyProof.Rows PySem.Calls
set_option Elab.async false
set_option maxRecDepth 100000
set_option maxHeartbeats 1000000
set_option linter.unusedVariables false
namespace Mine
variable {G : Gd}

theorem k_ho1 (P : Params) : specialIn (hd.heap_39 P) (.ref 65) "__getattribute__" = some (some (.builtin "type.__getattribute__")) := by rfl
theorem k_ho2 (P : Params) : typeIn (hd.heap_39 P) (.ref 65) = some (.type "type") := by rfl
theorem k_ho3 (P : Params) : readsIn (hd.heap_39 P) 65 (.type "type") = true := by rfl
theorem k_ho4 (P : Params) : findCls (hd.heap_39 P) (.ref 65) (.type "type") "__init__" = some (.val (.ref 62)) := by rfl
theorem pi_is_open (hG : Known G) : PropIs G 115 "is_open" 90 := by
  have hK := hG.K
  exact { get := by rw [hK]; rfl, dict := by rw [hK]; rfl, at_ := by rw [hK]; exact ⟨_, _, rfl, rfl, rfl, rfl⟩ }

theorem is_83 (hG : Known G) : FnIs G 83 (fdOf 83) ["self", "thread", "index"] (bodyOf 83) (scOf 83) where
  at_ := by rw [hG.K]; exact ⟨_, _, _, rfl⟩
  code := by rw [hG.K]; rfl
  body := rfl
  scope := rfl
  globals := rfl
  builtins := rfl
  closure := rfl
  bind := fun s as' h => by obtain ⟨x0, x1, x2, rfl⟩ := len3 h; exact BindsTo.of_eq rfl
  co := rfl
  gen := rfl
  kind := rfl
  lam := fun q => by rw [hG.ls] at q; exact absurd (congrArg (fun s => s.names.length) q) (by decide)
noncomputable def d_83 (hG : Known G) : { m : AM AF // ∀ n, RefB G (n + 1) (scOf 83) (bodyOf 83) m } := ⟨_, fun n =>
 (refb_cons (refs_expr (ref_cmeth (hG.K ▸ k_ho1 _) (hG.K ▸ k_ho2 _) (hG.K ▸ k_ho3 _) (hG.K ▸ k_ho4 _) (by rw [hG.callees]; decide) ((fn_62 hG (n + 0)).cok) (ref_glob rfl (hG.K ▸ g_HeapObject _) (.obj _)) (.cons (ref_loc rfl) (fun _ _ => rfl) (.cons ref_int (fun _ _ => rfl) (.cons (ref_glob (v := valOf "SIZE_UPVAL") rfl (hG.K ▸ g_SIZE _) (.int 4 _)) (fun _ _ => rfl) .nil)))))
 (refb_cons (refs_setattr (ref_loc rfl) (ref_loc rfl))
 (refb_cons (refs_setattr (ref_loc rfl) (ref_loc rfl))
 (refb_one (refs_setattr ref_none (ref_loc rfl))))))⟩
theorem fn_83 (hG : Known G) (n : Nat) : FnOk G (n + 2) 83 (aFn ["self", "thread", "index"] (d_83 hG).1) := fn_plain (n := n + 1) (is_83 hG) (by decide) (by decide) ((d_83 hG).2 n)
theorem is_90 (hG : Known G) : FnIs G 90 (fdOf 90) ["self"] (bodyOf 90) (scOf 90) where
  at_ := by rw [hG.K]; exact ⟨_, _, _, rfl⟩
  code := by rw [hG.K]; rfl
  body := rfl
  scope := rfl
  globals := rfl
  builtins := rfl
  closure := rfl
  bind := fun s as' h => by obtain ⟨x0, rfl⟩ := len1 h; exact BindsTo.of_eq rfl
  co := rfl
  gen := rfl
  kind := rfl
  lam := fun q => by rw [hG.ls] at q; exact absurd (congrArg (fun s => s.names.length) q) (by decide)
noncomputable def d_90 (hG : Known G) : { m : AM AF // ∀ n, RefB G (n + 0) (scOf 90) (bodyOf 90) m } := ⟨_, fun n =>
 (refb_one (refs_ret (ref_cmp (cmpOk _) (ref_attr (ref_loc rfl)) ref_none)))⟩
theorem fn_90 (hG : Known G) (n : Nat) : FnOk G (n + 1) 90 (aFn ["self"] (d_90 hG).1) := fn_plain (n := n + 0) (is_90 hG) (by decide) (by decide) ((d_90 hG).2 n)
theorem is_98 (hG : Known G) : FnIs G 98 (fdOf 98) ["self"] (bodyOf 98) (scOf 98) where
  at_ := by rw [hG.K]; exact ⟨_, _, _, rfl⟩
  code := by rw [hG.K]; rfl
  body := rfl
  scope := rfl
  globals := rfl
  builtins := rfl
  closure := rfl
  bind := fun s as' h => by obtain ⟨x0, rfl⟩ := len1 h; exact BindsTo.of_eq rfl
  co := rfl
  gen := rfl
  kind := rfl
  lam := fun q => by rw [hG.ls] at q; exact absurd (congrArg (fun s => s.names.length) q) (by decide)
noncomputable def d_98 (hG : Known G) : { m : AM AF // ∀ n, RefB G (n + 0) (scOf 98) (bodyOf 98) m } := ⟨_, fun n =>
 (refb_cons (refs_if (reft_cmp (cmpOk _) (ref_attr (ref_loc rfl)) ref_none)
 (refb_one (refs_ret (ref_attr (ref_loc rfl))))
 refb_nil)
 (refb_one (refs_ret (ref_sub (ref_attr (ref_attr (ref_loc rfl))) (ref_attr (ref_loc rfl))))))⟩
theorem fn_98 (hG : Known G) (n : Nat) : FnOk G (n + 1) 98 (aFn ["self"] (d_98 hG).1) := fn_plain (n := n + 0) (is_98 hG) (by decide) (by decide) ((d_98 hG).2 n)
theorem is_112 (hG : Known G) : FnIs G 112 (fdOf 112) ["self"] (bodyOf 112) (scOf 112) where
  at_ := by rw [hG.K]; exact ⟨_, _, _, rfl⟩
  code := by rw [hG.K]; rfl
  body := rfl
  scope := rfl
  globals := rfl
  builtins := rfl
  closure := rfl
  bind := fun s as' h => by obtain ⟨x0, rfl⟩ := len1 h; exact BindsTo.of_eq rfl
  co := rfl
  gen := rfl
  kind := rfl
  lam := fun q => by rw [hG.ls] at q; exact absurd (congrArg (fun s => s.names.length) q) (by decide)
noncomputable def d_112 (hG : Known G) : { m : AM AF // ∀ n, RefB G (n + 0) (scOf 112) (bodyOf 112) m } := ⟨_, fun n =>
 (refb_one (refs_if (reft_cmp (cmpOk _) (ref_attr (ref_loc rfl)) ref_none)
 (refb_cons (refs_setattr (ref_sub (ref_attr (ref_attr (ref_loc rfl))) (ref_attr (ref_loc rfl))) (ref_loc rfl))
 (refb_cons (refs_setattr ref_none (ref_loc rfl))
 (refb_one (refs_setattr (ref_un ref_int) (ref_loc rfl)))))
 refb_nil))⟩
theorem fn_112 (hG : Known G) (n : Nat) : FnOk G (n + 1) 112 (aFn ["self"] (d_112 hG).1) := fn_plain (n := n + 0) (is_112 hG) (by decide) (by decide) ((d_112 hG).2 n)
theorem is_131 (hG : Known G) : FnIs G 131 (fdOf 131) ["self", "values"] (bodyOf 131) (scOf 131) where
  at_ := by rw [hG.K]; exact ⟨_, _, _, rfl⟩
  code := by rw [hG.K]; rfl
  body := rfl
  scope := rfl
  globals := rfl
  builtins := rfl
  closure := rfl
  bind := fun s as' h => by obtain ⟨x0, x1, rfl⟩ := len2 h; exact BindsTo.of_eq rfl
  co := rfl
  gen := rfl
  kind := rfl
  lam := fun q => by rw [hG.ls] at q; exact absurd (congrArg (fun s => s.names.length) q) (by decide)
noncomputable def d_131 (hG : Known G) : { m : AM AF // ∀ n, RefB G (n + 0) (scOf 131) (bodyOf 131) m } := ⟨_, fun n =>
 (refb_cons (refs_setattr (ref_ty rfl (hG.K ▸ g_list _) rfl (by decide) mklist_ok (.cons (ref_loc rfl) (fun _ _ => rfl) .nil)) (ref_loc rfl))
 (refb_one (refs_setattr (ref_list .nil) (ref_loc rfl))))⟩
theorem fn_131 (hG : Known G) (n : Nat) : FnOk G (n + 1) 131 (aFn ["self", "values"] (d_131 hG).1) := fn_plain (n := n + 0) (is_131 hG) (by decide) (by decide) ((d_131 hG).2 n)
theorem cok_UpVal (hG : Known G) (n : Nat) : COk G (n + 3) (.obj 115) (aInst 115 (aFn ["self", "thread", "index"] (d_83 hG).1)) := by
  have hK := hG.K
  exact cok_inst (n := n + 2) (fI := 83) (by rw [hK]; rfl) (by rw [hK]; rfl) (by rw [hK]; rfl) (fn_83 hG n)
theorem cok_Ground (hG : Known G) (n : Nat) : COk G (n + 2) (.obj 134) (aInst 134 (aFn ["self", "values"] (d_131 hG).1)) := by
  have hK := hG.K
  exact cok_inst (n := n + 1) (fI := 131) (by rw [hK]; rfl) (by rw [hK]; rfl) (by rw [hK]; rfl) (fn_131 hG n)

end Mine

open PySem PySem.W PyProof.Rows PySem.Calls
set_option Elab.async false
set_option maxRecDepth 100000
set_option maxHeartbeats 1000000
set_option linter.unusedVariables false
namespace Mine
variable {G : Gd}

theorem is_152 (hG : Known G) : FnIs G 152 (fdOf 152) ["owner", "index"] (bodyOf 152) (scOf 152) where
  at_ := by rw [hG.K]; exact ⟨_, _, _, rfl⟩
  code := by rw [hG.K]; rfl
  body := rfl
  scope := rfl
  globals := rfl
  builtins := rfl
  closure := rfl
  bind := fun s as' h => by obtain ⟨x0, x1, rfl⟩ := len2 h; exact BindsTo.of_eq rfl
  co := rfl
  gen := rfl
  kind := rfl
  lam := fun q => by rw [hG.ls] at q; exact absurd (congrArg (fun s => s.names.length) q) (by decide)
noncomputable def d_152 (hG : Known G) : { m : AM AF // ∀ n, RefB G (n + 1) (scOf 152) (bodyOf 152) m } := ⟨_, fun n =>
 (refb_cons (refs_assign (ref_fn rfl (hG.K ▸ g_spot_of _) (by rw [hG.callees]; decide) ((fn_145 hG (n + 0)).cok) (.cons (ref_loc rfl) (fun _ _ => rfl) (.cons (ref_loc rfl) (fun _ _ => rfl) .nil))) (store_loc rfl))
 (refb_cons (refs_if (reft_and (.cons (reft_cmp (cmpOk _) (ref_loc rfl) (ref_bi rfl (hG.K ▸ g_len _) rfl (by decide) len_ok (.cons (ref_attr (ref_loc rfl)) (fun _ _ => rfl) .nil))) (.cons (reft_cmp (cmpOk _) (ref_attr (ref_sub (ref_attr (ref_loc rfl)) (ref_loc rfl))) (ref_loc rfl)) .nil)))
 (refb_one (refs_ret (ref_sub (ref_attr (ref_loc rfl)) (ref_loc rfl))))
 refb_nil)
 (refb_one (refs_ret ref_none))))⟩
theorem fn_152 (hG : Known G) (n : Nat) : FnOk G (n + 2) 152 (aFn ["owner", "index"] (d_152 hG).1) := fn_plain (n := n + 1) (is_152 hG) (by decide) (by decide) ((d_152 hG).2 n)
theorem is_159 (hG : Known G) : FnIs G 159 (fdOf 159) ["owner", "upval"] (bodyOf 159) (scOf 159) where
  at_ := by rw [hG.K]; exact ⟨_, _, _, rfl⟩
  code := by rw [hG.K]; rfl
  body := rfl
  scope := rfl
  globals := rfl
  builtins := rfl
  closure := rfl
  bind := fun s as' h => by obtain ⟨x0, x1, rfl⟩ := len2 h; exact BindsTo.of_eq rfl
  co := rfl
  gen := rfl
  kind := rfl
  lam := fun q => by rw [hG.ls] at q; exact absurd (congrArg (fun s => s.names.length) q) (by decide)
noncomputable def d_159 (hG : Known G) : { m : AM AF // ∀ n, RefB G (n + 1) (scOf 159) (bodyOf 159) m } := ⟨_, fun n =>
 (refb_one (refs_expr (ref_lmeth PySem.F.slot_list_insert PySem.F.type_list_insert insert_ok (ref_attr (ref_loc rfl)) (.cons (ref_fn rfl (hG.K ▸ g_spot_of _) (by rw [hG.callees]; decide) ((fn_145 hG (n + 0)).cok) (.cons (ref_loc rfl) (fun _ _ => rfl) (.cons (ref_attr (ref_loc rfl)) (fun _ _ => rfl) .nil))) (fun _ _ => rfl) (.cons (ref_loc rfl) (fun _ _ => rfl) .nil)))))⟩
theorem fn_159 (hG : Known G) (n : Nat) : FnOk G (n + 2) 159 (aFn ["owner", "upval"] (d_159 hG).1) := fn_plain (n := n + 1) (is_159 hG) (by decide) (by decide) ((d_159 hG).2 n)
theorem is_166 (hG : Known G) : FnIs G 166 (fdOf 166) ["owner", "index"] (bodyOf 166) (scOf 166) where
  at_ := by rw [hG.K]; exact ⟨_, _, _, rfl⟩
  code := by rw [hG.K]; rfl
  body := rfl
  scope := rfl
  globals := rfl
  builtins := rfl
  closure := rfl
  bind := fun s as' h => by obtain ⟨x0, x1, rfl⟩ := len2 h; exact BindsTo.of_eq rfl
  co := rfl
  gen := rfl
  kind := rfl
  lam := fun q => by rw [hG.ls] at q; exact absurd (congrArg (fun s => s.names.length) q) (by decide)
noncomputable def d_166 (hG : Known G) : { m : AM AF // ∀ n, RefB G (n + 3) (scOf 166) (bodyOf 166) m } := ⟨_, fun n =>
 (refb_cons (refs_assign (ref_fn rfl (hG.K ▸ g_open_at _) (by rw [hG.callees]; decide) ((fn_152 hG (n + 1)).cok) (.cons (ref_loc rfl) (fun _ _ => rfl) (.cons (ref_loc rfl) (fun _ _ => rfl) .nil))) (store_loc rfl))
 (refb_cons (refs_if (reft_cmp (cmpOk _) (ref_loc rfl) ref_none)
 (refb_cons (refs_assign (ref_fn rfl (hG.K ▸ g_UpVal _) (by rw [hG.callees]; decide) (cok_UpVal hG (n + 0)) (.cons (ref_loc rfl) (fun _ _ => rfl) (.cons (ref_loc rfl) (fun _ _ => rfl) .nil))) (store_loc rfl))
 (refb_one (refs_expr (ref_fn rfl (hG.K ▸ g_put_open _) (by rw [hG.callees]; decide) ((fn_159 hG (n + 1)).cok) (.cons (ref_loc rfl) (fun _ _ => rfl) (.cons (ref_loc rfl) (fun _ _ => rfl) .nil))))))
 refb_nil)
 (refb_one (refs_ret (ref_loc rfl)))))⟩
theorem fn_166 (hG : Known G) (n : Nat) : FnOk G (n + 4) 166 (aFn ["owner", "index"] (d_166 hG).1) := fn_plain (n := n + 3) (is_166 hG) (by decide) (by decide) ((d_166 hG).2 n)
theorem is_173 (hG : Known G) : FnIs G 173 (fdOf 173) ["owner", "level"] (bodyOf 173) (scOf 173) where
  at_ := by rw [hG.K]; exact ⟨_, _, _, rfl⟩
  code := by rw [hG.K]; rfl
  body := rfl
  scope := rfl
  globals := rfl
  builtins := rfl
  closure := rfl
  bind := fun s as' h => by obtain ⟨x0, x1, rfl⟩ := len2 h; exact BindsTo.of_eq rfl
  co := rfl
  gen := rfl
  kind := rfl
  lam := fun q => by rw [hG.ls] at q; exact absurd (congrArg (fun s => s.names.length) q) (by decide)
noncomputable def d_173 (hG : Known G) : { m : AM AF // ∀ n, RefB G (n + 1) (scOf 173) (bodyOf 173) m } := ⟨_, fun n =>
 (refb_cons (refs_assign (ref_list .nil) (store_loc rfl))
 (refb_cons (refs_while 2000 (reft_and (.cons (reft_cmp (cmpOk _) (ref_bi rfl (hG.K ▸ g_len _) rfl (by decide) len_ok (.cons (ref_attr (ref_loc rfl)) (fun _ _ => rfl) .nil)) ref_int) (.cons (reft_cmp (cmpOk _) (ref_attr (ref_sub (ref_attr (ref_loc rfl)) ref_int)) (ref_loc rfl)) .nil)))
 (refb_cons (refs_assign (ref_lmeth PySem.F.slot_list_pop PySem.F.type_list_pop pop_ok (ref_attr (ref_loc rfl)) (.cons ref_int (fun _ _ => rfl) .nil)) (store_loc rfl))
 (refb_cons (refs_expr (ref_imeth (C := 115) (by rw [hG.meths]; decide) (by rw [hG.callees]; decide) ((fn_112 hG (n + 0)).cok) (ref_loc rfl) .nil))
 (refb_one (refs_expr (ref_lmeth PySem.F.slot_list_append PySem.F.type_list_append append_ok (ref_loc rfl) (.cons (ref_loc rfl) (fun _ _ => rfl) .nil)))))))
 (refb_one (refs_ret (ref_loc rfl)))))⟩
theorem fn_173 (hG : Known G) (n : Nat) : FnOk G (n + 2) 173 (aFn ["owner", "level"] (d_173 hG).1) := fn_plain (n := n + 1) (is_173 hG) (by decide) (by decide) ((d_173 hG).2 n)
theorem is_194 (hG : Known G) : FnIs G 194 (fdOf 194) ["holder", "depth", "ccalls", "handling", "top"] (bodyOf 194) (scOf 194) where
  at_ := by rw [hG.K]; exact ⟨_, _, _, rfl⟩
  code := by rw [hG.K]; rfl
  body := rfl
  scope := rfl
  globals := rfl
  builtins := rfl
  closure := rfl
  bind := fun s as' h => by obtain ⟨x0, x1, x2, x3, x4, rfl⟩ := len5 h; exact BindsTo.of_eq rfl
  co := rfl
  gen := rfl
  kind := rfl
  lam := fun q => by rw [hG.ls] at q; exact absurd (congrArg (fun s => s.names.length) q) (by decide)
noncomputable def d_194 (hG : Known G) : { m : AM AF // ∀ n, RefB G (n + 2) (scOf 194) (bodyOf 194) m } := ⟨_, fun n =>
 (refb_cons (refs_assign (ref_fn rfl (hG.K ▸ g_take_closed _) (by rw [hG.callees]; decide) ((fn_173 hG (n + 0)).cok) (.cons (ref_loc rfl) (fun _ _ => rfl) (.cons (ref_loc rfl) (fun _ _ => rfl) .nil))) (store_loc rfl))
 (refb_cons (refs_expr (ref_fn rfl (hG.K ▸ g_unwound _) (by rw [hG.callees]; decide) ((fn_28 hG (n + 1)).cok) (.cons (ref_attr (ref_loc rfl)) (fun _ _ => rfl) (.cons (ref_loc rfl) (fun _ _ => rfl) .nil))))
 (refb_cons (refs_setattr (ref_loc rfl) (ref_loc rfl))
 (refb_cons (refs_setattr (ref_loc rfl) (ref_loc rfl))
 (refb_cons (refs_setattr (ref_loc rfl) (ref_loc rfl))
 (refb_one (refs_ret (ref_loc rfl))))))))⟩
theorem fn_194 (hG : Known G) (n : Nat) : FnOk G (n + 3) 194 (aFn ["holder", "depth", "ccalls", "handling", "top"] (d_194 hG).1) := fn_plain (n := n + 2) (is_194 hG) (by decide) (by decide) ((d_194 hG).2 n)
end Mine

open PySem PySem.W PyProof.Rows PySem.Calls
set_option Elab.async false
set_option maxRecDepth 100000
set_option maxHeartbeats 1000000
set_option linter.unusedVariables false
namespace Mine
variable {G : Gd}

theorem is_220 (hG : Known G) : FnIs G 220 (fdOf 220) ["world", "times", "holder", "value"] (bodyOf 220) (scOf 220) where
  at_ := by rw [hG.K]; exact ⟨_, _, _, rfl⟩
  code := by rw [hG.K]; rfl
  body := rfl
  scope := rfl
  globals := rfl
  builtins := rfl
  closure := rfl
  bind := fun s as' h => by obtain ⟨x0, x1, x2, x3, rfl⟩ := len4 h; exact BindsTo.of_eq rfl
  co := rfl
  gen := rfl
  kind := rfl
  lam := fun q => by rw [hG.ls] at q; exact absurd (congrArg (fun s => s.names.length) q) (by decide)
noncomputable def d_220 (hG : Known G) : { m : AM AF // ∀ n, RefB G (n + 2) (scOf 220) (bodyOf 220) m } := ⟨_, fun n =>
 (refb_cons (refs_expr (ref_lmeth PySem.F.slot_list_append PySem.F.type_list_append append_ok (ref_sub (ref_loc rfl) ref_str) (.cons (ref_tuple (.cons ref_str (fun _ _ => rfl) (.cons (ref_loc rfl) (fun _ _ => rfl) (.cons (ref_attr (ref_loc rfl)) (fun _ _ => rfl) (.cons (ref_bi rfl (hG.K ▸ g_len _) rfl (by decide) len_ok (.cons (ref_attr (ref_loc rfl)) (fun _ _ => rfl) .nil)) (fun _ _ => rfl) (.cons (ref_attr (ref_loc rfl)) (fun _ _ => rfl) .nil)))))) (fun _ _ => rfl) .nil)))
 (refb_cons (refs_setitem (ref_bin (ref_sub (ref_loc rfl) ref_int) ref_int) (ref_loc rfl) ref_int)
 (refb_cons (refs_if (reft_cmp (cmpOk _) (ref_sub (ref_loc rfl) ref_int) ref_int)
 (refb_one (refs_raise (xk_LuaError hG) (ref_fn rfl (hG.K ▸ g_LuaError _) (by rw [hG.callees]; decide) (cok_LuaError hG (n + 0)) (.cons (ref_fn rfl (hG.K ▸ g_law_more _) (by rw [hG.callees]; decide) ((fn_213 hG (n + 1)).cok) (.cons (ref_loc rfl) (fun _ _ => rfl) (.cons ref_int (fun _ _ => rfl) .nil))) (fun _ _ => rfl) .nil))))
 refb_nil)
 (refb_one (refs_ret (ref_fn rfl (hG.K ▸ g_law_more _) (by rw [hG.callees]; decide) ((fn_213 hG (n + 1)).cok) (.cons (ref_loc rfl) (fun _ _ => rfl) (.cons ref_int (fun _ _ => rfl) .nil))))))))⟩
theorem fn_220 (hG : Known G) (n : Nat) : FnOk G (n + 3) 220 (aFn ["world", "times", "holder", "value"] (d_220 hG).1) := fn_plain (n := n + 2) (is_220 hG) (by decide) (by decide) ((d_220 hG).2 n)
end Mine

open PySem PySem.W PyProof.Rows PySem.Calls
set_option Elab.async false
set_option maxRecDepth 100000
set_option maxHeartbeats 1000000
set_option linter.unusedVariables false
namespace Mine
variable {G : Gd}

theorem is_199 (hG : Known G) : FnIs G 199 (fdOf 199) ["script"] (bodyOf 199) (scOf 199) where
  at_ := by rw [hG.K]; exact ⟨_, _, _, rfl⟩
  code := by rw [hG.K]; rfl
  body := rfl
  scope := rfl
  globals := rfl
  builtins := rfl
  closure := rfl
  bind := fun s as' h => by obtain ⟨x0, rfl⟩ := len1 h; exact BindsTo.of_eq rfl
  co := rfl
  gen := rfl
  kind := rfl
  lam := fun q => by rw [hG.ls] at q; exact absurd (congrArg (fun s => s.names.length) q) (by decide)
noncomputable def d_199 (hG : Known G) : { m : AM AF // ∀ n, RefB G (n + 0) (scOf 199) (bodyOf 199) m } := ⟨_, fun n =>
 (refb_cons (refs_comp (compIs_of (by rw [hG.ls]; rfl) (by decide) rfl rfl rfl) (target_name _ _) (ref_upto (ref_loc rfl)) (refas_name (store_loc rfl)) .nil (ref_bin (ref_bi rfl (hG.K ▸ g_abs _) rfl (by decide) abs_ok (.cons (ref_ty rfl (hG.K ▸ g_int _) rfl (by decide) int_ok (.cons (ref_loc rfl) (fun _ _ => rfl) .nil)) (fun _ _ => rfl) .nil)) ref_int) (store_loc rfl) nx_store (fun env h => by cases env; cases h; rfl))
 (refb_cons (refs_assign ref_int (store_loc rfl))
 (refb_cons (refs_for (ref_loc rfl) (store_loc rfl)
 (refb_one (refs_assign (ref_bin (ref_bin (ref_bin (ref_bin (ref_loc rfl) ref_int) (ref_loc rfl)) ref_int) ref_int) (store_loc rfl))))
 (refb_one (refs_ret (ref_list (.cons (ref_loc rfl) (fun _ _ => rfl) (.cons ref_int (fun _ _ => rfl) (.cons (ref_loc rfl) (fun _ _ => rfl) .nil)))))))))⟩
theorem fn_199 (hG : Known G) (n : Nat) : FnOk G (n + 1) 199 (aFn ["script"] (d_199 hG).1) := fn_plain (n := n + 0) (is_199 hG) (by decide) (by decide) ((d_199 hG).2 n)
end Mine

open PySem PySem.W PyProof.Rows PySem.Calls
set_option Elab.async false
set_option maxRecDepth 100000
set_option maxHeartbeats 1000000
set_option linter.unusedVariables false
namespace Mine
variable {G : Gd}

theorem is_225 (hG : Known G) : FnIs G 225 (fdOf 225) ["deal", "at"] (bodyOf 225) (scOf 225) where
  at_ := by rw [hG.K]; exact ⟨_, _, _, rfl⟩
  code := by rw [hG.K]; rfl
  body := rfl
  scope := rfl
  globals := rfl
  builtins := rfl
  closure := rfl
  bind := fun s as' h => by obtain ⟨x0, x1, rfl⟩ := len2 h; exact BindsTo.of_eq rfl
  co := rfl
  gen := rfl
  kind := rfl
  lam := fun q => by rw [hG.ls] at q; exact absurd (congrArg (fun s => s.names.length) q) (by decide)
noncomputable def d_225 (hG : Known G) : { m : AM AF // ∀ n, RefB G (n + 1) (scOf 225) (bodyOf 225) m } := ⟨_, fun n =>
 (refb_cons (refs_comp (compIs_of (by rw [hG.ls]; rfl) (by decide) rfl rfl rfl) (target_name _ _) (ref_ty rfl (hG.K ▸ g_range _) rfl (by decide) range_ok (.cons (ref_fn rfl (hG.K ▸ g_law_take _) (by rw [hG.callees]; decide) ((fn_206 hG (n + 0)).cok) (.cons (ref_cell (.inl rfl)) (fun _ _ => rfl) (.cons ref_int (fun _ _ => rfl) .nil))) (fun _ _ => rfl) .nil)) (refas_name (store_loc rfl)) .nil (ref_fn rfl (hG.K ▸ g_law_take _) (by rw [hG.callees]; decide) ((fn_206 hG (n + 0)).cok) (.cons (ref_cell (.inl rfl)) (fun _ _ => rfl) (.cons ref_int (fun _ _ => rfl) .nil))) (store_loc rfl) nx_store (fun env h => by cases env; cases h; rfl))
 (refb_cons (refs_swapped (names := ["frames", "calls"]) (ref_tuple (.cons (ref_fn rfl (hG.K ▸ g_law_take _) (by rw [hG.callees]; decide) ((fn_206 hG (n + 0)).cok) (.cons (ref_cell (.inl rfl)) (fun _ _ => rfl) (.cons ref_int (fun _ _ => rfl) .nil))) (fun _ _ => rfl) (.cons (ref_fn rfl (hG.K ▸ g_law_take _) (by rw [hG.callees]; decide) ((fn_206 hG (n + 0)).cok) (.cons (ref_cell (.inl rfl)) (fun _ _ => rfl) (.cons ref_int (fun _ _ => rfl) .nil))) (fun _ _ => rfl) .nil))) (.cons (refa_bind (store_loc rfl)) (.cons (refa_bind (store_loc rfl)) .nil)) (fun _ => rfl) (fun env h => by cases env; cases h; rfl))
 (refb_cons (refs_assign (ref_bin (ref_fn rfl (hG.K ▸ g_law_take _) (by rw [hG.callees]; decide) ((fn_206 hG (n + 0)).cok) (.cons (ref_cell (.inl rfl)) (fun _ _ => rfl) (.cons (ref_bin (ref_loc rfl) ref_int) (fun _ _ => rfl) .nil))) ref_int) (store_loc rfl))
 (refb_cons (refs_assign (ref_ifexp (reft_cmp (cmpOk _) (ref_loc rfl) ref_int) (ref_sub (ref_list (.cons (ref_un ref_int) (fun _ _ => rfl) (.cons ref_int (fun _ _ => rfl) (.cons ref_int (fun _ _ => rfl) (.cons ref_int (fun _ _ => rfl) (.cons ref_int (fun _ _ => rfl) .nil)))))) (ref_fn rfl (hG.K ▸ g_law_take _) (by rw [hG.callees]; decide) ((fn_206 hG (n + 0)).cok) (.cons (ref_cell (.inl rfl)) (fun _ _ => rfl) (.cons ref_int (fun _ _ => rfl) .nil)))) (ref_un ref_int)) (store_loc rfl))
 (refb_cons (refs_swapped (names := ["is_anew", "end"]) (ref_tuple (.cons (ref_cmp (cmpOk _) (ref_fn rfl (hG.K ▸ g_law_take _) (by rw [hG.callees]; decide) ((fn_206 hG (n + 0)).cok) (.cons (ref_cell (.inl rfl)) (fun _ _ => rfl) (.cons ref_int (fun _ _ => rfl) .nil))) ref_int) (fun _ _ => rfl) (.cons (ref_fn rfl (hG.K ▸ g_law_take _) (by rw [hG.callees]; decide) ((fn_206 hG (n + 0)).cok) (.cons (ref_cell (.inl rfl)) (fun _ _ => rfl) (.cons ref_int (fun _ _ => rfl) .nil))) (fun _ _ => rfl) .nil))) (.cons (refa_bind (store_loc rfl)) (.cons (refa_bind (store_loc rfl)) .nil)) (fun _ => rfl) (fun env h => by cases env; cases h; rfl))
 (refb_one (refs_ret (ref_tuple (.cons (ref_loc rfl) (fun _ _ => rfl) (.cons (ref_loc rfl) (fun _ _ => rfl) (.cons (ref_loc rfl) (fun _ _ => rfl) (.cons (ref_loc rfl) (fun _ _ => rfl) (.cons (ref_loc rfl) (fun _ _ => rfl) (.cons (ref_loc rfl) (fun _ _ => rfl) (.cons (ref_loc rfl) (fun _ _ => rfl) .nil)))))))))))))))⟩
theorem isC_225 (hG : Known G) : FnIsC G 225 (fdOf 225) ["deal", "at"] (bodyOf 225) (scOf 225) ["deal"] :=
  { is_225 hG with names := rfl, nodup := by decide, kinds := by decide, cellk := by decide }
theorem fn_225 (hG : Known G) (n : Nat) : FnOk G (n + 2) 225 (aFnC (scOf 225) ["deal"] ["deal", "at"] (d_225 hG).1) := fn_cells (n := n + 1) (isC_225 hG) ((d_225 hG).2 n)
end Mine

open PySem PySem.W PyProof.Rows PySem.Calls
set_option Elab.async false
set_option maxRecDepth 100000
set_option maxHeartbeats 1000000
set_option linter.unusedVariables false
namespace Mine
variable {G : Gd}

theorem OkA.down {n k : Nat} {c : Cx} (h : OkA G n c) (hk : k ≤ n) : OkA G k c := by
  have h1 := h.depth
  have h2 := h.units
  exact ⟨by omega, by omega, h.frs⟩
theorem COk.up {n k : Nat} {f : AV} {af : List AV → AM AV} (h : COk G k f af) (hk : k ≤ n) : COk G n f af := fun c σ ρ s f' as as' hc R hf ha => h c σ ρ s f' as as' (hc.down hk) R hf ha

theorem is_251 (hG : Known G) : FnIs G 251 (fdOf 251) ["world", "value", "kind", "deep", "many", "handling"] (bodyOf 251) (scOf 251) where
  at_ := by rw [hG.K]; exact ⟨_, _, _, rfl⟩
  code := by rw [hG.K]; rfl
  body := rfl
  scope := rfl
  globals := rfl
  builtins := rfl
  closure := rfl
  bind := fun s as' h => by obtain ⟨x0, x1, x2, x3, x4, x5, rfl⟩ := len6 h; exact BindsTo.of_eq rfl
  co := rfl
  gen := rfl
  kind := rfl
  lam := fun q => by rw [hG.ls] at q; exact absurd (congrArg (fun s => s.names.length) q) (by decide)
noncomputable def d_251 (hG : Known G)  : { m : AM AF // ∀ l : Nat, RefB G (l + 1) (scOf 251) (bodyOf 251) m } := ⟨_, fun l  =>
 (refb_cons (refs_for (ref_ty rfl (hG.K ▸ g_range _) rfl (by decide) range_ok (.cons (ref_bi rfl (hG.K ▸ g_max _) rfl (by decide) max_ok (.cons ref_int (fun _ _ => rfl) (.cons (ref_bin (ref_sub (ref_loc rfl) ref_str) (ref_loc rfl)) (fun _ _ => rfl) .nil))) (fun _ _ => rfl) .nil)) (store_loc rfl)
 (refb_cons (refs_expr (ref_lmeth PySem.F.slot_list_append PySem.F.type_list_append append_ok (ref_sub (ref_loc rfl) ref_str) (.cons (ref_tuple (.cons ref_str (fun _ _ => rfl) (.cons (ref_loc rfl) (fun _ _ => rfl) (.cons (ref_bin (ref_loc rfl) (ref_loc rfl)) (fun _ _ => rfl) (.cons (ref_loc rfl) (fun _ _ => rfl) (.cons (ref_bin (ref_bin (ref_loc rfl) (ref_loc rfl)) ref_int) (fun _ _ => rfl) .nil)))))) (fun _ _ => rfl) .nil)))
 (refb_cons (refs_if (reft_cmp (cmpOk _) (ref_loc rfl) (ref_loc rfl))
 (refb_one (refs_ret (ref_fn rfl (hG.K ▸ g_law_more _) (by rw [hG.callees]; decide) ((fn_213 hG l).cok) (.cons (ref_loc rfl) (fun _ _ => rfl) (.cons ref_int (fun _ _ => rfl) .nil)))))
 refb_nil)
 (refb_one (refs_assign (ref_fn rfl (hG.K ▸ g_law_more _) (by rw [hG.callees]; decide) ((fn_213 hG l).cok) (.cons (ref_loc rfl) (fun _ _ => rfl) (.cons ref_int (fun _ _ => rfl) .nil))) (store_loc rfl))))))
 (refb_one (refs_ret (ref_glob (v := valOf "ERROR_IN_ERROR") rfl (hG.K ▸ g_ERR _) (.bytes _ _)))))⟩
theorem fn_251 (hG : Known G)  (l : Nat)  : FnOk G (l + 2) 251 (aFn ["world", "value", "kind", "deep", "many", "handling"] (d_251 hG ).1) := fn_plain (n := l + 1) (is_251 hG) (by decide) (by decide) ((d_251 hG ).2 l )
theorem is_244 (hG : Known G) : FnIs G 244 (fdOf 244) ["world", "at", "ccalls", "frames", "handling"] (bodyOf 244) (scOf 244) where
  at_ := by rw [hG.K]; exact ⟨_, _, _, rfl⟩
  code := by rw [hG.K]; rfl
  body := rfl
  scope := rfl
  globals := rfl
  builtins := rfl
  closure := rfl
  bind := fun s as' h => by obtain ⟨x0, x1, x2, x3, x4, rfl⟩ := len5 h; exact BindsTo.of_eq rfl
  co := rfl
  gen := rfl
  kind := rfl
  lam := fun q => by rw [hG.ls] at q; exact absurd (congrArg (fun s => s.names.length) q) (by decide)
noncomputable def d_244 (hG : Known G) (rec : List AV → AM AV) : { m : AM AF // ∀ l : Nat, ∀ (hrec : COk G l (.obj 244) rec), RefB G (l + 2) (scOf 244) (bodyOf 244) m } := ⟨_, fun l hrec =>
 (refb_cons (refs_tuple (ref_sub (ref_sub (ref_loc rfl) ref_str) (ref_loc rfl)) (.cons (refa_name (store_loc rfl)) (.cons (refa_name (store_loc rfl)) (.cons (refa_name (store_loc rfl)) (.cons (refa_name (store_loc rfl)) (.cons (refa_name (store_loc rfl)) (.cons (refa_name (store_loc rfl)) (.cons (refa_name (store_loc rfl)) .nil))))))) (fun _ => rfl) (fun _ => rfl) (fun _ => rfl) (fun env h => by cases env; cases h; rfl))
 (refb_cons (refs_swapped (names := ["ccalls", "frames"]) (ref_tuple (.cons (ref_bin (ref_loc rfl) (ref_loc rfl)) (fun _ _ => rfl) (.cons (ref_bin (ref_loc rfl) (ref_loc rfl)) (fun _ _ => rfl) .nil))) (.cons (refa_bind (store_loc rfl)) (.cons (refa_bind (store_loc rfl)) .nil)) (fun _ => rfl) (fun env h => by cases env; cases h; rfl))
 (refb_cons (refs_if (reft_cmp (cmpOk _) (ref_loc rfl) ref_int)
 (refb_cons (refs_tuple (ref_fn rfl (hG.K ▸ g_law_due _) (by rw [hG.callees]; decide) (hrec.up (by omega)) (.cons (ref_loc rfl) (fun _ _ => rfl) (.cons (ref_loc rfl) (fun _ _ => rfl) (.cons (ref_loc rfl) (fun _ _ => rfl) (.cons (ref_loc rfl) (fun _ _ => rfl) (.cons (ref_loc rfl) (fun _ _ => rfl) .nil)))))) (.cons (refa_name (store_loc rfl)) (.cons (refa_name (store_loc rfl)) (.cons (refa_name (store_loc rfl)) .nil))) (fun _ => rfl) (fun _ => rfl) (fun _ => rfl) (fun env h => by cases env; cases h; rfl))
 (refb_cons (refs_if (reft_and (.cons (reft_cmp (cmpOk _) (ref_loc rfl) ref_none) (.cons (reft_cmp (cmpOk _) (ref_loc rfl) ref_int) .nil)))
 (refb_one (refs_assign (ref_fn rfl (hG.K ▸ g_law_answered _) (by rw [hG.callees]; decide) ((fn_251 hG l).cok) (.cons (ref_loc rfl) (fun _ _ => rfl) (.cons (ref_loc rfl) (fun _ _ => rfl) (.cons (ref_loc rfl) (fun _ _ => rfl) (.cons (ref_loc rfl) (fun _ _ => rfl) (.cons (ref_loc rfl) (fun _ _ => rfl) (.cons (ref_loc rfl) (fun _ _ => rfl) .nil))))))) (store_loc rfl)))
 refb_nil)
 (refb_cons (refs_expr (ref_lmeth PySem.F.slot_list_append PySem.F.type_list_append append_ok (ref_sub (ref_loc rfl) ref_str) (.cons (ref_tuple (.cons ref_str (fun _ _ => rfl) (.cons (ref_loc rfl) (fun _ _ => rfl) .nil))) (fun _ _ => rfl) .nil)))
 (refb_one (refs_if (reft_and (.cons (reft_cmp (cmpOk _) (ref_loc rfl) ref_none) (.cons (reft_val (ref_loc rfl)) .nil)))
 (refb_one (refs_ret (ref_tuple (.cons (ref_loc rfl) (fun _ _ => rfl) (.cons (ref_loc rfl) (fun _ _ => rfl) (.cons (ref_loc rfl) (fun _ _ => rfl) .nil))))))
 refb_nil)))))
 refb_nil)
 (refb_one (refs_ret (ref_tuple (.cons (ref_ifexp (reft_cmp (cmpOk _) (ref_loc rfl) ref_int) (ref_bin (ref_bin ref_int (ref_loc rfl)) (ref_loc rfl)) ref_none) (fun _ _ => rfl) (.cons (ref_loc rfl) (fun _ _ => rfl) (.cons (ref_loc rfl) (fun _ _ => rfl) .nil)))))))))⟩
theorem fn_244 (hG : Known G) (rec : List AV → AM AV) (l : Nat) (hrec : COk G l (.obj 244) rec) : FnOk G (l + 3) 244 (aFn ["world", "at", "ccalls", "frames", "handling"] (d_244 hG rec).1) := fn_plain (n := l + 2) (is_244 hG) (by decide) (by decide) ((d_244 hG rec).2 l hrec)
end Mine

open PySem PySem.W PyProof.Rows PySem.Calls
set_option Elab.async false
set_option maxRecDepth 100000
set_option maxHeartbeats 1000000
set_option linter.unusedVariables false
namespace Mine
variable {G : Gd}

theorem is_180 (hG : Known G) : FnIs G 180 (fdOf 180) ["holder", "handling", "value"] (bodyOf 180) (scOf 180) where
  at_ := by rw [hG.K]; exact ⟨_, _, _, rfl⟩
  code := by rw [hG.K]; rfl
  body := rfl
  scope := rfl
  globals := rfl
  builtins := rfl
  closure := rfl
  bind := fun s as' h => by obtain ⟨x0, x1, x2, rfl⟩ := len3 h; exact BindsTo.of_eq rfl
  co := rfl
  gen := rfl
  kind := rfl
  lam := fun q => by rw [hG.ls] at q; exact absurd (congrArg (fun s => s.names.map (·.1)) q) (by decide)
noncomputable def d_180 (hG : Known G) (cf : AV → List AV → AM AV) : { m : AM AF // ∀ l : Nat, ∀ (hcf : ∀ f, COk G l f (cf f)), RefB G (l + 2) (scOf 180) (bodyOf 180) m } := ⟨_, fun l hcf =>
 (refb_cons (refs_tuple (ref_loc rfl) (.cons (refa_name (store_loc rfl)) (.cons (refa_name (store_loc rfl)) .nil)) (fun _ => rfl) (fun _ => rfl) (fun _ => rfl) (fun env h => by cases env; cases h; rfl))
 (refb_cons (refs_assign (ref_attr (ref_loc rfl)) (store_loc rfl))
 (refb_cons (refs_while 2000 (reft_cmp (cmpOk _) (ref_loc rfl) (ref_loc rfl))
 (refb_cons (refs_setattr (ref_loc rfl) (ref_loc rfl))
 (refb_cons (refs_augattr (ref_loc rfl) ref_int)
 (refb_cons (refs_aug rfl ref_int)
 (refb_one (refs_try (xk_LuaError hG) rfl (hG.K ▸ g_LuaError _) rfl
 (refb_one (refs_ret (ref_fn rfl (hG.K ▸ g_LuaError _) (by rw [hG.callees]; decide) (cok_LuaError hG l) (.cons (ref_calld (ref_loc rfl) (fun f => (hcf f).up (by omega)) (.cons (ref_loc rfl) (fun _ _ => rfl) (.cons (ref_loc rfl) (fun _ _ => rfl) .nil))) (fun _ _ => rfl) .nil))))
 (refb_one (refs_assign (ref_attrx (xf_LuaError hG) (ref_loc rfl) (.head _)) (store_loc rfl)))))))))
 (refb_one (refs_ret (ref_fn rfl (hG.K ▸ g_LuaError _) (by rw [hG.callees]; decide) (cok_LuaError hG l) (.cons (ref_glob (v := valOf "ERROR_IN_ERROR") rfl (hG.K ▸ g_ERR _) (.bytes _ _)) (fun _ _ => rfl) .nil)))))))⟩
theorem fn_180 (hG : Known G) (cf : AV → List AV → AM AV) (l : Nat) (hcf : ∀ f, COk G l f (cf f)) : FnOk G (l + 3) 180 (aFn ["holder", "handling", "value"] (d_180 hG cf).1) := fn_plain (n := l + 2) (is_180 hG) (by decide) (by decide) ((d_180 hG cf).2 l hcf)
theorem is_187 (hG : Known G) : FnIs G 187 (fdOf 187) ["holder", "work", "handling"] (bodyOf 187) (scOf 187) where
  at_ := by rw [hG.K]; exact ⟨_, _, _, rfl⟩
  code := by rw [hG.K]; rfl
  body := rfl
  scope := rfl
  globals := rfl
  builtins := rfl
  closure := rfl
  bind := fun s as' h => by obtain ⟨x0, x1, x2, rfl⟩ := len3 h; exact BindsTo.of_eq rfl
  co := rfl
  gen := rfl
  kind := rfl
  lam := fun q => by rw [hG.ls] at q; exact absurd (congrArg (fun s => s.names.map (·.1)) q) (by decide)
noncomputable def d_187 (hG : Known G) (cf : AV → List AV → AM AV) : { m : AM AF // ∀ l : Nat, ∀ (hcf : ∀ f, COk G l f (cf f)), RefB G (l + 3) (scOf 187) (bodyOf 187) m } := ⟨_, fun l hcf =>
 (refb_cons (refs_try (xk_LuaError hG) rfl (hG.K ▸ g_LuaError _) rfl
 (refb_one (refs_expr (ref_calld (ref_loc rfl) (fun f => (hcf f).up (by omega)) .nil)))
 (refb_one (refs_ret (ref_ifexp (reft_cmp (cmpOk _) (ref_loc rfl) ref_none) (ref_loc rfl) (ref_fn rfl (hG.K ▸ g_handled _) (by rw [hG.callees]; decide) ((fn_180 hG cf l hcf).cok) (.cons (ref_loc rfl) (fun _ _ => rfl) (.cons (ref_loc rfl) (fun _ _ => rfl) (.cons (ref_attrx (xf_LuaError hG) (ref_loc rfl) (.head _)) (fun _ _ => rfl) .nil))))))))
 (refb_one (refs_ret ref_none)))⟩
theorem fn_187 (hG : Known G) (cf : AV → List AV → AM AV) (l : Nat) (hcf : ∀ f, COk G l f (cf f)) : FnOk G (l + 4) 187 (aFn ["holder", "work", "handling"] (d_187 hG cf).1) := fn_plain (n := l + 3) (is_187 hG) (by decide) (by decide) ((d_187 hG cf).2 l hcf)
theorem is_237 (hG : Known G) : FnIs G 237 (fdOf 237) ["world", "at"] (bodyOf 237) (scOf 237) where
  at_ := by rw [hG.K]; exact ⟨_, _, _, rfl⟩
  code := by rw [hG.K]; rfl
  body := rfl
  scope := rfl
  globals := rfl
  builtins := rfl
  closure := rfl
  bind := fun s as' h => by obtain ⟨x0, x1, rfl⟩ := len2 h; exact BindsTo.of_eq rfl
  co := rfl
  gen := rfl
  kind := rfl
  lam := fun q => by rw [hG.ls] at q; exact absurd (congrArg (fun s => s.names.map (·.1)) q) (by decide)
noncomputable def d_237 (hG : Known G) (gf : List AV → AM AV) : { m : AM AF // ∀ l : Nat, ∀ (hgf : COk G l (.obj 230) gf), RefB G (l + 4) (scOf 237) (bodyOf 237) m } := ⟨_, fun l hgf =>
 (refb_cons (refs_tuple (ref_sub (ref_sub (ref_loc rfl) ref_str) (ref_loc rfl)) (.cons (refa_name (store_loc rfl)) (.cons (refa_name (store_loc rfl)) (.cons (refa_name (store_loc rfl)) (.cons (refa_name (store_loc rfl)) (.cons (refa_name (store_loc rfl)) (.cons (refa_name (store_loc rfl)) (.cons (refa_name (store_loc rfl)) .nil))))))) (fun _ => rfl) (fun _ => rfl) (fun _ => rfl) (fun env h => by cases env; cases h; rfl))
 (refb_cons (refs_assign (ref_sub (ref_loc rfl) ref_str) (store_loc rfl))
 (refb_cons (refs_swapped (names := ["depth", "top"]) (ref_tuple (.cons (ref_bi rfl (hG.K ▸ g_len _) rfl (by decide) len_ok (.cons (ref_attr (ref_loc rfl)) (fun _ _ => rfl) .nil)) (fun _ _ => rfl) (.cons (ref_attr (ref_loc rfl)) (fun _ _ => rfl) .nil))) (.cons (refa_bind (store_loc rfl)) (.cons (refa_bind (store_loc rfl)) .nil)) (fun _ => rfl) (fun env h => by cases env; cases h; rfl))
 (refb_cons (refs_for (ref_ty rfl (hG.K ▸ g_range _) rfl (by decide) range_ok (.cons (ref_loc rfl) (fun _ _ => rfl) .nil)) (store_loc rfl)
 (refb_one (refs_expr (ref_lmeth PySem.F.slot_list_append PySem.F.type_list_append append_ok (ref_attr (ref_loc rfl)) (.cons (ref_loc rfl) (fun _ _ => rfl) .nil)))))
 (refb_cons (refs_setattr (ref_bin (ref_attr (ref_loc rfl)) (ref_loc rfl)) (ref_loc rfl))
 (refb_cons (refs_for (ref_loc rfl) (store_loc rfl)
 (refb_cons (refs_expr (ref_fn rfl (hG.K ▸ g_find_plain _) (by rw [hG.callees]; decide) ((fn_166 hG l).cok) (.cons (ref_loc rfl) (fun _ _ => rfl) (.cons (ref_loc rfl) (fun _ _ => rfl) .nil))))
 (refb_one (refs_setitem (ref_bin (ref_bin ref_int (ref_loc rfl)) (ref_loc rfl)) (ref_attr (ref_loc rfl)) (ref_loc rfl)))))
 (refb_cons (refs_setattr (ref_bi rfl (hG.K ▸ g_min _) rfl (by decide) min_ok (.cons ref_int (fun _ _ => rfl) (.cons (ref_bin (ref_bin (ref_loc rfl) ref_int) (ref_loc rfl)) (fun _ _ => rfl) .nil))) (ref_loc rfl))
 (refb_cons (refs_if (reft_cmp (cmpOk _) (ref_loc rfl) ref_int)
 (refb_cons (refs_assign (ref_fn rfl (hG.K ▸ g_law_guarded _) (by rw [hG.callees]; decide) (hgf.up (by omega)) (.cons (ref_loc rfl) (fun _ _ => rfl) (.cons (ref_loc rfl) (fun _ _ => rfl) (.cons (ref_loc rfl) (fun _ _ => rfl) .nil)))) (store_loc rfl))
 (refb_cons (refs_expr (ref_lmeth PySem.F.slot_list_append PySem.F.type_list_append append_ok (ref_sub (ref_loc rfl) ref_str) (.cons (ref_tuple (.cons ref_str (fun _ _ => rfl) (.cons (ref_loc rfl) (fun _ _ => rfl) .nil))) (fun _ _ => rfl) .nil)))
 (refb_one (refs_if (reft_and (.cons (reft_cmp (cmpOk _) (ref_loc rfl) ref_none) (.cons (reft_val (ref_loc rfl)) .nil)))
 (refb_one (refs_raise (xk_LuaError hG) (ref_fn rfl (hG.K ▸ g_LuaError _) (by rw [hG.callees]; decide) (cok_LuaError hG (l + 2)) (.cons (ref_loc rfl) (fun _ _ => rfl) .nil))))
 refb_nil))))
 refb_nil)
 (refb_cons (refs_if (reft_cmp (cmpOk _) (ref_loc rfl) ref_int)
 (refb_one (refs_raise (xk_LuaError hG) (ref_fn rfl (hG.K ▸ g_LuaError _) (by rw [hG.callees]; decide) (cok_LuaError hG (l + 2)) (.cons (ref_bin (ref_bin ref_int (ref_loc rfl)) (ref_loc rfl)) (fun _ _ => rfl) .nil))))
 refb_nil)
 (refb_cons (refs_tuple (ref_tuple (.cons (ref_bin (ref_attr (ref_loc rfl)) (ref_loc rfl)) (fun _ _ => rfl) (.cons (ref_loc rfl) (fun _ _ => rfl) .nil))) (.cons (refa_attr (ref_loc rfl)) (.cons (refa_attr (ref_loc rfl)) .nil)) (fun _ => rfl) (fun _ => rfl) (fun _ => rfl) (fun env h => by cases env; cases h; rfl))
 (refb_one (refs_while 2000 (reft_cmp (cmpOk _) (ref_bi rfl (hG.K ▸ g_len _) rfl (by decide) len_ok (.cons (ref_attr (ref_loc rfl)) (fun _ _ => rfl) .nil)) (ref_loc rfl))
 (refb_one (refs_expr (ref_lmeth PySem.F.slot_list_pop PySem.F.type_list_pop pop_ok (ref_attr (ref_loc rfl)) .nil)))))))))))))))⟩
theorem fn_237 (hG : Known G) (gf : List AV → AM AV) (l : Nat) (hgf : COk G l (.obj 230) gf) : FnOk G (l + 5) 237 (aFn ["world", "at"] (d_237 hG gf).1) := fn_plain (n := l + 4) (is_237 hG) (by decide) (by decide) ((d_237 hG gf).2 l hgf)
end Mine

open PySem PySem.W PyProof.Rows PySem.Calls
set_option Elab.async false
set_option maxRecDepth 100000
set_option maxHeartbeats 1000000
set_option linter.unusedVariables false
namespace Mine
variable {G : Gd}

noncomputable def lamParams : Nat → List Str
  | 0 => ["place", "value"]
  | _ => []
theorem lam_reply : LamIs lamReply ["place", "value"] where
  co := rfl
  gen := rfl
  kind := rfl
  cell := by decide
  loc := by decide
  bind := fun cl pm cdv ct as' h => by obtain ⟨x0, x1, rfl⟩ := len2 h; exact rfl
theorem lam_work : LamIs lamWork [] where
  co := rfl
  gen := rfl
  kind := rfl
  cell := by decide
  loc := by decide
  bind := fun cl pm cdv ct as' h => by cases len0 h; exact rfl
noncomputable def b_reply (hG : Known G) : { m : AM AV // ∀ n, RefE G (n + 3) lamReply.scope lamReply.body m } := ⟨_, fun n =>
  (ref_fn rfl (hG.K ▸ g_law_replied _) (by rw [hG.callees]; decide) ((fn_220 hG n).cok) (.cons (ref_cell (.inr rfl)) (fun _ _ => rfl) (.cons (ref_cell (.inr rfl)) (fun _ _ => rfl) (.cons (ref_loc rfl) (fun _ _ => rfl) (.cons (ref_loc rfl) (fun _ _ => rfl) .nil)))))⟩
noncomputable def b_work (hG : Known G) (gf : List AV → AM AV) : { m : AM AV // ∀ l : Nat, ∀ (hgf : COk G l (.obj 230) gf), RefE G (l + 5) lamWork.scope lamWork.body m } := ⟨_, fun l hgf =>
  (ref_fn rfl (hG.K ▸ g_law_done _) (by rw [hG.callees]; decide) ((fn_237 hG gf l hgf).cok) (.cons (ref_cell (.inr rfl)) (fun _ _ => rfl) (.cons (ref_cell (.inr rfl)) (fun _ _ => rfl) .nil)))⟩
/-- what the closures do, one turn of the works deeper -/
noncomputable def closB (hG : Known G) (gf : List AV → AM AV) : Nat → AM AV
  | 0 => (b_reply hG).1
  | _ => (b_work hG gf).1
noncomputable def closT (hG : Known G) (gf : List AV → AM AV) : AV → List AV → AM AV := aClos lamParams (closB hG gf)
theorem closT_ok (hG : Known G) (gf : List AV → AM AV) (l : Nat) (hgf : COk G l (.obj 230) gf) : ∀ f, COk G (l + 6) f (closT hG gf f) := by
  refine clos_ok (n := l + 5) fun k lm hk => ?_
  rw [hG.lams] at hk
  match k, hk with
  | 0, hk =>
    cases hk
    exact ⟨lam_reply, by rw [hG.ls]; exact fun q => absurd (congrArg (fun s => s.names.map (·.1)) q) (by decide), (b_reply hG).2 (l + 2)⟩
  | 1, hk =>
    cases hk
    exact ⟨lam_work, by rw [hG.ls]; exact fun q => absurd (congrArg (fun s => s.names.map (·.1)) q) (by decide), (b_work hG gf).2 l hgf⟩

theorem is_230 (hG : Known G) : FnIs G 230 (fdOf 230) ["world", "at", "kind"] (bodyOf 230) (scOf 230) where
  at_ := by rw [hG.K]; exact ⟨_, _, _, rfl⟩
  code := by rw [hG.K]; rfl
  body := rfl
  scope := rfl
  globals := rfl
  builtins := rfl
  closure := rfl
  bind := fun s as' h => by obtain ⟨x0, x1, x2, rfl⟩ := len3 h; exact BindsTo.of_eq rfl
  co := rfl
  gen := rfl
  kind := rfl
  lam := fun q => ⟨hG.lq.symm, by rw [hG.tabC]; rfl⟩
noncomputable def d_230 (hG : Known G) (cf : AV → List AV → AM AV) : { m : AM AF // ∀ l : Nat, ∀ (hcf : ∀ f, COk G l f (cf f)), RefB G (l + 4) (scOf 230) (bodyOf 230) m } := ⟨_, fun l hcf =>
 (refb_cons (refs_assign (ref_sub (ref_cell (.inl rfl)) ref_str) (store_cell rfl))
 (refb_cons (refs_tuple (ref_tuple (.cons (ref_bi rfl (hG.K ▸ g_len _) rfl (by decide) len_ok (.cons (ref_attr (ref_cell (.inl rfl))) (fun _ _ => rfl) .nil)) (fun _ _ => rfl) (.cons (ref_attr (ref_cell (.inl rfl))) (fun _ _ => rfl) (.cons (ref_attr (ref_cell (.inl rfl))) (fun _ _ => rfl) (.cons (ref_attr (ref_cell (.inl rfl))) (fun _ _ => rfl) .nil))))) (.cons (refa_name (store_loc rfl)) (.cons (refa_name (store_loc rfl)) (.cons (refa_name (store_loc rfl)) (.cons (refa_name (store_cell rfl)) .nil)))) (fun _ => rfl) (fun _ => rfl) (fun _ => rfl) (fun env h => by cases env; cases h; rfl))
 (refb_cons (refs_assign (ref_list (.cons (ref_loc rfl) (fun _ _ => rfl) .nil)) (store_cell rfl))
 (refb_cons (refs_assign (ref_ifexp (reft_cmp (cmpOk _) (ref_loc rfl) ref_int) ref_none (ref_tuple (.cons (ref_lambda (l := lamReply) (k := 0) hG.ls.symm (by rw [hG.lams]; rfl) (by rw [hG.lq]; rfl) (closFor lamReply.scope) (fun _ => rfl) (lams_qual hG)) (fun _ _ => rfl) (.cons (ref_sub (ref_cell (.inl rfl)) ref_str) (fun _ _ => rfl) .nil)))) (store_loc rfl))
 (refb_cons (refs_assign (ref_fn rfl (hG.K ▸ g_guarded_work _) (by rw [hG.callees]; decide) ((fn_187 hG cf l hcf).cok) (.cons (ref_cell (.inl rfl)) (fun _ _ => rfl) (.cons (ref_lambda (l := lamWork) (k := 1) hG.ls.symm (by rw [hG.lams]; rfl) (by rw [hG.lq]; rfl) (closFor lamWork.scope) (fun _ => rfl) (lams_qual hG)) (fun _ _ => rfl) (.cons (ref_loc rfl) (fun _ _ => rfl) .nil)))) (store_loc rfl))
 (refb_cons (refs_if (reft_cmp (cmpOk _) (ref_loc rfl) ref_none)
 (refb_one (refs_ret ref_none))
 refb_nil)
 (refb_cons (refs_comp (compIs_of (by rw [hG.ls]; rfl) (by decide) rfl rfl rfl) (target_name _ _) (ref_attr (ref_cell (.inl rfl))) (refas_name (store_loc rfl)) .nil (ref_tuple (.cons (ref_loc rfl) (fun _ _ => rfl) (.cons (ref_attr (ref_loc rfl)) (fun _ _ => rfl) (.cons (ref_sub (ref_attr (ref_cell (.inl rfl))) (ref_attr (ref_loc rfl))) (fun _ _ => rfl) .nil)))) (store_loc rfl) nx_store (fun env h => by cases env; cases h; rfl))
 (refb_cons (refs_assign (ref_fn rfl (hG.K ▸ g_taken_back _) (by rw [hG.callees]; decide) ((fn_194 hG (l + 1)).cok) (.cons (ref_cell (.inl rfl)) (fun _ _ => rfl) (.cons (ref_loc rfl) (fun _ _ => rfl) (.cons (ref_loc rfl) (fun _ _ => rfl) (.cons (ref_loc rfl) (fun _ _ => rfl) (.cons (ref_cell (.inl rfl)) (fun _ _ => rfl) .nil)))))) (store_loc rfl))
 (refb_cons (refs_comp (compIs_of (by rw [hG.ls]; rfl) (by decide) rfl rfl rfl) (target_tuple _ _ _) (ref_loc rfl) (refas_tuple (.cons (refa_name (store_loc rfl)) (.cons (refa_name (store_loc rfl)) (.cons (refa_name (store_loc rfl)) .nil))) (fun _ => rfl) (fun _ => rfl)) (.one (reft_cmp (cmpOk _) (ref_loc rfl) (ref_cell (.inl rfl)))) (ref_loc rfl) (store_loc rfl) nx_store (fun env h => by cases env; cases h; rfl))
 (refb_cons (refs_assign (ref_cmp (eqS_ok _) (ref_tuple (.cons (ref_bi rfl (hG.K ▸ g_len _) rfl (by decide) len_ok (.cons (ref_attr (ref_cell (.inl rfl))) (fun _ _ => rfl) .nil)) (fun _ _ => rfl) (.cons (ref_attr (ref_cell (.inl rfl))) (fun _ _ => rfl) (.cons (ref_attr (ref_cell (.inl rfl))) (fun _ _ => rfl) (.cons (ref_attr (ref_cell (.inl rfl))) (fun _ _ => rfl) .nil))))) (ref_tuple (.cons (ref_loc rfl) (fun _ _ => rfl) (.cons (ref_loc rfl) (fun _ _ => rfl) (.cons (ref_loc rfl) (fun _ _ => rfl) (.cons (ref_cell (.inl rfl)) (fun _ _ => rfl) .nil)))))) (store_loc rfl))
 (refb_cons (refs_forT (ref_loc rfl) (.cons (refa_name (store_loc rfl)) (.cons (refa_name (store_loc rfl)) (.cons (refa_name (store_loc rfl)) .nil))) (fun _ => rfl) (fun _ => rfl)
 (refb_cons (refs_setitem (ref_bin (ref_sub (ref_attr (ref_cell (.inl rfl))) (ref_loc rfl)) (ref_ifexp (reft_cmp (cmpOk _) (ref_loc rfl) (ref_cell (.inl rfl))) ref_int ref_int)) (ref_attr (ref_cell (.inl rfl))) (ref_loc rfl))
 (refb_one (refs_assign (ref_boolop (.cons (ref_loc rfl) (.cons (ref_cmp (cmpOk _) (ref_prop (pi_is_open hG) (fn_90 hG (l + 2)) (ref_loc rfl)) (ref_cmp (cmpOk _) (ref_loc rfl) (ref_cell (.inl rfl)))) (.cons (ref_cmp (cmpOk _) (ref_imeth (C := 115) (by rw [hG.meths]; decide) (by rw [hG.callees]; decide) ((fn_98 hG (l + 3)).cok) (ref_loc rfl) .nil) (ref_loc rfl)) .nil)))) (store_loc rfl)))))
 (refb_cons (refs_setitem (ref_boolop (.cons (ref_sub (ref_cell (.inl rfl)) ref_str) (.cons (ref_loc rfl) (.cons (ref_cmp (cmpOk _) (ref_bi rfl (hG.K ▸ g_len _) rfl (by decide) len_ok (.cons (ref_loc rfl) (fun _ _ => rfl) .nil)) (ref_bi rfl (hG.K ▸ g_len _) rfl (by decide) len_ok (.cons (ref_loc rfl) (fun _ _ => rfl) .nil))) (.cons (ref_cmp (eqS_ok _) (ref_attr (ref_cell (.inl rfl))) (ref_comp (compIs_of (by rw [hG.ls]; rfl) (by decide) rfl rfl rfl) (target_name _ _) (ref_loc rfl) (refas_name (store_loc rfl)) (.one (reft_cmp (cmpOk _) (ref_sub (ref_loc rfl) ref_int) (ref_cell (.inl rfl)))) (ref_sub (ref_loc rfl) ref_int))) .nil))))) (ref_cell (.inl rfl)) ref_str)
 (refb_one (refs_ret (ref_attrx (xf_LuaError hG) (ref_loc rfl) (.head _))))))))))))))))⟩
theorem isC_230 (hG : Known G) : FnIsC G 230 (fdOf 230) ["world", "at", "kind"] (bodyOf 230) (scOf 230) ["times", "top", "holder", "at", "world"] :=
  { is_230 hG with names := rfl, nodup := by decide, kinds := by decide, cellk := by decide }
theorem fn_230 (hG : Known G) (cf : AV → List AV → AM AV) (l : Nat) (hcf : ∀ f, COk G l f (cf f)) : FnOk G (l + 5) 230 (aFnC (scOf 230) ["times", "top", "holder", "at", "world"] ["world", "at", "kind"] (d_230 hG cf).1) := fn_cells (n := l + 4) (isC_230 hG) ((d_230 hG cf).2 l hcf)
/-- the guarded work, by the works still allowed -/
noncomputable def guardF (hG : Known G) : Nat → List AV → AM AV
  | 0 => fun _ => stuck
  | j + 1 => aFnC (scOf 230) ["times", "top", "holder", "at", "world"] ["world", "at", "kind"] (d_230 hG (closT hG (guardF hG j))).1
theorem guardF_ok (hG : Known G) : ∀ j, COk G (11 * j) (.obj 230) (guardF hG j)
  | 0 => fun c σ ρ s f' as as' hc R hf ha => trivial
  | j + 1 => (fn_230 hG (closT hG (guardF hG j)) (11 * j + 6) (closT_ok hG _ _ (guardF_ok hG j))).cok
noncomputable def dueF (hG : Known G) : Nat → List AV → AM AV
  | 0 => fun _ => stuck
  | j + 1 => aFn ["world", "at", "ccalls", "frames", "handling"] (d_244 hG (dueF hG j)).1
theorem dueF_ok (hG : Known G) : ∀ j, COk G (3 * j) (.obj 244) (dueF hG j)
  | 0 => fun c σ ρ s f' as as' hc R hf ha => trivial
  | j + 1 => (fn_244 hG (dueF hG j) (3 * j) (dueF_ok hG j)).cok

end Mine

open PySem PySem.W PyProof.Rows PySem.Calls
set_option Elab.async false
set_option maxRecDepth 100000
set_option maxHeartbeats 1000000
set_option linter.unusedVariables false
namespace Mine
variable {G : Gd}

noncomputable def d_256 (hG : Known G) : { m : AM AF // RefB G 44 (scOf 256) (bodyOf 256) m } := ⟨_,
 (refb_cons (refs_assign (ref_fn rfl (hG.K ▸ g_law_deal _) (by rw [hG.callees]; decide) ((fn_199 hG 43).cok) (.cons (ref_loc rfl) (fun _ _ => rfl) .nil)) (store_cell rfl))
 (refb_cons (refs_comp (compIs_of (by rw [hG.ls]; rfl) (by decide) rfl rfl rfl) (target_name _ _) (ref_ty rfl (hG.K ▸ g_range _) rfl (by decide) range_ok (.cons (ref_bin ref_int (ref_fn rfl (hG.K ▸ g_law_take _) (by rw [hG.callees]; decide) ((fn_206 hG 43).cok) (.cons (ref_cell (.inl rfl)) (fun _ _ => rfl) (.cons ref_int (fun _ _ => rfl) .nil)))) (fun _ _ => rfl) .nil)) (refas_name (store_loc rfl)) .nil (ref_fn rfl (hG.K ▸ g_law_plan _) (by rw [hG.callees]; decide) ((fn_225 hG 42).cok) (.cons (ref_cell (.inl rfl)) (fun _ _ => rfl) (.cons (ref_loc rfl) (fun _ _ => rfl) .nil))) (store_loc rfl) nx_store (fun env h => by cases env; cases h; rfl))
 (refb_cons (refs_assign (ref_fn rfl (hG.K ▸ g_Ground _) (by rw [hG.callees]; decide) (cok_Ground hG 42) (.cons (ref_comp (compIs_of (by rw [hG.ls]; rfl) (by decide) rfl rfl rfl) (target_name _ _) (ref_ty rfl (hG.K ▸ g_range _) rfl (by decide) range_ok (.cons ref_int (fun _ _ => rfl) .nil)) (refas_name (store_loc rfl)) .nil (ref_bin ref_int (ref_loc rfl))) (fun _ _ => rfl) .nil)) (store_loc rfl))
 (refb_cons (refs_tuple (ref_tuple (.cons (ref_list (.cons ref_int (fun _ _ => rfl) .nil)) (fun _ _ => rfl) (.cons ref_int (fun _ _ => rfl) (.cons ref_int (fun _ _ => rfl) (.cons (ref_fn rfl (hG.K ▸ g_law_take _) (by rw [hG.callees]; decide) ((fn_206 hG 43).cok) (.cons (ref_cell (.inl rfl)) (fun _ _ => rfl) (.cons ref_int (fun _ _ => rfl) .nil))) (fun _ _ => rfl) .nil))))) (.cons (refa_attr (ref_loc rfl)) (.cons (refa_attr (ref_loc rfl)) (.cons (refa_attr (ref_loc rfl)) (.cons (refa_attr (ref_loc rfl)) .nil)))) (fun _ => rfl) (fun _ => rfl) (fun _ => rfl) (fun env h => by cases env; cases h; rfl))
 (refb_cons (refs_assign (ref_dict (.cons (ref_loc rfl) (.cons (ref_loc rfl) (.cons (ref_bin ref_int (ref_fn rfl (hG.K ▸ g_law_take _) (by rw [hG.callees]; decide) ((fn_206 hG 43).cok) (.cons (ref_cell (.inl rfl)) (fun _ _ => rfl) (.cons ref_int (fun _ _ => rfl) .nil)))) (.cons (ref_list .nil) (.cons (ref_list .nil) (.cons ref_bool .nil)))))) (by decide) (by decide)) (store_loc rfl))
 (refb_cons (refs_swapped (names := ["last", "kind"]) (ref_tuple (.cons (ref_bin (ref_bi rfl (hG.K ▸ g_len _) rfl (by decide) len_ok (.cons (ref_loc rfl) (fun _ _ => rfl) .nil)) ref_int) (fun _ _ => rfl) (.cons (ref_sub (ref_list (.cons (ref_un ref_int) (fun _ _ => rfl) (.cons ref_int (fun _ _ => rfl) (.cons ref_int (fun _ _ => rfl) (.cons ref_int (fun _ _ => rfl) .nil))))) (ref_fn rfl (hG.K ▸ g_law_take _) (by rw [hG.callees]; decide) ((fn_206 hG 43).cok) (.cons (ref_cell (.inl rfl)) (fun _ _ => rfl) (.cons ref_int (fun _ _ => rfl) .nil)))) (fun _ _ => rfl) .nil))) (.cons (refa_bind (store_loc rfl)) (.cons (refa_bind (store_loc rfl)) .nil)) (fun _ => rfl) (fun env h => by cases env; cases h; rfl))
 (refb_cons (refs_assign (ref_fn rfl (hG.K ▸ g_law_guarded _) (by rw [hG.callees]; decide) (guardF_ok hG 4) (.cons (ref_loc rfl) (fun _ _ => rfl) (.cons (ref_loc rfl) (fun _ _ => rfl) (.cons (ref_loc rfl) (fun _ _ => rfl) .nil)))) (store_loc rfl))
 (refb_cons (refs_tuple (ref_fn rfl (hG.K ▸ g_law_due _) (by rw [hG.callees]; decide) ((dueF_ok hG 4).up (by decide)) (.cons (ref_loc rfl) (fun _ _ => rfl) (.cons (ref_loc rfl) (fun _ _ => rfl) (.cons ref_int (fun _ _ => rfl) (.cons ref_int (fun _ _ => rfl) (.cons ref_int (fun _ _ => rfl) .nil)))))) (.cons (refa_name (store_loc rfl)) (.cons (refa_name (store_loc rfl)) (.cons (refa_name (store_loc rfl)) .nil))) (fun _ => rfl) (fun _ => rfl) (fun _ => rfl) (fun env h => by cases env; cases h; rfl))
 (refb_cons (refs_if (reft_and (.cons (reft_cmp (cmpOk _) (ref_loc rfl) ref_none) (.cons (reft_cmp (cmpOk _) (ref_loc rfl) ref_int) .nil)))
 (refb_one (refs_assign (ref_fn rfl (hG.K ▸ g_law_answered _) (by rw [hG.callees]; decide) ((fn_251 hG 42).cok) (.cons (ref_loc rfl) (fun _ _ => rfl) (.cons (ref_loc rfl) (fun _ _ => rfl) (.cons (ref_loc rfl) (fun _ _ => rfl) (.cons (ref_loc rfl) (fun _ _ => rfl) (.cons (ref_loc rfl) (fun _ _ => rfl) (.cons ref_int (fun _ _ => rfl) .nil))))))) (store_loc rfl)))
 refb_nil)
 (refb_cons (refs_if (reft_or (.cons (reft_cmp (eqS_ok _) (ref_loc rfl) (ref_loc rfl)) (.cons (reft_cmp (eqS_ok _) (ref_sub (ref_loc rfl) ref_str) (ref_sub (ref_loc rfl) ref_str)) (.cons (reft_not (reft_val (ref_sub (ref_loc rfl) ref_str))) .nil))))
 (refb_one (refs_ret ref_bool))
 refb_nil)
 (refb_one (refs_ret (ref_boolop (.cons (ref_cmp (eqS_ok _) (ref_attr (ref_loc rfl)) (ref_list (.cons ref_int (fun _ _ => rfl) .nil))) (.cons (ref_cmp (cmpOk _) (ref_attr (ref_loc rfl)) ref_int) (.cons (ref_cmp (cmpOk _) (ref_attr (ref_loc rfl)) ref_int) .nil))))))))))))))))⟩
end Mine

open PySem PySem.W PyProof.Rows PySem.Calls
set_option Elab.async false
set_option maxRecDepth 100000
set_option maxHeartbeats 1000000
set_option linter.unusedVariables false
namespace Mine
variable {G : Gd}

-- names of a frame
noncomputable def setLoc (x : Str) (v : AV) (loc : Str → Option AV) : Str → Option AV := fun y => if y = x then some v else loc y
noncomputable def noLoc : Str → Option AV := fun _ => none
noncomputable def bindF : (Str → Option AV) → List Str → List AV → Str → Option AV
  | f, p :: ps, a :: as => bindF (setLoc p a f) ps as
  | f, _, _ => f
theorem bindF_eq : ∀ (ps : List Str) (as : List AV) (f : Str → Option AV) (x : Str), bindF f ps as x = match (ps.zip as).reverse.lookup x with | some v => some v | none => f x
  | [], as, f, x => by unfold bindF; cases as <;> rfl
  | p :: ps, [], f, x => rfl
  | p :: ps, a :: as, f, x => by
    unfold bindF
    rw [bindF_eq ps as, List.zip_cons_cons, List.reverse_cons, List.lookup_append]
    cases h : (ps.zip as).reverse.lookup x with
    | some v => rfl
    | none =>
      dsimp only [setLoc, List.lookup_cons]
      by_cases q : x = p
      · subst q; simp
      · have : (x == p) = false := by simpa using q
        rw [this]; simp [q]
theorem bindF_lookup (ps : List Str) (as : List AV) : (fun x => (ps.zip as).reverse.lookup x) = bindF noLoc ps as := by
  funext x
  rw [bindF_eq]
  cases (ps.zip as).reverse.lookup x <;> rfl
theorem aBind_eq : ∀ (ps : List Str) (as : List AV) (f : Str → Option AV), aBind (ps.zip as) f = bindF f ps as
  | [], as, f => by cases as <;> rfl
  | p :: ps, [], f => rfl
  | p :: ps, a :: as, f => by
    rw [List.zip_cons_cons]
    unfold aBind bindF
    exact aBind_eq ps as _

-- weakest preconditions of results
noncomputable def WP {α : Type} (r : Res α) (Q : α → AS → Prop) (E : Nat → AS → Prop) : Prop := match r with
  | .ok a σ => Q a σ
  | .exc x σ => E x σ
  | .stuck => False
theorem WP.ok {α : Type} {r : Res α} {a : α} {σ : AS} {Q E} (e : r = .ok a σ) (h : Q a σ) : WP r Q E := by rw [e]; exact h
/-- a list of statements hides behind a name; what stands at each place is kept beside -/
noncomputable def Hide (l : List (AM AF)) : Nat → List (AM AF) → Prop → Prop
  | k, [], g => l.length = k → g
  | k, b :: r, g => l[k]? = some b → Hide l (k + 1) r g
theorem hide_of {l : List (AM AF)} {g : Prop} : ∀ (r pre : List (AM AF)), l = pre ++ r → Hide l pre.length r g → g
  | [], pre, e, h => h (by rw [e, List.append_nil])
  | b :: r, pre, e, h => hide_of (l := l) r (pre ++ [b]) (by rw [e, List.append_assoc]; rfl) (by
      have h := h (by rw [e, List.getElem?_append_right (Nat.le_refl _), Nat.sub_self]; rfl)
      rw [List.length_append]
      exact h)
theorem wp_hide {b b2 : AM AF} {L : List (AM AF)} {σ : AS} {Q : AF → AS → Prop} {E : Nat → AS → Prop} (h : ∀ l, Hide l 0 (b :: b2 :: L) (WP (aSeq (l.drop 0) σ) Q E)) : WP (aSeq (b :: b2 :: L) σ) Q E :=
  hide_of (b :: b2 :: L) [] rfl (h _)
theorem drop_at {l : List (AM AF)} {k n : Nat} {m : AM AF} (hm : l[k]? = some m) (hl : l.length = n) (hk : (k + 1).blt n = true) : ∃ m2 ms, l.drop (k + 1) = m2 :: ms ∧ l.drop k = m :: m2 :: ms := by
  have h1 : k + 1 < l.length := by rw [hl]; exact Nat.blt_eq.mp hk
  have h0 : k < l.length := Nat.lt_of_succ_lt h1
  refine ⟨l[k + 1], l.drop (k + 2), (List.getElem_cons_drop h1).symm, ?_⟩
  rw [List.getElem?_eq_getElem h0] at hm
  rw [← Option.some.inj hm]
  exact (List.getElem_cons_drop h0).symm.trans (congrArg _ (List.getElem_cons_drop h1).symm)
theorem wp_next {l : List (AM AF)} {k n : Nat} {m : AM AF} {σ σ' : AS} {Q E} (hm : l[k]? = some m) (hl : l.length = n) (e : m σ = .ok .next σ') (h : WP (aSeq (l.drop (k + 1)) σ') Q E) (hk : (k + 1).blt n = true := by rfl) : WP (aSeq (l.drop k) σ) Q E := by
  obtain ⟨m2, ms, e1, e2⟩ := drop_at hm hl hk
  rw [e1] at h
  rw [e2]
  unfold aSeq
  rw [bind_ap, e]
  exact h
theorem wp_retn {l : List (AM AF)} {k n : Nat} {m : AM AF} {σ σ' : AS} {v : AV} {Q E} (hm : l[k]? = some m) (hl : l.length = n) (e : m σ = .ok (.ret v) σ') (h : Q (.ret v) σ') (hk : (k + 1).blt n = true := by rfl) : WP (aSeq (l.drop k) σ) Q E := by
  obtain ⟨m2, ms, e1, e2⟩ := drop_at hm hl hk
  rw [e2]
  unfold aSeq
  rw [bind_ap, e]
  exact h
theorem wp_exc {l : List (AM AF)} {k n : Nat} {m : AM AF} {σ σ' : AS} {x : Nat} {Q} {E : Nat → AS → Prop} (hm : l[k]? = some m) (hl : l.length = n) (e : m σ = .exc x σ') (h : E x σ') (hk : (k + 1).blt n = true := by rfl) : WP (aSeq (l.drop k) σ) Q E := by
  obtain ⟨m2, ms, e1, e2⟩ := drop_at hm hl hk
  rw [e2]
  unfold aSeq
  rw [bind_ap, e]
  exact h
theorem wp_end {l : List (AM AF)} {k : Nat} {m : AM AF} {σ : AS} {Q : AF → AS → Prop} {E : Nat → AS → Prop} (hm : l[k]? = some m) (hl : l.length = k + 1) (h : WP (m σ) Q E) : WP (aSeq (l.drop k) σ) Q E := by
  have h0 : k < l.length := by rw [hl]; exact Nat.lt_succ_self _
  rw [← List.getElem_cons_drop h0, List.drop_eq_nil_of_le (Nat.le_of_eq hl)]
  rw [List.getElem?_eq_getElem h0] at hm
  rw [Option.some.inj hm]
  exact h
/-- two statements are left -/
theorem wp_two {l : List (AM AF)} {k : Nat} {m m2 : AM AF} {σ : AS} {Q : AF → AS → Prop} {E : Nat → AS → Prop} (hm : l[k]? = some m) (hm2 : l[k + 1]? = some m2) (hl : l.length = k + 2) (h : WP (aSeq [m, m2] σ) Q E) : WP (aSeq (l.drop k) σ) Q E := by
  have h1 : k + 1 < l.length := by rw [hl]; exact Nat.lt_succ_self _
  have h0 : k < l.length := Nat.lt_of_succ_lt h1
  rw [← List.getElem_cons_drop h0, ← List.getElem_cons_drop h1, List.drop_eq_nil_of_le (Nat.le_of_eq hl)]
  rw [List.getElem?_eq_getElem h0] at hm
  rw [List.getElem?_eq_getElem h1] at hm2
  rw [Option.some.inj hm, Option.some.inj hm2]
  exact h
theorem wp_ret0 {m m2 : AM AF} {ms : List (AM AF)} {σ σ' : AS} {v : AV} {Q E} (e : m σ = .ok (.ret v) σ') (h : Q (.ret v) σ') : WP (aSeq (m :: m2 :: ms) σ) Q E := by
  unfold aSeq
  rw [bind_ap, e]
  exact h
theorem wp_last {m : AM AF} {σ : AS} {Q E} (h : WP (m σ) Q E) : WP (aSeq [m] σ) Q E := h
noncomputable def retOf : AF → AV
  | .ret v => v
  | _ => .none
/-- a body's run, seen from the call -/
theorem fn_of {ps : List Str} {mb : AM AF} {as : List AV} {hp : List AO} {hdd : Option Nat} {P : AV → List AO → Prop} (hl : as.length = ps.length)
    (h : WP (mb ⟨bindF noLoc ps as, [], hp, hdd⟩) (fun f σ' => P (retOf f) σ'.hp) fun _ _ => False) :
    ∃ v hp', (∀ loc cs, aFn ps mb as ⟨loc, cs, hp, hdd⟩ = .ok v ⟨loc, cs, hp', hdd⟩) ∧ P v hp' := by
  rw [← bindF_lookup] at h
  cases e : mb ⟨fun x => (ps.zip as).reverse.lookup x, [], hp, hdd⟩ with
  | ok f σ' =>
    rw [e] at h
    refine ⟨retOf f, σ'.hp, fun loc cs => ?_, h⟩
    unfold aFn
    rw [if_pos hl]
    dsimp only
    rw [e]
    cases f <;> rfl
  | exc x σ' => rw [e] at h; exact h.elim
  | stuck => rw [e] at h; exact h.elim
theorem fn_ofx {ps : List Str} {mb : AM AF} {as : List AV} {hp : List AO} {hdd : Option Nat} {P : Nat → List AO → Prop} (hl : as.length = ps.length)
    (h : WP (mb ⟨bindF noLoc ps as, [], hp, hdd⟩) (fun _ _ => False) fun x σ' => P x σ'.hp) :
    ∃ x hp', (∀ loc cs, aFn ps mb as ⟨loc, cs, hp, hdd⟩ = .exc x ⟨loc, cs, hp', hdd⟩) ∧ P x hp' := by
  rw [← bindF_lookup] at h
  cases e : mb ⟨fun x => (ps.zip as).reverse.lookup x, [], hp, hdd⟩ with
  | exc x σ' =>
    rw [e] at h
    refine ⟨x, σ'.hp, fun loc cs => ?_, h⟩
    unfold aFn
    rw [if_pos hl]
    dsimp only
    rw [e]
  | ok f σ' => rw [e] at h; exact h.elim
  | stuck => rw [e] at h; exact h.elim

-- heaps
noncomputable abbrev HV := List (Nat × AO)
noncomputable def Holds (hp : List AO) (V : HV) : Prop := (V.map (·.1)).Nodup ∧ ∀ p ∈ V, hp[p.1]? = some p.2
theorem perm_of_count : ∀ {V' V : HV}, (∀ x, V'.count x ≤ V.count x) → ∃ R, V.Perm (V' ++ R)
  | [], V, _ => ⟨V, .refl _⟩
  | a :: t, V, h => by
    have ha : a ∈ V := List.count_pos_iff.mp (by have := h a; rw [List.count_cons_self] at this; omega)
    obtain ⟨R, hR⟩ := perm_of_count (V' := t) (V := V.erase a) fun x => by
      have := h x
      rw [List.count_cons] at this
      rw [List.count_erase]
      by_cases q : (a == x) = true
      · rw [if_pos q] at this; rw [if_pos q]; omega
      · rw [if_neg q] at this; rw [if_neg q]; omega
    exact ⟨R, (List.perm_cons_erase ha).trans (hR.cons a)⟩
theorem Holds.wk {hp : List AO} {V V' : HV} (h : Holds hp V) (c : ∀ x, V'.count x ≤ V.count x) : Holds hp V' := by
  obtain ⟨R, p⟩ := perm_of_count c
  have n := (p.map (·.1)).nodup_iff.mp h.1
  rw [List.map_append] at n
  exact ⟨(List.nodup_append.mp n).1, fun q hq => h.2 q (p.mem_iff.mpr (List.mem_append_left _ hq))⟩
theorem Holds.get {hp : List AO} {V : HV} (h : Holds hp V) {i : Nat} {o : AO} (hm : (i, o) ∈ V) : hp[i]? = some o := h.2 _ hm
theorem Holds.alloc {hp : List AO} {V : HV} (h : Holds hp V) (o : AO) : Holds (hp ++ [o]) ((hp.length, o) :: V) := by
  have lt : ∀ q ∈ V, q.1 < hp.length := fun q hq => (List.getElem?_eq_some_iff.mp (h.2 q hq)).1
  refine ⟨List.nodup_cons.mpr ⟨fun e => ?_, h.1⟩, fun q hq => ?_⟩
  · refine cps fun X_ k_ => ?_
    obtain ⟨q, hq, e⟩ := List.mem_map.mp e
    refine k_ ?_
    clear k_ X_
    exact absurd (lt q hq) (by rw [e]; exact Nat.lt_irrefl _)
  · rcases List.mem_cons.mp hq with rfl | hq
    · simp
    · rw [List.getElem?_append_left (lt q hq)]; exact h.2 q hq
theorem Holds.upd {hp : List AO} {V : HV} {i : Nat} {o o' : AO} (h : Holds hp ((i, o) :: V)) : Holds (hp.set i o') ((i, o') :: V) := by
  refine ⟨h.1, fun q hq => ?_⟩
  have hi := (List.getElem?_eq_some_iff.mp (h.2 _ (.head _))).1
  rcases List.mem_cons.mp hq with rfl | hq
  · exact List.getElem?_set_self hi
  · have hne : i ≠ q.1 := fun e => (List.nodup_cons.mp h.1).1 (by show i ∈ _; rw [e]; exact List.mem_map_of_mem hq)
    rw [List.getElem?_set_ne hne]
    exact h.2 q (.tail _ hq)
theorem Holds.set {hp : List AO} {V R V' : HV} (h : Holds hp V) (i : Nat) (o o' : AO) (c : ∀ x, ((i, o) :: R).count x ≤ V.count x) (c' : ∀ x, V'.count x ≤ ((i, o') :: R).count x) : Holds (hp.set i o') V' := (h.wk c).upd.wk c'
theorem Holds.al {hp : List AO} {V V' : HV} (h : Holds hp V) (o : AO) (c : ∀ x, V'.count x ≤ ((hp.length, o) :: V).count x) : Holds (hp ++ [o]) V' := (h.alloc o).wk c

-- what a heap holds, put in another order
inductive Fl : List (Sum (Nat × AO) HV) → HV → Prop
  | last {x : HV} : Fl [.inr x] x
  | one {a : Nat × AO} : Fl [.inl a] [a]
  | cons {a : Nat × AO} {A : List (Sum (Nat × AO) HV)} {V : HV} : Fl A V → Fl (.inl a :: A) (a :: V)
  | app {x : HV} {A : List (Sum (Nat × AO) HV)} {V : HV} : Fl A V → Fl (.inr x :: A) (x ++ V)
noncomputable def blk : Sum (Nat × AO) HV → HV
  | .inl a => [a]
  | .inr x => x
noncomputable def flat : List (Sum (Nat × AO) HV) → HV
  | [] => []
  | b :: A => match A with
    | [] => blk b
    | _ :: _ => match b with
      | .inl a => a :: flat A
      | .inr x => x ++ flat A
noncomputable def pick (is : List Nat) (A : List (Sum (Nat × AO) HV)) : List (Sum (Nat × AO) HV) := is.map fun i => A.getD i (.inr [])
theorem Fl.eq {A : List (Sum (Nat × AO) HV)} {V : HV} (f : Fl A V) : V = (A.map blk).flatten := by
  induction f with
  | last => exact (List.append_nil _).symm
  | one => rfl
  | cons _ ih => exact congrArg (List.cons _) ih
  | app _ ih => exact congrArg (_ ++ ·) ih
theorem flat_eq : ∀ A : List (Sum (Nat × AO) HV), flat A = (A.map blk).flatten
  | [] => rfl
  | [b] => (List.append_nil _).symm
  | .inl a :: c :: A => congrArg (List.cons a) (flat_eq (c :: A))
  | .inr x :: c :: A => congrArg (x ++ ·) (flat_eq (c :: A))
theorem Holds.iff {hp : List AO} {V : HV} : Holds hp V ↔ V.Pairwise (fun p q => p.1 ≠ q.1) ∧ ∀ p ∈ V, hp[p.1]? = some p.2 := by
  unfold Holds List.Nodup
  rw [List.pairwise_map]
theorem re_of {hp : List AO} {A : List (Sum (Nat × AO) HV)} {V V' : HV} (f : Fl A V) (is : List Nat) (e : V' = flat (pick is A)) (n : is.Nodup) (H : Holds hp V) : Holds hp V' := by
  rw [f.eq, Holds.iff, List.pairwise_flatten] at H
  rw [e, flat_eq, Holds.iff, List.pairwise_flatten]
  obtain ⟨⟨h1, h2⟩, h3⟩ := H
  have sub : ∀ l ∈ (pick is A).map blk, l = [] ∨ l ∈ A.map blk := fun l hl => by
    obtain ⟨b, hb, rfl⟩ := List.mem_map.mp hl
    obtain ⟨i, _, rfl⟩ := List.mem_map.mp hb
    rw [List.getD_eq_getElem?_getD]
    cases q : A[i]? with
    | none => exact .inl rfl
    | some b => exact .inr (List.mem_map_of_mem (List.mem_of_getElem? q))
  refine ⟨⟨fun l hl => ?_, ?_⟩, fun p hp => ?_⟩
  · rcases sub l hl with rfl | h
    · exact .nil
    · exact h1 l h
  · rw [List.pairwise_map]
    unfold pick
    rw [List.pairwise_map]
    refine n.imp fun {i j} hij x hx y hy => ?_
    rw [List.getD_eq_getElem?_getD] at hx hy
    cases qi : A[i]? with
    | none => rw [qi] at hx; exact nomatch hx
    | some b =>
      cases qj : A[j]? with
      | none => rw [qj] at hy; exact nomatch hy
      | some b' =>
        rw [qi] at hx
        rw [qj] at hy
        rw [List.pairwise_map, List.pairwise_iff_getElem] at h2
        obtain ⟨li, ei⟩ := List.getElem?_eq_some_iff.mp qi
        obtain ⟨lj, ej⟩ := List.getElem?_eq_some_iff.mp qj
        rcases Nat.lt_or_gt_of_ne hij with h | h
        · exact h2 i j li lj h x (ei ▸ hx) y (ej ▸ hy)
        · exact (h2 j i lj li h y (ej ▸ hy) x (ei ▸ hx)).symm
  · obtain ⟨l, hl, hp⟩ := List.mem_flatten.mp hp
    rcases sub l hl with rfl | h
    · exact nomatch hp
    · exact h3 p (List.mem_flatten.mpr ⟨l, h, hp⟩)
theorem Holds.wkr {hp : List AO} {V V' : HV} (h : Holds hp V) (r : ∀ hp, Holds hp V → Holds hp V') : Holds hp V' := r hp h
theorem Holds.alr {hp : List AO} {V V' : HV} (h : Holds hp V) (o : AO) (r : ∀ hp', Holds hp' ((hp.length, o) :: V) → Holds hp' V') : Holds (hp ++ [o]) V' := r _ (h.alloc o)

-- the primitives, on what is known of the heap
section
variable {hp : List AO} {r : Nat} {xs : List AV} {β : Type}
theorem onOpt_e {γ : Type} {o : Option γ} {x : γ} {f : γ → Res β} (h : o = some x) : onOpt o f = f x := by rw [h]; rfl
theorem item_l {k : Int} {x : AV} (h : hp[r]? = some (.list xs)) (h0 : 0 ≤ k) (hx : xs[k.toNat]? = some x) (hl : xs.length < 1000000) (loc cs hdd) : aItem (.ref r) (.int k) ⟨loc, cs, hp, hdd⟩ = .ok x ⟨loc, cs, hp, hdd⟩ :=
  (onOpt_e h).trans ((if_pos h0).trans ((onOpt_e hx).trans (if_pos hl)))
theorem item_t {k : Int} {x : AV} (h : hp[r]? = some (.tuple xs)) (h0 : 0 ≤ k) (hx : xs[k.toNat]? = some x) (hl : xs.length < 1000000) (loc cs hdd) : aItem (.ref r) (.int k) ⟨loc, cs, hp, hdd⟩ = .ok x ⟨loc, cs, hp, hdd⟩ :=
  (onOpt_e h).trans ((if_pos h0).trans ((onOpt_e hx).trans (if_pos hl)))
theorem item_m {es : List (Str × AV)} {k : Str} {x : AV} (h : hp[r]? = some (.map es)) (hx : aget k es = some x) (loc cs hdd) : aItem (.ref r) (.str k) ⟨loc, cs, hp, hdd⟩ = .ok x ⟨loc, cs, hp, hdd⟩ :=
  (onOpt_e h).trans (onOpt_e hx)
theorem setitem_l {k : Int} {x : AV} (h : hp[r]? = some (.list xs)) (h0 : 0 ≤ k) (hk : k.toNat < xs.length ∧ xs.length < 1000000) (loc cs hdd) : aSetItem (.ref r) (.int k) x ⟨loc, cs, hp, hdd⟩ = .ok () ⟨loc, cs, hp.set r (.list (xs.set k.toNat x)), hdd⟩ :=
  (onOpt_e h).trans ((if_pos h0).trans (if_pos hk))
theorem setitem_m {es : List (Str × AV)} {k : Str} {x : AV} (h : hp[r]? = some (.map es)) (hk : (aget k es).isSome ∧ es.length < 1000) (loc cs hdd) : aSetItem (.ref r) (.str k) x ⟨loc, cs, hp, hdd⟩ = .ok () ⟨loc, cs, hp.set r (.map (aput k x es)), hdd⟩ :=
  (onOpt_e h).trans (if_pos hk)
theorem len_e (h : hp[r]? = some (.list xs)) (hl : xs.length < 1000000) (loc cs hdd) : bLen [.ref r] ⟨loc, cs, hp, hdd⟩ = .ok (.int xs.length) ⟨loc, cs, hp, hdd⟩ := (onList_e (σ := ⟨loc, cs, hp, hdd⟩) h).trans (if_pos hl)
theorem append_e {x : AV} (h : hp[r]? = some (.list xs)) (hl : xs.length < 1000000) (loc cs hdd) : bAppend [.ref r, x] ⟨loc, cs, hp, hdd⟩ = .ok .none ⟨loc, cs, hp.set r (.list (xs ++ [x])), hdd⟩ := (onList_e (σ := ⟨loc, cs, hp, hdd⟩) h).trans (if_pos hl)
theorem pop_e {x : AV} (h : hp[r]? = some (.list (xs ++ [x]))) (hl : (xs ++ [x]).length < 1000000) (loc cs hdd) : bPop [.ref r] ⟨loc, cs, hp, hdd⟩ = .ok x ⟨loc, cs, hp.set r (.list xs), hdd⟩ := by
  refine (onList_e (σ := ⟨loc, cs, hp, hdd⟩) h).trans ?_
  refine (onOpt_e (x := x) List.getLast?_concat).trans ?_
  rw [if_pos hl, List.dropLast_concat]
theorem pop0_e {x : AV} (h : hp[r]? = some (.list (x :: xs))) (hl : xs.length < 1000000) (loc cs hdd) : bPop [.ref r, .int 0] ⟨loc, cs, hp, hdd⟩ = .ok x ⟨loc, cs, hp.set r (.list xs), hdd⟩ := (onList_e (σ := ⟨loc, cs, hp, hdd⟩) h).trans (if_pos ⟨⟨rfl, rfl⟩, hl⟩)
theorem insert_e {k : Int} {x : AV} (h : hp[r]? = some (.list xs)) (hl : xs.length < 1000000 ∧ 0 ≤ k ∧ k.toNat ≤ xs.length) (loc cs hdd) : bInsert [.ref r, .int k, x] ⟨loc, cs, hp, hdd⟩ = .ok .none ⟨loc, cs, hp.set r (.list (xs.take k.toNat ++ x :: xs.drop k.toNat)), hdd⟩ := (onList_e (σ := ⟨loc, cs, hp, hdd⟩) h).trans (if_pos hl)
theorem isl_e (h : hp[r]? = some (.list xs)) (loc cs hdd) : aIsList (.ref r) ⟨loc, cs, hp, hdd⟩ = .ok () ⟨loc, cs, hp, hdd⟩ := onList_e (σ := ⟨loc, cs, hp, hdd⟩) h
end
/-- reading a field -/
theorem aGet_ok (hG : Known G) {hp : List AO} {i d : Nat} {C : Addr} {es : List (Str × AV)} {name : Str} {x : AV} (h1 : hp[i]? = some (.inst C d)) (h2 : hp[d]? = some (.dict es)) (h3 : aget name es = some x) (h4 : plainV x = true) (h5 : (C, name) ∈ kAtts) (loc cs hdd) : aGet G (.ref i) name ⟨loc, cs, hp, hdd⟩ = .ok x ⟨loc, cs, hp, hdd⟩ :=
  (onInst_e (σ := ⟨loc, cs, hp, hdd⟩) h1).trans ((if_pos (hG.atts ▸ h5)).trans ((onDict_e (σ := ⟨loc, cs, hp, hdd⟩) h2).trans ((onOpt_e h3).trans (if_pos h4))))
theorem aSet_ok (hG : Known G) {hp : List AO} {i d : Nat} {C : Addr} {es : List (Str × AV)} {name : Str} {x : AV} (h1 : hp[i]? = some (.inst C d)) (h2 : hp[d]? = some (.dict es)) (h3 : es.length < 900) (h5 : (C, name) ∈ kAtts) (loc cs hdd) : aSet G (.ref i) name x ⟨loc, cs, hp, hdd⟩ = .ok () ⟨loc, cs, hp.set d (.dict (aput name x es)), hdd⟩ :=
  (onInst_e (σ := ⟨loc, cs, hp, hdd⟩) h1).trans ((if_pos (hG.atts ▸ h5)).trans ((onDict_e (σ := ⟨loc, cs, hp, hdd⟩) h2).trans (if_pos h3)))
-- the straight steps
section
variable {loc : Str → Option AV} {cs : List (Str × Nat)} {hp : List AO} {hdd : Option Nat}
theorem aLoc_e (x : Str) : aLoc x ⟨loc, cs, hp, hdd⟩ = match loc x with | some v => .ok v ⟨loc, cs, hp, hdd⟩ | none => .stuck := rfl
theorem aStore_e (x : Str) (v : AV) : aStore x v ⟨loc, cs, hp, hdd⟩ = .ok () ⟨setLoc x v loc, cs, hp, hdd⟩ := rfl
theorem setLoc_e (x y : Str) (v : AV) : setLoc x v loc y = if y = x then some v else loc y := rfl
theorem rbind_ok {α β : Type} (a : α) (σ : AS) (f : α → AS → Res β) : (Res.ok a σ).bind f = f a σ := rfl
theorem rbind_exc {α β : Type} (x : Nat) (σ : AS) (f : α → AS → Res β) : (Res.exc x σ).bind f = .exc x σ := rfl
end
end Mine

open PySem PySem.W PyProof.Rows PySem.Calls
set_option Elab.async false
set_option maxRecDepth 100000
set_option maxHeartbeats 1000000
set_option linter.unusedVariables false
namespace Mine
variable {G : Gd}

theorem Holds.setAt {hp : List AO} {V : HV} (h : Holds hp V) (k : Nat) {i : Nat} {o : AO} (hk : V[k]? = some (i, o)) (o' : AO) : Holds (hp.set i o') (V.set k (i, o')) := by
  obtain ⟨hlt, he⟩ := List.getElem?_eq_some_iff.mp hk
  have e : V = V.take k ++ (i, o) :: V.drop (k + 1) := by rw [← he, List.getElem_cons_drop, List.take_append_drop]
  have e2 : V.set k (i, o') = V.take k ++ (i, o') :: V.drop (k + 1) := by rw [List.set_eq_take_append_cons_drop, if_pos hlt]
  rw [e2]
  rw [e] at h
  refine Holds.wk (V := (i, o') :: (V.take k ++ V.drop (k + 1))) (Holds.upd (o := o) (h.wk fun x => ?_)) fun x => ?_
  · simp +arith only [List.count_append, List.count_cons]
  · simp +arith only [List.count_append, List.count_cons]

/-- an open variable: its place, its dict's place, its index -/
structure Op where
  u : Nat
  d : Nat
  idx : Int
set_option genInjectivity false in
/-- a plan: its tuple's place, its places' place, and what it says -/
structure Plan where
  t : Nat
  p : Nat
  frames : Int
  calls : Int
  places : List Int
  elder : Int
  kind : Int
  anew : Bool
  fin : Int
set_option genInjectivity false in
structure Lay where
  h : Nat
  hd : Nat
  sk : Nat
  op : Nat
  fr : Nat
  w : Nat
  nt : Nat
  du : Nat
  pl : Nat
  most : Int
  plans : List Plan
structure PS where
  frames : List AV
  ccalls : Int
  handling : Int
  top : Int
  stack : List Int
  ops : List Op
  notes : List (Nat × List AV)
  due : List (Nat × List AV)
  well : Bool

noncomputable def hdict (L : Lay) (s : PS) : List (Str × AV) := [("stack", .ref L.sk), ("open_upvals", .ref L.op), ("frames", .ref L.fr), ("ccalls", .int s.ccalls), ("handling", .int s.handling), ("top", .int s.top)]
noncomputable def wmap (L : Lay) (s : PS) : List (Str × AV) := [("plans", .ref L.pl), ("holder", .ref L.h), ("most", .int L.most), ("notes", .ref L.nt), ("due", .ref L.du), ("well", .bool s.well)]
noncomputable def upDict (th ix v : AV) : List (Str × AV) := [("number", .int 0), ("mark", .int 0), ("size", .int 4), ("thread", th), ("index", ix), ("value", v)]
noncomputable def opV (L : Lay) (o : Op) : HV := [(o.u, .inst 115 o.d), (o.d, .dict (upDict (.ref L.h) (.int o.idx) .none))]
noncomputable def opsV (L : Lay) (ops : List Op) : HV := ops.flatMap (opV L)
noncomputable def tupV (ns : List (Nat × List AV)) : HV := ns.map fun n => (n.1, .tuple n.2)
noncomputable def planT (p : Plan) : List AV := [.int p.frames, .int p.calls, .ref p.p, .int p.elder, .int p.kind, .bool p.anew, .int p.fin]
noncomputable def planV (p : Plan) : HV := [(p.t, .tuple (planT p)), (p.p, .list (p.places.map .int))]
noncomputable def plansV (ps : List Plan) : HV := ps.flatMap planV
noncomputable def W' (L : Lay) (s : PS) : HV := plansV L.plans ++ (opsV L s.ops ++ (tupV s.notes ++ tupV s.due))
noncomputable def Wd (L : Lay) (s : PS) : HV := (L.h, .inst 134 L.hd) :: (L.hd, .dict (hdict L s)) :: (L.sk, .list (s.stack.map .int)) :: (L.op, .list (s.ops.map fun o => .ref o.u)) :: (L.fr, .list s.frames) :: (L.w, .map (wmap L s)) ::
  (L.nt, .list (s.notes.map fun n => .ref n.1)) :: (L.du, .list (s.due.map fun n => .ref n.1)) :: (L.pl, .list (L.plans.map fun p => .ref p.t)) :: W' L s

structure Good (L : Lay) (s : PS) : Prop where
  stack : s.stack.length = 9
  sorted : s.ops.Pairwise fun a b => b.idx < a.idx
  range : ∀ o ∈ s.ops, 0 ≤ o.idx ∧ o.idx < 8
  top : 0 ≤ s.top ∧ s.top ≤ 8
theorem ops_len : ∀ {ops : List Op} {k : Nat}, ops.Pairwise (fun a b => b.idx < a.idx) → (∀ o ∈ ops, 0 ≤ o.idx ∧ o.idx < k) → ops.length ≤ k
  | [], k, _, _ => Nat.zero_le _
  | o :: r, k, h, hr => by
    have h1 := List.pairwise_cons.mp h
    have ho := hr o (.head _)
    have := ops_len (k := o.idx.toNat) h1.2 fun q hq => by
      have a := h1.1 q hq
      have b := hr q (.tail _ hq)
      omega
    simp only [List.length_cons]
    omega

section
variable {L : Lay} {s : PS} {hp : List AO} {F : HV}
/-- what may be read -/
theorem rds (hG : Known G) (H : Holds hp (Wd L s ++ F)) :
    (∀ loc cs hdd, aGet G (.ref L.h) "stack" ⟨loc, cs, hp, hdd⟩ = .ok (.ref L.sk) ⟨loc, cs, hp, hdd⟩) ∧
    (∀ loc cs hdd, aGet G (.ref L.h) "open_upvals" ⟨loc, cs, hp, hdd⟩ = .ok (.ref L.op) ⟨loc, cs, hp, hdd⟩) ∧
    (∀ loc cs hdd, aGet G (.ref L.h) "frames" ⟨loc, cs, hp, hdd⟩ = .ok (.ref L.fr) ⟨loc, cs, hp, hdd⟩) ∧
    (∀ loc cs hdd, aGet G (.ref L.h) "ccalls" ⟨loc, cs, hp, hdd⟩ = .ok (.int s.ccalls) ⟨loc, cs, hp, hdd⟩) ∧
    (∀ loc cs hdd, aGet G (.ref L.h) "handling" ⟨loc, cs, hp, hdd⟩ = .ok (.int s.handling) ⟨loc, cs, hp, hdd⟩) ∧
    (∀ loc cs hdd, aGet G (.ref L.h) "top" ⟨loc, cs, hp, hdd⟩ = .ok (.int s.top) ⟨loc, cs, hp, hdd⟩) ∧
    (∀ loc cs hdd, aItem (.ref L.w) (.str "plans") ⟨loc, cs, hp, hdd⟩ = .ok (.ref L.pl) ⟨loc, cs, hp, hdd⟩) ∧
    (∀ loc cs hdd, aItem (.ref L.w) (.str "holder") ⟨loc, cs, hp, hdd⟩ = .ok (.ref L.h) ⟨loc, cs, hp, hdd⟩) ∧
    (∀ loc cs hdd, aItem (.ref L.w) (.str "most") ⟨loc, cs, hp, hdd⟩ = .ok (.int L.most) ⟨loc, cs, hp, hdd⟩) ∧
    (∀ loc cs hdd, aItem (.ref L.w) (.str "notes") ⟨loc, cs, hp, hdd⟩ = .ok (.ref L.nt) ⟨loc, cs, hp, hdd⟩) ∧
    (∀ loc cs hdd, aItem (.ref L.w) (.str "due") ⟨loc, cs, hp, hdd⟩ = .ok (.ref L.du) ⟨loc, cs, hp, hdd⟩) ∧
    (∀ loc cs hdd, aItem (.ref L.w) (.str "well") ⟨loc, cs, hp, hdd⟩ = .ok (.bool s.well) ⟨loc, cs, hp, hdd⟩) ∧
    (∀ loc cs hdd, aIsList (.ref L.op) ⟨loc, cs, hp, hdd⟩ = .ok () ⟨loc, cs, hp, hdd⟩) ∧
    (∀ loc cs hdd, aIsList (.ref L.fr) ⟨loc, cs, hp, hdd⟩ = .ok () ⟨loc, cs, hp, hdd⟩) ∧
    (∀ loc cs hdd, aIsList (.ref L.nt) ⟨loc, cs, hp, hdd⟩ = .ok () ⟨loc, cs, hp, hdd⟩) ∧
    (∀ loc cs hdd, aIsList (.ref L.du) ⟨loc, cs, hp, hdd⟩ = .ok () ⟨loc, cs, hp, hdd⟩) := by
  have a0 : hp[L.h]? = _ := H.2 _ (.head _)
  have a1 : hp[L.hd]? = _ := H.2 _ (.tail _ (.head _))
  have a3 : hp[L.op]? = _ := H.2 _ (.tail _ (.tail _ (.tail _ (.head _))))
  have a4 : hp[L.fr]? = _ := H.2 _ (.tail _ (.tail _ (.tail _ (.tail _ (.head _)))))
  have a5 : hp[L.w]? = _ := H.2 _ (.tail _ (.tail _ (.tail _ (.tail _ (.tail _ (.head _))))))
  have a6 : hp[L.nt]? = _ := H.2 _ (.tail _ (.tail _ (.tail _ (.tail _ (.tail _ (.tail _ (.head _)))))))
  have a7 : hp[L.du]? = _ := H.2 _ (.tail _ (.tail _ (.tail _ (.tail _ (.tail _ (.tail _ (.tail _ (.head _))))))))
  have it : ∀ (x : Str) (y : AV), aget x (wmap L s) = some y → ∀ loc cs hdd, aItem (.ref L.w) (.str x) ⟨loc, cs, hp, hdd⟩ = .ok y ⟨loc, cs, hp, hdd⟩ := fun x y e => item_m a5 e
  have li : ∀ (r : Nat) (xs : List AV), hp[r]? = some (.list xs) → ∀ loc cs hdd, aIsList (.ref r) ⟨loc, cs, hp, hdd⟩ = .ok () ⟨loc, cs, hp, hdd⟩ := fun r xs e => isl_e e
  refine ⟨aGet_ok hG a0 a1 rfl rfl (by decide), aGet_ok hG a0 a1 rfl rfl (by decide), aGet_ok hG a0 a1 rfl rfl (by decide), aGet_ok hG a0 a1 rfl rfl (by decide), aGet_ok hG a0 a1 rfl rfl (by decide), aGet_ok hG a0 a1 rfl rfl (by decide),
    it _ _ rfl, it _ _ rfl, it _ _ rfl, it _ _ rfl, it _ _ rfl, it _ _ rfl, li _ _ a3, li _ _ a4, li _ _ a6, li _ _ a7⟩
theorem len_ops (H : Holds hp (Wd L s ++ F)) (g : Good L s) (loc cs hdd) : bLen [.ref L.op] ⟨loc, cs, hp, hdd⟩ = .ok (.int s.ops.length) ⟨loc, cs, hp, hdd⟩ := by
  have a3 : hp[L.op]? = _ := H.2 _ (.tail _ (.tail _ (.tail _ (.head _))))
  have := ops_len (k := 8) g.sorted g.range
  rw [len_e a3 (by rw [List.length_map]; omega), List.length_map]
theorem len_fr (H : Holds hp (Wd L s ++ F)) (g : s.frames.length < 1000) (loc cs hdd) : bLen [.ref L.fr] ⟨loc, cs, hp, hdd⟩ = .ok (.int s.frames.length) ⟨loc, cs, hp, hdd⟩ := by
  have a4 : hp[L.fr]? = _ := H.2 _ (.tail _ (.tail _ (.tail _ (.tail _ (.head _)))))
  exact len_e a4 (by omega) _ _ _
theorem set_ccalls (hG : Known G) (H : Holds hp (Wd L s ++ F)) (c : Int) : ∃ hp', (∀ loc cs hdd, aSet G (.ref L.h) "ccalls" (.int c) ⟨loc, cs, hp, hdd⟩ = .ok () ⟨loc, cs, hp', hdd⟩) ∧ Holds hp' (Wd L { s with ccalls := c } ++ F) :=
  ⟨_, aSet_ok hG (H.2 _ (.head _)) (H.2 _ (.tail _ (.head _))) (by show 6 < 900; decide) (by decide), H.setAt 1 rfl _⟩
theorem set_handling (hG : Known G) (H : Holds hp (Wd L s ++ F)) (c : Int) : ∃ hp', (∀ loc cs hdd, aSet G (.ref L.h) "handling" (.int c) ⟨loc, cs, hp, hdd⟩ = .ok () ⟨loc, cs, hp', hdd⟩) ∧ Holds hp' (Wd L { s with handling := c } ++ F) :=
  ⟨_, aSet_ok hG (H.2 _ (.head _)) (H.2 _ (.tail _ (.head _))) (by show 6 < 900; decide) (by decide), H.setAt 1 rfl _⟩
theorem set_top (hG : Known G) (H : Holds hp (Wd L s ++ F)) (c : Int) : ∃ hp', (∀ loc cs hdd, aSet G (.ref L.h) "top" (.int c) ⟨loc, cs, hp, hdd⟩ = .ok () ⟨loc, cs, hp', hdd⟩) ∧ Holds hp' (Wd L { s with top := c } ++ F) :=
  ⟨_, aSet_ok hG (H.2 _ (.head _)) (H.2 _ (.tail _ (.head _))) (by show 6 < 900; decide) (by decide), H.setAt 1 rfl _⟩
theorem set_well (H : Holds hp (Wd L s ++ F)) (b : Bool) : ∃ hp', (∀ loc cs hdd, aSetItem (.ref L.w) (.str "well") (.bool b) ⟨loc, cs, hp, hdd⟩ = .ok () ⟨loc, cs, hp', hdd⟩) ∧ Holds hp' (Wd L { s with well := b } ++ F) := by
  have a5 : hp[L.w]? = _ := H.2 _ (.tail _ (.tail _ (.tail _ (.tail _ (.tail _ (.head _))))))
  exact ⟨_, setitem_m a5 ⟨rfl, by show 6 < 1000; decide⟩, H.setAt 5 rfl (.map (aput "well" (.bool b) (wmap L s)))⟩
theorem set_stack (H : Holds hp (Wd L s ++ F)) (g : Good L s) {k : Int} (h0 : 0 ≤ k) (h1 : k < 9) (v : Int) : ∃ hp', (∀ loc cs hdd, aSetItem (.ref L.sk) (.int k) (.int v) ⟨loc, cs, hp, hdd⟩ = .ok () ⟨loc, cs, hp', hdd⟩) ∧ Holds hp' (Wd L { s with stack := s.stack.set k.toNat v } ++ F) := by
  have a5 : hp[L.sk]? = _ := H.2 _ (.tail _ (.tail _ (.head _)))
  refine ⟨_, fun loc cs hdd => ?_, by have := H.setAt 2 rfl (.list ((s.stack.set k.toNat v).map .int)); exact this⟩
  rw [setitem_l a5 h0 ⟨by rw [List.length_map, g.stack]; omega, by rw [List.length_map, g.stack]; decide⟩, List.map_set]
theorem get_stack (H : Holds hp (Wd L s ++ F)) (g : Good L s) {k : Int} (h0 : 0 ≤ k) (h1 : k < 9) (loc cs hdd) : aItem (.ref L.sk) (.int k) ⟨loc, cs, hp, hdd⟩ = .ok (.int (s.stack.getD k.toNat 0)) ⟨loc, cs, hp, hdd⟩ := by
  have a5 : hp[L.sk]? = _ := H.2 _ (.tail _ (.tail _ (.head _)))
  have hlt : k.toNat < s.stack.length := by rw [g.stack]; omega
  refine item_l a5 h0 ?_ (by rw [List.length_map, g.stack]; decide) _ _ _
  rw [List.getElem?_map, List.getElem?_eq_getElem hlt, List.getD_eq_getElem?_getD, List.getElem?_eq_getElem hlt]
  rfl
theorem app_fr (H : Holds hp (Wd L s ++ F)) (g : s.frames.length < 1000) (v : AV) : ∃ hp', (∀ loc cs hdd, bAppend [.ref L.fr, v] ⟨loc, cs, hp, hdd⟩ = .ok .none ⟨loc, cs, hp', hdd⟩) ∧ Holds hp' (Wd L { s with frames := s.frames ++ [v] } ++ F) := by
  have a5 : hp[L.fr]? = _ := H.2 _ (.tail _ (.tail _ (.tail _ (.tail _ (.head _)))))
  exact ⟨_, append_e a5 (by omega), H.setAt 4 rfl (.list (s.frames ++ [v]))⟩
theorem pop_fr {xs : List AV} {x : AV} (H : Holds hp (Wd L { s with frames := xs ++ [x] } ++ F)) (g : xs.length < 1000) : ∃ hp', (∀ loc cs hdd, bPop [.ref L.fr] ⟨loc, cs, hp, hdd⟩ = .ok x ⟨loc, cs, hp', hdd⟩) ∧ Holds hp' (Wd L { s with frames := xs } ++ F) := by
  have a5 : hp[L.fr]? = some (.list (xs ++ [x])) := H.2 _ (.tail _ (.tail _ (.tail _ (.tail _ (.head _)))))
  exact ⟨_, pop_e a5 (by rw [List.length_append, List.length_singleton]; omega), H.setAt 4 rfl (.list xs)⟩
/-- a note -/
theorem app_nt (H : Holds hp (Wd L s ++ F)) (g : s.notes.length < 900000) (t : List AV) (ht : t.length < 1000000) : ∃ hp', (∀ loc cs hdd, aTuple t ⟨loc, cs, hp, hdd⟩ = .ok (.ref hp.length) ⟨loc, cs, hp ++ [.tuple t], hdd⟩) ∧ (∀ loc cs hdd, bAppend [.ref L.nt, .ref hp.length] ⟨loc, cs, hp ++ [.tuple t], hdd⟩ = .ok .none ⟨loc, cs, hp', hdd⟩) ∧ Holds hp' (Wd L { s with notes := s.notes ++ [(hp.length, t)] } ++ F) := by
  have H1 := H.alloc (.tuple t)
  have a5 : (hp ++ [AO.tuple t])[L.nt]? = _ := H1.2 _ (.tail _ (.tail _ (.tail _ (.tail _ (.tail _ (.tail _ (.tail _ (.head _))))))))
  refine ⟨_, fun loc cs hdd => ?_, fun loc cs hdd => ?_, (H1.setAt 7 rfl (.list (s.notes.map (fun n => AV.ref n.1) ++ [.ref hp.length]))).wk fun x => ?_⟩
  · unfold aTuple aNew
    rw [if_pos ht]
  · exact append_e a5 (by rw [List.length_map]; omega) _ _ _
  · simp +arith only [Wd, List.cons_append, List.set, W', tupV, hdict, wmap, List.map_append, List.map_cons, List.map_nil, List.count_cons, List.count_append, List.count_nil]
theorem app_du (H : Holds hp (Wd L s ++ F)) (g : s.due.length < 900000) (t : List AV) (ht : t.length < 1000000) : ∃ hp', (∀ loc cs hdd, aTuple t ⟨loc, cs, hp, hdd⟩ = .ok (.ref hp.length) ⟨loc, cs, hp ++ [.tuple t], hdd⟩) ∧ (∀ loc cs hdd, bAppend [.ref L.du, .ref hp.length] ⟨loc, cs, hp ++ [.tuple t], hdd⟩ = .ok .none ⟨loc, cs, hp', hdd⟩) ∧ Holds hp' (Wd L { s with due := s.due ++ [(hp.length, t)] } ++ F) := by
  have H1 := H.alloc (.tuple t)
  have a5 : (hp ++ [AO.tuple t])[L.du]? = _ := H1.2 _ (.tail _ (.tail _ (.tail _ (.tail _ (.tail _ (.tail _ (.tail _ (.tail _ (.head _)))))))))
  refine ⟨_, fun loc cs hdd => ?_, fun loc cs hdd => ?_, (H1.setAt 8 rfl (.list (s.due.map (fun n => AV.ref n.1) ++ [.ref hp.length]))).wk fun x => ?_⟩
  · unfold aTuple aNew
    rw [if_pos ht]
  · exact append_e a5 (by rw [List.length_map]; omega) _ _ _
  · simp +arith only [Wd, List.cons_append, List.set, W', tupV, hdict, wmap, List.map_append, List.map_cons, List.map_nil, List.count_cons, List.count_append, List.count_nil]
end
end Mine

open PySem PySem.W PyProof.Rows PySem.Calls
set_option Elab.async false
set_option maxRecDepth 100000
set_option maxHeartbeats 1000000
set_option linter.unusedVariables false
set_option linter.unusedSimpArgs false
namespace Mine
variable {G : Gd}
theorem gt_e (a b : Int) (σ : AS) : aCmp CmpOp.Gt (.int a) (.int b) σ = .ok (.bool (decide (b < a))) σ := rfl

theorem while_next {mt : AM Bool} {mb : AM AF} {k : Nat} {σ σ1 σ2 : AS} (e1 : mt σ = .ok true σ1) (e2 : mb σ1 = .ok .next σ2) : aWhile mt mb (k + 1) σ = aWhile mt mb k σ2 := by
  rw [aWhile]; dsimp only; rw [e1]; dsimp only; rw [e2]
theorem while_stop {mt : AM Bool} {mb : AM AF} {k : Nat} {σ σ1 : AS} (e1 : mt σ = .ok false σ1) : aWhile mt mb (k + 1) σ = .ok .next σ1 := by
  rw [aWhile]; dsimp only; rw [e1]
theorem while_ret {mt : AM Bool} {mb : AM AF} {k : Nat} {σ σ1 σ2 : AS} {v : AV} (e1 : mt σ = .ok true σ1) (e2 : mb σ1 = .ok (.ret v) σ2) : aWhile mt mb (k + 1) σ = .ok (.ret v) σ2 := by
  rw [aWhile]; dsimp only; rw [e1]; dsimp only; rw [e2]

section
variable {L : Lay} {s : PS} {F : HV}
/-- frames are taken back down to a depth -/
theorem pops_ok {loc : Str → Option AV} {cs : List (Str × Nat)} {hdd : Option Nat} {T : AM Bool} {B : AM AF} {d : Nat}
    (hT : ∀ (xs : List AV) hp, xs.length < 1000 → Holds hp (Wd L { s with frames := xs } ++ F) → T ⟨loc, cs, hp, hdd⟩ = .ok (decide ((d : Int) < xs.length)) ⟨loc, cs, hp, hdd⟩)
    (hB : ∀ (xs : List AV) (x : AV) hp hp', Holds hp (Wd L { s with frames := xs ++ [x] } ++ F) → (∀ loc cs hdd, bPop [.ref L.fr] ⟨loc, cs, hp, hdd⟩ = .ok x ⟨loc, cs, hp', hdd⟩) → B ⟨loc, cs, hp, hdd⟩ = .ok .next ⟨loc, cs, hp', hdd⟩) :
    ∀ (k : Nat) (xs : List AV) (hp : List AO), Holds hp (Wd L { s with frames := xs } ++ F) → d ≤ xs.length → xs.length < d + k → xs.length < 1000 → ∃ hp', aWhile T B k ⟨loc, cs, hp, hdd⟩ = .ok .next ⟨loc, cs, hp', hdd⟩ ∧ Holds hp' (Wd L { s with frames := xs.take d } ++ F) := by
  intro k
  induction k with
  | zero => intro xs hp h3 h4 h5 h6; omega
  | succ k ih =>
    intro xs hp H h4 h5 h6
    have test := hT xs hp h6 H
    by_cases hlt : d < xs.length
    · rw [decide_eq_true (by omega)] at test
      refine cps fun X_ k_ => ?_
      obtain ⟨ys, y, rfl⟩ : ∃ ys y, xs = ys ++ [y] := ⟨xs.dropLast, xs.getLast (by intro h; rw [h] at hlt; simp at hlt), (List.dropLast_concat_getLast _).symm⟩
      refine k_ ?_
      clear k_ X_
      simp only [List.length_append, List.length_singleton] at hlt h4 h5 h6
      refine cps fun X_ k_ => ?_
      obtain ⟨hp1, e, H1⟩ := pop_fr H (by omega)
      obtain ⟨hp2, e2, H2⟩ := ih ys hp1 H1 (by omega) (by omega) (by omega)
      refine k_ ?_
      clear k_ X_
      refine ⟨hp2, ?_, ?_⟩
      · rw [while_next test (hB ys y hp hp1 H e), e2]
      · rw [List.take_append_of_le_length (by omega)]; exact H2
    · rw [decide_eq_false (by omega)] at test
      refine ⟨hp, while_stop test, ?_⟩
      rw [List.take_of_length_le (by omega)]
      exact H
theorem unwound_ok (hG : Known G) {hp : List AO} {hdd : Option Nat} (H : Holds hp (Wd L s ++ F)) (hl : s.frames.length < 1000) (d : Nat) (hd : d ≤ s.frames.length) :
    ∃ v hp', (∀ loc cs, aFn ["frames", "depth"] (d_28 hG).1 [.ref L.fr, .int (d : Nat)] ⟨loc, cs, hp, hdd⟩ = .ok v ⟨loc, cs, hp', hdd⟩) ∧ v = .none ∧ Holds hp' (Wd L { s with frames := s.frames.take d } ++ F) := by
  refine fn_of rfl ?_
  unfold d_28
  dsimp only [bindF]
  first | refine wp_end (by assumption) (by assumption) ?_ | refine wp_last ?_
  refine cps fun X_ k_ => ?_
  obtain ⟨hp', e, H'⟩ := pops_ok (L := L) (s := s) (F := F) (loc := setLoc "depth" (.int (d : Nat)) (setLoc "frames" (.ref L.fr) noLoc)) (cs := []) (hdd := hdd) (d := d)
    (T := do
      let a ← aCall bLen [aLoc "frames"]
      let b ← aLoc "depth"
      let x ← aCmp CmpOp.Gt a b
      aTruth x)
    (B := aSeq [do
      let _ ← aMCall aIsList bPop (aLoc "frames") []
      pure AF.next])
    (fun xs hp hx H => by simp (decide := true) only [bind_ap, pure_ap, aCall, aMCall, aArgs, aLoc_e, aStore_e, setLoc_e, if_true, if_false, rbind_ok, rbind_exc, aTruth, len_fr H hx, gt_e])
    (fun xs x hp hp' H e => by simp (decide := true) only [bind_ap, pure_ap, aCall, aMCall, aArgs, aLoc_e, aStore_e, setLoc_e, if_true, if_false, rbind_ok, rbind_exc, aTruth, aSeq, rds hG H, e])
    2000 s.frames hp H hd (by omega) hl
  refine k_ ?_
  clear k_ X_
  try refine wp_end (by assumption) (by assumption) ?_
  exact WP.ok e ⟨rfl, H'⟩

-- open variables
theorem ops_at {hp : List AO} (H : Holds hp (Wd L s ++ F)) {o : Op} (ho : o ∈ s.ops) : hp[o.u]? = some (.inst 115 o.d) ∧ hp[o.d]? = some (.dict (upDict (.ref L.h) (.int o.idx) .none)) := by
  have m : ∀ q ∈ opV L o, q ∈ Wd L s ++ F := fun q hq => by
    refine List.mem_append_left _ (.tail _ (.tail _ (.tail _ (.tail _ (.tail _ (.tail _ (.tail _ (.tail _ (.tail _ ?_)))))))))
    exact List.mem_append_right _ (List.mem_append_left _ (List.mem_flatMap.mpr ⟨o, ho, hq⟩))
  exact ⟨H.2 (o.u, _) (m _ (.head _)), H.2 (o.d, _) (m _ (.tail _ (.head _)))⟩
theorem op_index (hG : Known G) {hp : List AO} (H : Holds hp (Wd L s ++ F)) {o : Op} (ho : o ∈ s.ops) (loc cs hdd) : aGet G (.ref o.u) "index" ⟨loc, cs, hp, hdd⟩ = .ok (.int o.idx) ⟨loc, cs, hp, hdd⟩ :=
  aGet_ok hG (ops_at H ho).1 (ops_at H ho).2 rfl rfl (by decide) loc cs hdd
theorem op_get {hp : List AO} (H : Holds hp (Wd L s ++ F)) (g : Good L s) {n : Nat} {o : Op} (ho : s.ops[n]? = some o) (loc cs hdd) : aItem (.ref L.op) (.int n) ⟨loc, cs, hp, hdd⟩ = .ok (.ref o.u) ⟨loc, cs, hp, hdd⟩ := by
  have a3 : hp[L.op]? = _ := H.2 _ (.tail _ (.tail _ (.tail _ (.head _))))
  have := ops_len (k := 8) g.sorted g.range
  exact item_l a3 (Int.natCast_nonneg n) (by rw [Int.toNat_natCast, List.getElem?_map, ho]; rfl) (by rw [List.length_map]; omega) _ _ _

noncomputable def spotN (k : Int) (ops : List Op) : Nat := (ops.takeWhile fun o => decide (k < o.idx)).length
theorem spotN_ge {k : Int} : ∀ {ops : List Op} {n : Nat}, (∀ i < n, ∀ o, ops[i]? = some o → k < o.idx) → n ≤ ops.length → n ≤ spotN k ops
  | _, 0, _, _ => Nat.zero_le _
  | [], n + 1, _, h => by simp at h
  | o :: r, n + 1, h, hl => by
    have h0 := h 0 (by omega) o rfl
    have := spotN_ge (k := k) (ops := r) (n := n) (fun i hi q hq => h (i + 1) (by omega) q hq) (by simp at hl; omega)
    unfold spotN at this ⊢
    rw [List.takeWhile_cons, if_pos (by simpa using h0)]
    simp; omega
theorem spotN_get {k : Int} : ∀ {ops : List Op} {i : Nat} {o : Op}, i < spotN k ops → ops[i]? = some o → k < o.idx
  | [], i, o, h, e => by simp at e
  | q :: r, i, o, h, e => by
    unfold spotN at h
    rw [List.takeWhile_cons] at h
    split at h
    · rename_i hq
      match i, e with
      | 0, e => simp at e; subst e; simpa using hq
      | i + 1, e => exact spotN_get (ops := r) (i := i) (by unfold spotN; simpa using h) (by simpa using e)
    · simp at h
theorem spotN_le {k : Int} {ops : List Op} : spotN k ops ≤ ops.length := (List.takeWhile_prefix _).sublist.length_le
theorem spotN_stop {k : Int} : ∀ {ops : List Op} {o : Op}, ops[spotN k ops]? = some o → o.idx ≤ k
  | [], o, e => by simp at e
  | q :: r, o, e => by
    unfold spotN at e
    rw [List.takeWhile_cons] at e
    split at e
    · exact spotN_stop (ops := r) (by unfold spotN; simpa using e)
    · rename_i hq
      simp at e hq; subst e; exact hq

theorem spot_loop {T : AM Bool} {B : AM AF} {k : Int} {cs hp hdd} {l1 : Str → Option AV} {x : Str} (hlen : s.ops.length ≤ 8)
    (hT : ∀ n, T ⟨setLoc x (.int (n : Nat)) l1, cs, hp, hdd⟩ = .ok (match s.ops[n]? with | some o => decide (k < o.idx) | none => false) ⟨setLoc x (.int (n : Nat)) l1, cs, hp, hdd⟩)
    (hB : ∀ n, B ⟨setLoc x (.int (n : Nat)) l1, cs, hp, hdd⟩ = .ok .next ⟨setLoc x (.int (n + 1 : Nat)) l1, cs, hp, hdd⟩) :
    ∀ (j n : Nat), n ≤ spotN k s.ops → spotN k s.ops < n + j → aWhile T B j ⟨setLoc x (.int (n : Nat)) l1, cs, hp, hdd⟩ = .ok .next ⟨setLoc x (.int (spotN k s.ops)) l1, cs, hp, hdd⟩ := by
  intro j
  induction j with
  | zero => intro n h1 h2; omega
  | succ j ih =>
    intro n h1 h2
    have test := hT n
    by_cases hlt : n < spotN k s.ops
    · have hn : ∃ o, s.ops[n]? = some o := ⟨_, List.getElem?_eq_getElem (Nat.lt_of_lt_of_le hlt spotN_le)⟩
      obtain ⟨o, hn⟩ := hn
      have hk := spotN_get hlt hn
      rw [hn] at test
      dsimp only at test
      rw [decide_eq_true hk] at test
      rw [while_next test (hB n)]
      exact ih (n + 1) (by omega) (by omega)
    · have hn : n = spotN k s.ops := by omega
      subst hn
      have : (match s.ops[spotN k s.ops]? with | some o => decide (k < o.idx) | none => false) = false := by
        cases hn : s.ops[spotN k s.ops]? with
        | none => rfl
        | some o => exact decide_eq_false (by have := spotN_stop hn; omega)
      rw [this] at test
      exact while_stop test
theorem setLoc_set (x : Str) (v u : AV) (loc : Str → Option AV) : setLoc x v (setLoc x u loc) = setLoc x v loc := by
  funext y; unfold setLoc; by_cases h : y = x <;> simp [h]
theorem lt_e (a b : Int) (σ : AS) : aCmp CmpOp.Lt (.int a) (.int b) σ = .ok (.bool (decide (a < b))) σ := rfl
theorem le_e (a b : Int) (σ : AS) : aCmp CmpOp.LtE (.int a) (.int b) σ = .ok (.bool (decide (a ≤ b))) σ := rfl
theorem ge_e (a b : Int) (σ : AS) : aCmp CmpOp.GtE (.int a) (.int b) σ = .ok (.bool (decide (b ≤ a))) σ := rfl
theorem eq_e (a b : Int) (σ : AS) : aCmp CmpOp.Eq (.int a) (.int b) σ = .ok (.bool (a == b)) σ := rfl
theorem isn_ref (a : Nat) (σ : AS) : aCmp CmpOp.Is (.ref a) .none σ = .ok (.bool false) σ := rfl
theorem isn_none (σ : AS) : aCmp CmpOp.Is .none .none σ = .ok (.bool true) σ := rfl
theorem isnt_ref (a : Nat) (σ : AS) : aCmp CmpOp.IsNot (.ref a) .none σ = .ok (.bool true) σ := rfl
theorem isnt_none (σ : AS) : aCmp CmpOp.IsNot .none .none σ = .ok (.bool false) σ := rfl
theorem incr_e (a b : Int) (σ : AS) : aIncr (.int a) (.int b) σ = .ok (.int (a + b)) σ := rfl
theorem add_e (a b : Int) (σ : AS) : aBin .Add (.int a) (.int b) σ = .ok (.int (a + b)) σ := rfl
theorem sub_e (a b : Int) (σ : AS) : aBin .Sub (.int a) (.int b) σ = .ok (.int (a - b)) σ := rfl

theorem spot_of_ok (hG : Known G) {hp : List AO} (H : Holds hp (Wd L s ++ F)) (g : Good L s) (k : Int) (loc cs hdd) :
    aFn ["owner", "index"] (d_145 hG).1 [.ref L.h, .int k] ⟨loc, cs, hp, hdd⟩ = .ok (.int (spotN k s.ops)) ⟨loc, cs, hp, hdd⟩ := by
  have fin : ∃ v hp', (∀ loc cs, aFn ["owner", "index"] (d_145 hG).1 [.ref L.h, .int k] ⟨loc, cs, hp, hdd⟩ = .ok v ⟨loc, cs, hp', hdd⟩) ∧ v = .int (spotN k s.ops) ∧ hp' = hp := by
    refine fn_of rfl ?_
    unfold d_145
    dsimp only [bindF]
    have hl := ops_len (k := 8) g.sorted g.range
    try (refine wp_hide fun l_ => ?_; repeat intro _)
    refine wp_next (by assumption) (by assumption) (σ' := ⟨setLoc "at" (.int (0 : Nat)) (setLoc "index" (.int k) (setLoc "owner" (.ref L.h) noLoc)), [], hp, hdd⟩) rfl ?_
    try (refine wp_hide fun l_ => ?_; repeat intro _)
    refine wp_next (by assumption) (by assumption) (σ' := ⟨setLoc "at" (.int (spotN k s.ops)) (setLoc "index" (.int k) (setLoc "owner" (.ref L.h) noLoc)), [], hp, hdd⟩) ?_ (by refine wp_end (by assumption) (by assumption) ?_; exact ⟨rfl, rfl⟩)
    refine spot_loop hl (fun n => ?_) (fun n => ?_) 2000 0 (Nat.zero_le _) (by have := spotN_le (k := k) (ops := s.ops); omega)
    · cases hn : s.ops[n]? with
      | none =>
        have : ¬ ((n : Int) < s.ops.length) := by have := List.getElem?_eq_none_iff.mp hn; omega
        simp (decide := true) only [bind_ap, pure_ap, aCall, aMCall, aArgs, aLoc_e, aStore_e, setLoc_e, if_true, if_false, rbind_ok, rbind_exc, aTruth, aAnd, rds hG H, len_ops H g, lt_e, decide_eq_false this]
      | some o =>
        have hlt := (List.getElem?_eq_some_iff.mp hn).1
        have : ((n : Int) < s.ops.length) := by omega
        simp (decide := true) only [bind_ap, pure_ap, aCall, aMCall, aArgs, aLoc_e, aStore_e, setLoc_e, if_true, if_false, rbind_ok, rbind_exc, aTruth, aAnd, rds hG H, len_ops H g, lt_e, gt_e, decide_eq_true this, op_get H g hn, op_index hG H (List.mem_of_getElem? hn)]
        cases decide (k < o.idx) <;> rfl
    · simp (decide := true) only [bind_ap, pure_ap, aCall, aMCall, aArgs, aLoc_e, aStore_e, setLoc_e, if_true, if_false, rbind_ok, rbind_exc, aTruth, aSeq, incr_e, setLoc_set]
      rfl
  refine cps fun X_ k_ => ?_
  obtain ⟨v, hp', e, rfl, rfl⟩ := fin
  refine k_ ?_
  clear k_ X_
  exact e loc cs
/-- what is open at a place -/
noncomputable def openAt (k : Int) (ops : List Op) : Option Op := match ops[spotN k ops]? with
  | some o => if o.idx = k then some o else none
  | none => none
theorem open_at_ok (hG : Known G) {hp : List AO} (H : Holds hp (Wd L s ++ F)) (g : Good L s) (k : Int) (loc cs hdd) :
    aFn ["owner", "index"] (d_152 hG).1 [.ref L.h, .int k] ⟨loc, cs, hp, hdd⟩ = .ok (match openAt k s.ops with | some o => .ref o.u | none => .none) ⟨loc, cs, hp, hdd⟩ := by
  have fin : ∃ v hp', (∀ loc cs, aFn ["owner", "index"] (d_152 hG).1 [.ref L.h, .int k] ⟨loc, cs, hp, hdd⟩ = .ok v ⟨loc, cs, hp', hdd⟩) ∧ v = (match openAt k s.ops with | some o => .ref o.u | none => .none) ∧ hp' = hp := by
    refine fn_of rfl ?_
    unfold d_152
    dsimp only [bindF]
    try (refine wp_hide fun l_ => ?_; repeat intro _)
    refine wp_next (by assumption) (by assumption) (σ' := ⟨setLoc "at" (.int (spotN k s.ops)) (setLoc "index" (.int k) (setLoc "owner" (.ref L.h) noLoc)), [], hp, hdd⟩) (by simp (decide := true) only [bind_ap, pure_ap, aCall, aMCall, aArgs, aLoc_e, aStore_e, setLoc_e, if_true, if_false, rbind_ok, rbind_exc, aTruth, spot_of_ok hG H g]) ?_
    unfold openAt
    generalize spotN k s.ops = n
    cases hn : s.ops[n]? with
    | none =>
      have : ¬ ((n : Int) < s.ops.length) := by have := List.getElem?_eq_none_iff.mp hn; omega
      try (refine wp_hide fun l_ => ?_; repeat intro _)
      refine wp_next (by assumption) (by assumption) (σ' := ⟨setLoc "at" (.int n) (setLoc "index" (.int k) (setLoc "owner" (.ref L.h) noLoc)), [], hp, hdd⟩) ?_ (by refine wp_end (by assumption) (by assumption) ?_; exact ⟨rfl, rfl⟩)
      simp (decide := true) only [bind_ap, pure_ap, aCall, aMCall, aArgs, aLoc_e, aStore_e, setLoc_e, if_true, if_false, rbind_ok, rbind_exc, aTruth, aAnd, aSeq, rds hG H, len_ops H g, lt_e, decide_eq_false this]
    | some o =>
      have hlt := (List.getElem?_eq_some_iff.mp hn).1
      have : ((n : Int) < s.ops.length) := by omega
      by_cases q : o.idx = k
      · try (refine wp_hide fun l_ => ?_; repeat intro _)
        refine wp_retn (by assumption) (by assumption) (v := .ref o.u) (σ' := ⟨setLoc "at" (.int n) (setLoc "index" (.int k) (setLoc "owner" (.ref L.h) noLoc)), [], hp, hdd⟩) ?_ ⟨by simp [q, retOf], rfl⟩
        simp (decide := true) only [bind_ap, pure_ap, aCall, aMCall, aArgs, aLoc_e, aStore_e, setLoc_e, if_true, if_false, rbind_ok, rbind_exc, aTruth, aAnd, aSeq, rds hG H, len_ops H g, lt_e, eq_e, decide_eq_true this, op_get H g hn, op_index hG H (List.mem_of_getElem? hn), q, beq_self_eq_true]
      · try (refine wp_hide fun l_ => ?_; repeat intro _)
        refine wp_next (by assumption) (by assumption) (σ' := ⟨setLoc "at" (.int n) (setLoc "index" (.int k) (setLoc "owner" (.ref L.h) noLoc)), [], hp, hdd⟩) ?_ (by refine wp_end (by assumption) (by assumption) ?_; exact ⟨by simp [q, retOf], rfl⟩)
        have q' : (o.idx == k) = false := by simpa using q
        simp (decide := true) only [bind_ap, pure_ap, aCall, aMCall, aArgs, aLoc_e, aStore_e, setLoc_e, if_true, if_false, rbind_ok, rbind_exc, aTruth, aAnd, aSeq, rds hG H, len_ops H g, lt_e, eq_e, decide_eq_true this, op_get H g hn, op_index hG H (List.mem_of_getElem? hn), q']
  refine cps fun X_ k_ => ?_
  obtain ⟨v, hp', e, rfl, rfl⟩ := fin
  refine k_ ?_
  clear k_ X_
  exact e loc cs
end
end Mine

open PySem PySem.W PyProof.Rows PySem.Calls
set_option Elab.async false
set_option maxRecDepth 100000
set_option maxHeartbeats 1000000
set_option linter.unusedVariables false
set_option linter.unusedSimpArgs false
namespace Mine
variable {G : Gd}

theorem put_att (hG : Known G) {hp : List AO} {F : HV} {i d : Nat} {C : Addr} {es : List (Str × AV)} (name : Str) (x : AV) (H : Holds hp ((i, .inst C d) :: (d, .dict es) :: F)) (h3 : es.length < 900) (h5 : (C, name) ∈ kAtts) :
    ∃ hp', (∀ loc cs hdd, aSet G (.ref i) name x ⟨loc, cs, hp, hdd⟩ = .ok () ⟨loc, cs, hp', hdd⟩) ∧ Holds hp' ((i, .inst C d) :: (d, .dict (aput name x es)) :: F) :=
  ⟨_, aSet_ok hG (H.2 _ (.head _)) (H.2 _ (.tail _ (.head _))) h3 h5, H.setAt 1 rfl _⟩
theorem init62 (hG : Known G) {hp : List AO} {F : HV} {i d : Nat} {hdd} (n z : AV) (H : Holds hp ((i, .inst 115 d) :: (d, .dict []) :: F)) :
    ∃ v hp', (∀ loc cs, aFn ["self", "number", "size"] (d_62 hG).1 [.ref i, n, z] ⟨loc, cs, hp, hdd⟩ = .ok v ⟨loc, cs, hp', hdd⟩) ∧ v = .none ∧ Holds hp' ((i, .inst 115 d) :: (d, .dict [("number", n), ("mark", .int 0), ("size", z)]) :: F) := by
  refine fn_of rfl ?_
  unfold d_62
  dsimp only [bindF]
  refine cps fun X_ k_ => ?_
  obtain ⟨hp1, e1, H1⟩ := put_att hG "number" n H (by decide) (by decide)
  obtain ⟨hp2, e2, H2⟩ := put_att hG "mark" (.int 0) H1 (by show 1 < 900; decide) (by decide)
  obtain ⟨hp3, e3, H3⟩ := put_att hG "size" z H2 (by show 2 < 900; decide) (by decide)
  refine k_ ?_
  clear k_ X_
  try refine wp_end (by assumption) (by assumption) ?_
  refine WP.ok (a := .next) (σ := ⟨_, [], hp3, hdd⟩) (by simp (decide := true) only [bind_ap, pure_ap, aCall, aMCall, aArgs, aLoc_e, aStore_e, setLoc_e, if_true, if_false, rbind_ok, rbind_exc, aTruth, aSeq, e1, e2, e3]; rfl) ⟨rfl, H3⟩
theorem init83 (hG : Known G) {hp : List AO} {F : HV} {i d : Nat} {hdd} (th ix : AV) (H : Holds hp ((i, .inst 115 d) :: (d, .dict []) :: F)) :
    ∃ v hp', (∀ loc cs, aFn ["self", "thread", "index"] (d_83 hG).1 [.ref i, th, ix] ⟨loc, cs, hp, hdd⟩ = .ok v ⟨loc, cs, hp', hdd⟩) ∧ v = .none ∧ Holds hp' ((i, .inst 115 d) :: (d, .dict (upDict th ix .none)) :: F) := by
  refine fn_of rfl ?_
  unfold d_83
  dsimp only [bindF]
  refine cps fun X_ k_ => ?_
  obtain ⟨v, hp0, e0, rfl, H0⟩ := init62 hG (hdd := hdd) (.int 0) (.int 4) H
  obtain ⟨hp1, e1, H1⟩ := put_att hG "thread" th H0 (by show 3 < 900; decide) (by decide)
  obtain ⟨hp2, e2, H2⟩ := put_att hG "index" ix H1 (by show 4 < 900; decide) (by decide)
  obtain ⟨hp3, e3, H3⟩ := put_att hG "value" .none H2 (by show 5 < 900; decide) (by decide)
  refine k_ ?_
  clear k_ X_
  try refine wp_end (by assumption) (by assumption) ?_
  refine WP.ok (a := .next) (σ := ⟨_, [], hp3, hdd⟩) (by simp (decide := true) only [bind_ap, pure_ap, aCall, aMCall, aArgs, aLoc_e, aStore_e, setLoc_e, if_true, if_false, rbind_ok, rbind_exc, aTruth, aSeq, e0, e1, e2, e3]; rfl) ⟨rfl, H3⟩
theorem make_upval (hG : Known G) {hp : List AO} {V : HV} {hdd} (th ix : AV) (H : Holds hp V) :
    ∃ hp', (∀ loc cs, aInst 115 (aFn ["self", "thread", "index"] (d_83 hG).1) [th, ix] ⟨loc, cs, hp, hdd⟩ = .ok (.ref (hp.length + 1)) ⟨loc, cs, hp', hdd⟩) ∧ Holds hp' ((hp.length + 1, .inst 115 hp.length) :: (hp.length, .dict (upDict th ix .none)) :: V) := by
  have H1 := (H.alloc (.dict [])).alloc (.inst 115 hp.length)
  rw [show (hp ++ [AO.dict []]).length = hp.length + 1 by simp] at H1
  refine cps fun X_ k_ => ?_
  obtain ⟨v, hp', e, rfl, H2⟩ := init83 hG (hdd := hdd) th ix H1
  refine k_ ?_
  clear k_ X_
  refine ⟨hp', fun loc cs => ?_, H2⟩
  unfold aInst
  dsimp only
  rw [e]

section
variable {L : Lay} {s : PS} {F : HV}
noncomputable def insOp (o : Op) (ops : List Op) : List Op := ops.take (spotN o.idx ops) ++ o :: ops.drop (spotN o.idx ops)
theorem put_open_ok (hG : Known G) {hp : List AO} {hdd} (o : Op) (H : Holds hp (Wd L s ++ (opV L o ++ F))) (g : Good L s) :
    ∃ v hp', (∀ loc cs, aFn ["owner", "upval"] (d_159 hG).1 [.ref L.h, .ref o.u] ⟨loc, cs, hp, hdd⟩ = .ok v ⟨loc, cs, hp', hdd⟩) ∧ v = .none ∧ Holds hp' (Wd L { s with ops := insOp o s.ops } ++ F) := by
  refine fn_of rfl ?_
  unfold d_159
  dsimp only [bindF]
  first | refine wp_end (by assumption) (by assumption) ?_ | refine wp_last ?_
  have a3 : hp[L.op]? = _ := H.2 _ (.tail _ (.tail _ (.tail _ (.head _))))
  have u1 := aGet_ok hG (name := "index") (H.2 _ (List.mem_append_right _ (.head _))) (H.2 _ (List.mem_append_right _ (.tail _ (.head _)))) rfl rfl (by decide)
  have hl := ops_len (k := 8) g.sorted g.range
  have hn := spotN_le (k := o.idx) (ops := s.ops)
  have e1 : ∀ loc cs hdd, bInsert [.ref L.op, .int (spotN o.idx s.ops), .ref o.u] ⟨loc, cs, hp, hdd⟩ = .ok .none ⟨loc, cs, hp.set L.op (.list ((insOp o s.ops).map fun o => .ref o.u)), hdd⟩ := fun loc cs hdd => by
    rw [insert_e a3 ⟨by rw [List.length_map]; omega, Int.natCast_nonneg _, by rw [List.length_map, Int.toNat_natCast]; exact hn⟩]
    unfold insOp
    rw [Int.toNat_natCast, List.map_append, List.map_cons, List.map_take, List.map_drop]
  try refine wp_end (by assumption) (by assumption) ?_
  refine WP.ok (a := .next) (σ := ⟨_, [], _, hdd⟩) (by simp (decide := true) only [bind_ap, pure_ap, aCall, aMCall, aArgs, aLoc_e, aStore_e, setLoc_e, if_true, if_false, rbind_ok, rbind_exc, aTruth, rds hG H, u1, spot_of_ok hG H g, e1]; rfl) ⟨rfl, ?_⟩
  refine (H.setAt 3 rfl _).wk fun x => ?_
  have c : (opsV L (insOp o s.ops)).count x = (opV L o).count x + (opsV L s.ops).count x := by
    have : opsV L s.ops = opsV L (s.ops.take (spotN o.idx s.ops)) ++ opsV L (s.ops.drop (spotN o.idx s.ops)) := by
      unfold opsV
      rw [← List.flatMap_append, List.take_append_drop]
    rw [this]
    unfold insOp opsV
    simp +arith only [List.flatMap_append, List.flatMap_cons, List.count_append]
  simp +arith only [Wd, W', List.cons_append, List.set, hdict, wmap, List.count_cons, List.count_append, c]

theorem insOp_good {o : Op} (g : Good L s) (h1 : 0 ≤ o.idx ∧ o.idx < 8) (h : openAt o.idx s.ops = none) : Good L { s with ops := insOp o s.ops } := by
  have hdrop : ∀ q ∈ s.ops.drop (spotN o.idx s.ops), q.idx < o.idx := by
    unfold openAt at h
    cases e : s.ops[spotN o.idx s.ops]? with
    | none =>
      have := List.getElem?_eq_none_iff.mp e
      rw [List.drop_eq_nil_of_le this]
      intro q hq; cases hq
    | some q0 =>
      rw [e] at h
      dsimp only at h
      have h2 := spotN_stop e
      have h3 : q0.idx < o.idx := by
        by_cases z : q0.idx = o.idx
        · rw [if_pos z] at h; cases h
        · omega
      obtain ⟨hlt, he⟩ := List.getElem?_eq_some_iff.mp e
      have hp := g.sorted.sublist (List.drop_sublist (spotN o.idx s.ops) s.ops)
      rw [List.drop_eq_getElem_cons hlt, he] at hp ⊢
      intro q hq
      rcases List.mem_cons.mp hq with rfl | hq
      · exact h3
      · have := (List.pairwise_cons.mp hp).1 q hq
        omega
  have htake : ∀ q ∈ s.ops.take (spotN o.idx s.ops), o.idx < q.idx := by
    intro q hq
    refine cps fun X_ k_ => ?_
    obtain ⟨i, hi, rfl⟩ := List.mem_iff_getElem.mp hq
    refine k_ ?_
    clear k_ X_
    rw [List.length_take] at hi
    rw [List.getElem_take]
    exact spotN_get (i := i) (by omega) (List.getElem?_eq_getElem (by omega))
  refine ⟨g.stack, ?_, ?_, g.top⟩
  · show (insOp o s.ops).Pairwise _
    unfold insOp
    rw [List.pairwise_append]
    refine ⟨g.sorted.sublist (List.take_sublist _ _), List.pairwise_cons.mpr ⟨hdrop, g.sorted.sublist (List.drop_sublist _ _)⟩, fun a ha b hb => ?_⟩
    have := htake a ha
    rcases List.mem_cons.mp hb with rfl | hb
    · exact this
    · have := hdrop b hb; omega
  · show ∀ q ∈ insOp o s.ops, _
    unfold insOp
    intro q hq
    rcases List.mem_append.mp hq with hq | hq
    · exact g.range q (List.mem_of_mem_take hq)
    · rcases List.mem_cons.mp hq with rfl | hq
      · exact h1
      · exact g.range q (List.mem_of_mem_drop hq)

theorem find_plain_ok (hG : Known G) {hp : List AO} {hdd} (H : Holds hp (Wd L s ++ F)) (g : Good L s) {k : Int} (h1 : 0 ≤ k ∧ k < 8) :
    ∃ v hp', (∀ loc cs, aFn ["owner", "index"] (d_166 hG).1 [.ref L.h, .int k] ⟨loc, cs, hp, hdd⟩ = .ok v ⟨loc, cs, hp', hdd⟩) ∧ ∃ ops, Good L { s with ops := ops } ∧ Holds hp' (Wd L { s with ops := ops } ++ F) := by
  refine fn_of rfl ?_
  unfold d_166
  dsimp only [bindF]
  have e0 := open_at_ok hG H g k
  cases ho : openAt k s.ops with
  | some o =>
    rw [ho] at e0
    dsimp only at e0
    try refine wp_end (by assumption) (by assumption) ?_
    refine WP.ok (a := .ret (.ref o.u)) (σ := ⟨_, [], hp, hdd⟩) (by simp (decide := true) only [bind_ap, pure_ap, aCall, aMCall, aArgs, aLoc_e, aStore_e, setLoc_e, if_true, if_false, rbind_ok, rbind_exc, aTruth, aSeq, e0, isn_ref]; rfl) ⟨s.ops, g, H⟩
  | none =>
    rw [ho] at e0
    dsimp only at e0
    refine cps fun X_ k_ => ?_
    obtain ⟨hp1, e1, H1⟩ := make_upval hG (hdd := hdd) (.ref L.h) (.int k) H
    obtain ⟨v, hp2, e2, rfl, H2⟩ := put_open_ok hG (hdd := hdd) (L := L) (s := s) (F := F) ⟨hp.length + 1, hp.length, k⟩ (H1.wk fun x => by simp +arith only [opV, List.count_cons, List.count_append, List.count_nil]) g
    refine k_ ?_
    clear k_ X_
    try refine wp_end (by assumption) (by assumption) ?_
    refine WP.ok (a := .ret (.ref (hp.length + 1))) (σ := ⟨_, [], hp2, hdd⟩) (by simp (decide := true) only [bind_ap, pure_ap, aCall, aMCall, aArgs, aLoc_e, aStore_e, setLoc_e, if_true, if_false, rbind_ok, rbind_exc, aTruth, aSeq, e0, isn_none, e1, e2]; rfl) ⟨_, insOp_good g h1 ho, H2⟩
end
end Mine

open PySem PySem.W PyProof.Rows PySem.Calls
set_option Elab.async false
set_option maxRecDepth 100000
set_option maxHeartbeats 1000000
set_option linter.unusedVariables false
set_option linter.unusedSimpArgs false
namespace Mine
variable {G : Gd}

theorem wp_inv {l : List (AM AF)} {k n : Nat} {m : AM AF} {σ : AS} {Q E} {J : AS → Prop} (hm : l[k]? = some m) (hl : l.length = n) (e : ∃ σ', m σ = .ok .next σ' ∧ J σ') (h : ∀ σ', J σ' → WP (aSeq (l.drop (k + 1)) σ') Q E) (hk : (k + 1).blt n = true := by rfl) : WP (aSeq (l.drop k) σ) Q E := by
  obtain ⟨σ', e, j⟩ := e
  exact wp_next hm hl e (h σ' j) hk
theorem while_inv {T : AM Bool} {B : AM AF} (I : Nat → AS → Prop) (J : AS → Prop) (hstep : ∀ n σ, I (n + 1) σ → ∃ σ1 σ2, T σ = .ok true σ1 ∧ B σ1 = .ok .next σ2 ∧ I n σ2) (hend : ∀ σ, I 0 σ → ∃ σ1, T σ = .ok false σ1 ∧ J σ1) :
    ∀ n k σ, I n σ → n < k → ∃ σ', aWhile T B k σ = .ok .next σ' ∧ J σ'
  | 0, k + 1, σ, h, _ => by
    refine cps fun X_ k_ => ?_
    obtain ⟨σ1, e, j⟩ := hend σ h
    refine k_ ?_
    clear k_ X_
    exact ⟨σ1, while_stop e, j⟩
  | n + 1, k + 1, σ, h, hk => by
    refine cps fun X_ k_ => ?_
    obtain ⟨σ1, σ2, e1, e2, i⟩ := hstep n σ h
    obtain ⟨σ', e, j⟩ := while_inv I J hstep hend n k σ2 i (by omega)
    refine k_ ?_
    clear k_ X_
    exact ⟨σ', (while_next e1 e2).trans e, j⟩
theorem forL_inv {st : AV → AM Unit} {mb : AM AF} {r : Nat} {xs : List AV} (I : Nat → AS → Prop) (hl : ∀ i σ, I i σ → σ.hp[r]? = some (.list xs) ∧ σ.hd = none)
    (hstep : ∀ i v σ, xs[i]? = some v → I i σ → ∃ σ1 σ2, st v σ = .ok () σ1 ∧ mb σ1 = .ok .next σ2 ∧ I (i + 1) σ2) :
    ∀ k i σ, I i σ → i + k = xs.length → ∃ σ', aForL st mb r (k + 1) i σ = .ok .next σ' ∧ I xs.length σ'
  | k, i, σ, h, hk => by
    obtain ⟨h1, h2⟩ := hl i σ h
    unfold aForL
    rw [h1]
    dsimp only
    cases hv : xs[i]? with
    | none =>
      have := List.getElem?_eq_none_iff.mp hv
      have hi : i = xs.length := by omega
      subst hi
      dsimp only
      rw [if_pos h2]
      exact ⟨σ, rfl, h⟩
    | some v =>
      have hlt := (List.getElem?_eq_some_iff.mp hv).1
      refine cps fun X_ k_ => ?_
      obtain ⟨σ1, σ2, e1, e2, h'⟩ := hstep i v σ hv h
      refine k_ ?_
      clear k_ X_
      dsimp only
      rw [e1]
      dsimp only
      rw [e2]
      match k, hk with
      | 0, hk => exact absurd hlt (by omega)
      | k + 1, hk => exact forL_inv I hl hstep k (i + 1) σ2 h' (by omega)
theorem for_list {st : AV → AM Unit} {mb : AM AF} {r : Nat} {xs : List AV} (I : Nat → AS → Prop) (hl : ∀ i σ, I i σ → σ.hp[r]? = some (.list xs) ∧ σ.hd = none)
    (hstep : ∀ i v σ, xs[i]? = some v → I i σ → ∃ σ1 σ2, st v σ = .ok () σ1 ∧ mb σ1 = .ok .next σ2 ∧ I (i + 1) σ2) {σ : AS} (h : I 0 σ) : ∃ σ', aFor st mb (.ref r) σ = .ok .next σ' ∧ I xs.length σ' := by
  obtain ⟨h1, h2⟩ := hl 0 σ h
  unfold aFor
  dsimp only
  rw [h1]
  exact forL_inv I hl hstep xs.length 0 σ h (by omega)
theorem forR_inv {st : AV → AM Unit} {mb : AM AF} (I : Nat → AS → Prop) {m : Nat} (hstep : ∀ i σ, i < m → I i σ → ∃ σ1 σ2, st (.int i) σ = .ok () σ1 ∧ mb σ1 = .ok .next σ2 ∧ I (i + 1) σ2) (hend : ∀ σ, I m σ → σ.hd = none) :
    ∀ k i σ, I i σ → i + k = m → ∃ σ', aForR st mb k (i : Nat) σ = .ok .next σ' ∧ I m σ'
  | 0, i, σ, h, hk => by
    have : i = m := by omega
    subst this
    unfold aForR
    rw [if_pos (hend σ h)]
    exact ⟨σ, rfl, h⟩
  | k + 1, i, σ, h, hk => by
    refine cps fun X_ k_ => ?_
    obtain ⟨σ1, σ2, e1, e2, h'⟩ := hstep i σ (by omega) h
    refine k_ ?_
    clear k_ X_
    unfold aForR
    rw [e1]
    dsimp only
    rw [e2]
    exact forR_inv I hstep hend k (i + 1) σ2 h' (by omega)
theorem for_range {st : AV → AM Unit} {mb : AM AF} {r : Nat} {n : Int} (I : Nat → AS → Prop) (hstep : ∀ i σ, i < n.toNat → I i σ → ∃ σ1 σ2, st (.int i) σ = .ok () σ1 ∧ mb σ1 = .ok .next σ2 ∧ I (i + 1) σ2) (hend : ∀ σ, I n.toNat σ → σ.hd = none)
    {σ : AS} (h1 : σ.hp[r]? = some (.range n)) (hs : small n = true) (h : I 0 σ) : ∃ σ', aFor st mb (.ref r) σ = .ok .next σ' ∧ I n.toNat σ' := by
  unfold aFor
  dsimp only
  rw [h1]
  dsimp only
  rw [if_pos hs]
  exact forR_inv I hstep hend n.toNat 0 σ h (by omega)

theorem app_list {hp : List AO} {V : HV} {f : Nat} {xs : List AV} (v : AV) (H : Holds hp ((f, .list xs) :: V)) (hx : xs.length < 1000000) :
    ∃ hp', (∀ loc cs hdd, bAppend [.ref f, v] ⟨loc, cs, hp, hdd⟩ = .ok .none ⟨loc, cs, hp', hdd⟩) ∧ Holds hp' ((f, .list (xs ++ [v])) :: V) := by
  have a : hp[f]? = _ := H.2 _ (.head _)
  exact ⟨_, append_e a hx, H.upd⟩
theorem nil_e {loc cs hp hdd} : aList [] ⟨loc, cs, hp, hdd⟩ = .ok (.ref hp.length) ⟨loc, cs, hp ++ [.list []], hdd⟩ := rfl
theorem usub_e (a : Int) (σ : AS) : aUn UnaryOp.USub (.int a) σ = .ok (.int (-a)) σ := rfl
section
variable {L : Lay} {s : PS} {F : HV}
/-- a variable that was closed -/
noncomputable def clV (o : Op) (v : Int) : HV := [(o.u, .inst 115 o.d), (o.d, .dict (upDict .none (.int (-1)) (.int v)))]
noncomputable def clsV (st : List Int) (ops : List Op) : HV := ops.flatMap fun o => clV o (st.getD o.idx.toNat 0)
theorem close_ok (hG : Known G) {hp : List AO} {hdd} (o : Op) (H : Holds hp (Wd L s ++ (opV L o ++ F))) (g : Good L s) (h0 : 0 ≤ o.idx ∧ o.idx < 8) :
    ∃ v hp', (∀ loc cs, aFn ["self"] (d_112 hG).1 [.ref o.u] ⟨loc, cs, hp, hdd⟩ = .ok v ⟨loc, cs, hp', hdd⟩) ∧ v = .none ∧ Holds hp' (Wd L s ++ (clV o (s.stack.getD o.idx.toNat 0) ++ F)) := by
  refine fn_of rfl ?_
  unfold d_112
  dsimp only [bindF]
  first | refine wp_end (by assumption) (by assumption) ?_ | refine wp_last ?_
  have m1 : hp[o.u]? = some (.inst 115 o.d) := H.2 (o.u, _) (List.mem_append_right _ (.head _))
  have m2 : hp[o.d]? = some (.dict (upDict (.ref L.h) (.int o.idx) .none)) := H.2 (o.d, _) (List.mem_append_right _ (.tail _ (.head _)))
  have u1 := aGet_ok hG (name := "index") m1 m2 rfl rfl (by decide)
  have u2 := aGet_ok hG (name := "thread") m1 m2 rfl rfl (by decide)
  have u3 := get_stack H g h0.1 (by omega)
  have r := rds hG H
  refine cps fun X_ k_ => ?_
  obtain ⟨hp1, e1, H1⟩ :=  put_att hG (F := Wd L s ++ F) (i := o.u) (d := o.d) (C := 115) (es := upDict (.ref L.h) (.int o.idx) .none) "value" (.int (s.stack.getD o.idx.toNat 0)) (H.wk fun x => by simp +arith only [opV, List.count_cons, List.count_append, List.count_nil]) (by show 6 < 900; decide) (by decide)
  obtain ⟨hp2, e2, H2⟩ := put_att hG "thread" .none H1 (by show 6 < 900; decide) (by decide)
  obtain ⟨hp3, e3, H3⟩ := put_att hG "index" (.int (-1)) H2 (by show 6 < 900; decide) (by decide)
  refine k_ ?_
  clear k_ X_
  try refine wp_end (by assumption) (by assumption) ?_
  refine WP.ok (a := .next) (σ := ⟨_, [], hp3, hdd⟩) (by simp (decide := true) only [bind_ap, pure_ap, aCall, aMCall, aArgs, aLoc_e, aStore_e, setLoc_e, if_true, if_false, rbind_ok, rbind_exc, aTruth, aSeq, r, u1, u2, u3, isnt_ref, e1, e2, usub_e, e3]; rfl) ⟨rfl, ?_⟩
  refine H3.wk fun x => ?_
  show List.count x (Wd L s ++ (clV o (s.stack.getD o.idx.toNat 0) ++ F)) ≤ List.count x ((o.u, AO.inst 115 o.d) :: (o.d, AO.dict (upDict .none (.int (-1)) (.int (s.stack.getD o.idx.toNat 0)))) :: (Wd L s ++ F))
  simp +arith only [clV, List.count_cons, List.count_append, List.count_nil]
theorem isinst_e {hp : List AO} {i d : Nat} {C : Addr} {es : List (Str × AV)} {name : Str} (h1 : hp[i]? = some (.inst C d)) (h2 : hp[d]? = some (.dict es)) (h3 : aget name es = none) (loc cs hdd) : aIsInst C name (.ref i) ⟨loc, cs, hp, hdd⟩ = .ok () ⟨loc, cs, hp, hdd⟩ :=
  (onInst_e (σ := ⟨loc, cs, hp, hdd⟩) h1).trans ((if_pos rfl).trans ((onDict_e (σ := ⟨loc, cs, hp, hdd⟩) h2).trans (if_pos h3)))
theorem Good.tl {o : Op} {r : List Op} (g : Good L { s with ops := o :: r }) : Good L { s with ops := r } :=
  ⟨g.stack, (List.pairwise_cons.mp g.sorted).2, fun q hq => g.range q (.tail _ hq), g.top⟩
theorem Good.drop (g : Good L s) (n : Nat) : Good L { s with ops := s.ops.drop n } :=
  ⟨g.stack, g.sorted.sublist (List.drop_sublist _ _), fun q hq => g.range q (List.mem_of_mem_drop hq), g.top⟩
theorem pop_op {hp : List AO} {o : Op} {r : List Op} (H : Holds hp (Wd L { s with ops := o :: r } ++ F)) (hr : r.length < 9) :
    ∃ hp', (∀ loc cs hdd, bPop [.ref L.op, .int 0] ⟨loc, cs, hp, hdd⟩ = .ok (.ref o.u) ⟨loc, cs, hp', hdd⟩) ∧ Holds hp' (Wd L { s with ops := r } ++ (opV L o ++ F)) := by
  have a3 : hp[L.op]? = some (.list (AV.ref o.u :: r.map fun o => .ref o.u)) := H.2 _ (.tail _ (.tail _ (.tail _ (.head _))))
  refine ⟨_, pop0_e a3 (by rw [List.length_map]; omega), (H.setAt 3 rfl (.list (r.map fun o => .ref o.u))).wk fun x => ?_⟩
  · simp +arith only [Wd, W', opsV, List.flatMap_cons, List.cons_append, List.set, hdict, wmap, List.count_cons, List.count_append]
theorem take_closed_ok (hG : Known G) {hp : List AO} {hdd} (H : Holds hp (Wd L s ++ F)) (g : Good L s) (k : Int) :
    ∃ v hp', (∀ loc cs, aFn ["owner", "level"] (d_173 hG).1 [.ref L.h, .int k] ⟨loc, cs, hp, hdd⟩ = .ok v ⟨loc, cs, hp', hdd⟩) ∧ v = .ref hp.length ∧
      Holds hp' (Wd L { s with ops := s.ops.drop (spotN (k - 1) s.ops) } ++ ((hp.length, .list ((s.ops.take (spotN (k - 1) s.ops)).map fun o => .ref o.u)) :: (clsV s.stack (s.ops.take (spotN (k - 1) s.ops)) ++ F))) := by
  refine fn_of rfl ?_
  unfold d_173
  dsimp only [bindF]
  have hl := ops_len (k := 8) g.sorted g.range
  have hm := spotN_le (k := k - 1) (ops := s.ops)
  have H0 : Holds (hp ++ [.list []]) (Wd L s ++ ((hp.length, .list []) :: (clsV s.stack [] ++ F))) := (H.alloc (.list [])).wk fun x => by simp +arith only [clsV, List.flatMap_nil, List.count_cons, List.count_append, List.count_nil]
  try (refine wp_hide fun l_ => ?_; repeat intro _)
  refine wp_next (by assumption) (by assumption) (σ' := ⟨_, [], hp ++ [.list []], hdd⟩) (by simp (decide := true) only [bind_ap, pure_ap, aCall, aMCall, aArgs, aLoc_e, aStore_e, setLoc_e, if_true, if_false, rbind_ok, rbind_exc, aTruth, nil_e]; rfl) ?_
  generalize hp.length = f at H0 ⊢
  generalize hp ++ [AO.list []] = hp0 at H0 ⊢
  try (refine wp_hide fun l_ => ?_; repeat intro _)
  refine wp_inv (by assumption) (by assumption) (while_inv
    (I := fun n σ => ∃ i hp loc, σ = ⟨loc, [], hp, hdd⟩ ∧ i + n = spotN (k - 1) s.ops ∧ loc "owner" = some (.ref L.h) ∧ loc "level" = some (.int k) ∧ loc "found" = some (.ref f) ∧
      Holds hp (Wd L { s with ops := s.ops.drop i } ++ ((f, .list ((s.ops.take i).map fun o => .ref o.u)) :: (clsV s.stack (s.ops.take i) ++ F))))
    (J := fun σ => ∃ hp loc, σ = ⟨loc, [], hp, hdd⟩ ∧ loc "found" = some (.ref f) ∧
      Holds hp (Wd L { s with ops := s.ops.drop (spotN (k - 1) s.ops) } ++ ((f, .list ((s.ops.take (spotN (k - 1) s.ops)).map fun o => .ref o.u)) :: (clsV s.stack (s.ops.take (spotN (k - 1) s.ops)) ++ F))))
    ?hs ?he (spotN (k - 1) s.ops) 2000 ⟨setLoc "found" (.ref f) (setLoc "level" (.int k) (setLoc "owner" (.ref L.h) noLoc)), [], hp0, hdd⟩ ⟨0, hp0, _, rfl, by omega, rfl, rfl, rfl, H0⟩ (by omega)) ?_
  rotate_left 2
  · intro σ' h_1
    refine cps fun X_ k_ => ?_
    obtain ⟨hp', loc, rfl, l1, H'⟩ := h_1
    refine k_ ?_
    clear k_ X_
    try refine wp_end (by assumption) (by assumption) ?_
    refine WP.ok (a := .ret (.ref f)) (σ := ⟨_, [], hp', hdd⟩) (by simp (decide := true) only [bind_ap, pure_ap, aCall, aMCall, aArgs, aLoc_e, aStore_e, setLoc_e, if_true, if_false, rbind_ok, rbind_exc, aTruth, aSeq, l1]; rfl) ⟨rfl, H'⟩
  case hs =>
    intro n σ h_2
    refine cps fun X_ k_ => ?_
    obtain ⟨i, hp1, loc, rfl, hi, l1, l2, l3, H1⟩ := h_2
    refine k_ ?_
    clear k_ X_
    have hlt : i < s.ops.length := by omega
    have hk := spotN_get (k := k - 1) (ops := s.ops) (i := i) (by omega) (List.getElem?_eq_getElem hlt)
    have g1 := g.drop (L := L) i
    have ed := List.drop_eq_getElem_cons hlt
    have r0 := g.range _ (List.getElem_mem hlt)
    have et : s.ops.take (i + 1) = s.ops.take i ++ [s.ops[i]] := by rw [List.take_append_getElem]
    rw [ed] at g1 H1
    generalize s.ops[i] = o at *
    generalize er : s.ops.drop (i + 1) = r at *
    have hr : r.length < 9 := by have := ops_len (k := 8) g1.sorted g1.range; simp at this; omega
    refine cps fun X_ k_ => ?_
    obtain ⟨hp2, e2, H2⟩ := pop_op H1 hr
    obtain ⟨v, hp3, e3, rfl, H3⟩ := close_ok hG (hdd := hdd) o H2 g1.tl r0
    obtain ⟨hp4, e4, H4⟩ := app_list (.ref o.u) (f := f) (xs := (s.ops.take i).map fun o => .ref o.u) (V := Wd L { s with ops := r } ++ (clV o (s.stack.getD o.idx.toNat 0) ++ (clsV s.stack (s.ops.take i) ++ F))) (H3.wkr (fun _ h => by exact re_of (.app (.app (.cons (.app .last)))) [2, 0, 1, 3, 4] rfl (by decide) h)) (by rw [List.length_map, List.length_take]; omega)
    refine k_ ?_
    clear k_ X_
    have m1 : hp2[o.u]? = some (.inst 115 o.d) := H2.2 (o.u, _) (List.mem_append_right _ (.head _))
    have m2 : hp2[o.d]? = some (.dict (upDict (.ref L.h) (.int o.idx) .none)) := H2.2 (o.d, _) (List.mem_append_right _ (.tail _ (.head _)))
    have m3 : hp3[f]? = _ := H3.2 (f, _) (List.mem_append_right _ (.tail _ (.tail _ (.head _))))
    have z1 : decide ((0 : Int) < ((o :: r).length : Nat)) = true := by simp <;> omega
    have z2 : decide (k ≤ o.idx) = true := decide_eq_true (by omega)
    refine ⟨⟨loc, [], hp1, hdd⟩, ⟨setLoc "upval" (.ref o.u) loc, [], hp4, hdd⟩, ?_, ?_, i + 1, hp4, _, rfl, by omega, ?_, ?_, ?_, ?_⟩
    · have og := op_get H1 g1 (n := 0) (o := o) rfl
      simp only [Int.natCast_zero, Int.cast_ofNat_Int] at og
      simp (decide := true) only [bind_ap, pure_ap, aCall, aMCall, aArgs, aLoc_e, aStore_e, setLoc_e, if_true, if_false, rbind_ok, rbind_exc, aTruth, aAnd, l1, l2, l3, rds hG H1, len_ops H1 g1, gt_e, ge_e, z1, og, op_index hG H1 (o := o) (.head _), z2]
    · simp (decide := true) only [bind_ap, pure_ap, aCall, aMCall, aArgs, aLoc_e, aStore_e, setLoc_e, if_true, if_false, rbind_ok, rbind_exc, aTruth, aSeq, l1, l2, l3, rds hG H1, e2, isinst_e (name := "close") m1 m2 rfl, e3, isl_e m3, e4]
    · simp (decide := true) only [setLoc_e, if_false, l1]
    · simp (decide := true) only [setLoc_e, if_false, l2]
    · simp (decide := true) only [setLoc_e, if_false, l3]
    · rw [et, er]
      refine H4.wk fun x => ?_
      simp +arith only [clsV, List.map_append, List.map_cons, List.map_nil, List.flatMap_append, List.flatMap_cons, List.flatMap_nil, List.count_cons, List.count_append, List.count_nil]
  case he =>
    intro σ h_3
    refine cps fun X_ k_ => ?_
    obtain ⟨i, hp1, loc, rfl, hi, l1, l2, l3, H1⟩ := h_3
    refine k_ ?_
    clear k_ X_
    have hi : i = spotN (k - 1) s.ops := by omega
    subst hi
    have g1 := g.drop (L := L) (spotN (k - 1) s.ops)
    refine ⟨_, ?_, hp1, loc, rfl, l3, H1⟩
    cases ho : s.ops[spotN (k - 1) s.ops]? with
    | none =>
      have z := List.getElem?_eq_none_iff.mp ho
      have z1 : decide ((0 : Int) < ((s.ops.drop (spotN (k - 1) s.ops)).length : Nat)) = false := by simp; omega
      simp (decide := true) only [bind_ap, pure_ap, aCall, aMCall, aArgs, aLoc_e, aStore_e, setLoc_e, if_true, if_false, rbind_ok, rbind_exc, aTruth, aAnd, l1, l2, l3, rds hG H1, len_ops H1 g1, gt_e, z1]
    | some o =>
      have hk := spotN_stop ho
      obtain ⟨hlt, he⟩ := List.getElem?_eq_some_iff.mp ho
      have z1 : decide ((0 : Int) < ((s.ops.drop (spotN (k - 1) s.ops)).length : Nat)) = true := by simp; omega
      have z2 : decide (k ≤ o.idx) = false := decide_eq_false (by omega)
      have og := op_get H1 g1 (n := 0) (o := o) (by show (s.ops.drop (spotN (k - 1) s.ops))[0]? = some o; rw [List.getElem?_drop]; exact ho)
      simp only [Int.natCast_zero, Int.cast_ofNat_Int] at og
      have om : o ∈ s.ops.drop (spotN (k - 1) s.ops) := by rw [List.drop_eq_getElem_cons hlt, he]; exact .head _
      simp (decide := true) only [bind_ap, pure_ap, aCall, aMCall, aArgs, aLoc_e, aStore_e, setLoc_e, if_true, if_false, rbind_ok, rbind_exc, aTruth, aAnd, l1, l2, l3, rds hG H1, len_ops H1 g1, gt_e, ge_e, z1, og, op_index hG H1 om, z2]
end
end Mine

open PySem PySem.W PyProof.Rows PySem.Calls
set_option Elab.async false
set_option maxRecDepth 100000
set_option maxHeartbeats 1000000
set_option linter.unusedVariables false
set_option linter.unusedSimpArgs false
namespace Mine
variable {G : Gd}
theorem isb_int (x : Int) (σ : AS) : bIsBytes [.int x, .type "bytes"] σ = .ok (.bool false) σ := if_pos rfl
theorem isb_bytes (x) (σ : AS) : bIsBytes [.bytes x, .type "bytes"] σ = .ok (.bool true) σ := if_pos rfl

section
variable {L : Lay} {s : PS} {F : HV}
theorem taken_back_ok (hG : Known G) {hp : List AO} {hdd} (H : Holds hp (Wd L s ++ F)) (g : Good L s) (hl : s.frames.length < 1000) (d : Nat) (hd : d ≤ s.frames.length) (c h k : Int) :
    ∃ v hp', (∀ loc cs, aFn ["holder", "depth", "ccalls", "handling", "top"] (d_194 hG).1 [.ref L.h, .int d, .int c, .int h, .int k] ⟨loc, cs, hp, hdd⟩ = .ok v ⟨loc, cs, hp', hdd⟩) ∧ v = .ref hp.length ∧
      Holds hp' (Wd L { s with frames := s.frames.take d, ccalls := c, handling := h, top := k, ops := s.ops.drop (spotN (k - 1) s.ops) } ++ ((hp.length, .list ((s.ops.take (spotN (k - 1) s.ops)).map fun o => .ref o.u)) :: (clsV s.stack (s.ops.take (spotN (k - 1) s.ops)) ++ F))) := by
  refine fn_of rfl ?_
  unfold d_194
  dsimp only [bindF]
  refine cps fun X_ k_ => ?_
  obtain ⟨v, hp1, e1, rfl, H1⟩ := take_closed_ok hG (hdd := hdd) H g k
  obtain ⟨v, hp2, e2, rfl, H2⟩ := unwound_ok hG (hdd := hdd) H1 hl d hd
  obtain ⟨hp3, e3, H3⟩ := set_ccalls hG H2 c
  obtain ⟨hp4, e4, H4⟩ := set_handling hG H3 h
  obtain ⟨hp5, e5, H5⟩ := set_top hG H4 k
  refine k_ ?_
  clear k_ X_
  try refine wp_end (by assumption) (by assumption) ?_
  exact WP.ok (a := .ret (.ref hp.length)) (σ := ⟨_, [], hp5, hdd⟩) (by simp (decide := true) only [bind_ap, pure_ap, aCall, aMCall, aArgs, aLoc_e, aStore_e, setLoc_e, if_true, if_false, rbind_ok, rbind_exc, aTruth, aSeq, e1, rds hG H1, e2, e3, e4, e5]; rfl) ⟨rfl, H5⟩
end

theorem is_open_ok (hG : Known G) {hp : List AO} {u d : Nat} {th ix v : AV} {b : Bool} (h1 : hp[u]? = some (.inst 115 d)) (h2 : hp[d]? = some (.dict (upDict th ix v))) (hb : th = .none ∧ b = false ∨ (∃ r, th = .ref r) ∧ b = true) (loc cs hdd) :
    aProp 115 (aFn ["self"] (d_90 hG).1) (.ref u) ⟨loc, cs, hp, hdd⟩ = .ok (.bool b) ⟨loc, cs, hp, hdd⟩ := by
  have fin : ∃ v hp', (∀ loc cs, aFn ["self"] (d_90 hG).1 [.ref u] ⟨loc, cs, hp, hdd⟩ = .ok v ⟨loc, cs, hp', hdd⟩) ∧ v = .bool b ∧ hp' = hp := by
    refine fn_of rfl ?_
    unfold d_90
    dsimp only [bindF]
    first | refine wp_end (by assumption) (by assumption) ?_ | refine wp_last ?_
    refine cps fun X_ k_ => ?_
    rcases hb with ⟨rfl, rfl⟩ | ⟨⟨r, rfl⟩, rfl⟩
    all_goals refine k_ ?_
    all_goals clear k_ X_
    · have u2 := aGet_ok hG (name := "thread") h1 h2 rfl rfl (by decide)
      try refine wp_end (by assumption) (by assumption) ?_
      exact WP.ok (a := .ret (.bool false)) (σ := ⟨_, [], hp, hdd⟩) (by simp (decide := true) only [bind_ap, pure_ap, aCall, aMCall, aArgs, aLoc_e, aStore_e, setLoc_e, if_true, if_false, rbind_ok, rbind_exc, aTruth, aSeq, u2, isnt_none]; rfl) ⟨rfl, rfl⟩
    · have u2 := aGet_ok hG (name := "thread") h1 h2 rfl rfl (by decide)
      try refine wp_end (by assumption) (by assumption) ?_
      exact WP.ok (a := .ret (.bool true)) (σ := ⟨_, [], hp, hdd⟩) (by simp (decide := true) only [bind_ap, pure_ap, aCall, aMCall, aArgs, aLoc_e, aStore_e, setLoc_e, if_true, if_false, rbind_ok, rbind_exc, aTruth, aSeq, u2, isnt_ref]; rfl) ⟨rfl, rfl⟩
  refine cps fun X_ k_ => ?_
  obtain ⟨v, hp', e, rfl, rfl⟩ := fin
  refine k_ ?_
  clear k_ X_
  refine (onInst_e (σ := ⟨loc, cs, _, hdd⟩) h1).trans ?_
  refine (if_pos rfl).trans ?_
  refine (onDict_e (σ := ⟨loc, cs, _, hdd⟩) h2).trans ?_
  rw [e]
  rfl
theorem get_closed_ok (hG : Known G) {hp : List AO} {u d : Nat} {ix : AV} {v : Int} (h1 : hp[u]? = some (.inst 115 d)) (h2 : hp[d]? = some (.dict (upDict .none ix (.int v)))) (loc cs hdd) :
    aFn ["self"] (d_98 hG).1 [.ref u] ⟨loc, cs, hp, hdd⟩ = .ok (.int v) ⟨loc, cs, hp, hdd⟩ := by
  have fin : ∃ w hp', (∀ loc cs, aFn ["self"] (d_98 hG).1 [.ref u] ⟨loc, cs, hp, hdd⟩ = .ok w ⟨loc, cs, hp', hdd⟩) ∧ w = .int v ∧ hp' = hp := by
    refine fn_of rfl ?_
    unfold d_98
    dsimp only [bindF]
    have u2 := aGet_ok hG (name := "thread") h1 h2 rfl rfl (by decide)
    have u3 := aGet_ok hG (name := "value") h1 h2 rfl rfl (by decide)
    try refine wp_end (by assumption) (by assumption) ?_
    exact WP.ok (a := .ret (.int v)) (σ := ⟨_, [], hp, hdd⟩) (by simp (decide := true) only [bind_ap, pure_ap, aCall, aMCall, aArgs, aLoc_e, aStore_e, setLoc_e, if_true, if_false, rbind_ok, rbind_exc, aTruth, aSeq, u2, u3, isn_none]; rfl) ⟨rfl, rfl⟩
  refine cps fun X_ k_ => ?_
  obtain ⟨v, hp', e, rfl, rfl⟩ := fin
  refine k_ ?_
  clear k_ X_
  exact e loc cs
theorem get_open_ok (hG : Known G) {L : Lay} {s : PS} {F : HV} {hp : List AO} (H : Holds hp (Wd L s ++ F)) (g : Good L s) {u d : Nat} {ix : Int} {v : AV} (h0 : 0 ≤ ix ∧ ix < 8) (h1 : hp[u]? = some (.inst 115 d)) (h2 : hp[d]? = some (.dict (upDict (.ref L.h) (.int ix) v))) (loc cs hdd) :
    aFn ["self"] (d_98 hG).1 [.ref u] ⟨loc, cs, hp, hdd⟩ = .ok (.int (s.stack.getD ix.toNat 0)) ⟨loc, cs, hp, hdd⟩ := by
  have fin : ∃ w hp', (∀ loc cs, aFn ["self"] (d_98 hG).1 [.ref u] ⟨loc, cs, hp, hdd⟩ = .ok w ⟨loc, cs, hp', hdd⟩) ∧ w = .int (s.stack.getD ix.toNat 0) ∧ hp' = hp := by
    refine fn_of rfl ?_
    unfold d_98
    dsimp only [bindF]
    have u2 := aGet_ok hG (name := "thread") h1 h2 rfl rfl (by decide)
    have u3 := aGet_ok hG (name := "index") h1 h2 rfl rfl (by decide)
    have u4 := get_stack H g h0.1 (by omega)
    try refine wp_end (by assumption) (by assumption) ?_
    exact WP.ok (a := .ret (.int (s.stack.getD ix.toNat 0))) (σ := ⟨_, [], hp, hdd⟩) (by simp (decide := true) only [bind_ap, pure_ap, aCall, aMCall, aArgs, aLoc_e, aStore_e, setLoc_e, if_true, if_false, rbind_ok, rbind_exc, aTruth, aSeq, u2, u3, isn_ref, rds hG H, u4]; rfl) ⟨rfl, rfl⟩
  refine cps fun X_ k_ => ?_
  obtain ⟨v, hp', e, rfl, rfl⟩ := fin
  refine k_ ?_
  clear k_ X_
  exact e loc cs

-- errors
noncomputable def excD (v : AV) (t : Nat) : List (Str × AV) := [("value", v), ("trace", .ref t)]
theorem make_exc (hG : Known G) {hp : List AO} {V : HV} {hdd} (v : AV) (H : Holds hp V) :
    ∃ hp' d t, (∀ loc cs, aExc 45 (aFn ["self", "value"] (d_42 hG).1) [v] ⟨loc, cs, hp, hdd⟩ = .ok (.ref hp.length) ⟨loc, cs, hp', hdd⟩) ∧ Holds hp' ((hp.length, AO.exc 45 (some d) true true) :: (d, AO.dict (excD v t)) :: V) := by
  have H1 := H.alloc (AO.exc 45 none true true)
  have H2 := (H1.upd (o' := AO.exc 45 (some (hp ++ [AO.exc 45 none true true]).length) true true)).alloc (AO.dict [("value", v)])
  rw [List.length_set] at H2
  have H3 := H2.alloc (AO.list [])
  have a1 : (hp ++ [AO.exc 45 none true true])[hp.length]? = _ := H1.2 _ (.head _)
  have a2 := H3.2 _ (.tail _ (.tail _ (.head _)))
  have a3 := H3.2 _ (.tail _ (.head _))
  have H4 := H3.setAt 1 rfl (AO.dict (aput "trace" (.ref (((hp ++ [AO.exc 45 none true true]).set hp.length (AO.exc 45 (some (hp ++ [AO.exc 45 none true true]).length) true true)) ++ [AO.dict [("value", v)]]).length) [("value", v)]))
  have fin : ∃ w hp', (∀ loc cs, aFn ["self", "value"] (d_42 hG).1 [.ref hp.length, v] ⟨loc, cs, hp ++ [AO.exc 45 none true true], hdd⟩ = .ok w ⟨loc, cs, hp', hdd⟩) ∧ w = .none ∧ ∃ d t, Holds hp' ((hp.length, AO.exc 45 (some d) true true) :: (d, AO.dict (excD v t)) :: V) := by
    refine fn_of rfl ?_
    unfold d_42
    dsimp only [bindF]
    have e1 : ∀ loc cs hdd, xSet 45 (.ref hp.length) "value" v ⟨loc, cs, hp ++ [AO.exc 45 none true true], hdd⟩ = .ok () ⟨loc, cs, (hp ++ [AO.exc 45 none true true]).set hp.length (AO.exc 45 (some (hp ++ [AO.exc 45 none true true]).length) true true) ++ [AO.dict [("value", v)]], hdd⟩ := fun loc cs hdd => by
      exact (onExc_e (σ := ⟨loc, cs, hp ++ [AO.exc 45 none true true], hdd⟩) a1).trans (if_pos rfl)
    try (refine wp_hide fun l_ => ?_; repeat intro _)
    refine wp_next (by assumption) (by assumption) (σ' := ⟨setLoc "value" v (setLoc "self" (.ref hp.length) noLoc), [], _, hdd⟩) (by simp (decide := true) only [bind_ap, pure_ap, aCall, aMCall, aArgs, aLoc_e, aStore_e, setLoc_e, if_true, if_false, rbind_ok, rbind_exc, aTruth, e1]; rfl) ?_
    generalize hp ++ [AO.exc 45 none true true] = hp1 at H3 H4 a2 a3 ⊢
    generalize hp1.set hp.length (AO.exc 45 (some hp1.length) true true) ++ [AO.dict [("value", v)]] = hp2 at H3 H4 a2 a3 ⊢
    have e2 : ∀ loc cs hdd, xSet 45 (.ref hp.length) "trace" (.ref hp2.length) ⟨loc, cs, hp2 ++ [AO.list []], hdd⟩ = .ok () ⟨loc, cs, (hp2 ++ [AO.list []]).set hp1.length (AO.dict (aput "trace" (.ref hp2.length) [("value", v)])), hdd⟩ := fun loc cs hdd => by
      exact (onExc_e (σ := ⟨loc, cs, hp2 ++ [AO.list []], hdd⟩) a2).trans ((if_pos rfl).trans ((onDict_e (σ := ⟨loc, cs, hp2 ++ [AO.list []], hdd⟩) a3).trans (if_pos (show [((Str.ofString "value", v) : Str × AV)].length < 900 from (by decide : 1 < 900)))))
    try refine wp_end (by assumption) (by assumption) ?_
    refine WP.ok (a := .next) (σ := ⟨_, [], _, hdd⟩) (by simp (decide := true) only [bind_ap, pure_ap, aCall, aMCall, aArgs, aLoc_e, aStore_e, setLoc_e, if_true, if_false, rbind_ok, rbind_exc, aTruth, aSeq, nil_e, e2]; rfl) ⟨rfl, hp1.length, hp2.length, ?_⟩
    refine H4.wk fun x => ?_
    simp only [List.set]
    show List.count x ((hp.length, AO.exc 45 (some hp1.length) true true) :: (hp1.length, AO.dict (excD v hp2.length)) :: V) ≤ List.count x ((hp2.length, _) :: (hp1.length, AO.dict (excD v hp2.length)) :: (hp.length, AO.exc 45 (some hp1.length) true true) :: V)
    simp +arith only [List.count_cons]
  refine cps fun X_ k_ => ?_
  obtain ⟨w, hp', e, rfl, d, t, H'⟩ := fin
  refine k_ ?_
  clear k_ X_
  refine ⟨hp', d, t, fun loc cs => ?_, H'⟩
  unfold aExc
  rw [if_pos (by show 1 < 1000; decide)]
  dsimp only
  rw [e]
theorem raise_none {hp : List AO} {V : HV} {x : Nat} {d : Option Nat} {cl : Bool} (H : Holds hp ((x, .exc 45 d cl true) :: V)) :
    ∃ hp', (∀ loc cs, aRaise 45 (.ref x) ⟨loc, cs, hp, none⟩ = .exc x ⟨loc, cs, hp', none⟩) ∧ Holds hp' ((x, .exc 45 d cl false) :: V) := by
  have a : hp[x]? = _ := H.2 _ (.head _)
  refine ⟨_, fun loc cs => ?_, H.upd⟩
  exact (onExc_e (σ := ⟨loc, cs, hp, none⟩) a).trans (if_pos ⟨rfl, rfl⟩)
theorem raise_some {hp : List AO} {V : HV} {x j : Nat} {d : Option Nat} {cl : Bool} {c' d' f'} (H : Holds hp ((x, .exc 45 d cl true) :: V)) (hj : (j, AO.exc c' d' true f') ∈ V) :
    ∃ hp', (∀ loc cs, aRaise 45 (.ref x) ⟨loc, cs, hp, some j⟩ = .exc x ⟨loc, cs, hp', some j⟩) ∧ Holds hp' ((x, .exc 45 d false false) :: V) := by
  have a : hp[x]? = _ := H.2 _ (.head _)
  have b : hp[j]? = _ := H.2 _ (.tail _ hj)
  have ne : ¬ j = x := fun e => (List.nodup_cons.mp H.1).1 (by show x ∈ _; rw [← e]; exact List.mem_map_of_mem hj)
  refine ⟨_, fun loc cs => ?_, H.upd⟩
  exact (onExc_e (σ := ⟨loc, cs, hp, some j⟩) a).trans ((if_pos ⟨rfl, rfl⟩).trans ((if_pos ne).trans ((onExc_e (σ := ⟨loc, cs, hp, some j⟩) b).trans (if_pos rfl))))
theorem exc_value {hp : List AO} {x d t : Nat} {v : AV} {cl fs : Bool} (h1 : hp[x]? = some (.exc 45 (some d) cl fs)) (h2 : hp[d]? = some (.dict (excD v t))) (hv : plainV v = true) (loc cs hdd) : xGet 45 "value" (.ref x) ⟨loc, cs, hp, hdd⟩ = .ok v ⟨loc, cs, hp, hdd⟩ := by
  refine (onExc_e (σ := ⟨loc, cs, hp, hdd⟩) h1).trans ?_
  refine (onOpt_e (x := d) rfl).trans ?_
  refine (if_pos rfl).trans ?_
  refine (onDict_e (σ := ⟨loc, cs, hp, hdd⟩) h2).trans ?_
  exact (onOpt_e (x := v) rfl).trans (if_pos hv)

-- values
noncomputable def isVal : AV → Bool
  | .int _ => true
  | .bytes _ => true
  | _ => false
noncomputable def moreP : AV → Int → AV
  | .bytes _, m => .int (5000 + m)
  | .int x, m => .int (x + m)
  | v, _ => v
theorem isVal_more {v : AV} {m : Int} (h : isVal v = true) : isVal (moreP v m) = true := by cases v <;> first | rfl | cases h
theorem isVal_plain {v : AV} (h : isVal v = true) : plainV v = true := by cases v <;> first | rfl | cases h
theorem more_ok (hG : Known G) {hp : List AO} {v : AV} (hv : isVal v = true) (m : Int) (loc cs hdd) : aFn ["value", "more"] (d_213 hG).1 [v, .int m] ⟨loc, cs, hp, hdd⟩ = .ok (moreP v m) ⟨loc, cs, hp, hdd⟩ := by
  have fin : ∃ w hp', (∀ loc cs, aFn ["value", "more"] (d_213 hG).1 [v, .int m] ⟨loc, cs, hp, hdd⟩ = .ok w ⟨loc, cs, hp', hdd⟩) ∧ w = moreP v m ∧ hp' = hp := by
    refine fn_of rfl ?_
    unfold d_213
    dsimp only [bindF]
    first | refine wp_end (by assumption) (by assumption) ?_ | refine wp_last ?_
    cases v with
    | int x => exact WP.ok (a := .ret (.int (x + m))) (σ := ⟨_, [], hp, hdd⟩) (by simp (decide := true) only [bind_ap, pure_ap, aCall, aMCall, aArgs, aLoc_e, aStore_e, setLoc_e, if_true, if_false, rbind_ok, rbind_exc, aTruth, aSeq, isb_int, isb_bytes, add_e]; rfl) ⟨rfl, rfl⟩
    | bytes x => exact WP.ok (a := .ret (.int (5000 + m))) (σ := ⟨_, [], hp, hdd⟩) (by simp (decide := true) only [bind_ap, pure_ap, aCall, aMCall, aArgs, aLoc_e, aStore_e, setLoc_e, if_true, if_false, rbind_ok, rbind_exc, aTruth, aSeq, isb_int, isb_bytes, add_e]; rfl) ⟨rfl, rfl⟩
    | _ => cases hv
  refine cps fun X_ k_ => ?_
  obtain ⟨v, hp', e, rfl, rfl⟩ := fin
  refine k_ ?_
  clear k_ X_
  exact e loc cs
end Mine

open PySem PySem.W PyProof.Rows PySem.Calls
set_option Elab.async false
set_option maxRecDepth 100000
set_option maxHeartbeats 1000000
set_option linter.unusedVariables false
set_option linter.unusedSimpArgs false
namespace Mine
variable {G : Gd}

/-- the told text -/
noncomputable def eie : AV := .bytes #[101, 114, 114, 111, 114, 32, 105, 110, 32, 101, 114, 114, 111, 114, 32, 104, 97, 110, 100, 108, 105, 110, 103]
/-- what answers an error: so many turns are left, so many calls raise yet -/
noncomputable def answ : Nat → Int → AV → Int → Int → Int → AV × List (List AV)
  | 0, _, _, _, _, _ => (eie, [])
  | m + 1, n, v, deep, many, hg =>
    if 0 ≤ n - 1 then ((answ m (n - 1) (moreP v 1) (deep + 1) many (hg + 1)).1, [.str "asked", v, .int deep, .int many, .int (hg + 1)] :: (answ m (n - 1) (moreP v 1) (deep + 1) many (hg + 1)).2)
    else (moreP v 1000, [[.str "asked", v, .int deep, .int many, .int (hg + 1)]])
theorem answ_len : ∀ (m : Nat) (n : Int) (v : AV) (deep many hg : Int), (answ m n v deep many hg).2.length ≤ m
  | 0, _, _, _, _, _ => Nat.zero_le _
  | m + 1, n, v, deep, many, hg => by
    unfold answ
    split
    · simp only [List.length_cons]
      have := answ_len m (n - 1) (moreP v 1) (deep + 1) many (hg + 1)
      omega
    · simp
theorem answ_val : ∀ (m : Nat) (n : Int) (v : AV) (deep many hg : Int), isVal v = true → isVal (answ m n v deep many hg).1 = true
  | 0, _, _, _, _, _, _ => rfl
  | m + 1, n, v, deep, many, hg, h => by
    unfold answ
    split
    · exact answ_val m _ _ _ _ _ (isVal_more h)
    · exact isVal_more h

section
variable {L : Lay} {s : PS} {F : HV}
theorem item_list {hp : List AO} {r : Nat} {xs : List AV} {k : Nat} {x : AV} (h : hp[r]? = some (.list xs)) (hx : xs[k]? = some x) (hl : xs.length < 1000000) (loc cs hdd) : aItem (.ref r) (.int k) ⟨loc, cs, hp, hdd⟩ = .ok x ⟨loc, cs, hp, hdd⟩ :=
  item_l h (Int.natCast_nonneg k) (by rw [Int.toNat_natCast]; exact hx) hl _ _ _
theorem item_tuple {hp : List AO} {r : Nat} {xs : List AV} {k : Nat} {x : AV} (h : hp[r]? = some (.tuple xs)) (hx : xs[k]? = some x) (hl : xs.length < 1000000) (loc cs hdd) : aItem (.ref r) (.int k) ⟨loc, cs, hp, hdd⟩ = .ok x ⟨loc, cs, hp, hdd⟩ :=
  item_t h (Int.natCast_nonneg k) (by rw [Int.toNat_natCast]; exact hx) hl _ _ _
theorem set1 {hp : List AO} {V : HV} {r : Nat} {x : AV} (y : AV) (H : Holds hp ((r, .list [x]) :: V)) : ∃ hp', (∀ loc cs hdd, aSetItem (.ref r) (.int 0) y ⟨loc, cs, hp, hdd⟩ = .ok () ⟨loc, cs, hp', hdd⟩) ∧ Holds hp' ((r, .list [y]) :: V) := by
  have a : hp[r]? = _ := H.2 _ (.head _)
  exact ⟨_, setitem_l a (by decide) ⟨by show 0 < 1; decide, by show 1 < 1000000; decide⟩, H.upd⟩

noncomputable abbrev note (s : PS) (v : AV) : List AV := [.str "asked", v, .int s.ccalls, .int s.frames.length, .int s.handling]
theorem replied_ok (hG : Known G) {hp : List AO} {t : Nat} {n : Int} {j dj : Nat} {fj : Bool} {v : AV} (hv : isVal v = true) (H : Holds hp (Wd L s ++ ((t, .list [.int n]) :: F))) (hf : s.frames.length < 1000) (hn : s.notes.length < 900000) (hj : (j, AO.exc 45 (some dj) true fj) ∈ F) :
    if 0 ≤ n - 1 then ∃ x hp', (∀ loc cs, aFn ["world", "times", "holder", "value"] (d_220 hG).1 [.ref L.w, .ref t, .ref L.h, v] ⟨loc, cs, hp, some j⟩ = .exc x ⟨loc, cs, hp', some j⟩) ∧
        ∃ q d tr, Holds hp' (Wd L { s with notes := s.notes ++ [(q, note s v)] } ++ ((t, .list [.int (n - 1)]) :: (x, .exc 45 (some d) false false) :: (d, .dict (excD (moreP v 1) tr)) :: F))
    else ∃ w hp', (∀ loc cs, aFn ["world", "times", "holder", "value"] (d_220 hG).1 [.ref L.w, .ref t, .ref L.h, v] ⟨loc, cs, hp, some j⟩ = .ok w ⟨loc, cs, hp', some j⟩) ∧ w = moreP v 1000 ∧
        ∃ q, Holds hp' (Wd L { s with notes := s.notes ++ [(q, note s v)] } ++ ((t, .list [.int (n - 1)]) :: F)) := by
  refine cps fun X_ k_ => ?_
  obtain ⟨hp1, e1, e2, H1⟩ := app_nt H hn [.str "asked", v, .int s.ccalls, .int s.frames.length, .int s.handling] (by show 5 < 1000000; decide)
  obtain ⟨hp2, e3, H2⟩ := set1 (r := t) (x := .int n) (.int (n - 1)) (V := Wd L { s with notes := s.notes ++ [(hp.length, note s v)] } ++ F) (H1.wkr (fun _ h => by exact re_of (.app (.cons .last)) [1, 0, 2] rfl (by decide) h))
  refine k_ ?_
  clear k_ X_
  have a1 : hp1[t]? = some (.list [.int n]) := H1.2 (t, _) (List.mem_append_right _ (.head _))
  have a2 : hp2[t]? = some (.list [.int (n - 1)]) := H2.2 (t, _) (.head _)
  have i1 := item_list (k := 0) a1 rfl (by show 1 < 1000000; decide)
  have i2 := item_list (k := 0) a2 rfl (by show 1 < 1000000; decide)
  simp only [Int.natCast_zero, Int.cast_ofNat_Int] at i1 i2
  have r := rds hG H
  have r1 := rds hG (H.alr (V' := Wd L s ++ ((t, .list [.int n]) :: F)) (.tuple [.str "asked", v, .int s.ccalls, .int s.frames.length, .int s.handling]) (fun _ h => by exact re_of (.cons (.app (.cons .last))) [1, 2, 3] rfl (by decide) h))
  have m1 := more_ok hG (hp := hp2) hv
  split
  · rename_i hpos
    refine fn_ofx rfl ?_
    unfold d_220
    dsimp only [bindF]
    try (refine wp_hide fun l_ => ?_; repeat intro _)
    refine wp_next (by assumption) (by assumption) (σ' := ⟨_, [], hp1, some j⟩) (by simp (decide := true) only [bind_ap, pure_ap, aCall, aMCall, aArgs, aLoc_e, aStore_e, setLoc_e, if_true, if_false, rbind_ok, rbind_exc, aTruth, r, len_fr H hf, e1, r1, e2]; rfl) ?_
    try (refine wp_hide fun l_ => ?_; repeat intro _)
    refine wp_next (by assumption) (by assumption) (σ' := ⟨_, [], hp2, some j⟩) (by simp (decide := true) only [bind_ap, pure_ap, aCall, aMCall, aArgs, aLoc_e, aStore_e, setLoc_e, if_true, if_false, rbind_ok, rbind_exc, aTruth, i1, sub_e, e3]; rfl) ?_
    refine cps fun X_ k_ => ?_
    obtain ⟨hp3, d, tr, e4, H3⟩ := make_exc hG (hdd := some j) (moreP v 1) H2
    obtain ⟨hp4, e5, H4⟩ := raise_some H3 (j := j) (c' := 45) (d' := some dj) (f' := fj) (.tail _ (.tail _ (List.mem_append_right _ hj)))
    refine k_ ?_
    clear k_ X_
    try (refine wp_hide fun l_ => ?_; repeat intro _)
    refine wp_exc (by assumption) (by assumption) (σ' := ⟨_, [], hp4, some j⟩) (by simp (decide := true) only [bind_ap, pure_ap, aCall, aMCall, aArgs, aLoc_e, aStore_e, setLoc_e, if_true, if_false, rbind_ok, rbind_exc, aTruth, aSeq, i2, ge_e, decide_eq_true hpos, m1, e4, e5]; rfl) ⟨hp.length, d, tr, H4.wk fun x => ?_⟩
    simp +arith only [note, List.count_cons, List.count_append]
  · rename_i hneg
    refine fn_of rfl ?_
    unfold d_220
    dsimp only [bindF]
    try (refine wp_hide fun l_ => ?_; repeat intro _)
    refine wp_next (by assumption) (by assumption) (σ' := ⟨_, [], hp1, some j⟩) (by simp (decide := true) only [bind_ap, pure_ap, aCall, aMCall, aArgs, aLoc_e, aStore_e, setLoc_e, if_true, if_false, rbind_ok, rbind_exc, aTruth, r, len_fr H hf, e1, r1, e2]; rfl) ?_
    try (refine wp_hide fun l_ => ?_; repeat intro _)
    refine wp_next (by assumption) (by assumption) (σ' := ⟨_, [], hp2, some j⟩) (by simp (decide := true) only [bind_ap, pure_ap, aCall, aMCall, aArgs, aLoc_e, aStore_e, setLoc_e, if_true, if_false, rbind_ok, rbind_exc, aTruth, i1, sub_e, e3]; rfl) ?_
    refine wp_next (by assumption) (by assumption) (σ' := ⟨_, [], hp2, some j⟩) (by simp (decide := true) only [bind_ap, pure_ap, aCall, aMCall, aArgs, aLoc_e, aStore_e, setLoc_e, if_true, if_false, rbind_ok, rbind_exc, aTruth, aSeq, i2, ge_e, decide_eq_false hneg]; rfl) ?_
    try refine wp_end (by assumption) (by assumption) ?_
    refine WP.ok (a := .ret (moreP v 1000)) (σ := ⟨_, [], hp2, some j⟩) (by simp (decide := true) only [bind_ap, pure_ap, aCall, aMCall, aArgs, aLoc_e, aStore_e, setLoc_e, if_true, if_false, rbind_ok, rbind_exc, aTruth, i2, m1]; rfl) ⟨rfl, hp.length, H2.wk fun x => ?_⟩
    simp +arith only [note, List.count_cons, List.count_append]
end
end Mine

open PySem PySem.W PyProof.Rows PySem.Calls
set_option Elab.async false
set_option maxRecDepth 100000
set_option maxHeartbeats 1000000
set_option linter.unusedVariables false
set_option linter.unusedSimpArgs false
namespace Mine
variable {G : Gd}

theorem WP.exc' {α : Type} {r : Res α} {x : Nat} {σ : AS} {Q} {E : Nat → AS → Prop} (e : r = .exc x σ) (h : E x σ) : WP r Q E := by rw [e]; exact h
theorem WP.mono {α : Type} {r : Res α} {Q Q' : α → AS → Prop} {E E' : Nat → AS → Prop} (h : WP r Q E) (hq : ∀ a σ, Q a σ → Q' a σ) (he : ∀ x σ, E x σ → E' x σ) : WP r Q' E' := by
  cases r with
  | ok a σ => exact hq _ _ h
  | exc x σ => exact he _ _ h
  | stuck => exact h
theorem wp_while {mt : AM Bool} {mb m2 : AM AF} {ms : List (AM AF)} {k : Nat} {σ σ1 : AS} {Q : AF → AS → Prop} {E : Nat → AS → Prop} (e1 : mt σ = .ok true σ1)
    (h : WP (mb σ1) (fun f σ2 => match f with | .next => WP (aSeq (aWhile mt mb k :: m2 :: ms) σ2) Q E | .ret v => Q (.ret v) σ2 | _ => False) fun _ _ => False) : WP (aSeq (aWhile mt mb (k + 1) :: m2 :: ms) σ) Q E := by
  cases e : mb σ1 with
  | ok f σ2 =>
    rw [e] at h
    cases f with
    | next =>
      have h : WP (aSeq (aWhile mt mb k :: m2 :: ms) σ2) Q E := h
      unfold aSeq at h ⊢
      rw [bind_ap] at h ⊢
      rw [while_next e1 e]; exact h
    | ret v => exact wp_ret0 (while_ret e1 e) h
    | brk => exact h.elim
    | cont => exact h.elim
  | exc x σ2 => rw [e] at h; exact h.elim
  | stuck => rw [e] at h; exact h.elim
noncomputable def delLoc (x : Str) (loc : Str → Option AV) : Str → Option AV := fun y => if y = x then none else loc y
theorem delLoc_e (x y : Str) (loc : Str → Option AV) : delLoc x loc y = if y = x then none else loc y := rfl
theorem wp_try {C : Addr} {nm : Str} {mb ms : AM AF} {σ : AS} {Q : AF → AS → Prop} {E : Nat → AS → Prop}
    (h : WP (mb σ) Q fun x σ' => ∃ d cl fs, σ'.hp[x]? = some (.exc C d cl fs) ∧ WP (ms ⟨setLoc nm (.ref x) σ'.loc, σ'.cells, σ'.hp, some x⟩) (fun f σ'' => Q f ⟨delLoc nm σ''.loc, σ''.cells, σ''.hp, σ'.hd⟩) fun _ _ => False) : WP (aTry C nm mb ms σ) Q E := by
  unfold aTry
  cases e : mb σ with
  | ok f σ' => rw [e] at h; exact h
  | stuck => rw [e] at h; exact h
  | exc x σ' =>
    rw [e] at h
    refine cps fun X_ k_ => ?_
    obtain ⟨d, cl, fs, h1, h2⟩ := h
    refine k_ ?_
    clear k_ X_
    simp only [h1, if_true]
    change WP (match ms ⟨setLoc nm (.ref x) σ'.loc, σ'.cells, σ'.hp, some x⟩ with
      | .ok f σ'' => .ok f ⟨delLoc nm σ''.loc, σ''.cells, σ''.hp, σ'.hd⟩
      | _ => .stuck) Q E
    cases e2 : ms ⟨setLoc nm (.ref x) σ'.loc, σ'.cells, σ'.hp, some x⟩ with
    | ok f σ'' => rw [e2] at h2; exact h2
    | exc y σ'' => rw [e2] at h2; exact h2.elim
    | stuck => rw [e2] at h2; exact h2.elim
theorem keep_clos {hp : List AO} {k : Nat} {i : Nat} {cs} (h : hp[k]? = some (.clos i cs)) (loc cs' hdd) : aKeep G (.ref k) ⟨loc, cs', hp, hdd⟩ = .ok () ⟨loc, cs', hp, hdd⟩ := by
  unfold aKeep keepable
  simp only [h, if_true]
theorem cell_e {cs : List (Str × Nat)} {hp : List AO} {x : Str} {i : Nat} {v : AV} (h1 : cs.lookup x = some i) (h2 : hp[i]? = some (.cell (some v))) (loc hdd) : aCell x ⟨loc, cs, hp, hdd⟩ = .ok v ⟨loc, cs, hp, hdd⟩ := by
  unfold aCell onCell
  simp only [h1, h2, onOpt]
theorem clos_reply (hG : Known G) {gf : List AV → AM AV} {hp : List AO} {hdd : Option Nat} {k cw ct t w h : Nat} {ccs : List (Str × Nat)} {v : AV} (h1 : hp[k]? = some (.clos 0 ccs))
    (c1 : ccs.lookup ("world" : Str) = some cw) (c2 : ccs.lookup ("times" : Str) = some ct) (h2 : hp[cw]? = some (.cell (some (.ref w)))) (h3 : hp[ct]? = some (.cell (some (.ref t)))) :
    (∀ x hp', (∀ loc cs, aFn ["world", "times", "holder", "value"] (d_220 hG).1 [.ref w, .ref t, .ref h, v] ⟨loc, cs, hp, hdd⟩ = .exc x ⟨loc, cs, hp', hdd⟩) → ∀ loc cs, closT hG gf (.ref k) [.ref h, v] ⟨loc, cs, hp, hdd⟩ = .exc x ⟨loc, cs, hp', hdd⟩) ∧
    (∀ x hp', (∀ loc cs, aFn ["world", "times", "holder", "value"] (d_220 hG).1 [.ref w, .ref t, .ref h, v] ⟨loc, cs, hp, hdd⟩ = .ok x ⟨loc, cs, hp', hdd⟩) → ∀ loc cs, closT hG gf (.ref k) [.ref h, v] ⟨loc, cs, hp, hdd⟩ = .ok x ⟨loc, cs, hp', hdd⟩) := by
  have b : closB hG gf 0 = (b_reply hG).1 := rfl
  constructor
  · intro x hp' e loc cs
    refine (onClos_e (σ := ⟨loc, cs, hp, hdd⟩) h1).trans ((if_pos (show [AV.ref h, v].length = (lamParams 0).length from rfl)).trans ?_)
    rw [b, bindF_lookup]
    unfold b_reply
    dsimp only [lamParams, bindF]
    simp (decide := true) only [bind_ap, pure_ap, aCall, aMCall, aArgs, aLoc_e, aStore_e, setLoc_e, if_true, if_false, rbind_ok, rbind_exc, aTruth, bindF, cell_e c1 h2, cell_e c2 h3, e]
  · intro x hp' e loc cs
    refine (onClos_e (σ := ⟨loc, cs, hp, hdd⟩) h1).trans ((if_pos (show [AV.ref h, v].length = (lamParams 0).length from rfl)).trans ?_)
    rw [b, bindF_lookup]
    unfold b_reply
    dsimp only [lamParams, bindF]
    simp (decide := true) only [bind_ap, pure_ap, aCall, aMCall, aArgs, aLoc_e, aStore_e, setLoc_e, if_true, if_false, rbind_ok, rbind_exc, aTruth, bindF, cell_e c1 h2, cell_e c2 h3, e]
theorem clos_work (hG : Known G) {gf : List AV → AM AV} {hp : List AO} {hdd : Option Nat} {k cw ca w : Nat} {ccs : List (Str × Nat)} {at_ : Int} (h1 : hp[k]? = some (.clos 1 ccs))
    (c1 : ccs.lookup ("world" : Str) = some cw) (c2 : ccs.lookup ("at" : Str) = some ca) (h2 : hp[cw]? = some (.cell (some (.ref w)))) (h3 : hp[ca]? = some (.cell (some (.int at_)))) :
    (∀ x hp', (∀ loc cs, aFn ["world", "at"] (d_237 hG gf).1 [.ref w, .int at_] ⟨loc, cs, hp, hdd⟩ = .exc x ⟨loc, cs, hp', hdd⟩) → ∀ loc cs, closT hG gf (.ref k) [] ⟨loc, cs, hp, hdd⟩ = .exc x ⟨loc, cs, hp', hdd⟩) ∧
    (∀ x hp', (∀ loc cs, aFn ["world", "at"] (d_237 hG gf).1 [.ref w, .int at_] ⟨loc, cs, hp, hdd⟩ = .ok x ⟨loc, cs, hp', hdd⟩) → ∀ loc cs, closT hG gf (.ref k) [] ⟨loc, cs, hp, hdd⟩ = .ok x ⟨loc, cs, hp', hdd⟩) := by
  have b : closB hG gf 1 = (b_work hG gf).1 := rfl
  constructor
  · intro x hp' e loc cs
    refine (onClos_e (σ := ⟨loc, cs, hp, hdd⟩) h1).trans ((if_pos (show ([] : List AV).length = (lamParams 1).length from rfl)).trans ?_)
    rw [b, bindF_lookup]
    unfold b_work
    dsimp only [lamParams, bindF]
    simp (decide := true) only [bind_ap, pure_ap, aCall, aMCall, aArgs, aLoc_e, aStore_e, setLoc_e, if_true, if_false, rbind_ok, rbind_exc, aTruth, bindF, cell_e c1 h2, cell_e c2 h3, e]
  · intro x hp' e loc cs
    refine (onClos_e (σ := ⟨loc, cs, hp, hdd⟩) h1).trans ((if_pos (show ([] : List AV).length = (lamParams 1).length from rfl)).trans ?_)
    rw [b, bindF_lookup]
    unfold b_work
    dsimp only [lamParams, bindF]
    simp (decide := true) only [bind_ap, pure_ap, aCall, aMCall, aArgs, aLoc_e, aStore_e, setLoc_e, if_true, if_false, rbind_ok, rbind_exc, aTruth, bindF, cell_e c1 h2, cell_e c2 h3, e]

theorem unpack_e {hp : List AO} {r k : Nat} {xs : List AV} {hdd : Option Nat} (h : hp[r]? = some (.tuple xs)) (hk : xs.length = k) (hh : hdd = none ∨ ∃ j c d f, hdd = some j ∧ hp[j]? = some (.exc c d true f)) (loc cs) : aUnpack k (.ref r) ⟨loc, cs, hp, hdd⟩ = .ok xs ⟨loc, cs, hp, hdd⟩ := by
  have hc : hdClean ⟨loc, cs, hp, hdd⟩ = true := by
    unfold hdClean
    refine cps fun X_ k_ => ?_
    rcases hh with rfl | ⟨j, c, d, f, rfl, h⟩
    all_goals refine k_ ?_
    all_goals clear k_ X_
    · rfl
    · simp only [h]
  exact (onTup_e (σ := ⟨loc, cs, hp, hdd⟩) h).trans (if_pos ⟨hk, hc⟩)
section
variable {L : Lay} {s : PS} {F : HV}
theorem mem_F {hp : List AO} {i : Nat} {o : AO} (H : Holds hp (Wd L s ++ F)) (h : (i, o) ∈ F) : hp[i]? = some o := H.2 _ (List.mem_append_right _ h)
theorem handled_ok (hG : Known G) (gf : List AV → AM AV) {hp : List AO} {t : Nat} {n : Int} {j dj : Nat} {fj : Bool} {v : AV} (hv : isVal v = true) (H : Holds hp (Wd L s ++ ((t, .list [.int n]) :: F))) (hf : s.frames.length < 1000) (hn : s.notes.length + 1000 < 900000)
    (hm : (L.most - s.ccalls).toNat < 1000) (hj : (j, AO.exc 45 (some dj) true fj) ∈ F) {k cw ct q : Nat} {ccs : List (Str × Nat)} (h1 : (k, AO.clos 0 ccs) ∈ F)
    (c1 : ccs.lookup ("world" : Str) = some cw) (c2 : ccs.lookup ("times" : Str) = some ct) (h2 : (cw, AO.cell (some (.ref L.w))) ∈ F) (h3 : (ct, AO.cell (some (.ref t))) ∈ F) (h4 : (q, AO.tuple [.ref k, .int L.most]) ∈ F) :
    ∃ w hp', (∀ loc cs, aFn ["holder", "handling", "value"] (d_180 hG (closT hG gf)).1 [.ref L.h, .ref q, v] ⟨loc, cs, hp, some j⟩ = .ok w ⟨loc, cs, hp', some j⟩) ∧
      ∃ x d tr cc hh ns, w = .ref x ∧ ns.map (·.2) = (answ (L.most - s.ccalls).toNat n v s.ccalls s.frames.length s.handling).2 ∧
        Holds hp' (Wd L { s with ccalls := cc, handling := hh, notes := s.notes ++ ns } ++ ((x, .exc 45 (some d) true true) :: (d, .dict (excD (answ (L.most - s.ccalls).toNat n v s.ccalls s.frames.length s.handling).1 tr)) :: F)) := by
  refine fn_of rfl ?_
  unfold d_180
  dsimp only [bindF]
  have u := unpack_e (k := 2) (hdd := some j) (mem_F H (.tail _ h4)) rfl (.inr ⟨j, 45, some dj, fj, rfl, mem_F H (.tail _ hj)⟩)
  try (refine wp_hide fun l_ => ?_; repeat intro _)
  refine wp_next (by assumption) (by assumption) (σ' := ⟨setLoc "most" (.int L.most) (setLoc "reply" (.ref k) (setLoc "value" v (setLoc "handling" (.ref q) (setLoc "holder" (.ref L.h) noLoc)))), [], hp, some j⟩) (by simp (decide := true) only [bind_ap, pure_ap, aCall, aMCall, aArgs, aLoc_e, aStore_e, setLoc_e, if_true, if_false, rbind_ok, rbind_exc, aTruth, List.length_cons, List.length_nil, u, aStores]) ?_
  try (refine wp_hide fun l_ => ?_; repeat intro _)
  refine wp_next (by assumption) (by assumption) (σ' := ⟨setLoc "tries" (.int s.ccalls) (setLoc "most" (.int L.most) (setLoc "reply" (.ref k) (setLoc "value" v (setLoc "handling" (.ref q) (setLoc "holder" (.ref L.h) noLoc))))), [], hp, some j⟩) (by simp (decide := true) only [bind_ap, pure_ap, aCall, aMCall, aArgs, aLoc_e, aStore_e, setLoc_e, if_true, if_false, rbind_ok, rbind_exc, aTruth, rds hG H]) ?_
  refine cps fun X_ k_ => ?_
  obtain ⟨fu, hfu, hlt⟩ : ∃ k, 2000 = k ∧ (L.most - s.ccalls).toNat < k := ⟨2000, rfl, by omega⟩
  refine k_ ?_
  clear k_ X_
  refine wp_two (by assumption) (by assumption) (by assumption) ?_
  rw [hfu]
  clear hfu
  have l1 : (setLoc "tries" (.int s.ccalls) (setLoc "most" (.int L.most) (setLoc "reply" (.ref k) (setLoc "value" v (setLoc "handling" (.ref q) (setLoc "holder" (.ref L.h) noLoc)))))) "holder" = some (.ref L.h) := rfl
  have l2 : (setLoc "tries" (.int s.ccalls) (setLoc "most" (.int L.most) (setLoc "reply" (.ref k) (setLoc "value" v (setLoc "handling" (.ref q) (setLoc "holder" (.ref L.h) noLoc)))))) "most" = some (.int L.most) := rfl
  have l3 : (setLoc "tries" (.int s.ccalls) (setLoc "most" (.int L.most) (setLoc "reply" (.ref k) (setLoc "value" v (setLoc "handling" (.ref q) (setLoc "holder" (.ref L.h) noLoc)))))) "reply" = some (.ref k) := rfl
  have l4 : (setLoc "tries" (.int s.ccalls) (setLoc "most" (.int L.most) (setLoc "reply" (.ref k) (setLoc "value" v (setLoc "handling" (.ref q) (setLoc "holder" (.ref L.h) noLoc)))))) "value" = some v := rfl
  have l5 : (setLoc "tries" (.int s.ccalls) (setLoc "most" (.int L.most) (setLoc "reply" (.ref k) (setLoc "value" v (setLoc "handling" (.ref q) (setLoc "holder" (.ref L.h) noLoc)))))) "tries" = some (.int s.ccalls) := rfl
  generalize (setLoc "tries" (.int s.ccalls) (setLoc "most" (.int L.most) (setLoc "reply" (.ref k) (setLoc "value" v (setLoc "handling" (.ref q) (setLoc "holder" (.ref L.h) noLoc)))))) = loc at l1 l2 l3 l4 l5 ⊢
  clear u
  generalize hc : s.ccalls = c at hm hlt l5 ⊢
  clear hc
  generalize hmm : (L.most - c).toNat = m at hm hlt ⊢
  have hn' : s.notes.length + m < 900000 := by omega
  clear hn
  induction m generalizing fu c v hp loc s n with
  | zero =>
    match fu, hlt with
    | fu + 1, _ =>
      have z : decide (c < L.most) = false := decide_eq_false (by omega)
      try (refine wp_hide fun l_ => ?_; repeat intro _)
      refine wp_next (by assumption) (by assumption) (σ' := ⟨loc, [], hp, some j⟩) (while_stop (by simp (decide := true) only [bind_ap, pure_ap, aCall, aMCall, aArgs, aLoc_e, aStore_e, setLoc_e, if_true, if_false, rbind_ok, rbind_exc, aTruth, l5, l2, lt_e, z])) ?_
      refine cps fun X_ k_ => ?_
      obtain ⟨hp1, d, tr, e1, H1⟩ := make_exc hG (hdd := some j) eie H
      refine k_ ?_
      clear k_ X_
      try refine wp_end (by assumption) (by assumption) ?_
      refine WP.ok (a := .ret (.ref hp.length)) (σ := ⟨_, [], hp1, some j⟩) (by unfold eie at e1; simp (decide := true) only [bind_ap, pure_ap, aCall, aMCall, aArgs, aLoc_e, aStore_e, setLoc_e, if_true, if_false, rbind_ok, rbind_exc, aTruth, aSeq, e1]; rfl) ⟨hp.length, d, tr, s.ccalls, s.handling, [], rfl, rfl, H1.wk fun x => ?_⟩
      have es : ({ s with ccalls := s.ccalls, handling := s.handling, notes := s.notes ++ [] } : PS) = s := by rw [List.append_nil]
      rw [es]
      simp +arith only [answ, List.count_cons, List.count_append]
  | succ m ih =>
    match fu, hlt with
    | fu + 1, hlt =>
      have z : decide (c < L.most) = true := decide_eq_true (by omega)
      refine wp_while (σ1 := ⟨loc, [], hp, some j⟩) (by simp (decide := true) only [bind_ap, pure_ap, aCall, aMCall, aArgs, aLoc_e, aStore_e, setLoc_e, if_true, if_false, rbind_ok, rbind_exc, aTruth, l5, l2, lt_e, z]) ?_
      refine cps fun X_ k_ => ?_
      obtain ⟨hp1, e1, H1⟩ := set_ccalls hG H c
      obtain ⟨hp2, e2, H2⟩ := set_handling hG H1 (s.handling + 1)
      refine k_ ?_
      clear k_ X_
      try (refine wp_hide fun l_ => ?_; repeat intro _)
      refine wp_next (by assumption) (by assumption) (σ' := ⟨loc, [], hp1, some j⟩) (by simp (decide := true) only [bind_ap, pure_ap, aCall, aMCall, aArgs, aLoc_e, aStore_e, setLoc_e, if_true, if_false, rbind_ok, rbind_exc, aTruth, l5, l1, e1]) ?_
      try (refine wp_hide fun l_ => ?_; repeat intro _)
      refine wp_next (by assumption) (by assumption) (σ' := ⟨loc, [], hp2, some j⟩) (by simp (decide := true) only [bind_ap, pure_ap, aCall, aMCall, aArgs, aLoc_e, aStore_e, setLoc_e, if_true, if_false, rbind_ok, rbind_exc, aTruth, l1, rds hG H1, incr_e, e2]) ?_
      try (refine wp_hide fun l_ => ?_; repeat intro _)
      refine wp_next (by assumption) (by assumption) (σ' := ⟨setLoc "tries" (.int (c + 1)) loc, [], hp2, some j⟩) (by simp (decide := true) only [bind_ap, pure_ap, aCall, aMCall, aArgs, aLoc_e, aStore_e, setLoc_e, if_true, if_false, rbind_ok, rbind_exc, aTruth, l5, incr_e]) ?_
      try refine wp_end (by assumption) (by assumption) ?_
      refine wp_last (wp_try (wp_last ?_))
      have rp := replied_ok hG hv H2 hf (by show s.notes.length < 900000; omega) hj
      have cl := clos_reply hG (gf := gf) (hdd := some j) (h := L.h) (v := v) (mem_F H2 (.tail _ h1)) c1 c2 (mem_F H2 (.tail _ h2)) (mem_F H2 (.tail _ h3))
      have kp := fun loc => keep_clos (G := G) (mem_F H2 (.tail _ h1)) loc [] (some j)
      split at rp
      · rename_i hpos
        refine cps fun X_ k_ => ?_
        obtain ⟨x, hp3, e3, q1, d, tr, H3⟩ := rp
        refine k_ ?_
        clear k_ X_
        have e4 := cl.1 x hp3 e3
        try refine wp_end (by assumption) (by assumption) ?_
        refine WP.exc' (x := x) (σ := ⟨setLoc "tries" (.int (c + 1)) loc, [], hp3, some j⟩) (by simp (decide := true) only [bind_ap, pure_ap, aCall, aMCall, aArgs, aLoc_e, aStore_e, setLoc_e, if_true, if_false, rbind_ok, rbind_exc, aTruth, l3, l1, l4, kp, e4]) ?_
        have x1 : hp3[x]? = some (.exc 45 (some d) false false) := mem_F H3 (.tail _ (.head _))
        have x2 : hp3[d]? = some (.dict (excD (moreP v 1) tr)) := mem_F H3 (.tail _ (.tail _ (.head _)))
        refine ⟨some d, false, false, x1, ?_⟩
        try refine wp_end (by assumption) (by assumption) ?_
        refine WP.ok (a := .next) (σ := ⟨setLoc "value" (moreP v 1) (setLoc "other" (.ref x) (setLoc "tries" (.int (c + 1)) loc)), [], hp3, some x⟩) (by simp (decide := true) only [bind_ap, pure_ap, aCall, aMCall, aArgs, aLoc_e, aStore_e, setLoc_e, if_true, if_false, rbind_ok, rbind_exc, aTruth, aSeq, exc_value x1 x2 (isVal_plain (isVal_more hv))]) ?_
        dsimp only
        have H4 : Holds hp3 (Wd L { s with ccalls := c, handling := s.handling + 1, notes := s.notes ++ [(q1, note { s with ccalls := c, handling := s.handling + 1 } v)] } ++ ((t, .list [.int (n - 1)]) :: F)) := H3.wkr (fun _ h => by exact re_of (.app (.cons (.cons (.cons .last)))) [0, 1, 4] rfl (by decide) h)
        have ih' := ih (n := n - 1) (v := moreP v 1) (isVal_more hv) H4 hf fu (delLoc "other" (setLoc "value" (moreP v 1) (setLoc "other" (.ref x) (setLoc "tries" (.int (c + 1)) loc))))
          (by simp (decide := true) only [delLoc_e, setLoc_e, if_false, l1]) (by simp (decide := true) only [delLoc_e, setLoc_e, if_false, l2]) (by simp (decide := true) only [delLoc_e, setLoc_e, if_false, l3]) (by simp (decide := true) only [delLoc_e, setLoc_e, if_false, if_true]) (c + 1) (by simp (decide := true) only [delLoc_e, setLoc_e, if_false, if_true]) (by omega) (by omega) (by omega) (by simp; omega)
        refine ih'.mono (fun f σ => ?_) fun _ _ h => h
        intro h_1
        refine cps fun X_ k_ => ?_
        obtain ⟨x', d', tr', cc, hh, ns, r1, r2, r3⟩ := h_1
        refine k_ ?_
        clear k_ X_
        refine ⟨x', d', tr', cc, hh, (q1, note { s with ccalls := c, handling := s.handling + 1 } v) :: ns, r1, ?_, ?_⟩
        · unfold answ
          rw [if_pos hpos, List.map_cons, r2]
        · unfold answ
          rw [if_pos hpos]
          simp only [List.append_assoc, List.cons_append, List.nil_append] at r3
          exact r3
      · rename_i hneg
        refine cps fun X_ k_ => ?_
        obtain ⟨w, hp3, e3, rfl, q1, H3⟩ := rp
        have e4 := cl.2 _ hp3 e3
        obtain ⟨hp4, d, tr, e5, H5⟩ := make_exc hG (hdd := some j) (moreP v 1000) H3
        refine k_ ?_
        clear k_ X_
        try refine wp_end (by assumption) (by assumption) ?_
        refine WP.ok (a := .ret (.ref hp3.length)) (σ := ⟨setLoc "tries" (.int (c + 1)) loc, [], hp4, some j⟩) (by simp (decide := true) only [bind_ap, pure_ap, aCall, aMCall, aArgs, aLoc_e, aStore_e, setLoc_e, if_true, if_false, rbind_ok, rbind_exc, aTruth, l3, l1, l4, kp, e4, e5]) ?_
        refine ⟨hp3.length, d, tr, c, s.handling + 1, [(q1, note { s with ccalls := c, handling := s.handling + 1 } v)], rfl, ?_, H5.wk fun x => ?_⟩
        · unfold answ
          rw [if_neg hneg]
          rfl
        · unfold answ
          rw [if_neg hneg]
          simp +arith only [note, List.count_cons, List.count_append]
end
end Mine

open PySem PySem.W PyProof.Rows PySem.Calls
set_option Elab.async false
set_option maxRecDepth 100000
set_option maxHeartbeats 1000000
set_option linter.unusedVariables false
set_option linter.unusedSimpArgs false
namespace Mine
variable {G : Gd}

theorem wp_seq {l : List (AM AF)} {k n : Nat} {m : AM AF} {σ : AS} {Q : AF → AS → Prop} {E : Nat → AS → Prop} (hm : l[k]? = some m) (hl : l.length = n) (h : WP (m σ) (fun f σ' => match f with | .next => WP (aSeq (l.drop (k + 1)) σ') Q E | f => Q f σ') E) (hk : (k + 1).blt n = true := by rfl) : WP (aSeq (l.drop k) σ) Q E := by
  obtain ⟨m2, ms, e1, e2⟩ := drop_at hm hl hk
  rw [e1] at h
  rw [e2]
  unfold aSeq
  rw [bind_ap]
  cases e : m σ with
  | ok f σ' => rw [e] at h; cases f <;> exact h
  | exc x σ' => rw [e] at h; exact h
  | stuck => rw [e] at h; exact h
theorem WP.eq {α : Type} {r r' : Res α} {Q E} (e : r = r') (h : WP r' Q E) : WP r Q E := by rw [e]; exact h
theorem wp_forR0 {st : AV → AM Unit} {mb : AM AF} {x : Int} {σ : AS} {Q : AF → AS → Prop} {E : Nat → AS → Prop} (h : σ.hd = none) (q : Q .next σ) : WP (aForR st mb 0 x σ) Q E := by
  unfold aForR
  rw [if_pos h]
  exact q
theorem wp_forR1 {st : AV → AM Unit} {mb : AM AF} {k : Nat} {x : Int} {σ σ1 : AS} {Q : AF → AS → Prop} {E : Nat → AS → Prop} (e : st (.int x) σ = .ok () σ1)
    (h : WP (mb σ1) (fun f σ2 => match f with | .next => WP (aForR st mb k (x + 1) σ2) Q E | .ret v => Q (.ret v) σ2 | _ => False) fun _ _ => False) : WP (aForR st mb (k + 1) x σ) Q E := by
  unfold aForR
  simp only [e]
  cases e2 : mb σ1 with
  | ok f σ2 =>
    rw [e2] at h
    cases f with
    | next => exact h
    | ret v => exact h
    | brk => exact h.elim
    | cont => exact h.elim
  | exc x σ2 => rw [e2] at h; exact h.elim
  | stuck => rw [e2] at h; exact h.elim
theorem for_R {st : AV → AM Unit} {mb : AM AF} {r : Nat} {n : Int} {σ : AS} (h1 : σ.hp[r]? = some (.range n)) (hs : small n = true) : aFor st mb (.ref r) σ = aForR st mb n.toNat 0 σ := by
  unfold aFor
  simp only [h1]
  rw [if_pos hs]
theorem small_of {n : Int} (h1 : -1000000 < n) (h2 : n < 1000000) : small n = true := by
  unfold small
  rw [decide_eq_true (by omega), decide_eq_true (by omega)]
  rfl
theorem range_e {n : Int} (loc cs hp hdd) : bRange [.int n] ⟨loc, cs, hp, hdd⟩ = .ok (.ref hp.length) ⟨loc, cs, hp ++ [.range n], hdd⟩ := rfl
theorem max_e (a b : Int) (loc cs hp) : bMax [.int a, .int b] ⟨loc, cs, hp, none⟩ = .ok (.int (if b > a then b else a)) ⟨loc, cs, hp, none⟩ := rfl
theorem min_e (a b : Int) (loc cs hp) : bMin [.int a, .int b] ⟨loc, cs, hp, none⟩ = .ok (.int (if b < a then b else a)) ⟨loc, cs, hp, none⟩ := rfl
theorem isnt_val {v : AV} (h : isVal v = true) (σ : AS) : aCmp CmpOp.IsNot v .none σ = .ok (.bool true) σ := by cases v <;> first | rfl | cases h
theorem mul_e {a b : Int} (h : small a = true) (σ : AS) : aBin .Mult (.int a) (.int b) σ = .ok (.int (a * b)) σ := if_pos h

section
variable {L : Lay} {s : PS} {F : HV}
theorem answered_ok (hG : Known G) {hp : List AO} {v : AV} (hv : isVal v = true) (H : Holds hp (Wd L s ++ F)) (kind deep many hg : Int) (hm : (L.most - deep).toNat < 1000) (hn : s.due.length + 1000 < 900000) :
    ∃ w hp', (∀ loc cs, aFn ["world", "value", "kind", "deep", "many", "handling"] (d_251 hG).1 [.ref L.w, v, .int kind, .int deep, .int many, .int hg] ⟨loc, cs, hp, none⟩ = .ok w ⟨loc, cs, hp', none⟩) ∧
      ∃ ns, w = (answ (L.most - deep).toNat kind v deep many hg).1 ∧ ns.map (·.2) = (answ (L.most - deep).toNat kind v deep many hg).2 ∧ Holds hp' (Wd L { s with due := s.due ++ ns } ++ F) := by
  refine fn_of rfl ?_
  unfold d_251
  dsimp only [bindF]
  try (refine wp_hide fun l_ => ?_; repeat intro _)
  refine wp_seq (by assumption) (by assumption) ?_
  have H0 : Holds (hp ++ [.range (if L.most - deep > 0 then L.most - deep else 0)]) (Wd L s ++ F) := H.alr _ (fun _ h => by exact re_of (.cons (.app .last)) [1, 2] rfl (by decide) h)
  have hr : (hp ++ [AO.range (if L.most - deep > 0 then L.most - deep else 0)])[hp.length]? = some (.range (if L.most - deep > 0 then L.most - deep else 0)) := by simp
  have en : (if L.most - deep > 0 then L.most - deep else 0).toNat = (L.most - deep).toNat := by split <;> omega
  have sm : small (if L.most - deep > 0 then L.most - deep else 0) = true := by split <;> exact small_of (by omega) (by omega)
  try refine wp_end (by assumption) (by assumption) ?_
  refine WP.eq (by simp (decide := true) only [bind_ap, pure_ap, aCall, aMCall, aArgs, aLoc_e, aStore_e, setLoc_e, if_true, if_false, rbind_ok, rbind_exc, aTruth, rds hG H, sub_e, max_e, range_e]; exact for_R hr sm) ?_
  rw [en]
  generalize hp ++ [AO.range (if L.most - deep > 0 then L.most - deep else 0)] = hp0 at H0 ⊢
  clear hr sm en H
  have l1 : (setLoc "handling" (.int hg) (setLoc "many" (.int many) (setLoc "deep" (.int deep) (setLoc "kind" (.int kind) (setLoc "value" v (setLoc "world" (.ref L.w) noLoc)))))) "world" = some (.ref L.w) := rfl
  have l2 : (setLoc "handling" (.int hg) (setLoc "many" (.int many) (setLoc "deep" (.int deep) (setLoc "kind" (.int kind) (setLoc "value" v (setLoc "world" (.ref L.w) noLoc)))))) "value" = some v := rfl
  have l3 : (setLoc "handling" (.int hg) (setLoc "many" (.int many) (setLoc "deep" (.int deep) (setLoc "kind" (.int kind) (setLoc "value" v (setLoc "world" (.ref L.w) noLoc)))))) "kind" = some (.int kind) := rfl
  have l4 : (setLoc "handling" (.int hg) (setLoc "many" (.int many) (setLoc "deep" (.int deep) (setLoc "kind" (.int kind) (setLoc "value" v (setLoc "world" (.ref L.w) noLoc)))))) "deep" = some (.int deep) := rfl
  have l5 : (setLoc "handling" (.int hg) (setLoc "many" (.int many) (setLoc "deep" (.int deep) (setLoc "kind" (.int kind) (setLoc "value" v (setLoc "world" (.ref L.w) noLoc)))))) "many" = some (.int many) := rfl
  have l6 : (setLoc "handling" (.int hg) (setLoc "many" (.int many) (setLoc "deep" (.int deep) (setLoc "kind" (.int kind) (setLoc "value" v (setLoc "world" (.ref L.w) noLoc)))))) "handling" = some (.int hg) := rfl
  generalize (setLoc "handling" (.int hg) (setLoc "many" (.int many) (setLoc "deep" (.int deep) (setLoc "kind" (.int kind) (setLoc "value" v (setLoc "world" (.ref L.w) noLoc)))))) = loc at l1 l2 l3 l4 l5 l6 ⊢
  generalize hmm : (L.most - deep).toNat = m at hm ⊢
  have hn' : s.due.length + m < 900000 := by omega
  clear hn hmm
  refine cps fun X_ k_ => ?_
  obtain ⟨n, en0⟩ : ∃ n : Int, n = kind := ⟨_, rfl⟩
  obtain ⟨d, ed0⟩ : ∃ n : Int, n = deep := ⟨_, rfl⟩
  obtain ⟨h, eh0⟩ : ∃ n : Int, n = hg := ⟨_, rfl⟩
  refine k_ ?_
  clear k_ X_
  rw [show answ m kind v deep many hg = answ m n v d many h by rw [en0, ed0, eh0]]
  obtain ⟨x, ex⟩ : ∃ n : Int, n = 0 := ⟨_, rfl⟩
  rw [← ex]
  have en : n = kind - x := by omega
  have ed : d = deep + x := by omega
  have eh : h = hg + x := by omega
  clear ex en0 ed0 eh0
  clear hm
  induction m generalizing v hp0 loc s x n d h with
  | zero =>
    refine wp_forR0 rfl ?_
    try refine wp_end (by assumption) (by assumption) ?_
    refine WP.ok (a := .ret eie) (σ := ⟨_, [], hp0, none⟩) (by unfold eie; simp (decide := true) only [bind_ap, pure_ap, aCall, aMCall, aArgs, aLoc_e, aStore_e, setLoc_e, if_true, if_false, rbind_ok, rbind_exc, aTruth, aSeq]; rfl) ⟨[], rfl, rfl, ?_⟩
    have es : ({ s with due := s.due ++ [] } : PS) = s := by rw [List.append_nil]
    rw [es]
    exact H0
  | succ m ih =>
    refine wp_forR1 (σ1 := ⟨setLoc "turn" (.int x) loc, [], hp0, none⟩) rfl ?_
    have ht : [AV.str "asked", v, .int (deep + x), .int many, .int (hg + x + 1)] = [AV.str "asked", v, .int d, .int many, .int (h + 1)] := by rw [ed, eh]
    refine cps fun X_ k_ => ?_
    obtain ⟨hp1, e1, e2, H1⟩ := app_du H0 (by omega) [.str "asked", v, .int (deep + x), .int many, .int (hg + x + 1)] (by show 5 < 1000000; decide)
    refine k_ ?_
    clear k_ X_
    have r1 := rds hG (H0.alr (V' := Wd L s ++ F) (.tuple [.str "asked", v, .int (deep + x), .int many, .int (hg + x + 1)]) (fun _ h => by exact re_of (.cons (.app .last)) [1, 2] rfl (by decide) h))
    try (refine wp_hide fun l_ => ?_; repeat intro _)
    refine wp_next (by assumption) (by assumption) (σ' := ⟨setLoc "turn" (.int x) loc, [], hp1, none⟩) (by simp (decide := true) only [bind_ap, pure_ap, aCall, aMCall, aArgs, aLoc_e, aStore_e, setLoc_e, if_true, if_false, rbind_ok, rbind_exc, aTruth, l1, l2, l4, l5, l6, rds hG H0, add_e, e1, r1, e2]) ?_
    have m1 := more_ok hG (hp := hp1) hv
    by_cases hk : kind ≤ x
    · try (refine wp_hide fun l_ => ?_; repeat intro _)
      refine wp_retn (by assumption) (by assumption) (v := moreP v 1000) (σ' := ⟨setLoc "turn" (.int x) loc, [], hp1, none⟩) (by simp (decide := true) only [bind_ap, pure_ap, aCall, aMCall, aArgs, aLoc_e, aStore_e, setLoc_e, if_true, if_false, rbind_ok, rbind_exc, aTruth, aSeq, l2, l3, ge_e, decide_eq_true hk, m1]) ?_
      refine ⟨[(hp0.length, [AV.str "asked", v, .int (deep + x), .int many, .int (hg + x + 1)])], ?_, ?_, H1⟩
      · unfold answ
        rw [if_neg (by omega)]
        rfl
      · unfold answ
        rw [if_neg (by omega), ht]
        rfl
    · try (refine wp_hide fun l_ => ?_; repeat intro _)
      refine wp_next (by assumption) (by assumption) (σ' := ⟨setLoc "turn" (.int x) loc, [], hp1, none⟩) (by simp (decide := true) only [bind_ap, pure_ap, aCall, aMCall, aArgs, aLoc_e, aStore_e, setLoc_e, if_true, if_false, rbind_ok, rbind_exc, aTruth, aSeq, l2, l3, ge_e, decide_eq_false hk]) ?_
      try refine wp_end (by assumption) (by assumption) ?_
      refine WP.ok (a := .next) (σ := ⟨setLoc "value" (moreP v 1) (setLoc "turn" (.int x) loc), [], hp1, none⟩) (by simp (decide := true) only [bind_ap, pure_ap, aCall, aMCall, aArgs, aLoc_e, aStore_e, setLoc_e, if_true, if_false, rbind_ok, rbind_exc, aTruth, aSeq, l2, m1]) ?_
      have hpos : 0 ≤ n - 1 := by omega
      have ih' := ih (isVal_more (m := 1) hv) (s := { s with due := s.due ++ [(hp0.length, [AV.str "asked", v, .int (deep + x), .int many, .int (hg + x + 1)])] }) hp1 H1 (setLoc "value" (moreP v 1) (setLoc "turn" (.int x) loc))
        (by simp (decide := true) only [setLoc_e, if_false, l1]) (by simp (decide := true) only [setLoc_e, if_true]) (by simp (decide := true) only [setLoc_e, if_false, l3]) (by simp (decide := true) only [setLoc_e, if_false, l4]) (by simp (decide := true) only [setLoc_e, if_false, l5]) (by simp (decide := true) only [setLoc_e, if_false, l6]) (by simp; omega) (n - 1) (d + 1) (h + 1) (x + 1) (by omega) (by omega) (by omega)
      refine ih'.mono (fun f σ => ?_) fun _ _ h => h
      have up : ∀ (σ : AS) (w : AV), (∃ ns, w = (answ m (n - 1) (moreP v 1) (d + 1) many (h + 1)).1 ∧ ns.map (·.2) = (answ m (n - 1) (moreP v 1) (d + 1) many (h + 1)).2 ∧ Holds σ.hp (Wd L { s with due := s.due ++ [(hp0.length, [AV.str "asked", v, .int (deep + x), .int many, .int (hg + x + 1)])] ++ ns } ++ F)) →
          ∃ ns, w = (answ (m + 1) n v d many h).1 ∧ ns.map (·.2) = (answ (m + 1) n v d many h).2 ∧ Holds σ.hp (Wd L { s with due := s.due ++ ns } ++ F) := by
        intro σ w h_1
        refine cps fun X_ k_ => ?_
        obtain ⟨ns, q1, q2, q3⟩ := h_1
        refine k_ ?_
        clear k_ X_
        refine ⟨(hp0.length, [AV.str "asked", v, .int (deep + x), .int many, .int (hg + x + 1)]) :: ns, ?_, ?_, ?_⟩
        · unfold answ; rw [if_pos hpos]; exact q1
        · unfold answ; rw [if_pos hpos, List.map_cons, q2, ht]
        · simpa only [List.append_assoc, List.cons_append, List.nil_append] using q3
      cases f with
      | next => exact fun h => h.mono (fun f σ => up σ _) fun _ _ h => h
      | ret w => exact up σ _
      | brk => exact up σ _
      | cont => exact up σ _
end
end Mine

open PySem PySem.W PyProof.Rows PySem.Calls
set_option Elab.async false
set_option maxRecDepth 100000
set_option maxHeartbeats 1000000
set_option linter.unusedVariables false
set_option linter.unusedSimpArgs false
namespace Mine
variable {G : Gd}

theorem wp_mid {l : List (AM AF)} {k n : Nat} {m : AM AF} {σ : AS} {Q : AF → AS → Prop} {E : Nat → AS → Prop} (hm : l[k]? = some m) (hl : l.length = n) (M : AF → AS → Prop) (h : WP (m σ) M E) (h2 : ∀ f σ', M f σ' → match f with | .next => WP (aSeq (l.drop (k + 1)) σ') Q E | f => Q f σ') (hk : (k + 1).blt n = true := by rfl) : WP (aSeq (l.drop k) σ) Q E :=
  wp_seq hm hl (h.mono h2 fun _ _ h => h) hk
theorem wp_t {T : AM Bool} {A B : AM AF} {σ σ' : AS} {Q E} (e : T σ = .ok true σ') (h : WP (A σ') Q E) : WP ((do let b ← T; if b = true then A else B : AM AF) σ) Q E := by
  rw [bind_ap, e]; exact h
theorem wp_f {T : AM Bool} {A B : AM AF} {σ σ' : AS} {Q E} (e : T σ = .ok false σ') (h : WP (B σ') Q E) : WP ((do let b ← T; if b = true then A else B : AM AF) σ) Q E := by
  rw [bind_ap, e]; exact h
theorem tuple2 (a b : AV) (loc cs hp hdd) : aTuple [a, b] ⟨loc, cs, hp, hdd⟩ = .ok (.ref hp.length) ⟨loc, cs, hp ++ [.tuple [a, b]], hdd⟩ := rfl
theorem tuple3 (a b c : AV) (loc cs hp hdd) : aTuple [a, b, c] ⟨loc, cs, hp, hdd⟩ = .ok (.ref hp.length) ⟨loc, cs, hp ++ [.tuple [a, b, c]], hdd⟩ := rfl
theorem tuple4 (a b c d : AV) (loc cs hp hdd) : aTuple [a, b, c, d] ⟨loc, cs, hp, hdd⟩ = .ok (.ref hp.length) ⟨loc, cs, hp ++ [.tuple [a, b, c, d]], hdd⟩ := rfl
theorem unpackN (xs : List AV) (k : Nat) (h : xs.length = k) (loc cs hp) : aUnpack k (.ref hp.length) ⟨loc, cs, hp ++ [.tuple xs], none⟩ = .ok xs ⟨loc, cs, hp ++ [.tuple xs], none⟩ := unpack_e (by simp) h (.inl rfl) loc cs
theorem unpack2 (a b : AV) (loc cs hp) : aUnpack 2 (.ref hp.length) ⟨loc, cs, hp ++ [.tuple [a, b]], none⟩ = .ok [a, b] ⟨loc, cs, hp ++ [.tuple [a, b]], none⟩ := unpackN _ _ rfl loc cs hp
theorem unpack4 (a b c d : AV) (loc cs hp) : aUnpack 4 (.ref hp.length) ⟨loc, cs, hp ++ [.tuple [a, b, c, d]], none⟩ = .ok [a, b, c, d] ⟨loc, cs, hp ++ [.tuple [a, b, c, d]], none⟩ := unpackN _ _ rfl loc cs hp

noncomputable def ansK (most kind : Int) (v : AV) (deep many hg : Int) : AV × List (List AV) := if isVal v = true ∧ 0 ≤ kind then answ (most - deep).toNat kind v deep many hg else (v, [])
noncomputable def lastV (at_ : Nat) (p : Plan) : AV := if p.fin < 3 then .int (100 * at_ + p.fin) else .none
/-- what a work comes to -/
noncomputable def dueP (L : Lay) : Nat → Nat → Int → Int → Int → AV × Int × Int × List (List AV)
  | 0, _, _, _, _ => (.none, 0, 0, [])
  | f + 1, at_, cc, fr, hg => match L.plans[at_]? with
    | none => (.none, 0, 0, [])
    | some p =>
      if 0 ≤ p.elder then
        let r := dueP L f p.elder.toNat (cc + p.calls) (fr + p.frames) hg
        let a := ansK L.most p.kind r.1 r.2.1 r.2.2.1 hg
        (if isVal a.1 = true ∧ p.anew = true then a.1 else lastV at_ p, cc + p.calls, fr + p.frames, r.2.2.2 ++ a.2 ++ [[.str "told", a.1]])
      else (lastV at_ p, cc + p.calls, fr + p.frames, [])
theorem dueP_elder {L : Lay} {f at_ : Nat} {cc fr hg : Int} {p : Plan} (h : L.plans[at_]? = some p) (he : 0 ≤ p.elder) : dueP L (f + 1) at_ cc fr hg =
    (if isVal (ansK L.most p.kind (dueP L f p.elder.toNat (cc + p.calls) (fr + p.frames) hg).1 (dueP L f p.elder.toNat (cc + p.calls) (fr + p.frames) hg).2.1 (dueP L f p.elder.toNat (cc + p.calls) (fr + p.frames) hg).2.2.1 hg).1 = true ∧ p.anew = true then (ansK L.most p.kind (dueP L f p.elder.toNat (cc + p.calls) (fr + p.frames) hg).1 (dueP L f p.elder.toNat (cc + p.calls) (fr + p.frames) hg).2.1 (dueP L f p.elder.toNat (cc + p.calls) (fr + p.frames) hg).2.2.1 hg).1 else lastV at_ p,
      cc + p.calls, fr + p.frames, (dueP L f p.elder.toNat (cc + p.calls) (fr + p.frames) hg).2.2.2 ++ (ansK L.most p.kind (dueP L f p.elder.toNat (cc + p.calls) (fr + p.frames) hg).1 (dueP L f p.elder.toNat (cc + p.calls) (fr + p.frames) hg).2.1 (dueP L f p.elder.toNat (cc + p.calls) (fr + p.frames) hg).2.2.1 hg).2 ++
        [[.str "told", (ansK L.most p.kind (dueP L f p.elder.toNat (cc + p.calls) (fr + p.frames) hg).1 (dueP L f p.elder.toNat (cc + p.calls) (fr + p.frames) hg).2.1 (dueP L f p.elder.toNat (cc + p.calls) (fr + p.frames) hg).2.2.1 hg).1]]) := by
  rw [dueP]
  simp only [h, if_pos he]
theorem dueP_last {L : Lay} {f at_ : Nat} {cc fr hg : Int} {p : Plan} (h : L.plans[at_]? = some p) (he : ¬ 0 ≤ p.elder) : dueP L (f + 1) at_ cc fr hg = (lastV at_ p, cc + p.calls, fr + p.frames, []) := by
  rw [dueP]
  simp only [h, if_neg he]
structure PlansOk (L : Lay) : Prop where
  len : L.plans.length ≤ 4
  most : L.most < 500
  elder : ∀ (i : Nat) (p : Plan), L.plans[i]? = some p → -1 ≤ p.elder ∧ p.elder < i
  frames : ∀ (i : Nat) (p : Plan), L.plans[i]? = some p → 0 ≤ p.frames ∧ p.frames ≤ 2
  calls : ∀ (i : Nat) (p : Plan), L.plans[i]? = some p → 0 ≤ p.calls ∧ p.calls ≤ 2
  places : ∀ (i : Nat) (p : Plan), L.plans[i]? = some p → p.places.length ≤ 2 ∧ ∀ x ∈ p.places, 0 ≤ x ∧ x < 8
noncomputable def valN (v : AV) : Prop := isVal v = true ∨ v = .none
theorem lastV_val (at_ : Nat) (p : Plan) : valN (lastV at_ p) := by unfold lastV; split; exact .inl rfl; exact .inr rfl
theorem ansK_val {most kind : Int} {v : AV} {deep many hg : Int} (h : valN v) : valN (ansK most kind v deep many hg).1 := by
  unfold ansK
  split
  · rename_i q; exact .inl (answ_val _ _ _ _ _ _ q.1)
  · exact h
theorem dueP_val (L : Lay) : ∀ (f at_ : Nat) (cc fr hg : Int), valN (dueP L f at_ cc fr hg).1
  | 0, _, _, _, _ => .inr rfl
  | f + 1, at_, cc, fr, hg => by
    unfold dueP
    split
    · exact .inr rfl
    · split
      · dsimp only
        split
        · rename_i q; exact .inl q.1
        · exact lastV_val _ _
      · exact lastV_val _ _
theorem dueP_cc {L : Lay} (P : PlansOk L) {f at_ : Nat} {cc fr hg : Int} (h : at_ < L.plans.length) (h0 : 0 ≤ cc) : 0 ≤ (dueP L (f + 1) at_ cc fr hg).2.1 := by
  have e := List.getElem?_eq_getElem h
  have := P.calls _ _ e
  unfold dueP
  rw [e]
  dsimp only
  split <;> dsimp only <;> omega
theorem dueP_cc1 {L : Lay} (P : PlansOk L) {f at_ : Nat} {cc fr hg : Int} (hf : 0 < f) (h : at_ < L.plans.length) (h0 : 0 ≤ cc) : 0 ≤ (dueP L f at_ cc fr hg).2.1 := by
  obtain ⟨g, rfl⟩ : ∃ g, f = g + 1 := ⟨f - 1, by omega⟩
  exact dueP_cc P h h0
theorem ansK_len {L : Lay} (P : PlansOk L) {kind : Int} {v : AV} {deep many hg : Int} (h : 0 ≤ deep) : (ansK L.most kind v deep many hg).2.length ≤ 500 := by
  have := P.most
  unfold ansK
  split
  · have := answ_len (L.most - deep).toNat kind v deep many hg
    omega
  · exact Nat.zero_le _
theorem dueP_len {L : Lay} (P : PlansOk L) : ∀ (f at_ : Nat) (cc fr hg : Int), at_ < L.plans.length → at_ < f → 0 ≤ cc → (dueP L f at_ cc fr hg).2.2.2.length ≤ 501 * f
  | 0, _, _, _, _, _, _, _ => Nat.zero_le _
  | f + 1, at_, cc, fr, hg, h, h1, h0 => by
    have e := List.getElem?_eq_getElem h
    have c := P.calls _ _ e
    have el := P.elder _ _ e
    unfold dueP
    rw [e]
    dsimp only
    split
    · rename_i q
      dsimp only
      have a := dueP_len P f (L.plans[at_].elder.toNat) (cc + L.plans[at_].calls) (fr + L.plans[at_].frames) hg (by omega) (by omega) (by omega)
      have b := ansK_len P (kind := L.plans[at_].kind) (v := (dueP L f (L.plans[at_].elder.toNat) (cc + L.plans[at_].calls) (fr + L.plans[at_].frames) hg).1) (many := (dueP L f (L.plans[at_].elder.toNat) (cc + L.plans[at_].calls) (fr + L.plans[at_].frames) hg).2.2.1) (hg := hg)
        (dueP_cc1 P (f := f) (hf := by omega) (fr := fr + L.plans[at_].frames) (hg := hg) (at_ := L.plans[at_].elder.toNat) (by omega) (cc := cc + L.plans[at_].calls) (by omega))
      simp only [List.length_append, List.length_singleton]
      omega
    · exact Nat.zero_le _

section
variable {L : Lay} {s : PS} {F : HV}
theorem plan_at {hp : List AO} (H : Holds hp (Wd L s ++ F)) {i : Nat} {p : Plan} (h : L.plans[i]? = some p) : hp[L.pl]? = some (.list (L.plans.map fun p => .ref p.t)) ∧ hp[p.t]? = some (.tuple (planT p)) ∧ hp[p.p]? = some (.list (p.places.map .int)) := by
  have m : ∀ q ∈ planV p, q ∈ Wd L s ++ F := fun q hq => by
    refine List.mem_append_left _ (.tail _ (.tail _ (.tail _ (.tail _ (.tail _ (.tail _ (.tail _ (.tail _ (.tail _ ?_)))))))))
    exact List.mem_append_left _ (List.mem_flatMap.mpr ⟨p, List.mem_of_getElem? h, hq⟩)
  exact ⟨H.2 _ (.tail _ (.tail _ (.tail _ (.tail _ (.tail _ (.tail _ (.tail _ (.tail _ (.head _))))))))), H.2 (p.t, _) (m _ (.head _)), H.2 (p.p, _) (m _ (.tail _ (.head _)))⟩
theorem plan_item {hp : List AO} (H : Holds hp (Wd L s ++ F)) (P : PlansOk L) {i : Nat} {p : Plan} (h : L.plans[i]? = some p) (loc cs hdd) : aItem (.ref L.pl) (.int i) ⟨loc, cs, hp, hdd⟩ = .ok (.ref p.t) ⟨loc, cs, hp, hdd⟩ :=
  item_list (plan_at H h).1 (by rw [List.getElem?_map, h]; rfl) (by have := P.len; simp; omega) loc cs hdd
theorem plan_unpack {hp : List AO} (H : Holds hp (Wd L s ++ F)) {i : Nat} {p : Plan} (h : L.plans[i]? = some p) (loc cs) : aUnpack 7 (.ref p.t) ⟨loc, cs, hp, none⟩ = .ok [.int p.frames, .int p.calls, .ref p.p, .int p.elder, .int p.kind, .bool p.anew, .int p.fin] ⟨loc, cs, hp, none⟩ :=
  unpack_e (plan_at H h).2.1 rfl (.inl rfl) loc cs

theorem due_ok (hG : Known G) (P : PlansOk L) : ∀ (f at_ : Nat) (s : PS) (F : HV) (hp : List AO) (cc fr hg : Int), at_ < L.plans.length → at_ < f → 0 ≤ cc → Holds hp (Wd L s ++ F) → s.due.length + 502 * f + 2000 < 900000 →
    ∃ w hp', (∀ loc cs, dueF hG f [.ref L.w, .int at_, .int cc, .int fr, .int hg] ⟨loc, cs, hp, none⟩ = .ok w ⟨loc, cs, hp', none⟩) ∧
      ∃ r ns, w = .ref r ∧ ns.map (·.2) = (dueP L f at_ cc fr hg).2.2.2 ∧
        Holds hp' (Wd L { s with due := s.due ++ ns } ++ ((r, .tuple [(dueP L f at_ cc fr hg).1, .int (dueP L f at_ cc fr hg).2.1, .int (dueP L f at_ cc fr hg).2.2.1]) :: F))
  | 0, at_, s, F, hp, cc, fr, hg, h1, h2, h0, H, hn => by omega
  | f + 1, at_, s, F, hp, cc, fr, hg, h1, h2, h0, H, hn => by
    obtain ⟨p, hp_⟩ : ∃ p, L.plans[at_]? = some p := ⟨_, List.getElem?_eq_getElem h1⟩
    have el := P.elder _ _ hp_
    have cl := P.calls _ _ hp_
    have fm := P.frames _ _ hp_
    refine fn_of (ps := ["world", "at", "ccalls", "frames", "handling"]) rfl ?_
    unfold d_244
    dsimp only [bindF]
    try (refine wp_hide fun l_ => ?_; repeat intro _)
    refine wp_next (by assumption) (by assumption) (σ' := ⟨_, [], hp, none⟩) (by simp (decide := true) only [bind_ap, pure_ap, aCall, aMCall, aArgs, aLoc_e, aStore_e, setLoc_e, if_true, if_false, rbind_ok, rbind_exc, aTruth, rds hG H, plan_item H P hp_, List.length_cons, List.length_nil, plan_unpack H hp_, aStores]; rfl) ?_
    have H1 : Holds (hp ++ [AO.tuple [.int (cc + p.calls), .int (fr + p.frames)]]) (Wd L s ++ F) := H.alr _ (fun _ h => by exact re_of (.cons (.app .last)) [1, 2] rfl (by decide) h)
    try (refine wp_hide fun l_ => ?_; repeat intro _)
    refine wp_next (by assumption) (by assumption) (σ' := ⟨_, [], hp ++ [AO.tuple [.int (cc + p.calls), .int (fr + p.frames)]], none⟩) (by simp (decide := true) only [bind_ap, pure_ap, aCall, aMCall, aArgs, aLoc_e, aStore_e, setLoc_e, if_true, if_false, rbind_ok, rbind_exc, aTruth, add_e, tuple2, List.length_cons, List.length_nil, Nat.reduceAdd, unpack2, List.reverse_cons, List.reverse_nil, List.nil_append, List.cons_append, aStores]; rfl) ?_
    generalize hp ++ [AO.tuple [.int (cc + p.calls), .int (fr + p.frames)]] = hp1 at H1 ⊢
    try (refine wp_hide fun l_ => ?_; repeat intro _)
    refine wp_mid (by assumption) (by assumption) (fun f' σ' => ∃ loc hp' ns, σ' = ⟨loc, [], hp', none⟩ ∧ loc "end" = some (.int p.fin) ∧ loc "at" = some (.int at_) ∧ loc "ccalls" = some (.int (cc + p.calls)) ∧ loc "frames" = some (.int (fr + p.frames)) ∧
      ((f' = .next ∧ dueP L (f + 1) at_ cc fr hg = (lastV at_ p, cc + p.calls, fr + p.frames, ns.map (·.2)) ∧ Holds hp' (Wd L { s with due := s.due ++ ns } ++ F)) ∨
       (∃ r v, f' = .ret (.ref r) ∧ dueP L (f + 1) at_ cc fr hg = (v, cc + p.calls, fr + p.frames, ns.map (·.2)) ∧ Holds hp' (Wd L { s with due := s.due ++ ns } ++ ((r, .tuple [v, .int (cc + p.calls), .int (fr + p.frames)]) :: F))))) ?_ ?_
    · by_cases he : 0 ≤ p.elder
      · try refine wp_end (by assumption) (by assumption) ?_
        refine wp_t (σ' := ⟨_, [], hp1, none⟩) (by simp (decide := true) only [bind_ap, pure_ap, aCall, aMCall, aArgs, aLoc_e, aStore_e, setLoc_e, if_true, if_false, rbind_ok, rbind_exc, aTruth, ge_e, decide_eq_true he]; rfl) ?_
        refine cps fun X_ k_ => ?_
        obtain ⟨w, hp2, e2, r, ns, rfl, q2, H2⟩ := due_ok hG P f p.elder.toNat s F hp1 (cc + p.calls) (fr + p.frames) hg (by omega) (by omega) (by omega) H1 (by omega)
        refine k_ ?_
        clear k_ X_
        rw [show ((p.elder.toNat : Nat) : Int) = p.elder by omega] at e2
        have el2 := dueP_len P f p.elder.toNat (cc + p.calls) (fr + p.frames) hg (by omega) (by omega) (by omega)
        have vl := dueP_val L f p.elder.toNat (cc + p.calls) (fr + p.frames) hg
        have cc2 : 0 ≤ (dueP L f p.elder.toNat (cc + p.calls) (fr + p.frames) hg).2.1 := by
          exact dueP_cc1 P (by omega) (by omega) (by omega)
        have ed := dueP_elder (f := f) (cc := cc) (fr := fr) (hg := hg) hp_ he
        rw [ed]
        generalize dueP L f p.elder.toNat (cc + p.calls) (fr + p.frames) hg = D at *
        refine cps fun X_ k_ => ?_
        obtain ⟨v, deep, many, l⟩ := D
        refine k_ ?_
        clear k_ X_
        dsimp only at q2 H2 vl cc2 el2 ⊢
        have ln : ns.length = l.length := by rw [← q2, List.length_map]
        have u3 := fun loc => unpack_e (hdd := none) (k := 3) (mem_F H2 (.head _)) rfl (.inl rfl) loc []
        try (refine wp_hide fun l_ => ?_; repeat intro _)
        refine wp_next (by assumption) (by assumption) (σ' := ⟨_, [], hp2, none⟩) (by simp (decide := true) only [bind_ap, pure_ap, aCall, aMCall, aArgs, aLoc_e, aStore_e, setLoc_e, if_true, if_false, rbind_ok, rbind_exc, aTruth, e2, List.length_cons, List.length_nil, u3, aStores]; rfl) ?_
        have H2' : Holds hp2 (Wd L { s with due := s.due ++ ns } ++ F) := H2.wkr (fun _ h => by exact re_of (.app (.cons .last)) [0, 2] rfl (by decide) h)
        clear H2 u3 e2 H1
        try (refine wp_hide fun l_ => ?_; repeat intro _)
        refine wp_mid (by assumption) (by assumption) (fun f' σ' => f' = .next ∧ ∃ loc hp' ns2, σ' = ⟨loc, [], hp', none⟩ ∧ loc "end" = some (.int p.fin) ∧ loc "at" = some (.int at_) ∧ loc "ccalls" = some (.int (cc + p.calls)) ∧ loc "frames" = some (.int (fr + p.frames)) ∧ loc "is_anew" = some (.bool p.anew) ∧ loc "world" = some (.ref L.w) ∧
          loc "value" = some (ansK L.most p.kind v deep many hg).1 ∧ ns2.map (·.2) = (ansK L.most p.kind v deep many hg).2 ∧ Holds hp' (Wd L { s with due := s.due ++ ns ++ ns2 } ++ F)) ?_ ?_
        · have keep : ∀ σ' : AS, (∃ loc, σ' = ⟨loc, [], hp2, none⟩ ∧ loc "end" = some (.int p.fin) ∧ loc "at" = some (.int at_) ∧ loc "ccalls" = some (.int (cc + p.calls)) ∧ loc "frames" = some (.int (fr + p.frames)) ∧ loc "is_anew" = some (.bool p.anew) ∧ loc "world" = some (.ref L.w) ∧ loc "value" = some v) → ansK L.most p.kind v deep many hg = (v, []) →
              ∃ loc hp' ns2, σ' = ⟨loc, [], hp', none⟩ ∧ loc "end" = some (.int p.fin) ∧ loc "at" = some (.int at_) ∧ loc "ccalls" = some (.int (cc + p.calls)) ∧ loc "frames" = some (.int (fr + p.frames)) ∧ loc "is_anew" = some (.bool p.anew) ∧ loc "world" = some (.ref L.w) ∧
          loc "value" = some (ansK L.most p.kind v deep many hg).1 ∧ ns2.map (·.2) = (ansK L.most p.kind v deep many hg).2 ∧ Holds hp' (Wd L { s with due := s.due ++ ns ++ ns2 } ++ F) := by
            intro σ' h_1 e
            refine cps fun X_ k_ => ?_
            obtain ⟨loc, rfl, l1, l2, l3, l4, l5, l6, l7⟩ := h_1
            refine k_ ?_
            clear k_ X_
            rw [e]
            exact ⟨loc, hp2, [], rfl, l1, l2, l3, l4, l5, l6, l7, rfl, by rw [List.append_nil]; exact H2'⟩
          rcases vl with hv | rfl
          · by_cases hk : 0 ≤ p.kind
            · have ea : ansK L.most p.kind v deep many hg = answ (L.most - deep).toNat p.kind v deep many hg := by unfold ansK; rw [if_pos ⟨hv, hk⟩]
              have pm := P.most
              refine cps fun X_ k_ => ?_
              obtain ⟨w, hp3, e3, ns2, rfl, q3, H3⟩ := answered_ok hG hv H2' p.kind deep many hg (by omega) (by simp; omega)
              refine k_ ?_
              clear k_ X_
              rw [ea]
              try refine wp_end (by assumption) (by assumption) ?_
              refine wp_t (σ' := ⟨_, [], hp2, none⟩) (by simp (decide := true) only [bind_ap, pure_ap, aCall, aMCall, aArgs, aLoc_e, aStore_e, setLoc_e, if_true, if_false, rbind_ok, rbind_exc, aTruth, aAnd, isnt_val hv, ge_e, decide_eq_true hk]; rfl) ?_
              try refine wp_end (by assumption) (by assumption) ?_
              refine WP.ok (a := .next) (σ := ⟨_, [], hp3, none⟩) (by simp (decide := true) only [bind_ap, pure_ap, aCall, aMCall, aArgs, aLoc_e, aStore_e, setLoc_e, if_true, if_false, rbind_ok, rbind_exc, aTruth, aSeq, e3]; rfl) ⟨rfl, _, hp3, ns2, rfl, rfl, rfl, rfl, rfl, rfl, rfl, rfl, q3, H3⟩
            · have ea : ansK L.most p.kind v deep many hg = (v, []) := by unfold ansK; rw [if_neg fun h => hk h.2]
              try refine wp_end (by assumption) (by assumption) ?_
              refine wp_f (σ' := ⟨_, [], hp2, none⟩) (by simp (decide := true) only [bind_ap, pure_ap, aCall, aMCall, aArgs, aLoc_e, aStore_e, setLoc_e, if_true, if_false, rbind_ok, rbind_exc, aTruth, aAnd, isnt_val hv, ge_e, decide_eq_false hk]; rfl) ?_
              exact ⟨rfl, keep _ ⟨_, rfl, rfl, rfl, rfl, rfl, rfl, rfl, rfl⟩ ea⟩
          · have ea : ansK L.most p.kind .none deep many hg = (.none, []) := by unfold ansK; rw [if_neg fun h => by cases h.1]
            try refine wp_end (by assumption) (by assumption) ?_
            refine wp_f (σ' := ⟨_, [], hp2, none⟩) (by simp (decide := true) only [bind_ap, pure_ap, aCall, aMCall, aArgs, aLoc_e, aStore_e, setLoc_e, if_true, if_false, rbind_ok, rbind_exc, aTruth, aAnd, isnt_none]; rfl) ?_
            exact ⟨rfl, keep _ ⟨_, rfl, rfl, rfl, rfl, rfl, rfl, rfl, rfl⟩ ea⟩
        intro f' σ' h_2
        refine cps fun X_ k_ => ?_
        obtain ⟨rfl, loc, hp3, ns2, rfl, l1, l2, l3, l4, l5, l6, l7, q3, H3⟩ := h_2
        refine k_ ?_
        clear k_ X_
        dsimp only
        have al := ansK_len P (kind := p.kind) (v := v) (deep := deep) (many := many) (hg := hg) cc2
        have av := ansK_val (most := L.most) (kind := p.kind) (deep := deep) (many := many) (hg := hg) vl
        generalize ansK L.most p.kind v deep many hg = a at *
        obtain ⟨av', al'⟩ := a
        dsimp only at l7 q3 al av ⊢
        have ln2 : ns2.length = al'.length := by rw [← q3, List.length_map]
        refine cps fun X_ k_ => ?_
        obtain ⟨hp4, e4, e5, H4⟩ := app_du H3 (by simp; omega) [.str "told", av'] (by show 2 < 1000000; decide)
        refine k_ ?_
        clear k_ X_
        have r1 := rds hG (H3.alr (V' := Wd L { s with due := s.due ++ ns ++ ns2 } ++ F) (.tuple [.str "told", av']) (fun _ h => by exact re_of (.cons (.app .last)) [1, 2] rfl (by decide) h))
        try (refine wp_hide fun l_ => ?_; repeat intro _)
        refine wp_next (by assumption) (by assumption) (σ' := ⟨loc, [], hp4, none⟩) (by simp (decide := true) only [bind_ap, pure_ap, aCall, aMCall, aArgs, aLoc_e, aStore_e, setLoc_e, if_true, if_false, rbind_ok, rbind_exc, aTruth, l6, l7, rds hG H3, e4, r1, e5]) ?_
        have qn : (ns ++ ns2 ++ [(hp3.length, [AV.str "told", av'])]).map (·.2) = l ++ al' ++ [[.str "told", av']] := by rw [List.map_append, List.map_append, q2, q3]; rfl
        have H4' : Holds hp4 (Wd L { s with due := s.due ++ (ns ++ ns2 ++ [(hp3.length, [AV.str "told", av'])]) } ++ F) := by simpa only [List.append_assoc] using H4
        have stop : ∀ σ' : AS, σ' = ⟨loc, [], hp4, none⟩ → ¬ (isVal av' = true ∧ p.anew = true) → ∃ loc hp' ns_1, σ' = ⟨loc, [], hp', none⟩ ∧ loc "end" = some (.int p.fin) ∧ loc "at" = some (.int at_) ∧ loc "ccalls" = some (.int (cc + p.calls)) ∧ loc "frames" = some (.int (fr + p.frames)) ∧
            ((AF.next = .next ∧ ((if isVal av' = true ∧ p.anew = true then av' else lastV at_ p, cc + p.calls, fr + p.frames, l ++ al' ++ [[AV.str "told", av']]) : AV × Int × Int × List (List AV)) = (lastV at_ p, cc + p.calls, fr + p.frames, ns_1.map (·.2)) ∧ Holds hp' (Wd L { s with due := s.due ++ ns_1 } ++ F)) ∨
             (∃ r v, AF.next = .ret (.ref r) ∧ ((if isVal av' = true ∧ p.anew = true then av' else lastV at_ p, cc + p.calls, fr + p.frames, l ++ al' ++ [[AV.str "told", av']]) : AV × Int × Int × List (List AV)) = (v, cc + p.calls, fr + p.frames, ns_1.map (·.2)) ∧ Holds hp' (Wd L { s with due := s.due ++ ns_1 } ++ ((r, .tuple [v, .int (cc + p.calls), .int (fr + p.frames)]) :: F)))) := by
          rintro σ' rfl hno
          rw [if_neg hno]
          exact ⟨loc, hp4, _, rfl, l1, l2, l3, l4, .inl ⟨rfl, by rw [qn], H4'⟩⟩
        rcases av with hv | rfl
        · cases ha : p.anew with
          | false =>
            rw [ha] at l5
            try refine wp_end (by assumption) (by assumption) ?_
            refine wp_f (σ' := ⟨loc, [], hp4, none⟩) (by simp (decide := true) only [bind_ap, pure_ap, aCall, aMCall, aArgs, aLoc_e, aStore_e, setLoc_e, if_true, if_false, rbind_ok, rbind_exc, aTruth, aAnd, l7, l5, isnt_val hv]) ?_
            rw [← ha]
            exact stop _ rfl fun h => by rw [ha] at h; cases h.2
          | true =>
            rw [ha] at l5
            try refine wp_end (by assumption) (by assumption) ?_
            refine wp_t (σ' := ⟨loc, [], hp4, none⟩) (by simp (decide := true) only [bind_ap, pure_ap, aCall, aMCall, aArgs, aLoc_e, aStore_e, setLoc_e, if_true, if_false, rbind_ok, rbind_exc, aTruth, aAnd, l7, l5, isnt_val hv]) ?_
            try refine wp_end (by assumption) (by assumption) ?_
            refine WP.ok (a := .ret (.ref hp4.length)) (σ := ⟨loc, [], hp4 ++ [.tuple [av', .int (cc + p.calls), .int (fr + p.frames)]], none⟩) (by simp (decide := true) only [bind_ap, pure_ap, aCall, aMCall, aArgs, aLoc_e, aStore_e, setLoc_e, if_true, if_false, rbind_ok, rbind_exc, aTruth, aSeq, l7, l3, l4, tuple3]) ?_
            rw [if_pos ⟨hv, rfl⟩]
            refine ⟨loc, _, _, rfl, l1, l2, l3, l4, .inr ⟨hp4.length, av', rfl, by rw [qn], H4'.al _ fun x => ?_⟩⟩
            simp +arith only [List.count_cons, List.count_append]
        · try refine wp_end (by assumption) (by assumption) ?_
          refine wp_f (σ' := ⟨loc, [], hp4, none⟩) (by simp (decide := true) only [bind_ap, pure_ap, aCall, aMCall, aArgs, aLoc_e, aStore_e, setLoc_e, if_true, if_false, rbind_ok, rbind_exc, aTruth, aAnd, l7, isnt_none]) ?_
          exact stop _ rfl fun h => by cases h.1
      · try refine wp_end (by assumption) (by assumption) ?_
        refine wp_f (σ' := ⟨_, [], hp1, none⟩) (by simp (decide := true) only [bind_ap, pure_ap, aCall, aMCall, aArgs, aLoc_e, aStore_e, setLoc_e, if_true, if_false, rbind_ok, rbind_exc, aTruth, ge_e, decide_eq_false he]; rfl) ?_
        refine ⟨_, hp1, [], rfl, rfl, rfl, rfl, rfl, .inl ⟨rfl, ?_, ?_⟩⟩
        · unfold dueP
          rw [hp_]
          dsimp only
          rw [if_neg he]
          rfl
        · rw [show ({ s with due := s.due ++ [] } : PS) = s by rw [List.append_nil]]
          exact H1
    · intro f' σ' h_3
      refine cps fun X_ k_ => ?_
      obtain ⟨loc, hp', ns, rfl, l1, l2, l3, l4, h⟩ := h_3
      refine k_ ?_
      clear k_ X_
      refine cps fun X_ k_ => ?_
      rcases h with ⟨rfl, ed, H'⟩ | ⟨r, v, rfl, ed, H'⟩
      all_goals refine k_ ?_
      all_goals clear k_ X_
      · dsimp only
        rw [ed]
        by_cases q : p.fin < 3
        · have e : lastV at_ p = .int (100 * at_ + p.fin) := by unfold lastV; rw [if_pos q]
          rw [e]
          try refine wp_end (by assumption) (by assumption) ?_
          refine WP.ok (a := .ret (.ref hp'.length)) (σ := ⟨loc, [], hp' ++ [.tuple [.int (100 * at_ + p.fin), .int (cc + p.calls), .int (fr + p.frames)]], none⟩) (by simp (decide := true) only [bind_ap, pure_ap, aCall, aMCall, aArgs, aLoc_e, aStore_e, setLoc_e, if_true, if_false, rbind_ok, rbind_exc, aTruth, aSeq, l1, l2, l3, l4, lt_e, decide_eq_true q, mul_e, small, add_e, tuple3]) ⟨hp'.length, ns, rfl, rfl, H'.al _ fun x => ?_⟩
          simp +arith only [List.count_cons, List.count_append]
        · have e : lastV at_ p = .none := by unfold lastV; rw [if_neg q]
          rw [e]
          try refine wp_end (by assumption) (by assumption) ?_
          refine WP.ok (a := .ret (.ref hp'.length)) (σ := ⟨loc, [], hp' ++ [.tuple [.none, .int (cc + p.calls), .int (fr + p.frames)]], none⟩) (by simp (decide := true) only [bind_ap, pure_ap, aCall, aMCall, aArgs, aLoc_e, aStore_e, setLoc_e, if_true, if_false, rbind_ok, rbind_exc, aTruth, aSeq, l1, l2, l3, l4, lt_e, decide_eq_false q, tuple3]) ⟨hp'.length, ns, rfl, rfl, H'.al _ fun x => ?_⟩
          simp +arith only [List.count_cons, List.count_append]
      · dsimp only
        rw [ed]
        exact ⟨r, ns, rfl, rfl, H'⟩
end
end Mine

open PySem PySem.W PyProof.Rows PySem.Calls
set_option Elab.async false
set_option maxRecDepth 100000
set_option maxHeartbeats 1000000
set_option linter.unusedVariables false
set_option linter.unusedSimpArgs false
namespace Mine
variable {G : Gd}

noncomputable def Eqx (loc loc0 : Str → Option AV) (x : Str) : Prop := ∀ y, y ≠ x → loc y = loc0 y
theorem Eqx.set {loc loc0 : Str → Option AV} {x : Str} (h : Eqx loc loc0 x) (v : AV) : Eqx (setLoc x v loc) loc0 x := fun y hy => by rw [setLoc_e, if_neg hy]; exact h y hy
theorem Eqx.rfl' {loc : Str → Option AV} {x : Str} : Eqx loc loc x := fun _ _ => rfl
theorem wp_ex {r : Res AF} {loc : Str → Option AV} {cs hdd} {P : List AO → Prop} {Q : AF → AS → Prop} {E : Nat → AS → Prop} (h : ∃ hp', r = .ok .next ⟨loc, cs, hp', hdd⟩ ∧ P hp') (k : ∀ hp', P hp' → Q .next ⟨loc, cs, hp', hdd⟩) : WP r Q E := by
  refine cps fun X_ k_ => ?_
  obtain ⟨hp', e, p⟩ := h
  refine k_ ?_
  clear k_ X_
  exact WP.ok e (k hp' p)
theorem inv_eq {r r' : Res AF} {J : AS → Prop} (e : r = r') (h : ∃ σ', r' = .ok .next σ' ∧ J σ') : ∃ σ', r = .ok .next σ' ∧ J σ' := by rw [e]; exact h
theorem fn_ofB {ps : List Str} {mb : AM AF} {as : List AV} {hp : List AO} {hdd : Option Nat} {P : AV → List AO → Prop} {R : Nat → List AO → Prop} (hl : as.length = ps.length)
    (h : WP (mb ⟨bindF noLoc ps as, [], hp, hdd⟩) (fun f σ' => P (retOf f) σ'.hp) fun x σ' => R x σ'.hp) :
    (∃ v hp', (∀ loc cs, aFn ps mb as ⟨loc, cs, hp, hdd⟩ = .ok v ⟨loc, cs, hp', hdd⟩) ∧ P v hp') ∨ (∃ x hp', (∀ loc cs, aFn ps mb as ⟨loc, cs, hp, hdd⟩ = .exc x ⟨loc, cs, hp', hdd⟩) ∧ R x hp') := by
  cases e : mb ⟨bindF noLoc ps as, [], hp, hdd⟩ with
  | ok f σ' =>
    rw [e] at h
    have h : P (retOf f) σ'.hp := h
    exact .inl (fn_of (P := P) hl (by rw [e]; exact h))
  | exc x σ' =>
    rw [e] at h
    have h : R x σ'.hp := h
    exact .inr (fn_ofx (P := R) hl (by rw [e]; exact h))
  | stuck => rw [e] at h; exact h.elim

theorem Good.of {L : Lay} {s s' : PS} (g : Good L s) (h1 : s'.stack = s.stack) (h2 : s'.ops = s.ops) (h3 : s'.top = s.top) : Good L s' :=
  ⟨by rw [h1]; exact g.stack, by rw [h2]; exact g.sorted, by rw [h2]; exact g.range, by rw [h3]; exact g.top⟩

noncomputable def DoneQ (L : Lay) (s : PS) (F : HV) (D : AV × Int × Int × List (List AV)) (hp' : List AO) : Prop := D.1 = .none ∧ ∃ st ops ns, ns.map (·.2) = D.2.2.2 ∧ Good L { s with stack := st, ops := ops } ∧ Holds hp' (Wd L { s with stack := st, ops := ops, notes := s.notes ++ ns } ++ F)
noncomputable def DoneE (L : Lay) (s : PS) (F : HV) (D : AV × Int × Int × List (List AV)) (x : Nat) (hp' : List AO) : Prop := isVal D.1 = true ∧ ∃ st ops ns fr top d t, ns.map (·.2) = D.2.2.2 ∧ ((s.frames ++ fr).length : Int) = D.2.2.1 ∧ fr.length ≤ 2 ∧ Good L { s with stack := st, ops := ops, top := top } ∧
  Holds hp' (Wd L { s with stack := st, ops := ops, notes := s.notes ++ ns, frames := s.frames ++ fr, ccalls := D.2.1, top := top } ++ ((x, .exc 45 (some d) true false) :: (d, .dict (excD D.1 t)) :: F))
noncomputable def GuardQ (L : Lay) (s : PS) (F : HV) (a : AV × List (List AV)) (l : List (List AV)) (w : AV) (hp' : List AO) : Prop := ∃ st ops ns, w = a.1 ∧ ns.map (·.2) = l ++ a.2 ∧ Good L { s with stack := st, ops := ops } ∧ Holds hp' (Wd L { s with stack := st, ops := ops, notes := s.notes ++ ns } ++ F)
structure Room (L : Lay) (s : PS) (j : Nat) : Prop where
  good : Good L s
  fr : s.frames.length + 2 * j < 900
  cc : 0 ≤ s.ccalls
  nt : s.notes.length + 502 * j + 2000 < 900000
  well : s.well = true
noncomputable def GuardP (hG : Known G) (L : Lay) (j : Nat) : Prop := ∀ (at_ : Nat) (s : PS) (F : HV) (hp : List AO) (kind : Int), at_ < L.plans.length → at_ < j → Room L s j → Holds hp (Wd L s ++ F) →
  ∃ w hp', (∀ loc cs, guardF hG j [.ref L.w, .int at_, .int kind] ⟨loc, cs, hp, none⟩ = .ok w ⟨loc, cs, hp', none⟩) ∧
    GuardQ L s F (ansK L.most kind (dueP L j at_ s.ccalls s.frames.length s.handling).1 (dueP L j at_ s.ccalls s.frames.length s.handling).2.1 (dueP L j at_ s.ccalls s.frames.length s.handling).2.2.1 s.handling) (dueP L j at_ s.ccalls s.frames.length s.handling).2.2.2 w hp'

section
variable {L : Lay} {s : PS} {F : HV}
theorem done_ok (hG : Known G) (P : PlansOk L) (j : Nat) (gp : GuardP hG L j) (at_ : Nat) (hp : List AO) (h1 : at_ < L.plans.length) (h2 : at_ < j + 1) (R : Room L s (j + 1)) (H : Holds hp (Wd L s ++ F)) :
    (∃ w hp', (∀ loc cs, aFn ["world", "at"] (d_237 hG (guardF hG j)).1 [.ref L.w, .int at_] ⟨loc, cs, hp, none⟩ = .ok w ⟨loc, cs, hp', none⟩) ∧ DoneQ L s F (dueP L (j + 1) at_ s.ccalls s.frames.length s.handling) hp') ∨
    (∃ x hp', (∀ loc cs, aFn ["world", "at"] (d_237 hG (guardF hG j)).1 [.ref L.w, .int at_] ⟨loc, cs, hp, none⟩ = .exc x ⟨loc, cs, hp', none⟩) ∧ DoneE L s F (dueP L (j + 1) at_ s.ccalls s.frames.length s.handling) x hp') := by
  obtain ⟨p, hp_⟩ : ∃ p, L.plans[at_]? = some p := ⟨_, List.getElem?_eq_getElem h1⟩
  have el := P.elder _ _ hp_
  have cl := P.calls _ _ hp_
  have fm := P.frames _ _ hp_
  have plc := P.places _ _ hp_
  have g := R.good
  have Rf := R.fr
  have Rn := R.nt
  have Rc := R.cc
  refine fn_ofB rfl ?_
  unfold d_237
  dsimp only [bindF]
  try (refine wp_hide fun l_ => ?_; repeat intro _)
  refine wp_next (by assumption) (by assumption) (σ' := ⟨_, [], hp, none⟩) (by simp (decide := true) only [bind_ap, pure_ap, aCall, aMCall, aArgs, aLoc_e, aStore_e, setLoc_e, if_true, if_false, rbind_ok, rbind_exc, aTruth, rds hG H, plan_item H P hp_, List.length_cons, List.length_nil, plan_unpack H hp_, aStores]; rfl) ?_
  try (refine wp_hide fun l_ => ?_; repeat intro _)
  refine wp_next (by assumption) (by assumption) (σ' := ⟨_, [], hp, none⟩) (by simp (decide := true) only [bind_ap, pure_ap, aCall, aMCall, aArgs, aLoc_e, aStore_e, setLoc_e, if_true, if_false, rbind_ok, rbind_exc, aTruth, rds hG H]; rfl) ?_
  have H1 : Holds (hp ++ [AO.tuple [.int s.frames.length, .int s.top]]) (Wd L s ++ F) := H.alr _ (fun _ h => by exact re_of (.cons (.app .last)) [1, 2] rfl (by decide) h)
  try (refine wp_hide fun l_ => ?_; repeat intro _)
  refine wp_next (by assumption) (by assumption) (σ' := ⟨setLoc "depth" (.int s.frames.length) (setLoc "top" (.int s.top) (setLoc "holder" (.ref L.h) (setLoc "end" (.int p.fin) (setLoc "is_anew" (.bool p.anew) (setLoc "kind" (.int p.kind) (setLoc "elder" (.int p.elder) (setLoc "places" (.ref p.p) (setLoc "calls" (.int p.calls) (setLoc "frames" (.int p.frames) (setLoc "at" (.int at_) (setLoc "world" (.ref L.w) noLoc))))))))))), [], hp ++ [AO.tuple [.int s.frames.length, .int s.top]], none⟩)
    (by simp (decide := true) only [bind_ap, pure_ap, aCall, aMCall, aArgs, aLoc_e, aStore_e, setLoc_e, if_true, if_false, rbind_ok, rbind_exc, aTruth, rds hG H, len_fr H (show s.frames.length < 1000 by omega), tuple2, List.length_cons, List.length_nil, Nat.reduceAdd, unpack2, List.reverse_cons, List.reverse_nil, List.nil_append, List.cons_append, aStores]) ?_
  generalize hp ++ [AO.tuple [.int s.frames.length, .int s.top]] = hp1 at H1 ⊢
  clear H
  obtain ⟨loc0, k0⟩ : ∃ l, l = (setLoc "depth" (.int s.frames.length) (setLoc "top" (.int s.top) (setLoc "holder" (.ref L.h) (setLoc "end" (.int p.fin) (setLoc "is_anew" (.bool p.anew) (setLoc "kind" (.int p.kind) (setLoc "elder" (.int p.elder) (setLoc "places" (.ref p.p) (setLoc "calls" (.int p.calls) (setLoc "frames" (.int p.frames) (setLoc "at" (.int at_) (setLoc "world" (.ref L.w) noLoc)))))))))))) := ⟨_, rfl⟩
  rw [← k0]
  have l01 : loc0 "depth" = some (.int s.frames.length) := by rw [k0]; rfl
  have l02 : loc0 "top" = some (.int s.top) := by rw [k0]; rfl
  have l03 : loc0 "holder" = some (.ref L.h) := by rw [k0]; rfl
  have l04 : loc0 "end" = some (.int p.fin) := by rw [k0]; rfl
  have l05 : loc0 "is_anew" = some (.bool p.anew) := by rw [k0]; rfl
  have l06 : loc0 "kind" = some (.int p.kind) := by rw [k0]; rfl
  have l07 : loc0 "elder" = some (.int p.elder) := by rw [k0]; rfl
  have l08 : loc0 "places" = some (.ref p.p) := by rw [k0]; rfl
  have l09 : loc0 "calls" = some (.int p.calls) := by rw [k0]; rfl
  have l10 : loc0 "frames" = some (.int p.frames) := by rw [k0]; rfl
  have l11 : loc0 "at" = some (.int at_) := by rw [k0]; rfl
  have l12 : loc0 "world" = some (.ref L.w) := by rw [k0]; rfl
  clear k0
  -- frames are pushed
  have H2 : Holds (hp1 ++ [.range p.frames]) (Wd L s ++ F) := H1.alr _ (fun _ h => by exact re_of (.cons (.app .last)) [1, 2] rfl (by decide) h)
  have hr : (hp1 ++ [AO.range p.frames])[hp1.length]? = some (.range p.frames) := by simp
  try (refine wp_hide fun l_ => ?_; repeat intro _)
  refine wp_inv (by assumption) (by assumption) (J := fun σ => ∃ loc hp, σ = ⟨loc, [], hp, none⟩ ∧ Eqx loc loc0 "turn" ∧ Holds hp (Wd L { s with frames := s.frames ++ List.replicate p.frames.toNat (.int at_) } ++ F)) ?_ ?_
  · refine inv_eq (by simp (decide := true) only [bind_ap, pure_ap, aCall, aMCall, aArgs, aLoc_e, aStore_e, setLoc_e, if_true, if_false, rbind_ok, rbind_exc, aTruth, l10, range_e]; rfl) ?_
    refine for_range (I := fun i σ => ∃ loc hp, σ = ⟨loc, [], hp, none⟩ ∧ Eqx loc loc0 "turn" ∧ Holds hp (Wd L { s with frames := s.frames ++ List.replicate i (.int at_) } ++ F)) ?hs ?he hr (small_of (by omega) (by omega)) ⟨loc0, _, rfl, .rfl', by simpa using H2⟩
    case he => rintro σ ⟨loc, hp, rfl, -⟩; rfl
    case hs =>
      intro i σ hi h_1
      refine cps fun X_ k_ => ?_
      obtain ⟨loc, hp, rfl, hk, Hi⟩ := h_1
      refine k_ ?_
      clear k_ X_
      have k1 : loc "holder" = some (.ref L.h) := (hk _ (by decide)).trans l03
      have k2 : loc "at" = some (.int at_) := (hk _ (by decide)).trans l11
      refine cps fun X_ k_ => ?_
      obtain ⟨hp3, e3, H3⟩ := app_fr Hi (by simp; omega) (.int at_)
      refine k_ ?_
      clear k_ X_
      refine ⟨⟨setLoc "turn" (.int i) loc, [], hp, none⟩, ⟨setLoc "turn" (.int i) loc, [], hp3, none⟩, rfl, ?_, _, hp3, rfl, hk.set _, ?_⟩
      · simp (decide := true) only [bind_ap, pure_ap, aCall, aMCall, aArgs, aLoc_e, aStore_e, setLoc_e, if_true, if_false, rbind_ok, rbind_exc, aTruth, aSeq, k1, k2, rds hG Hi, e3]
      · rw [List.replicate_succ', ← List.append_assoc]
        exact H3
  intro σ h_2
  refine cps fun X_ k_ => ?_
  obtain ⟨loc, hp3, rfl, hk, H3⟩ := h_2
  refine k_ ?_
  clear k_ X_
  clear H1 H2 hr
  -- deeper by some calls
  have k3 : loc "holder" = some (.ref L.h) := (hk _ (by decide)).trans l03
  have k9 : loc "calls" = some (.int p.calls) := (hk _ (by decide)).trans l09
  have k8 : loc "places" = some (.ref p.p) := (hk _ (by decide)).trans l08
  have k11 : loc "at" = some (.int at_) := (hk _ (by decide)).trans l11
  refine cps fun X_ k_ => ?_
  obtain ⟨hp4, e4, H4⟩ := set_ccalls hG H3 (s.ccalls + p.calls)
  refine k_ ?_
  clear k_ X_
  try (refine wp_hide fun l_ => ?_; repeat intro _)
  refine wp_next (by assumption) (by assumption) (σ' := ⟨loc, [], hp4, none⟩) (by simp (decide := true) only [bind_ap, pure_ap, aCall, aMCall, aArgs, aLoc_e, aStore_e, setLoc_e, if_true, if_false, rbind_ok, rbind_exc, aTruth, k3, k9, rds hG H3, add_e, e4]) ?_
  clear e4 H3
  -- places are opened and written
  try (refine wp_hide fun l_ => ?_; repeat intro _)
  refine wp_inv (by assumption) (by assumption) (J := fun σ => ∃ loc' hp st ops, σ = ⟨loc', [], hp, none⟩ ∧ Eqx loc' loc "spot" ∧ Good L { s with stack := st, ops := ops } ∧ Holds hp (Wd L { s with frames := s.frames ++ List.replicate p.frames.toNat (.int at_), ccalls := s.ccalls + p.calls, stack := st, ops := ops } ++ F)) ?_ ?_
  · refine inv_eq (by simp (decide := true) only [bind_ap, pure_ap, aCall, aMCall, aArgs, aLoc_e, aStore_e, setLoc_e, if_true, if_false, rbind_ok, rbind_exc, aTruth, k8]; rfl) ?_
    refine for_list (xs := p.places.map .int) (I := fun i σ => ∃ loc' hp st ops, σ = ⟨loc', [], hp, none⟩ ∧ Eqx loc' loc "spot" ∧ Good L { s with stack := st, ops := ops } ∧ Holds hp (Wd L { s with frames := s.frames ++ List.replicate p.frames.toNat (.int at_), ccalls := s.ccalls + p.calls, stack := st, ops := ops } ++ F)) ?hl ?hs2 ⟨loc, hp4, s.stack, s.ops, rfl, .rfl', g, H4⟩
    case hl =>
      intro i σ h_3
      refine cps fun X_ k_ => ?_
      obtain ⟨loc', hp, st, ops, rfl, hk, g', H'⟩ := h_3
      refine k_ ?_
      clear k_ X_
      exact ⟨(plan_at H' hp_).2.2, rfl⟩
    case hs2 =>
      intro i v σ hv h_4
      refine cps fun X_ k_ => ?_
      obtain ⟨loc', hp5, st, ops, rfl, hk, g', H'⟩ := h_4
      refine k_ ?_
      clear k_ X_
      rw [List.getElem?_map] at hv
      refine cps fun X_ k_ => ?_
      obtain ⟨sp, hsp, rfl⟩ := Option.map_eq_some_iff.mp hv
      have hr := plc.2 sp (List.mem_of_getElem? hsp)
      have q1 : loc' "holder" = some (.ref L.h) := (hk _ (by decide)).trans k3
      have q2 : loc' "at" = some (.int at_) := (hk _ (by decide)).trans k11
      obtain ⟨w, hp6, e6, ops2, g6, H6⟩ := find_plain_ok hG (hdd := none) H' (g'.of rfl rfl rfl) hr
      obtain ⟨hp7, e7, H7⟩ := set_stack H6 g6 hr.1 (by omega) (10 * at_ + sp)
      refine k_ ?_
      clear k_ X_
      refine ⟨⟨setLoc "spot" (.int sp) loc', [], hp5, none⟩, ⟨setLoc "spot" (.int sp) loc', [], hp7, none⟩, rfl, ?_, _, hp7, _, ops2, rfl, hk.set _, ?_, H7⟩
      · simp (decide := true) only [bind_ap, pure_ap, aCall, aMCall, aArgs, aLoc_e, aStore_e, setLoc_e, if_true, if_false, rbind_ok, rbind_exc, aTruth, aSeq, q1, q2, e6, mul_e, small, add_e, rds hG H6, e7]
      · exact ⟨by show (st.set _ _).length = 9; rw [List.length_set]; exact g'.stack, g6.sorted, g6.range, g.top⟩
  intro σ h_5
  refine cps fun X_ k_ => ?_
  obtain ⟨loc', hp5, st, ops, rfl, hk', g5, H5⟩ := h_5
  refine k_ ?_
  clear k_ X_
  clear H4
  have lk : ∀ y : Str, y ≠ "turn" → y ≠ "spot" → loc' y = loc0 y := fun y a b => (hk' y b).trans (hk y a)
  have m1 : loc' "depth" = some (.int s.frames.length) := (lk _ (by decide) (by decide)).trans l01
  have m2 : loc' "top" = some (.int s.top) := (lk _ (by decide) (by decide)).trans l02
  have m3 : loc' "holder" = some (.ref L.h) := (lk _ (by decide) (by decide)).trans l03
  have m4 : loc' "end" = some (.int p.fin) := (lk _ (by decide) (by decide)).trans l04
  have m5 : loc' "is_anew" = some (.bool p.anew) := (lk _ (by decide) (by decide)).trans l05
  have m6 : loc' "kind" = some (.int p.kind) := (lk _ (by decide) (by decide)).trans l06
  have m7 : loc' "elder" = some (.int p.elder) := (lk _ (by decide) (by decide)).trans l07
  have m9 : loc' "calls" = some (.int p.calls) := (lk _ (by decide) (by decide)).trans l09
  have m10 : loc' "frames" = some (.int p.frames) := (lk _ (by decide) (by decide)).trans l10
  have m11 : loc' "at" = some (.int at_) := (lk _ (by decide) (by decide)).trans l11
  have m12 : loc' "world" = some (.ref L.w) := (lk _ (by decide) (by decide)).trans l12
  clear lk hk hk' k3 k8 k9 k11 l01 l02 l03 l04 l05 l06 l07 l08 l09 l10 l11 l12
  refine cps fun X_ k_ => ?_
  obtain ⟨tp, htp⟩ : ∃ t, t = (if s.top + 1 + p.frames < 8 then s.top + 1 + p.frames else 8) := ⟨_, rfl⟩
  have gt : 0 ≤ tp ∧ tp ≤ 8 := by have := g.top; rw [htp]; split <;> omega
  obtain ⟨hp6, e6, H6⟩ := set_top hG H5 tp
  refine k_ ?_
  clear k_ X_
  try (refine wp_hide fun l_ => ?_; repeat intro _)
  refine wp_next (by assumption) (by assumption) (σ' := ⟨loc', [], hp6, none⟩) (by simp (decide := true) only [bind_ap, pure_ap, aCall, aMCall, aArgs, aLoc_e, aStore_e, setLoc_e, if_true, if_false, rbind_ok, rbind_exc, aTruth, m2, m3, m10, add_e, min_e, ← htp, e6]) ?_
  clear e6 H5 htp
  have g6 : Good L { s with stack := st, ops := ops, top := tp } := ⟨g5.stack, g5.sorted, g5.range, gt⟩
  have flen : ((s.frames ++ List.replicate p.frames.toNat (AV.int at_)).length : Int) = s.frames.length + p.frames := by simp; omega
  -- the elder
  try (refine wp_hide fun l_ => ?_; repeat intro _)
  refine wp_mid (by assumption) (by assumption) (fun f' σ' => f' = .next ∧ ∃ loc hp' st ops ns tp, σ' = ⟨loc, [], hp', none⟩ ∧ loc "depth" = some (.int s.frames.length) ∧ loc "top" = some (.int s.top) ∧ loc "holder" = some (.ref L.h) ∧ loc "end" = some (.int p.fin) ∧ loc "calls" = some (.int p.calls) ∧ loc "at" = some (.int at_) ∧
    dueP L (j + 1) at_ s.ccalls s.frames.length s.handling = (lastV at_ p, s.ccalls + p.calls, s.frames.length + p.frames, ns.map (·.2)) ∧ Good L { s with stack := st, ops := ops, top := tp } ∧
    Holds hp' (Wd L { s with frames := s.frames ++ List.replicate p.frames.toNat (.int at_), ccalls := s.ccalls + p.calls, stack := st, ops := ops, top := tp, notes := s.notes ++ ns } ++ F)) ?_ ?_
  · by_cases he : 0 ≤ p.elder
    · try refine wp_end (by assumption) (by assumption) ?_
      refine wp_t (σ' := ⟨_, [], hp6, none⟩) (by simp (decide := true) only [bind_ap, pure_ap, aCall, aMCall, aArgs, aLoc_e, aStore_e, setLoc_e, if_true, if_false, rbind_ok, rbind_exc, aTruth, m7, ge_e, decide_eq_true he]; rfl) ?_
      refine cps fun X_ k_ => ?_
      obtain ⟨w, hp7, e7, st2, ops2, ns, rfl, q2, g7, H7⟩ := gp p.elder.toNat { s with frames := s.frames ++ List.replicate p.frames.toNat (.int at_), ccalls := s.ccalls + p.calls, stack := st, ops := ops, top := tp } F hp6 p.kind (by omega) (by omega) ⟨g6.of rfl rfl rfl, by simp; omega, by show 0 ≤ s.ccalls + p.calls; omega, by show s.notes.length + _ + _ < _; omega, R.well⟩ H6
      refine k_ ?_
      clear k_ X_
      rw [show ((p.elder.toNat : Nat) : Int) = p.elder by omega] at e7
      dsimp only at e7 q2 g7 H7
      rw [flen] at e7 q2
      have el2 := dueP_len P j p.elder.toNat (s.ccalls + p.calls) (s.frames.length + p.frames) s.handling (by omega) (by omega) (by omega)
      have vl := dueP_val L j p.elder.toNat (s.ccalls + p.calls) (s.frames.length + p.frames) s.handling
      have cc2 : 0 ≤ (dueP L j p.elder.toNat (s.ccalls + p.calls) (s.frames.length + p.frames) s.handling).2.1 := by
        exact dueP_cc1 P (by omega) (by omega) (by omega)
      rw [dueP_elder hp_ he]
      generalize dueP L j p.elder.toNat (s.ccalls + p.calls) (s.frames.length + p.frames) s.handling = D at *
      refine cps fun X_ k_ => ?_
      obtain ⟨v, deep, many, l⟩ := D
      refine k_ ?_
      clear k_ X_
      dsimp only at e7 q2 vl cc2 el2 ⊢
      have al := ansK_len P (kind := p.kind) (v := v) (deep := deep) (many := many) (hg := s.handling) cc2
      have av := ansK_val (most := L.most) (kind := p.kind) (deep := deep) (many := many) (hg := s.handling) vl
      generalize ansK L.most p.kind v deep many s.handling = a at *
      obtain ⟨v', l'⟩ := a
      dsimp only at e7 q2 al av ⊢
      have ln : ns.length = l.length + l'.length := by rw [← List.length_map (f := fun x : Nat × List AV => x.2), q2, List.length_append]
      try (refine wp_hide fun l_ => ?_; repeat intro _)
      refine wp_next (by assumption) (by assumption) (σ' := ⟨setLoc "told" v' loc', [], hp7, none⟩) (by simp (decide := true) only [bind_ap, pure_ap, aCall, aMCall, aArgs, aLoc_e, aStore_e, setLoc_e, if_true, if_false, rbind_ok, rbind_exc, aTruth, m6, m7, m12, e7]) ?_
      refine cps fun X_ k_ => ?_
      obtain ⟨hp8, e8, e9, H8⟩ := app_nt H7 (by simp; omega) [.str "told", v'] (by show 2 < 1000000; decide)
      refine k_ ?_
      clear k_ X_
      have r1 := rds hG (H7.al (V' := _) (.tuple [.str "told", v']) fun x => by rw [List.count_cons]; exact Nat.le_add_right _ _)
      try (refine wp_hide fun l_ => ?_; repeat intro _)
      refine wp_next (by assumption) (by assumption) (σ' := ⟨setLoc "told" v' loc', [], hp8, none⟩) (by simp (decide := true) only [bind_ap, pure_ap, aCall, aMCall, aArgs, aLoc_e, aStore_e, setLoc_e, if_true, if_false, rbind_ok, rbind_exc, aTruth, m12, rds hG H7, e8, r1, e9]) ?_
      have qn : (ns ++ [(hp7.length, [AV.str "told", v'])]).map (·.2) = l ++ l' ++ [[.str "told", v']] := by rw [List.map_append, q2]; rfl
      have H8' : Holds hp8 (Wd L { s with frames := s.frames ++ List.replicate p.frames.toNat (.int at_), ccalls := s.ccalls + p.calls, stack := st2, ops := ops2, top := tp, notes := s.notes ++ (ns ++ [(hp7.length, [AV.str "told", v'])]) } ++ F) := by
        rw [← List.append_assoc]; exact H8
      have m5' : (setLoc "told" v' loc') "is_anew" = some (.bool p.anew) := by simp (decide := true) only [setLoc_e, if_false, m5]
      have stop : ∀ σ' : AS, σ' = ⟨setLoc "told" v' loc', [], hp8, none⟩ → ¬ (isVal v' = true ∧ p.anew = true) → AF.next = .next ∧ ∃ loc hp' st ops ns tp, σ' = ⟨loc, [], hp', none⟩ ∧ loc "depth" = some (.int s.frames.length) ∧ loc "top" = some (.int s.top) ∧ loc "holder" = some (.ref L.h) ∧ loc "end" = some (.int p.fin) ∧ loc "calls" = some (.int p.calls) ∧ loc "at" = some (.int at_) ∧
          ((if isVal v' = true ∧ p.anew = true then v' else lastV at_ p, s.ccalls + p.calls, s.frames.length + p.frames, l ++ l' ++ [[AV.str "told", v']]) : AV × Int × Int × List (List AV)) = (lastV at_ p, s.ccalls + p.calls, s.frames.length + p.frames, ns.map (·.2)) ∧ Good L { s with stack := st, ops := ops, top := tp } ∧
          Holds hp' (Wd L { s with frames := s.frames ++ List.replicate p.frames.toNat (.int at_), ccalls := s.ccalls + p.calls, stack := st, ops := ops, top := tp, notes := s.notes ++ ns } ++ F) := by
        rintro σ' rfl hno
        rw [if_neg hno]
        refine ⟨rfl, _, hp8, st2, ops2, _, tp, rfl, ?_, ?_, ?_, ?_, ?_, ?_, by rw [qn], g7.of rfl rfl rfl, H8'⟩ <;> simp (decide := true) only [setLoc_e, if_false, m1, m2, m3, m4, m9, m11]
      rcases av with hv | rfl
      · cases ha : p.anew with
        | false =>
          rw [ha] at m5'
          try refine wp_end (by assumption) (by assumption) ?_
          refine wp_f (σ' := ⟨setLoc "told" v' loc', [], hp8, none⟩) (by simp (decide := true) only [bind_ap, pure_ap, aCall, aMCall, aArgs, aLoc_e, aStore_e, setLoc_e, if_true, if_false, rbind_ok, rbind_exc, aTruth, aAnd, m5, ha, isnt_val hv]) ?_
          rw [← ha]
          exact stop _ rfl fun h => by rw [ha] at h; cases h.2
        | true =>
          try refine wp_end (by assumption) (by assumption) ?_
          refine wp_t (σ' := ⟨setLoc "told" v' loc', [], hp8, none⟩) (by simp (decide := true) only [bind_ap, pure_ap, aCall, aMCall, aArgs, aLoc_e, aStore_e, setLoc_e, if_true, if_false, rbind_ok, rbind_exc, aTruth, aAnd, m5, ha, isnt_val hv]) ?_
          refine cps fun X_ k_ => ?_
          obtain ⟨hp9, d, tr, ea, Ha⟩ := make_exc hG (hdd := none) v' H8'
          obtain ⟨hpa, eb, Hb⟩ := raise_none Ha
          refine k_ ?_
          clear k_ X_
          try refine wp_end (by assumption) (by assumption) ?_
          refine WP.exc' (x := hp8.length) (σ := ⟨setLoc "told" v' loc', [], hpa, none⟩) (by simp (decide := true) only [bind_ap, pure_ap, aCall, aMCall, aArgs, aLoc_e, aStore_e, setLoc_e, if_true, if_false, rbind_ok, rbind_exc, aTruth, aSeq, ea, eb]) ?_
          rw [if_pos ⟨hv, rfl⟩]
          refine ⟨hv, st2, ops2, ns ++ [(hp7.length, [AV.str "told", v'])], List.replicate p.frames.toNat (.int at_), tp, d, tr, qn, flen, by rw [List.length_replicate]; omega, g7.of rfl rfl rfl, ?_⟩
          dsimp only
          refine Hb.wk fun x => ?_
          simp +arith only [List.count_cons, List.count_append]
      · try refine wp_end (by assumption) (by assumption) ?_
        refine wp_f (σ' := ⟨setLoc "told" .none loc', [], hp8, none⟩) (by simp (decide := true) only [bind_ap, pure_ap, aCall, aMCall, aArgs, aLoc_e, aStore_e, setLoc_e, if_true, if_false, rbind_ok, rbind_exc, aTruth, aAnd, isnt_none]) ?_
        exact stop _ rfl fun h => by cases h.1
    · try refine wp_end (by assumption) (by assumption) ?_
      refine wp_f (σ' := ⟨_, [], hp6, none⟩) (by simp (decide := true) only [bind_ap, pure_ap, aCall, aMCall, aArgs, aLoc_e, aStore_e, setLoc_e, if_true, if_false, rbind_ok, rbind_exc, aTruth, m7, ge_e, decide_eq_false he]; rfl) ?_
      refine ⟨rfl, loc', hp6, st, ops, [], tp, rfl, m1, m2, m3, m4, m9, m11, dueP_last hp_ he, g6, ?_⟩
      rw [List.append_nil]
      exact H6
  intro f' σ' h_6
  refine cps fun X_ k_ => ?_
  obtain ⟨rfl, loc, hp7, st, ops, ns, tp, rfl, n1, n2, n3, n4, n5, n6, ed, g7, H7⟩ := h_6
  refine k_ ?_
  clear k_ X_
  dsimp only
  rw [ed]
  by_cases q : p.fin < 3
  · have e : lastV at_ p = .int (100 * at_ + p.fin) := by unfold lastV; rw [if_pos q]
    rw [e]
    refine cps fun X_ k_ => ?_
    obtain ⟨hp9, d, tr, ea, Ha⟩ := make_exc hG (hdd := none) (.int (100 * at_ + p.fin)) H7
    obtain ⟨hpa, eb, Hb⟩ := raise_none Ha
    refine k_ ?_
    clear k_ X_
    try (refine wp_hide fun l_ => ?_; repeat intro _)
    refine wp_exc (by assumption) (by assumption) (x := hp7.length) (σ' := ⟨loc, [], hpa, none⟩) (by simp (decide := true) only [bind_ap, pure_ap, aCall, aMCall, aArgs, aLoc_e, aStore_e, setLoc_e, if_true, if_false, rbind_ok, rbind_exc, aTruth, aSeq, n4, n6, lt_e, decide_eq_true q, mul_e, small, add_e, ea, eb]) ?_
    refine ⟨rfl, st, ops, ns, List.replicate p.frames.toNat (.int at_), tp, d, tr, rfl, flen, by rw [List.length_replicate]; omega, g7.of rfl rfl rfl, ?_⟩
    dsimp only
    refine Hb.wk fun x => ?_
    simp +arith only [List.count_cons, List.count_append]
  · have e : lastV at_ p = .none := by unfold lastV; rw [if_neg q]
    rw [e]
    try (refine wp_hide fun l_ => ?_; repeat intro _)
    refine wp_next (by assumption) (by assumption) (σ' := ⟨loc, [], hp7, none⟩) (by simp (decide := true) only [bind_ap, pure_ap, aCall, aMCall, aArgs, aLoc_e, aStore_e, setLoc_e, if_true, if_false, rbind_ok, rbind_exc, aTruth, aSeq, n4, lt_e, decide_eq_false q]) ?_
    have H8 : Holds (hp7 ++ [AO.tuple [.int (s.ccalls + p.calls - p.calls), .int s.top]]) (Wd L { s with frames := s.frames ++ List.replicate p.frames.toNat (.int at_), ccalls := s.ccalls + p.calls, stack := st, ops := ops, top := tp, notes := s.notes ++ ns } ++ F) := H7.al _ fun x => by rw [List.count_cons]; exact Nat.le_add_right _ _
    refine cps fun X_ k_ => ?_
    obtain ⟨hp9, e9, H9⟩ := set_ccalls hG H8 (s.ccalls + p.calls - p.calls)
    obtain ⟨hpa, ea, Ha⟩ := set_top hG H9 s.top
    refine k_ ?_
    clear k_ X_
    try (refine wp_hide fun l_ => ?_; repeat intro _)
    refine wp_next (by assumption) (by assumption) (σ' := ⟨loc, [], hpa, none⟩) (by simp (decide := true) only [bind_ap, pure_ap, aCall, aMCall, aArgs, aLoc_e, aStore_e, setLoc_e, if_true, if_false, rbind_ok, rbind_exc, aTruth, n2, n3, n5, rds hG H7, sub_e, tuple2, List.length_cons, List.length_nil, Nat.reduceAdd, unpack2, aStores, e9, ea]) ?_
    dsimp only at Ha
    rw [show s.ccalls + p.calls - p.calls = s.ccalls by omega] at Ha
    first | refine wp_end (by assumption) (by assumption) ?_ | refine wp_last ?_
    refine wp_ex (pops_ok (L := L) (s := { s with stack := st, ops := ops, notes := s.notes ++ ns }) (F := F) (loc := loc) (cs := []) (hdd := none) (d := s.frames.length)
      (fun xs hp hx H => by simp (decide := true) only [bind_ap, pure_ap, aCall, aMCall, aArgs, aLoc_e, aStore_e, setLoc_e, if_true, if_false, rbind_ok, rbind_exc, aTruth, n3, n1, rds hG H, len_fr H hx, gt_e])
      (fun xs x hp hp' H e => by simp (decide := true) only [bind_ap, pure_ap, aCall, aMCall, aArgs, aLoc_e, aStore_e, setLoc_e, if_true, if_false, rbind_ok, rbind_exc, aTruth, aSeq, n3, rds hG H, e])
      2000 (s.frames ++ List.replicate p.frames.toNat (.int at_)) hpa Ha (by simp) (by simp; omega) (by simp; omega)) fun hpb Hb => ?_
    refine ⟨rfl, st, ops, ns, rfl, ⟨g7.stack, g7.sorted, g7.range, g.top⟩, ?_⟩
    rw [List.take_left] at Hb
    exact Hb
end
end Mine

open PySem PySem.W PyProof.Rows PySem.Calls
set_option Elab.async false
set_option maxRecDepth 100000
set_option maxHeartbeats 1000000
set_option linter.unusedVariables false
set_option linter.unusedSimpArgs false
namespace Mine
variable {G : Gd}

theorem fnC_of {sc : Scope} {cns ps : List Str} {mb : AM AF} {as : List AV} {hp : List AO} {hdd : Option Nat} {P : AV → List AO → Prop} (hl : as.length = ps.length)
    (h : WP (mb ⟨fun x => if isLoc sc x then bindF noLoc ps as x else none, mkCells hp.length cns, hp ++ cns.map (fun x => AO.cell (bindF noLoc ps as x)), hdd⟩) (fun f σ' => P (retOf f) σ'.hp) fun _ _ => False) :
    ∃ v hp', (∀ loc cs, aFnC sc cns ps mb as ⟨loc, cs, hp, hdd⟩ = .ok v ⟨loc, cs, hp', hdd⟩) ∧ P v hp' := by
  have b : aBind (ps.zip as) (fun _ => none) = bindF noLoc ps as := aBind_eq ps as _
  cases e : mb ⟨fun x => if isLoc sc x then bindF noLoc ps as x else none, mkCells hp.length cns, hp ++ cns.map (fun x => AO.cell (bindF noLoc ps as x)), hdd⟩ with
  | ok f σ' =>
    rw [e] at h
    refine ⟨retOf f, σ'.hp, fun loc cs => ?_, h⟩
    unfold aFnC
    rw [if_pos hl]
    dsimp only
    simp only [b]
    rw [e]
    cases f <;> rfl
  | exc x σ' => rw [e] at h; exact h.elim
  | stuck => rw [e] at h; exact h.elim
noncomputable def num : Nat → List AO → HV
  | _, [] => []
  | k, o :: r => (k, o) :: num (k + 1) r
theorem Holds.allocs : ∀ {os : List AO} {hp : List AO} {V : HV}, Holds hp V → Holds (hp ++ os) (num hp.length os ++ V)
  | [], hp, V, h => by rw [List.append_nil]; exact h
  | o :: r, hp, V, h => by
    have z := Holds.allocs (os := r) (h.alloc o)
    rw [List.append_assoc, List.length_append] at z
    refine z.wk fun x => ?_
    simp +arith only [num, List.length_singleton, List.count_cons, List.count_append]
theorem storeC {hp : List AO} {V : HV} {cs : List (Str × Nat)} {i : Nat} {o : Option AV} (x : Str) (v : AV) (H : Holds hp ((i, .cell o) :: V)) (hx : cs.lookup x = some i) :
    ∃ hp', (∀ loc hdd, aStoreC x v ⟨loc, cs, hp, hdd⟩ = .ok () ⟨loc, cs, hp', hdd⟩) ∧ Holds hp' ((i, .cell (some v)) :: V) := by
  have a : hp[i]? = _ := H.2 _ (.head _)
  refine ⟨_, fun loc hdd => ?_, H.upd⟩
  unfold aStoreC onCell
  simp only [hx, a]

theorem frees_reply : freesOf lamReply.scope.names [] = [Str.ofString "world", Str.ofString "times"] := rfl
theorem frees_work : freesOf lamWork.scope.names [] = [Str.ofString "world", Str.ofString "at"] := rfl

section
variable {L : Lay} {s : PS} {F : HV}
noncomputable def WorkX (L : Lay) (s : PS) (F : HV) (D : AV × Int × Int × List (List AV)) (a : AV × List (List AV)) (x : Nat) (hp' : List AO) : Prop := isVal D.1 = true ∧ ∃ st ops ns fr top cc hh d t cl fs, ns.map (·.2) = D.2.2.2 ++ a.2 ∧ fr.length ≤ 2 ∧ Good L { s with stack := st, ops := ops, top := top } ∧
  Holds hp' (Wd L { s with stack := st, ops := ops, notes := s.notes ++ ns, frames := s.frames ++ fr, ccalls := cc, handling := hh, top := top } ++ ((x, .exc 45 (some d) cl fs) :: (d, .dict (excD a.1 t)) :: F))
theorem work_ok (hG : Known G) (P : PlansOk L) (j : Nat) (gp : GuardP hG L j) (at_ : Nat) (kind : Int) (hp : List AO) (h1 : at_ < L.plans.length) (h2 : at_ < j + 1) (R : Room L s (j + 1)) {t : Nat} (H : Holds hp (Wd L s ++ ((t, .list [.int kind]) :: F)))
    {kw cw ca ct : Nat} {ccs : List (Str × Nat)} (k1 : (kw, AO.clos 1 ccs) ∈ F) (c1 : ccs.lookup ("world" : Str) = some cw) (c2 : ccs.lookup ("at" : Str) = some ca) (k2 : (cw, AO.cell (some (.ref L.w))) ∈ F) (k3 : (ca, AO.cell (some (.int at_))) ∈ F) (k4 : (ct, AO.cell (some (.ref t))) ∈ F)
    {ans : AV} (ha : kind < 0 ∧ ans = .none ∨ 0 ≤ kind ∧ ∃ q k ccs0, ans = .ref q ∧ (q, AO.tuple [.ref k, .int L.most]) ∈ F ∧ (k, AO.clos 0 ccs0) ∈ F ∧ ccs0.lookup ("world" : Str) = some cw ∧ ccs0.lookup ("times" : Str) = some ct) :
    ∃ w hp', (∀ loc cs, aFn ["holder", "work", "handling"] (d_187 hG (closT hG (guardF hG j))).1 [.ref L.h, .ref kw, ans] ⟨loc, cs, hp, none⟩ = .ok w ⟨loc, cs, hp', none⟩) ∧
      (w = .none ∧ DoneQ L s ((t, .list [.int kind]) :: F) (dueP L (j + 1) at_ s.ccalls s.frames.length s.handling) hp' ∨
       ∃ x, w = .ref x ∧ WorkX L s F (dueP L (j + 1) at_ s.ccalls s.frames.length s.handling)
        (ansK L.most kind (dueP L (j + 1) at_ s.ccalls s.frames.length s.handling).1 (dueP L (j + 1) at_ s.ccalls s.frames.length s.handling).2.1 (dueP L (j + 1) at_ s.ccalls s.frames.length s.handling).2.2.1 s.handling) x hp') := by
  refine fn_of rfl ?_
  unfold d_187
  dsimp only [bindF]
  have dk := done_ok hG P j gp at_ hp h1 h2 R H
  have dl := dueP_len P (j + 1) at_ s.ccalls s.frames.length s.handling h1 h2 R.cc
  have dc := dueP_cc P (f := j) (fr := s.frames.length) (hg := s.handling) h1 R.cc
  have Rf := R.fr
  have Rn := R.nt
  have pm := P.most
  generalize dueP L (j + 1) at_ s.ccalls s.frames.length s.handling = D at *
  refine cps fun X_ k_ => ?_
  obtain ⟨v, deep, many, l⟩ := D
  refine k_ ?_
  clear k_ X_
  dsimp only at dl dc ⊢
  have cw' := clos_work hG (gf := guardF hG j) (hdd := none) (mem_F H (.tail _ k1)) c1 c2 (mem_F H (.tail _ k2)) (mem_F H (.tail _ k3))
  have kp := fun loc => keep_clos (G := G) (mem_F H (.tail _ k1)) loc [] none
  try (refine wp_hide fun l_ => ?_; repeat intro _)
  refine wp_mid (by assumption) (by assumption) (fun f σ' => (f = .next ∧ ∃ loc hp', σ' = ⟨loc, [], hp', none⟩ ∧ DoneQ L s ((t, .list [.int kind]) :: F) (v, deep, many, l) hp') ∨
    (∃ x, f = .ret (.ref x) ∧ WorkX L s F (v, deep, many, l) (ansK L.most kind v deep many s.handling) x σ'.hp)) ?_ ?_
  · refine wp_try (wp_last ?_)
    refine cps fun X_ k_ => ?_
    rcases dk with ⟨w, hp', e, q⟩ | ⟨x, hp', e, q⟩
    all_goals refine k_ ?_
    all_goals clear k_ X_
    · have e' := cw'.2 _ _ e
      try refine wp_end (by assumption) (by assumption) ?_
      exact WP.ok (a := .next) (σ := ⟨_, [], hp', none⟩) (by simp (decide := true) only [bind_ap, pure_ap, aCall, aMCall, aArgs, aLoc_e, aStore_e, setLoc_e, if_true, if_false, rbind_ok, rbind_exc, aTruth, kp, e']; rfl) (.inl ⟨rfl, _, hp', rfl, q⟩)
    · have e' := cw'.1 _ _ e
      try refine wp_end (by assumption) (by assumption) ?_
      refine WP.exc' (x := x) (σ := ⟨_, [], hp', none⟩) (by simp (decide := true) only [bind_ap, pure_ap, aCall, aMCall, aArgs, aLoc_e, aStore_e, setLoc_e, if_true, if_false, rbind_ok, rbind_exc, aTruth, kp, e']; rfl) ?_
      refine cps fun X_ k_ => ?_
      obtain ⟨hv, st, ops, ns, fr, top, d, tr, q1, q2, q3, q4, H'⟩ := q
      refine k_ ?_
      clear k_ X_
      dsimp only at hv q1 q2 H' ⊢
      have x1 : hp'[x]? = some (.exc 45 (some d) true false) := mem_F H' (.head _)
      have x2 : hp'[d]? = some (.dict (excD v tr)) := mem_F H' (.tail _ (.head _))
      refine ⟨some d, true, false, x1, wp_last ?_⟩
      refine cps fun X_ k_ => ?_
      rcases ha with ⟨hk, rfl⟩ | ⟨hk, q, k, ccs0, rfl, hq, hk0, hc1, hc2⟩
      all_goals refine k_ ?_
      all_goals clear k_ X_
      · have ea : ansK L.most kind v deep many s.handling = (v, []) := by unfold ansK; rw [if_neg fun h => by omega]
        rw [ea]
        try refine wp_end (by assumption) (by assumption) ?_
        refine WP.ok (a := .ret (.ref x)) (σ := ⟨_, [], hp', some x⟩) (by simp (decide := true) only [bind_ap, pure_ap, aCall, aMCall, aArgs, aLoc_e, aStore_e, setLoc_e, if_true, if_false, rbind_ok, rbind_exc, aTruth, isn_none]; rfl) (.inr ⟨x, rfl, hv, st, ops, ns, fr, top, deep, s.handling, d, tr, true, false, ?_, q3, q4, H'.wk fun y => ?_⟩)
        · rw [q1, List.append_nil]
        · simp +arith only [List.count_cons, List.count_append]
      · have ea : ansK L.most kind v deep many s.handling = answ (L.most - deep).toNat kind v deep many s.handling := by unfold ansK; rw [if_pos ⟨hv, hk⟩]
        rw [ea]
        have ln : ns.length = l.length := by rw [← q1, List.length_map]
        have H2 : Holds hp' (Wd L { s with stack := st, ops := ops, notes := s.notes ++ ns, frames := s.frames ++ fr, ccalls := deep, top := top } ++ ((t, .list [.int kind]) :: (x, .exc 45 (some d) true false) :: (d, .dict (excD v tr)) :: F)) := H'.wkr (fun _ h => by exact re_of (.app (.cons (.cons (.cons .last)))) [0, 3, 1, 2, 4] rfl (by decide) h)
        refine cps fun X_ k_ => ?_
        obtain ⟨w, hp2, e2, x2', d2, tr2, cc, hh, ns2, rfl, r1, H3⟩ := handled_ok hG (guardF hG j) hv H2 (by simp; omega) (by simp; omega) (by show (L.most - deep).toNat < 1000; omega) (j := x) (dj := d) (fj := false) (.head _) (.tail _ (.tail _ hk0)) hc1 hc2 (.tail _ (.tail _ k2)) (.tail _ (.tail _ k4)) (.tail _ (.tail _ hq))
        refine k_ ?_
        clear k_ X_
        dsimp only at r1 H3
        rw [q2] at r1 H3
        try refine wp_end (by assumption) (by assumption) ?_
        refine WP.ok (a := .ret (.ref x2')) (σ := ⟨_, [], hp2, some x⟩) (by simp (decide := true) only [bind_ap, pure_ap, aCall, aMCall, aArgs, aLoc_e, aStore_e, setLoc_e, if_true, if_false, rbind_ok, rbind_exc, aTruth, isn_ref, exc_value x1 x2 (isVal_plain hv), e2]; rfl) (.inr ⟨x2', rfl, hv, st, ops, ns ++ ns2, fr, top, cc, hh, d2, tr2, true, true, ?_, q3, q4, H3.wk fun y => ?_⟩)
        · rw [List.map_append, q1, r1]
        · simp +arith only [List.append_assoc, List.count_cons, List.count_append]
  · rintro f σ' (⟨rfl, loc, hp', rfl, q⟩ | ⟨x, rfl, q⟩)
    · try refine wp_end (by assumption) (by assumption) ?_
      exact WP.ok (a := .ret .none) (σ := ⟨loc, [], hp', none⟩) (by simp (decide := true) only [bind_ap, pure_ap, aCall, aMCall, aArgs, aLoc_e, aStore_e, setLoc_e, if_true, if_false, rbind_ok, rbind_exc, aTruth, aSeq]) (.inl ⟨rfl, q⟩)
    · exact .inr ⟨x, rfl, q⟩
end
end Mine

open PySem PySem.W PyProof.Rows PySem.Calls
set_option Elab.async false
set_option maxRecDepth 100000
set_option maxHeartbeats 1000000
set_option linter.unusedVariables false
set_option linter.unusedSimpArgs false
namespace Mine
variable {G : Gd}

theorem comp_e {fns : List Str} {st : AV → AM Unit} {mt : AM Bool} {me : AM AV} {v : AV} {loc : Str → Option AV} {cs cs2 : List (Str × Nat)} {hp : List AO} {hdd : Option Nat} {J : AS → Prop} (hpick : aPick ⟨loc, cs, hp, hdd⟩ fns = some cs2)
    (h : ∃ σ', aFor st (aCompBody hp.length mt me) v ⟨noLoc, cs2, hp ++ [.list []], hdd⟩ = .ok .next σ' ∧ J σ') : ∃ hp', aComp fns st mt me v ⟨loc, cs, hp, hdd⟩ = .ok (.ref hp.length) ⟨loc, cs, hp', hdd⟩ ∧ ∃ σ', σ'.hp = hp' ∧ J σ' := by
  refine cps fun X_ k_ => ?_
  obtain ⟨σ', e, j⟩ := h
  refine k_ ?_
  clear k_ X_
  refine ⟨σ'.hp, ?_, σ', rfl, j⟩
  unfold aComp
  rw [hpick]
  dsimp only
  rw [show (fun _ => none : Str → Option AV) = noLoc from rfl, e]
theorem comp_inv {fns : List Str} {st : AV → AM Unit} {mt : AM Bool} {me : AM AV} {v : AV} {loc : Str → Option AV} {cs cs2 : List (Str × Nat)} {hp : List AO} {hdd : Option Nat} {J : AS → Prop} {P : List AO → Prop} (hpick : aPick ⟨loc, cs, hp, hdd⟩ fns = some cs2)
    (h : ∃ σ', aFor st (aCompBody hp.length mt me) v ⟨noLoc, cs2, hp ++ [.list []], hdd⟩ = .ok .next σ' ∧ J σ') (hj : ∀ σ, J σ → P σ.hp) : ∃ hp', aComp fns st mt me v ⟨loc, cs, hp, hdd⟩ = .ok (.ref hp.length) ⟨loc, cs, hp', hdd⟩ ∧ P hp' := by
  refine cps fun X_ k_ => ?_
  obtain ⟨hp', e, σ', e2, j⟩ := comp_e hpick h
  refine k_ ?_
  clear k_ X_
  exact ⟨hp', e, by rw [← e2]; exact hj _ j⟩
theorem bind_inv {α : Type} {c : Res α} {v : α} {loc : Str → Option AV} {cs : List (Str × Nat)} {hdd : Option Nat} {P : List AO → Prop} {k : α → AS → Res AF} {J : AS → Prop} (h : ∃ hp', c = .ok v ⟨loc, cs, hp', hdd⟩ ∧ P hp') (h2 : ∀ hp', P hp' → ∃ σ', k v ⟨loc, cs, hp', hdd⟩ = .ok .next σ' ∧ J σ') :
    ∃ σ', c.bind k = .ok .next σ' ∧ J σ' := by
  refine cps fun X_ k_ => ?_
  obtain ⟨hp', e, p⟩ := h
  refine k_ ?_
  clear k_ X_
  rw [e]
  exact h2 hp' p
theorem bind_val {α β : Type} {c : Res α} {v : α} {w : β} {loc : Str → Option AV} {cs : List (Str × Nat)} {hdd : Option Nat} {P P' : List AO → Prop} {k : α → AS → Res β} (h : ∃ hp', c = .ok v ⟨loc, cs, hp', hdd⟩ ∧ P hp') (h2 : ∀ hp', P hp' → ∃ hp2, k v ⟨loc, cs, hp', hdd⟩ = .ok w ⟨loc, cs, hp2, hdd⟩ ∧ P' hp2) :
    ∃ hp2, c.bind k = .ok w ⟨loc, cs, hp2, hdd⟩ ∧ P' hp2 := by
  refine cps fun X_ k_ => ?_
  obtain ⟨hp', e, p⟩ := h
  refine k_ ?_
  clear k_ X_
  rw [e]
  exact h2 hp' p
theorem and_t {m m2 : AM AV} {r : List (AM AV)} {σ σ' : AS} (e : m σ = .ok (.bool true) σ') : aBool .And (m :: m2 :: r) σ = aBool .And (m2 :: r) σ' := by
  rw [aBool]
  · simp only [bind_ap, e, rbind_ok, aTruth]
  · intro h; cases h
theorem and_1 {m : AM AV} : aBool .And [m] = m := by rw [aBool]
theorem eqb_e (a b : Bool) (σ : AS) : aCmp CmpOp.Eq (.bool a) (.bool b) σ = .ok (.bool (a == b)) σ := rfl
theorem same_refl (hp : List AO) (d : Nat) {v : AV} (h : atomSame v v = true) : same hp d v v = true := by
  cases d with
  | zero => exact h
  | succ d => unfold same; rw [h]; rfl
theorem allSame_refl (hp : List AO) (d : Nat) : ∀ {xs : List AV}, (∀ v ∈ xs, atomSame v v = true) → allSame (same hp d) xs xs = true
  | [], _ => rfl
  | x :: r, h => by
    show (same hp d x x && allSame (same hp d) r r) = true
    rw [same_refl hp d (h x (.head _)), allSame_refl hp d fun v hv => h v (.tail _ hv)]
    rfl
theorem eqS_tuple {hp : List AO} {i j : Nat} {xs : List AV} (h1 : hp[i]? = some (.tuple xs)) (h2 : hp[j]? = some (.tuple xs)) (h : ∀ v ∈ xs, atomSame v v = true) (loc cs hdd) : aEqS .Eq (.ref i) (.ref j) ⟨loc, cs, hp, hdd⟩ = .ok (.bool true) ⟨loc, cs, hp, hdd⟩ :=
  (onOpt_e h1).trans ((onTup_e (σ := ⟨loc, cs, hp, hdd⟩) h2).trans (if_pos (allSame_refl hp 4 h)))
theorem eqS_list {hp : List AO} {i j : Nat} {xs : List AV} (h1 : hp[i]? = some (.list xs)) (h2 : hp[j]? = some (.list xs)) (h : ∀ v ∈ xs, atomSame v v = true) (loc cs hdd) : aEqS .Eq (.ref i) (.ref j) ⟨loc, cs, hp, hdd⟩ = .ok (.bool true) ⟨loc, cs, hp, hdd⟩ :=
  (onOpt_e h1).trans ((onList_e (σ := ⟨loc, cs, hp, hdd⟩) h2).trans (if_pos (allSame_refl hp 4 h)))
theorem atom_int (i : Int) : atomSame (.int i) (.int i) = true := decide_eq_true rfl
theorem atom_ref (i : Nat) : atomSame (.ref i) (.ref i) = true := decide_eq_true rfl
theorem len_list {hp : List AO} {r : Nat} {xs : List AV} (h : hp[r]? = some (.list xs)) (hl : xs.length < 1000000) (loc cs hdd) : bLen [.ref r] ⟨loc, cs, hp, hdd⟩ = .ok (.int xs.length) ⟨loc, cs, hp, hdd⟩ := by
  exact len_e h hl _ _ _
theorem only_e {hp : List AO} {r : Nat} {xs : List AV} (h : hp[r]? = some (.list xs)) (loc cs hdd) : aOnlyList (.ref r) ⟨loc, cs, hp, hdd⟩ = .ok () ⟨loc, cs, hp, hdd⟩ := by
  exact onList_e (σ := ⟨loc, cs, hp, hdd⟩) h

-- open variables, from a place on and below it
theorem spot_filter {k : Int} : ∀ {ops : List Op}, ops.Pairwise (fun a b => b.idx < a.idx) → ops.filter (fun o => decide (k ≤ o.idx)) = ops.take (spotN (k - 1) ops)
  | [], _ => rfl
  | o :: r, h => by
    have h' := List.pairwise_cons.mp h
    unfold spotN
    rw [List.takeWhile_cons, List.filter_cons]
    by_cases q : k ≤ o.idx
    · rw [if_pos (decide_eq_true q), if_pos (decide_eq_true (by omega)), List.length_cons, List.take_succ_cons, spot_filter h'.2]
      rfl
    · rw [if_neg (by simpa using q), if_neg (by simp; omega), List.length_nil, List.take_zero]
      rw [List.filter_eq_nil_iff]
      intro a ha
      have := h'.1 a ha
      simp
      omega
theorem spot_filter' {k : Int} : ∀ {ops : List Op}, ops.Pairwise (fun a b => b.idx < a.idx) → ops.filter (fun o => decide (o.idx < k)) = ops.drop (spotN (k - 1) ops)
  | [], _ => rfl
  | o :: r, h => by
    have h' := List.pairwise_cons.mp h
    unfold spotN
    rw [List.takeWhile_cons, List.filter_cons]
    by_cases q : k ≤ o.idx
    · rw [if_neg (by simp; omega), if_pos (decide_eq_true (by omega)), List.length_cons, List.drop_succ_cons, spot_filter' h'.2]
      rfl
    · rw [if_pos (by simp; omega), if_neg (by simp; omega), List.length_nil, List.drop_zero]
      congr 1
      rw [List.filter_eq_self]
      intro a ha
      have := h'.1 a ha
      simp
      omega
noncomputable def aheadV (st : List Int) (as : List (Nat × Op)) : HV := as.map fun p => (p.1, .tuple [.ref p.2.u, .int p.2.idx, .int (st.getD p.2.idx.toNat 0)])
noncomputable def aheadL (as : List (Nat × Op)) : List AV := as.map fun p => .ref p.1
theorem ahead_get {as : List (Nat × Op)} {i : Nat} {v : AV} (h : (aheadL as)[i]? = some v) : ∃ p, as[i]? = some p ∧ v = .ref p.1 := by
  unfold aheadL at h
  rw [List.getElem?_map] at h
  refine cps fun X_ k_ => ?_
  obtain ⟨p, h1, h2⟩ := Option.map_eq_some_iff.mp h
  refine k_ ?_
  clear k_ X_
  exact ⟨p, h1, h2.symm⟩
theorem ahead_at {hp : List AO} {V : HV} {st : List Int} {as : List (Nat × Op)} (H : Holds hp V) (hs : ∀ q ∈ aheadV st as, q ∈ V) {i : Nat} {p : Nat × Op} (h : as[i]? = some p) : hp[p.1]? = some (.tuple [.ref p.2.u, .int p.2.idx, .int (st.getD p.2.idx.toNat 0)]) :=
  H.2 (p.1, _) (hs _ (List.mem_map.mpr ⟨p, List.mem_of_getElem? h, rfl⟩))
theorem take_snoc {α : Type} {xs : List α} {i : Nat} {x : α} (h : xs[i]? = some x) : xs.take (i + 1) = xs.take i ++ [x] := by
  obtain ⟨hl, e⟩ := List.getElem?_eq_some_iff.mp h
  rw [← e, List.take_append_getElem]
theorem filt_map {q : Op → Bool} {f : Op → AV} (as : List (Nat × Op)) : (as.filter fun p => q p.2).map (fun p => f p.2) = ((as.map (·.2)).filter q).map f := by
  rw [List.filter_map, List.map_map]
  rfl
theorem valN_plain {v : AV} (h : valN v) : plainV v = true := by
  rcases h with h | rfl
  · exact isVal_plain h
  · rfl
theorem getD_set {l : List Int} {i : Nat} {v : Int} (h : i < l.length) : (l.set i v).getD i 0 = v := by
  rw [List.getD_eq_getElem?_getD, List.getElem?_set_self h]; rfl
theorem getD_set_ne {l : List Int} {i n : Nat} {v : Int} (h : i ≠ n) : (l.set i v).getD n 0 = l.getD n 0 := by
  rw [List.getD_eq_getElem?_getD, List.getElem?_set_ne h, ← List.getD_eq_getElem?_getD]
end Mine

open PySem PySem.W PyProof.Rows PySem.Calls
set_option Elab.async false
set_option maxRecDepth 100000
set_option maxHeartbeats 2000000
set_option linter.unusedVariables false
set_option linter.unusedSimpArgs false
namespace Mine
variable {G : Gd}

section
variable {L : Lay}
theorem guard_ok (hG : Known G) (P : PlansOk L) (j : Nat) (gp : GuardP hG L j) : GuardP hG L (j + 1) := by
  intro at_ s F hp kind h1 h2 R H
  refine fnC_of (P := GuardQ L s F _ _) rfl ?_
  have g := R.good
  have Rf := R.fr
  have Rn := R.nt
  have k0 : (fun x => if isLoc (scOf 230) x then bindF noLoc ["world", "at", "kind"] [.ref L.w, .int at_, .int kind] x else none) "kind" = some (.int kind) := rfl
  generalize (fun x => if isLoc (scOf 230) x then bindF noLoc ["world", "at", "kind"] [.ref L.w, .int at_, .int kind] x else none) = loc0 at k0 ⊢
  have H0 := H.allocs (os := [AO.cell none, .cell none, .cell none, .cell (some (.int at_)), .cell (some (.ref L.w))])
  rw [show (["times", "top", "holder", "at", "world"] : List Str).map (fun x => AO.cell (bindF noLoc ["world", "at", "kind"] [.ref L.w, .int at_, .int kind] x)) = [AO.cell none, .cell none, .cell none, .cell (some (.int at_)), .cell (some (.ref L.w))] from rfl]
  have ecs : mkCells hp.length ["times", "top", "holder", "at", "world"] = ([("times", hp.length), ("top", hp.length + 1), ("holder", hp.length + 1 + 1), ("at", hp.length + 1 + 1 + 1), ("world", hp.length + 1 + 1 + 1 + 1)] : List (Str × Nat)) := rfl
  rw [ecs]
  dsimp only [num, List.cons_append, List.nil_append] at H0
  generalize hp.length + 1 + 1 + 1 + 1 = cw at H0 ⊢
  generalize hp.length + 1 + 1 + 1 = ca at H0 ⊢
  generalize hp.length + 1 + 1 = ch at H0 ⊢
  generalize hp.length + 1 = cp at H0 ⊢
  generalize hp.length = ct at H0 ⊢
  generalize hp ++ [AO.cell none, .cell none, .cell none, .cell (some (.int at_)), .cell (some (.ref L.w))] = hp0 at H0 ⊢
  clear ecs H
  obtain ⟨cs, ecs⟩ : ∃ cs : List (Str × Nat), cs = ([("times", ct), ("top", cp), ("holder", ch), ("at", ca), ("world", cw)] : List (Str × Nat)) := ⟨_, rfl⟩
  rw [← ecs]
  have q1 : cs.lookup ("times" : Str) = some ct := by rw [ecs]; rfl
  have q2 : cs.lookup ("top" : Str) = some cp := by rw [ecs]; rfl
  have q3 : cs.lookup ("holder" : Str) = some ch := by rw [ecs]; rfl
  have q4 : cs.lookup ("at" : Str) = some ca := by rw [ecs]; rfl
  have q5 : cs.lookup ("world" : Str) = some cw := by rw [ecs]; rfl
  unfold d_230
  dsimp only
  -- holder
  have HW : Holds hp0 (Wd L s ++ ((cw, .cell (some (.ref L.w))) :: (ct, .cell none) :: (cp, .cell none) :: (ch, .cell none) :: (ca, .cell (some (.int at_))) :: F)) := H0.wkr (fun _ h => by exact re_of (.cons (.cons (.cons (.cons (.cons (.app .last)))))) [5, 4, 0, 1, 2, 3, 6] rfl (by decide) h)
  have b1 := fun loc => cell_e q5 (mem_F HW (.head _)) loc none
  refine cps fun X_ k_ => ?_
  obtain ⟨hp1, e1, H1⟩ := storeC (cs := cs) (i := ch) (o := none) "holder" (.ref L.h) (V := Wd L s ++ ((cw, .cell (some (.ref L.w))) :: (ct, .cell none) :: (cp, .cell none) :: (ca, .cell (some (.int at_))) :: F)) (H0.wkr (fun _ h => by exact re_of (.cons (.cons (.cons (.cons (.cons (.app .last)))))) [2, 5, 4, 0, 1, 3, 6] rfl (by decide) h)) q3
  refine k_ ?_
  clear k_ X_
  try (refine wp_hide fun l_ => ?_; repeat intro _)
  refine wp_next (by assumption) (by assumption) (σ' := ⟨loc0, cs, hp1, none⟩) (by simp (decide := true) only [bind_ap, pure_ap, aCall, aMCall, aArgs, aLoc_e, aStore_e, setLoc_e, if_true, if_false, rbind_ok, rbind_exc, aTruth, b1, rds hG HW, e1]) ?_
  clear b1 e1 HW H0
  -- what stood
  have H1' : Holds hp1 (Wd L s ++ ((ch, .cell (some (.ref L.h))) :: (cw, .cell (some (.ref L.w))) :: (ct, .cell none) :: (cp, .cell none) :: (ca, .cell (some (.int at_))) :: F)) := H1.wkr (fun _ h => by exact re_of (.cons (.app (.cons (.cons (.cons (.cons .last)))))) [1, 0, 2, 3, 4, 5, 6] rfl (by decide) h)
  have b2 := fun loc => cell_e q3 (mem_F H1' (.head _)) loc none
  have H2 : Holds (hp1 ++ [AO.tuple [.int s.frames.length, .int s.ccalls, .int s.handling, .int s.top]]) ((cp, .cell none) :: (Wd L s ++ ((ch, .cell (some (.ref L.h))) :: (cw, .cell (some (.ref L.w))) :: (ct, .cell none) :: (ca, .cell (some (.int at_))) :: F))) := H1'.alr _ (fun _ h => by exact re_of (.cons (.app (.cons (.cons (.cons (.cons (.cons .last))))))) [5, 1, 2, 3, 4, 6, 7] rfl (by decide) h)
  refine cps fun X_ k_ => ?_
  obtain ⟨hp2, e2, H3⟩ := storeC (cs := cs) "top" (.int s.top) H2 q2
  refine k_ ?_
  clear k_ X_
  try (refine wp_hide fun l_ => ?_; repeat intro _)
  refine wp_next (by assumption) (by assumption) (σ' := ⟨setLoc "handling" (.int s.handling) (setLoc "ccalls" (.int s.ccalls) (setLoc "depth" (.int s.frames.length) loc0)), cs, hp2, none⟩) (by simp (decide := true) only [bind_ap, pure_ap, aCall, aMCall, aArgs, aLoc_e, aStore_e, setLoc_e, if_true, if_false, rbind_ok, rbind_exc, aTruth, b2, rds hG H1', len_fr H1' (show s.frames.length < 1000 by omega), tuple4, List.length_cons, List.length_nil, Nat.reduceAdd, unpack4, aStores, e2]) ?_
  clear b2 e2 H1 H1' H2
  -- times
  have H4 : Holds (hp2 ++ [AO.list [.int kind]]) ((ct, .cell none) :: (Wd L s ++ ((hp2.length, .list [.int kind]) :: (cp, .cell (some (.int s.top))) :: (ch, .cell (some (.ref L.h))) :: (cw, .cell (some (.ref L.w))) :: (ca, .cell (some (.int at_))) :: F))) := H3.alr _ (fun _ h => by exact re_of (.cons (.cons (.app (.cons (.cons (.cons (.cons .last))))))) [5, 2, 0, 1, 3, 4, 6, 7] rfl (by decide) h)
  have list1 : ∀ (a : AV) loc cs hp hdd, aList [a] ⟨loc, cs, hp, hdd⟩ = .ok (.ref hp.length) ⟨loc, cs, hp ++ [.list [a]], hdd⟩ := fun _ _ _ _ _ => rfl
  refine cps fun X_ k_ => ?_
  obtain ⟨hp3, e3, H5⟩ := storeC (cs := cs) "times" (.ref hp2.length) H4 q1
  obtain ⟨loc1, el1⟩ : ∃ l, l = setLoc "handling" (.int s.handling) (setLoc "ccalls" (.int s.ccalls) (setLoc "depth" (.int s.frames.length) loc0)) := ⟨_, rfl⟩
  refine k_ ?_
  clear k_ X_
  have k1 : loc1 "kind" = some (.int kind) := by rw [el1]; simp (decide := true) only [setLoc_e, if_false, k0]
  have k2 : loc1 "depth" = some (.int s.frames.length) := by rw [el1]; rfl
  have k3 : loc1 "ccalls" = some (.int s.ccalls) := by rw [el1]; rfl
  have k4 : loc1 "handling" = some (.int s.handling) := by rw [el1]; rfl
  rw [← el1]
  clear el1 k0
  try (refine wp_hide fun l_ => ?_; repeat intro _)
  refine wp_next (by assumption) (by assumption) (σ' := ⟨loc1, cs, hp3, none⟩) (by simp (decide := true) only [bind_ap, pure_ap, aCall, aMCall, aArgs, aLoc_e, aStore_e, setLoc_e, if_true, if_false, rbind_ok, rbind_exc, aTruth, k1, list1, e3]) ?_
  generalize hp2.length = t at H5 ⊢
  clear e3 H4 H3
  -- what answers
  have H6 : Holds hp3 (Wd L s ++ ((t, .list [.int kind]) :: (ct, .cell (some (.ref t))) :: (cp, .cell (some (.int s.top))) :: (ch, .cell (some (.ref L.h))) :: (cw, .cell (some (.ref L.w))) :: (ca, .cell (some (.int at_))) :: F)) := H5.wkr (fun _ h => by exact re_of (.cons (.app (.cons (.cons (.cons (.cons (.cons .last))))))) [1, 2, 0, 3, 4, 5, 6, 7] rfl (by decide) h)
  clear H5
  try (refine wp_hide fun l_ => ?_; repeat intro _)
  refine wp_mid (by assumption) (by assumption) (fun f σ' => f = .next ∧ ∃ ans hp4 Fc, σ' = ⟨setLoc "answers" ans loc1, cs, hp4, none⟩ ∧
    (kind < 0 ∧ ans = .none ∨ 0 ≤ kind ∧ ∃ q k ccs0, ans = .ref q ∧ (q, AO.tuple [.ref k, .int L.most]) ∈ Fc ∧ (k, AO.clos 0 ccs0) ∈ Fc ∧ ccs0.lookup ("world" : Str) = some cw ∧ ccs0.lookup ("times" : Str) = some ct) ∧
    Holds hp4 (Wd L s ++ ((t, .list [.int kind]) :: (ct, .cell (some (.ref t))) :: (cp, .cell (some (.int s.top))) :: (ch, .cell (some (.ref L.h))) :: (cw, .cell (some (.ref L.w))) :: (ca, .cell (some (.int at_))) :: (Fc ++ F)))) ?_ ?_
  · by_cases hk : kind < 0
    · try refine wp_end (by assumption) (by assumption) ?_
      exact WP.ok (a := .next) (σ := ⟨setLoc "answers" .none loc1, cs, hp3, none⟩) (by simp (decide := true) only [bind_ap, pure_ap, aCall, aMCall, aArgs, aLoc_e, aStore_e, setLoc_e, if_true, if_false, rbind_ok, rbind_exc, aTruth, k1, lt_e, decide_eq_true hk]) ⟨rfl, .none, hp3, [], rfl, .inl ⟨hk, rfl⟩, H6⟩
    · have lam : ∀ loc, aLambda 0 (freesOf lamReply.scope.names []) ⟨loc, cs, hp3, none⟩ = .ok (.ref hp3.length) ⟨loc, cs, hp3 ++ [.clos 0 [("world", cw), ("times", ct)]], none⟩ := fun loc => by
        rw [frees_reply, ecs]; rfl
      have H7 := H6.alloc (.clos 0 [("world", cw), ("times", ct)])
      have H7' : Holds (hp3 ++ [AO.clos 0 [("world", cw), ("times", ct)]]) (Wd L s ++ ((cw, .cell (some (.ref L.w))) :: (hp3.length, .clos 0 [("world", cw), ("times", ct)]) :: (t, .list [.int kind]) :: (ct, .cell (some (.ref t))) :: (cp, .cell (some (.int s.top))) :: (ch, .cell (some (.ref L.h))) :: (ca, .cell (some (.int at_))) :: F)) := H7.wkr (fun _ h => by exact re_of (.cons (.app (.cons (.cons (.cons (.cons (.cons (.cons .last)))))))) [1, 6, 0, 2, 3, 4, 5, 7, 8] rfl (by decide) h)
      have b3 := fun loc => cell_e q5 (mem_F H7' (.head _)) loc none
      have H8 := H7'.alloc (.tuple [.ref hp3.length, .int L.most])
      try refine wp_end (by assumption) (by assumption) ?_
      refine WP.ok (a := .next) (σ := ⟨setLoc "answers" (.ref (hp3 ++ [AO.clos 0 [("world", cw), ("times", ct)]]).length) loc1, cs, (hp3 ++ [AO.clos 0 [("world", cw), ("times", ct)]]) ++ [.tuple [.ref hp3.length, .int L.most]], none⟩) (by simp (decide := true) only [bind_ap, pure_ap, aCall, aMCall, aArgs, aLoc_e, aStore_e, setLoc_e, if_true, if_false, rbind_ok, rbind_exc, aTruth, k1, lt_e, decide_eq_false hk, lam, b3, rds hG H7', tuple2]) ?_
      refine ⟨rfl, _, _, [((hp3 ++ [AO.clos 0 [("world", cw), ("times", ct)]]).length, .tuple [.ref hp3.length, .int L.most]), (hp3.length, .clos 0 [("world", cw), ("times", ct)])], rfl, .inr ⟨by omega, _, hp3.length, [("world", cw), ("times", ct)], rfl, .head _, .tail _ (.head _), rfl, rfl⟩, ?_⟩
      refine H8.wk fun x => ?_
      simp +arith only [List.count_cons, List.count_append, List.count_nil]
  intro f σ' h_1
  refine cps fun X_ k_ => ?_
  obtain ⟨rfl, ans, hp4, Fc, rfl, ha, H7⟩ := h_1
  refine k_ ?_
  clear k_ X_
  clear H6
  dsimp only
  -- the guarded work
  have lam : ∀ loc, aLambda 1 (freesOf lamWork.scope.names []) ⟨loc, cs, hp4, none⟩ = .ok (.ref hp4.length) ⟨loc, cs, hp4 ++ [.clos 1 [("world", cw), ("at", ca)]], none⟩ := fun loc => by
    rw [frees_work, ecs]; rfl
  have b3 := fun loc => cell_e q3 (mem_F H7 (.tail _ (.tail _ (.tail _ (.head _))))) loc none
  have H8 : Holds (hp4 ++ [AO.clos 1 [("world", cw), ("at", ca)]]) (Wd L s ++ ((t, .list [.int kind]) :: (hp4.length, .clos 1 [("world", cw), ("at", ca)]) :: (ct, .cell (some (.ref t))) :: (cp, .cell (some (.int s.top))) :: (ch, .cell (some (.ref L.h))) :: (cw, .cell (some (.ref L.w))) :: (ca, .cell (some (.int at_))) :: (Fc ++ F))) := (H7.alloc (.clos 1 [("world", cw), ("at", ca)])).wkr (fun _ h => by exact re_of (.cons (.app (.cons (.cons (.cons (.cons (.cons (.cons (.app .last))))))))) [1, 2, 0, 3, 4, 5, 6, 7, 8, 9] rfl (by decide) h)
  refine cps fun X_ k_ => ?_
  obtain ⟨w, hp5, e5, hw⟩ := work_ok hG P j gp at_ kind _ h1 h2 R H8 (kw := hp4.length) (cw := cw) (ca := ca) (ct := ct) (.head _) rfl rfl (.tail _ (.tail _ (.tail _ (.tail _ (.head _))))) (.tail _ (.tail _ (.tail _ (.tail _ (.tail _ (.head _)))))) (.tail _ (.head _)) (ans := ans)
    (ha.imp id fun h => by
      obtain ⟨a, q, k, ccs0, b, c, d, e⟩ := h
      exact ⟨a, q, k, ccs0, b, .tail _ (.tail _ (.tail _ (.tail _ (.tail _ (.tail _ (List.mem_append_left _ c)))))), .tail _ (.tail _ (.tail _ (.tail _ (.tail _ (.tail _ (List.mem_append_left _ d)))))), e⟩)
  refine k_ ?_
  clear k_ X_
  try (refine wp_hide fun l_ => ?_; repeat intro _)
  refine wp_next (by assumption) (by assumption) (σ' := ⟨setLoc "found" w (setLoc "answers" ans loc1), cs, hp5, none⟩) (by simp (decide := true) only [bind_ap, pure_ap, aCall, aMCall, aArgs, aLoc_e, aStore_e, setLoc_e, if_true, if_false, rbind_ok, rbind_exc, aTruth, b3, lam, e5]) ?_
  clear e5 lam b3 H7 H8 ha
  have av := dueP_val L (j + 1) at_ s.ccalls s.frames.length s.handling
  generalize dueP L (j + 1) at_ s.ccalls s.frames.length s.handling = D at *
  refine cps fun X_ k_ => ?_
  obtain ⟨v, deep, many, l⟩ := D
  refine k_ ?_
  clear k_ X_
  dsimp only at hw av ⊢
  refine cps fun X_ k_ => ?_
  rcases hw with ⟨rfl, hq⟩ | ⟨x, rfl, hq⟩
  all_goals refine k_ ?_
  all_goals clear k_ X_
  · refine cps fun X_ k_ => ?_
    obtain ⟨hv, st, ops, ns, r1, r2, r3⟩ := hq
    refine k_ ?_
    clear k_ X_
    dsimp only at hv r1
    subst hv
    try (refine wp_hide fun l_ => ?_; repeat intro _)
    refine wp_retn (by assumption) (by assumption) (v := .none) (σ' := ⟨_, cs, hp5, none⟩) (by simp (decide := true) only [bind_ap, pure_ap, aCall, aMCall, aArgs, aLoc_e, aStore_e, setLoc_e, if_true, if_false, rbind_ok, rbind_exc, aTruth, aSeq, isn_none]; rfl) ?_
    have ea : ansK L.most kind .none deep many s.handling = (.none, []) := by unfold ansK; rw [if_neg fun h => by cases h.1]
    rw [ea]
    refine ⟨st, ops, ns, rfl, by rw [r1, List.append_nil], r2, r3.wk fun x => ?_⟩
    simp +arith only [List.count_cons, List.count_append]
  have pa := valN_plain (ansK_val (most := L.most) (kind := kind) (deep := deep) (many := many) (hg := s.handling) av)
  generalize ansK L.most kind v deep many s.handling = a at hq pa ⊢
  refine cps fun X_ k_ => ?_
  obtain ⟨hv, st, ops, ns, fr, tp, cc, hh, d, tr, clx, fsx, r1, r2, r3, H9⟩ := hq
  refine k_ ?_
  clear k_ X_
  dsimp only at hv r1
  try (refine wp_hide fun l_ => ?_; repeat intro _)
  refine wp_next (by assumption) (by assumption) (σ' := ⟨setLoc "found" (.ref x) (setLoc "answers" ans loc1), cs, hp5, none⟩) (by simp (decide := true) only [bind_ap, pure_ap, aCall, aMCall, aArgs, aLoc_e, aStore_e, setLoc_e, if_true, if_false, rbind_ok, rbind_exc, aTruth, aSeq, isn_ref]) ?_
  have n1 : (setLoc "found" (.ref x) (setLoc "answers" ans loc1)) "depth" = some (.int s.frames.length) := by simp (decide := true) only [setLoc_e, if_false, k2]
  have n2 : (setLoc "found" (.ref x) (setLoc "answers" ans loc1)) "ccalls" = some (.int s.ccalls) := by simp (decide := true) only [setLoc_e, if_false, k3]
  have n3 : (setLoc "found" (.ref x) (setLoc "answers" ans loc1)) "handling" = some (.int s.handling) := by simp (decide := true) only [setLoc_e, if_false, k4]
  have n4 : (setLoc "found" (.ref x) (setLoc "answers" ans loc1)) "found" = some (.ref x) := by simp (decide := true) only [setLoc_e, if_true]
  generalize (setLoc "found" (.ref x) (setLoc "answers" ans loc1)) = loc2 at n1 n2 n3 n4 ⊢
  clear k1 k2 k3 k4 loc1
  refine cps fun X_ k_ => ?_
  obtain ⟨Fz, eFz⟩ : ∃ Fz : HV, Fz = (x, .exc 45 (some d) clx fsx) :: (d, .dict (excD a.1 tr)) :: (ch, .cell (some (.ref L.h))) :: (cp, .cell (some (.int s.top))) :: (cw, .cell (some (.ref L.w))) :: F := ⟨_, rfl⟩
  obtain ⟨s1, es1⟩ : ∃ s1 : PS, s1 = { s with stack := st, ops := ops, notes := s.notes ++ ns, frames := s.frames ++ fr, ccalls := cc, handling := hh, top := tp } := ⟨_, rfl⟩
  refine k_ ?_
  clear k_ X_
  have H10 : Holds hp5 (Wd L s1 ++ Fz) := H9.wk fun x => by rw [eFz, es1]; simp +arith only [List.count_cons, List.count_append]
  have z1 : (x, AO.exc 45 (some d) clx fsx) ∈ Fz := by rw [eFz]; exact .head _
  have z2 : (d, AO.dict (excD a.1 tr)) ∈ Fz := by rw [eFz]; exact .tail _ (.head _)
  have z3 : (ch, AO.cell (some (.ref L.h))) ∈ Fz := by rw [eFz]; exact .tail _ (.tail _ (.head _))
  have z4 : (cp, AO.cell (some (.int s.top))) ∈ Fz := by rw [eFz]; exact .tail _ (.tail _ (.tail _ (.head _)))
  have z5 : (cw, AO.cell (some (.ref L.w))) ∈ Fz := by rw [eFz]; exact .tail _ (.tail _ (.tail _ (.tail _ (.head _))))
  have eo : s1.ops = ops := by rw [es1]
  have est : s1.stack = st := by rw [es1]
  have g1 : Good L s1 := r3.of (by rw [est]) (by rw [eo]) (by rw [es1])
  have hl := ops_len (k := 8) g1.sorted g1.range
  clear H9
  -- what is open
  have pk1 : ∀ loc hp hdd, aHas (freesOf [(".0", .local), ("upval", .local), ("holder", .free)] []) ⟨loc, cs, hp, hdd⟩ = .ok () ⟨loc, cs, hp, hdd⟩ := fun _ _ _ => by rw [ecs]; rfl
  have ph1 : ∀ loc hp hdd, aPick ⟨loc, cs, hp, hdd⟩ (freesOf [(".0", .local), ("upval", .local), ("holder", .free)] []) = some ([("holder", ch)] : List (Str × Nat)) := fun _ _ _ => by rw [ecs]; rfl
  have b4 := fun loc => cell_e q3 (mem_F H10 z3) loc none
  have a3 : hp5[L.op]? = some (.list (s1.ops.map fun o => .ref o.u)) := H10.2 _ (.tail _ (.tail _ (.tail _ (.head _))))
  try (refine wp_hide fun l_ => ?_; repeat intro _)
  refine wp_inv (by assumption) (by assumption) (J := fun σ => ∃ hp' ah as, σ = ⟨setLoc "ahead" (.ref ah) loc2, cs, hp', none⟩ ∧ as.map (·.2) = s1.ops ∧ Holds hp' (Wd L s1 ++ ((ah, .list (aheadL as)) :: (aheadV st as ++ Fz)))) ?_ ?_
  · refine inv_eq (by simp (decide := true) only [bind_ap, pure_ap, aCall, aMCall, aArgs, aLoc_e, aStore_e, setLoc_e, if_true, if_false, rbind_ok, rbind_exc, aTruth, pk1, b4, rds hG H10]; rfl) ?_
    refine bind_inv (v := .ref hp5.length) (loc := loc2) (cs := cs) (hdd := none) (P := fun hp' => ∃ as, as.map (·.2) = s1.ops ∧ Holds hp' (Wd L s1 ++ ((hp5.length, .list (aheadL as)) :: (aheadV st as ++ Fz)))) ?_ ?_
    · have H11 : Holds (hp5 ++ [AO.list []]) (Wd L s1 ++ ((hp5.length, .list (aheadL [])) :: (aheadV st [] ++ Fz))) := H10.al _ fun y => by simp +arith only [aheadL, aheadV, List.map_nil, List.nil_append, List.count_cons, List.count_append]
      refine comp_inv (ph1 loc2 hp5 none) (for_list (xs := s1.ops.map fun o => .ref o.u) (I := fun i σ => ∃ loc hp' as, σ = ⟨loc, [("holder", ch)], hp', none⟩ ∧ as.map (·.2) = s1.ops.take i ∧ Holds hp' (Wd L s1 ++ ((hp5.length, .list (aheadL as)) :: (aheadV st as ++ Fz)))) ?_ ?_ ⟨noLoc, _, [], rfl, rfl, H11⟩) ?_
      · intro i σ h_2
        refine cps fun X_ k_ => ?_
        obtain ⟨loc, hp', as, rfl, e, H'⟩ := h_2
        refine k_ ?_
        clear k_ X_
        exact ⟨H'.2 _ (.tail _ (.tail _ (.tail _ (.head _)))), rfl⟩
      · intro i u σ hu h_3
        refine cps fun X_ k_ => ?_
        obtain ⟨loc, hp', as, rfl, e, H'⟩ := h_3
        refine k_ ?_
        clear k_ X_
        rw [List.getElem?_map] at hu
        refine cps fun X_ k_ => ?_
        obtain ⟨o, ho, rfl⟩ := Option.map_eq_some_iff.mp hu
        refine k_ ?_
        clear k_ X_
        have hi := (List.getElem?_eq_some_iff.mp ho).1
        have om := List.mem_of_getElem? ho
        have or := g1.range o om
        have c1 := fun loc => cell_e (cs := [("holder", ch)]) (x := "holder") rfl (mem_F H' (.tail _ (List.mem_append_right _ z3))) loc none
        have c2 := op_index hG H' om
        have c3 := get_stack H' g1 or.1 (by omega)
        rw [est] at c3
        have H2 : Holds (hp' ++ [AO.tuple [.ref o.u, .int o.idx, .int (st.getD o.idx.toNat 0)]]) ((hp5.length, .list (aheadL as)) :: (Wd L s1 ++ ((hp'.length, .tuple [.ref o.u, .int o.idx, .int (st.getD o.idx.toNat 0)]) :: (aheadV st as ++ Fz)))) := H'.alr _ (fun _ h => by exact re_of (.cons (.app (.cons (.app .last)))) [2, 1, 0, 3, 4] rfl (by decide) h)
        have al : (aheadL as).length < 1000000 := by
          have : as.length = i := by rw [← List.length_map (f := fun p : Nat × Op => p.2), e, List.length_take]; omega
          unfold aheadL
          rw [List.length_map]
          omega
        refine cps fun X_ k_ => ?_
        obtain ⟨hp3, e3, H3⟩ := app_list (.ref hp'.length) H2 al
        refine k_ ?_
        clear k_ X_
        refine ⟨⟨setLoc "upval" (.ref o.u) loc, [("holder", ch)], hp', none⟩, ⟨setLoc "upval" (.ref o.u) loc, [("holder", ch)], hp3, none⟩, rfl, ?_, _, hp3, as ++ [(hp'.length, o)], rfl, ?_, ?_⟩
        · simp (decide := true) only [bind_ap, pure_ap, aCall, aMCall, aArgs, aLoc_e, aStore_e, setLoc_e, if_true, if_false, rbind_ok, rbind_exc, aTruth, aCompBody, c2, c1, rds hG H', c3, tuple3, e3]
        · rw [List.map_append, e, take_snoc ho]; rfl
        · refine H3.wk fun y => ?_
          simp +arith only [aheadL, aheadV, List.map_append, List.map_cons, List.map_nil, List.count_cons, List.count_append, List.count_nil]
      · intro σ h_4
        refine cps fun X_ k_ => ?_
        obtain ⟨loc, hp', as, rfl, e, H'⟩ := h_4
        refine k_ ?_
        clear k_ X_
        rw [List.length_map, List.take_length] at e
        exact ⟨as, e, H'⟩
    · intro hp' h_5
      refine cps fun X_ k_ => ?_
      obtain ⟨as, e, H'⟩ := h_5
      refine k_ ?_
      clear k_ X_
      exact ⟨_, by simp (decide := true) only [bind_ap, pure_ap, aCall, aMCall, aArgs, aLoc_e, aStore_e, setLoc_e, if_true, if_false, rbind_ok, rbind_exc, aTruth], hp', hp5.length, as, rfl, e, H'⟩
  intro σ h_6
  refine cps fun X_ k_ => ?_
  obtain ⟨hp6, ah, as, rfl, eas, H11⟩ := h_6
  refine k_ ?_
  clear k_ X_
  have alen : as.length = s1.ops.length := by rw [← eas, List.length_map]
  clear b4 a3 H10
  -- all is taken back
  have b4 := fun loc => cell_e q3 (mem_F H11 (.tail _ (List.mem_append_right _ z3))) loc none
  have b5 := fun loc => cell_e q2 (mem_F H11 (.tail _ (List.mem_append_right _ z4))) loc none
  have f1 : s1.frames.length < 1000 := by rw [es1]; simp; omega
  have f2 : s.frames.length ≤ s1.frames.length := by rw [es1]; simp
  refine cps fun X_ k_ => ?_
  obtain ⟨w, hp7, e7, rfl, H12⟩ := taken_back_ok hG (hdd := none) H11 g1 f1 s.frames.length f2 s.ccalls s.handling s.top
  refine k_ ?_
  clear k_ X_
  try (refine wp_hide fun l_ => ?_; repeat intro _)
  refine wp_next (by assumption) (by assumption) (σ' := ⟨setLoc "closed" (.ref hp6.length) (setLoc "ahead" (.ref ah) loc2), cs, hp7, none⟩) (by simp (decide := true) only [bind_ap, pure_ap, aCall, aMCall, aArgs, aLoc_e, aStore_e, setLoc_e, if_true, if_false, rbind_ok, rbind_exc, aTruth, n1, n2, n3, b4, b5, e7]) ?_
  generalize hp6.length = cl at H12 ⊢
  clear e7 b4 b5 H11
  obtain ⟨m, em⟩ : ∃ m, m = spotN (s.top - 1) s1.ops := ⟨_, rfl⟩
  rw [← em] at H12
  have fi1 : s1.ops.filter (fun o => decide (s.top ≤ o.idx)) = s1.ops.take m := by rw [em]; exact spot_filter g1.sorted
  have fi2 : s1.ops.filter (fun o => decide (o.idx < s.top)) = s1.ops.drop m := by rw [em]; exact spot_filter' g1.sorted
  refine cps fun X_ k_ => ?_
  obtain ⟨s2, es2⟩ : ∃ s2 : PS, s2 = { s with stack := st, ops := s1.ops.drop m, notes := s.notes ++ ns } := ⟨_, rfl⟩
  obtain ⟨Fy, eFy⟩ : ∃ Fy : HV, Fy = (cl, .list ((s1.ops.take m).map fun o => .ref o.u)) :: (clsV st (s1.ops.take m) ++ ((ah, .list (aheadL as)) :: (aheadV st as ++ Fz))) := ⟨_, rfl⟩
  refine k_ ?_
  clear k_ X_
  have H13 : Holds hp7 (Wd L s2 ++ Fy) := by
    have e : ({ s1 with frames := s1.frames.take s.frames.length, ccalls := s.ccalls, handling := s.handling, top := s.top, ops := s1.ops.drop m } : PS) = s2 := by rw [es2, es1]; dsimp only; rw [List.take_left]
    rw [e, est] at H12
    rw [eFy]
    exact H12
  clear H12
  have g2 : Good L s2 := by
    rw [es2]
    exact ⟨by rw [← est]; exact g1.stack, (g1.drop m).sorted, (g1.drop m).range, g.top⟩
  have y1 : (cl, AO.list ((s1.ops.take m).map fun o => .ref o.u)) ∈ Fy := by rw [eFy]; exact .head _
  have y2 : ∀ q ∈ clsV st (s1.ops.take m), q ∈ Fy := fun q hq => by rw [eFy]; exact .tail _ (List.mem_append_left _ hq)
  have y3 : (ah, AO.list (aheadL as)) ∈ Fy := by rw [eFy]; exact .tail _ (List.mem_append_right _ (.head _))
  have y4 : ∀ q ∈ aheadV st as, q ∈ Fy := fun q hq => by rw [eFy]; exact .tail _ (List.mem_append_right _ (.tail _ (List.mem_append_left _ hq)))
  have y5 : ∀ q ∈ Fz, q ∈ Fy := fun q hq => by rw [eFy]; exact .tail _ (List.mem_append_right _ (.tail _ (List.mem_append_right _ hq)))
  -- what is due
  obtain ⟨loc3, el3⟩ : ∃ l, l = setLoc "closed" (.ref cl) (setLoc "ahead" (.ref ah) loc2) := ⟨_, rfl⟩
  rw [← el3]
  have p1 : loc3 "depth" = some (.int s.frames.length) := by rw [el3]; simp (decide := true) only [setLoc_e, if_false, n1]
  have p2 : loc3 "ccalls" = some (.int s.ccalls) := by rw [el3]; simp (decide := true) only [setLoc_e, if_false, n2]
  have p3 : loc3 "handling" = some (.int s.handling) := by rw [el3]; simp (decide := true) only [setLoc_e, if_false, n3]
  have p4 : loc3 "found" = some (.ref x) := by rw [el3]; simp (decide := true) only [setLoc_e, if_false, n4]
  have p5 : loc3 "ahead" = some (.ref ah) := by rw [el3]; simp (decide := true) only [setLoc_e, if_false, if_true]
  have p6 : loc3 "closed" = some (.ref cl) := by rw [el3]; rfl
  clear el3 n1 n2 n3 n4 loc2
  have pk2 : ∀ loc hp hdd, aHas (freesOf [(".0", .local), ("upval", .local), ("spot", .local), ("value", .local), ("top", .free)] []) ⟨loc, cs, hp, hdd⟩ = .ok () ⟨loc, cs, hp, hdd⟩ := fun _ _ _ => by rw [ecs]; rfl
  have ph2 : ∀ loc hp hdd, aPick ⟨loc, cs, hp, hdd⟩ (freesOf [(".0", .local), ("upval", .local), ("spot", .local), ("value", .local), ("top", .free)] []) = some ([("top", cp)] : List (Str × Nat)) := fun _ _ _ => by rw [ecs]; rfl
  have oe := only_e (mem_F H13 y3)
  have adl : (aheadL as).length = as.length := by unfold aheadL; rw [List.length_map]
  try (refine wp_hide fun l_ => ?_; repeat intro _)
  refine wp_inv (by assumption) (by assumption) (J := fun σ => ∃ hp' du, σ = ⟨setLoc "due" (.ref du) loc3, cs, hp', none⟩ ∧ Holds hp' (Wd L s2 ++ ((du, .list ((as.filter fun p => decide (s.top ≤ p.2.idx)).map fun p => .ref p.2.u)) :: Fy))) ?_ ?_
  · refine inv_eq (by simp (decide := true) only [bind_ap, pure_ap, aCall, aMCall, aArgs, aLoc_e, aStore_e, setLoc_e, if_true, if_false, rbind_ok, rbind_exc, aTruth, pk2, p5, oe]; rfl) ?_
    refine bind_inv (v := .ref hp7.length) (loc := loc3) (cs := cs) (hdd := none) (P := fun hp' => Holds hp' (Wd L s2 ++ ((hp7.length, .list ((as.filter fun p => decide (s.top ≤ p.2.idx)).map fun p => .ref p.2.u)) :: Fy))) ?_ ?_
    · have H14 : Holds (hp7 ++ [AO.list []]) (Wd L s2 ++ ((hp7.length, .list (((as.take 0).filter fun p => decide (s.top ≤ p.2.idx)).map fun p => .ref p.2.u)) :: Fy)) := H13.al _ fun y => by simp +arith only [List.take_zero, List.filter_nil, List.map_nil, List.count_cons, List.count_append]
      refine comp_inv (ph2 loc3 hp7 none) (for_list (xs := aheadL as) (I := fun i σ => ∃ loc hp', σ = ⟨loc, [("top", cp)], hp', none⟩ ∧ Holds hp' (Wd L s2 ++ ((hp7.length, .list (((as.take i).filter fun p => decide (s.top ≤ p.2.idx)).map fun p => .ref p.2.u)) :: Fy))) ?_ ?_ ⟨noLoc, _, rfl, H14⟩) ?_
      · intro i σ h_7
        refine cps fun X_ k_ => ?_
        obtain ⟨loc, hp', rfl, H'⟩ := h_7
        refine k_ ?_
        clear k_ X_
        exact ⟨mem_F H' (.tail _ y3), rfl⟩
      · intro i u σ hu h_8
        refine cps fun X_ k_ => ?_
        obtain ⟨loc, hp', rfl, H'⟩ := h_8
        refine k_ ?_
        clear k_ X_
        refine cps fun X_ k_ => ?_
        obtain ⟨p, hp_, rfl⟩ := ahead_get hu
        refine k_ ?_
        clear k_ X_
        have hi := (List.getElem?_eq_some_iff.mp hp_).1
        have ta := ahead_at H' (fun q hq => List.mem_append_right _ (.tail _ (y4 q hq))) hp_
        have ue := fun loc => unpack_e (hdd := none) (k := 3) ta rfl (.inl rfl) loc [("top", cp)]
        have c1 := fun loc => cell_e (cs := [("top", cp)]) (x := "top") rfl (mem_F H' (.tail _ (y5 _ z4))) loc none
        by_cases hq : s.top ≤ p.2.idx
        · have al : (((as.take i).filter fun p => decide (s.top ≤ p.2.idx)).map fun p => AV.ref p.2.u).length < 1000000 := by
            rw [List.length_map]
            have := List.length_filter_le (fun p : Nat × Op => decide (s.top ≤ p.2.idx)) (as.take i)
            rw [List.length_take] at this
            omega
          refine cps fun X_ k_ => ?_
          obtain ⟨hp3, e3, H3⟩ := app_list (.ref p.2.u) (f := hp7.length) (V := Wd L s2 ++ Fy) (H'.wkr (fun _ h => by exact re_of (.app (.cons .last)) [1, 0, 2] rfl (by decide) h)) al
          refine k_ ?_
          clear k_ X_
          refine ⟨⟨setLoc "value" (.int (st.getD p.2.idx.toNat 0)) (setLoc "spot" (.int p.2.idx) (setLoc "upval" (.ref p.2.u) loc)), [("top", cp)], hp', none⟩, ⟨setLoc "value" (.int (st.getD p.2.idx.toNat 0)) (setLoc "spot" (.int p.2.idx) (setLoc "upval" (.ref p.2.u) loc)), [("top", cp)], hp3, none⟩, ?_, ?_, _, hp3, rfl, ?_⟩
          · simp (decide := true) only [bind_ap, pure_ap, aCall, aMCall, aArgs, aLoc_e, aStore_e, setLoc_e, if_true, if_false, rbind_ok, rbind_exc, aTruth, List.length_cons, List.length_nil, ue, aStores]
          · simp (decide := true) only [bind_ap, pure_ap, aCall, aMCall, aArgs, aLoc_e, aStore_e, setLoc_e, if_true, if_false, rbind_ok, rbind_exc, aTruth, aCompBody, c1, ge_e, decide_eq_true hq, e3]
          · refine H3.wk fun y => ?_
            rw [take_snoc hp_, List.filter_append, List.filter_cons, if_pos (decide_eq_true hq), List.filter_nil, List.map_append]
            simp +arith only [List.map_cons, List.map_nil, List.count_cons, List.count_append]
        · refine ⟨⟨setLoc "value" (.int (st.getD p.2.idx.toNat 0)) (setLoc "spot" (.int p.2.idx) (setLoc "upval" (.ref p.2.u) loc)), [("top", cp)], hp', none⟩, ⟨setLoc "value" (.int (st.getD p.2.idx.toNat 0)) (setLoc "spot" (.int p.2.idx) (setLoc "upval" (.ref p.2.u) loc)), [("top", cp)], hp', none⟩, ?_, ?_, _, hp', rfl, ?_⟩
          · simp (decide := true) only [bind_ap, pure_ap, aCall, aMCall, aArgs, aLoc_e, aStore_e, setLoc_e, if_true, if_false, rbind_ok, rbind_exc, aTruth, List.length_cons, List.length_nil, ue, aStores]
          · simp (decide := true) only [bind_ap, pure_ap, aCall, aMCall, aArgs, aLoc_e, aStore_e, setLoc_e, if_true, if_false, rbind_ok, rbind_exc, aTruth, aCompBody, c1, ge_e, decide_eq_false hq]
          · rw [take_snoc hp_, List.filter_append, List.filter_cons, if_neg (by simpa using hq), List.filter_nil, List.append_nil]
            exact H'
      · intro σ h_9
        refine cps fun X_ k_ => ?_
        obtain ⟨loc, hp', rfl, H'⟩ := h_9
        refine k_ ?_
        clear k_ X_
        rw [adl, List.take_length] at H'
        exact H'
    · rintro hp' H'
      exact ⟨_, by simp (decide := true) only [bind_ap, pure_ap, aCall, aMCall, aArgs, aLoc_e, aStore_e, setLoc_e, if_true, if_false, rbind_ok, rbind_exc, aTruth], hp', hp7.length, rfl, H'⟩
  intro σ h_10
  refine cps fun X_ k_ => ?_
  obtain ⟨hp8, du, rfl, H14⟩ := h_10
  refine k_ ?_
  clear k_ X_
  clear H13 oe
  obtain ⟨loc4, el4⟩ : ∃ l, l = setLoc "due" (.ref du) loc3 := ⟨_, rfl⟩
  rw [← el4]
  have o1 : loc4 "depth" = some (.int s.frames.length) := by rw [el4]; simp (decide := true) only [setLoc_e, if_false, p1]
  have o2 : loc4 "ccalls" = some (.int s.ccalls) := by rw [el4]; simp (decide := true) only [setLoc_e, if_false, p2]
  have o3 : loc4 "handling" = some (.int s.handling) := by rw [el4]; simp (decide := true) only [setLoc_e, if_false, p3]
  have o4 : loc4 "found" = some (.ref x) := by rw [el4]; simp (decide := true) only [setLoc_e, if_false, p4]
  have o5 : loc4 "ahead" = some (.ref ah) := by rw [el4]; simp (decide := true) only [setLoc_e, if_false, p5]
  have o6 : loc4 "closed" = some (.ref cl) := by rw [el4]; simp (decide := true) only [setLoc_e, if_false, p6]
  have o7 : loc4 "due" = some (.ref du) := by rw [el4]; rfl
  clear el4 p1 p2 p3 p4 p5 p6 loc3
  obtain ⟨Fx, eFx⟩ : ∃ Fx : HV, Fx = (du, .list ((as.filter fun p => decide (s.top ≤ p.2.idx)).map fun p => .ref p.2.u)) :: Fy := ⟨_, rfl⟩
  rw [← eFx] at H14
  have x1 : (du, AO.list ((as.filter fun p => decide (s.top ≤ p.2.idx)).map fun p => .ref p.2.u)) ∈ Fx := by rw [eFx]; exact .head _
  have x2 : ∀ q ∈ Fy, q ∈ Fx := fun q hq => by rw [eFx]; exact .tail _ hq
  have u1 : s2.frames = s.frames := by rw [es2]
  have u2 : s2.ccalls = s.ccalls := by rw [es2]
  have u3 : s2.handling = s.handling := by rw [es2]
  have u4 : s2.top = s.top := by rw [es2]
  have u5 : s2.stack = st := by rw [es2]
  have u6 : s2.ops = s1.ops.drop m := by rw [es2]
  have u7 : s2.well = true := by rw [es2]; exact R.well
  -- all stands
  have H15 := H14.alr (V' := Wd L s2 ++ Fx) (.tuple [.int s.frames.length, .int s.ccalls, .int s.handling, .int s.top]) (fun _ h => by exact re_of (.cons (.app .last)) [1, 2] rfl (by decide) h)
  have H16 := H15.alr (V' := Wd L s2 ++ Fx) (.tuple [.int s.frames.length, .int s.ccalls, .int s.handling, .int s.top]) (fun _ h => by exact re_of (.cons (.app .last)) [1, 2] rfl (by decide) h)
  have c1 := fun loc => cell_e q3 (mem_F H14 (x2 _ (y5 _ z3))) loc none
  have c2 := fun loc => cell_e q2 (mem_F H14 (x2 _ (y5 _ z4))) loc none
  have c3 := fun loc => cell_e q2 (mem_F H15 (x2 _ (y5 _ z4))) loc none
  have lf := len_fr H14 (by rw [u1]; omega)
  rw [u1] at lf
  have rr := rds hG H14
  rw [u2, u3, u4] at rr
  have eqt := eqS_tuple (hp := (hp8 ++ [AO.tuple [.int s.frames.length, .int s.ccalls, .int s.handling, .int s.top]]) ++ [AO.tuple [.int s.frames.length, .int s.ccalls, .int s.handling, .int s.top]]) (i := hp8.length) (j := (hp8 ++ [AO.tuple [.int s.frames.length, .int s.ccalls, .int s.handling, .int s.top]]).length) (xs := [.int s.frames.length, .int s.ccalls, .int s.handling, .int s.top])
    (by rw [List.getElem?_append_left (by simp)]; simp) (by simp) (fun v hv => by
      simp only [List.mem_cons, List.not_mem_nil, or_false] at hv
      rcases hv with rfl | rfl | rfl | rfl <;> exact atom_int _)
  try (refine wp_hide fun l_ => ?_; repeat intro _)
  refine wp_next (by assumption) (by assumption) (σ' := ⟨setLoc "stands" (.bool true) loc4, cs, _, none⟩) (by simp (decide := true) only [bind_ap, pure_ap, aCall, aMCall, aArgs, aLoc_e, aStore_e, setLoc_e, if_true, if_false, rbind_ok, rbind_exc, aTruth, lf, rr, c1, c2, c3, o1, o2, o3, tuple4, eqt]; rfl) ?_
  generalize (hp8 ++ [AO.tuple [.int s.frames.length, .int s.ccalls, .int s.handling, .int s.top]]) ++ [AO.tuple [.int s.frames.length, .int s.ccalls, .int s.handling, .int s.top]] = hp9 at H16 ⊢
  clear eqt rr lf c1 c2 c3 H15 H14 o1 o2 o3
  -- each variable
  have oe := only_e (mem_F H16 (x2 _ y3))
  have w1 : (setLoc "stands" (.bool true) loc4) "stands" = some (.bool true) := rfl
  have w2 : (setLoc "stands" (.bool true) loc4) "found" = some (.ref x) := by simp (decide := true) only [setLoc_e, if_false, o4]
  have w3 : (setLoc "stands" (.bool true) loc4) "ahead" = some (.ref ah) := by simp (decide := true) only [setLoc_e, if_false, o5]
  have w4 : (setLoc "stands" (.bool true) loc4) "closed" = some (.ref cl) := by simp (decide := true) only [setLoc_e, if_false, o6]
  have w5 : (setLoc "stands" (.bool true) loc4) "due" = some (.ref du) := by simp (decide := true) only [setLoc_e, if_false, o7]
  generalize setLoc "stands" (.bool true) loc4 = loc5 at w1 w2 w3 w4 w5 ⊢
  clear o4 o5 o6 o7 loc4
  try (refine wp_hide fun l_ => ?_; repeat intro _)
  refine wp_inv (by assumption) (by assumption) (J := fun σ => ∃ loc hp' st', σ = ⟨loc, cs, hp', none⟩ ∧ loc "stands" = some (.bool true) ∧ loc "found" = some (.ref x) ∧ loc "ahead" = some (.ref ah) ∧ loc "closed" = some (.ref cl) ∧ loc "due" = some (.ref du) ∧
    st'.length = 9 ∧ (∀ n : Nat, (n : Int) < s.top → st'.getD n 0 = st.getD n 0) ∧ Holds hp' (Wd L { s2 with stack := st' } ++ Fx)) ?_ ?_
  · refine inv_eq (by simp (decide := true) only [bind_ap, pure_ap, aCall, aMCall, aArgs, aLoc_e, aStore_e, setLoc_e, if_true, if_false, rbind_ok, rbind_exc, aTruth, w3, oe]; rfl) ?_
    refine for_list (xs := aheadL as) (I := fun _ σ => ∃ loc hp' st', σ = ⟨loc, cs, hp', none⟩ ∧ loc "stands" = some (.bool true) ∧ loc "found" = some (.ref x) ∧ loc "ahead" = some (.ref ah) ∧ loc "closed" = some (.ref cl) ∧ loc "due" = some (.ref du) ∧
      st'.length = 9 ∧ (∀ n : Nat, (n : Int) < s.top → st'.getD n 0 = st.getD n 0) ∧ Holds hp' (Wd L { s2 with stack := st' } ++ Fx)) ?_ ?_ ⟨loc5, hp9, st, rfl, w1, w2, w3, w4, w5, by rw [← est]; exact g1.stack, fun _ _ => rfl, by
        have e : ({ s2 with stack := st } : PS) = s2 := by rw [es2]
        rw [e]; exact H16⟩
    · intro i σ h_11
      refine cps fun X_ k_ => ?_
      obtain ⟨loc, hp', st', rfl, -, -, -, -, -, -, -, H'⟩ := h_11
      refine k_ ?_
      clear k_ X_
      exact ⟨mem_F H' (x2 _ y3), rfl⟩
    · intro i u σ hu h_12
      refine cps fun X_ k_ => ?_
      obtain ⟨loc, hp', st', rfl, v1, v2, v3, v4, v5, v6, v7, H'⟩ := h_12
      refine k_ ?_
      clear k_ X_
      refine cps fun X_ k_ => ?_
      obtain ⟨p, hp_, rfl⟩ := ahead_get hu
      obtain ⟨t0, o⟩ := p
      refine k_ ?_
      clear k_ X_
      have om : o ∈ s1.ops := by rw [← eas]; exact List.mem_map.mpr ⟨(t0, o), List.mem_of_getElem? hp_, rfl⟩
      have or := g1.range o om
      have ta := ahead_at H' (fun q hq => List.mem_append_right _ (x2 _ (y4 q hq))) hp_
      dsimp only at ta
      have ue := fun loc => unpack_e (hdd := none) (k := 3) ta rfl (.inl rfl) loc cs
      have c1 := fun loc => cell_e q3 (mem_F H' (x2 _ (y5 _ z3))) loc none
      have c2 := fun loc => cell_e q2 (mem_F H' (x2 _ (y5 _ z4))) loc none
      have g' : Good L { s2 with stack := st' } := ⟨v6, g2.sorted, g2.range, g2.top⟩
      have gs := get_stack H' g' or.1 (by omega)
      dsimp only at gs
      refine cps fun X_ k_ => ?_
      obtain ⟨hp3, e3, H3⟩ := set_stack H' g' or.1 (by omega) (st'.getD o.idx.toNat 0 + if s.top ≤ o.idx then 500 else 0)
      refine k_ ?_
      clear k_ X_
      dsimp only at H3
      have g3 : Good L { s2 with stack := st'.set o.idx.toNat (st'.getD o.idx.toNat 0 + if s.top ≤ o.idx then 500 else 0) } := ⟨by show (List.set _ _ _).length = 9; rw [List.length_set]; exact v6, g2.sorted, g2.range, g2.top⟩
      have c3 := fun loc => cell_e q2 (mem_F H3 (x2 _ (y5 _ z4))) loc none
      refine ⟨⟨setLoc "value" (.int (st.getD o.idx.toNat 0)) (setLoc "spot" (.int o.idx) (setLoc "upval" (.ref o.u) loc)), cs, hp', none⟩, ⟨setLoc "stands" (.bool true) (setLoc "value" (.int (st.getD o.idx.toNat 0)) (setLoc "spot" (.int o.idx) (setLoc "upval" (.ref o.u) loc))), cs, hp3, none⟩, ?_, ?_, _, hp3, _, rfl, rfl, ?_, ?_, ?_, ?_, g3.stack, ?_, H3⟩
      · simp (decide := true) only [bind_ap, pure_ap, aCall, aMCall, aArgs, aLoc_e, aStore_e, setLoc_e, if_true, if_false, rbind_ok, rbind_exc, aTruth, List.length_cons, List.length_nil, ue, aStores]
      · by_cases hq : s.top ≤ o.idx
        · rw [if_pos hq] at e3
          have ot : o ∈ s1.ops.take m := by rw [← fi1]; exact List.mem_filter.mpr ⟨om, decide_eq_true hq⟩
          have i1 : hp3[o.u]? = some (.inst 115 o.d) := mem_F H3 (x2 _ (y2 (o.u, _) (List.mem_flatMap.mpr ⟨o, ot, .head _⟩)))
          have i2 : hp3[o.d]? = some (.dict (upDict .none (.int (-1)) (.int (st.getD o.idx.toNat 0)))) := mem_F H3 (x2 _ (y2 (o.d, _) (List.mem_flatMap.mpr ⟨o, ot, .tail _ (.head _)⟩)))
          have io := is_open_ok hG (b := false) i1 i2 (.inl ⟨rfl, rfl⟩)
          have ge := get_closed_ok hG i1 i2
          have hq' : decide (o.idx < s.top) = false := decide_eq_false (by omega)
          simp (decide := true) only [bind_ap, pure_ap, aCall, aMCall, aArgs, aLoc_e, aStore_e, setLoc_e, if_true, if_false, rbind_ok, rbind_exc, aTruth, aSeq, c1, c2, c3, rds hG H', gs, ge_e, decide_eq_true hq, add_e, e3, aBool, v1, io, lt_e, hq', eqb_e, beq_self_eq_true, isinst_e (name := "get") i1 i2 rfl, ge, eq_e]
        · rw [if_neg hq] at e3
          have hq2 : o.idx < s.top := by omega
          have ot : o ∈ s1.ops.drop m := by rw [← fi2]; exact List.mem_filter.mpr ⟨om, decide_eq_true hq2⟩
          obtain ⟨i1, i2⟩ := ops_at H3 (o := o) (by show o ∈ s2.ops; rw [u6]; exact ot)
          have io := is_open_ok hG (b := true) i1 i2 (.inr ⟨⟨_, rfl⟩, rfl⟩)
          have ge := get_open_ok hG H3 g3 or i1 i2
          dsimp only at ge
          rw [getD_set (by rw [v6]; omega), if_neg hq, v7 o.idx.toNat (by omega), Int.add_zero] at ge
          simp (decide := true) only [bind_ap, pure_ap, aCall, aMCall, aArgs, aLoc_e, aStore_e, setLoc_e, if_true, if_false, rbind_ok, rbind_exc, aTruth, aSeq, c1, c2, c3, rds hG H', gs, ge_e, decide_eq_false hq, add_e, e3, aBool, v1, io, lt_e, decide_eq_true hq2, eqb_e, beq_self_eq_true, isinst_e (name := "get") i1 i2 rfl, ge, eq_e]
      · simp (decide := true) only [setLoc_e, if_false, v2]
      · simp (decide := true) only [setLoc_e, if_false, v3]
      · simp (decide := true) only [setLoc_e, if_false, v4]
      · simp (decide := true) only [setLoc_e, if_false, v5]
      · intro n hn
        by_cases en : o.idx.toNat = n
        · rw [← en, getD_set (by rw [v6]; omega), if_neg (by omega), v7 o.idx.toNat (by omega), Int.add_zero]
        · rw [getD_set_ne en]; exact v7 n hn
  intro σ h_13
  refine cps fun X_ k_ => ?_
  obtain ⟨loc6, hp10, st', rfl, v1, v2, v3, v4, v5, v6, v7, H17⟩ := h_13
  refine k_ ?_
  clear k_ X_
  clear H16 w1 w2 w3 w4 w5 oe loc5
  -- well
  have el := filt_map (q := fun o => decide (s.top ≤ o.idx)) (f := fun o => AV.ref o.u) as
  rw [eas, fi1] at el
  rw [el] at x1
  have el2 := filt_map (q := fun o => decide (o.idx < s.top)) (f := fun o => AV.ref o.u) as
  rw [eas, fi2] at el2
  have tl : ((s1.ops.take m).map fun o => AV.ref o.u).length < 1000000 := by rw [List.length_map, List.length_take]; omega
  have d1 := len_list (mem_F H17 (x2 _ y1)) tl
  have d2 := len_list (mem_F H17 x1) tl
  have c1 := fun loc => cell_e q3 (mem_F H17 (x2 _ (y5 _ z3))) loc none
  have c2 := fun loc => cell_e q5 (mem_F H17 (x2 _ (y5 _ z5))) loc none
  have rr := rds hG H17
  dsimp only at rr
  rw [u7] at rr
  have pk3 : ∀ loc hp hdd, aHas (freesOf [(".0", .local), ("one", .local), ("top", .free)] []) ⟨loc, cs, hp, hdd⟩ = .ok () ⟨loc, cs, hp, hdd⟩ := fun _ _ _ => by rw [ecs]; rfl
  have ph3 : ∀ loc hp hdd, aPick ⟨loc, cs, hp, hdd⟩ (freesOf [(".0", .local), ("one", .local), ("top", .free)] []) = some ([("top", cp)] : List (Str × Nat)) := fun _ _ _ => by rw [ecs]; rfl
  try (refine wp_hide fun l_ => ?_; repeat intro _)
  refine wp_inv (by assumption) (by assumption) (J := fun σ => ∃ hp', σ = ⟨loc6, cs, hp', none⟩ ∧ Holds hp' (Wd L { s2 with stack := st' } ++ Fx)) ?_ ?_
  · refine inv_eq (by simp (decide := true) only [bind_ap, pure_ap, aCall, aMCall, aArgs, aLoc_e, aStore_e, setLoc_e, if_true, if_false, rbind_ok, rbind_exc, aTruth, aBool, c2, rr, v1, v4, v5, d1, d2, eq_e, beq_self_eq_true, c1, pk3, v3]; rfl) ?_
    refine bind_inv (v := .bool true) (loc := loc6) (cs := cs) (hdd := none) (P := fun hp' => Holds hp' (Wd L { s2 with stack := st' } ++ ((hp10.length, .list ((s1.ops.drop m).map fun o => .ref o.u)) :: Fx))) (bind_val (v := .ref hp10.length) (P := fun hp' => Holds hp' (Wd L { s2 with stack := st' } ++ ((hp10.length, .list ((s1.ops.drop m).map fun o => .ref o.u)) :: Fx))) ?_ ?_) ?_
    · have H18 : Holds (hp10 ++ [AO.list []]) (Wd L { s2 with stack := st' } ++ ((hp10.length, .list (((as.take 0).filter fun p => decide (p.2.idx < s.top)).map fun p => .ref p.2.u)) :: Fx)) := H17.al _ fun y => by simp +arith only [List.take_zero, List.filter_nil, List.map_nil, List.count_cons, List.count_append]
      refine comp_inv (ph3 loc6 hp10 none) (for_list (xs := aheadL as) (I := fun i σ => ∃ loc hp', σ = ⟨loc, [("top", cp)], hp', none⟩ ∧ Holds hp' (Wd L { s2 with stack := st' } ++ ((hp10.length, .list (((as.take i).filter fun p => decide (p.2.idx < s.top)).map fun p => .ref p.2.u)) :: Fx))) ?_ ?_ ⟨noLoc, _, rfl, H18⟩) ?_
      · intro i σ h_14
        refine cps fun X_ k_ => ?_
        obtain ⟨loc, hp', rfl, H'⟩ := h_14
        refine k_ ?_
        clear k_ X_
        exact ⟨mem_F H' (.tail _ (x2 _ y3)), rfl⟩
      · intro i u σ hu h_15
        refine cps fun X_ k_ => ?_
        obtain ⟨loc, hp', rfl, H'⟩ := h_15
        refine k_ ?_
        clear k_ X_
        refine cps fun X_ k_ => ?_
        obtain ⟨p, hp_, rfl⟩ := ahead_get hu
        refine k_ ?_
        clear k_ X_
        have hi := (List.getElem?_eq_some_iff.mp hp_).1
        have ta := ahead_at H' (fun q hq => List.mem_append_right _ (.tail _ (x2 _ (y4 q hq)))) hp_
        have i1 := item_tuple (k := 1) ta rfl (by show 3 < 1000000; decide)
        have i0 := item_tuple (k := 0) ta rfl (by show 3 < 1000000; decide)
        simp only [Int.natCast_zero, Int.cast_ofNat_Int, Int.natCast_one] at i1 i0
        have c3 := fun loc => cell_e (cs := [("top", cp)]) (x := "top") rfl (mem_F H' (.tail _ (x2 _ (y5 _ z4)))) loc none
        by_cases hq : p.2.idx < s.top
        · have al : (((as.take i).filter fun p => decide (p.2.idx < s.top)).map fun p => AV.ref p.2.u).length < 1000000 := by
            rw [List.length_map]
            have := List.length_filter_le (fun p : Nat × Op => decide (p.2.idx < s.top)) (as.take i)
            rw [List.length_take] at this
            omega
          refine cps fun X_ k_ => ?_
          obtain ⟨hp3, e3, H3⟩ := app_list (.ref p.2.u) (f := hp10.length) (V := Wd L { s2 with stack := st' } ++ Fx) (H'.wkr (fun _ h => by exact re_of (.app (.cons .last)) [1, 0, 2] rfl (by decide) h)) al
          refine k_ ?_
          clear k_ X_
          refine ⟨⟨setLoc "one" (.ref p.1) loc, [("top", cp)], hp', none⟩, ⟨setLoc "one" (.ref p.1) loc, [("top", cp)], hp3, none⟩, rfl, ?_, _, hp3, rfl, ?_⟩
          · simp (decide := true) only [bind_ap, pure_ap, aCall, aMCall, aArgs, aLoc_e, aStore_e, setLoc_e, if_true, if_false, rbind_ok, rbind_exc, aTruth, aCompBody, i1, i0, c3, lt_e, decide_eq_true hq, e3]
          · refine H3.wk fun y => ?_
            rw [take_snoc hp_, List.filter_append, List.filter_cons, if_pos (decide_eq_true hq), List.filter_nil, List.map_append]
            simp +arith only [List.map_cons, List.map_nil, List.count_cons, List.count_append]
        · refine ⟨⟨setLoc "one" (.ref p.1) loc, [("top", cp)], hp', none⟩, ⟨setLoc "one" (.ref p.1) loc, [("top", cp)], hp', none⟩, rfl, ?_, _, hp', rfl, ?_⟩
          · simp (decide := true) only [bind_ap, pure_ap, aCall, aMCall, aArgs, aLoc_e, aStore_e, setLoc_e, if_true, if_false, rbind_ok, rbind_exc, aTruth, aCompBody, i1, c3, lt_e, decide_eq_false hq]
          · rw [take_snoc hp_, List.filter_append, List.filter_cons, if_neg (by simpa using hq), List.filter_nil, List.append_nil]
            exact H'
      · intro σ h_16
        refine cps fun X_ k_ => ?_
        obtain ⟨loc, hp', rfl, H'⟩ := h_16
        refine k_ ?_
        clear k_ X_
        rw [adl, List.take_length, el2] at H'
        exact H'
    · rintro hp' H'
      have a3 : hp'[L.op]? = some (.list (s2.ops.map fun o => .ref o.u)) := H'.2 _ (.tail _ (.tail _ (.tail _ (.head _))))
      rw [u6] at a3
      have eq := eqS_list a3 (mem_F H' (.head _)) fun v hv => by
        refine cps fun X_ k_ => ?_
        obtain ⟨o, -, rfl⟩ := List.mem_map.mp hv
        refine k_ ?_
        clear k_ X_
        exact atom_ref _
      exact ⟨hp', eq _ _ _, H'⟩
    · rintro hp' H'
      have c4 := fun loc => cell_e q5 (mem_F H' (.tail _ (x2 _ (y5 _ z5)))) loc none
      refine cps fun X_ k_ => ?_
      obtain ⟨hp2, e2, H2⟩ := set_well H' true
      refine k_ ?_
      clear k_ X_
      refine ⟨_, by simp (decide := true) only [bind_ap, pure_ap, aCall, aMCall, aArgs, aLoc_e, aStore_e, setLoc_e, if_true, if_false, rbind_ok, rbind_exc, aTruth, c4, e2], hp2, rfl, ?_⟩
      have e : ({ s2 with stack := st', well := true } : PS) = { s2 with stack := st' } := by rw [← u7]
      have H3 : Holds hp2 (Wd L { s2 with stack := st', well := true } ++ _) := H2
      rw [e] at H3
      exact H3.wkr (fun _ h => by exact re_of (.app (.cons .last)) [0, 2] rfl (by decide) h)
  intro σ h_17
  refine cps fun X_ k_ => ?_
  obtain ⟨hp11, rfl, H18⟩ := h_17
  refine k_ ?_
  clear k_ X_
  -- what was found
  have xv := exc_value (mem_F H18 (x2 _ (y5 _ z1))) (mem_F H18 (x2 _ (y5 _ z2))) pa
  try refine wp_end (by assumption) (by assumption) ?_
  refine WP.ok (a := .ret a.1) (σ := ⟨loc6, cs, hp11, none⟩) (by simp (decide := true) only [bind_ap, pure_ap, aCall, aMCall, aArgs, aLoc_e, aStore_e, setLoc_e, if_true, if_false, rbind_ok, rbind_exc, aTruth, aSeq, v2, xv]) ?_
  refine ⟨st', s1.ops.drop m, ns, rfl, r1, ⟨v6, by have := g2.sorted; rw [u6] at this; exact this, by have := g2.range; rw [u6] at this; exact this, g.top⟩, ?_⟩
  have e : ({ s2 with stack := st' } : PS) = { s with stack := st', ops := s1.ops.drop m, notes := s.notes ++ ns } := by rw [es2]
  rw [e] at H18
  refine H18.wk fun y => ?_
  rw [eFx, eFy, eFz]
  simp +arith only [List.count_cons, List.count_append]
theorem guard_all (hG : Known G) (P : PlansOk L) : ∀ j, GuardP hG L j
  | 0 => fun at_ s F hp kind h1 h2 => absurd h2 (Nat.not_lt_zero _)
  | j + 1 => guard_ok hG P j (guard_all hG P j)
end
end Mine

open PySem PySem.W PyProof.Rows PySem.Calls
set_option Elab.async false
set_option maxRecDepth 100000
set_option maxHeartbeats 1000000
set_option linter.unusedVariables false
set_option linter.unusedSimpArgs false
namespace Mine
variable {G : Gd}

structure DealOk (nums : List Int) (i : Nat) (seed : Int) : Prop where
  len : nums.length ≤ 40
  le : i ≤ nums.length
  s0 : 0 ≤ seed
  s1 : seed < 2147483647
noncomputable def dealV (dl nb : Nat) (nums : List Int) (i : Nat) (seed : Int) : HV := [(dl, .list [.ref nb, .int i, .int seed]), (nb, .list (nums.map .int))]
theorem abs_e (a : Int) (σ : AS) : bAbs [.int a] σ = .ok (.int (if a < 0 then -a else a)) σ := rfl
theorem int_e (a : Int) (σ : AS) : bInt [.int a] σ = .ok (.int a) σ := rfl
theorem mod_e {a b : Int} (h : 0 < b) (σ : AS) : aBin .Mod (.int a) (.int b) σ = .ok (.int (Int.fmod a b)) σ := if_neg (by omega)
theorem div_e {a b : Int} (h : 0 < b) (hs : small b = true) (σ : AS) : aBin .FloorDiv (.int a) (.int b) σ = .ok (.int (Int.fdiv a b)) σ := (if_neg (by omega)).trans (if_pos hs)
theorem fmod_range {a b : Int} (h : 0 < b) : 0 ≤ Int.fmod a b ∧ Int.fmod a b < b := ⟨Int.fmod_nonneg_of_pos a h, Int.fmod_lt_of_pos a h⟩
theorem take_ok (hG : Known G) {hp : List AO} {V : HV} {hdd : Option Nat} {dl nb : Nat} {nums : List Int} {i : Nat} {seed : Int} (many : Int) (hm : 0 < many) (D : DealOk nums i seed) (H : Holds hp (dealV dl nb nums i seed ++ V)) :
    ∃ w hp', (∀ loc cs, aFn ["deal", "many"] (d_206 hG).1 [.ref dl, .int many] ⟨loc, cs, hp, hdd⟩ = .ok w ⟨loc, cs, hp', hdd⟩) ∧
      ∃ r i' seed', w = .int r ∧ 0 ≤ r ∧ r < many ∧ DealOk nums i' seed' ∧ Holds hp' (dealV dl nb nums i' seed' ++ V) := by
  refine fn_of rfl ?_
  unfold d_206
  dsimp only [bindF]
  have a1 : hp[dl]? = some (.list [.ref nb, .int i, .int seed]) := H.2 _ (.head _)
  have a2 : hp[nb]? = some (.list (nums.map .int)) := H.2 _ (.tail _ (.head _))
  have l3 : ∀ a b c : AV, [a, b, c].length < 1000000 := fun _ _ _ => by show 3 < 1000000; decide
  have i0 := item_list (k := 0) a1 rfl (l3 _ _ _)
  have i1 := item_list (k := 1) a1 rfl (l3 _ _ _)
  have i2 := item_list (k := 2) a1 rfl (l3 _ _ _)
  simp only [Int.natCast_zero, Int.cast_ofNat_Int, Int.natCast_one] at i0 i1 i2
  have nl := len_list a2 (by rw [List.length_map]; have := D.len; omega)
  have Dl := D.len
  have Di := D.le
  by_cases hi : i < nums.length
  · have z : decide ((i : Int) < ((nums.map AV.int).length : Nat)) = true := by rw [List.length_map]; exact decide_eq_true (by omega)
    have e1 : ∀ loc cs hdd, aSetItem (.ref dl) (.int 1) (.int ((i : Int) + 1)) ⟨loc, cs, hp, hdd⟩ = .ok () ⟨loc, cs, hp.set dl (.list [.ref nb, .int ((i + 1 : Nat) : Int), .int seed]), hdd⟩ := fun loc cs hdd => by
      exact setitem_l a1 (by decide) ⟨by show 1 < 3; decide, l3 _ _ _⟩ _ _ _
    have H1 : Holds (hp.set dl (.list [.ref nb, .int ((i + 1 : Nat) : Int), .int seed])) (dealV dl nb nums (i + 1) seed ++ V) := H.upd
    generalize hp.set dl (.list [.ref nb, .int ((i + 1 : Nat) : Int), .int seed]) = hp1 at e1 H1
    have b1 : hp1[dl]? = some (.list [.ref nb, .int ((i + 1 : Nat) : Int), .int seed]) := H1.2 _ (.head _)
    have b2 : hp1[nb]? = some (.list (nums.map .int)) := H1.2 _ (.tail _ (.head _))
    have j0 := item_list (k := 0) b1 rfl (l3 _ _ _)
    have j1 := item_list (k := 1) b1 rfl (l3 _ _ _)
    simp only [Int.natCast_zero, Int.cast_ofNat_Int, Int.natCast_one] at j0 j1
    have jx := item_list (k := i) (x := .int nums[i]) b2 (by rw [List.getElem?_map, List.getElem?_eq_getElem hi]; rfl) (by rw [List.length_map]; omega)
    have en : ((i + 1 : Nat) : Int) - 1 = i := by omega
    have fr := fmod_range (a := nums[i]) hm
    try refine wp_end (by assumption) (by assumption) ?_
    refine WP.eq (r' := .ok (.ret (.int (Int.fmod nums[i] many))) ⟨setLoc "many" (.int many) (setLoc "deal" (.ref dl) noLoc), [], hp1, hdd⟩) ?_ ⟨Int.fmod nums[i] many, i + 1, seed, rfl, fr.1, fr.2, ⟨Dl, by omega, D.s0, D.s1⟩, H1⟩
    simp (decide := true) only [bind_ap, pure_ap, aCall, aMCall, aArgs, aLoc_e, aStore_e, setLoc_e, if_true, if_false, rbind_ok, rbind_exc, aTruth, aSeq, i0, i1, nl, lt_e, z, add_e, e1, j0, j1, sub_e, en, jx, mod_e hm]
  · have z : decide ((i : Int) < ((nums.map AV.int).length : Nat)) = false := by rw [List.length_map]; exact decide_eq_false (by omega)
    obtain ⟨sd, esd⟩ : ∃ sd, sd = Int.fmod (seed * 48271 + 577) 2147483647 := ⟨_, rfl⟩
    have fs := fmod_range (a := seed * 48271 + 577) (b := 2147483647) (by decide)
    rw [← esd] at fs
    have e1 : ∀ loc cs hdd, aSetItem (.ref dl) (.int 2) (.int sd) ⟨loc, cs, hp, hdd⟩ = .ok () ⟨loc, cs, hp.set dl (.list [.ref nb, .int i, .int sd]), hdd⟩ := fun loc cs hdd => by
      exact setitem_l a1 (by decide) ⟨by show 2 < 3; decide, l3 _ _ _⟩ _ _ _
    have H1 : Holds (hp.set dl (.list [.ref nb, .int i, .int sd])) (dealV dl nb nums i sd ++ V) := H.upd
    generalize hp.set dl (.list [.ref nb, .int i, .int sd]) = hp1 at e1 H1
    have b1 : hp1[dl]? = some (.list [.ref nb, .int i, .int sd]) := H1.2 _ (.head _)
    have j2 := item_list (k := 2) b1 rfl (l3 _ _ _)
    simp only [Int.natCast_zero, Int.cast_ofNat_Int, Int.natCast_one] at j2
    have sm : small seed = true := by unfold small; rw [decide_eq_true (by have := D.s0; omega), decide_eq_true (by have := D.s1; omega)]; rfl
    have fr := fmod_range (a := Int.fdiv sd 64) hm
    try refine wp_end (by assumption) (by assumption) ?_
    refine WP.eq (r' := .ok (.ret (.int (Int.fmod (Int.fdiv sd 64) many))) ⟨setLoc "many" (.int many) (setLoc "deal" (.ref dl) noLoc), [], hp1, hdd⟩) ?_ ⟨_, i, sd, rfl, fr.1, fr.2, ⟨Dl, Di, fs.1, fs.2⟩, H1⟩
    simp (decide := true) only [bind_ap, pure_ap, aCall, aMCall, aArgs, aLoc_e, aStore_e, setLoc_e, if_true, if_false, rbind_ok, rbind_exc, aTruth, aSeq, i0, i1, i2, nl, lt_e, z, mul_e sm, add_e, mod_e, ← esd, e1, j2, div_e, small, mod_e hm, Bool.and_self, decide_true]

theorem deal_ok (hG : Known G) {hp : List AO} {V : HV} (ns : List Int) (h1 : G.oldVs = ns.map AV.int) (H : Holds hp V) :
    ∃ w hp', (∀ loc cs, aFn ["script"] (d_199 hG).1 [.obj G.old] ⟨loc, cs, hp, none⟩ = .ok w ⟨loc, cs, hp', none⟩) ∧
      ∃ dl nb nums seed, w = .ref dl ∧ DealOk nums 0 seed ∧ Holds hp' (dealV dl nb nums 0 seed ++ V) := by
  refine fn_of rfl ?_
  unfold d_199
  dsimp only [bindF]
  have up : ∀ loc cs hdd, aUpto G 40 (.obj G.old) ⟨loc, cs, hp, hdd⟩ = .ok (.ref hp.length) ⟨loc, cs, hp ++ [.list ((ns.take 40).map AV.int)], hdd⟩ := fun loc cs hdd => by
    unfold aUpto
    dsimp only
    rw [if_pos rfl, h1, List.map_take]
    rfl
  have pk1 : ∀ loc hp hdd, aHas (freesOf [(".0", .local), ("number", .local), ("abs", .globalImplicit), ("int", .globalImplicit)] []) ⟨loc, [], hp, hdd⟩ = .ok () ⟨loc, [], hp, hdd⟩ := fun _ _ _ => rfl
  have ph1 : ∀ loc hp hdd, aPick ⟨loc, [], hp, hdd⟩ (freesOf [(".0", .local), ("number", .local), ("abs", .globalImplicit), ("int", .globalImplicit)] []) = some [] := fun _ _ _ => rfl
  have H1 : Holds (hp ++ [AO.list ((ns.take 40).map AV.int)]) ((hp.length, .list ((ns.take 40).map AV.int)) :: V) := H.alloc _
  generalize hp ++ [AO.list ((ns.take 40).map AV.int)] = hp1 at up H1
  generalize hp.length = r at up H1
  generalize ht : ns.take 40 = xs at up H1
  have hxl : xs.length ≤ 40 := by rw [← ht, List.length_take]; omega
  try (refine wp_hide fun l_ => ?_; repeat intro _)
  refine wp_inv (by assumption) (by assumption) (J := fun σ => ∃ nb hp', ∃ nums : List Int, σ = ⟨setLoc "numbers" (.ref nb) (setLoc "script" (.obj G.old) noLoc), [], hp', none⟩ ∧ nums.length ≤ 40 ∧ Holds hp' ((nb, .list (nums.map AV.int)) :: V)) ?_ ?_
  · refine inv_eq (by simp (decide := true) only [bind_ap, pure_ap, aCall, aMCall, aArgs, aLoc_e, aStore_e, setLoc_e, if_true, if_false, rbind_ok, rbind_exc, aTruth, pk1, up]; rfl) ?_
    refine bind_inv (v := .ref hp1.length) (loc := setLoc "script" (.obj G.old) noLoc) (cs := []) (hdd := none) (P := fun hp' => ∃ nums : List Int, nums.length ≤ 40 ∧ Holds hp' ((hp1.length, .list (nums.map AV.int)) :: V)) ?_ ?_
    · refine comp_inv (ph1 _ hp1 none) (for_list (xs := xs.map AV.int) (I := fun i σ => ∃ loc hp', ∃ nums : List Int, σ = ⟨loc, [], hp', none⟩ ∧ nums.length ≤ i ∧ i ≤ 40 ∧ Holds hp' ((hp1.length, .list (nums.map AV.int)) :: (r, .list (xs.map AV.int)) :: V)) ?_ ?_ ⟨noLoc, _, [], rfl, Nat.zero_le _, by omega, H1.alloc _⟩) ?_
      · intro i σ h_1
        refine cps fun X_ k_ => ?_
        obtain ⟨loc, hp', nums, rfl, _, _, H'⟩ := h_1
        refine k_ ?_
        clear k_ X_
        exact ⟨H'.2 (r, _) (.tail _ (.head _)), rfl⟩
      · intro i v σ hv h_2
        refine cps fun X_ k_ => ?_
        obtain ⟨loc, hp', nums, rfl, q1, q2, H'⟩ := h_2
        refine k_ ?_
        clear k_ X_
        rw [List.getElem?_map] at hv
        refine cps fun X_ k_ => ?_
        obtain ⟨n, hn, rfl⟩ := Option.map_eq_some_iff.mp hv
        have hi := (List.getElem?_eq_some_iff.mp hn).1
        obtain ⟨hp3, e3, H3⟩ := app_list (.int (Int.fmod (if n < 0 then -n else n) 1000003)) H' (by rw [List.length_map]; omega)
        refine k_ ?_
        clear k_ X_
        refine ⟨⟨setLoc "number" (.int n) loc, [], hp', none⟩, ⟨setLoc "number" (.int n) loc, [], hp3, none⟩, rfl, ?_, _, hp3, nums ++ [Int.fmod (if n < 0 then -n else n) 1000003], rfl, by rw [List.length_append, List.length_singleton]; omega, by omega, by rw [List.map_append]; exact H3⟩
        simp (decide := true) only [bind_ap, pure_ap, aCall, aMCall, aArgs, aLoc_e, aStore_e, setLoc_e, if_true, if_false, rbind_ok, rbind_exc, aTruth, aCompBody, abs_e, int_e, mod_e, e3]
      · intro σ h_3
        refine cps fun X_ k_ => ?_
        obtain ⟨loc, hp', nums, rfl, q1, q2, H'⟩ := h_3
        refine k_ ?_
        clear k_ X_
        rw [List.length_map] at q1
        exact ⟨nums, by omega, H'.wkr (fun _ h => by exact re_of (.cons (.cons .last)) [0, 2] rfl (by decide) h)⟩
    · intro hp' h_4
      refine cps fun X_ k_ => ?_
      obtain ⟨nums, q, H'⟩ := h_4
      refine k_ ?_
      clear k_ X_
      exact ⟨_, by simp (decide := true) only [bind_ap, pure_ap, aCall, aMCall, aArgs, aLoc_e, aStore_e, setLoc_e, if_true, if_false, rbind_ok, rbind_exc, aTruth], hp1.length, hp', nums, rfl, q, H'⟩
  intro σ h_5
  refine cps fun X_ k_ => ?_
  obtain ⟨nb, hp2, nums, rfl, q, H2⟩ := h_5
  refine k_ ?_
  clear k_ X_
  try (refine wp_hide fun l_ => ?_; repeat intro _)
  refine wp_next (by assumption) (by assumption) (σ' := ⟨setLoc "seed" (.int 72) (setLoc "numbers" (.ref nb) (setLoc "script" (.obj G.old) noLoc)), [], hp2, none⟩) rfl ?_
  try (refine wp_hide fun l_ => ?_; repeat intro _)
  refine wp_inv (by assumption) (by assumption) (J := fun σ => ∃ loc seed, σ = ⟨loc, [], hp2, none⟩ ∧ loc "numbers" = some (.ref nb) ∧ loc "seed" = some (.int seed) ∧ 0 ≤ seed ∧ seed < 2147483647) ?_ ?_
  · refine inv_eq (by simp (decide := true) only [bind_ap, pure_ap, aCall, aMCall, aArgs, aLoc_e, aStore_e, setLoc_e, if_true, if_false, rbind_ok, rbind_exc, aTruth]; rfl) ?_
    refine for_list (xs := nums.map AV.int) (I := fun _ σ => ∃ loc seed, σ = ⟨loc, [], hp2, none⟩ ∧ loc "numbers" = some (.ref nb) ∧ loc "seed" = some (.int seed) ∧ 0 ≤ seed ∧ seed < 2147483647) ?_ ?_ ⟨_, 72, rfl, rfl, rfl, by decide, by decide⟩
    · intro i σ h_6
      refine cps fun X_ k_ => ?_
      obtain ⟨loc, seed, rfl, _⟩ := h_6
      refine k_ ?_
      clear k_ X_
      exact ⟨H2.2 _ (.head _), rfl⟩
    · intro i v σ hv h_7
      refine cps fun X_ k_ => ?_
      obtain ⟨loc, seed, rfl, l1, l2, s0, s1⟩ := h_7
      refine k_ ?_
      clear k_ X_
      rw [List.getElem?_map] at hv
      refine cps fun X_ k_ => ?_
      obtain ⟨n, hn, rfl⟩ := Option.map_eq_some_iff.mp hv
      refine k_ ?_
      clear k_ X_
      have sm : small seed = true := by unfold small; rw [decide_eq_true (by omega), decide_eq_true (by omega)]; rfl
      have fs := fmod_range (a := seed * 48271 + n + 3) (b := 2147483647) (by decide)
      refine ⟨⟨setLoc "number" (.int n) loc, [], hp2, none⟩, ⟨setLoc "seed" (.int (Int.fmod (seed * 48271 + n + 3) 2147483647)) (setLoc "number" (.int n) loc), [], hp2, none⟩, rfl, ?_, _, _, rfl, ?_, rfl, fs.1, fs.2⟩
      · simp (decide := true) only [bind_ap, pure_ap, aCall, aMCall, aArgs, aLoc_e, aStore_e, setLoc_e, if_true, if_false, rbind_ok, rbind_exc, aTruth, aSeq, l2, mul_e sm, add_e, mod_e]
      · simp (decide := true) only [setLoc_e, if_false, l1]
  intro σ h_8
  refine cps fun X_ k_ => ?_
  obtain ⟨loc, seed, rfl, l1, l2, s0, s1⟩ := h_8
  refine k_ ?_
  clear k_ X_
  have l3 : ∀ a b c : AV, ∀ loc cs hp hdd, aList [a, b, c] ⟨loc, cs, hp, hdd⟩ = .ok (.ref hp.length) ⟨loc, cs, hp ++ [.list [a, b, c]], hdd⟩ := fun _ _ _ _ _ _ _ => rfl
  try refine wp_end (by assumption) (by assumption) ?_
  refine WP.ok (a := .ret (.ref hp2.length)) (σ := ⟨loc, [], hp2 ++ [.list [.ref nb, .int 0, .int seed]], none⟩) (by simp (decide := true) only [bind_ap, pure_ap, aCall, aMCall, aArgs, aLoc_e, aStore_e, setLoc_e, if_true, if_false, rbind_ok, rbind_exc, aTruth, aSeq, l1, l2, l3]) ⟨hp2.length, nb, nums, seed, rfl, ⟨q, Nat.zero_le _, s0, s1⟩, ?_⟩
  exact H2.alloc _
end Mine

open PySem PySem.W PyProof.Rows PySem.Calls
set_option Elab.async false
set_option maxRecDepth 100000
set_option maxHeartbeats 1000000
set_option linter.unusedVariables false
set_option linter.unusedSimpArgs false
namespace Mine
variable {G : Gd}

structure PlanOk (i : Nat) (p : Plan) : Prop where
  elder : -1 ≤ p.elder ∧ p.elder < i
  frames : 0 ≤ p.frames ∧ p.frames ≤ 2
  calls : 0 ≤ p.calls ∧ p.calls ≤ 2
  places : p.places.length ≤ 2 ∧ ∀ x ∈ p.places, 0 ≤ x ∧ x < 8
theorem plan_ok (hG : Known G) {hp : List AO} {V : HV} {dl nb : Nat} {nums : List Int} {i : Nat} {seed : Int} (at_ : Nat) (D : DealOk nums i seed) (H : Holds hp (dealV dl nb nums i seed ++ V)) :
    ∃ w hp', (∀ loc cs, aFnC (scOf 225) ["deal"] ["deal", "at"] (d_225 hG).1 [.ref dl, .int at_] ⟨loc, cs, hp, none⟩ = .ok w ⟨loc, cs, hp', none⟩) ∧
      ∃ p i' seed', w = .ref p.t ∧ PlanOk at_ p ∧ DealOk nums i' seed' ∧ Holds hp' (dealV dl nb nums i' seed' ++ (planV p ++ V)) := by
  refine fnC_of rfl ?_
  have k0 : (fun x => if isLoc (scOf 225) x then bindF noLoc ["deal", "at"] [.ref dl, .int at_] x else none) "at" = some (.int at_) := rfl
  generalize (fun x => if isLoc (scOf 225) x then bindF noLoc ["deal", "at"] [.ref dl, .int at_] x else none) = loc0 at k0 ⊢
  rw [show (["deal"] : List Str).map (fun x => AO.cell (bindF noLoc ["deal", "at"] [.ref dl, .int at_] x)) = [AO.cell (some (.ref dl))] from rfl]
  rw [show mkCells hp.length ["deal"] = ([("deal", hp.length)] : List (Str × Nat)) from rfl]
  have H0 : Holds (hp ++ [AO.cell (some (.ref dl))]) (dealV dl nb nums i seed ++ ((hp.length, .cell (some (.ref dl))) :: V)) := H.alr _ (fun _ h => by exact re_of (.cons (.app .last)) [1, 0, 2] rfl (by decide) h)
  generalize hp ++ [AO.cell (some (.ref dl))] = hp0 at H0 ⊢
  generalize hp.length = c at H0 ⊢
  clear H
  unfold d_225
  dsimp only
  have ce : ∀ {hp : List AO} {V' : HV} {i seed}, Holds hp (dealV dl nb nums i seed ++ V') → (c, AO.cell (some (.ref dl))) ∈ V' → ∀ loc, aCell "deal" ⟨loc, [("deal", c)], hp, none⟩ = .ok (.ref dl) ⟨loc, [("deal", c)], hp, none⟩ := fun H hm loc => cell_e rfl (H.2 (c, _) (List.mem_append_right _ hm)) loc none
  -- places
  have pk1 : ∀ loc hp hdd, aHas (freesOf [(".0", .local), ("turn", .local), ("_law_take", .globalImplicit), ("deal", .free)] []) ⟨loc, [("deal", c)], hp, hdd⟩ = .ok () ⟨loc, [("deal", c)], hp, hdd⟩ := fun _ _ _ => rfl
  have ph1 : ∀ loc hp hdd, aPick ⟨loc, [("deal", c)], hp, hdd⟩ (freesOf [(".0", .local), ("turn", .local), ("_law_take", .globalImplicit), ("deal", .free)] []) = some ([("deal", c)] : List (Str × Nat)) := fun _ _ _ => rfl
  try (refine wp_hide fun l_ => ?_; repeat intro _)
  refine wp_inv (by assumption) (by assumption) (J := fun σ => ∃ pl hp', ∃ places : List Int, ∃ i seed, σ = ⟨setLoc "places" (.ref pl) loc0, [("deal", c)], hp', none⟩ ∧ places.length ≤ 2 ∧ (∀ x ∈ places, 0 ≤ x ∧ x < 8) ∧ DealOk nums i seed ∧ Holds hp' (dealV dl nb nums i seed ++ ((c, .cell (some (.ref dl))) :: (pl, .list (places.map .int)) :: V))) ?_ ?_
  · refine cps fun X_ k_ => ?_
    obtain ⟨w, hp1, e1, r, i1, sd1, rfl, r0, r1, D1, H1⟩ := take_ok hG (hdd := none) 3 (by decide) D H0
    refine k_ ?_
    clear k_ X_
    have H2 := H1.alr (V' := dealV dl nb nums i1 sd1 ++ ((c, .cell (some (.ref dl))) :: (hp1.length, .range r) :: V)) (.range r) (fun _ h => by exact re_of (.cons (.app (.cons .last))) [1, 2, 0, 3] rfl (by decide) h)
    refine inv_eq (by simp (decide := true) only [bind_ap, pure_ap, aCall, aMCall, aArgs, aLoc_e, aStore_e, setLoc_e, if_true, if_false, rbind_ok, rbind_exc, aTruth, pk1, ce H0 (.head _), e1, range_e]; rfl) ?_
    generalize hp1 ++ [AO.range r] = hp2 at H2 ⊢
    generalize hp1.length = rg at H2 ⊢
    refine bind_inv (v := .ref hp2.length) (loc := loc0) (cs := [("deal", c)]) (hdd := none) (P := fun hp' => ∃ places : List Int, ∃ i seed, places.length ≤ 2 ∧ (∀ x ∈ places, 0 ≤ x ∧ x < 8) ∧ DealOk nums i seed ∧ Holds hp' (dealV dl nb nums i seed ++ ((c, .cell (some (.ref dl))) :: (hp2.length, .list (places.map .int)) :: V))) ?_ ?_
    · have H3 : Holds (hp2 ++ [AO.list []]) (dealV dl nb nums i1 sd1 ++ ((c, .cell (some (.ref dl))) :: (hp2.length, .list []) :: (rg, .range r) :: V)) := H2.alr _ (fun _ h => by exact re_of (.cons (.app (.cons (.cons .last)))) [1, 2, 0, 3, 4] rfl (by decide) h)
      have hr : (hp2 ++ [AO.list []])[rg]? = some (.range r) := H3.2 (rg, _) (List.mem_append_right _ (.tail _ (.tail _ (.head _))))
      refine comp_inv (ph1 _ hp2 none) (for_range (I := fun k σ => ∃ loc hp', ∃ places : List Int, ∃ i seed, σ = ⟨loc, [("deal", c)], hp', none⟩ ∧ places.length = k ∧ (∀ x ∈ places, 0 ≤ x ∧ x < 8) ∧ DealOk nums i seed ∧ Holds hp' (dealV dl nb nums i seed ++ ((c, .cell (some (.ref dl))) :: (hp2.length, .list (places.map .int)) :: V))) ?_ ?_ hr (small_of (by omega) (by omega)) ⟨noLoc, _, [], i1, sd1, rfl, rfl, fun x hx => (nomatch hx), D1, H3.wk fun y => by simp +arith only [List.map_nil, List.count_cons, List.count_append]⟩) ?_
      · intro k σ hk h_1
        refine cps fun X_ k_ => ?_
        obtain ⟨loc, hp', places, i, seed, rfl, q1, q2, D', H'⟩ := h_1
        refine k_ ?_
        clear k_ X_
        refine cps fun X_ k_ => ?_
        obtain ⟨w, hp3, e3, x, i3, sd3, rfl, x0, x1, D3, H3⟩ := take_ok hG (hdd := none) 8 (by decide) D' H'
        obtain ⟨hp4, e4, H4⟩ := app_list (.int x) (f := hp2.length) (xs := places.map .int) (V := dealV dl nb nums i3 sd3 ++ ((c, .cell (some (.ref dl))) :: V)) (H3.wkr (fun _ h => by exact re_of (.app (.cons (.cons .last))) [2, 0, 1, 3] rfl (by decide) h)) (by rw [List.length_map]; omega)
        refine k_ ?_
        clear k_ X_
        refine ⟨⟨setLoc "turn" (.int k) loc, [("deal", c)], hp', none⟩, ⟨setLoc "turn" (.int k) loc, [("deal", c)], hp4, none⟩, rfl, ?_, _, hp4, places ++ [x], i3, sd3, rfl, by rw [List.length_append, q1]; rfl, ?_, D3, H4.wk fun y => ?_⟩
        · simp (decide := true) only [bind_ap, pure_ap, aCall, aMCall, aArgs, aLoc_e, aStore_e, setLoc_e, if_true, if_false, rbind_ok, rbind_exc, aTruth, aCompBody, ce H' (.head _), e3, e4]
        · intro y hy
          rcases List.mem_append.mp hy with hy | hy
          · exact q2 y hy
          · rw [List.mem_singleton.mp hy]; exact ⟨x0, x1⟩
        · rw [List.map_append]
          simp +arith only [List.map_cons, List.map_nil, List.count_cons, List.count_append]
      · intro σ h_2
        refine cps fun X_ k_ => ?_
        obtain ⟨loc, hp', places, i, seed, rfl, _⟩ := h_2
        refine k_ ?_
        clear k_ X_
        rfl
      · intro σ h_3
        refine cps fun X_ k_ => ?_
        obtain ⟨loc, hp', places, i, seed, rfl, q1, q2, D', H'⟩ := h_3
        refine k_ ?_
        clear k_ X_
        exact ⟨places, i, seed, by omega, q2, D', H'⟩
    · intro hp' h_4
      refine cps fun X_ k_ => ?_
      obtain ⟨places, i, seed, q1, q2, D', H'⟩ := h_4
      refine k_ ?_
      clear k_ X_
      exact ⟨_, by simp (decide := true) only [bind_ap, pure_ap, aCall, aMCall, aArgs, aLoc_e, aStore_e, setLoc_e, if_true, if_false, rbind_ok, rbind_exc, aTruth], hp2.length, hp', places, i, seed, rfl, q1, q2, D', H'⟩
  intro σ h_5
  refine cps fun X_ k_ => ?_
  obtain ⟨pl, hp1, places, i1, sd1, rfl, pl1, pl2, D1, H1⟩ := h_5
  refine k_ ?_
  clear k_ X_
  clear D H0 pk1 ph1 hp0 i seed
  -- frames and calls
  refine cps fun X_ k_ => ?_
  obtain ⟨w, hp2, e2, fr, i2, sd2, rfl, f0, f1, D2, H2⟩ := take_ok hG (hdd := none) 3 (by decide) D1 H1
  obtain ⟨w, hp3, e3, ca, i3, sd3, rfl, c0, c1, D3, H3⟩ := take_ok hG (hdd := none) 3 (by decide) D2 H2
  refine k_ ?_
  clear k_ X_
  have H4 := H3.alr (V' := dealV dl nb nums i3 sd3 ++ ((c, .cell (some (.ref dl))) :: (pl, .list (places.map .int)) :: V)) (.tuple [.int fr, .int ca]) (fun _ h => by exact re_of (.cons (.app (.cons (.cons .last)))) [1, 2, 3, 4] rfl (by decide) h)
  try (refine wp_hide fun l_ => ?_; repeat intro _)
  refine wp_next (by assumption) (by assumption) (σ' := ⟨setLoc "frames" (.int fr) (setLoc "calls" (.int ca) (setLoc "places" (.ref pl) loc0)), [("deal", c)], hp3 ++ [AO.tuple [.int fr, .int ca]], none⟩) (by simp (decide := true) only [bind_ap, pure_ap, aCall, aMCall, aArgs, aLoc_e, aStore_e, setLoc_e, if_true, if_false, rbind_ok, rbind_exc, aTruth, ce H1 (.head _), e2, ce H2 (.head _), e3, tuple2, List.length_cons, List.length_nil, Nat.reduceAdd, unpack2, List.reverse_cons, List.reverse_nil, List.nil_append, List.cons_append, aStores]) ?_
  generalize hp3 ++ [AO.tuple [.int fr, .int ca]] = hp4 at H4 ⊢
  clear e2 e3 H1 H2 H3 D1 D2 hp1 hp2 hp3
  -- the elder
  refine cps fun X_ k_ => ?_
  obtain ⟨w, hp5, e5, el, i5, sd5, rfl, l0, l1, D5, H5⟩ := take_ok hG (hdd := none) ((at_ : Int) + 1) (by omega) D3 H4
  refine k_ ?_
  clear k_ X_
  try (refine wp_hide fun l_ => ?_; repeat intro _)
  refine wp_next (by assumption) (by assumption) (σ' := ⟨setLoc "elder" (.int (el - 1)) (setLoc "frames" (.int fr) (setLoc "calls" (.int ca) (setLoc "places" (.ref pl) loc0))), [("deal", c)], hp5, none⟩) (by simp (decide := true) only [bind_ap, pure_ap, aCall, aMCall, aArgs, aLoc_e, aStore_e, setLoc_e, if_true, if_false, rbind_ok, rbind_exc, aTruth, ce H4 (.head _), k0, add_e, e5, sub_e]) ?_
  clear e5 H4 D3 hp4
  have m0 : (setLoc "elder" (.int (el - 1)) (setLoc "frames" (.int fr) (setLoc "calls" (.int ca) (setLoc "places" (.ref pl) loc0)))) "at" = some (.int at_) := by simp (decide := true) only [setLoc_e, if_false, k0]
  have m1 : (setLoc "elder" (.int (el - 1)) (setLoc "frames" (.int fr) (setLoc "calls" (.int ca) (setLoc "places" (.ref pl) loc0)))) "elder" = some (.int (el - 1)) := rfl
  have m2 : (setLoc "elder" (.int (el - 1)) (setLoc "frames" (.int fr) (setLoc "calls" (.int ca) (setLoc "places" (.ref pl) loc0)))) "frames" = some (.int fr) := rfl
  have m3 : (setLoc "elder" (.int (el - 1)) (setLoc "frames" (.int fr) (setLoc "calls" (.int ca) (setLoc "places" (.ref pl) loc0)))) "calls" = some (.int ca) := rfl
  have m4 : (setLoc "elder" (.int (el - 1)) (setLoc "frames" (.int fr) (setLoc "calls" (.int ca) (setLoc "places" (.ref pl) loc0)))) "places" = some (.ref pl) := rfl
  generalize (setLoc "elder" (.int (el - 1)) (setLoc "frames" (.int fr) (setLoc "calls" (.int ca) (setLoc "places" (.ref pl) loc0)))) = loc1 at m0 m1 m2 m3 m4 ⊢
  clear k0 loc0
  -- the kind
  have list5 : ∀ a b c d e : AV, ∀ loc cs hp hdd, aList [a, b, c, d, e] ⟨loc, cs, hp, hdd⟩ = .ok (.ref hp.length) ⟨loc, cs, hp ++ [.list [a, b, c, d, e]], hdd⟩ := fun _ _ _ _ _ _ _ _ _ => rfl
  try (refine wp_hide fun l_ => ?_; repeat intro _)
  refine wp_inv (by assumption) (by assumption) (J := fun σ => ∃ kd hp' i seed, σ = ⟨setLoc "kind" (.int kd) loc1, [("deal", c)], hp', none⟩ ∧ DealOk nums i seed ∧ Holds hp' (dealV dl nb nums i seed ++ ((c, .cell (some (.ref dl))) :: (pl, .list (places.map .int)) :: V))) ?_ ?_
  · by_cases he : 0 ≤ el - 1
    · have H6 := H5.alr (V' := dealV dl nb nums i5 sd5 ++ ((c, .cell (some (.ref dl))) :: (hp5.length, .list [.int (-1), .int 0, .int 1, .int 2, .int 9]) :: (pl, .list (places.map .int)) :: V)) (.list [.int (-1), .int 0, .int 1, .int 2, .int 9]) (fun _ h => by exact re_of (.cons (.app (.cons (.cons .last)))) [1, 2, 0, 3, 4] rfl (by decide) h)
      refine cps fun X_ k_ => ?_
      obtain ⟨w, hp7, e7, kk, i7, sd7, rfl, h0, h1, D7, H7⟩ := take_ok hG (hdd := none) 5 (by decide) D5 H6
      refine k_ ?_
      clear k_ X_
      have a7 : hp7[hp5.length]? = some (.list [.int (-1), .int 0, .int 1, .int 2, .int 9]) := H7.2 (hp5.length, _) (List.mem_append_right _ (.tail _ (.head _)))
      obtain ⟨kd, hkd⟩ : ∃ kd : Int, ([.int (-1), .int 0, .int 1, .int 2, .int 9] : List AV)[kk.toNat]? = some (.int kd) := by
        have : kk = 0 ∨ kk = 1 ∨ kk = 2 ∨ kk = 3 ∨ kk = 4 := by omega
        rcases this with rfl | rfl | rfl | rfl | rfl <;> exact ⟨_, rfl⟩
      have it := item_list a7 hkd (by decide)
      rw [show ((kk.toNat : Nat) : Int) = kk by omega] at it
      refine ⟨⟨setLoc "kind" (.int kd) loc1, [("deal", c)], hp7, none⟩, by simp (decide := true) only [bind_ap, pure_ap, aCall, aMCall, aArgs, aLoc_e, aStore_e, setLoc_e, if_true, if_false, rbind_ok, rbind_exc, aTruth, m1, ge_e, decide_eq_true he, usub_e, list5, ce H6 (.head _), e7, it], kd, hp7, i7, sd7, rfl, D7, H7.wkr (fun _ h => by exact re_of (.app (.cons (.cons (.cons .last)))) [0, 1, 3, 4] rfl (by decide) h)⟩
    · exact ⟨⟨setLoc "kind" (.int (-1)) loc1, [("deal", c)], hp5, none⟩, by simp (decide := true) only [bind_ap, pure_ap, aCall, aMCall, aArgs, aLoc_e, aStore_e, setLoc_e, if_true, if_false, rbind_ok, rbind_exc, aTruth, m1, ge_e, decide_eq_false he, usub_e], -1, hp5, i5, sd5, rfl, D5, H5⟩
  intro σ h_6
  refine cps fun X_ k_ => ?_
  obtain ⟨kd, hp6, i6, sd6, rfl, D6, H6⟩ := h_6
  refine k_ ?_
  clear k_ X_
  clear D5 H5 hp5
  -- anew, and how it ends
  refine cps fun X_ k_ => ?_
  obtain ⟨w, hp7, e7, an, i7, sd7, rfl, a0, a1, D7, H7⟩ := take_ok hG (hdd := none) 2 (by decide) D6 H6
  obtain ⟨w, hp8, e8, fn, i8, sd8, rfl, n0, n1, D8, H8⟩ := take_ok hG (hdd := none) 4 (by decide) D7 H7
  refine k_ ?_
  clear k_ X_
  have H9 := H8.alr (V' := dealV dl nb nums i8 sd8 ++ ((c, .cell (some (.ref dl))) :: (pl, .list (places.map .int)) :: V)) (.tuple [.bool (an == 1), .int fn]) (fun _ h => by exact re_of (.cons (.app (.cons (.cons .last)))) [1, 2, 3, 4] rfl (by decide) h)
  try (refine wp_hide fun l_ => ?_; repeat intro _)
  refine wp_next (by assumption) (by assumption) (σ' := ⟨setLoc "is_anew" (.bool (an == 1)) (setLoc "end" (.int fn) (setLoc "kind" (.int kd) loc1)), [("deal", c)], hp8 ++ [AO.tuple [.bool (an == 1), .int fn]], none⟩) (by simp (decide := true) only [bind_ap, pure_ap, aCall, aMCall, aArgs, aLoc_e, aStore_e, setLoc_e, if_true, if_false, rbind_ok, rbind_exc, aTruth, ce H6 (.head _), e7, eq_e, ce H7 (.head _), e8, tuple2, List.length_cons, List.length_nil, Nat.reduceAdd, unpack2, List.reverse_cons, List.reverse_nil, List.nil_append, List.cons_append, aStores]) ?_
  generalize hp8 ++ [AO.tuple [.bool (an == 1), .int fn]] = hp9 at H9 ⊢
  have tuple7 : ∀ a b c d e f g : AV, ∀ loc cs hp hdd, aTuple [a, b, c, d, e, f, g] ⟨loc, cs, hp, hdd⟩ = .ok (.ref hp.length) ⟨loc, cs, hp ++ [.tuple [a, b, c, d, e, f, g]], hdd⟩ := fun _ _ _ _ _ _ _ _ _ _ _ => rfl
  try refine wp_end (by assumption) (by assumption) ?_
  refine WP.ok (a := .ret (.ref hp9.length)) (σ := ⟨_, [("deal", c)], hp9 ++ [.tuple [.int fr, .int ca, .ref pl, .int (el - 1), .int kd, .bool (an == 1), .int fn]], none⟩) (by simp (decide := true) only [bind_ap, pure_ap, aCall, aMCall, aArgs, aLoc_e, aStore_e, setLoc_e, if_true, if_false, rbind_ok, rbind_exc, aTruth, aSeq, m1, m2, m3, m4, tuple7]; rfl) ?_
  refine ⟨⟨hp9.length, pl, fr, ca, places, el - 1, kd, an == 1, fn⟩, i8, sd8, rfl, ⟨by dsimp only; omega, by dsimp only; omega, by dsimp only; omega, pl1, pl2⟩, D8, H9.al _ fun y => ?_⟩
  simp +arith only [planV, planT, List.count_cons, List.count_append, List.count_nil]
end Mine

open PySem PySem.W PyProof.Rows PySem.Calls
set_option Elab.async false
set_option maxRecDepth 100000
set_option maxHeartbeats 1000000
set_option linter.unusedVariables false
set_option linter.unusedSimpArgs false
namespace Mine
variable {G : Gd}

-- notes are the same when what they say is the same
noncomputable def NoteOk (l : List (List AV)) : Prop := ∀ t ∈ l, ∀ v ∈ t, atomSame v v = true
theorem NoteOk.append {a b : List (List AV)} (h : NoteOk a) (h' : NoteOk b) : NoteOk (a ++ b) := fun t ht => (List.mem_append.mp ht).elim (h t) (h' t)
theorem atom_val {v : AV} (h : valN v) : atomSame v v = true := by
  rcases h with h | rfl
  · cases v <;> first | exact decide_eq_true rfl | cases h
  · exact decide_eq_true rfl
theorem atom_str (x : Str) : atomSame (.str x) (.str x) = true := decide_eq_true rfl
theorem asked_ok {v : AV} (h : isVal v = true) (a b c : Int) : NoteOk [[.str "asked", v, .int a, .int b, .int c]] := by
  intro t ht w hw
  rw [List.mem_singleton.mp ht] at hw
  simp only [List.mem_cons, List.not_mem_nil, or_false] at hw
  refine cps fun X_ k_ => ?_
  rcases hw with rfl | rfl | rfl | rfl | rfl
  all_goals refine k_ ?_
  all_goals clear k_ X_
  · exact atom_str _
  · exact atom_val (.inl h)
  all_goals exact atom_int _
theorem answ_notes : ∀ (m : Nat) (n : Int) (v : AV) (deep many hg : Int), isVal v = true → NoteOk (answ m n v deep many hg).2
  | 0, _, _, _, _, _, _ => fun t ht => (nomatch ht)
  | m + 1, n, v, deep, many, hg, h => by
    unfold answ
    split
    · exact (asked_ok h _ _ _).append (answ_notes m _ _ _ _ _ (isVal_more h))
    · exact asked_ok h _ _ _
theorem ansK_notes {most kind : Int} {v : AV} {deep many hg : Int} : NoteOk (ansK most kind v deep many hg).2 := by
  unfold ansK
  split
  · rename_i q; exact answ_notes _ _ _ _ _ _ q.1
  · exact fun t ht => (nomatch ht)
theorem dueP_notes (L : Lay) : ∀ (f at_ : Nat) (cc fr hg : Int), NoteOk (dueP L f at_ cc fr hg).2.2.2
  | 0, _, _, _, _ => fun t ht => (nomatch ht)
  | f + 1, at_, cc, fr, hg => by
    cases hp : L.plans[at_]? with
    | none => rw [dueP]; simp only [hp]; exact fun t ht => (nomatch ht)
    | some p =>
      by_cases he : 0 ≤ p.elder
      · rw [dueP_elder hp he]
        refine ((dueP_notes L f _ _ _ _).append ansK_notes).append ?_
        intro t ht w hw
        rw [List.mem_singleton.mp ht] at hw
        simp only [List.mem_cons, List.not_mem_nil, or_false] at hw
        rcases hw with rfl | rfl
        · exact atom_str _
        · exact atom_val (ansK_val (dueP_val _ _ _ _ _ _))
      · rw [dueP_last hp he]; exact fun t ht => (nomatch ht)
theorem notes_same {hp : List AO} : ∀ {as bs : List (Nat × List AV)}, as.map (·.2) = bs.map (·.2) → NoteOk (as.map (·.2)) → (∀ q ∈ tupV as, hp[q.1]? = some q.2) → (∀ q ∈ tupV bs, hp[q.1]? = some q.2) →
    allSame (same hp 4) (as.map fun n => .ref n.1) (bs.map fun n => .ref n.1) = true
  | [], [], _, _, _, _ => rfl
  | [], _ :: _, h, _, _, _ => by cases h
  | _ :: _, [], h, _, _, _ => by cases h
  | a :: as, b :: bs, h, hn, ha, hb => by
    rw [List.map_cons, List.map_cons] at h
    injection h with h1 h2
    have e1 := ha (a.1, .tuple a.2) (.head _)
    have e2 := hb (b.1, .tuple b.2) (.head _)
    dsimp only at e1 e2
    rw [← h1] at e2
    rw [List.map_cons, List.map_cons]
    show (same _ 4 (.ref a.1) (.ref b.1) && allSame _ _ _) = true
    rw [notes_same h2 (fun t ht => hn t (.tail _ ht)) (fun q hq => ha q (.tail _ hq)) (fun q hq => hb q (.tail _ hq)), Bool.and_true]
    unfold same seqSame listAt tupAt
    simp only [e1, e2, both]
    rw [allSame_refl _ 3 (hn a.2 (.head _)), Bool.or_true, Bool.or_true]

-- the ground
theorem ground_ok (hG : Known G) {hp : List AO} {V : HV} {vl : Nat} {xs : List AV} (hx : xs.length < 1000000) (H : Holds hp ((vl, .list xs) :: V)) :
    ∃ hp' a b d, (∀ loc cs, aInst 134 (aFn ["self", "values"] (d_131 hG).1) [.ref vl] ⟨loc, cs, hp, none⟩ = .ok (.ref (hp.length + 1)) ⟨loc, cs, hp', none⟩) ∧
      Holds hp' ((hp.length + 1, .inst 134 d) :: (d, .dict [("stack", .ref a), ("open_upvals", .ref b)]) :: (a, .list xs) :: (b, .list []) :: V) := by
  have H1 := (H.alloc (.dict [])).alloc (.inst 134 hp.length)
  rw [show (hp ++ [AO.dict []]).length = hp.length + 1 by simp] at H1
  have fin : ∃ w hp', (∀ loc cs, aFn ["self", "values"] (d_131 hG).1 [.ref (hp.length + 1), .ref vl] ⟨loc, cs, hp ++ [AO.dict []] ++ [AO.inst 134 hp.length], none⟩ = .ok w ⟨loc, cs, hp', none⟩) ∧ w = .none ∧ ∃ a b, Holds hp' ((hp.length + 1, .inst 134 hp.length) :: (hp.length, .dict [("stack", .ref a), ("open_upvals", .ref b)]) :: (a, .list xs) :: (b, .list []) :: V) := by
    refine fn_of rfl ?_
    unfold d_131
    dsimp only [bindF]
    have bl : ∀ loc cs hdd, bList [.ref vl] ⟨loc, cs, hp ++ [AO.dict []] ++ [AO.inst 134 hp.length], hdd⟩ = .ok (.ref (hp ++ [AO.dict []] ++ [AO.inst 134 hp.length]).length) ⟨loc, cs, (hp ++ [AO.dict []] ++ [AO.inst 134 hp.length]) ++ [.list xs], hdd⟩ := fun loc cs hdd => by
      have a := H1.2 (vl, .list xs) (.tail _ (.tail _ (.head _)))
      exact (onList_e (σ := ⟨loc, cs, hp ++ [AO.dict []] ++ [AO.inst 134 hp.length], hdd⟩) a).trans (if_pos hx)
    have H2 := H1.alr (V' := (hp.length + 1, .inst 134 hp.length) :: (hp.length, .dict []) :: ((hp ++ [AO.dict []] ++ [AO.inst 134 hp.length]).length, .list xs) :: V) (.list xs) (fun _ h => by exact re_of (.cons (.cons (.cons (.cons .last)))) [1, 2, 0, 4] rfl (by decide) h)
    refine cps fun X_ k_ => ?_
    obtain ⟨hp3, e3, H3⟩ := put_att hG "stack" (.ref (hp ++ [AO.dict []] ++ [AO.inst 134 hp.length]).length) H2 (by decide) (by decide)
    refine k_ ?_
    clear k_ X_
    try (refine wp_hide fun l_ => ?_; repeat intro _)
    refine wp_next (by assumption) (by assumption) (σ' := ⟨_, [], hp3, none⟩) (by simp (decide := true) only [bind_ap, pure_ap, aCall, aMCall, aArgs, aLoc_e, aStore_e, setLoc_e, if_true, if_false, rbind_ok, rbind_exc, aTruth, bl, e3]; rfl) ?_
    have H4 := H3.al (V' := (hp.length + 1, .inst 134 hp.length) :: (hp.length, .dict [("stack", .ref (hp ++ [AO.dict []] ++ [AO.inst 134 hp.length]).length)]) :: (hp3.length, .list []) :: ((hp ++ [AO.dict []] ++ [AO.inst 134 hp.length]).length, .list xs) :: V) (.list []) fun y => by
      show List.count y _ ≤ List.count y ((hp3.length, _) :: (hp.length + 1, .inst 134 hp.length) :: (hp.length, .dict [("stack", .ref (hp ++ [AO.dict []] ++ [AO.inst 134 hp.length]).length)]) :: ((hp ++ [AO.dict []] ++ [AO.inst 134 hp.length]).length, .list xs) :: V)
      simp +arith only [List.count_cons]
    refine cps fun X_ k_ => ?_
    obtain ⟨hp5, e5, H5⟩ := put_att hG "open_upvals" (.ref hp3.length) H4 (by show 1 < 900; decide) (by decide)
    refine k_ ?_
    clear k_ X_
    try refine wp_end (by assumption) (by assumption) ?_
    refine WP.ok (a := .next) (σ := ⟨_, [], hp5, none⟩) (by simp (decide := true) only [bind_ap, pure_ap, aCall, aMCall, aArgs, aLoc_e, aStore_e, setLoc_e, if_true, if_false, rbind_ok, rbind_exc, aTruth, aSeq, nil_e, e5]; rfl) ⟨rfl, (hp ++ [AO.dict []] ++ [AO.inst 134 hp.length]).length, hp3.length, ?_⟩
    refine H5.wk fun y => ?_
    show List.count y _ ≤ List.count y ((hp.length + 1, .inst 134 hp.length) :: (hp.length, .dict [("stack", .ref (hp ++ [AO.dict []] ++ [AO.inst 134 hp.length]).length), ("open_upvals", .ref hp3.length)]) :: (hp3.length, .list []) :: ((hp ++ [AO.dict []] ++ [AO.inst 134 hp.length]).length, .list xs) :: V)
    simp +arith only [List.count_cons]
  refine cps fun X_ k_ => ?_
  obtain ⟨w, hp', e, rfl, a, b, H'⟩ := fin
  refine k_ ?_
  clear k_ X_
  refine ⟨hp', a, b, hp.length, fun loc cs => ?_, H'⟩
  unfold aInst
  dsimp only
  rw [e]
end Mine

open PySem PySem.W PyProof.Rows PySem.Calls
set_option Elab.async false
set_option maxRecDepth 100000
set_option maxHeartbeats 2000000
set_option linter.unusedVariables false
set_option linter.unusedSimpArgs false
namespace Mine
variable {G : Gd}

noncomputable def lawS (old : Addr) : AS := { loc := fun x => if x = "script" then some (.obj old) else none, cells := [("deal", 0)], hp := [.cell none], hd := none }
theorem neq_val {v : AV} (h : valN v) (σ : AS) : aEqS .NotEq v v σ = .ok (.bool false) σ := by
  rcases h with h | rfl
  · cases v with
    | int x => show Res.ok (AV.bool (x != x)) σ = _; simp
    | bytes x => show Res.ok (AV.bool (x.toList != x.toList)) σ = _; simp
    | _ => cases h
  · exact if_pos rfl
theorem neq_notes {L : Lay} {s : PS} {F : HV} {hp : List AO} (H : Holds hp (Wd L s ++ F)) (e : s.notes.map (·.2) = s.due.map (·.2)) (hn : NoteOk (s.notes.map (·.2))) (loc cs hdd) : aEqS .NotEq (.ref L.nt) (.ref L.du) ⟨loc, cs, hp, hdd⟩ = .ok (.bool false) ⟨loc, cs, hp, hdd⟩ := by
  have a6 : hp[L.nt]? = some (.list (s.notes.map fun n => .ref n.1)) := H.2 _ (.tail _ (.tail _ (.tail _ (.tail _ (.tail _ (.tail _ (.head _)))))))
  have a7 : hp[L.du]? = some (.list (s.due.map fun n => .ref n.1)) := H.2 _ (.tail _ (.tail _ (.tail _ (.tail _ (.tail _ (.tail _ (.tail _ (.head _))))))))
  have m : ∀ q ∈ W' L s, hp[q.1]? = some q.2 := fun q hq => H.2 q (List.mem_append_left _ (.tail _ (.tail _ (.tail _ (.tail _ (.tail _ (.tail _ (.tail _ (.tail _ (.tail _ hq))))))))))
  refine (onList_e (σ := ⟨loc, cs, hp, hdd⟩) a6).trans ((onList_e (σ := ⟨loc, cs, hp, hdd⟩) a7).trans (if_pos ?_))
  exact (notes_same e hn (fun q hq => m q (List.mem_append_right _ (List.mem_append_right _ (List.mem_append_left _ hq)))) (fun q hq => m q (List.mem_append_right _ (List.mem_append_right _ (List.mem_append_right _ hq)))))
theorem dict_inv {xs : List Str} {ms : List (AM AV)} {k : AV → AM AF} {loc : Str → Option AV} {cs : List (Str × Nat)} {hp : List AO} {hdd : Option Nat} {J : AS → Prop}
    (h : ∃ vs hp', aArgs ms ⟨loc, cs, hp ++ [.map []], hdd⟩ = .ok vs ⟨loc, cs, hp', hdd⟩ ∧ (xs.Nodup ∧ xs.length = vs.length ∧ vs.length ≤ 15) ∧ hp'[hp.length]? = some (.map []) ∧ ∃ σ', k (.ref hp.length) ⟨loc, cs, hp'.set hp.length (.map (xs.zip vs)), hdd⟩ = .ok .next σ' ∧ J σ') :
    ∃ σ', (aDict xs ms >>= k) ⟨loc, cs, hp, hdd⟩ = .ok .next σ' ∧ J σ' := by
  refine cps fun X_ k_ => ?_
  obtain ⟨vs, hp', e, h1, h2, σ', e2, j⟩ := h
  refine k_ ?_
  clear k_ X_
  refine ⟨σ', ?_, j⟩
  rw [bind_ap]
  unfold aDict
  dsimp only
  rw [e]
  dsimp only
  rw [if_pos h1, h2]
  exact e2
theorem bind_of {α β : Type} {m : AM α} {f : α → AM β} {σ σ' : AS} {a : α} (e : m σ = .ok a σ') : (m >>= f) σ = f a σ' := by rw [bind_ap, e]; rfl
theorem plainLaw_wp (hG : Known G) (ns : List Int) (h1 : G.oldVs = ns.map AV.int) : WP ((d_256 hG).1 (lawS G.old)) (fun f _ => f = .ret (.bool true)) fun _ _ => False := by
  have H0 : Holds [AO.cell none] [(0, .cell none)] := ⟨by simp, fun q hq => by rw [List.mem_singleton.mp hq]; rfl⟩
  have k0 : (lawS G.old).loc "script" = some (.obj G.old) := rfl
  rw [show lawS G.old = ⟨(lawS G.old).loc, ([("deal", 0)] : List (Str × Nat)), [AO.cell none], none⟩ from rfl]
  generalize (lawS G.old).loc = loc0 at k0 ⊢
  generalize [AO.cell none] = hp0 at H0 ⊢
  unfold d_256
  dsimp only
  -- the deal
  refine cps fun X_ k_ => ?_
  obtain ⟨w, hp1, e1, dl, nb, nums, sd1, rfl, D1, H1⟩ := deal_ok hG ns h1 H0
  obtain ⟨hp2, e2, H2⟩ := storeC (cs := [("deal", 0)]) (i := 0) (o := none) (V := dealV dl nb nums 0 sd1) "deal" (.ref dl) (H1.wkr (fun _ h => by exact re_of (.app .one) [1, 0] rfl (by decide) h)) rfl
  refine k_ ?_
  clear k_ X_
  try (refine wp_hide fun l_ => ?_; repeat intro _)
  refine wp_next (by assumption) (by assumption) (σ' := ⟨loc0, ([("deal", 0)] : List (Str × Nat)), hp2, none⟩) (by simp (decide := true) only [bind_ap, pure_ap, aCall, aMCall, aArgs, aLoc_e, aStore_e, setLoc_e, if_true, if_false, rbind_ok, rbind_exc, aTruth, k0, e1, e2]) ?_
  have H3 : Holds hp2 (dealV dl nb nums 0 sd1 ++ ((0, .cell (some (.ref dl))) :: [])) := H2.wkr (fun _ h => by exact re_of (.cons .last) [1, 0] rfl (by decide) h)
  clear e1 e2 H0 H1 H2 k0
  have ce : ∀ {hp : List AO} {V' : HV} {i seed}, Holds hp (dealV dl nb nums i seed ++ V') → (0, AO.cell (some (.ref dl))) ∈ V' → ∀ loc, aCell "deal" ⟨loc, ([("deal", 0)] : List (Str × Nat)), hp, none⟩ = .ok (.ref dl) ⟨loc, ([("deal", 0)] : List (Str × Nat)), hp, none⟩ := fun H hm loc => cell_e rfl (H.2 (0, _) (List.mem_append_right _ hm)) loc none
  -- the plans
  have pk1 : ∀ loc hp hdd, aHas (freesOf [(".0", .local), ("at", .local), ("_law_plan", .globalImplicit), ("deal", .free)] []) ⟨loc, [("deal", 0)], hp, hdd⟩ = .ok () ⟨loc, [("deal", 0)], hp, hdd⟩ := fun _ _ _ => rfl
  have ph1 : ∀ loc hp hdd, aPick ⟨loc, [("deal", 0)], hp, hdd⟩ (freesOf [(".0", .local), ("at", .local), ("_law_plan", .globalImplicit), ("deal", .free)] []) = some ([("deal", 0)] : List (Str × Nat)) := fun _ _ _ => rfl
  try (refine wp_hide fun l_ => ?_; repeat intro _)
  refine wp_inv (by assumption) (by assumption) (J := fun σ => ∃ pl hp', ∃ ps : List Plan, ∃ i seed, σ = ⟨setLoc "plans" (.ref pl) loc0, [("deal", 0)], hp', none⟩ ∧ (1 ≤ ps.length ∧ ps.length ≤ 4) ∧ (∀ (i : Nat) (p : Plan), ps[i]? = some p → PlanOk i p) ∧ DealOk nums i seed ∧ Holds hp' (dealV dl nb nums i seed ++ ((0, .cell (some (.ref dl))) :: (pl, .list (ps.map fun p => .ref p.t)) :: plansV ps))) ?_ ?_
  · refine cps fun X_ k_ => ?_
    obtain ⟨w, hp3, e3, r, i3, sd3, rfl, r0, r1, D3, H4⟩ := take_ok hG (hdd := none) 4 (by decide) D1 H3
    refine k_ ?_
    clear k_ X_
    have H5 := H4.alr (V' := dealV dl nb nums i3 sd3 ++ ((0, .cell (some (.ref dl))) :: [(hp3.length, .range (1 + r))])) (.range (1 + r)) (fun _ h => by exact re_of (.cons (.app .one)) [1, 2, 0] rfl (by decide) h)
    refine inv_eq (by simp (decide := true) only [bind_ap, pure_ap, aCall, aMCall, aArgs, aLoc_e, aStore_e, setLoc_e, if_true, if_false, rbind_ok, rbind_exc, aTruth, pk1, ce H3 (.head _), e3, add_e, range_e]; rfl) ?_
    generalize hp3 ++ [AO.range (1 + r)] = hp4 at H5 ⊢
    generalize hp3.length = rg at H5 ⊢
    refine bind_inv (v := .ref hp4.length) (loc := loc0) (cs := [("deal", 0)]) (hdd := none) (P := fun hp' => ∃ ps : List Plan, ∃ i seed, (1 ≤ ps.length ∧ ps.length ≤ 4) ∧ (∀ (i : Nat) (p : Plan), ps[i]? = some p → PlanOk i p) ∧ DealOk nums i seed ∧ Holds hp' (dealV dl nb nums i seed ++ ((0, .cell (some (.ref dl))) :: (hp4.length, .list (ps.map fun p => .ref p.t)) :: plansV ps))) ?_ ?_
    · have H6 : Holds (hp4 ++ [AO.list []]) (dealV dl nb nums i3 sd3 ++ ((0, .cell (some (.ref dl))) :: (hp4.length, .list []) :: [(rg, .range (1 + r))])) := H5.alr _ (fun _ h => by exact re_of (.cons (.app (.cons .one))) [1, 2, 0, 3] rfl (by decide) h)
      have hr : (hp4 ++ [AO.list []])[rg]? = some (.range (1 + r)) := H6.2 (rg, _) (List.mem_append_right _ (.tail _ (.tail _ (.head _))))
      refine comp_inv (ph1 _ hp4 none) (for_range (I := fun k σ => ∃ loc hp', ∃ ps : List Plan, ∃ i seed, σ = ⟨loc, [("deal", 0)], hp', none⟩ ∧ ps.length = k ∧ (∀ (i : Nat) (p : Plan), ps[i]? = some p → PlanOk i p) ∧ DealOk nums i seed ∧ Holds hp' (dealV dl nb nums i seed ++ ((0, .cell (some (.ref dl))) :: (hp4.length, .list (ps.map fun p => .ref p.t)) :: plansV ps))) ?_ ?_ hr (small_of (by omega) (by omega)) ⟨noLoc, _, [], i3, sd3, rfl, rfl, fun i p hx => (by simp at hx), D3, H6.wk fun y => by simp +arith only [plansV, List.flatMap_nil, List.map_nil, List.count_cons, List.count_append, List.count_nil]⟩) ?_
      · intro k σ hk h_1
        refine cps fun X_ k_ => ?_
        obtain ⟨loc, hp', ps, i, seed, rfl, q1, q2, D', H'⟩ := h_1
        refine k_ ?_
        clear k_ X_
        refine cps fun X_ k_ => ?_
        obtain ⟨w, hp5, e5, p, i5, sd5, rfl, P5, D5, H5'⟩ := plan_ok hG k D' H'
        obtain ⟨hp6, e6, H6'⟩ := app_list (.ref p.t) (f := hp4.length) (xs := ps.map fun p => .ref p.t) (V := dealV dl nb nums i5 sd5 ++ (planV p ++ ((0, .cell (some (.ref dl))) :: plansV ps))) (H5'.wkr (fun _ h => by exact re_of (.app (.app (.cons (.cons .last)))) [3, 0, 1, 2, 4] rfl (by decide) h)) (by rw [List.length_map]; omega)
        refine k_ ?_
        clear k_ X_
        refine ⟨⟨setLoc "at" (.int k) loc, [("deal", 0)], hp', none⟩, ⟨setLoc "at" (.int k) loc, [("deal", 0)], hp6, none⟩, rfl, ?_, _, hp6, ps ++ [p], i5, sd5, rfl, by rw [List.length_append, q1]; rfl, ?_, D5, H6'.wk fun y => ?_⟩
        · simp (decide := true) only [bind_ap, pure_ap, aCall, aMCall, aArgs, aLoc_e, aStore_e, setLoc_e, if_true, if_false, rbind_ok, rbind_exc, aTruth, aCompBody, ce H' (.head _), e5, e6]
        · intro i' p' hp'
          rw [List.getElem?_append] at hp'
          split at hp'
          · exact q2 i' p' hp'
          · rename_i hge
            have : i' = ps.length := by
              have := (List.getElem?_eq_some_iff.mp hp').1
              simp at this
              omega
            subst this
            simp at hp'
            rw [← hp', q1]; exact P5
        · simp +arith only [plansV, List.flatMap_append, List.flatMap_cons, List.flatMap_nil, List.map_append, List.map_cons, List.map_nil, List.count_cons, List.count_append, List.count_nil]
      · intro σ h_2
        refine cps fun X_ k_ => ?_
        obtain ⟨loc, hp', ps, i, seed, rfl, _⟩ := h_2
        refine k_ ?_
        clear k_ X_
        rfl
      · intro σ h_3
        refine cps fun X_ k_ => ?_
        obtain ⟨loc, hp', ps, i, seed, rfl, q1, q2, D', H'⟩ := h_3
        refine k_ ?_
        clear k_ X_
        exact ⟨ps, i, seed, by omega, q2, D', H'⟩
    · intro hp' h_4
      refine cps fun X_ k_ => ?_
      obtain ⟨ps, i, seed, q1, q2, D', H'⟩ := h_4
      refine k_ ?_
      clear k_ X_
      exact ⟨_, by simp (decide := true) only [bind_ap, pure_ap, aCall, aMCall, aArgs, aLoc_e, aStore_e, setLoc_e, if_true, if_false, rbind_ok, rbind_exc, aTruth], hp4.length, hp', ps, i, seed, rfl, q1, q2, D', H'⟩
  intro σ h_5
  refine cps fun X_ k_ => ?_
  obtain ⟨pl, hp1, ps, i1, sd1, rfl, pl1, pl2, D1, H1⟩ := h_5
  refine k_ ?_
  clear k_ X_
  clear pk1 ph1 hp0
  -- the ground
  have pk2 : ∀ loc hp hdd, aHas (freesOf [(".0", .local), ("spot", .local)] []) ⟨loc, [("deal", 0)], hp, hdd⟩ = .ok () ⟨loc, [("deal", 0)], hp, hdd⟩ := fun _ _ _ => rfl
  have ph2 : ∀ loc hp hdd, aPick ⟨loc, [("deal", 0)], hp, hdd⟩ (freesOf [(".0", .local), ("spot", .local)] []) = some [] := fun _ _ _ => rfl
  obtain ⟨V1, eV1⟩ : ∃ V1 : HV, V1 = dealV dl nb nums i1 sd1 ++ ((0, .cell (some (.ref dl))) :: (pl, .list (ps.map fun p => .ref p.t)) :: plansV ps) := ⟨_, rfl⟩
  rw [← eV1] at H1
  try (refine wp_hide fun l_ => ?_; repeat intro _)
  refine wp_inv (by assumption) (by assumption) (J := fun σ => ∃ h a b d hp', ∃ st : List Int, σ = ⟨setLoc "holder" (.ref h) (setLoc "plans" (.ref pl) loc0), [("deal", 0)], hp', none⟩ ∧ st.length = 9 ∧ Holds hp' ((h, .inst 134 d) :: (d, .dict [("stack", .ref a), ("open_upvals", .ref b)]) :: (a, .list (st.map AV.int)) :: (b, .list []) :: V1)) ?_ ?_
  · have H2 := H1.alloc (.range 9)
    generalize hr0 : hp1.length = rg at H2
    have cmp : ∃ hp', aComp (freesOf [(".0", .local), ("spot", .local)] []) (aStore "spot") (pure true) (do let a ← pure (AV.int 200); let b ← aLoc "spot"; aBin .Add a b) (.ref rg) ⟨setLoc "plans" (.ref pl) loc0, [("deal", 0)], hp1 ++ [.range 9], none⟩ = .ok (.ref (hp1 ++ [AO.range 9]).length) ⟨setLoc "plans" (.ref pl) loc0, [("deal", 0)], hp', none⟩ ∧
        ∃ st : List Int, st.length = 9 ∧ Holds hp' (((hp1 ++ [AO.range 9]).length, .list (st.map AV.int)) :: V1) := by
      have H3 := H2.alloc (.list [])
      have hr : ((hp1 ++ [AO.range 9]) ++ [AO.list []])[rg]? = some (.range 9) := H3.2 (rg, _) (.tail _ (.head _))
      refine comp_inv (ph2 _ _ none) (for_range (I := fun k σ => ∃ loc hp', ∃ st : List Int, σ = ⟨loc, [], hp', none⟩ ∧ st.length = k ∧ Holds hp' (((hp1 ++ [AO.range 9]).length, .list (st.map AV.int)) :: V1)) ?_ ?_ hr rfl ⟨noLoc, _, [], rfl, rfl, H3.wk fun y => by simp +arith only [List.map_nil, List.count_cons]⟩) ?_
      · intro k σ hk h_6
        refine cps fun X_ k_ => ?_
        obtain ⟨loc, hp', st, rfl, q1, H'⟩ := h_6
        refine k_ ?_
        clear k_ X_
        have hk : k < 9 := hk
        refine cps fun X_ k_ => ?_
        obtain ⟨hp4, e4, H4⟩ := app_list (.int (200 + k)) H' (by rw [List.length_map]; omega)
        refine k_ ?_
        clear k_ X_
        refine ⟨⟨setLoc "spot" (.int k) loc, [], hp', none⟩, ⟨setLoc "spot" (.int k) loc, [], hp4, none⟩, rfl, ?_, _, hp4, st ++ [200 + (k : Int)], rfl, by rw [List.length_append, q1]; rfl, by rw [List.map_append]; exact H4⟩
        simp (decide := true) only [bind_ap, pure_ap, aCall, aMCall, aArgs, aLoc_e, aStore_e, setLoc_e, if_true, if_false, rbind_ok, rbind_exc, aTruth, aCompBody, add_e, e4]
      · intro σ h_7
        refine cps fun X_ k_ => ?_
        obtain ⟨loc, hp', st, rfl, _⟩ := h_7
        refine k_ ?_
        clear k_ X_
        rfl
      · intro σ h_8
        refine cps fun X_ k_ => ?_
        obtain ⟨loc, hp', st, rfl, q1, H'⟩ := h_8
        refine k_ ?_
        clear k_ X_
        exact ⟨st, q1, H'⟩
    refine cps fun X_ k_ => ?_
    obtain ⟨hp3, e3, st, hst, H3⟩ := cmp
    obtain ⟨hp4, a, b, d, e4, H4⟩ := ground_ok hG (by rw [List.length_map]; omega) H3
    refine k_ ?_
    clear k_ X_
    exact ⟨⟨setLoc "holder" (.ref (hp3.length + 1)) (setLoc "plans" (.ref pl) loc0), [("deal", 0)], hp4, none⟩, by simp (decide := true) only [bind_ap, pure_ap, aCall, aMCall, aArgs, aLoc_e, aStore_e, setLoc_e, if_true, if_false, rbind_ok, rbind_exc, aTruth, pk2, range_e, hr0, e3, e4], hp3.length + 1, a, b, d, hp4, st, rfl, hst, H4⟩
  intro σ h_9
  refine cps fun X_ k_ => ?_
  obtain ⟨h, a, b, d, hp2, st, rfl, hst, H2⟩ := h_9
  refine k_ ?_
  clear k_ X_
  clear pk2 ph2 H1 hp1
  -- its state
  have dlw : ∀ {V : HV} {R : HV}, (∀ y, V.count y = (R ++ V1).count y) → ∀ y, V.count y = (dealV dl nb nums i1 sd1 ++ ((0, .cell (some (.ref dl))) :: (R ++ ((pl, .list (ps.map fun p => .ref p.t)) :: plansV ps)))).count y := fun hV y => by
    rw [hV, eV1]
    simp +arith only [List.count_cons, List.count_append]
  have list1 : ∀ (a : AV) loc cs hp hdd, aList [a] ⟨loc, cs, hp, hdd⟩ = .ok (.ref hp.length) ⟨loc, cs, hp ++ [.list [a]], hdd⟩ := fun _ _ _ _ _ => rfl
  try (refine wp_hide fun l_ => ?_; repeat intro _)
  refine wp_inv (by assumption) (by assumption) (J := fun σ => ∃ fr hp' i seed tp, σ = ⟨setLoc "holder" (.ref h) (setLoc "plans" (.ref pl) loc0), [("deal", 0)], hp', none⟩ ∧ 0 ≤ tp ∧ tp < 4 ∧ DealOk nums i seed ∧
    Holds hp' (dealV dl nb nums i seed ++ ((0, .cell (some (.ref dl))) :: (h, .inst 134 d) :: (d, .dict [("stack", .ref a), ("open_upvals", .ref b), ("frames", .ref fr), ("ccalls", .int 1), ("handling", .int 0), ("top", .int tp)]) :: (fr, .list [.int 7]) :: (a, .list (st.map AV.int)) :: (b, .list []) :: (pl, .list (ps.map fun p => .ref p.t)) :: plansV ps))) ?_ ?_
  · have H3 : Holds (hp2 ++ [AO.list [.int 7]]) (dealV dl nb nums i1 sd1 ++ ((0, .cell (some (.ref dl))) :: (h, .inst 134 d) :: (d, .dict [("stack", .ref a), ("open_upvals", .ref b)]) :: (hp2.length, .list [.int 7]) :: (a, .list (st.map AV.int)) :: (b, .list []) :: (pl, .list (ps.map fun p => .ref p.t)) :: plansV ps)) := H2.al _ fun y => by rw [eV1]; simp +arith only [List.count_cons, List.count_append]
    refine cps fun X_ k_ => ?_
    obtain ⟨w, hp4, e4, tp, i4, sd4, rfl, t0, t1, D4, H4⟩ := take_ok hG (hdd := none) 4 (by decide) D1 H3
    have H5 := H4.alr (V' := (h, .inst 134 d) :: (d, .dict [("stack", .ref a), ("open_upvals", .ref b)]) :: (dealV dl nb nums i4 sd4 ++ ((0, .cell (some (.ref dl))) :: (hp2.length, .list [.int 7]) :: (a, .list (st.map AV.int)) :: (b, .list []) :: (pl, .list (ps.map fun p => .ref p.t)) :: plansV ps))) (.tuple [.ref hp2.length, .int 1, .int 0, .int tp]) (fun _ h => by exact re_of (.cons (.app (.cons (.cons (.cons (.cons (.cons (.cons (.cons .last))))))))) [3, 4, 1, 2, 5, 6, 7, 8, 9] rfl (by decide) h)
    obtain ⟨hp6, e6, H6⟩ := put_att hG "frames" (.ref hp2.length) H5 (by show 2 < 900; decide) (by decide)
    obtain ⟨hp7, e7, H7⟩ := put_att hG "ccalls" (.int 1) H6 (by show 3 < 900; decide) (by decide)
    obtain ⟨hp8, e8, H8⟩ := put_att hG "handling" (.int 0) H7 (by show 4 < 900; decide) (by decide)
    obtain ⟨hp9, e9, H9⟩ := put_att hG "top" (.int tp) H8 (by show 5 < 900; decide) (by decide)
    refine k_ ?_
    clear k_ X_
    refine ⟨⟨setLoc "holder" (.ref h) (setLoc "plans" (.ref pl) loc0), [("deal", 0)], hp9, none⟩, by simp (decide := true) only [bind_ap, pure_ap, aCall, aMCall, aArgs, aLoc_e, aStore_e, setLoc_e, if_true, if_false, rbind_ok, rbind_exc, aTruth, list1, ce H3 (.head _), e4, tuple4, List.length_cons, List.length_nil, Nat.reduceAdd, unpack4, aStores, e6, e7, e8, e9], hp2.length, hp9, i4, sd4, tp, rfl, t0, t1, D4, H9.wk fun y => ?_⟩
    show _ ≤ List.count y ((h, AO.inst 134 d) :: (d, AO.dict [("stack", .ref a), ("open_upvals", .ref b), ("frames", .ref hp2.length), ("ccalls", .int 1), ("handling", .int 0), ("top", .int tp)]) :: (dealV dl nb nums i4 sd4 ++ _))
    simp +arith only [List.count_cons, List.count_append]
  intro σ h_10
  refine cps fun X_ k_ => ?_
  obtain ⟨fr, hp3, i3, sd3, tp, rfl, tp0, tp1, D3, H3⟩ := h_10
  refine k_ ?_
  clear k_ X_
  clear dlw H2 D1 hp2
  -- the world
  try (refine wp_hide fun l_ => ?_; repeat intro _)
  refine wp_inv (by assumption) (by assumption) (J := fun σ => ∃ w nt du hp' i seed most, σ = ⟨setLoc "world" (.ref w) (setLoc "holder" (.ref h) (setLoc "plans" (.ref pl) loc0)), [("deal", 0)], hp', none⟩ ∧ most < 500 ∧ DealOk nums i seed ∧
    Holds hp' (dealV dl nb nums i seed ++ ((0, .cell (some (.ref dl))) :: Wd ⟨h, d, a, b, fr, w, nt, du, pl, most, ps⟩ ⟨[.int 7], 1, 0, tp, st, [], [], [], true⟩))) ?_ ?_
  · refine dict_inv ?_
    have H4 := H3.alr (V' := dealV dl nb nums i3 sd3 ++ ((0, .cell (some (.ref dl))) :: (hp3.length, .map []) :: (h, .inst 134 d) :: (d, .dict [("stack", .ref a), ("open_upvals", .ref b), ("frames", .ref fr), ("ccalls", .int 1), ("handling", .int 0), ("top", .int tp)]) :: (fr, .list [.int 7]) :: (a, .list (st.map AV.int)) :: (b, .list []) :: (pl, .list (ps.map fun p => .ref p.t)) :: plansV ps)) (.map []) (fun _ h => by exact re_of (.cons (.app (.cons (.cons (.cons (.cons (.cons (.cons (.cons .last))))))))) [1, 2, 0, 3, 4, 5, 6, 7, 8, 9] rfl (by decide) h)
    refine cps fun X_ k_ => ?_
    obtain ⟨w, hp5, e5, mo, i5, sd5, rfl, m0, m1, D5, H5⟩ := take_ok hG (hdd := none) 6 (by decide) D3 H4
    refine k_ ?_
    clear k_ X_
    have H6 := (H5.alloc (.list [])).alloc (.list [])
    have a6 := H6.2 (hp3.length, .map []) (.tail _ (.tail _ (List.mem_append_right _ (.tail _ (.head _)))))
    refine ⟨[.ref pl, .ref h, .int (3 + mo), .ref hp5.length, .ref (hp5 ++ [AO.list []]).length, .bool true], (hp5 ++ [AO.list []]) ++ [AO.list []], ?_, ⟨by decide, rfl, by show 6 ≤ 15; decide⟩, a6, ?_⟩
    · simp (decide := true) only [bind_ap, pure_ap, aCall, aMCall, aArgs, aLoc_e, aStore_e, setLoc_e, if_true, if_false, rbind_ok, rbind_exc, aTruth, ce H4 (.head _), e5, add_e, nil_e]
    · refine ⟨⟨setLoc "world" (.ref hp3.length) (setLoc "holder" (.ref h) (setLoc "plans" (.ref pl) loc0)), [("deal", 0)], _, none⟩, rfl, hp3.length, hp5.length, (hp5 ++ [AO.list []]).length, _, i5, sd5, 3 + mo, rfl, by omega, D5, ?_⟩
      refine H6.set (R := ((hp5 ++ [AO.list []]).length, .list []) :: (hp5.length, .list []) :: (dealV dl nb nums i5 sd5 ++ ((0, .cell (some (.ref dl))) :: (h, .inst 134 d) :: (d, .dict [("stack", .ref a), ("open_upvals", .ref b), ("frames", .ref fr), ("ccalls", .int 1), ("handling", .int 0), ("top", .int tp)]) :: (fr, .list [.int 7]) :: (a, .list (st.map AV.int)) :: (b, .list []) :: (pl, .list (ps.map fun p => .ref p.t)) :: plansV ps))) hp3.length (.map []) _ (fun y => by simp +arith only [List.count_cons, List.count_append]) fun y => ?_
      simp +arith only [Wd, W', hdict, wmap, opsV, tupV, List.map_nil, List.flatMap_nil, List.zip_cons_cons, List.zip_nil_left, List.append_nil, List.count_cons, List.count_append]
  intro σ h_11
  refine cps fun X_ k_ => ?_
  obtain ⟨w, nt, du, hp4, i4, sd4, most, rfl, mo, D4, H4⟩ := h_11
  refine k_ ?_
  clear k_ X_
  clear H3 D3 hp3
  refine cps fun X_ k_ => ?_
  obtain ⟨L, eL⟩ : ∃ L : Lay, L = ⟨h, d, a, b, fr, w, nt, du, pl, most, ps⟩ := ⟨_, rfl⟩
  obtain ⟨s0, es0⟩ : ∃ s0 : PS, s0 = ⟨[.int 7], 1, 0, tp, st, [], [], [], true⟩ := ⟨_, rfl⟩
  refine k_ ?_
  clear k_ X_
  rw [← eL, ← es0] at H4
  have u1 : L.w = w := by rw [eL]
  have u2 : L.h = h := by rw [eL]
  have u3 : L.pl = pl := by rw [eL]
  have u4 : L.plans = ps := by rw [eL]
  rw [← u1, ← u2, ← u3]
  -- the last one
  have list4 : ∀ a b c d : AV, ∀ loc cs hp hdd, aList [a, b, c, d] ⟨loc, cs, hp, hdd⟩ = .ok (.ref hp.length) ⟨loc, cs, hp ++ [.list [a, b, c, d]], hdd⟩ := fun _ _ _ _ _ _ _ _ => rfl
  obtain ⟨n, en⟩ : ∃ n : Nat, n = ps.length - 1 := ⟨_, rfl⟩
  try (refine wp_hide fun l_ => ?_; repeat intro _)
  refine wp_inv (by assumption) (by assumption) (J := fun σ => ∃ kind hp' Fd, σ = ⟨setLoc "last" (.int n) (setLoc "kind" (.int kind) (setLoc "world" (.ref L.w) (setLoc "holder" (.ref L.h) (setLoc "plans" (.ref L.pl) loc0)))), [("deal", 0)], hp', none⟩ ∧ Holds hp' (Wd L s0 ++ Fd)) ?_ ?_
  · have a4 : hp4[L.pl]? = some (.list (L.plans.map fun p => .ref p.t)) := H4.2 _ (List.mem_append_right _ (.tail _ (.tail _ (.tail _ (.tail _ (.tail _ (.tail _ (.tail _ (.tail _ (.tail _ (.head _)))))))))))
    have ln := len_list a4 (by rw [List.length_map, u4]; omega)
    rw [List.length_map, u4] at ln
    have H5 := H4.alr (V' := dealV dl nb nums i4 sd4 ++ ((0, .cell (some (.ref dl))) :: (hp4.length, .list [.int (-1), .int 0, .int 1, .int 2]) :: Wd L s0)) (.list [.int (-1), .int 0, .int 1, .int 2]) (fun _ h => by exact re_of (.cons (.app (.cons .last))) [1, 2, 0, 3] rfl (by decide) h)
    refine cps fun X_ k_ => ?_
    obtain ⟨w', hp6, e6, kk, i6, sd6, rfl, h0, h1, D6, H6⟩ := take_ok hG (hdd := none) 4 (by decide) D4 H5
    refine k_ ?_
    clear k_ X_
    have a7 : hp6[hp4.length]? = some (.list [.int (-1), .int 0, .int 1, .int 2]) := H6.2 (hp4.length, _) (List.mem_append_right _ (.tail _ (.head _)))
    obtain ⟨kd, hkd⟩ : ∃ kd : Int, ([.int (-1), .int 0, .int 1, .int 2] : List AV)[kk.toNat]? = some (.int kd) := by
      have : kk = 0 ∨ kk = 1 ∨ kk = 2 ∨ kk = 3 := by omega
      rcases this with rfl | rfl | rfl | rfl <;> exact ⟨_, rfl⟩
    have it := item_list a7 hkd (by decide)
    rw [show ((kk.toNat : Nat) : Int) = kk by omega] at it
    have en' : ((ps.length : Nat) : Int) - 1 = n := by omega
    refine ⟨⟨setLoc "last" (.int n) (setLoc "kind" (.int kd) (setLoc "world" (.ref L.w) (setLoc "holder" (.ref L.h) (setLoc "plans" (.ref L.pl) loc0)))), [("deal", 0)], hp6 ++ [.tuple [.int n, .int kd]], none⟩, ?_, kd, _, [], rfl, H6.al _ fun y => by simp +arith only [List.append_nil, List.count_cons, List.count_append]⟩
    simp (decide := true) only [bind_ap, pure_ap, aCall, aMCall, aArgs, aLoc_e, aStore_e, setLoc_e, if_true, if_false, rbind_ok, rbind_exc, aTruth, ln, sub_e, usub_e, list4, ce H5 (.head _), e6, it, en', tuple2, List.length_cons, List.length_nil, Nat.reduceAdd, unpack2, List.reverse_cons, List.reverse_nil, List.nil_append, List.cons_append, aStores]
  intro σ h_12
  refine cps fun X_ k_ => ?_
  obtain ⟨kind, hp5, Fd, rfl, H5⟩ := h_12
  refine k_ ?_
  clear k_ X_
  clear ce H4 D4 hp4 list1 list4
  have P : PlansOk L := ⟨by rw [u4]; omega, by rw [eL]; exact mo, fun i p hp => (pl2 i p (by rw [← u4]; exact hp)).elder, fun i p hp => (pl2 i p (by rw [← u4]; exact hp)).frames, fun i p hp => (pl2 i p (by rw [← u4]; exact hp)).calls, fun i p hp => (pl2 i p (by rw [← u4]; exact hp)).places⟩
  have hn : n < L.plans.length := by rw [u4]; omega
  have g0 : Good L s0 := by rw [es0]; exact ⟨hst, .nil, fun o ho => (nomatch ho), by dsimp only; omega⟩
  have R0 : Room L s0 4 := ⟨g0, by rw [es0]; show 1 + 2 * 4 < 900; decide, by rw [es0]; show (0 : Int) ≤ 1; decide, by rw [es0]; show 0 + 502 * 4 + 2000 < 900000; decide, by rw [es0]⟩
  -- the guarded work
  refine cps fun X_ k_ => ?_
  obtain ⟨wv, hp6, e6, st6, ops6, ns6, rfl, q6, g6, H6⟩ := guard_all hG P 4 n s0 Fd hp5 kind hn (by omega) R0 H5
  refine k_ ?_
  clear k_ X_
  have v1 : s0.ccalls = 1 := by rw [es0]
  have v2 : ((s0.frames.length : Nat) : Int) = 1 := by rw [es0]; rfl
  have v3 : s0.handling = 0 := by rw [es0]
  rw [v1, v2, v3] at e6 q6
  have dv := dueP_val L 4 n 1 1 0
  have dn := dueP_notes L 4 n 1 1 0
  have dc := dueP_cc P (f := 3) (at_ := n) (cc := 1) (fr := 1) (hg := 0) hn (by decide)
  refine cps fun X_ k_ => ?_
  obtain ⟨wr, hp8, e8, r, ns8, rfl, q8, H8⟩ := due_ok hG P 4 n { s0 with stack := st6, ops := ops6, notes := s0.notes ++ ns6 } Fd hp6 1 1 0 hn (by omega) (by decide) H6 (by rw [es0]; show 0 + 502 * 4 + 2000 < 900000; decide)
  refine k_ ?_
  clear k_ X_
  have dl := dueP_len P 4 n 1 1 0 hn (by omega) (by decide)
  generalize dueP L 4 n 1 1 0 = D at *
  refine cps fun X_ k_ => ?_
  obtain ⟨v, deep, many, l⟩ := D
  refine k_ ?_
  clear k_ X_
  dsimp only at e6 q6 q8 H8 dv dn dc dl ⊢
  have av := ansK_val (most := L.most) (kind := kind) (deep := deep) (many := many) (hg := 0) dv
  have an := ansK_notes (most := L.most) (kind := kind) (v := v) (deep := deep) (many := many) (hg := 0)
  try (refine wp_hide fun l_ => ?_; repeat intro _)
  refine wp_next (by assumption) (by assumption) (σ' := ⟨setLoc "found" (ansK L.most kind v deep many 0).1 (setLoc "last" (.int n) (setLoc "kind" (.int kind) (setLoc "world" (.ref L.w) (setLoc "holder" (.ref L.h) (setLoc "plans" (.ref L.pl) loc0))))), [("deal", 0)], hp6, none⟩) (by simp (decide := true) only [bind_ap, pure_ap, aCall, aMCall, aArgs, aLoc_e, aStore_e, setLoc_e, if_true, if_false, rbind_ok, rbind_exc, aTruth, e6]) ?_
  have t8 : hp8[r]? = some (.tuple [v, .int deep, .int many]) := mem_F H8 (.head _)
  have u8 := fun loc => unpack_e (hdd := none) (k := 3) t8 rfl (.inl rfl) loc [("deal", 0)]
  try (refine wp_hide fun l_ => ?_; repeat intro _)
  refine wp_next (by assumption) (by assumption) (σ' := ⟨setLoc "many" (.int many) (setLoc "deep" (.int deep) (setLoc "value" v (setLoc "found" (ansK L.most kind v deep many 0).1 (setLoc "last" (.int n) (setLoc "kind" (.int kind) (setLoc "world" (.ref L.w) (setLoc "holder" (.ref L.h) (setLoc "plans" (.ref L.pl) loc0)))))))), [("deal", 0)], hp8, none⟩) (by simp (decide := true) only [bind_ap, pure_ap, aCall, aMCall, aArgs, aLoc_e, aStore_e, setLoc_e, if_true, if_false, rbind_ok, rbind_exc, aTruth, e8, List.length_cons, List.length_nil, u8, aStores]) ?_
  have H9 : Holds hp8 (Wd L { s0 with stack := st6, ops := ops6, notes := s0.notes ++ ns6, due := s0.due ++ ns8 } ++ Fd) := H8.wkr (fun _ h => by exact re_of (.app (.cons .last)) [0, 2] rfl (by decide) h)
  clear H8 H6 H5 e6 e8 u8 t8
  -- what answers
  try (refine wp_hide fun l_ => ?_; repeat intro _)
  refine wp_mid (by assumption) (by assumption) (fun f' σ' => f' = .next ∧ ∃ loc hp' ns9, σ' = ⟨loc, [("deal", 0)], hp', none⟩ ∧ loc "found" = some (ansK L.most kind v deep many 0).1 ∧ loc "value" = some (ansK L.most kind v deep many 0).1 ∧ loc "world" = some (.ref L.w) ∧ loc "holder" = some (.ref L.h) ∧
    ns9.map (·.2) = (ansK L.most kind v deep many 0).2 ∧ Holds hp' (Wd L { s0 with stack := st6, ops := ops6, notes := s0.notes ++ ns6, due := s0.due ++ ns8 ++ ns9 } ++ Fd)) ?_ ?_
  · rcases dv with hv | rfl
    · by_cases hk : 0 ≤ kind
      · have ea : ansK L.most kind v deep many 0 = answ (L.most - deep).toNat kind v deep many 0 := by unfold ansK; rw [if_pos ⟨hv, hk⟩]
        have pm := P.most
        refine cps fun X_ k_ => ?_
        obtain ⟨w', hp3, e3, ns2, rfl, q3, H3⟩ := answered_ok hG hv H9 kind deep many 0 (by omega) (by
          have : ns8.length = l.length := by rw [← q8, List.length_map]
          show (s0.due ++ ns8).length + 1000 < 900000
          rw [es0, List.nil_append]
          omega)
        refine k_ ?_
        clear k_ X_
        rw [ea]
        try refine wp_end (by assumption) (by assumption) ?_
        refine wp_t (σ' := ⟨_, [("deal", 0)], hp8, none⟩) (by simp (decide := true) only [bind_ap, pure_ap, aCall, aMCall, aArgs, aLoc_e, aStore_e, setLoc_e, if_true, if_false, rbind_ok, rbind_exc, aTruth, aAnd, isnt_val hv, ge_e, decide_eq_true hk]; rfl) ?_
        try refine wp_end (by assumption) (by assumption) ?_
        refine WP.ok (a := .next) (σ := ⟨_, [("deal", 0)], hp3, none⟩) (by simp (decide := true) only [bind_ap, pure_ap, aCall, aMCall, aArgs, aLoc_e, aStore_e, setLoc_e, if_true, if_false, rbind_ok, rbind_exc, aTruth, aSeq, e3]; rfl) ⟨rfl, _, hp3, ns2, rfl, ?_, rfl, ?_, ?_, q3, H3⟩
        all_goals simp (decide := true) only [setLoc_e, if_false, if_true]
      · have ea : ansK L.most kind v deep many 0 = (v, []) := by unfold ansK; rw [if_neg fun h => hk h.2]
        try refine wp_end (by assumption) (by assumption) ?_
        refine wp_f (σ' := ⟨_, [("deal", 0)], hp8, none⟩) (by simp (decide := true) only [bind_ap, pure_ap, aCall, aMCall, aArgs, aLoc_e, aStore_e, setLoc_e, if_true, if_false, rbind_ok, rbind_exc, aTruth, aAnd, isnt_val hv, ge_e, decide_eq_false hk]; rfl) ?_
        rw [ea]
        refine ⟨rfl, _, hp8, [], rfl, ?_, ?_, ?_, ?_, rfl, by rw [List.append_nil]; exact H9⟩
        all_goals simp (decide := true) only [setLoc_e, if_false, if_true]
    · have ea : ansK L.most kind .none deep many 0 = (.none, []) := by unfold ansK; rw [if_neg fun h => by cases h.1]
      try refine wp_end (by assumption) (by assumption) ?_
      refine wp_f (σ' := ⟨_, [("deal", 0)], hp8, none⟩) (by simp (decide := true) only [bind_ap, pure_ap, aCall, aMCall, aArgs, aLoc_e, aStore_e, setLoc_e, if_true, if_false, rbind_ok, rbind_exc, aTruth, aAnd, isnt_none]; rfl) ?_
      rw [ea]
      refine ⟨rfl, _, hp8, [], rfl, ?_, ?_, ?_, ?_, rfl, by rw [List.append_nil]; exact H9⟩
      all_goals simp (decide := true) only [setLoc_e, if_false, if_true]
  intro f' σ' h_13
  refine cps fun X_ k_ => ?_
  obtain ⟨rfl, loc, hp9, ns9, rfl, k1, k2, k3, k4, q9, H10⟩ := h_13
  refine k_ ?_
  clear k_ X_
  clear H9
  dsimp only
  generalize ansK L.most kind v deep many 0 = a' at *
  obtain ⟨v', l'⟩ := a'
  dsimp only at q6 av an k1 k2 q9
  -- all is the same
  obtain ⟨s9, es9⟩ : ∃ s9 : PS, s9 = { s0 with stack := st6, ops := ops6, notes := s0.notes ++ ns6, due := s0.due ++ ns8 ++ ns9 } := ⟨_, rfl⟩
  rw [← es9] at H10
  have w1 : s9.well = true := by rw [es9, es0]
  have w2 : s9.frames = [.int 7] := by rw [es9, es0]
  have w3 : s9.ccalls = 1 := by rw [es9, es0]
  have w4 : s9.handling = 0 := by rw [es9, es0]
  have w5 : s9.notes.map (·.2) = l ++ l' := by rw [es9, es0]; exact q6
  have w6 : s9.due.map (·.2) = l ++ l' := by rw [es9, es0]; dsimp only; rw [List.nil_append, List.map_append, q8, q9]
  have nn := neq_notes H10 (by rw [w5, w6]) (by rw [w5]; exact dn.append an)
  have rr := rds hG H10
  rw [w1, w3, w4] at rr
  have nv := neq_val av
  try (refine wp_hide fun l_ => ?_; repeat intro _)
  refine wp_next (by assumption) (by assumption) (σ' := ⟨loc, [("deal", 0)], hp9, none⟩) (by simp (decide := true) only [bind_ap, pure_ap, aCall, aMCall, aArgs, aLoc_e, aStore_e, setLoc_e, if_true, if_false, rbind_ok, rbind_exc, aTruth, aSeq, aOr, k1, k2, k3, nv, rr, nn, Bool.not_true]) ?_
  have H11 := H10.alr (V' := Wd L s9 ++ ((hp9.length, .list [.int 7]) :: Fd)) (.list [.int 7]) (fun _ h => by exact re_of (.cons (.app .last)) [1, 0, 2] rfl (by decide) h)
  have list1 : ∀ (a : AV) loc cs hp hdd, aList [a] ⟨loc, cs, hp, hdd⟩ = .ok (.ref hp.length) ⟨loc, cs, hp ++ [.list [a]], hdd⟩ := fun _ _ _ _ _ => rfl
  have a5 : (hp9 ++ [AO.list [.int 7]])[L.fr]? = some (.list s9.frames) := H11.2 _ (.tail _ (.tail _ (.tail _ (.tail _ (.head _)))))
  rw [w2] at a5
  have eq := eqS_list a5 (mem_F H11 (.head _)) fun v hv => by rw [List.mem_singleton.mp hv]; exact atom_int _
  have r2 := rds hG H11
  rw [w1, w3, w4] at r2
  try refine wp_end (by assumption) (by assumption) ?_
  refine WP.ok (a := .ret (.bool true)) (σ := ⟨loc, [("deal", 0)], hp9 ++ [AO.list [.int 7]], none⟩) ?_ rfl
  rw [bind_ap, and_t (σ' := ⟨loc, [("deal", 0)], hp9 ++ [AO.list [.int 7]], none⟩) ((bind_of (a := AV.ref L.fr) (σ' := ⟨loc, [("deal", 0)], hp9, none⟩) (by simp only [bind_ap, pure_ap, aCall, aMCall, aArgs, aLoc_e, aStore_e, setLoc_e, if_true, if_false, rbind_ok, rbind_exc, aTruth, k4, rr])).trans ((bind_of (a := AV.ref hp9.length) (σ' := ⟨loc, [("deal", 0)], hp9 ++ [AO.list [.int 7]], none⟩) (by simp only [bind_ap, pure_ap, aCall, aMCall, aArgs, aLoc_e, aStore_e, setLoc_e, if_true, if_false, rbind_ok, rbind_exc, aTruth, list1])).trans (eq _ _ _))),
    and_t (σ' := ⟨loc, [("deal", 0)], hp9 ++ [AO.list [.int 7]], none⟩) (by simp only [bind_ap, pure_ap, aCall, aMCall, aArgs, aLoc_e, aStore_e, setLoc_e, if_true, if_false, rbind_ok, rbind_exc, aTruth, k4, r2, eq_e, beq_self_eq_true]), and_1]
  simp only [bind_ap, pure_ap, aCall, aMCall, aArgs, aLoc_e, aStore_e, setLoc_e, if_true, if_false, rbind_ok, rbind_exc, aTruth, k4, r2, eq_e, beq_self_eq_true]
theorem plainLaw {G : Gd} (hG : Known G) (ns : List Int) (h1 : G.oldVs = ns.map AV.int) (h2 : ns.length ≤ 63) : ∃ σf, (d_256 hG).1 (lawS G.old) = .ok (.ret (.bool true)) σf := by
  have z := plainLaw_wp hG ns h1
  cases e : (d_256 hG).1 (lawS G.old) with
  | ok f σ => rw [e] at z; exact ⟨σ, by rw [show f = _ from z]⟩
  | exc x σ => rw [e] at z; exact z.elim
  | stuck => rw [e] at z; exact z.elim
end Mine

open PySem PySem.W PyProof.Rows PySem.Calls
set_option Elab.async false
set_option maxRecDepth 100000
set_option maxHeartbeats 1000000
set_option linter.unusedVariables false
namespace Mine

theorem att_fact (P : Params) : ∀ q ∈ kAtts, plainGet (hd.heap_39 P) q.1 q.2 = true ∧ hasDictIn (hd.heap_39 P) q.1 = true ∧ (∃ attr, findIn (hd.heap_39 P) (.ref q.1) q.2 = some attr ∧ noGet (hd.heap_39 P) attr = true) ∧
    findIn (hd.heap_39 P) (.ref q.1) "__setattr__" = some (some (.builtin "object.__setattr__")) ∧ plainOver (hd.heap_39 P) q.1 = true ∧ takerIn (hd.heap_39 P) q.1 q.2 = some none := by
  unfold kAtts
  intro q hq
  rcases List.mem_cons.mp hq with rfl | hq
  · exact ⟨rfl, rfl, ⟨_, rfl, rfl⟩, rfl, rfl, rfl⟩
  repeat (rcases List.mem_cons.mp hq with rfl | hq; exact ⟨rfl, rfl, ⟨_, rfl, rfl⟩, rfl, rfl, rfl⟩)
  cases hq
theorem meth_fact (P : Params) : ∀ q ∈ kMeths, plainGet (hd.heap_39 P) q.1 q.2.1 = true ∧ findIn (hd.heap_39 P) (.ref q.1) q.2.1 = some (some (.ref q.2.2)) ∧ isFn (hd.heap_39 P) (.ref q.2.2) = true := by
  unfold kMeths
  intro q hq
  repeat (rcases List.mem_cons.mp hq with rfl | hq; exact ⟨rfl, rfl, rfl⟩)
  cases hq
theorem callee_fact (P : Params) : ∀ a ∈ kCallees, keepIn (hd.heap_39 P) (.ref a) = true := by
  unfold kCallees
  intro q hq
  repeat (rcases List.mem_cons.mp hq with rfl | hq; rfl)
  cases hq

/-- the run as it is given -/
noncomputable def mkG (prog : Program) (w : World) (p : Program) (loose : List Str) (mean : ExcName → Option Value) (mg mb : Str → Option Value) (base : Heap) (old : Addr) (oldVs : List AV) (oldOk : ∃ vs : List Value, base.IsList old vs.toArray ∧ All2 (VR []) oldVs vs ∧ oldVs.length < 1000000)
    (X : (hd.heap_39 w.params).In base) (T : Top p loose mean mg mb base) (C : CodeHd base 229 227) : Gd where
  prog := prog
  w := w
  K := hd.heap_39 w.params
  p := p
  loose := loose
  mean := mean
  mg := mg
  mb := mb
  base := base
  old := old
  oldVs := oldVs
  oldOk := oldOk
  lams := [lamReply, lamWork]
  lamScope := scOf 230
  lamQual := (fdOf 230).qualname
  tabP := 227
  tabC := 229
  X := X
  T := T
  C := C
  atts := kAtts
  attsOk := att_fact _
  meths := kMeths
  methsOk := meth_fact _
  callees := kCallees
  calleesOk := callee_fact _

theorem ints_av {vs : List Value} {ns : List Int} (h : IntsAre vs ns) : All2 (VR []) (ns.map AV.int) vs := by
  induction h with
  | nil => exact .nil
  | cons n t h ih => exact .cons (.int n t) ih

theorem join_core {prog : Program} {w : World} {p : Program} {loose : List Str} {mean : ExcName → Option Value} {mg mb : Str → Option Value} {base : Heap} {L l : Addr} {vs : List Value} {ns : List Int} {env : Env} {A : Around} {E : Value → Shared → Prop} {Q : Flow → Shared → Prop} {s : Shared} {m : Str → Option Value} {oc : Obj} {v0 : Option Value}
    (X : (hd.heap_39 w.params).In base) (T : Top p loose mean mg mb base) (C : CodeHd base 229 227) (hl : base.IsList l vs.toArray) (hi : IntsAre vs ns) (hn : ns.length ≤ 63)
    (F : Fr base L s.heap m) (N : News base L s.heap [(L + 1, oc), (227, tabObj #[])]) (hoc : oc.data = .cell v0) (hm : m "script" = some (.ref l)) (h227 : 227 < L)
    (henv : ∃ q f cd, env = envX q (scOf 256) L f cd [("deal", L + 1)]) (hA : A.frames = some [env]) (hh : A.handled = none) (hd1 : A.depth + 600 < recursionLimit) (hu1 : A.units + 2800 < cLine)
    (hQ : ∀ h' tk m' ps, Fr base L h' m' → h'.get? 227 = some (tabObj ps) → TriplesOk ps.toList → Q (.ret (.bool true)) { s with heap := h', toks := tk }) : wpAny (model prog w) A (execs (bodyOf 256) env) Q E s := by
  have hia := ints_av hi
  have hlen := hia.length
  rw [List.length_map] at hlen
  let G := mkG prog w p loose mean mg mb base l (ns.map AV.int) ⟨vs, hl, hia, by rw [List.length_map]; omega⟩ X T C
  have hG : Known G := ⟨rfl, rfl, rfl, rfl, rfl, rfl, rfl, rfl⟩
  refine cps fun X_ k_ => ?_
  obtain ⟨q, f, cd, rfl⟩ := henv
  refine k_ ?_
  clear k_ X_
  let c : Cx := { A := A, env := envX q (scOf 256) L f cd [("deal", L + 1)], L := L, frs := [], its := [] }
  have hc : OkCx G 44 (scOf 256) c := ⟨rfl, rfl, rfl, rfl, rfl, by show A.depth + 12 * 44 + 20 < _; omega, by show A.units + 60 * 44 + 100 < _; omega,
    ⟨_, _, hA, rfl, fun x hx => by
      rcases List.mem_cons.mp hx with rfl | hx
      · exact ⟨by show (scOf 256).kind ≠ .module; decide, L, rfl, .inl rfl⟩
      · cases hx⟩,
    fun z => absurd (congrArg (fun s => s.names.map (·.1)) z) (by show (scOf 256).names.map (·.1) ≠ (scOf 230).names.map (·.1); decide)⟩
  have S : St G c (lawS l) [L + 1] s.heap m [(L + 1, oc)] [] [(227, tabObj #[])] := by
    refine ⟨F, N, ?_, fun x => ?_, rfl, .cons (.cell hoc .none) .nil, .nil, ⟨fun q hq => (nomatch hq), ⟨#[], .head _, trivial, fun l hl cv hcv => (by cases hcv)⟩, fun p hp => ?_⟩, .cons ⟨rfl, rfl⟩ .nil, ?_⟩
    · show [L + 1, 227].Nodup
      rw [List.nodup_cons]
      refine ⟨fun h => ?_, List.nodup_cons.mpr ⟨fun h => (nomatch h), List.nodup_nil⟩⟩
      rcases List.mem_cons.mp h with h | h
      · exact absurd h (Nat.ne_of_gt (Nat.lt_succ_of_lt h227))
      · cases h
    · show OV _ (if x = "script" then some (.obj l) else none) _
      by_cases hx : x = "script"
      · subst hx
        rw [if_pos rfl, hm]; exact .some (.obj l)
      · rw [if_neg hx]; exact .none
    · rcases List.mem_cons.mp hp with rfl | hp
      · exact .inl (by intro q; cases q)
      · cases hp
    · exact hh
  obtain ⟨σf, hr⟩ := plainLaw hG ns rfl hn
  have z := (d_256 hG).2 c (lawS l) [L + 1] s hc ⟨m, _, _, _, S⟩
  have hr : (d_256 hG).1 (lawS l) = _ := hr
  rw [hr] at z
  refine z Q E fun ρ' v' h' tk hp R' rv => ?_
  cases rv with | ret rv =>
  cases rv
  refine cps fun X_ k_ => ?_
  obtain ⟨m', ent, fent, ext, S'⟩ := R'
  obtain ⟨ps, t1, t2, -⟩ := S'.ext.tab
  refine k_ ?_
  clear k_ X_
  exact hQ h' tk m' ps S'.fr (S'.nw _ (List.mem_append_right _ (List.mem_append_right _ t1))).1 t2
end Mine

open PySem PySem.W PyProof.Rows PySem.Calls
set_option Elab.async false
set_option maxRecDepth 100000
set_option maxHeartbeats 4000000
set_option pp.deepTerms false
set_option pp.maxSteps 1500
namespace Mine
theorem said1 : OpenLaw.wellSaid PySem.Challenge.rw_pc0162_01 = true := by decide +kernel
theorem law_holds : PySem.Challenge.rw_pc0162_01.Holds := by
  w_on
  refine holds_law said1 fun said => ?_
  refine holds_open (q := hd.view_39) (loose := ["HeapObject", "UpVal"]) (Xt := fun s => xlAt hd.view_39 [] s && recOk PySem.Challenge.rw_pc0162_01.row.toRowW.records s) (XP := XL hd.view_39 []) (Yf := Hook.obs hook) (Ya := Hook.val hook) (YP := Hook.says hook) (N := 3830) left_all (Hook.of hook) (Hook.keeps hook)
    (fun s e => xl_of s (Bool.and_eq_true_iff.mp e).1) XL.keeps (by rfl) (by rfl) (by rfl) (fun s e => recFacts_of (Bool.and_eq_true_iff.mp e).2) (by rfl) (by first | assumption | decide +kernel) (by decide +kernel) ⟨rfl, rfl, rfl, rfl, rfl, by decide +kernel⟩ ?hw ?hc
  case hw => w_witness2
  delta hook
  k_fill
  intro w s₀ s₁ mg mb G Y fa o pm cd doc dV kV ho hd hcd hD hmg hg args vals as hpre hlay hrd hwl hlo
  have KX := km_in_of Y
  km_tabs Y
  have X := (Ground.X G).1
  have V := (Ground.X G).2
  refine Ground.open G ?_
  intro T B D TE TW
  try (refine guard_noD D (by decide +kernel) ?_; clear D)
  have hT9 : TabsAt ([(229, 227)] : List (Addr × Addr)) _ := List.forall_mem_cons.mpr ⟨⟨codeHd_of_K (c := 229) (P := 227) KX (by kernel_rfl), hT8 227 (by k_mem)⟩, fun _ h => nomatch h⟩
  clear hmg
  wrow_args hpre hlay hrd hwl hlo
  all_goals (
    first | refine callC_kw (enter_call ?_) | refine enter_call ?_
    w_top on
    kn_posts
    w_call any ho hd hcd hD T F
    clear hd
    kn_ghosts F T
    k_drop
    skip)
  rename_i h₁ tk₁ oc hoc X0 X T K F N l0
  refine join_core (oc := oc) X T codeHd lifted (by assumption) (by omega) F N hoc rfl l0 ⟨_, _, _, rfl⟩ (by rw [Around.frames_deeper K.stack]) ?hh ?hd ?hu ?hQ
  case hQ =>
    intro h' tk m' ps F' hg ht
    dsimp only
    refine ⟨?_, ?_⟩
    · wrow_close
    · exact ⟨⟨ps, hg⟩, trivial⟩
  case hh => rfl
  case hd => (simp only [depth_deeper, depth_caller]; decide)
  case hu => (simp only [units_deeper, units_caller]; decide)
end Mine

theorem PySem.Challenge.cw_pc0162_01_holds : PySem.Challenge.rw_pc0162_01.Holds := by
  exact Mine.law_holds
