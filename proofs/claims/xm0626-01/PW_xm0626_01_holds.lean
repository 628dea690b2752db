import PyProof.Rows.All
import Wide.All
import OpenK.AllK
import Wide.FinOn
import PySem.Challenge.RW_xm0626_01
open PySem PySem.W PyProof.Rows PySem.Calls
set_option Elab.async false
set_option linter.all false
set_option maxRecDepth 100000
set_option maxHeartbeats 8000000
namespace Mine
/-! ## what the walk reads of the top's heap: the defs, their codes, the classes and the namespaces -/
noncomputable def st (i : Nat) : Stmt := PySem.Challenge.pw_xm0626_01.main.body.getD i (.Pass default)
noncomputable def su (s : Stmt) (j : Nat) : Stmt := match s with
  | .ClassDef _ _ _ b _ _ _ _ _ _ _ => b.getD j (.Pass default)
  | s => s
noncomputable def fo (s : Stmt) (q : Str) (df md cd : Value) : Obj := match s with
  | .FunctionDef n a b _ _ _ sc _ _ _ => ⟨.type "function", none, .func { name := n, qualname := q, params := a, body := .stmts b, scope := sc, globals := nat_lit 3, closure := [], defaults := df, kwdefaults := .none, doc := .none, pyModule := md, annotations := none, code := cd, closureTuple := .none, builtins := nat_lit 0 }, #[]⟩
  | _ => default
noncomputable abbrev FO (x : Obj) : Type := { o : Obj // o = x }
noncomputable abbrev de (P : Params) (k : Str) (t : Nat) (v : Value) : DictEntry := ⟨PyData.keyHash P k, .str k t, v⟩
noncomputable def f21 : FO (fo (st 0) "_wall" .none (.str "__main__" 164) (.ref 20)) := ⟨_, by conv => rhs; whnf⟩
noncomputable def f35 : FO (fo (su (st 10) 0) "LuaError.__init__" .none (.str "lua.values" 194) (.ref 34)) := ⟨_, by conv => rhs; whnf⟩
noncomputable def f55 : FO (fo (su (st 11) 1) "HeapObject.__init__" .none (.str "lua.values" 194) (.ref 54)) := ⟨_, by conv => rhs; whnf⟩
noncomputable def f76 : FO (fo (su (st 12) 0) "LightValue.__init__" .none (.str "lua.values" 194) (.ref 75)) := ⟨_, by conv => rhs; whnf⟩
noncomputable def f90 : FO (fo (st 13) "is_number" .none (.str "lua.values" 194) (.ref 89)) := ⟨_, by conv => rhs; whnf⟩
noncomputable def f97 : FO (fo (st 14) "type_of" .none (.str "lua.values" 194) (.ref 96)) := ⟨_, by conv => rhs; whnf⟩
noncomputable def f104 : FO (fo (st 15) "is_collectable" .none (.str "lua.values" 194) (.ref 103)) := ⟨_, by conv => rhs; whnf⟩
noncomputable def f111 : FO (fo (st 16) "raw_equal" .none (.str "lua.values" 194) (.ref 110)) := ⟨_, by conv => rhs; whnf⟩
noncomputable def f118 : FO (fo (st 17) "string_hash" .none (.str "lua.values" 194) (.ref 117)) := ⟨_, by conv => rhs; whnf⟩
noncomputable def f125 : FO (fo (st 18) "log2" .none (.str "lua.values" 194) (.ref 124)) := ⟨_, by conv => rhs; whnf⟩
noncomputable def f132 : FO (fo (st 19) "ceil_log2" .none (.str "lua.values" 194) (.ref 131)) := ⟨_, by conv => rhs; whnf⟩
noncomputable def f146 : FO (fo (su (st 28) 0) "DeadKey.__init__" .none (.str "lua.tables" 361) (.ref 145)) := ⟨_, by conv => rhs; whnf⟩
noncomputable def f167 : FO (fo (su (st 29) 0) "Node.__init__" .none (.str "lua.tables" 361) (.ref 166)) := ⟨_, by conv => rhs; whnf⟩
noncomputable def f174 : FO (fo (su (st 29) 1) "Node.moved_to" .none (.str "lua.tables" 361) (.ref 173)) := ⟨_, by conv => rhs; whnf⟩
noncomputable def f188 : FO (fo (st 30) "array_index" .none (.str "lua.tables" 361) (.ref 187)) := ⟨_, by conv => rhs; whnf⟩
noncomputable def f195 : FO (fo (st 31) "compute_sizes" .none (.str "lua.tables" 361) (.ref 194)) := ⟨_, by conv => rhs; whnf⟩
noncomputable def f202 : FO (fo (st 32) "count_key" .none (.str "lua.tables" 361) (.ref 201)) := ⟨_, by conv => rhs; whnf⟩
noncomputable def f217 : FO (fo (su (st 33) 1) "Table.__init__" (.ref 210) (.str "lua.tables" 361) (.ref 216)) := ⟨_, by conv => rhs; whnf⟩
noncomputable def f224 : FO (fo (su (st 33) 2) "Table.main_position" .none (.str "lua.tables" 361) (.ref 223)) := ⟨_, by conv => rhs; whnf⟩
noncomputable def f231 : FO (fo (su (st 33) 3) "Table.find_node" .none (.str "lua.tables" 361) (.ref 230)) := ⟨_, by conv => rhs; whnf⟩
noncomputable def f238 : FO (fo (su (st 33) 4) "Table.free_position" .none (.str "lua.tables" 361) (.ref 237)) := ⟨_, by conv => rhs; whnf⟩
noncomputable def f245 : FO (fo (su (st 33) 5) "Table.get_int" .none (.str "lua.tables" 361) (.ref 244)) := ⟨_, by conv => rhs; whnf⟩
noncomputable def f252 : FO (fo (su (st 33) 6) "Table.get_text" .none (.str "lua.tables" 361) (.ref 251)) := ⟨_, by conv => rhs; whnf⟩
noncomputable def f259 : FO (fo (su (st 33) 7) "Table.get" .none (.str "lua.tables" 361) (.ref 258)) := ⟨_, by conv => rhs; whnf⟩
noncomputable def f266 : FO (fo (su (st 33) 8) "Table.set" .none (.str "lua.tables" 361) (.ref 265)) := ⟨_, by conv => rhs; whnf⟩
noncomputable def f273 : FO (fo (su (st 33) 9) "Table.set_int" .none (.str "lua.tables" 361) (.ref 272)) := ⟨_, by conv => rhs; whnf⟩
noncomputable def f280 : FO (fo (su (st 33) 10) "Table.set_text" .none (.str "lua.tables" 361) (.ref 279)) := ⟨_, by conv => rhs; whnf⟩
noncomputable def f287 : FO (fo (su (st 33) 11) "Table.put" .none (.str "lua.tables" 361) (.ref 286)) := ⟨_, by conv => rhs; whnf⟩
noncomputable def f294 : FO (fo (su (st 33) 12) "Table.new_key" .none (.str "lua.tables" 361) (.ref 293)) := ⟨_, by conv => rhs; whnf⟩
noncomputable def f301 : FO (fo (su (st 33) 13) "Table.put_again" .none (.str "lua.tables" 361) (.ref 300)) := ⟨_, by conv => rhs; whnf⟩
noncomputable def f308 : FO (fo (su (st 33) 14) "Table.count_array" .none (.str "lua.tables" 361) (.ref 307)) := ⟨_, by conv => rhs; whnf⟩
noncomputable def f315 : FO (fo (su (st 33) 15) "Table.count_nodes" .none (.str "lua.tables" 361) (.ref 314)) := ⟨_, by conv => rhs; whnf⟩
noncomputable def f322 : FO (fo (su (st 33) 16) "Table.rehash" .none (.str "lua.tables" 361) (.ref 321)) := ⟨_, by conv => rhs; whnf⟩
noncomputable def f330 : FO (fo (su (st 33) 17) "Table.resize" (.ref 323) (.str "lua.tables" 361) (.ref 329)) := ⟨_, by conv => rhs; whnf⟩
noncomputable def f337 : FO (fo (su (st 33) 18) "Table.put_back" .none (.str "lua.tables" 361) (.ref 336)) := ⟨_, by conv => rhs; whnf⟩
noncomputable def f342 : FO (fo (su (st 33) 19) "Table.make_nodes" .none (.str "lua.tables" 361) (.ref 341)) := ⟨_, by conv => rhs; whnf⟩
noncomputable def f349 : FO (fo (su (st 33) 20) "Table.resize_array" .none (.str "lua.tables" 361) (.ref 348)) := ⟨_, by conv => rhs; whnf⟩
noncomputable def f356 : FO (fo (su (st 33) 21) "Table.weigh" .none (.str "lua.tables" 361) (.ref 355)) := ⟨_, by conv => rhs; whnf⟩
noncomputable def f363 : FO (fo (su (st 33) 22) "Table.find_index" .none (.str "lua.tables" 361) (.ref 362)) := ⟨_, by conv => rhs; whnf⟩
noncomputable def f370 : FO (fo (su (st 33) 23) "Table.next" .none (.str "lua.tables" 361) (.ref 369)) := ⟨_, by conv => rhs; whnf⟩
noncomputable def f377 : FO (fo (su (st 33) 24) "Table.length" .none (.str "lua.tables" 361) (.ref 376)) := ⟨_, by conv => rhs; whnf⟩
noncomputable def f384 : FO (fo (su (st 33) 25) "Table.unbound_search" .none (.str "lua.tables" 361) (.ref 383)) := ⟨_, by conv => rhs; whnf⟩
noncomputable def f391 : FO (fo (su (st 33) 26) "Table.bury" .none (.str "lua.tables" 361) (.ref 390)) := ⟨_, by conv => rhs; whnf⟩
noncomputable def f398 : FO (fo (su (st 33) 27) "Table.bury_empty" .none (.str "lua.tables" 361) (.ref 397)) := ⟨_, by conv => rhs; whnf⟩
noncomputable def f405 : FO (fo (su (st 33) 28) "Table.entries" .none (.str "lua.tables" 361) (.ref 404)) := ⟨_, by conv => rhs; whnf⟩
noncomputable def f417 : FO (fo (st 35) "_law_dealt" .none (.str "law_xm0626_01" 783) (.ref 416)) := ⟨_, by conv => rhs; whnf⟩
noncomputable def f424 : FO (fo (st 36) "_law_key" .none (.str "law_xm0626_01" 783) (.ref 423)) := ⟨_, by conv => rhs; whnf⟩
noncomputable def f431 : FO (fo (st 37) "_law_tag" .none (.str "law_xm0626_01" 783) (.ref 430)) := ⟨_, by conv => rhs; whnf⟩
noncomputable def f438 : FO (fo (st 38) "_law_home" .none (.str "law_xm0626_01" 783) (.ref 437)) := ⟨_, by conv => rhs; whnf⟩
noncomputable def f443 : FO (fo (st 39) "_law_placed" .none (.str "law_xm0626_01" 783) (.ref 442)) := ⟨_, by conv => rhs; whnf⟩
noncomputable def f448 : FO (fo (st 40) "_law_measured" .none (.str "law_xm0626_01" 783) (.ref 447)) := ⟨_, by conv => rhs; whnf⟩
noncomputable def f455 : FO (fo (st 41) "_law_written" .none (.str "law_xm0626_01" 783) (.ref 454)) := ⟨_, by conv => rhs; whnf⟩
noncomputable def f460 : FO (fo (st 42) "_law_in_order" .none (.str "law_xm0626_01" 783) (.ref 459)) := ⟨_, by conv => rhs; whnf⟩
noncomputable def f465 : FO (fo (st 43) "law" .none (.str "law_xm0626_01" 783) (.ref 464)) := ⟨_, by conv => rhs; whnf⟩
noncomputable def frag (P : Params) : Frag := [
  (nat_lit 2, ⟨.none, none, (.dict [de P "type.__subclasses__.Exception.0" 240 (.int 38 0), de P "type.__subclasses__.Exception.n" 241 (.int 1 0)].toArray 2), #[]⟩),
  (nat_lit 3, ⟨(.type "dict"), none, (.dict [de P "__name__" 165 (.str "law_xm0626_01" 783), de P "__doc__" 166 .none, de P "__package__" 167 .none, de P "__loader__" 168 (.builtin "__main__.__loader__#opaque"), de P "__spec__" 169 .none, de P "__annotations__" 170 (.ref 6), de P "__builtins__" 171 (.ref 4), de P "__file__" 173 (.str "/claim/cut.py" 172), de P "__cached__" 174 .none, de P "_wall" 193 (.ref 21), de P "T_NONE" 198 (.int (-1) 197), de P "T_NIL" 200 (.int 0 199), de P "T_BOOLEAN" 202 (.int 1 201), de P "T_LIGHT" 204 (.int 2 203), de P "T_NUMBER" 206 (.int 3 205), de P "T_STRING" 208 (.int 4 207), de P "T_TABLE" 210 (.int 5 209), de P "HASH_MASK" 212 (.int 4294967295 211), de P "LuaError" 243 (.ref 38), de P "HeapObject" 276 (.ref 58), de P "LightValue" 305 (.ref 79), de P "is_number" 312 (.ref 90), de P "type_of" 319 (.ref 97), de P "is_collectable" 326 (.ref 104), de P "raw_equal" 335 (.ref 111), de P "string_hash" 345 (.ref 118), de P "log2" 353 (.ref 125), de P "ceil_log2" 360 (.ref 132), de P "MAX_BITS" 364 (.int 26 363), de P "MAX_ARRAY" 367 (.int 67108864 366), de P "MOST_SLOTS" 371 (.int 4194304 370), de P "MOST_PLACES" 375 (.int 1048576 374), de P "BASE_SIZE" 377 (.int 56 376), de P "SLOT_SIZE" 379 (.int 16 378), de P "NODE_SIZE" 381 (.int 32 380), de P "DeadKey" 410 (.ref 149), de P "Node" 448 (.ref 177), de P "array_index" 455 (.ref 188), de P "compute_sizes" 468 (.ref 195), de P "count_key" 477 (.ref 202), de P "Table" 782 (.ref 408), de P "_law_dealt" 793 (.ref 417), de P "_law_key" 802 (.ref 424), de P "_law_tag" 809 (.ref 431), de P "_law_home" 817 (.ref 438), de P "_law_placed" 823 (.ref 443), de P "_law_measured" 829 (.ref 448), de P "_law_written" 838 (.ref 455), de P "_law_in_order" 844 (.ref 460), de P "law" 850 (.ref 465)].toArray 50), #[]⟩),
  (nat_lit 20, ⟨(.type "code"), none, (.fields #[(.str "_wall" 187), (.str "_wall" 188), (.str "/claim/cut.py" 189), (.int 1 0), (.int 1 0), (.int 0 0), (.int 0 0), (.int 3 0), (.ref 15), (.bool true), (.int 181 0), (.ref 16), .none, (.ref 17), (.ref 18), (.ref 19), (.int 191 0), (.int 1 0), (.str "/claim/cut.py" 192)]), #[]⟩),
  (nat_lit 21, f21.1),
  (nat_lit 34, ⟨(.type "code"), none, (.fields #[(.str "__init__" 225), (.str "LuaError.__init__" 226), (.str "/claim/cut.py" 227), (.int 15 0), (.int 2 0), (.int 0 0), (.int 0 0), (.int 3 0), (.ref 29), (.bool true), (.int 181 0), (.ref 30), .none, (.ref 31), (.ref 32), (.ref 33), (.int 230 0), (.int 15 0), (.str "/claim/cut.py" 231)]), #[]⟩),
  (nat_lit 35, f35.1),
  (nat_lit 37, ⟨(.type "dict"), none, (.dict [de P "__module__" 220 (.str "lua.values" 194), de P "__firstlineno__" 224 (.int 13 223), de P "__init__" 232 (.ref 35), de P "__static_attributes__" 236 (.ref 36), de P "__weakref__" 238 (.ref 39), de P "__doc__" 239 .none].toArray 3), #[]⟩),
  (nat_lit 38, ⟨(.type "type"), none, (.cls ⟨"LuaError", [(.type "Exception")], [(.ref 38), (.type "Exception"), (.type "BaseException"), (.type "object")], 37, "LuaError", true, [], [], false, none, false⟩), #[some (.ref 22), none, some (.str "LuaError" 213), some (.str "LuaError" 221), some (.builtin "Exception.__new__"), some (.bool true)]⟩),
  (nat_lit 54, ⟨(.type "code"), none, (.fields #[(.str "__init__" 257), (.str "HeapObject.__init__" 258), (.str "/claim/cut.py" 259), (.int 22 0), (.int 3 0), (.int 0 0), (.int 0 0), (.int 3 0), (.ref 49), (.bool true), (.int 181 0), (.ref 50), .none, (.ref 51), (.ref 52), (.ref 53), (.int 263 0), (.int 22 0), (.str "/claim/cut.py" 264)]), #[]⟩),
  (nat_lit 55, f55.1),
  (nat_lit 57, ⟨(.type "dict"), none, (.dict [de P "__module__" 251 (.str "lua.values" 194), de P "__firstlineno__" 255 (.int 19 254), de P "kind" 256 (.int (-1) 197), de P "__init__" 265 (.ref 55), de P "__static_attributes__" 269 (.ref 56), de P "__dict__" 271 (.ref 59), de P "__weakref__" 273 (.ref 60), de P "__doc__" 274 .none].toArray 4), #[]⟩),
  (nat_lit 58, ⟨(.type "type"), none, (.cls ⟨"HeapObject", [(.type "object")], [(.ref 58), (.type "object")], 57, "HeapObject", true, [], [(.ref 408)], false, none, false⟩), #[none, none, some (.str "HeapObject" 244), some (.str "HeapObject" 252), some (.builtin "object.__new__"), some (.bool true)]⟩),
  (nat_lit 75, ⟨(.type "code"), none, (.fields #[(.str "__init__" 289), (.str "LightValue.__init__" 290), (.str "/claim/cut.py" 291), (.int 28 0), (.int 2 0), (.int 0 0), (.int 0 0), (.int 3 0), (.ref 70), (.bool true), (.int 181 0), (.ref 71), .none, (.ref 72), (.ref 73), (.ref 74), (.int 294 0), (.int 28 0), (.str "/claim/cut.py" 295)]), #[]⟩),
  (nat_lit 76, f76.1),
  (nat_lit 78, ⟨(.type "dict"), none, (.dict [de P "__module__" 284 (.str "lua.values" 194), de P "__firstlineno__" 288 (.int 26 287), de P "__init__" 296 (.ref 76), de P "__static_attributes__" 298 (.ref 77), de P "__dict__" 300 (.ref 80), de P "__weakref__" 302 (.ref 81), de P "__doc__" 303 .none].toArray 4), #[]⟩),
  (nat_lit 79, ⟨(.type "type"), none, (.cls ⟨"LightValue", [(.type "object")], [(.ref 79), (.type "object")], 78, "LightValue", true, [], [], false, none, false⟩), #[none, none, some (.str "LightValue" 277), some (.str "LightValue" 285), some (.builtin "object.__new__"), some (.bool true)]⟩),
  (nat_lit 89, ⟨(.type "code"), none, (.fields #[(.str "is_number" 306), (.str "is_number" 307), (.str "/claim/cut.py" 308), (.int 30 0), (.int 1 0), (.int 0 0), (.int 0 0), (.int 3 0), (.ref 84), (.bool true), (.int 181 0), (.ref 85), .none, (.ref 86), (.ref 87), (.ref 88), (.int 310 0), (.int 30 0), (.str "/claim/cut.py" 311)]), #[]⟩),
  (nat_lit 90, f90.1),
  (nat_lit 96, ⟨(.type "code"), none, (.fields #[(.str "type_of" 313), (.str "type_of" 314), (.str "/claim/cut.py" 315), (.int 32 0), (.int 1 0), (.int 0 0), (.int 0 0), (.int 3 0), (.ref 91), (.bool true), (.int 181 0), (.ref 92), .none, (.ref 93), (.ref 94), (.ref 95), (.int 317 0), (.int 32 0), (.str "/claim/cut.py" 318)]), #[]⟩),
  (nat_lit 97, f97.1),
  (nat_lit 103, ⟨(.type "code"), none, (.fields #[(.str "is_collectable" 320), (.str "is_collectable" 321), (.str "/claim/cut.py" 322), (.int 46 0), (.int 1 0), (.int 0 0), (.int 0 0), (.int 3 0), (.ref 98), (.bool true), (.int 181 0), (.ref 99), .none, (.ref 100), (.ref 101), (.ref 102), (.int 324 0), (.int 46 0), (.str "/claim/cut.py" 325)]), #[]⟩),
  (nat_lit 104, f104.1),
  (nat_lit 110, ⟨(.type "code"), none, (.fields #[(.str "raw_equal" 327), (.str "raw_equal" 328), (.str "/claim/cut.py" 329), (.int 48 0), (.int 2 0), (.int 0 0), (.int 0 0), (.int 3 0), (.ref 105), (.bool true), (.int 181 0), (.ref 106), .none, (.ref 107), (.ref 108), (.ref 109), (.int 333 0), (.int 48 0), (.str "/claim/cut.py" 334)]), #[]⟩),
  (nat_lit 111, f111.1),
  (nat_lit 117, ⟨(.type "code"), none, (.fields #[(.str "string_hash" 336), (.str "string_hash" 337), (.str "/claim/cut.py" 338), (.int 57 0), (.int 1 0), (.int 0 0), (.int 0 0), (.int 3 0), (.ref 112), (.bool true), (.int 181 0), (.ref 113), .none, (.ref 114), (.ref 115), (.ref 116), (.int 343 0), (.int 57 0), (.str "/claim/cut.py" 344)]), #[]⟩),
  (nat_lit 118, f118.1),
  (nat_lit 124, ⟨(.type "code"), none, (.fields #[(.str "log2" 346), (.str "log2" 347), (.str "/claim/cut.py" 348), (.int 64 0), (.int 1 0), (.int 0 0), (.int 0 0), (.int 3 0), (.ref 119), (.bool true), (.int 181 0), (.ref 120), .none, (.ref 121), (.ref 122), (.ref 123), (.int 351 0), (.int 64 0), (.str "/claim/cut.py" 352)]), #[]⟩),
  (nat_lit 125, f125.1),
  (nat_lit 131, ⟨(.type "code"), none, (.fields #[(.str "ceil_log2" 354), (.str "ceil_log2" 355), (.str "/claim/cut.py" 356), (.int 70 0), (.int 1 0), (.int 0 0), (.int 0 0), (.int 3 0), (.ref 126), (.bool true), (.int 181 0), (.ref 127), .none, (.ref 128), (.ref 129), (.ref 130), (.int 358 0), (.int 70 0), (.str "/claim/cut.py" 359)]), #[]⟩),
  (nat_lit 132, f132.1),
  (nat_lit 145, ⟨(.type "code"), none, (.fields #[(.str "__init__" 394), (.str "DeadKey.__init__" 395), (.str "/claim/cut.py" 396), (.int 82 0), (.int 2 0), (.int 0 0), (.int 0 0), (.int 3 0), (.ref 140), (.bool true), (.int 181 0), (.ref 141), .none, (.ref 142), (.ref 143), (.ref 144), (.int 399 0), (.int 82 0), (.str "/claim/cut.py" 400)]), #[]⟩),
  (nat_lit 146, f146.1),
  (nat_lit 148, ⟨(.type "dict"), none, (.dict [de P "__module__" 389 (.str "lua.tables" 361), de P "__firstlineno__" 393 (.int 80 392), de P "__init__" 401 (.ref 146), de P "__static_attributes__" 403 (.ref 147), de P "__dict__" 405 (.ref 150), de P "__weakref__" 407 (.ref 151), de P "__doc__" 408 .none].toArray 4), #[]⟩),
  (nat_lit 149, ⟨(.type "type"), none, (.cls ⟨"DeadKey", [(.type "object")], [(.ref 149), (.type "object")], 148, "DeadKey", true, [], [], false, none, false⟩), #[none, none, some (.str "DeadKey" 382), some (.str "DeadKey" 390), some (.builtin "object.__new__"), some (.bool true)]⟩),
  (nat_lit 166, ⟨(.type "code"), none, (.fields #[(.str "__init__" 423), (.str "Node.__init__" 424), (.str "/claim/cut.py" 425), (.int 86 0), (.int 1 0), (.int 0 0), (.int 0 0), (.int 3 0), (.ref 161), (.bool true), (.int 181 0), (.ref 162), .none, (.ref 163), (.ref 164), (.ref 165), (.int 427 0), (.int 86 0), (.str "/claim/cut.py" 428)]), #[]⟩),
  (nat_lit 167, f167.1),
  (nat_lit 173, ⟨(.type "code"), none, (.fields #[(.str "moved_to" 430), (.str "Node.moved_to" 431), (.str "/claim/cut.py" 432), (.int 91 0), (.int 2 0), (.int 0 0), (.int 0 0), (.int 3 0), (.ref 168), (.bool true), (.int 181 0), (.ref 169), .none, (.ref 170), (.ref 171), (.ref 172), (.int 435 0), (.int 91 0), (.str "/claim/cut.py" 436)]), #[]⟩),
  (nat_lit 174, f174.1),
  (nat_lit 176, ⟨(.type "dict"), none, (.dict [de P "__module__" 418 (.str "lua.tables" 361), de P "__firstlineno__" 422 (.int 84 421), de P "__init__" 429 (.ref 167), de P "moved_to" 437 (.ref 174), de P "__static_attributes__" 441 (.ref 175), de P "__dict__" 443 (.ref 178), de P "__weakref__" 445 (.ref 179), de P "__doc__" 446 .none].toArray 4), #[]⟩),
  (nat_lit 177, ⟨(.type "type"), none, (.cls ⟨"Node", [(.type "object")], [(.ref 177), (.type "object")], 176, "Node", true, [], [], false, none, false⟩), #[none, none, some (.str "Node" 411), some (.str "Node" 419), some (.builtin "object.__new__"), some (.bool true)]⟩),
  (nat_lit 187, ⟨(.type "code"), none, (.fields #[(.str "array_index" 449), (.str "array_index" 450), (.str "/claim/cut.py" 451), (.int 95 0), (.int 1 0), (.int 0 0), (.int 0 0), (.int 3 0), (.ref 182), (.bool true), (.int 181 0), (.ref 183), .none, (.ref 184), (.ref 185), (.ref 186), (.int 453 0), (.int 95 0), (.str "/claim/cut.py" 454)]), #[]⟩),
  (nat_lit 188, f188.1),
  (nat_lit 194, ⟨(.type "code"), none, (.fields #[(.str "compute_sizes" 456), (.str "compute_sizes" 457), (.str "/claim/cut.py" 458), (.int 97 0), (.int 2 0), (.int 0 0), (.int 0 0), (.int 3 0), (.ref 189), (.bool true), (.int 181 0), (.ref 190), .none, (.ref 191), (.ref 192), (.ref 193), (.int 466 0), (.int 97 0), (.str "/claim/cut.py" 467)]), #[]⟩),
  (nat_lit 195, f195.1),
  (nat_lit 201, ⟨(.type "code"), none, (.fields #[(.str "count_key" 469), (.str "count_key" 470), (.str "/claim/cut.py" 471), (.int 114 0), (.int 2 0), (.int 0 0), (.int 0 0), (.int 3 0), (.ref 196), (.bool true), (.int 181 0), (.ref 197), .none, (.ref 198), (.ref 199), (.ref 200), (.int 475 0), (.int 114 0), (.str "/claim/cut.py" 476)]), #[]⟩),
  (nat_lit 202, f202.1),
  (nat_lit 210, ⟨(.type "tuple"), none, (.seq #[(.int 0 491), (.int 0 492), (.int 0 493)] 0), #[]⟩),
  (nat_lit 216, ⟨(.type "code"), none, (.fields #[(.str "__init__" 494), (.str "Table.__init__" 495), (.str "/claim/cut.py" 496), (.int 123 0), (.int 4 0), (.int 0 0), (.int 0 0), (.int 3 0), (.ref 211), (.bool true), (.int 181 0), (.ref 212), .none, (.ref 213), (.ref 214), (.ref 215), (.int 501 0), (.int 123 0), (.str "/claim/cut.py" 502)]), #[]⟩),
  (nat_lit 217, f217.1),
  (nat_lit 223, ⟨(.type "code"), none, (.fields #[(.str "main_position" 504), (.str "Table.main_position" 505), (.str "/claim/cut.py" 506), (.int 135 0), (.int 2 0), (.int 0 0), (.int 0 0), (.int 3 0), (.ref 218), (.bool true), (.int 181 0), (.ref 219), .none, (.ref 220), (.ref 221), (.ref 222), (.int 510 0), (.int 135 0), (.str "/claim/cut.py" 511)]), #[]⟩),
  (nat_lit 224, f224.1),
  (nat_lit 230, ⟨(.type "code"), none, (.fields #[(.str "find_node" 513), (.str "Table.find_node" 514), (.str "/claim/cut.py" 515), (.int 145 0), (.int 2 0), (.int 0 0), (.int 0 0), (.int 3 0), (.ref 225), (.bool true), (.int 181 0), (.ref 226), .none, (.ref 227), (.ref 228), (.ref 229), (.int 519 0), (.int 145 0), (.str "/claim/cut.py" 520)]), #[]⟩),
  (nat_lit 231, f231.1),
  (nat_lit 237, ⟨(.type "code"), none, (.fields #[(.str "free_position" 522), (.str "Table.free_position" 523), (.str "/claim/cut.py" 524), (.int 155 0), (.int 1 0), (.int 0 0), (.int 0 0), (.int 3 0), (.ref 232), (.bool true), (.int 181 0), (.ref 233), .none, (.ref 234), (.ref 235), (.ref 236), (.int 526 0), (.int 155 0), (.str "/claim/cut.py" 527)]), #[]⟩),
  (nat_lit 238, f238.1),
  (nat_lit 244, ⟨(.type "code"), none, (.fields #[(.str "get_int" 529), (.str "Table.get_int" 530), (.str "/claim/cut.py" 531), (.int 162 0), (.int 2 0), (.int 0 0), (.int 0 0), (.int 3 0), (.ref 239), (.bool true), (.int 181 0), (.ref 240), .none, (.ref 241), (.ref 242), (.ref 243), (.int 535 0), (.int 162 0), (.str "/claim/cut.py" 536)]), #[]⟩),
  (nat_lit 245, f245.1),
  (nat_lit 251, ⟨(.type "code"), none, (.fields #[(.str "get_text" 538), (.str "Table.get_text" 539), (.str "/claim/cut.py" 540), (.int 168 0), (.int 2 0), (.int 0 0), (.int 0 0), (.int 3 0), (.ref 246), (.bool true), (.int 181 0), (.ref 247), .none, (.ref 248), (.ref 249), (.ref 250), (.int 543 0), (.int 168 0), (.str "/claim/cut.py" 544)]), #[]⟩),
  (nat_lit 252, f252.1),
  (nat_lit 258, ⟨(.type "code"), none, (.fields #[(.str "get" 546), (.str "Table.get" 547), (.str "/claim/cut.py" 548), (.int 171 0), (.int 2 0), (.int 0 0), (.int 0 0), (.int 3 0), (.ref 253), (.bool true), (.int 181 0), (.ref 254), .none, (.ref 255), (.ref 256), (.ref 257), (.int 552 0), (.int 171 0), (.str "/claim/cut.py" 553)]), #[]⟩),
  (nat_lit 259, f259.1),
  (nat_lit 265, ⟨(.type "code"), none, (.fields #[(.str "set" 555), (.str "Table.set" 556), (.str "/claim/cut.py" 557), (.int 179 0), (.int 4 0), (.int 0 0), (.int 0 0), (.int 3 0), (.ref 260), (.bool true), (.int 181 0), (.ref 261), .none, (.ref 262), (.ref 263), (.ref 264), (.int 562 0), (.int 179 0), (.str "/claim/cut.py" 563)]), #[]⟩),
  (nat_lit 266, f266.1),
  (nat_lit 272, ⟨(.type "code"), none, (.fields #[(.str "set_int" 565), (.str "Table.set_int" 566), (.str "/claim/cut.py" 567), (.int 185 0), (.int 4 0), (.int 0 0), (.int 0 0), (.int 3 0), (.ref 267), (.bool true), (.int 181 0), (.ref 268), .none, (.ref 269), (.ref 270), (.ref 271), (.int 572 0), (.int 185 0), (.str "/claim/cut.py" 573)]), #[]⟩),
  (nat_lit 273, f273.1),
  (nat_lit 279, ⟨(.type "code"), none, (.fields #[(.str "set_text" 575), (.str "Table.set_text" 576), (.str "/claim/cut.py" 577), (.int 188 0), (.int 4 0), (.int 0 0), (.int 0 0), (.int 3 0), (.ref 274), (.bool true), (.int 181 0), (.ref 275), .none, (.ref 276), (.ref 277), (.ref 278), (.int 582 0), (.int 188 0), (.str "/claim/cut.py" 583)]), #[]⟩),
  (nat_lit 280, f280.1),
  (nat_lit 286, ⟨(.type "code"), none, (.fields #[(.str "put" 585), (.str "Table.put" 586), (.str "/claim/cut.py" 587), (.int 191 0), (.int 4 0), (.int 0 0), (.int 0 0), (.int 3 0), (.ref 281), (.bool true), (.int 181 0), (.ref 282), .none, (.ref 283), (.ref 284), (.ref 285), (.int 594 0), (.int 191 0), (.str "/claim/cut.py" 595)]), #[]⟩),
  (nat_lit 287, f287.1),
  (nat_lit 293, ⟨(.type "code"), none, (.fields #[(.str "new_key" 597), (.str "Table.new_key" 598), (.str "/claim/cut.py" 599), (.int 204 0), (.int 4 0), (.int 0 0), (.int 0 0), (.int 3 0), (.ref 288), (.bool true), (.int 181 0), (.ref 289), .none, (.ref 290), (.ref 291), (.ref 292), (.int 608 0), (.int 204 0), (.str "/claim/cut.py" 609)]), #[]⟩),
  (nat_lit 294, f294.1),
  (nat_lit 300, ⟨(.type "code"), none, (.fields #[(.str "put_again" 611), (.str "Table.put_again" 612), (.str "/claim/cut.py" 613), (.int 234 0), (.int 4 0), (.int 0 0), (.int 0 0), (.int 3 0), (.ref 295), (.bool true), (.int 181 0), (.ref 296), .none, (.ref 297), (.ref 298), (.ref 299), (.int 619 0), (.int 234 0), (.str "/claim/cut.py" 620)]), #[]⟩),
  (nat_lit 301, f301.1),
  (nat_lit 307, ⟨(.type "code"), none, (.fields #[(.str "count_array" 622), (.str "Table.count_array" 623), (.str "/claim/cut.py" 624), (.int 241 0), (.int 2 0), (.int 0 0), (.int 0 0), (.int 3 0), (.ref 302), (.bool true), (.int 181 0), (.ref 303), .none, (.ref 304), (.ref 305), (.ref 306), (.int 633 0), (.int 241 0), (.str "/claim/cut.py" 634)]), #[]⟩),
  (nat_lit 308, f308.1),
  (nat_lit 314, ⟨(.type "code"), none, (.fields #[(.str "count_nodes" 636), (.str "Table.count_nodes" 637), (.str "/claim/cut.py" 638), (.int 259 0), (.int 2 0), (.int 0 0), (.int 0 0), (.int 3 0), (.ref 309), (.bool true), (.int 181 0), (.ref 310), .none, (.ref 311), (.ref 312), (.ref 313), (.int 644 0), (.int 259 0), (.str "/claim/cut.py" 645)]), #[]⟩),
  (nat_lit 315, f315.1),
  (nat_lit 321, ⟨(.type "code"), none, (.fields #[(.str "rehash" 647), (.str "Table.rehash" 648), (.str "/claim/cut.py" 649), (.int 268 0), (.int 3 0), (.int 0 0), (.int 0 0), (.int 3 0), (.ref 316), (.bool true), (.int 181 0), (.ref 317), .none, (.ref 318), (.ref 319), (.ref 320), (.int 660 0), (.int 268 0), (.str "/claim/cut.py" 661)]), #[]⟩),
  (nat_lit 322, f322.1),
  (nat_lit 323, ⟨(.type "tuple"), none, (.seq #[.none] 0), #[]⟩),
  (nat_lit 329, ⟨(.type "code"), none, (.fields #[(.str "resize" 663), (.str "Table.resize" 664), (.str "/claim/cut.py" 665), (.int 278 0), (.int 4 0), (.int 0 0), (.int 0 0), (.int 3 0), (.ref 324), (.bool true), (.int 181 0), (.ref 325), .none, (.ref 326), (.ref 327), (.ref 328), (.int 675 0), (.int 278 0), (.str "/claim/cut.py" 676)]), #[]⟩),
  (nat_lit 330, f330.1),
  (nat_lit 336, ⟨(.type "code"), none, (.fields #[(.str "put_back" 678), (.str "Table.put_back" 679), (.str "/claim/cut.py" 680), (.int 295 0), (.int 4 0), (.int 0 0), (.int 0 0), (.int 3 0), (.ref 331), (.bool true), (.int 181 0), (.ref 332), .none, (.ref 333), (.ref 334), (.ref 335), (.int 686 0), (.int 295 0), (.str "/claim/cut.py" 687)]), #[]⟩),
  (nat_lit 337, f337.1),
  (nat_lit 341, ⟨(.type "code"), none, (.fields #[(.str "make_nodes" 689), (.str "Table.make_nodes" 690), (.str "/claim/cut.py" 691), (.int 302 0), (.int 2 0), (.int 0 0), (.int 0 0), (.int 3 0), (.ref 338), (.bool true), (.int 181 0), (.ref 339), .none, .none, .none, (.ref 340), (.int 692 0), (.int 302 0), (.str "/claim/cut.py" 693)]), #[]⟩),
  (nat_lit 342, f342.1),
  (nat_lit 348, ⟨(.type "code"), none, (.fields #[(.str "resize_array" 695), (.str "Table.resize_array" 696), (.str "/claim/cut.py" 697), (.int 312 0), (.int 3 0), (.int 0 0), (.int 0 0), (.int 3 0), (.ref 343), (.bool true), (.int 181 0), (.ref 344), .none, (.ref 345), (.ref 346), (.ref 347), (.int 701 0), (.int 312 0), (.str "/claim/cut.py" 702)]), #[]⟩),
  (nat_lit 349, f349.1),
  (nat_lit 355, ⟨(.type "code"), none, (.fields #[(.str "weigh" 704), (.str "Table.weigh" 705), (.str "/claim/cut.py" 706), (.int 315 0), (.int 2 0), (.int 0 0), (.int 0 0), (.int 3 0), (.ref 350), (.bool true), (.int 181 0), (.ref 351), .none, (.ref 352), (.ref 353), (.ref 354), (.int 709 0), (.int 315 0), (.str "/claim/cut.py" 710)]), #[]⟩),
  (nat_lit 356, f356.1),
  (nat_lit 362, ⟨(.type "code"), none, (.fields #[(.str "find_index" 712), (.str "Table.find_index" 713), (.str "/claim/cut.py" 714), (.int 321 0), (.int 2 0), (.int 0 0), (.int 0 0), (.int 3 0), (.ref 357), (.bool true), (.int 181 0), (.ref 358), .none, (.ref 359), (.ref 360), (.ref 361), (.int 720 0), (.int 321 0), (.str "/claim/cut.py" 721)]), #[]⟩),
  (nat_lit 363, f363.1),
  (nat_lit 369, ⟨(.type "code"), none, (.fields #[(.str "next" 723), (.str "Table.next" 724), (.str "/claim/cut.py" 725), (.int 337 0), (.int 2 0), (.int 0 0), (.int 0 0), (.int 3 0), (.ref 364), (.bool true), (.int 181 0), (.ref 365), .none, (.ref 366), (.ref 367), (.ref 368), (.int 731 0), (.int 337 0), (.str "/claim/cut.py" 732)]), #[]⟩),
  (nat_lit 370, f370.1),
  (nat_lit 376, ⟨(.type "code"), none, (.fields #[(.str "length" 734), (.str "Table.length" 735), (.str "/claim/cut.py" 736), (.int 351 0), (.int 1 0), (.int 0 0), (.int 0 0), (.int 3 0), (.ref 371), (.bool true), (.int 181 0), (.ref 372), .none, (.ref 373), (.ref 374), (.ref 375), (.int 738 0), (.int 351 0), (.str "/claim/cut.py" 739)]), #[]⟩),
  (nat_lit 377, f377.1),
  (nat_lit 383, ⟨(.type "code"), none, (.fields #[(.str "unbound_search" 741), (.str "Table.unbound_search" 742), (.str "/claim/cut.py" 743), (.int 354 0), (.int 2 0), (.int 0 0), (.int 0 0), (.int 3 0), (.ref 378), (.bool true), (.int 181 0), (.ref 379), .none, (.ref 380), (.ref 381), (.ref 382), (.int 746 0), (.int 354 0), (.str "/claim/cut.py" 747)]), #[]⟩),
  (nat_lit 384, f384.1),
  (nat_lit 390, ⟨(.type "code"), none, (.fields #[(.str "bury" 749), (.str "Table.bury" 750), (.str "/claim/cut.py" 751), (.int 357 0), (.int 2 0), (.int 0 0), (.int 0 0), (.int 3 0), (.ref 385), (.bool true), (.int 181 0), (.ref 386), .none, (.ref 387), (.ref 388), (.ref 389), (.int 754 0), (.int 357 0), (.str "/claim/cut.py" 755)]), #[]⟩),
  (nat_lit 391, f391.1),
  (nat_lit 397, ⟨(.type "code"), none, (.fields #[(.str "bury_empty" 757), (.str "Table.bury_empty" 758), (.str "/claim/cut.py" 759), (.int 360 0), (.int 1 0), (.int 0 0), (.int 0 0), (.int 3 0), (.ref 392), (.bool true), (.int 181 0), (.ref 393), .none, (.ref 394), (.ref 395), (.ref 396), (.int 761 0), (.int 360 0), (.str "/claim/cut.py" 762)]), #[]⟩),
  (nat_lit 398, f398.1),
  (nat_lit 404, ⟨(.type "code"), none, (.fields #[(.str "entries" 764), (.str "Table.entries" 765), (.str "/claim/cut.py" 766), (.int 363 0), (.int 1 0), (.int 0 0), (.int 0 0), (.int 3 0), (.ref 399), (.bool true), (.int 181 0), (.ref 400), .none, (.ref 401), (.ref 402), (.ref 403), (.int 768 0), (.int 363 0), (.str "/claim/cut.py" 769)]), #[]⟩),
  (nat_lit 405, f405.1),
  (nat_lit 407, ⟨(.type "dict"), none, (.dict [de P "__module__" 485 (.str "lua.tables" 361), de P "__firstlineno__" 489 (.int 120 488), de P "kind" 490 (.int 5 209), de P "__init__" 503 (.ref 217), de P "main_position" 512 (.ref 224), de P "find_node" 521 (.ref 231), de P "free_position" 528 (.ref 238), de P "get_int" 537 (.ref 245), de P "get_text" 545 (.ref 252), de P "get" 554 (.ref 259), de P "set" 564 (.ref 266), de P "set_int" 574 (.ref 273), de P "set_text" 584 (.ref 280), de P "put" 596 (.ref 287), de P "new_key" 610 (.ref 294), de P "put_again" 621 (.ref 301), de P "count_array" 635 (.ref 308), de P "count_nodes" 646 (.ref 315), de P "rehash" 662 (.ref 322), de P "resize" 677 (.ref 330), de P "put_back" 688 (.ref 337), de P "make_nodes" 694 (.ref 342), de P "resize_array" 703 (.ref 349), de P "weigh" 711 (.ref 356), de P "find_index" 722 (.ref 363), de P "next" 733 (.ref 370), de P "length" 740 (.ref 377), de P "unbound_search" 748 (.ref 384), de P "bury" 756 (.ref 391), de P "bury_empty" 763 (.ref 398), de P "entries" 770 (.ref 405), de P "__static_attributes__" 779 (.ref 406), de P "__doc__" 780 .none].toArray 2), #[]⟩),
  (nat_lit 408, ⟨(.type "type"), none, (.cls ⟨"Table", [(.ref 58)], [(.ref 408), (.ref 58), (.type "object")], 407, "Table", true, [], [], false, none, false⟩), #[some (.ref 203), none, some (.str "Table" 478), some (.str "Table" 486), some (.builtin "object.__new__"), some (.bool true)]⟩),
  (nat_lit 416, ⟨(.type "code"), none, (.fields #[(.str "_law_dealt" 785), (.str "_law_dealt" 786), (.str "/claim/cut.py" 787), (.int 366 0), (.int 2 0), (.int 0 0), (.int 0 0), (.int 3 0), (.ref 411), (.bool true), (.int 181 0), (.ref 412), .none, (.ref 413), (.ref 414), (.ref 415), (.int 791 0), (.int 366 0), (.str "/claim/cut.py" 792)]), #[]⟩),
  (nat_lit 417, f417.1),
  (nat_lit 423, ⟨(.type "code"), none, (.fields #[(.str "_law_key" 794), (.str "_law_key" 795), (.str "/claim/cut.py" 796), (.int 372 0), (.int 1 0), (.int 0 0), (.int 0 0), (.int 3 0), (.ref 418), (.bool true), (.int 181 0), (.ref 419), .none, (.ref 420), (.ref 421), (.ref 422), (.int 800 0), (.int 372 0), (.str "/claim/cut.py" 801)]), #[]⟩),
  (nat_lit 424, f424.1),
  (nat_lit 430, ⟨(.type "code"), none, (.fields #[(.str "_law_tag" 803), (.str "_law_tag" 804), (.str "/claim/cut.py" 805), (.int 379 0), (.int 1 0), (.int 0 0), (.int 0 0), (.int 3 0), (.ref 425), (.bool true), (.int 181 0), (.ref 426), .none, (.ref 427), (.ref 428), (.ref 429), (.int 807 0), (.int 379 0), (.str "/claim/cut.py" 808)]), #[]⟩),
  (nat_lit 431, f431.1),
  (nat_lit 437, ⟨(.type "code"), none, (.fields #[(.str "_law_home" 810), (.str "_law_home" 811), (.str "/claim/cut.py" 812), (.int 385 0), (.int 2 0), (.int 0 0), (.int 0 0), (.int 3 0), (.ref 432), (.bool true), (.int 181 0), (.ref 433), .none, (.ref 434), (.ref 435), (.ref 436), (.int 815 0), (.int 385 0), (.str "/claim/cut.py" 816)]), #[]⟩),
  (nat_lit 438, f438.1),
  (nat_lit 442, ⟨(.type "code"), none, (.fields #[(.str "_law_placed" 818), (.str "_law_placed" 819), (.str "/claim/cut.py" 820), (.int 389 0), (.int 3 0), (.int 0 0), (.int 0 0), (.int 3 0), (.ref 439), (.bool true), (.int 181 0), (.ref 440), .none, .none, .none, (.ref 441), (.int 821 0), (.int 389 0), (.str "/claim/cut.py" 822)]), #[]⟩),
  (nat_lit 443, f443.1),
  (nat_lit 447, ⟨(.type "code"), none, (.fields #[(.str "_law_measured" 824), (.str "_law_measured" 825), (.str "/claim/cut.py" 826), (.int 405 0), (.int 2 0), (.int 0 0), (.int 0 0), (.int 3 0), (.ref 444), (.bool true), (.int 181 0), (.ref 445), .none, .none, .none, (.ref 446), (.int 827 0), (.int 405 0), (.str "/claim/cut.py" 828)]), #[]⟩),
  (nat_lit 448, f448.1),
  (nat_lit 454, ⟨(.type "code"), none, (.fields #[(.str "_law_written" 830), (.str "_law_written" 831), (.str "/claim/cut.py" 832), (.int 423 0), (.int 3 0), (.int 0 0), (.int 0 0), (.int 3 0), (.ref 449), (.bool true), (.int 181 0), (.ref 450), .none, (.ref 451), (.ref 452), (.ref 453), (.int 836 0), (.int 423 0), (.str "/claim/cut.py" 837)]), #[]⟩),
  (nat_lit 455, f455.1),
  (nat_lit 459, ⟨(.type "code"), none, (.fields #[(.str "_law_in_order" 839), (.str "_law_in_order" 840), (.str "/claim/cut.py" 841), (.int 431 0), (.int 1 0), (.int 0 0), (.int 0 0), (.int 3 0), (.ref 456), (.bool true), (.int 181 0), (.ref 457), .none, .none, .none, (.ref 458), (.int 842 0), (.int 431 0), (.str "/claim/cut.py" 843)]), #[]⟩),
  (nat_lit 460, f460.1),
  (nat_lit 464, ⟨(.type "code"), none, (.fields #[(.str "law" 845), (.str "law" 846), (.str "/claim/cut.py" 847), (.int 437 0), (.int 1 0), (.int 0 0), (.int 0 0), (.int 3 0), (.ref 461), (.bool true), (.int 181 0), (.ref 462), .none, .none, .none, (.ref 463), (.int 848 0), (.int 437 0), (.str "/claim/cut.py" 849)]), #[]⟩),
  (nat_lit 465, f465.1)]
noncomputable def frags : List Addr := [nat_lit 2, nat_lit 3, nat_lit 20, nat_lit 21, nat_lit 34, nat_lit 35, nat_lit 37, nat_lit 38, nat_lit 54, nat_lit 55, nat_lit 57, nat_lit 58, nat_lit 75, nat_lit 76, nat_lit 78, nat_lit 79, nat_lit 89, nat_lit 90, nat_lit 96, nat_lit 97, nat_lit 103, nat_lit 104, nat_lit 110, nat_lit 111, nat_lit 117, nat_lit 118, nat_lit 124, nat_lit 125, nat_lit 131, nat_lit 132, nat_lit 145, nat_lit 146, nat_lit 148, nat_lit 149, nat_lit 166, nat_lit 167, nat_lit 173, nat_lit 174, nat_lit 176, nat_lit 177, nat_lit 187, nat_lit 188, nat_lit 194, nat_lit 195, nat_lit 201, nat_lit 202, nat_lit 210, nat_lit 216, nat_lit 217, nat_lit 223, nat_lit 224, nat_lit 230, nat_lit 231, nat_lit 237, nat_lit 238, nat_lit 244, nat_lit 245, nat_lit 251, nat_lit 252, nat_lit 258, nat_lit 259, nat_lit 265, nat_lit 266, nat_lit 272, nat_lit 273, nat_lit 279, nat_lit 280, nat_lit 286, nat_lit 287, nat_lit 293, nat_lit 294, nat_lit 300, nat_lit 301, nat_lit 307, nat_lit 308, nat_lit 314, nat_lit 315, nat_lit 321, nat_lit 322, nat_lit 323, nat_lit 329, nat_lit 330, nat_lit 336, nat_lit 337, nat_lit 341, nat_lit 342, nat_lit 348, nat_lit 349, nat_lit 355, nat_lit 356, nat_lit 362, nat_lit 363, nat_lit 369, nat_lit 370, nat_lit 376, nat_lit 377, nat_lit 383, nat_lit 384, nat_lit 390, nat_lit 391, nat_lit 397, nat_lit 398, nat_lit 404, nat_lit 405, nat_lit 407, nat_lit 408, nat_lit 416, nat_lit 417, nat_lit 423, nat_lit 424, nat_lit 430, nat_lit 431, nat_lit 437, nat_lit 438, nat_lit 442, nat_lit 443, nat_lit 447, nat_lit 448, nat_lit 454, nat_lit 455, nat_lit 459, nat_lit 460, nat_lit 464, nat_lit 465]
theorem frags_ok (P : Params) : frags = (frag P).map (·.1) := by kernel_rfl
theorem nos {α : Type} {x : α} {G : Prop} (h : (none : Option α) = some x) : G := nomatch h
theorem noB {G : Prop} (h : false = true) : G := nomatch h
/-- the goal under a short name -/
theorem hide {G : Prop} (h : ∀ S : Prop, (G → S) → S) : G := h G id
/-! ## n things with m facts about them: one case distinction in place of n + m -/
inductive Xe2 {α β : Type} (P : α → β → Prop) : Prop
  | mk (a : α) (b : β) (h : P a b) : Xe2 P
inductive Xe3 {α β γ : Type} (P : α → β → γ → Prop) : Prop
  | mk (a : α) (b : β) (c : γ) (h : P a b c) : Xe3 P
inductive Xe4 {α β γ δ : Type} (P : α → β → γ → δ → Prop) : Prop
  | mk (a : α) (b : β) (c : γ) (d : δ) (h : P a b c d) : Xe4 P
inductive Xa4 (a0 a1 a2 a3 : Prop) : Prop
  | mk (h0 : a0) (h1 : a1) (h2 : a2) (h3 : a3) : Xa4 a0 a1 a2 a3
inductive Xa5 (a0 a1 a2 a3 a4 : Prop) : Prop
  | mk (h0 : a0) (h1 : a1) (h2 : a2) (h3 : a3) (h4 : a4) : Xa5 a0 a1 a2 a3 a4
inductive Xa6 (a0 a1 a2 a3 a4 a5 : Prop) : Prop
  | mk (h0 : a0) (h1 : a1) (h2 : a2) (h3 : a3) (h4 : a4) (h5 : a5) : Xa6 a0 a1 a2 a3 a4 a5
inductive Xa8 (a0 a1 a2 a3 a4 a5 a6 a7 : Prop) : Prop
  | mk (h0 : a0) (h1 : a1) (h2 : a2) (h3 : a3) (h4 : a4) (h5 : a5) (h6 : a6) (h7 : a7) : Xa8 a0 a1 a2 a3 a4 a5 a6 a7
/-! ## values with their tokens erased, the abstract heap -/
noncomputable def er : Value → Value
  | .int i _ => .int i 0
  | .float b _ => .float b 0
  | .str s _ => .str s 0
  | .bytes b _ => .bytes b 0
  | v => v
noncomputable abbrev vi (i : Int) : Value := .int i 0
noncomputable def erF : Flow → Flow
  | .ret v => .ret (er v)
  | f => f

theorem er_int {v : Value} {i : Int} (h : er v = vi i) : ∃ t, v = .int i t := by
  cases v <;> first | (cases h; first | exact ⟨_, rfl⟩ | rfl) | cases h
theorem er_bool {v : Value} {b : Bool} (h : er v = .bool b) : v = .bool b := by
  cases v <;> first | (cases h; first | exact ⟨_, rfl⟩ | rfl) | cases h
theorem er_none {v : Value} (h : er v = .none) : v = .none := by
  cases v <;> first | (cases h; first | exact ⟨_, rfl⟩ | rfl) | cases h
theorem er_ref {v : Value} {a : Addr} (h : er v = .ref a) : v = .ref a := by
  cases v <;> first | (cases h; first | exact ⟨_, rfl⟩ | rfl) | cases h
theorem er_type {v : Value} {a : String} (h : er v = .type a) : v = .type a := by
  cases v <;> first | (cases h; first | exact ⟨_, rfl⟩ | rfl) | cases h
theorem er_builtin {v : Value} {a : String} (h : er v = .builtin a) : v = .builtin a := by
  cases v <;> first | (cases h; first | exact ⟨_, rfl⟩ | rfl) | cases h
theorem er_bytes {v : Value} {b : Array UInt8} (h : er v = .bytes b 0) : ∃ t, v = .bytes b t := by
  cases v <;> first | (cases h; first | exact ⟨_, rfl⟩ | rfl) | cases h
theorem er_str {v : Value} {x : Str} (h : er v = .str x 0) : ∃ t, v = .str x t := by
  cases v <;> first | (cases h; first | exact ⟨_, rfl⟩ | rfl) | cases h
theorem handedIn_er (v : Value) : handedIn (er v) = handedIn v := by cases v <;> rfl

inductive AO where
  | list (vs : List Value)
  | tup (vs : List Value)
  | dict (fs : List (Str × Value))
  | inst (C : Addr) (fs : List (Str × Value))

noncomputable abbrev AH := Addr → Option AO
noncomputable def AH.set (σ : AH) (a : Addr) (o : AO) : AH := fun b => if b = a then some o else σ b
theorem AH.set_self (σ : AH) (a : Addr) (o : AO) : σ.set a o a = some o := if_pos rfl
theorem AH.set_ne {σ : AH} {a b : Addr} {o : AO} (h : b ≠ a) : σ.set a o b = σ b := if_neg h

noncomputable abbrev AM := List (Str × Option Value)

noncomputable def ERep (P : Params) (e : DictEntry) (f : Str × Value) : Prop := (∃ t, e.key = .str f.1 t) ∧ e.hash = PyData.keyHash P f.1 ∧ er e.val = f.2
noncomputable def FRep (P : Params) : List DictEntry → List (Str × Value) → Prop
  | [], [] => True
  | e :: es, f :: fs => ERep P e f ∧ FRep P es fs
  | _, _ => False

/-- what the ledger must hold for an abstract object -/
noncomputable def Bears (prog : Program) (w : World) (news : List (Addr × Obj)) (d : Addr) (a : Addr) : AO → Prop
  | .list Vs => ∃ (vs : Array Value) (n : Nat), (a, ({ cls := .type "list", data := .seq vs n } : Obj)) ∈ news ∧ vs.toList.map er = Vs
  | .tup Vs => ∃ o, (a, o) ∈ news ∧ o.cls = .type "tuple" ∧ ∃ vs n, o.data = .seq vs n ∧ vs.toList.map er = Vs
  | .dict fs => ∃ o kvs, (a, o) ∈ news ∧ o.IsDictOf (PySem.strKind prog w) kvs ∧ kvs.map (fun kv => (kv.1, er kv.2)) = fs ∧ fs.length ≤ 200
  | .inst C fs => (fs.map (·.1)).Nodup ∧ fs.length ≤ 200 ∧ (a, instObj C d) ∈ news ∧ ∃ es n, (d, dictOf es n) ∈ news ∧ FRep w.params es fs

structure HB (prog : Program) (w : World) (news : List (Addr × Obj)) (δ : Addr → Addr) (σ : AH) : Prop where
  bears : ∀ a o, σ a = some o → Bears prog w news (δ a) a o
  sep : ∀ a C fs, σ a = some (.inst C fs) → σ (δ a) = none
  inj : ∀ a C fs a' C' fs', σ a = some (.inst C fs) → σ a' = some (.inst C' fs') → δ a = δ a' → a = a'

noncomputable def Off (σ : AH) (δ : Addr → Addr) (b : Addr) : Prop := σ b = none ∧ ∀ a C fs, σ a = some (.inst C fs) → δ a ≠ b

set_option genInjectivity false in
set_option genSizeOfSpec false in
/-- where the run stands: fixed things, the frame, the names' environment -/
structure Cx where
  prog : Program
  w : World
  K : Frag
  p : Program
  loose : List Str
  mean : ExcName → Option Value
  mg : Str → Option Value
  mb : Str → Option Value
  A : Around
  env : Env
  fn : Env
  L : Addr
  h₀ : Heap
  base : Heap
  A₀ : Around
  outer : List Env
  room : Nat
  gens : Array GenState
  drawn : Drawn
  os : OsState
  fz : List (Addr × Obj)
  fm : Option (Str → Option Value)

/-- a def's own context (not a comprehension's within it) -/
structure Cx.Fn (c : Cx) : Prop where
  l : c.env.locals = c.L
  z : c.fz = []
  m : c.fm = none

structure Cx.OK (c : Cx) : Prop where
  X : c.K.In c.h₀
  T : Top c.p c.loose c.mean c.mg c.mb c.h₀
  B : Below c.A₀ c.base c.outer c.h₀
  hA : c.A.frames = some (c.fn :: c.outer)
  hf : c.fn.frame = some c.L
  hk : c.fn.scope.kind = .function
  ek : c.env.scope.kind = .function
  eg : c.env.globals = mainGlobals
  eb : c.env.builtins = builtinsNs
  ec : c.env.cells.Pairwise fun x y => x.2 ≠ y.2
  hh : c.A.handled = none
  hd : c.A.depth + c.room < recursionLimit
  hu : c.A.units + 8 * c.room < cLine

noncomputable abbrev Cx.M (c : Cx) : Model := model c.prog c.w

noncomputable def NsO (o : Obj) (ml : Str → Option Value) : Prop := ∃ es ep, o.data = .dict es ep ∧ StrKeys es ∧ ∀ name, nsFind es name = ml name

/-- the names' own dict: the frame's, or one of the protected objects (a comprehension's) -/
noncomputable def LocAt (c : Cx) (m ml : Str → Option Value) (prot : List (Addr × Obj)) : Prop :=
  (c.env.locals = c.L ∧ ml = m) ∨ (c.env.locals ≠ c.L ∧ ∃ o, (c.env.locals, o) ∈ prot ∧ NsO o ml)

noncomputable def VarAt (c : Cx) (ml : Str → Option Value) (prot : List (Addr × Obj)) (x : Str) (oV : Option Value) : Prop :=
  (c.env.kindOf x = some .local ∧ ∀ V, oV = some V → ∃ v, ml x = some v ∧ er v = V) ∨
  (c.env.kindOf x = some .cell ∧ ∃ cc o ov, c.env.cells.lookup x = some cc ∧ ((cc, o) ∈ prot ∨ (cc, o) ∈ c.fz) ∧ cc ≠ c.env.locals ∧ o.data = .cell ov ∧ ∀ V, oV = some V → ∃ v, ov = some v ∧ er v = V)

structure MR (c : Cx) (ml : Str → Option Value) (prot : List (Addr × Obj)) (μ : AM) : Prop where
  nd : (μ.map (·.1)).Nodup
  var : ∀ x oV, (x, oV) ∈ μ → VarAt c ml prot x oV

structure StaW (c : Cx) (Φ : List (Addr × Obj)) (μ : AM) (σ : AH) (s : Shared) (m ml : Str → Option Value) (news : List (Addr × Obj)) (δ : Addr → Addr) (prot : List (Addr × Obj)) : Prop where
  F : Fr c.h₀ c.L s.heap m
  N : News c.h₀ c.L s.heap news
  H : HB c.prog c.w news δ σ
  P : ∀ p ∈ Φ, p ∈ news ∧ Off σ δ p.1
  P' : ∀ p ∈ prot, p ∈ news ∧ Off σ δ p.1
  loc : LocAt c m ml prot
  R : MR c ml prot μ
  g : s.gens = c.gens
  d : s.drawn = c.drawn
  o : s.os = c.os
  own : ∀ p ∈ Φ, ∀ q ∈ prot, p.1 ≠ q.1
  fzP : ∀ p ∈ c.fz, p ∈ Φ
  fmP : ∀ f, c.fm = some f → m = f

noncomputable def Sta (c : Cx) (Φ : List (Addr × Obj)) (μ : AM) (σ : AH) (s : Shared) : Prop := ∃ m ml news δ prot, StaW c Φ μ σ s m ml news δ prot

theorem Sta.el {c : Cx} {Φ : List (Addr × Obj)} {μ : AM} {σ : AH} {s : Shared} {G : Prop} (S : Sta c Φ μ σ s) (h : ∀ m ml news δ prot, StaW c Φ μ σ s m ml news δ prot → G) : G := by
  obtain ⟨m, ml, news, δ, prot, W⟩ := S
  exact h m ml news δ prot W
noncomputable def EV (c : Cx) (e : Expr) (μ : AM) (σ : AH) (Q : Value → AH → Prop) : Prop :=
  ∀ Φ s E Q', Sta c Φ μ σ s → (∀ v σ' s', Q (er v) σ' → Sta c Φ μ σ' s' → Q' v s') → wpAny c.M c.A (eval e c.env) Q' E s
noncomputable def EVs (c : Cx) (es : List Expr) (μ : AM) (σ : AH) (Q : List Value → AH → Prop) : Prop :=
  ∀ Φ s E Q' pos, Sta c Φ μ σ s → (∀ vs σ' s', Q (vs.map er) σ' → Sta c Φ μ σ' s' → Q' vs s') → wpAny c.M c.A (spliced (backTo pos (starEach es c.env))) Q' E s
noncomputable def TR (c : Cx) (e : Expr) (μ : AM) (σ : AH) (Q : Bool → AH → Prop) : Prop :=
  ∀ Φ s E Q', Sta c Φ μ σ s → (∀ b σ' s', Q b σ' → Sta c Φ μ σ' s' → Q' b s') → wpAny c.M c.A (PySem.isTrue e c.env (eval e c.env)) Q' E s
noncomputable def EX (c : Cx) (st : Stmt) (μ : AM) (σ : AH) (Q : Flow → AM → AH → Prop) : Prop :=
  ∀ Φ s E Q', Sta c Φ μ σ s → (∀ f μ' σ' s', Q (erF f) μ' σ' → Sta c Φ μ' σ' s' → Q' f s') → wpAny c.M c.A (exec st c.env) Q' E s
noncomputable def EXs (c : Cx) (st : List Stmt) (μ : AM) (σ : AH) (Q : Flow → AM → AH → Prop) : Prop :=
  ∀ Φ s E Q', Sta c Φ μ σ s → (∀ f μ' σ' s', Q (erF f) μ' σ' → Sta c Φ μ' σ' s' → Q' f s') → wpAny c.M c.A (execs st c.env) Q' E s
/-- an operation of the machine upon values at hand -/
noncomputable def OP (c : Cx) (t : Sem Value) (σ : AH) (Q : Value → AH → Prop) : Prop :=
  ∀ Φ μ s E Q', Sta c Φ μ σ s → (∀ v σ' s', Q (er v) σ' → Sta c Φ μ σ' s' → Q' v s') → wpAny c.M c.A t Q' E s
/-- the same, of a code -/
noncomputable def CD (c : Cx) (k : Code) (σ : AH) (Q : Value → AH → Prop) : Prop :=
  ∀ Φ μ s R, Sta c Φ μ σ s → (∀ v σ' s', Q (er v) σ' → Sta c Φ μ σ' s' → R (.ok (.ret v)) s') → codeAny c.M c.A k R s

set_option genInjectivity false in
set_option genSizeOfSpec false in
/-- the fixed things alone -/
structure Gl where
  prog : Program
  w : World
  K : Frag
  p : Program
  loose : List Str
  mean : ExcName → Option Value
  mg : Str → Option Value
  mb : Str → Option Value
noncomputable def Cx.gl (c : Cx) : Gl := ⟨c.prog, c.w, c.K, c.p, c.loose, c.mean, c.mg, c.mb⟩

/-- a call of f at these arguments, wherever there is room for n more frames -/
noncomputable def FC (g : Gl) (n : Nat) (f : Value) (args : List Value) (σ : AH) (Q : Value → AH → Prop) : Prop :=
  ∀ (c : Cx) vals, c.OK → c.gl = g → n ≤ c.room → vals.map er = args → CD c (.call f ⟨vals, []⟩) σ Q

/-! ## states: what may happen to them -/
theorem Sta.keep {c : Cx} {Φ : List (Addr × Obj)} {μ : AM} {σ : AH} {s : Shared} (S : Sta c Φ μ σ s) {h' : Heap} {tk : Nat}
    (hk : ∀ b o, s.heap.get? b = some o → h'.get? b = some o) : Sta c Φ μ σ { s with heap := h', toks := tk } := by
  refine Sta.el S fun m ml news δ prot S => ?_
  exact ⟨m, ml, news, δ, prot, ⟨S.F.keeps hk, S.N.grown hk, S.H, S.P, S.P', S.loc, S.R, S.g, S.d, S.o, S.own, S.fzP, S.fmP⟩⟩
theorem Sta.toks {c : Cx} {Φ : List (Addr × Obj)} {μ : AM} {σ : AH} {s : Shared} (S : Sta c Φ μ σ s) {tk : Nat} :
    Sta c Φ μ σ { s with toks := tk } := S.keep (h' := s.heap) fun _ _ e => e
theorem Sta.fewer {c : Cx} {Φ Φ' : List (Addr × Obj)} {μ : AM} {σ : AH} {s : Shared} (S : Sta c Φ μ σ s) (h : ∀ p ∈ Φ', p ∈ Φ) (hz : ∀ p ∈ c.fz, p ∈ Φ') : Sta c Φ' μ σ s := by
  refine Sta.el S fun m ml news δ prot S => ?_
  exact ⟨m, ml, news, δ, prot, ⟨S.F, S.N, S.H, fun p hp => S.P p (h p hp), S.P', S.loc, S.R, S.g, S.d, S.o, fun p hp => S.own p (h p hp), hz, S.fmP⟩⟩
theorem Off.sub {σ σ' : AH} {δ : Addr → Addr} {b : Addr} (h : Off σ δ b) (hs : ∀ a o, σ' a = some o → σ a = some o) : Off σ' δ b := by
  refine ⟨?_, fun a C fs e => h.2 a C fs (hs a _ e)⟩
  cases e : σ' b with
  | none => rfl
  | some o => have := hs _ _ e; rw [h.1] at this; cases this
theorem Sta.forget {c : Cx} {Φ : List (Addr × Obj)} {μ : AM} {σ σ' : AH} {s : Shared} (S : Sta c Φ μ σ s) (hs : ∀ a o, σ' a = some o → σ a = some o) : Sta c Φ μ σ' s := by
  refine Sta.el S fun m ml news δ prot S => ?_
  refine ⟨m, ml, news, δ, prot, ⟨S.F, S.N, ⟨fun a o e => S.H.bears a o (hs a o e), fun a C fs e => ?_, fun a C fs a' C' fs' e e' => S.H.inj a C fs a' C' fs' (hs _ _ e) (hs _ _ e')⟩,
    fun p hp => ⟨(S.P p hp).1, (S.P p hp).2.sub hs⟩, fun p hp => ⟨(S.P' p hp).1, (S.P' p hp).2.sub hs⟩, S.loc, S.R, S.g, S.d, S.o, S.own, S.fzP, S.fmP⟩⟩
  have h1 := S.H.sep a C fs (hs _ _ e)
  cases e2 : σ' (δ a) with
  | none => rfl
  | some o => have := hs _ _ e2; rw [h1] at this; cases this

/-- the ledger with the object at d another one -/
noncomputable def updL (news : List (Addr × Obj)) (d : Addr) (o' : Obj) : List (Addr × Obj) := news.map fun p => if p.1 = d then (d, o') else p
theorem mem_updL_ne {news : List (Addr × Obj)} {d : Addr} {o' : Obj} {p : Addr × Obj} (h : p ∈ news) (hn : p.1 ≠ d) : p ∈ updL news d o' :=
  List.mem_map.mpr ⟨p, h, if_neg hn⟩
theorem mem_updL_self {news : List (Addr × Obj)} {d : Addr} {o o' : Obj} (h : (d, o) ∈ news) : (d, o') ∈ updL news d o' :=
  List.mem_map.mpr ⟨(d, o), h, if_pos rfl⟩
theorem news_updL {h₀ h h' : Heap} {L d : Addr} {news : List (Addr × Obj)} {o o' : Obj} (N : News h₀ L h news) (hm : (d, o) ∈ news)
    (hs : Heap.SameBut d h h') (ho : h'.get? d = some o') : News h₀ L h' (Mine.updL news d o') := by
  intro q hq
  obtain ⟨p, hp, e⟩ := List.mem_map.mp hq
  have D := N _ hm
  by_cases hd : p.1 = d
  · rw [if_pos hd] at e; subst e; exact ⟨ho, D.2⟩
  · rw [if_neg hd] at e; subst e
    exact ⟨(hs.2 _ hd).trans (N p hp).1, (N p hp).2⟩
theorem fr_upd {h₀ h h' : Heap} {L d : Addr} {m : Str → Option Value} {news : List (Addr × Obj)} {o : Obj} (F : Fr h₀ L h m) (N : News h₀ L h news) (hm : (d, o) ∈ news)
    (hs : Heap.SameBut d h h') : Fr h₀ L h' m := by
  have D := N _ hm
  refine ⟨F.ns.sameBut hs (Ne.symm D.2.1), fun b ob e => (hs.2 b (fun q => ?_)).trans (F.keep b ob e), F.above⟩
  have := D.2.2
  rw [← show b = d from q, e] at this; cases this


theorem Bears.upd {prog : Program} {w : World} {news : List (Addr × Obj)} {db b d : Addr} {oc' : Obj} {o : AO} (h : Bears prog w news db b o) (hb : b ≠ d) (hi : ∀ C fs, o = .inst C fs → db ≠ d) :
    Bears prog w (updL news d oc') db b o := by
  cases o with
  | list Vs => obtain ⟨vs, n, hm, r⟩ := h; exact ⟨vs, n, mem_updL_ne hm hb, r⟩
  | tup Vs => obtain ⟨x, hm, r⟩ := h; exact ⟨x, mem_updL_ne hm hb, r⟩
  | dict fs => obtain ⟨x, kvs, hm, r⟩ := h; exact ⟨x, kvs, mem_updL_ne hm hb, r⟩
  | inst C fs => obtain ⟨hn, hlen, h1, es, n, hm, r⟩ := h; exact ⟨hn, hlen, mem_updL_ne h1 hb, es, n, mem_updL_ne hm (hi C fs rfl), r⟩
theorem Bears.more {prog : Program} {w : World} {news news' : List (Addr × Obj)} {db b : Addr} {o : AO} (h : Bears prog w news db b o) (hs : ∀ p ∈ news, p ∈ news') : Bears prog w news' db b o := by
  cases o with
  | list Vs => obtain ⟨vs, n, hm, r⟩ := h; exact ⟨vs, n, hs _ hm, r⟩
  | tup Vs => obtain ⟨x, hm, r⟩ := h; exact ⟨x, hs _ hm, r⟩
  | dict fs => obtain ⟨x, kvs, hm, r⟩ := h; exact ⟨x, kvs, hs _ hm, r⟩
  | inst C fs => obtain ⟨hn, hlen, h1, es, n, hm, r⟩ := h; exact ⟨hn, hlen, hs _ h1, es, n, hs _ hm, r⟩

noncomputable def sameKind : AO → AO → Prop
  | .list _, .list _ => True
  | .tup _, .tup _ => True
  | .dict _, .dict _ => True
  | .inst C _, .inst C' _ => C = C'
  | _, _ => False
noncomputable def heldAt (δ : Addr → Addr) (a : Addr) : AO → Addr
  | .inst _ _ => δ a
  | _ => a

/-- the object of a written anew: its concrete place d gets oc' -/
theorem StaW.updN {c : Cx} {Φ : List (Addr × Obj)} {μ : AM} {σ : AH} {s : Shared} {m ml : Str → Option Value} {news : List (Addr × Obj)} {δ : Addr → Addr} {prot : List (Addr × Obj)} {a : Addr} {o o' : AO} {oc' : Obj} {h' : Heap} {tk : Nat}
    (S : StaW c Φ μ σ s m ml news δ prot) (ha : σ a = some o) (hk : sameKind o o') (F' : Fr c.h₀ c.L h' m) (N' : News c.h₀ c.L h' (updL news (heldAt δ a o) oc'))
    (hb : Bears c.prog c.w (updL news (heldAt δ a o) oc') (δ a) a o') : StaW c Φ μ (σ.set a o') { s with heap := h', toks := tk } m ml (updL news (heldAt δ a o) oc') δ prot := by
  have dom : ∀ b, σ b = none → (σ.set a o') b = none := fun b e => by
    have : b ≠ a := fun q => by rw [q, ha] at e; cases e
    rw [AH.set_ne this]; exact e
  have was : ∀ b C fs, (σ.set a o') b = some (.inst C fs) → ∃ fs', σ b = some (.inst C fs') := fun b C fs e => by
    by_cases q : b = a
    · subst q; rw [AH.set_self] at e; cases e
      cases o <;> first | (exact absurd hk id) | (have hk : _ = _ := hk; subst hk; exact ⟨_, ha⟩)
    · rw [AH.set_ne q] at e; exact ⟨_, e⟩
  have off : ∀ b, Off σ δ b → Off (σ.set a o') δ b := fun b h => ⟨dom b h.1, fun x C fs e => let ⟨fs', e'⟩ := was x C fs e; h.2 x C fs' e'⟩
  have hne : ∀ b, Off σ δ b → b ≠ heldAt δ a o := fun b h q => by
    cases o with
    | inst C fs => exact h.2 a C fs ha q.symm
    | _ => have := h.1; rw [q] at this; cases ha.symm.trans this
  refine ⟨F', N', ⟨fun b ob e => ?_, fun b C fs e => let ⟨fs', e'⟩ := was b C fs e; dom _ (S.H.sep b C fs' e'), fun b C fs b' C' fs' e e' => let ⟨_, x⟩ := was b C fs e; let ⟨_, x'⟩ := was b' C' fs' e'; S.H.inj _ _ _ _ _ _ x x'⟩,
    fun p hp => ⟨mem_updL_ne (S.P p hp).1 (hne _ (S.P p hp).2), off _ (S.P p hp).2⟩, fun p hp => ⟨mem_updL_ne (S.P' p hp).1 (hne _ (S.P' p hp).2), off _ (S.P' p hp).2⟩, S.loc, S.R, S.g, S.d, S.o, S.own, S.fzP, S.fmP⟩
  by_cases q : b = a
  · subst q; rw [AH.set_self] at e; cases e; exact hb
  · rw [AH.set_ne q] at e
    refine (S.H.bears b ob e).upd (fun z => ?_) fun C fs hi z => ?_
    · cases o with
      | inst C fs => have := S.H.sep a C fs ha; rw [show b = δ a from z] at e; cases e.symm.trans this
      | _ => exact q z
    · subst hi
      cases o with
      | inst C' fs' => exact q (S.H.inj _ _ _ _ _ _ e ha z)
      | _ => have := S.H.sep b C fs e; rw [z] at this; cases ha.symm.trans this
theorem StaW.upd {c : Cx} {Φ : List (Addr × Obj)} {μ : AM} {σ : AH} {s : Shared} {m ml : Str → Option Value} {news : List (Addr × Obj)} {δ : Addr → Addr} {prot : List (Addr × Obj)} {a : Addr} {o o' : AO} {oc oc' : Obj} {h' : Heap} {tk : Nat}
    (S : StaW c Φ μ σ s m ml news δ prot) (ha : σ a = some o) (hk : sameKind o o') (hm : (heldAt δ a o, oc) ∈ news) (hs : Heap.SameBut (heldAt δ a o) s.heap h') (ho : h'.get? (heldAt δ a o) = some oc')
    (hb : Bears c.prog c.w (updL news (heldAt δ a o) oc') (δ a) a o') : Sta c Φ μ (σ.set a o') { s with heap := h', toks := tk } :=
  ⟨_, _, _, _, _, S.updN ha hk (fr_upd S.F S.N hm hs) (news_updL S.N hm hs ho) hb⟩

theorem Sta.fresh {c : Cx} {Φ : List (Addr × Obj)} {μ : AM} {σ : AH} {s : Shared} (S : Sta c Φ μ σ s) {a : Addr} (h : s.heap.get? a = none) : σ a = none := by
  refine Sta.el S fun m ml news δ prot S => ?_
  cases e : σ a with
  | none => rfl
  | some o =>
    have B := S.H.bears a o e
    exfalso
    cases o with
    | list Vs => obtain ⟨vs, n, hm, r⟩ := B; have := (S.N _ hm).1; rw [h] at this; cases this
    | tup Vs => obtain ⟨x, hm, r⟩ := B; have := (S.N _ hm).1; rw [h] at this; cases this
    | dict fs => obtain ⟨x, kvs, hm, r⟩ := B; have := (S.N _ hm).1; rw [h] at this; cases this
    | inst C fs => obtain ⟨hn, _, hm, r⟩ := B; have := (S.N _ hm).1; rw [h] at this; cases this
theorem StaW.held {c : Cx} {Φ : List (Addr × Obj)} {μ : AM} {σ : AH} {s : Shared} {m ml : Str → Option Value} {news : List (Addr × Obj)} {δ : Addr → Addr} {prot : List (Addr × Obj)} {a C : Addr} {fs : List (Str × Value)}
    (S : StaW c Φ μ σ s m ml news δ prot) (ha : σ a = some (.inst C fs)) : ∃ o, s.heap.get? (δ a) = some o := by
  obtain ⟨_, _, _, es, n, hm, _⟩ := S.H.bears _ _ ha
  exact ⟨_, (S.N _ hm).1⟩

/-- a new object -/
theorem Sta.alloc {c : Cx} {Φ : List (Addr × Obj)} {μ : AM} {σ : AH} {s : Shared} (S : Sta c Φ μ σ s) {a : Addr} {oc : Obj} {o : AO} {h' : Heap} {tk : Nat}
    (hk : ∀ b o, s.heap.get? b = some o → h'.get? b = some o) (hn : s.heap.get? a = none) (ho : h'.get? a = some oc) (hb : Bears c.prog c.w [(a, oc)] a a o) (hi : ∀ C fs, o ≠ .inst C fs) :
    Sta c Φ μ (σ.set a o) { s with heap := h', toks := tk } := by
  have hf := S.fresh hn
  refine Sta.el S fun m ml news δ prot S => ?_
  have hL : a ≠ c.L := fun q => by
    obtain ⟨oL, _, _, hL, _⟩ := S.F.ns
    rw [q, hL] at hn; cases hn
  have h0 : c.h₀.get? a = none := by
    cases e : c.h₀.get? a with
    | none => rfl
    | some x => have := S.F.keep _ _ e; rw [hn] at this; cases this
  have hδ : ∀ b C fs, σ b = some (.inst C fs) → δ b ≠ a := fun b C fs e q => by
    obtain ⟨x, hx⟩ := S.held e
    rw [q, hn] at hx; cases hx
  have was : ∀ b C fs, (σ.set a o) b = some (.inst C fs) → σ b = some (.inst C fs) := fun b C fs e => by
    by_cases q : b = a
    · subst q; rw [AH.set_self] at e; cases e; exact absurd rfl (hi C fs)
    · rw [AH.set_ne q] at e; exact e
  have off : ∀ p : Addr × Obj, p ∈ news → Off σ δ p.1 → Off (σ.set a o) δ p.1 := fun p hp h => by
    have : p.1 ≠ a := fun q => by have := (S.N p hp).1; rw [q, hn] at this; cases this
    exact ⟨by rw [AH.set_ne this]; exact h.1, fun x C fs e => h.2 x C fs (was _ _ _ e)⟩
  refine ⟨m, ml, (a, oc) :: news, δ, prot, ⟨S.F.keeps hk, fun p hp => ?_, ⟨fun b ob e => ?_, fun b C fs e => ?_, fun b C fs b' C' fs' e e' => S.H.inj _ _ _ _ _ _ (was _ _ _ e) (was _ _ _ e')⟩,
    fun p hp => ⟨.tail _ (S.P p hp).1, off p (S.P p hp).1 (S.P p hp).2⟩, fun p hp => ⟨.tail _ (S.P' p hp).1, off p (S.P' p hp).1 (S.P' p hp).2⟩, S.loc, S.R, S.g, S.d, S.o, S.own, S.fzP, S.fmP⟩⟩
  · rcases List.mem_cons.mp hp with rfl | hp
    · exact ⟨ho, hL, h0⟩
    · exact ⟨hk _ _ (S.N p hp).1, (S.N p hp).2⟩
  · by_cases q : b = a
    · subst q; rw [AH.set_self] at e; cases e
      have hb' : Bears c.prog c.w [(b, oc)] (δ b) b o := by
        cases o with
        | inst C fs => exact absurd rfl (hi C fs)
        | _ => exact hb
      exact hb'.more fun p hp => by rw [List.mem_singleton.mp hp]; exact .head _
    · rw [AH.set_ne q] at e
      exact (S.H.bears b ob e).more fun p hp => .tail _ hp
  · have h1 := was _ _ _ e
    rw [AH.set_ne (hδ _ _ _ h1)]; exact S.H.sep _ _ _ h1

/-- a new object of a class, with its empty dict -/
theorem StaW.allocI {c : Cx} {Φ : List (Addr × Obj)} {μ : AM} {σ : AH} {s : Shared} {m ml : Str → Option Value} {news : List (Addr × Obj)} {δ : Addr → Addr} {prot : List (Addr × Obj)} (S : StaW c Φ μ σ s m ml news δ prot) {x dx C : Addr} {h' : Heap} {tk : Nat}
    (hx : ∀ p ∈ news, p.1 ≠ x) (hdx : ∀ p ∈ news, p.1 ≠ dx) (hne : dx ≠ x) (F' : Fr c.h₀ c.L h' m) (N' : News c.h₀ c.L h' ((x, instObj C dx) :: (dx, dictOf [] 0) :: news)) :
    σ x = none ∧ Sta c Φ μ (σ.set x (.inst C [])) { s with heap := h', toks := tk } := by
  have inN : ∀ b o, σ b = some o → ∃ ob, (b, ob) ∈ news := fun b o e => by
    have B := S.H.bears b o e
    cases o with
    | list Vs => obtain ⟨vs, n, hm, r⟩ := B; exact ⟨_, hm⟩
    | tup Vs => obtain ⟨y, hm, r⟩ := B; exact ⟨_, hm⟩
    | dict fs => obtain ⟨y, kvs, hm, r⟩ := B; exact ⟨_, hm⟩
    | inst C fs => obtain ⟨_, _, hm, r⟩ := B; exact ⟨_, hm⟩
  have inD : ∀ b C fs, σ b = some (.inst C fs) → ∃ ob, (δ b, ob) ∈ news := fun b C fs e => by
    obtain ⟨_, _, _, es, n, hm, _⟩ := S.H.bears _ _ e; exact ⟨_, hm⟩
  have none_of : ∀ a, (∀ p ∈ news, p.1 ≠ a) → σ a = none := fun a ha => by
    cases e : σ a with
    | none => rfl
    | some o => obtain ⟨ob, hm⟩ := inN a o e; exact absurd rfl (ha _ hm)
  have hf := none_of x hx
  have hfd := none_of dx hdx
  have hδ : ∀ a, (∀ p ∈ news, p.1 ≠ a) → ∀ b C fs, σ b = some (.inst C fs) → δ b ≠ a := fun a ha b C fs e q => by
    obtain ⟨ob, hm⟩ := inD _ _ _ e
    exact ha _ hm q
  let δ' : Addr → Addr := fun b => if b = x then dx else δ b
  have d1 : δ' x = dx := if_pos rfl
  have d2 : ∀ b, b ≠ x → δ' b = δ b := fun b hb => if_neg hb
  have was : ∀ b C' fs, (σ.set x (.inst C [])) b = some (.inst C' fs) → b = x ∨ (b ≠ x ∧ σ b = some (.inst C' fs)) := fun b C' fs e => by
    by_cases q : b = x
    · exact .inl q
    · rw [AH.set_ne q] at e; exact .inr ⟨q, e⟩
  have off : ∀ p : Addr × Obj, p ∈ news → Off σ δ p.1 → Off (σ.set x (.inst C [])) δ' p.1 := fun p hp h => by
    refine ⟨by rw [AH.set_ne (hx p hp)]; exact h.1, fun b C' fs e => ?_⟩
    rcases was _ _ _ e with rfl | ⟨hb, e'⟩
    · rw [d1]; exact Ne.symm (hdx p hp)
    · rw [d2 _ hb]; exact h.2 b C' fs e'
  refine ⟨hf, m, ml, (x, instObj C dx) :: (dx, dictOf [] 0) :: news, δ', prot, ⟨F', N', ⟨fun b ob e => ?_, fun b C' fs e => ?_, fun b C' fs b' C'' fs' e e' q => ?_⟩,
    fun p hp => ⟨.tail _ (.tail _ (S.P p hp).1), off p (S.P p hp).1 (S.P p hp).2⟩, fun p hp => ⟨.tail _ (.tail _ (S.P' p hp).1), off p (S.P' p hp).1 (S.P' p hp).2⟩, S.loc, S.R, S.g, S.d, S.o, S.own, S.fzP, S.fmP⟩⟩
  · by_cases q : b = x
    · subst q; rw [AH.set_self] at e; cases e
      exact ⟨List.nodup_nil, by simp, by rw [d1]; exact .head _, [], 0, by rw [d1]; exact .tail _ (.head _), trivial⟩
    · rw [AH.set_ne q] at e
      rw [d2 _ q]
      exact (S.H.bears b ob e).more fun p hp => .tail _ (.tail _ hp)
  · rcases was _ _ _ e with rfl | ⟨hb, e'⟩
    · rw [d1, AH.set_ne hne]; exact hfd
    · rw [d2 _ hb, AH.set_ne (hδ x hx _ _ _ e')]; exact S.H.sep _ _ _ e'
  · rcases was _ _ _ e with rfl | ⟨hb, e1⟩ <;> rcases was _ _ _ e' with rfl | ⟨hb', e2⟩
    · rfl
    · rw [d1, d2 _ hb'] at q; exact absurd q.symm (hδ dx hdx _ _ _ e2)
    · rw [d1, d2 _ hb] at q; exact absurd q (hδ dx hdx _ _ _ e1)
    · rw [d2 _ hb, d2 _ hb'] at q; exact S.H.inj _ _ _ _ _ _ e1 e2 q

/-- the same state, seen from a context that differs in what the state does not speak of -/
theorem Sta.ctx {c c' : Cx} {Φ : List (Addr × Obj)} {μ : AM} {σ : AH} {s : Shared} (S : Sta c Φ μ σ s) (h1 : c'.prog = c.prog) (h2 : c'.w = c.w) (h3 : c'.env = c.env) (h4 : c'.L = c.L) (h5 : c'.h₀ = c.h₀) (h6 : c'.gens = c.gens) (h7 : c'.drawn = c.drawn) (h8 : c'.os = c.os) (h9 : c'.fz = c.fz) (h10 : c'.fm = c.fm) : Sta c' Φ μ σ s := by
  obtain ⟨prog, w, K, p, loose, mean, mg, mb, A, env, fn, L, h₀, base, A₀, outer, room, gens, drawn, os, fz, fm⟩ := c
  obtain ⟨prog', w', K', p', loose', mean', mg', mb', A', env', fn', L', h₀', base', A₀', outer', room', gens', drawn', os', fz', fm'⟩ := c'
  dsimp only at h1 h2 h3 h4 h5 h6 h7 h8 h9 h10
  subst h1; subst h2; subst h3; subst h4; subst h5; subst h6; subst h7; subst h8; subst h9; subst h10
  refine Sta.el S fun m ml news δ prot S => ?_
  exact ⟨m, ml, news, δ, prot, ⟨S.F, S.N, S.H, S.P, S.P', S.loc, ⟨S.R.nd, S.R.var⟩, S.g, S.d, S.o, S.own, S.fzP, S.fmP⟩⟩
theorem StaW.fn {c : Cx} {Φ : List (Addr × Obj)} {μ : AM} {σ : AH} {s : Shared} {m ml : Str → Option Value} {news : List (Addr × Obj)} {δ : Addr → Addr} {prot : List (Addr × Obj)}
    (S : StaW c Φ μ σ s m ml news δ prot) {h' : Heap} {tk : Nat} (F : Fr c.h₀ c.L h' m) (N : News c.h₀ c.L h' news) : Sta c Φ μ σ { s with heap := h', toks := tk } :=
  ⟨m, ml, news, δ, prot, ⟨F, N, S.H, S.P, S.P', S.loc, S.R, S.g, S.d, S.o, S.own, S.fzP, S.fmP⟩⟩

section
variable {c : Cx} {μ : AM} {σ : AH} {Q : Value → AH → Prop}

theorem EV.mono {e : Expr} {Q' : Value → AH → Prop} (h : EV c e μ σ Q) (hq : ∀ v σ', Q v σ' → Q' v σ') : EV c e μ σ Q' :=
  fun Φ s E R S k => h Φ s E R S fun v σ' s' x => k v σ' s' (hq _ _ x)
theorem OP.mono {t : Sem Value} {Q' : Value → AH → Prop} (h : OP c t σ Q) (hq : ∀ v σ', Q v σ' → Q' v σ') : OP c t σ Q' :=
  fun Φ μ s E R S k => h Φ μ s E R S fun v σ' s' x => k v σ' s' (hq _ _ x)
theorem CD.mono {t : Code} {Q' : Value → AH → Prop} (h : CD c t σ Q) (hq : ∀ v σ', Q v σ' → Q' v σ') : CD c t σ Q' :=
  fun Φ μ s R S k => h Φ μ s R S fun v σ' s' x => k v σ' s' (hq _ _ x)
theorem FC.mono {g : Gl} {n n' : Nat} {f : Value} {args : List Value} {Q' : Value → AH → Prop} (h : FC g n f args σ Q) (hn : n ≤ n') (hq : ∀ v σ', Q v σ' → Q' v σ') : FC g n' f args σ Q' :=
  fun c vals ok hg hr hv => (h c vals ok hg (Nat.le_trans hn hr) hv).mono hq

/-! ### expressions -/
theorem ev_none {k : Nat} {pos : Pos} (h : Q .none σ) : EV c (.Constant .none k pos) μ σ Q := fun _ s _ _ S k => wpAny_Constant_none (k .none σ s h S)
theorem ev_bool {b : Bool} {k : Nat} {pos : Pos} (h : Q (.bool b) σ) : EV c (.Constant (.bool b) k pos) μ σ Q := fun _ s _ _ S k => wpAny_Constant_bool (k (.bool b) σ s h S)
theorem ev_int {i : Int} {k : Nat} {pos : Pos} (h : Q (vi i) σ) : EV c (.Constant (.int i) k pos) μ σ Q := fun _ s _ _ S k => wpAny_Constant_int (k (.int i s.toks) σ _ h S.toks)
theorem ev_str {x : Str} {k : Nat} {pos : Pos} (h : Q (.str x 0) σ) : EV c (.Constant (.str x) k pos) μ σ Q := fun _ s _ _ S k => wpAny_Constant_str (k (.str x s.toks) σ _ h S.toks)
theorem ev_bytes {b : List UInt8} {k : Nat} {pos : Pos} (h : Q (.bytes b.toArray 0) σ) : EV c (.Constant (.bytes b) k pos) μ σ Q := fun Φ s E Q' S k' => by
  show wpAny _ _ (mkTextBytes b.toArray) _ _ s
  exact wpAny_mkTextBytes (k' (.bytes b.toArray s.toks) σ _ h S.toks)

theorem load_local {x : Str} {V : Value} {Φ : List (Addr × Obj)} {s : Shared} {E Q' : Value → Shared → Prop} (ok : c.OK) (hx : (x, some V) ∈ μ) (S : Sta c Φ μ σ s) (k : ∀ v, er v = V → Q' v s) : wpAny c.M c.A (loadName c.env x) Q' E s := by
  refine Sta.el S fun m ml news δ prot W => ?_
  rcases W.R.var _ _ hx with ⟨hk, hv⟩ | ⟨hk, cc, o, ov, hl, hp, _, ho, hv⟩
  · obtain ⟨v, e1, e2⟩ := hv V rfl
    have hns : s.heap.Ns c.env.locals ml := by
      rcases W.loc with ⟨q, rfl⟩ | ⟨_, o, ho, es, ep, r⟩
      · rw [q]; exact W.F.ns
      · exact ⟨o, es, ep, (W.N _ (W.P' _ ho).1).1, r⟩
    exact wpAny_loadName_local ok.ek hk hns e1 (k v e2)
  · obtain ⟨v, e1, e2⟩ := hv V rfl
    subst e1
    have hc : s.heap.IsCell cc (some v) := ⟨o, (W.N _ (hp.elim (fun h => (W.P' _ h).1) fun h => (W.P _ (W.fzP _ h)).1)).1, ho⟩
    exact wpAny_loadName_cell ok.ek hk hl hc (k v e2)
theorem ev_local {x : Str} {pos : Pos} {V : Value} (ok : c.OK) (hx : (x, some V) ∈ μ) (h : Q V σ) (hd : (x == ("__debug__" : Str)) = false := by decide) : EV c (.Name x pos) μ σ Q :=
  fun Φ s E Q' S k => wpAny_Name (load_local ok hx S fun v e => k v σ s (by rw [e]; exact h) S) hd

theorem ev_global {x : Str} {pos : Pos} {v : Value} (ok : c.OK) (hx : c.env.kindOf x = some .globalImplicit) (e : nsIn c.K mainGlobals x = some (some v)) (h : Q (er v) σ) (hd : (x == ("__debug__" : Str)) = false := by decide) : EV c (.Name x pos) μ σ Q := by
  intro Φ s E Q' S k
  have S' := S
  refine Sta.el S' fun m ml news δ prot W => ?_
  exact Name_function_global ok.ek hx (loadGlobal_global (env := c.env) (by rw [ok.eg]; exact ok.T.g.keeps W.F.keep) (mg_of ok.X ok.T.g e) (k v σ s h S)) hd
theorem ev_builtin {x : Str} {pos : Pos} {v : Value} (ok : c.OK) (hx : c.env.kindOf x = some .globalImplicit) (e : nsIn c.K mainGlobals x = some none) (hv : bootBuiltins x = some v) (hn : x ≠ "__name__") (h : Q (er v) σ) (hd : (x == ("__debug__" : Str)) = false := by decide) : EV c (.Name x pos) μ σ Q := by
  intro Φ s E Q' S k
  have S' := S
  refine Sta.el S' fun m ml news δ prot W => ?_
  refine Name_function_global ok.ek hx (loadGlobal_builtin (env := c.env) (by rw [ok.eg]; exact ok.T.g.keeps W.F.keep) (mg_none_of ok.X ok.T.g e) (by rw [ok.eb]; exact ok.T.b.keeps W.F.keep) ((ok.T.builtins x hn).trans hv) (k v σ s h S)) hd

noncomputable def BO (c : Cx) (op : Operator) (A B : Value) (σ : AH) (Q : Value → AH → Prop) : Prop := ∀ a b, er a = A → er b = B → OP c (binaryOp op a b) σ Q
noncomputable def CO (c : Cx) (op : CmpOp) (A B : Value) (σ : AH) (Q : Value → AH → Prop) : Prop := ∀ a b, er a = A → er b = B → OP c (compareOp op a b) σ Q
noncomputable def IO (c : Cx) (op : Operator) (A B : Value) (σ : AH) (Q : Value → AH → Prop) : Prop := ∀ a b, er a = A → er b = B → OP c (inplaceOp op a b) σ Q

theorem ev_binop {l r : Expr} {op : Operator} {pos : Pos} (h : EV c l μ σ fun a σ1 => EV c r μ σ1 fun b σ2 => BO c op a b σ2 Q) : EV c (.BinOp l op r pos) μ σ Q :=
  fun Φ s E Q' S k => wpAny_BinOp (h Φ s E _ S fun a σ1 s1 h1 S1 => h1 Φ s1 E _ S1 fun b σ2 s2 h2 S2 => h2 a b rfl rfl Φ μ s2 E Q' S2 k)
theorem ev_cmp {l r : Expr} {op : CmpOp} {pos : Pos} (hb : behindInMarks op r = false) (h : EV c l μ σ fun a σ1 => EV c r μ σ1 fun b σ2 => CO c op a b σ2 Q) : EV c (.Compare l [op] [r] pos) μ σ Q :=
  fun Φ s E Q' S k => wpAny_Compare1 (h Φ s E _ S fun a σ1 s1 h1 S1 => h1 Φ s1 E _ S1 fun b σ2 s2 h2 S2 => h2 a b rfl rfl Φ μ s2 E Q' S2 k) hb
theorem ev_ite {t b o : Expr} {pos : Pos} (h : TR c t μ σ fun x σ1 => if x = true then EV c b μ σ1 Q else EV c o μ σ1 Q) : EV c (.IfExp t b o pos) μ σ Q :=
  fun Φ s E Q' S k => wpAny_IfExp (h Φ s E _ S fun x σ1 s1 h1 S1 => by
    cases x with
    | true => exact h1 Φ s1 E _ S1 k
    | false => exact h1 Φ s1 E _ S1 k)
theorem ev_neg {x : Expr} {pos : Pos} (h : EV c x μ σ fun a σ1 => ∃ i, a = vi i ∧ Q (vi (-i)) σ1) : EV c (.UnaryOp .USub x pos) μ σ Q :=
  fun Φ s E Q' S k => wpAny_UnaryOp (h Φ s E _ S fun a σ1 s1 h1 S1 => by
    obtain ⟨i, e, hq⟩ := h1
    obtain ⟨t, rfl⟩ := er_int e
    exact neg_int (k _ _ _ hq S1.toks))

/-! ### truth -/
theorem tr_cmp {l r : Expr} {op : CmpOp} {pos : Pos} {Q : Bool → AH → Prop} (hb : behindInMarks op r = false) (h : EV c l μ σ fun a σ1 => EV c r μ σ1 fun b σ2 => CO c op a b σ2 fun v σ3 => ∃ t, v = .bool t ∧ Q t σ3) : TR c (.Compare l [op] [r] pos) μ σ Q :=
  fun Φ s E Q' S k => wpAny_isTrue_Compare1 (h Φ s E _ S fun a σ1 s1 h1 S1 => h1 Φ s1 E _ S1 fun b σ2 s2 h2 S2 => h2 a b rfl rfl Φ μ s2 E _ S2 fun v σ3 s3 h3 S3 => by
    obtain ⟨t, e, hq⟩ := h3
    rw [er_bool e]
    exact wpAny_truthy_bool (k t σ3 s3 hq S3)) hb
theorem tr_not {x : Expr} {pos : Pos} {Q : Bool → AH → Prop} (h : TR c x μ σ fun b σ1 => Q (!b) σ1) : TR c (.UnaryOp .Not x pos) μ σ Q :=
  fun Φ s E Q' S k => wpAny_isTrue_Not (h Φ s E _ S fun b σ1 s1 h1 S1 => k _ _ _ h1 S1)
noncomputable def TRs (c : Cx) (op : BoolOp) (es : List Expr) (μ : AM) (σ : AH) (Q : Bool → AH → Prop) : Prop :=
  ∀ Φ s E Q', Sta c Φ μ σ s → (∀ b σ' s', Q b σ' → Sta c Φ μ σ' s' → Q' b s') → wpAny c.M c.A (allTrue op es c.env) Q' E s
theorem tr_bool {op : BoolOp} {es : List Expr} {pos : Pos} {Q : Bool → AH → Prop} (h : TRs c op es μ σ Q) : TR c (.BoolOp op es pos) μ σ Q :=
  fun Φ s E Q' S k => wpAny_isTrue_BoolOp (h Φ s E Q' S k)
theorem trs_and {e : Expr} {es : List Expr} {Q : Bool → AH → Prop} (h : TR c e μ σ fun b σ1 => if b = true then TRs c .And es μ σ1 Q else Q false σ1) : TRs c .And (e :: es) μ σ Q :=
  fun Φ s E Q' S k => wpAny_allTrue_And_cons (h Φ s E _ S fun b σ1 s1 h1 S1 => by
    cases b with
    | true => exact h1 Φ s1 E _ S1 k
    | false => exact k _ _ _ h1 S1)
theorem trs_or {e : Expr} {es : List Expr} {Q : Bool → AH → Prop} (h : TR c e μ σ fun b σ1 => if b = true then Q true σ1 else TRs c .Or es μ σ1 Q) : TRs c .Or (e :: es) μ σ Q :=
  fun Φ s E Q' S k => wpAny_allTrue_Or_cons (h Φ s E _ S fun b σ1 s1 h1 S1 => by
    cases b with
    | true => exact k _ _ _ h1 S1
    | false => exact h1 Φ s1 E _ S1 k)
theorem trs_and_nil {Q : Bool → AH → Prop} (h : Q true σ) : TRs c .And [] μ σ Q := fun Φ s E Q' S k => wpAny_allTrue_And_nil (k _ _ _ h S)
theorem trs_or_nil {Q : Bool → AH → Prop} (h : Q false σ) : TRs c .Or [] μ σ Q := fun Φ s E Q' S k => wpAny_allTrue_Or_nil (k _ _ _ h S)
/-- a plain value's truth: a bool -/
theorem tr_val {e : Expr} {Q : Bool → AH → Prop} (hw : ∀ env whole, PySem.isTrue e env whole = (do let v ← whole; standAt e.pos; holding [v] (truthy v))) (h : EV c e μ σ fun v σ1 => ∃ b, v = .bool b ∧ Q b σ1) : TR c e μ σ Q :=
  fun Φ s E Q' S k => wpAny_isTrue_value (h Φ s E _ S fun v σ1 s1 h1 S1 => by
    obtain ⟨b, e, hq⟩ := h1
    rw [er_bool e]
    exact wpAny_truthy_bool (k _ _ _ hq S1)) (hw _ _)
theorem tr_call {f : Expr} {as : List Expr} {pos : Pos} {Q : Bool → AH → Prop} (h : EV c (.Call f as [] pos) μ σ fun v σ1 => ∃ b, v = .bool b ∧ Q b σ1) : TR c (.Call f as [] pos) μ σ Q := tr_val (fun _ _ => rfl) h

/-! ### operations of ints, bools, None -/
theorem bo_add {i j : Int} (h : Q (vi (i + j)) σ) : BO c .Add (vi i) (vi j) σ Q := fun a b ha hb Φ μ s E Q' S k => by
  obtain ⟨t, rfl⟩ := er_int ha; obtain ⟨u, rfl⟩ := er_int hb; exact add_int (k _ _ _ h S.toks)
theorem bo_sub {i j : Int} (h : Q (vi (i - j)) σ) : BO c .Sub (vi i) (vi j) σ Q := fun a b ha hb Φ μ s E Q' S k => by
  obtain ⟨t, rfl⟩ := er_int ha; obtain ⟨u, rfl⟩ := er_int hb; exact sub_int (k _ _ _ h S.toks)
theorem bo_mul {i j : Int} (hm : IntMulOk i j) (h : Q (vi (i * j)) σ) : BO c .Mult (vi i) (vi j) σ Q := fun a b ha hb Φ μ s E Q' S k => by
  obtain ⟨t, rfl⟩ := er_int ha; obtain ⟨u, rfl⟩ := er_int hb; exact mul_int (k _ _ _ h S.toks) hm
theorem bo_mod {i j : Int} (hj : j ≠ 0) (h : Q (vi (i.fmod j)) σ) : BO c .Mod (vi i) (vi j) σ Q := fun a b ha hb Φ μ s E Q' S k => by
  obtain ⟨t, rfl⟩ := er_int ha; obtain ⟨u, rfl⟩ := er_int hb; exact mod_int hj (k _ _ _ h S.toks)
theorem bo_div {i j : Int} (hj : j ≠ 0) (hl : Builtin.divisionGoesByPylong i j = false) (h : Q (vi (i.fdiv j)) σ) : BO c .FloorDiv (vi i) (vi j) σ Q := fun a b ha hb Φ μ s E Q' S k => by
  obtain ⟨t, rfl⟩ := er_int ha; obtain ⟨u, rfl⟩ := er_int hb; exact floordiv_int hj (k _ _ _ h S.toks) (.inl hl)
theorem bo_and {i j : Int} (h : Q (vi (Builtin.bitAnd i j)) σ) : BO c .BitAnd (vi i) (vi j) σ Q := fun a b ha hb Φ μ s E Q' S k => by
  obtain ⟨t, rfl⟩ := er_int ha; obtain ⟨u, rfl⟩ := er_int hb; exact and_int (k _ _ _ h S.toks)
theorem bo_or {i j : Int} (h : Q (vi (Builtin.bitOr i j)) σ) : BO c .BitOr (vi i) (vi j) σ Q := fun a b ha hb Φ μ s E Q' S k => by
  obtain ⟨t, rfl⟩ := er_int ha; obtain ⟨u, rfl⟩ := er_int hb; exact or_int (k _ _ _ h S.toks)
theorem bo_xor {i j : Int} (h : Q (vi (Builtin.bitXor i j)) σ) : BO c .BitXor (vi i) (vi j) σ Q := fun a b ha hb Φ μ s E Q' S k => by
  obtain ⟨t, rfl⟩ := er_int ha; obtain ⟨u, rfl⟩ := er_int hb; exact xor_int (k _ _ _ h S.toks)
theorem bo_shl {i n : Int} (h0 : 0 ≤ n) (h1 : n ≤ 1000000) (hi : i.natAbs < 2 ^ 64) (h : Q (vi (i * 2 ^ n.toNat)) σ) : BO c .LShift (vi i) (vi n) σ Q := fun a b ha hb Φ μ s E Q' S k => by
  obtain ⟨t, rfl⟩ := er_int ha; obtain ⟨u, rfl⟩ := er_int hb; exact lshift_int_small h0 h1 hi (k _ _ _ h S.toks)
theorem bo_shr {i n : Int} (h0 : 0 ≤ n) (h : Q (vi (i.fdiv (2 ^ n.toNat))) σ) : BO c .RShift (vi i) (vi n) σ Q := fun a b ha hb Φ μ s E Q' S k => by
  obtain ⟨t, rfl⟩ := er_int ha; obtain ⟨u, rfl⟩ := er_int hb; exact rshift_int h0 (k _ _ _ h S.toks)

theorem co_eq {i j : Int} (h : Q (.bool (i == j)) σ) : CO c .Eq (vi i) (vi j) σ Q := fun a b ha hb Φ μ s E Q' S k => by
  obtain ⟨t, rfl⟩ := er_int ha; obtain ⟨u, rfl⟩ := er_int hb; exact eq_int (k _ _ _ h S)
theorem co_ne {i j : Int} (h : Q (.bool (i != j)) σ) : CO c .NotEq (vi i) (vi j) σ Q := fun a b ha hb Φ μ s E Q' S k => by
  obtain ⟨t, rfl⟩ := er_int ha; obtain ⟨u, rfl⟩ := er_int hb; exact ne_int (k _ _ _ h S)
theorem co_lt {i j : Int} (h : Q (.bool (decide (i < j))) σ) : CO c .Lt (vi i) (vi j) σ Q := fun a b ha hb Φ μ s E Q' S k => by
  obtain ⟨t, rfl⟩ := er_int ha; obtain ⟨u, rfl⟩ := er_int hb; exact lt_int (k _ _ _ h S)
theorem co_le {i j : Int} (h : Q (.bool (decide (i ≤ j))) σ) : CO c .LtE (vi i) (vi j) σ Q := fun a b ha hb Φ μ s E Q' S k => by
  obtain ⟨t, rfl⟩ := er_int ha; obtain ⟨u, rfl⟩ := er_int hb; exact le_int (k _ _ _ h S)
theorem co_gt {i j : Int} (h : Q (.bool (decide (j < i))) σ) : CO c .Gt (vi i) (vi j) σ Q := fun a b ha hb Φ μ s E Q' S k => by
  obtain ⟨t, rfl⟩ := er_int ha; obtain ⟨u, rfl⟩ := er_int hb; exact gt_int (k _ _ _ h S)
theorem co_ge {i j : Int} (h : Q (.bool (decide (j ≤ i))) σ) : CO c .GtE (vi i) (vi j) σ Q := fun a b ha hb Φ μ s E Q' S k => by
  obtain ⟨t, rfl⟩ := er_int ha; obtain ⟨u, rfl⟩ := er_int hb; exact ge_int (k _ _ _ h S)
theorem co_eqb {i j : Bool} (h : Q (.bool (i == j)) σ) : CO c .Eq (.bool i) (.bool j) σ Q := fun a b ha hb Φ μ s E Q' S k => by
  rw [er_bool ha, er_bool hb]; exact eq_bool (k _ _ _ h S)
theorem co_eqy {i j : Array UInt8} (h : Q (.bool (i.toList == j.toList)) σ) : CO c .Eq (.bytes i 0) (.bytes j 0) σ Q := fun a b ha hb Φ μ s E Q' S k => by
  obtain ⟨t, rfl⟩ := er_bytes ha; obtain ⟨u, rfl⟩ := er_bytes hb; exact eq_bytes (k _ _ _ h S)
theorem er_eq_none (v : Value) : (er v == Value.none) = (v == Value.none) := by cases v <;> rfl
theorem co_is {A : Value} (h : Q (.bool (A == Value.none)) σ) : CO c .Is A .none σ Q := fun a b ha hb Φ μ s E Q' S k => by
  rw [er_none hb]; subst ha; exact is_none (k _ _ _ (by rw [er_eq_none] at h; exact h) S)
theorem co_isNot {A : Value} (h : Q (.bool (!(A == Value.none))) σ) : CO c .IsNot A .none σ Q := fun a b ha hb Φ μ s E Q' S k => by
  rw [er_none hb]; subst ha
  exact isnot_none_gen (k _ _ _ (by rw [er_eq_none] at h; exact h) S)
end

/-! ### statements -/
section
variable {c : Cx} {μ : AM} {σ : AH} {Q : Flow → AM → AH → Prop}
theorem EXs.mono {e : List Stmt} {Q' : Flow → AM → AH → Prop} (h : EXs c e μ σ Q) (hq : ∀ f μ' σ', Q f μ' σ' → Q' f μ' σ') : EXs c e μ σ Q' :=
  fun Φ s E R S k => h Φ s E R S fun v μ' σ' s' x => k v μ' σ' s' (hq _ _ _ x)
theorem EX.mono {e : Stmt} {Q' : Flow → AM → AH → Prop} (h : EX c e μ σ Q) (hq : ∀ f μ' σ', Q f μ' σ' → Q' f μ' σ') : EX c e μ σ Q' :=
  fun Φ s E R S k => h Φ s E R S fun v μ' σ' s' x => k v μ' σ' s' (hq _ _ _ x)
theorem exs_nil (h : Q .next μ σ) : EXs c [] μ σ Q := fun Φ s E Q' S k => wpAny_execs_nil (k .next _ _ _ h S)
noncomputable def Then (c : Cx) (rest : List Stmt) (Q : Flow → AM → AH → Prop) (f : Flow) (μ : AM) (σ : AH) : Prop := match f with
  | .next => EXs c rest μ σ Q
  | f => Q f μ σ
theorem exs_cons {st : Stmt} {rest : List Stmt} (h : EX c st μ σ (Then c rest Q)) : EXs c (st :: rest) μ σ Q :=
  fun Φ s E Q' S k => wpAny_execs_cons (h Φ s E _ S fun f μ1 σ1 s1 h1 S1 => by
    cases f with
    | next => exact h1 Φ s1 E _ S1 k
    | brk => exact k _ _ _ _ h1 S1
    | cont => exact k _ _ _ _ h1 S1
    | ret v => exact k _ _ _ _ h1 S1)
theorem ex_ret {e : Expr} {pos : Pos} (h : EV c e μ σ fun v σ1 => Q (.ret v) μ σ1) : EX c (.Return (some e) pos) μ σ Q :=
  fun Φ s E Q' S k => wpAny_Return_some (h Φ s E _ S fun v σ1 s1 h1 S1 => k (.ret v) _ _ _ h1 S1)
theorem ex_ret0 {pos : Pos} (h : Q (.ret .none) μ σ) : EX c (.Return none pos) μ σ Q :=
  fun Φ s E Q' S k => wpAny_Return_none (k (.ret .none) _ _ _ h S)
theorem ex_break {pos : Pos} (h : Q .brk μ σ) : EX c (.Break pos) μ σ Q := fun Φ s E Q' S k => wpAny_Break (k .brk _ _ _ h S)
theorem ex_if {t : Expr} {b o : List Stmt} {pos : Pos} (h : TR c t μ σ fun x σ1 => if x = true then EXs c b μ σ1 Q else EXs c o μ σ1 Q) : EX c (.If t b o pos) μ σ Q :=
  fun Φ s E Q' S k => wpAny_If (h Φ s E _ S fun x σ1 s1 h1 S1 => by
    cases x with
    | true => exact h1 Φ s1 E _ S1 k
    | false => exact h1 Φ s1 E _ S1 k)
theorem ex_expr {e : Expr} {pos : Pos} (ok : c.OK) (hs : ∀ env, swapsWith e none pos.line env = pure false) (h : EV c e μ σ fun _ σ1 => Q .next μ σ1) : EX c (.Expr e pos) μ σ Q :=
  fun Φ s E Q' S k => wpAny_Expr_any (h Φ s E _ S fun v σ1 s1 h1 S1 => k .next _ _ _ h1 S1) (by simp [interactive, ok.ek]) (hs _)
end
/-! ## storing a name -/
inductive Put (x : Str) (V : Value) : AM → AM → Prop
  | head {o r} : Put x V ((x, o) :: r) ((x, some V) :: r)
  | tail {p r r'} : Put x V r r' → Put x V (p :: r) (p :: r')
theorem Put.names {x : Str} {V : Value} {μ μ' : AM} (h : Put x V μ μ') : μ'.map (·.1) = μ.map (·.1) := by
  induction h with
  | head => rfl
  | tail _ ih => simp only [List.map_cons, ih]
theorem Put.was {x : Str} {V : Value} {μ μ' : AM} (h : Put x V μ μ') : ∃ o, (x, o) ∈ μ := by
  induction h with
  | head => exact ⟨_, .head _⟩
  | tail _ ih => obtain ⟨o, ho⟩ := ih; exact ⟨o, .tail _ ho⟩
theorem Put.mem {x : Str} {V : Value} {μ μ' : AM} (h : Put x V μ μ') (nd : (μ.map (·.1)).Nodup) {y : Str} {o : Option Value} (hy : (y, o) ∈ μ') : (y = x ∧ o = some V) ∨ (y ≠ x ∧ (y, o) ∈ μ) := by
  induction h with
  | @head o' r =>
    rw [List.map_cons, List.nodup_cons] at nd
    rcases List.mem_cons.mp hy with e | hy
    · cases e; exact .inl ⟨rfl, rfl⟩
    · exact .inr ⟨fun e => nd.1 (e ▸ List.mem_map.mpr ⟨(y, o), hy, rfl⟩), .tail _ hy⟩
  | @tail p r r' h ih =>
    rw [List.map_cons, List.nodup_cons] at nd
    rcases List.mem_cons.mp hy with e | hy
    · subst e
      obtain ⟨o', ho⟩ := h.was
      exact .inr ⟨fun e => nd.1 (by rw [show y = x from e]; exact List.mem_map.mpr ⟨(x, o'), ho, rfl⟩), .head _⟩
    · rcases ih nd.2 hy with e | ⟨e, hm⟩
      · exact .inl e
      · exact .inr ⟨e, .tail _ hm⟩
theorem Put.swap {x y : Str} {V W : Value} {μ μ1 μ2 : AM} (h : Put x V μ μ1) (h' : Put y W μ1 μ2) (hne : x ≠ y) : ∃ μ1', Put y W μ μ1' ∧ Put x V μ1' μ2 := by
  induction h generalizing μ2 with
  | @head o r =>
    cases h' with
    | head => exact absurd rfl hne
    | tail h' => exact ⟨_, .tail h', .head⟩
  | @tail p r r' h ih =>
    cases h' with
    | head => exact ⟨_, .head, .tail h⟩
    | tail h' =>
      obtain ⟨m, a, b⟩ := ih h'
      exact ⟨_, .tail a, .tail b⟩

theorem updL_adr {l : List (Addr × Obj)} {d : Addr} {o' : Obj} {q : Addr × Obj} (h : q ∈ updL l d o') : ∃ p ∈ l, p.1 = q.1 := by
  obtain ⟨p, hp, e⟩ := List.mem_map.mp h
  by_cases hd : p.1 = d
  · rw [if_pos hd] at e; subst e; exact ⟨p, hp, hd⟩
  · rw [if_neg hd] at e; subst e; exact ⟨p, hp, rfl⟩
theorem own_upd {Φ l : List (Addr × Obj)} {d : Addr} {o' : Obj} (h : ∀ p ∈ Φ, ∀ q ∈ l, p.1 ≠ q.1) : ∀ p ∈ Φ, ∀ q ∈ updL l d o', p.1 ≠ q.1 := fun p hp q hq e => by
  obtain ⟨q0, h0, e0⟩ := updL_adr hq
  exact h p hp q0 h0 (e.trans e0.symm)
theorem off_ne {σ : AH} {δ : Addr → Addr} {b d : Addr} {news : List (Addr × Obj)} {prog : Program} {w : World} {o : Obj} (H : HB prog w news δ σ) (hd : Off σ δ d) : HB prog w (updL news d o) δ σ :=
  ⟨fun a ob e => (H.bears a ob e).upd (fun q => by rw [q, hd.1] at e; cases e) (fun C fs q => by subst q; exact hd.2 a C fs e), H.sep, H.inj⟩

/-- a name stored -/
theorem store_name {c : Cx} {Φ : List (Addr × Obj)} {μ μ' : AM} {σ : AH} {s : Shared} {x : Str} {v : Value} {E : Value → Shared → Prop} {Q' : Unit → Shared → Prop} (ok : c.OK)
    (hp : Put x (er v) μ μ') (S : Sta c Φ μ σ s) (hfmn : c.env.locals = c.L → c.fm = none) (hloc : c.Fn ∨ c.env.kindOf x = some .local) (k : ∀ s', Sta c Φ μ' σ s' → Q' () s') : wpAny c.M c.A (storeName c.env x v) Q' E s := by
  refine Sta.el S fun m ml news δ prot W => ?_
  obtain ⟨o0, h0⟩ := hp.was
  have hblk : (c.env.scope.kind == .class || (c.env.scope.kind == .module && c.env.locals != c.env.globals)) = false := by rw [ok.ek]; rfl
  have nd' : (μ'.map (·.1)).Nodup := by rw [hp.names]; exact W.R.nd
  rcases W.R.var _ _ h0 with ⟨hk, _⟩ | ⟨hk, cc, o, ov, hl, hm', hcl, ho, _⟩
  · -- a local
    rcases W.loc with ⟨q, rfl⟩ | ⟨q, oC, hoC, es, ep, r⟩
    · have hfm : c.fm = none := hfmn q
      refine wpAny_storeName_local (m := ml) hk (by rw [q]; exact W.F.ns) (fun h' hn hs => k _ ⟨_, _, news, δ, prot, ⟨W.F.set (by rw [← q]; exact hn) (by rw [← q]; exact hs), W.N.set (by rw [← q]; exact hs), W.H, W.P, W.P', .inl ⟨q, rfl⟩, ⟨nd', fun y oV hy => ?_⟩, W.g, W.d, W.o, W.own, W.fzP, fun f e => by rw [hfm] at e; cases e⟩⟩) hblk
      rcases hp.mem W.R.nd hy with ⟨rfl, rfl⟩ | ⟨hne, hy⟩
      · exact .inl ⟨hk, fun V e => ⟨v, if_pos rfl, Option.some.inj e⟩⟩
      · rcases W.R.var _ _ hy with ⟨hk', hv⟩ | hv
        · refine .inl ⟨hk', fun V e => ?_⟩
          obtain ⟨v', h1, h2⟩ := hv V e
          exact ⟨v', (if_neg hne).trans h1, h2⟩
        · exact .inr hv
    · have hmem := W.P' _ hoC
      have hget := (W.N _ hmem.1).1
      refine wpAny_storeName_local (m := ml) hk ⟨oC, es, ep, hget, r⟩ (fun h' hn hs => ?_) hblk
      refine hide fun S0 hS0 => ?_
      obtain ⟨o', es', ep', hg', r'⟩ := hn
      refine hS0 ?_
      clear hS0 S0
      refine k _ ⟨m, _, updL news c.env.locals o', δ, updL prot c.env.locals o', ⟨fr_upd W.F W.N hmem.1 hs, news_updL W.N hmem.1 hs hg', off_ne (b := c.env.locals) W.H hmem.2, fun p hp' => ⟨mem_updL_ne (W.P p hp').1 (W.own p hp' _ hoC), (W.P p hp').2⟩, fun p hp' => ?_,
        .inr ⟨q, o', mem_updL_self hoC, es', ep', r'⟩, ⟨nd', fun y oV hy => ?_⟩, W.g, W.d, W.o, own_upd W.own, W.fzP, W.fmP⟩⟩
      · obtain ⟨p0, hp0, e⟩ := List.mem_map.mp hp'
        by_cases hz : p0.1 = c.env.locals
        · rw [if_pos hz] at e; subst e; exact ⟨mem_updL_self hmem.1, hmem.2⟩
        · rw [if_neg hz] at e; subst e; exact ⟨mem_updL_ne (W.P' _ hp0).1 hz, (W.P' _ hp0).2⟩
      · rcases hp.mem W.R.nd hy with ⟨rfl, rfl⟩ | ⟨hne, hy⟩
        · exact .inl ⟨hk, fun V e => ⟨v, if_pos rfl, Option.some.inj e⟩⟩
        · rcases W.R.var _ _ hy with ⟨hk', hv⟩ | ⟨hk', cc, oo, ov, a1, a2, a3, a4⟩
          · refine .inl ⟨hk', fun V e => ?_⟩
            obtain ⟨v', h1, h2⟩ := hv V e
            exact ⟨v', (if_neg hne).trans h1, h2⟩
          · exact .inr ⟨hk', cc, oo, ov, a1, a2.imp (fun h => mem_updL_ne h a3) id, a3, a4⟩
  · -- a cell
    have hfn : c.Fn := hloc.elim id fun e => by rw [hk] at e; cases e
    have hloc' : c.env.locals = c.L := hfn.l
    have hm : (cc, o) ∈ prot := hm'.elim id fun h => by rw [hfn.z] at h; cases h
    have hmem := W.P' _ hm
    have hget := (W.N _ hmem.1).1
    have hst : wpAny c.M c.A (storeName c.env x v) Q' E s := by
      have fin : ∀ h', h'.IsCell cc (some v) → Heap.SameBut cc s.heap h' → Q' () { s with heap := h' } := by
        rintro h' ⟨o', hg', hd'⟩ hs
        have hneL : cc ≠ c.L := fun e => hcl (e.trans hloc'.symm)
        refine k _ ⟨m, ml, updL news cc o', δ, updL prot cc o', ⟨fr_upd W.F W.N hmem.1 hs, news_updL W.N hmem.1 hs hg', off_ne (b := cc) W.H hmem.2,
          fun p hp' => ⟨mem_updL_ne (W.P p hp').1 (W.own p hp' _ hm), (W.P p hp').2⟩, fun p hp' => ?_, ?_, ⟨nd', fun y oV hy => ?_⟩, W.g, W.d, W.o, own_upd W.own, W.fzP, W.fmP⟩⟩
        · obtain ⟨p0, hp0, e⟩ := List.mem_map.mp hp'
          by_cases hz : p0.1 = cc
          · rw [if_pos hz] at e; subst e; exact ⟨mem_updL_self hmem.1, hmem.2⟩
          · rw [if_neg hz] at e; subst e; exact ⟨mem_updL_ne (W.P' _ hp0).1 hz, (W.P' _ hp0).2⟩
        · rcases W.loc with q | ⟨q, _⟩
          · exact .inl q
          · exact absurd hloc' q
        · rcases hp.mem W.R.nd hy with ⟨rfl, rfl⟩ | ⟨hne, hy⟩
          · exact .inr ⟨hk, cc, o', some v, hl, .inl (mem_updL_self hm), hcl, hd', fun V e => ⟨v, rfl, Option.some.inj e⟩⟩
          · rcases W.R.var _ _ hy with hv | ⟨hk', cc', oo, ov', a1, a2, a3, a4⟩
            · exact .inl hv
            · refine .inr ⟨hk', cc', oo, ov', a1, .inl (mem_updL_ne (a2.elim id fun h => by rw [hfn.z] at h; cases h) (fun e => hne ?_)), a3, a4⟩
              have h1 := mem_of_lookup a1
              have h2 := mem_of_lookup hl
              rw [show cc' = cc from e] at h1
              have := ok.ec
              by_cases hxy : (y, cc) = (x, cc)
              · exact congrArg Prod.fst hxy
              · exfalso
                have key : ∀ (l : List (Str × Addr)), l.Pairwise (fun x y => x.2 ≠ y.2) → (y, cc) ∈ l → (x, cc) ∈ l → False := by
                  intro l hl'
                  induction hl' with
                  | nil => intro h; cases h
                  | cons hd tl ih =>
                    intro h1 h2
                    rcases List.mem_cons.mp h1 with e1 | e1 <;> rcases List.mem_cons.mp h2 with e2 | e2
                    · exact hxy (e1.trans e2.symm)
                    · exact hd _ e2 (by rw [← e1])
                    · exact hd _ e1 (by rw [← e2])
                    · exact ih e1 e2
                exact key _ this h1 h2
      exact wpAny_storeName_cell ok.ek hk hl ⟨o, hget, ho⟩ fin
    exact hst
/-! ## the abstract objects, as the library's facts name them -/
theorem StaW.isList {c : Cx} {Φ : List (Addr × Obj)} {μ : AM} {σ : AH} {s : Shared} {m ml : Str → Option Value} {news : List (Addr × Obj)} {δ : Addr → Addr} {prot : List (Addr × Obj)} {a : Addr} {Vs : List Value}
    (S : StaW c Φ μ σ s m ml news δ prot) (h : σ a = some (.list Vs)) : ∃ (vs : Array Value) (n : Nat), (a, ({ cls := .type "list", data := .seq vs n } : Obj)) ∈ news ∧ s.heap.get? a = some { cls := .type "list", data := .seq vs n } ∧ s.heap.IsList a vs ∧ vs.toList.map er = Vs := by
  refine hide fun S0 hS0 => ?_
  obtain ⟨vs, n, hm, e⟩ := S.H.bears _ _ h
  refine hS0 ?_
  clear hS0 S0
  exact ⟨vs, n, hm, (S.N _ hm).1, ⟨_, (S.N _ hm).1, rfl, n, rfl⟩, e⟩
theorem StaW.isTup {c : Cx} {Φ : List (Addr × Obj)} {μ : AM} {σ : AH} {s : Shared} {m ml : Str → Option Value} {news : List (Addr × Obj)} {δ : Addr → Addr} {prot : List (Addr × Obj)} {a : Addr} {Vs : List Value}
    (S : StaW c Φ μ σ s m ml news δ prot) (h : σ a = some (.tup Vs)) : ∃ vs, IsTup s.heap a vs ∧ vs.toList.map er = Vs := by
  refine hide fun S0 hS0 => ?_
  obtain ⟨o, hm, hc, vs, n, hd, e⟩ := S.H.bears _ _ h
  refine hS0 ?_
  clear hS0 S0
  exact ⟨vs, ⟨o, (S.N _ hm).1, hc, n, hd⟩, e⟩
theorem StaW.isDict {c : Cx} {Φ : List (Addr × Obj)} {μ : AM} {σ : AH} {s : Shared} {m ml : Str → Option Value} {news : List (Addr × Obj)} {δ : Addr → Addr} {prot : List (Addr × Obj)} {a : Addr} {fs : List (Str × Value)}
    (S : StaW c Φ μ σ s m ml news δ prot) (h : σ a = some (.dict fs)) : ∃ o kvs, (a, o) ∈ news ∧ s.heap.DictOf (PySem.strKind c.prog c.w) a kvs ∧ kvs.map (fun kv => (kv.1, er kv.2)) = fs ∧ fs.length ≤ 200 := by
  refine hide fun S0 hS0 => ?_
  obtain ⟨o, kvs, hm, hd, e, hl⟩ := S.H.bears _ _ h
  refine hS0 ?_
  clear hS0 S0
  exact ⟨o, kvs, hm, Heap.dictOf_iff.mpr ⟨o, (S.N _ hm).1, hd⟩, e, hl⟩
theorem StaW.isInst {c : Cx} {Φ : List (Addr × Obj)} {μ : AM} {σ : AH} {s : Shared} {m ml : Str → Option Value} {news : List (Addr × Obj)} {δ : Addr → Addr} {prot : List (Addr × Obj)} {a C : Addr} {fs : List (Str × Value)}
    (S : StaW c Φ μ σ s m ml news δ prot) (h : σ a = some (.inst C fs)) : ∃ es n, (a, instObj C (δ a)) ∈ news ∧ (δ a, dictOf es n) ∈ news ∧ InstAt s.heap a (instObj C (δ a)) C (some (dictOf es n)) ∧ FRep c.w.params es fs ∧ (fs.map (·.1)).Nodup ∧ fs.length ≤ 200 := by
  refine hide fun S0 hS0 => ?_
  obtain ⟨hn, hlen, h1, es, n, h2, hf⟩ := S.H.bears _ _ h
  refine hS0 ?_
  clear hS0 S0
  exact ⟨es, n, h1, h2, ⟨(S.N _ h1).1, rfl, rfl, (S.N _ h2).1⟩, hf, hn, hlen⟩
theorem StaW.elL {c : Cx} {Φ : List (Addr × Obj)} {μ : AM} {σ : AH} {s : Shared} {m ml : Str → Option Value} {news : List (Addr × Obj)} {δ : Addr → Addr} {prot : List (Addr × Obj)} {a : Addr} {Vs : List Value} {G : Prop}
    (S : StaW c Φ μ σ s m ml news δ prot) (h : σ a = some (.list Vs)) (k : ∀ vs : Array Value, s.heap.IsList a vs → vs.toList.map er = Vs → G) : G :=
  (S.isList h).elim fun vs h => h.elim fun _ h => k vs h.2.2.1 h.2.2.2
theorem StaW.elT {c : Cx} {Φ : List (Addr × Obj)} {μ : AM} {σ : AH} {s : Shared} {m ml : Str → Option Value} {news : List (Addr × Obj)} {δ : Addr → Addr} {prot : List (Addr × Obj)} {a : Addr} {Vs : List Value} {G : Prop}
    (S : StaW c Φ μ σ s m ml news δ prot) (h : σ a = some (.tup Vs)) (k : ∀ vs, IsTup s.heap a vs → vs.toList.map er = Vs → G) : G :=
  (S.isTup h).elim fun vs h => k vs h.1 h.2
theorem StaW.elD {c : Cx} {Φ : List (Addr × Obj)} {μ : AM} {σ : AH} {s : Shared} {m ml : Str → Option Value} {news : List (Addr × Obj)} {δ : Addr → Addr} {prot : List (Addr × Obj)} {a : Addr} {fs : List (Str × Value)} {G : Prop}
    (S : StaW c Φ μ σ s m ml news δ prot) (h : σ a = some (.dict fs)) (k : ∀ kvs, s.heap.DictOf (PySem.strKind c.prog c.w) a kvs → kvs.map (fun kv => (kv.1, er kv.2)) = fs → fs.length ≤ 200 → G) : G :=
  (S.isDict h).elim fun _ h => h.elim fun kvs h => k kvs h.2.1 h.2.2.1 h.2.2.2
theorem StaW.fldNd {c : Cx} {Φ : List (Addr × Obj)} {μ : AM} {σ : AH} {s : Shared} {m ml : Str → Option Value} {news : List (Addr × Obj)} {δ : Addr → Addr} {prot : List (Addr × Obj)} {a C : Addr} {fs : List (Str × Value)}
    (S : StaW c Φ μ σ s m ml news δ prot) (h : σ a = some (.inst C fs)) : (fs.map (·.1)).Nodup ∧ fs.length ≤ 200 :=
  (S.isInst h).elim fun _ h => h.elim fun _ h => h.2.2.2.2

/-! ## fields -/
theorem isStr_iff {x y : Str} {t : Tok} : (Value.str x t).isStr y = decide (x = y) := by
  by_cases h : x = y
  · subst h; simp [Value.isStr]
  · simp [Value.isStr, h]
theorem FRep.keys {P : Params} : ∀ {es : List DictEntry} {fs : List (Str × Value)}, FRep P es fs → ∀ e ∈ es, ∃ f ∈ fs, ∃ t, e.key = .str f.1 t := by
  intro es
  induction es with
  | nil => intro fs _ e h; cases h
  | cons e es ih =>
    intro fs h x hx
    cases fs with
    | nil => exact h.elim
    | cons f fs =>
      rcases List.mem_cons.mp hx with rfl | hx
      · exact ⟨f, .head _, h.1.1⟩
      · obtain ⟨g, hg, r⟩ := ih h.2 x hx
        exact ⟨g, .tail _ hg, r⟩
theorem FRep.get {P : Params} {x : Str} {V : Value} : ∀ {es : List DictEntry} {fs : List (Str × Value)}, FRep P es fs → (fs.map (·.1)).Nodup → (x, V) ∈ fs → ∃ v, getL x es = some (some v) ∧ er v = V := by
  intro es
  induction es with
  | nil =>
    intro fs h _ hm
    cases fs with
    | nil => cases hm
    | cons f fs => exact h.elim
  | cons e es ih =>
    intro fs h hn hm
    cases fs with
    | nil => exact h.elim
    | cons f fs =>
      obtain ⟨he, hr⟩ := h
      rw [List.map_cons, List.nodup_cons] at hn
      refine hide fun S0 hS0 => ?_
      obtain ⟨⟨t, hk⟩, _, hv⟩ := he
      refine hS0 ?_
      clear hS0 S0
      unfold getL
      rw [List.find?_cons, hk, isStr_iff]
      rcases List.mem_cons.mp hm with e' | hm
      · subst e'; simp only [decide_true]; exact ⟨_, rfl, hv⟩
      · have hne : f.1 ≠ x := fun q => hn.1 (List.mem_map.mpr ⟨(x, V), hm, q.symm⟩)
        rw [decide_eq_false hne]
        obtain ⟨v, h1, h2⟩ := ih hr hn.2 hm
        refine ⟨v, ?_, h2⟩
        unfold getL at h1
        dsimp only
        cases hfi : es.find? (fun x_1 => x_1.key.isStr x) with
        | some e2 => rw [hfi] at h1; exact h1
        | none =>
          exfalso
          rw [hfi] at h1
          dsimp only at h1
          split at h1 <;> cases h1
theorem FRep.none {P : Params} {x : Str} {es : List DictEntry} {fs : List (Str × Value)} (h : FRep P es fs) (hx : x ∉ fs.map (·.1)) : getL x es = some none := by
  have hall : ∀ e ∈ es, e.key.isStr x = false ∧ e.refKey = false := fun e he => by
    refine hide fun S0 hS0 => ?_
    obtain ⟨f, hf, t, hk⟩ := h.keys e he
    refine hS0 ?_
    clear hS0 S0
    refine ⟨?_, by simp [DictEntry.refKey, hk]⟩
    rw [hk, isStr_iff]
    exact decide_eq_false fun q => hx (q ▸ List.mem_map.mpr ⟨f, hf, rfl⟩)
  unfold getL
  rw [List.find?_eq_none.mpr fun e he => by rw [(hall e he).1]; exact Bool.false_ne_true]
  dsimp only
  have : es.any (fun x => x.refKey) = false := by
    rw [List.any_eq_false]; intro e he; rw [(hall e he).2]; exact Bool.false_ne_true
  rw [this]; rfl

inductive FPut (x : Str) (V : Value) : List (Str × Value) → List (Str × Value) → Prop
  | head {o r} : FPut x V ((x, o) :: r) ((x, V) :: r)
  | tail {p r r'} : FPut x V r r' → FPut x V (p :: r) (p :: r')
theorem FPut.names {x : Str} {V : Value} {fs fs' : List (Str × Value)} (h : FPut x V fs fs') : fs'.map (·.1) = fs.map (·.1) := by
  induction h with
  | head => rfl
  | tail _ ih => simp only [List.map_cons, ih]
theorem FPut.was {x : Str} {V : Value} {fs fs' : List (Str × Value)} (h : FPut x V fs fs') : ∃ o, (x, o) ∈ fs := by
  induction h with
  | head => exact ⟨_, .head _⟩
  | tail _ ih => obtain ⟨o, ho⟩ := ih; exact ⟨o, .tail _ ho⟩
theorem FPut.len {x : Str} {V : Value} {fs fs' : List (Str × Value)} (h : FPut x V fs fs') : fs'.length = fs.length := by
  have := congrArg List.length h.names; simpa using this
theorem FRep.len {P : Params} : ∀ {es : List DictEntry} {fs : List (Str × Value)}, FRep P es fs → es.length = fs.length := by
  intro es
  induction es with
  | nil =>
    intro fs h
    cases fs with
    | nil => rfl
    | cons f fs => exact h.elim
  | cons e es ih =>
    intro fs h
    cases fs with
    | nil => exact h.elim
    | cons f fs => rw [List.length_cons, List.length_cons, ih h.2]
theorem FRep.put {P : Params} {x : Str} {V v key : Value} {hsh : Int} {es : List DictEntry} {fs fs' : List (Str × Value)} (h : FRep P es fs) (hn : (fs.map (·.1)).Nodup) (hp : FPut x V fs fs') (hv : er v = V) : FRep P (putL x hsh key v es) fs' := by
  induction hp generalizing es with
  | @head o r =>
    cases es with
    | nil => exact h.elim
    | cons e es =>
      refine hide fun S0 hS0 => ?_
      obtain ⟨⟨⟨t, hk⟩, hh, _⟩, hr⟩ := h
      refine hS0 ?_
      clear hS0 S0
      unfold putL
      rw [hk, isStr_iff, if_pos (by simp)]
      exact ⟨⟨⟨t, rfl⟩, hh, hv⟩, hr⟩
  | @tail p r r' hp ih =>
    rw [List.map_cons, List.nodup_cons] at hn
    cases es with
    | nil => exact h.elim
    | cons e es =>
      obtain ⟨he, hr⟩ := h
      refine hide fun S0 hS0 => ?_
      obtain ⟨⟨t, hk⟩, hh, hvv⟩ := he
      refine hS0 ?_
      clear hS0 S0
      unfold putL
      obtain ⟨o, ho⟩ := hp.was
      have hne : p.1 ≠ x := fun q => hn.1 (q ▸ List.mem_map.mpr ⟨(x, o), ho, rfl⟩)
      rw [hk, isStr_iff, if_neg (by simp [hne])]
      exact ⟨⟨⟨t, hk⟩, hh, hvv⟩, ih hr hn.2⟩
theorem FRep.add {P : Params} {x : Str} {V v : Value} {t : Tok} : ∀ {es : List DictEntry} {fs : List (Str × Value)}, FRep P es fs → x ∉ fs.map (·.1) → er v = V → FRep P (putL x (PyData.keyHash P x) (.str x t) v es) (fs ++ [(x, V)]) := by
  intro es
  induction es with
  | nil =>
    intro fs h _ hv
    cases fs with
    | nil => exact ⟨⟨⟨_, rfl⟩, rfl, hv⟩, trivial⟩
    | cons f fs => exact h.elim
  | cons e es ih =>
    intro fs h hx hv
    cases fs with
    | nil => exact h.elim
    | cons f fs =>
      refine hide fun S0 hS0 => ?_
      obtain ⟨⟨⟨u, hk⟩, hh, hvv⟩, hr⟩ := h
      refine hS0 ?_
      clear hS0 S0
      rw [List.map_cons, List.mem_cons, not_or] at hx
      unfold putL
      rw [hk, isStr_iff, if_neg (by simp [Ne.symm hx.1])]
      exact ⟨⟨⟨u, hk⟩, hh, hvv⟩, ih hr hx.2 hv⟩

/-- what the class C says of a stored attribute -/
structure AttrOK (K : Frag) (C : Addr) (name : Str) : Prop where
  pg : plainGet K C name = true
  hd : hasDictIn K C = true
  fi : ∃ attr, findIn K (.ref C) name = some attr ∧ noGet K attr = true
structure ClsOK (K : Frag) (C : Addr) : Prop where
  sa : findIn K (.ref C) "__setattr__" = some (some (.builtin "object.__setattr__"))
  po : plainOver K C = true
  hd : hasDictIn K C = true

section
variable {c : Cx} {μ : AM} {σ : AH} {Q : Value → AH → Prop}
theorem op_get {x C : Addr} {fs : List (Str × Value)} {name : Str} {V : Value} {e : Bool} (ok : c.OK) (hx : σ x = some (.inst C fs)) (hm : (name, V) ∈ fs) (hA : AttrOK c.K C name) (hv : handedIn V = true) (h : Q V σ) : OP c (getAttr (.ref x) name e) σ Q := by
  intro Φ μ s E Q' S k
  refine Sta.el S fun m ml news δ prot W => ?_
  refine hide fun S0 hS0 => ?_
  obtain ⟨es, n, h1, h2, I, hf, hn, _⟩ := W.isInst hx
  refine hS0 ?_
  clear hS0 S0
  obtain ⟨v, hg, ev⟩ := hf.get hn hm
  obtain ⟨attr, ha, hno⟩ := hA.fi
  exact get_own W.F ok.X I hA.pg hA.hd ha hno hg (by rw [← handedIn_er, ev]; exact hv) (k v σ _ (by rw [ev]; exact h) S.toks)

theorem Upd.at_end {d : Addr} {o o' : Obj} : ∀ {l : List (Addr × Obj)}, (∀ p ∈ l, p.1 ≠ d) → Upd d o o' (l ++ [(d, o)]) (l ++ [(d, o')])
  | [], _ => .head fun _ h => nomatch h
  | p :: r, h => .tail (h p (.head _)) (Upd.at_end fun q hq => h q (.tail _ hq))

theorem set_any {x C : Addr} {fs fs' : List (Str × Value)} {name : Str} {v : Value} {Φ : List (Addr × Obj)} {s : Shared} {E : Value → Shared → Prop} {Q' : Unit → Shared → Prop} (ok : c.OK) (S : Sta c Φ μ σ s) (hx : σ x = some (.inst C fs)) (hC : ClsOK c.K C) (ht : takerIn c.K C name = some none)
    (hn' : (fs'.map (·.1)).Nodup) (hl' : fs'.length ≤ 200)
    (hput : ∀ es t, FRep c.w.params es fs → FRep c.w.params (putL name (PyData.keyHash c.w.params name) (.str name t) v es) fs' ∧ (getL name es).isSome = true)
    (k : ∀ s', Sta c Φ μ (σ.set x (.inst C fs')) s' → Q' () s') : wpAny c.M c.A (setAttr (.ref x) name v) Q' E s := by
  refine Sta.el S fun m ml news δ prot W => ?_
  refine hide fun S0 hS0 => ?_
  obtain ⟨es, n, h1, h2, I, hf, hn, _⟩ := W.isInst hx
  refine hS0 ?_
  clear hS0 S0
  obtain ⟨hf', hsome⟩ := hput es (s.toks + 1) hf
  let pre := news.filter fun p => decide (p.1 ≠ δ x)
  have hpre : ∀ p ∈ pre, p.1 ≠ δ x := fun p hp => by simpa using (List.mem_filter.mp hp).2
  have N1 : News c.h₀ c.L s.heap (pre ++ [(δ x, dictOf es n)]) := fun p hp => by
    rcases List.mem_append.mp hp with q | q
    · exact W.N p (List.mem_filter.mp q).1
    · rw [List.mem_singleton.mp q]; exact W.N _ h2
  have hlen : (putL name (PyData.keyHash c.w.params name) (.str name (s.toks + 1)) v es).length ≤ 1000 := by
    rw [hf'.len]; lia -abstractProof
  refine set_dict W.F ok.X N1 I rfl hC.sa hC.po ht hC.hd hsome rfl (Upd.at_end hpre) hlen fun h' F' N' => ?_
  refine k _ ⟨m, ml, _, δ, prot, W.updN hx (Eq.refl _) (oc' := dictOf (putL name (PyData.keyHash c.w.params name) (.str name (s.toks + 1)) v es) (putN name es n)) F' (fun p hp => ?_) ?_⟩
  · obtain ⟨p0, hp0, e⟩ := List.mem_map.mp hp
    by_cases hd : p0.1 = δ x
    · rw [if_pos (show p0.1 = heldAt δ x (.inst C fs) from hd)] at e; subst e
      exact N' _ (List.mem_append_right _ (.head _))
    · rw [if_neg (show ¬ p0.1 = heldAt δ x (.inst C fs) from hd)] at e; subst e
      exact N' _ (List.mem_append_left _ (List.mem_filter.mpr ⟨hp0, by simpa using hd⟩))
  · have hne : x ≠ δ x := fun q => by have := W.H.sep x C fs hx; rw [← q, hx] at this; cases this
    exact ⟨hn', hl', mem_updL_ne h1 hne, _, _, mem_updL_self h2, hf'⟩

/-! ## targets -/
noncomputable def AS (c : Cx) (t : Expr) (V : Value) (μ : AM) (σ : AH) (Q : AM → AH → Prop) : Prop :=
  ∀ Φ s E Q' v, er v = V → Sta c Φ μ σ s → (∀ μ' σ' s', Q μ' σ' → Sta c Φ μ' σ' s' → Q' () s') → wpAny c.M c.A (assign t c.env v) Q' E s
end
section
variable {c : Cx} {μ : AM} {σ : AH} {Q : AM → AH → Prop} {V : Value}
theorem as_name {x : Str} {pos : Pos} {μ' : AM} (ok : c.OK) (okl : c.Fn) (hp : Put x V μ μ') (h : Q μ' σ) : AS c (.Name x pos) V μ σ Q := by
  intro Φ s E Q' v ev S k
  subst ev
  exact wpAny_assign_Name (store_name ok hp S (fun _ => okl.m) (.inl okl) fun s' S' => k _ _ _ h S')
theorem as_nameC {x : Str} {pos : Pos} {μ' : AM} (ok : c.OK) (hne : c.env.locals ≠ c.L) (okl : c.env.kindOf x = some .local) (hp : Put x V μ μ') (h : Q μ' σ) : AS c (.Name x pos) V μ σ Q := by
  intro Φ s E Q' v ev S k
  subst ev
  exact wpAny_assign_Name (store_name ok hp S (fun e => absurd e hne) (.inr okl) fun s' S' => k _ _ _ h S')
theorem assign_attr_ {M : Model} {A : Around} {E : Value → Shared → Prop} {s : Shared} {env : Env} {o : Expr} {attr : Str} {pos : Pos} {v : Value} {Q : Unit → Shared → Prop}
    (h : wpAny M A (eval o env) (fun ov s₂ => wpAny M A (setAttr ov attr v) Q E s₂) E s) : wpAny M A (assign (.Attribute o attr pos) env v) Q E s := fun Γ p hΓ => by
  simp only [assign_Attribute, Sem.wp_bind', Sem.wp_holding, Sem.wp_cmd_standAt, Sem.wp_release, Sem.wp_pure']
  exact Sem.wp_mono M Γ _ (fun ov _ s₂ h₂ => h₂ Γ _ hΓ) (fun _ _ _ h' => h') _ _ (h Γ _ hΓ)
theorem as_attr {o : Expr} {attr : Str} {pos : Pos} (ok : c.OK)
    (h : EV c o μ σ fun O σ1 => ∃ x C fs fs', O = .ref x ∧ σ1 x = some (.inst C fs) ∧ FPut attr V fs fs' ∧ ClsOK c.K C ∧ takerIn c.K C attr = some none ∧ Q μ (σ1.set x (.inst C fs'))) : AS c (.Attribute o attr pos) V μ σ Q := by
  intro Φ s E Q' v ev S k
  refine assign_attr_ (h Φ s E _ S fun ov σ1 s1 h1 S1 => ?_)
  refine hide fun S0 hS0 => ?_
  obtain ⟨x, C, fs, fs', eO, hx, hp, hC, ht, hq⟩ := h1
  refine hS0 ?_
  clear hS0 S0
  rw [er_ref eO]
  refine Sta.el S1 fun m ml news δ prot W => ?_
  obtain ⟨hn, hl⟩ := W.fldNd hx
  refine set_any ok S1 hx hC ht (by rw [hp.names]; exact hn) (by rw [hp.len]; exact hl) (fun es t hf => ⟨hf.put hn hp ev, ?_⟩) fun s' S' => k _ _ _ hq S'
  obtain ⟨o', ho'⟩ := hp.was
  obtain ⟨v', hv', _⟩ := hf.get hn ho'
  rw [hv']; rfl
theorem as_attr_new {o : Expr} {attr : Str} {pos : Pos} (ok : c.OK)
    (h : EV c o μ σ fun O σ1 => ∃ x C fs, O = .ref x ∧ σ1 x = some (.inst C fs) ∧ attr ∉ fs.map (·.1) ∧ fs.length < 200 ∧ ClsOK c.K C ∧ takerIn c.K C attr = some none ∧ Q μ (σ1.set x (.inst C (fs ++ [(attr, V)])))) : AS c (.Attribute o attr pos) V μ σ Q := by
  intro Φ s E Q' v ev S k
  refine assign_attr_ (h Φ s E _ S fun ov σ1 s1 h1 S1 => ?_)
  refine hide fun S0 hS0 => ?_
  obtain ⟨x, C, fs, eO, hx, hp, hlt, hC, ht, hq⟩ := h1
  refine hS0 ?_
  clear hS0 S0
  rw [er_ref eO]
  refine Sta.el S1 fun m ml news δ prot W => ?_
  obtain ⟨hn, hl⟩ := W.fldNd hx
  refine set_any ok S1 hx hC ht ?_ (by simp; lia -abstractProof) (fun es t hf => ⟨hf.add hp ev, ?_⟩) fun s' S' => k _ _ _ hq S'
  · rw [List.map_append, List.nodup_append]
    refine ⟨hn, by simp, fun a ha b hb => ?_⟩
    simp only [List.map_cons, List.map_nil, List.mem_singleton] at hb
    subst hb
    exact fun e => hp (e ▸ ha)
  · rw [hf.none hp]; rfl

/-! ## items -/
theorem assign_sub_to {M : Model} {A : Around} {E : Value → Shared → Prop} {s : Shared} {env : Env} {o i : Expr} {pos : Pos} {v : Value} {Q : Unit → Shared → Prop} (r : Value → Value → List Value)
    (h : wpAny M A (eval o env) (fun ov s₂ => wpAny M A (eval i env) (fun iv s₃ => wpAny M A (setItem ov iv v) Q E s₃) E s₂) E s) : wpAny M A (do
      let ov ← holding [v] (eval o env)
      let iv ← holding [v, ov] (eval i env)
      standAt pos
      holding [v, ov, iv] (setItem ov iv v)
      release (r ov iv) []) Q E s := by
  intro Γ p hΓ
  simp only [Sem.wp_bind', Sem.wp_holding, Sem.wp_cmd_standAt, Sem.wp_release, Sem.wp_pure']
  exact Sem.wp_mono M Γ _ (fun ov _ s₂ h₂ => Sem.wp_mono M Γ _ (fun iv _ s₃ h₃ => h₃ Γ _ hΓ) (fun _ _ _ h' => h') _ _ (h₂ Γ _ hΓ)) (fun _ _ _ h' => h') _ _ (h Γ _ hΓ)
theorem assign_sub_ {M : Model} {A : Around} {E : Value → Shared → Prop} {s : Shared} {env : Env} {o i : Expr} {pos : Pos} {v : Value} {Q : Unit → Shared → Prop}
    (h : wpAny M A (eval o env) (fun ov s₂ => wpAny M A (eval i env) (fun iv s₃ => wpAny M A (setItem ov iv v) Q E s₃) E s₂) E s) : wpAny M A (assign (.Subscript o i pos) env v) Q E s :=
  (arm_assign_Subscript o i pos env v).symm ▸ assign_sub_to _ h

/-- setItem upon an abstract object -/
noncomputable def SI (c : Cx) (O I V : Value) (σ : AH) (Q : AH → Prop) : Prop :=
  ∀ Φ μ s E Q' o i v, er o = O → er i = I → er v = V → Sta c Φ μ σ s → (∀ σ' s', Q σ' → Sta c Φ μ σ' s' → Q' () s') → wpAny c.M c.A (setItem o i v) Q' E s
theorem as_sub {o i : Expr} {pos : Pos} (h : EV c o μ σ fun O σ1 => EV c i μ σ1 fun I σ2 => SI c O I V σ2 (Q μ)) : AS c (.Subscript o i pos) V μ σ Q := by
  intro Φ s E Q' v ev S k
  exact assign_sub_ (h Φ s E _ S fun ov σ1 s1 h1 S1 => h1 Φ s1 E _ S1 fun iv σ2 s2 h2 S2 => h2 Φ μ s2 E Q' ov iv v rfl rfl ev S2 fun σ' s' => k μ σ' s')
/-- a list's item stored: the list stays a plain one -/
theorem setItem_plain {prog : Program} {w : World} {A : Around} {E : Value → Shared → Prop} {s : Shared} {l : Addr} {items : Array Value} {n : Nat} {k : Int} {t : Tok} {v : Value} {Q : Unit → Shared → Prop} (ho : s.heap.get? l = some { cls := .type "list", data := .seq items n })
    (h0 : 0 ≤ k) (hfit : k < 2 ^ 63) (hn : k < items.size)
    (hQ : ∀ h', h'.get? l = some { cls := .type "list", data := .seq (items.setIfInBounds k.toNat v) n } → Heap.SameBut l s.heap h' → Q () { s with heap := h' }) :
    wpAny (model prog w) A (setItem (.ref l) (.int k t) v) Q E s := by
  have hT : s.TypeIs (.ref l) "list" := ⟨_, ho, rfl⟩
  have hix := fitsIndex_of h0 hfit
  clear hfit
  unfold setItem
  refine wpAny_holding ?_
  refine wpAny_bind (wpAny_sequenceKey hT (by decide) ?_)
  refine wpAny_bind (wpAny_callSpecial?_slot (name := Str.ofString "__setitem__") hT slot_list_setitem (wpAny_call_entry slot_list_setitem hT entry_list_setitem ?_ (args_list_setitem _ _ _)))
  show wpAny _ _ (Builtin.List.listSubscript? (.int k t) >>= _) _ _ s
  refine wpAny_bind (wpAny_listSubscript_int hix ?_)
  obtain ⟨j, rfl⟩ := Int.eq_ofNat_of_zero_le h0
  have hj : j < items.size := by lia -abstractProof
  have hx : items[j]? = some items[j] := Array.getElem?_eq_getElem hj
  show wpAny _ _ ((seqItemAt l j >>= fun r => pure (r.map (j, ·))) >>= _) _ _ s
  refine wpAny_bind (wpAny_bind (wpAny_seqItemAt ho rfl (wpAny_pure ?_)))
  rw [hx]
  have e : Obj.mapSeq (·.setIfInBounds j v) { cls := .type "list", data := .seq items n } = { cls := .type "list", data := .seq (items.setIfInBounds j v) n } := by simp [Obj.mapSeq]
  have hg : (s.heap.update l (Obj.mapSeq (·.setIfInBounds j v))).get? l = some { cls := .type "list", data := .seq (items.setIfInBounds j v) n } := by
    rw [Heap.get?_update_self _ ho (by rw [e]; rfl), e]
  show wpAny _ _ (setSeqItemAt l j v >>= _) _ _ s
  refine wpAny_bind (wpAny_setSeqItemAt ho rfl ?_)
  first
    | exact wpAny_bind (wpAny_pure (wpAny_pure ⟨.none, rfl, wpAny_pure (hQ _ hg (Heap.SameBut.update ..))⟩))
    | exact wpAny_pure ⟨.none, rfl, wpAny_pure (hQ _ hg (Heap.SameBut.update ..))⟩
theorem si_list {a : Addr} {Vs : List Value} {k : Int} {Q : AH → Prop} (ha : σ a = some (.list Vs)) (h0 : 0 ≤ k) (h1 : k < Vs.length) (hs : Vs.length < 2 ^ 62) (h : Q (σ.set a (.list (Vs.set k.toNat V)))) : SI c (.ref a) (vi k) V σ Q := by
  intro Φ μ s E Q' o i v eo ei ev S kk
  rw [er_ref eo]; obtain ⟨t, rfl⟩ := er_int ei
  refine Sta.el S fun m ml news δ prot W => ?_
  refine hide fun S0 hS0 => ?_
  obtain ⟨vs, n, hm, hg, hl, e⟩ := W.isList ha
  refine hS0 ?_
  clear hS0 S0
  have hsz : vs.size = Vs.length := by rw [← e]; simp
  refine setItem_plain hg h0 (by lia -abstractProof) (by lia -abstractProof) fun h' hg' hs' => ?_
  refine kk _ _ h (W.upd ha trivial hm hs' hg' ⟨_, n, mem_updL_self hm, ?_⟩)
  rw [← e, ← ev]
  simp [List.map_set]
theorem si_dict {a : Addr} {fs fs' : List (Str × Value)} {x : Str} {Q : AH → Prop} (ha : σ a = some (.dict fs)) (hp : FPut x V fs fs') (h : Q (σ.set a (.dict fs'))) : SI c (.ref a) (.str x 0) V σ Q := by
  intro Φ μ s E Q' o i v eo ei ev S kk
  rw [er_ref eo]; obtain ⟨t, rfl⟩ := er_str ei
  refine Sta.el S fun m ml news δ prot W => ?_
  refine hide fun S0 hS0 => ?_
  obtain ⟨oc, kvs, hm, hd, e, hl⟩ := W.isDict ha
  refine hS0 ?_
  clear hS0 S0
  have hlen : kvs.length = fs.length := by rw [← e]; simp
  refine wpAny_setItem_pairs (knd := PySem.strKind c.prog c.w) (k := x) (by show Value.isStrOf x (.str x t) = true; simp [Value.isStrOf]) hd (fun h' hd' hs' => ?_) (by rw [hlen, sizeLine_eq]; lia -abstractProof)
  obtain ⟨oc', hg, hx⟩ := Heap.dictOf_iff.mp hd'
  refine kk _ _ h (W.upd ha trivial hm hs' hg ⟨oc', _, mem_updL_self hm, hx, ?_, by rw [hp.len]; exact hl⟩)
  have hnd : (kvs.map (·.1)).Nodup := by obtain ⟨_, _, _, _, _, _, _, _, hn⟩ := hd; exact hn
  obtain ⟨o0, ho0⟩ := hp.was
  have key : ∀ (kvs : List (Str × Value)) (fs fs' : List (Str × Value)), FPut x V fs fs' → kvs.map (fun kv => (kv.1, er kv.2)) = fs → (kvs.map (·.1)).Nodup → (stored kvs x v).map (fun kv => (kv.1, er kv.2)) = fs' := by
    intro kvs fs fs' hp e hnd
    have hany : kvs.any (fun kv => decide (kv.1 = x)) = true := by
      obtain ⟨o1, ho1⟩ := hp.was
      rw [← e] at ho1
      obtain ⟨kv, hkv, q⟩ := List.mem_map.mp ho1
      exact List.any_eq_true.mpr ⟨kv, hkv, decide_eq_true (congrArg Prod.fst q)⟩
    unfold stored
    rw [if_pos hany]
    clear hany
    induction hp generalizing kvs with
    | @head o r =>
      cases kvs with
      | nil => cases e
      | cons kv kvs =>
        rw [List.map_cons] at e
        obtain ⟨e1, e2⟩ := List.cons.inj e
        have hk1 : kv.1 = x := congrArg Prod.fst e1
        rw [List.map_cons, List.nodup_cons] at hnd
        rw [List.map_cons, List.map_cons, if_pos hk1, map_store_of_not_mem kvs x v (by rw [← hk1]; exact hnd.1), e2, hk1, ev]
    | @tail p r r' hp ih =>
      cases kvs with
      | nil => cases e
      | cons kv kvs =>
        rw [List.map_cons] at e
        obtain ⟨e1, e2⟩ := List.cons.inj e
        rw [List.map_cons, List.nodup_cons] at hnd
        have hne : kv.1 ≠ x := fun q => by
          obtain ⟨o1, ho1⟩ := hp.was
          rw [← e2] at ho1
          obtain ⟨kv', hkv', q'⟩ := List.mem_map.mp ho1
          exact hnd.1 (q.trans (congrArg Prod.fst q').symm ▸ List.mem_map.mpr ⟨kv', hkv', rfl⟩)
        rw [List.map_cons, List.map_cons, if_neg hne, ih _ e2 hnd.2, e1]
  exact key kvs fs fs' hp e hnd
end
noncomputable def noStar : Expr → Bool
  | .Starred .. => false
  | _ => true
theorem starEach_cons {e : Expr} {rest : List Expr} {env : Env} (h : noStar e = true) : starEach (e :: rest) env = (false, eval e env) :: starEach rest env := by
  cases e <;> first | rfl | cases h
theorem starEach_plain {env : Env} {pos : Pos} : ∀ {es : List Expr}, es.all noStar = true → (backTo pos (starEach es env)).any (·.1) = false
  | [], _ => rfl
  | e :: es, h => by
    rw [List.all_cons, Bool.and_eq_true] at h
    rw [starEach_cons h.1]
    show (false || (backTo pos (starEach es env)).any (·.1)) = false
    rw [starEach_plain h.2]; rfl

section
variable {c : Cx} {μ : AM} {σ : AH}
theorem EVs.mono {es : List Expr} {Q Q' : List Value → AH → Prop} (h : EVs c es μ σ Q) (hq : ∀ v σ', Q v σ' → Q' v σ') : EVs c es μ σ Q' :=
  fun Φ s E R pos S k => h Φ s E R pos S fun v σ' s' x => k v σ' s' (hq _ _ x)
theorem evs_nil {Q : List Value → AH → Prop} (h : Q [] σ) : EVs c [] μ σ Q := fun Φ s E Q' pos S k => args_nil (k [] σ s h S)
theorem evs_cons {e : Expr} {es : List Expr} {Q : List Value → AH → Prop} (hs : noStar e = true) (h : EV c e μ σ fun v σ1 => EVs c es μ σ1 fun vs σ2 => Q (v :: vs) σ2) : EVs c (e :: es) μ σ Q :=
  fun Φ s E Q' pos S k => args_cons (h Φ s E _ S fun v σ1 s1 h1 S1 => h1 Φ s1 E _ pos S1 fun vs σ2 s2 h2 S2 => k (v :: vs) σ2 s2 h2 S2) (starEach_cons hs)

/-! ## attributes and items read -/
theorem ev_attr {value : Expr} {attr : Str} {pos : Pos} {Q : Value → AH → Prop} (hb : ∀ env whole, attributeBase value attr env whole = whole)
    (h : EV c value μ σ fun o σ1 => ∀ v, er v = o → OP c (getAttr v attr true) σ1 Q) : EV c (.Attribute value attr pos) μ σ Q := by
  intro Φ s E Q' S k
  have e : eval (.Attribute value attr pos) c.env = (do
    let o ← attributeBase value attr c.env (eval value c.env)
    standAt pos.atName
    let r ← holding [o] (getAttr o attr true)
    letTemporaryGo value o r
    pure r) := arm_eval_Attribute ..
  rw [e, hb]
  exact wpAny_bind (h Φ s E _ S fun v σ1 s1 h1 S1 => wpAny_bind (wpAny_standAt (wpAny_bind (wpAny_holding (h1 v rfl Φ μ s1 E _ S1 fun r σ2 s2 h2 S2 => wpAny_bind (wpAny_letTemporaryGo (wpAny_pure (k r σ2 s2 h2 S2))))))))
/-- an attribute of an object at hand -/
theorem ev_get {value : Expr} {attr : Str} {pos : Pos} {Q : Value → AH → Prop} (hb : ∀ env whole, attributeBase value attr env whole = whole) (ok : c.OK)
    (h : EV c value μ σ fun o σ1 => ∃ x C fs V, o = .ref x ∧ σ1 x = some (.inst C fs) ∧ (attr, V) ∈ fs ∧ AttrOK c.K C attr ∧ handedIn V = true ∧ Q V σ1) : EV c (.Attribute value attr pos) μ σ Q :=
  ev_attr hb (h.mono fun o σ1 h v ev => by
    refine hide fun S0 hS0 => ?_
    obtain ⟨x, C, fs, V, eo, hx, hm, hA, hv, hq⟩ := h
    refine hS0 ?_
    clear hS0 S0
    subst eo; rw [er_ref ev]; exact op_get ok hx hm hA hv hq)

/-- getItem upon an abstract object -/
noncomputable def GI (c : Cx) (O I : Value) (σ : AH) (Q : Value → AH → Prop) : Prop := ∀ o i, er o = O → er i = I → OP c (getItem o i) σ Q
noncomputable def getsByName (slice : Expr) : Prop := ∀ o i, subscripted slice false o i = operate [o, i] (getItem o i)
inductive GetT (σ : AH) : Value → String → Prop
  | list {a Vs} : σ a = some (.list Vs) → GetT σ (.ref a) "list"
  | tup {a Vs} : σ a = some (.tup Vs) → GetT σ (.ref a) "tuple"
  | dict {a fs} : σ a = some (.dict fs) → GetT σ (.ref a) "dict"
  | bytes {b} : GetT σ (.bytes b 0) "bytes"
theorem GetT.typeIs {Φ : List (Addr × Obj)} {s : Shared} {O : Value} {T : String} {o : Value} (h : GetT σ O T) (S : Sta c Φ μ σ s) (e : er o = O) : s.TypeIs o T ∧ ∃ id, typeLookup (.type T) "__getitem__" = pure (some (.builtin id)) := by
  refine Sta.el S fun m ml news δ prot W => ?_
  cases h with
  | list ha => refine W.elL ha fun vs hl _ => ?_; rw [er_ref e]; exact ⟨hl.typeIs, _, slot_list_getitem.lookup⟩
  | tup ha => refine W.elT ha fun vs hl _ => ?_; rw [er_ref e]; exact ⟨hl.typeIs, _, PySem.F.slot_tuple_getitem.lookup⟩
  | dict ha => refine W.elD ha fun kvs hl _ _ => ?_; rw [er_ref e]; exact ⟨hl.typeIs, _, slot_dict_getitem.lookup⟩
  | bytes => obtain ⟨t, rfl⟩ := er_bytes e; exact ⟨typeIs_bytes s _ t, _, FB.slot_bytes_getitem.lookup⟩
theorem ev_sub {value slice : Expr} {pos : Pos} {Q : Value → AH → Prop} (hs : getsByName slice)
    (h : EV c value μ σ fun O σ1 => EV c slice μ σ1 fun I σ2 => (∃ T, GetT σ2 O T) ∧ GI c O I σ2 Q) : EV c (.Subscript value slice pos) μ σ Q := by
  intro Φ s E Q' S k
  refine Subscript_ (h Φ s E _ S fun o σ1 s1 h1 S1 => h1 Φ s1 E _ S1 fun i σ2 s2 h2 S2 => ?_)
  obtain ⟨⟨T, hT⟩, hg⟩ := h2
  obtain ⟨ht, id, hl⟩ := hT.typeIs S2 rfl
  exact tail_any ht hl (hg o i rfl rfl Φ μ s2 E Q' S2 k) (hs o i)
theorem gi_list {a : Addr} {Vs : List Value} {k : Int} {V : Value} {Q : Value → AH → Prop} (ha : σ a = some (.list Vs)) (h0 : 0 ≤ k) (h1 : k < 2 ^ 62) (hV : Vs[k.toNat]? = some V) (h : Q V σ) : GI c (.ref a) (vi k) σ Q := by
  intro o i eo ei Φ μ s E Q' S kk
  rw [er_ref eo]; obtain ⟨t, rfl⟩ := er_int ei
  refine Sta.el S fun m ml news δ prot W => ?_
  refine W.elL ha fun vs hl e => ?_
  subst e
  rw [List.getElem?_map] at hV
  obtain ⟨v, hv, ev⟩ := Option.map_eq_some_iff.mp hV
  exact wpAny_getItem_list hl h0 (by lia -abstractProof) (by simpa using hv) (kk v σ s (by rw [ev]; exact h) S)
theorem gi_listneg {a : Addr} {Vs : List Value} {k : Int} {V : Value} {Q : Value → AH → Prop} (ha : σ a = some (.list Vs)) (h0 : k < 0) (h1 : -(Vs.length : Int) ≤ k) (h2 : -2 ^ 63 ≤ k) (hV : Vs[(k + Vs.length).toNat]? = some V) (h : Q V σ) : GI c (.ref a) (vi k) σ Q := by
  intro o i eo ei Φ μ s E Q' S kk
  rw [er_ref eo]; obtain ⟨t, rfl⟩ := er_int ei
  refine Sta.el S fun m ml news δ prot W => ?_
  refine W.elL ha fun vs hl e => ?_
  subst e
  rw [List.getElem?_map] at hV
  obtain ⟨v, hv, ev⟩ := Option.map_eq_some_iff.mp hV
  have hsz : (vs.toList.map er).length = vs.size := by simp
  rw [hsz] at h1 hv
  exact wpAny_getItem_list_neg hl h0 h1 h2 (by simpa using hv) (kk v σ s (by rw [ev]; exact h) S)
theorem gi_tup {a : Addr} {Vs : List Value} {k : Int} {V : Value} {j : Nat} {Q : Value → AH → Prop} (ha : σ a = some (.tup Vs)) (h0 : -2 ^ 63 ≤ k) (h1 : k < 2 ^ 63) (hj : seqIndex? k Vs.length = some j) (hV : Vs[j]? = some V) (h : Q V σ) : GI c (.ref a) (vi k) σ Q := by
  intro o i eo ei Φ μ s E Q' S kk
  rw [er_ref eo]; obtain ⟨t, rfl⟩ := er_int ei
  refine Sta.el S fun m ml news δ prot W => ?_
  refine W.elT ha fun vs hl e => ?_
  subst e
  rw [List.getElem?_map] at hV
  obtain ⟨v, hv, ev⟩ := Option.map_eq_some_iff.mp hV
  exact PyProof.Rows.getItem_tuple hl h0 h1 (by simpa using hj) (by simpa using hv) (kk v σ s (by rw [ev]; exact h) S)
theorem valueAt_mem {x : Str} {v : Value} : ∀ {kvs : List (Str × Value)}, (kvs.map (·.1)).Nodup → (x, v) ∈ kvs → valueAt kvs x = some v
  | kv :: kvs, hn, hm => by
    rw [List.map_cons, List.nodup_cons] at hn
    unfold valueAt
    rw [List.find?_cons]
    rcases List.mem_cons.mp hm with e | hm
    · subst e; simp
    · have hne : kv.1 ≠ x := fun z => hn.1 (z ▸ List.mem_map.mpr ⟨(x, v), hm, rfl⟩)
      simp only [decide_eq_false hne]
      exact valueAt_mem hn.2 hm
theorem gi_dict {a : Addr} {fs : List (Str × Value)} {x : Str} {V : Value} {Q : Value → AH → Prop} (ha : σ a = some (.dict fs)) (hm : (x, V) ∈ fs) (h : Q V σ) : GI c (.ref a) (.str x 0) σ Q := by
  intro o i eo ei Φ μ s E Q' S kk
  rw [er_ref eo]; obtain ⟨t, rfl⟩ := er_str ei
  refine Sta.el S fun m ml news δ prot W => ?_
  refine W.elD ha fun kvs hd e hle => ?_
  clear hle
  subst e
  have hnd : (kvs.map (·.1)).Nodup := by obtain ⟨_, _, _, _, _, _, _, _, hn⟩ := hd; exact hn
  obtain ⟨kv, hkv, q⟩ := List.mem_map.mp hm
  have hval : valueAt kvs x = some kv.2 := valueAt_mem hnd (by rw [← (show kv.1 = x from congrArg Prod.fst q)]; exact hkv)
  have hq : er kv.2 = V := congrArg Prod.snd q
  exact wpAny_getItem_of (knd := PySem.strKind c.prog c.w) (k := x) (by show Value.isStrOf x (.str x t) = true; simp [Value.isStrOf]) hd.mapOf hval (kk kv.2 σ _ (by rw [hq]; exact h) S.toks)

/-! ## displays -/
theorem ev_list {es : List Expr} {pos : Pos} {Q : Value → AH → Prop} (h : EVs c es μ σ fun Vs σ1 => Vs.length ≤ 1000 ∧ ∀ a, σ1 a = none → Q (.ref a) (σ1.set a (.list Vs))) : EV c (.List es pos) μ σ Q := by
  intro Φ s E Q' S k
  refine wpAny_List_spliced (h Φ s E _ pos S fun vs σ1 s1 h1 S1 => ?_)
  obtain ⟨hl, hq⟩ := h1
  rw [List.length_map] at hl
  have hn : s1.heap.get? s1.heap.objs.size = none := Heap.get?_none_of_le (Nat.le_refl _)
  refine ⟨by rw [sizeLine_eq]; lia -abstractProof, k _ _ _ (hq _ (S1.fresh hn)) (S1.alloc (tk := s1.toks) (fun b o e => Heap.get?_push_of_some _ e) hn (Heap.get?_push_size _ rfl) ⟨_, _, .head _, ?_⟩ (fun _ _ e => nomatch e))⟩
  simp
theorem ev_tuple {es : List Expr} {x1 : Nat} {pos : Pos} {Q : Value → AH → Prop} (h : EVs c es μ σ fun Vs σ1 => Vs.length ≤ 1000 ∧ ∀ a, σ1 a = none → Q (.ref a) (σ1.set a (.tup Vs))) : EV c (.Tuple es x1 pos) μ σ Q := by
  intro Φ s E Q' S k
  refine wpAny_Tuple_spliced (h Φ s E _ pos S fun vs σ1 s1 h1 S1 => ?_)
  obtain ⟨hl, hq⟩ := h1
  rw [List.length_map] at hl
  have hn : s1.heap.get? s1.heap.objs.size = none := Heap.get?_none_of_le (Nat.le_refl _)
  refine ⟨by rw [sizeLine_eq]; lia -abstractProof, k _ _ _ (hq _ (S1.fresh hn)) (S1.alloc (tk := s1.toks) (fun b o e => Heap.get?_push_of_some _ e) hn (Heap.get?_push_size _ rfl) ⟨_, .head _, rfl, _, _, rfl, ?_⟩ (fun _ _ e => nomatch e))⟩
  simp

/-! ## calls -/
/-- the call itself, of a value upon values -/
noncomputable def CA (c : Cx) (f : Value) (Vs : List Value) (σ : AH) (Q : Value → AH → Prop) : Prop := ∀ vals, vals.map er = Vs → OP c (call f vals) σ Q
noncomputable def CW (c : Cx) (F : Value) (first : List Value) (args : List Expr) (μ : AM) (σ : AH) (Q : Value → AH → Prop) : Prop :=
  ∀ Φ s E Q' pos f, er f = F → Sta c Φ μ σ s → (∀ v σ' s', Q (er v) σ' → Sta c Φ μ σ' s' → Q' v s') → wpAny c.M c.A (callWith pos f first (backTo pos (starEach args c.env)) (backToKw pos (keywordEach [] c.env))) Q' E s

theorem cw_of {F : Value} {first : List Value} {args : List Expr} {Q : Value → AH → Prop} (ok : c.OK) (hs : args.all noStar = true)
    (hk : ∀ h, c.K.In h → ∃ k, (k = Keeper.frame ∨ k = Keeper.machine ∨ k = Keeper.boundFrame) ∧ Looks c.M h (keeperOf F) k) (hF : ∀ f, er f = F → f = F)
    (h : EVs c args μ σ fun Vs σ1 => CA c F (first.map er ++ Vs) σ1 Q) : CW c F first args μ σ Q := by
  intro Φ s E Q' pos f ef S k
  rw [hF f ef]
  refine callWith_of (P := c.K.In) ?_ hk ?_
  · show ((backTo pos (starEach args c.env)).any (·.1) || false) = false
    rw [starEach_plain hs]; rfl
  · have key := h Φ s E (fun vs s₁ => c.K.In s₁.heap ∧ wpAny c.M c.A (call F (first ++ vs) []) Q' E s₁) pos S fun vs σ1 s1 h1 S1 => by
      refine ⟨?_, h1 (first ++ vs) (by simp) Φ μ s1 E Q' S1 k⟩
      refine Sta.el S1 fun m ml news δ prot W => ?_
      exact ok.X.keeps W.F.keep
    cases args with
    | nil =>
      unfold evalArgs
      show wpAny _ _ (spliced [] >>= _) _ E s
      refine wpAny_bind (wpAny_mono key (fun vs s' h' => ?_) fun _ _ x => x)
      refine wpAny_holding ?_
      exact wpAny_bind (wpAny_pure (wpAny_bind (wpAny_pure (wpAny_pure h'))))
    | cons e es =>
      rw [List.all_cons, Bool.and_eq_true] at hs
      rw [starEach_cons hs.1] at key ⊢
      exact evalArgs_plain key
end
noncomputable def retv : Flow → Value
  | .ret v => v
  | _ => .none

section
variable {c : Cx} {μ : AM} {σ : AH} {Q : Value → AH → Prop}
theorem ev_call {func : Expr} {args : List Expr} {pos : Pos}
    (hshape : ∀ env, eval (.Call func args [] pos) env = (do callWith pos (← eval func env) [] (backTo pos (starEach args env)) (backToKw pos (keywordEach [] env))))
    (h : EV c func μ σ fun F σ1 => CW c F [] args μ σ1 Q) : EV c (.Call func args [] pos) μ σ Q := by
  intro Φ s E Q' S k
  rw [hshape]
  exact wpAny_bind (h Φ s E _ S fun f σ1 s1 h1 S1 => h1 Φ s1 E Q' pos f rfl S1 k)
noncomputable def GM (c : Cx) (O : Value) (name : Str) (σ : AH) (R : Value → List Value → Prop) : Prop :=
  ∀ o, er o = O → ∀ pl Φ μ s E Q', Sta c Φ μ σ s → (∀ f first s', R f first → Sta c Φ μ σ s' → Q' (f, first) s') → wpAny c.M c.A (getMethod o name pl) Q' E s
theorem ev_mcall {o : Expr} {name : Str} {apos pos : Pos} {args : List Expr}
    (hshape : ∀ env, ∃ pl, eval (.Call (.Attribute o name apos) args [] pos) env = (do
      let ov ← eval o env
      standAt apos.atName
      let (f, first) ← holding [ov] (getMethod ov name pl)
      callWith pos f first (backTo pos (starEach args env)) (backToKw pos (keywordEach [] env))))
    (h : EV c o μ σ fun O σ1 => GM c O name σ1 fun f first => CW c (er f) first args μ σ1 Q) : EV c (.Call (.Attribute o name apos) args [] pos) μ σ Q := by
  intro Φ s E Q' S k
  obtain ⟨pl, e⟩ := hshape c.env
  exact methodCall_KW (kws := []) (h Φ s E _ S fun ov σ1 s1 h1 S1 => h1 ov rfl pl Φ μ s1 E _ S1 fun f first s2 h2 S2 => h2 Φ s2 E Q' pos f rfl S2 k) e
theorem gm_inst {x C f : Addr} {fs : List (Str × Value)} {name : Str} {R : Value → List Value → Prop} (ok : c.OK) (hx : σ x = some (.inst C fs)) (hg : plainGet c.K C name = true) (hf : findIn c.K (.ref C) name = some (some (.ref f))) (ht : isFn c.K (.ref f) = true)
    (hn : name ∉ fs.map (·.1)) (h : R (.ref f) [.ref x]) : GM c (.ref x) name σ R := by
  intro o eo pl Φ μ s E Q' S k
  rw [er_ref eo]
  refine Sta.el S fun m ml news δ prot W => ?_
  refine hide fun S0 hS0 => ?_
  obtain ⟨es, n, h1, h2, I, hfr, _, _⟩ := W.isInst hx
  refine hS0 ?_
  clear hS0 S0
  exact method_inst W.F ok.X I hg hf ht (hfr.none hn) (k _ _ s h S)
theorem gm_cls {C : Addr} {mc a : Value} {name : Str} {R : Value → List Value → Prop} (ok : c.OK) (hg : specialIn c.K (.ref C) "__getattribute__" = some (some (.builtin "type.__getattribute__")))
    (hm : typeIn c.K (.ref C) = some mc) (hr : readsIn c.K C mc = true) (e : findCls c.K (.ref C) mc name = some (.val a)) (hh : handedIn a = true) (h : R a []) : GM c (.ref C) name σ R := by
  intro o eo pl Φ μ s E Q' S k
  rw [er_ref eo]
  refine Sta.el S fun m ml news δ prot W => ?_
  exact method_of_cls W.F ok.X hg (cls_val W.F ok.X hm hr e hh (k _ _ _ h S.toks))
theorem gm_append {a : Addr} {Vs : List Value} {R : Value → List Value → Prop} (ha : σ a = some (.list Vs)) (h : R (.builtin "list.append") [.ref a]) : GM c (.ref a) "append" σ R := by
  intro o eo pl Φ μ s E Q' S k
  rw [er_ref eo]
  refine Sta.el S fun m ml news δ prot W => ?_
  refine hide fun S0 hS0 => ?_
  obtain ⟨vs, n, _, hg, _, _⟩ := W.isList ha
  refine hS0 ?_
  clear hS0 S0
  exact getMethod_list_append hg rfl rfl (k _ _ s h S)

theorem cw_K {f : Addr} {first : List Value} {args : List Expr} (ok : c.OK) (hk : keepIn c.K (.ref f) = true) (hs : args.all noStar = true)
    (h : EVs c args μ σ fun Vs σ1 => CA c (.ref f) (first.map er ++ Vs) σ1 Q) : CW c (.ref f) first args μ σ Q :=
  cw_of ok hs (fun h' X => keeps_K hk h' X) (fun _ => er_ref) h
theorem cw_type {T : String} {first : List Value} {args : List Expr} (ok : c.OK) (hs : args.all noStar = true)
    (h : EVs c args μ σ fun Vs σ1 => CA c (.type T) (first.map er ++ Vs) σ1 Q) : CW c (.type T) first args μ σ Q :=
  cw_of ok hs (fun h' X => ⟨.machine, .inr (.inl rfl), Looks.of_pure rfl⟩) (fun _ => er_type) h
theorem cw_builtin {T : String} {first : List Value} {args : List Expr} (ok : c.OK) (hs : args.all noStar = true)
    (h : EVs c args μ σ fun Vs σ1 => CA c (.builtin T) (first.map er ++ Vs) σ1 Q) : CW c (.builtin T) first args μ σ Q :=
  cw_of ok hs (fun h' X => ⟨.machine, .inr (.inl rfl), Looks.of_pure rfl⟩) (fun _ => er_builtin) h

theorem ca_fc {f : Value} {Vs : List Value} {n : Nat} (ok : c.OK) (hr : n ≤ c.room) (h : FC c.gl n f Vs σ Q) : CA c f Vs σ Q :=
  fun vals ev Φ μ s E Q' S k => wpAny_call (h c vals ok rfl hr ev Φ μ s _ S fun v σ' s' hq S' => k v σ' s' hq S')

/-! ## classes made -/
theorem weight_make (C : Addr) (pos : List Value) (kw : List (Str × Value)) : (Code.builtin "type.__call__" ⟨.ref C :: pos, kw⟩).weight = 1 ∧ (Code.builtin "type.__call__" ⟨.ref C :: pos, kw⟩).envs = [] ∧ (Code.builtin "type.__call__" ⟨.ref C :: pos, kw⟩).cUnits = 1 := ⟨rfl, rfl, rfl⟩
theorem ca_cls {C fI : Addr} {Vs : List Value} {n : Nat} (ok : c.OK) (hm : makesIn c.K C = true) (hi : findIn c.K (.ref C) "__init__" = some (some (.ref fI))) (hf : isFn c.K (.ref fI) = true) (hr : n + 1 ≤ c.room)
    (h : ∀ x, σ x = none → FC c.gl n (.ref fI) (.ref x :: Vs) (σ.set x (.inst C [])) (fun v σ' => v = .none ∧ Q (.ref x) σ')) : CA c (.ref C) Vs σ Q := by
  intro vals ev Φ μ s E Q' S k
  refine Sta.el S fun m ml news δ prot W => ?_
  obtain ⟨w1, w2, w3⟩ := weight_make C vals []
  refine call_cls W.F ok.X W.N hm hi hf fun x dx h' F' N' l1 l2 => ?_
  obtain ⟨hx, S'⟩ := W.allocI (tk := s.toks) (fun p hp => Nat.ne_of_lt (Nat.lt_trans (l1 p hp) l2)) (fun p hp => Nat.ne_of_lt (l1 p hp)) (Nat.ne_of_lt l2) F' N'
  let c2 : Cx := { c with A := c.A.under (.builtin "type.__call__" ⟨.ref C :: vals, []⟩), room := n }
  have ok2 : c2.OK := by
    refine ⟨ok.X, ok.T, ok.B, ?_, ok.hf, ok.hk, ok.ek, ok.eg, ok.eb, ok.ec, ok.hh, ?_, ?_⟩
    · show pushEnvs (Code.envs (.builtin "type.__call__" ⟨.ref C :: vals, []⟩)) c.A.frames = some (c.fn :: c.outer)
      rw [w2]; exact ok.hA
    · show c.A.depth + (Code.builtin "type.__call__" ⟨.ref C :: vals, []⟩).weight + n < _
      rw [w1]; have := ok.hd; lia -abstractProof
    · show c.A.units + (Code.builtin "type.__call__" ⟨.ref C :: vals, []⟩).cUnits + 8 * n < _
      rw [w3]; have := ok.hu; lia -abstractProof
  refine h x hx c2 (.ref x :: vals) ok2 rfl (Nat.le_refl _) (by rw [List.map_cons, ev]; rfl) Φ μ _ _ (S'.ctx rfl rfl rfl rfl rfl rfl rfl rfl rfl rfl) fun v σ' s' hq S2 => ?_
  exact ⟨er_none hq.1, k _ _ _ hq.2 (S2.ctx rfl rfl rfl rfl rfl rfl rfl rfl rfl rfl)⟩
end

/-! ## a def entered -/
section
variable {σ : AH} {Q : Value → AH → Prop} {g : Gl}
theorem lookup_rev {x : Str} {v : Value} : ∀ {binds : List (Str × Value)}, (binds.map (·.1)).Nodup → (x, v) ∈ binds → binds.reverse.lookup x = some v := by
  intro binds hn hm
  have hn' : (binds.reverse.map (·.1)).Nodup := by rw [List.map_reverse]; exact List.pairwise_reverse.mpr (hn.imp fun h => Ne.symm h)
  have hm' : (x, v) ∈ binds.reverse := List.mem_reverse.mpr hm
  generalize binds.reverse = l at hn' hm'
  induction l with
  | nil => cases hm'
  | cons p l ih =>
    rw [List.map_cons, List.nodup_cons] at hn'
    rcases List.mem_cons.mp hm' with e | hm'
    · subst e; simp
    · have hne : x ≠ p.1 := fun e => hn'.1 (e ▸ List.mem_map.mpr ⟨(x, v), hm', rfl⟩)
      rw [List.lookup_cons, beq_eq_false_iff_ne.mpr hne]
      exact ih hn'.2 hm'

noncomputable def startM : List Str → List Value → List Str → AM
  | x :: xs, V :: Vs, rs => (x, some V) :: startM xs Vs rs
  | _, _, rs => rs.map fun r => (r, none)
theorem startM_names : ∀ {xs : List Str} {Vs : List Value} {rs : List Str}, xs.length = Vs.length → (startM xs Vs rs).map (·.1) = xs ++ rs := by
  intro xs
  induction xs with
  | nil =>
    intro Vs rs h
    have e : startM [] Vs rs = rs.map fun r => (r, none) := by cases Vs <;> rfl
    rw [e, List.map_map]; exact List.map_id _
  | cons x xs ih =>
    intro Vs rs h
    cases Vs with
    | nil => cases h
    | cons V Vs => exact congrArg (List.cons x) (ih (Nat.succ.inj h))
theorem startM_mem : ∀ {xs : List Str} {vs : List Value} {rs : List Str} {x : Str} {V : Value}, (x, some V) ∈ startM xs (vs.map er) rs → ∃ v, (x, v) ∈ xs.zip vs ∧ er v = V
  | [], vs, rs, x, V, h => by cases vs <;> (obtain ⟨r, _, e⟩ := List.mem_map.mp h; cases e)
  | y :: xs, [], rs, x, V, h => by obtain ⟨r, _, e⟩ := List.mem_map.mp h; cases e
  | y :: xs, v :: vs, rs, x, V, h => by
    rcases List.mem_cons.mp h with e | h
    · cases e; exact ⟨v, .head _, rfl⟩
    · obtain ⟨v', h1, h2⟩ := startM_mem h; exact ⟨v', .tail _ h1, h2⟩

theorem fc_def {n : Nat} {f : Addr} {name qual : Str} {params : Arguments} {body : List Stmt} {scope : Scope} {dV kV doc pm cdv ct oc : Value} {an od : Option Addr} {osl : Array (Option Value)} {args ds : List Value} (xs rs : List Str)
    (ho : g.K.lookup f = some ⟨oc, od, .func (fnOf name qual params body scope dV kV doc pm an cdv ct), osl⟩) (hcd : codeIn g.K cdv qual = true)
    (hbind : ∀ vals, vals.length = args.length → ∀ s, g.K.In s.heap → BindsTo s (fnOf name qual params body scope dV kV doc pm an cdv ct) ⟨vals, []⟩ (xs.zip (vals ++ ds)))
    (hlen : xs.length = args.length + ds.length)
    (hnd : (xs ++ rs).Nodup) (hloc : ∀ x ∈ xs ++ rs, scope.names.lookup x = some .local)
    (hco : scope.isCoroutine = false) (hgen : scope.isGenerator = false) (hk : scope.kind = .function) (hcell : ∀ x ∈ scope.names, x.2 ≠ .cell)
    (h : ∀ c' : Cx, c'.OK → c'.gl = g → c'.room = n → c'.env.scope = scope → c'.Fn → EXs c' body (startM xs (args ++ ds.map er) rs) σ (fun fl _ σ' => Q (retv fl) σ')) : FC g (n + 1) (.ref f) args σ Q := by
  intro c vals ok hg hr ev Φ μ s R S k
  subst hg
  refine Sta.el S fun m ml news δ prot W => ?_
  have hvl : vals.length = args.length := by rw [← ev]; simp
  have hb := hbind vals hvl s (ok.X.keeps W.F.keep)
  have hzl : xs.length = (vals ++ ds).length := by rw [List.length_append, hvl]; exact hlen
  have hbn : (xs.zip (vals ++ ds)).map (·.1) = xs := List.map_fst_zip (Nat.le_of_eq hzl)
  have hev : args ++ ds.map er = (vals ++ ds).map er := by rw [← ev, List.map_append]
  have hnames : (startM xs (args ++ ds.map er) rs).map (·.1) = xs ++ rs := startM_names (by rw [hev, List.length_map]; exact hzl)
  refine code_def ok.B W.F ok.X W.N ok.T ok.hA ok.hf ok.hk ho hcd (by have := ok.hd; lia -abstractProof) hb (fun y hy => hloc _ (List.mem_append_left _ (hbn ▸ List.mem_map.mpr ⟨y, hy, rfl⟩))) (fun gh L' h₁ FG F' N' B' X' T' => ?_) hco hgen hk hcell
  let c' : Cx := { c with A := c.A.deeper (envOf qual scope L' f cdv), env := envOf qual scope L' f cdv, fn := envOf qual scope L' f cdv, L := L', h₀ := gh, base := c.base, A₀ := c.A, outer := c.fn :: c.outer, room := n, fz := [], fm := none }
  have ok' : c'.OK := by
    refine ⟨X', T', B', Around.frames_deeper ok.hA, rfl, hk, hk, rfl, rfl, List.Pairwise.nil, ok.hh, ?_, ?_⟩
    · show c.A.depth + 1 + n < _
      have := ok.hd; lia -abstractProof
    · show c.A.units + 3 + 8 * n < _
      have := ok.hu; lia -abstractProof
  have S' : Sta c' (Φ ++ prot) (startM xs (args ++ ds.map er) rs) σ { s with heap := h₁, toks := s.toks + (xs.zip (vals ++ ds)).length } := by
    refine ⟨_, _, news, δ, [], ⟨F', N', W.H, fun p hp => ?_, fun p hp => (nomatch hp), .inl ⟨rfl, rfl⟩, ⟨by rw [hnames]; exact hnd, fun x oV hx => .inl ⟨hloc x ?_, fun V e => ?_⟩⟩, W.g, W.d, W.o, fun p hp q hq => (nomatch hq), fun p hp => (nomatch hp), fun f e => (nomatch e)⟩⟩
    · rcases List.mem_append.mp hp with q | q
      · exact W.P p q
      · exact W.P' p q
    · rw [← hnames]; exact List.mem_map.mpr ⟨(x, oV), hx, rfl⟩
    · subst e
      rw [hev] at hx
      obtain ⟨v, hm, e⟩ := startM_mem hx
      exact ⟨v, lookup_rev (by rw [hbn]; exact (List.nodup_append.mp hnd).1) hm, e⟩
  refine h c' ok' rfl rfl rfl ⟨rfl, rfl, rfl⟩ (Φ ++ prot) _ _ _ S' fun fl μ' σ' s' hq S2 => ?_
  refine Sta.el S2 fun m2 ml2 news2 δ2 prot2 W2 => ?_
  refine leaveK_ W2.F W2.N fun F3 N3 => ?_
  have S3 : Sta c Φ μ σ' s' := ⟨m, ml, news2, δ2, prot, ⟨F3, N3, W2.H, fun p hp => W2.P p (List.mem_append_left _ hp), fun p hp => W2.P p (List.mem_append_right _ hp), W.loc, W.R, W2.g, W2.d, W2.o, W.own, W.fzP, W.fmP⟩⟩
  cases fl <;> exact k _ _ _ hq S3
end

/-! ## isinstance, len -/
section
variable {c : Cx} {μ : AM} {σ : AH} {Q : Value → AH → Prop}
theorem map_er1 {vals : List Value} {V : Value} (h : vals.map er = [V]) : ∃ v, vals = [v] ∧ er v = V := by
  rcases vals with _ | ⟨v, _ | ⟨w, l⟩⟩
  · cases h
  · exact ⟨v, rfl, (List.cons.inj h).1⟩
  · cases (List.cons.inj h).2
theorem map_er2 {vals : List Value} {V W : Value} (h : vals.map er = [V, W]) : ∃ v w, vals = [v, w] ∧ er v = V ∧ er w = W := by
  rcases vals with _ | ⟨v, l⟩
  · cases h
  · obtain ⟨w, e, h2⟩ := map_er1 (List.cons.inj h).2
    exact ⟨v, w, by rw [e], (List.cons.inj h).1, h2⟩
noncomputable def scalT : Value → Option Value
  | .int _ _ => some (.type "int")
  | .bool _ => some (.type "bool")
  | .bytes _ _ => some (.type "bytes")
  | _ => none
theorem ca_isi {V t C : Value} {b : Bool} (ok : c.OK) (ht : scalT V = some t) (e : kitOne c.K t C = some b) (hC : er C = C) (hC' : ∀ v, er v = C → v = C) (h : Q (.bool b) σ) : CA c (.builtin "isinstance") [V, C] σ Q := by
  intro vals ev Φ μ s E Q' S k
  refine Sta.el S fun m ml news δ prot W => ?_
  have X := ok.X.keeps W.F.keep
  refine hide fun S0 hS0 => ?_
  obtain ⟨x, y, rfl, ex, ey⟩ := map_er2 ev
  refine hS0 ?_
  clear hS0 S0
  rw [hC' y ey]
  subst ex
  cases x <;> try (cases ht; done)
  · cases ht; exact kia_one kitx_bool X trivial e (by intro q; cases q) fun tk => k _ _ _ h S.toks
  · cases ht; exact kia_one kitx_int X trivial e (by intro q; cases q) fun tk => k _ _ _ h S.toks
  · cases ht; exact kia_one kitx_bytes X trivial e (by intro q; cases q) fun tk => k _ _ _ h S.toks
theorem ca_len {a : Addr} {Vs : List Value} (ha : σ a = some (.list Vs)) (hl : Vs.length < 2 ^ 62) (h : Q (vi Vs.length) σ) : CA c (.builtin "len") [.ref a] σ Q := by
  intro vals ev Φ μ s E Q' S k
  refine Sta.el S fun m ml news δ prot W => ?_
  refine W.elL ha fun vs hL e => ?_
  obtain ⟨x, rfl, ex⟩ := map_er1 ev
  rw [er_ref ex]
  have hsz : vs.size = Vs.length := by rw [← e]; simp
  exact call_len_list hL (by lia -abstractProof) (k _ _ _ (by rw [hsz]; exact h) S.toks)
end
section
variable {c : Cx} {μ : AM} {σ : AH} {Q : Flow → AM → AH → Prop}

/-! ## assignments -/
theorem assignEach_one {t : Expr} {env : Env} (h : noStar t = true) : (assignEach [t] env).map (·.2) = [assign t env] := by
  cases t <;> first | rfl | cases h
theorem ex_assign {t value : Expr} {pos : Pos} (ht : noStar t = true) (h1 : ∀ env, swapsWithSole [t] value pos.line env = pure false) (h2 : ∀ env, swappedStores [t] value env = pure none)
    (h : EV c value μ σ fun V σ1 => AS c t V μ σ1 fun μ' σ' => Q .next μ' σ') : EX c (.Assign [t] value pos) μ σ Q := by
  intro Φ s E Q' S k
  refine wpAny_Assign_stores (h Φ s E _ S fun v σ1 s1 h1 S1 => ?_) (h1 _) (h2 _)
  rw [assignEach_one ht]
  exact h1 Φ s1 E _ v rfl S1 fun μ' σ' s' hq S' => k .next μ' σ' s' hq S'

noncomputable def ASs (c : Cx) : List Expr → List Value → AM → AH → (AM → AH → Prop) → Prop
  | [], [], μ, σ, Q => Q μ σ
  | t :: ts, V :: Vs, μ, σ, Q => AS c t V μ σ fun μ' σ' => ASs c ts Vs μ' σ' Q
  | _, _, _, _, _ => False
theorem assignEach_cons {t : Expr} {ts : List Expr} {env : Env} (h : noStar t = true) : assignEach (t :: ts) env = (false, assign t env) :: assignEach ts env := by
  cases t <;> first | rfl | cases h
theorem assignEach_len {env : Env} : ∀ {ts : List Expr}, ts.all noStar = true → (assignEach ts env).length = ts.length ∧ (assignEach ts env).findIdx? (·.1) = none
  | [], _ => ⟨rfl, rfl⟩
  | t :: ts, h => by
    rw [List.all_cons, Bool.and_eq_true] at h
    obtain ⟨a, b⟩ := assignEach_len (env := env) h.2
    rw [assignEach_cons h.1]
    refine ⟨by simp [a], ?_⟩
    rw [List.findIdx?_cons]; simp [b]
theorem ass_run : ∀ {ts : List Expr} {vs : List Value} {μ : AM} {σ : AH} {Q : AM → AH → Prop} {Φ : List (Addr × Obj)} {s : Shared} {E : Value → Shared → Prop} {Q' : Unit → Shared → Prop}, ts.all noStar = true → ASs c ts (vs.map er) μ σ Q → Sta c Φ μ σ s →
    (∀ μ' σ' s', Q μ' σ' → Sta c Φ μ' σ' s' → Q' () s') → wpAny c.M c.A (assignInOrder ((assignEach ts c.env).map (·.2)) vs) Q' E s
  | [], [], μ, σ, Q, Φ, s, E, Q', _, h, S, k => wpAny_assignInOrder_none (k _ _ _ h S)
  | t :: ts, v :: vs, μ, σ, Q, Φ, s, E, Q', hs, h, S, k => by
    rw [List.all_cons, Bool.and_eq_true] at hs
    rw [assignEach_cons hs.1]
    exact wpAny_assignInOrder_more (h Φ s E _ v rfl S fun μ' σ' s' hq S' => ass_run hs.2 hq S' k)
  | [], _ :: _, _, _, _, _, _, _, _, _, h, _, _ => h.elim
  | _ :: _, [], _, _, _, _, _, _, _, _, h, _, _ => h.elim
theorem ASs.len : ∀ {ts : List Expr} {Vs : List Value} {μ : AM} {σ : AH} {Q : AM → AH → Prop}, ASs c ts Vs μ σ Q → True := fun _ => trivial
/-- a tuple of targets, out of a tuple -/
theorem as_tup {ts : List Expr} {x1 : Nat} {pos : Pos} {t : Addr} {Vs : List Value} {Q : AM → AH → Prop} (ok : c.OK) (hs : ts.all noStar = true) (ht : σ t = some (.tup Vs)) (hl : ts.length = Vs.length) (h : ASs c ts Vs μ σ Q) : AS c (.Tuple ts x1 pos) (.ref t) μ σ Q := by
  intro Φ s E Q' v ev S k
  rw [er_ref ev]
  refine Sta.el S fun m ml news δ prot W => ?_
  refine W.elT ht fun vs hT e => ?_
  have hsz : vs.size = Vs.length := by rw [← e]; simp
  obtain ⟨a, b⟩ := assignEach_len (env := c.env) hs
  refine wpAny_assign_Tuple ok.hh hT (by lia -abstractProof) b fun h' hx => ?_
  have S' : Sta c Φ μ σ { s with heap := h' } := S.keep (tk := s.toks) fun b' o' e' => hx b' o' (Nat.ne_of_lt (Heap.lt_size e')) e'
  exact ass_run hs (by rw [← e] at h; exact h) S' k

theorem sw_scope {ts : List Expr} {v : Expr} {env env' : Env} (h : env.scope = env'.scope) : swappedStores ts v env = swappedStores ts v env' := by
  obtain ⟨sc, _⟩ := env
  obtain ⟨sc', _⟩ := env'
  cases h
  rfl
/-- a tuple of targets, a tuple written -/
theorem ex_assign_tup {ts vs : List Expr} {k k' : Nat} {tp p' pos : Pos} {env' : Env} (ok : c.OK) (hsc : c.env.scope = env'.scope) (hw : swappedStores [.Tuple ts k tp] (.Tuple vs k' p') env' = pure none) (hs : ts.all noStar = true) (hl : ts.length = vs.length) (hl2 : vs.length ≤ 1000)
    (h : EVs c vs μ σ fun Vs σ1 => Vs.length = ts.length ∧ ASs c ts Vs μ σ1 (Q .next)) : EX c (.Assign [.Tuple ts k tp] (.Tuple vs k' p') pos) μ σ Q := by
  intro Φ s E Q' S kk
  refine Assign_Tuple (wpAny_Tuple_spliced (h Φ s E _ p' S fun us σ1 s1 h1 S1 => ?_)) rfl (by rw [sw_scope hsc]; exact hw)
  obtain ⟨hlen, hq⟩ := h1
  rw [List.length_map] at hlen
  refine ⟨by rw [sizeLine_eq]; lia -abstractProof, ?_⟩
  have hT : IsTup (s1.heap.push { cls := Value.type "tuple", data := Data.seq us.toArray }) s1.heap.objs.size us.toArray := ⟨_, Heap.get?_push_size _ rfl, rfl, _, rfl⟩
  have S2 : Sta c Φ μ σ1 { s1 with heap := s1.heap.push { cls := Value.type "tuple", data := Data.seq us.toArray } } := S1.keep (tk := s1.toks) fun b o e => Heap.get?_push_of_some _ e
  obtain ⟨a, b⟩ := assignEach_len (env := c.env) hs
  refine wpAny_assign_Tuple ok.hh hT (by simp; lia -abstractProof) b fun h' hx => ?_
  have S' : Sta c Φ μ σ1 { s1 with heap := h' } := S2.keep (tk := s1.toks) fun b' o' e' => hx b' o' (Nat.ne_of_lt (Heap.lt_size e')) e'
  exact ass_run hs hq S' fun μ' σ' s' q S3 => kk .next _ _ _ q S3
/-- two names at once, stored from behind -/
noncomputable abbrev envS (sc : Scope) : Env := { scope := sc, locals := 0, globals := 0, cells := [] }
theorem ex_assign_sw {a b : Str} {pa pb tp p' pos : Pos} {v1 v2 : Expr} {k k' : Nat} {sc : Scope} (ok : c.OK) (okl : c.Fn) (hsc : c.env.scope = sc)
    (hw : swappedStores [.Tuple [.Name a pa, .Name b pb] k tp] (.Tuple [v1, v2] k' p') (envS sc) = pure (some [a, b])) (hs : noStar v1 = true ∧ noStar v2 = true) (hne : a ≠ b)
    (h : EV c v1 μ σ fun V1 σ1 => EV c v2 μ σ1 fun V2 σ2 => ∃ μ1 μ2, Put a V1 μ μ1 ∧ Put b V2 μ1 μ2 ∧ Q .next μ2 σ2) : EX c (.Assign [.Tuple [.Name a pa, .Name b pb] k tp] (.Tuple [v1, v2] k' p') pos) μ σ Q := by
  intro Φ s E Q' S kk
  have hev : EVs c [v1, v2] μ σ fun Vs σ2 => ∃ V1 V2 μ1 μ2, Vs = [V1, V2] ∧ Put a V1 μ μ1 ∧ Put b V2 μ1 μ2 ∧ Q .next μ2 σ2 :=
    evs_cons hs.1 (h.mono fun V1 σ1 h1 => evs_cons hs.2 (h1.mono fun V2 σ2 ⟨μ1, μ2, a1, a2, a3⟩ => evs_nil ⟨V1, V2, μ1, μ2, rfl, a1, a2, a3⟩))
  refine Assign_Tuple_swapped (names := [a, b]) (wpAny_Tuple_spliced (hev Φ s E _ p' S fun us σ1 s1 h1 S1 => ?_)) rfl (by rw [sw_scope (env' := envS sc) hsc]; exact hw)
  refine hide fun S0 hS0 => ?_
  obtain ⟨V1, V2, μ1, μ2, e, p1, p2, hq⟩ := h1
  refine hS0 ?_
  clear hS0 S0
  refine hide fun S0 hS0 => ?_
  obtain ⟨u1, u2, rfl, e1, e2⟩ := map_er2 e
  refine hS0 ?_
  clear hS0 S0
  refine ⟨by rw [sizeLine_eq]; simp, ?_⟩
  have hT : IsTup (s1.heap.push { cls := Value.type "tuple", data := Data.seq [u1, u2].toArray }) s1.heap.objs.size [u1, u2].toArray := ⟨_, Heap.get?_push_size _ rfl, rfl, _, rfl⟩
  have S2 : Sta c Φ μ σ1 { s1 with heap := s1.heap.push { cls := Value.type "tuple", data := Data.seq [u1, u2].toArray } } := S1.keep (tk := s1.toks) fun b o e => Heap.get?_push_of_some _ e
  obtain ⟨μ1', q1, q2⟩ := p1.swap p2 hne
  refine Sta.el S2 fun m ml news δ prot W => ?_
  refine unpackItemsN_ (n := 2) W.F W.N hT ok.hh rfl fun h' F' N' => ?_
  have S' : Sta c Φ μ σ1 { s1 with heap := h' } := W.fn (tk := s1.toks) F' N'
  show wpAny _ _ (assignInOrder [fun v => bindName c.env b v, fun v => bindName c.env a v] [u2, u1]) _ _ _
  refine wpAny_assignInOrder_more (wpAny_bindName (store_name ok (by rw [e2]; exact q1) S' (fun _ => okl.m) (.inl okl) fun s3 S3 => wpAny_assignInOrder_more (wpAny_bindName (store_name ok (by rw [e1]; exact q2) S3 (fun _ => okl.m) (.inl okl) fun s4 S4 => wpAny_assignInOrder_none (kk .next _ _ _ hq S4)))))

theorem ex_aug_name {x : Str} {p pos : Pos} {op : Operator} {value : Expr} {O : Value} (ok : c.OK) (okl : c.Fn) (hx : (x, some O) ∈ μ)
    (h : EV c value μ σ fun V σ1 => IO c op O V σ1 fun R σ2 => ∃ μ', Put x R μ μ' ∧ Q .next μ' σ2) : EX c (.AugAssign (.Name x p) op value pos) μ σ Q := by
  intro Φ s E Q' S k
  refine wpAny_AugAssign_Name (load_local ok hx S fun o eo => h Φ s E _ S fun v σ2 s2 h2 S2 => h2 o v eo rfl Φ μ s2 E _ S2 fun r σ3 s3 h3 S3 => ?_)
  obtain ⟨μ', hp, hq⟩ := h3
  exact store_name ok hp S3 (fun _ => okl.m) (.inl okl) fun s4 S4 => k .next _ _ _ hq S4
theorem ex_aug_sub {o i value : Expr} {tpos pos : Pos} {op : Operator}
    (haug : ∀ ov iv new, augStore i ov iv new = (do holding [new, ov, iv] (setItem ov iv new); release [new, ov, iv] []; pure .next))
    (h : EV c o μ σ fun O σ1 => EV c i μ σ1 fun I σ2 => GI c O I σ2 fun old σ3 => EV c value μ σ3 fun V σ4 => IO c op old V σ4 fun R σ5 => SI c O I R σ5 (Q .next μ)) : EX c (.AugAssign (.Subscript o i tpos) op value pos) μ σ Q := by
  intro Φ s E Q' S k
  exact wpAny_AugAssign_SubscriptAny (h Φ s E _ S fun ov σ1 s1 h1 S1 => h1 Φ s1 E _ S1 fun iv σ2 s2 h2 S2 => h2 ov iv rfl rfl Φ μ s2 E _ S2 fun old σ3 s3 h3 S3 => h3 Φ s3 E _ S3 fun v σ4 s4 h4 S4 =>
    h4 old v rfl rfl Φ μ s4 E _ S4 fun r σ5 s5 h5 S5 => h5 Φ μ s5 E _ ov iv r rfl rfl rfl S5 fun σ6 s6 hq S6 => k .next _ _ _ hq S6) haug
theorem ex_aug_attr {o value : Expr} {attr : Str} {tpos pos : Pos} {op : Operator} (ok : c.OK)
    (h : EV c o μ σ fun O σ1 => ∃ x C fs old, O = .ref x ∧ σ1 x = some (.inst C fs) ∧ (attr, old) ∈ fs ∧ AttrOK c.K C attr ∧ handedIn old = true ∧ ClsOK c.K C ∧ takerIn c.K C attr = some none ∧
      EV c value μ σ1 fun V σ2 => IO c op old V σ2 fun R σ3 => ∃ fs2 fs', σ3 x = some (.inst C fs2) ∧ FPut attr R fs2 fs' ∧ Q .next μ (σ3.set x (.inst C fs'))) : EX c (.AugAssign (.Attribute o attr tpos) op value pos) μ σ Q := by
  intro Φ s E Q' S k
  refine wpAny_AugAssign_AttributeAny (h Φ s E _ S fun ov σ1 s1 h1 S1 => ?_)
  refine hide fun S0 hS0 => ?_
  obtain ⟨x, C, fs, old, eO, hx, hm, hA, hh, hC, ht, h2⟩ := h1
  refine hS0 ?_
  clear hS0 S0
  rw [er_ref eO]
  refine op_get (Q := fun V σ' => V = old ∧ σ' = σ1) ok hx hm hA hh ⟨rfl, rfl⟩ Φ μ s1 E _ S1 fun v σ2 s2 hv S2 => ?_
  obtain ⟨ev, rfl⟩ := hv
  refine h2 Φ s2 E _ S2 fun u σ3 s3 h3 S3 => h3 v u ev rfl Φ μ s3 E _ S3 fun r σ4 s4 h4 S4 => ?_
  refine hide fun S0 hS0 => ?_
  obtain ⟨fs2, fs', hx4, hp, hq⟩ := h4
  refine hS0 ?_
  clear hS0 S0
  refine Sta.el S4 fun m ml news δ prot W => ?_
  obtain ⟨hn, hl⟩ := W.fldNd hx4
  refine set_any ok S4 hx4 hC ht (by rw [hp.names]; exact hn) (by rw [hp.len]; exact hl) (fun es t hf => ⟨hf.put hn hp rfl, ?_⟩) fun s' S' => k .next _ _ _ hq S'
  obtain ⟨o', ho'⟩ := hp.was
  obtain ⟨v', hv', _⟩ := hf.get hn ho'
  rw [hv']; rfl
end
section
variable {c : Cx} {σ : AH} {Q : Value → AH → Prop}
theorem io_add {i j : Int} (h : Q (vi (i + j)) σ) : IO c .Add (vi i) (vi j) σ Q := fun a b ha hb Φ μ s E Q' S k => by
  obtain ⟨t, rfl⟩ := er_int ha; obtain ⟨u, rfl⟩ := er_int hb; exact iadd_int (k _ _ _ h S.toks)
theorem io_sub {i j : Int} (h : Q (vi (i - j)) σ) : IO c .Sub (vi i) (vi j) σ Q := fun a b ha hb Φ μ s E Q' S k => by
  obtain ⟨t, rfl⟩ := er_int ha; obtain ⟨u, rfl⟩ := er_int hb; exact isub_int (k _ _ _ h S.toks)
theorem io_mul {i j : Int} (hm : IntMulOk i j) (h : Q (vi (i * j)) σ) : IO c .Mult (vi i) (vi j) σ Q := fun a b ha hb Φ μ s E Q' S k => by
  obtain ⟨t, rfl⟩ := er_int ha; obtain ⟨u, rfl⟩ := er_int hb; exact imul_int (k _ _ _ h S.toks) hm
end

/-! ## while -/
section
variable {c : Cx} {μ : AM} {σ : AH} {Q : Flow → AM → AH → Prop}
noncomputable def LoopGo (Q : Flow → AM → AH → Prop) (I : AM → AH → Prop) (f : Flow) (μ : AM) (σ : AH) : Prop := match f with
  | .next => I μ σ
  | .cont => I μ σ
  | .brk => Q .next μ σ
  | .ret v => Q (.ret v) μ σ
/-- a while, by what holds at its head and a number that falls -/
theorem ex_while {t : Expr} {body : List Stmt} {pos : Pos} (I : Nat → AM → AH → Prop) (n : Nat) (h0 : I n μ σ)
    (turn : ∀ n μ σ, I n μ σ → TR c t μ σ fun b σ1 => if b = true then EXs c body μ σ1 (LoopGo Q fun μ' σ' => ∃ m, m < n ∧ I m μ' σ') else Q .next μ σ1) : EX c (.While t body [] pos) μ σ Q := by
  intro Φ s E Q' S k
  refine wpAny_While ?_
  have hq : (Code.whileLoop t body [] c.env).quiet = true := rfl
  have hA : c.A.under (Code.whileLoop t body [] c.env) = c.A := Around.under_of_weight rfl
  refine codeAny_loop hq (fun n s' => ∃ μ' σ', I n μ' σ' ∧ Sta c Φ μ' σ' s') (fun n s' ⟨μ', σ', hI, S'⟩ => ?_) n ⟨μ, σ, h0, S⟩
  rw [hA]
  show wpAny _ _ ((whileTurn t body [] c.env).onRaise fun x => do noteFrame x c.env; theTreesLotGoes x) _ _ s'
  refine wpAny_onRaise ?_
  unfold whileTurn
  refine wpAny_bind (turn n μ' σ' hI Φ s' _ _ S' fun b σ1 s1 h1 S1 => ?_)
  cases b with
  | true =>
    refine wpAny_bind (h1 Φ s1 _ _ S1 fun f μ2 σ2 s2 h2 S2 => ?_)
    cases f with
    | next => obtain ⟨m, hm, hI'⟩ := h2; exact wpAny_pure ⟨rfl, m, hm, _, _, hI', S2⟩
    | cont => obtain ⟨m, hm, hI'⟩ := h2; exact wpAny_pure ⟨rfl, m, hm, _, _, hI', S2⟩
    | brk => exact wpAny_pure (k .next _ _ _ h2 S2)
    | ret v => exact wpAny_pure (k (.ret v) _ _ _ h2 S2)
  | false => exact wpAny_bind (wpAny_execs_nil (wpAny_pure (k .next _ _ _ h1 S1)))
end
section
variable {c : Cx} {μ : AM} {σ : AH}
theorem ev_and2 {x y : Expr} {pos : Pos} {Q : Value → AH → Prop} (h : EV c x μ σ fun v σ1 => ∃ b, v = .bool b ∧ if b = true then EV c y μ σ1 Q else Q (.bool false) σ1) : EV c (.BoolOp .And [x, y] pos) μ σ Q :=
  fun Φ s E Q' S k => wpAny_And2 (h Φ s E _ S fun v σ1 s1 h1 S1 => by
    obtain ⟨b, e, h2⟩ := h1
    rw [er_bool e]
    refine wpAny_truthy_bool ?_
    cases b with
    | true => exact h2 Φ s1 E Q' S1 k
    | false => exact k (.bool false) σ1 s1 h2 S1)
theorem ev_or2 {x y : Expr} {pos : Pos} {Q : Value → AH → Prop} (h : EV c x μ σ fun v σ1 => ∃ b, v = .bool b ∧ if b = true then Q (.bool true) σ1 else EV c y μ σ1 Q) : EV c (.BoolOp .Or [x, y] pos) μ σ Q :=
  fun Φ s E Q' S k => wpAny_Or2 (h Φ s E _ S fun v σ1 s1 h1 S1 => by
    obtain ⟨b, e, h2⟩ := h1
    rw [er_bool e]
    refine wpAny_truthy_bool ?_
    cases b with
    | true => exact k (.bool true) σ1 s1 h2 S1
    | false => exact h2 Φ s1 E Q' S1 k)
theorem ev_not {x : Expr} {pos : Pos} {Q : Value → AH → Prop} (h : EV c x μ σ fun v σ1 => ∃ b, v = .bool b ∧ Q (.bool (!b)) σ1) : EV c (.UnaryOp .Not x pos) μ σ Q :=
  fun Φ s E Q' S k => wpAny_UnaryOp (h Φ s E _ S fun v σ1 s1 h1 S1 => by
    obtain ⟨b, e, h2⟩ := h1
    rw [er_bool e]
    exact not_of (wpAny_truthy_bool (k (.bool !b) σ1 s1 h2 S1)))
theorem tr_chain2 {l r₁ r₂ : Expr} {o₁ o₂ : CmpOp} {pos : Pos} {Q : Bool → AH → Prop} (hm : lastMarks [o₁, o₂] [r₁, r₂] = false)
    (h : EV c l μ σ fun a σ1 => EV c r₁ μ σ1 fun b σ2 => CO c o₁ a b σ2 fun v σ3 => ∃ t, v = .bool t ∧ if t = true then EV c r₂ μ σ3 fun d σ4 => CO c o₂ b d σ4 fun v' σ5 => ∃ t', v' = .bool t' ∧ Q t' σ5 else Q false σ3) : TR c (.Compare l [o₁, o₂] [r₁, r₂] pos) μ σ Q :=
  fun Φ s E Q' S k => isTrue_chain (h Φ s E _ S fun a σ1 s1 h1 S1 => test_link (h1 Φ s1 E _ S1 fun b σ2 s2 h2 S2 => h2 a b rfl rfl Φ μ s2 E _ S2 fun v σ3 s3 h3 S3 => by
    obtain ⟨t, e, h4⟩ := h3
    rw [er_bool e]
    refine wpAny_truthy_bool ?_
    cases t with
    | true =>
      exact test_last (h4 Φ s3 E _ S3 fun d σ4 s4 h5 S4 => h5 b d rfl rfl Φ μ s4 E _ S4 fun v' σ5 s5 h6 S5 => by
        obtain ⟨t', e', h7⟩ := h6
        rw [er_bool e']
        exact wpAny_truthy_bool (k _ _ _ h7 S5))
    | false => exact k _ _ _ h4 S3)) hm
end

/-! ## objects of the machine's own that are kept aside -/
/-- new objects, kept aside -/
theorem Sta.aside {c : Cx} {Φ p : List (Addr × Obj)} {μ : AM} {σ : AH} {s : Shared} (S : Sta c Φ μ σ s) {h' : Heap} {tk : Nat}
    (hk : ∀ b o, s.heap.get? b = some o → h'.get? b = some o) (hp : ∀ q ∈ p, h'.get? q.1 = some q.2 ∧ s.heap.get? q.1 = none) :
    (∀ q ∈ Φ, ∀ r ∈ p, q.1 ≠ r.1) ∧ Sta c (p ++ Φ) μ σ { s with heap := h', toks := tk } := by
  have hf : ∀ q ∈ p, σ q.1 = none := fun q hq => S.fresh (hp q hq).2
  refine Sta.el S fun m ml news δ prot W => ?_
  have hL : ∀ q ∈ p, q.1 ≠ c.L ∧ c.h₀.get? q.1 = none := fun q hq => by
    refine ⟨fun e => ?_, ?_⟩
    · refine hide fun S0 hS0 => ?_
      obtain ⟨oL, _, _, hL, _⟩ := W.F.ns
      refine hS0 ?_
      clear hS0 S0
      have := (hp q hq).2; rw [e, hL] at this; cases this
    · cases e : c.h₀.get? q.1 with
      | none => rfl
      | some x => have := W.F.keep _ _ e; rw [(hp q hq).2] at this; cases this
  have hnew : ∀ q ∈ p, ∀ r ∈ news, r.1 ≠ q.1 := fun q hq r hr e => by
    have := (W.N r hr).1; rw [e, (hp q hq).2] at this; cases this
  refine ⟨fun q hq r hr => hnew r hr q (W.P q hq).1, m, ml, p ++ news, δ, prot, ⟨W.F.keeps hk, fun q hq => ?_, ⟨fun b ob e => (W.H.bears b ob e).more fun q hq => List.mem_append_right _ hq, W.H.sep, W.H.inj⟩, fun q hq => ?_, fun q hq => ⟨List.mem_append_right _ (W.P' q hq).1, (W.P' q hq).2⟩, W.loc, W.R, W.g, W.d, W.o, fun q hq r hr e => ?_, fun q hq => List.mem_append_right _ (W.fzP q hq), W.fmP⟩⟩
  · rcases List.mem_append.mp hq with h | h
    · exact ⟨(hp q h).1, hL q h⟩
    · exact ⟨hk _ _ (W.N q h).1, (W.N q h).2⟩
  · rcases List.mem_append.mp hq with h | h
    · refine ⟨List.mem_append_left _ h, hf q h, fun a C fs e z => ?_⟩
      obtain ⟨x, hx⟩ := W.held e
      rw [z, (hp q h).2] at hx; cases hx
    · exact ⟨List.mem_append_right _ (W.P q h).1, (W.P q h).2⟩
  · rcases List.mem_append.mp hq with h | h
    · exact hnew q h r (W.P' r hr).1 e.symm
    · exact W.own q h r hr e

/-- objects kept aside, written anew -/
theorem Sta.turn {c : Cx} {Φ p p' : List (Addr × Obj)} {μ : AM} {σ : AH} {s : Shared} (S : Sta c (p ++ Φ) μ σ s) {h' : Heap} {tk : Nat}
    (hz : ∀ q ∈ c.fz, q ∈ Φ) (hd : ∀ q ∈ Φ, ∀ r ∈ p, q.1 ≠ r.1) (ha : ∀ r ∈ p', ∃ q ∈ p, q.1 = r.1)
    (hk : ∀ b o, (∀ r ∈ p, b ≠ r.1) → s.heap.get? b = some o → h'.get? b = some o) (hp : ∀ q ∈ p', h'.get? q.1 = some q.2) : Sta c (p' ++ Φ) μ σ { s with heap := h', toks := tk } := by
  refine Sta.el S fun m ml news δ prot W => ?_
  have hP : ∀ q ∈ p, q ∈ news ∧ Off σ δ q.1 := fun q hq => W.P q (List.mem_append_left _ hq)
  have notL : ∀ q ∈ p, q.1 ≠ c.L := fun q hq => (W.N q (hP q hq).1).2.1
  have not0 : ∀ q ∈ p, c.h₀.get? q.1 = none := fun q hq => (W.N q (hP q hq).1).2.2
  let rest := news.filter fun q => p.all fun r => decide (q.1 ≠ r.1)
  have inR : ∀ q, q ∈ news → (∀ r ∈ p, q.1 ≠ r.1) → q ∈ rest := fun q hq h => List.mem_filter.mpr ⟨hq, by simpa using h⟩
  have ofR : ∀ q, q ∈ rest → q ∈ news ∧ ∀ r ∈ p, q.1 ≠ r.1 := fun q hq => ⟨(List.mem_filter.mp hq).1, by simpa using (List.mem_filter.mp hq).2⟩
  have F' : Fr c.h₀ c.L h' m := by
    refine hide fun S0 hS0 => ?_
    obtain ⟨oL, es, ep, hL, r⟩ := W.F.ns
    refine hS0 ?_
    clear hS0 S0
    exact ⟨⟨oL, es, ep, hk _ _ (fun q hq e => notL q hq e.symm) hL, r⟩, fun b o e => hk _ _ (fun q hq z => by have := not0 q hq; rw [← z, e] at this; cases this) (W.F.keep b o e), W.F.above⟩
  refine ⟨m, ml, p' ++ rest, δ, prot, ⟨F', fun q hq => ?_, ⟨fun b ob e => ?_, W.H.sep, W.H.inj⟩, fun q hq => ?_, fun q hq => ⟨List.mem_append_right _ (inR q (W.P' q hq).1 fun r hr e => W.own r (List.mem_append_left _ hr) q hq e.symm), (W.P' q hq).2⟩, W.loc, W.R, W.g, W.d, W.o, fun q hq r hr e => ?_, fun q hq => List.mem_append_right _ (hz q hq), W.fmP⟩⟩
  · rcases List.mem_append.mp hq with h | h
    · obtain ⟨q0, h0, e⟩ := ha q h
      exact ⟨hp q h, by rw [← e]; exact (W.N q0 (hP q0 h0).1).2⟩
    · obtain ⟨h1, h2⟩ := ofR q h
      exact ⟨hk _ _ h2 (W.N q h1).1, (W.N q h1).2⟩
  · have B := W.H.bears b ob e
    have hb : ∀ r ∈ p, b ≠ r.1 := fun r hr z => by have := (hP r hr).2.1; rw [← z, e] at this; cases this
    cases ob with
    | list Vs => obtain ⟨vs, n, hm, r⟩ := B; exact ⟨vs, n, List.mem_append_right _ (inR _ hm hb), r⟩
    | tup Vs => obtain ⟨x, hm, r⟩ := B; exact ⟨x, List.mem_append_right _ (inR _ hm hb), r⟩
    | dict fs => obtain ⟨x, kvs, hm, r⟩ := B; exact ⟨x, kvs, List.mem_append_right _ (inR _ hm hb), r⟩
    | inst C fs =>
      refine hide fun S0 hS0 => ?_
      obtain ⟨hn, hlen, h1, es, n, hm, r⟩ := B
      refine hS0 ?_
      clear hS0 S0
      exact ⟨hn, hlen, List.mem_append_right _ (inR _ h1 hb), es, n, List.mem_append_right _ (inR _ hm fun r hr z => (hP r hr).2.2 b C fs e z), r⟩
  · rcases List.mem_append.mp hq with h | h
    · obtain ⟨q0, h0, e⟩ := ha q h
      exact ⟨List.mem_append_left _ h, by rw [← e]; exact (hP q0 h0).2⟩
    · exact ⟨List.mem_append_right _ (inR q (W.P q (List.mem_append_right _ h)).1 fun r hr => hd q h r hr), (W.P q (List.mem_append_right _ h)).2⟩
  · rcases List.mem_append.mp hq with h | h
    · obtain ⟨q0, h0, e0⟩ := ha q h
      exact W.own q0 (List.mem_append_left _ h0) r hr (e0.trans e)
    · exact W.own q (List.mem_append_right _ h) r hr e

/-! ## sources of a loop -/
noncomputable def ItAt (c : Cx) (sh : List (Addr × Obj) → Prop) (Φ : List (Addr × Obj)) (μ : AM) (σ : AH) (s : Shared) : Prop := ∃ p, sh p ∧ (∀ q ∈ Φ, ∀ r ∈ p, q.1 ≠ r.1) ∧ (∀ q ∈ c.fz, q ∈ Φ) ∧ Sta c (p ++ Φ) μ σ s
/-- the next item, put into the target -/
noncomputable def TKi (c : Cx) (t : Expr) (I : Addr) (sh sh' : List (Addr × Obj) → Prop) (μ : AM) (σ : AH) (R : AM → AH → Prop) : Prop :=
  ∀ (Φ : List (Addr × Obj)) (s : Shared) (E E' : Value → Shared → Prop) (Q' : Shared → Prop), ItAt c sh Φ μ σ s → (∀ μ' σ' s', R μ' σ' → ItAt c sh' Φ μ' σ' s' → Q' s') → wpAny c.M c.A (pyNext (.ref I)) (fun r s1 => match r with
    | none => False
    | some v => wpAny c.M c.A (letOwnedTupleGo t (.ref I) v) (fun _ s2 => wpAny c.M c.A (assign t c.env v) (fun _ s3 => Q' s3) E' s2) E' s1) E s
noncomputable def TKe (c : Cx) (I : Addr) (sh : List (Addr × Obj) → Prop) (μ : AM) (σ : AH) : Prop :=
  ∀ (Φ : List (Addr × Obj)) (s : Shared) (E : Value → Shared → Prop) (Q' : Option Value → Shared → Prop), ItAt c sh Φ μ σ s → (∀ s', Sta c Φ μ σ s' → Q' none s') → wpAny c.M c.A (pyNext (.ref I)) Q' E s
noncomputable def TKs (c : Cx) (I : Addr) (sh : List (Addr × Obj) → Prop) : Prop :=
  ∀ (Φ : List (Addr × Obj)) (μ : AM) (σ : AH) (s : Shared) (E Q' : Value → Shared → Prop), ItAt c sh Φ μ σ s → Q' (.ref I) s → wpAny c.M c.A (pyIter (.ref I)) Q' E s

/-! ## for -/
noncomputable def FLoop (c : Cx) (t : Expr) (body : List Stmt) (I : Addr) (sh : Nat → List (Addr × Obj) → Prop) : Nat → Nat → AM → AH → (Flow → AM → AH → Prop) → Prop
  | 0, i, μ, σ, Q => TKe c I (sh i) μ σ ∧ Q .next μ σ
  | n + 1, i, μ, σ, Q => TKi c t I (sh i) (sh (i + 1)) μ σ fun μ1 σ1 => EXs c body μ1 σ1 (LoopGo Q fun μ2 σ2 => FLoop c t body I sh n (i + 1) μ2 σ2 Q)
noncomputable def EVI (c : Cx) (iter : Expr) (μ : AM) (σ : AH) (R : Addr → (Nat → List (Addr × Obj) → Prop) → Nat → AH → Prop) : Prop :=
  ∀ (Φ : List (Addr × Obj)) (s : Shared) (E Q' : Value → Shared → Prop), Sta c Φ μ σ s → (∀ I sh n σ1 s1, R I sh n σ1 → TKs c I (sh 0) → ItAt c (sh 0) Φ μ σ1 s1 → Q' (.ref I) s1) → wpAny c.M c.A (eval iter c.env) (fun x s1 => wpAny c.M c.A (pyIter x) Q' E s1) E s

section
variable {c : Cx} {μ : AM} {σ : AH} {Q : Flow → AM → AH → Prop}
theorem Sta.of_aside {Φ p : List (Addr × Obj)} {s : Shared} (S : Sta c (p ++ Φ) μ σ s) (hz : ∀ q ∈ c.fz, q ∈ Φ) : Sta c Φ μ σ s := S.fewer (fun q hq => List.mem_append_right _ hq) hz

theorem for_run {t : Expr} {body : List Stmt} {I : Addr} {sh : Nat → List (Addr × Obj) → Prop} : ∀ (n i : Nat) (μ : AM) (σ : AH) (Φ : List (Addr × Obj)) (s : Shared) (R : Result → Shared → Prop), FLoop c t body I sh n i μ σ Q → ItAt c (sh i) Φ μ σ s →
    (∀ f μ' σ' s', Q (erF f) μ' σ' → Sta c Φ μ' σ' s' → R (.ok f) s') → codeAny c.M c.A (.forLoop t (.ref I) body [] c.env) R s := by
  have hA : ∀ t it body env, c.A.under (Code.forLoop t it body [] env) = c.A := fun _ _ _ _ => Around.under_of_weight rfl
  intro n
  induction n with
  | zero =>
    intro i μ σ Φ s R h S k
    obtain ⟨he, hq⟩ := h
    refine codeAny_of_tree ?_
    rw [hA]
    show wpAny _ _ ((forTurn t (.ref I) body [] c.env).onRaise fun x => do noteFrame x c.env; theTreesLotGoes x) _ _ s
    refine wpAny_onRaise ?_
    unfold forTurn
    refine wpAny_bind (wpAny_standAt (wpAny_bind (wpAny_onRaise (he Φ s _ _ S fun s' S' => ?_))))
    refine wpAny_pure ⟨rfl, ?_⟩
    refine codeAny_of_tree ?_
    rw [show c.A.under (Code.block [] c.env) = c.A from Around.under_of_weight rfl]
    show wpAny _ _ ((do return .done (← (execs [] c.env).onRaise fun x => do noteFrame x c.env; theTreesLotGoes x) : Sem Fin)) _ _ s'
    exact wpAny_bind (wpAny_onRaise (wpAny_execs_nil (wpAny_pure (k .next _ _ _ hq S'))))
  | succ n ih =>
    intro i μ σ Φ s R h S k
    refine codeAny_of_tree ?_
    rw [hA]
    show wpAny _ _ ((forTurn t (.ref I) body [] c.env).onRaise fun x => do noteFrame x c.env; theTreesLotGoes x) _ _ s
    refine wpAny_onRaise ?_
    unfold forTurn
    let E2 : Value → Shared → Prop := fun e s' => wpAny c.M c.A (do noteFrame e c.env; theTreesLotGoes e) (fun _ s'' => R (.error e) s'') (fun e' s'' => R (.error e') s'') s'
    let K2 : Fin → Shared → Prop := fun fin s' => match fin with | .done f => R (.ok f) s' | .again c' => c'.quiet = true ∧ codeAny c.M c.A c' R s'
    let T2 : Flow → Sem Fin := fun f => match f with
      | .next | .cont => again (.forLoop t (.ref I) body [] c.env)
      | .brk => pure (.done .next)
      | .ret v => pure (.done (.ret v))
    refine wpAny_bind (wpAny_standAt (wpAny_bind (wpAny_onRaise (wpAny_mono (h Φ s _ E2 (fun s3 => wpAny c.M c.A (execs body c.env) (fun f s4 => wpAny c.M c.A (T2 f) K2 E2 s4) E2 s3) S fun μ1 σ1 s1 h1 S1 => ?_) (fun r s1 h1 => ?_) fun _ _ e => e))))
    · refine hide fun S0 hS0 => ?_
      obtain ⟨p, hp, hd, hz, S1'⟩ := S1
      refine hS0 ?_
      clear hS0 S0
      refine h1 (p ++ Φ) s1 _ _ S1' fun f μ2 σ2 s2 h2 S2 => ?_
      cases f with
      | next => exact wpAny_pure ⟨rfl, ih (i + 1) μ2 σ2 Φ s2 R h2 ⟨p, hp, hd, hz, S2⟩ k⟩
      | cont => exact wpAny_pure ⟨rfl, ih (i + 1) μ2 σ2 Φ s2 R h2 ⟨p, hp, hd, hz, S2⟩ k⟩
      | brk => exact wpAny_pure (k .next _ _ _ h2 (S2.of_aside hz))
      | ret v => exact wpAny_pure (k (.ret v) _ _ _ h2 (S2.of_aside hz))
    · cases r with
      | none => exact h1.elim
      | some v =>
        exact wpAny_bind (wpAny_mono h1 (fun _ s2 h2 => wpAny_bind (wpAny_mono h2 (fun _ s3 h3 => wpAny_bind h3) fun _ _ e => e)) fun _ _ e => e)
theorem ex_for {t iter : Expr} {body : List Stmt} {pos : Pos} (hf : ∀ env x, foldedSetIterable iter env x = pure x) (h : EVI c iter μ σ fun I sh n σ1 => FLoop c t body I sh n 0 μ σ1 Q) : EX c (.For t iter body [] pos) μ σ Q := by
  intro Φ s E Q' S k
  refine wpAny_For (h Φ s E _ S fun I sh n σ1 s1 h1 _ S1 => ?_) (hf _)
  exact for_run n 0 μ σ1 Φ s1 _ h1 S1 fun f μ' σ' s' hq S' => k f _ _ _ hq S'
end
/-! ## sources, as lists of takings -/
noncomputable abbrev TP := AM → AH → (AM → AH → Prop) → Prop
structure Works (c : Cx) (t : Expr) (I : Addr) (sh : Nat → List (Addr × Obj) → Prop) (tks : List TP) (te : AH → Prop) : Prop where
  item : ∀ i tk, tks[i]? = some tk → ∀ μ σ R, tk μ σ R → TKi c t I (sh i) (sh (i + 1)) μ σ R
  done : ∀ μ σ, te σ → TKe c I (sh tks.length) μ σ
noncomputable def SRC (c : Cx) (iter t : Expr) (μ : AM) (σ : AH) (R : (Cx → List TP) → (AH → Prop) → AH → Prop) : Prop :=
  ∀ (Φ : List (Addr × Obj)) (s : Shared) (E Q' : Value → Shared → Prop), Sta c Φ μ σ s → (∀ I sh (tks : Cx → List TP) te σ1 s1, R tks te σ1 → (∀ c'' : Cx, c''.OK → Works c'' t I sh (tks c'') te) → (∀ c'' : Cx, TKs c'' I (sh 0)) → ItAt c (sh 0) Φ μ σ1 s1 → Q' (.ref I) s1) →
    wpAny c.M c.A (eval iter c.env) (fun x s1 => wpAny c.M c.A (pyIter x) Q' E s1) E s

noncomputable def FT (c : Cx) (body : List Stmt) (te : AH → Prop) : List TP → AM → AH → (Flow → AM → AH → Prop) → Prop
  | [], μ, σ, Q => te σ ∧ Q .next μ σ
  | tk :: rest, μ, σ, Q => tk μ σ fun μ1 σ1 => EXs c body μ1 σ1 (LoopGo Q fun μ2 σ2 => FT c body te rest μ2 σ2 Q)
section
variable {c : Cx} {μ : AM} {σ : AH} {Q : Flow → AM → AH → Prop}
/-- a taking hands its promise on -/
noncomputable def TKmono (tk : TP) : Prop := ∀ μ σ R R', tk μ σ R → (∀ μ' σ', R μ' σ' → R' μ' σ') → tk μ σ R'
theorem LoopGo.mono {I I' : AM → AH → Prop} (h : ∀ μ σ, I μ σ → I' μ σ) {f : Flow} {μ : AM} {σ : AH} (x : LoopGo Q I f μ σ) : LoopGo Q I' f μ σ := by
  cases f <;> first | exact h _ _ x | exact x
theorem TKi.mono {t : Expr} {I : Addr} {sh sh' : List (Addr × Obj) → Prop} {R R' : AM → AH → Prop} (h : TKi c t I sh sh' μ σ R) (hr : ∀ μ' σ', R μ' σ' → R' μ' σ') : TKi c t I sh sh' μ σ R' :=
  fun Φ s E E' Q' S k => h Φ s E E' Q' S fun μ' σ' s' x => k μ' σ' s' (hr _ _ x)
theorem floop_of {t : Expr} {body : List Stmt} {I : Addr} {sh : Nat → List (Addr × Obj) → Prop} {tks : List TP} {te : AH → Prop} (W : Works c t I sh tks te) : ∀ (n i : Nat) (μ : AM) (σ : AH), i + n = tks.length → FT c body te (tks.drop i) μ σ Q → FLoop c t body I sh n i μ σ Q := by
  intro n
  induction n with
  | zero =>
    intro i μ σ hi h
    have hi' : i = tks.length := by lia -abstractProof
    subst hi'
    rw [List.drop_of_length_le (Nat.le_refl _)] at h
    exact ⟨W.done μ σ h.1, h.2⟩
  | succ n ih =>
    intro i μ σ hi h
    have hlt : i < tks.length := by lia -abstractProof
    rw [List.drop_eq_getElem_cons hlt] at h
    exact (W.item i _ (List.getElem?_eq_getElem hlt) μ σ _ h).mono fun μ1 σ1 h1 => h1.mono fun f μ2 σ2 h2 => h2.mono fun μ3 σ3 h3 => ih (i + 1) μ3 σ3 (by lia -abstractProof) h3
theorem ex_for_src {t iter : Expr} {body : List Stmt} {pos : Pos} (ok : c.OK) (hf : ∀ env x, foldedSetIterable iter env x = pure x) (h : SRC c iter t μ σ fun tks te σ1 => FT c body te (tks c) μ σ1 Q) : EX c (.For t iter body [] pos) μ σ Q := by
  refine ex_for hf fun Φ s E Q' S k => h Φ s E Q' S fun I sh tks te σ1 s1 h1 W hs S1 => k I sh (tks c).length σ1 s1 ?_ (hs c) S1
  exact floop_of (W c ok) _ 0 μ σ1 (by lia -abstractProof) (by simpa using h1)
end

/-! ### a list -/
noncomputable def shList (I a : Addr) (i : Nat) (p : List (Addr × Obj)) : Prop := ∃ o, p = [(I, o)] ∧ o.cls = .type "list_iterator" ∧ o.data = .fields #[.ref a, .int i 0]
noncomputable def tkList (a : Addr) (Vs : List Value) (t : Expr) (c : Cx) : List TP := Vs.map fun V μ σ R => σ a = some (.list Vs) ∧ AS c t V μ σ R
noncomputable def simpleT : Expr → Bool
  | .Name .. => true
  | .Tuple .. => true
  | _ => false
noncomputable def ST (t : Expr) : Prop := (∃ x p, t = .Name x p) ∨ ∃ l k p, t = .Tuple l k p
theorem simpleT_iff {t : Expr} (h : simpleT t = true) : ST t := by
  cases t <;> try (exact noB h)
  · exact .inl ⟨_, _, rfl⟩
  · exact .inr ⟨_, _, _, rfl⟩
theorem letGo_list {M : Model} {A : Around} {E : Value → Shared → Prop} {Q : Unit → Shared → Prop} {s : Shared} {t : Expr} {I : Addr} {v : Value} {o : Obj} (ht : simpleT t = true) (ho : s.heap.get? I = some o)
    (hn : ∀ n, o.cls = .type n → ["enumerate", "zip", "dict_itemiterator", "dict_reverseitemiterator", "odict_iterator", "itertools.zip_longest", "itertools.pairwise"].contains n = false) (h : Q () s) : wpAny M A (letOwnedTupleGo t (.ref I) v) Q E s := by
  rcases simpleT_iff ht with ⟨_, _, rfl⟩ | ⟨_, _, _, rfl⟩
  · exact wpAny_pure h
  · unfold letOwnedTupleGo
    cases v with
    | ref a =>
      refine wpAny_bind (wpAny_load ho ?_)
      split
      · rename_i n vs hc hd
        rw [hn n hc]
        exact wpAny_pure h
      · exact wpAny_pure h
    | _ => exact wpAny_pure h
section
variable {c : Cx} {μ : AM} {σ : AH}
theorem tki_list {t : Expr} {I a : Addr} {i : Nat} {Vs : List Value} {V : Value} {R : AM → AH → Prop} (ht : simpleT t = true) (ha : σ a = some (.list Vs)) (hV : Vs[i]? = some V) (h : AS c t V μ σ R) : TKi c t I (shList I a i) (shList I a (i + 1)) μ σ R := by
  rintro Φ s E E' Q' ⟨p, ⟨o, rfl, hc, hd⟩, hdis, hz, S⟩ k
  refine Sta.el S fun m ml news δ prot W => ?_
  refine W.elL ha fun vs hl e => ?_
  have hI := (W.N _ (W.P _ (.head _)).1).1
  subst e
  rw [List.getElem?_map] at hV
  obtain ⟨v, hv, ev⟩ := Option.map_eq_some_iff.mp hV
  refine wpAny_pyNext_list_item ⟨o, hI, hc, hd⟩ hl (by simpa using hv) fun h' hit hs => ?_
  refine hide fun S0 hS0 => ?_
  obtain ⟨o', ho', hc', hd'⟩ := hit
  refine hS0 ?_
  clear hS0 S0
  have S' : Sta c ((I, o') :: Φ) μ σ { s with heap := h' } := Sta.turn (p := [(I, o)]) (p' := [(I, o')]) (tk := s.toks) S hz hdis (fun r hr => ⟨_, .head _, by rw [List.mem_singleton.mp hr]⟩)
    (fun b ob hb e => (hs.2 b (hb _ (.head _))).trans e) (fun q hq => by rw [List.mem_singleton.mp hq]; exact ho')
  refine letGo_list ht ho' (fun n e => by rw [hc'] at e; cases e; decide) ?_
  exact h ((I, o') :: Φ) _ E' _ v ev S' fun μ' σ' s' hr S2 => k μ' σ' s' hr ⟨[(I, o')], ⟨o', rfl, hc', hd'⟩, fun q hq r hr' => by rw [List.mem_singleton.mp hr']; exact hdis q hq (I, o) (.head _), hz, S2⟩
theorem tke_list {I a : Addr} {Vs : List Value} (ok : c.OK) (ha : σ a = some (.list Vs)) : TKe c I (shList I a Vs.length) μ σ := by
  rintro Φ s E Q' ⟨p, ⟨o, rfl, hc, hd⟩, hdis, hz, S⟩ k
  refine Sta.el S fun m ml news δ prot W => ?_
  refine W.elL ha fun vs hl e => ?_
  have hI := (W.N _ (W.P _ (.head _)).1).1
  have hsz : vs.size = Vs.length := by rw [← e]; simp
  refine wpAny_pyNext_list_end ok.hh ⟨o, hI, hc, hd⟩ hl (by rw [Array.getElem?_eq_none]; lia -abstractProof) fun h' hs => k _ ?_
  exact Sta.turn (p := [(I, o)]) (p' := []) (tk := s.toks) S hz hdis (fun r hr => (nomatch hr)) (fun b ob hb e => hs b ob (hb _ (.head _)) e) (fun q hq => (nomatch hq))
theorem works_list {t : Expr} {I a : Addr} {Vs : List Value} (ht : simpleT t = true) (ok : c.OK) : Works c t I (shList I a) (tkList a Vs t c) (fun σ => σ a = some (.list Vs)) where
  item := fun i tk hi μ σ R h => by
    unfold tkList at hi
    rw [List.getElem?_map] at hi
    obtain ⟨V, hV, rfl⟩ := Option.map_eq_some_iff.mp hi
    exact tki_list ht h.1 hV h.2
  done := fun μ σ h => by
    have := tke_list (c := c) (μ := μ) (I := I) ok h
    simpa [tkList] using this
theorem tks_list {I a : Addr} {i : Nat} : TKs c I (shList I a i) := by
  rintro Φ μ σ s E Q' ⟨p, ⟨o, rfl, hc, hd⟩, hdis, hz, S⟩ h
  refine Sta.el S fun m ml news δ prot W => ?_
  exact wpAny_pyIter_listiter ⟨o, (W.N _ (W.P _ (.head _)).1).1, hc, hd⟩ h
theorem src_list {iter t : Expr} {R : (Cx → List TP) → (AH → Prop) → AH → Prop} (ht : simpleT t = true)
    (h : EV c iter μ σ fun V σ1 => ∃ a Vs, V = .ref a ∧ σ1 a = some (.list Vs) ∧ R (tkList a Vs t) (fun σ => σ a = some (.list Vs)) σ1) : SRC c iter t μ σ R := by
  intro Φ s E Q' S k
  refine h Φ s E _ S fun v σ1 s1 h1 S1 => ?_
  refine hide fun S0 hS0 => ?_
  obtain ⟨a, Vs, e, ha, hR⟩ := h1
  refine hS0 ?_
  clear hS0 S0
  rw [er_ref e]
  refine Sta.el S1 fun m ml news δ prot W => ?_
  refine W.elL ha fun vs hl _ => ?_
  refine wpAny_pyIter_list hl ?_
  have hn : s1.heap.get? s1.heap.objs.size = none := Heap.get?_none_of_le (Nat.le_refl _)
  obtain ⟨hdis, S2⟩ := Sta.aside (p := [(s1.heap.objs.size, ({ cls := .type "list_iterator", data := .fields #[.ref a, .int 0 0] } : Obj))]) (tk := s1.toks) S1 (h' := s1.heap.push { cls := .type "list_iterator", data := .fields #[.ref a, .int 0 0] })
    (fun b o e => Heap.get?_push_of_some _ e) (fun q hq => by rw [List.mem_singleton.mp hq]; exact ⟨Heap.get?_push_size _ rfl, hn⟩)
  exact k _ (shList s1.heap.objs.size a) (tkList a Vs t) (fun σ => σ a = some (.list Vs)) σ1 _ hR (fun c'' ok'' => works_list ht ok'') (fun c'' => tks_list) ⟨_, ⟨_, rfl, rfl, rfl⟩, hdis, fun q hq => W.fzP q hq, S2⟩

/-! ### a list from behind -/
noncomputable def shRev (I a : Addr) (k : Nat) (i : Nat) (p : List (Addr × Obj)) : Prop := i ≤ k ∧ ∃ o, p = [(I, o)] ∧ o.cls = .type "list_reverseiterator" ∧ o.data = .fields #[.ref a, rawInt ((k : Int) - 1 - i)]
noncomputable def tkRev (a : Addr) (Vs : List Value) (t : Expr) (c : Cx) : List TP := Vs.reverse.map fun V μ σ R => σ a = some (.list Vs) ∧ AS c t V μ σ R
theorem works_rev {t : Expr} {I a : Addr} {Vs : List Value} (ht : simpleT t = true) (ok : c.OK) : Works c t I (shRev I a Vs.length) (tkRev a Vs t c) (fun σ => σ a = some (.list Vs)) where
  item := fun i tk hi μ σ R h => by
    unfold tkRev at hi
    rw [List.getElem?_map] at hi
    obtain ⟨V, hV, rfl⟩ := Option.map_eq_some_iff.mp hi
    obtain ⟨ha, h⟩ := h
    rintro Φ s E E' Q' ⟨p, ⟨hik, o, rfl, hc, hd⟩, hdis, hz, S⟩ k
    refine Sta.el S fun m ml news δ prot W => ?_
    refine W.elL ha fun vs hl e => ?_
    have hI := (W.N _ (W.P _ (.head _)).1).1
    have hlt : i < Vs.length := by
      have := (List.getElem?_eq_some_iff.mp hV).1
      simpa using this
    have hsz : vs.size = Vs.length := by rw [← e]; simp
    rw [List.getElem?_reverse hlt] at hV
    have hk : (Vs.length : Int) - 1 - i = ((Vs.length - 1 - i : Nat) : Int) := by lia -abstractProof
    rw [hk] at hd
    rw [← e, List.getElem?_map] at hV
    obtain ⟨v, hv, ev⟩ := Option.map_eq_some_iff.mp hV
    have hlen : (vs.toList.map er).length = Vs.length := by rw [e]
    rw [hlen] at hv
    refine wpAny_pyNext_rev_item (i := Vs.length - 1 - i) ⟨o, hI, hc, hd⟩ hl (by simpa using hv) fun h' hit hs => ?_
    refine hide fun S0 hS0 => ?_
    obtain ⟨o', ho', hc', hd'⟩ := hit
    refine hS0 ?_
    clear hS0 S0
    have S' : Sta c ((I, o') :: Φ) μ σ { s with heap := h' } := Sta.turn (p := [(I, o)]) (p' := [(I, o')]) (tk := s.toks) S hz hdis (fun r hr => ⟨_, .head _, by rw [List.mem_singleton.mp hr]⟩)
      (fun b ob hb e => (hs.2 b (hb _ (.head _))).trans e) (fun q hq => by rw [List.mem_singleton.mp hq]; exact ho')
    refine letGo_list ht ho' (fun n e => by rw [hc'] at e; cases e; decide) ?_
    have hd2 : o'.data = .fields #[.ref a, rawInt ((Vs.length : Int) - 1 - ((i + 1 : Nat) : Int))] := by rw [hd', show ((Vs.length - 1 - i : Nat) : Int) - 1 = (Vs.length : Int) - 1 - ((i + 1 : Nat) : Int) by lia -abstractProof]
    exact h ((I, o') :: Φ) _ E' _ v ev S' fun μ' σ' s' hr S2 => k μ' σ' s' hr ⟨[(I, o')], ⟨hlt, o', rfl, hc', hd2⟩, fun q hq r hr' => by rw [List.mem_singleton.mp hr']; exact hdis q hq (I, o) (.head _), hz, S2⟩
  done := fun μ σ ha => by
    have hlen : (tkRev a Vs t c).length = Vs.length := by simp [tkRev]
    rw [hlen]
    rintro Φ s E Q' ⟨p, ⟨_, o, rfl, hc, hd⟩, hdis, hz, S⟩ k
    refine Sta.el S fun m ml news δ prot W => ?_
    have hI := (W.N _ (W.P _ (.head _)).1).1
    have hk : (Vs.length : Int) - 1 - Vs.length = -1 := by lia -abstractProof
    rw [hk] at hd
    refine wpAny_pyNext_rev_end ok.hh ⟨o, hI, hc, hd⟩ fun h' hs => k _ ?_
    exact Sta.turn (p := [(I, o)]) (p' := []) (tk := s.toks) S hz hdis (fun r hr => (nomatch hr)) (fun b ob hb e => hs b ob (hb _ (.head _)) e) (fun q hq => (nomatch hq))
theorem callWith_raw {F : Value} {args : List Expr} {Φ : List (Addr × Obj)} {s : Shared} {E Q' : Value → Shared → Prop} {pos : Pos} {P : List Value → AH → Prop} (ok : c.OK) (hs : args.all noStar = true)
    (hk : ∀ h, c.K.In h → ∃ k, (k = Keeper.frame ∨ k = Keeper.machine ∨ k = Keeper.boundFrame) ∧ Looks c.M h (keeperOf F) k)
    (S : Sta c Φ μ σ s) (h : EVs c args μ σ P) (k : ∀ vals σ1 s1, P (vals.map er) σ1 → Sta c Φ μ σ1 s1 → wpAny c.M c.A (call F vals) Q' E s1) :
    wpAny c.M c.A (callWith pos F [] (backTo pos (starEach args c.env)) (backToKw pos (keywordEach [] c.env))) Q' E s := by
  refine callWith_of (P := c.K.In) ?_ hk ?_
  · show ((backTo pos (starEach args c.env)).any (·.1) || false) = false
    rw [starEach_plain hs]; rfl
  · have key := h Φ s E (fun vs s₁ => c.K.In s₁.heap ∧ wpAny c.M c.A (call F ([] ++ vs) []) Q' E s₁) pos S fun vs σ1 s1 h1 S1 => by
      refine ⟨?_, k vs σ1 s1 h1 S1⟩
      refine Sta.el S1 fun m ml news δ prot W => ?_
      exact ok.X.keeps W.F.keep
    cases args with
    | nil =>
      unfold evalArgs
      show wpAny _ _ (spliced [] >>= _) _ E s
      refine wpAny_bind (wpAny_mono key (fun vs s' h' => ?_) fun _ _ x => x)
      refine wpAny_holding ?_
      exact wpAny_bind (wpAny_pure (wpAny_bind (wpAny_pure (wpAny_pure h'))))
    | cons e es =>
      rw [List.all_cons, Bool.and_eq_true] at hs
      rw [starEach_cons hs.1] at key ⊢
      exact evalArgs_plain key
/-- the loop's source is a type called upon values -/
theorem src_type {T : String} {func t : Expr} {args : List Expr} {pos : Pos} {R : (Cx → List TP) → (AH → Prop) → AH → Prop} (ok : c.OK) (hs : args.all noStar = true)
    (hshape : ∀ env, eval (.Call func args [] pos) env = (do callWith pos (← eval func env) [] (backTo pos (starEach args env)) (backToKw pos (keywordEach [] env))))
    (h : EV c func μ σ fun F σ1 => F = .type T ∧ EVs c args μ σ1 fun Vs σ2 => ∀ Φ vals s E Q', vals.map er = Vs → Sta c Φ μ σ2 s →
      (∀ I sh (tks : Cx → List TP) te s1, R tks te σ2 → (∀ c'' : Cx, c''.OK → Works c'' t I sh (tks c'') te) → (∀ c'' : Cx, TKs c'' I (sh 0)) → ItAt c (sh 0) Φ μ σ2 s1 → Q' (.ref I) s1) → wpAny c.M c.A (call (.type T) vals) (fun x s1 => wpAny c.M c.A (pyIter x) Q' E s1) E s) : SRC c (.Call func args [] pos) t μ σ R := by
  intro Φ s E Q' S k
  rw [hshape]
  refine wpAny_bind (h Φ s E _ S fun f σ1 s1 h1 S1 => ?_)
  obtain ⟨e, h1⟩ := h1
  rw [er_type e]
  exact callWith_raw ok hs (fun h' X => ⟨.machine, .inr (.inl rfl), Looks.of_pure rfl⟩) S1 h1 fun vals σ2 s2 h2 S2 => h2 Φ vals s2 E Q' rfl S2 fun I sh tks te s3 hR W hs' S3 => k I sh tks te σ2 s3 hR W hs' S3

theorem tks_rev {I a : Addr} {k i : Nat} : TKs c I (shRev I a k i) := by
  rintro Φ μ σ s E Q' ⟨p, ⟨_, o, rfl, hc, hd⟩, hdis, hz, S⟩ h
  refine Sta.el S fun m ml news δ prot W => ?_
  exact wpAny_pyIter_revIter ⟨o, (W.N _ (W.P _ (.head _)).1).1, hc, hd⟩ h
theorem src_rev {func t e : Expr} {pos : Pos} {R : (Cx → List TP) → (AH → Prop) → AH → Prop} (ht : simpleT t = true) (ok : c.OK) (hs : noStar e = true)
    (hshape : ∀ env, eval (.Call func [e] [] pos) env = (do callWith pos (← eval func env) [] (backTo pos (starEach [e] env)) (backToKw pos (keywordEach [] env))))
    (h : EV c func μ σ fun F σ1 => F = .type "reversed" ∧ EV c e μ σ1 fun V σ2 => ∃ a Vs, V = .ref a ∧ σ2 a = some (.list Vs) ∧ R (tkRev a Vs t) (fun σ => σ a = some (.list Vs)) σ2) : SRC c (.Call func [e] [] pos) t μ σ R := by
  refine src_type ok (by simp [hs]) hshape (h.mono fun F σ1 ⟨eF, h1⟩ => ⟨eF, evs_cons hs (h1.mono fun V σ2 h2 => evs_nil fun Φ vals s E Q' ev S k => ?_)⟩)
  refine hide fun S0 hS0 => ?_
  obtain ⟨a, Vs, rfl, ha, hR⟩ := h2
  refine hS0 ?_
  clear hS0 S0
  obtain ⟨v, rfl, e1⟩ := map_er1 ev
  rw [er_ref e1]
  refine Sta.el S fun m ml news δ prot W => ?_
  refine W.elL ha fun vs hl e2 => ?_
  have hsz : vs.size = Vs.length := by rw [← e2]; simp
  refine call_reversed_list hl ?_
  have hn : s.heap.get? s.heap.objs.size = none := Heap.get?_none_of_le (Nat.le_refl _)
  obtain ⟨hdis, S2⟩ := Sta.aside (p := [(s.heap.objs.size, revObj a ((vs.size : Int) - 1))]) (tk := s.toks) S (h' := s.heap.push (revObj a ((vs.size : Int) - 1)))
    (fun b o e => Heap.get?_push_of_some _ e) (fun q hq => by rw [List.mem_singleton.mp hq]; exact ⟨Heap.get?_push_size _ rfl, hn⟩)
  have hit : (s.heap.push (revObj a ((vs.size : Int) - 1))).IsRevIter s.heap.objs.size a ((vs.size : Int) - 1) := ⟨_, Heap.get?_push_size _ rfl, rfl, rfl⟩
  refine wpAny_pyIter_revIter (s := { s with heap := s.heap.push (revObj a ((vs.size : Int) - 1)) }) hit ?_
  refine k _ (shRev s.heap.objs.size a Vs.length) (tkRev a Vs t) (fun σ => σ a = some (.list Vs)) _ hR (fun c'' ok'' => works_rev ht ok'') (fun c'' => tks_rev) ⟨_, ⟨Nat.zero_le _, _, rfl, rfl, ?_⟩, hdis, fun q hq => W.fzP q hq, S2⟩
  show Data.fields #[Value.ref a, rawInt ((vs.size : Int) - 1)] = _
  rw [hsz]; exact congrArg (fun x => Data.fields #[Value.ref a, rawInt x]) (by lia -abstractProof)
end
section
variable {c : Cx} {μ : AM} {σ : AH}
/-- a pair at hand, out of the machine's own tuple -/
theorem as_pair_run {t1 t2 : Expr} {x1 : Nat} {pos : Pos} {T : Addr} {v1 v2 : Value} {R : AM → AH → Prop} {Φ : List (Addr × Obj)} {s : Shared} {E : Value → Shared → Prop} {Q' : Unit → Shared → Prop} (ok : c.OK) (h1 : noStar t1 = true) (h2 : noStar t2 = true)
    (hT : s.heap.IsTuple T #[v1, v2]) (S : Sta c Φ μ σ s) (h : AS c t1 (er v1) μ σ fun μ1 σ1 => AS c t2 (er v2) μ1 σ1 R) (k : ∀ μ' σ' s', R μ' σ' → Sta c Φ μ' σ' s' → Q' () s') :
    wpAny c.M c.A (assign (.Tuple [t1, t2] x1 pos) c.env (.ref T)) Q' E s := by
  have hs : [t1, t2].all noStar = true := by simp [h1, h2]
  obtain ⟨a, b⟩ := assignEach_len (env := c.env) hs
  refine wpAny_assign_Tuple ok.hh hT a b fun h' hx => ?_
  have S' : Sta c Φ μ σ { s with heap := h' } := S.keep (tk := s.toks) fun b' o' e' => hx b' o' (Nat.ne_of_lt (Heap.lt_size e')) e'
  exact ass_run (vs := [v1, v2]) hs h S' k

/-! ### a range -/
noncomputable def rgObj (x left : Int) : Obj := { cls := .type "range_iterator", dict := none, data := .fields #[rawInt x, rawInt left, rawInt 1], slots := #[] }
noncomputable def shRange (I : Addr) (n i : Nat) (p : List (Addr × Obj)) : Prop := p = [(I, rgObj (0 + i) (n - i))]
noncomputable def tkRange (n : Nat) (t : Expr) (c : Cx) : List TP := (List.range n).map fun (i : Nat) μ σ R => AS c t (vi i) μ σ R
theorem works_range {t : Expr} {I : Addr} {n : Nat} (ht : simpleT t = true) (ok : c.OK) : Works c t I (shRange I n) (tkRange n t c) (fun _ => True) where
  item := fun i tk hi μ σ R h => by
    unfold tkRange at hi
    rw [List.getElem?_map] at hi
    obtain ⟨j, hj, rfl⟩ := Option.map_eq_some_iff.mp hi
    obtain ⟨hlt, hj⟩ := List.getElem?_eq_some_iff.mp hj
    rw [List.getElem_range] at hj; subst hj
    rw [List.length_range] at hlt
    rintro Φ s E E' Q' ⟨p, rfl, hdis, hz, S⟩ k
    refine Sta.el S fun m ml news δ prot W => ?_
    have hI := (W.N _ (W.P _ (.head _)).1).1
    refine wpAny_pyNext_range_item (it := I) (x := 0 + i) (left := n - i) (step := 1) hI (by lia -abstractProof) fun h' hit hs => ?_
    have S' : Sta c ((I, rgObj (0 + (i + 1 : Nat)) (n - (i + 1 : Nat))) :: Φ) μ σ { s with heap := h', toks := s.toks + 1 } := Sta.turn (p := [(I, _)]) (p' := [(I, _)]) (tk := s.toks + 1) S hz hdis (fun r hr => ⟨_, .head _, by rw [List.mem_singleton.mp hr]⟩)
      (fun b ob hb e => (hs.2 b (hb _ (.head _))).trans e) (fun q hq => by
        rw [List.mem_singleton.mp hq]; refine hit.trans ?_
        simp only [rgObj]
        rw [show (0 : Int) + i + 1 = 0 + ((i + 1 : Nat) : Int) by lia -abstractProof, show (n : Int) - i - 1 = n - ((i + 1 : Nat) : Int) by lia -abstractProof])
    refine letGo_list ht hit (fun n e => by cases e; decide) ?_
    refine h _ _ E' _ (.int (0 + i) s.toks) ?_ S' fun μ' σ' s' hr S2 => k μ' σ' s' hr ⟨_, rfl, fun q hq r hr' => by rw [List.mem_singleton.mp hr']; exact hdis q hq (I, rgObj (0 + i) (n - i)) (.head _), hz, S2⟩
    show vi (0 + (i : Int)) = vi i
    rw [Int.zero_add]
  done := fun μ σ _ => by
    have hlen : (tkRange n t c).length = n := by simp [tkRange]
    rw [hlen]
    rintro Φ s E Q' ⟨p, rfl, hdis, hz, S⟩ k
    refine Sta.el S fun m ml news δ prot W => ?_
    have hI := (W.N _ (W.P _ (.head _)).1).1
    refine wpAny_pyNext_range_end ok.hh (it := I) (x := 0 + n) (left := n - n) (step := 1) hI (by lia -abstractProof) fun h' hs => k _ ?_
    exact Sta.turn (p := [(I, _)]) (p' := []) (tk := s.toks) S hz hdis (fun r hr => (nomatch hr)) (fun b ob hb e => hs b ob (hb _ (.head _)) e) (fun q hq => (nomatch hq))
theorem tks_range {I : Addr} {n i : Nat} : TKs c I (shRange I n i) := by
  rintro Φ μ σ s E Q' ⟨p, rfl, hdis, hz, S⟩ h
  refine Sta.el S fun m ml news δ prot W => ?_
  exact wpAny_pyIter_rangeiter (x := 0 + i) (left := n - i) (step := 1) (W.N _ (W.P _ (.head _)).1).1 h
theorem src_range {func t e : Expr} {pos : Pos} {R : (Cx → List TP) → (AH → Prop) → AH → Prop} (ht : simpleT t = true) (ok : c.OK) (hs : noStar e = true)
    (hshape : ∀ env, eval (.Call func [e] [] pos) env = (do callWith pos (← eval func env) [] (backTo pos (starEach [e] env)) (backToKw pos (keywordEach [] env))))
    (h : EV c func μ σ fun F σ1 => F = .type "range" ∧ EV c e μ σ1 fun V σ2 => ∃ n : Int, V = vi n ∧ -(2 ^ 62) ≤ n ∧ n < 2 ^ 62 ∧ R (tkRange n.toNat t) (fun _ => True) σ2) : SRC c (.Call func [e] [] pos) t μ σ R := by
  refine src_type ok (by simp [hs]) hshape (h.mono fun F σ1 ⟨eF, h1⟩ => ⟨eF, evs_cons hs (h1.mono fun V σ2 h2 => evs_nil fun Φ vals s E Q' ev S k => ?_)⟩)
  refine hide fun S0 hS0 => ?_
  obtain ⟨n, rfl, l1, l2, hR⟩ := h2
  refine hS0 ?_
  clear hS0 S0
  obtain ⟨v, rfl, e1⟩ := map_er1 ev
  obtain ⟨tk, rfl⟩ := er_int e1
  refine Sta.el S fun m ml news δ prot W => ?_
  refine call_range_1 ?_
  have S1 := S.keep (h' := s.heap.push { cls := .type "range", data := .fields #[.int 0 s.toks, .int n tk, .int 1 (s.toks + 1)] }) (tk := s.toks + 1 + 1) fun b o e => Heap.get?_push_of_some _ e
  generalize hs1 : ({ s with heap := s.heap.push { cls := .type "range", data := .fields #[.int 0 s.toks, .int n tk, .int 1 (s.toks + 1)] }, toks := s.toks + 1 + 1 } : Shared) = s1 at S1 ⊢
  have hr : IsRange s1.heap s.heap.objs.size 0 n 1 s.toks tk (s.toks + 1) := by rw [← hs1]; exact IsRange.new ..
  refine wpAny_pyIter_range hr (small_one (by lia -abstractProof) (by lia -abstractProof) l1 l2) ?_
  have hn : s1.heap.get? s1.heap.objs.size = none := Heap.get?_none_of_le (Nat.le_refl _)
  have hsz : Builtin.Range.rangeSize 0 n 1 = ((n.toNat : Nat) : Int) - ((0 : Nat) : Int) := by rw [rangeSize_one]; split <;> lia -abstractProof
  rw [hsz]
  obtain ⟨hdis, S2⟩ := Sta.aside (p := [(s1.heap.objs.size, rgObj (0 + ((0 : Nat) : Int)) ((n.toNat : Nat) - ((0 : Nat) : Int)))]) (tk := s1.toks) S1 (h' := s1.heap.push (rgObj (0 + ((0 : Nat) : Int)) ((n.toNat : Nat) - ((0 : Nat) : Int))))
    (fun b o e => Heap.get?_push_of_some _ e) (fun q hq => by rw [List.mem_singleton.mp hq]; exact ⟨Heap.get?_push_size _ rfl, hn⟩)
  exact k _ (shRange s1.heap.objs.size n.toNat) (tkRange n.toNat t) (fun _ => True) _ hR (fun c'' ok'' => works_range ht ok'') (fun c'' => tks_range) ⟨_, rfl, hdis, fun q hq => W.fzP q hq, S2⟩

/-! ### pairs of a number and an item -/
noncomputable def isPairT : Expr → Option (Expr × Expr)
  | .Tuple [t1, t2] _ _ => if noStar t1 = true ∧ noStar t2 = true then some (t1, t2) else none
  | _ => none
noncomputable def PT (t t1 t2 : Expr) : Prop := ∃ x1 pos, t = .Tuple [t1, t2] x1 pos ∧ noStar t1 = true ∧ noStar t2 = true
theorem isPairT_iff {t t1 t2 : Expr} (h : isPairT t = some (t1, t2)) : PT t t1 t2 := by
  cases t <;> try (exact nos h)
  rename_i l k p
  rcases l with _ | ⟨a, _ | ⟨b, _ | ⟨d, l⟩⟩⟩ <;> try (exact nos h)
  have h : (if noStar a = true ∧ noStar b = true then some (a, b) else none) = some (t1, t2) := h
  by_cases q : noStar a = true ∧ noStar b = true
  · rw [if_pos q] at h; cases h; exact ⟨_, _, rfl, q⟩
  · rw [if_neg q] at h; cases h
noncomputable def enObj (it : Addr) (i : Int) (old : Value) : Obj := { cls := .type "enumerate", dict := none, data := .fields #[.none, .bool false, .ref it, rawInt i, .none, old], slots := #[] }
noncomputable def shEnum (e it a : Addr) (i : Nat) (p : List (Addr × Obj)) : Prop := e ≠ it ∧ ∃ old o, p = [(e, enObj it i old), (it, o)] ∧ o.cls = .type "list_iterator" ∧ o.data = .fields #[.ref a, .int i 0]
noncomputable def tkEnum (a : Addr) (Vs : List Value) (t1 t2 : Expr) (c : Cx) : List TP := Vs.mapIdx fun i V μ σ R => σ a = some (.list Vs) ∧ AS c t1 (vi i) μ σ fun μ1 σ1 => AS c t2 V μ1 σ1 R
theorem two {α : Type} {P : α → Prop} {a b : α} (h : ∀ x ∈ [a, b], P x) : P a ∧ P b := ⟨h _ (.head _), h _ (.tail _ (.head _))⟩
theorem all2 {α : Type} {P : α → Prop} {a b : α} (h1 : P a) (h2 : P b) : ∀ x ∈ [a, b], P x := fun _ h =>
  (List.mem_cons.mp h).elim (fun e => e ▸ h1) fun h => List.mem_singleton.mp h ▸ h2
theorem five {α : Type} {P : α → Prop} {a b c d e : α} (h : ∀ x ∈ [a, b, c, d, e], P x) : Xa5 (P a) (P b) (P c) (P d) (P e) :=
  ⟨h _ (.head _), h _ (.tail _ (.head _)), h _ (.tail _ (.tail _ (.head _))), h _ (.tail _ (.tail _ (.tail _ (.head _)))), h _ (.tail _ (.tail _ (.tail _ (.tail _ (.head _)))))⟩
theorem all5 {α : Type} {P : α → Prop} {a b c d e : α} (h1 : P a) (h2 : P b) (h3 : P c) (h4 : P d) (h5 : P e) : ∀ x ∈ [a, b, c, d, e], P x := fun _ h =>
  (List.mem_cons.mp h).elim (fun e => e ▸ h1) fun h => (List.mem_cons.mp h).elim (fun e => e ▸ h2) fun h => (List.mem_cons.mp h).elim (fun e => e ▸ h3) fun h => all2 h4 h5 _ h
theorem works_enum {t t1 t2 : Expr} {e it a : Addr} {Vs : List Value} (ht : isPairT t = some (t1, t2)) (ok : c.OK) : Works c t e (shEnum e it a) (tkEnum a Vs t1 t2 c) (fun σ => σ a = some (.list Vs)) where
  item := fun i tk hi μ σ R h => by
    refine hide fun S0 hS0 => ?_
    obtain ⟨x1, pos, rfl, hs1, hs2⟩ := isPairT_iff ht
    refine hS0 ?_
    clear hS0 S0
    unfold tkEnum at hi
    rw [List.getElem?_mapIdx] at hi
    obtain ⟨V, hV, rfl⟩ := Option.map_eq_some_iff.mp hi
    obtain ⟨ha, h⟩ := h
    rintro Φ s E E' Q' ⟨p, ⟨hne, old, o, rfl, hc, hd⟩, hdis, hz, S⟩ k
    refine Sta.el S fun m ml news δ prot W => ?_
    refine W.elL ha fun vs hl e' => ?_
    have hE := (W.N _ (W.P _ (.head _)).1).1
    have hI := (W.N _ (W.P _ (.tail _ (.head _))).1).1
    have hV' := hV
    rw [← e', List.getElem?_map] at hV'
    obtain ⟨v, hv, ev⟩ := Option.map_eq_some_iff.mp hV'
    refine wpAny_pyNext_enum_item (it := it) (i := i) (old := old) hE ⟨o, hI, hc, hd⟩ hl (by simpa using hv) hne fun h' hen hit hT hsize hk => ?_
    refine wpAny_letOwnedTupleGo_enum hen fun h'' hen2 hs2' => ?_
    refine hide fun S0 hS0 => ?_
    obtain ⟨o', ho', hc', hd'⟩ := hit
    refine hS0 ?_
    clear hS0 S0
    have hTe : s.heap.objs.size ≠ e := Nat.ne_of_gt (Heap.lt_size hE)
    have S' : Sta c ([(e, enObj it (i + 1 : Nat) v), (it, o')] ++ Φ) μ σ { s with heap := h'', toks := s.toks + 1 } := Sta.turn (p := [(e, _), (it, o)]) (p' := [(e, _), (it, o')]) (tk := s.toks + 1) S hz hdis (all2 ⟨_, .head _, rfl⟩ ⟨_, .tail _ (.head _), rfl⟩)
      (fun b ob hb e0 => have n := two hb; (hs2'.2 b n.1).trans (hk b ob n.1 n.2 e0)) (all2 hen2 ((hs2'.2 it hne.symm).trans ho'))
    have hTup : h''.IsTuple s.heap.objs.size #[.int i s.toks, v] := ⟨_, (hs2'.2 _ hTe).trans hT, rfl, _, rfl⟩
    refine as_pair_run (s := { s with heap := h'', toks := s.toks + 1 }) ok hs1 hs2 hTup S' (by rw [ev]; exact h) fun μ' σ' s' hr S2 => k μ' σ' s' hr ⟨_, ⟨hne, v, o', rfl, hc', hd'⟩, fun q hq r hr' => ?_, hz, S2⟩
    have n := two (hdis q hq)
    exact all2 (P := fun r => q.1 ≠ r.1) n.1 n.2 r hr'
  done := fun μ σ ha => by
    have hlen : (tkEnum a Vs t1 t2 c).length = Vs.length := by simp [tkEnum]
    rw [hlen]
    rintro Φ s E Q' ⟨p, ⟨hne, old, o, rfl, hc, hd⟩, hdis, hz, S⟩ k
    refine Sta.el S fun m ml news δ prot W => ?_
    refine W.elL ha fun vs hl e' => ?_
    have hsz : vs.size = Vs.length := by rw [← e']; simp
    have hE := (W.N _ (W.P _ (.head _)).1).1
    have hI := (W.N _ (W.P _ (.tail _ (.head _))).1).1
    refine wpAny_pyNext_enum_end ok.hh (it := it) (i := Vs.length) (old := old) hE ⟨o, hI, hc, hd⟩ hl (by rw [Array.getElem?_eq_none]; lia -abstractProof) fun h' hs => k _ ?_
    exact Sta.turn (p := [(e, _), (it, o)]) (p' := []) (tk := s.toks) S hz hdis (fun r hr => (nomatch hr)) (fun b ob hb e => hs b ob (hb _ (.tail _ (.head _))) e) (fun q hq => (nomatch hq))
theorem tks_enum {e it a : Addr} {i : Nat} : TKs c e (shEnum e it a i) := by
  rintro Φ μ σ s E Q' ⟨p, ⟨hne, old, o, rfl, hc, hd⟩, hdis, hz, S⟩ h
  refine Sta.el S fun m ml news δ prot W => ?_
  exact wpAny_pyIter_enum (it := it) (i := i) (old := old) (W.N _ (W.P _ (.head _)).1).1 h
theorem src_enum {func t t1 t2 e : Expr} {pos : Pos} {R : (Cx → List TP) → (AH → Prop) → AH → Prop} (ht : isPairT t = some (t1, t2)) (ok : c.OK) (hs : noStar e = true)
    (hshape : ∀ env, eval (.Call func [e] [] pos) env = (do callWith pos (← eval func env) [] (backTo pos (starEach [e] env)) (backToKw pos (keywordEach [] env))))
    (h : EV c func μ σ fun F σ1 => F = .type "enumerate" ∧ EV c e μ σ1 fun V σ2 => ∃ a Vs, V = .ref a ∧ σ2 a = some (.list Vs) ∧ R (tkEnum a Vs t1 t2) (fun σ => σ a = some (.list Vs)) σ2) : SRC c (.Call func [e] [] pos) t μ σ R := by
  refine src_type ok (by simp [hs]) hshape (h.mono fun F σ1 ⟨eF, h1⟩ => ⟨eF, evs_cons hs (h1.mono fun V σ2 h2 => evs_nil fun Φ vals s E Q' ev S k => ?_)⟩)
  refine hide fun S0 hS0 => ?_
  obtain ⟨a, Vs, rfl, ha, hR⟩ := h2
  refine hS0 ?_
  clear hS0 S0
  obtain ⟨v, rfl, e1⟩ := map_er1 ev
  rw [er_ref e1]
  refine Sta.el S fun m ml news δ prot W => ?_
  refine W.elL ha fun vs hl e2 => ?_
  refine call_enumerate_list hl fun h' hen hit hsize hk => ?_
  refine hide fun S0 hS0 => ?_
  obtain ⟨o, ho, hc, hd⟩ := hit
  refine hS0 ?_
  clear hS0 S0
  have hn0 : s.heap.get? s.heap.objs.size = none := Heap.get?_none_of_le (Nat.le_refl _)
  have hn1 : s.heap.get? (s.heap.objs.size + 1) = none := Heap.get?_none_of_le (Nat.le_succ _)
  obtain ⟨hdis, S2⟩ := Sta.aside (p := [(s.heap.objs.size + 1, enObj s.heap.objs.size ((0 : Nat) : Int) .none), (s.heap.objs.size, o)]) (tk := s.toks) S (h' := h') hk (fun q hq => by
    rcases List.mem_cons.mp hq with rfl | hq
    · exact ⟨hen, hn1⟩
    · rw [List.mem_singleton.mp hq]; exact ⟨ho, hn0⟩)
  refine wpAny_pyIter_enum (s := { s with heap := h' }) hen ?_
  exact k _ (shEnum (s.heap.objs.size + 1) s.heap.objs.size a) (tkEnum a Vs t1 t2) (fun σ => σ a = some (.list Vs)) _ hR (fun c'' ok'' => works_enum ht ok'') (fun c'' => tks_enum) ⟨_, ⟨Nat.succ_ne_self _, .none, o, rfl, hc, hd⟩, hdis, fun q hq => W.fzP q hq, S2⟩

/-! ### two lists side by side -/
noncomputable def zpObj (TI TO : Addr) (f0 : Value) : Obj := { cls := .type "zip", dict := none, data := .fields #[f0, .bool false, .bool false, .ref TI, .ref TO], slots := #[] }
noncomputable def prObj (a b : Value) : Obj := { cls := .type "tuple", data := .seq #[a, b] }
structure ZAp (z TI TO i1 i2 : Addr) : Prop where
  TIz : TI ≠ z
  TOz : TO ≠ z
  i1z : i1 ≠ z
  i2z : i2 ≠ z
  TITO : TI ≠ TO
  TIi1 : TI ≠ i1
  TIi2 : TI ≠ i2
  TOi1 : TO ≠ i1
  TOi2 : TO ≠ i2
  i12 : i1 ≠ i2
noncomputable def liObj (a : Addr) (i : Nat) (o : Obj) : Prop := o.cls = .type "list_iterator" ∧ o.data = .fields #[.ref a, .int i 0]
noncomputable def shZip (z TI TO i1 i2 a1 a2 : Addr) (i : Nat) (p : List (Addr × Obj)) : Prop := ZAp z TI TO i1 i2 ∧ ∃ x y o1 o2, p = [(z, zpObj TI TO .none), (TI, prObj (.ref i1) (.ref i2)), (TO, prObj x y), (i1, o1), (i2, o2)] ∧ liObj a1 i o1 ∧ liObj a2 i o2
noncomputable def tkZip (a1 a2 : Addr) (Vs Ws : List Value) (t1 t2 : Expr) (c : Cx) : List TP := (Vs.zip Ws).map fun VW μ σ R => (σ a1 = some (.list Vs) ∧ σ a2 = some (.list Ws)) ∧ AS c t1 VW.1 μ σ fun μ1 σ1 => AS c t2 VW.2 μ1 σ1 R
theorem zap_full {z TI TO i1 i2 a1 a2 : Addr} {c : Cx} {Φ : List (Addr × Obj)} {μ : AM} {σ : AH} {s : Shared} (D : ZAp z TI TO i1 i2) {o1 o2 : Obj} {x y : Value}
    (S : Sta c ([(z, zpObj TI TO .none), (TI, prObj (.ref i1) (.ref i2)), (TO, prObj x y), (i1, o1), (i2, o2)] ++ Φ) μ σ s) {Vs Ws : List Value} (h1 : σ a1 = some (.list Vs)) (h2 : σ a2 = some (.list Ws)) : ZipApart z TI TO i1 i2 a1 a2 := by
  refine Sta.el S fun m ml news δ prot W => ?_
  have key : ∀ a Us, σ a = some (.list Us) → Xa5 (a ≠ z) (a ≠ TI) (a ≠ TO) (a ≠ i1) (a ≠ i2) := fun a Us h => five (P := fun q : Addr × Obj => a ≠ q.1) (a := (z, zpObj TI TO .none)) (b := (TI, prObj (.ref i1) (.ref i2))) (c := (TO, prObj x y)) (d := (i1, o1)) (e := (i2, o2)) fun q hq e => by
    have := (W.P q (List.mem_append_left _ hq)).2.1
    rw [← e, h] at this; cases this
  obtain ⟨p1, p2, p3, p4, p5⟩ := key _ _ h1
  obtain ⟨q1, q2, q3, q4, q5⟩ := key _ _ h2
  exact ⟨D.TIz, D.TOz, D.i1z, D.i2z, D.TITO, D.TIi1, D.TIi2, D.TOi1, D.TOi2, D.i12, p1, p3, p4, p5, q1, q3, q4, q5⟩
theorem works_zip {t t1 t2 : Expr} {z TI TO i1 i2 a1 a2 : Addr} {Vs Ws : List Value} (ht : isPairT t = some (t1, t2)) (ok : c.OK) : Works c t z (shZip z TI TO i1 i2 a1 a2) (tkZip a1 a2 Vs Ws t1 t2 c) (fun σ => σ a1 = some (.list Vs) ∧ σ a2 = some (.list Ws)) where
  item := fun i tk hi μ σ R h => by
    refine hide fun S0 hS0 => ?_
    obtain ⟨xk, pos, rfl, hs1, hs2⟩ := isPairT_iff ht
    refine hS0 ?_
    clear hS0 S0
    unfold tkZip at hi
    rw [List.getElem?_map] at hi
    obtain ⟨VW, hVW, rfl⟩ := Option.map_eq_some_iff.mp hi
    obtain ⟨⟨ha1, ha2⟩, h⟩ := h
    rintro Φ s E E' Q' ⟨p, ⟨D, x, y, o1, o2, rfl, ⟨hc1, hd1⟩, hc2, hd2⟩, hdis, hz, S⟩ k
    have DD := zap_full D S ha1 ha2
    refine Sta.el S fun m ml news δ prot W => ?_
    refine W.elL ha1 fun vs hl1 e1 => ?_
    refine W.elL ha2 fun ws hl2 e2 => ?_
    obtain ⟨hZ, hTI, hTO, hi1, hi2⟩ := five (P := fun q : Addr × Obj => s.heap.get? q.1 = some q.2) (a := (z, zpObj TI TO .none)) (b := (TI, prObj (.ref i1) (.ref i2))) (c := (TO, prObj x y)) (d := (i1, o1)) (e := (i2, o2)) fun q hq => (W.N _ (W.P _ (List.mem_append_left _ hq)).1).1
    rw [List.getElem?_zip_eq_some] at hVW
    obtain ⟨hV, hW⟩ := hVW
    rw [← e1, List.getElem?_map] at hV
    rw [← e2, List.getElem?_map] at hW
    obtain ⟨v, hv, ev⟩ := Option.map_eq_some_iff.mp hV
    obtain ⟨w, hw, ew⟩ := Option.map_eq_some_iff.mp hW
    refine wpAny_pyNext_zip_item DD hZ hTI hTO ⟨o1, hi1, hc1, hd1⟩ ⟨o2, hi2, hc2, hd2⟩ hl1 hl2 (by simpa using hv) (by simpa using hw) fun h' hz' hTO' hit1 hit2 hT hsize hk => ?_
    refine wpAny_letOwnedTupleGo_zip hz' fun h'' hz'' hs' => ?_
    refine hide fun S0 hS0 => ?_
    obtain ⟨o1', ho1, hc1', hd1'⟩ := hit1
    refine hS0 ?_
    clear hS0 S0
    refine hide fun S0 hS0 => ?_
    obtain ⟨o2', ho2, hc2', hd2'⟩ := hit2
    refine hS0 ?_
    clear hS0 S0
    have hTz : s.heap.objs.size ≠ z := Nat.ne_of_gt (Heap.lt_size hZ)
    have S' : Sta c ([(z, zpObj TI TO .none), (TI, prObj (.ref i1) (.ref i2)), (TO, prObj v w), (i1, o1'), (i2, o2')] ++ Φ) μ σ { s with heap := h'', toks := s.toks } := Sta.turn (tk := s.toks) S hz hdis (all5 ⟨_, .head _, rfl⟩ ⟨_, .tail _ (.head _), rfl⟩ ⟨_, .tail _ (.tail _ (.head _)), rfl⟩ ⟨_, .tail _ (.tail _ (.tail _ (.head _))), rfl⟩ ⟨_, .tail _ (.tail _ (.tail _ (.tail _ (.head _)))), rfl⟩)
      (fun b ob hb e0 => by
        obtain ⟨n1, n2, n3, n4, n5⟩ := five hb
        exact (hs'.2 b n1).trans (hk b ob n1 n3 n4 n5 e0)) (all5 hz'' ((hs'.2 _ D.TIz).trans (hk _ _ D.TIz D.TITO D.TIi1 D.TIi2 hTI)) ((hs'.2 _ D.TOz).trans hTO') ((hs'.2 _ D.i1z).trans ho1) ((hs'.2 _ D.i2z).trans ho2))
    have hTup : h''.IsTuple s.heap.objs.size #[v, w] := ⟨_, (hs'.2 _ hTz).trans hT, rfl, _, rfl⟩
    refine as_pair_run (s := { s with heap := h'', toks := s.toks }) ok hs1 hs2 hTup S' (by rw [ev, ew]; exact h) fun μ' σ' s' hr S2 => k μ' σ' s' hr ⟨_, ⟨D, v, w, o1', o2', rfl, ⟨hc1', hd1'⟩, hc2', hd2'⟩, fun q hq => ?_, hz, S2⟩
    obtain ⟨n1, n2, n3, n4, n5⟩ := five (hdis q hq)
    exact all5 n1 n2 n3 n4 n5
  done := fun μ σ ha => by
    obtain ⟨ha1, ha2⟩ := ha
    have hlen : (tkZip a1 a2 Vs Ws t1 t2 c).length = min Vs.length Ws.length := by simp [tkZip]
    rw [hlen]
    rintro Φ s E Q' ⟨p, ⟨D, x, y, o1, o2, rfl, ⟨hc1, hd1⟩, hc2, hd2⟩, hdis, hz, S⟩ k
    have DD := zap_full D S ha1 ha2
    refine Sta.el S fun m ml news δ prot W => ?_
    refine W.elL ha1 fun vs hl1 e1 => ?_
    refine W.elL ha2 fun ws hl2 e2 => ?_
    have hsz1 : vs.size = Vs.length := by rw [← e1]; simp
    have hsz2 : ws.size = Ws.length := by rw [← e2]; simp
    obtain ⟨hZ, hTI, hTO, hi1, hi2⟩ := five (P := fun q : Addr × Obj => s.heap.get? q.1 = some q.2) (a := (z, zpObj TI TO .none)) (b := (TI, prObj (.ref i1) (.ref i2))) (c := (TO, prObj x y)) (d := (i1, o1)) (e := (i2, o2)) fun q hq => (W.N _ (W.P _ (List.mem_append_left _ hq)).1).1
    refine wpAny_pyNext_zip_end ok.hh DD hZ hTI hTO ⟨o1, hi1, hc1, hd1⟩ ⟨o2, hi2, hc2, hd2⟩ hl1 hl2 ?_ fun h' hk => k _ ?_
    · rcases Nat.le_total Vs.length Ws.length with h | h
      · exact .inl (by rw [Array.getElem?_eq_none]; lia -abstractProof)
      · exact .inr (by rw [Array.getElem?_eq_none]; lia -abstractProof)
    · exact Sta.turn (p' := []) (tk := s.toks) S hz hdis (fun r hr => (nomatch hr)) (fun b ob hb e => by
        obtain ⟨n1, n2, n3, n4, n5⟩ := five hb
        exact hk b ob n1 n3 n4 n5 e) (fun q hq => (nomatch hq))
theorem tks_zip {z TI TO i1 i2 a1 a2 : Addr} {i : Nat} : TKs c z (shZip z TI TO i1 i2 a1 a2 i) := by
  rintro Φ μ σ s E Q' ⟨p, ⟨D, x, y, o1, o2, rfl, _⟩, hdis, hz, S⟩ h
  refine Sta.el S fun m ml news δ prot W => ?_
  exact wpAny_pyIter_zip (TI := TI) (TO := TO) (f0 := .none) (W.N _ (W.P _ (.head _)).1).1 h
theorem src_zip {func t t1 t2 e1 e2 : Expr} {pos : Pos} {R : (Cx → List TP) → (AH → Prop) → AH → Prop} (ht : isPairT t = some (t1, t2)) (ok : c.OK) (hs1 : noStar e1 = true) (hs2 : noStar e2 = true)
    (hshape : ∀ env, eval (.Call func [e1, e2] [] pos) env = (do callWith pos (← eval func env) [] (backTo pos (starEach [e1, e2] env)) (backToKw pos (keywordEach [] env))))
    (h : EV c func μ σ fun F σ1 => F = .type "zip" ∧ EV c e1 μ σ1 fun V1 σ2 => EV c e2 μ σ2 fun V2 σ3 => ∃ a1 a2 Vs Ws, V1 = .ref a1 ∧ V2 = .ref a2 ∧ σ3 a1 = some (.list Vs) ∧ σ3 a2 = some (.list Ws) ∧ R (tkZip a1 a2 Vs Ws t1 t2) (fun σ => σ a1 = some (.list Vs) ∧ σ a2 = some (.list Ws)) σ3) : SRC c (.Call func [e1, e2] [] pos) t μ σ R := by
  refine src_type ok (by simp [hs1, hs2]) hshape (h.mono fun F σ1 ⟨eF, h1⟩ => ⟨eF, evs_cons hs1 (h1.mono fun V1 σ2 h2 => evs_cons hs2 (h2.mono fun V2 σ3 h3 => evs_nil fun Φ vals s E Q' ev S k => ?_))⟩)
  refine hide fun S0 hS0 => ?_
  obtain ⟨a1, a2, Vs, Ws, rfl, rfl, ha1, ha2, hR⟩ := h3
  refine hS0 ?_
  clear hS0 S0
  refine hide fun S0 hS0 => ?_
  obtain ⟨v, w, rfl, ee1, ee2⟩ := map_er2 ev
  refine hS0 ?_
  clear hS0 S0
  rw [er_ref ee1, er_ref ee2]
  refine Sta.el S fun m ml news δ prot W => ?_
  refine W.elL ha1 fun vs hl1 f1 => ?_
  refine W.elL ha2 fun ws hl2 f2 => ?_
  refine call_zip_2 hl1 hl2 fun h' hz hTI hTO hit1 hit2 hsize hk => ?_
  refine hide fun S0 hS0 => ?_
  obtain ⟨o1, ho1, hc1, hd1⟩ := hit1
  refine hS0 ?_
  clear hS0 S0
  refine hide fun S0 hS0 => ?_
  obtain ⟨o2, ho2, hc2, hd2⟩ := hit2
  refine hS0 ?_
  clear hS0 S0
  have hn : ∀ j, s.heap.get? (s.heap.objs.size + j) = none := fun j => Heap.get?_none_of_le (Nat.le_add_right _ _)
  obtain ⟨hdis, S2⟩ := Sta.aside (p := [(s.heap.objs.size + 4, zpObj (s.heap.objs.size + 2) (s.heap.objs.size + 3) .none), (s.heap.objs.size + 2, prObj (.ref s.heap.objs.size) (.ref (s.heap.objs.size + 1))), (s.heap.objs.size + 3, prObj .none .none), (s.heap.objs.size, o1), (s.heap.objs.size + 1, o2)]) (tk := s.toks) S (h' := h') hk (fun q hq => by
    simp only [List.mem_cons, List.not_mem_nil, or_false] at hq
    rcases hq with rfl | rfl | rfl | rfl | rfl
    · exact ⟨hz, hn 4⟩
    · exact ⟨hTI, hn 2⟩
    · exact ⟨hTO, hn 3⟩
    · exact ⟨ho1, hn 0⟩
    · exact ⟨ho2, hn 1⟩)
  refine wpAny_pyIter_zip (s := { s with heap := h' }) hz ?_
  refine k _ (shZip (s.heap.objs.size + 4) (s.heap.objs.size + 2) (s.heap.objs.size + 3) s.heap.objs.size (s.heap.objs.size + 1) a1 a2) (tkZip a1 a2 Vs Ws t1 t2) (fun σ => σ a1 = some (.list Vs) ∧ σ a2 = some (.list Ws)) _ hR (fun c'' ok'' => works_zip ht ok'') (fun c'' => tks_zip) ⟨_, ⟨⟨?_, ?_, ?_, ?_, ?_, ?_, ?_, ?_, ?_, ?_⟩, .none, .none, o1, o2, rfl, ⟨hc1, hd1⟩, hc2, hd2⟩, hdis, fun q hq => W.fzP q hq, S2⟩ <;> exact fun (e : @Eq Nat _ _) => by lia -abstractProof
end
/-! ## list comprehensions -/
theorem closureFor_some {scope : Scope} {env : Env} {y : Str} {cc : Addr} (hn : ∀ x ∈ scope.names, x.2 = .free → x.1 = y) (hl : env.cells.lookup y = some cc) :
    closureFor scope env = pure ((scope.names.filter fun x => x.2 == .free).map fun _ => (y, cc)) := by
  have hc : cellOf env y = pure cc := by unfold cellOf; rw [hl]
  simp only [closureFor]
  generalize scope.names = names at hn ⊢
  have key : ∀ (names : List (Str × NameKind)) (acc : List (Str × Addr)), (∀ x ∈ names, x.2 = .free → x.1 = y) →
      (forIn names acc fun x cs => (if (x.snd == NameKind.free) = true then (cellOf env x.fst >>= fun a => pure (ForInStep.yield ((x.fst, a) :: cs))) else pure (ForInStep.yield cs) : Sem (ForInStep (List (Str × Addr))))) = pure ((names.filter fun x => x.2 == .free).map (fun _ => (y, cc)) ++ acc) := by
    intro names
    induction names with
    | nil => intro acc _; rfl
    | cons x r ih =>
      intro acc h
      rw [List.forIn_cons]
      by_cases hk : (x.snd == NameKind.free) = true
      · have hny : x.1 = y := h x (.head _) (by simpa using hk)
        rw [if_pos hk, hny, hc]
        have e := ih ((y, cc) :: acc) fun z hz => h z (.tail _ hz)
        refine Eq.trans (b := forIn r ((y, cc) :: acc) _) rfl (e.trans ?_)
        rw [List.filter_cons, if_pos hk]
        have comm : ∀ (l : List (Str × NameKind)) (acc : List (Str × Addr)), l.map (fun _ => (y, cc)) ++ (y, cc) :: acc = (y, cc) :: (l.map (fun _ => (y, cc)) ++ acc) := by
          intro l; induction l with
          | nil => intro; rfl
          | cons _ _ ih2 => intro acc; rw [List.map_cons, List.cons_append, ih2]; rfl
        rw [comm]; rfl
      · rw [if_neg hk]
        refine Eq.trans (b := forIn r acc _) rfl ?_
        rw [ih acc fun z hz => h z (.tail _ hz), List.filter_cons, if_neg hk]
  rw [key names [] hn, List.append_nil]
  rfl

noncomputable def relS (scope sc : Scope) : Scope :=
  { scope with names := scope.names.map fun (n, k) => if (k == .free && sc.kind == .function && sc.names.lookup n == some .cell) then (n, .cell) else (n, k) }

noncomputable def TI (c : Cx) : List Expr → AM → AH → (Bool → AH → Prop) → Prop
  | [], _, σ, Q => Q true σ
  | [t], μ, σ, Q => TR c t μ σ Q
  | _, _, _, _ => False
noncomputable def CT (c : Cx) (elt : Expr) (ifs : List Expr) (te : AH → Prop) : List TP → List Value → AM → AH → (List Value → AH → Prop) → Prop
  | [], acc, _, σ, Q => te σ ∧ Q acc σ
  | tk :: rest, acc, μ, σ, Q => tk μ σ fun μ1 σ1 => TI c ifs μ1 σ1 fun b σ2 => if b = true then EV c elt μ1 σ2 fun v σ3 => CT c elt ifs te rest (acc ++ [v]) μ1 σ3 Q else CT c elt ifs te rest acc μ1 σ2 Q

section
variable {c : Cx} {Q : List Value → AH → Prop}
theorem TI.mono {ifs : List Expr} {μ : AM} {σ : AH} {Q Q' : Bool → AH → Prop} (h : TI c ifs μ σ Q) (hq : ∀ b σ', Q b σ' → Q' b σ') : TI c ifs μ σ Q' := by
  match ifs, h with
  | [], h => exact hq _ _ h
  | [t], h => exact fun Φ s E R S k => h Φ s E R S fun v σ' s' x => k v σ' s' (hq _ _ x)
theorem ti_run {ifs : List Expr} {μ : AM} {σ : AH} {Q : Bool → AH → Prop} {Φ : List (Addr × Obj)} {s : Shared} {E : Value → Shared → Prop} {Q' : Bool → Shared → Prop} (h : TI c ifs μ σ Q) (S : Sta c Φ μ σ s) (k : ∀ b σ' s', Q b σ' → Sta c Φ μ σ' s' → Q' b s') :
    wpAny c.M c.A (forIn ifs true fun t r => if r = true then do let ok ← PySem.isTrue t c.env (eval t c.env); pure (ForInStep.yield ok) else pure (ForInStep.yield r)) Q' E s := by
  match ifs, h with
  | [], h => exact wpAny_tests_nil (k _ _ _ h S)
  | [t], h => exact wpAny_tests_one (h Φ s E Q' S k)

theorem mem_mid {α : Type} {x q : α} {p Φ : List α} (h : q ∈ x :: (p ++ Φ)) : q ∈ p ++ x :: Φ := by
  rcases List.mem_cons.mp h with rfl | h
  · exact List.mem_append_right _ (.head _)
  · rcases List.mem_append.mp h with h | h
    · exact List.mem_append_left _ h
    · exact List.mem_append_right _ (.tail _ h)
theorem mem_dim {α : Type} {x q : α} {p Φ : List α} (h : q ∈ p ++ x :: Φ) : q ∈ x :: (p ++ Φ) := by
  rcases List.mem_append.mp h with h | h
  · exact .tail _ (List.mem_append_left _ h)
  · rcases List.mem_cons.mp h with rfl | h
    · exact .head _
    · exact .tail _ (List.mem_append_right _ h)
noncomputable def lo (ys : Array Value) (n : Nat) : Obj := { cls := .type "list", data := .seq ys n }
theorem comp_run {elt t iter : Expr} {ifs : List Expr} {scope : Scope} {pos : Pos} {I D : Addr} {sh : Nat → List (Addr × Obj) → Prop} {tks : List TP} {te : AH → Prop} {Φ : List (Addr × Obj)} {R : Result → Shared → Prop}
    (W : Works c t I sh tks te) (hlen : tks.length ≤ 1000) (hz : ∀ q ∈ c.fz, q ∈ Φ) (hD : ∀ q ∈ Φ, q.1 ≠ D)
    (k : ∀ ys n μ' σ' s', Q (ys.toList.map er) σ' → Sta c ((D, lo ys n) :: Φ) μ' σ' s' → R (.ok .next) s') :
    ∀ (n i : Nat) (ys : Array Value) (cap : Nat) (μ : AM) (σ : AH) (s : Shared), i + n = tks.length → ys.size ≤ i → CT c elt ifs te (tks.drop i) (ys.toList.map er) μ σ Q → ItAt c (sh i) ((D, lo ys cap) :: Φ) μ σ s →
      codeAny c.M c.A (.compLoop (.ListComp elt [⟨t, iter, ifs, 0⟩] scope pos) 0 (.ref I) (.ref D) c.env) R s := by
  have hA : c.A.under (Code.compLoop (.ListComp elt [⟨t, iter, ifs, 0⟩] scope pos) 0 (.ref I) (.ref D) c.env) = c.A := Around.under_of_weight rfl
  intro n
  induction n with
  | zero =>
    intro i ys cap μ σ s hi hys h S
    have hi' : i = tks.length := by lia -abstractProof
    subst hi'
    rw [List.drop_of_length_le (Nat.le_refl _)] at h
    refine codeAny_of_tree ?_
    rw [hA]
    show wpAny _ _ ((compTurn (.ListComp elt [⟨t, iter, ifs, 0⟩] scope pos) 0 (.ref I) (.ref D) c.env).onRaise (fun x => do noteFrame x c.env; theTreesLotGoes x)) _ _ s
    refine wpAny_onRaise ?_
    rw [compTurn_list]
    refine wpAny_bind (wpAny_standAt (wpAny_bind (W.done μ σ h.1 _ s _ _ S fun s' S' => ?_)))
    exact wpAny_pure (k ys cap μ σ s' h.2 S')
  | succ n ih =>
    intro i ys cap μ σ s hi hys h S
    have hlt : i < tks.length := by lia -abstractProof
    rw [List.drop_eq_getElem_cons hlt] at h
    refine codeAny_of_tree ?_
    rw [hA]
    show wpAny _ _ ((compTurn (.ListComp elt [⟨t, iter, ifs, 0⟩] scope pos) 0 (.ref I) (.ref D) c.env).onRaise (fun x => do noteFrame x c.env; theTreesLotGoes x)) _ _ s
    refine wpAny_onRaise ?_
    rw [compTurn_list]
    let E2 : Value → Shared → Prop := fun e s' => wpAny c.M c.A (do noteFrame e c.env; theTreesLotGoes e) (fun _ s'' => R (.error e) s'') (fun e' s'' => R (.error e') s'') s'
    let K2 : Fin → Shared → Prop := fun fin s' => match fin with | .done f => R (.ok f) s' | .again c' => c'.quiet = true ∧ codeAny c.M c.A c' R s'
    let again' : Sem Fin := again (.compLoop (.ListComp elt [⟨t, iter, ifs, 0⟩] scope pos) 0 (.ref I) (.ref D) c.env)
    let T3 : Bool → Sem Fin := fun ok => do
      if ok = true then do
        let _ ← (do let _ ← call (.builtin "list.append") [.ref D, ← eval elt c.env])
        again'
      else again'
    refine wpAny_bind (wpAny_standAt (wpAny_bind (wpAny_mono (W.item i _ (List.getElem?_eq_getElem hlt) μ σ _ h ((D, lo ys cap) :: Φ) s _ E2 (fun s3 => wpAny c.M c.A (forIn ifs true fun t r => if r = true then do let ok ← PySem.isTrue t c.env (eval t c.env); pure (ForInStep.yield ok) else pure (ForInStep.yield r)) (fun ok s4 => wpAny c.M c.A (T3 ok) K2 E2 s4) E2 s3) S fun μ1 σ1 s1 h1 S1 => ?_) (fun r s1 h1 => ?_) fun _ _ e => e)))
    · refine hide fun S0 hS0 => ?_
      obtain ⟨p, hp, hd, hz', S1'⟩ := S1
      refine hS0 ?_
      clear hS0 S0
      refine ti_run h1 S1' fun b σ2 s2 h2 S2 => ?_
      cases b with
      | false => exact wpAny_pure ⟨rfl, ih (i + 1) ys cap μ1 σ2 s2 (by lia -abstractProof) (by lia -abstractProof) h2 ⟨p, hp, hd, hz', S2⟩⟩
      | true =>
        show wpAny _ _ ((eval elt c.env >>= fun x => call (.builtin "list.append") [.ref D, x] >>= fun _ => pure ()) >>= fun _ => again') _ _ _
        refine wpAny_bind (wpAny_bind (h2 (p ++ (D, lo ys cap) :: Φ) s2 _ _ S2 fun v σ3 s3 h3 S3 => ?_))
        refine Sta.el S3 fun m ml news δ prot W3 => ?_
        have hDo := (W3.N _ (W3.P (D, lo ys cap) (List.mem_append_right _ (.head _))).1).1
        refine wpAny_bind (wpAny_list_append_plain ⟨cap, hDo⟩ (fun h' hpl hs => ?_) (by rw [sizeLine_eq]; lia -abstractProof))
        obtain ⟨cap', hpl⟩ := hpl
        refine wpAny_pure (wpAny_pure ⟨rfl, ?_⟩)
        have S4 : Sta c ((D, lo ys cap) :: (p ++ Φ)) μ1 σ3 s3 := S3.fewer (fun q hq => mem_mid hq) (fun q hq => List.mem_cons_of_mem _ (List.mem_append_right _ (hz q hq)))
        have hpD : ∀ q ∈ p ++ Φ, ∀ r ∈ [(D, lo ys cap)], q.1 ≠ r.1 := fun q hq r hr => by
          rw [List.mem_singleton.mp hr]
          rcases List.mem_append.mp hq with hq | hq
          · exact (hd _ (.head _) q hq).symm
          · exact hD q hq
        have S5 : Sta c ([(D, lo (ys.push v) cap')] ++ (p ++ Φ)) μ1 σ3 { s3 with heap := h' } := Sta.turn (tk := s3.toks) S4 (fun q hq => List.mem_append_right _ (hz q hq)) hpD (fun r hr => ⟨_, .head _, by rw [List.mem_singleton.mp hr]⟩)
          (fun b o hb e => (hs.2 b (hb _ (.head _))).trans e) (fun q hq => by rw [List.mem_singleton.mp hq]; exact hpl)
        have S5' : Sta c ((D, lo (ys.push v) cap') :: (p ++ Φ)) μ1 σ3 { s3 with heap := h' } := S5
        have S6 : Sta c (p ++ (D, lo (ys.push v) cap') :: Φ) μ1 σ3 { s3 with heap := h' } := S5'.fewer (fun q hq => mem_dim hq) (fun q hq => List.mem_append_right _ (.tail _ (hz q hq)))
        refine ih (i + 1) (ys.push v) cap' μ1 σ3 _ (by lia -abstractProof) (by simp; lia -abstractProof) (by simpa using h3) ⟨p, hp, fun q hq r hr => ?_, fun q hq => .tail _ (hz q hq), S6⟩
        rcases List.mem_cons.mp hq with rfl | hq
        · exact hd (D, lo ys cap) (.head _) r hr
        · exact hd q (.tail _ hq) r hr
    · cases r with
      | none => exact h1.elim
      | some v =>
        refine wpAny_bind (wpAny_mono h1 (fun _ s2 h2 => wpAny_bind (wpAny_mono h2 (fun _ s3 h3 => wpAny_bind (wpAny_mono h3 (fun ok s4 h4 => ?_) fun _ _ e => e)) fun _ _ e => e)) fun _ _ e => e)
        cases ok <;> exact h4
end

/-- a list that was kept aside, as one of the abstract heap's own -/
theorem Sta.adopt {c : Cx} {Φ : List (Addr × Obj)} {μ : AM} {σ : AH} {s : Shared} {D : Addr} {ys : Array Value} {n : Nat} (S : Sta c ((D, lo ys n) :: Φ) μ σ s) (hD : ∀ q ∈ Φ, q.1 ≠ D) (hz : ∀ q ∈ c.fz, q ∈ Φ) :
    σ D = none ∧ Sta c Φ μ (σ.set D (.list (ys.toList.map er))) s := by
  refine Sta.el S fun m ml news δ prot W => ?_
  obtain ⟨hm, hoff⟩ := W.P _ (.head _)
  have hold : ∀ b o, (σ.set D (.list (ys.toList.map er))) b = some o → b ≠ D → σ b = some o := fun b o e hb => by rwa [AH.set_ne hb] at e
  have off : ∀ {b}, b ≠ D → Off σ δ b → Off (σ.set D (.list (ys.toList.map er))) δ b := fun {b} hb h => by
    refine ⟨by rw [AH.set_ne hb]; exact h.1, fun a C fs e => ?_⟩
    by_cases q : a = D
    · subst q; rw [AH.set_self] at e; cases e
    · exact h.2 a C fs (hold _ _ e q)
  refine ⟨hoff.1, m, ml, news, δ, prot, ⟨W.F, W.N, ⟨fun b o e => ?_, fun b C fs e => ?_, fun a C fs a' C' fs' e e' => ?_⟩, fun q hq => ⟨(W.P q (.tail _ hq)).1, off (hD q hq) (W.P q (.tail _ hq)).2⟩, fun q hq => ⟨(W.P' q hq).1, off (fun e => W.own _ (.head _) q hq e.symm) (W.P' q hq).2⟩, W.loc, W.R, W.g, W.d, W.o, fun q hq => W.own q (.tail _ hq), hz, W.fmP⟩⟩
  · by_cases q : b = D
    · subst q; rw [AH.set_self] at e; cases e; exact ⟨ys, n, hm, rfl⟩
    · exact W.H.bears b o (hold _ _ e q)
  · by_cases q : b = D
    · subst q; rw [AH.set_self] at e; cases e
    · have h1 := hold _ _ e q
      rw [AH.set_ne (hoff.2 b C fs h1)]
      exact W.H.sep b C fs h1
  · by_cases q : a = D
    · subst q; rw [AH.set_self] at e; cases e
    · by_cases q' : a' = D
      · subst q'; rw [AH.set_self] at e'; cases e'
      · exact W.H.inj a C fs a' C' fs' (hold _ _ e q) (hold _ _ e' q')
/-! ### the comprehension itself -/
noncomputable def capM (μc : List (Str × Value)) : AM := μc.map fun x => (x.1, some x.2)
structure CompIn (c c' : Cx) (scope : Scope) : Prop where
  ok : c'.OK
  gl : c'.gl = c.gl
  room : c'.room = c.room
  sc : c'.env.scope = relabel scope c.env
  ne : c'.env.locals ≠ c'.L
noncomputable def useOk (c : Cx) (use : Option (Value → Sem Unit)) (Φ : List (Addr × Obj)) (μ : AM) (σ : AH) (E : Value → Shared → Prop) (Q' : Value → Shared → Prop) (D : Addr) (s : Shared) : Prop := match use with
  | none => ∀ s3, Sta c Φ μ σ s3 → Q' (.ref D) s3
  | some u => ∀ x, (∀ q ∈ c.fz, q ∈ Φ) → (∀ q ∈ Φ, q.1 ≠ (x : Addr × Obj).1) → Sta c (x :: Φ) μ σ s → wpAny c.M c.A (u (.ref D)) (fun _ s3 => ∃ μ3 σ3, Sta c (x :: Φ) μ3 σ3 s3 ∧ ∀ s4, Sta c Φ μ3 σ3 s4 → Q' .none s4) E s
theorem comp_core {c : Cx} {Φ : List (Addr × Obj)} {μ : AM} {σ : AH} {s : Shared} {E Q' : Value → Shared → Prop} {elt t iter : Expr} {ifs : List Expr} {scope : Scope} {pos pos' : Pos} {QQ : List Value → AH → Prop} {use : Option (Value → Sem Unit)} (ok : c.OK) (okl : c.Fn)
    (xs : List Str) (cap : List (Str × Value)) (cl : List (Str × Addr))
    (hs : ∀ env x, foldedSetIterable iter env x = pure x) (hclos : closureFor scope c.env = pure cl) (hcld : cl.Pairwise fun x y => x.2 ≠ y.2) (hcell : ∀ y ∈ scope.names, y.2 ≠ .cell) (hkind : scope.kind = .function)
    (hnames : ∀ y ∈ scope.names, y.2 = .local → scope.names.lookup y.1 = some .local)
    (hxs : ∀ x ∈ xs, (relabel scope c.env).names.lookup x = some .local) (hcap : ∀ x V, (x, V) ∈ cap → (x, some V) ∈ μ ∧ (relabel scope c.env).names.lookup x = some .cell ∧ c.env.kindOf x = some .cell ∧ cl.lookup x = c.env.cells.lookup x)
    (hnd : (xs ++ cap.map (·.1)).Nodup) (S : Sta c Φ μ σ s)
    (h : SRC c iter t μ σ fun tks te σ1 => ∀ c', CompIn c c' scope → (tks c').length ≤ 1000 ∧ CT c' elt ifs te (tks c') [] (xs.map (fun x => (x, none)) ++ capM cap) σ1 QQ)
    (k : ∀ D Vs σ2 s2, QQ Vs σ2 → σ2 D = none → useOk c use Φ μ (σ2.set D (.list Vs)) E Q' D s2) :
    wpAny c.M c.A (comprehension (.ListComp elt [⟨t, iter, ifs, 0⟩] scope pos) scope c.env pos' (newList []) false (eval iter c.env) use) Q' E s := by
  refine wpAny_comprehension_free rfl (hs _) hclos hkind hnames (h Φ s E _ S fun I sh tks te σ1 s1 h1 W hself S1 => ?_)
  refine hide fun S0 hS0 => ?_
  obtain ⟨p, hp, hdis, hz0, S1⟩ := S1
  refine hS0 ?_
  clear hS0 S0
  refine Sta.el S1 fun m ml news δ prot W1 => ?_
  refine wpAny_newObj_type (wpAny_newFunctionEnv hcell (by intro y hy; simp at hy) (fun h₁ hns₁ hsb₁ => ?_) hkind)
  dsimp only at hns₁ hsb₁ ⊢
  generalize hDD : s1.heap.objs.size = D at hns₁ hsb₁ ⊢
  generalize hH2 : s1.heap.push { cls := .type "list", dict := none, data := .seq ([] : List Value).toArray } = H2 at hns₁ hsb₁ ⊢
  have hC : H2.objs.size = D + 1 := by rw [← hH2, Heap.size_push, hDD]
  generalize hCC : H2.objs.size = C at hns₁ hsb₁ hC ⊢
  have hDC : D ≠ C := by rw [hC]; exact Nat.ne_of_lt (Nat.lt_succ_self _)
  have old : ∀ b o, s1.heap.get? b = some o → h₁.get? b = some o := fun b o e => hsb₁.extBut b o (by
      have := Heap.lt_size e; rw [hDD] at this; rw [hC]; exact Nat.ne_of_lt (Nat.lt_succ_of_lt this)) (Heap.get?_push_of_some _ (hH2 ▸ Heap.get?_push_of_some _ e))
  have hDo : h₁.get? D = some (lo #[] 0) := hsb₁.extBut _ _ hDC (Heap.get?_push_of_some _ (by rw [← hH2, ← hDD]; exact Heap.get?_push_size _ rfl))
  refine hide fun S0 hS0 => ?_
  obtain ⟨oC, es, ep, hCo, hoC⟩ := hns₁
  refine hS0 ?_
  clear hS0 S0
  have fresh : ∀ a, D ≤ a → s1.heap.get? a = none := fun a ha => Heap.get?_none_of_le (by rw [hDD]; exact ha)
  obtain ⟨hd2, S2⟩ := Sta.aside (p := [(C, oC), (D, lo #[] 0)]) (tk := s1.toks + ([] : List (Str × Value)).length) S1 old (fun q hq => by
    rcases List.mem_cons.mp hq with rfl | hq
    · exact ⟨hCo, fresh _ (by rw [hC]; exact Nat.le_succ _)⟩
    · rw [List.mem_singleton.mp hq]; exact ⟨hDo, fresh _ (Nat.le_refl _)⟩)
  generalize ({ s1 with heap := h₁, toks := s1.toks + ([] : List (Str × Value)).length } : Shared) = s2 at S2 ⊢
  refine Sta.el S2 fun m2 ml2 news2 δ2 prot2 W2 => ?_
  have wp : ∀ q ∈ p ++ Φ, q ∈ [(C, oC), (D, lo #[] 0)] ++ (p ++ Φ) := fun q hq => List.mem_append_right _ hq
  have hCP := W2.P (C, oC) (.head _)
  have hDP := W2.P (D, lo #[] 0) (.tail _ (.head _))
  have hCL : C ≠ c.L := (W2.N _ hCP.1).2.1
  have hpr : ∀ q ∈ p ++ Φ, q.1 ≠ C ∧ q.1 ≠ D := fun q hq => ⟨hd2 q hq (C, oC) (.head _), hd2 q hq (D, lo #[] 0) (.tail _ (.head _))⟩
  have hprot : ∀ q ∈ prot2, q.1 ≠ C ∧ q.1 ≠ D := fun q hq => ⟨(W2.own _ (.head _) q hq).symm, (W2.own _ (.tail _ (.head _)) q hq).symm⟩
  have hpprot : ∀ q ∈ prot2, ∀ r ∈ p, q.1 ≠ r.1 := fun q hq r hr => (W2.own r (wp _ (List.mem_append_left _ hr)) q hq).symm
  let c' : Cx := { c with env := compEnvC scope cl C c.env, fz := prot2, fm := some m2 }
  have hcin : CompIn c c' scope := ⟨⟨ok.X, ok.T, ok.B, ok.hA, ok.hf, ok.hk, hkind, ok.eg, ok.eb, hcld, ok.hh, ok.hd, ok.hu⟩, rfl, rfl, rfl, hCL⟩
  obtain ⟨hlen, hct⟩ := h1 c' hcin
  have nsO : NsO oC (fun x => ([] : List (Str × Value)).reverse.lookup x) := ⟨es, ep, hoC⟩
  have S3 : Sta c' (p ++ (D, lo #[] 0) :: (Φ ++ prot2)) (xs.map (fun x => (x, none)) ++ capM cap) σ1 s2 := by
    refine ⟨m2, _, news2, δ2, [(C, oC)], ⟨W2.F, W2.N, W2.H, fun q hq => ?_, fun q hq => by rw [List.mem_singleton.mp hq]; exact hCP, .inr ⟨hCL, oC, .head _, nsO⟩, ⟨?_, fun x oV hx => ?_⟩, W2.g, W2.d, W2.o, fun q hq r hr => ?_, fun q hq => List.mem_append_right _ (.tail _ (List.mem_append_right _ hq)), fun f e => by cases e; rfl⟩⟩
    · rcases List.mem_append.mp hq with hq | hq
      · exact W2.P q (wp _ (List.mem_append_left _ hq))
      · rcases List.mem_cons.mp hq with rfl | hq
        · exact hDP
        · rcases List.mem_append.mp hq with hq | hq
          · exact W2.P q (wp _ (List.mem_append_right _ hq))
          · exact W2.P' q hq
    · rw [List.map_append]
      have e1 : (xs.map fun x => ((x, none) : Str × Option Value)).map (·.1) = xs := by rw [List.map_map]; exact List.map_id _
      have e2 : (capM cap).map (·.1) = cap.map (·.1) := by unfold capM; rw [List.map_map]; rfl
      rw [e1, e2]; exact hnd
    · rcases List.mem_append.mp hx with hx | hx
      · obtain ⟨y, hy, e⟩ := List.mem_map.mp hx
        cases e
        exact .inl ⟨hxs _ hy, fun V e => (nomatch e)⟩
      · refine hide fun S0 hS0 => ?_
        obtain ⟨⟨y, V⟩, hy, e⟩ := List.mem_map.mp hx
        refine hS0 ?_
        clear hS0 S0
        cases e
        refine hide fun S0 hS0 => ?_
        obtain ⟨hm, hk1, hk2, hl⟩ := hcap _ _ hy
        refine hS0 ?_
        clear hS0 S0
        rcases W2.R.var _ _ hm with ⟨hk', _⟩ | ⟨_, cc, o, ov, a1, a2, a3, a4, a5⟩
        · rw [hk2] at hk'; cases hk'
        · have hin : (cc, o) ∈ prot2 := a2.elim id fun h => by rw [okl.z] at h; cases h
          exact .inr ⟨hk1, cc, o, ov, hl.trans a1, .inr hin, (hprot _ hin).1, a4, a5⟩
    · rw [List.mem_singleton.mp hr]
      rcases List.mem_append.mp hq with hq | hq
      · exact (hpr q (List.mem_append_left _ hq)).1
      · rcases List.mem_cons.mp hq with rfl | hq
        · exact hDC
        · rcases List.mem_append.mp hq with hq | hq
          · exact (hpr q (List.mem_append_right _ hq)).1
          · exact (hprot q hq).1
  have hΦD : ∀ q ∈ Φ ++ prot2, q.1 ≠ D := fun q hq => by
    rcases List.mem_append.mp hq with hq | hq
    · exact (hpr q (List.mem_append_right _ hq)).2
    · exact (hprot q hq).2
  have hIt : ItAt c' (sh 0) ((D, lo #[] 0) :: (Φ ++ prot2)) (xs.map (fun x => (x, none)) ++ capM cap) σ1 s2 := by
    refine ⟨p, hp, fun q hq r hr => ?_, fun q hq => .tail _ (List.mem_append_right _ hq), S3⟩
    rcases List.mem_cons.mp hq with rfl | hq
    · exact (hpr r (List.mem_append_left _ hr)).2.symm
    · rcases List.mem_append.mp hq with hq | hq
      · exact hdis q hq r hr
      · exact hpprot q hq r hr
  have fin : ∀ (ys : Array Value) (n : Nat) (μ' : AM) (σ' : AH) (s' : Shared), QQ (ys.toList.map er) σ' → Sta c' ((D, lo ys n) :: (Φ ++ prot2)) μ' σ' s' → compPost c.M c.A E use Q' (.ref D) C (.ok .next) s' := by
    intro ys n μ' σ' s' hq S'
    refine Sta.el S' fun m4 ml4 news4 δ4 prot4 W4 => ?_
    have em : m4 = m2 := W4.fmP _ rfl
    rcases W4.loc with ⟨q, _⟩ | ⟨_, oC', hoC', hns'⟩
    · exact absurd q hCL
    have hCP4 := W4.P' _ hoC'
    have S5 : Sta c ((D, lo ys n) :: (C, oC') :: Φ) μ σ' s' := by
      refine ⟨m4, ml2, news4, δ4, prot2, ⟨W4.F, W4.N, W4.H, fun q hq => ?_, fun q hq => W4.P q (.tail _ (List.mem_append_right _ hq)), by rw [em]; exact W2.loc, W2.R, W4.g, W4.d, W4.o, fun q hq r hr => ?_, fun q hq => by rw [okl.z] at hq; exact (nomatch hq), fun f e => by rw [okl.m] at e; exact (nomatch e)⟩⟩
      · rcases List.mem_cons.mp hq with rfl | hq
        · exact W4.P _ (.head _)
        · rcases List.mem_cons.mp hq with rfl | hq
          · exact hCP4
          · exact W4.P q (.tail _ (List.mem_append_left _ hq))
      · rcases List.mem_cons.mp hq with rfl | hq
        · exact (hprot r hr).2.symm
        · rcases List.mem_cons.mp hq with rfl | hq
          · exact (hprot r hr).1.symm
          · exact W2.own q (wp _ (List.mem_append_right _ hq)) r hr
    obtain ⟨hDn, S6⟩ := S5.adopt (fun q hq => by
      rcases List.mem_cons.mp hq with rfl | hq
      · exact hDC.symm
      · exact (hpr q (List.mem_append_right _ hq)).2) (fun q hq => by rw [okl.z] at hq; exact (nomatch hq))
    have hΦC : ∀ q ∈ Φ, q.1 ≠ C := fun q hq => (hpr q (List.mem_append_right _ hq)).1
    have drop : ∀ {μ3 : AM} {σ3 : AH} {s3 : Shared} {h' : Heap}, Sta c ((C, oC') :: Φ) μ3 σ3 s3 → Heap.SameBut C s3.heap h' → Sta c Φ μ3 σ3 { s3 with heap := h' } := fun {μ3 σ3 s3 h'} S7 hs7 =>
      Sta.turn (p := [(C, oC')]) (p' := []) (tk := s3.toks) S7 (fun q hq => by rw [okl.z] at hq; exact (nomatch hq)) (fun q hq r hr => by rw [List.mem_singleton.mp hr]; exact hΦC q hq) (fun r hr => (nomatch hr)) (fun b o hb e => (hs7.2 b (hb _ (.head _))).trans e) (fun q hq => (nomatch hq))
    have hk := k D _ σ' s' hq hDn
    obtain ⟨es', ep', r'⟩ := hns'
    cases use with
    | none => exact ⟨_, ⟨oC', es', ep', (W4.N _ hCP4.1).1, r'⟩, fun h' hs' => hk _ (drop S6 hs')⟩
    | some u =>
      refine wpAny_mono (hk (C, oC') (fun q hq => by rw [okl.z] at hq; exact (nomatch hq)) hΦC S6) (fun _ s3 h3 => ?_) fun _ _ e => e
      refine hide fun S0 hS0 => ?_
      obtain ⟨μ3, σ3, S7, hk3⟩ := h3
      refine hS0 ?_
      clear hS0 S0
      refine Sta.el S7 fun m7 ml7 news7 δ7 prot7 W7 => ?_
      exact ⟨_, ⟨oC', es', ep', (W7.N _ (W7.P _ (.head _)).1).1, r'⟩, fun h' hs' => hk3 _ (drop S7 hs')⟩
  have hloop := comp_run (c := c') (scope := scope) (pos := pos) (iter := iter) (R := compPost c.M c.A E use Q' (.ref D) C) (W c' hcin.ok) hlen (fun q hq => List.mem_append_right _ hq) hΦD fin (tks c').length 0 #[] 0 _ σ1 s2 (by lia -abstractProof) (by simp) (by simpa using hct) hIt
  exact codeAny_compStart_list hloop (hself c' _ _ σ1 s2 _ _ hIt hloop)

/-- a comprehension's value -/
theorem ev_comp {c : Cx} {μ : AM} {σ : AH} {Q : Value → AH → Prop} {elt t iter : Expr} {ifs : List Expr} {scope : Scope} {pos : Pos} (ok : c.OK) (okl : c.Fn)
    (xs : List Str) (cap : List (Str × Value)) (cl : List (Str × Addr))
    (hs : ∀ env x, foldedSetIterable iter env x = pure x) (hclos : closureFor scope c.env = pure cl) (hcld : cl.Pairwise fun x y => x.2 ≠ y.2) (hcell : ∀ y ∈ scope.names, y.2 ≠ .cell) (hkind : scope.kind = .function)
    (hnames : ∀ y ∈ scope.names, y.2 = .local → scope.names.lookup y.1 = some .local)
    (hxs : ∀ x ∈ xs, (relabel scope c.env).names.lookup x = some .local) (hcap : ∀ x V, (x, V) ∈ cap → (x, some V) ∈ μ ∧ (relabel scope c.env).names.lookup x = some .cell ∧ c.env.kindOf x = some .cell ∧ cl.lookup x = c.env.cells.lookup x)
    (hnd : (xs ++ cap.map (·.1)).Nodup)
    (h : SRC c iter t μ σ fun tks te σ1 => ∀ c', CompIn c c' scope → (tks c').length ≤ 1000 ∧ CT c' elt ifs te (tks c') [] (xs.map (fun x => (x, none)) ++ capM cap) σ1 fun Vs σ2 => ∀ D, σ2 D = none → Q (.ref D) (σ2.set D (.list Vs))) :
    EV c (.ListComp elt [⟨t, iter, ifs, 0⟩] scope pos) μ σ Q := by
  intro Φ s E Q' S k
  rw [eval_ListComp]
  exact comp_core (use := none) ok okl xs cap cl hs hclos hcld hcell hkind hnames hxs hcap hnd S h fun D Vs σ2 s2 hq hD s3 S3 => k _ _ _ (hq D hD) S3
/-- a name given a comprehension's value at once -/
theorem ex_assign_comp {c : Cx} {μ : AM} {σ : AH} {Q : Flow → AM → AH → Prop} {elt t iter : Expr} {ifs : List Expr} {scope : Scope} {pos py spos : Pos} {y : Str} (ok : c.OK) (okl : c.Fn)
    (xs : List Str) (cap : List (Str × Value)) (cl : List (Str × Addr)) (hsw : swapsWith (.ListComp elt [⟨t, iter, ifs, 0⟩] scope pos) (some (.Name y py)) spos.line c.env = pure true)
    (hs : ∀ env x, foldedSetIterable iter env x = pure x) (hclos : closureFor scope c.env = pure cl) (hcld : cl.Pairwise fun x y => x.2 ≠ y.2) (hcell : ∀ y ∈ scope.names, y.2 ≠ .cell) (hkind : scope.kind = .function)
    (hnames : ∀ y ∈ scope.names, y.2 = .local → scope.names.lookup y.1 = some .local)
    (hxs : ∀ x ∈ xs, (relabel scope c.env).names.lookup x = some .local) (hcap : ∀ x V, (x, V) ∈ cap → (x, some V) ∈ μ ∧ (relabel scope c.env).names.lookup x = some .cell ∧ c.env.kindOf x = some .cell ∧ cl.lookup x = c.env.cells.lookup x)
    (hnd : (xs ++ cap.map (·.1)).Nodup)
    (h : SRC c iter t μ σ fun tks te σ1 => ∀ c', CompIn c c' scope → (tks c').length ≤ 1000 ∧ CT c' elt ifs te (tks c') [] (xs.map (fun x => (x, none)) ++ capM cap) σ1 fun Vs σ2 => ∀ D, σ2 D = none → ∃ μ', Put y (.ref D) μ μ' ∧ Q .next μ' (σ2.set D (.list Vs))) :
    EX c (.Assign [.Name y py] (.ListComp elt [⟨t, iter, ifs, 0⟩] scope pos) spos) μ σ Q := by
  intro Φ s E Q' S k
  rw [exec_Assign_Name_used _ _ _ _ hsw]
  refine wpAny_bind (wpAny_standAt (wpAny_bind ?_))
  show wpAny _ _ (do let _ ← comprehension (.ListComp elt [⟨t, iter, ifs, 0⟩] scope pos) scope c.env _ (newList []) false (eval iter c.env) (some (assign (.Name y py) c.env))) _ _ s
  refine wpAny_bind (wpAny_mono (comp_core (use := some (assign (.Name y py) c.env)) (Q' := fun _ s' => Q' .next s') ok okl xs cap cl hs hclos hcld hcell hkind hnames hxs hcap hnd S h fun D Vs σ2 s2 hq hD x hz hx S3 => ?_)
    (fun _ s' hq => wpAny_pure (wpAny_pure hq)) fun _ _ e => e)
  obtain ⟨μ', hp, hq⟩ := hq D hD
  exact as_name (Q := fun μ' σ' => μ' = μ' ∧ Q .next μ' σ') ok okl hp ⟨rfl, hq⟩ (x :: Φ) s2 E _ (.ref D) rfl S3 fun μ3 σ3 s3 h3 S4 => ⟨μ3, σ3, S4, fun s4 S5 => k .next _ _ _ h3.2 S5⟩
/-- a new object, by the library's own account of the heap -/
theorem StaW.allocN {c : Cx} {Φ : List (Addr × Obj)} {μ : AM} {σ : AH} {s : Shared} {m ml : Str → Option Value} {news : List (Addr × Obj)} {δ : Addr → Addr} {prot : List (Addr × Obj)} (S : StaW c Φ μ σ s m ml news δ prot) {a : Addr} {oc : Obj} {o : AO} {h' : Heap} {tk : Nat}
    (ha : ∀ p ∈ news, p.1 ≠ a) (F' : Fr c.h₀ c.L h' m) (N' : News c.h₀ c.L h' ((a, oc) :: news)) (hb : Bears c.prog c.w [(a, oc)] a a o) (hi : ∀ C fs, o ≠ .inst C fs) :
    σ a = none ∧ Sta c Φ μ (σ.set a o) { s with heap := h', toks := tk } := by
  have inN : ∀ b ob, σ b = some ob → ∃ x, (b, x) ∈ news := fun b ob e => by
    have B := S.H.bears b ob e
    cases ob with
    | list Vs => obtain ⟨vs, n, hm, r⟩ := B; exact ⟨_, hm⟩
    | tup Vs => obtain ⟨y, hm, r⟩ := B; exact ⟨_, hm⟩
    | dict fs => obtain ⟨y, kvs, hm, r⟩ := B; exact ⟨_, hm⟩
    | inst C fs => obtain ⟨_, _, hm, r⟩ := B; exact ⟨_, hm⟩
  have hδ : ∀ b C fs, σ b = some (.inst C fs) → δ b ≠ a := fun b C fs e q => by
    refine hide fun S0 hS0 => ?_
    obtain ⟨_, _, _, es, n, hm, _⟩ := S.H.bears _ _ e
    refine hS0 ?_
    clear hS0 S0
    exact ha _ hm q
  have hf : σ a = none := by
    cases e : σ a with
    | none => rfl
    | some ob => obtain ⟨x, hm⟩ := inN a ob e; exact absurd rfl (ha _ hm)
  have was : ∀ b C fs, (σ.set a o) b = some (.inst C fs) → σ b = some (.inst C fs) := fun b C fs e => by
    by_cases q : b = a
    · subst q; rw [AH.set_self] at e; cases e; exact absurd rfl (hi C fs)
    · rw [AH.set_ne q] at e; exact e
  have off : ∀ p : Addr × Obj, p ∈ news → Off σ δ p.1 → Off (σ.set a o) δ p.1 := fun p hp h =>
    ⟨by rw [AH.set_ne (ha p hp)]; exact h.1, fun x C fs e => h.2 x C fs (was _ _ _ e)⟩
  refine ⟨hf, m, ml, (a, oc) :: news, δ, prot, ⟨F', N', ⟨fun b ob e => ?_, fun b C fs e => ?_, fun b C fs b' C' fs' e e' => S.H.inj _ _ _ _ _ _ (was _ _ _ e) (was _ _ _ e')⟩,
    fun p hp => ⟨.tail _ (S.P p hp).1, off p (S.P p hp).1 (S.P p hp).2⟩, fun p hp => ⟨.tail _ (S.P' p hp).1, off p (S.P' p hp).1 (S.P' p hp).2⟩, S.loc, S.R, S.g, S.d, S.o, S.own, S.fzP, S.fmP⟩⟩
  · by_cases q : b = a
    · subst q; rw [AH.set_self] at e; cases e
      have hb' : Bears c.prog c.w [(b, oc)] (δ b) b o := by
        cases o with
        | inst C fs => exact absurd rfl (hi C fs)
        | _ => exact hb
      exact hb'.more fun p hp => by rw [List.mem_singleton.mp hp]; exact .head _
    · rw [AH.set_ne q] at e
      exact (S.H.bears b ob e).more fun p hp => .tail _ hp
  · have h1 := was _ _ _ e
    rw [AH.set_ne (hδ _ _ _ h1)]; exact S.H.sep _ _ _ h1
theorem StaW.sizeFresh {c : Cx} {Φ : List (Addr × Obj)} {μ : AM} {σ : AH} {s : Shared} {m ml : Str → Option Value} {news : List (Addr × Obj)} {δ : Addr → Addr} {prot : List (Addr × Obj)} (S : StaW c Φ μ σ s m ml news δ prot) : ∀ p ∈ news, p.1 ≠ s.heap.objs.size :=
  fun p hp => Nat.ne_of_lt (Heap.lt_size (S.N p hp).1)

section
variable {c : Cx} {μ : AM} {σ : AH} {Q : Value → AH → Prop}
/-! ### lists made of lists -/
theorem rep_flat (vs : List Value) (k : Nat) : ((List.replicate k vs).flatten).map er = (List.replicate k (vs.map er)).flatten := by
  induction k with
  | zero => rfl
  | succ k ih => rw [List.replicate_succ, List.replicate_succ, List.flatten_cons, List.flatten_cons, List.map_append, ih]
theorem bo_mul_list {a : Addr} {Vs : List Value} {n : Int} (ha : σ a = some (.list Vs)) (hne : Vs ≠ []) (h0 : -(2 ^ 63) ≤ n) (hn : n < 2 ^ 20) (hsz : Vs.length ≤ 2) (h : ∀ b, σ b = none → Q (.ref b) (σ.set b (.list (List.replicate n.toNat Vs).flatten))) : BO c .Mult (.ref a) (vi n) σ Q := fun x y hx hy Φ μ s E Q' S k => by
  rw [er_ref hx]; obtain ⟨t, rfl⟩ := er_int hy
  refine Sta.el S fun m ml news δ prot W => ?_
  refine hide fun S0 hS0 => ?_
  obtain ⟨vs, j, hm, hg, hl, e⟩ := W.isList ha
  refine hS0 ?_
  clear hS0 S0
  have hvs : vs.isEmpty = false := by
    cases hE : vs.isEmpty with
    | false => rfl
    | true => rw [Array.isEmpty_iff] at hE; subst hE; exact absurd e.symm hne
  have hs2 : vs.size ≤ 2 := by rw [← e] at hsz; simpa using hsz
  refine mul_list W.F W.N hg (by lia -abstractProof) (by lia -abstractProof) (by
    have h1 : n.toNat ≤ 2 ^ 20 := by lia -abstractProof
    have : vs.size * n.toNat ≤ 2 * 2 ^ 20 := Nat.mul_le_mul hs2 h1
    lia -abstractProof) fun h' F' N' => ?_
  rw [hvs] at N'
  simp only [Bool.false_eq_true, if_false, listMul_foldl] at N'
  obtain ⟨hf, S'⟩ := W.allocN (o := .list (List.replicate n.toNat Vs).flatten) (tk := s.toks) W.sizeFresh F' N' ⟨_, _, .head _, by simp [rep_flat, e]⟩ (fun _ _ e => nomatch e)
  exact k _ _ _ (h _ hf) S'
theorem bo_add_list {a b : Addr} {Vs Ws : List Value} (ha : σ a = some (.list Vs)) (hb : σ b = some (.list Ws)) (hsz : Vs.length + Ws.length ≤ 100000) (h : ∀ x, σ x = none → Q (.ref x) (σ.set x (.list (Vs ++ Ws)))) : BO c .Add (.ref a) (.ref b) σ Q := fun x y hx hy Φ μ s E Q' S k => by
  rw [er_ref hx, er_ref hy]
  refine Sta.el S fun m ml news δ prot W => ?_
  refine W.elL ha fun vs hl e => ?_
  refine W.elL hb fun ws hl2 e2 => ?_
  refine add_arrays W.F W.N hl hl2 (fun h' F' N' => ?_) (by
    have h1 : vs.size = Vs.length := by rw [← e]; simp
    have h2 : ws.size = Ws.length := by rw [← e2]; simp
    rw [sizeLine_eq]; lia -abstractProof)
  obtain ⟨hf, S'⟩ := W.allocN (o := .list (Vs ++ Ws)) (tk := s.toks) W.sizeFresh F' N' ⟨_, _, .head _, by simp [e, e2]⟩ (fun _ _ e => nomatch e)
  exact k _ _ _ (h _ hf) S'
theorem ca_append {a : Addr} {Vs : List Value} {V : Value} (ha : σ a = some (.list Vs)) (hsz : Vs.length ≤ 100000) (h : Q .none (σ.set a (.list (Vs ++ [V])))) : CA c (.builtin "list.append") [.ref a, V] σ Q := by
  intro vals ev Φ μ s E Q' S k
  refine hide fun S0 hS0 => ?_
  obtain ⟨x, y, rfl, ex, ey⟩ := map_er2 ev
  refine hS0 ?_
  clear hS0 S0
  rw [er_ref ex]
  refine Sta.el S fun m ml news δ prot W => ?_
  refine hide fun S0 hS0 => ?_
  obtain ⟨vs, j, hm, hg, hl, e⟩ := W.isList ha
  refine hS0 ?_
  clear hS0 S0
  refine wpAny_list_append_plain ⟨j, hg⟩ (fun h' hpl hs => ?_) (by
    have h1 : vs.size = Vs.length := by rw [← e]; simp
    rw [sizeLine_eq]; lia -abstractProof)
  obtain ⟨j', hpl⟩ := hpl
  exact k .none _ _ h (W.upd (tk := s.toks) ha trivial hm hs hpl ⟨_, j', mem_updL_self hm, by simp [e, ey]⟩)
theorem ca_list {a : Addr} {Vs : List Value} (ha : σ a = some (.list Vs)) (hsz : Vs.length ≤ 100000) (h : ∀ x, σ x = none → Q (.ref x) (σ.set x (.list Vs))) : CA c (.type "list") [.ref a] σ Q := by
  intro vals ev Φ μ s E Q' S k
  obtain ⟨x, rfl, ex⟩ := map_er1 ev
  rw [er_ref ex]
  refine Sta.el S fun m ml news δ prot W => ?_
  refine hide fun S0 hS0 => ?_
  obtain ⟨vs, j, hm, hg, hl, e⟩ := W.isList ha
  refine hS0 ?_
  clear hS0 S0
  refine list_copyK W.F W.N hl (fun D cp h' F' N' l1 => ?_) (by
    have h1 : vs.size = Vs.length := by rw [← e]; simp
    rw [sizeLine_eq]; lia -abstractProof)
  obtain ⟨hf, S'⟩ := W.allocN (o := .list Vs) (tk := s.toks) (fun p hp => Nat.ne_of_lt (l1 p hp)) F' N' ⟨_, _, .head _, e⟩ (fun _ _ e => nomatch e)
  exact k _ _ _ (h _ hf) S'

/-! ### slices -/
theorem pick_from (items : Array Value) (a : Nat) : slicePick items (some a) none none = (items.toList.drop a).toArray := by
  have e : sliceBounds (some (a : Int)) none none items.size = (((min a items.size : Nat) : Int), (items.size : Int), 1) := by
    simp only [sliceBounds, Option.getD_none]
    have h1 : ¬ ((a : Int) < 0) := by lia -abstractProof
    simp only [h1, if_false, show (1 : Int) > 0 by decide, if_true]
    congr 1
    lia -abstractProof
  unfold slicePick
  rw [e]
  simp only
  rw [sliceRange_one, pick_run]
  congr 1
  rcases Nat.le_total a items.size with h | h
  · rw [Nat.min_eq_left h]; exact List.take_of_length_le (by simp)
  · rw [Nat.min_eq_right h, List.drop_of_length_le (by simp), List.drop_of_length_le (by simpa using h)]; simp
theorem pick_upto (items : Array Value) (b : Nat) : slicePick items none (some b) none = (items.toList.take b).toArray := by
  have e : sliceBounds none (some (b : Int)) none items.size = (((0 : Nat) : Int), ((min b items.size : Nat) : Int), 1) := by
    simp only [sliceBounds, Option.getD_none]
    have h1 : ¬ ((b : Int) < 0) := by lia -abstractProof
    simp only [h1, if_false, show (1 : Int) > 0 by decide, if_true]
    congr 2
    lia -abstractProof
  unfold slicePick
  rw [e]
  simp only
  rw [sliceRange_one, pick_run]
  congr 1
  rw [List.drop_zero, Nat.sub_zero]
  rcases Nat.le_total b items.size with h | h
  · rw [Nat.min_eq_left h]
  · rw [Nat.min_eq_right h, List.take_of_length_le (by simp), List.take_of_length_le (by simpa using h)]
noncomputable def slicesByName (slice : Expr) : Prop := ∀ o i, ∃ ops, subscripted slice false o i = operate ops (getItem o i)
theorem slice_run {a : Addr} {Vs Ws : List Value} {lo' hi' : Option Int} {vl vu : Value} {Φ : List (Addr × Obj)} {s : Shared} {E Q' : Value → Shared → Prop} {value slice : Expr} {v : Value} (hs : slicesByName slice) (S : Sta c Φ μ σ s) (ev : er v = .ref a) (ha : σ a = some (.list Vs)) (hsz : Vs.length ≤ 100000) (p1 : IsPart vl lo') (p2 : IsPart vu hi')
    (hp : ∀ items : Array Value, items.toList.map er = Vs → (slicePick items lo' hi' none).toList.map er = Ws) (k : ∀ x s', σ x = none → Sta c Φ μ (σ.set x (.list Ws)) s' → Q' (.ref x) s') :
    wpAny c.M c.A (subscriptTail value slice v (.ref s.heap.objs.size)) Q' E { s with heap := s.heap.push { cls := .type "slice", data := .fields #[vl, vu, .none] } } := by
  rw [er_ref ev]
  have S1 := S.keep (h' := s.heap.push { cls := .type "slice", data := .fields #[vl, vu, .none] }) (tk := s.toks) fun b o e => Heap.get?_push_of_some _ e
  have hsl : (s.heap.push { cls := .type "slice", data := .fields #[vl, vu, .none] }).IsSliceOf s.heap.objs.size vl vu .none := Heap.IsSliceOf.new ..
  generalize (s.heap.push { cls := .type "slice", data := .fields #[vl, vu, .none] }) = h1 at S1 hsl ⊢
  refine Sta.el S1 fun m ml news δ prot W => ?_
  refine W.elL ha fun vs hl e => ?_
  obtain ⟨ops, ho⟩ := hs (.ref a) (.ref s.heap.objs.size)
  refine tail_any hl.typeIs slot_list_getitem.lookup (wpAny_getItem_list_slice hl hsl p1 p2 .none (by simp) ?_ (by
    have h1 : vs.size = Vs.length := by rw [← e]; simp
    rw [sizeLine_eq]; lia -abstractProof)) ho
  have hn : h1.get? h1.objs.size = none := Heap.get?_none_of_le (Nat.le_refl _)
  exact k _ _ (S1.fresh hn) (S1.alloc (tk := s.toks) (fun b o e => Heap.get?_push_of_some _ e) hn (Heap.get?_push_size _ rfl) ⟨_, _, .head _, hp vs e⟩ (fun _ _ e => nomatch e))
theorem ev_from {value lower : Expr} {p pos : Pos} (hs : slicesByName (.Slice (some lower) none none p))
    (h : EV c value μ σ fun O σ1 => EV c lower μ σ1 fun I σ2 => ∃ a Vs n, O = .ref a ∧ I = vi n ∧ 0 ≤ n ∧ σ2 a = some (.list Vs) ∧ Vs.length ≤ 100000 ∧ ∀ x, σ2 x = none → Q (.ref x) (σ2.set x (.list (Vs.drop n.toNat)))) : EV c (.Subscript value (.Slice (some lower) none none p) pos) μ σ Q := by
  intro Φ s E Q' S k
  refine Subscript_ (h Φ s E _ S fun o σ1 s1 h1 S1 => wpAny_Slice ?_)
  rw [evalPart_some]
  refine h1 Φ s1 E _ S1 fun i σ2 s2 h2 S2 => ?_
  refine hide fun S0 hS0 => ?_
  obtain ⟨a, Vs, n, eo, ei, h0, ha, hsz, hq⟩ := h2
  refine hS0 ?_
  clear hS0 S0
  obtain ⟨t, rfl⟩ := er_int ei
  refine wpAny_pure (wpAny_pure (slice_run hs S2 eo ha hsz (.int n t) .none (fun items e => ?_) fun x s' hx S' => k _ _ _ (hq x hx) S'))
  have := pick_from items n.toNat
  rw [show ((n.toNat : Nat) : Int) = n by lia -abstractProof] at this
  rw [this, ← e, List.map_drop]
theorem ev_upto {value upper : Expr} {p pos : Pos} (hs : slicesByName (.Slice none (some upper) none p))
    (h : EV c value μ σ fun O σ1 => EV c upper μ σ1 fun I σ2 => ∃ a Vs n, O = .ref a ∧ I = vi n ∧ 0 ≤ n ∧ σ2 a = some (.list Vs) ∧ Vs.length ≤ 100000 ∧ ∀ x, σ2 x = none → Q (.ref x) (σ2.set x (.list (Vs.take n.toNat)))) : EV c (.Subscript value (.Slice none (some upper) none p) pos) μ σ Q := by
  intro Φ s E Q' S k
  refine Subscript_ (h Φ s E _ S fun o σ1 s1 h1 S1 => wpAny_Slice ?_)
  rw [evalPart_none, evalPart_some]
  refine wpAny_pure (h1 Φ s1 E _ S1 fun i σ2 s2 h2 S2 => ?_)
  refine hide fun S0 hS0 => ?_
  obtain ⟨a, Vs, n, eo, ei, h0, ha, hsz, hq⟩ := h2
  refine hS0 ?_
  clear hS0 S0
  obtain ⟨t, rfl⟩ := er_int ei
  refine wpAny_pure (slice_run hs S2 eo ha hsz .none (.int n t) (fun items e => ?_) fun x s' hx S' => k _ _ _ (hq x hx) S')
  have := pick_upto items n.toNat
  rw [show ((n.toNat : Nat) : Int) = n by lia -abstractProof] at this
  rw [this, ← e, List.map_take]

/-! ### small builtins -/
theorem ca_max {i j : Int} (ok : c.OK) (h : Q (vi (max i j)) σ) : CA c (.builtin "max") [vi i, vi j] σ Q := by
  intro vals ev Φ μ s E Q' S k
  refine hide fun S0 hS0 => ?_
  obtain ⟨x, y, rfl, ex, ey⟩ := map_er2 ev
  refine hS0 ?_
  clear hS0 S0
  obtain ⟨t, rfl⟩ := er_int ex; obtain ⟨u, rfl⟩ := er_int ey
  refine max_two_ints ok.hh fun h' tk hk => k _ σ _ ?_ (S.keep hk)
  have e : er (if j > i then Value.int j u else Value.int i t) = vi (max i j) := by
    by_cases hc : j > i
    · rw [if_pos hc, Int.max_eq_right (by lia -abstractProof)]; rfl
    · rw [if_neg hc, Int.max_eq_left (by lia -abstractProof)]; rfl
  rw [e]; exact h
theorem ca_min {i j : Int} (ok : c.OK) (h : Q (vi (min i j)) σ) : CA c (.builtin "min") [vi i, vi j] σ Q := by
  intro vals ev Φ μ s E Q' S k
  refine hide fun S0 hS0 => ?_
  obtain ⟨x, y, rfl, ex, ey⟩ := map_er2 ev
  refine hS0 ?_
  clear hS0 S0
  obtain ⟨t, rfl⟩ := er_int ex; obtain ⟨u, rfl⟩ := er_int ey
  refine min_two_ints ok.hh fun h' tk hk => k _ σ _ ?_ (S.keep hk)
  have e : er (if j < i then Value.int j u else Value.int i t) = vi (min i j) := by
    by_cases hc : j < i
    · rw [if_pos hc, Int.min_eq_right (by lia -abstractProof)]; rfl
    · rw [if_neg hc, Int.min_eq_left (by lia -abstractProof)]; rfl
  rw [e]; exact h
theorem ca_int_bool {b : Bool} (h : Q (vi (if b = true then 1 else 0)) σ) : CA c (.type "int") [.bool b] σ Q := by
  intro vals ev Φ μ s E Q' S k
  obtain ⟨x, rfl, ex⟩ := map_er1 ev
  rw [er_bool ex]
  exact call_int_bool (k _ _ _ h S.toks)
theorem ca_len_bytes {b : Array UInt8} (hb : b.size ≤ 1000) (h : Q (vi b.size) σ) : CA c (.builtin "len") [.bytes b 0] σ Q := by
  intro vals ev Φ μ s E Q' S k
  obtain ⟨x, rfl, ex⟩ := map_er1 ev
  obtain ⟨t, rfl⟩ := er_bytes ex
  exact len_bytes (by lia -abstractProof) (k _ _ _ h S.toks)
theorem gi_bytes {l : List UInt8} {i : Int} (hl : l.length ≤ 1000) (h0 : 0 ≤ i) (h1 : i < l.length) (h : Q (vi (l.getD i.toNat 0).toNat) σ) : GI c (.bytes l.toArray 0) (vi i) σ Q := by
  intro o j eo ej Φ μ s E Q' S k
  obtain ⟨t, rfl⟩ := er_bytes eo
  obtain ⟨u, rfl⟩ := er_int ej
  exact getItem_bytes (by lia -abstractProof) h0 (by lia -abstractProof) (k _ _ _ h S.toks)

/-! ### equalities of values -/
noncomputable def EqS (x y : Value) (b : Bool) : Prop := ∀ (A : Around) (s : Shared) (u v : Value), er u = x → er v = y → SeqAt.EqAt A s u v b
noncomputable def EqV (σ : AH) (x y : Value) (b : Bool) : Prop := ∀ (c : Cx) Φ μ s (A : Around) u v, Sta c Φ μ σ s → er u = x → er v = y → A.units < cLine → SeqAt.EqAt A s u v b
theorem EqS.v {x y : Value} {b : Bool} (h : EqS x y b) : EqV σ x y b := fun c Φ μ s A u v _ e1 e2 _ => h A s u v e1 e2
theorem eqs_none : EqS .none .none true := fun A s u v e1 e2 => by rw [er_none e1, er_none e2]; exact SeqAt.EqAt.same _
theorem eqs_int {i j : Int} : EqS (vi i) (vi j) (i == j) := fun A s u v e1 e2 => by obtain ⟨t, rfl⟩ := er_int e1; obtain ⟨t', rfl⟩ := er_int e2; exact SeqAt.EqAt.int_int i t j t'
theorem eqs_none_int {j : Int} : EqS .none (vi j) false := fun A s u v e1 e2 => by rw [er_none e1]; obtain ⟨t', rfl⟩ := er_int e2; exact SeqAt.EqAt.none_int j t'
theorem eqs_int_none {j : Int} : EqS (vi j) .none false := fun A s u v e1 e2 => by rw [er_none e2]; obtain ⟨t', rfl⟩ := er_int e1; exact SeqAt.EqAt.int_none j t'
theorem eqs_bytes {a b : Array UInt8} : EqS (.bytes a 0) (.bytes b 0) (a.toList == b.toList) := fun A s u v e1 e2 => by
  obtain ⟨t, rfl⟩ := er_bytes e1; obtain ⟨t', rfl⟩ := er_bytes e2
  by_cases hab : Value.bytes a t = Value.bytes b t'
  · have : (a.toList == b.toList) = true := by cases hab; exact beq_self_eq_true _
    rw [this, hab]; exact SeqAt.EqAt.same _
  intro prog w E Q h
  unfold eqBool
  refine wpAny_holding ?_
  refine wpAny_ite_split (fun h' => absurd (eq_of_beq h') hab) (fun _ => ?_)
  exact wpAny_bind (eq_bytes (b := a) (c := b) (t := t) (u := t') (wpAny_truthy_bool h))
end
section
variable {A : Around} {s : Shared}
theorem int_eq_bytes (a : Int) (t : Tok) (b : Array UInt8) (u : Tok) : Gives (Builtin.«int.__eq__» ⟨[.int a t, .bytes b u], []⟩) (.val (Value.notImplemented)) :=
  .of_wp fun M A E s Q h => by obtain ⟨hp, g, d, tk, os⟩ := s; wp_walk; exact ⟨_, rfl, h⟩
theorem bytes_eq_int (a : Array UInt8) (t : Tok) (b : Int) (u : Tok) : Gives (Builtin.«bytes.__eq__» ⟨[.bytes a t, .int b u], []⟩) (.val (Value.notImplemented)) :=
  .of_wp fun M A E s Q h => by
    refine hide fun S0 hS0 => ?_
    obtain ⟨hp, g, d, tk, os⟩ := s
    refine hS0 ?_
    clear hS0 S0
    have f1 := F.sub_int_bytes
    wp_walk
    exact ⟨_, rfl, h⟩
theorem slot_bytes_eq_refl : Slot "bytes" (cmpInfo .Eq).2.2 "bytes.__eq__" :=
  .of (owner := "bytes") (n := "__eq__") (by rw [typeLookup_type, builtinLookup_eq_fast]; kernel_rfl) (by decide +kernel) (by decide +kernel) (by decide +kernel)
    (by first | exact .inl (by decide +kernel) | exact .inr (by decide +kernel)) (by rw [isSubtype_type]; kernel_rfl)
theorem rc_int_bytes (a : Int) (t : Tok) (b : Array UInt8) (u : Tok) : SeqAt.RcAt A s (.int a t) (.bytes b u) false := fun prog w E Q h =>
  SeqAt.rc_eq_decline_or (k := false) (typeIs_int s a t) (typeIs_bytes s b u) (by decide) F.sub_bytes_int F.slot_int_eq slot_bytes_eq_refl
    (fun _ hq => call_gives F.slot_int_eq (typeIs_int s a t) F.entry_int_eq (F.args_int_eq_2 _ _) (int_eq_bytes a t b u) hq)
    (fun _ hq => call_gives slot_bytes_eq_refl (typeIs_bytes s b u) FB.entry_bytes_eq (FB.args_bytes_eq_2 _ _) (bytes_eq_int b u a t) hq)
    (fun _ hq => wpAny_of_eq (rfl : isSame (.int a t) (.bytes b u) = pure false) hq) (.inl rfl) h
theorem rc_bytes_int (a : Array UInt8) (t : Tok) (b : Int) (u : Tok) : SeqAt.RcAt A s (.bytes a t) (.int b u) false := fun prog w E Q h =>
  SeqAt.rc_eq_decline_or (k := false) (typeIs_bytes s a t) (typeIs_int s b u) (by decide) F.sub_int_bytes FB.slot_bytes_eq F.slot_int_eq_refl
    (fun _ hq => call_gives FB.slot_bytes_eq (typeIs_bytes s a t) FB.entry_bytes_eq (FB.args_bytes_eq_2 _ _) (bytes_eq_int a t b u) hq)
    (fun _ hq => call_gives F.slot_int_eq_refl (typeIs_int s b u) F.entry_int_eq (F.args_int_eq_2 _ _) (int_eq_bytes b u a t) hq)
    (fun _ hq => wpAny_of_eq (rfl : isSame (.bytes a t) (.int b u) = pure false) hq) (.inl rfl) h
end
theorem eqs_int_bytes {i : Int} {b : Array UInt8} : EqS (vi i) (.bytes b 0) false := fun A s u v e1 e2 => by
  obtain ⟨t, rfl⟩ := er_int e1; obtain ⟨t', rfl⟩ := er_bytes e2
  intro prog w E Q h
  unfold eqBool
  refine wpAny_holding ?_
  refine wpAny_ite_split (fun hab => absurd (eq_of_beq hab) nofun) (fun _ => ?_)
  exact wpAny_bind (rc_int_bytes i t b t' prog w E _ (wpAny_truthy_bool h))
theorem eqs_bytes_int {i : Int} {b : Array UInt8} : EqS (.bytes b 0) (vi i) false := fun A s u v e1 e2 => by
  obtain ⟨t, rfl⟩ := er_bytes e1; obtain ⟨t', rfl⟩ := er_int e2
  intro prog w E Q h
  unfold eqBool
  refine wpAny_holding ?_
  refine wpAny_ite_split (fun hab => absurd (eq_of_beq hab) nofun) (fun _ => ?_)
  exact wpAny_bind (rc_bytes_int b t i t' prog w E _ (wpAny_truthy_bool h))
theorem eqv_none_tup {σ : AH} {a : Addr} {Vs : List Value} (ha : σ a = some (.tup Vs)) : EqV σ .none (.ref a) false := fun c Φ μ s A u v S e1 e2 hu => by
  refine Sta.el S fun m ml news δ prot W => ?_
  refine W.elT ha fun vs hl e => ?_
  rw [er_none e1, er_ref e2]; exact SeqAt.EqAt.none_tuple hl hu
theorem eqv_tup_none {σ : AH} {a : Addr} {Vs : List Value} (ha : σ a = some (.tup Vs)) : EqV σ (.ref a) .none false := fun c Φ μ s A u v S e1 e2 hu => by
  refine Sta.el S fun m ml news δ prot W => ?_
  refine W.elT ha fun vs hl e => ?_
  rw [er_none e2, er_ref e1]; exact SeqAt.EqAt.tuple_none hl hu
theorem two_of {vs : Array Value} {V W : Value} (h : vs.toList.map er = [V, W]) : ∃ v w, vs = #[v, w] ∧ er v = V ∧ er w = W := by
  refine hide fun S0 hS0 => ?_
  obtain ⟨v, w, e, h1, h2⟩ := map_er2 h
  refine hS0 ?_
  clear hS0 S0
  exact ⟨v, w, by rw [← Array.toArray_toList (xs := vs), e], h1, h2⟩
theorem eqv_pair {σ : AH} {a b : Addr} {V1 V2 W1 W2 : Value} {e1 e2 : Bool} (ha : σ a = some (.tup [V1, V2])) (hb : σ b = some (.tup [W1, W2])) (h1 : EqS V1 W1 e1) (h2 : EqS V2 W2 e2) (r1 : V1 = W1 → e1 = true) (r2 : V2 = W2 → e2 = true) : EqV σ (.ref a) (.ref b) (e1 && e2) := fun c Φ μ s A u v S eu ev hu => by
  refine Sta.el S fun m ml news δ prot W => ?_
  refine W.elT ha fun vs hl e => ?_
  refine W.elT hb fun ws hl' e' => ?_
  refine hide fun S0 hS0 => ?_
  obtain ⟨v1, v2, rfl, q1, q2⟩ := two_of e
  refine hS0 ?_
  clear hS0 S0
  refine hide fun S0 hS0 => ?_
  obtain ⟨w1, w2, rfl, q1', q2'⟩ := two_of e'
  refine hS0 ?_
  clear hS0 S0
  rw [er_ref eu, er_ref ev]
  by_cases hab : a = b
  · subst hab
    rw [ha] at hb
    cases hb
    rw [r1 rfl, r2 rfl]
    exact SeqAt.EqAt.same _
  · have := SeqAt.RcAt.tuples (A := A) (e := fun j => if j = 0 then e1 else e2) hl hl' hu fun j j1 j2 => by
      match j, j1, j2 with
      | 0, _, _ => exact h1 _ s v1 w1 q1 q1'
      | 1, _, _ => exact h2 _ s v2 w2 q2 q2'
    have hr : ((List.range (min (#[v1, v2] : Array Value).size (#[w1, w2] : Array Value).size)).all (fun j => if j = 0 then e1 else e2) && (#[v1, v2] : Array Value).size == (#[w1, w2] : Array Value).size) = (e1 && e2) := by
      show ((List.range 2).all (fun j => if j = 0 then e1 else e2) && true) = _
      cases e1 <;> cases e2 <;> rfl
    rw [hr] at this
    exact SeqAt.EqAt.of_refs hab this

section
variable {c : Cx} {μ : AM} {σ : AH} {Q : Value → AH → Prop}
theorem Cx.OK.in1 (ok : c.OK) (hr : 1 ≤ c.room) : c.A.in1.units < cLine ∧ c.A.units < cLine := by
  have := ok.hu
  show c.A.units + 1 < _ ∧ _
  lia
theorem co_in_list {X : Value} {a : Addr} {Vs : List Value} (e : Value → Bool) (ok : c.OK) (hr : 1 ≤ c.room) (ha : σ a = some (.list Vs)) (he : ∀ V ∈ Vs, EqV σ V X (e V)) (h : Q (.bool (Vs.any e)) σ) : CO c .In X (.ref a) σ Q := fun x y hx hy Φ μ s E Q' S k => by
  rw [er_ref hy]
  refine Sta.el S fun m ml news δ prot W => ?_
  refine W.elL ha fun vs hl ev => ?_
  refine SeqAt.in_listAt (fun y => e (er y)) hl (fun y hy' => he (er y) (ev ▸ List.mem_map.mpr ⟨y, by simpa using hy', rfl⟩) c Φ μ s _ y x S rfl hx (ok.in1 hr).1) (k (.bool _) _ _ ?_ S)
  have : vs.any (fun y => e (er y)) = Vs.any e := by
    rw [← ev, List.any_map, ← Array.any_toList]; rfl
  rw [this]; exact h
theorem co_eq_list {a b : Addr} {Vs Ws : List Value} (e : Nat → Bool) (ok : c.OK) (hr : 1 ≤ c.room) (ha : σ a = some (.list Vs)) (hb : σ b = some (.list Ws)) (hlen : Vs.length = Ws.length) (he : ∀ j V W, Vs[j]? = some V → Ws[j]? = some W → EqV σ V W (e j)) (h : Q (.bool ((List.range Vs.length).all e)) σ) : CO c .Eq (.ref a) (.ref b) σ Q := fun x y hx hy Φ μ s E Q' S k => by
  rw [er_ref hx, er_ref hy]
  refine Sta.el S fun m ml news δ prot W => ?_
  refine W.elL ha fun vs hl ev => ?_
  refine W.elL hb fun ws hl2 ew => ?_
  have h1 : vs.size = Vs.length := by rw [← ev]; simp
  have h2 : ws.size = Ws.length := by rw [← ew]; simp
  refine SeqAt.eq_listAt (e := e) hl hl2 (by lia) (ok.in1 hr).2 (fun j j1 j2 => he j (er vs[j]) (er ws[j]) (by rw [← ev, List.getElem?_map]; simp [j1]) (by rw [← ew, List.getElem?_map]; simp [j2]) c Φ μ s _ _ _ S rfl rfl (ok.in1 hr).1) (k (.bool _) _ _ ?_ S)
  rw [h1]; exact h
theorem co_eq_list_len {a b : Addr} {Vs Ws : List Value} (ok : c.OK) (hr : 1 ≤ c.room) (ha : σ a = some (.list Vs)) (hb : σ b = some (.list Ws)) (hlen : Vs.length ≠ Ws.length) (h : Q (.bool false) σ) : CO c .Eq (.ref a) (.ref b) σ Q := fun x y hx hy Φ μ s E Q' S k => by
  rw [er_ref hx, er_ref hy]
  refine Sta.el S fun m ml news δ prot W => ?_
  refine W.elL ha fun vs hl ev => ?_
  refine W.elL hb fun ws hl2 ew => ?_
  have h1 : vs.size = Vs.length := by rw [← ev]; simp
  have h2 : ws.size = Ws.length := by rw [← ew]; simp
  exact SeqAt.eq_list_lengthsAt hl hl2 (by rw [h1, h2]; simpa using hlen) (ok.in1 hr).2 (k (.bool _) _ _ h S)
/-- a list held against the empty one -/
theorem co_eq_nil {a b : Addr} {Vs : List Value} (ok : c.OK) (hr : 1 ≤ c.room) (ha : σ a = some (.list Vs)) (hb : σ b = some (.list [])) (h : Q (.bool Vs.isEmpty) σ) : CO c .Eq (.ref a) (.ref b) σ Q := by
  cases Vs with
  | nil => exact co_eq_list (fun _ => true) ok hr ha hb rfl (fun j V W h => by simp at h) h
  | cons V Vs => exact co_eq_list_len ok hr ha hb (by simp) h
theorem co_ne_list {a b : Addr} {Vs Ws : List Value} (e : Nat → Bool) (ok : c.OK) (hr : 1 ≤ c.room) (ha : σ a = some (.list Vs)) (hb : σ b = some (.list Ws)) (hlen : Vs.length = Ws.length) (he : ∀ j V W, Vs[j]? = some V → Ws[j]? = some W → EqV σ V W (e j)) (h : Q (.bool (!(List.range Vs.length).all e)) σ) : CO c .NotEq (.ref a) (.ref b) σ Q := fun x y hx hy Φ μ s E Q' S k => by
  rw [er_ref hx, er_ref hy]
  refine Sta.el S fun m ml news δ prot W => ?_
  refine W.elL ha fun vs hl ev => ?_
  refine W.elL hb fun ws hl2 ew => ?_
  have h1 : vs.size = Vs.length := by rw [← ev]; simp
  have h2 : ws.size = Ws.length := by rw [← ew]; simp
  refine SeqAt.RcNeAt.lists (e := e) hl hl2 (by lia) (ok.in1 hr).2 (fun j j1 j2 => he j (er vs[j]) (er ws[j]) (by rw [← ev, List.getElem?_map]; simp [j1]) (by rw [← ew, List.getElem?_map]; simp [j2]) c Φ μ s _ _ _ S rfl rfl (ok.in1 hr).1) _ _ _ _ (k (.bool _) _ _ ?_ S)
  rw [h1]; exact h
/-- values that are None or a number -/
noncomputable def vo : Option Int → Value
  | none => .none
  | some i => vi i
theorem eqs_vo {x y : Option Int} : EqS (vo x) (vo y) (x == y) := by
  cases x <;> cases y
  · exact eqs_none
  · exact eqs_none_int
  · exact eqs_int_none
  · exact eqs_int
theorem co_ne_vo {x y : Option Int} (h : Q (.bool (!(x == y))) σ) : CO c .NotEq (vo x) (vo y) σ Q := fun u v hu hv Φ μ s E Q' S k => by
  cases x <;> cases y
  · rw [er_none hu, er_none hv]; exact EqNone.ne_none_none (k (.bool _) _ _ h S)
  · rw [er_none hu]; obtain ⟨t, rfl⟩ := er_int hv; exact EqNone.ne_none_int (k (.bool _) _ _ h S)
  · rw [er_none hv]; obtain ⟨t, rfl⟩ := er_int hu; exact EqNone.ne_int_none (k (.bool _) _ _ h S)
  · obtain ⟨t, rfl⟩ := er_int hu; obtain ⟨t', rfl⟩ := er_int hv
    exact ne_int (k (.bool _) _ _ h S)
theorem gm_index {a : Addr} {Vs : List Value} {R : Value → List Value → Prop} (ha : σ a = some (.list Vs)) (h : R (.builtin "list.index") [.ref a]) : GM c (.ref a) "index" σ R := by
  intro o eo pl Φ μ s E Q' S k
  rw [er_ref eo]
  refine Sta.el S fun m ml news δ prot W => ?_
  refine hide fun S0 hS0 => ?_
  obtain ⟨vs, n, _, hg, hl, _⟩ := W.isList ha
  refine hS0 ?_
  clear hS0 S0
  exact getMethod_list_of (name := "index") F.slot_list_index F.type_list_index hl ⟨_, hg, rfl⟩ (k _ _ s h S)
theorem ca_index {a : Addr} {X : Value} {Vs : List Value} (e : Value → Bool) (j : Nat) (ok : c.OK) (hr : 1 ≤ c.room) (ha : σ a = some (.list Vs)) (hsz : Vs.length ≤ 100000) (he : ∀ V ∈ Vs, EqV σ V X (e V)) (hj : ∃ V, Vs[j]? = some V ∧ e V = true) (hno : ∀ i V, i < j → Vs[i]? = some V → e V = false)
    (h : Q (vi j) σ) : CA c (.builtin "list.index") [.ref a, X] σ Q := by
  intro vals ev Φ μ s E Q' S k
  refine hide fun S0 hS0 => ?_
  obtain ⟨x, y, rfl, ex, ey⟩ := map_er2 ev
  refine hS0 ?_
  clear hS0 S0
  rw [er_ref ex]
  refine Sta.el S fun m ml news δ prot W => ?_
  refine hide fun S0 hS0 => ?_
  obtain ⟨vs, n, _, hg, hl, ew⟩ := W.isList ha
  refine hS0 ?_
  clear hS0 S0
  have h1 : vs.size = Vs.length := by rw [← ew]; simp
  obtain ⟨V, hV, heV⟩ := hj
  have hjl := (List.getElem?_eq_some_iff.mp hV).1
  refine call_meets F.slot_list_index ⟨_, hg, rfl⟩ F.entry_list_index (F.args_list_index_2 _ _) (SeqAt.list_indexAt a vs n none #[] y (fun v => e (er v)) j (by lia) (by lia) ?_ ?_) ⟨hg, fun z hz => he (er z) (ew ▸ List.mem_map.mpr ⟨z, by simpa using hz, rfl⟩) c Φ μ s _ z y S rfl ey (ok.in1 hr).1, k (.int j s.toks) _ _ h S.toks⟩
  · have : er vs[j] = V := by
      rw [← ew, List.getElem?_map] at hV
      have hx : vs.toList[j]? = some vs[j] := by simp [show j < vs.size by lia]
      rw [hx] at hV
      exact Option.some.inj hV
    show e (er vs[j]) = true
    rw [this]; exact heV
  · intro i hi hij
    refine hno i (er vs[i]) hij ?_
    rw [← ew, List.getElem?_map]
    simp [hi]
/-- a number among numbers of a tuple -/
theorem co_in_tup {i : Int} {a : Addr} {ns : List Int} (ok : c.OK) (hr : 1 ≤ c.room) (ha : σ a = some (.tup (ns.map vi))) (h : Q (.bool (ns.any fun n => n == i)) σ) : CO c .In (vi i) (.ref a) σ Q := fun x y hx hy Φ μ s E Q' S k => by
  rw [er_ref hy]
  obtain ⟨t, rfl⟩ := er_int hx
  refine Sta.el S fun m ml news δ prot W => ?_
  refine W.elT ha fun vs hl ev => ?_
  have num : ∀ v ∈ vs.toList, ∃ n ∈ ns, er v = vi n := fun v hv => by
    have : er v ∈ ns.map vi := ev ▸ List.mem_map.mpr ⟨v, hv, rfl⟩
    obtain ⟨n, hn, e⟩ := List.mem_map.mp this
    exact ⟨n, hn, e.symm⟩
  let f : Value → Bool := fun v => match v with | .int n _ => n == i | _ => false
  refine SeqAt.in_tupleAt f hl (fun z hz => ?_) (k (.bool _) _ _ ?_ S)
  · obtain ⟨n, _, e⟩ := num z (by simpa using hz)
    obtain ⟨t', rfl⟩ := er_int e
    exact SeqAt.EqAt.int_int n t' i t
  · have : vs.any f = ns.any fun n => n == i := by
      have e1 : ns.any (fun n => n == i) = (ns.map vi).any f := by rw [List.any_map]; rfl
      rw [e1, ← ev, List.any_map, ← Array.any_toList]
      congr 1
      funext v
      cases v <;> rfl
    rw [this]; exact h
end
/-! ## dict displays -/
noncomputable def dkey : Option Expr → Option Str
  | some (.Constant (.str x) _ _) => some x
  | _ => none
noncomputable def DK (v : Option Expr) (x : Str) : Prop := ∃ k p, v = some (.Constant (.str x) k p)
theorem dkey_iff {v : Option Expr} {x : Str} (h : dkey v = some x) : DK v x := by
  rcases v with _ | v
  · exact nos h
  · cases v <;> try (exact nos h)
    rename_i y k p
    cases y <;> try (exact nos h)
    cases h; exact ⟨_, _, rfl⟩
noncomputable def DP (c : Cx) : List Expr → AM → AH → (List Value → AH → Prop) → Prop
  | [], _, σ, Q => Q [] σ
  | v :: vs, μ, σ, Q => EV c v μ σ fun V σ1 => DP c vs μ σ1 fun Vs σ2 => Q (V :: Vs) σ2
theorem merged_fresh : ∀ (more acc : List (Str × Value)), ((acc ++ more).map (·.1)).Nodup → merged acc more = acc ++ more
  | [], acc, _ => by simp [merged]
  | kv :: more, acc, h => by
    have hnot : acc.any (fun x => decide (x.1 = kv.1)) = false := by
      rw [List.any_eq_false]
      intro x hx
      rw [List.map_append, List.map_cons] at h
      have := (List.nodup_append.mp h).2.2 x.1 (List.mem_map.mpr ⟨x, hx, rfl⟩) kv.1 (.head _)
      simpa using this
    have e : stored acc kv.1 kv.2 = acc ++ [kv] := by unfold stored; rw [hnot]; rfl
    have ih := merged_fresh more (acc ++ [kv]) (by simpa using h)
    show merged (stored acc kv.1 kv.2) more = _
    rw [e, ih]; simp
section
variable {c : Cx} {μ : AM}
theorem dp_run {pos : Pos} : ∀ {keys : List (Option Expr)} {values : List Expr} {xs : List Str} {σ : AH} {Q : List Value → AH → Prop} {Φ : List (Addr × Obj)} {s : Shared} {E : Value → Shared → Prop} {Q' : List (Value × Value) → Shared → Prop},
    keys.map dkey = xs.map some → keys.length = values.length → DP c values μ σ Q → Sta c Φ μ σ s →
    (∀ vs vals σ' s', Carries (PySem.strKind c.prog c.w) vs (xs.zip vals) → vals.length = values.length → Q (vals.map er) σ' → Sta c Φ μ σ' s' → Q' vs s') → wpAny c.M c.A (evalPairs (pairTrees keys values c.env pos)) Q' E s
  | [], [], xs, σ, Q, Φ, s, E, Q', hk, _, h, S, k => by
    cases xs with
    | nil => exact pairTrees_nil_walk (k [] [] σ s trivial rfl h S)
    | cons x xs => cases hk
  | key :: keys, v :: values, xs, σ, Q, Φ, s, E, Q', hk, hl, h, S, k => by
    cases xs with
    | nil => cases hk
    | cons x xs =>
      rw [List.map_cons, List.map_cons] at hk
      obtain ⟨h1, h2⟩ := List.cons.inj hk
      obtain ⟨_, _, rfl⟩ := dkey_iff h1
      refine pairTrees_cons_walk (wpAny_Constant_str (h Φ _ _ _ S.toks fun vv σ1 s1 hq S1 => dp_run h2 (by simpa using hl) hq S1 fun vs vals σ2 s2 hc hvl hq2 S2 => ?_))
      exact k _ (vv :: vals) σ2 s2 ⟨by show Value.isStrOf x (.str x s.toks) = true; simp [Value.isStrOf], rfl, hc⟩ (by simp [hvl]) hq2 S2
  | [], _ :: _, _, _, _, _, _, _, _, _, hl, _, _, _ => by simp at hl
  | _ :: _, [], _, _, _, _, _, _, _, _, hl, _, _, _ => by simp at hl
theorem ev_dict {keys : List (Option Expr)} {values : List Expr} {pos : Pos} {σ : AH} {Q : Value → AH → Prop} (xs : List Str) (hk : keys.map dkey = xs.map some) (hsome : keys.all (·.isSome) = true) (hlen : keys.length = values.length) (h0 : values ≠ []) (h15 : values.length ≤ 15) (hz : ∀ q ∈ c.fz, False) (hnd : xs.Nodup)
    (h : DP c values μ σ fun Vs σ1 => ∀ a, σ1 a = none → Q (.ref a) (σ1.set a (.dict (xs.zip Vs)))) : EV c (.Dict keys values pos) μ σ Q := by
  intro Φ s E Q' S k
  have hpl : (pairTrees keys values c.env pos).length = keys.length := pairTrees_length keys values c.env pos hsome hlen
  refine wpAny_Dict_pairs (knd := PySem.strKind c.prog c.w) (pairs := pairTrees keys values c.env pos) (zip_pairTrees keys values c.env pos hsome hlen) (fun e => h0 ?_) (by lia -abstractProof) ?_
  · rw [e] at hpl
    cases values with
    | nil => rfl
    | cons v vs => rw [List.length_nil, hlen] at hpl; cases hpl
  generalize hD : s.heap.objs.size = D
  have hn : s.heap.get? D = none := Heap.get?_none_of_le (by rw [← hD]; exact Nat.le_refl _)
  obtain ⟨od, hod, hdd⟩ := Heap.dictOf_iff.mp (Heap.DictOf.new (knd := PySem.strKind c.prog c.w) s.heap)
  rw [hD] at hod
  obtain ⟨hdis, S1⟩ := Sta.aside (p := [(D, od)]) (tk := s.toks) S (h' := s.heap.push { cls := .type "dict", data := .dict #[] }) (fun b o e => Heap.get?_push_of_some _ e) (fun q hq => by rw [List.mem_singleton.mp hq]; exact ⟨hod, hn⟩)
  refine dp_run hk hlen h S1 fun vs vals σ2 s2 hc hvl hq S2 => ⟨_, hc, ?_, fun h' hd' hs' => ?_⟩
  · refine Sta.el S2 fun m ml news δ prot W => ?_
    exact Heap.dictOf_iff.mpr ⟨od, (W.N _ (W.P _ (.head _)).1).1, hdd⟩
  · refine Sta.el S2 fun m ml news δ prot W => ?_
    obtain ⟨hm, hoff⟩ := W.P (D, od) (.head _)
    obtain ⟨od', hod', hdd'⟩ := Heap.dictOf_iff.mp hd'
    have hxl : xs.length = keys.length := by have := congrArg List.length hk; simpa using this.symm
    have hnd' : ((xs.zip vals).map (·.1)).Nodup := by rw [List.map_fst_zip (by lia -abstractProof)]; exact hnd
    have em : merged [] (xs.zip vals) = xs.zip vals := by rw [merged_fresh _ [] (by simpa using hnd')]; rfl
    rw [em] at hdd'
    have S3 : Sta c ((D, od') :: Φ) μ σ2 { s2 with heap := h', toks := s2.toks + vs.length } := Sta.turn (p := [(D, od)]) (p' := [(D, od')]) (tk := s2.toks + vs.length) S2 (fun q hq => (hz q hq).elim) hdis (fun r hr => ⟨_, .head _, by rw [List.mem_singleton.mp hr]⟩)
      (fun b o hb e => (hs'.2 b (hb _ (.head _))).trans e) (fun q hq => by rw [List.mem_singleton.mp hq]; exact hod')
    refine Sta.el S3 fun m3 ml3 news3 δ3 prot3 W3 => ?_
    obtain ⟨hm3, hoff3⟩ := W3.P (D, od') (.head _)
    have hold : ∀ b o, (σ2.set D (.dict (xs.zip (vals.map er)))) b = some o → b ≠ D → σ2 b = some o := fun b o e hb => by rwa [AH.set_ne hb] at e
    have off : ∀ {b}, b ≠ D → Off σ2 δ3 b → Off (σ2.set D (.dict (xs.zip (vals.map er)))) δ3 b := fun {b} hb h => by
      refine ⟨by rw [AH.set_ne hb]; exact h.1, fun a C fs e => ?_⟩
      by_cases q : a = D
      · subst q; rw [AH.set_self] at e; cases e
      · exact h.2 a C fs (hold _ _ e q)
    have hΦD : ∀ q ∈ Φ, q.1 ≠ D := fun q hq => hdis q hq (D, od) (.head _)
    refine k _ _ _ (hq D hoff3.1) ⟨m3, ml3, news3, δ3, prot3, ⟨W3.F, W3.N, ⟨fun b o e => ?_, fun b C fs e => ?_, fun a C fs a' C' fs' e e' => ?_⟩, fun q hq => ⟨(W3.P q (.tail _ hq)).1, off (hΦD q hq) (W3.P q (.tail _ hq)).2⟩, fun q hq => ⟨(W3.P' q hq).1, off (fun e => W3.own _ (.head _) q hq e.symm) (W3.P' q hq).2⟩, W3.loc, W3.R, W3.g, W3.d, W3.o, fun q hq => W3.own q (.tail _ hq), fun q hq => (hz q hq).elim, W3.fmP⟩⟩
    · by_cases q : b = D
      · subst q; rw [AH.set_self] at e; cases e
        refine ⟨od', xs.zip vals, hm3, hdd', ?_, by simp; lia -abstractProof⟩
        rw [List.zip_map_right]
        apply List.map_congr_left
        intro a _; rfl
      · exact W3.H.bears b o (hold _ _ e q)
    · by_cases q : b = D
      · subst q; rw [AH.set_self] at e; cases e
      · have h1 := hold _ _ e q
        rw [AH.set_ne (hoff3.2 b C fs h1)]
        exact W3.H.sep b C fs h1
    · by_cases q : a = D
      · subst q; rw [AH.set_self] at e; cases e
      · by_cases q' : a' = D
        · subst q'; rw [AH.set_self] at e'; cases e'
        · exact W3.H.inj a C fs a' C' fs' (hold _ _ e q) (hold _ _ e' q')
end

/-! ## a def with names that others capture -/
structure CellsOK (scope : Scope) (ys : List Str) : Prop where
  apart : ∀ n, (cellsFrom n scope.names []).Pairwise fun x y => x.2 ≠ y.2
  names : ∀ n, ((cellsFrom n scope.names []).map (·.1)).Nodup
  at' : ∀ n cm cells, CellsAre cm (cellsFrom n scope.names []) cells → (∀ y ∈ ys, ∃ cc o, (cellsFrom n scope.names []).lookup y = some cc ∧ (cc, o) ∈ cells ∧ o.data = .cell (cm y)) ∧ ∀ q ∈ cells, n ≤ q.1
theorem cells_one {scope : Scope} {y : Str} (h : ∀ n, cellsFrom n scope.names [] = [(y, n)]) : CellsOK scope [y] where
  apart n := by rw [h]; simp
  names n := by rw [h]; simp
  at' n cm cells x := by
    rw [h] at x ⊢
    obtain ⟨o, rfl, hd⟩ := x.one
    refine ⟨fun z hz => ?_, fun q hq => ?_⟩
    · rw [List.mem_singleton.mp hz]; exact ⟨n, o, by simp, .head _, hd⟩
    · rw [List.mem_singleton.mp hq]; exact Nat.le_refl _
theorem cells_two {scope : Scope} {y z : Str} (hne : y ≠ z) (h : ∀ n, cellsFrom n scope.names [] = [(z, n + 1), (y, n)]) : CellsOK scope [y, z] where
  apart n := by rw [h]; simp
  names n := by rw [h]; simp [hne.symm]
  at' n cm cells x := by
    rw [h] at x ⊢
    refine hide fun S0 hS0 => ?_
    obtain ⟨o, o', rfl, hd, hd'⟩ := x.two
    refine hS0 ?_
    clear hS0 S0
    refine ⟨fun w hw => ?_, fun q hq => ?_⟩
    · rcases List.mem_cons.mp hw with rfl | hw
      · exact ⟨n, o', by rw [List.lookup_cons, beq_eq_false_iff_ne.mpr hne]; simp, .tail _ (.head _), hd'⟩
      · rw [List.mem_singleton.mp hw]; exact ⟨n + 1, o, by simp, .head _, hd⟩
    · rcases List.mem_cons.mp hq with rfl | hq
      · exact Nat.le_succ _
      · rw [List.mem_singleton.mp hq]; exact Nat.le_refl _
theorem bindL_look {kindOf : Str → Option NameKind} {x : Str} {v : Value} : ∀ {binds : List (Str × Value)} {m : Str → Option Value}, (∀ y ∈ binds, kindOf y.1 = some .local) → (binds.map (·.1)).Nodup → (x, v) ∈ binds → bindL kindOf binds m x = some v := by
  have later : ∀ (binds : List (Str × Value)) (m : Str → Option Value), (∀ y ∈ binds, y.1 ≠ x) → m x = some v → bindL kindOf binds m x = some v := by
    intro binds
    induction binds with
    | nil => intro m _ h; exact h
    | cons b r ih =>
      intro m hne h
      obtain ⟨n, w⟩ := b
      unfold bindL
      refine ih _ (fun y hy => hne y (.tail _ hy)) ?_
      split
      · show (if x = n then some w else m x) = some v
        rw [if_neg (fun e : x = n => hne (n, w) (.head _) e.symm)]; exact h
      · exact h
  intro binds
  induction binds with
  | nil => intro m _ _ h; cases h
  | cons b r ih =>
    intro m hk hn hm
    obtain ⟨n, w⟩ := b
    rw [List.map_cons, List.nodup_cons] at hn
    unfold bindL
    rcases List.mem_cons.mp hm with e | hm
    · cases e
      refine later r _ (fun y hy e => hn.1 (List.mem_map.mpr ⟨y, hy, e⟩)) ?_
      rw [if_pos (hk (x, v) (.head _)), if_pos rfl]
    · exact ih (fun y hy => hk y (.tail _ hy)) hn.2 hm
theorem bindC_none {kindOf : Str → Option NameKind} : ∀ {binds : List (Str × Value)} {m : Str → Option Value}, (∀ y ∈ binds, kindOf y.1 = some .local) → bindC kindOf binds m = m
  | [], m, _ => rfl
  | (n, w) :: r, m, h => by
    unfold bindC
    rw [if_pos (h (n, w) (.head _))]
    exact bindC_none fun y hy => h y (.tail _ hy)

theorem fc_defC {g : Gl} {σ : AH} {Q : Value → AH → Prop} {n : Nat} {f : Addr} {name qual : Str} {params : Arguments} {body : List Stmt} {scope : Scope} {dV kV doc pm cdv ct oc : Value} {an od : Option Addr} {osl : Array (Option Value)} {args ds : List Value} (xs rs ys : List Str)
    (ho : g.K.lookup f = some ⟨oc, od, .func (fnOf name qual params body scope dV kV doc pm an cdv ct), osl⟩) (hcd : codeIn g.K cdv qual = true)
    (hbind : ∀ vals, vals.length = args.length → ∀ s, g.K.In s.heap → BindsTo s (fnOf name qual params body scope dV kV doc pm an cdv ct) ⟨vals, []⟩ (xs.zip (vals ++ ds)))
    (hlen : xs.length = args.length + ds.length)
    (hnd : (xs ++ (rs ++ ys)).Nodup) (hloc : ∀ x ∈ xs ++ rs, scope.names.lookup x = some .local) (hcel : ∀ y ∈ ys, scope.names.lookup y = some .cell)
    (hco : scope.isCoroutine = false) (hgen : scope.isGenerator = false) (hk : scope.kind = .function) (hC : CellsOK scope ys)
    (h : ∀ c' : Cx, c'.OK → c'.gl = g → c'.room = n → c'.env.scope = scope → c'.Fn → (∀ y ∈ ys, ∃ cc, c'.env.cells.lookup y = some cc) → EXs c' body (startM xs (args ++ ds.map er) (rs ++ ys)) σ (fun fl _ σ' => Q (retv fl) σ')) : FC g (n + 1) (.ref f) args σ Q := by
  intro c vals ok hg hr ev Φ μ s R S k
  subst hg
  refine Sta.el S fun m ml news δ prot W => ?_
  have hvl : vals.length = args.length := by rw [← ev]; simp
  have hb := hbind vals hvl s (ok.X.keeps W.F.keep)
  have hzl : xs.length = (vals ++ ds).length := by rw [List.length_append, hvl]; exact hlen
  have hbn : (xs.zip (vals ++ ds)).map (·.1) = xs := List.map_fst_zip (Nat.le_of_eq hzl)
  have hev : args ++ ds.map er = (vals ++ ds).map er := by rw [← ev, List.map_append]
  have hnames : (startM xs (args ++ ds.map er) (rs ++ ys)).map (·.1) = xs ++ (rs ++ ys) := startM_names (by rw [hev, List.length_map]; exact hzl)
  have hbl : ∀ y ∈ xs.zip (vals ++ ds), scope.names.lookup y.1 = some .local := fun y hy => hloc _ (List.mem_append_left _ (hbn ▸ List.mem_map.mpr ⟨y, hy, rfl⟩))
  refine code_defC ok.B W.F ok.X W.N ok.T ok.hA ok.hf ok.hk ho hcd (by have := ok.hd; lia -abstractProof) hb (by
    rw [List.all_eq_true]; intro y hy; rw [hbl y hy]; rfl) (hC.names 0) (fun gh L' h₁ tk cells FG F' N' hCA B' X' T' hlt => ?_) hco hgen hk
  have hkl : ∀ y ∈ xs.zip (vals ++ ds), (envOfC qual scope L' f cdv).kindOf y.1 = some .local := hbl
  rw [bindC_none hkl] at hCA
  obtain ⟨hat, hge⟩ := hC.at' _ _ _ hCA
  let c' : Cx := { c with A := c.A.deeper (envOfC qual scope L' f cdv), env := envOfC qual scope L' f cdv, fn := envOfC qual scope L' f cdv, L := L', h₀ := gh, base := c.base, A₀ := c.A, outer := c.fn :: c.outer, room := n, fz := [], fm := none }
  have ok' : c'.OK := by
    refine ⟨X', T', B', Around.frames_deeper ok.hA, rfl, hk, hk, rfl, rfl, hC.apart _, ok.hh, ?_, ?_⟩
    · show c.A.depth + 1 + n < _
      have := ok.hd; lia -abstractProof
    · show c.A.units + 3 + 8 * n < _
      have := ok.hu; lia -abstractProof
  have hcn : ∀ q ∈ cells, ∀ p ∈ news, p.1 ≠ q.1 := fun q hq p hp e => by
    have h1 := hge q hq
    have h2 := hlt p hp
    rw [e] at h2
    exact absurd (Nat.lt_of_lt_of_le h2 (Nat.le_of_succ_le h1)) (Nat.lt_irrefl _)
  have inN : ∀ b ob, σ b = some ob → ∃ x, (b, x) ∈ news := fun b ob e => by
    have B := W.H.bears b ob e
    cases ob with
    | list Vs => obtain ⟨vs, n, hm, r⟩ := B; exact ⟨_, hm⟩
    | tup Vs => obtain ⟨y, hm, r⟩ := B; exact ⟨_, hm⟩
    | dict fs => obtain ⟨y, kvs, hm, r⟩ := B; exact ⟨_, hm⟩
    | inst C fs => obtain ⟨_, _, hm, r⟩ := B; exact ⟨_, hm⟩
  have S' : Sta c' (Φ ++ prot) (startM xs (args ++ ds.map er) (rs ++ ys)) σ { s with heap := h₁, toks := tk } := by
    refine ⟨_, _, cells ++ news, δ, cells, ⟨F', N', ⟨fun b ob e => (W.H.bears b ob e).more fun p hp => List.mem_append_right _ hp, W.H.sep, W.H.inj⟩, fun p hp => ?_, fun p hp => ⟨List.mem_append_left _ hp, ?_, fun a C fs e z => ?_⟩, .inl ⟨rfl, rfl⟩, ⟨by rw [hnames]; exact hnd, fun x oV hx => ?_⟩, W.g, W.d, W.o, fun p hp q hq => ?_, fun p hp => (nomatch hp), fun f e => (nomatch e)⟩⟩
    · rcases List.mem_append.mp hp with q | q
      · exact ⟨List.mem_append_right _ (W.P p q).1, (W.P p q).2⟩
      · exact ⟨List.mem_append_right _ (W.P' p q).1, (W.P' p q).2⟩
    · cases e : σ p.1 with
      | none => rfl
      | some ob => obtain ⟨x, hm⟩ := inN _ _ e; exact absurd rfl (hcn p hp (p.1, x) hm)
    · refine hide fun S0 hS0 => ?_
      obtain ⟨_, _, _, es, n, hm, _⟩ := W.H.bears _ _ e
      refine hS0 ?_
      clear hS0 S0
      exact hcn p hp (δ a, _) hm z
    · have hx1 : x ∈ xs ++ (rs ++ ys) := by rw [← hnames]; exact List.mem_map.mpr ⟨(x, oV), hx, rfl⟩
      have hxc : ∀ V, oV = some V → x ∈ xs := fun V e => by
        subst e
        rw [hev] at hx
        obtain ⟨v, hm, _⟩ := startM_mem hx
        exact hbn ▸ List.mem_map.mpr ⟨(x, v), hm, rfl⟩
      by_cases hxy : x ∈ ys
      · refine hide fun S0 hS0 => ?_
        obtain ⟨cc, o, a1, a2, a3⟩ := hat x hxy
        refine hS0 ?_
        clear hS0 S0
        refine .inr ⟨hcel x hxy, cc, o, _, a1, .inl a2, fun e => ?_, a3, fun V e => ?_⟩
        · have := hge _ a2
          dsimp only at this
          rw [e] at this
          exact absurd (this : L' + 1 ≤ L') (Nat.not_succ_le_self _)
        · exact absurd rfl ((List.nodup_append.mp hnd).2.2 x (hxc V e) x (List.mem_append_right _ hxy))
      · refine .inl ⟨hloc x ?_, fun V e => ?_⟩
        · rcases List.mem_append.mp hx1 with q | q
          · exact List.mem_append_left _ q
          · rcases List.mem_append.mp q with q | q
            · exact List.mem_append_right _ q
            · exact absurd q hxy
        · subst e
          rw [hev] at hx
          obtain ⟨v, hm, e⟩ := startM_mem hx
          exact ⟨v, bindL_look hkl (by rw [hbn]; exact (List.nodup_append.mp hnd).1) hm, e⟩
    · rcases List.mem_append.mp hp with z | z
      · exact hcn q hq p (W.P p z).1
      · exact hcn q hq p (W.P' p z).1
  refine h c' ok' rfl rfl rfl ⟨rfl, rfl, rfl⟩ (fun y hy => let ⟨cc, _, a1, _⟩ := hat y hy; ⟨cc, a1⟩) (Φ ++ prot) _ _ _ S' fun fl μ' σ' s' hq S2 => ?_
  refine Sta.el S2 fun m2 ml2 news2 δ2 prot2 W2 => ?_
  refine leaveK_ W2.F W2.N fun F3 N3 => ?_
  have S3 : Sta c Φ μ σ' s' := ⟨m, ml, news2, δ2, prot, ⟨F3, N3, W2.H, fun p hp => W2.P p (List.mem_append_left _ hp), fun p hp => W2.P p (List.mem_append_right _ hp), W.loc, W.R, W2.g, W2.d, W2.o, W.own, W.fzP, W.fmP⟩⟩
  cases fl <;> exact k _ _ _ hq S3

section
variable {c : Cx} {μ : AM} {σ : AH} {Q : Flow → AM → AH → Prop}
theorem sws_scope {t v : Expr} {n : Nat} {env env' : Env} (h : env.scope = env'.scope) (hl : env.scope.kind = .function) : swapsWithSole [t] v n env = swapsWithSole [t] v n env' := by
  obtain ⟨sc, _⟩ := env
  obtain ⟨sc', _⟩ := env'
  cases h
  rfl
/-- assignments whose roads hang on the names' kinds -/
theorem ex_assignS {t value : Expr} {pos : Pos} {env' : Env} (ht : noStar t = true) (ek : c.env.scope.kind = .function) (hsc : c.env.scope = env'.scope) (h1 : swapsWithSole [t] value pos.line env' = pure false) (h2 : swappedStores [t] value env' = pure none)
    (h : EV c value μ σ fun V σ1 => AS c t V μ σ1 fun μ' σ' => Q .next μ' σ') : EX c (.Assign [t] value pos) μ σ Q := by
  intro Φ s E Q' S k
  refine wpAny_Assign_stores (h Φ s E _ S fun v σ1 s1 h1 S1 => ?_) (by rw [sws_scope hsc ek]; exact h1) (by rw [sw_scope hsc]; exact h2)
  rw [assignEach_one ht]
  exact h1 Φ s1 E _ v rfl S1 fun μ' σ' s' hq S' => k .next μ' σ' s' hq S'
end
noncomputable abbrev refsT : List (Str × Addr) := [(Str.ofString "is_number", 90), (Str.ofString "type_of", 97), (Str.ofString "raw_equal", 111), (Str.ofString "string_hash", 118), (Str.ofString "log2", 125), (Str.ofString "ceil_log2", 132), (Str.ofString "array_index", 188), (Str.ofString "compute_sizes", 195), (Str.ofString "count_key", 202), (Str.ofString "_law_dealt", 417), (Str.ofString "_law_key", 424), (Str.ofString "_law_tag", 431), (Str.ofString "_law_home", 438), (Str.ofString "_law_placed", 443), (Str.ofString "_law_measured", 448), (Str.ofString "_law_written", 455), (Str.ofString "_law_in_order", 460), (Str.ofString "Node", 177), (Str.ofString "Table", 408), (Str.ofString "HeapObject", 58)]
noncomputable abbrev intsT : List (Str × Int × Nat) := [(Str.ofString "T_NIL", 0, 199), (Str.ofString "T_BOOLEAN", 1, 201), (Str.ofString "T_NUMBER", 3, 205), (Str.ofString "T_STRING", 4, 207), (Str.ofString "HASH_MASK", 4294967295, 211), (Str.ofString "MAX_BITS", 26, 363), (Str.ofString "MAX_ARRAY", 67108864, 366), (Str.ofString "MOST_SLOTS", 4194304, 370), (Str.ofString "MOST_PLACES", 1048576, 374), (Str.ofString "BASE_SIZE", 56, 376), (Str.ofString "SLOT_SIZE", 16, 378), (Str.ofString "NODE_SIZE", 32, 380)]
noncomputable abbrev bltT : List (Str × String) := [(Str.ofString "len", "len"), (Str.ofString "isinstance", "isinstance"), (Str.ofString "min", "min"), (Str.ofString "max", "max")]
noncomputable abbrev typT : List (Str × String) := [(Str.ofString "int", "int"), (Str.ofString "bool", "bool"), (Str.ofString "bytes", "bytes"), (Str.ofString "range", "range"), (Str.ofString "zip", "zip"), (Str.ofString "enumerate", "enumerate"), (Str.ofString "reversed", "reversed"), (Str.ofString "list", "list")]
noncomputable abbrev attT : List (Str × Addr) := [(Str.ofString "key", 177), (Str.ofString "value", 177), (Str.ofString "next", 177), (Str.ofString "number", 408), (Str.ofString "mark", 408), (Str.ofString "size", 408), (Str.ofString "meta", 408), (Str.ofString "flags", 408), (Str.ofString "weak", 408), (Str.ofString "array", 408), (Str.ofString "nodes", 408), (Str.ofString "log_nodes", 408), (Str.ofString "free", 408)]
noncomputable abbrev metT : List (Str × Addr × Addr) := [(Str.ofString "main_position", 408, 224), (Str.ofString "find_node", 408, 231), (Str.ofString "free_position", 408, 238), (Str.ofString "get_int", 408, 245), (Str.ofString "get", 408, 259), (Str.ofString "set", 408, 266), (Str.ofString "put", 408, 287), (Str.ofString "new_key", 408, 294), (Str.ofString "put_again", 408, 301), (Str.ofString "count_array", 408, 308), (Str.ofString "count_nodes", 408, 315), (Str.ofString "rehash", 408, 322), (Str.ofString "resize", 408, 330), (Str.ofString "put_back", 408, 337), (Str.ofString "make_nodes", 408, 342), (Str.ofString "weigh", 408, 356), (Str.ofString "moved_to", 177, 174)]
noncomputable abbrev fnsT : List (Addr) := [90, 97, 111, 118, 125, 132, 188, 195, 202, 417, 424, 431, 438, 443, 448, 455, 460, 177, 408, 58]
section
variable {P : Params}
theorem refs_ck : refsT.all (fun p => decide (nsIn (frag P) mainGlobals p.1 = some (some (.ref p.2))) && !(p.1 == ("__debug__" : Str))) = true := by kernel_rfl
theorem ints_ck : intsT.all (fun p => decide (nsIn (frag P) mainGlobals p.1 = some (some (.int p.2.1 p.2.2))) && !(p.1 == ("__debug__" : Str))) = true := by kernel_rfl
theorem blt_ck : bltT.all (fun p => (decide (nsIn (frag P) mainGlobals p.1 = some none) && decide (bootBuiltins p.1 = some (.builtin p.2))) && (!decide (p.1 = ("__name__" : Str)) && !(p.1 == ("__debug__" : Str)))) = true := by kernel_rfl
theorem typ_ck : typT.all (fun p => (decide (nsIn (frag P) mainGlobals p.1 = some none) && decide (bootBuiltins p.1 = some (.type p.2))) && (!decide (p.1 = ("__name__" : Str)) && !(p.1 == ("__debug__" : Str)))) = true := by kernel_rfl
theorem att_ck : attT.all (fun p => ((plainGet (frag P) p.2 p.1 && hasDictIn (frag P) p.2) && (decide (findIn (frag P) (.ref p.2) p.1 = some none) && noGet (frag P) none)) && ((decide (findIn (frag P) (.ref p.2) "__setattr__" = some (some (.builtin "object.__setattr__"))) && plainOver (frag P) p.2) && decide (takerIn (frag P) p.2 p.1 = some none))) = true := by kernel_rfl
theorem met_ck : metT.all (fun p => (plainGet (frag P) p.2.1 p.1 && decide (findIn (frag P) (.ref p.2.1) p.1 = some (some (.ref p.2.2)))) && (isFn (frag P) (.ref p.2.2) && keepIn (frag P) (.ref p.2.2))) = true := by kernel_rfl
theorem fns_ck : fnsT.all (fun f => keepIn (frag P) (.ref f)) = true := by kernel_rfl
theorem kp_of {f : Addr} (h : f ∈ fnsT) : keepIn (frag P) (.ref f) = true := List.all_eq_true.mp fns_ck _ h
theorem no_of {b : Bool} (h : (!b) = true) : b = false := by cases b; rfl; cases h
theorem ref_at {x : Str} {f : Addr} (h : (x, f) ∈ refsT) : nsIn (frag P) mainGlobals x = some (some (.ref f)) ∧ (x == ("__debug__" : Str)) = false := by
  have e := Bool.and_eq_true_iff.mp (List.all_eq_true.mp (refs_ck (P := P)) _ h)
  exact ⟨of_decide_eq_true e.1, no_of e.2⟩
theorem int_at {x : Str} {i : Int} {t : Nat} (h : (x, i, t) ∈ intsT) : nsIn (frag P) mainGlobals x = some (some (.int i t)) ∧ (x == ("__debug__" : Str)) = false := by
  have e := Bool.and_eq_true_iff.mp (List.all_eq_true.mp (ints_ck (P := P)) _ h)
  exact ⟨of_decide_eq_true e.1, no_of e.2⟩
theorem blt_at {x : Str} {T : String} (h : (x, T) ∈ bltT) : (nsIn (frag P) mainGlobals x = some none ∧ bootBuiltins x = some (.builtin T)) ∧ x ≠ "__name__" ∧ (x == ("__debug__" : Str)) = false := by
  have e := Bool.and_eq_true_iff.mp (List.all_eq_true.mp (blt_ck (P := P)) _ h)
  have a := Bool.and_eq_true_iff.mp e.1
  have b := Bool.and_eq_true_iff.mp e.2
  exact ⟨⟨of_decide_eq_true a.1, of_decide_eq_true a.2⟩, of_decide_eq_false (no_of b.1), no_of b.2⟩
theorem typ_at {x : Str} {T : String} (h : (x, T) ∈ typT) : (nsIn (frag P) mainGlobals x = some none ∧ bootBuiltins x = some (.type T)) ∧ x ≠ "__name__" ∧ (x == ("__debug__" : Str)) = false := by
  have e := Bool.and_eq_true_iff.mp (List.all_eq_true.mp (typ_ck (P := P)) _ h)
  have a := Bool.and_eq_true_iff.mp e.1
  have b := Bool.and_eq_true_iff.mp e.2
  exact ⟨⟨of_decide_eq_true a.1, of_decide_eq_true a.2⟩, of_decide_eq_false (no_of b.1), no_of b.2⟩
theorem att_at {x : Str} {C : Addr} (h : (x, C) ∈ attT) : AttrOK (frag P) C x ∧ ClsOK (frag P) C ∧ takerIn (frag P) C x = some none := by
  have e := Bool.and_eq_true_iff.mp (List.all_eq_true.mp (att_ck (P := P)) _ h)
  have a := Bool.and_eq_true_iff.mp e.1
  have b := Bool.and_eq_true_iff.mp e.2
  have a1 := Bool.and_eq_true_iff.mp a.1
  have a2 := Bool.and_eq_true_iff.mp a.2
  have b1 := Bool.and_eq_true_iff.mp b.1
  exact ⟨⟨a1.1, a1.2, none, of_decide_eq_true a2.1, a2.2⟩, ⟨of_decide_eq_true b1.1, b1.2, a1.2⟩, of_decide_eq_true b.2⟩
theorem met_at {x : Str} {C f : Addr} (h : (x, C, f) ∈ metT) : (plainGet (frag P) C x = true ∧ findIn (frag P) (.ref C) x = some (some (.ref f))) ∧ isFn (frag P) (.ref f) = true ∧ keepIn (frag P) (.ref f) = true := by
  have e := Bool.and_eq_true_iff.mp (List.all_eq_true.mp (met_ck (P := P)) _ h)
  have a := Bool.and_eq_true_iff.mp e.1
  exact ⟨⟨a.1, of_decide_eq_true a.2⟩, Bool.and_eq_true_iff.mp e.2⟩
theorem mkc_177 : makesIn (frag P) 177 = true := by kernel_rfl
theorem in_177 : findIn (frag P) (.ref 177) (Str.ofString "__init__") = some (some (.ref 167)) := by kernel_rfl
theorem ii_167 : isFn (frag P) (.ref 167) = true := by kernel_rfl
end
theorem then_next {c : Cx} {rest : List Stmt} {Q : Flow → AM → AH → Prop} {μ : AM} {σ : AH} (h : EXs c rest μ σ Q) : Then c rest Q .next μ σ := h
theorem then_ret {c : Cx} {rest : List Stmt} {Q : Flow → AM → AH → Prop} {μ : AM} {σ : AH} {v : Value} (h : Q (.ret v) μ σ) : Then c rest Q (.ret v) μ σ := h
theorem then_brk {c : Cx} {rest : List Stmt} {Q : Flow → AM → AH → Prop} {μ : AM} {σ : AH} (h : Q .brk μ σ) : Then c rest Q .brk μ σ := h
theorem loop_next {Q : Flow → AM → AH → Prop} {I : AM → AH → Prop} {μ : AM} {σ : AH} (h : I μ σ) : LoopGo Q I .next μ σ := h
theorem loop_brk {Q : Flow → AM → AH → Prop} {I : AM → AH → Prop} {μ : AM} {σ : AH} (h : Q .next μ σ) : LoopGo Q I .brk μ σ := h
theorem loop_ret {Q : Flow → AM → AH → Prop} {I : AM → AH → Prop} {μ : AM} {σ : AH} {v : Value} (h : Q (.ret v) μ σ) : LoopGo Q I (.ret v) μ σ := h
theorem if_t {A B : Prop} {b : Bool} (hb : b = true) (h : A) : if b = true then A else B := by rw [if_pos hb]; exact h
theorem if_f {A B : Prop} {b : Bool} (hb : b = false) (h : B) : if b = true then A else B := by rw [hb]; exact h
theorem if_b {A B : Prop} {b : Bool} (ht : b = true → A) (hf : b = false → B) : if b = true then A else B := by cases b <;> simp_all
theorem ex_bool {b : Bool} {P : Bool → Prop} (h : P b) : ∃ t, Value.bool b = .bool t ∧ P t := ⟨b, rfl, h⟩
theorem ev_glob {c : Cx} {μ : AM} {σ : AH} {Q : Value → AH → Prop} {x : Str} {pos : Pos} {v : Value} {sc : Scope} (ok : c.OK) (hsc : c.env.scope = sc) (hx : sc.names.lookup x = some .globalImplicit) (e : nsIn c.K mainGlobals x = some (some v)) (h : Q (er v) σ) (hd : (x == ("__debug__" : Str)) = false := by decide) : EV c (.Name x pos) μ σ Q :=
  ev_global ok (by rw [Env.kindOf, hsc]; exact hx) e h hd
theorem ev_bltn {c : Cx} {μ : AM} {σ : AH} {Q : Value → AH → Prop} {x : Str} {pos : Pos} {v : Value} {sc : Scope} (ok : c.OK) (hsc : c.env.scope = sc) (hx : sc.names.lookup x = some .globalImplicit) (e : nsIn c.K mainGlobals x = some none) (hv : bootBuiltins x = some v) (hn : x ≠ "__name__") (h : Q (er v) σ) (hd : (x == ("__debug__" : Str)) = false := by decide) : EV c (.Name x pos) μ σ Q :=
  ev_builtin ok (by rw [Env.kindOf, hsc]; exact hx) e hv hn h hd
theorem ev_name_get {c : Cx} {μ : AM} {σ : AH} {Q : Value → AH → Prop} {x attr : Str} {p pos : Pos} {a C : Addr} {fs : List (Str × Value)} {V : Value} (ok : c.OK) (hx : (x, some (.ref a)) ∈ μ) (hσ : σ a = some (.inst C fs)) (hm : (attr, V) ∈ fs) (hA : AttrOK c.K C attr) (hv : handedIn V = true) (h : Q V σ) (hd : (x == ("__debug__" : Str)) = false := by decide) : EV c (.Attribute (.Name x p) attr pos) μ σ Q :=
  ev_get (fun _ _ => rfl) ok (ev_local ok hx ⟨a, C, fs, V, rfl, hσ, hm, hA, hv, h⟩ hd)
noncomputable abbrev KOK (c : Cx) : Prop := c.K = frag c.w.params
section
variable {c : Cx} {μ : AM} {σ : AH} {Q : Value → AH → Prop}
theorem ev_globH {x : Str} {pos : Pos} {v : Value} {sc : Scope} (ok : c.OK) (hK : KOK c) (hsc : c.env.scope = sc) (hx : sc.names.lookup x = some .globalImplicit) (e : nsIn (frag c.w.params) mainGlobals x = some (some v)) (h : Q (er v) σ) (hd : (x == ("__debug__" : Str)) = false := by decide) : EV c (.Name x pos) μ σ Q :=
  ev_glob ok hsc hx (by rw [hK]; exact e) h hd
theorem ev_bltnH {x : Str} {pos : Pos} {v : Value} {sc : Scope} (ok : c.OK) (hK : KOK c) (hsc : c.env.scope = sc) (hx : sc.names.lookup x = some .globalImplicit) (e : nsIn (frag c.w.params) mainGlobals x = some none) (hv : bootBuiltins x = some v) (hn : x ≠ "__name__") (h : Q (er v) σ) (hd : (x == ("__debug__" : Str)) = false := by decide) : EV c (.Name x pos) μ σ Q :=
  ev_bltn ok hsc hx (by rw [hK]; exact e) hv hn h hd
theorem ev_globR {x : Str} {pos : Pos} {f : Addr} {sc : Scope} (ok : c.OK) (hK : KOK c) (hsc : c.env.scope = sc) (hx : sc.names.lookup x = some .globalImplicit) (e : nsIn (frag c.w.params) mainGlobals x = some (some (.ref f))) (h : Q (.ref f) σ) (hd : (x == ("__debug__" : Str)) = false := by decide) : EV c (.Name x pos) μ σ Q := ev_globH ok hK hsc hx e h hd
theorem ev_globI {x : Str} {pos : Pos} {i : Int} {t : Tok} {sc : Scope} (ok : c.OK) (hK : KOK c) (hsc : c.env.scope = sc) (hx : sc.names.lookup x = some .globalImplicit) (e : nsIn (frag c.w.params) mainGlobals x = some (some (.int i t))) (h : Q (vi i) σ) (hd : (x == ("__debug__" : Str)) = false := by decide) : EV c (.Name x pos) μ σ Q := ev_globH ok hK hsc hx e h hd
theorem ev_bltnB {x : Str} {pos : Pos} {T : String} {sc : Scope} (ok : c.OK) (hK : KOK c) (hsc : c.env.scope = sc) (hx : sc.names.lookup x = some .globalImplicit) (e : nsIn (frag c.w.params) mainGlobals x = some none) (hv : bootBuiltins x = some (.builtin T)) (hn : x ≠ "__name__") (h : Q (.builtin T) σ) (hd : (x == ("__debug__" : Str)) = false := by decide) : EV c (.Name x pos) μ σ Q := ev_bltnH ok hK hsc hx e hv hn h hd
theorem ev_bltnT {x : Str} {pos : Pos} {T : String} {sc : Scope} (ok : c.OK) (hK : KOK c) (hsc : c.env.scope = sc) (hx : sc.names.lookup x = some .globalImplicit) (e : nsIn (frag c.w.params) mainGlobals x = some none) (hv : bootBuiltins x = some (.type T)) (hn : x ≠ "__name__") (h : Q (.type T) σ) (hd : (x == ("__debug__" : Str)) = false := by decide) : EV c (.Name x pos) μ σ Q := ev_bltnH ok hK hsc hx e hv hn h hd
theorem ev_name_getH {x attr : Str} {p pos : Pos} {a C : Addr} {fs : List (Str × Value)} {V : Value} (ok : c.OK) (hK : KOK c) (hx : (x, some (.ref a)) ∈ μ) (hσ : σ a = some (.inst C fs)) (hm : (attr, V) ∈ fs) (hA : AttrOK (frag c.w.params) C attr) (hv : handedIn V = true) (h : Q V σ) (hd : (x == ("__debug__" : Str)) = false := by decide) : EV c (.Attribute (.Name x p) attr pos) μ σ Q :=
  ev_name_get ok hx hσ hm (by rw [hK]; exact hA) hv h hd
theorem ev_getH {value : Expr} {attr : Str} {pos : Pos} (hb : ∀ env whole, attributeBase value attr env whole = whole) (ok : c.OK) (hK : KOK c)
    (h : EV c value μ σ fun o σ1 => ∃ x C fs V, o = .ref x ∧ σ1 x = some (.inst C fs) ∧ (attr, V) ∈ fs ∧ AttrOK (frag c.w.params) C attr ∧ handedIn V = true ∧ Q V σ1) : EV c (.Attribute value attr pos) μ σ Q :=
  ev_get hb ok (h.mono fun o σ1 h => by
    rw [← hK] at h
    exact h)
theorem cw_KH {f : Addr} {first : List Value} {args : List Expr} (ok : c.OK) (hK : KOK c) (hk : keepIn (frag c.w.params) (.ref f) = true) (hs : args.all noStar = true)
    (h : EVs c args μ σ fun Vs σ1 => CA c (.ref f) (first.map er ++ Vs) σ1 Q) : CW c (.ref f) first args μ σ Q := cw_K ok (by rw [hK]; exact hk) hs h
theorem ca_isiH {V t C : Value} {b : Bool} (ok : c.OK) (hK : KOK c) (ht : scalT V = some t) (e : kitOne (frag c.w.params) t C = some b) (hC : er C = C) (hC' : ∀ v, er v = C → v = C) (h : Q (.bool b) σ) : CA c (.builtin "isinstance") [V, C] σ Q :=
  ca_isi ok ht (by rw [hK]; exact e) hC hC' h
theorem gm_instH {x C f : Addr} {fs : List (Str × Value)} {name : Str} {R : Value → List Value → Prop} (ok : c.OK) (hK : KOK c) (hx : σ x = some (.inst C fs)) (hg : plainGet (frag c.w.params) C name = true) (hf : findIn (frag c.w.params) (.ref C) name = some (some (.ref f))) (ht : isFn (frag c.w.params) (.ref f) = true)
    (hn : name ∉ fs.map (·.1)) (h : R (.ref f) [.ref x]) : GM c (.ref x) name σ R := gm_inst ok hx (by rw [hK]; exact hg) (by rw [hK]; exact hf) (by rw [hK]; exact ht) hn h
theorem as_attrH {Q : AM → AH → Prop} {V : Value} {o : Expr} {attr : Str} {pos : Pos} (ok : c.OK) (hK : KOK c)
    (h : EV c o μ σ fun O σ1 => ∃ x C fs fs', O = .ref x ∧ σ1 x = some (.inst C fs) ∧ FPut attr V fs fs' ∧ ClsOK (frag c.w.params) C ∧ takerIn (frag c.w.params) C attr = some none ∧ Q μ (σ1.set x (.inst C fs'))) : AS c (.Attribute o attr pos) V μ σ Q :=
  as_attr ok (h.mono fun o σ1 h => by
    rw [← hK] at h
    exact h)
theorem as_attr_newH {Q : AM → AH → Prop} {V : Value} {o : Expr} {attr : Str} {pos : Pos} (ok : c.OK) (hK : KOK c)
    (h : EV c o μ σ fun O σ1 => ∃ x C fs, O = .ref x ∧ σ1 x = some (.inst C fs) ∧ attr ∉ fs.map (·.1) ∧ fs.length < 200 ∧ ClsOK (frag c.w.params) C ∧ takerIn (frag c.w.params) C attr = some none ∧ Q μ (σ1.set x (.inst C (fs ++ [(attr, V)])))) : AS c (.Attribute o attr pos) V μ σ Q :=
  as_attr_new ok (h.mono fun o σ1 h => by
    rw [← hK] at h
    exact h)
theorem ca_clsH {C fI : Addr} {Vs : List Value} {n : Nat} (ok : c.OK) (hK : KOK c) (hm : makesIn (frag c.w.params) C = true) (hi : findIn (frag c.w.params) (.ref C) "__init__" = some (some (.ref fI))) (hf : isFn (frag c.w.params) (.ref fI) = true) (hr : n + 1 ≤ c.room)
    (h : ∀ x, σ x = none → FC c.gl n (.ref fI) (.ref x :: Vs) (σ.set x (.inst C [])) (fun v σ' => v = .none ∧ Q (.ref x) σ')) : CA c (.ref C) Vs σ Q := ca_cls ok (by rw [hK]; exact hm) (by rw [hK]; exact hi) (by rw [hK]; exact hf) hr h
end
section
variable {c : Cx} {μ : AM} {σ : AH} {Q : Value → AH → Prop} {x : Str} {pos : Pos} {sc : Scope}
theorem n_ref {f : Addr} (m : (x, f) ∈ refsT) (ok : c.OK) (hK : KOK c) (hsc : c.env.scope = sc) (hx : sc.names.lookup x = some .globalImplicit) (h : Q (.ref f) σ) : EV c (.Name x pos) μ σ Q := ev_globR ok hK hsc hx (ref_at m).1 h (ref_at (P := c.w.params) m).2
theorem n_int {i : Int} {t : Nat} (m : (x, i, t) ∈ intsT) (ok : c.OK) (hK : KOK c) (hsc : c.env.scope = sc) (hx : sc.names.lookup x = some .globalImplicit) (h : Q (vi i) σ) : EV c (.Name x pos) μ σ Q := ev_globI ok hK hsc hx (int_at m).1 h (int_at (P := c.w.params) m).2
theorem n_blt {T : String} (m : (x, T) ∈ bltT) (ok : c.OK) (hK : KOK c) (hsc : c.env.scope = sc) (hx : sc.names.lookup x = some .globalImplicit) (h : Q (.builtin T) σ) : EV c (.Name x pos) μ σ Q := ev_bltnB ok hK hsc hx (blt_at m).1.1 (blt_at (P := c.w.params) m).1.2 (blt_at (P := c.w.params) m).2.1 h (blt_at (P := c.w.params) m).2.2
theorem n_typ {T : String} (m : (x, T) ∈ typT) (ok : c.OK) (hK : KOK c) (hsc : c.env.scope = sc) (hx : sc.names.lookup x = some .globalImplicit) (h : Q (.type T) σ) : EV c (.Name x pos) μ σ Q := ev_bltnT ok hK hsc hx (typ_at m).1.1 (typ_at (P := c.w.params) m).1.2 (typ_at (P := c.w.params) m).2.1 h (typ_at (P := c.w.params) m).2.2
end
section
variable {C : Addr} {n : Str} {c : Cx} {μ : AM} {σ : AH} {pos : Pos}
theorem g_any {Q : Value → AH → Prop} {x : Str} {p : Pos} {a : Addr} {fs : List (Str × Value)} {V : Value} (A : (n, C) ∈ attT) (ok : c.OK) (hK : KOK c) (hx : (x, some (.ref a)) ∈ μ) (hσ : σ a = some (.inst C fs)) (hm : (n, V) ∈ fs) (hv : handedIn V = true) (hd : (x == ("__debug__" : Str)) = false) (h : Q V σ) : EV c (.Attribute (.Name x p) n pos) μ σ Q := ev_name_getH ok hK hx hσ hm (att_at A).1 hv h hd
theorem e_any {Q : Value → AH → Prop} {value : Expr} (A : (n, C) ∈ attT) (hb : ∀ env whole, attributeBase value n env whole = whole) (ok : c.OK) (hK : KOK c) (h : EV c value μ σ fun o σ1 => ∃ x fs V, o = .ref x ∧ σ1 x = some (.inst C fs) ∧ (n, V) ∈ fs ∧ handedIn V = true ∧ Q V σ1) : EV c (.Attribute value n pos) μ σ Q :=
  ev_getH hb ok hK (h.mono fun o σ1 h => by
    obtain ⟨x, fs, V, h1, h2, h3, h4, h5⟩ := h
    exact ⟨x, C, fs, V, h1, h2, h3, (att_at A).1, h4, h5⟩)
theorem a_any {Q : AM → AH → Prop} {V : Value} {o : Expr} (A : (n, C) ∈ attT) (ok : c.OK) (hK : KOK c) (h : EV c o μ σ fun O σ1 => ∃ x fs fs', O = .ref x ∧ σ1 x = some (.inst C fs) ∧ FPut n V fs fs' ∧ Q μ (σ1.set x (.inst C fs'))) : AS c (.Attribute o n pos) V μ σ Q :=
  as_attrH ok hK (h.mono fun o σ1 h => by
    obtain ⟨x, fs, fs', h1, h2, h3, h4⟩ := h
    exact ⟨x, C, fs, fs', h1, h2, h3, (att_at A).2.1, (att_at A).2.2, h4⟩)
theorem b_any {Q : AM → AH → Prop} {V : Value} {o : Expr} (A : (n, C) ∈ attT) (ok : c.OK) (hK : KOK c) (h : EV c o μ σ fun O σ1 => ∃ x fs, O = .ref x ∧ σ1 x = some (.inst C fs) ∧ n ∉ fs.map (·.1) ∧ fs.length < 200 ∧ Q μ (σ1.set x (.inst C (fs ++ [(n, V)])))) : AS c (.Attribute o n pos) V μ σ Q :=
  as_attr_newH ok hK (h.mono fun o σ1 h => by
    obtain ⟨x, fs, h1, h2, h3, h4, h5⟩ := h
    exact ⟨x, C, fs, h1, h2, h3, h4, (att_at A).2.1, (att_at A).2.2, h5⟩)
theorem aN_any {Q : AM → AH → Prop} {x : Str} {p : Pos} {a : Addr} {fs fs' : List (Str × Value)} {V : Value} (A : (n, C) ∈ attT) (ok : c.OK) (hK : KOK c) (hx : (x, some (.ref a)) ∈ μ) (hσ : σ a = some (.inst C fs)) (hp : FPut n V fs fs') (hd : (x == ("__debug__" : Str)) = false) (h : Q μ (σ.set a (.inst C fs'))) : AS c (.Attribute (.Name x p) n pos) V μ σ Q := a_any A ok hK (ev_local ok hx ⟨a, fs, fs', rfl, hσ, hp, h⟩ hd)
theorem bN_any {Q : AM → AH → Prop} {x : Str} {p : Pos} {a : Addr} {fs : List (Str × Value)} {V : Value} (A : (n, C) ∈ attT) (ok : c.OK) (hK : KOK c) (hx : (x, some (.ref a)) ∈ μ) (hσ : σ a = some (.inst C fs)) (hn : n ∉ fs.map (·.1)) (hl : fs.length < 200) (hd : (x == ("__debug__" : Str)) = false) (h : Q μ (σ.set a (.inst C (fs ++ [(n, V)])))) : AS c (.Attribute (.Name x p) n pos) V μ σ Q := b_any A ok hK (ev_local ok hx ⟨a, fs, rfl, hσ, hn, hl, h⟩ hd)
theorem c_any {f : Addr} {Q : Value → AH → Prop} {o : Expr} {ap : Pos} {args : List Expr} (M : (n, C, f) ∈ metT) (ok : c.OK) (hK : KOK c) (hs : args.all noStar = true)
    (hshape : ∀ env, ∃ pl, eval (.Call (.Attribute o n ap) args [] pos) env = (do
      let ov ← eval o env
      standAt ap.atName
      let (f, first) ← holding [ov] (getMethod ov n pl)
      callWith pos f first (backTo pos (starEach args env)) (backToKw pos (keywordEach [] env))))
    (h : EV c o μ σ fun O σ1 => ∃ x fs, O = .ref x ∧ σ1 x = some (.inst C fs) ∧ n ∉ fs.map (·.1) ∧ EVs c args μ σ1 fun Vs σ2 => CA c (.ref f) (.ref x :: Vs) σ2 Q) : EV c (.Call (.Attribute o n ap) args [] pos) μ σ Q :=
  ev_mcall hshape (h.mono fun O σ1 h => by
    obtain ⟨x, fs, h1, h2, h3, h4⟩ := h
    subst h1
    exact gm_instH ok hK h2 (met_at M).1.1 (met_at M).1.2 (met_at M).2.1 h3 (cw_KH ok hK (met_at M).2.2 hs h4))
theorem ev_localD {Q : Value → AH → Prop} {x : Str} {V : Value} (ok : c.OK) (hx : (x, some V) ∈ μ) (hd : (x == ("__debug__" : Str)) = false) (h : Q V σ) : EV c (.Name x pos) μ σ Q := ev_local ok hx h hd
end
section
variable {c : Cx} {μ : AM} {σ : AH} {Q : Value → AH → Prop}
theorem isName {x : Str} {p : Pos} (h : EV c (.Name x p) μ σ Q) : EV c (.Name x p) μ σ Q := h
theorem isConst {x : Const} {k : Nat} {p : Pos} (h : EV c (.Constant x k p) μ σ Q) : EV c (.Constant x k p) μ σ Q := h
theorem isAttrN {x a : Str} {p p' : Pos} (h : EV c (.Attribute (.Name x p) a p') μ σ Q) : EV c (.Attribute (.Name x p) a p') μ σ Q := h
theorem isAttr {e : Expr} {a : Str} {p' : Pos} (h : EV c (.Attribute e a p') μ σ Q) : EV c (.Attribute e a p') μ σ Q := h
theorem isMCall {e : Expr} {a : Str} {p p' : Pos} {as : List Expr} (h : EV c (.Call (.Attribute e a p) as [] p') μ σ Q) : EV c (.Call (.Attribute e a p) as [] p') μ σ Q := h
theorem isEV {e : Expr} (h : EV c e μ σ Q) : EV c e μ σ Q := h
theorem isTR {e : Expr} {Q : Bool → AH → Prop} (h : TR c e μ σ Q) : TR c e μ σ Q := h
theorem isTRs {op : BoolOp} {e : List Expr} {Q : Bool → AH → Prop} (h : TRs c op e μ σ Q) : TRs c op e μ σ Q := h
theorem isEVs {e : List Expr} {Q : List Value → AH → Prop} (h : EVs c e μ σ Q) : EVs c e μ σ Q := h
theorem isEX {e : Stmt} {Q : Flow → AM → AH → Prop} (h : EX c e μ σ Q) : EX c e μ σ Q := h
theorem isEXs {e : List Stmt} {Q : Flow → AM → AH → Prop} (h : EXs c e μ σ Q) : EXs c e μ σ Q := h
theorem isThen {e : List Stmt} {Q : Flow → AM → AH → Prop} {f : Flow} (h : Then c e Q f μ σ) : Then c e Q f μ σ := h
theorem isLoopGo {I : AM → AH → Prop} {Q : Flow → AM → AH → Prop} {f : Flow} (h : LoopGo Q I f μ σ) : LoopGo Q I f μ σ := h
theorem isCW {F : Value} {f : List Value} {as : List Expr} (h : CW c F f as μ σ Q) : CW c F f as μ σ Q := h
theorem isCO {op : CmpOp} {A B : Value} (h : CO c op A B σ Q) : CO c op A B σ Q := h
theorem isBO {op : Operator} {A B : Value} (h : BO c op A B σ Q) : BO c op A B σ Q := h
theorem isCA {f : Value} {as : List Value} (h : CA c f as σ Q) : CA c f as σ Q := h
theorem cw_KH0 {f : Addr} {args : List Expr} (ok : c.OK) (hK : KOK c) (hk : keepIn (frag c.w.params) (.ref f) = true) (hs : args.all noStar = true) (h : EVs c args μ σ fun Vs σ1 => CA c (.ref f) Vs σ1 Q) : CW c (.ref f) [] args μ σ Q := cw_KH ok hK hk hs h
theorem cw_type0 {T : String} {args : List Expr} (ok : c.OK) (hs : args.all noStar = true) (h : EVs c args μ σ fun Vs σ1 => CA c (.type T) Vs σ1 Q) : CW c (.type T) [] args μ σ Q := cw_type ok hs h
theorem cw_builtin0 {T : String} {args : List Expr} (ok : c.OK) (hs : args.all noStar = true) (h : EVs c args μ σ fun Vs σ1 => CA c (.builtin T) Vs σ1 Q) : CW c (.builtin T) [] args μ σ Q := cw_builtin ok hs h
end
theorem ca_fcK {c : Cx} {f : Value} {Vs : List Value} {σ : AH} {Q : Value → AH → Prop} (n : Nat) (ok : c.OK) (hr : n ≤ c.room) (h : FC c.gl n f Vs σ Q) : CA c f Vs σ Q := ca_fc ok hr h

theorem put_ex {x : Str} {V : Value} {μ μ' : AM} {P : AM → Prop} (hp : Put x V μ μ') (h : P μ') : ∃ μ', Put x V μ μ' ∧ P μ' := ⟨μ', hp, h⟩
section
variable {c : Cx} {μ : AM} {σ : AH} {Q : Flow → AM → AH → Prop}
theorem ex_assignN {x : Str} {p : Pos} {value : Expr} {pos : Pos} (ok : c.OK) (okl : c.Fn) (h1 : ∀ env, swapsWithSole [.Name x p] value pos.line env = pure false) (h2 : ∀ env, swappedStores [.Name x p] value env = pure none)
    (h : EV c value μ σ fun V σ1 => ∃ μ', Put x V μ μ' ∧ Q .next μ' σ1) : EX c (.Assign [.Name x p] value pos) μ σ Q :=
  ex_assign rfl h1 h2 (h.mono fun V σ1 ⟨μ', hp, hq⟩ => as_name ok okl hp hq)
theorem ev_negc {i : Int} {k : Nat} {p pos : Pos} {Q : Value → AH → Prop} (h : Q (vi (-i)) σ) : EV c (.UnaryOp .USub (.Constant (.int i) k p) pos) μ σ Q := ev_neg (ev_int ⟨i, rfl, h⟩)
theorem isIO {op : Operator} {A B : Value} {Q : Value → AH → Prop} (h : IO c op A B σ Q) : IO c op A B σ Q := h
theorem isAS {t : Expr} {V : Value} {Q : AM → AH → Prop} (h : AS c t V μ σ Q) : AS c t V μ σ Q := h
theorem as_nameP {x : Str} {p : Pos} {V : Value} {Q : AM → AH → Prop} {μ' : AM} (ok : c.OK) (okl : c.Fn) (hp : Put x V μ μ') (h : Q μ' σ) : AS c (.Name x p) V μ σ Q := as_name ok okl hp h
end
theorem put_ex2 {x y : Str} {V W : Value} {μ μ1 μ2 : AM} {P : AM → Prop} (hp : Put x V μ μ1) (hq : Put y W μ1 μ2) (h : P μ2) : ∃ μ1 μ2, Put x V μ μ1 ∧ Put y W μ1 μ2 ∧ P μ2 := ⟨μ1, μ2, hp, hq, h⟩
section
variable {c : Cx} {μ : AM} {σ : AH} {Q : AM → AH → Prop} {V : Value} {x : Str} {p pos : Pos} {a : Addr} {fs fs' : List (Str × Value)}
theorem isASN {at' : Str} (h : AS c (.Attribute (.Name x p) at' pos) V μ σ Q) : AS c (.Attribute (.Name x p) at' pos) V μ σ Q := h
theorem isASS {o i : Expr} (h : AS c (.Subscript o i pos) V μ σ Q) : AS c (.Subscript o i pos) V μ σ Q := h
theorem isAsgA {t e : Expr} {at' : Str} {Q : Flow → AM → AH → Prop} {p' : Pos} (h : EX c (.Assign [.Attribute t at' p] e p') μ σ Q) : EX c (.Assign [.Attribute t at' p] e p') μ σ Q := h
theorem isAsgS {t i e : Expr} {Q : Flow → AM → AH → Prop} {p' : Pos} (h : EX c (.Assign [.Subscript t i p] e p') μ σ Q) : EX c (.Assign [.Subscript t i p] e p') μ σ Q := h
theorem isSub {t i : Expr} {Q : Value → AH → Prop} (h : EV c (.Subscript t i p) μ σ Q) : EV c (.Subscript t i p) μ σ Q := h
end
theorem xN_free {c : Cx} {μ : AM} {σ : AH} {Q : Flow → AM → AH → Prop} {x : Str} {p tp pos : Pos} {a : Addr} {fs : List (Str × Value)} {old : Value} {value : Expr} {op : Operator} (ok : c.OK) (hK : KOK c) (hx : (x, some (.ref a)) ∈ μ) (hσ : σ a = some (.inst 408 fs)) (hm : (Str.ofString "free", old) ∈ fs) (ho : handedIn old = true)
    (h : EV c value μ σ fun V σ2 => IO c op old V σ2 fun R σ3 => ∃ fs2 fs', σ3 a = some (.inst 408 fs2) ∧ FPut (Str.ofString "free") R fs2 fs' ∧ Q .next μ (σ3.set a (.inst 408 fs'))) (hd : (x == ("__debug__" : Str)) = false := by decide) : EX c (.AugAssign (.Attribute (.Name x p) (Str.ofString "free") tp) op value pos) μ σ Q :=
  ex_aug_attr ok (have A : (Str.ofString "free", 408) ∈ attT := by decide
    ev_local ok hx ⟨a, 408, fs, old, rfl, hσ, hm, by rw [hK]; exact (att_at A).1, ho, by rw [hK]; exact (att_at A).2.1, by rw [hK]; exact (att_at A).2.2, h⟩ hd)
theorem fput_ex {σ : AH} {a C : Addr} {at' : Str} {R : Value} {fs2 fs' : List (Str × Value)} {P : AH → Prop} (hσ : σ a = some (.inst C fs2)) (hp : FPut at' R fs2 fs') (h : P (σ.set a (.inst C fs'))) : ∃ fs2 fs', σ a = some (.inst C fs2) ∧ FPut at' R fs2 fs' ∧ P (σ.set a (.inst C fs')) := ⟨fs2, fs', hσ, hp, h⟩
theorem isFputEx {σ : AH} {a C : Addr} {at' : Str} {R : Value} {P : AH → Prop} (h : ∃ fs2 fs', σ a = some (.inst C fs2) ∧ FPut at' R fs2 fs' ∧ P (σ.set a (.inst C fs'))) : ∃ fs2 fs', σ a = some (.inst C fs2) ∧ FPut at' R fs2 fs' ∧ P (σ.set a (.inst C fs')) := h
theorem isFld {σ : AH} {a C : Addr} {at' : Str} {P : Value → Prop} (h : ∃ x fs V, Value.ref a = .ref x ∧ σ x = some (.inst C fs) ∧ (at', V) ∈ fs ∧ handedIn V = true ∧ P V) : ∃ x fs V, Value.ref a = .ref x ∧ σ x = some (.inst C fs) ∧ (at', V) ∈ fs ∧ handedIn V = true ∧ P V := h
theorem fld {σ : AH} {a C : Addr} {at' : Str} {fs : List (Str × Value)} {V : Value} {P : Value → Prop} (hσ : σ a = some (.inst C fs)) (hm : (at', V) ∈ fs) (hv : handedIn V = true) (h : P V) : ∃ x fs V, Value.ref a = .ref x ∧ σ x = some (.inst C fs) ∧ (at', V) ∈ fs ∧ handedIn V = true ∧ P V := ⟨a, fs, V, rfl, hσ, hm, hv, h⟩
theorem isMth {σ : AH} {a C : Addr} {nm : Str} {P : Addr → Prop} (h : ∃ x fs, Value.ref a = .ref x ∧ σ x = some (.inst C fs) ∧ nm ∉ fs.map (·.1) ∧ P x) : ∃ x fs, Value.ref a = .ref x ∧ σ x = some (.inst C fs) ∧ nm ∉ fs.map (·.1) ∧ P x := h
theorem nod_at {c : Cx} {σ : AH} {Q : Value → AH → Prop} {N : Addr} {nd : List Addr} {i : Nat} {a : Addr} (hN : σ N = some (.list (nd.map .ref))) (h : nd[i]? = some a) (hi : i < 1000) (q : Q (.ref a) σ) : (∃ T, GetT σ (.ref N) T) ∧ GI c (.ref N) (vi i) σ Q :=
  ⟨⟨_, .list hN⟩, gi_list hN (by lia) (by lia) (by rw [Int.toNat_natCast, List.getElem?_map, h]; rfl) q⟩
theorem row_at {c : Cx} {σ : AH} {Q : Value → AH → Prop} {A : Addr} {row : List (Option Int)} {i : Nat} (hA : σ A = some (.list (row.map vo))) (hi : i < row.length) (hl : row.length ≤ 1000) (q : Q (vo (row.getD i none)) σ) : (∃ T, GetT σ (.ref A) T) ∧ GI c (.ref A) (vi i) σ Q :=
  ⟨⟨_, .list hA⟩, gi_list hA (by lia) (by lia) (by rw [Int.toNat_natCast, List.getElem?_map, List.getD_eq_getElem?_getD, List.getElem?_eq_getElem hi]; rfl) q⟩
theorem nlt {a b : Nat} (h : decide ((a : Int) < (b : Nat)) = true) : a < b := Int.ofNat_lt.mp (of_decide_eq_true h)
theorem nle {a b : Nat} (h : decide ((a : Int) ≤ (b : Nat)) = true) : a ≤ b := Int.ofNat_le.mp (of_decide_eq_true h)
theorem nnlt {a b : Nat} (h : decide ((a : Int) < (b : Nat)) = false) : ¬ a < b := fun q => of_decide_eq_false h (Int.ofNat_lt.mpr q)
theorem nnle {a b : Nat} (h : decide ((a : Int) ≤ (b : Nat)) = false) : ¬ a ≤ b := fun q => of_decide_eq_false h (Int.ofNat_le.mpr q)
theorem nlt2 {a b : Nat} (h : decide ((a : Int) < 2 * (b : Nat)) = true) : a < 2 * b := nlt (b := 2 * b) h
theorem nnlt2 {a b : Nat} (h : decide ((a : Int) < 2 * (b : Nat)) = false) : ¬ a < 2 * b := nnlt (b := 2 * b) h
theorem gi_nat {c : Cx} {σ : AH} {Q : Value → AH → Prop} {A : Addr} {Vs : List Value} {i : Nat} {V : Value} (hA : σ A = some (.list Vs)) (hi : i ≤ 1000) (hV : Vs[i]? = some V) (q : Q V σ) : (∃ T, GetT σ (.ref A) T) ∧ GI c (.ref A) (vi i) σ Q :=
  ⟨⟨_, .list hA⟩, gi_list hA (Int.natCast_nonneg i) (Int.lt_of_le_of_lt (Int.ofNat_le.mpr hi) (by decide)) (by rw [Int.toNat_natCast]; exact hV) q⟩
theorem gi_last {c : Cx} {σ : AH} {Q : Value → AH → Prop} {A : Addr} {l : List Nat} {i : Nat} (hA : σ A = some (.list ((l ++ [i]).map fun x : Nat => vi x))) (q : Q (vi i) σ) : (∃ T, GetT σ (.ref A) T) ∧ GI c (.ref A) (vi (-1)) σ Q :=
  ⟨⟨_, .list hA⟩, gi_listneg (V := vi i) hA (by decide) (by simp; lia) (by decide) (by rw [show ((-1 : Int) + ((l ++ [i]).map (fun x : Nat => vi x)).length).toNat = l.length by simp; lia]; simp) q⟩
theorem si_nat {c : Cx} {σ : AH} {Q : AH → Prop} {A : Addr} {Vs : List Value} {i : Nat} {V : Value} (hA : σ A = some (.list Vs)) (h1 : i < Vs.length) (hs : Vs.length ≤ 1000) (h : Q (σ.set A (.list (Vs.set i V)))) : SI c (.ref A) (vi i) V σ Q :=
  si_list hA (Int.natCast_nonneg i) (Int.ofNat_lt.mpr h1) (Nat.lt_of_le_of_lt hs (by decide)) (by rw [Int.toNat_natCast]; exact h)
theorem si_row {c : Cx} {σ : AH} {Q : AH → Prop} {A : Addr} {row : List (Option Int)} {i : Nat} {v : Option Int} (hA : σ A = some (.list (row.map vo))) (h1 : i < row.length) (hs : row.length ≤ 1000) (h : Q (σ.set A (.list ((row.set i v).map vo)))) : SI c (.ref A) (vi i) (vo v) σ Q :=
  si_nat hA (by rw [List.length_map]; exact h1) (by rw [List.length_map]; exact hs) (by rw [← List.map_set]; exact h)
theorem si_rowI {c : Cx} {σ : AH} {Q : AH → Prop} {A : Addr} {row : List (Option Int)} {n : Int} {v : Option Int} (hA : σ A = some (.list (row.map vo))) (h1 : 1 ≤ n) (h2 : n ≤ row.length) (hs : row.length ≤ 1000) (h : Q (σ.set A (.list ((row.set (n - 1).toNat v).map vo)))) : SI c (.ref A) (vi (n - 1)) (vo v) σ Q :=
  si_list hA (by lia) (by rw [List.length_map]; lia) (by rw [List.length_map]; lia) (by rw [← List.map_set]; exact h)
theorem isGetI {c : Cx} {σ : AH} {Q : Value → AH → Prop} {O I : Value} (h : (∃ T, GetT σ O T) ∧ GI c O I σ Q) : (∃ T, GetT σ O T) ∧ GI c O I σ Q := h
theorem ev_subN {c : Cx} {μ : AM} {σ : AH} {value slice : Expr} {pos : Pos} {Q : Value → AH → Prop} (hs : ∀ o i, subscripted slice false o i = operate [o, i] (getItem o i))
    (h : EV c value μ σ fun O σ1 => EV c slice μ σ1 fun I σ2 => (∃ T, GetT σ2 O T) ∧ GI c O I σ2 Q) : EV c (.Subscript value slice pos) μ σ Q := ev_sub hs h
theorem isFpx {σ : AH} {a C : Addr} {at' : Str} {R : Value} {P : AH → Prop} (h : ∃ x fs fs', Value.ref a = .ref x ∧ σ x = some (.inst C fs) ∧ FPut at' R fs fs' ∧ P (σ.set x (.inst C fs'))) : ∃ x fs fs', Value.ref a = .ref x ∧ σ x = some (.inst C fs) ∧ FPut at' R fs fs' ∧ P (σ.set x (.inst C fs')) := h
theorem fpx {σ : AH} {a C : Addr} {at' : Str} {R : Value} {fs fs' : List (Str × Value)} {P : AH → Prop} (hσ : σ a = some (.inst C fs)) (hp : FPut at' R fs fs') (h : P (σ.set a (.inst C fs'))) : ∃ x fs fs', Value.ref a = .ref x ∧ σ x = some (.inst C fs) ∧ FPut at' R fs fs' ∧ P (σ.set x (.inst C fs')) := ⟨a, fs, fs', rfl, hσ, hp, h⟩
theorem isASA {c : Cx} {μ : AM} {σ : AH} {Q : AM → AH → Prop} {V : Value} {pos : Pos} {o : Expr} {at' : Str} (h : AS c (.Attribute o at' pos) V μ σ Q) : AS c (.Attribute o at' pos) V μ σ Q := h
theorem as_nameCP {c : Cx} {μ : AM} {σ : AH} {x : Str} {p : Pos} {V : Value} {Q : AM → AH → Prop} {μ' : AM} (ok : c.OK) (hne : c.env.locals ≠ c.L) (hk : c.env.kindOf x = some .local) (hp : Put x V μ μ') (h : Q μ' σ) : AS c (.Name x p) V μ σ Q := as_nameC ok hne hk hp h
theorem ti_nil {c : Cx} {μ : AM} {σ : AH} {Q : Bool → AH → Prop} (h : Q true σ) : TI c [] μ σ Q := h
theorem ti_one {c : Cx} {μ : AM} {σ : AH} {t : Expr} {Q : Bool → AH → Prop} (h : TR c t μ σ Q) : TI c [t] μ σ Q := h
theorem dict_at {c : Cx} {σ : AH} {Q : Value → AH → Prop} {D : Addr} {fs : List (Str × Value)} {x : Str} {V : Value} (hσ : σ D = some (.dict fs)) (hm : (x, V) ∈ fs) (q : Q V σ) : (∃ T, GetT σ (.ref D) T) ∧ GI c (.ref D) (.str x 0) σ Q := ⟨⟨_, .dict hσ⟩, gi_dict hσ hm q⟩
theorem sdict {c : Cx} {σ : AH} {Q : AH → Prop} {D : Addr} {fs fs' : List (Str × Value)} {x : Str} {V : Value} (hσ : σ D = some (.dict fs)) (hp : FPut x V fs fs') (h : Q (σ.set D (.dict fs'))) : SI c (.ref D) (.str x 0) V σ Q := si_dict hσ hp h
theorem isSI {c : Cx} {σ : AH} {Q : AH → Prop} {O I V : Value} (h : SI c O I V σ Q) : SI c O I V σ Q := h
theorem isPut1 {x : Str} {V : Value} {μ : AM} {P : AM → Prop} (h : ∃ μ', Put x V μ μ' ∧ P μ') : ∃ μ', Put x V μ μ' ∧ P μ' := h
theorem isPut2 {x y : Str} {V W : Value} {μ : AM} {P : AM → Prop} (h : ∃ μ1 μ2, Put x V μ μ1 ∧ Put y W μ1 μ2 ∧ P μ2) : ∃ μ1 μ2, Put x V μ μ1 ∧ Put y W μ1 μ2 ∧ P μ2 := h
section
variable {c : Cx} {μ : AM} {σ : AH} {Q : Flow → AM → AH → Prop}
theorem isRet {e : Option Expr} {p : Pos} (h : EX c (.Return e p) μ σ Q) : EX c (.Return e p) μ σ Q := h
theorem isIf {e : Expr} {a b : List Stmt} {p : Pos} (h : EX c (.If e a b p) μ σ Q) : EX c (.If e a b p) μ σ Q := h
theorem isAsgN {x : Str} {e : Expr} {p p' : Pos} (h : EX c (.Assign [.Name x p] e p') μ σ Q) : EX c (.Assign [.Name x p] e p') μ σ Q := h
theorem isAsgT {ts vs : List Expr} {k k' : Nat} {q q' p : Pos} (h : EX c (.Assign [.Tuple ts k q] (.Tuple vs k' q') p) μ σ Q) : EX c (.Assign [.Tuple ts k q] (.Tuple vs k' q') p) μ σ Q := h
theorem isAug {t : Expr} {op : Operator} {e : Expr} {p : Pos} (h : EX c (.AugAssign t op e p) μ σ Q) : EX c (.AugAssign t op e p) μ σ Q := h
theorem isExprS {e : Expr} {p : Pos} (h : EX c (.Expr e p) μ σ Q) : EX c (.Expr e p) μ σ Q := h
theorem isBrk {p : Pos} (h : EX c (.Break p) μ σ Q) : EX c (.Break p) μ σ Q := h
end
theorem ca_lenB {c : Cx} {σ : AH} {Q : Value → AH → Prop} {s : List UInt8} (hs : s.length ≤ 8) (h : Q (vi s.length) σ) : CA c (.builtin "len") [.bytes s.toArray 0] σ Q := ca_len_bytes (by simp; lia) (by simpa using h)
section
variable {c : Cx} {σ : AH} {Q : Value → AH → Prop}
theorem bo_div2 {i : Int} (h : Q (vi (i.fdiv 2)) σ) : BO c .FloorDiv (vi i) (vi 2) σ Q := bo_div (by decide) (PyProof.noPylong_small (by decide)) h
theorem bo_2mul {i : Int} (h : Q (vi (2 * i)) σ) : BO c .Mult (vi 2) (vi i) σ Q := bo_mul (.of_left (by decide +kernel)) h
theorem io_mul2 {i : Int} (h : Q (vi (i * 2)) σ) : IO c .Mult (vi i) (vi 2) σ Q := io_mul (.of_right (by decide +kernel)) h
/-- a for's turns, by what holds before each -/
theorem FT.inv {α : Type} {body : List Stmt} {te : AH → Prop} {Q : Flow → AM → AH → Prop} {f : α → TP} (I : List α → AM → AH → Prop) (hn : ∀ μ σ, I [] μ σ → te σ ∧ Q .next μ σ)
    (hc : ∀ a l μ σ (K : AM → AH → Prop), I (a :: l) μ σ → (∀ μ σ, I l μ σ → K μ σ) → f a μ σ fun μ1 σ1 => EXs c body μ1 σ1 (LoopGo Q K)) : ∀ l μ σ, I l μ σ → FT c body te (l.map f) μ σ Q
  | [], μ, σ, h => hn μ σ h
  | a :: l, μ, σ, h => hc a l μ σ _ h fun μ' σ' h' => FT.inv I hn hc l μ' σ' h'
theorem CT.inv {α : Type} {elt : Expr} {ifs : List Expr} {te : AH → Prop} {Q : List Value → AH → Prop} {f : α → TP} (I : List α → List Value → AM → AH → Prop) (hn : ∀ acc μ σ, I [] acc μ σ → te σ ∧ Q acc σ)
    (hc : ∀ a l acc μ σ (K : List Value → AM → AH → Prop), I (a :: l) acc μ σ → (∀ acc μ σ, I l acc μ σ → K acc μ σ) → f a μ σ fun μ1 σ1 => TI c ifs μ1 σ1 fun b σ2 => if b = true then EV c elt μ1 σ2 fun v σ3 => K (acc ++ [v]) μ1 σ3 else K acc μ1 σ2) : ∀ l acc μ σ, I l acc μ σ → CT c elt ifs te (l.map f) acc μ σ Q
  | [], acc, μ, σ, h => hn acc μ σ h
  | a :: l, acc, μ, σ, h => hc a l acc μ σ (fun acc μ σ => CT c elt ifs te (l.map f) acc μ σ Q) h fun acc' μ' σ' h' => CT.inv I hn hc l acc' μ' σ' h'
end
/-! ## heaps that hold less -/
noncomputable def Le (σ σ' : AH) : Prop := ∀ a o, σ a = some o → σ' a = some o
theorem Le.rfl' {σ : AH} : Le σ σ := fun _ _ e => e
theorem Le.trans {a b c : AH} (h : Le a b) (h' : Le b c) : Le a c := fun x o e => h' x o (h x o e)
theorem Le.new {σ : AH} {a : Addr} {o : AO} (h : σ a = none) : Le σ (σ.set a o) := fun b ob e => by
  rw [AH.set_ne (fun q => by rw [q, h] at e; cases e)]; exact e
section
variable {c : Cx} {μ : AM} {σ σ0 : AH}
theorem EV.drop {e : Expr} {Q : Value → AH → Prop} (hs : Le σ0 σ) (h : EV c e μ σ0 Q) : EV c e μ σ Q := fun Φ s E Q' S k => h Φ s E Q' (S.forget hs) k
theorem EVs.drop {e : List Expr} {Q : List Value → AH → Prop} (hs : Le σ0 σ) (h : EVs c e μ σ0 Q) : EVs c e μ σ Q := fun Φ s E Q' p S k => h Φ s E Q' p (S.forget hs) k
theorem TR.drop {e : Expr} {Q : Bool → AH → Prop} (hs : Le σ0 σ) (h : TR c e μ σ0 Q) : TR c e μ σ Q := fun Φ s E Q' S k => h Φ s E Q' (S.forget hs) k
theorem EX.drop {e : Stmt} {Q : Flow → AM → AH → Prop} (hs : Le σ0 σ) (h : EX c e μ σ0 Q) : EX c e μ σ Q := fun Φ s E Q' S k => h Φ s E Q' (S.forget hs) k
theorem EXs.drop {e : List Stmt} {Q : Flow → AM → AH → Prop} (hs : Le σ0 σ) (h : EXs c e μ σ0 Q) : EXs c e μ σ Q := fun Φ s E Q' S k => h Φ s E Q' (S.forget hs) k
theorem CA.drop {f : Value} {as : List Value} {Q : Value → AH → Prop} (hs : Le σ0 σ) (h : CA c f as σ0 Q) : CA c f as σ Q := fun v ev Φ μ s E Q' S k => h v ev Φ μ s E Q' (S.forget hs) k
theorem CO.drop {op : CmpOp} {A B : Value} {Q : Value → AH → Prop} (hs : Le σ0 σ) (h : CO c op A B σ0 Q) : CO c op A B σ Q := fun u v hu hv Φ μ s E Q' S k => h u v hu hv Φ μ s E Q' (S.forget hs) k
theorem FC.drop {g : Gl} {n : Nat} {f : Value} {as : List Value} {Q : Value → AH → Prop} (hs : Le σ0 σ) (h : FC g n f as σ0 Q) : FC g n f as σ Q := fun c v ok hg hn ev Φ μ s R S k => h c v ok hg hn ev Φ μ s R (S.forget hs) k
/-- what comes out may hold more than is promised -/
theorem EV.less {e : Expr} {Q : Value → AH → Prop} (h : EV c e μ σ fun v σ' => ∃ σ2, Le σ2 σ' ∧ Q v σ2) : EV c e μ σ Q := fun Φ s E Q' S k => h Φ s E Q' S fun v σ' s' ⟨σ2, hs, hq⟩ S' => k v σ2 s' hq (S'.forget hs)
theorem TR.less {e : Expr} {Q : Bool → AH → Prop} (h : TR c e μ σ fun v σ' => ∃ σ2, Le σ2 σ' ∧ Q v σ2) : TR c e μ σ Q := fun Φ s E Q' S k => h Φ s E Q' S fun v σ' s' ⟨σ2, hs, hq⟩ S' => k v σ2 s' hq (S'.forget hs)
theorem CO.less {op : CmpOp} {A B : Value} {Q : Value → AH → Prop} (h : CO c op A B σ fun v σ' => ∃ σ2, Le σ2 σ' ∧ Q v σ2) : CO c op A B σ Q := fun u v hu hv Φ μ s E Q' S k => h u v hu hv Φ μ s E Q' S fun v σ' s' ⟨σ2, hs, hq⟩ S' => k v σ2 s' hq (S'.forget hs)
theorem FC.less {g : Gl} {n : Nat} {f : Value} {as : List Value} {Q : Value → AH → Prop} (h : FC g n f as σ fun v σ' => ∃ σ2, Le σ2 σ' ∧ Q v σ2) : FC g n f as σ Q :=
  fun c vals ok hg hr hv Φ μ s R S k => h c vals ok hg hr hv Φ μ s R S fun v σ' s' ⟨σ2, hs, hq⟩ S' => k v σ2 s' hq (S'.forget hs)
end
/-! ## an equation of the goal's own variables, used in the goal alone -/
@[elab_as_elim] theorem at1 {α : Type} {x a : α} {G : α → Prop} (e : x = a) (h : G a) : G x := e ▸ h
@[elab_as_elim] theorem at2 {α β : Type} {x a : α} {y b : β} {G : α → β → Prop} (e : x = a) (f : y = b) (h : G a b) : G x y := e ▸ f ▸ h
@[elab_as_elim] theorem at3 {α β γ : Type} {x a : α} {y b : β} {z c : γ} {G : α → β → γ → Prop} (e : x = a) (f : y = b) (g : z = c) (h : G a b c) : G x y z := e ▸ f ▸ g ▸ h
/-! ## the keys of a table -/
inductive Key where
  | b (x : Bool)
  | i (n : Int)
  | y (s : List UInt8)
  deriving DecidableEq
noncomputable def Key.v : Key → Value
  | .b x => .bool x
  | .i n => vi n
  | .y s => .bytes s.toArray 0
noncomputable def kv : Option Key → Value
  | none => .none
  | some k => k.v
noncomputable def Key.isInt : Key → Bool
  | .i _ => true
  | _ => false
noncomputable def Key.ty : Key → Int
  | .b _ => 1
  | .i _ => 3
  | .y _ => 4
noncomputable def kty : Option Key → Int
  | none => 0
  | some k => k.ty
noncomputable def Key.ok : Key → Prop
  | .b _ => True
  | .i n => -1000 ≤ n ∧ n ≤ 1000
  | .y s => s.length ≤ 8
theorem handedIn_key (k : Key) : handedIn k.v = true := by cases k <;> rfl
theorem handedIn_kv (k : Option Key) : handedIn (kv k) = true := by cases k with | none => rfl | some k => exact handedIn_key k
theorem handedIn_vo (k : Option Int) : handedIn (vo k) = true := by cases k <;> rfl
noncomputable def Key.isB : Key → Bool
  | .b _ => true
  | _ => false
noncomputable def Key.isY : Key → Bool
  | .y _ => true
  | _ => false
section
variable {P : Params}
theorem kt1 : kitOne (frag P) (.type "int") (.type "int") = some true := by kernel_rfl
theorem kt2 : kitOne (frag P) (.type "bool") (.type "int") = some true := by kernel_rfl
theorem kt3 : kitOne (frag P) (.type "bytes") (.type "int") = some false := by kernel_rfl
theorem kt4 : kitOne (frag P) (.type "int") (.type "bool") = some false := by kernel_rfl
theorem kt5 : kitOne (frag P) (.type "bool") (.type "bool") = some true := by kernel_rfl
theorem kt6 : kitOne (frag P) (.type "bytes") (.type "bool") = some false := by kernel_rfl
theorem kt7 : kitOne (frag P) (.type "int") (.type "bytes") = some false := by kernel_rfl
theorem kt8 : kitOne (frag P) (.type "bool") (.type "bytes") = some false := by kernel_rfl
theorem kt9 : kitOne (frag P) (.type "bytes") (.type "bytes") = some true := by kernel_rfl
end
section
variable {c : Cx} {μ : AM} {σ : AH} {Q : Value → AH → Prop}
theorem isi_int {k : Key} (ok : c.OK) (hK : KOK c) (h : Q (.bool (!k.isY)) σ) : CA c (.builtin "isinstance") [k.v, .type "int"] σ Q := by
  cases k
  · exact ca_isiH ok hK rfl kt2 rfl (fun _ => er_type) h
  · exact ca_isiH ok hK rfl kt1 rfl (fun _ => er_type) h
  · exact ca_isiH ok hK rfl kt3 rfl (fun _ => er_type) h
theorem isi_bool {k : Key} (ok : c.OK) (hK : KOK c) (h : Q (.bool k.isB) σ) : CA c (.builtin "isinstance") [k.v, .type "bool"] σ Q := by
  cases k
  · exact ca_isiH ok hK rfl kt5 rfl (fun _ => er_type) h
  · exact ca_isiH ok hK rfl kt4 rfl (fun _ => er_type) h
  · exact ca_isiH ok hK rfl kt6 rfl (fun _ => er_type) h
theorem isi_bytes {k : Key} (ok : c.OK) (hK : KOK c) (h : Q (.bool k.isY) σ) : CA c (.builtin "isinstance") [k.v, .type "bytes"] σ Q := by
  cases k
  · exact ca_isiH ok hK rfl kt8 rfl (fun _ => er_type) h
  · exact ca_isiH ok hK rfl kt7 rfl (fun _ => er_type) h
  · exact ca_isiH ok hK rfl kt9 rfl (fun _ => er_type) h
theorem key_is_none {k : Key} (h : Q (.bool false) σ) : CO c .Is k.v .none σ Q := by
  cases k <;> exact co_is h
theorem vo_isnt_none {k : Option Int} (h : Q (.bool k.isSome) σ) : CO c .IsNot (vo k) .none σ Q := by
  cases k <;> exact co_isNot h
theorem kv_is_none {k : Option Key} (h : Q (.bool k.isNone) σ) : CO c .Is (kv k) .none σ Q := by
  rcases k with _ | k
  · exact co_is h
  · exact key_is_none h
theorem none_is_none (h : Q (.bool true) σ) : CO c .Is .none .none σ Q := co_is h
theorem none_isnt_none (h : Q (.bool false) σ) : CO c .IsNot .none .none σ Q := co_isNot h
end
theorem handedIn_ref (a : Addr) : handedIn (.ref a) = true := rfl
theorem handedIn_vi (i : Int) : handedIn (vi i) = true := rfl
theorem handedIn_none : handedIn .none = true := rfl
theorem AH.set_at {σ : AH} {a b : Addr} {o ob : AO} (hne : a ≠ b) (h : σ a = some ob) : (σ.set b o) a = some ob := (AH.set_ne hne).trans h
theorem ca_lenR {c : Cx} {σ : AH} {Q : Value → AH → Prop} {N : Addr} {nd : List Addr} (h : σ N = some (.list (nd.map .ref))) (hl : nd.length ≤ 1000) (hq : Q (vi nd.length) σ) : CA c (.builtin "len") [.ref N] σ Q := ca_len h (by simp; lia) (by simpa using hq)
theorem ca_lenO {c : Cx} {σ : AH} {Q : Value → AH → Prop} {N : Addr} {row : List (Option Int)} (h : σ N = some (.list (row.map vo))) (hl : row.length ≤ 1000) (hq : Q (vi row.length) σ) : CA c (.builtin "len") [.ref N] σ Q := ca_len h (by simp; lia) (by simpa using hq)
theorem ca_lenK {c : Cx} {σ : AH} {Q : Value → AH → Prop} {N : Addr} {Vs : List Value} (h : σ N = some (.list Vs)) (hl : Vs.length ≤ 1000) (hq : Q (vi Vs.length) σ) : CA c (.builtin "len") [.ref N] σ Q := ca_len h (by lia) hq
noncomputable abbrev HK (g : Gl) : Prop := g.K = frag g.w.params
/-! guards that fail at no cost -/
section
variable {c : Cx} {μ : AM} {σ : AH}
theorem isNm {Q : Value → AH → Prop} {pos : Pos} (x : Str) (h : EV c (.Name x pos) μ σ Q) : EV c (.Name x pos) μ σ Q := h
theorem isAtN {Q : Value → AH → Prop} {pos p : Pos} {o : Str} (x : Str) (h : EV c (.Attribute (.Name o p) x pos) μ σ Q) : EV c (.Attribute (.Name o p) x pos) μ σ Q := h
theorem isAt {Q : Value → AH → Prop} {pos : Pos} {o : Expr} (x : Str) (h : EV c (.Attribute o x pos) μ σ Q) : EV c (.Attribute o x pos) μ σ Q := h
theorem isMc {Q : Value → AH → Prop} {pos p : Pos} {o : Expr} {as : List Expr} (x : Str) (h : EV c (.Call (.Attribute o x p) as [] pos) μ σ Q) : EV c (.Call (.Attribute o x p) as [] pos) μ σ Q := h
theorem isAsN {Q : AM → AH → Prop} {V : Value} {pos p : Pos} {o : Str} (x : Str) (h : AS c (.Attribute (.Name o p) x pos) V μ σ Q) : AS c (.Attribute (.Name o p) x pos) V μ σ Q := h
theorem isAsA {Q : AM → AH → Prop} {V : Value} {pos : Pos} {o : Expr} (x : Str) (h : AS c (.Attribute o x pos) V μ σ Q) : AS c (.Attribute o x pos) V μ σ Q := h
end
theorem lenS {k : Nat} {l : List Value} (e : l.length = k + 1) : ∃ a l', l = a :: l' ∧ l'.length = k := by
  cases l with
  | nil => cases e
  | cons a l => exact ⟨a, l, rfl, Nat.succ.inj e⟩
theorem len0 {l : List Value} (e : l.length = 0) : l = [] := List.eq_nil_of_length_eq_zero e
theorem len1 {l : List Value} (e : l.length = 1) : ∃ a, l = [a] := by
  obtain ⟨a, l, rfl, e'⟩ := lenS e; rw [len0 e']; exact ⟨_, rfl⟩
theorem len2 {l : List Value} (e : l.length = 2) : ∃ a b, l = [a, b] := by
  obtain ⟨a, l, rfl, e'⟩ := lenS e; obtain ⟨b, rfl⟩ := len1 e'; exact ⟨_, _, rfl⟩
theorem len3 {l : List Value} (e : l.length = 3) : ∃ a b c, l = [a, b, c] := by
  obtain ⟨a, l, rfl, e'⟩ := lenS e; obtain ⟨b, c, rfl⟩ := len2 e'; exact ⟨_, _, _, rfl⟩
theorem len4 {l : List Value} (e : l.length = 4) : ∃ a b c d, l = [a, b, c, d] := by
  obtain ⟨a, l, rfl, e'⟩ := lenS e; obtain ⟨b, c, d, rfl⟩ := len3 e'; exact ⟨_, _, _, _, rfl⟩
theorem max_cast (p : Nat) : max (1 : Int) (2 * (p : Nat)) = ((max 1 (2 * p) : Nat) : Int) := by
  rcases Nat.eq_zero_or_pos p with h | h
  · subst h; rfl
  · have q : 1 ≤ 2 * p := Nat.le_trans h (Nat.le_mul_of_pos_left p Nat.two_pos)
    have q2 : (1 : Int) ≤ 2 * (p : Nat) := Int.ofNat_le.mpr q
    rw [Nat.max_eq_right q, Int.max_eq_right q2]; rfl
theorem sub_max_lt {m p : Nat} (h : p < m) : m - max 1 (2 * p) < m - p := by
  refine Nat.sub_lt_sub_left h ?_
  rcases Nat.eq_zero_or_pos p with q | q
  · subst q; exact Nat.zero_lt_one
  · exact Nat.lt_of_lt_of_le (by rw [Nat.two_mul]; exact Nat.lt_add_of_pos_left q) (Nat.le_max_right ..)
theorem cast_sub3 {a b c : Nat} (h : c ≤ a + b + 1) : ((a + b + 1 : Nat) : Int) - (c : Nat) = ((a + b + 1 - c : Nat) : Int) := (Int.ofNat_sub h).symm
theorem sub_step {l j : Nat} (h : j + 1 ≤ l) : l + 1 - (j + 2) < l + 1 - (j + 1) := Nat.sub_lt_sub_left (Nat.lt_succ_of_le h) (Nat.lt_succ_self _)
theorem sub_more {a r : Nat} (h : r + 1 ≤ a) : a - r = a - (r + 1) + 1 := by
  rw [← Nat.sub_sub, Nat.sub_add_cancel (Nat.sub_pos_of_lt h)]
theorem toNat_pred {n : Int} (h : 1 ≤ n) : n = ((n - 1).toNat : Int) + 1 := by
  rw [Int.toNat_of_nonneg (Int.sub_nonneg_of_le h), Int.sub_add_cancel]
theorem small64 {n : Nat} (h : n ≤ 1000) : (((n + 1 : Nat) : Int)).natAbs < 2 ^ 64 := Nat.lt_of_le_of_lt (Nat.succ_le_succ h) (by decide)
theorem bitAnd_range (x : Int) {y : Int} (hy : 0 ≤ y) : 0 ≤ Builtin.bitAnd x y ∧ Builtin.bitAnd x y ≤ y := by
  unfold Builtin.bitAnd
  rw [decide_eq_true hy]
  by_cases hx : 0 ≤ x
  · rw [decide_eq_true hx]
    dsimp only
    have := @Nat.and_le_right x.toNat y.toNat
    lia -abstractProof
  · rw [decide_eq_false hx]
    dsimp only
    have := @Nat.and_le_left y.toNat (Builtin.bitNot x).toNat
    lia -abstractProof
noncomputable def strStep (f : Int) (b : UInt8) : Int := Builtin.bitAnd (Builtin.bitXor f (f * 2 ^ 5 + f.fdiv (2 ^ 2) + b.toNat)) 4294967295
noncomputable def strH (s : List UInt8) : Int := s.reverse.foldl strStep (Builtin.bitAnd s.length 4294967295)

/-- halvings of a number until nothing is left -/
noncomputable def lg2 (n : Nat) : Nat := if n = 0 then 0 else n.log2 + 1
theorem lg2_zero : lg2 0 = 0 := rfl
theorem lg2_pos {n : Nat} (h : n ≠ 0) : lg2 n = lg2 (n / 2) + 1 := by
  unfold lg2
  rw [if_neg h, Nat.log2_def]
  by_cases h2 : 2 ≤ n
  · rw [if_pos h2, if_neg (Nat.ne_of_gt (Nat.div_pos h2 Nat.two_pos))]
  · rw [if_neg h2, Nat.div_eq_of_lt (Nat.lt_of_not_le h2), if_pos rfl]
theorem lg2_le (n k : Nat) (h : n < 2 ^ k) : lg2 n ≤ k := by
  unfold lg2
  by_cases h0 : n = 0
  · rw [if_pos h0]; exact Nat.zero_le _
  · rw [if_neg h0]; exact (Nat.log2_lt h0).2 h
theorem lg2_gt (n k : Nat) (h : 2 ^ k ≤ n) : k < lg2 n := by
  unfold lg2
  have h0 : n ≠ 0 := Nat.ne_of_gt (Nat.lt_of_lt_of_le (Nat.two_pow_pos k) h)
  rw [if_neg h0]; exact Nat.lt_succ_of_le ((Nat.le_log2 h0).2 h)
noncomputable def clog (n : Nat) : Nat := lg2 (n - 1)

noncomputable def aidx : Key → Int
  | .i n => n
  | _ => -1

noncomputable def csGo (wanted : Int) : List Int → Int → Int → Int → Int → Int × Int
  | [], _, used, size, _ => (size, used)
  | c :: cs, g, used, size, power =>
    if wanted ≤ power.fdiv 2 then (size, used)
    else
      let g' := if 0 < c then g + c else g
      let big := decide (0 < c) && decide (power.fdiv 2 < g')
      let used' := if big = true then g' else used
      let size' := if big = true then power else size
      if g' = wanted then (size', used') else csGo wanted cs g' used' size' (power * 2)

noncomputable def homeI (n : Nat) : Key → Int
  | .b x => (if x = true then 1 else 0 : Int).fmod n
  | .i m => m.fmod (max 1 ((n : Int) - 1))
  | .y s => (strH s).fmod n
noncomputable def Pow (n : Nat) : Prop := n = 1 ∨ n = 2 ∨ n = 4 ∨ n = 8 ∨ n = 16
theorem Pow.pos {n : Nat} (h : Pow n) : 0 < n := by unfold Pow at h; lia -abstractProof
theorem fmod_range (a : Int) {b : Int} (h : 0 < b) : 0 ≤ a.fmod b ∧ a.fmod b < b := ⟨Int.fmod_nonneg_of_pos a h, Int.fmod_lt_of_pos a h⟩
theorem homeI_range {n : Nat} (h : 0 < n) (k : Key) : 0 ≤ homeI n k ∧ homeI n k < n := by
  cases k with
  | b x => exact fmod_range _ (by lia -abstractProof)
  | i m =>
    have := fmod_range m (b := max 1 ((n : Int) - 1)) (by lia -abstractProof)
    refine ⟨this.1, ?_⟩
    have h2 := this.2
    by_cases h1 : n = 1
    · subst h1; exact (fmod_range m (b := 1) (by decide)).2
    · have : max 1 ((n : Int) - 1) = n - 1 := by lia -abstractProof
      rw [this] at h2; show m.fmod (max 1 ((n : Int) - 1)) < n; rw [this]; lia -abstractProof
  | y s => exact fmod_range _ (by lia -abstractProof)
theorem bitAnd_zero (x : Int) : Builtin.bitAnd x 0 = 0 := by
  have := bitAnd_range x (y := 0) (by lia -abstractProof); lia -abstractProof
theorem bitAnd_pow {n : Nat} (h : Pow n) (x : Int) : Builtin.bitAnd x ((n : Int) - 1) = x.fmod n := by
  rw [Int.fmod_eq_emod_of_nonneg x (by lia -abstractProof)]
  rcases h with rfl | rfl | rfl | rfl | rfl
  · show Builtin.bitAnd x 0 = _; rw [bitAnd_zero]; simp
  · exact bitAnd_m1 x
  · exact bitAnd_m2 x
  · exact bitAnd_m3 x
  · exact bitAnd_m4 x
theorem bitOr_pow {n : Nat} (h : Pow n) : Builtin.bitOr ((n : Int) - 1) 1 = max 1 ((n : Int) - 1) := by
  rcases h with rfl | rfl | rfl | rfl | rfl <;> decide +kernel
noncomputable def bump (cs : List Int) (i : Nat) : List Int := cs.set i (cs.getD i 0 + 1)
structure Lot where
  row : List (Option Int)
  keys : List (Option Key)
  worth : List (Option Int)
  found : Nat

noncomputable abbrev nodeF (k : Option Key) (v : Option Int) (x : Int) : List (Str × Value) := [(Str.ofString "key", kv k), (Str.ofString "value", vo v), (Str.ofString "next", vi x)]
noncomputable abbrev tabF (A N : Addr) (sz lg : Int) (fr : Int) : List (Str × Value) := [(Str.ofString "number", vi 1), (Str.ofString "mark", vi 0), (Str.ofString "size", vi sz), (Str.ofString "meta", .none), (Str.ofString "flags", vi 0), (Str.ofString "weak", .bytes #[] 0),
  (Str.ofString "array", .ref A), (Str.ofString "nodes", .ref N), (Str.ofString "log_nodes", vi lg), (Str.ofString "free", vi fr)]

noncomputable def tabNames : List Str := [Str.ofString "number", Str.ofString "mark", Str.ofString "size", Str.ofString "meta", Str.ofString "flags", Str.ofString "weak", Str.ofString "array", Str.ofString "nodes", Str.ofString "log_nodes", Str.ofString "free"]
noncomputable def nodeNames : List Str := [Str.ofString "key", Str.ofString "value", Str.ofString "next"]
theorem mthT {σ : AH} {a : Addr} {nm : Str} {A N : Addr} {sz lg fr : Int} {P : Addr → Prop} (hσ : σ a = some (.inst 408 (tabF A N sz lg fr))) (hn : nm ∉ tabNames) (h : P a) : ∃ x fs, Value.ref a = .ref x ∧ σ x = some (.inst 408 fs) ∧ nm ∉ fs.map (·.1) ∧ P x := ⟨a, _, rfl, hσ, hn, h⟩
theorem mthN {σ : AH} {a : Addr} {nm : Str} {k : Option Key} {v : Option Int} {y : Int} {P : Addr → Prop} (hσ : σ a = some (.inst 177 (nodeF k v y))) (hn : nm ∉ nodeNames) (h : P a) : ∃ x fs, Value.ref a = .ref x ∧ σ x = some (.inst 177 fs) ∧ nm ∉ fs.map (·.1) ∧ P x := ⟨a, _, rfl, hσ, hn, h⟩
noncomputable def Lot.kA (L : Lot) (i : Nat) : Option Key := L.keys.getD i none
noncomputable def Lot.wA (L : Lot) (i : Nat) : Option Int := L.worth.getD i none
noncomputable def xA (nxt : List Int) (i : Nat) : Int := nxt.getD i 0

structure TabAt (σ : AH) (t A N : Addr) (nd : List Addr) (L : Lot) (nxt : List Int) (sz lg : Int) : Prop where
  inst : σ t = some (.inst 408 (tabF A N sz lg L.found))
  arr : σ A = some (.list (L.row.map vo))
  nod : σ N = some (.list (nd.map .ref))
  node : ∀ i a, nd[i]? = some a → σ a = some (.inst 177 (nodeF (L.kA i) (L.wA i) (xA nxt i)))
  lk : L.keys.length = nd.length
  lw : L.worth.length = nd.length
  ln : nxt.length = nd.length
  nodup : nd.Nodup
  aN : A ≠ N
noncomputable def Same (F : List Addr) (σ σ' : AH) : Prop := ∀ a, a ∉ F → σ' a = σ a
theorem Same.rfl' {F : List Addr} {σ : AH} : Same F σ σ := fun _ _ => rfl
theorem Same.trans {F : List Addr} {a b c : AH} (h : Same F a b) (h' : Same F b c) : Same F a c := fun x hx => (h' x hx).trans (h x hx)
theorem Same.set {F : List Addr} {σ : AH} {a : Addr} {o : AO} (h : a ∈ F) : Same F σ (σ.set a o) := fun x hx => AH.set_ne fun e => hx (e ▸ h)
theorem Same.more {F F' : List Addr} {σ σ' : AH} (h : Same F σ σ') (hs : ∀ a ∈ F, a ∈ F') : Same F' σ σ' := fun a ha => h a fun h' => ha (hs a h')
theorem AH.set_set {σ : AH} {a : Addr} {o o' : AO} : (σ.set a o).set a o' = σ.set a o' := by
  funext b; unfold AH.set; by_cases h : b = a <;> simp [h]
theorem AH.set_same {σ : AH} {a : Addr} {o : AO} (h : σ a = some o) : σ.set a o = σ := by
  funext b; unfold AH.set; by_cases hb : b = a
  · subst hb; rw [if_pos rfl, h]
  · rw [if_neg hb]

section
variable {σ : AH} {t A N : Addr} {nd : List Addr} {L : Lot} {nxt : List Int} {sz lg : Int}
theorem TabAt.ne_t (H : TabAt σ t A N nd L nxt sz lg) {i : Nat} {a : Addr} (h : nd[i]? = some a) : a ≠ t := fun e => by
  have h1 := H.node i a h
  rw [e, H.inst] at h1
  cases h1
theorem TabAt.ne_A (H : TabAt σ t A N nd L nxt sz lg) {i : Nat} {a : Addr} (h : nd[i]? = some a) : a ≠ A := fun e => by
  have h1 := H.node i a h
  rw [e, H.arr] at h1
  cases h1
theorem TabAt.ne_N (H : TabAt σ t A N nd L nxt sz lg) {i : Nat} {a : Addr} (h : nd[i]? = some a) : a ≠ N := fun e => by
  have h1 := H.node i a h
  rw [e, H.nod] at h1
  cases h1
theorem TabAt.tA (H : TabAt σ t A N nd L nxt sz lg) : A ≠ t := fun e => by
  have h1 := H.arr
  rw [e, H.inst] at h1; cases h1
theorem TabAt.tN (H : TabAt σ t A N nd L nxt sz lg) : N ≠ t := fun e => by
  have h1 := H.nod
  rw [e, H.inst] at h1; cases h1
theorem TabAt.setT (H : TabAt σ t A N nd L nxt sz lg) {sz' lg' : Int} {fr : Nat} : TabAt (σ.set t (.inst 408 (tabF A N sz' lg' fr))) t A N nd { L with found := fr } nxt sz' lg' :=
  ⟨AH.set_self .., (AH.set_ne H.tA).trans H.arr, (AH.set_ne H.tN).trans H.nod, fun i a h => (AH.set_ne (H.ne_t h)).trans (H.node i a h), H.lk, H.lw, H.ln, H.nodup, H.aN⟩
theorem nd_inj {nd : List Addr} (h : nd.Nodup) {i j : Nat} {a : Addr} (hi : nd[i]? = some a) (hj : nd[j]? = some a) : i = j := by
  have h1 := (List.getElem?_eq_some_iff.mp hi)
  have h2 := (List.getElem?_eq_some_iff.mp hj)
  obtain ⟨a1, e1⟩ := h1; obtain ⟨a2, e2⟩ := h2
  have hp := List.pairwise_iff_getElem.mp h
  rcases Nat.lt_trichotomy i j with hlt | e | hlt
  · exact absurd (e1.trans e2.symm) (hp i j a1 a2 hlt)
  · exact e
  · exact absurd (e2.trans e1.symm) (hp j i a2 a1 hlt)
theorem getD_set_self {α : Type} {l : List α} {i : Nat} {v d : α} (h : i < l.length) : (l.set i v).getD i d = v := by
  rw [List.getD_eq_getElem?_getD, List.getElem?_set]; simp [h]
theorem getD_set_ne {α : Type} {l : List α} {i j : Nat} {v d : α} (h : i ≠ j) : (l.set i v).getD j d = l.getD j d := by
  rw [List.getD_eq_getElem?_getD, List.getElem?_set, if_neg h, List.getD_eq_getElem?_getD]
theorem TabAt.setN (H : TabAt σ t A N nd L nxt sz lg) {i : Nat} {a : Addr} (h : nd[i]? = some a) {keys' : List (Option Key)} {worth' : List (Option Int)} {nxt' : List Int} {k : Option Key} {v : Option Int} {x : Int}
    (hk : keys'.length = nd.length) (hw : worth'.length = nd.length) (hn : nxt'.length = nd.length) (e1 : keys'.getD i none = k) (e2 : worth'.getD i none = v) (e3 : nxt'.getD i 0 = x)
    (o : ∀ j, j ≠ i → keys'.getD j none = L.kA j ∧ worth'.getD j none = L.wA j ∧ nxt'.getD j 0 = xA nxt j) :
    TabAt (σ.set a (.inst 177 (nodeF k v x))) t A N nd { L with keys := keys', worth := worth' } nxt' sz lg := by
  refine ⟨(AH.set_ne (H.ne_t h).symm).trans H.inst, (AH.set_ne (H.ne_A h).symm).trans H.arr, (AH.set_ne (H.ne_N h).symm).trans H.nod, fun j b hj => ?_, hk, hw, hn, H.nodup, H.aN⟩
  by_cases e : j = i
  · subst e
    rw [h] at hj; cases hj
    rw [AH.set_self]
    show some (AO.inst 177 (nodeF k v x)) = some (AO.inst 177 (nodeF (keys'.getD j none) (worth'.getD j none) (nxt'.getD j 0)))
    rw [e1, e2, e3]
  · rw [AH.set_ne (fun q : b = a => e (nd_inj H.nodup hj (by rw [q]; exact h)))]
    obtain ⟨a1, a2, a3⟩ := o j e
    show _ = some (AO.inst 177 (nodeF (keys'.getD j none) (worth'.getD j none) (nxt'.getD j 0)))
    rw [a1, a2, a3]
    exact H.node j b hj
theorem TabAt.lt (H : TabAt σ t A N nd L nxt sz lg) {i : Nat} {a : Addr} (h : nd[i]? = some a) : i < L.keys.length ∧ i < L.worth.length ∧ i < nxt.length := by
  have := (List.getElem?_eq_some_iff.mp h).1
  rw [H.lk, H.lw, H.ln]; exact ⟨this, this, this⟩
theorem TabAt.setK (H : TabAt σ t A N nd L nxt sz lg) {i : Nat} {a : Addr} (h : nd[i]? = some a) (k : Option Key) : TabAt (σ.set a (.inst 177 (nodeF k (L.wA i) (xA nxt i)))) t A N nd { L with keys := L.keys.set i k } nxt sz lg :=
  H.setN h (by simp [H.lk]) H.lw H.ln (getD_set_self (H.lt h).1) rfl rfl fun j hj => ⟨getD_set_ne (Ne.symm hj), rfl, rfl⟩
theorem TabAt.setW (H : TabAt σ t A N nd L nxt sz lg) {i : Nat} {a : Addr} (h : nd[i]? = some a) (v : Option Int) : TabAt (σ.set a (.inst 177 (nodeF (L.kA i) v (xA nxt i)))) t A N nd { L with worth := L.worth.set i v } nxt sz lg :=
  H.setN h H.lk (by simp [H.lw]) H.ln rfl (getD_set_self (H.lt h).2.1) rfl fun j hj => ⟨rfl, getD_set_ne (Ne.symm hj), rfl⟩
theorem TabAt.setX (H : TabAt σ t A N nd L nxt sz lg) {i : Nat} {a : Addr} (h : nd[i]? = some a) (x : Int) : TabAt (σ.set a (.inst 177 (nodeF (L.kA i) (L.wA i) x))) t A N nd L (nxt.set i x) sz lg :=
  H.setN (keys' := L.keys) (worth' := L.worth) h H.lk H.lw (by simp [H.ln]) rfl rfl (getD_set_self (H.lt h).2.2) fun j hj => ⟨rfl, rfl, getD_set_ne (Ne.symm hj)⟩
theorem TabAt.setR (H : TabAt σ t A N nd L nxt sz lg) (row' : List (Option Int)) : TabAt (σ.set A (.list (row'.map vo))) t A N nd { L with row := row' } nxt sz lg :=
  ⟨(AH.set_ne H.tA.symm).trans H.inst, AH.set_self .., (AH.set_ne H.aN.symm).trans H.nod, fun i a h => (AH.set_ne (H.ne_A h)).trans (H.node i a h), H.lk, H.lw, H.ln, H.nodup, H.aN⟩
end

/-! ## the chains -/
noncomputable def Path (nxt : List Int) : Int → List Nat → Prop
  | x, [] => x < 0
  | x, i :: l => x = i ∧ i < nxt.length ∧ Path nxt (xA nxt i) l
noncomputable def pfind (L : Lot) (k : Key) : List Nat → Int
  | [] => -1
  | i :: l => if L.kA i = some k then i else pfind L k l
theorem pfind_eq {L : Lot} {k : Key} {i : Nat} {l : List Nat} (h : L.kA i = some k) : pfind L k (i :: l) = i := if_pos h
theorem pfind_ne {L : Lot} {k : Key} {i : Nat} {l : List Nat} (h : ¬ L.kA i = some k) : pfind L k (i :: l) = pfind L k l := if_neg h
noncomputable def freeP (L : Lot) : Nat → Option Nat
  | 0 => none
  | m + 1 => if L.kA m = none then some m else freeP L m
theorem freeP_lt {L : Lot} : ∀ {m i : Nat}, freeP L m = some i → i < m
  | m + 1, i, h => by
    unfold freeP at h
    split at h
    · cases h; lia -abstractProof
    · have := freeP_lt h; lia -abstractProof
theorem pfind_range {L : Lot} {k : Key} {nxt : List Int} : ∀ {l : List Nat} {x : Int}, Path nxt x l → -1 ≤ pfind L k l ∧ (0 < nxt.length → pfind L k l < nxt.length)
  | [], x, _ => ⟨by show (-1 : Int) ≤ -1; lia -abstractProof, fun h => by show (-1 : Int) < _; lia -abstractProof⟩
  | i :: l, x, h => by
    obtain ⟨_, hi, hp⟩ := h
    by_cases hk : L.kA i = some k
    · rw [pfind_eq hk]; lia -abstractProof
    · rw [pfind_ne hk]; exact pfind_range hp
theorem freeP_none {L : Lot} : ∀ {m i : Nat}, freeP L m = some i → L.kA i = none
  | m + 1, i, h => by
    unfold freeP at h
    split at h
    · rename_i hk; cases h; exact hk
    · exact freeP_none h
/-- where a key stands among the nodes, by its chain -/
noncomputable def atN (nd : List Addr) (L : Lot) (k : Key) (l : List Nat) : Int := if nd.length = 0 then -1 else pfind L k l
noncomputable def lookN (L : Lot) (p : Int) : Option Int := if p < 0 then none else L.wA p.toNat
theorem atN_range {nd : List Addr} {L : Lot} {k : Key} {nxt : List Int} {l : List Nat} (hln : nxt.length = nd.length) (hl : nd.length ≠ 0 → Path nxt (homeI nd.length k) l) : -1 ≤ atN nd L k l ∧ (0 ≤ atN nd L k l → atN nd L k l < nd.length) := by
  unfold atN
  split
  · exact ⟨by lia -abstractProof, fun h => by lia -abstractProof⟩
  · rename_i h
    have := pfind_range (L := L) (k := k) (hl h)
    exact ⟨this.1, fun _ => by have := this.2 (by lia -abstractProof); lia -abstractProof⟩
/-- from a place along its chain to the one before `main` -/
noncomputable def Walk (nxt : List Int) (main : Nat) : Nat → List Nat → Nat → Prop
  | i, [], o => i = o ∧ i < nxt.length ∧ xA nxt i = main
  | i, j :: l, o => i < nxt.length ∧ xA nxt i ≠ main ∧ xA nxt i = j ∧ Walk nxt main j l o
/-- what a new key makes of the places -/
inductive NK (n : Nat) (L : Lot) (nxt : List Int) (k : Key) (v : Option Int) (main : Nat) : Lot → List Int → Prop
  | free : L.wA main = none → NK n L nxt k v main { L with keys := L.keys.set main (some k), worth := L.worth.set main v } nxt
  | home {s : Nat} {kp : Key} : L.wA main ≠ none → freeP L L.found = some s → L.kA main = some kp → homeI n kp = main →
      NK n L nxt k v main { row := L.row, keys := L.keys.set s (some k), worth := L.worth.set s v, found := s } ((nxt.set s (xA nxt main)).set main s)
  | away {s o : Nat} {kp : Key} {pre : List Nat} : L.wA main ≠ none → freeP L L.found = some s → L.kA main = some kp → homeI n kp ≠ main → Walk nxt main (homeI n kp).toNat pre o → o ≠ main →
      NK n L nxt k v main { row := L.row, keys := (L.keys.set s (some kp)).set main (some k), worth := ((L.worth.set s (L.wA main)).set main none).set main v, found := s }
        (((nxt.set o s).set s (xA (nxt.set o s) main)).set main (-1))
noncomputable def Keep (F : List Addr) (σ σ' : AH) : Prop := ∀ a o, a ∉ F → σ a = some o → σ' a = some o
theorem Same.keep {F : List Addr} {σ σ' : AH} (h : Same F σ σ') : Keep F σ σ' := fun a o ha e => (h a ha).trans e
theorem Keep.at {F : List Addr} {σ σ' : AH} {a : Addr} {o : AO} (K : Keep F σ σ') (h : a ∈ F) : Keep F σ (σ'.set a o) := fun b ob hb e => (AH.set_ne (fun q : b = a => hb (q.symm ▸ h))).trans (K b ob hb e)
theorem Keep.trans {F : List Addr} {a b c : AH} (h : Keep F a b) (h' : Keep F b c) : Keep F a c := fun x o hx e => h' x o hx (h x o hx e)
theorem Keep.new {F : List Addr} {σ : AH} {a : Addr} {o : AO} (h : σ a = none) : Keep F σ (σ.set a o) := fun b ob _ e => Le.new h b ob e
noncomputable def places (hs : Nat) : Nat := if hs = 0 then 0 else 2 ^ clog hs
theorem TabAt.same {σ σ' : AH} {t A N : Addr} {nd : List Addr} {L : Lot} {nxt : List Int} {sz lg : Int} (H : TabAt σ t A N nd L nxt sz lg) (hs : ∀ a, a = t ∨ a = A ∨ a = N ∨ a ∈ nd → σ' a = σ a) : TabAt σ' t A N nd L nxt sz lg :=
  ⟨(hs _ (.inl rfl)).trans H.inst, (hs _ (.inr (.inl rfl))).trans H.arr, (hs _ (.inr (.inr (.inl rfl)))).trans H.nod, fun i a h => (hs _ (.inr (.inr (.inr (List.mem_of_getElem? h))))).trans (H.node i a h), H.lk, H.lw, H.ln, H.nodup, H.aN⟩
noncomputable def cnGo (L : Lot) : List Nat → List Int → Int → Int → List Int × Int × Int
  | [], cs, tot, wh => (cs, tot, wh)
  | i :: l, cs, tot, wh => match L.wA i with
    | none => cnGo L l cs tot wh
    | some _ => match L.kA i with
      | none => cnGo L l cs (tot + 1) wh
      | some k => if 0 < aidx k then cnGo L l (bump cs (clog (aidx k).toNat)) (tot + 1) (wh + 1) else cnGo L l cs (tot + 1) wh
theorem bump_len (cs : List Int) (i : Nat) : (bump cs i).length = cs.length := by unfold bump; simp
noncomputable def nSome (row : List (Option Int)) (a b : Nat) : Nat := ((row.take b).drop a).countP Option.isSome
noncomputable def caGo (row : List (Option Int)) : List Nat → Nat → Nat → List Int → Int → List Int × Int
  | [], _, _, cs, tot => (cs, tot)
  | i :: l, at', limit, cs, tot =>
    let last := min limit row.length
    if last < at' then (cs, tot)
    else caGo row l (last + 1) (limit * 2) (cs.set i (cs.getD i 0 + nSome row (at' - 1) last)) (tot + nSome row (at' - 1) last)
theorem nSome_self (row : List (Option Int)) (a b : Nat) (h : b ≤ a) : nSome row a b = 0 := by
  unfold nSome; rw [List.drop_of_length_le (by simp; lia -abstractProof)]; rfl
theorem nSome_step {row : List (Option Int)} {a b : Nat} (h : a < b) (hb : b ≤ row.length) : nSome row a b = (if (row.getD a none).isSome = true then 1 else 0) + nSome row (a + 1) b := by
  unfold nSome
  have hl : a < (row.take b).length := by simp; lia -abstractProof
  rw [List.drop_eq_getElem_cons hl, List.countP_cons]
  have : (row.take b)[a] = row.getD a none := by
    rw [List.getD_eq_getElem?_getD, List.getElem?_eq_getElem (by lia -abstractProof)]; simp
  rw [this, Nat.add_comm]
set_option compiler.extract_closed false
local macro_rules | `(tactic| tb_start) => `(tactic| with_reducible first | apply List.mem_cons_self | (apply List.mem_cons_of_mem; tb_start))
local macro_rules | `(tactic| walk_at "F") => `(tactic| with_reducible repeat (first | apply FPut.head | apply FPut.tail))
local macro_rules | `(tactic| walk_at "U") => `(tactic| with_reducible repeat (first | apply Put.head | apply Put.tail))
local macro_rules | `(tactic| walk_at "S") => `(tactic| with_reducible first | assumption | apply AH.set_self | (apply AH.set_at <;> assumption) | (apply AH.set_at; assumption; apply AH.set_at <;> assumption))
local macro_rules | `(tactic| walk_at "H") => `(tactic| with_reducible first | apply handedIn_ref | apply handedIn_vi | apply handedIn_none | apply handedIn_kv | apply handedIn_key | refine handedIn_vo ?_)
local macro_rules | `(tactic| tb_rel) => `(tactic| with_reducible first
  | ((fail_if_success (fail_if_success refine isEXs ?_)); first
    | refine exs_cons ?_
    | refine exs_nil ?_)
  | ((fail_if_success (fail_if_success refine isThen ?_)); first
    | refine then_next ?_
    | refine then_ret ?_
    | refine then_brk ?_)
  | ((fail_if_success (fail_if_success refine isLoopGo ?_)); first
    | refine loop_next ?_
    | refine loop_brk ?_
    | refine loop_ret ?_)
  | ((fail_if_success (fail_if_success refine isRet ?_)); first
    | refine ex_ret ?_
    | refine ex_ret0 ?_)
  | ((fail_if_success (fail_if_success refine isIf ?_)); first
    | refine ex_if ?_)
  | ((fail_if_success (fail_if_success refine isAsgN ?_)); first
    | refine ex_assignN ‹_› ‹_› (fun _ => rfl) (fun _ => rfl) ?_)
  | ((fail_if_success (fail_if_success refine isAsgT ?_)); first
    | refine ex_assign_sw ‹_› ‹_› ‹_› (by kernel_rfl) ⟨rfl, rfl⟩ (by decide) ?_)
  | ((fail_if_success (fail_if_success refine isAug ?_)); first
    | refine ex_aug_name ‹_› ‹_› (by tb_start) ?_
    | refine xN_free ‹_› ‹_› (by tb_start) (by walk_at "S") (by tb_start) (by walk_at "H") ?_
    | refine ex_aug_sub (fun _ _ _ => rfl) ?_)
  | ((fail_if_success (fail_if_success refine isExprS ?_)); first
    | refine ex_expr ‹_› (fun _ => rfl) ?_)
  | ((fail_if_success (fail_if_success refine isBrk ?_)); first
    | refine ex_break ?_)
  | ((fail_if_success (fail_if_success refine isAsgA ?_)); first
    | refine ex_assign rfl (fun _ => rfl) (fun _ => rfl) ?_)
  | ((fail_if_success (fail_if_success refine isAsgS ?_)); first
    | refine ex_assign rfl (fun _ => rfl) (fun _ => rfl) ?_)
  | ((fail_if_success (fail_if_success refine isName ?_)); first
    | (apply ev_localD; assumption; tb_start; decide)
    | (apply n_ref; tb_start; assumption; assumption; assumption; kernel_rfl)
    | (apply n_int; tb_start; assumption; assumption; assumption; kernel_rfl)
    | (apply n_blt; tb_start; assumption; assumption; assumption; kernel_rfl)
    | (apply n_typ; tb_start; assumption; assumption; assumption; kernel_rfl))
  | ((fail_if_success (fail_if_success refine isConst ?_)); first
    | refine ev_int ?_
    | refine ev_none ?_
    | refine ev_bool ?_
    | refine ev_str ?_
    | refine ev_bytes ?_)
  | ((fail_if_success (fail_if_success refine isAttrN ?_)); first
    | (apply g_any; tb_start; assumption; assumption; tb_start; (walk_at "S"); tb_start; (walk_at "H"); decide))
  | ((fail_if_success (fail_if_success refine isAttr ?_)); first
    | refine e_any (by tb_start) (fun _ _ => rfl) ‹_› ‹_› ?_)
  | ((fail_if_success (fail_if_success refine isMCall ?_)); first
    | refine c_any (by tb_start) ‹_› ‹_› rfl (fun _ => ⟨_, rfl⟩) ?_)
  | ((fail_if_success (fail_if_success refine isSub ?_)); first
    | refine ev_subN (fun _ _ => rfl) ?_)
  | ((fail_if_success (fail_if_success refine isEV ?_)); first
    | refine ev_call (fun _ => rfl) ?_
    | refine ev_binop ?_
    | refine ev_cmp rfl ?_
    | refine ev_ite ?_
    | refine ev_negc ?_
    | refine ev_neg ?_
    | refine ev_not ?_
    | refine ev_and2 ?_
    | refine ev_or2 ?_)
  | ((fail_if_success (fail_if_success refine isTR ?_)); first
    | refine tr_cmp rfl ?_
    | refine tr_chain2 rfl ?_
    | refine tr_not ?_
    | refine tr_bool ?_
    | refine tr_call ?_)
  | ((fail_if_success (fail_if_success refine isTRs ?_)); first
    | refine trs_and ?_
    | refine trs_or ?_
    | refine trs_and_nil ?_
    | refine trs_or_nil ?_)
  | ((fail_if_success (fail_if_success refine isEVs ?_)); first
    | refine evs_cons rfl ?_
    | refine evs_nil ?_)
  | ((fail_if_success (fail_if_success refine isCW ?_)); first
    | refine cw_builtin0 ‹_› rfl ?_
    | refine cw_type0 ‹_› rfl ?_
    | refine cw_KH0 ‹_› ‹_› (by apply kp_of; tb_start) rfl ?_)
  | ((fail_if_success (fail_if_success refine isBO ?_)); first
    | refine bo_add ?_
    | refine bo_sub ?_
    | refine bo_and ?_
    | refine bo_or ?_
    | refine bo_xor ?_
    | refine bo_div2 ?_
    | refine bo_2mul ?_)
  | ((fail_if_success (fail_if_success refine isCO ?_)); first
    | refine key_is_none ?_
    | refine vo_isnt_none ?_
    | refine kv_is_none ?_
    | refine none_is_none ?_
    | refine none_isnt_none ?_
    | refine co_eq ?_
    | refine co_ne ?_
    | refine co_lt ?_
    | refine co_le ?_
    | refine co_gt ?_
    | refine co_ge ?_
    | refine co_eqb ?_
    | refine co_eqy ?_)
  | ((fail_if_success (fail_if_success refine isCA ?_)); first
    | refine isi_int ‹_› ‹_› ?_
    | refine isi_bool ‹_› ‹_› ?_
    | refine isi_bytes ‹_› ‹_› ?_
    | refine ca_lenB ‹_› ?_
    | refine ca_lenR ‹_› ‹_› ?_
    | refine ca_lenO ‹_› ‹_› ?_
    | refine ca_int_bool ?_)
  | ((fail_if_success (fail_if_success refine isFld ?_)); refine fld (by walk_at "S") (by tb_start) (by walk_at "H") ?_)
  | ((fail_if_success (fail_if_success refine isMth ?_)); first | refine mthT (by walk_at "S") (by decide +kernel) ?_ | refine mthN (by walk_at "S") (by decide +kernel) ?_)
  | ((fail_if_success (fail_if_success refine isFputEx ?_)); refine fput_ex (by walk_at "S") (by walk_at "F") ?_)
  | ((fail_if_success (fail_if_success refine isSI ?_)); refine sdict (by walk_at "S") (by walk_at "F") ?_)
  | ((fail_if_success (fail_if_success refine isGetI ?_)); refine dict_at (by walk_at "S") (by tb_start) ?_)
  | ((fail_if_success (fail_if_success refine isGetI ?_)); refine nod_at ‹_› ‹_› ‹_› ?_)
  | ((fail_if_success (fail_if_success refine isFpx ?_)); refine fpx (by walk_at "S") (by walk_at "F") ?_)
  | refine ti_nil ?_
  | refine ti_one ?_
  | ((fail_if_success (fail_if_success refine isPut1 ?_)); refine put_ex (by walk_at "U") ?_)
  | ((fail_if_success (fail_if_success refine isPut2 ?_)); refine put_ex2 (by walk_at "U") (by walk_at "U") ?_)
  | ((fail_if_success (fail_if_success refine isIO ?_)); first
    | refine io_add ?_
    | refine io_sub ?_
    | refine io_mul2 ?_)
  | ((fail_if_success (fail_if_success refine isASN ?_)); first
    | (apply aN_any; tb_start; assumption; assumption; tb_start; (walk_at "S"); (walk_at "F"); decide)
    | (apply bN_any; tb_start; assumption; assumption; tb_start; (walk_at "S"); (first | decide | (simp only [List.nil_append, List.cons_append, List.map_cons, List.map_nil]; decide +kernel)); (first | decide | simp); decide))
  | ((fail_if_success (fail_if_success refine isASA ?_)); first
    | (apply a_any; tb_start; assumption; assumption))
  | ((fail_if_success (fail_if_success refine isASS ?_)); first
    | refine as_sub ?_)
  | ((fail_if_success (fail_if_success refine isAS ?_)); first
    | refine as_nameCP ‹_› ‹_› ‹_› (by walk_at "U") ?_
    | refine as_nameP ‹_› ‹_› (by walk_at "U") ?_)
  | refine ex_bool ?_
  | refine if_t rfl ?_
  | refine if_f rfl ?_)
theorem is_number_fc {g : Gl} (hg : HK g) {σ : AH} {k : Key} {Q : Value → AH → Prop}  (h : Q (.bool k.isInt) σ) : FC g 1 (.ref 90) [k.v] σ Q := by
  refine fc_def (n := 0) (ds := []) [Str.ofString "value"] [] (by rw [hg]; exact rfl) (by rw [hg]; kernel_rfl) (fun vals hv s _ => ?_) rfl (by decide +kernel) (by decide +kernel) rfl rfl rfl (by decide +kernel) ?_
  · obtain ⟨a0, rfl⟩ := len1 hv; exact BindsTo.of_eq rfl
  intro c ok hgl hroom hsc hloc
  have hcK : KOK c := by subst hgl; exact hg
  have hgc : HK c.gl := by rw [hgl]; exact hg
  simp only [startM, List.cons_append, List.nil_append, List.append_nil, List.map_nil, List.map_cons]
  repeat tb_rel
  cases k <;> (repeat tb_rel) <;> exact h
theorem type_of_fc {g : Gl} (hg : HK g) {σ : AH} {k : Option Key} {Q : Value → AH → Prop}  (h : Q (vi (kty k)) σ) : FC g 1 (.ref 97) [kv k] σ Q := by
  refine fc_def (n := 0) (ds := []) [Str.ofString "value"] [] (by rw [hg]; exact rfl) (by rw [hg]; kernel_rfl) (fun vals hv s _ => ?_) rfl (by decide +kernel) (by decide +kernel) rfl rfl rfl (by decide +kernel) ?_
  · obtain ⟨a0, rfl⟩ := len1 hv; exact BindsTo.of_eq rfl
  intro c ok hgl hroom hsc hloc
  have hcK : KOK c := by subst hgl; exact hg
  have hgc : HK c.gl := by rw [hgl]; exact hg
  simp only [startM, List.cons_append, List.nil_append, List.append_nil, List.map_nil, List.map_cons]
  rcases k with _ | k
  · repeat tb_rel
    exact h
  · show EXs c _ [(Str.ofString "value", some k.v)] σ _
    repeat tb_rel
    cases k <;> (repeat tb_rel) <;> exact h
theorem type_of_fck {g : Gl} (hg : HK g) {σ : AH} {k : Key} {Q : Value → AH → Prop} (h : Q (vi k.ty) σ) : FC g 1 (.ref 97) [k.v] σ Q := type_of_fc (k := some k) hg h
local macro_rules | `(tactic| tb_rel) => `(tactic| with_reducible ((fail_if_success (fail_if_success refine isCA ?_)); first
  | refine ca_fcK 1 (by assumption) (by lia) (is_number_fc (by assumption) ?_)
  | refine ca_fcK 1 (by assumption) (by lia) (type_of_fc (by assumption) ?_)
  | refine ca_fcK 1 (by assumption) (by lia) (type_of_fck (by assumption) ?_)))
theorem co_eq_key {c : Cx} {σ : AH} {Q : Value → AH → Prop} {x y : Key} (ht : x.ty = y.ty) (h : Q (.bool (decide (x = y))) σ) : CO c .Eq x.v y.v σ Q := by
  cases x with
  | b p =>
    cases y with
    | b q => exact co_eqb (by rw [show (p == q) = decide (Key.b p = Key.b q) by cases p <;> cases q <;> rfl]; exact h)
    | i q => exact absurd ht (by simp [Key.ty])
    | y q => exact absurd ht (by simp [Key.ty])
  | i p =>
    cases y with
    | b q => exact absurd ht (by simp [Key.ty])
    | i q => exact co_eq (by rw [show (p == q) = decide (Key.i p = Key.i q) by by_cases hpq : p = q <;> simp [hpq]]; exact h)
    | y q => exact absurd ht (by simp [Key.ty])
  | y p =>
    cases y with
    | b q => exact absurd ht (by simp [Key.ty])
    | i q => exact absurd ht (by simp [Key.ty])
    | y q => exact co_eqy (by rw [show (p.toArray.toList == q.toArray.toList) = decide (Key.y p = Key.y q) by by_cases hpq : p = q <;> simp [hpq]]; exact h)
theorem raw_equal_fc {g : Gl} (hg : HK g) {σ : AH} {ka : Option Key} {k : Key} {Q : Value → AH → Prop}  (h : Q (.bool (decide (ka = some k))) σ) : FC g 2 (.ref 111) [kv ka, k.v] σ Q := by
  refine fc_def (n := 1) (ds := []) [Str.ofString "a", Str.ofString "b"] [Str.ofString "tag"] (by rw [hg]; exact rfl) (by rw [hg]; kernel_rfl) (fun vals hv s _ => ?_) rfl (by decide +kernel) (by decide +kernel) rfl rfl rfl (by decide +kernel) ?_
  · obtain ⟨a0, a1, rfl⟩ := len2 hv; exact BindsTo.of_eq rfl
  intro c ok hgl hroom hsc hloc
  have hcK : KOK c := by subst hgl; exact hg
  have hgc : HK c.gl := by rw [hgl]; exact hg
  simp only [startM, List.cons_append, List.nil_append, List.append_nil, List.map_nil, List.map_cons]
  repeat tb_rel
  refine if_b (fun hne => ?_) (fun heq => ?_)
  · repeat tb_rel
    rw [decide_eq_false (fun e => by subst e; simp [kty] at hne)] at h
    exact h
  have heq : kty ka = k.ty := by simpa using heq
  rcases ka with _ | ka
  · exact absurd heq (by cases k <;> simp [kty, Key.ty])
  show EXs c [] [(Str.ofString "a", some ka.v), (Str.ofString "b", some k.v), (Str.ofString "tag", some (vi ka.ty))] σ _
  repeat tb_rel
  refine if_f (by cases ka <;> rfl) ?_
  repeat tb_rel
  refine ev_tuple ?_
  repeat tb_rel
  refine ⟨by decide, fun a ha => ?_⟩
  refine co_in_tup (ns := [1, 3, 4]) ok (by lia) (AH.set_self ..) ?_
  repeat tb_rel
  refine if_t (by cases ka <;> rfl) ?_
  refine EXs.drop (Le.new ha) ?_
  repeat tb_rel
  refine co_eq_key heq ?_
  repeat tb_rel
  have e : decide (some ka = some k) = decide (ka = k) := by simp
  rw [← e]; exact h
theorem log2_fc {g : Gl} (hg : HK g) {σ : AH} {n : Nat} {Q : Value → AH → Prop}  (h : Q (vi ((lg2 n : Int) - 1)) σ) : FC g 1 (.ref 125) [vi n] σ Q := by
  refine fc_def (n := 0) (ds := []) [Str.ofString "n"] [Str.ofString "found"] (by rw [hg]; exact rfl) (by rw [hg]; kernel_rfl) (fun vals hv s _ => ?_) rfl (by decide +kernel) (by decide +kernel) rfl rfl rfl (by decide +kernel) ?_
  · obtain ⟨a0, rfl⟩ := len1 hv; exact BindsTo.of_eq rfl
  intro c ok hgl hroom hsc hloc
  have hcK : KOK c := by subst hgl; exact hg
  have hgc : HK c.gl := by rw [hgl]; exact hg
  simp only [startM, List.cons_append, List.nil_append, List.append_nil, List.map_nil, List.map_cons]
  repeat tb_rel
  refine ex_while (fun m μ' σ' => σ' = σ ∧ m = m ∧ μ' = [(Str.ofString "n", some (vi (m : Nat))), (Str.ofString "found", some (vi ((lg2 n : Int) - lg2 m - 1)))]) n ⟨rfl, rfl, by rw [show (lg2 n : Int) - lg2 n - 1 = -1 by lia]⟩ ?_
  rintro m μ' σ' ⟨rfl, -, rfl⟩
  repeat tb_rel
  refine if_b (fun hm => ?_) (fun hm => ?_)
  · have hm : 0 < (m : Int) := of_decide_eq_true hm
    repeat tb_rel
    refine bo_shr (by decide) ?_
    repeat tb_rel
    have e1 : (m : Int).fdiv (2 ^ (1 : Int).toNat) = ((m / 2 : Nat) : Int) := by
      rw [Int.fdiv_eq_ediv_of_nonneg _ (by decide)]; rfl
    have e2 : lg2 m = lg2 (m / 2) + 1 := lg2_pos (by lia)
    refine ⟨m / 2, by lia, rfl, rfl, ?_⟩
    rw [e1, show (lg2 n : Int) - lg2 m - 1 + 1 = (lg2 n : Int) - lg2 (m / 2) - 1 by lia]
  · have hm : ¬ 0 < (m : Int) := of_decide_eq_false hm
    have h0 : m = 0 := by lia
    subst h0
    repeat tb_rel
    rw [lg2_zero]
    rw [show (lg2 n : Int) - (0 : Nat) - 1 = (lg2 n : Int) - 1 by lia]
    exact h
local macro_rules | `(tactic| tb_rel) => `(tactic| with_reducible ((fail_if_success (fail_if_success refine isCA ?_)); first
  | refine ca_fcK 1 (by assumption) (by lia) (log2_fc (by assumption) ?_)))
theorem ceil_log2_fc {g : Gl} (hg : HK g) {σ : AH} {n : Nat} {Q : Value → AH → Prop} (hn : 1 ≤ n) (h : Q (vi (clog n)) σ) : FC g 2 (.ref 132) [vi n] σ Q := by
  refine fc_def (n := 1) (ds := []) [Str.ofString "n"] [] (by rw [hg]; exact rfl) (by rw [hg]; kernel_rfl) (fun vals hv s _ => ?_) rfl (by decide +kernel) (by decide +kernel) rfl rfl rfl (by decide +kernel) ?_
  · obtain ⟨a0, rfl⟩ := len1 hv; exact BindsTo.of_eq rfl
  intro c ok hgl hroom hsc hloc
  have hcK : KOK c := by subst hgl; exact hg
  have hgc : HK c.gl := by rw [hgl]; exact hg
  simp only [startM, List.cons_append, List.nil_append, List.append_nil, List.map_nil, List.map_cons]
  repeat tb_rel
  rw [show (n : Int) - 1 = ((n - 1 : Nat) : Int) by lia]
  repeat tb_rel
  rw [show ((lg2 (n - 1) : Nat) : Int) - 1 + 1 = (clog n : Nat) by unfold clog; lia]
  exact h
theorem array_index_fc {g : Gl} (hg : HK g) {σ : AH} {k : Key} {Q : Value → AH → Prop}  (h : Q (vi (aidx k)) σ) : FC g 2 (.ref 188) [k.v] σ Q := by
  refine fc_def (n := 1) (ds := []) [Str.ofString "key"] [] (by rw [hg]; exact rfl) (by rw [hg]; kernel_rfl) (fun vals hv s _ => ?_) rfl (by decide +kernel) (by decide +kernel) rfl rfl rfl (by decide +kernel) ?_
  · obtain ⟨a0, rfl⟩ := len1 hv; exact BindsTo.of_eq rfl
  intro c ok hgl hroom hsc hloc
  have hcK : KOK c := by subst hgl; exact hg
  have hgc : HK c.gl := by rw [hgl]; exact hg
  simp only [startM, List.cons_append, List.nil_append, List.append_nil, List.map_nil, List.map_cons]
  repeat tb_rel
  cases k <;> (repeat tb_rel) <;> exact h
local macro_rules | `(tactic| tb_rel) => `(tactic| with_reducible ((fail_if_success (fail_if_success refine isCA ?_)); first
  | refine ca_fcK 2 (by assumption) (by lia) (raw_equal_fc (by assumption) ?_)
  | refine ca_fcK 2 (by assumption) (by lia) (array_index_fc (by assumption) ?_)))
local macro_rules | `(tactic| tb_rel) => `(tactic| with_reducible ((fail_if_success (fail_if_success refine isCA ?_)); first
  | refine ca_fcK 1 (by assumption) (by lia) (is_number_fc (by assumption) ?_)
  | refine ca_fcK 1 (by assumption) (by lia) (type_of_fc (by assumption) ?_)
  | refine ca_fcK 1 (by assumption) (by lia) (type_of_fck (by assumption) ?_)
  | refine ca_fcK 2 (by assumption) (by lia) (raw_equal_fc (by assumption) ?_)
  | refine ca_fcK 2 (by assumption) (by lia) (array_index_fc (by assumption) ?_)
  | refine ca_fcK 1 (by assumption) (by lia) (log2_fc (by assumption) ?_)))
theorem count_key_fc {g : Gl} (hg : HK g) {σ : AH} {k : Key} {C : Addr} {cs : List Int} {Q : Value → AH → Prop} (hC : σ C = some (.list (cs.map vi))) (hk : k.ok) (hl : cs.length = 27) (h1 : 0 < aidx k → Q (vi 1) (σ.set C (.list ((bump cs (clog (aidx k).toNat)).map vi)))) (h0 : ¬ 0 < aidx k → Q (vi 0) σ) : FC g 3 (.ref 202) [k.v, .ref C] σ Q := by
  refine fc_def (n := 2) (ds := []) [Str.ofString "key", Str.ofString "counts"] [Str.ofString "at"] (by rw [hg]; exact rfl) (by rw [hg]; kernel_rfl) (fun vals hv s _ => ?_) rfl (by decide +kernel) (by decide +kernel) rfl rfl rfl (by decide +kernel) ?_
  · obtain ⟨a0, a1, rfl⟩ := len2 hv; exact BindsTo.of_eq rfl
  intro c ok hgl hroom hsc hloc
  have hcK : KOK c := by subst hgl; exact hg
  have hgc : HK c.gl := by rw [hgl]; exact hg
  simp only [startM, List.cons_append, List.nil_append, List.append_nil, List.map_nil, List.map_cons]
  have hle : aidx k ≤ 1000 := by
    cases k with
    | i n => exact hk.2
    | b x => show (-1 : Int) ≤ 1000; decide
    | y s => show (-1 : Int) ≤ 1000; decide
  repeat tb_rel
  refine if_b (fun hp => ?_) (fun hp => ?_)
  · have hp : 0 < aidx k := by simpa using hp
    have h1 := h1 hp
    obtain ⟨n, hn⟩ : ∃ n : Nat, aidx k = n := ⟨(aidx k).toNat, by lia⟩
    rw [hn] at h1 hp hle ⊢
    have hcl : clog n ≤ 10 := lg2_le (n - 1) 10 (by lia)
    repeat tb_rel
    refine if_t (by simp; lia) ?_
    repeat tb_rel
    refine ca_fcK 2 ok (by lia) (ceil_log2_fc hgc (by lia) ?_)
    refine gi_list (V := vi (cs.getD (clog n) 0)) hC (by lia) (by lia) ?_ ?_
    · have : clog n < cs.length := by lia
      rw [Int.toNat_natCast, List.getElem?_map, List.getElem?_eq_getElem this, List.getD_eq_getElem?_getD, List.getElem?_eq_getElem this]; rfl
    repeat tb_rel
    refine si_list hC (by lia) (by simp; lia) (by simp; lia) ?_
    repeat tb_rel
    have e : (cs.map vi).set (clog n : Int).toNat (vi (cs.getD (clog n) 0 + 1)) = (bump cs (clog n)).map vi := by
      unfold bump; rw [Int.toNat_natCast, List.map_set]
    rw [e]
    exact h1
  · have hp : ¬ 0 < aidx k := by simpa using hp
    refine if_f rfl ?_
    repeat tb_rel
    exact h0 hp
theorem string_hash_fc {g : Gl} (hg : HK g) {σ : AH} {s : List UInt8} {Q : Value → AH → Prop} (hl : s.length ≤ 8) (h : Q (vi (strH s)) σ) : FC g 1 (.ref 118) [.bytes s.toArray 0] σ Q := by
  refine fc_def (n := 0) (ds := []) [Str.ofString "text"] [Str.ofString "found", Str.ofString "at", Str.ofString "step"] (by rw [hg]; exact rfl) (by rw [hg]; kernel_rfl) (fun vals hv s _ => ?_) rfl (by decide +kernel) (by decide +kernel) rfl rfl rfl (by decide +kernel) ?_
  · obtain ⟨a0, rfl⟩ := len1 hv; exact BindsTo.of_eq rfl
  intro c ok hgl hroom hsc hloc
  have hcK : KOK c := by subst hgl; exact hg
  have hgc : HK c.gl := by rw [hgl]; exact hg
  simp only [startM, List.cons_append, List.nil_append, List.append_nil, List.map_nil, List.map_cons]
  repeat tb_rel
  refine bo_shr (by decide) ?_
  repeat tb_rel
  rw [show (s.length : Int).fdiv (2 ^ (5 : Int).toNat) + 1 = 1 by
    rw [Int.fdiv_eq_ediv_of_nonneg _ (by decide), show ((2 : Int) ^ (5 : Int).toNat) = 32 by rfl]; lia]
  refine ex_while (fun m μ' σ' => (σ' = σ) ∧ (m ≤ s.length) ∧ (μ' = [(Str.ofString "text", some (.bytes s.toArray 0)), (Str.ofString "found", some (vi ((s.drop m).reverse.foldl strStep (Builtin.bitAnd s.length 4294967295)))), (Str.ofString "at", some (vi (m : Nat))), (Str.ofString "step", some (vi 1))])) s.length ⟨rfl, Nat.le_refl _, by rw [List.drop_length]; rfl⟩ ?_
  rintro m μ' σ' ⟨rfl, hm, rfl⟩
  repeat tb_rel
  refine if_b (fun h1 => ?_) (fun h1 => ?_)
  · have h1 : 1 ≤ (m : Int) := of_decide_eq_true h1
    obtain ⟨j, rfl⟩ : ∃ j, m = j + 1 := ⟨m - 1, by lia⟩
    generalize hf : (s.drop (j + 1)).reverse.foldl strStep (Builtin.bitAnd s.length 4294967295) = f
    have hfr : 0 ≤ f ∧ f ≤ 4294967295 := by
      rw [← hf]
      generalize (s.drop (j + 1)).reverse = l
      have : ∀ (l : List UInt8) (x : Int), 0 ≤ x ∧ x ≤ 4294967295 → 0 ≤ l.foldl strStep x ∧ l.foldl strStep x ≤ 4294967295 := by
        intro l
        induction l with
        | nil => intro x h; exact h
        | cons b l ih => intro x h; exact ih _ (bitAnd_range _ (by decide))
      exact this l _ (bitAnd_range _ (by decide))
    repeat tb_rel
    refine bo_shl (by decide) (by decide) (by lia) ?_
    repeat tb_rel
    refine bo_shr (by decide) ?_
    repeat tb_rel
    refine ⟨⟨_, .bytes⟩, gi_bytes (by lia) (by lia) (by lia) ?_⟩
    repeat tb_rel
    refine ⟨j, by lia, rfl, by lia, ?_⟩
    have hj : j < s.length := by lia
    have e1 : s.drop j = s[j] :: s.drop (j + 1) := List.drop_eq_getElem_cons hj
    have e2 : (((j + 1 : Nat) : Int) - 1) = (j : Int) := by lia
    have e3 : s.getD (j : Int).toNat 0 = s[j] := by rw [Int.toNat_natCast, List.getD_eq_getElem?_getD, List.getElem?_eq_getElem hj]; rfl
    rw [e2, e3, e1, List.reverse_cons, List.foldl_append, hf]
    rfl
  · have h1 : ¬ 1 ≤ (m : Int) := of_decide_eq_false h1
    have h0 : m = 0 := by lia
    subst h0
    repeat tb_rel
    exact h
theorem compute_sizes_fc {g : Gl} (hg : HK g) {σ : AH} {C : Addr} {cs : List Int} {w : Int} {Q : Value → AH → Prop} (hC : σ C = some (.list (cs.map vi))) (h : ∀ a, σ a = none → Q (.ref a) (σ.set a (.tup [vi (csGo w cs 0 0 0 1).1, vi (csGo w cs 0 0 0 1).2]))) : FC g 1 (.ref 195) [.ref C, vi w] σ Q := by
  refine fc_def (n := 0) (ds := []) [Str.ofString "counts", Str.ofString "wanted"] [Str.ofString "gathered", Str.ofString "used", Str.ofString "size", Str.ofString "power", Str.ofString "count"] (by rw [hg]; exact rfl) (by rw [hg]; kernel_rfl) (fun vals hv s _ => ?_) rfl (by decide +kernel) (by decide +kernel) rfl rfl rfl (by decide +kernel) ?_
  · obtain ⟨a0, a1, rfl⟩ := len2 hv; exact BindsTo.of_eq rfl
  intro c ok hgl hroom hsc hloc
  have hcK : KOK c := by subst hgl; exact hg
  have hgc : HK c.gl := by rw [hgl]; exact hg
  simp only [startM, List.cons_append, List.nil_append, List.append_nil, List.map_nil, List.map_cons]
  repeat tb_rel
  refine ex_for_src ok (fun _ _ => rfl) (src_list rfl ?_)
  repeat tb_rel
  refine ⟨C, _, rfl, hC, ?_⟩
  unfold tkList
  rw [List.map_map]
  refine FT.inv (fun l μ' σ' => σ' = σ ∧ Xe2 fun gg u => Xe3 fun s p o => μ' = [(Str.ofString "counts", some (Value.ref C)), (Str.ofString "wanted", some (vi w)), (Str.ofString "gathered", some (vi gg)), (Str.ofString "used", some (vi u)), (Str.ofString "size", some (vi s)), (Str.ofString "power", some (vi p)), (Str.ofString "count", o)] ∧ csGo w l gg u s p = csGo w cs 0 0 0 1)
    ?_ ?_ cs _ σ ⟨rfl, 0, 0, 0, 1, none, rfl, rfl⟩
  · rintro μ' σ' hI0
    refine hide fun S0 hS0 => ?_
    obtain ⟨es0, gg, u, s, p, o, eu0, e⟩ := hI0
    refine hS0 (at2 es0 eu0 ?_)
    clear hS0 S0
    refine ⟨hC, ?_⟩
    repeat tb_rel
    refine ev_tuple ?_
    repeat tb_rel
    refine ⟨by simp, fun a ha => ?_⟩
    repeat tb_rel
    have := h a ha
    rw [← e] at this
    exact this
  · rintro x l μ' σ' K hI0 hK
    refine hide fun S0 hS0 => ?_
    obtain ⟨es0, gg, u, s, p, o, eu0, e⟩ := hI0
    refine hS0 (at2 es0 eu0 ?_)
    clear hS0 S0
    refine ⟨hC, ?_⟩
    repeat tb_rel
    have fin : ∀ a s u, σ a = none → (s, u) = csGo w cs 0 0 0 1 → Q (.ref a) (σ.set a (.tup [vi s, vi u])) := fun a s u ha he => by
      have := h a ha
      rw [← he] at this
      exact this
    refine if_b (fun h1 => ?_) (fun h1 => ?_)
    · repeat tb_rel
      refine ev_tuple ?_
      repeat tb_rel
      refine ⟨by simp, fun a ha => ?_⟩
      repeat tb_rel
      refine fin a _ _ ha ?_
      rw [← e, csGo, if_pos (by simpa using h1)]
    repeat tb_rel
    refine if_b (fun h2 => ?_) (fun h2 => ?_)
    · repeat tb_rel
      refine if_b (fun h3 => ?_) (fun h3 => ?_)
      all_goals
        repeat tb_rel
        refine if_b (fun h4 => ?_) (fun h4 => ?_)
        · repeat tb_rel
          refine ev_tuple ?_
          repeat tb_rel
          refine ⟨by simp, fun a ha => ?_⟩
          repeat tb_rel
          refine fin a _ _ ha ?_
          rw [← e, csGo, if_neg (by simpa using h1)]; simp only [decide_eq_true_eq, decide_eq_false_iff_not, beq_iff_eq, beq_eq_false_iff_ne, ne_eq] at h2 h3 h4; first | (simp [h2, h3]; done) | (simp [h2, h3, h4]; done) | (simp [h2, h3]; intro hh; exact absurd h4 hh) | (simp [h2, h3]; simp [h4])
        · repeat tb_rel
          refine hK _ _ ⟨rfl, _, _, _, _, _, rfl, ?_⟩
          rw [← e, csGo, if_neg (by simpa using h1)]; simp only [decide_eq_true_eq, decide_eq_false_iff_not, beq_iff_eq, beq_eq_false_iff_ne, ne_eq] at h2 h3 h4; first | (simp [h2, h3]; done) | (simp [h2, h3, h4]; done) | (simp [h2, h3]; intro hh; exact absurd h4 hh) | (simp [h2, h3]; simp [h4])
    · repeat tb_rel
      refine if_b (fun h4 => ?_) (fun h4 => ?_)
      · repeat tb_rel
        refine ev_tuple ?_
        repeat tb_rel
        refine ⟨by simp, fun a ha => ?_⟩
        repeat tb_rel
        refine fin a _ _ ha ?_
        rw [← e, csGo, if_neg (by simpa using h1)]; simp only [decide_eq_true_eq, decide_eq_false_iff_not, beq_iff_eq, beq_eq_false_iff_ne, ne_eq] at h2 h4; first | (simp [h2]; done) | (simp [h2, h4]; done) | (simp [h2]; intro hh; exact absurd h4 hh) | (simp [h2]; simp [h4])
      · repeat tb_rel
        refine hK _ _ ⟨rfl, _, _, _, _, _, rfl, ?_⟩
        rw [← e, csGo, if_neg (by simpa using h1)]; simp only [decide_eq_true_eq, decide_eq_false_iff_not, beq_iff_eq, beq_eq_false_iff_ne, ne_eq] at h2 h4; first | (simp [h2]; done) | (simp [h2, h4]; done) | (simp [h2]; intro hh; exact absurd h4 hh) | (simp [h2]; simp [h4])
theorem node_init_fc {g : Gl} (hg : HK g) {σ : AH} {x : Addr} {Q : Value → AH → Prop} (hx : σ x = some (.inst 177 [])) (h : Q .none (σ.set x (.inst 177 (nodeF none none (-1))))) : FC g 1 (.ref 167) [.ref x] σ Q := by
  refine fc_def (n := 0) (ds := []) [Str.ofString "self"] [] (by rw [hg]; exact rfl) (by rw [hg]; kernel_rfl) (fun vals hv s _ => ?_) rfl (by decide +kernel) (by decide +kernel) rfl rfl rfl (by decide +kernel) ?_
  · obtain ⟨a0, rfl⟩ := len1 hv; exact BindsTo.of_eq rfl
  intro c ok hgl hroom hsc hloc
  have hcK : KOK c := by subst hgl; exact hg
  have hgc : HK c.gl := by rw [hgl]; exact hg
  simp only [startM, List.cons_append, List.nil_append, List.append_nil, List.map_nil, List.map_cons]
  repeat tb_rel
  simp only [AH.set_set]
  exact h
theorem moved_to_fc {g : Gl} (hg : HK g) {σ : AH} {t A N : Addr} {nd : List Addr} {L : Lot} {nxt : List Int} {sz lg : Int} {i j : Nat} {a b : Addr} {Q : Value → AH → Prop} (H : TabAt σ t A N nd L nxt sz lg) (hi : nd[i]? = some a) (hj : nd[j]? = some b) (hab : a ≠ b) (h : Q .none (σ.set b (.inst 177 (nodeF (L.kA i) (L.wA i) (xA nxt i))))) : FC g 1 (.ref 174) [.ref a, .ref b] σ Q := by
  refine fc_def (n := 0) (ds := []) [Str.ofString "self", Str.ofString "other"] [] (by rw [hg]; exact rfl) (by rw [hg]; kernel_rfl) (fun vals hv s _ => ?_) rfl (by decide +kernel) (by decide +kernel) rfl rfl rfl (by decide +kernel) ?_
  · obtain ⟨a0, a1, rfl⟩ := len2 hv; exact BindsTo.of_eq rfl
  intro c ok hgl hroom hsc hloc
  have hcK : KOK c := by subst hgl; exact hg
  have hgc : HK c.gl := by rw [hgl]; exact hg
  simp only [startM, List.cons_append, List.nil_append, List.append_nil, List.map_nil, List.map_cons]
  have hna := H.node i a hi
  have hnb := H.node j b hj
  repeat tb_rel
  simp only [AH.set_set]
  exact h
theorem main_position_fc {g : Gl} (hg : HK g) {σ : AH} {t A N : Addr} {nd : List Addr} {L : Lot} {nxt : List Int} {sz lg : Int} {k : Key} {Q : Value → AH → Prop} (H : TabAt σ t A N nd L nxt sz lg) (hp : Pow nd.length) (hk : k.ok) (h : Q (vi (homeI nd.length k)) σ) : FC g 2 (.ref 224) [.ref t, k.v] σ Q := by
  refine fc_def (n := 1) (ds := []) [Str.ofString "self", Str.ofString "key"] [Str.ofString "many"] (by rw [hg]; exact rfl) (by rw [hg]; kernel_rfl) (fun vals hv s _ => ?_) rfl (by decide +kernel) (by decide +kernel) rfl rfl rfl (by decide +kernel) ?_
  · obtain ⟨a0, a1, rfl⟩ := len2 hv; exact BindsTo.of_eq rfl
  intro c ok hgl hroom hsc hloc
  have hcK : KOK c := by subst hgl; exact hg
  have hgc : HK c.gl := by rw [hgl]; exact hg
  simp only [startM, List.cons_append, List.nil_append, List.append_nil, List.map_nil, List.map_cons]
  have hT := H.inst
  have hN := H.nod
  have hnl : nd.length ≤ 1000 := by unfold Pow at hp; lia
  repeat tb_rel
  cases k with
  | b x =>
    refine if_t rfl ?_
    repeat tb_rel
    refine ca_int_bool ?_
    repeat tb_rel
    rw [bitAnd_pow hp]
    exact h
  | i m =>
    refine if_f rfl ?_
    repeat tb_rel
    show BO c _ (vi m) _ _ _
    rw [bitOr_pow hp]
    refine bo_mod (by lia) ?_
    repeat tb_rel
    exact h
  | y s =>
    have hs : s.length ≤ 8 := hk
    refine if_f rfl ?_
    repeat tb_rel
    refine ca_fcK 1 ok (by lia) (string_hash_fc hgc hs ?_)
    repeat tb_rel
    rw [bitAnd_pow hp]
    exact h
theorem find_node_fc {g : Gl} (hg : HK g) {σ : AH} {t A N : Addr} {nd : List Addr} {L : Lot} {nxt : List Int} {sz lg : Int} {k : Key} {l : List Nat} {Q : Value → AH → Prop} (H : TabAt σ t A N nd L nxt sz lg) (hp : nd.length = 0 ∨ Pow nd.length) (hk : k.ok) (hl : nd.length ≠ 0 → Path nxt (homeI nd.length k) l) (h : Q (vi (atN nd L k l)) σ) : FC g 3 (.ref 231) [.ref t, k.v] σ Q := by
  refine fc_def (n := 2) (ds := []) [Str.ofString "self", Str.ofString "key"] [Str.ofString "at"] (by rw [hg]; exact rfl) (by rw [hg]; kernel_rfl) (fun vals hv s _ => ?_) rfl (by decide +kernel) (by decide +kernel) rfl rfl rfl (by decide +kernel) ?_
  · obtain ⟨a0, a1, rfl⟩ := len2 hv; exact BindsTo.of_eq rfl
  intro c ok hgl hroom hsc hloc
  have hcK : KOK c := by subst hgl; exact hg
  have hgc : HK c.gl := by rw [hgl]; exact hg
  simp only [startM, List.cons_append, List.nil_append, List.append_nil, List.map_nil, List.map_cons]
  have hT := H.inst
  have hN := H.nod
  have hnl : nd.length ≤ 1000 := by rcases hp with hp | hp; lia; unfold Pow at hp; lia
  repeat tb_rel
  refine if_b (fun h0 => ?_) (fun h0 => ?_)
  · have h0 : nd.length = 0 := by simpa using h0
    unfold atN at h
    rw [if_pos h0] at h
    repeat tb_rel
    exact h
  have h0 : nd.length ≠ 0 := by simpa using h0
  have hp : Pow nd.length := by rcases hp with hp | hp; exact absurd hp h0; exact hp
  have hl := hl h0
  unfold atN at h
  rw [if_neg h0] at h
  repeat tb_rel
  refine ca_fcK 2 ok (by lia) (main_position_fc hgc H hp hk ?_)
  repeat tb_rel
  refine ex_while (fun m μ' σ' => σ' = σ ∧ Xe2 fun l' x => Xa4 (m = l'.length) (Path nxt x l') (pfind L k l' = pfind L k l) (μ' = [(Str.ofString "self", some (.ref t)), (Str.ofString "key", some k.v), (Str.ofString "at", some (vi x))])) l.length ⟨rfl, l, _, rfl, hl, rfl, rfl⟩ ?_
  rintro m μ' σ' hI0
  refine hide fun S0 hS0 => ?_
  obtain ⟨es0, l', x, em0, hpa, hf, eu0⟩ := hI0
  refine hS0 (at3 es0 em0 eu0 ?_)
  clear hS0 S0
  repeat tb_rel
  cases l' with
  | nil =>
    refine if_f (decide_eq_false (by have : x < 0 := hpa; lia)) ?_
    repeat tb_rel
    rw [← hf] at h
    exact h
  | cons i l' =>
    obtain ⟨rfl, hi, hpa⟩ := hpa
    have hi2 : i < nd.length := by rw [← H.ln]; exact hi
    obtain ⟨a, ha⟩ : ∃ a, nd[i]? = some a := ⟨_, List.getElem?_eq_getElem hi2⟩
    have hn := H.node i a ha
    have hi3 : i < 1000 := by lia
    refine if_t (decide_eq_true (by lia)) ?_
    repeat tb_rel
    refine if_b (fun h1 => ?_) (fun h1 => ?_)
    · have h1 : L.kA i = some k := by simpa using h1
      repeat tb_rel
      rw [← hf] at h
      unfold pfind at h
      rw [if_pos h1] at h
      exact h
    · have h1 : ¬ L.kA i = some k := by simpa using h1
      repeat tb_rel
      refine ⟨l'.length, by simp, rfl, l', _, rfl, hpa, ?_, rfl⟩
      rw [← hf]
      exact (pfind_ne h1).symm
theorem free_position_fc {g : Gl} (hg : HK g) {σ : AH} {t A N : Addr} {nd : List Addr} {L : Lot} {nxt : List Int} {sz lg : Int} {Q : Value → AH → Prop} (H : TabAt σ t A N nd L nxt sz lg) (hnl : nd.length ≤ 1000) (hf : L.found ≤ nd.length)
    (h : Q (vi (match freeP L L.found with | some i => (i : Int) | none => -1)) (σ.set t (.inst 408 (tabF A N sz lg (((freeP L L.found).getD 0 : Nat)))))) : FC g 1 (.ref 238) [.ref t] σ Q := by
  refine fc_def (n := 0) (ds := []) [Str.ofString "self"] [] (by rw [hg]; exact rfl) (by rw [hg]; kernel_rfl) (fun vals hv s _ => ?_) rfl (by decide +kernel) (by decide +kernel) rfl rfl rfl (by decide +kernel) ?_
  · obtain ⟨a0, rfl⟩ := len1 hv; exact BindsTo.of_eq rfl
  intro c ok hgl hroom hsc hloc
  have hcK : KOK c := by subst hgl; exact hg
  have hgc : HK c.gl := by rw [hgl]; exact hg
  simp only [startM, List.cons_append, List.nil_append, List.append_nil, List.map_nil, List.map_cons]
  have hT := H.inst
  have hN := H.nod
  repeat tb_rel
  refine ex_while (fun m μ' σ' => Xa4 (σ' = σ.set t (.inst 408 (tabF A N sz lg (m : Nat)))) (m ≤ nd.length) (freeP L m = freeP L L.found) (μ' = [(Str.ofString "self", some (.ref t))])) L.found ⟨(AH.set_same hT).symm, hf, rfl, rfl⟩ ?_
  rintro m μ' σ' hI0
  refine hide fun S0 hS0 => ?_
  obtain ⟨es0, hm, he, eu0⟩ := hI0
  refine hS0 (at2 es0 eu0 ?_)
  clear hS0 S0
  repeat tb_rel
  cases m with
  | zero =>
    refine if_f (by decide) ?_
    repeat tb_rel
    rw [← he] at h
    exact h
  | succ m =>
    refine if_t (decide_eq_true (by lia)) ?_
    rw [show ((m + 1 : Nat) : Int) = (m : Int) + 1 by lia]
    repeat tb_rel
    rw [AH.set_set, show (m : Int) + 1 - 1 = (m : Int) by lia]
    obtain ⟨a, ha⟩ : ∃ a, nd[m]? = some a := ⟨_, List.getElem?_eq_getElem (by lia)⟩
    have H2 := H.setT (sz' := sz) (lg' := lg) (fr := m)
    have hT2 := H2.inst
    have hN2 := H2.nod
    have hn2 := H2.node m a ha
    have hm3 : m < 1000 := by lia
    generalize hσ2 : σ.set t (.inst 408 (tabF A N sz lg (m : Nat))) = σ2 at H2 hT2 hN2 hn2 ⊢
    repeat tb_rel
    refine if_b (fun h1 => ?_) (fun h1 => ?_)
    · have h1 : L.kA m = none := by simpa [Lot.kA] using h1
      repeat tb_rel
      have e : freeP L L.found = some m := by rw [← he]; exact if_pos h1
      rw [e] at h
      rw [← hσ2]
      exact h
    · have h1' : (L.kA m).isNone = false := h1
      have h1 : ¬ L.kA m = none := fun e => by rw [e] at h1'; cases h1'
      repeat tb_rel
      refine ⟨m, by lia, hσ2.symm, by lia, ?_, rfl⟩
      rw [← he]
      exact (if_neg h1).symm
theorem get_int_fc {g : Gl} (hg : HK g) {σ : AH} {n : Int} {l : List Nat} {t A N : Addr} {nd : List Addr} {L : Lot} {nxt : List Int} {sz lg : Int} {Q : Value → AH → Prop} (H : TabAt σ t A N nd L nxt sz lg) (hrl : L.row.length ≤ 1000) (hp : nd.length = 0 ∨ Pow nd.length) (hk : (Key.i n).ok) (hl : nd.length ≠ 0 → Path nxt (homeI nd.length (.i n)) l)
    (h1 : 1 ≤ n → n ≤ L.row.length → Q (vo (L.row.getD (n - 1).toNat none)) σ)
    (h2 : ¬ (1 ≤ n ∧ n ≤ L.row.length) → Q (vo (lookN L (atN nd L (.i n) l))) σ) : FC g 4 (.ref 245) [.ref t, vi n] σ Q := by
  refine fc_def (n := 3) (ds := []) [Str.ofString "self", Str.ofString "n"] [Str.ofString "at"] (by rw [hg]; exact rfl) (by rw [hg]; kernel_rfl) (fun vals hv s _ => ?_) rfl (by decide +kernel) (by decide +kernel) rfl rfl rfl (by decide +kernel) ?_
  · obtain ⟨a0, a1, rfl⟩ := len2 hv; exact BindsTo.of_eq rfl
  intro c ok hgl hroom hsc hloc
  have hcK : KOK c := by subst hgl; exact hg
  have hgc : HK c.gl := by rw [hgl]; exact hg
  simp only [startM, List.cons_append, List.nil_append, List.append_nil, List.map_nil, List.map_cons]
  have hT := H.inst
  have hN := H.nod
  have hA := H.arr
  have hnl : nd.length ≤ 1000 := by rcases hp with hp | hp; lia; unfold Pow at hp; lia
  repeat tb_rel
  by_cases hin : 1 ≤ n ∧ n ≤ L.row.length
  · refine if_t (decide_eq_true hin.1) ?_
    repeat tb_rel
    refine if_t (decide_eq_true hin.2) ?_
    obtain ⟨j, hj⟩ : ∃ j : Nat, n = (j : Int) + 1 := ⟨(n - 1).toNat, toNat_pred hin.1⟩
    subst hj
    repeat tb_rel
    rw [show (j : Int) + 1 - 1 = (j : Int) by lia]
    refine row_at hA (by lia) hrl ?_
    repeat tb_rel
    have := h1 hin.1 hin.2
    rw [show ((j : Int) + 1 - 1).toNat = j by lia] at this
    exact this
  · have h2 := h2 hin
    have rest : ∀ (hh : Bool), hh = true → True := fun _ _ => trivial
    by_cases hi : 1 ≤ n
    · refine if_t (decide_eq_true hi) ?_
      repeat tb_rel
      refine if_f (decide_eq_false (by lia)) ?_
      repeat tb_rel
      refine ca_fcK 3 ok (by lia) (find_node_fc hgc H hp hk hl ?_)
      obtain ⟨r1, r2⟩ := atN_range (L := L) (k := .i n) H.ln hl
      generalize atN nd L (.i n) l = p at h2 r1 r2
      repeat tb_rel
      by_cases hp0 : p < 0
      · refine if_t (decide_eq_true hp0) ?_
        repeat tb_rel
        unfold lookN at h2
        rw [if_pos hp0] at h2
        exact h2
      · refine if_f (decide_eq_false hp0) ?_
        obtain ⟨j, rfl⟩ : ∃ j : Nat, p = j := ⟨p.toNat, by lia⟩
        obtain ⟨a, ha⟩ : ∃ a, nd[j]? = some a := ⟨_, List.getElem?_eq_getElem (by lia)⟩
        have hn := H.node j a ha
        have hj3 : j < 1000 := by lia
        repeat tb_rel
        unfold lookN at h2
        rw [if_neg hp0, Int.toNat_natCast] at h2
        exact h2
    · refine if_f (decide_eq_false hi) ?_
      repeat tb_rel
      refine ca_fcK 3 ok (by lia) (find_node_fc hgc H hp hk hl ?_)
      obtain ⟨r1, r2⟩ := atN_range (L := L) (k := .i n) H.ln hl
      generalize atN nd L (.i n) l = p at h2 r1 r2
      repeat tb_rel
      by_cases hp0 : p < 0
      · refine if_t (decide_eq_true hp0) ?_
        repeat tb_rel
        unfold lookN at h2
        rw [if_pos hp0] at h2
        exact h2
      · refine if_f (decide_eq_false hp0) ?_
        obtain ⟨j, rfl⟩ : ∃ j : Nat, p = j := ⟨p.toNat, by lia⟩
        obtain ⟨a, ha⟩ : ∃ a, nd[j]? = some a := ⟨_, List.getElem?_eq_getElem (by lia)⟩
        have hn := H.node j a ha
        have hj3 : j < 1000 := by lia
        repeat tb_rel
        unfold lookN at h2
        rw [if_neg hp0, Int.toNat_natCast] at h2
        exact h2
noncomputable def inRow (L : Lot) : Key → Bool
  | .i n => decide (1 ≤ n) && decide (n ≤ L.row.length)
  | _ => false
theorem get_fc {g : Gl} (hg : HK g) {σ : AH} {k : Key} {l : List Nat} {t A N : Addr} {nd : List Addr} {L : Lot} {nxt : List Int} {sz lg : Int} {Q : Value → AH → Prop} (H : TabAt σ t A N nd L nxt sz lg) (hrl : L.row.length ≤ 1000) (hp : nd.length = 0 ∨ Pow nd.length) (hk : k.ok) (hl : nd.length ≠ 0 → Path nxt (homeI nd.length k) l)
    (h1 : inRow L k = true → Q (vo (L.row.getD (aidx k - 1).toNat none)) σ)
    (h2 : inRow L k = false → Q (vo (lookN L (atN nd L k l))) σ) : FC g 5 (.ref 259) [.ref t, k.v] σ Q := by
  refine fc_def (n := 4) (ds := []) [Str.ofString "self", Str.ofString "key"] [Str.ofString "at"] (by rw [hg]; exact rfl) (by rw [hg]; kernel_rfl) (fun vals hv s _ => ?_) rfl (by decide +kernel) (by decide +kernel) rfl rfl rfl (by decide +kernel) ?_
  · obtain ⟨a0, a1, rfl⟩ := len2 hv; exact BindsTo.of_eq rfl
  intro c ok hgl hroom hsc hloc
  have hcK : KOK c := by subst hgl; exact hg
  have hgc : HK c.gl := by rw [hgl]; exact hg
  simp only [startM, List.cons_append, List.nil_append, List.append_nil, List.map_nil, List.map_cons]
  have hT := H.inst
  have hN := H.nod
  have hA := H.arr
  have hnl : nd.length ≤ 1000 := by rcases hp with hp | hp; lia; unfold Pow at hp; lia
  repeat tb_rel
  refine if_b (fun hki => ?_) (fun hki => ?_)
  · cases k <;> simp only [Key.isInt, reduceCtorEq] at hki
    rename_i n
    show EXs c _ [(Str.ofString "self", some (.ref t)), (Str.ofString "key", some (vi n)), _] _ _
    repeat tb_rel
    refine ca_fcK 4 ok (by lia) (get_int_fc hgc H hrl hp hk hl (fun a1 a2 => ?_) (fun a1 => ?_))
    · repeat tb_rel
      exact h1 (by simp [inRow, a1, a2])
    · repeat tb_rel
      exact h2 (by unfold inRow; rw [Bool.and_eq_false_iff]; by_cases q : 1 ≤ n; right; simp; lia; left; simp; lia)
  · have h2 := h2 (by cases k <;> simp_all [inRow, Key.isInt])
    repeat tb_rel
    refine ca_fcK 3 ok (by lia) (find_node_fc hgc H hp hk hl ?_)
    obtain ⟨r1, r2⟩ := atN_range (L := L) (k := k) H.ln hl
    generalize atN nd L k l = p at h2 r1 r2
    repeat tb_rel
    by_cases hp0 : p < 0
    · refine if_t (decide_eq_true hp0) ?_
      repeat tb_rel
      unfold lookN at h2
      rw [if_pos hp0] at h2
      exact h2
    · refine if_f (decide_eq_false hp0) ?_
      obtain ⟨j, rfl⟩ : ∃ j : Nat, p = j := ⟨p.toNat, by lia⟩
      obtain ⟨a, ha⟩ : ∃ a, nd[j]? = some a := ⟨_, List.getElem?_eq_getElem (by lia)⟩
      have hn := H.node j a ha
      have hj3 : j < 1000 := by lia
      repeat tb_rel
      unfold lookN at h2
      rw [if_neg hp0, Int.toNat_natCast] at h2
      exact h2
/-- a key given its place, or none where there is no room -/
noncomputable def placed (L : Lot) (k : Key) (v : Option Int) : Option Lot :=
  if L.keys.length = 0 then none
  else
    let main := (homeI L.keys.length k).toNat
    if L.wA main = none then some { L with keys := L.keys.set main (some k), worth := L.worth.set main v }
    else match freeP L L.found, L.kA main with
      | some s, some kp =>
        if homeI L.keys.length kp = main then some { row := L.row, keys := L.keys.set s (some k), worth := L.worth.set s v, found := s }
        else some { row := L.row, keys := (L.keys.set s (some kp)).set main (some k), worth := (L.worth.set s (L.wA main)).set main v, found := s }
      | _, _ => none

/-! ## functions for lists -/
noncomputable def upd {α : Type} (f : Nat → α) (i : Nat) (v : α) : Nat → α := fun j => if j = i then v else f j
theorem getD_upd {α : Type} {l : List α} {i : Nat} {v d : α} (h : i < l.length) : (fun j => (l.set i v).getD j d) = upd (fun j => l.getD j d) i v := by
  funext j
  unfold upd
  by_cases e : j = i
  · subst e; rw [if_pos rfl]; exact getD_set_self h
  · rw [if_neg e]; exact getD_set_ne (Ne.symm e)
inductive Reach (n : Nat) (X : Nat → Int) : Nat → Nat → Prop
  | refl {i : Nat} : Reach n X i i
  | step {i j m : Nat} : i < n → X i = (j : Nat) → Reach n X j m → Reach n X i m
noncomputable def hN (n : Nat) (k : Key) : Nat := (homeI n k).toNat
theorem hN_lt {n : Nat} (h : 0 < n) (k : Key) : hN n k < n := by
  have := homeI_range h k; unfold hN; lia -abstractProof
theorem hN_eq {n : Nat} (h : 0 < n) (k : Key) : homeI n k = (hN n k : Nat) := by
  have := homeI_range h k; unfold hN; lia -abstractProof
/-- the keys' order among n places -/
structure InvF (n f : Nat) (K : Nat → Option Key) (W : Nat → Option Int) (X : Nat → Int) (rank : Nat → Nat) : Prop where
  fd : f ≤ n
  kl : ∀ i k, K i = some k → i < n
  uq : ∀ i j k, K i = some k → K j = some k → i = j
  wk : ∀ i, K i = none → W i = none
  up : ∀ i, f ≤ i → i < n → K i ≠ none
  hm : ∀ i k, K i = some k → ∃ k', K (hN n k) = some k' ∧ hN n k' = hN n k
  xr : ∀ i, i < n → X i = -1 ∨ ∃ j : Nat, X i = (j : Nat) ∧ j < n ∧ rank j < rank i
  inj : ∀ i i' (j : Nat), i < n → i' < n → X i = (j : Nat) → X i' = (j : Nat) → i = i'
  kx : ∀ i, i < n → K i = none → X i = -1
  kp : ∀ i (j : Nat), i < n → X i = (j : Nat) → K j ≠ none
  rc : ∀ i k, K i = some k → Reach n X (hN n k) i
theorem Reach.trans {n : Nat} {X : Nat → Int} {a b c : Nat} (h : Reach n X a b) (h' : Reach n X b c) : Reach n X a c := by
  induction h with
  | refl => exact h'
  | step h1 h2 _ ih => exact .step h1 h2 (ih h')
/-- a new place s behind m -/
theorem Reach.behind {n : Nat} {X : Nat → Int} {m s a b : Nat} (hm : m < n) (hs : s < n) (hms : m ≠ s) (hx : ∀ i, i < n → X i ≠ (s : Nat)) (has : a ≠ s)
    (h : Reach n X a b) : Reach n (upd (upd X s (X m)) m s) a b := by
  induction h with
  | refl => exact .refl
  | @step i j b h1 h2 _ ih =>
    have hj : j ≠ s := fun e => hx i h1 (by rw [h2, e])
    have ih := ih hj
    by_cases e : i = m
    · subst e
      refine .step (j := s) h1 (by unfold upd; rw [if_pos rfl]) (.step hs (j := j) ?_ ih)
      unfold upd; rw [if_neg (Ne.symm hms), if_pos rfl]; exact h2
    · exact .step h1 (by unfold upd; rw [if_neg e, if_neg has]; exact h2) ih
/-- the place m left by s -/
theorem Reach.instead {n : Nat} {X : Nat → Int} {m s o a b : Nat} (hm : m < n) (hs : s < n) (hms : m ≠ s) (hom : o ≠ m) (hos : o ≠ s) (hx : ∀ i, i < n → X i ≠ (s : Nat)) (ho : X o = (m : Nat)) (hon : o < n)
    (hu : ∀ i, i < n → X i = (m : Nat) → i = o) (has : a ≠ s) (ham : a ≠ m)
    (h : Reach n X a b) : Reach n (upd (upd (upd X o s) s (X m)) m (-1)) a (if b = m then s else b) := by
  have key : ∀ a, Reach n X a b → a ≠ s → Reach n (upd (upd (upd X o s) s (X m)) m (-1)) (if a = m then s else a) (if b = m then s else b) := by
    clear h ham has
    intro a h
    induction h with
    | refl => intro _; exact .refl
    | @step i j b h1 h2 _ ih =>
      intro has
      have hj : j ≠ s := fun e => hx i h1 (by rw [h2, e])
      have ih := ih hj
      by_cases e : i = m
      · subst e
        rw [if_pos rfl]
        have hji : (if j = i then s else j) = j ∨ j = i := by
          by_cases q : j = i
          · exact .inr q
          · exact .inl (if_neg q)
        rcases hji with q | q
        · rw [q] at ih
          exact .step hs (j := j) (by unfold upd; rw [if_neg (Ne.symm hms), if_pos rfl]; exact h2) ih
        · exact absurd (hu i h1 (by rw [h2, q])) (Ne.symm hom)
      · rw [if_neg e]
        by_cases eo : i = o
        · have : j = m := by rw [eo, ho] at h2; lia -abstractProof
          subst this
          rw [if_pos rfl] at ih
          exact .step h1 (j := s) (by unfold upd; rw [if_neg e, if_neg has, if_pos eo]) ih
        · have q : j ≠ m := fun q => eo (hu i h1 (by rw [h2, q]))
          rw [if_neg q] at ih
          exact .step h1 (by unfold upd; rw [if_neg e, if_neg has, if_neg eo]; exact h2) ih
  have := key a h has
  rw [if_neg ham] at this; exact this
section
variable {n f : Nat} {K : Nat → Option Key} {W : Nat → Option Int} {X : Nat → Int} {rank : Nat → Nat} {k : Key} {v : Option Int}
theorem upd_at {α : Type} (g : Nat → α) (i : Nat) (a : α) : upd g i a i = a := if_pos rfl
theorem upd_off {α : Type} (g : Nat → α) {i j : Nat} (a : α) (h : j ≠ i) : upd g i a j = g j := if_neg h
theorem upd_get {α : Type} {g : Nat → α} {i j : Nat} {a b : α} (h : upd g i a j = b) : (j = i ∧ a = b) ∨ (j ≠ i ∧ g j = b) :=
  (Decidable.em (j = i)).elim (fun e => .inl ⟨e, (if_pos e).symm.trans h⟩) fun e => .inr ⟨e, (if_neg e).symm.trans h⟩
theorem upd_nn {g : Nat → Option Key} {i j : Nat} {a : Key} (h : g j ≠ none) : upd g i (some a) j ≠ none := fun q =>
  (upd_get q).elim (fun e => nomatch e.2) fun e => h e.2
theorem upd_an (g : Nat → Option Key) (i : Nat) (a : Key) : upd g i (some a) i ≠ none := fun q => by rw [upd_at] at q; cases q
theorem InvF.free (I : InvF n f K W X rank) (hn : 0 < n) (hk : ∀ i, K i ≠ some k) : InvF n f (upd K (hN n k) (some k)) (upd W (hN n k) v) X rank := by
  have hl := hN_lt hn k
  obtain ⟨fd, kl, uq, wk, up, hm, xr, inj, kx, kp, rc⟩ := I
  generalize hM : hN n k = M at hl ⊢
  refine ⟨fd, fun i kk h => ?_, fun i j kk h h' => ?_, fun i h => ?_, fun i h1 h2 => upd_nn (up i h1 h2), fun i kk h => ?_, xr, inj, fun i hi h => ?_, fun i j hi h => upd_nn (kp i j hi h), fun i kk h => ?_⟩
  · rcases upd_get h with e | e
    · rw [e.1]; exact hl
    · exact kl i kk e.2
  · rcases upd_get h with e | e <;> rcases upd_get h' with e' | e'
    · exact e.1.trans e'.1.symm
    · exact absurd (e'.2.trans e.2.symm) (hk j)
    · exact absurd (e.2.trans e'.2.symm) (hk i)
    · exact uq i j kk e.2 e'.2
  · rcases upd_get h with e | e
    · cases e.2
    · rw [upd_off _ _ e.1]; exact wk i e.2
  · rcases upd_get h with e | e
    · cases e.2; rw [hM, upd_at]; exact ⟨k, rfl, hM⟩
    · obtain ⟨k', h1, h2⟩ := hm i kk e.2
      by_cases e2 : hN n kk = M
      · rw [e2, upd_at]; exact ⟨k, rfl, hM⟩
      · rw [upd_off _ _ e2]; exact ⟨k', h1, h2⟩
  · rcases upd_get h with e | e
    · cases e.2
    · exact kx i hi e.2
  · rcases upd_get h with e | e
    · cases e.2; rw [hM, e.1]; exact .refl
    · exact rc i kk e.2
theorem InvF.home (I : InvF n f K W X rank) (hn : 0 < n) (hk : ∀ i, K i ≠ some k) {s : Nat} (hs : s < f) (hsk : K s = none) (hu : ∀ i, s < i → i < f → K i ≠ none) {kp : Key} (hkp : K (hN n k) = some kp) (hh : hN n kp = hN n k) :
    InvF n s (upd K s (some k)) (upd W s v) (upd (upd X s (X (hN n k))) (hN n k) s) (fun i => if i = s then 2 * rank (hN n k) + 1 else 2 * rank i + 2) := by
  have hl := hN_lt hn k
  obtain ⟨fd, kl, uq, wk, up, hm, xr, inj, kx, kp', rc⟩ := I
  generalize hM : hN n k = M at *
  have hms : M ≠ s := fun e => by rw [e, hsk] at hkp; cases hkp
  have hx : ∀ i, i < n → X i ≠ (s : Nat) := fun i hi e => kp' i s hi e hsk
  have hsn : s < n := Nat.lt_of_lt_of_le hs fd
  have cX : ∀ i (j : Int), upd (upd X s (X M)) M s i = j → (i = M ∧ (s : Int) = j) ∨ (i = s ∧ X M = j) ∨ (i ≠ M ∧ i ≠ s ∧ X i = j) := fun i j h =>
    (upd_get h).imp_right fun e => (upd_get e.2).imp_right fun e' => ⟨e.1, e'⟩
  refine ⟨Nat.le_of_lt hsn, fun i kk h => ?_, fun i j kk h h' => ?_, fun i h => ?_, fun i h1 h2 => ?_, fun i kk h => ?_, fun i hi => ?_, fun i i' j hi hi' h h' => ?_, fun i hi h => ?_, fun i j hi h => ?_, fun i kk h => ?_⟩
  · rcases upd_get h with e | e
    · rw [e.1]; exact hsn
    · exact kl i kk e.2
  · rcases upd_get h with e | e <;> rcases upd_get h' with e' | e'
    · exact e.1.trans e'.1.symm
    · exact absurd (e'.2.trans e.2.symm) (hk j)
    · exact absurd (e.2.trans e'.2.symm) (hk i)
    · exact uq i j kk e.2 e'.2
  · rcases upd_get h with e | e
    · cases e.2
    · rw [upd_off _ _ e.1]; exact wk i e.2
  · by_cases e : i = s
    · rw [e]; exact upd_an _ _ _
    · refine upd_nn ?_
      by_cases q : i < f
      · exact hu i (Nat.lt_of_le_of_ne h1 (Ne.symm e)) q
      · exact up i (Nat.le_of_not_lt q) h2
  · rcases upd_get h with e | e
    · cases e.2; rw [hM, upd_off _ _ hms]; exact ⟨kp, hkp, hh⟩
    · obtain ⟨k', h1, h2⟩ := hm i kk e.2
      rw [upd_off _ _ (fun q => by rw [q, hsk] at h1; cases h1)]; exact ⟨k', h1, h2⟩
  · rcases cX i _ rfl with ⟨e, q⟩ | ⟨e, q⟩ | ⟨e, e2, q⟩
    · rw [← q]
      refine .inr ⟨s, rfl, hsn, ?_⟩
      rw [if_pos rfl, if_neg (by rw [e]; exact hms), e]
      exact Nat.lt_succ_self _
    · rw [← q]
      refine (xr _ hl).imp_right fun ⟨j, h1, h2, h3⟩ => ⟨j, h1, h2, ?_⟩
      rw [if_pos e, if_neg (fun q => hx _ hl (by rw [h1, q]))]; lia -abstractProof
    · rw [← q]
      refine (xr _ hi).imp_right fun ⟨j, h1, h2, h3⟩ => ⟨j, h1, h2, ?_⟩
      rw [if_neg e2, if_neg (fun q => hx _ hi (by rw [h1, q]))]; lia -abstractProof
  · rcases cX i _ h with ⟨e, q⟩ | ⟨e, q⟩ | ⟨e, e2, q⟩ <;> rcases cX i' _ h' with ⟨e', q'⟩ | ⟨e', q'⟩ | ⟨e', e2', q'⟩
    · exact e.trans e'.symm
    · exact absurd (q'.trans q.symm) (hx _ hl)
    · exact absurd (q'.trans q.symm) (hx _ hi')
    · exact absurd (q.trans q'.symm) (hx _ hl)
    · exact e.trans e'.symm
    · exact absurd (inj i' M j hi' hl q' q) e'
    · exact absurd (q.trans q'.symm) (hx _ hi)
    · exact absurd (inj i M j hi hl q q') e
    · exact inj i i' j hi hi' q q'
  · rcases upd_get h with e | e
    · cases e.2
    · rw [upd_off _ _ (fun q => by rw [q, hkp] at e; cases e.2), upd_off _ _ e.1]; exact kx i hi e.2
  · rcases cX i _ h with ⟨e, q⟩ | ⟨e, q⟩ | ⟨e, e2, q⟩
    · rw [← Int.ofNat.inj q]; exact upd_an _ _ _
    · exact upd_nn (kp' _ j hl q)
    · exact upd_nn (kp' i j hi q)
  · rcases upd_get h with e | e
    · cases e.2; rw [e.1, hM]
      exact .step hl (j := s) (upd_at _ _ _) .refl
    · refine Reach.behind hl hsn hms hx ?_ (rc i kk e.2)
      intro q
      obtain ⟨k', h1, h2⟩ := hm i kk e.2
      rw [q, hsk] at h1; cases h1
theorem InvF.away (I : InvF n f K W X rank) (hn : 0 < n) (hk : ∀ i, K i ≠ some k) {s o : Nat} (hs : s < f) (hsk : K s = none) (hu : ∀ i, s < i → i < f → K i ≠ none) {kp : Key} (hkp : K (hN n k) = some kp) (hh : hN n kp ≠ hN n k)
    (ho : X o = (hN n k : Nat)) (hon : o < n) (hom : o ≠ hN n k) (hwm : W (hN n k) ≠ none) :
    InvF n s (upd (upd K s (some kp)) (hN n k) (some k)) (upd (upd W s (W (hN n k))) (hN n k) v) (upd (upd (upd X o s) s (X (hN n k))) (hN n k) (-1)) (fun i => if i = s then rank (hN n k) else rank i) := by
  have hl := hN_lt hn k
  obtain ⟨fd, kl, uq, wk, up, hm, xr, inj, kx, kp', rc⟩ := I
  generalize hM : hN n k = M at *
  have hms : M ≠ s := fun e => by rw [e, hsk] at hkp; cases hkp
  have hx : ∀ i, i < n → X i ≠ (s : Nat) := fun i hi e => kp' i s hi e hsk
  have hos : o ≠ s := fun e => by rw [e] at ho hon; rw [kx s hon hsk] at ho; cases ho
  have hsn : s < n := Nat.lt_of_lt_of_le hs fd
  have hnm : ∀ i kk, K i = some kk → hN n kk ≠ M := fun i kk h e => by
    obtain ⟨k', h1, h2⟩ := hm i kk h
    rw [e, hkp] at h1; cases h1; rw [e] at h2; exact hh h2
  have hns : ∀ i kk, K i = some kk → hN n kk ≠ s := fun i kk h e => by
    obtain ⟨k', h1, h2⟩ := hm i kk h
    rw [e, hsk] at h1; cases h1
  have hou : ∀ i, i < n → X i = (M : Nat) → i = o := fun i hi e => inj i o _ hi hon e ho
  have cK : ∀ i kk, upd (upd K s (some kp)) M (some k) i = some kk → (i = M ∧ k = kk) ∨ (i = s ∧ kp = kk) ∨ (i ≠ M ∧ K i = some kk) := fun i kk h =>
    (upd_get h).elim (fun e => .inl ⟨e.1, Option.some.inj e.2⟩) fun e => .inr ((upd_get e.2).elim (fun e' => .inl ⟨e'.1, Option.some.inj e'.2⟩) fun e' => .inr ⟨e.1, e'.2⟩)
  have cN : ∀ i, upd (upd K s (some kp)) M (some k) i = none → i ≠ M ∧ i ≠ s ∧ K i = none := fun i h =>
    (upd_get h).elim (fun e => nomatch e.2) fun e => (upd_get e.2).elim (fun e' => nomatch e'.2) fun e' => ⟨e.1, e'⟩
  have cX : ∀ i (j : Int), upd (upd (upd X o s) s (X M)) M (-1) i = j → (i = M ∧ -1 = j) ∨ (i = s ∧ X M = j) ∨ (i = o ∧ (s : Int) = j) ∨ (i ≠ M ∧ i ≠ s ∧ X i = j) := fun i j h =>
    (upd_get h).imp_right fun e => (upd_get e.2).imp_right fun e' => (upd_get e'.2).imp_right fun e'' => ⟨e.1, e'.1, e''.2⟩
  have hK : ∀ i, K i ≠ none → upd (upd K s (some kp)) M (some k) i ≠ none := fun i h q => h (cN i q).2.2
  refine ⟨Nat.le_of_lt hsn, fun i kk h => ?_, fun i j kk h h' => ?_, fun i h => ?_, fun i h1 h2 q => ?_, fun i kk h => ?_, fun i hi => ?_, fun i i' j hi hi' h h' => ?_, fun i hi h => ?_, fun i j hi h => ?_, fun i kk h => ?_⟩
  · rcases cK i kk h with e | e | e
    · rw [e.1]; exact hl
    · rw [e.1]; exact hsn
    · exact kl i kk e.2
  · have hne : k ≠ kp := fun e => hk M (e ▸ hkp)
    rcases cK i kk h with e | e | e <;> rcases cK j kk h' with e' | e' | e'
    · exact e.1.trans e'.1.symm
    · exact absurd (e.2.trans e'.2.symm) hne
    · exact absurd (e'.2.trans (congrArg some e.2.symm)) (hk j)
    · exact absurd (e'.2.trans e.2.symm) hne
    · exact e.1.trans e'.1.symm
    · exact absurd (uq j M kk e'.2 (hkp.trans (congrArg some e.2))) e'.1
    · exact absurd (e.2.trans (congrArg some e'.2.symm)) (hk i)
    · exact absurd (uq i M kk e.2 (hkp.trans (congrArg some e'.2))) e.1
    · exact uq i j kk e.2 e'.2
  · obtain ⟨e1, e2, e3⟩ := cN i h
    rw [upd_off _ _ e1, upd_off _ _ e2]; exact wk i e3
  · obtain ⟨e1, e2, e3⟩ := cN i q
    by_cases q : i < f
    · exact hu i (Nat.lt_of_le_of_ne h1 (Ne.symm e2)) q e3
    · exact up i (Nat.le_of_not_lt q) h2 e3
  · rcases upd_get h with e | e
    · cases e.2; rw [hM, upd_at]; exact ⟨k, rfl, hM⟩
    · have : ∃ j, K j = some kk := (upd_get e.2).elim (fun e' => ⟨M, hkp.trans e'.2⟩) fun e' => ⟨i, e'.2⟩
      obtain ⟨j, hj⟩ := this
      rw [upd_off _ _ (hnm j kk hj), upd_off _ _ (hns j kk hj)]
      exact hm j kk hj
  · rcases cX i _ rfl with ⟨e, q⟩ | ⟨e, q⟩ | ⟨e, q⟩ | ⟨e, e2, q⟩
    · exact .inl q.symm
    · rw [← q]
      refine (xr _ hl).imp_right fun ⟨j, h1, h2, h3⟩ => ⟨j, h1, h2, ?_⟩
      rw [if_pos e, if_neg (fun q => hx _ hl (by rw [h1, q]))]; exact h3
    · rw [← q]
      refine .inr ⟨s, rfl, hsn, ?_⟩
      rw [if_pos rfl, if_neg (by rw [e]; exact hos), e]
      rcases xr o hon with h | ⟨j, h1, h2, h3⟩
      · rw [ho] at h; cases h
      · rw [← Int.ofNat.inj (ho.symm.trans h1)] at h3; exact h3
    · rw [← q]
      refine (xr _ hi).imp_right fun ⟨j, h1, h2, h3⟩ => ⟨j, h1, h2, ?_⟩
      rw [if_neg e2, if_neg (fun q => hx _ hi (by rw [h1, q]))]; exact h3
  · rcases cX i _ h with ⟨e, q⟩ | ⟨e, q⟩ | ⟨e, q⟩ | ⟨e, e2, q⟩
    · cases q
    · rcases cX i' _ h' with ⟨e', q'⟩ | ⟨e', q'⟩ | ⟨e', q'⟩ | ⟨e', e2', q'⟩
      · cases q'
      · exact e.trans e'.symm
      · exact absurd (q.trans q'.symm) (hx _ hl)
      · exact absurd (inj i' M j hi' hl q' q) e'
    · rcases cX i' _ h' with ⟨e', q'⟩ | ⟨e', q'⟩ | ⟨e', q'⟩ | ⟨e', e2', q'⟩
      · cases q'
      · exact absurd (q'.trans q.symm) (hx _ hl)
      · exact e.trans e'.symm
      · exact absurd (q'.trans q.symm) (hx _ hi')
    · rcases cX i' _ h' with ⟨e', q'⟩ | ⟨e', q'⟩ | ⟨e', q'⟩ | ⟨e', e2', q'⟩
      · cases q'
      · exact absurd (inj i M j hi hl q q') e
      · exact absurd (q.trans q'.symm) (hx _ hi)
      · exact inj i i' j hi hi' q q'
  · obtain ⟨e1, e2, e3⟩ := cN i h
    rw [upd_off _ _ e1, upd_off _ _ e2, upd_off _ _ (fun q => by rw [q] at e3; rw [kx o hon e3] at ho; cases ho)]
    exact kx i hi e3
  · rcases cX i _ h with ⟨e, q⟩ | ⟨e, q⟩ | ⟨e, q⟩ | ⟨e, e2, q⟩
    · cases q
    · exact hK j (kp' _ j hl q)
    · rw [← Int.ofNat.inj q]; intro q; exact (cN s q).2.1 rfl
    · exact hK j (kp' i j hi q)
  · rcases cK i kk h with e | e | e
    · rw [← e.2, hM, e.1]; exact .refl
    · have := Reach.instead hl hsn hms hom hos hx ho hon hou (hns _ _ hkp) (hnm _ _ hkp) (rc _ _ hkp)
      rw [if_pos rfl] at this
      rw [e.1, ← e.2]; exact this
    · have := Reach.instead hl hsn hms hom hos hx ho hon hou (hns _ _ e.2) (hnm _ _ e.2) (rc _ _ e.2)
      rw [if_neg e.1] at this
      exact this
end
structure Inv (n : Nat) (L : Lot) (nxt : List Int) : Prop where
  np : n = 0 ∨ Pow n
  lk : L.keys.length = n
  lw : L.worth.length = n
  ln : nxt.length = n
  F : ∃ rank, InvF n L.found L.kA L.wA (xA nxt) rank
  ok : ∀ i k, L.kA i = some k → k.ok
  nr : ∀ i k, L.kA i = some k → inRow L k = false
theorem path_ex {n f : Nat} {K : Nat → Option Key} {W : Nat → Option Int} {nxt : List Int} {rank : Nat → Nat} (I : InvF n f K W (xA nxt) rank) (ln : nxt.length = n) :
    ∀ (r i : Nat), rank i < r → i < n → ∃ l, Path nxt (i : Nat) l
  | 0, i, h, _ => by lia
  | r + 1, i, h, hi => by
    rcases I.xr i hi with e | ⟨j, e, h2, h3⟩
    · refine ⟨[i], rfl, by lia, ?_⟩
      rw [e]; show (-1 : Int) < 0; lia
    · obtain ⟨l, hl⟩ := path_ex I ln r j (by lia) h2
      exact ⟨i :: l, rfl, by lia, by rw [e]; exact hl⟩
theorem Reach.mem {n : Nat} {nxt : List Int} {i m : Nat} (h : Reach n (xA nxt) i m) : ∀ {l : List Nat}, Path nxt (i : Nat) l → m ∈ l := by
  induction h with
  | @refl i =>
    intro l hl
    cases l with
    | nil => have : (i : Int) < 0 := hl; lia
    | cons a l =>
      have e : i = a := Int.ofNat.inj hl.1
      subst e; exact List.mem_cons_self
  | @step i j m h1 h2 _ ih =>
    intro l hl
    cases l with
    | nil => have : (i : Int) < 0 := hl; lia
    | cons a l =>
      obtain ⟨e, _, hp⟩ := hl
      have e : i = a := Int.ofNat.inj e
      subst e
      rw [h2] at hp
      exact .tail _ (ih hp)
theorem pfind_mem {L : Lot} {k : Key} {m : Nat} (hm : L.kA m = some k) (uq : ∀ i, L.kA i = some k → i = m) : ∀ {l : List Nat}, m ∈ l → pfind L k l = m
  | i :: l, h => by
    by_cases e : L.kA i = some k
    · rw [pfind_eq e, uq i e]
    · rw [pfind_ne e]
      rcases List.mem_cons.mp h with q | q
      · rw [← q] at e; exact absurd hm e
      · exact pfind_mem hm uq q
theorem pfind_none {L : Lot} {k : Key} (hm : ∀ i, L.kA i ≠ some k) : ∀ {l : List Nat}, pfind L k l = -1
  | [] => rfl
  | i :: l => by rw [pfind_ne (hm i)]; exact pfind_none hm
theorem freeP_high {L : Lot} : ∀ {m s : Nat}, freeP L m = some s → ∀ i, s < i → i < m → L.kA i ≠ none
  | m + 1, s, h, i, h1, h2 => by
    unfold freeP at h
    split at h
    · cases h; lia
    · rename_i hk
      by_cases e : i = m
      · rw [e]; exact hk
      · exact freeP_high h i h1 (by lia)
theorem freeP_some {L : Lot} : ∀ {m i : Nat}, i < m → L.kA i = none → ∃ s, freeP L m = some s
  | m + 1, i, h, hk => by
    unfold freeP
    split
    · exact ⟨_, rfl⟩
    · rename_i hm
      have e : i ≠ m := fun e => by rw [e] at hk; exact absurd hk hm
      exact freeP_some (i := i) (by lia) hk
theorem Reach.walk {n : Nat} {nxt : List Int} (hl : nxt.length = n) {a m : Nat} (h : Reach n (xA nxt) a m) : a ≠ m → ∃ pre o, Walk nxt m a pre o ∧ o < n ∧ xA nxt o = (m : Nat) := by
  induction h with
  | refl => intro h; exact absurd rfl h
  | @step i j m h1 h2 _ ih =>
    intro _
    by_cases e : j = m
    · subst e
      exact ⟨[], i, ⟨rfl, by lia, h2⟩, h1, h2⟩
    · obtain ⟨pre, o, hw, ho, hx⟩ := ih e
      exact ⟨j :: pre, o, ⟨by lia, by rw [h2]; lia, h2, hw⟩, ho, hx⟩
theorem kA_set {l : List (Option Key)} {r : List (Option Int)} {w : List (Option Int)} {f i : Nat} {k : Option Key} (h : i < l.length) : Lot.kA ⟨r, l.set i k, w, f⟩ = upd (Lot.kA ⟨r, l, w, f⟩) i k := getD_upd h
theorem wA_set {l : List (Option Key)} {r : List (Option Int)} {w : List (Option Int)} {f i : Nat} {k : Option Int} (h : i < w.length) : Lot.wA ⟨r, l, w.set i k, f⟩ = upd (Lot.wA ⟨r, l, w, f⟩) i k := getD_upd h
theorem xA_set {l : List Int} {i : Nat} {k : Int} (h : i < l.length) : xA (l.set i k) = upd (xA l) i k := getD_upd h
theorem placed_row {L L' : Lot} {k : Key} {v : Option Int} (h : placed L k v = some L') : L'.row = L.row ∧ L'.keys.length = L.keys.length := by
  unfold placed at h
  split at h
  · cases h
  · dsimp only at h
    split at h
    · cases h; simp
    · split at h
      · split at h <;> (cases h; simp)
      · cases h
theorem nk_step {n : Nat} {L : Lot} {nxt : List Int} {k : Key} {v : Option Int} (I : Inv n L nxt) (hn : 0 < n) (hk : k.ok) (hnew : ∀ i, L.kA i ≠ some k) (hr : inRow L k = false) (hroom : placed L k v ≠ none) :
    ∃ L' nxt', NK n L nxt k v (hN n k) L' nxt' ∧ placed L k v = some L' ∧ Inv n L' nxt' ∧ L'.row = L.row ∧ (∀ i k', L'.kA i = some k' → k' = k ∨ ∃ j, L.kA j = some k') ∧ (∃ i, L'.kA i = some k ∧ L'.wA i = v) := by
  obtain ⟨np, lk, lw, ln, ⟨rank, F⟩, ok, nr⟩ := I
  obtain ⟨row, keys, worth, found⟩ := L
  dsimp only at lk lw F
  have hl := hN_lt hn k
  have hfin : ∀ L' nxt', NK n ⟨row, keys, worth, found⟩ nxt k v (hN n k) L' nxt' → placed ⟨row, keys, worth, found⟩ k v = some L' → L'.worth.length = n → nxt'.length = n →
      (∃ rank, InvF n L'.found L'.kA L'.wA (xA nxt') rank) → (∀ i k', L'.kA i = some k' → k' = k ∨ ∃ j, Lot.kA ⟨row, keys, worth, found⟩ j = some k') → (∃ i, L'.kA i = some k ∧ L'.wA i = v) →
      ∃ L' nxt', NK n ⟨row, keys, worth, found⟩ nxt k v (hN n k) L' nxt' ∧ placed ⟨row, keys, worth, found⟩ k v = some L' ∧ Inv n L' nxt' ∧ L'.row = row ∧ (∀ i k', L'.kA i = some k' → k' = k ∨ ∃ j, Lot.kA ⟨row, keys, worth, found⟩ j = some k') ∧ (∃ i, L'.kA i = some k ∧ L'.wA i = v) := by
    intro L' nxt' h1 h2 h3 h4 h5 h6 h7
    have hp := placed_row h2
    have hri : ∀ k', inRow L' k' = inRow ⟨row, keys, worth, found⟩ k' := fun k' => by cases k' <;> simp [inRow, hp.1]
    refine ⟨L', nxt', h1, h2, ⟨np, by rw [hp.2]; exact lk, h3, h4, h5, fun i k' e => ?_, fun i k' e => ?_⟩, hp.1, h6, h7⟩
    · rcases h6 i k' e with rfl | ⟨j, hj⟩
      · exact hk
      · exact ok j k' hj
    · rw [hri]
      rcases h6 i k' e with rfl | ⟨j, hj⟩
      · exact hr
      · exact nr j k' hj
  have hup : ∀ {K : Nat → Option Key} {i j : Nat} {k1 k' : Key}, upd K i (some k1) j = some k' → k' = k1 ∨ K j = some k' := by
    intro K i j k1 k' h
    unfold upd at h
    split at h
    · cases h; exact .inl rfl
    · exact .inr h
  have hpl : placed ⟨row, keys, worth, found⟩ k v = (if Lot.wA ⟨row, keys, worth, found⟩ (hN n k) = none then some ⟨row, keys.set (hN n k) (some k), worth.set (hN n k) v, found⟩
      else match freeP ⟨row, keys, worth, found⟩ found, Lot.kA ⟨row, keys, worth, found⟩ (hN n k) with
      | some s, some kp =>
        if homeI n kp = (hN n k : Nat) then some ⟨row, keys.set s (some k), worth.set s v, s⟩
        else some ⟨row, (keys.set s (some kp)).set (hN n k) (some k), (worth.set s (Lot.wA ⟨row, keys, worth, found⟩ (hN n k))).set (hN n k) v, s⟩
      | _, _ => none) := by
    unfold placed
    rw [if_neg (by show ¬ keys.length = 0; lia)]
    dsimp only
    rw [lk]
    rfl
  by_cases hw : Lot.wA ⟨row, keys, worth, found⟩ (hN n k) = none
  · rw [if_pos hw] at hpl
    refine hfin _ nxt (.free hw) hpl (by simp; lia) ln ?_ ?_ ⟨hN n k, getD_set_self (by dsimp only; lia), getD_set_self (by dsimp only; lia)⟩
    · refine ⟨rank, ?_⟩
      dsimp only
      rw [kA_set (by lia), wA_set (by lia)]
      exact F.free hn hnew
    · intro i k' e
      dsimp only at e
      rw [kA_set (by lia)] at e
      rcases hup e with q | q
      · exact .inl q
      · exact .inr ⟨i, q⟩
  · rw [if_neg hw] at hpl
    have hkm : ∃ kp, Lot.kA ⟨row, keys, worth, found⟩ (hN n k) = some kp := by
      cases e : Lot.kA ⟨row, keys, worth, found⟩ (hN n k) with
      | none => exact absurd (F.wk _ e) hw
      | some kp => exact ⟨kp, rfl⟩
    obtain ⟨kp, hkp⟩ := hkm
    rw [hkp] at hpl
    cases hf : freeP ⟨row, keys, worth, found⟩ found with
    | none => rw [hf] at hpl; exact absurd hpl hroom
    | some s =>
      rw [hf] at hpl
      dsimp only at hpl
      have hs := freeP_lt hf
      have hsk := freeP_none hf
      have hsh := freeP_high hf
      have hsn : s < n := by have := F.fd; lia
      have hms : hN n k ≠ s := fun e => by rw [e, hsk] at hkp; cases hkp
      by_cases hh : hN n kp = hN n k
      · rw [if_pos (by rw [hN_eq hn kp, hh])] at hpl
        refine hfin _ _ (.home hw hf hkp (by rw [hN_eq hn kp, hh])) hpl (by simp; lia) (by simp; lia) ?_ ?_ ⟨s, getD_set_self (by dsimp only; lia), getD_set_self (by dsimp only; lia)⟩
        · refine ⟨fun i => if i = s then 2 * rank (hN n k) + 1 else 2 * rank i + 2, ?_⟩
          dsimp only
          rw [kA_set (by lia), wA_set (by lia), xA_set (by simp; lia), xA_set (by lia)]
          exact F.home hn hnew hs hsk hsh hkp hh
        · intro i k' e
          dsimp only at e
          rw [kA_set (by lia)] at e
          rcases hup e with q | q
          · exact .inl q
          · exact .inr ⟨i, q⟩
      · rw [if_neg (by rw [hN_eq hn kp]; lia)] at hpl
        have hrw := (F.rc _ _ hkp).walk ln hh
        obtain ⟨pre, o, hwk, hon, hox⟩ := hrw
        have hom : o ≠ hN n k := fun e => by
          rcases F.xr o hon with q | ⟨j, q1, q2, q3⟩
          · lia
          · have : j = o := by lia
            rw [this] at q3; lia
        have hos : o ≠ s := fun e => by rw [e] at hox hon; rw [F.kx s hon hsk] at hox; lia
        have hxm : upd (xA nxt) o (s : Nat) (hN n k) = xA nxt (hN n k) := by
          unfold upd; rw [if_neg (Ne.symm hom)]
        refine hfin _ _ (.away hw hf hkp (by rw [hN_eq hn kp]; lia) hwk hom) ?_ (by simp; lia) (by simp; lia) ?_ ?_ ⟨hN n k, getD_set_self (by simp; lia), getD_set_self (by simp; lia)⟩
        · rw [hpl]; simp [List.set_set]
        · refine ⟨fun i => if i = s then rank (hN n k) else rank i, ?_⟩
          dsimp only
          rw [kA_set (by simp; lia), kA_set (by lia), List.set_set, wA_set (by simp; lia), wA_set (by lia), xA_set (by simp; lia), xA_set (by simp; lia), xA_set (by lia), hxm]
          exact F.away hn hnew hs hsk hsh hkp hh hox hon hom hw
        · intro i k' e
          dsimp only at e
          rw [kA_set (by simp; lia), kA_set (by lia)] at e
          rcases hup e with q | q
          · exact .inl q
          · rcases hup q with q | q
            · exact .inr ⟨_, by rw [q]; exact hkp⟩
            · exact .inr ⟨i, q⟩
noncomputable def cS {α : Type} (l : List (Option α)) : Nat := l.countP Option.isSome
theorem cS_set {α : Type} (l : List (Option α)) (i : Nat) (v : Option α) : cS (l.set i v) ≤ cS l + 1 := by
  unfold cS
  by_cases h : i < l.length
  · rw [List.countP_set h]; split <;> split <;> lia -abstractProof
  · rw [List.set_eq_of_length_le (by lia -abstractProof)]; lia -abstractProof
theorem getD_at {α : Type} {l : List (Option α)} {i : Nat} (h : i < l.length) : l.getD i none = l[i] := by
  rw [List.getD_eq_getElem?_getD, List.getElem?_eq_getElem h]; rfl
theorem cS_set' {α : Type} (l : List (Option α)) {i : Nat} {v : Option α} (h : l.getD i none ≠ none) : cS (l.set i v) ≤ cS l := by
  unfold cS
  by_cases hl : i < l.length
  · rw [getD_at hl] at h
    have hp : 0 < List.countP Option.isSome l := List.countP_pos_iff.mpr ⟨l[i], List.getElem_mem hl, by cases e : l[i] with | none => exact absurd e h | some x => rfl⟩
    rw [List.countP_set hl]
    cases e : l[i] with
    | none => exact absurd e h
    | some x => simp only [Option.isSome_some, if_pos]; split <;> lia -abstractProof
  · rw [List.set_eq_of_length_le (by lia -abstractProof)]; lia -abstractProof
theorem cS_lt {α : Type} : ∀ {l : List (Option α)}, cS l < l.length → ∃ i, i < l.length ∧ l.getD i none = none
  | [], h => by unfold cS at h; simp at h
  | none :: l, _ => ⟨0, by simp, rfl⟩
  | some a :: l, h => by
    have h' : cS l < l.length := by unfold cS at h ⊢; simp at h ⊢; lia -abstractProof
    obtain ⟨i, h1, h2⟩ := cS_lt h'
    exact ⟨i + 1, by simp; lia -abstractProof, by simpa using h2⟩
theorem placed_cnt {L L' : Lot} {k : Key} {v : Option Int} (h : placed L k v = some L') (hwk : ∀ i, L.kA i = none → L.wA i = none) : cS L'.keys ≤ cS L.keys + 1 ∧ cS L'.worth ≤ cS L.worth + 1 := by
  unfold placed at h
  split at h
  · cases h
  · dsimp only at h
    generalize (homeI L.keys.length k).toNat = M at h
    split at h
    · cases h; exact ⟨cS_set .., cS_set ..⟩
    · rename_i hw
      split at h
      · rename_i s kp hf hk
        split at h
        · cases h; exact ⟨cS_set .., cS_set ..⟩
        · cases h
          have hms : s ≠ M := fun e => by
            have := freeP_none hf
            rw [e] at this; exact hw (hwk _ this)
          have h1 : (L.keys.set s (some kp)).getD M none ≠ none := by
            rw [getD_set_ne hms]; intro e; rw [Lot.kA, e] at hk; cases hk
          have h2 : (L.worth.set s (L.wA M)).getD M none ≠ none := by
            rw [getD_set_ne hms]; exact hw
          have a1 := cS_set' (v := some k) _ h1
          have a2 := cS_set' (v := v) _ h2
          have a3 := cS_set L.keys s (some kp)
          have a4 := cS_set L.worth s (L.wA M)
          exact ⟨by dsimp only; lia -abstractProof, by dsimp only; lia -abstractProof⟩
      · cases h
theorem placed_room {n : Nat} {L : Lot} {nxt : List Int} {k : Key} {v : Option Int} (I : Inv n L nxt) (hc : cS L.keys < n) : placed L k v ≠ none := by
  obtain ⟨np, lk, lw, ln, ⟨rank, F⟩, ok, nr⟩ := I
  unfold placed
  rw [if_neg (by lia -abstractProof)]
  generalize (homeI L.keys.length k).toNat = M
  dsimp only
  split
  · exact fun h => by cases h
  · rename_i hw
    obtain ⟨i, h1, h2⟩ := cS_lt (l := L.keys) (by lia -abstractProof)
    have hif : i < L.found := by
      by_cases q : i < L.found
      · exact q
      · exact absurd h2 (F.up i (by lia -abstractProof) (by lia -abstractProof))
    obtain ⟨s, hs⟩ := freeP_some hif h2
    rw [hs]
    cases e : L.kA M with
    | none => exact absurd (F.wk _ e) hw
    | some kp => dsimp only; split <;> exact fun h => by cases h
noncomputable def put (L : Lot) (k : Key) (v : Option Int) : Lot := if inRow L k = true then { L with row := L.row.set (aidx k - 1).toNat v } else (placed L k v).getD L
noncomputable def puts (L : Lot) (its : List (Key × Option Int)) : Lot := its.foldl (fun L p => put L p.1 p.2) L
theorem inRow_len {L L' : Lot} (h : L'.row.length = L.row.length) (k : Key) : inRow L' k = inRow L k := by cases k <;> simp [inRow, h]
structure Fit (n : Nat) (L : Lot) (its : List (Key × Option Int)) : Prop where
  nd : (its.map (·.1)).Nodup
  nk : ∀ p ∈ its, ∀ i, L.kA i ≠ some p.1
  okk : ∀ p ∈ its, p.1.ok
  cn : cS L.keys + its.countP (fun p => !inRow L p.1) ≤ n
theorem fit_row {n : Nat} {L : Lot} {nxt : List Int} {p : Key × Option Int} {its : List (Key × Option Int)} (I : Inv n L nxt) (F : Fit n L (p :: its)) (h : inRow L p.1 = true) :
    put L p.1 p.2 = { L with row := L.row.set (aidx p.1 - 1).toNat p.2 } ∧ Inv n (put L p.1 p.2) nxt ∧ Fit n (put L p.1 p.2) its := by
  have e : put L p.1 p.2 = { L with row := L.row.set (aidx p.1 - 1).toNat p.2 } := if_pos h
  rw [e]
  have hr : ∀ k, inRow { L with row := L.row.set (aidx p.1 - 1).toNat p.2 } k = inRow L k := inRow_len (by simp)
  refine ⟨rfl, ⟨I.np, I.lk, I.lw, I.ln, I.F, I.ok, fun i k hk => by rw [hr]; exact I.nr i k hk⟩, ⟨(List.nodup_cons.mp F.nd).2, fun q hq => F.nk q (.tail _ hq), fun q hq => F.okk q (.tail _ hq), ?_⟩⟩
  have := F.cn
  simp only [hr]
  rw [List.countP_cons] at this
  lia -abstractProof
theorem fit_new {n : Nat} {L : Lot} {nxt : List Int} {p : Key × Option Int} {its : List (Key × Option Int)} (I : Inv n L nxt) (F : Fit n L (p :: its)) (h : inRow L p.1 = false) :
    0 < n ∧ ∃ nxt', NK n L nxt p.1 p.2 (hN n p.1) (put L p.1 p.2) nxt' ∧ placed L p.1 p.2 = some (put L p.1 p.2) ∧ Inv n (put L p.1 p.2) nxt' ∧ Fit n (put L p.1 p.2) its ∧ (put L p.1 p.2).row = L.row := by
  have hc := F.cn
  rw [List.countP_cons, h] at hc
  simp only [Bool.not_false, if_pos] at hc
  have hn : 0 < n := by lia -abstractProof
  obtain ⟨L', nxt', h1, h2, h3, h4, h5, h6⟩ := nk_step (v := p.2) I hn (F.okk p (.head _)) (F.nk p (.head _)) h (placed_room I (by lia -abstractProof))
  obtain ⟨rank, IF⟩ := I.F
  have hpc := placed_cnt h2 IF.wk
  have e : put L p.1 p.2 = L' := by unfold put; rw [if_neg (by rw [h]; decide), h2]; rfl
  rw [e]
  have hr : ∀ k, inRow L' k = inRow L k := inRow_len (by rw [h4])
  refine ⟨hn, nxt', h1, h2, h3, ⟨(List.nodup_cons.mp F.nd).2, fun q hq i hi => ?_, fun q hq => F.okk q (.tail _ hq), ?_⟩, h4⟩
  · rcases h5 i _ hi with e | ⟨j, hj⟩
    · exact (List.nodup_cons.mp F.nd).1 (List.mem_map.mpr ⟨q, hq, e⟩)
    · exact F.nk q (.tail _ hq) j hj
  · simp only [hr]; lia -abstractProof
/-- all of them put -/
theorem fit_puts {n : Nat} : ∀ {its rest : List (Key × Option Int)} {L : Lot} {nxt : List Int}, Inv n L nxt → Fit n L (its ++ rest) → (∃ nxt', Inv n (puts L its) nxt') ∧ Fit n (puts L its) rest ∧ (puts L its).row.length = L.row.length ∧
    cS (puts L its).row + cS (puts L its).worth ≤ cS L.row + cS L.worth + its.length
  | [], rest, L, nxt, I, F => ⟨⟨nxt, I⟩, F, rfl, Nat.le_refl _⟩
  | p :: its, rest, L, nxt, I, F => by
    have hs : ∃ nxt', Inv n (put L p.1 p.2) nxt' ∧ Fit n (put L p.1 p.2) (its ++ rest) ∧ (put L p.1 p.2).row.length = L.row.length ∧ cS (put L p.1 p.2).row + cS (put L p.1 p.2).worth ≤ cS L.row + cS L.worth + 1 := by
      by_cases h : inRow L p.1 = true
      · obtain ⟨h1, h2, h3⟩ := fit_row I F h
        refine ⟨nxt, h2, h3, by rw [h1]; simp, ?_⟩
        rw [h1]
        have := cS_set L.row (aidx p.1 - 1).toNat p.2
        dsimp only; lia -abstractProof
      · obtain ⟨_, nxt', _, h2, h3, h4, h5⟩ := fit_new I F (by simpa using h)
        obtain ⟨rank, IF⟩ := I.F
        have := (placed_cnt h2 IF.wk).2
        exact ⟨nxt', h3, h4, by rw [h5], by rw [h5]; lia -abstractProof⟩
    obtain ⟨nxt', h1, h2, h3, h4⟩ := hs
    obtain ⟨a1, a2, a3, a4⟩ := fit_puts h1 h2
    exact ⟨a1, a2, a3.trans h3, Nat.le_trans a4 (by simp; lia -abstractProof)⟩
noncomputable def blank (row : List (Option Int)) (n : Nat) : Lot := ⟨row, List.replicate n none, List.replicate n none, n⟩
theorem blank_k (row : List (Option Int)) (n i : Nat) : (blank row n).kA i = none := by
  show (List.replicate n none).getD i none = none
  rw [List.getD_eq_getElem?_getD, List.getElem?_replicate]; split <;> rfl
theorem blank_w (row : List (Option Int)) (n i : Nat) : (blank row n).wA i = none := by
  show (List.replicate n none).getD i none = none
  rw [List.getD_eq_getElem?_getD, List.getElem?_replicate]; split <;> rfl
theorem blank_inv (row : List (Option Int)) {n : Nat} (h : n = 0 ∨ Pow n) : Inv n (blank row n) (List.replicate n (-1)) := by
  have nb : ∀ {P : Prop} i k, (blank row n).kA i = some k → P := fun i k e => by rw [blank_k] at e; cases e
  refine ⟨h, by simp [blank], by simp [blank], by simp, ⟨fun _ => 0, ?_⟩, fun i k e => nb _ _ e, fun i k e => nb _ _ e⟩
  have hx : ∀ i, i < n → xA (List.replicate n (-1)) i = -1 := fun i hi => by
    show (List.replicate n (-1)).getD i 0 = -1
    rw [List.getD_eq_getElem?_getD, List.getElem?_replicate, if_pos hi]; rfl
  refine ⟨Nat.le_refl _, fun i k e => nb _ _ e, fun i j k e => nb _ _ e, fun i _ => blank_w .., fun i h1 h2 => ?_, fun i k e => nb _ _ e, fun i hi => .inl (hx i hi), fun i i' j hi hi' e => ?_, fun i hi _ => hx i hi, fun i j hi e => ?_, fun i k e => nb _ _ e⟩
  · exact absurd h1 (by show ¬ n ≤ i; lia -abstractProof)
  · rw [hx i hi] at e; lia -abstractProof
  · rw [hx i hi] at e; lia -abstractProof
noncomputable def slotsL (row : List (Option Int)) : List Nat := ((List.range row.length).filter fun i => (row.getD i none).isSome).map (· + 1)
noncomputable def heldAt1 (L : Lot) (i : Nat) : Option (Key × Option Int) := match L.kA i, L.wA i with
  | some k, some v => some (k, some v)
  | _, _ => none
noncomputable def heldL (L : Lot) : List (Key × Option Int) := (List.range L.keys.length).filterMap (heldAt1 L)
noncomputable def posI : Key → Option Nat
  | .i n => if 0 < n then some n.toNat else none
  | _ => none
noncomputable def numsL (L : Lot) (k : Key) : List Nat := slotsL L.row ++ ((heldL L).map (·.1) ++ [k]).filterMap posI
noncomputable def cntLe (l : List Nat) (w : Nat) : Nat := l.countP fun n => n ≤ w
noncomputable def lsGo (l : List Nat) : Nat → Nat → Nat → Nat
  | 0, _, s => s
  | r + 1, w, s => if w < 2 * l.length then lsGo l r (2 * w) (if w < 2 * cntLe l w then w else s) else s
noncomputable def cC (l : List Nat) (i : Nat) : Nat := l.countP fun n => clog n = i
theorem clog_le {x j : Nat} (hx : 1 ≤ x) : clog x ≤ j ↔ x ≤ 2 ^ j := by
  unfold clog
  constructor
  · intro h
    by_cases q : x ≤ 2 ^ j
    · exact q
    · have := lg2_gt (x - 1) j (by lia -abstractProof); lia -abstractProof
  · intro h
    exact lg2_le _ _ (by have := Nat.two_pow_pos j; lia -abstractProof)
theorem cntLe_zero {l : List Nat} (h1 : ∀ x ∈ l, 1 ≤ x) : cntLe l 1 = cC l 0 := by
  unfold cntLe cC
  refine List.countP_congr fun x hx => ?_
  have := clog_le (j := 0) (h1 x hx)
  have h := h1 x hx
  simp only [decide_eq_true_eq]
  constructor
  · intro q; have := this.mpr (by simpa using q); lia -abstractProof
  · intro q; have := this.mp (by lia -abstractProof); simpa using this
theorem cntLe_succ {j : Nat} : ∀ {l : List Nat}, (∀ x ∈ l, 1 ≤ x) → cntLe l (2 ^ (j + 1)) = cntLe l (2 ^ j) + cC l (j + 1)
  | [], _ => rfl
  | x :: l, h1 => by
    have ih := cntLe_succ (j := j) (l := l) fun y hy => h1 y (.tail _ hy)
    have hx := h1 x (.head _)
    have a := clog_le (j := j) hx
    have b := clog_le (j := j + 1) hx
    unfold cntLe cC at ih ⊢
    rw [List.countP_cons, List.countP_cons, List.countP_cons, ih]
    simp only [decide_eq_true_eq]
    by_cases q1 : x ≤ 2 ^ j
    · have q2 : x ≤ 2 ^ (j + 1) := b.mp (by have := a.mpr q1; lia -abstractProof)
      rw [if_pos q1, if_pos q2, if_neg (by have := a.mpr q1; lia -abstractProof)]; lia -abstractProof
    · by_cases q2 : x ≤ 2 ^ (j + 1)
      · have : clog x = j + 1 := by
          have := b.mpr q2
          have : ¬ clog x ≤ j := fun h => q1 (a.mp h)
          lia -abstractProof
        rw [if_neg q1, if_pos q2, if_pos this]; lia -abstractProof
      · have : ¬ clog x = j + 1 := fun h => q2 (b.mp (by lia -abstractProof))
        rw [if_neg q1, if_neg q2, if_neg this]; lia -abstractProof
theorem cntLe_bound {l : List Nat} (hn : l.Nodup) (h1 : ∀ x ∈ l, 1 ≤ x) (w : Nat) : cntLe l w ≤ w := by
  unfold cntLe
  rw [List.countP_eq_length_filter]
  have h := List.Nodup.length_le_of_subset (l₁ := l.filter fun n => decide (n ≤ w)) (l₂ := List.range' 1 w) (List.Pairwise.filter _ hn) (fun x hx => by
    have := List.mem_filter.mp hx
    rw [List.mem_range'_1]
    have h2 : x ≤ w := by simpa using this.2
    have := h1 x this.1
    lia -abstractProof)
  simpa using h
theorem cntLe_len (l : List Nat) (w : Nat) : cntLe l w ≤ l.length := List.countP_le_length
theorem lsGo_stop {l : List Nat} {r w s : Nat} (h : 2 * l.length ≤ w) : lsGo l r w s = s := by
  cases r with
  | zero => rfl
  | succ r => unfold lsGo; rw [if_neg (by lia -abstractProof)]
/-- what has been gathered ahead of the power j -/
noncomputable def pre (l : List Nat) : Nat → Nat
  | 0 => 0
  | j + 1 => cntLe l (2 ^ j)
noncomputable def lo2 : Nat → Nat
  | 0 => 0
  | j + 1 => 2 ^ j
theorem pre_step {l : List Nat} (h1 : ∀ x ∈ l, 1 ≤ x) : ∀ j, pre l j + cC l j = cntLe l (2 ^ j)
  | 0 => by show 0 + _ = cntLe l 1; rw [cntLe_zero h1]; lia -abstractProof
  | j + 1 => (cntLe_succ h1).symm
theorem lo2_fdiv : ∀ j, ((2 ^ j : Nat) : Int).fdiv 2 = (lo2 j : Nat)
  | 0 => by decide
  | j + 1 => by
    rw [Int.fdiv_eq_ediv_of_nonneg _ (by lia -abstractProof), Nat.pow_succ]
    show _ = ((2 ^ j : Nat) : Int)
    lia -abstractProof
theorem cs_eq {l : List Nat} (hn : l.Nodup) (h1 : ∀ x ∈ l, 1 ≤ x) : ∀ (r j : Nat) (size : Nat),
    csGo l.length ((List.range' j r).map fun i => ((cC l i : Nat) : Int)) (pre l j : Nat) (cntLe l size : Nat) size ((2 ^ j : Nat) : Int)
      = (((lsGo l r (2 ^ j) size : Nat) : Int), ((cntLe l (lsGo l r (2 ^ j) size) : Nat) : Int))
  | 0, j, size => rfl
  | r + 1, j, size => by
    have hp := pre_step h1 j
    have hG := cntLe_bound hn h1 (2 ^ j)
    have hl := cntLe_len l (2 ^ j)
    have hpb : pre l j ≤ lo2 j := by
      cases j with
      | zero => exact Nat.le_refl _
      | succ j => exact cntLe_bound hn h1 (2 ^ j)
    have hlo : 2 * lo2 j = 2 ^ j ∨ (lo2 j = 0 ∧ 2 ^ j = 1) := by
      cases j with
      | zero => exact .inr ⟨rfl, rfl⟩
      | succ j => left; show 2 * 2 ^ j = _; rw [Nat.pow_succ]; lia -abstractProof
    rw [List.range'_succ, List.map_cons]
    unfold csGo
    rw [lo2_fdiv]
    by_cases hw : (l.length : Int) ≤ (lo2 j : Nat)
    · rw [if_pos hw]
      have : 2 * l.length ≤ 2 ^ j := by lia -abstractProof
      rw [lsGo_stop this]
    · rw [if_neg hw]
      have hlt : 2 ^ j < 2 * l.length := by lia -abstractProof
      unfold lsGo
      rw [if_pos hlt]
      have hg : (if (0 : Int) < (cC l j : Nat) then ((pre l j : Nat) : Int) + (cC l j : Nat) else (pre l j : Nat)) = (cntLe l (2 ^ j) : Nat) := by
        split <;> lia -abstractProof
      have hb : (decide ((0 : Int) < (cC l j : Nat)) && decide (((lo2 j : Nat) : Int) < (cntLe l (2 ^ j) : Nat))) = decide (2 ^ j < 2 * cntLe l (2 ^ j)) := by
        rw [← Bool.decide_and]
        refine decide_eq_decide.mpr ⟨fun h => by lia -abstractProof, fun h => by lia -abstractProof⟩
      dsimp only
      rw [hg, hb]
      generalize hS : (if 2 ^ j < 2 * cntLe l (2 ^ j) then 2 ^ j else size) = size'
      have e1 : (if decide (2 ^ j < 2 * cntLe l (2 ^ j)) = true then ((cntLe l (2 ^ j) : Nat) : Int) else (cntLe l size : Nat)) = (cntLe l size' : Nat) := by
        rw [← hS]; by_cases q : 2 ^ j < 2 * cntLe l (2 ^ j)
        · rw [if_pos (decide_eq_true q), if_pos q]
        · rw [if_neg (by simpa using q), if_neg q]
      have e2 : (if decide (2 ^ j < 2 * cntLe l (2 ^ j)) = true then ((2 ^ j : Nat) : Int) else (size : Nat)) = (size' : Nat) := by
        rw [← hS]; by_cases q : 2 ^ j < 2 * cntLe l (2 ^ j)
        · rw [if_pos (decide_eq_true q), if_pos q]
        · rw [if_neg (by simpa using q), if_neg q]
      rw [e1, e2]
      by_cases hd : ((cntLe l (2 ^ j) : Nat) : Int) = (l.length : Nat)
      · rw [if_pos hd, lsGo_stop (by lia -abstractProof)]
      · rw [if_neg hd]
        have := cs_eq hn h1 r (j + 1) size'
        rw [show ((2 ^ (j + 1) : Nat) : Int) = ((2 ^ j : Nat) : Int) * 2 by rw [Nat.pow_succ]; lia -abstractProof] at this
        rw [show 2 ^ (j + 1) = 2 * 2 ^ j by rw [Nat.pow_succ]; lia -abstractProof] at this
        exact this
/-- the size is a power of two of which more than half is used, or none -/
theorem lsGo_size {l : List Nat} : ∀ (r j s : Nat), (s = 0 ∨ ∃ i, s = 2 ^ i ∧ s < 2 * l.length) → lsGo l r (2 ^ j) s = 0 ∨ ∃ i, lsGo l r (2 ^ j) s = 2 ^ i ∧ lsGo l r (2 ^ j) s < 2 * l.length
  | 0, j, s, h => h
  | r + 1, j, s, h => by
    unfold lsGo
    by_cases q : 2 ^ j < 2 * l.length
    · rw [if_pos q, show 2 * 2 ^ j = 2 ^ (j + 1) by rw [Nat.pow_succ]; lia -abstractProof]
      refine lsGo_size r (j + 1) _ ?_
      split
      · exact .inr ⟨j, rfl, q⟩
      · exact h
    · rw [if_neg q]; exact h
noncomputable def sizeL (L : Lot) (k : Key) : Nat := lsGo (numsL L k) 27 1 0
noncomputable def manyL (L : Lot) (k : Key) : Nat := (heldL L).length + (slotsL L.row).length + 1 - cntLe (numsL L k) (sizeL L k)
noncomputable def itemsL (L : Lot) (size : Nat) : List (Key × Option Int) := ((slotsL L.row).filter fun a => decide (size < a)).map (fun (a : Nat) => (Key.i (a : Int), L.row.getD (a - 1) none)) ++ (heldL L).reverse
noncomputable def fresh (L : Lot) (k : Key) : Lot := blank ((L.row ++ List.replicate (sizeL L k) none).take (sizeL L k)) (places (manyL L k))
noncomputable def measured (L : Lot) (k : Key) : Lot := puts (fresh L k) (itemsL L (sizeL L k))
theorem cs_size {L : Lot} {k : Key} (hn : (numsL L k).Nodup) (h1 : ∀ x ∈ numsL L k, 1 ≤ x) :
    csGo (numsL L k).length ((List.range 27).map fun i => ((cC (numsL L k) i : Nat) : Int)) 0 0 0 1 = (((sizeL L k : Nat) : Int), ((cntLe (numsL L k) (sizeL L k) : Nat) : Int)) := by
  have := cs_eq hn h1 27 0 0
  rw [← List.range_eq_range'] at this
  have h0 : cntLe (numsL L k) 0 = 0 := by
    have := cntLe_bound hn h1 0; lia -abstractProof
  rw [h0] at this
  exact this
theorem cnt_le {α : Type} {l1 l2 : List α} {p q : α → Bool} (h1 : l1.Nodup) (h : ∀ x, x ∈ l1 → p x = true → x ∈ l2 ∧ q x = true) : l1.countP p ≤ l2.countP q := by
  rw [List.countP_eq_length_filter, List.countP_eq_length_filter]
  refine List.Nodup.length_le_of_subset (List.Pairwise.filter _ h1) fun x hx => ?_
  have := List.mem_filter.mp hx
  have := h x this.1 this.2
  exact List.mem_filter.mpr this
theorem cnt_eq {α : Type} {l1 l2 : List α} {p q : α → Bool} (h1 : l1.Nodup) (h2 : l2.Nodup) (h : ∀ x, (x ∈ l1 ∧ p x = true) ↔ (x ∈ l2 ∧ q x = true)) : l1.countP p = l2.countP q :=
  Nat.le_antisymm (cnt_le h1 fun x a b => (h x).mp ⟨a, b⟩) (cnt_le h2 fun x a b => (h x).mpr ⟨a, b⟩)
theorem as_range {α : Type} (l : List α) (d : α) : l = (List.range l.length).map fun i => l.getD i d := by
  refine List.ext_getElem (by simp) fun i h1 h2 => ?_
  simp only [List.getElem_map, List.getElem_range]
  rw [List.getD_eq_getElem?_getD, List.getElem?_eq_getElem h1]; rfl
theorem slots_mem {row : List (Option Int)} {a : Nat} : a ∈ slotsL row ↔ 1 ≤ a ∧ a ≤ row.length ∧ (row.getD (a - 1) none).isSome = true := by
  unfold slotsL
  rw [List.mem_map]
  constructor
  · rintro ⟨i, hi, rfl⟩
    have := List.mem_filter.mp hi
    have h2 := List.mem_range.mp this.1
    exact ⟨by lia -abstractProof, by lia -abstractProof, this.2⟩
  · rintro ⟨h1, h2, h3⟩
    exact ⟨a - 1, List.mem_filter.mpr ⟨List.mem_range.mpr (by lia -abstractProof), h3⟩, by lia -abstractProof⟩
theorem slots_nodup (row : List (Option Int)) : (slotsL row).Nodup := by
  unfold slotsL
  refine List.Pairwise.map _ (fun a b h => ?_) (List.Pairwise.filter _ List.nodup_range)
  intro e; exact h (by lia -abstractProof)
theorem cS_slots (row : List (Option Int)) : cS row = (slotsL row).length := by
  unfold cS slotsL
  rw [List.length_map, ← List.countP_eq_length_filter]
  conv => lhs; rw [as_range row none, List.countP_map]
  rfl
theorem held_mem {L : Lot} {p : Key × Option Int} : p ∈ heldL L ↔ ∃ i, i < L.keys.length ∧ ∃ k v, L.kA i = some k ∧ L.wA i = some v ∧ p = (k, some v) := by
  unfold heldL
  rw [List.mem_filterMap]
  constructor
  · rintro ⟨i, hi, e⟩
    refine ⟨i, List.mem_range.mp hi, ?_⟩
    unfold heldAt1 at e
    split at e
    · rename_i k v h1 h2; cases e; exact ⟨k, v, h1, h2, rfl⟩
    · cases e
  · rintro ⟨i, hi, k, v, h1, h2, rfl⟩
    refine ⟨i, List.mem_range.mpr hi, ?_⟩
    unfold heldAt1; rw [h1, h2]
section
variable {n : Nat} {L : Lot} {nxt : List Int} {k : Key} {v : Option Int}
theorem Inv.uq (I : Inv n L nxt) : ∀ i j k, L.kA i = some k → L.kA j = some k → i = j := let ⟨_, F⟩ := I.F; F.uq
theorem Inv.wk (I : Inv n L nxt) : ∀ i, L.kA i = none → L.wA i = none := let ⟨_, F⟩ := I.F; F.wk
theorem held_nodup (I : Inv n L nxt) : ((heldL L).map (·.1)).Nodup := by
  unfold heldL List.Nodup
  rw [List.pairwise_map, List.pairwise_filterMap]
  refine List.Pairwise.imp (R := fun a b => a ≠ b) (fun {a b} hab p hp q hq e => hab ?_) List.nodup_range
  unfold heldAt1 at hp hq
  split at hp
  · rename_i k1 v1 h1 _
    split at hq
    · rename_i k2 v2 h2 _
      cases hp; cases hq
      dsimp only at e
      rw [e] at h1
      exact I.uq a b _ h1 h2
    · cases hq
  · cases hp
theorem cS_held (I : Inv n L nxt) : cS L.worth = (heldL L).length := by
  unfold cS heldL
  rw [List.length_filterMap_eq_countP, I.lk, ← I.lw]
  conv => lhs; rw [as_range L.worth none, List.countP_map]
  refine List.countP_congr fun i _ => ?_
  show (L.wA i).isSome = true ↔ _
  unfold heldAt1
  cases h : L.wA i with
  | none => cases L.kA i <;> simp
  | some x =>
    cases h2 : L.kA i with
    | none => rw [I.wk i h2] at h; cases h
    | some k => simp
theorem posI_inj {a b : Key} {x : Nat} (h1 : posI a = some x) (h2 : posI b = some x) : a = b := by
  unfold posI at h1 h2
  cases a <;> cases b <;> simp at h1 h2
  congr 1; lia -abstractProof
theorem posI_pos {a : Key} {x : Nat} (h1 : posI a = some x) : a = .i x ∧ 1 ≤ x := by
  unfold posI at h1
  cases a <;> simp at h1
  exact ⟨by congr 1; lia -abstractProof, by lia -abstractProof⟩
theorem keys_nodup (I : Inv n L nxt) (hnew : ∀ i, L.kA i ≠ some k) : ((heldL L).map (·.1) ++ [k]).Nodup := by
  rw [List.nodup_append]
  refine ⟨held_nodup I, by simp, fun a ha b hb e => ?_⟩
  rw [List.mem_singleton] at hb
  obtain ⟨p, hp, rfl⟩ := List.mem_map.mp ha
  obtain ⟨i, _, k', v', h1, _, rfl⟩ := held_mem.mp hp
  rw [← hb] at hnew
  exact hnew i (by rw [h1]; exact congrArg some e)
theorem key_out (I : Inv n L nxt) (hr : inRow L k = false) {k' : Key} (h : k' ∈ (heldL L).map (·.1) ++ [k]) : inRow L k' = false := by
  rcases List.mem_append.mp h with h | h
  · obtain ⟨p, hp, rfl⟩ := List.mem_map.mp h
    obtain ⟨i, _, k', v', h1, _, rfl⟩ := held_mem.mp hp
    exact I.nr i k' h1
  · rw [List.mem_singleton.mp h]; exact hr
theorem key_okk (I : Inv n L nxt) (hk : k.ok) {k' : Key} (h : k' ∈ (heldL L).map (·.1) ++ [k]) : k'.ok := by
  rcases List.mem_append.mp h with h | h
  · obtain ⟨p, hp, rfl⟩ := List.mem_map.mp h
    obtain ⟨i, _, k', v', h1, _, rfl⟩ := held_mem.mp hp
    exact I.ok i k' h1
  · rw [List.mem_singleton.mp h]; exact hk
theorem nums_ok (I : Inv n L nxt) (hnew : ∀ i, L.kA i ≠ some k) (hr : inRow L k = false) : (numsL L k).Nodup ∧ ∀ x ∈ numsL L k, 1 ≤ x := by
  unfold numsL
  have hkn := keys_nodup I hnew
  have ho := fun k' => key_out (k' := k') I hr
  generalize (heldL L).map (·.1) ++ [k] = ks at hkn ho
  constructor
  · rw [List.nodup_append]
    refine ⟨slots_nodup _, ?_, fun a ha b hb e => ?_⟩
    · unfold List.Nodup
      rw [List.pairwise_filterMap]
      exact List.Pairwise.imp (fun {a b} hab x hx y hy e => hab (posI_inj hx (by rw [hy, e]))) hkn
    · have h1 := slots_mem.mp ha
      obtain ⟨k', hk', e'⟩ := List.mem_filterMap.mp hb
      obtain ⟨rfl, h2⟩ := posI_pos e'
      have := ho _ hk'
      simp [inRow] at this
      lia -abstractProof
  · intro x hx
    rcases List.mem_append.mp hx with h | h
    · exact (slots_mem.mp h).1
    · obtain ⟨k', hk', e'⟩ := List.mem_filterMap.mp h
      exact (posI_pos e').2
theorem nums_len (I : Inv n L nxt) : (numsL L k).length ≤ cS L.row + cS L.worth + 1 := by
  unfold numsL
  rw [List.length_append, cS_slots, cS_held I]
  have := @List.length_filterMap_le _ _ posI ((heldL L).map (·.1) ++ [k])
  simp only [List.length_append, List.length_map, List.length_singleton] at this
  lia -abstractProof
theorem pow_small {i s : Nat} (h : s = 2 ^ i) (hs : s < 24) : s ≤ 16 := by
  have : i < 5 := by
    by_cases q : i < 5
    · exact q
    · have := Nat.pow_le_pow_right (n := 2) (by lia -abstractProof) (show 5 ≤ i by lia -abstractProof); lia -abstractProof
  have := Nat.pow_le_pow_right (n := 2) (by lia -abstractProof) (show i ≤ 4 by lia -abstractProof)
  lia -abstractProof
theorem size_le (I : Inv n L nxt) (hl : cS L.row + cS L.worth ≤ 11) : sizeL L k ≤ 16 := by
  rcases lsGo_size (l := numsL L k) 27 0 0 (.inl rfl) with h | ⟨i, h1, h2⟩
  · show lsGo _ 27 (2 ^ 0) 0 ≤ 16; rw [h]; lia -abstractProof
  · have := nums_len (k := k) I
    have := pow_small h1 (by lia -abstractProof)
    exact this
theorem many_le (I : Inv n L nxt) : manyL L k ≤ cS L.row + cS L.worth + 1 := by
  unfold manyL; rw [cS_slots, cS_held I]; lia -abstractProof
theorem places_pow {m : Nat} (h : m ≤ 16) : places m = 0 ∨ Pow (places m) := by
  unfold places
  by_cases q : m = 0
  · rw [if_pos q]; exact .inl rfl
  · rw [if_neg q]
    right
    have := (clog_le (j := 4) (show 1 ≤ m by lia -abstractProof)).mpr (by lia -abstractProof)
    unfold Pow
    have h : clog m = 0 ∨ clog m = 1 ∨ clog m = 2 ∨ clog m = 3 ∨ clog m = 4 := by lia -abstractProof
    rcases h with h | h | h | h | h <;> rw [h] <;> decide
theorem places_ge (m : Nat) : m ≤ places m := by
  unfold places
  by_cases q : m = 0
  · lia -abstractProof
  · rw [if_neg q]; exact (clog_le (by lia -abstractProof)).mp (Nat.le_refl _)
theorem fresh_len : (fresh L k).row.length = sizeL L k := by
  show ((L.row ++ List.replicate (sizeL L k) none).take (sizeL L k)).length = _
  simp
theorem fresh_get {i : Nat} (h : i < sizeL L k) : (fresh L k).row.getD i none = L.row.getD i none := by
  show ((L.row ++ List.replicate (sizeL L k) none).take (sizeL L k)).getD i none = _
  rw [List.getD_eq_getElem?_getD, List.getElem?_take, if_pos h, List.getElem?_append, List.getD_eq_getElem?_getD]
  by_cases q : i < L.row.length
  · rw [if_pos q]
  · rw [if_neg q, List.getElem?_eq_none (by lia -abstractProof : L.row.length ≤ i), List.getElem?_replicate]
    split <;> rfl
theorem cnt_out (F : Lot) : ∀ (ks : List Key), ks.countP (fun k => !inRow F k) + (ks.filterMap posI).countP (fun x => x ≤ F.row.length) = ks.length
  | [] => rfl
  | k :: ks => by
    have ih := cnt_out F ks
    rw [List.countP_cons, List.length_cons]
    cases h : posI k with
    | none =>
      rw [List.filterMap_cons_none h]
      have : inRow F k = false := by
        cases k with
        | i m => simp [posI] at h; simp [inRow]; lia -abstractProof
        | b x => rfl
        | y s => rfl
      rw [this]; simp only [Bool.not_false, if_pos]; lia -abstractProof
    | some x =>
      rw [List.filterMap_cons_some h, List.countP_cons]
      obtain ⟨rfl, hx⟩ := posI_pos h
      have : inRow F (.i x) = decide (x ≤ F.row.length) := by
        simp [inRow]; lia -abstractProof
      rw [this]
      by_cases q : x ≤ F.row.length
      · simp [q]; lia -abstractProof
      · simp [q]; lia -abstractProof
theorem items_fit (I : Inv n L nxt) (hk : k.ok) (hnew : ∀ i, L.kA i ≠ some k) (hr : inRow L k = false) (hrl : L.row.length ≤ 1000) :
    Fit (places (manyL L k)) (fresh L k) (itemsL L (sizeL L k) ++ [(k, v)]) := by
  have hkn := keys_nodup I hnew
  have ho := fun k' => key_out (k' := k') I hr
  have hok := fun k' => key_okk (k' := k') I hk
  have hperm : ∀ k', k' ∈ (heldL L).map (·.1) ++ [k] ↔ k' ∈ (heldL L).reverse.map (·.1) ++ [k] := fun k' => by
    simp [List.mem_append]
  have hkn2 : ((heldL L).reverse.map (·.1) ++ [k]).Nodup := by
    rw [List.nodup_append] at hkn ⊢
    refine ⟨?_, hkn.2.1, fun a ha => hkn.2.2 a (by simpa using ha)⟩
    rw [List.map_reverse]; unfold List.Nodup; rw [List.pairwise_reverse]
    exact List.Pairwise.imp (fun h => Ne.symm h) hkn.1
  have hmem : ∀ p ∈ itemsL L (sizeL L k) ++ [(k, v)], (∃ a : Nat, p.1 = .i a ∧ 1 ≤ a ∧ a ≤ L.row.length) ∨ p.1 ∈ (heldL L).map (·.1) ++ [k] := by
    intro p hp
    unfold itemsL at hp
    rcases List.mem_append.mp hp with hp | hp
    · rcases List.mem_append.mp hp with hp | hp
      · obtain ⟨a, ha, rfl⟩ := List.mem_map.mp hp
        have := slots_mem.mp (List.mem_filter.mp ha).1
        exact .inl ⟨a, rfl, this.1, this.2.1⟩
      · exact .inr (List.mem_append.mpr (.inl (List.mem_map.mpr ⟨p, List.mem_reverse.mp hp, rfl⟩)))
    · rw [List.mem_singleton.mp hp]; exact .inr (List.mem_append.mpr (.inr (by simp)))
  have hnone : ∀ (p : Key × Option Int) i, (fresh L k).kA i ≠ some p.1 := fun p i h => by
    rw [show (fresh L k).kA i = none from blank_k ..] at h; cases h
  refine ⟨?_, fun p _ i => hnone p i, fun p hp => ?_, ?_⟩
  · unfold itemsL
    rw [List.append_assoc, List.map_append, List.map_append, List.nodup_append]
    refine ⟨?_, hkn2, fun a ha b hb e => ?_⟩
    · rw [List.map_map]
      refine List.Pairwise.map _ (fun a b h => ?_) (List.Pairwise.filter _ (slots_nodup _))
      intro e; exact h (by injection e with e; lia -abstractProof)
    · obtain ⟨p, hp, rfl⟩ := List.mem_map.mp ha
      obtain ⟨x, hx, rfl⟩ := List.mem_map.mp hp
      have h1 := slots_mem.mp (List.mem_filter.mp hx).1
      have h2 := ho b ((hperm b).mpr hb)
      rw [← e] at h2
      simp [inRow] at h2
      lia -abstractProof
  · rcases hmem p hp with ⟨a, e, h1, h2⟩ | h
    · rw [e]; exact ⟨by lia -abstractProof, by lia -abstractProof⟩
    · exact hok _ h
  · have hz : cS (fresh L k).keys = 0 := by
      show cS (List.replicate _ none) = 0
      unfold cS; rw [List.countP_replicate]; rfl
    rw [hz]
    refine Nat.le_trans ?_ (places_ge _)
    have hc := cnt_out (fresh L k) ((heldL L).map (·.1) ++ [k])
    rw [fresh_len] at hc
    unfold itemsL
    rw [List.append_assoc, List.countP_append, Nat.zero_add]
    have e2 : ((heldL L).reverse ++ [(k, v)]).countP (fun p => !inRow (fresh L k) p.1) = ((heldL L).map (·.1) ++ [k]).countP (fun k' => !inRow (fresh L k) k') := by
      rw [List.countP_append, List.countP_append, List.countP_reverse, List.countP_map]
      rfl
    rw [e2]
    have e1 : (((slotsL L.row).filter fun a => decide (sizeL L k < a)).map (fun (a : Nat) => (Key.i (a : Int), L.row.getD (a - 1) none))).countP (fun p => !inRow (fresh L k) p.1) ≤ (slotsL L.row).countP fun a => decide (sizeL L k < a) := by
      rw [List.countP_eq_length_filter (p := fun a => decide (sizeL L k < a))]
      refine Nat.le_trans List.countP_le_length ?_
      rw [List.length_map]; exact Nat.le_refl _
    have e3 : (slotsL L.row).countP (fun a => decide (sizeL L k < a)) + cntLe (slotsL L.row) (sizeL L k) = (slotsL L.row).length := by
      have := List.length_eq_countP_add_countP (fun a => decide (sizeL L k < a)) (l := slotsL L.row)
      unfold cntLe
      rw [this]
      congr 1
      refine List.countP_congr fun a _ => ?_
      simp
    have e4 : cntLe (numsL L k) (sizeL L k) = cntLe (slotsL L.row) (sizeL L k) + (((heldL L).map (·.1) ++ [k]).filterMap posI).countP (fun x => x ≤ sizeL L k) := by
      unfold numsL cntLe; rw [List.countP_append]
    unfold manyL
    rw [e4]
    simp only [List.length_append, List.length_map, List.length_singleton] at hc
    lia -abstractProof
end
theorem nSome_slots {row : List (Option Int)} {a b : Nat} (hb : b ≤ row.length) : nSome row a b = (slotsL row).countP fun x => decide (a < x) && decide (x ≤ b) := by
  unfold nSome slotsL
  rw [List.countP_map, List.countP_filter]
  have e : (row.take b).drop a = (List.range' a (b - a)).map fun i => row.getD i none := by
    refine List.ext_getElem (by simp; lia -abstractProof) fun i h1 h2 => ?_
    simp only [List.getElem_map, List.getElem_range', List.getElem_drop, List.getElem_take]
    simp at h1
    rw [List.getD_eq_getElem?_getD, List.getElem?_eq_getElem (by lia -abstractProof)]
    simp
  rw [e, List.countP_map]
  refine cnt_eq (List.nodup_range' 1) List.nodup_range fun x => ?_
  simp only [List.mem_range'_1, List.mem_range, Function.comp, Bool.and_eq_true, decide_eq_true_eq]
  constructor
  · rintro ⟨h1, h2⟩; exact ⟨by lia -abstractProof, ⟨by lia -abstractProof, by lia -abstractProof⟩, h2⟩
  · rintro ⟨h1, ⟨h2, h3⟩, h4⟩; exact ⟨by lia -abstractProof, h4⟩
theorem clog_eq {x j : Nat} (hx : 1 ≤ x) : clog x = j ↔ lo2 j < x ∧ x ≤ 2 ^ j := by
  have a := clog_le (j := j) hx
  cases j with
  | zero => show _ ↔ 0 < x ∧ _; rw [← a]; lia -abstractProof
  | succ j =>
    have b := clog_le (j := j) hx
    show _ ↔ 2 ^ j < x ∧ _
    rw [← a]
    constructor
    · intro h; exact ⟨by by_cases q : x ≤ 2 ^ j; (· have := b.mpr q; lia -abstractProof); (· lia -abstractProof), by lia -abstractProof⟩
    · rintro ⟨h1, h2⟩
      have : ¬ clog x ≤ j := fun h => by have := b.mp h; lia -abstractProof
      lia -abstractProof
theorem lo2_mono {i j : Nat} (h : i ≤ j) : lo2 i ≤ lo2 j := by
  cases i with
  | zero => exact Nat.zero_le _
  | succ i =>
    cases j with
    | zero => lia -abstractProof
    | succ j => exact Nat.pow_le_pow_right (by lia -abstractProof) (by lia -abstractProof)
noncomputable def above (l : List Nat) (j : Nat) : Nat := l.countP fun x => lo2 j < x
theorem above_step {j : Nat} : ∀ {l : List Nat}, (∀ x ∈ l, 1 ≤ x) → above l j = cC l j + above l (j + 1)
  | [], _ => rfl
  | x :: l, h1 => by
    have ih := above_step (j := j) (l := l) fun y hy => h1 y (.tail _ hy)
    have hx := h1 x (.head _)
    have a := clog_eq (j := j) hx
    unfold above cC at ih ⊢
    rw [List.countP_cons, List.countP_cons, List.countP_cons, ih]
    have e : lo2 (j + 1) = 2 ^ j := rfl
    have hm : lo2 j ≤ 2 ^ j := by cases j with | zero => exact Nat.zero_le _ | succ j => exact Nat.pow_le_pow_right (by lia -abstractProof) (by lia -abstractProof)
    simp only [decide_eq_true_eq, e]
    by_cases q1 : lo2 j < x
    · by_cases q2 : x ≤ 2 ^ j
      · rw [if_pos q1, if_pos (a.mpr ⟨q1, q2⟩), if_neg (by lia -abstractProof)]; lia -abstractProof
      · rw [if_pos q1, if_neg (fun h => q2 (a.mp h).2), if_pos (by lia -abstractProof)]; lia -abstractProof
    · rw [if_neg q1, if_neg (fun h => q1 (a.mp h).1), if_neg (by lia -abstractProof)]; lia -abstractProof
theorem getD_setI {l : List Int} {i j : Nat} {v : Int} (h : i < l.length) : (l.set i v).getD j 0 = if j = i then v else l.getD j 0 := by
  by_cases e : j = i
  · subst e; rw [if_pos rfl]; exact getD_set_self h
  · rw [if_neg e]; exact getD_set_ne (Ne.symm e)
theorem ca_go {row : List (Option Int)} (hrl : row.length ≤ 1000) : ∀ (r j : Nat) (cs : List Int) (tot : Int), j + r = 27 → cs.length = 27 →
    (caGo row (List.range' j r) (min (lo2 j) row.length + 1) (2 ^ j) cs tot).1.length = 27 ∧
    (∀ i, (caGo row (List.range' j r) (min (lo2 j) row.length + 1) (2 ^ j) cs tot).1.getD i 0 = cs.getD i 0 + (if j ≤ i ∧ i < 27 then (cC (slotsL row) i : Nat) else 0)) ∧
    (caGo row (List.range' j r) (min (lo2 j) row.length + 1) (2 ^ j) cs tot).2 = tot + (above (slotsL row) j : Nat)
  | 0, j, cs, tot, hj, hl => by
    refine ⟨hl, fun i => ?_, ?_⟩
    · rw [if_neg (by lia -abstractProof)]; exact (Int.add_zero _).symm
    · have : above (slotsL row) j = 0 := by
        refine List.countP_eq_zero.mpr fun x hx => ?_
        have := slots_mem.mp hx
        have : j = 26 + 1 := by lia -abstractProof
        subst this
        show ¬ decide (2 ^ 26 < x) = true
        rw [decide_eq_true_eq]; lia -abstractProof
      rw [this]; exact (Int.add_zero _).symm
  | r + 1, j, cs, tot, hj, hl => by
    have h1 : ∀ x ∈ slotsL row, 1 ≤ x ∧ x ≤ row.length := fun x hx => ⟨(slots_mem.mp hx).1, (slots_mem.mp hx).2.1⟩
    have hlt : lo2 j < 2 ^ j := by
      cases j with
      | zero => exact Nat.one_pos
      | succ j => show 2 ^ j < 2 ^ (j + 1); rw [Nat.pow_succ]; have := Nat.two_pow_pos j; lia -abstractProof
    rw [List.range'_succ]
    unfold caGo
    dsimp only
    by_cases hs : min (2 ^ j) row.length < min (lo2 j) row.length + 1
    · rw [if_pos hs]
      have hle : row.length ≤ lo2 j := by lia -abstractProof
      have hz : ∀ i, j ≤ i → cC (slotsL row) i = 0 := fun i hi => by
        refine List.countP_eq_zero.mpr fun x hx => ?_
        rw [decide_eq_true_eq]
        intro e
        have := (clog_eq (h1 x hx).1).mp e
        have := lo2_mono hi
        have := (h1 x hx).2
        lia -abstractProof
      have ha : above (slotsL row) j = 0 := by
        refine List.countP_eq_zero.mpr fun x hx => ?_
        rw [decide_eq_true_eq]
        have := (h1 x hx).2
        lia -abstractProof
      refine ⟨hl, fun i => ?_, by rw [ha]; exact (Int.add_zero _).symm⟩
      split
      · rename_i h; rw [hz i h.1]; exact (Int.add_zero _).symm
      · exact (Int.add_zero _).symm
    · rw [if_neg hs]
      have hn : nSome row (min (lo2 j) row.length + 1 - 1) (min (2 ^ j) row.length) = cC (slotsL row) j := by
        rw [nSome_slots (by lia -abstractProof)]
        unfold cC
        refine List.countP_congr fun x hx => ?_
        have := h1 x hx
        rw [Bool.and_eq_true, decide_eq_true_eq, decide_eq_true_eq, decide_eq_true_eq, clog_eq this.1]
        lia -abstractProof
      rw [hn, show 2 ^ j * 2 = 2 ^ (j + 1) from (Nat.pow_succ ..).symm]
      obtain ⟨a1, a2, a3⟩ := ca_go hrl r (j + 1) (cs.set j (cs.getD j 0 + (cC (slotsL row) j : Nat))) (tot + (cC (slotsL row) j : Nat)) (by lia -abstractProof) (by simp; exact hl)
      have el : lo2 (j + 1) = 2 ^ j := rfl
      rw [el] at a1 a2 a3
      refine ⟨a1, fun i => ?_, ?_⟩
      · rw [a2, getD_setI (by lia -abstractProof)]
        by_cases e : i = j
        · subst e; rw [if_pos rfl, if_neg (by lia -abstractProof), if_pos (by lia -abstractProof)]; lia -abstractProof
        · rw [if_neg e]
          by_cases q : j + 1 ≤ i ∧ i < 27
          · rw [if_pos q, if_pos (by lia -abstractProof)]
          · rw [if_neg q, if_neg (by lia -abstractProof)]
      · rw [a3, above_step (j := j) fun x hx => (h1 x hx).1]; lia -abstractProof
theorem ca_all {row : List (Option Int)} (hrl : row.length ≤ 1000) {cs : List Int} (hl : cs.length = 27) :
    (caGo row (List.range 27) 1 1 cs 0).1.length = 27 ∧ (∀ i, i < 27 → (caGo row (List.range 27) 1 1 cs 0).1.getD i 0 = cs.getD i 0 + (cC (slotsL row) i : Nat)) ∧ (caGo row (List.range 27) 1 1 cs 0).2 = ((slotsL row).length : Nat) := by
  have h := ca_go hrl 27 0 cs 0 rfl hl
  rw [← List.range_eq_range', show min (lo2 0) row.length + 1 = 1 by show min 0 _ + 1 = 1; lia -abstractProof] at h
  refine ⟨h.1, fun i hi => by rw [show (1 : Nat) = 2 ^ 0 from rfl, h.2.1, if_pos ⟨by lia -abstractProof, hi⟩], ?_⟩
  have e := h.2.2
  rw [show (2 : Nat) ^ 0 = 1 from rfl] at e
  rw [e]
  have : above (slotsL row) 0 = (slotsL row).length := by
    refine List.countP_eq_length.mpr fun x hx => ?_
    have := (slots_mem.mp hx).1
    show decide (0 < x) = true
    rw [decide_eq_true_eq]; lia -abstractProof
  rw [this]; lia -abstractProof
theorem bump_get {cs : List Int} {i j : Nat} (h : i < cs.length) : (bump cs i).getD j 0 = cs.getD j 0 + (if i = j then 1 else 0) := by
  unfold bump
  rw [getD_setI h]
  by_cases e : j = i
  · subst e; rw [if_pos rfl, if_pos rfl]
  · rw [if_neg e, if_neg (Ne.symm e)]; lia -abstractProof
theorem posI_aidx (k : Key) : posI k = if 0 < aidx k then some (aidx k).toNat else none := by cases k <;> rfl
theorem clog_small {x : Nat} (h1 : 1 ≤ x) (h : x ≤ 1000) : clog x < 27 := by
  have := (clog_le (j := 10) h1).mpr (by lia -abstractProof); lia -abstractProof
theorem aidx_small {k : Key} (hk : k.ok) : (aidx k).toNat ≤ 1000 := by
  cases k with
  | i n => have : n ≤ 1000 := hk.2; show n.toNat ≤ 1000; lia -abstractProof
  | b x => show (-1 : Int).toNat ≤ 1000; decide
  | y s => show (-1 : Int).toNat ≤ 1000; decide
theorem cn_go {L : Lot} (hkw : ∀ i, L.wA i ≠ none → ∃ k, L.kA i = some k ∧ k.ok) : ∀ (l : List Nat) (cs : List Int) (tot wh : Int), cs.length = 27 →
    (cnGo L l cs tot wh).1.length = 27 ∧ (∀ i, (cnGo L l cs tot wh).1.getD i 0 = cs.getD i 0 + (cC (((l.filterMap (heldAt1 L)).map (·.1)).filterMap posI) i : Nat)) ∧
    (cnGo L l cs tot wh).2.1 = tot + ((l.filterMap (heldAt1 L)).length : Nat) ∧ (cnGo L l cs tot wh).2.2 = wh + ((((l.filterMap (heldAt1 L)).map (·.1)).filterMap posI).length : Nat)
  | [], cs, tot, wh, hl => ⟨hl, fun i => (Int.add_zero _).symm, (Int.add_zero _).symm, (Int.add_zero _).symm⟩
  | j :: l, cs, tot, wh, hl => by
    unfold cnGo
    cases hw : L.wA j with
    | none =>
      have e : heldAt1 L j = none := by unfold heldAt1; rw [hw]; cases L.kA j <;> rfl
      rw [List.filterMap_cons_none e]
      exact cn_go hkw l cs tot wh hl
    | some v =>
      obtain ⟨k, hk, hok⟩ := hkw j (by rw [hw]; exact fun h => by cases h)
      have e : heldAt1 L j = some (k, some v) := by unfold heldAt1; rw [hk, hw]
      rw [List.filterMap_cons_some e, hk]
      dsimp only
      rw [List.map_cons]
      by_cases hp : 0 < aidx k
      · rw [if_pos hp]
        have ep : posI k = some (aidx k).toNat := by rw [posI_aidx, if_pos hp]
        rw [List.filterMap_cons_some ep]
        have hb := clog_small (x := (aidx k).toNat) (by lia -abstractProof) (aidx_small hok)
        obtain ⟨a1, a2, a3, a4⟩ := cn_go hkw l (bump cs (clog (aidx k).toNat)) (tot + 1) (wh + 1) (by rw [bump_len]; exact hl)
        refine ⟨a1, fun i => ?_, ?_, ?_⟩
        · rw [a2, bump_get (by lia -abstractProof)]
          unfold cC
          rw [List.countP_cons]
          simp only [decide_eq_true_eq]
          split <;> lia -abstractProof
        · rw [a3, List.length_cons]; lia -abstractProof
        · rw [a4, List.length_cons]; lia -abstractProof
      · rw [if_neg hp]
        have ep : posI k = none := by rw [posI_aidx, if_neg hp]
        rw [List.filterMap_cons_none ep]
        obtain ⟨a1, a2, a3, a4⟩ := cn_go hkw l cs (tot + 1) wh hl
        refine ⟨a1, a2, ?_, a4⟩
        rw [a3, List.length_cons]; lia -abstractProof
/-- what rehash counts -/
theorem counts_eq {n : Nat} {L : Lot} {nxt : List Int} {k : Key} (I : Inv n L nxt) (hk : k.ok) (hrl : L.row.length ≤ 1000) {r1 : List Int × Int} {r2 : List Int × Int × Int}
    (e1 : r1 = caGo L.row (List.range 27) 1 1 (List.replicate 27 0) 0) (e2 : r2 = cnGo L (List.range n) r1.1 0 0) :
    r1.1.length = 27 ∧ r2.1.length = 27 ∧ (if 0 < aidx k then bump r2.1 (clog (aidx k).toNat) else r2.1) = (List.range 27).map (fun i => ((cC (numsL L k) i : Nat) : Int)) ∧
    r1.2 + (r2.2.2 + (if 0 < aidx k then 1 else 0)) = ((numsL L k).length : Nat) ∧ r1.2 + (r2.2.1 + 1) = (((heldL L).length + (slotsL L.row).length + 1 : Nat) : Int) := by
  have a := ca_all hrl (cs := List.replicate 27 0) (by simp)
  rw [← e1] at a
  obtain ⟨a1, a2, a3⟩ := a
  have hkw : ∀ i, L.wA i ≠ none → ∃ k, L.kA i = some k ∧ k.ok := fun i h => by
    cases e : L.kA i with
    | none => exact absurd (I.wk i e) h
    | some k' => exact ⟨k', rfl, I.ok i k' e⟩
  have b := cn_go hkw (List.range n) r1.1 0 0 a1
  rw [← e2] at b
  have eh : (List.range n).filterMap (heldAt1 L) = heldL L := by unfold heldL; rw [I.lk]
  rw [eh] at b
  obtain ⟨b1, b2, b3, b4⟩ := b
  have hsum : ∀ i, cC (numsL L k) i = cC (slotsL L.row) i + cC (((heldL L).map (·.1)).filterMap posI) i + (if 0 < aidx k then (if clog (aidx k).toNat = i then 1 else 0) else 0) := fun i => by
    unfold numsL cC
    rw [List.countP_append, List.filterMap_append, List.countP_append]
    have : List.filterMap posI [k] = if 0 < aidx k then [(aidx k).toNat] else [] := by
      by_cases hp : 0 < aidx k
      · rw [if_pos hp, List.filterMap_cons_some (by rw [posI_aidx, if_pos hp])]; rfl
      · rw [if_neg hp, List.filterMap_cons_none (by rw [posI_aidx, if_neg hp])]; rfl
    rw [this]
    by_cases hp : 0 < aidx k
    · rw [if_pos hp, if_pos hp]; simp [List.countP_cons]; lia -abstractProof
    · rw [if_neg hp, if_neg hp]; simp
  have hlen : (numsL L k).length = (slotsL L.row).length + (((heldL L).map (·.1)).filterMap posI).length + (if 0 < aidx k then 1 else 0) := by
    unfold numsL
    rw [List.length_append, List.filterMap_append, List.length_append]
    have : List.filterMap posI [k] = if 0 < aidx k then [(aidx k).toNat] else [] := by
      by_cases hp : 0 < aidx k
      · rw [if_pos hp, List.filterMap_cons_some (by rw [posI_aidx, if_pos hp])]; rfl
      · rw [if_neg hp, List.filterMap_cons_none (by rw [posI_aidx, if_neg hp])]; rfl
    rw [this]
    by_cases hp : 0 < aidx k
    · rw [if_pos hp, if_pos hp]; simp; lia -abstractProof
    · rw [if_neg hp, if_neg hp]; simp
  refine ⟨a1, b1, ?_, ?_, ?_⟩
  · have hg : ∀ i, i < 27 → (if 0 < aidx k then bump r2.1 (clog (aidx k).toNat) else r2.1).getD i 0 = ((cC (numsL L k) i : Nat) : Int) := fun i hi => by
      have hz : (List.replicate 27 (0 : Int)).getD i 0 = 0 := by
        rw [List.getD_eq_getElem?_getD, List.getElem?_replicate, if_pos hi]; rfl
      rw [hsum]
      by_cases hp : 0 < aidx k
      · have hb := clog_small (x := (aidx k).toNat) (by lia -abstractProof) (aidx_small hk)
        rw [if_pos hp, if_pos hp, bump_get (by lia -abstractProof), b2, a2 i hi, hz]
        split <;> lia -abstractProof
      · rw [if_neg hp, if_neg hp, b2, a2 i hi, hz]; lia -abstractProof
    have hl3 : (if 0 < aidx k then bump r2.1 (clog (aidx k).toNat) else r2.1).length = 27 := by
      split
      · rw [bump_len]; exact b1
      · exact b1
    generalize (if 0 < aidx k then bump r2.1 (clog (aidx k).toNat) else r2.1) = cs at hg hl3 ⊢
    refine List.ext_getElem (by simp; exact hl3) fun i h1 h2 => ?_
    have := hg i (by lia -abstractProof)
    rw [List.getD_eq_getElem?_getD, List.getElem?_eq_getElem h1] at this
    simpa using this
  · rw [a3, b4, hlen]
    split <;> lia -abstractProof
  · rw [a3, b3]; lia -abstractProof
noncomputable def live (L : Lot) : Nat := cS L.row + cS L.worth
/-- what a deed makes of the places -/
inductive Wr (L : Lot) (k : Key) (v : Option Int) : Lot → Prop
  | row : inRow L k = true → Wr L k v { L with row := L.row.set (aidx k - 1).toNat v }
  | old {i : Nat} : inRow L k = false → L.kA i = some k → Wr L k v { L with worth := L.worth.set i v }
  | new {L' : Lot} : inRow L k = false → (∀ i, L.kA i ≠ some k) → placed L k v = some L' → Wr L k v L'
  | all : inRow L k = false → (∀ i, L.kA i ≠ some k) → placed L k v = none → Wr L k v (put (measured L k) k v)
/-- the key is told its worth -/
noncomputable def Told (L : Lot) (k : Key) (v : Option Int) : Prop := (inRow L k = true → L.row.getD (aidx k - 1).toNat none = v) ∧ (inRow L k = false → ∃ i, L.kA i = some k ∧ L.wA i = v)
section
variable {n : Nat} {L : Lot} {nxt : List Int} {k : Key} {v : Option Int}
theorem row_told (h : inRow L k = true) : Told { L with row := L.row.set (aidx k - 1).toNat v } k v := by
  refine ⟨fun _ => ?_, fun h' => ?_⟩
  · refine getD_set_self ?_
    cases k with
    | i m => simp only [inRow, Bool.and_eq_true, decide_eq_true_eq] at h; show (m - 1).toNat < _; lia
    | b x => cases h
    | y s => cases h
  · rw [inRow_len (L := L) (by simp), h] at h'; cases h'
theorem inv_row (I : Inv n L nxt) : Inv n { L with row := L.row.set (aidx k - 1).toNat v } nxt :=
  ⟨I.np, I.lk, I.lw, I.ln, I.F, I.ok, fun i k' hk => by rw [inRow_len (L := L) (by simp)]; exact I.nr i k' hk⟩
theorem inv_old (I : Inv n L nxt) {i : Nat} (h : L.kA i = some k) : Inv n { L with worth := L.worth.set i v } nxt := by
  obtain ⟨rank, F⟩ := I.F
  have hi := F.kl i k h
  refine ⟨I.np, I.lk, by simp; exact I.lw, I.ln, ⟨rank, ?_⟩, I.ok, I.nr⟩
  obtain ⟨fd, kl, uq, wk, up, hm, xr, inj, kx, kp, rc⟩ := F
  refine ⟨fd, kl, uq, fun j hj => ?_, up, hm, xr, inj, kx, kp, rc⟩
  have hj : L.kA j = none := hj
  have hne : i ≠ j := fun e => by rw [← e, h] at hj; cases hj
  show (L.worth.set i v).getD j none = none
  rw [getD_set_ne hne]; exact wk j hj
theorem fresh_live : cS (fresh L k).row + (itemsL L (sizeL L k)).length ≤ (slotsL L.row).length + (heldL L).length := by
  have h1 : cS (fresh L k).row ≤ (slotsL L.row).countP fun a => decide (a ≤ sizeL L k) := by
    rw [cS_slots]
    have : (slotsL (fresh L k).row).length = (slotsL (fresh L k).row).countP fun _ => true := by simp
    rw [this]
    refine cnt_le (slots_nodup _) fun x hx _ => ?_
    obtain ⟨h1, h2, h3⟩ := slots_mem.mp hx
    rw [fresh_len] at h2
    rw [fresh_get (by lia)] at h3
    refine ⟨slots_mem.mpr ⟨h1, ?_, h3⟩, decide_eq_true h2⟩
    by_cases q : x - 1 < L.row.length
    · lia
    · rw [List.getD_eq_getElem?_getD, List.getElem?_eq_none (by lia)] at h3; cases h3
  have h3 : (slotsL L.row).countP (fun a => decide (sizeL L k < a)) + (slotsL L.row).countP (fun a => decide (a ≤ sizeL L k)) = (slotsL L.row).length := by
    have := List.length_eq_countP_add_countP (fun a => decide (sizeL L k < a)) (l := slotsL L.row)
    rw [this]
    congr 1
    refine List.countP_congr fun a _ => ?_
    simp
  unfold itemsL
  rw [List.length_append, List.length_map, List.length_reverse, ← List.countP_eq_length_filter]
  lia
theorem fresh_inv (I : Inv n L nxt) (hl : live L ≤ 11) : Inv (places (manyL L k)) (fresh L k) (List.replicate (places (manyL L k)) (-1)) :=
  blank_inv _ (places_pow (by have := many_le (k := k) I; unfold live at hl; lia))
theorem meas_ok (I : Inv n L nxt) (hk : k.ok) (hnew : ∀ i, L.kA i ≠ some k) (hr : inRow L k = false) (hl : live L ≤ 11) (hrl : L.row.length ≤ 16) :
    (∃ nxt', Inv (places (manyL L k)) (measured L k) nxt') ∧ Fit (places (manyL L k)) (measured L k) [(k, v)] ∧ (measured L k).row.length = sizeL L k ∧ live (measured L k) ≤ live L := by
  have F := items_fit (v := v) I hk hnew hr (by lia)
  obtain ⟨h1, h2, h3, h4⟩ := fit_puts (fresh_inv I hl) F
  refine ⟨h1, h2, h3.trans fresh_len, Nat.le_trans h4 ?_⟩
  have h5 := fresh_live (L := L) (k := k)
  have h6 : cS (fresh L k).worth = 0 := by
    show cS (List.replicate _ none) = 0
    unfold cS; rw [List.countP_replicate]; rfl
  unfold live
  rw [cS_slots L.row, cS_held I, h6]; lia
theorem put_told {p : Key × Option Int} (I : Inv n L nxt) (F : Fit n L [p]) : (∃ nxt', Inv n (put L p.1 p.2) nxt') ∧ Told (put L p.1 p.2) p.1 p.2 ∧ live (put L p.1 p.2) ≤ live L + 1 ∧ (put L p.1 p.2).row.length = L.row.length := by
  by_cases h : inRow L p.1 = true
  · obtain ⟨h1, h2, _⟩ := fit_row I F h
    refine ⟨⟨nxt, h2⟩, by rw [h1]; exact row_told h, ?_, by rw [h1]; simp⟩
    rw [h1]
    have := cS_set L.row (aidx p.1 - 1).toNat p.2
    unfold live; dsimp only; lia
  · have h : inRow L p.1 = false := by simpa using h
    obtain ⟨hn, nxt', _, h2, h3, _, h5⟩ := fit_new I F h
    have hc := F.cn
    obtain ⟨L', _, _, a2, _, _, _, a6⟩ := nk_step (v := p.2) I hn (F.okk p (.head _)) (F.nk p (.head _)) h (by rw [h2]; exact fun h => by cases h)
    rw [h2] at a2
    have e := Option.some.inj a2
    obtain ⟨rank, IF⟩ := I.F
    have := (placed_cnt h2 IF.wk).2
    refine ⟨⟨nxt', h3⟩, ⟨fun h' => ?_, fun _ => by rw [e]; exact a6⟩, by unfold live; rw [h5]; lia, by rw [h5]⟩
    rw [inRow_len (L := L) (by rw [h5]), h] at h'; cases h'
theorem wr_ok (I : Inv n L nxt) (hk : k.ok) (hl : live L ≤ 11) (hrl : L.row.length ≤ 16) {L' : Lot} (W : Wr L k v L') :
    (∃ nxt', Inv L'.keys.length L' nxt') ∧ Told L' k v ∧ live L' ≤ live L + 1 ∧ L'.row.length ≤ 16 := by
  have fix : ∀ {m : Nat} {M : Lot}, (∃ nxt', Inv m M nxt') → ∃ nxt', Inv M.keys.length M nxt' := fun ⟨x, h⟩ => ⟨x, by rw [h.lk]; exact h⟩
  cases W with
  | row h =>
    refine ⟨fix ⟨nxt, inv_row I⟩, row_told h, ?_, by simp; exact hrl⟩
    have := cS_set L.row (aidx k - 1).toNat v
    unfold live; dsimp only; lia
  | @old i h hi =>
    refine ⟨fix ⟨nxt, inv_old I hi⟩, ⟨fun h' => ?_, fun _ => ⟨i, hi, ?_⟩⟩, ?_, hrl⟩
    · exact absurd (show inRow L k = true from h') (by rw [h]; decide)
    · obtain ⟨rank, F⟩ := I.F
      exact getD_set_self (by rw [I.lw]; exact F.kl i k hi)
    · have := cS_set L.worth i v
      unfold live; dsimp only; lia
  | new h hnew hp =>
    have hn : 0 < n := by
      rcases Nat.eq_zero_or_pos n with q | q
      · unfold placed at hp; rw [if_pos (by rw [I.lk]; exact q)] at hp; cases hp
      · exact q
    obtain ⟨M, nxt', _, a2, a3, a4, _, a6⟩ := nk_step (v := v) I hn hk hnew h (by rw [hp]; exact fun h => by cases h)
    rw [hp] at a2
    have e := Option.some.inj a2
    subst e
    refine ⟨fix ⟨nxt', a3⟩, ⟨fun h' => ?_, fun _ => a6⟩, ?_, by rw [a4]; exact hrl⟩
    · rw [inRow_len (L := L) (by rw [a4]), h] at h'; cases h'
    · have := (placed_cnt hp I.wk).2
      unfold live; rw [a4]; lia
  | all h hnew hp =>
    obtain ⟨⟨nxt', m1⟩, m2, m3, m4⟩ := meas_ok (v := v) I hk hnew h hl hrl
    obtain ⟨b1, b2, b3, b4⟩ := put_told m1 m2
    refine ⟨fix b1, b2, by dsimp only at b3; lia, ?_⟩
    have := size_le (k := k) I hl
    dsimp only at b4; lia
theorem wr_ex (L : Lot) (k : Key) (v : Option Int) : ∃ L', Wr L k v L' := by
  by_cases h : inRow L k = true
  · exact ⟨_, .row h⟩
  · have h : inRow L k = false := by simpa using h
    by_cases hk : ∃ i, L.kA i = some k
    · obtain ⟨i, hi⟩ := hk; exact ⟨_, .old h hi⟩
    · have hk : ∀ i, L.kA i ≠ some k := fun i hi => hk ⟨i, hi⟩
      cases hp : placed L k v with
      | none => exact ⟨_, .all h hk hp⟩
      | some L' => exact ⟨_, .new h hk hp⟩
/-- what a look-up along the chain answers -/
theorem path_of (I : Inv n L nxt) (hn : n ≠ 0) (k : Key) : ∃ l, Path nxt (homeI n k) l := by
  obtain ⟨rank, F⟩ := I.F
  have hp : 0 < n := by lia
  obtain ⟨l, hl⟩ := path_ex F I.ln (rank (hN n k) + 1) (hN n k) (by lia) (hN_lt hp k)
  exact ⟨l, by rw [hN_eq hp k]; exact hl⟩
theorem atN_has {nd : List Addr} {l : List Nat} {i : Nat} (I : Inv nd.length L nxt) (hl : nd.length ≠ 0 → Path nxt (homeI nd.length k) l) (h : L.kA i = some k) : atN nd L k l = i := by
  obtain ⟨rank, F⟩ := I.F
  have hi := F.kl i k h
  have hp : 0 < nd.length := by lia
  have hl := hl (by lia)
  rw [hN_eq hp k] at hl
  unfold atN
  rw [if_neg (by lia)]
  exact pfind_mem h (fun j hj => F.uq j i k hj h) ((F.rc i k h).mem hl)
theorem atN_no {nd : List Addr} {l : List Nat} (h : ∀ i, L.kA i ≠ some k) : atN nd L k l = -1 := by
  unfold atN
  split
  · rfl
  · exact pfind_none h
theorem told_look {nd : List Addr} {l : List Nat} (I : Inv nd.length L nxt) (hl : nd.length ≠ 0 → Path nxt (homeI nd.length k) l) (T : Told L k v) (h : inRow L k = false) : lookN L (atN nd L k l) = v := by
  obtain ⟨i, h1, h2⟩ := T.2 h
  rw [atN_has I hl h1]
  unfold lookN
  rw [if_neg (by lia)]; exact h2
end
theorem new_key_fc {g : Gl} (hg : HK g) {σ : AH} {k : Key} {v : Option Int} {t A N : Addr} {nd : List Addr} {L : Lot} {nxt : List Int} {sz lg : Int} {L' : Lot} {nxt' : List Int} {main : Nat} {Q : Value → AH → Prop} (H : TabAt σ t A N nd L nxt sz lg) (hp : Pow nd.length) (hk : k.ok) (hks : ∀ i kp, L.kA i = some kp → kp.ok) (hf : L.found ≤ nd.length)
    (hm : homeI nd.length k = main) (hnk : NK nd.length L nxt k v main L' nxt') (h : ∀ σ', TabAt σ' t A N nd L' nxt' sz lg → Same (t :: nd) σ σ' → Q .none σ') : FC g 3 (.ref 294) [.ref t, k.v, vo v, .none] σ Q := by
  refine fc_def (n := 2) (ds := []) [Str.ofString "self", Str.ofString "key", Str.ofString "value", Str.ofString "heap"] [Str.ofString "main", Str.ofString "place", Str.ofString "spot", Str.ofString "other"] (by rw [hg]; exact rfl) (by rw [hg]; kernel_rfl) (fun vals hv s _ => ?_) rfl (by decide +kernel) (by decide +kernel) rfl rfl rfl (by decide +kernel) ?_
  · obtain ⟨a0, a1, a2, a3, rfl⟩ := len4 hv; exact BindsTo.of_eq rfl
  intro c ok hgl hroom hsc hloc
  have hcK : KOK c := by subst hgl; exact hg
  have hgc : HK c.gl := by rw [hgl]; exact hg
  simp only [startM, List.cons_append, List.nil_append, List.append_nil, List.map_nil, List.map_cons]
  have hT := H.inst
  have hN := H.nod
  have hnl : nd.length ≤ 1000 := by unfold Pow at hp; lia
  have hpos := hp.pos
  repeat tb_rel
  refine if_f (beq_eq_false_iff_ne.mpr (by lia)) ?_
  repeat tb_rel
  refine ca_fcK 2 ok (by lia) (main_position_fc hgc H hp hk ?_)
  rw [hm]
  have hmr := homeI_range hpos k
  rw [hm] at hmr
  have hm2 : main < nd.length := by lia
  have hm3 : main < 1000 := by lia
  obtain ⟨p, hpl⟩ : ∃ p, nd[main]? = some p := ⟨_, List.getElem?_eq_getElem hm2⟩
  have hn := H.node main p hpl
  have pnd : p ∈ nd := List.mem_of_getElem? hpl
  repeat tb_rel
  cases hnk with
  | free hw =>
    refine if_f (by rw [hw]; rfl) ?_
    repeat tb_rel
    have H1 := H.setK hpl (some k)
    have H2 := H1.setW hpl v
    rw [show Lot.kA { L with keys := L.keys.set main (some k) } main = some k from getD_set_self (H.lt hpl).1] at H2
    exact h _ H2 ((Same.set (.tail _ pnd)).trans (Same.set (.tail _ pnd)))
  | @home s kp hw hfr hkp hhome =>
    have hs := freeP_lt hfr
    have hs2 : s < nd.length := by lia
    have hs3 : s < 1000 := by lia
    obtain ⟨q, hql⟩ : ∃ q, nd[s]? = some q := ⟨_, List.getElem?_eq_getElem hs2⟩
    have qnd : q ∈ nd := List.mem_of_getElem? hql
    refine if_t (by cases hww : L.wA main with | none => exact absurd hww hw | some _ => rfl) ?_
    repeat tb_rel
    refine ca_fcK 1 ok (by lia) (free_position_fc hgc H hnl hf ?_)
    rw [hfr]
    have H1 := H.setT (sz' := sz) (lg' := lg) (fr := s)
    have S1 : Same (t :: nd) σ (σ.set t (.inst 408 (tabF A N sz lg s))) := Same.set (.head _)
    show ∃ μ', Put _ (vi (s : Nat)) _ μ' ∧ Then c _ _ .next μ' (σ.set t (.inst 408 (tabF A N sz lg (s : Nat))))
    generalize hσ1 : σ.set t (.inst 408 (tabF A N sz lg s)) = σ1 at H1 S1 ⊢
    obtain ⟨L1, hL1⟩ : ∃ L1 : Lot, L1 = { L with found := s } := ⟨_, rfl⟩
    rw [← hL1] at H1
    have hkp1 : L1.kA main = some kp := by rw [hL1]; exact hkp
    clear hσ1
    have hT1 := H1.inst
    have hN1 := H1.nod
    have hn1 := H1.node main p hpl
    repeat tb_rel
    rw [hkp1]
    show CA c (.ref 224) [.ref t, kp.v] σ1 _
    refine ca_fcK 2 ok (by lia) (main_position_fc hgc H1 hp (hks main kp hkp) ?_)
    rw [hhome]
    have hq1 := H1.node s q hql
    have hms : s ≠ main := fun e => by
      have := freeP_none hfr
      rw [e, hkp] at this; cases this
    have hpq : p ≠ q := fun e => hms (nd_inj H.nodup (by rw [hql, ← e]) hpl)
    repeat tb_rel
    refine if_f (by simp) ?_
    repeat tb_rel
    have H3 := (H1.setX hql (xA nxt main)).setX hpl (s : Int)
    have S3 : Same (t :: nd) σ _ := (S1.trans (Same.set (o := .inst 177 (nodeF (L1.kA s) (L1.wA s) (xA nxt main))) (.tail _ qnd))).trans (Same.set (o := .inst 177 (nodeF (L1.kA main) (L1.wA main) (s : Int))) (.tail _ pnd))
    generalize hσ3 : (σ1.set q (.inst 177 (nodeF (L1.kA s) (L1.wA s) (xA nxt main)))).set p (.inst 177 (nodeF (L1.kA main) (L1.wA main) (s : Int))) = σ3 at H3 S3 ⊢
    have hT3 := H3.inst
    have hN3 := H3.nod
    have hq3 := H3.node s q hql
    repeat tb_rel
    have H4 := (H3.setK hql (some k)).setW hql v
    rw [show Lot.kA { L1 with keys := L1.keys.set s (some k) } s = some k from getD_set_self (H3.lt hql).1] at H4
    rw [hL1] at H4
    have := h _ H4 ((S3.trans (Same.set (.tail _ qnd))).trans (Same.set (.tail _ qnd)))
    rw [hL1]
    exact this
  | @away s o kp pre hw hfr hkp hhome hwalk hom =>
    have hs := freeP_lt hfr
    have hs2 : s < nd.length := by lia
    have hs3 : s < 1000 := by lia
    obtain ⟨q, hql⟩ : ∃ q, nd[s]? = some q := ⟨_, List.getElem?_eq_getElem hs2⟩
    have qnd : q ∈ nd := List.mem_of_getElem? hql
    refine if_t (by cases hww : L.wA main with | none => exact absurd hww hw | some _ => rfl) ?_
    repeat tb_rel
    refine ca_fcK 1 ok (by lia) (free_position_fc hgc H hnl hf ?_)
    rw [hfr]
    have H1 := H.setT (sz' := sz) (lg' := lg) (fr := s)
    have S1 : Same (t :: nd) σ (σ.set t (.inst 408 (tabF A N sz lg s))) := Same.set (.head _)
    show ∃ μ', Put _ (vi (s : Nat)) _ μ' ∧ Then c _ _ .next μ' (σ.set t (.inst 408 (tabF A N sz lg (s : Nat))))
    generalize hσ1 : σ.set t (.inst 408 (tabF A N sz lg s)) = σ1 at H1 S1 ⊢
    obtain ⟨L1, hL1⟩ : ∃ L1 : Lot, L1 = { L with found := s } := ⟨_, rfl⟩
    rw [← hL1] at H1
    have hkp1 : L1.kA main = some kp := by rw [hL1]; exact hkp
    clear hσ1
    have hT1 := H1.inst
    have hN1 := H1.nod
    have hn1 := H1.node main p hpl
    repeat tb_rel
    rw [hkp1]
    show CA c (.ref 224) [.ref t, kp.v] σ1 _
    refine ca_fcK 2 ok (by lia) (main_position_fc hgc H1 hp (hks main kp hkp) ?_)
    obtain ⟨o0, ho0⟩ : ∃ o0 : Nat, homeI nd.length kp = o0 := ⟨(homeI nd.length kp).toNat, by have := homeI_range hpos kp; lia⟩
    rw [ho0] at hhome hwalk ⊢
    rw [Int.toNat_natCast] at hwalk
    have hq1 := H1.node s q hql
    have hms : s ≠ main := fun e => by
      have := freeP_none hfr
      rw [e, hkp] at this; cases this
    have hpq : p ≠ q := fun e => hms (nd_inj H.nodup (by rw [hql, ← e]) hpl)
    repeat tb_rel
    refine if_t (by simpa using hhome) ?_
    repeat tb_rel
    have hln1 := H1.ln
    refine ex_while (fun m μ' σ' => σ' = σ1 ∧ Xe2 fun i l => (m = l.length) ∧ (Walk nxt main i l o) ∧ (μ' = [(Str.ofString "self", some (.ref t)), (Str.ofString "key", some k.v), (Str.ofString "value", some (vo v)), (Str.ofString "heap", some Value.none),
      (Str.ofString "main", some (vi main)), (Str.ofString "place", some (.ref p)), (Str.ofString "spot", some (vi s)), (Str.ofString "other", some (vi (i : Nat)))])) pre.length ⟨rfl, o0, pre, rfl, hwalk, rfl⟩ ?_
    rintro m μ' σ' hI0
    refine hide fun S0 hS0 => ?_
    obtain ⟨es0, i, l, em0, hwk, eu0⟩ := hI0
    refine hS0 (at3 es0 em0 eu0 ?_)
    clear hS0 S0
    have hi : i < nd.length := by
      rw [← hln1]
      cases l with
      | nil => exact hwk.2.1
      | cons j l => exact hwk.1
    have hi3 : i < 1000 := by lia
    obtain ⟨b, hbl⟩ : ∃ b, nd[i]? = some b := ⟨_, List.getElem?_eq_getElem hi⟩
    have hb1 := H1.node i b hbl
    have bnd : b ∈ nd := List.mem_of_getElem? hbl
    repeat tb_rel
    cases l with
    | cons j l =>
      refine hide fun S0 hS0 => ?_
      obtain ⟨_, w1, w2, w3⟩ := hwk
      refine hS0 ?_
      clear hS0 S0
      refine if_t (by simpa using w1) ?_
      repeat tb_rel
      exact ⟨l.length, by simp, rfl, j, l, rfl, w3, by rw [w2]⟩
    | nil =>
      obtain ⟨rfl, _, w1⟩ := hwk
      refine if_f (by rw [w1]; simp) ?_
      have hpb : p ≠ b := fun e => hom (nd_inj H.nodup (by rw [hbl, ← e]) hpl)
      have htb : t ≠ b := (H1.ne_t hbl).symm
      repeat tb_rel
      have H2 := H1.setX hbl (s : Int)
      have S2 := S1.trans (Same.set (σ := σ1) (o := .inst 177 (nodeF (L1.kA i) (L1.wA i) (s : Int))) (List.mem_cons_of_mem t bnd))
      generalize hσ2 : σ1.set b (.inst 177 (nodeF (L1.kA i) (L1.wA i) (s : Int))) = σ2 at H2 S2 ⊢
      have hT2 := H2.inst
      have hN2 := H2.nod
      repeat tb_rel
      refine ca_fcK 1 ok (by lia) (moved_to_fc hgc H2 hpl hql hpq ?_)
      have H3 := H2.setN hql (keys' := L1.keys.set s (L1.kA main)) (worth' := L1.worth.set s (L1.wA main)) (nxt' := (nxt.set i s).set s (xA (nxt.set i s) main)) (by simp [H2.lk]) (by simp [H2.lw]) (by simp [H2.ln.symm]) (getD_set_self (H2.lt hql).1) (getD_set_self (H2.lt hql).2.1) (getD_set_self (H2.lt hql).2.2) fun j hj => ⟨getD_set_ne (Ne.symm hj), getD_set_ne (Ne.symm hj), getD_set_ne (Ne.symm hj)⟩
      have S3 := S2.trans (Same.set (σ := σ2) (o := .inst 177 (nodeF (L1.kA main) (L1.wA main) (xA (nxt.set i s) main))) (List.mem_cons_of_mem t qnd))
      generalize hσ3 : σ2.set q (.inst 177 (nodeF (L1.kA main) (L1.wA main) (xA (nxt.set i s) main))) = σ3 at H3 S3 ⊢
      have hp3 := H3.node main p hpl
      repeat tb_rel
      simp only [AH.set_set]
      have H4 := H3.setN hpl (keys' := (L1.keys.set s (L1.kA main)).set main (some k)) (worth' := ((L1.worth.set s (L1.wA main)).set main none).set main v) (nxt' := ((nxt.set i s).set s (xA (nxt.set i s) main)).set main (-1)) (k := some k) (v := v) (x := -1)
        (by simp [H1.lk]) (by simp [H1.lw]) (by simp [H1.ln]) (getD_set_self (H3.lt hpl).1) (getD_set_self (by simp [H1.lw]; exact hm2)) (getD_set_self (H3.lt hpl).2.2) fun j hj => ⟨getD_set_ne (Ne.symm hj), by rw [getD_set_ne (Ne.symm hj), getD_set_ne (Ne.symm hj)]; rfl, getD_set_ne (Ne.symm hj)⟩
      have := S3.trans (Same.set (σ := σ3) (o := .inst 177 (nodeF (some k) v (-1))) (List.mem_cons_of_mem t pnd))
      rw [hkp1] at H4
      rw [hL1] at H4
      exact h _ H4 this
theorem weigh_fc {g : Gl} (hg : HK g) {σ : AH} {t A N : Addr} {nd : List Addr} {L : Lot} {nxt : List Int} {sz lg : Int} {Q : Value → AH → Prop} (H : TabAt σ t A N nd L nxt sz lg) (hnl : nd.length ≤ 1000) (hrl : L.row.length ≤ 1000)
    (h : ∀ σ' sz', TabAt σ' t A N nd L nxt sz' lg → Same [t] σ σ' → Q .none σ') : FC g 1 (.ref 356) [.ref t, .none] σ Q := by
  refine fc_def (n := 0) (ds := []) [Str.ofString "self", Str.ofString "heap"] [] (by rw [hg]; exact rfl) (by rw [hg]; kernel_rfl) (fun vals hv s _ => ?_) rfl (by decide +kernel) (by decide +kernel) rfl rfl rfl (by decide +kernel) ?_
  · obtain ⟨a0, a1, rfl⟩ := len2 hv; exact BindsTo.of_eq rfl
  intro c ok hgl hroom hsc hloc
  have hcK : KOK c := by subst hgl; exact hg
  have hgc : HK c.gl := by rw [hgl]; exact hg
  simp only [startM, List.cons_append, List.nil_append, List.append_nil, List.map_nil, List.map_cons]
  have hT := H.inst
  have hN := H.nod
  have hA := H.arr
  repeat tb_rel
  refine bo_mul (.of_left (by decide +kernel)) ?_
  repeat tb_rel
  refine bo_mul (.of_left (by decide +kernel)) ?_
  repeat tb_rel
  exact h _ _ (H.setT (sz' := _) (lg' := lg) (fr := L.found)) (Same.set (.head _))
theorem put_back_fc {g : Gl} (hg : HK g) {σ : AH} {k : Key} {v : Option Int} {t A N : Addr} {nd : List Addr} {L : Lot} {nxt : List Int} {sz lg : Int} {Q : Value → AH → Prop} (H : TabAt σ t A N nd L nxt sz lg) (hrl : L.row.length ≤ 1000)
    (h1 : inRow L k = true → ∀ σ', TabAt σ' t A N nd { L with row := L.row.set (aidx k - 1).toNat v } nxt sz lg → Same (t :: A :: nd) σ σ' → Q .none σ')
    (h2 : inRow L k = false → FC g 3 (.ref 294) [.ref t, k.v, vo v, .none] σ fun _ σ' => Q .none σ') : FC g 4 (.ref 337) [.ref t, k.v, vo v, .none] σ Q := by
  refine fc_def (n := 3) (ds := []) [Str.ofString "self", Str.ofString "key", Str.ofString "value", Str.ofString "heap"] [Str.ofString "at"] (by rw [hg]; exact rfl) (by rw [hg]; kernel_rfl) (fun vals hv s _ => ?_) rfl (by decide +kernel) (by decide +kernel) rfl rfl rfl (by decide +kernel) ?_
  · obtain ⟨a0, a1, a2, a3, rfl⟩ := len4 hv; exact BindsTo.of_eq rfl
  intro c ok hgl hroom hsc hloc
  have hcK : KOK c := by subst hgl; exact hg
  have hgc : HK c.gl := by rw [hgl]; exact hg
  simp only [startM, List.cons_append, List.nil_append, List.append_nil, List.map_nil, List.map_cons]
  have hT := H.inst
  have hA := H.arr
  subst hgl
  repeat tb_rel
  by_cases hin : inRow L k = true
  · have h1 := h1 hin
    obtain ⟨n, rfl, l1, l2⟩ : ∃ n, k = .i n ∧ 1 ≤ n ∧ n ≤ L.row.length := by
      cases k with
      | i n => simp only [inRow, Bool.and_eq_true, decide_eq_true_eq] at hin; exact ⟨n, rfl, hin⟩
      | b x => cases hin
      | y s => cases hin
    refine if_t (decide_eq_true l1) ?_
    repeat tb_rel
    refine if_t (decide_eq_true l2) ?_
    repeat tb_rel
    refine si_rowI (n := n) hA (by lia) l2 (by lia) ?_
    repeat tb_rel
    have := h1 _ (H.setR (L.row.set (aidx (.i n) - 1).toNat v)) (Same.set (.tail _ (.head _)))
    exact this
  · have hin : inRow L k = false := by simpa using hin
    have h2 := h2 hin
    have go : ∀ (q : Bool), q = q := fun _ => rfl
    have hcond : ¬ (1 ≤ aidx k ∧ aidx k ≤ L.row.length) := by
      cases k with
      | i n => intro hh; simp [inRow, aidx] at hin hh; lia
      | b x => simp only [aidx]; lia
      | y s => simp only [aidx]; lia
    by_cases hi : 1 ≤ aidx k
    · refine if_t (decide_eq_true hi) ?_
      repeat tb_rel
      refine if_f (decide_eq_false (by lia)) ?_
      repeat tb_rel
      refine ca_fcK 3 ok (by lia) (h2.mono (Nat.le_refl _) fun v σ' hq => ?_)
      repeat tb_rel
      exact hq
    · refine if_f (decide_eq_false hi) ?_
      repeat tb_rel
      refine ca_fcK 3 ok (by lia) (h2.mono (Nat.le_refl _) fun v σ' hq => ?_)
      repeat tb_rel
      exact hq
theorem put_again_fc {g : Gl} (hg : HK g) {σ : AH} {k : Key} {v : Option Int} {t A N : Addr} {nd : List Addr} {L : Lot} {nxt : List Int} {sz lg : Int} {Q : Value → AH → Prop} (H : TabAt σ t A N nd L nxt sz lg) (hrl : L.row.length ≤ 1000)
    (h1 : inRow L k = true → ∀ σ', TabAt σ' t A N nd { L with row := L.row.set (aidx k - 1).toNat v } nxt sz lg → Same (t :: A :: nd) σ σ' → Q .none σ')
    (h2 : inRow L k = false → FC g 3 (.ref 294) [.ref t, k.v, vo v, .none] σ fun _ σ' => Q .none σ') : FC g 4 (.ref 301) [.ref t, k.v, vo v, .none] σ Q := by
  refine fc_def (n := 3) (ds := []) [Str.ofString "self", Str.ofString "key", Str.ofString "value", Str.ofString "heap"] [Str.ofString "at"] (by rw [hg]; exact rfl) (by rw [hg]; kernel_rfl) (fun vals hv s _ => ?_) rfl (by decide +kernel) (by decide +kernel) rfl rfl rfl (by decide +kernel) ?_
  · obtain ⟨a0, a1, a2, a3, rfl⟩ := len4 hv; exact BindsTo.of_eq rfl
  intro c ok hgl hroom hsc hloc
  have hcK : KOK c := by subst hgl; exact hg
  have hgc : HK c.gl := by rw [hgl]; exact hg
  simp only [startM, List.cons_append, List.nil_append, List.append_nil, List.map_nil, List.map_cons]
  have hT := H.inst
  have hA := H.arr
  subst hgl
  repeat tb_rel
  by_cases hin : inRow L k = true
  · have h1 := h1 hin
    obtain ⟨n, rfl, l1, l2⟩ : ∃ n, k = .i n ∧ 1 ≤ n ∧ n ≤ L.row.length := by
      cases k with
      | i n => simp only [inRow, Bool.and_eq_true, decide_eq_true_eq] at hin; exact ⟨n, rfl, hin⟩
      | b x => cases hin
      | y s => cases hin
    refine if_t (decide_eq_true l1) ?_
    repeat tb_rel
    refine if_t (decide_eq_true l2) ?_
    repeat tb_rel
    refine si_rowI (n := n) hA (by lia) l2 (by lia) ?_
    repeat tb_rel
    have := h1 _ (H.setR (L.row.set (aidx (.i n) - 1).toNat v)) (Same.set (.tail _ (.head _)))
    exact this
  · have hin : inRow L k = false := by simpa using hin
    have h2 := h2 hin
    have go : ∀ (q : Bool), q = q := fun _ => rfl
    have hcond : ¬ (1 ≤ aidx k ∧ aidx k ≤ L.row.length) := by
      cases k with
      | i n => intro hh; simp [inRow, aidx] at hin hh; lia
      | b x => simp only [aidx]; lia
      | y s => simp only [aidx]; lia
    by_cases hi : 1 ≤ aidx k
    · refine if_t (decide_eq_true hi) ?_
      repeat tb_rel
      refine if_f (decide_eq_false (by lia)) ?_
      repeat tb_rel
      refine ca_fcK 3 ok (by lia) (h2.mono (Nat.le_refl _) fun v σ' hq => ?_)
      repeat tb_rel
      exact hq
    · refine if_f (decide_eq_false hi) ?_
      repeat tb_rel
      refine ca_fcK 3 ok (by lia) (h2.mono (Nat.le_refl _) fun v σ' hq => ?_)
      repeat tb_rel
      exact hq
theorem make_nodes_fc {g : Gl} (hg : HK g) {σ : AH} {t A N : Addr} {sz lg fr : Int} {hs : Nat} {Q : Value → AH → Prop} (hT : σ t = some (.inst 408 (tabF A N sz lg fr))) (hh : hs ≤ 256)
    (h : ∀ (σ' : AH) (N' : Addr) (nd' : List Addr) (lg' : Int), σ' t = some (.inst 408 (tabF A N' sz lg' (nd'.length : Nat))) → σ' N' = some (.list (nd'.map .ref)) → σ N' = none → (∀ a ∈ nd', σ' a = some (.inst 177 (nodeF none none (-1))) ∧ σ a = none) → nd'.Nodup → nd'.length = places hs → Keep [t] σ σ' → Q .none σ') : FC g 4 (.ref 342) [.ref t, vi hs] σ Q := by
  refine fc_def (n := 3) (ds := []) [Str.ofString "self", Str.ofString "hash_size"] [] (by rw [hg]; exact rfl) (by rw [hg]; kernel_rfl) (fun vals hv s _ => ?_) rfl (by decide +kernel) (by decide +kernel) rfl rfl rfl (by decide +kernel) ?_
  · obtain ⟨a0, a1, rfl⟩ := len2 hv; exact BindsTo.of_eq rfl
  intro c ok hgl hroom hsc hloc
  have hcK : KOK c := by subst hgl; exact hg
  have hgc : HK c.gl := by rw [hgl]; exact hg
  simp only [startM, List.cons_append, List.nil_append, List.append_nil, List.map_nil, List.map_cons]
  repeat tb_rel
  refine if_f (decide_eq_false (by lia)) ?_
  repeat tb_rel
  refine ev_list ?_
  repeat tb_rel
  refine ⟨by decide, fun e1 he1 => ?_⟩
  have hte : t ≠ e1 := fun e => by rw [← e, hT] at he1; cases he1
  repeat tb_rel
  simp only [AH.set_set]
  have hT1 : ((σ.set e1 (.list [])).set t (.inst 408 (tabF A e1 sz 0 fr))) t = some (.inst 408 (tabF A e1 sz 0 fr)) := AH.set_self ..
  have hE1 : ((σ.set e1 (.list [])).set t (.inst 408 (tabF A e1 sz 0 fr))) e1 = some (.list (([] : List Addr).map .ref)) := (AH.set_ne hte.symm).trans (AH.set_self ..)
  have K1 : Keep [t] σ ((σ.set e1 (.list [])).set t (.inst 408 (tabF A e1 sz 0 fr))) := fun a o ha e => by
    rw [AH.set_ne (by simpa using ha)]; exact Le.new he1 a o e
  generalize hσ1 : (σ.set e1 (.list [])).set t (.inst 408 (tabF A e1 sz 0 fr)) = σ1 at hT1 hE1 K1 ⊢
  have hnil : ([] : List Addr).length ≤ 1000 := by decide
  have fresh1 : ∀ a, σ1 a = none → σ a = none := fun a ha => by
    cases e : σ a with
    | none => rfl
    | some o =>
      by_cases q : a = t
      · rw [q, hT1] at ha; cases ha
      · rw [K1 a o (by simpa using q) e] at ha; cases ha
  clear hσ1
  refine if_b (fun hb => ?_) (fun hb => ?_)
  · have hb : 0 < (hs : Int) := of_decide_eq_true hb
    repeat tb_rel
    refine ca_fcK 2 ok (by lia) (ceil_log2_fc hgc (by lia) ?_)
    repeat tb_rel
    have hT2 : (σ1.set t (.inst 408 (tabF A e1 sz (clog hs) fr))) t = some (.inst 408 (tabF A e1 sz (clog hs) fr)) := AH.set_self ..
    have K2 : Keep [t] σ (σ1.set t (.inst 408 (tabF A e1 sz (clog hs) fr))) := K1.trans (Same.set (.head _)).keep
    have fresh2 : ∀ a, (σ1.set t (.inst 408 (tabF A e1 sz (clog hs) fr))) a = none → σ a = none := fun a ha => by
      by_cases q : a = t
      · rw [q, AH.set_self] at ha; cases ha
      · rw [AH.set_ne q] at ha; exact fresh1 a ha
    generalize hσ2 : σ1.set t (.inst 408 (tabF A e1 sz (clog hs) fr)) = σ2 at hT2 K2 fresh2 ⊢
    clear hσ2
    have hcl : clog hs ≤ 8 := lg2_le (hs - 1) 8 (by lia)
    have hpw : 2 ^ clog hs ≤ 2 ^ 8 := Nat.pow_le_pow_right (by decide) hcl
    refine ev_comp ok hloc [Str.ofString "step"] [] [] (fun _ _ => rfl) (closureFor_none (by decide +kernel)) .nil (by decide +kernel) rfl (by decide +kernel) (fun x hx => by rw [List.mem_singleton.mp hx]; rfl) (fun x V hx => nomatch hx) (by decide) ?_
    refine src_range rfl ok rfl (fun _ => rfl) ?_
    repeat tb_rel
    refine ⟨rfl, ?_⟩
    repeat tb_rel
    refine bo_shl (by lia) (by lia) (by decide) ?_
    have e : (1 : Int) * 2 ^ ((clog hs : Nat) : Int).toNat = ((2 ^ clog hs : Nat) : Int) := by simp
    rw [e]
    generalize hP : 2 ^ clog hs = P at hpw ⊢
    clear e
    refine ⟨_, rfl, by lia, by lia, fun c' hci => ?_⟩
    rw [Int.toNat_natCast]
    refine ⟨by simp [tkRange]; lia, ?_⟩
    have ok' := hci.ok
    have hgc' : HK c'.gl := by rw [hci.gl]; exact hgc
    have hK' : KOK c' := hgc'
    have hne' := hci.ne
    have hsc' := hci.sc
    have hkl : c'.env.kindOf (Str.ofString "step") = some .local := by rw [Env.kindOf, hsc']; rfl
    have hroom' : c'.room = 3 := by rw [hci.room]; exact hroom
    unfold tkRange
    refine CT.inv (fun l acc μ' σ' => Xe2 fun (nd' : List Addr) (o : Option Value) => Xa6 (acc = nd'.map .ref) (nd'.length + l.length = P) (nd'.Nodup) ((∀ a ∈ nd', σ' a = some (.inst 177 (nodeF none none (-1))) ∧ σ2 a = none)) (Keep [] σ2 σ') (μ' = [(Str.ofString "step", o)]))
      ?_ ?_ (List.range _) [] _ σ2 ⟨[], none, rfl, by simp, .nil, (fun a ha => nomatch ha), (fun a o _ e => e), rfl⟩
    · rintro acc μ' σ' hI0
      refine hide fun S0 hS0 => ?_
      obtain ⟨nd', o, ea0, hl, hnd, hno, K, eu0⟩ := hI0
      refine hS0 (at2 ea0 eu0 ?_)
      clear hS0 S0
      refine ⟨trivial, fun D hD => ?_⟩
      have hTn := K t _ (by simp) hT2
      have htD : t ≠ D := fun e => by rw [← e, hTn] at hD; cases hD
      have fr' : ∀ a, σ' a = none → σ a = none := fun a ha => fresh2 a (by
        cases q : σ2 a with
        | none => rfl
        | some ob => rw [K a ob (by simp) q] at ha; cases ha)
      simp only [List.length_nil, Nat.add_zero] at hl
      repeat tb_rel
      refine ca_lenR (nd := nd') ((AH.set_ne htD.symm).trans (AH.set_self ..)) (by lia) ?_
      repeat tb_rel
      simp only [AH.set_set]
      refine h _ D nd' (clog hs) (AH.set_self ..) ((AH.set_ne htD.symm).trans (AH.set_self ..)) (fr' D hD) (fun a ha => ?_) hnd ?_ (fun a ob ha e => ?_)
      · obtain ⟨h1, h2⟩ := hno a ha
        refine ⟨(AH.set_ne fun q => ?_).trans ((AH.set_ne fun q => ?_).trans h1), fresh2 a h2⟩
        · rw [q, hT2] at h2; cases h2
        · rw [q, hD] at h1; cases h1
      · rw [hl, ← hP]; unfold places; rw [if_neg (by lia)]
      · have hat : a ≠ t := by simpa using ha
        rw [AH.set_ne hat]
        exact Le.new hD a ob (K a ob (by simp) (K2 a ob ha e))
    · rintro i l acc μ' σ' KK hI0 hKK
      refine hide fun S0 hS0 => ?_
      obtain ⟨nd', o, ea0, hl, hnd, hno, K, eu0⟩ := hI0
      refine hS0 (at2 ea0 eu0 ?_)
      clear hS0 S0
      repeat tb_rel
      refine ca_clsH (n := 1) ok' hK' mkc_177 in_177 ii_167 (by lia) fun x hx => node_init_fc hgc' (AH.set_self ..) ⟨rfl, ?_⟩
      rw [AH.set_set]
      have hx2 : σ2 x = none := by
        cases q : σ2 x with
        | none => rfl
        | some ob => rw [K x ob (by simp) q] at hx; cases hx
      have hxn : x ∉ nd' := fun hm => by rw [(hno x hm).1] at hx; cases hx
      refine hKK _ _ _ ⟨nd' ++ [x], _, by simp, by simp at hl ⊢; lia, ?_, fun a ha => ?_, K.trans (Keep.new hx), rfl⟩
      · exact List.nodup_append.mpr ⟨hnd, by simp, fun a ha b hb e => by rw [List.mem_singleton.mp hb] at e; exact hxn (e ▸ ha)⟩
      · rcases List.mem_append.mp ha with ha | ha
        · exact ⟨(AH.set_ne fun q : a = x => hxn (by rw [← q]; exact ha)).trans (hno a ha).1, (hno a ha).2⟩
        · rw [List.mem_singleton.mp ha]; exact ⟨AH.set_self .., hx2⟩
  · have hb : ¬ 0 < (hs : Int) := of_decide_eq_false hb
    have h0 : hs = 0 := by lia
    subst h0
    repeat tb_rel
    refine h _ e1 [] 0 (AH.set_self ..) ((AH.set_ne hte.symm).trans hE1) he1 (fun a ha => nomatch ha) .nil rfl (K1.trans (Same.set (.head _)).keep)
theorem count_nodes_fc {g : Gl} (hg : HK g) {σ : AH} {t A N : Addr} {nd : List Addr} {L : Lot} {nxt : List Int} {sz lg : Int} {C : Addr} {cs : List Int} {Q : Value → AH → Prop} (H : TabAt σ t A N nd L nxt sz lg) (hnl : nd.length ≤ 1000) (hC : σ C = some (.list (cs.map vi))) (hcl : cs.length = 27) (hd : C ≠ A ∧ C ≠ N) (hkw : ∀ i, L.wA i ≠ none → ∃ k, L.kA i = some k ∧ k.ok)
    (h : ∀ a, (σ.set C (.list ((cnGo L (List.range nd.length) cs 0 0).1.map vi))) a = none → Q (.ref a) ((σ.set C (.list ((cnGo L (List.range nd.length) cs 0 0).1.map vi))).set a (.tup [vi (cnGo L (List.range nd.length) cs 0 0).2.1, vi (cnGo L (List.range nd.length) cs 0 0).2.2]))) : FC g 4 (.ref 315) [.ref t, .ref C] σ Q := by
  refine fc_def (n := 3) (ds := []) [Str.ofString "self", Str.ofString "counts"] [Str.ofString "total", Str.ofString "whole", Str.ofString "node"] (by rw [hg]; exact rfl) (by rw [hg]; kernel_rfl) (fun vals hv s _ => ?_) rfl (by decide +kernel) (by decide +kernel) rfl rfl rfl (by decide +kernel) ?_
  · obtain ⟨a0, a1, rfl⟩ := len2 hv; exact BindsTo.of_eq rfl
  intro c ok hgl hroom hsc hloc
  have hcK : KOK c := by subst hgl; exact hg
  have hgc : HK c.gl := by rw [hgl]; exact hg
  simp only [startM, List.cons_append, List.nil_append, List.append_nil, List.map_nil, List.map_cons]
  have hT := H.inst
  have hN := H.nod
  have hCt : C ≠ t := fun e => by rw [e, hT] at hC; cases hC
  have hCn : C ∉ nd := fun hm => by
    obtain ⟨i, hi⟩ := List.getElem?_of_mem hm
    have := H.node i C hi
    rw [hC] at this; cases this
  repeat tb_rel
  refine ex_for_src ok (fun _ _ => rfl) (src_list rfl ?_)
  repeat tb_rel
  refine ⟨N, _, rfl, hN, ?_⟩
  unfold tkList
  rw [List.map_map]
  refine FT.inv (fun l μ' σ' => Xe2 fun pre cs1 => Xe3 fun tot wh o => Xa5 (nd = pre ++ l) (σ' = σ.set C (.list (cs1.map vi))) (cs1.length = 27) (cnGo L (List.range' pre.length l.length) cs1 tot wh = cnGo L (List.range nd.length) cs 0 0) (μ' = [(Str.ofString "self", some (Value.ref t)), (Str.ofString "counts", some (Value.ref C)), (Str.ofString "total", some (vi tot)), (Str.ofString "whole", some (vi wh)), (Str.ofString "node", o)]))
    ?_ ?_ nd _ σ ⟨[], cs, 0, 0, none, rfl, (AH.set_same hC).symm, hcl, by rw [List.range_eq_range']; rfl, rfl⟩
  · rintro μ' σ' hI0
    refine hide fun S0 hS0 => ?_
    obtain ⟨pre, cs1, tot, wh, o, hnd, es0, hc1, e, eu0⟩ := hI0
    refine hS0 (at2 es0 eu0 ?_)
    clear hS0 S0
    have e : (cs1, tot, wh) = cnGo L (List.range nd.length) cs 0 0 := e
    refine ⟨(AH.set_ne hd.2.symm).trans hN, ?_⟩
    repeat tb_rel
    refine ev_tuple ?_
    repeat tb_rel
    refine ⟨by simp, fun a ha => ?_⟩
    repeat tb_rel
    rw [← e] at h
    exact h a ha
  · rintro p l μ' σ' K hI0 hK
    refine hide fun S0 hS0 => ?_
    obtain ⟨pre, cs1, tot, wh, o, hnd, es0, hc1, e, eu0⟩ := hI0
    refine hS0 (at2 es0 eu0 ?_)
    clear hS0 S0
    have hpl : nd[pre.length]? = some p := by rw [hnd]; simp
    have H1 : TabAt (σ.set C (.list (cs1.map vi))) t A N nd L nxt sz lg := H.same fun a ha => AH.set_ne fun q => by
      rcases ha with rfl | rfl | rfl | ha
      · exact hCt q.symm
      · exact hd.1 q.symm
      · exact hd.2 q.symm
      · exact hCn (q ▸ ha)
    have hC1 : (σ.set C (.list (cs1.map vi))) C = some (.list (cs1.map vi)) := AH.set_self ..
    have hn := H1.node _ p hpl
    refine ⟨H1.nod, ?_⟩
    have fin : ∀ cs2 tot2 wh2 o2, cs2.length = 27 → cnGo L (List.range' (pre.length + 1) l.length) cs2 tot2 wh2 = cnGo L (List.range' pre.length (p :: l).length) cs1 tot wh →
        K [(Str.ofString "self", some (Value.ref t)), (Str.ofString "counts", some (Value.ref C)), (Str.ofString "total", some (vi tot2)), (Str.ofString "whole", some (vi wh2)), (Str.ofString "node", o2)] (σ.set C (.list (cs2.map vi))) := fun cs2 tot2 wh2 o2 h2 he =>
      hK _ _ ⟨pre ++ [p], cs2, tot2, wh2, o2, by rw [hnd]; simp, rfl, h2, by rw [← e, ← he]; simp, rfl⟩
    have step : List.range' pre.length (p :: l).length = pre.length :: List.range' (pre.length + 1) l.length := by rw [List.length_cons, List.range'_succ]
    generalize hσ1 : σ.set C (.list (cs1.map vi)) = σ1 at H1 hC1 hn ⊢
    repeat tb_rel
    cases hw : L.wA pre.length with
    | none =>
      refine if_f rfl ?_
      repeat tb_rel
      rw [← hσ1]
      exact fin _ _ _ _ hc1 (by rw [step, cnGo, hw])
    | some w =>
      obtain ⟨k, hk, hko⟩ := hkw pre.length (by rw [hw]; nofun)
      refine if_t rfl ?_
      repeat tb_rel
      rw [hk]
      show CA c _ [k.v, .ref C] σ1 _
      refine ca_fcK 3 ok (by lia) (count_key_fc hgc hC1 hko hc1 (fun hp => ?_) (fun hp => ?_))
      · repeat tb_rel
        rw [← hσ1, AH.set_set]
        exact fin _ _ _ _ ((bump_len ..).trans hc1) (by rw [step, cnGo, hw, hk]; simp only [if_pos hp])
      · repeat tb_rel
        rw [← hσ1]
        exact fin _ _ _ _ hc1 (by rw [step, cnGo, hw, hk]; simp only [if_neg hp, Int.add_zero])
theorem count_array_fc {g : Gl} (hg : HK g) {σ : AH} {t A N : Addr} {nd : List Addr} {L : Lot} {nxt : List Int} {sz lg : Int} {C : Addr} {cs : List Int} {Q : Value → AH → Prop} (H : TabAt σ t A N nd L nxt sz lg) (hrl : L.row.length ≤ 1000) (hC : σ C = some (.list (cs.map vi))) (hcl : cs.length = 27) (hd : C ≠ A ∧ C ≠ N)
    (h : Q (vi (caGo L.row (List.range 27) 1 1 cs 0).2) (σ.set C (.list ((caGo L.row (List.range 27) 1 1 cs 0).1.map vi)))) : FC g 1 (.ref 308) [.ref t, .ref C] σ Q := by
  refine fc_def (n := 0) (ds := []) [Str.ofString "self", Str.ofString "counts"] [Str.ofString "total", Str.ofString "at", Str.ofString "limit", Str.ofString "step", Str.ofString "last", Str.ofString "here"] (by rw [hg]; exact rfl) (by rw [hg]; kernel_rfl) (fun vals hv s _ => ?_) rfl (by decide +kernel) (by decide +kernel) rfl rfl rfl (by decide +kernel) ?_
  · obtain ⟨a0, a1, rfl⟩ := len2 hv; exact BindsTo.of_eq rfl
  intro c ok hgl hroom hsc hloc
  have hcK : KOK c := by subst hgl; exact hg
  have hgc : HK c.gl := by rw [hgl]; exact hg
  simp only [startM, List.cons_append, List.nil_append, List.append_nil, List.map_nil, List.map_cons]
  have hT := H.inst
  have hN := H.nod
  have hCt : C ≠ t := fun e => by rw [e, hT] at hC; cases hC
  have hCn : C ∉ nd := fun hm => by
    obtain ⟨i, hi⟩ := List.getElem?_of_mem hm
    have := H.node i C hi
    rw [hC] at this; cases this
  repeat tb_rel
  refine ex_for_src ok (fun _ _ => rfl) (src_range rfl ok rfl (fun _ => rfl) ?_)
  repeat tb_rel
  refine ⟨rfl, ?_⟩
  repeat tb_rel
  refine ⟨_, rfl, by decide, by decide, ?_⟩
  unfold tkRange
  refine FT.inv (fun l μ' σ' => Xe4 fun (pre : List Nat) (at' : Nat) (limit : Nat) (cs1 : List Int) => Xe4 fun (tot : Int) (o1 : Option Value) (o2 : Option Value) (o3 : Option Value) => Xa6 (List.range 27 = pre ++ l) (1 ≤ at') (σ' = σ.set C (.list (cs1.map vi))) (cs1.length = 27) (caGo L.row l at' limit cs1 tot = caGo L.row (List.range 27) 1 1 cs 0) (μ' = [(Str.ofString "self", some (Value.ref t)), (Str.ofString "counts", some (Value.ref C)), (Str.ofString "total", some (vi tot)), (Str.ofString "at", some (vi at')), (Str.ofString "limit", some (vi limit)), (Str.ofString "step", o1), (Str.ofString "last", o2), (Str.ofString "here", o3)]))
    ?_ ?_ (List.range 27) _ σ ⟨[], 1, 1, cs, 0, none, none, none, rfl, by lia, (AH.set_same hC).symm, hcl, rfl, rfl⟩
  · rintro μ' σ' hI0
    refine hide fun S0 hS0 => ?_
    obtain ⟨pre, at', limit, cs1, tot, o1, o2, o3, hpre, h1, es0, hc1, e, eu0⟩ := hI0
    refine hS0 (at2 es0 eu0 ?_)
    clear hS0 S0
    refine ⟨trivial, ?_⟩
    have e : (cs1, tot) = caGo L.row (List.range 27) 1 1 cs 0 := e
    repeat tb_rel
    rw [← e] at h
    exact h
  · rintro i l μ' σ' K hI0 hK
    refine hide fun S0 hS0 => ?_
    obtain ⟨pre, at', limit, cs1, tot, o1, o2, o3, hpre, h1, es0, hc1, e, eu0⟩ := hI0
    refine hS0 (at2 es0 eu0 ?_)
    clear hS0 S0
    have hi : i < 27 := by
      have : i ∈ List.range 27 := by rw [hpre]; simp
      simpa using this
    have H1 : TabAt (σ.set C (.list (cs1.map vi))) t A N nd L nxt sz lg := H.same fun a ha => AH.set_ne fun q => by
      rcases ha with rfl | rfl | rfl | ha
      · exact hCt q.symm
      · exact hd.1 q.symm
      · exact hd.2 q.symm
      · exact hCn (q ▸ ha)
    have hC1 : (σ.set C (.list (cs1.map vi))) C = some (.list (cs1.map vi)) := AH.set_self ..
    generalize hσ1 : σ.set C (.list (cs1.map vi)) = σ1 at H1 hC1 ⊢
    have hT1 := H1.inst
    have hA1 := H1.arr
    repeat tb_rel
    refine ca_min ok ?_
    rw [show min (limit : Int) (L.row.length : Nat) = ((min limit L.row.length : Nat) : Int) by lia]
    have hll : min limit L.row.length ≤ L.row.length := Nat.min_le_right ..
    have eg : caGo L.row (i :: l) at' limit cs1 tot = (if min limit L.row.length < at' then (cs1, tot) else caGo L.row l (min limit L.row.length + 1) (limit * 2) (cs1.set i (cs1.getD i 0 + nSome L.row (at' - 1) (min limit L.row.length))) (tot + nSome L.row (at' - 1) (min limit L.row.length))) := rfl
    generalize min limit L.row.length = last at hll eg ⊢
    rw [e] at eg
    repeat tb_rel
    refine if_b (fun hb => ?_) (fun hb => ?_)
    · have hb : last < at' := nlt hb
      rw [if_pos hb] at eg
      repeat tb_rel
      rw [eg] at h
      rw [← hσ1]
      exact h
    have hb : ¬ last < at' := nnlt hb
    rw [if_neg hb] at eg
    repeat tb_rel
    refine ex_while (fun m μ' σ' => σ' = σ1 ∧ ∃ (a : Nat), Xa4 (at' ≤ a) (a ≤ last + 1) (m = last + 1 - a) (μ' = [(Str.ofString "self", some (Value.ref t)), (Str.ofString "counts", some (Value.ref C)), (Str.ofString "total", some (vi tot)), (Str.ofString "at", some (vi a)), (Str.ofString "limit", some (vi limit)), (Str.ofString "step", some (vi i)), (Str.ofString "last", some (vi last)), (Str.ofString "here", some (vi ((nSome L.row (at' - 1) last : Int) - nSome L.row (a - 1) last)))]))
      (last + 1 - at') ⟨rfl, at', Nat.le_refl _, by lia, rfl, by rw [Int.sub_self]⟩ ?_
    rintro m μ' σ' hI0
    refine hide fun S0 hS0 => ?_
    obtain ⟨es0, a, ha1, ha2, em0, eu0⟩ := hI0
    refine hS0 (at3 es0 em0 eu0 ?_)
    clear hS0 S0
    repeat tb_rel
    refine if_b (fun hw => ?_) (fun hw => ?_)
    · have hw : a ≤ last := nle hw
      obtain ⟨j, rfl⟩ : ∃ j, a = j + 1 := ⟨a - 1, by lia⟩
      have st := nSome_step (row := L.row) (a := j) (b := last) (by lia) hll
      repeat tb_rel
      rw [show ((j + 1 : Nat) : Int) - 1 = (j : Int) by lia]
      refine row_at hA1 (by lia) hrl ?_
      repeat tb_rel
      refine if_b (fun hs => ?_) (fun hs => ?_)
      · rw [if_pos hs] at st
        repeat tb_rel
        refine ⟨last + 1 - (j + 2), sub_step hw, rfl, j + 2, Nat.le_succ_of_le ha1, Nat.succ_le_succ hw, rfl, ?_⟩
        rw [show (nSome L.row (at' - 1) last : Int) - nSome L.row (j + 1 - 1) last + 1 = (nSome L.row (at' - 1) last : Int) - nSome L.row (j + 2 - 1) last by
          rw [show j + 1 - 1 = j by lia, show j + 2 - 1 = j + 1 by lia, st]; lia, show ((j + 1 : Nat) : Int) + 1 = ((j + 2 : Nat) : Int) by lia]
      · rw [hs] at st
        repeat tb_rel
        refine ⟨last + 1 - (j + 2), sub_step hw, rfl, j + 2, Nat.le_succ_of_le ha1, Nat.succ_le_succ hw, rfl, ?_⟩
        rw [show (nSome L.row (at' - 1) last : Int) - nSome L.row (j + 1 - 1) last = (nSome L.row (at' - 1) last : Int) - nSome L.row (j + 2 - 1) last by
          rw [show j + 1 - 1 = j by lia, show j + 2 - 1 = j + 1 by lia, st]; simp, show ((j + 1 : Nat) : Int) + 1 = ((j + 2 : Nat) : Int) by lia]
    · have hw : ¬ a ≤ last := nnle hw
      have ea : a = last + 1 := by lia
      subst ea
      rw [show last + 1 - 1 = last by lia, nSome_self L.row last last (Nat.le_refl _), show ((nSome L.row (at' - 1) last : Nat) : Int) - ((0 : Nat) : Int) = (nSome L.row (at' - 1) last : Nat) by simp]
      repeat tb_rel
      refine gi_list (V := vi (cs1.getD i 0)) hC1 (by lia) (by lia) ?_ ?_
      · rw [Int.toNat_natCast, List.getElem?_map, List.getElem?_eq_getElem (by lia), List.getD_eq_getElem?_getD, List.getElem?_eq_getElem (by lia)]; rfl
      repeat tb_rel
      refine si_list hC1 (by lia) (by simp; lia) (by simp; lia) ?_
      repeat tb_rel
      rw [← hσ1, AH.set_set]
      refine hK _ _ ⟨pre ++ [i], last + 1, limit * 2, cs1.set i (cs1.getD i 0 + nSome L.row (at' - 1) last), tot + nSome L.row (at' - 1) last, some (vi i), some (vi last), some (vi (nSome L.row (at' - 1) last : Nat)), by rw [hpre]; simp, by lia, ?_, by simp [hc1], eg.symm, ?_⟩
      · rw [Int.toNat_natCast, List.map_set]
      · simp
theorem heap_init_fc {g : Gl} (hg : HK g) {σ : AH} {x : Addr} {n s : Int} {Q : Value → AH → Prop} (hx : σ x = some (.inst 408 [])) (h : Q .none (σ.set x (.inst 408 [(Str.ofString "number", vi n), (Str.ofString "mark", vi 0), (Str.ofString "size", vi s)]))) : FC g 1 (.ref 55) [.ref x, vi n, vi s] σ Q := by
  refine fc_def (n := 0) (ds := []) [Str.ofString "self", Str.ofString "number", Str.ofString "size"] [] (by rw [hg]; exact rfl) (by rw [hg]; kernel_rfl) (fun vals hv s _ => ?_) rfl (by decide +kernel) (by decide +kernel) rfl rfl rfl (by decide +kernel) ?_
  · obtain ⟨a0, a1, a2, rfl⟩ := len3 hv; exact BindsTo.of_eq rfl
  intro c ok hgl hroom hsc hloc
  have hcK : KOK c := by subst hgl; exact hg
  have hgc : HK c.gl := by rw [hgl]; exact hg
  simp only [startM, List.cons_append, List.nil_append, List.append_nil, List.map_nil, List.map_cons]
  repeat tb_rel
  simp only [AH.set_set]
  exact h
noncomputable abbrev handF (C : Addr) (n : Int) : List (Str × Value) := [(Str.ofString "cards", .ref C), (Str.ofString "turn", vi n)]
noncomputable def dealt (cs : List Int) (turn : Nat) (many : Int) : Int := (if turn ≤ cs.length then cs.getD (turn - 1) 0 else (turn : Int) * turn + (turn : Int).fdiv 2 + 2).fmod many
theorem law_dealt_fc {g : Gl} (hg : HK g) {σ : AH} {D C : Addr} {cs : List Int} {n : Nat} {many : Int} {Q : Value → AH → Prop} (hD : σ D = some (.dict (handF C n))) (hC : σ C = some (.list (cs.map vi))) (hn : n ≤ 1000) (hcl : cs.length ≤ 100) (hm : 1 ≤ many) (h : Q (vi (dealt cs (n + 1) many)) (σ.set D (.dict (handF C ((n + 1 : Nat) : Int))))) : FC g 1 (.ref 417) [.ref D, vi many] σ Q := by
  refine fc_def (n := 0) (ds := []) [Str.ofString "hand", Str.ofString "many"] [Str.ofString "turn"] (by rw [hg]; exact rfl) (by rw [hg]; kernel_rfl) (fun vals hv s _ => ?_) rfl (by decide +kernel) (by decide +kernel) rfl rfl rfl (by decide +kernel) ?_
  · obtain ⟨a0, a1, rfl⟩ := len2 hv; exact BindsTo.of_eq rfl
  intro c ok hgl hroom hsc hloc
  have hcK : KOK c := by subst hgl; exact hg
  have hgc : HK c.gl := by rw [hgl]; exact hg
  simp only [startM, List.cons_append, List.nil_append, List.append_nil, List.map_nil, List.map_cons]
  have hCD : C ≠ D := fun e => by rw [e, hD] at hC; cases hC
  repeat tb_rel
  rw [show (n : Int) + 1 = ((n + 1 : Nat) : Int) by lia]
  have hC1 : (σ.set D (.dict (handF C ((n + 1 : Nat) : Int)))) C = some (.list (cs.map vi)) := (AH.set_ne hCD).trans hC
  have hD1 : (σ.set D (.dict (handF C ((n + 1 : Nat) : Int)))) D = some (.dict (handF C ((n + 1 : Nat) : Int))) := AH.set_self ..
  generalize hσ1 : σ.set D (.dict (handF C ((n + 1 : Nat) : Int))) = σ1 at hC1 hD1 h ⊢
  refine ca_lenK hC1 (by simp; lia) ?_
  rw [List.length_map]
  repeat tb_rel
  unfold dealt at h
  by_cases hle : n + 1 ≤ cs.length
  · rw [if_pos hle] at h
    refine if_t (decide_eq_true (by lia)) ?_
    repeat tb_rel
    refine ⟨⟨_, .list hC1⟩, gi_list (V := vi (cs.getD (n + 1 - 1) 0)) hC1 (by lia) (by lia) ?_ ?_⟩
    · rw [show (((n + 1 : Nat) : Int) - 1).toNat = n by lia, List.getElem?_map, List.getElem?_eq_getElem (by lia), List.getD_eq_getElem?_getD, List.getElem?_eq_getElem (by lia)]; rfl
    repeat tb_rel
    refine bo_mod (by lia) ?_
    repeat tb_rel
    exact h
  · rw [if_neg hle] at h
    refine if_f (decide_eq_false (by lia)) ?_
    repeat tb_rel
    refine bo_mul (.of_left (intBits_le_iff.mpr (small64 hn))) ?_
    repeat tb_rel
    refine bo_mod (by lia) ?_
    repeat tb_rel
    exact h
noncomputable def Key.code : Key → Int
  | .b _ => 0
  | .i _ => 1
  | .y _ => 2
noncomputable def Key.tv : Key → Value
  | .b x => vi (if x = true then 1 else 0)
  | .i n => vi n
  | .y s => .bytes s.toArray 0
theorem law_tag_fc {g : Gl} (hg : HK g) {σ : AH} {k : Option Key} {Q : Value → AH → Prop}  (h0 : k = none → Q .none σ) (h1 : ∀ kk, k = some kk → ∀ a, σ a = none → Q (.ref a) (σ.set a (.tup [vi kk.code, kk.tv]))) : FC g 1 (.ref 431) [kv k] σ Q := by
  refine fc_def (n := 0) (ds := []) [Str.ofString "one"] [] (by rw [hg]; exact rfl) (by rw [hg]; kernel_rfl) (fun vals hv s _ => ?_) rfl (by decide +kernel) (by decide +kernel) rfl rfl rfl (by decide +kernel) ?_
  · obtain ⟨a0, rfl⟩ := len1 hv; exact BindsTo.of_eq rfl
  intro c ok hgl hroom hsc hloc
  have hcK : KOK c := by subst hgl; exact hg
  have hgc : HK c.gl := by rw [hgl]; exact hg
  simp only [startM, List.cons_append, List.nil_append, List.append_nil, List.map_nil, List.map_cons]
  rcases k with _ | k
  · repeat tb_rel
    exact h0 rfl
  · have h1 := h1 k rfl
    show EXs c _ [(Str.ofString "one", some k.v)] σ _
    repeat tb_rel
    cases k with
    | y s =>
      refine if_t rfl ?_
      repeat tb_rel
      refine ev_tuple ?_
      repeat tb_rel
      refine ⟨by simp, fun a ha => ?_⟩
      repeat tb_rel
      exact h1 a ha
    | b x =>
      refine if_f rfl ?_
      repeat tb_rel
      refine ev_tuple ?_
      repeat tb_rel
      refine ca_int_bool ?_
      repeat tb_rel
      refine ⟨by simp, fun a ha => ?_⟩
      repeat tb_rel
      exact h1 a ha
    | i n =>
      refine if_f rfl ?_
      repeat tb_rel
      refine ev_tuple ?_
      repeat tb_rel
      refine ⟨by simp, fun a ha => ?_⟩
      repeat tb_rel
      exact h1 a ha
theorem law_home_fc {g : Gl} (hg : HK g) {σ : AH} {T : Addr} {k : Key} {n : Nat} {Q : Value → AH → Prop} (hT : σ T = some (.tup [vi k.code, k.tv])) (hp : 1 ≤ n) (hk : k.ok) (h : Q (vi (homeI n k)) σ) : FC g 2 (.ref 438) [.ref T, vi (n : Nat)] σ Q := by
  refine fc_def (n := 1) (ds := []) [Str.ofString "tag", Str.ofString "many"] [] (by rw [hg]; exact rfl) (by rw [hg]; kernel_rfl) (fun vals hv s _ => ?_) rfl (by decide +kernel) (by decide +kernel) rfl rfl rfl (by decide +kernel) ?_
  · obtain ⟨a0, a1, rfl⟩ := len2 hv; exact BindsTo.of_eq rfl
  intro c ok hgl hroom hsc hloc
  have hcK : KOK c := by subst hgl; exact hg
  have hgc : HK c.gl := by rw [hgl]; exact hg
  simp only [startM, List.cons_append, List.nil_append, List.append_nil, List.map_nil, List.map_cons]
  repeat tb_rel
  refine ⟨⟨_, .tup hT⟩, gi_tup (j := 0) hT (by decide) (by decide) rfl rfl ?_⟩
  repeat tb_rel
  cases k with
  | y s =>
    have hs : s.length ≤ 8 := hk
    refine if_t rfl ?_
    repeat tb_rel
    refine ⟨⟨_, .tup hT⟩, gi_tup (j := 1) hT (by decide) (by decide) rfl rfl ?_⟩
    repeat tb_rel
    refine ca_fcK 1 ok (by lia) (string_hash_fc hgc hs ?_)
    repeat tb_rel
    refine bo_mod (by lia) ?_
    repeat tb_rel
    exact h
  | b x =>
    refine if_f rfl ?_
    repeat tb_rel
    refine ⟨⟨_, .tup hT⟩, gi_tup (j := 0) hT (by decide) (by decide) rfl rfl ?_⟩
    repeat tb_rel
    refine ⟨⟨_, .tup hT⟩, gi_tup (j := 1) hT (by decide) (by decide) rfl rfl ?_⟩
    repeat tb_rel
    refine bo_mod (by lia) ?_
    repeat tb_rel
    exact h
  | i m =>
    refine if_f rfl ?_
    repeat tb_rel
    refine ⟨⟨_, .tup hT⟩, gi_tup (j := 0) hT (by decide) (by decide) rfl rfl ?_⟩
    repeat tb_rel
    refine ⟨⟨_, .tup hT⟩, gi_tup (j := 1) hT (by decide) (by decide) rfl rfl ?_⟩
    repeat tb_rel
    refine ca_max ok ?_
    refine bo_mod (by lia) ?_
    repeat tb_rel
    exact h
noncomputable def keyOf (n : Nat) : Key :=
  if n % 6 = 4 then .y (([[97], [98], [97, 98], [], [110], [49, 48]] : List (List UInt8)).getD (n / 6) [])
  else if n % 6 = 5 then .b (decide (n / 6 % 2 = 1))
  else .i (([20 + 3 * (n / 6 : Nat), 21 + 7 * (n / 6 : Nat), 0 - (n / 6 : Nat), 1 + (n / 6 : Nat)] : List Int).getD (n % 6) 0)
theorem law_key_fc {g : Gl} (hg : HK g) {σ : AH} {n : Nat} {Q : Value → AH → Prop} (hn : n < 36) (h : ∀ σ', Le σ σ' → Q (keyOf n).v σ') : FC g 1 (.ref 424) [vi (n : Nat)] σ Q := by
  refine fc_def (n := 0) (ds := []) [Str.ofString "number"] [Str.ofString "form", Str.ofString "rest"] (by rw [hg]; exact rfl) (by rw [hg]; kernel_rfl) (fun vals hv s _ => ?_) rfl (by decide +kernel) (by decide +kernel) rfl rfl rfl (by decide +kernel) ?_
  · obtain ⟨a0, rfl⟩ := len1 hv; exact BindsTo.of_eq rfl
  intro c ok hgl hroom hsc hloc
  have hcK : KOK c := by subst hgl; exact hg
  have hgc : HK c.gl := by rw [hgl]; exact hg
  simp only [startM, List.cons_append, List.nil_append, List.append_nil, List.map_nil, List.map_cons]
  repeat tb_rel
  refine bo_mod (by decide) ?_
  repeat tb_rel
  refine bo_div (by decide) (PyProof.noPylong_small (by decide)) ?_
  rw [show (n : Int).fmod 6 = ((n % 6 : Nat) : Int) by rw [Int.fmod_eq_emod_of_nonneg _ (by decide)]; lia, show (n : Int).fdiv 6 = ((n / 6 : Nat) : Int) by rw [Int.fdiv_eq_ediv_of_nonneg _ (by decide)]; lia]
  unfold keyOf at h
  have hr : n / 6 < 6 := by lia
  have hf : n % 6 < 6 := by lia
  generalize n / 6 = r at h hr ⊢
  generalize n % 6 = f at h hf ⊢
  repeat tb_rel
  by_cases h4 : f = 4
  · subst h4
    refine if_t rfl ?_
    repeat tb_rel
    refine ev_list ?_
    repeat tb_rel
    refine ⟨by decide, fun a ha => ?_⟩
    repeat tb_rel
    have h := h _ (Le.new (o := .list [.bytes [97].toArray 0, .bytes [98].toArray 0, .bytes [97, 98].toArray 0, .bytes [].toArray 0, .bytes [110].toArray 0, .bytes [49, 48].toArray 0]) ha)
    refine ⟨⟨_, .list (AH.set_self ..)⟩, gi_list (V := Key.v (.y (([[97], [98], [97, 98], [], [110], [49, 48]] : List (List UInt8)).getD r []))) (AH.set_self ..) (by lia) (by lia) ?_ ?_⟩
    · rw [Int.toNat_natCast]
      obtain rfl | rfl | rfl | rfl | rfl | rfl : r = 0 ∨ r = 1 ∨ r = 2 ∨ r = 3 ∨ r = 4 ∨ r = 5 := by lia
      all_goals rfl
    · repeat tb_rel
      exact h
  · refine if_f (beq_eq_false_iff_ne.mpr (by lia)) ?_
    repeat tb_rel
    rw [if_neg h4] at h
    by_cases h5 : f = 5
    · subst h5
      refine if_t rfl ?_
      repeat tb_rel
      refine bo_mod (by decide) ?_
      repeat tb_rel
      have := h σ Le.rfl'
      have e : (((r : Int).fmod 2) == 1) = decide (r % 2 = 1) := by
        rw [Int.fmod_eq_emod_of_nonneg _ (by decide)]
        by_cases q : r % 2 = 1
        · rw [decide_eq_true q, beq_iff_eq]; lia
        · rw [decide_eq_false q, beq_eq_false_iff_ne]; lia
      rw [e]
      exact this
    · rw [if_neg h5] at h
      refine if_f (beq_eq_false_iff_ne.mpr (by lia)) ?_
      repeat tb_rel
      refine ev_list ?_
      repeat tb_rel
      refine bo_mul (.of_left (by decide +kernel)) ?_
      repeat tb_rel
      refine bo_mul (.of_left (by decide +kernel)) ?_
      repeat tb_rel
      refine ⟨by simp, fun a ha => ?_⟩
      repeat tb_rel
      have h := h _ (Le.new (o := .list [vi (20 + 3 * r), vi (21 + 7 * r), vi (0 - r), vi (1 + r)]) ha)
      refine ⟨⟨_, .list (AH.set_self ..)⟩, gi_list (V := vi (([20 + 3 * (r : Int), 21 + 7 * r, 0 - r, 1 + r] : List Int).getD f 0)) (AH.set_self ..) (by lia) (by lia) ?_ ?_⟩
      · rw [Int.toNat_natCast]
        obtain rfl | rfl | rfl | rfl : f = 0 ∨ f = 1 ∨ f = 2 ∨ f = 3 := by lia
        all_goals rfl
      · repeat tb_rel
        exact h
theorem put_back_inv {g : Gl} (hg : HK g) {σ : AH} {k : Key} {v : Option Int} {t A N : Addr} {nd : List Addr} {L : Lot} {nxt : List Int} {sz lg : Int} {its : List (Key × Option Int)} {Q : Value → AH → Prop} (H : TabAt σ t A N nd L nxt sz lg) (hrl : L.row.length ≤ 1000) (I : Inv nd.length L nxt) (F : Fit nd.length L ((k, v) :: its))
    (h : ∀ σ' nxt', TabAt σ' t A N nd (put L k v) nxt' sz lg → Inv nd.length (put L k v) nxt' → Fit nd.length (put L k v) its → Same (t :: A :: nd) σ σ' → Q .none σ') : FC g 4 (.ref 337) [.ref t, k.v, vo v, .none] σ Q := by
  refine put_back_fc hg H hrl (fun hi σ' H' hs => ?_) (fun hi => ?_)
  · obtain ⟨e, I', F'⟩ := fit_row (p := (k, v)) I F hi
    dsimp only at e
    rw [← e] at H'
    exact h σ' nxt H' I' F' hs
  · refine hide fun S0 hS0 => ?_
    obtain ⟨hn, nxt', a1, a2, a3, a4, a5⟩ := fit_new (p := (k, v)) I F hi
    refine hS0 ?_
    clear hS0 S0
    obtain ⟨rank, IF⟩ := I.F
    exact new_key_fc hg H (I.np.resolve_left (by lia)) (F.okk _ (.head _)) I.ok (by rw [← I.lk] at IF ⊢; have := IF.fd; exact this) (hN_eq hn k) a1 fun σ' H' hs => h σ' nxt' H' a3 a4 (hs.more fun a ha => by
      rcases List.mem_cons.mp ha with rfl | ha
      · exact .head _
      · exact .tail _ (.tail _ ha))
theorem put_again_inv {g : Gl} (hg : HK g) {σ : AH} {k : Key} {v : Option Int} {t A N : Addr} {nd : List Addr} {L : Lot} {nxt : List Int} {sz lg : Int} {its : List (Key × Option Int)} {Q : Value → AH → Prop} (H : TabAt σ t A N nd L nxt sz lg) (hrl : L.row.length ≤ 1000) (I : Inv nd.length L nxt) (F : Fit nd.length L ((k, v) :: its))
    (h : ∀ σ' nxt', TabAt σ' t A N nd (put L k v) nxt' sz lg → Inv nd.length (put L k v) nxt' → Fit nd.length (put L k v) its → Same (t :: A :: nd) σ σ' → Q .none σ') : FC g 4 (.ref 301) [.ref t, k.v, vo v, .none] σ Q := by
  refine put_again_fc hg H hrl (fun hi σ' H' hs => ?_) (fun hi => ?_)
  · obtain ⟨e, I', F'⟩ := fit_row (p := (k, v)) I F hi
    dsimp only at e
    rw [← e] at H'
    exact h σ' nxt H' I' F' hs
  · refine hide fun S0 hS0 => ?_
    obtain ⟨hn, nxt', a1, a2, a3, a4, a5⟩ := fit_new (p := (k, v)) I F hi
    refine hS0 ?_
    clear hS0 S0
    obtain ⟨rank, IF⟩ := I.F
    exact new_key_fc hg H (I.np.resolve_left (by lia)) (F.okk _ (.head _)) I.ok (by rw [← I.lk] at IF ⊢; have := IF.fd; exact this) (hN_eq hn k) a1 fun σ' H' hs => h σ' nxt' H' a3 a4 (hs.more fun a ha => by
      rcases List.mem_cons.mp ha with rfl | ha
      · exact .head _
      · exact .tail _ (.tail _ ha))
theorem tkEnum_range {a : Addr} {t1 t2 : Expr} {c : Cx} (row : List (Option Int)) : tkEnum a (row.map vo) t1 t2 c = (List.range row.length).map fun (i : Nat) μ σ R => σ a = some (.list (row.map vo)) ∧ AS c t1 (vi i) μ σ fun μ1 σ1 => AS c t2 (vo (row.getD i none)) μ1 σ1 R := by
  unfold tkEnum
  refine List.ext_getElem (by simp) fun i h1 h2 => ?_
  simp only [List.length_mapIdx, List.length_map] at h1
  simp only [List.getElem_mapIdx, List.getElem_map, List.getElem_range, List.getD_eq_getElem?_getD, List.getElem?_eq_getElem h1, Option.getD_some]
theorem tkRev_range {N : Addr} {t : Expr} {c : Cx} (nd : List Addr) : tkRev N (nd.map .ref) t c = (List.range nd.length).reverse.map fun (i : Nat) μ σ R => σ N = some (.list (nd.map .ref)) ∧ AS c t (.ref (nd.getD i 0)) μ σ R := by
  unfold tkRev
  rw [← List.map_reverse, List.map_map]
  conv => lhs; arg 2; rw [as_range nd 0]
  rw [← List.map_reverse, List.map_map]
  rfl
noncomputable def gone (L : Lot) (size i : Nat) : Option (Key × Option Int) := match L.row.getD (size + i) none with
  | none => none
  | some v => some (.i ((size + i + 1 : Nat) : Int), some v)
theorem items_eq (L : Lot) (size : Nat) : itemsL L size = (List.range (L.row.length - size)).filterMap (gone L size) ++ (List.range L.keys.length).reverse.filterMap (heldAt1 L) := by
  unfold itemsL heldL
  rw [List.filterMap_reverse]
  congr 1
  have e1 : slotsL L.row = (List.range L.row.length).filterMap fun i => if (L.row.getD i none).isSome = true then some (i + 1) else none := by
    unfold slotsL
    generalize List.range L.row.length = l
    induction l with
    | nil => rfl
    | cons x l ih =>
      by_cases q : (L.row.getD x none).isSome = true
      · rw [List.filter_cons_of_pos (p := fun i => (L.row.getD i none).isSome) q, List.map_cons, List.filterMap_cons_some (by rw [if_pos q]), ih]
      · rw [List.filter_cons_of_neg (p := fun i => (L.row.getD i none).isSome) q, List.filterMap_cons_none (by rw [if_neg q]), ih]
  have e2 : ∀ l : List Nat, ((l.filterMap fun i => if (L.row.getD i none).isSome = true then some (i + 1) else none).filter fun a => decide (size < a)).map (fun (a : Nat) => (Key.i (a : Int), L.row.getD (a - 1) none)) =
      l.filterMap fun i => if size ≤ i then (match L.row.getD i none with | none => none | some v => some (Key.i ((i + 1 : Nat) : Int), some v)) else none := fun l => by
    induction l with
    | nil => rfl
    | cons x l ih =>
      cases q : L.row.getD x none with
      | none => rw [List.filterMap_cons_none (by rw [q]; rfl), List.filterMap_cons_none (by rw [q]; simp), ih]
      | some v =>
        rw [List.filterMap_cons_some (b := x + 1) (by rw [q]; rfl)]
        by_cases hs : size ≤ x
        · rw [List.filter_cons_of_pos (by simp; lia), List.map_cons, List.filterMap_cons_some (by rw [if_pos hs, q]), ih, Nat.add_sub_cancel, q]
        · rw [List.filter_cons_of_neg (by simp; lia), List.filterMap_cons_none (by rw [if_neg hs]), ih]
  rw [e1, e2]
  by_cases hs : size ≤ L.row.length
  · conv => lhs; rw [show L.row.length = size + (L.row.length - size) by lia, List.range_add, List.filterMap_append, List.filterMap_map]
    rw [List.filterMap_eq_nil_iff.mpr (fun i hi => if_neg (by have := List.mem_range.mp hi; lia)), List.nil_append]
    congr 1
    funext i
    show (if size ≤ size + i then _ else none) = _
    rw [if_pos (by lia)]
    rfl
  · rw [show L.row.length - size = 0 by lia, List.range_zero, List.filterMap_nil]
    exact List.filterMap_eq_nil_iff.mpr (fun i hi => if_neg (by have := List.mem_range.mp hi; lia))
theorem grow_row {row : List (Option Int)} {size i : Nat} (h1 : row.length ≤ i) (h2 : i < size) : (row ++ List.replicate size none).take i ++ [none] = (row ++ List.replicate size none).take (i + 1) := by
  rw [List.take_succ_eq_append_getElem (by simp; lia)]
  congr 2
  rw [List.getElem_append_right h1, List.getElem_replicate]
theorem start_row (row : List (Option Int)) (size : Nat) : row.take size = (row ++ List.replicate size none).take (min size row.length) := by
  rw [List.take_append_of_le_length (by lia)]
  rcases Nat.le_total size row.length with h | h
  · rw [Nat.min_eq_left h]
  · rw [Nat.min_eq_right h, List.take_of_length_le h, List.take_length]
theorem put_len (L : Lot) (k : Key) (v : Option Int) : (put L k v).row.length = L.row.length := by
  unfold put
  split
  · simp
  · cases h : placed L k v with
    | none => rfl
    | some L' => exact congrArg List.length (placed_row h).1
theorem TabAt.le {σ σ' : AH} {t A N : Addr} {nd : List Addr} {L : Lot} {nxt : List Int} {sz lg : Int} (H : TabAt σ t A N nd L nxt sz lg) (hs : Le σ σ') : TabAt σ' t A N nd L nxt sz lg :=
  ⟨hs _ _ H.inst, hs _ _ H.arr, hs _ _ H.nod, fun i a h => hs _ _ (H.node i a h), H.lk, H.lw, H.ln, H.nodup, H.aN⟩
theorem ass_cons {c : Cx} {t : Expr} {v : Value} {ts : List Expr} {vs : List Value} {μ : AM} {σ : AH} {Q : AM → AH → Prop} (h : AS c t v μ σ fun μ1 σ1 => ASs c ts vs μ1 σ1 Q) : ASs c (t :: ts) (v :: vs) μ σ Q := h
theorem ass_nil {c : Cx} {μ : AM} {σ : AH} {Q : AM → AH → Prop} (h : Q μ σ) : ASs c [] [] μ σ Q := h
theorem resize_both {g : Gl} (hg : HK g) {σ : AH} {t A N : Addr} {nd : List Addr} {L : Lot} {nxt : List Int} {sz lg : Int} {size hs : Nat} {rest : List (Key × Option Int)} {Q : Value → AH → Prop} (H : TabAt σ t A N nd L nxt sz lg) (hnl : nd.length ≤ 1000) (hrl : L.row.length ≤ 1000) (hsz : size ≤ 256) (hh : hs ≤ 256) (hkw : ∀ i, L.kA i = none → L.wA i = none) (hp : places hs = 0 ∨ Pow (places hs))
    (F : Fit (places hs) (blank ((L.row ++ List.replicate size none).take size) (places hs)) (itemsL L size ++ rest))
    (h : ∀ σ' A' N' nd' nxt' sz' lg', TabAt σ' t A' N' nd' (puts (blank ((L.row ++ List.replicate size none).take size) (places hs)) (itemsL L size)) nxt' sz' lg' →
      Inv nd'.length (puts (blank ((L.row ++ List.replicate size none).take size) (places hs)) (itemsL L size)) nxt' → nd'.length = places hs → Keep [t] σ σ' → σ A' = none → σ N' = none → (∀ a ∈ nd', σ a = none) → Q .none σ') : FC g 5 (.ref 330) [.ref t, vi size, vi hs, .none] σ Q ∧ FC g 5 (.ref 330) [.ref t, vi size, vi hs] σ Q := by
  refine ⟨fc_def (n := 4) (ds := []) [Str.ofString "self", Str.ofString "array_size", Str.ofString "hash_size", Str.ofString "heap"] [Str.ofString "old_nodes", Str.ofString "vanishing", Str.ofString "step", Str.ofString "value", Str.ofString "node"] (by rw [hg]; exact rfl) (by rw [hg]; kernel_rfl) (fun vals hv s X => ?p) rfl (by decide +kernel) (by decide +kernel) rfl rfl rfl (by decide +kernel) ?b, fc_def (n := 4) (ds := [.none]) [Str.ofString "self", Str.ofString "array_size", Str.ofString "hash_size", Str.ofString "heap"] [Str.ofString "old_nodes", Str.ofString "vanishing", Str.ofString "step", Str.ofString "value", Str.ofString "node"] (by rw [hg]; exact rfl) (by rw [hg]; kernel_rfl) (fun vals hv s X => ?q) rfl (by decide +kernel) (by decide +kernel) rfl rfl rfl (by decide +kernel) ?b⟩
  case p => obtain ⟨a0, a1, a2, a3, rfl⟩ := len4 hv; exact binds_K (K := frag g.w.params) (by rw [← hg]; exact X) rfl rfl rfl rfl rfl
  case q => obtain ⟨a0, a1, a2, rfl⟩ := len3 hv; exact binds_K (K := frag g.w.params) (by rw [← hg]; exact X) rfl rfl rfl rfl rfl
  intro c ok hgl hroom hsc hloc
  have hcK : KOK c := by subst hgl; exact hg
  have hgc : HK c.gl := by rw [hgl]; exact hg
  simp only [startM, List.cons_append, List.nil_append, List.append_nil, List.map_nil, List.map_cons]
  have hT := H.inst
  have hN := H.nod
  have hA := H.arr
  repeat tb_rel
  refine if_f (decide_eq_false (by lia)) ?_
  repeat tb_rel
  refine if_f (decide_eq_false (by lia)) ?_
  repeat tb_rel
  refine ev_from (fun _ _ => ⟨_, rfl⟩) ?_
  repeat tb_rel
  refine ⟨A, _, _, rfl, rfl, by lia, hA, by simp; lia, fun e1 he1 => ?_⟩
  repeat tb_rel
  refine ev_upto (fun _ _ => ⟨_, rfl⟩) ?_
  rw [Int.toNat_natCast, ← List.map_drop]
  have hT1 : (σ.set e1 (.list ((L.row.drop size).map vo))) t = some (.inst 408 (tabF A N sz lg L.found)) := Le.new he1 _ _ hT
  have hA1 : (σ.set e1 (.list ((L.row.drop size).map vo))) A = some (.list (L.row.map vo)) := Le.new he1 _ _ hA
  have hE1 : (σ.set e1 (.list ((L.row.drop size).map vo))) e1 = some (.list ((L.row.drop size).map vo)) := AH.set_self ..
  have K1 : Keep [t] σ (σ.set e1 (.list ((L.row.drop size).map vo))) := Keep.new he1
  generalize hσ1 : σ.set e1 (.list ((L.row.drop size).map vo)) = σ1 at hT1 hA1 hE1 K1 ⊢
  have fresh1 : ∀ a, σ1 a = none → σ a = none := fun a ha => by
    cases e : σ a with
    | none => rfl
    | some o => rw [← hσ1, Le.new he1 a o e] at ha; cases ha
  clear hσ1
  repeat tb_rel
  refine ⟨A, _, _, rfl, rfl, by lia, hA1, by simp; lia, fun e2 he2 => ?_⟩
  have hte2 : t ≠ e2 := fun e => by rw [← e, hT1] at he2; cases he2
  have h12 : e1 ≠ e2 := fun e => by rw [← e, hE1] at he2; cases he2
  repeat tb_rel
  rw [Int.toNat_natCast, ← List.map_take]
  have hT2 : ((σ1.set e2 (.list ((L.row.take size).map vo))).set t (.inst 408 (tabF e2 N sz lg L.found))) t = some (.inst 408 (tabF e2 N sz lg L.found)) := AH.set_self ..
  have hE2 : ((σ1.set e2 (.list ((L.row.take size).map vo))).set t (.inst 408 (tabF e2 N sz lg L.found))) e2 = some (.list ((L.row.take size).map vo)) := (AH.set_ne hte2.symm).trans (AH.set_self ..)
  have K2 : Keep [t] σ1 ((σ1.set e2 (.list ((L.row.take size).map vo))).set t (.inst 408 (tabF e2 N sz lg L.found))) := fun a o ha e => by
    rw [AH.set_ne (by simpa using ha)]; exact Le.new he2 a o e
  generalize hσ2 : (σ1.set e2 (.list ((L.row.take size).map vo))).set t (.inst 408 (tabF e2 N sz lg L.found)) = σ2 at hT2 hE2 K2 ⊢
  have hte1 : e1 ≠ t := fun e => by rw [e, hT1] at hE1; cases hE1
  have hE12 := K2 e1 _ (by simpa using hte1) hE1
  have fresh2 : ∀ a, σ2 a = none → σ1 a = none := fun a ha => by
    cases e : σ1 a with
    | none => rfl
    | some o =>
      by_cases q : a = t
      · rw [q, hT2] at ha; cases ha
      · rw [K2 a o (by simpa using q) e] at ha; cases ha
  clear hσ2
  refine ex_while (fun m μ' σ' => ∃ i, Xa5 (i ≤ size) ((L.row.length ≤ i ∨ i = size)) (m = size - i) (σ' = σ2.set e2 (.list (((L.row ++ List.replicate size none).take i).map vo))) (μ' = [(Str.ofString "self", some (Value.ref t)), (Str.ofString "array_size", some (vi (size : Nat))), (Str.ofString "hash_size", some (vi (hs : Nat))), (Str.ofString "heap", some Value.none), (Str.ofString "old_nodes", some (Value.ref N)), (Str.ofString "vanishing", some (Value.ref e1)), (Str.ofString "step", none), (Str.ofString "value", none), (Str.ofString "node", none)]))
    (size - min size L.row.length) ⟨min size L.row.length, by lia, by lia, rfl, by rw [← start_row]; exact (AH.set_same hE2).symm, rfl⟩ ?_
  rintro m μ' σ' hI0
  refine hide fun S0 hS0 => ?_
  obtain ⟨i, hi1, hi2, em0, es0, eu0⟩ := hI0
  refine hS0 (at3 em0 es0 eu0 ?_)
  clear hS0 S0
  have hT3 : (σ2.set e2 (.list (((L.row ++ List.replicate size none).take i).map vo))) t = some (.inst 408 (tabF e2 N sz lg L.found)) := (AH.set_ne hte2).trans hT2
  have hE3 : (σ2.set e2 (.list (((L.row ++ List.replicate size none).take i).map vo))) e2 = some (.list (((L.row ++ List.replicate size none).take i).map vo)) := AH.set_self ..
  generalize hσ3 : σ2.set e2 (.list (((L.row ++ List.replicate size none).take i).map vo)) = σ3 at hT3 hE3 ⊢
  have hil : ((L.row ++ List.replicate size none).take i).length = i := by simp; lia
  have hil2 : ((L.row ++ List.replicate size none).take i).length ≤ 1000 := by lia
  repeat tb_rel
  rw [hil]
  refine if_b (fun hw => ?_) (fun hw => ?_)
  · have hw : i < size := nlt hw
    repeat tb_rel
    refine ev_mcall (fun _ => ⟨_, rfl⟩) ?_
    repeat tb_rel
    refine gm_append hE3 ?_
    refine cw_builtin (T := "list.append") ok rfl ?_
    repeat tb_rel
    repeat tb_rel
    refine ca_append hE3 (by rw [List.length_map]; lia) ?_
    repeat tb_rel
    refine ⟨size - (i + 1), by lia, i + 1, by lia, .inl (by lia), rfl, ?_, rfl⟩
    rw [← hσ3, AH.set_set, ← grow_row (by lia) hw]
    simp [vo]
  · have hw : i = size := Nat.le_antisymm hi1 (Nat.le_of_not_lt (nnlt hw))
    subst hw
    repeat tb_rel
    have K3 : Keep [t] σ1 σ3 := fun a o ha e => by
      rw [← hσ3, AH.set_ne (fun q => by rw [q, he2] at e; cases e)]; exact K2 a o ha e
    have hE13 : σ3 e1 = some (.list ((L.row.drop i).map vo)) := K3 e1 _ (by simpa using hte1) hE1
    have fresh3 : ∀ a, σ3 a = none → σ a = none ∧ σ1 a = none := fun a ha => by
      have : σ2 a = none := by
        by_cases q : a = e2
        · rw [q, hE3] at ha; cases ha
        · rw [← hσ3, AH.set_ne q] at ha; exact ha
      exact ⟨fresh1 a (fresh2 a this), fresh2 a this⟩
    clear hσ3
    refine ca_fcK 4 ok (by lia) (make_nodes_fc hgc hT3 hh fun σ4 N4 nd4 lg4 hT4 hN4 hfN hnd hndn hndl K4 => ?_)
    have he24 := K4 e2 _ (by simpa using hte2.symm) hE3
    have he14 := K4 e1 _ (by simpa using hte1) hE13
    have H4 : TabAt σ4 t e2 N4 nd4 (blank ((L.row ++ List.replicate i none).take i) (places hs)) (List.replicate (places hs) (-1)) sz lg4 := by
      refine ⟨?_, he24, hN4, fun j a hj => ?_, by simp [blank, hndl], by simp [blank, hndl], by simp [hndl], hndn, fun e => ?_⟩
      · rw [hT4, hndl]; rfl
      · have hj' := (List.getElem?_eq_some_iff.mp hj).1
        rw [(hnd a (List.mem_of_getElem? hj)).1, blank_k, blank_w]
        have : xA (List.replicate (places hs) (-1)) j = -1 := by
          show (List.replicate (places hs) (-1)).getD j 0 = -1
          rw [List.getD_eq_getElem?_getD, List.getElem?_replicate, if_pos (by lia)]; rfl
        rw [this]
      · rw [← e, hE3] at hfN; cases hfN
    have I4 := blank_inv ((L.row ++ List.replicate i none).take i) hp
    rw [← hndl] at I4 F hp
    rw [hndl] at I4
    have K14 : Keep [t] σ σ4 := (K1.trans K3).trans K4
    have dj : ∀ a o, σ a = some o → a ≠ e2 ∧ a ∉ nd4 := fun a o ha => by
      refine ⟨fun q => ?_, fun q => ?_⟩
      · by_cases z : a = t
        · exact hte2 (z.symm.trans q)
        · have := K1 a o (by simpa using z) ha
          rw [q, he2] at this; cases this
      · have := (fresh3 a (hnd a q).2).1
        rw [ha] at this; cases this
    clear hE12 hA1 K3 K4 hT1 hT2 hT3 hE2 hE3 K2 hil hil2
    repeat tb_rel
    rw [items_eq] at F h
    obtain ⟨B, hB⟩ : ∃ B, B = (List.range L.keys.length).reverse.filterMap (heldAt1 L) := ⟨_, rfl⟩
    obtain ⟨Z, hZ⟩ : ∃ Z, Z = puts (blank ((L.row ++ List.replicate i none).take i) (places hs)) ((List.range (L.row.length - i)).filterMap (gone L i) ++ B) := ⟨_, rfl⟩
    rw [← hB] at F h
    rw [← hZ] at h
    rw [hndl] at F hp
    rw [List.append_assoc] at F
    have het : e2 ∉ t :: e2 :: nd4 → False := fun hh => hh (.tail _ (.head _))
    refine ex_for_src ok (fun _ _ => rfl) (src_enum rfl ok rfl (fun _ => rfl) ?_)
    repeat tb_rel
    refine ⟨rfl, ?_⟩
    repeat tb_rel
    refine ⟨e1, _, rfl, he14, ?_⟩
    rw [tkEnum_range, List.length_drop]
    have he1x : e1 ∉ t :: e2 :: nd4 := fun hm => by
      rcases List.mem_cons.mp hm with q | hm
      · exact hte1 q
      · rcases List.mem_cons.mp hm with q | hm
        · exact h12 q
        · have := (fresh3 e1 (hnd e1 hm).2).2
          rw [hE1] at this; cases this
    refine FT.inv (fun l μ' σ' => Xe4 fun L1 nxt1 s v => Xa4 (TabAt σ' t e2 N4 nd4 L1 nxt1 sz lg4) (Inv nd4.length L1 nxt1) (Fit nd4.length L1 (l.filterMap (gone L i) ++ (B ++ rest))) (Xa4 (L1.row.length ≤ 1000) (puts L1 (l.filterMap (gone L i) ++ B) = Z) (Keep (t :: e2 :: nd4) σ4 σ') (μ' = [(Str.ofString "self", some (Value.ref t)), (Str.ofString "array_size", some (vi (i : Nat))), (Str.ofString "hash_size", some (vi (hs : Nat))), (Str.ofString "heap", some Value.none), (Str.ofString "old_nodes", some (Value.ref N)), (Str.ofString "vanishing", some (Value.ref e1)), (Str.ofString "step", s), (Str.ofString "value", v), (Str.ofString "node", none)])))
      ?_ ?_ _ _ σ4 ⟨_, _, none, none, H4, by rw [hndl]; exact I4, by rw [hndl]; exact F, by simp [blank]; lia, hZ.symm, fun a o _ e => e, rfl⟩
    · rintro μ' σ' hI0
      refine hide fun S0 hS0 => ?_
      obtain ⟨L1, nxt1, s, v, H5, I5, F5, hr5, hz5, K5, eu0⟩ := hI0
      refine hS0 (at1 eu0 ?_)
      clear hS0 S0
      refine ⟨K5 e1 _ he1x he14, ?_⟩
      rw [List.filterMap_nil, List.nil_append] at F5 hz5
      repeat tb_rel
      refine ex_for_src ok (fun _ _ => rfl) (src_rev rfl ok rfl (fun _ => rfl) ?_)
      repeat tb_rel
      refine ⟨rfl, ?_⟩
      repeat tb_rel
      have hNk := K5 N _ (by simpa using ⟨H.tN, (dj N _ hN).1, (dj N _ hN).2⟩) (K14 N _ (by simpa using H.tN) hN)
      refine ⟨N, _, rfl, hNk, ?_⟩
      rw [tkRev_range]
      rw [hB, H.lk] at F5 hz5
      refine FT.inv (fun l μ' σ' => Xe3 fun L1 nxt1 u => Xa8 (TabAt σ' t e2 N4 nd4 L1 nxt1 sz lg4) (Inv nd4.length L1 nxt1) (Fit nd4.length L1 (l.filterMap (heldAt1 L) ++ rest)) (L1.row.length ≤ 1000) (puts L1 (l.filterMap (heldAt1 L)) = Z) (Keep (t :: e2 :: nd4) σ4 σ') ((∀ p ∈ l, p < nd.length)) (μ' = [(Str.ofString "self", some (Value.ref t)), (Str.ofString "array_size", some (vi (i : Nat))), (Str.ofString "hash_size", some (vi (hs : Nat))), (Str.ofString "heap", some Value.none), (Str.ofString "old_nodes", some (Value.ref N)), (Str.ofString "vanishing", some (Value.ref e1)), (Str.ofString "step", s), (Str.ofString "value", v), (Str.ofString "node", u)]))
        ?_ ?_ _ _ _ ⟨L1, nxt1, none, H5, I5, F5, hr5, hz5, K5, fun p hp => by simpa using hp, rfl⟩
      · rintro μ' σ' hI0
        refine hide fun S0 hS0 => ?_
        obtain ⟨L1, nxt1, u, H5, I5, F5, hr5, hz5, K5, _, eu0⟩ := hI0
        refine hS0 (at1 eu0 ?_)
        clear hS0 S0
        refine ⟨K5 N _ (by simpa using ⟨H.tN, (dj N _ hN).1, (dj N _ hN).2⟩) (K14 N _ (by simpa using H.tN) hN), ?_⟩
        have hT5 := H5.inst
        rw [List.filterMap_nil] at hz5
        repeat tb_rel
        refine ca_fcK 1 ok (by lia) (weigh_fc hgc H5 (by rw [hndl]; unfold Pow at hp; lia) hr5 fun σ6 sz6 H6 hs6 => ?_)
        repeat tb_rel
        refine h σ6 e2 N4 nd4 nxt1 sz6 lg4 (by rw [← hz5]; exact H6) (by rw [← hz5]; exact I5) hndl (fun a o ha e => ?_) (fresh1 e2 he2) (fresh3 N4 hfN).1 fun a ha => (fresh3 a (hnd a ha).2).1
        have d := dj a o e
        have ha : a ≠ t := by simpa using ha
        exact hs6.keep a o (by simpa using ha) (K5 a o (by simpa using ⟨ha, d.1, d.2⟩) (K14 a o (by simpa using ha) e))
      · rintro p l μ' σ' K hI0 hK
        refine hide fun S0 hS0 => ?_
        obtain ⟨L1, nxt1, u, H5, I5, F5, hr5, hz5, K5, hpl, eu0⟩ := hI0
        refine hS0 (at1 eu0 ?_)
        clear hS0 S0
        refine ⟨K5 N _ (by simpa using ⟨H.tN, (dj N _ hN).1, (dj N _ hN).2⟩) (K14 N _ (by simpa using H.tN) hN), ?_⟩
        have hp1 := hpl p (.head _)
        have hpl2 : ∀ p ∈ l, p < nd.length := fun q hq => hpl q (.tail _ hq)
        obtain ⟨a, ha⟩ : ∃ a, nd[p]? = some a := ⟨_, List.getElem?_eq_getElem hp1⟩
        have hga : nd.getD p 0 = a := by rw [List.getD_eq_getElem?_getD, ha]; rfl
        rw [hga]
        have hna := H.node p a ha
        have hat := H.ne_t ha
        have hn5 := K5 a _ (by simpa using ⟨hat, (dj a _ hna).1, (dj a _ hna).2⟩) (K14 a _ (by simpa using hat) hna)
        have hT5 := H5.inst
        repeat tb_rel
        cases hq : L.wA p with
        | none =>
          have eg : heldAt1 L p = none := by unfold heldAt1; rw [hq]; cases L.kA p <;> rfl
          rw [List.filterMap_cons_none eg] at F5 hz5
          refine if_f rfl ?_
          repeat tb_rel
          exact hK _ _ ⟨L1, nxt1, _, H5, I5, F5, hr5, hz5, K5, hpl2, rfl⟩
        | some w =>
          cases hk : L.kA p with
          | none => rw [hkw p hk] at hq; cases hq
          | some kk =>
            have eg : heldAt1 L p = some (kk, some w) := by unfold heldAt1; rw [hq, hk]
            rw [List.filterMap_cons_some eg] at F5 hz5
            rw [hk, hq] at hn5
            refine if_t rfl ?_
            repeat tb_rel
            refine ca_fcK 4 ok (by lia) (put_back_inv (k := kk) hgc H5 hr5 I5 F5 fun σ6 nxt6 H6 I6 F6 hs6 => ?_)
            repeat tb_rel
            exact hK _ _ ⟨_, nxt6, _, H6, I6, F6, by rw [put_len]; exact hr5, hz5, K5.trans hs6.keep, hpl2, rfl⟩
    · rintro p l μ' σ' K hI0 hK
      refine hide fun S0 hS0 => ?_
      obtain ⟨L1, nxt1, s, v, H5, I5, F5, hr5, hz5, K5, eu0⟩ := hI0
      refine hS0 (at1 eu0 ?_)
      clear hS0 S0
      refine ⟨K5 e1 _ he1x he14, ?_⟩
      have e0 : (L.row.drop i).getD p none = L.row.getD (i + p) none := by
        rw [List.getD_eq_getElem?_getD, List.getElem?_drop, List.getD_eq_getElem?_getD]
      rw [e0]
      have hT5 := H5.inst
      repeat tb_rel
      cases hq : L.row.getD (i + p) none with
      | none =>
        have eg : gone L i p = none := by unfold gone; rw [hq]
        rw [List.filterMap_cons_none eg] at F5 hz5
        refine if_f rfl ?_
        repeat tb_rel
        exact hK _ _ ⟨L1, nxt1, _, _, H5, I5, F5, hr5, hz5, K5, rfl⟩
      | some w =>
        have eg : gone L i p = some (.i ((i + p + 1 : Nat) : Int), some w) := by unfold gone; rw [hq]
        rw [List.filterMap_cons_some eg] at F5 hz5
        refine if_t rfl ?_
        repeat tb_rel
        rw [show (i : Int) + p + 1 = ((i + p + 1 : Nat) : Int) by lia]
        refine ca_fcK 4 ok (by lia) (put_back_inv (k := .i ((i + p + 1 : Nat) : Int)) hgc H5 hr5 I5 F5 fun σ6 nxt6 H6 I6 F6 hs6 => ?_)
        repeat tb_rel
        exact hK _ _ ⟨_, nxt6, _, _, H6, I6, F6, by rw [put_len]; exact hr5, hz5, K5.trans hs6.keep, rfl⟩
theorem count_key_fc' {g : Gl} (hg : HK g) {σ : AH} {k : Key} {C : Addr} {cs : List Int} {Q : Value → AH → Prop} (hC : σ C = some (.list (cs.map vi))) (hk : k.ok) (hl : cs.length = 27)
    (h : ∀ σ', σ' C = some (.list ((if 0 < aidx k then bump cs (clog (aidx k).toNat) else cs).map vi)) → Same [C] σ σ' → Q (vi (if 0 < aidx k then 1 else 0)) σ') : FC g 3 (.ref 202) [k.v, .ref C] σ Q := by
  refine count_key_fc hg hC hk hl (fun hp => ?_) (fun hp => ?_)
  · have := h (σ.set C (.list ((bump cs (clog (aidx k).toNat)).map vi))) (by rw [if_pos hp]; exact AH.set_self ..) (Same.set (.head _))
    rw [if_pos hp] at this; exact this
  · have := h σ (by rw [if_neg hp]; exact hC) Same.rfl'
    rw [if_neg hp] at this; exact this
theorem rehash_fc {g : Gl} (hg : HK g) {σ : AH} {t A N : Addr} {nd : List Addr} {L : Lot} {nxt : List Int} {sz lg : Int} {k : Key} {Q : Value → AH → Prop} (H : TabAt σ t A N nd L nxt sz lg) (I : Inv nd.length L nxt) (hk : k.ok) (hnew : ∀ i, L.kA i ≠ some k) (hr : inRow L k = false) (hl : live L ≤ 11) (hrl : L.row.length ≤ 16)
    (h : ∀ σ' A' N' nd' nxt' sz' lg', TabAt σ' t A' N' nd' (measured L k) nxt' sz' lg' → Inv nd'.length (measured L k) nxt' → nd'.length = places (manyL L k) → Keep [t] σ σ' → σ A' = none → σ N' = none → (∀ a ∈ nd', σ a = none) → Q .none σ') : FC g 6 (.ref 322) [.ref t, k.v, .none] σ Q := by
  refine fc_def (n := 5) (ds := []) [Str.ofString "self", Str.ofString "extra", Str.ofString "heap"] [Str.ofString "counts", Str.ofString "whole", Str.ofString "total", Str.ofString "in_nodes", Str.ofString "whole_nodes", Str.ofString "size", Str.ofString "used"] (by rw [hg]; exact rfl) (by rw [hg]; kernel_rfl) (fun vals hv s _ => ?_) rfl (by decide +kernel) (by decide +kernel) rfl rfl rfl (by decide +kernel) ?_
  · obtain ⟨a0, a1, a2, rfl⟩ := len3 hv; exact BindsTo.of_eq rfl
  intro c ok hgl hroom hsc hloc
  have hcK : KOK c := by subst hgl; exact hg
  have hgc : HK c.gl := by rw [hgl]; exact hg
  simp only [startM, List.cons_append, List.nil_append, List.append_nil, List.map_nil, List.map_cons]
  have hT := H.inst
  have hnl : nd.length ≤ 1000 := by have := I.np; unfold Pow at this; lia
  have hkw : ∀ i, L.wA i ≠ none → ∃ k, L.kA i = some k ∧ k.ok := fun i h => by
    cases e : L.kA i with
    | none => exact absurd (I.wk i e) h
    | some k' => exact ⟨k', rfl, I.ok i k' e⟩
  obtain ⟨r1, e1⟩ : ∃ r1, r1 = caGo L.row (List.range 27) 1 1 (List.replicate 27 0) 0 := ⟨_, rfl⟩
  obtain ⟨r2, e2⟩ : ∃ r2, r2 = cnGo L (List.range nd.length) r1.1 0 0 := ⟨_, rfl⟩
  refine hide fun S0 hS0 => ?_
  obtain ⟨c1, c2, c3, c4, c5⟩ := counts_eq I hk (by lia) e1 e2
  refine hS0 ?_
  clear hS0 S0
  repeat tb_rel
  refine ev_list ?_
  repeat tb_rel
  refine ⟨by decide, fun a ha => ?_⟩
  repeat tb_rel
  refine bo_mul_list (AH.set_self ..) (by simp) (by decide) (by decide) (by decide) fun C hC0 => ?_
  have hrep : (List.replicate (26 + 1 : Int).toNat [vi 0]).flatten = (List.replicate 27 (0 : Int)).map vi := by decide +kernel
  rw [hrep]
  have hC1 : ((σ.set a (.list [vi 0])).set C (.list ((List.replicate 27 (0 : Int)).map vi))) C = some (.list ((List.replicate 27 (0 : Int)).map vi)) := AH.set_self ..
  have L1 : Le σ ((σ.set a (.list [vi 0])).set C (.list ((List.replicate 27 (0 : Int)).map vi))) := (Le.new ha).trans (Le.new hC0)
  have hCn : σ C = none := by
    by_cases q : C = a
    · rw [q]; exact ha
    · rw [AH.set_ne q] at hC0; exact hC0
  generalize hσ1 : (σ.set a (.list [vi 0])).set C (.list ((List.replicate 27 (0 : Int)).map vi)) = σ1 at hC1 L1 ⊢
  clear hσ1
  have H1 := H.le L1
  have hd : C ≠ A ∧ C ≠ N := ⟨fun q => (by rw [q, H.arr] at hCn; cases hCn), fun q => (by rw [q, H.nod] at hCn; cases hCn)⟩
  have hT1 := H1.inst
  repeat tb_rel
  refine ca_fcK 1 ok (by lia) (count_array_fc hgc H1 (by lia) hC1 (by simp) hd ?_)
  rw [← e1]
  have LC : ∀ {σ' : AH} {o : AO}, Le σ σ' → Le σ (σ'.set C o) := fun {σ' o} hl b ob e => by
    rw [AH.set_ne (fun q => by rw [q, hCn] at e; cases e)]; exact hl b ob e
  have hC2 : (σ1.set C (.list (r1.1.map vi))) C = some (.list (r1.1.map vi)) := AH.set_self ..
  have L2 : Le σ (σ1.set C (.list (r1.1.map vi))) := LC L1
  generalize hσ2 : σ1.set C (.list (r1.1.map vi)) = σ2 at hC2 L2 ⊢
  clear hσ2
  have H2 := H.le L2
  have hT2 := H2.inst
  repeat tb_rel
  refine ex_assign rfl (fun _ => rfl) (fun _ => rfl) ?_
  repeat tb_rel
  refine ca_fcK 4 ok (by lia) (count_nodes_fc hgc H2 hnl hC2 c1 hd hkw fun T hTn => ?_)
  rw [← e2] at hTn ⊢
  have hC3 : ((σ2.set C (.list (r2.1.map vi))).set T (.tup [vi r2.2.1, vi r2.2.2])) C = some (.list (r2.1.map vi)) := Le.new hTn _ _ (AH.set_self ..)
  have hT3 : ((σ2.set C (.list (r2.1.map vi))).set T (.tup [vi r2.2.1, vi r2.2.2])) T = some (.tup [vi r2.2.1, vi r2.2.2]) := AH.set_self ..
  have L3 : Le σ ((σ2.set C (.list (r2.1.map vi))).set T (.tup [vi r2.2.1, vi r2.2.2])) := (LC L2).trans (Le.new hTn)
  generalize hσ3 : (σ2.set C (.list (r2.1.map vi))).set T (.tup [vi r2.2.1, vi r2.2.2]) = σ3 at hC3 hT3 L3 ⊢
  clear hσ3
  repeat tb_rel
  refine as_tup ok rfl hT3 rfl ?_
  repeat tb_rel
  refine ass_cons ?_
  repeat tb_rel
  refine ass_cons ?_
  repeat tb_rel
  refine ass_nil ?_
  repeat tb_rel
  refine ca_fcK 3 ok (by lia) (count_key_fc' hgc hC3 hk c2 fun σ4 hC4 hs4 => ?_)
  rw [c3] at hC4
  have L4 : Le σ σ4 := fun b ob e => (hs4 b (by simpa using (fun q => by rw [q, hCn] at e; cases e))).trans (L3 b ob e)
  repeat tb_rel
  refine ex_assign rfl (fun _ => rfl) (fun _ => rfl) ?_
  repeat tb_rel
  rw [c4]
  obtain ⟨n1, n2⟩ := nums_ok I hnew hr
  refine ca_fcK 1 ok (by lia) (compute_sizes_fc hgc hC4 fun U hUn => ?_)
  rw [cs_size n1 n2]
  have hU5 : (σ4.set U (.tup [vi (sizeL L k : Nat), vi (cntLe (numsL L k) (sizeL L k) : Nat)])) U = some (.tup [vi (sizeL L k : Nat), vi (cntLe (numsL L k) (sizeL L k) : Nat)]) := AH.set_self ..
  have L5 : Le σ (σ4.set U (.tup [vi (sizeL L k : Nat), vi (cntLe (numsL L k) (sizeL L k) : Nat)])) := L4.trans (Le.new hUn)
  generalize hσ5 : σ4.set U (.tup [vi (sizeL L k : Nat), vi (cntLe (numsL L k) (sizeL L k) : Nat)]) = σ5 at hU5 L5 ⊢
  clear hσ5
  repeat tb_rel
  refine as_tup ok rfl hU5 rfl ?_
  refine ass_cons ?_
  repeat tb_rel
  refine ass_cons ?_
  repeat tb_rel
  refine ass_nil ?_
  have hT5 := (H.le L5).inst
  repeat tb_rel
  rw [c5, show (((heldL L).length + (slotsL L.row).length + 1 : Nat) : Int) - (cntLe (numsL L k) (sizeL L k) : Nat) = (manyL L k : Nat) by
    have e : cntLe (numsL L k) (sizeL L k) ≤ (heldL L).length + (slotsL L.row).length + 1 := by
      refine Nat.le_trans (cntLe_len ..) ?_
      have := nums_len (k := k) I
      rw [cS_slots, cS_held I] at this; lia
    exact cast_sub3 e]
  have hm := many_le (k := k) I
  have hs := size_le (k := k) I hl
  unfold live at hl
  refine ca_fcK 5 ok (by lia) (And.left (resize_both (rest := [(k, none)]) hgc (H.le L5) hnl (by lia) (by lia) (by lia) I.wk (places_pow (by lia)) (items_fit I hk hnew hr (by lia)) fun σ6 A6 N6 nd6 nxt6 sz6 lg6 H6 I6 hl6 K6 hA6 hN6 hn6 => ?_))
  repeat tb_rel
  have fr : ∀ a, σ5 a = none → σ a = none := fun a ha => by
    cases e : σ a with
    | none => rfl
    | some o => rw [L5 a o e] at ha; cases ha
  exact h σ6 A6 N6 nd6 nxt6 sz6 lg6 H6 I6 hl6 (fun a o ha e => K6 a o ha (L5 a o e)) (fr _ hA6) (fr _ hN6) fun a ha => fr a (hn6 a ha)
/-- a place is a new one, or one of the table's own -/
structure Frs (σ : AH) (A N : Addr) (nd : List Addr) (A' N' : Addr) (nd' : List Addr) : Prop where
  a : σ A' = none ∨ A' = A
  n : σ N' = none ∨ N' = N
  d : ∀ a ∈ nd', σ a = none ∨ a ∈ nd
theorem Frs.own {σ : AH} {A N : Addr} {nd : List Addr} : Frs σ A N nd A N nd := ⟨.inr rfl, .inr rfl, fun _ h => .inr h⟩
noncomputable abbrev PostT (σ : AH) (t A N : Addr) (nd : List Addr) (L' : Lot) (Q : Value → AH → Prop) : Prop :=
  ∀ σ' A' N' nd' nxt' sz' lg', TabAt σ' t A' N' nd' L' nxt' sz' lg' → Inv nd'.length L' nxt' → Keep (t :: A :: nd) σ σ' → Frs σ A N nd A' N' nd' → Q .none σ'
theorem again_fc {g : Gl} (hg : HK g) {σ σ1 : AH} {A N A1 N1 t : Addr} {nd nd1 : List Addr} {M : Lot} {nxt1 : List Int} {sz1 lg1 : Int} {k : Key} {v : Option Int} {Q : Value → AH → Prop}
    (H1 : TabAt σ1 t A1 N1 nd1 M nxt1 sz1 lg1) (I1 : Inv nd1.length M nxt1) (F1 : Fit nd1.length M [(k, v)]) (hrl : M.row.length ≤ 1000) (K1 : Keep [t] σ σ1) (hA : σ A1 = none) (hN : σ N1 = none) (hnd : ∀ a ∈ nd1, σ a = none)
    (h : PostT σ t A N nd (put M k v) Q) : FC g 4 (.ref 301) [.ref t, k.v, vo v, .none] σ1 Q := by
  refine put_again_inv hg H1 hrl I1 F1 fun σ2 nxt2 H2 I2 _ hs => h σ2 A1 N1 nd1 nxt2 sz1 lg1 H2 I2 (fun a o ha e => ?_) ⟨.inl hA, .inl hN, fun a ha => .inl (hnd a ha)⟩
  have hat : a ≠ t := fun q => ha (q ▸ .head _)
  refine (hs a fun hm => ?_).trans (K1 a o (by simpa using hat) e)
  rcases List.mem_cons.mp hm with q | hm
  · exact hat q
  · rcases List.mem_cons.mp hm with q | hm
    · rw [q, hA] at e; cases e
    · rw [hnd a hm] at e; cases e
theorem new_key_all_fc {g : Gl} (hg : HK g) {σ : AH} {t A N : Addr} {nd : List Addr} {L : Lot} {nxt : List Int} {sz lg : Int} {k : Key} {v : Option Int} {L' : Lot} {Q : Value → AH → Prop} (H : TabAt σ t A N nd L nxt sz lg) (I : Inv nd.length L nxt) (hk : k.ok) (hnew : ∀ i, L.kA i ≠ some k) (hr : inRow L k = false) (hl : live L ≤ 11) (hrl : L.row.length ≤ 16)
    (hW : placed L k v = some L' ∨ (placed L k v = none ∧ L' = put (measured L k) k v)) (h : PostT σ t A N nd L' Q) : FC g 7 (.ref 294) [.ref t, k.v, vo v, .none] σ Q := by
  rcases hW with hW | ⟨hW, rfl⟩
  · have hn : 0 < nd.length := by
      rcases Nat.eq_zero_or_pos nd.length with q | q
      · unfold placed at hW; rw [if_pos (by rw [I.lk]; exact q)] at hW; cases hW
      · exact q
    obtain ⟨M, nxt', a1, a2, a3, a4, _, _⟩ := nk_step (v := v) I hn hk hnew hr (by rw [hW]; exact fun h => by cases h)
    rw [hW] at a2
    have e := Option.some.inj a2
    subst e
    obtain ⟨rank, IF⟩ := I.F
    refine (new_key_fc hg H (I.np.resolve_left (by lia)) hk I.ok IF.fd (hN_eq hn k) a1 fun σ' H' hs => h σ' A N nd nxt' sz lg H' a3 (Same.keep (hs.more fun a ha => ?_)) Frs.own).mono (by lia) fun _ _ q => q
    rcases List.mem_cons.mp ha with rfl | ha
    · exact .head _
    · exact .tail _ (.tail _ ha)
  refine hide fun S0 hS0 => ?_
  obtain ⟨⟨nxtM, m1⟩, m2, m3, m4⟩ := meas_ok (v := v) I hk hnew hr hl hrl
  refine hS0 ?_
  clear hS0 S0
  have hsz := size_le (k := k) I hl
  have hnl : nd.length ≤ 1000 := by have := I.np; unfold Pow at this; lia
  refine fc_def (n := 6) (ds := []) [Str.ofString "self", Str.ofString "key", Str.ofString "value", Str.ofString "heap"] [Str.ofString "main", Str.ofString "place", Str.ofString "spot", Str.ofString "other"] (by rw [hg]; exact rfl) (by rw [hg]; kernel_rfl) (fun vals hv s _ => ?_) rfl (by decide +kernel) (by decide +kernel) rfl rfl rfl (by decide +kernel) ?_
  · obtain ⟨a0, a1, a2, a3, rfl⟩ := len4 hv; exact BindsTo.of_eq rfl
  intro c ok hgl hroom hsc hloc
  have hcK : KOK c := by subst hgl; exact hg
  have hgc : HK c.gl := by rw [hgl]; exact hg
  simp only [startM, List.cons_append, List.nil_append, List.append_nil, List.map_nil, List.map_cons]
  have hT := H.inst
  have hNl := H.nod
  repeat tb_rel
  refine if_b (fun hb => ?_) (fun hb => ?_)
  · repeat tb_rel
    refine ca_fcK 6 ok (by lia) (rehash_fc hgc H I hk hnew hr hl hrl fun σ1 A1 N1 nd1 nxt1 sz1 lg1 H1 I1 hl1 K1 hA1 hN1 hn1 => ?_)
    have hT1 := H1.inst
    repeat tb_rel
    refine ca_fcK 4 ok (by lia) (again_fc (A := A) (N := N) (nd := nd) hgc H1 I1 (by rw [hl1]; exact m2) (by lia) K1 hA1 hN1 hn1 fun σ' A' N' nd' nxt' sz' lg' H' I' K' F' => ?_)
    repeat tb_rel
    exact h σ' A' N' nd' nxt' sz' lg' H' I' K' F'
  · have hb : (nd.length : Int) ≠ 0 := by simpa using hb
    have hn : 0 < nd.length := by lia
    have hp : Pow nd.length := I.np.resolve_left (by lia)
    repeat tb_rel
    refine ca_fcK 2 ok (by lia) (main_position_fc hgc H hp hk ?_)
    rw [hN_eq hn k]
    have hm2 := hN_lt hn k
    have hm3 : hN nd.length k < 1000 := by unfold Pow at hp; lia
    obtain ⟨p, hpl⟩ : ∃ p, nd[hN nd.length k]? = some p := ⟨_, List.getElem?_eq_getElem hm2⟩
    have hn0 := H.node _ p hpl
    obtain ⟨rank, IF⟩ := I.F
    have hW2 := hW
    unfold placed at hW2
    rw [if_neg (by rw [I.lk]; lia), I.lk] at hW2
    dsimp only at hW2
    rw [show (homeI nd.length k).toNat = hN nd.length k from rfl] at hW2
    have hw : L.wA (hN nd.length k) ≠ none := fun e => by rw [if_pos e] at hW2; cases hW2
    rw [if_neg hw] at hW2
    have hkm : ∃ kp, L.kA (hN nd.length k) = some kp := by
      cases e : L.kA (hN nd.length k) with
      | none => exact absurd (I.wk _ e) hw
      | some kp => exact ⟨kp, rfl⟩
    obtain ⟨kp, hkp⟩ := hkm
    rw [hkp] at hW2
    have hf : freeP L L.found = none := by
      cases e : freeP L L.found with
      | none => rfl
      | some s => rw [e] at hW2; dsimp only at hW2; split at hW2 <;> cases hW2
    repeat tb_rel
    refine if_t (by cases hww : L.wA (hN nd.length k) with | none => exact absurd hww hw | some _ => rfl) ?_
    repeat tb_rel
    refine ca_fcK 1 ok (by lia) (free_position_fc hgc H hnl IF.fd ?_)
    rw [hf]
    have H1 := H.setT (sz' := sz) (lg' := lg) (fr := 0)
    have S1 : Same [t] σ (σ.set t (.inst 408 (tabF A N sz lg (0 : Nat)))) := Same.set (.head _)
    show ∃ μ', Put _ (vi (-1)) _ μ' ∧ Then c _ _ .next μ' (σ.set t (.inst 408 (tabF A N sz lg (0 : Nat))))
    generalize hσ1 : σ.set t (.inst 408 (tabF A N sz lg (0 : Nat))) = σ1 at H1 S1 ⊢
    obtain ⟨L1, hL1⟩ : ∃ L1 : Lot, L1 = { L with found := 0 } := ⟨_, rfl⟩
    rw [← hL1] at H1
    have I1 : Inv nd.length L1 nxt := by
      rw [hL1]
      refine ⟨I.np, I.lk, I.lw, I.ln, ⟨rank, ?_⟩, I.ok, I.nr⟩
      refine hide fun S0 hS0 => ?_
      obtain ⟨fd, kl, uq, wk, up, hm, xr, inj, kx, kp, rc⟩ := IF
      refine hS0 ?_
      clear hS0 S0
      refine ⟨Nat.zero_le _, kl, uq, wk, fun i _ hi e => ?_, hm, xr, inj, kx, kp, rc⟩
      by_cases q : i < L.found
      · obtain ⟨s, hs⟩ := freeP_some (L := L) q e
        rw [hf] at hs; cases hs
      · exact up i (by lia) hi e
    have hnew1 : ∀ i, L1.kA i ≠ some k := by rw [hL1]; exact hnew
    have hr1 : inRow L1 k = false := by rw [hL1]; exact (inRow_len rfl k).trans hr
    have hl1 : live L1 ≤ 11 := by rw [hL1]; exact hl
    have hrl1 : L1.row.length ≤ 16 := by rw [hL1]; exact hrl
    have hM : measured L1 k = measured L k := by rw [hL1]; rfl
    have hMl : manyL L1 k = manyL L k := by rw [hL1]; rfl
    have fr : ∀ a, σ1 a = none → σ a = none := fun a ha => by
      by_cases q : a = t
      · have := H1.inst; rw [← q, ha] at this; cases this
      · rw [← S1 a (by simpa using q)]; exact ha
    clear hσ1 hL1
    have hT1 := H1.inst
    repeat tb_rel
    refine ca_fcK 6 ok (by lia) (rehash_fc hgc H1 I1 hk hnew1 hr1 hl1 hrl1 fun σ2 A1 N1 nd1 nxt1 sz1 lg1 H2 I2 hl2 K2 hA1 hN1 hn1 => ?_)
    rw [hM] at H2 I2
    rw [hMl] at hl2
    have hT2 := H2.inst
    repeat tb_rel
    refine ca_fcK 4 ok (by lia) (again_fc (A := A) (N := N) (nd := nd) hgc H2 I2 (by rw [hl2]; exact m2) (by lia) (S1.keep.trans K2) (fr _ hA1) (fr _ hN1) (fun a ha => fr a (hn1 a ha)) fun σ' A' N' nd' nxt' sz' lg' H' I' K' F' => ?_)
    repeat tb_rel
    exact h σ' A' N' nd' nxt' sz' lg' H' I' K' F'
theorem put_fc {g : Gl} (hg : HK g) {σ : AH} {t A N : Addr} {nd : List Addr} {L : Lot} {nxt : List Int} {sz lg : Int} {k : Key} {v : Option Int} {L' : Lot} {Q : Value → AH → Prop} (H : TabAt σ t A N nd L nxt sz lg) (I : Inv nd.length L nxt) (hk : k.ok) (hl : live L ≤ 11) (hrl : L.row.length ≤ 16)
    (hW : Wr L k v L') (h : PostT σ t A N nd L' Q) : FC g 8 (.ref 287) [.ref t, k.v, vo v, .none] σ Q := by
  refine fc_def (n := 7) (ds := []) [Str.ofString "self", Str.ofString "key", Str.ofString "value", Str.ofString "heap"] [Str.ofString "at", Str.ofString "spot"] (by rw [hg]; exact rfl) (by rw [hg]; kernel_rfl) (fun vals hv s _ => ?_) rfl (by decide +kernel) (by decide +kernel) rfl rfl rfl (by decide +kernel) ?_
  · obtain ⟨a0, a1, a2, a3, rfl⟩ := len4 hv; exact BindsTo.of_eq rfl
  intro c ok hgl hroom hsc hloc
  have hcK : KOK c := by subst hgl; exact hg
  have hgc : HK c.gl := by rw [hgl]; exact hg
  simp only [startM, List.cons_append, List.nil_append, List.append_nil, List.map_nil, List.map_cons]
  have hT := H.inst
  have hA := H.arr
  have hNl := H.nod
  have hrl2 : L.row.length ≤ 1000 := by lia
  have hnl : nd.length ≤ 1000 := by have := I.np; unfold Pow at this; lia
  repeat tb_rel
  by_cases hin : inRow L k = true
  · have hW2 : L' = { L with row := L.row.set (aidx k - 1).toNat v } := by
      cases hW with
      | row _ => rfl
      | old h' _ => rw [hin] at h'; cases h'
      | new h' _ _ => rw [hin] at h'; cases h'
      | all h' _ _ => rw [hin] at h'; cases h'
    obtain ⟨n, rfl, l1, l2⟩ : ∃ n, k = .i n ∧ 1 ≤ n ∧ n ≤ L.row.length := by
      cases k with
      | i n => simp only [inRow, Bool.and_eq_true, decide_eq_true_eq] at hin; exact ⟨n, rfl, hin⟩
      | b x => cases hin
      | y s => cases hin
    refine if_t (decide_eq_true l1) ?_
    repeat tb_rel
    refine if_t (decide_eq_true l2) ?_
    repeat tb_rel
    refine si_rowI (n := n) hA (by lia) l2 (by lia) ?_
    repeat tb_rel
    have H1 := H.setR (L.row.set (aidx (.i n) - 1).toNat v)
    rw [← hW2] at H1
    exact h _ A N nd nxt sz lg H1 (by rw [hW2]; exact inv_row I) (Same.keep (Same.set (.tail _ (.head _)))) Frs.own
  · have hin : inRow L k = false := by simpa using hin
    obtain ⟨l, hpl⟩ : ∃ l, nd.length ≠ 0 → Path nxt (homeI nd.length k) l := by
      by_cases q : nd.length = 0
      · exact ⟨[], fun h => absurd q h⟩
      · obtain ⟨l, hl⟩ := path_of I q k
        exact ⟨l, fun _ => hl⟩
    have hcond : ¬ (1 ≤ aidx k ∧ aidx k ≤ L.row.length) := by
      cases k with
      | i n => intro hh; simp [inRow, aidx] at hin hh; lia
      | b x => simp only [aidx]; lia
      | y s => simp only [aidx]; lia
    have found : ∀ {i : Nat}, L.kA i = some k → L' = { L with worth := L.worth.set i v } := fun {i} hi => by
      cases hW with
      | row h' => rw [hin] at h'; cases h'
      | @old j _ hj => rw [I.uq i j k hi hj]
      | new _ h' _ => exact absurd hi (h' i)
      | all _ h' _ => exact absurd hi (h' i)
    have miss : (∀ i, L.kA i ≠ some k) → placed L k v = some L' ∨ (placed L k v = none ∧ L' = put (measured L k) k v) := fun hno => by
      cases hW with
      | row h' => rw [hin] at h'; cases h'
      | @old j _ hj => exact absurd hj (hno j)
      | new _ _ h' => exact .inl h'
      | all _ _ h' => exact .inr ⟨h', rfl⟩
    by_cases hi : 1 ≤ aidx k
    · refine if_t (decide_eq_true hi) ?_
      repeat tb_rel
      refine if_f (decide_eq_false (by lia)) ?_
      repeat tb_rel
      refine ca_fcK 3 ok (by lia) (find_node_fc hgc H I.np hk hpl ?_)
      repeat tb_rel
      by_cases hex : ∃ i, L.kA i = some k
      · obtain ⟨i, hki⟩ := hex
        have hL' := found hki
        rw [atN_has I hpl hki]
        have hit : i < nd.length := by
          obtain ⟨rank, IF⟩ := I.F
          exact IF.kl i k hki
        obtain ⟨p, hpi⟩ : ∃ p, nd[i]? = some p := ⟨_, List.getElem?_eq_getElem hit⟩
        have hnp := H.node i p hpi
        have hi3 : i < 1000 := by lia
        refine if_t (decide_eq_true (by lia)) ?_
        repeat tb_rel
        have H1 := H.setW hpi v
        rw [← hL'] at H1
        exact h _ A N nd nxt sz lg H1 (by rw [hL']; exact inv_old I hki) (Same.keep (Same.set (.tail _ (.tail _ (List.mem_of_getElem? hpi))))) Frs.own
      · have hno : ∀ i, L.kA i ≠ some k := fun i hi => hex ⟨i, hi⟩
        rw [atN_no hno]
        repeat tb_rel
        refine ca_fcK 7 ok (by lia) (new_key_all_fc hgc H I hk hno hin hl hrl (miss hno) fun σ' A' N' nd' nxt' sz' lg' H' I' K' F' => ?_)
        repeat tb_rel
        exact h σ' A' N' nd' nxt' sz' lg' H' I' K' F'
    · refine if_f (decide_eq_false hi) ?_
      repeat tb_rel
      refine ca_fcK 3 ok (by lia) (find_node_fc hgc H I.np hk hpl ?_)
      repeat tb_rel
      by_cases hex : ∃ i, L.kA i = some k
      · obtain ⟨i, hki⟩ := hex
        have hL' := found hki
        rw [atN_has I hpl hki]
        have hit : i < nd.length := by
          obtain ⟨rank, IF⟩ := I.F
          exact IF.kl i k hki
        obtain ⟨p, hpi⟩ : ∃ p, nd[i]? = some p := ⟨_, List.getElem?_eq_getElem hit⟩
        have hnp := H.node i p hpi
        have hi3 : i < 1000 := by lia
        refine if_t (decide_eq_true (by lia)) ?_
        repeat tb_rel
        have H1 := H.setW hpi v
        rw [← hL'] at H1
        exact h _ A N nd nxt sz lg H1 (by rw [hL']; exact inv_old I hki) (Same.keep (Same.set (.tail _ (.tail _ (List.mem_of_getElem? hpi))))) Frs.own
      · have hno : ∀ i, L.kA i ≠ some k := fun i hi => hex ⟨i, hi⟩
        rw [atN_no hno]
        repeat tb_rel
        refine ca_fcK 7 ok (by lia) (new_key_all_fc hgc H I hk hno hin hl hrl (miss hno) fun σ' A' N' nd' nxt' sz' lg' H' I' K' F' => ?_)
        repeat tb_rel
        exact h σ' A' N' nd' nxt' sz' lg' H' I' K' F'
theorem set_fc {g : Gl} (hg : HK g) {σ : AH} {t A N : Addr} {nd : List Addr} {L : Lot} {nxt : List Int} {sz lg : Int} {k : Key} {v : Option Int} {L' : Lot} {Q : Value → AH → Prop} (H : TabAt σ t A N nd L nxt sz lg) (I : Inv nd.length L nxt) (hk : k.ok) (hl : live L ≤ 11) (hrl : L.row.length ≤ 16)
    (hW : Wr L k v L') (h : PostT σ t A N nd L' Q) : FC g 9 (.ref 266) [.ref t, k.v, vo v, .none] σ Q := by
  refine fc_def (n := 8) (ds := []) [Str.ofString "self", Str.ofString "key", Str.ofString "value", Str.ofString "heap"] [] (by rw [hg]; exact rfl) (by rw [hg]; kernel_rfl) (fun vals hv s _ => ?_) rfl (by decide +kernel) (by decide +kernel) rfl rfl rfl (by decide +kernel) ?_
  · obtain ⟨a0, a1, a2, a3, rfl⟩ := len4 hv; exact BindsTo.of_eq rfl
  intro c ok hgl hroom hsc hloc
  have hcK : KOK c := by subst hgl; exact hg
  have hgc : HK c.gl := by rw [hgl]; exact hg
  simp only [startM, List.cons_append, List.nil_append, List.append_nil, List.map_nil, List.map_cons]
  have hT := H.inst
  repeat tb_rel
  rw [AH.set_same hT]
  repeat tb_rel
  refine ca_fcK 8 ok (by lia) (put_fc hgc H I hk hl hrl hW fun σ' A' N' nd' nxt' sz' lg' H' I' K' F' => ?_)
  repeat tb_rel
  exact h σ' A' N' nd' nxt' sz' lg' H' I' K' F'
theorem table_init_fc {g : Gl} (hg : HK g) {σ : AH} {t : Addr} {room : Nat} {Q : Value → AH → Prop} (ht : σ t = some (.inst 408 [])) (hrm : room ≤ 5)
    (h : ∀ σ' A' N' nd' nxt' sz' lg', TabAt σ' t A' N' nd' (blank [] (places room)) nxt' sz' lg' → Inv nd'.length (blank [] (places room)) nxt' → Keep [t] σ σ' → σ A' = none → σ N' = none → (∀ a ∈ nd', σ a = none) → Q .none σ') : FC g 6 (.ref 217) [.ref t, vi 1, vi 0, vi room] σ Q := by
  refine fc_def (n := 5) (ds := []) [Str.ofString "self", Str.ofString "number", Str.ofString "array_size", Str.ofString "hash_size"] [] (by rw [hg]; exact rfl) (by rw [hg]; kernel_rfl) (fun vals hv s X => ?_) rfl (by decide +kernel) (by decide +kernel) rfl rfl rfl (by decide +kernel) ?_
  · obtain ⟨a0, a1, a2, a3, rfl⟩ := len4 hv; exact binds_K (K := frag g.w.params) (by rw [← hg]; exact X) rfl rfl rfl rfl rfl
  intro c ok hgl hroom hsc hloc
  have hcK : KOK c := by subst hgl; exact hg
  have hgc : HK c.gl := by rw [hgl]; exact hg
  simp only [startM, List.cons_append, List.nil_append, List.append_nil, List.map_nil, List.map_cons]
  repeat tb_rel
  refine ev_mcall (fun _ => ⟨_, rfl⟩) ?_
  repeat tb_rel
  refine gm_cls (mc := .type "type") (a := .ref 55) ok (by rw [hcK]; kernel_rfl) (by rw [hcK]; kernel_rfl) (by rw [hcK]; kernel_rfl) (by rw [hcK]; kernel_rfl) rfl ?_
  refine cw_KH ok hcK (by kernel_rfl) rfl ?_
  repeat tb_rel
  refine ca_fcK 1 ok (by lia) (heap_init_fc hgc ht ?_)
  rw [show [(Str.ofString "number", vi 1), (Str.ofString "mark", vi 0), (Str.ofString "size", vi 56)] = ([(Str.ofString "number", vi 1), (Str.ofString "mark", vi 0)] ++ [(Str.ofString "size", vi 56)] : List (Str × Value)) from rfl]
  repeat tb_rel
  simp only [AH.set_set]
  have hT1 : (σ.set t (.inst 408 ([(Str.ofString "number", vi 1), (Str.ofString "mark", vi 0)] ++ [(Str.ofString "size", vi 56)] ++ [(Str.ofString "meta", .none)] ++ [(Str.ofString "flags", vi 0)] ++ [(Str.ofString "weak", .bytes #[] 0)]))) t = some (.inst 408 ([(Str.ofString "number", vi 1), (Str.ofString "mark", vi 0)] ++ [(Str.ofString "size", vi 56)] ++ [(Str.ofString "meta", .none)] ++ [(Str.ofString "flags", vi 0)] ++ [(Str.ofString "weak", .bytes #[] 0)])) := AH.set_self ..
  have K1 : Keep [t] σ (σ.set t (.inst 408 ([(Str.ofString "number", vi 1), (Str.ofString "mark", vi 0)] ++ [(Str.ofString "size", vi 56)] ++ [(Str.ofString "meta", .none)] ++ [(Str.ofString "flags", vi 0)] ++ [(Str.ofString "weak", .bytes #[] 0)]))) := (Same.set (.head _)).keep
  generalize hσ1 : σ.set t (.inst 408 ([(Str.ofString "number", vi 1), (Str.ofString "mark", vi 0)] ++ [(Str.ofString "size", vi 56)] ++ [(Str.ofString "meta", .none)] ++ [(Str.ofString "flags", vi 0)] ++ [(Str.ofString "weak", .bytes #[] 0)])) = σ1 at hT1 K1 ⊢
  clear hσ1
  have fr : ∀ {σ' : AH} {x : Addr}, Keep [t] σ σ' → (∃ o, σ' t = some o) → σ' x = none → σ x = none := fun {σ' x} K ht hx => by
    cases e : σ x with
    | none => rfl
    | some o =>
      by_cases q : x = t
      · rw [q] at hx; obtain ⟨o, ho⟩ := ht; rw [hx] at ho; cases ho
      · rw [K x o (by simpa using q) e] at hx; cases hx
  clear ht
  refine ev_list ?_
  repeat tb_rel
  refine ⟨by decide, fun A hA => ?_⟩
  have hAt : t ≠ A := fun e => by rw [← e, hT1] at hA; cases hA
  have hA0 := fr K1 ⟨_, hT1⟩ hA
  repeat tb_rel
  have hT2 : ((σ1.set A (.list [])).set t (.inst 408 ([(Str.ofString "number", vi 1), (Str.ofString "mark", vi 0)] ++ [(Str.ofString "size", vi 56)] ++ [(Str.ofString "meta", .none)] ++ [(Str.ofString "flags", vi 0)] ++ [(Str.ofString "weak", .bytes #[] 0)] ++ [(Str.ofString "array", .ref A)]))) t = some (.inst 408 ([(Str.ofString "number", vi 1), (Str.ofString "mark", vi 0)] ++ [(Str.ofString "size", vi 56)] ++ [(Str.ofString "meta", .none)] ++ [(Str.ofString "flags", vi 0)] ++ [(Str.ofString "weak", .bytes #[] 0)] ++ [(Str.ofString "array", .ref A)])) := AH.set_self ..
  have hA2 : ((σ1.set A (.list [])).set t (.inst 408 ([(Str.ofString "number", vi 1), (Str.ofString "mark", vi 0)] ++ [(Str.ofString "size", vi 56)] ++ [(Str.ofString "meta", .none)] ++ [(Str.ofString "flags", vi 0)] ++ [(Str.ofString "weak", .bytes #[] 0)] ++ [(Str.ofString "array", .ref A)]))) A = some (.list []) := (AH.set_ne hAt.symm).trans (AH.set_self ..)
  have K2 : Keep [t] σ ((σ1.set A (.list [])).set t (.inst 408 ([(Str.ofString "number", vi 1), (Str.ofString "mark", vi 0)] ++ [(Str.ofString "size", vi 56)] ++ [(Str.ofString "meta", .none)] ++ [(Str.ofString "flags", vi 0)] ++ [(Str.ofString "weak", .bytes #[] 0)] ++ [(Str.ofString "array", .ref A)]))) := K1.trans ((Keep.new hA).trans (Same.set (.head _)).keep)
  generalize hσ2 : (σ1.set A (.list [])).set t (.inst 408 ([(Str.ofString "number", vi 1), (Str.ofString "mark", vi 0)] ++ [(Str.ofString "size", vi 56)] ++ [(Str.ofString "meta", .none)] ++ [(Str.ofString "flags", vi 0)] ++ [(Str.ofString "weak", .bytes #[] 0)] ++ [(Str.ofString "array", .ref A)])) = σ2 at hT2 hA2 K2 ⊢
  clear hσ2
  refine ev_list ?_
  repeat tb_rel
  refine ⟨by decide, fun N hN => ?_⟩
  have hNt : t ≠ N := fun e => by rw [← e, hT2] at hN; cases hN
  have hNA : A ≠ N := fun e => by rw [← e, hA2] at hN; cases hN
  have hN0 := fr K2 ⟨_, hT2⟩ hN
  tb_rel
  tb_rel
  tb_rel
  have hT3 : ((σ2.set N (.list [])).set t (.inst 408 ([(Str.ofString "number", vi 1), (Str.ofString "mark", vi 0)] ++ [(Str.ofString "size", vi 56)] ++ [(Str.ofString "meta", .none)] ++ [(Str.ofString "flags", vi 0)] ++ [(Str.ofString "weak", .bytes #[] 0)] ++ [(Str.ofString "array", .ref A)] ++ [(Str.ofString "nodes", .ref N)]))) t = some (.inst 408 ([(Str.ofString "number", vi 1), (Str.ofString "mark", vi 0)] ++ [(Str.ofString "size", vi 56)] ++ [(Str.ofString "meta", .none)] ++ [(Str.ofString "flags", vi 0)] ++ [(Str.ofString "weak", .bytes #[] 0)] ++ [(Str.ofString "array", .ref A)] ++ [(Str.ofString "nodes", .ref N)])) := AH.set_self ..
  have hA3 : ((σ2.set N (.list [])).set t (.inst 408 ([(Str.ofString "number", vi 1), (Str.ofString "mark", vi 0)] ++ [(Str.ofString "size", vi 56)] ++ [(Str.ofString "meta", .none)] ++ [(Str.ofString "flags", vi 0)] ++ [(Str.ofString "weak", .bytes #[] 0)] ++ [(Str.ofString "array", .ref A)] ++ [(Str.ofString "nodes", .ref N)]))) A = some (.list []) := (AH.set_ne hAt.symm).trans ((AH.set_ne hNA).trans hA2)
  have hN3 : ((σ2.set N (.list [])).set t (.inst 408 ([(Str.ofString "number", vi 1), (Str.ofString "mark", vi 0)] ++ [(Str.ofString "size", vi 56)] ++ [(Str.ofString "meta", .none)] ++ [(Str.ofString "flags", vi 0)] ++ [(Str.ofString "weak", .bytes #[] 0)] ++ [(Str.ofString "array", .ref A)] ++ [(Str.ofString "nodes", .ref N)]))) N = some (.list []) := (AH.set_ne hNt.symm).trans (AH.set_self ..)
  have K3 : Keep [t] σ ((σ2.set N (.list [])).set t (.inst 408 ([(Str.ofString "number", vi 1), (Str.ofString "mark", vi 0)] ++ [(Str.ofString "size", vi 56)] ++ [(Str.ofString "meta", .none)] ++ [(Str.ofString "flags", vi 0)] ++ [(Str.ofString "weak", .bytes #[] 0)] ++ [(Str.ofString "array", .ref A)] ++ [(Str.ofString "nodes", .ref N)]))) := K2.trans ((Keep.new hN).trans (Same.set (.head _)).keep)
  generalize hσ3 : (σ2.set N (.list [])).set t (.inst 408 ([(Str.ofString "number", vi 1), (Str.ofString "mark", vi 0)] ++ [(Str.ofString "size", vi 56)] ++ [(Str.ofString "meta", .none)] ++ [(Str.ofString "flags", vi 0)] ++ [(Str.ofString "weak", .bytes #[] 0)] ++ [(Str.ofString "array", .ref A)] ++ [(Str.ofString "nodes", .ref N)])) = σ3 at hT3 hA3 hN3 K3 ⊢
  clear hσ3
  have fin : ∀ σ4, σ4 = σ3.set t (.inst 408 (tabF A N 56 0 (0 : Nat))) → TabAt σ4 t A N [] (blank [] 0) [] 56 0 ∧ Keep [t] σ σ4 := fun σ4 e => by
    subst e
    exact ⟨⟨AH.set_self .., (AH.set_ne hAt.symm).trans hA3, (AH.set_ne hNt.symm).trans hN3, fun i a h => (by cases h), rfl, rfl, rfl, List.nodup_nil, hNA⟩, K3.trans (Same.set (.head _)).keep⟩
  have pl0 : places 0 = 0 := rfl
  repeat tb_rel
  simp only [AH.set_set]
  obtain ⟨H4, K4⟩ := fin _ rfl
  generalize hσ4 : σ3.set t (.inst 408 (tabF A N 56 0 (0 : Nat))) = σ4 at H4 K4
  have hT4 := H4.inst
  refine if_b (fun hb => ?_) (fun hb => ?_)
  · have hb : 0 < room := nlt (a := 0) hb
    rw [if_pos trivial]
    show EXs c _ _ (σ3.set t (.inst 408 (tabF A N 56 0 (0 : Nat)))) _
    rw [hσ4]
    clear hσ4
    repeat tb_rel
    have hmt : itemsL (blank [] 0) 0 = [] := rfl
    have hbl : blank (((blank [] 0).row ++ List.replicate 0 none).take 0) (places room) = blank [] (places room) := rfl
    have F0 : Fit (places room) (blank (((blank [] 0).row ++ List.replicate 0 none).take 0) (places room)) (itemsL (blank [] 0) 0 ++ []) := by
      rw [hmt, hbl]
      refine ⟨List.nodup_nil, fun p hp => (by cases hp), fun p hp => (by cases hp), ?_⟩
      show cS (List.replicate _ none) + 0 ≤ _
      unfold cS; rw [List.countP_replicate]; simp
    have hfr : ∀ a, σ4 a = none → σ a = none := fun a ha => fr K4 ⟨_, hT4⟩ ha
    show CA c (.ref 330) [.ref t, vi ((0 : Nat) : Int), vi (room : Nat)] σ4 _
    refine ca_fcK 5 ok (by lia) (And.right (resize_both (rest := []) hgc H4 (by simp) (by simp [blank]) (by lia) (by lia) (fun i _ => blank_w ..) (places_pow (by lia)) F0 fun σ6 A6 N6 nd6 nxt6 sz6 lg6 H6 I6 hl6 K6 hA6 hN6 hn6 => ?_))
    repeat tb_rel
    exact h σ6 A6 N6 nd6 nxt6 sz6 lg6 H6 I6 (K4.trans K6) (hfr _ hA6) (hfr _ hN6) fun a ha => hfr a (hn6 a ha)
  · have hb : room = 0 := Nat.eq_zero_of_not_pos (nnlt (a := 0) hb)
    subst hb
    repeat tb_rel
    have hg2 : Q .none (σ3.set t (.inst 408 (tabF A N 56 0 (0 : Nat)))) := by
      rw [hσ4]
      exact h σ4 A N [] [] 56 0 H4 (blank_inv [] (.inl rfl)) K4 hA0 hN0 fun a ha => by cases ha
    exact hg2
noncomputable def TagAt (σ : AH) (v : Value) : Option Key → Prop
  | none => v = .none
  | some k => ∃ T, v = .ref T ∧ σ T = some (.tup [vi k.code, k.tv])
noncomputable abbrev lotF (rA kA wA : Addr) (fr : Int) : List (Str × Value) := [(Str.ofString "row", .ref rA), (Str.ofString "keys", .ref kA), (Str.ofString "worth", .ref wA), (Str.ofString "found", vi fr)]
structure LotAt (σ : AH) (d rA kA wA : Addr) (ks : List Value) (L : Lot) : Prop where
  dict : σ d = some (.dict (lotF rA kA wA L.found))
  row : σ rA = some (.list (L.row.map vo))
  keys : σ kA = some (.list ks)
  worth : σ wA = some (.list (L.worth.map vo))
  tags : ∀ i v, ks[i]? = some v → TagAt σ v (L.kA i)
  lk : L.keys.length = ks.length
  lw : L.worth.length = ks.length
  rk : rA ≠ kA
  rw' : rA ≠ wA
  kw : kA ≠ wA
theorem TagAt.le {σ σ' : AH} {v : Value} {k : Option Key} (h : TagAt σ v k) (hs : Le σ σ') : TagAt σ' v k := by
  cases k with
  | none => exact h
  | some k => obtain ⟨T, e, hT⟩ := h; exact ⟨T, e, hs _ _ hT⟩
theorem LotAt.le {σ σ' : AH} {d rA kA wA : Addr} {ks : List Value} {L : Lot} (H : LotAt σ d rA kA wA ks L) (hs : Le σ σ') : LotAt σ' d rA kA wA ks L :=
  ⟨hs _ _ H.dict, hs _ _ H.row, hs _ _ H.keys, hs _ _ H.worth, fun i v e => (H.tags i v e).le hs, H.lk, H.lw, H.rk, H.rw', H.kw⟩
theorem TagAt.set {σ : AH} {v : Value} {k : Option Key} {a : Addr} {o : AO} (h : TagAt σ v k) (ha : ∀ x y, σ a ≠ some (.tup [x, y])) : TagAt (σ.set a o) v k := by
  cases k with
  | none => exact h
  | some k =>
    obtain ⟨T, e, hT⟩ := h
    exact ⟨T, e, (AH.set_ne fun q => ha _ _ (q ▸ hT)).trans hT⟩
section
variable {σ : AH} {d rA kA wA : Addr} {ks : List Value} {L : Lot}
theorem LotAt.dk (H : LotAt σ d rA kA wA ks L) : d ≠ kA ∧ d ≠ wA ∧ d ≠ rA :=
  ⟨fun e => (by have := H.dict; rw [e, H.keys] at this; cases this), fun e => (by have := H.dict; rw [e, H.worth] at this; cases this), fun e => (by have := H.dict; rw [e, H.row] at this; cases this)⟩
theorem LotAt.setK (H : LotAt σ d rA kA wA ks L) {i : Nat} {V : Value} {k : Option Key} (hi : i < ks.length) (hV : TagAt σ V k) : LotAt (σ.set kA (.list (ks.set i V))) d rA kA wA (ks.set i V) { L with keys := L.keys.set i k } := by
  have hk : ∀ x y, σ kA ≠ some (.tup [x, y]) := fun x y e => by rw [H.keys] at e; cases e
  refine ⟨(AH.set_ne H.dk.1).trans H.dict, (AH.set_ne H.rk).trans H.row, AH.set_self .., (AH.set_ne H.kw.symm).trans H.worth, fun j v e => ?_, by simp [H.lk], by simp [H.lw], H.rk, H.rw', H.kw⟩
  by_cases q : j = i
  · subst q
    rw [List.getElem?_set_self hi] at e; cases e
    show TagAt _ _ ((L.keys.set j k).getD j none)
    rw [getD_set_self (by rw [H.lk]; exact hi)]
    exact hV.set hk
  · rw [List.getElem?_set_ne (Ne.symm q)] at e
    show TagAt _ _ ((L.keys.set i k).getD j none)
    rw [getD_set_ne (Ne.symm q)]
    exact (H.tags j v e).set hk
theorem LotAt.setW (H : LotAt σ d rA kA wA ks L) {i : Nat} {v : Option Int} : LotAt (σ.set wA (.list ((L.worth.set i v).map vo))) d rA kA wA ks { L with worth := L.worth.set i v } := by
  have hk : ∀ x y, σ wA ≠ some (.tup [x, y]) := fun x y e => by rw [H.worth] at e; cases e
  exact ⟨(AH.set_ne H.dk.2.1).trans H.dict, (AH.set_ne H.rw').trans H.row, (AH.set_ne H.kw).trans H.keys, AH.set_self .., fun j v e => (H.tags j v e).set hk, H.lk, by simp [H.lw], H.rk, H.rw', H.kw⟩
theorem LotAt.setF (H : LotAt σ d rA kA wA ks L) {f : Nat} : LotAt (σ.set d (.dict (lotF rA kA wA f))) d rA kA wA ks { L with found := f } := by
  have hk : ∀ x y, σ d ≠ some (.tup [x, y]) := fun x y e => by rw [H.dict] at e; cases e
  exact ⟨AH.set_self .., (AH.set_ne H.dk.2.2.symm).trans H.row, (AH.set_ne H.dk.1.symm).trans H.keys, (AH.set_ne H.dk.2.1.symm).trans H.worth, fun j v e => (H.tags j v e).set hk, H.lk, H.lw, H.rk, H.rw', H.kw⟩
theorem LotAt.setR (H : LotAt σ d rA kA wA ks L) {i : Nat} {v : Option Int} : LotAt (σ.set rA (.list ((L.row.set i v).map vo))) d rA kA wA ks { L with row := L.row.set i v } := by
  have hk : ∀ x y, σ rA ≠ some (.tup [x, y]) := fun x y e => by rw [H.row] at e; cases e
  exact ⟨(AH.set_ne H.dk.2.2).trans H.dict, AH.set_self .., (AH.set_ne H.rk.symm).trans H.keys, (AH.set_ne H.rw'.symm).trans H.worth, fun j v e => (H.tags j v e).set hk, H.lk, H.lw, H.rk, H.rw', H.kw⟩
end
/-- the free places below the one found last -/
noncomputable def leftL (L : Lot) (f : Nat) : List Nat := (List.range f).filter fun i => (L.kA i).isNone
theorem leftL_succ (L : Lot) (f : Nat) : leftL L (f + 1) = if (L.kA f).isNone = true then leftL L f ++ [f] else leftL L f := by
  unfold leftL
  rw [List.range_succ, List.filter_append]
  by_cases h : (L.kA f).isNone = true
  · rw [if_pos h, List.filter_cons_of_pos (by exact h), List.filter_nil]
  · rw [if_neg h, List.filter_cons_of_neg (by exact h), List.filter_nil, List.append_nil]
theorem leftL_free (L : Lot) : ∀ f, (freeP L f = none ∧ leftL L f = []) ∨ ∃ s l, freeP L f = some s ∧ leftL L f = l ++ [s]
  | 0 => .inl ⟨rfl, rfl⟩
  | f + 1 => by
    rw [leftL_succ]
    unfold freeP
    cases h : L.kA f with
    | none => right; exact ⟨f, leftL L f, by rw [if_pos rfl], by simp⟩
    | some k =>
      rw [if_neg (by simp)]
      simp only [Option.isNone_some, Bool.false_eq_true, if_false]
      exact leftL_free L f
theorem swc {t v : Expr} {n : Nat} {env env' : Env} (h : env.scope = env'.scope) (hl : env.scope.kind = .function) (e : swapsWithSole [t] v n env' = pure true) : swapsWith v (some t) n env = pure true := (sws_scope h hl).trans e
theorem relabel_S {scope sc : Scope} {env : Env} (h : env.scope = sc) : relabel scope env = relS scope sc := by subst h; rfl
theorem tag_is_none {c : Cx} {σ : AH} {V : Value} {k : Option Key} {Q : Value → AH → Prop} (ht : TagAt σ V k) (h : Q (.bool k.isNone) σ) : CO c .Is V .none σ Q := by
  cases k with
  | none => rw [show V = .none from ht]; exact none_is_none h
  | some k => obtain ⟨T, rfl, _⟩ := ht; exact co_is h
theorem eqs_tv (a b : Key) : ∃ e2, EqS a.tv b.tv e2 ∧ (a.tv = b.tv → e2 = true) ∧ ((a.code == b.code) && e2) = decide (a = b) := by
  cases a with
  | b x =>
    cases b with
    | b y => exact ⟨_, eqs_int, by cases x <;> cases y <;> simp [Key.tv], by cases x <;> cases y <;> simp [Key.code]⟩
    | i n => exact ⟨_, eqs_int, by simp [Key.tv], by simp [Key.code]⟩
    | y s => exact ⟨_, eqs_int_bytes, by simp [Key.tv], by simp [Key.code]⟩
  | i m =>
    cases b with
    | b y => exact ⟨_, eqs_int, by simp [Key.tv], by simp [Key.code]⟩
    | i n => exact ⟨_, eqs_int, by simp [Key.tv], by simp [Key.code, Bool.beq_eq_decide_eq]⟩
    | y s => exact ⟨_, eqs_int_bytes, by simp [Key.tv], by simp [Key.code]⟩
  | y r =>
    cases b with
    | b y => exact ⟨_, eqs_bytes_int, by simp [Key.tv], by simp [Key.code]⟩
    | i n => exact ⟨_, eqs_bytes_int, by simp [Key.tv], by simp [Key.code]⟩
    | y s => exact ⟨_, eqs_bytes, by simp [Key.tv], by simp [Key.code, Bool.beq_eq_decide_eq]⟩
theorem eqv_tag {σ : AH} {A B : Addr} {a b : Key} (hA : σ A = some (.tup [vi a.code, a.tv])) (hB : σ B = some (.tup [vi b.code, b.tv])) : EqV σ (.ref A) (.ref B) (decide (a = b)) := by
  obtain ⟨e2, h1, h2, h3⟩ := eqs_tv a b
  rw [← h3]
  exact eqv_pair hA hB eqs_int h1 (fun h => by injection h with h; simp [h]) h2
open Classical in
/-- is this the tag of k? -/
noncomputable def isTag (σ : AH) (k : Key) (V : Value) : Bool := decide (TagAt σ V (some k))
theorem isTag_none {σ : AH} {k : Key} : isTag σ k .none = false := by
  unfold isTag
  rw [decide_eq_false_iff_not]
  rintro ⟨T, h, _⟩; cases h
theorem tag_inj {a b : Key} (h : ([vi a.code, a.tv] : List Value) = [vi b.code, b.tv]) : a = b := by
  cases a with
  | b x => cases b with
    | b y => cases x <;> cases y <;> simp_all [Key.tv, Key.code]
    | i n => simp [Key.tv, Key.code] at h
    | y s => simp [Key.tv, Key.code] at h
  | i m => cases b <;> simp_all [Key.tv, Key.code]
  | y r => cases b <;> simp_all [Key.tv, Key.code]
theorem isTag_ref {σ : AH} {k k' : Key} {A : Addr} (hA : σ A = some (.tup [vi k'.code, k'.tv])) : isTag σ k (.ref A) = decide (k' = k) := by
  unfold isTag
  by_cases h : k' = k
  · subst h
    rw [show decide (k' = k') = true from decide_eq_true rfl]
    exact @decide_eq_true _ (Classical.propDecidable _) ⟨A, rfl, hA⟩
  · rw [decide_eq_false h, decide_eq_false_iff_not]
    rintro ⟨T, e, hT⟩
    cases e
    rw [hA] at hT
    exact h (tag_inj (AO.tup.inj (Option.some.inj hT)))
theorem isTag_at {σ : AH} {k : Key} {V : Value} {o : Option Key} (h : TagAt σ V o) : isTag σ k V = decide (o = some k) := by
  cases o with
  | none => rw [show V = .none from h, isTag_none]; simp
  | some k' => obtain ⟨A, rfl, hA⟩ := h; rw [isTag_ref hA]; simp
theorem eqv_isTag {σ : AH} {k : Key} {V : Value} {o : Option Key} {T : Addr} (h : TagAt σ V o) (hT : σ T = some (.tup [vi k.code, k.tv])) : EqV σ V (.ref T) (isTag σ k V) := by
  rw [isTag_at h]
  cases o with
  | none => rw [show V = .none from h]; exact eqv_none_tup hT
  | some k' =>
    obtain ⟨A, rfl, hA⟩ := h
    have := eqv_tag hA hT
    simpa using this
section
variable {σ : AH} {d rA kA wA T : Addr} {ks : List Value} {L : Lot} {k : Key}
theorem LotAt.eqv (H : LotAt σ d rA kA wA ks L) (hT : σ T = some (.tup [vi k.code, k.tv])) : ∀ V ∈ ks, EqV σ V (.ref T) (isTag σ k V) := fun V hV => by
  obtain ⟨i, hi⟩ := List.getElem?_of_mem hV
  exact eqv_isTag (H.tags i V hi) hT
theorem LotAt.any (H : LotAt σ d rA kA wA ks L) : ks.any (isTag σ k) = true ↔ ∃ i, L.kA i = some k := by
  rw [List.any_eq_true]
  constructor
  · rintro ⟨V, hV, h⟩
    obtain ⟨i, hi⟩ := List.getElem?_of_mem hV
    rw [isTag_at (H.tags i V hi)] at h
    exact ⟨i, by simpa using h⟩
  · rintro ⟨i, hi⟩
    have hl : i < ks.length := by
      rw [← H.lk]
      by_cases q : i < L.keys.length
      · exact q
      · unfold Lot.kA at hi; rw [List.getD_eq_getElem?_getD, List.getElem?_eq_none (by lia)] at hi; cases hi
    refine ⟨ks[i], List.getElem_mem hl, ?_⟩
    rw [isTag_at (H.tags i _ (List.getElem?_eq_getElem hl)), hi]; simp
end
/-- what a deed makes where nothing is measured -/
inductive Wr3 (L : Lot) (k : Key) (v : Option Int) : Lot → Prop
  | row : inRow L k = true → Wr3 L k v { L with row := L.row.set (aidx k - 1).toNat v }
  | old {i : Nat} : inRow L k = false → L.kA i = some k → Wr3 L k v { L with worth := L.worth.set i v }
  | new {L' : Lot} : inRow L k = false → (∀ i, L.kA i ≠ some k) → placed L k v = some L' → Wr3 L k v L'
theorem TR.mono {c : Cx} {t : Expr} {μ : AM} {σ : AH} {Q Q' : Bool → AH → Prop} (h : TR c t μ σ Q) (hq : ∀ b σ', Q b σ' → Q' b σ') : TR c t μ σ Q' := fun Φ s E R S k => h Φ s E R S fun b σ' s' q S' => k b σ' s' (hq _ _ q) S'
theorem Keep.more {F F' : List Addr} {σ σ' : AH} (h : Keep F σ σ') (hs : ∀ a ∈ F, a ∈ F') : Keep F' σ σ' := fun a o ha e => h a o (fun hm => ha (hs a hm)) e
/-- a pair of a tag and a value -/
noncomputable def HeldIt (σ : AH) (hv : Value) (p : Key × Option Int) : Prop := ∃ P V v, hv = .ref P ∧ p.2 = some v ∧ σ P = some (.tup [V, vi v]) ∧ TagAt σ V (some p.1)
inductive HeldLs (σ : AH) : List Value → List (Key × Option Int) → Prop
  | nil : HeldLs σ [] []
  | cons {v : Value} {p : Key × Option Int} {vs : List Value} {ps : List (Key × Option Int)} : HeldIt σ v p → HeldLs σ vs ps → HeldLs σ (v :: vs) (p :: ps)
noncomputable def Tups (σ σ' : AH) : Prop := ∀ a x y, σ a = some (.tup [x, y]) → σ' a = some (.tup [x, y])
theorem Le.tups {σ σ' : AH} (h : Le σ σ') : Tups σ σ' := fun a x y e => h a _ e
theorem Tups.trans {a b c : AH} (h : Tups a b) (h' : Tups b c) : Tups a c := fun x y z e => h' x y z (h x y z e)
theorem TagAt.tups {σ σ' : AH} {v : Value} {k : Option Key} (h : TagAt σ v k) (hs : Tups σ σ') : TagAt σ' v k := by
  cases k with
  | none => exact h
  | some k => obtain ⟨T, e, hT⟩ := h; exact ⟨T, e, hs _ _ _ hT⟩
theorem HeldIt.tups {σ σ' : AH} {v : Value} {p : Key × Option Int} (h : HeldIt σ v p) (hs : Tups σ σ') : HeldIt σ' v p := by
  obtain ⟨P, V, w, h1, h2, h3, h4⟩ := h
  exact ⟨P, V, w, h1, h2, hs _ _ _ h3, h4.tups hs⟩
theorem HeldLs.tups {σ σ' : AH} {vs : List Value} {ps : List (Key × Option Int)} (h : HeldLs σ vs ps) (hs : Tups σ σ') : HeldLs σ' vs ps := by
  induction h with
  | nil => exact .nil
  | cons h _ ih => exact .cons (h.tups hs) ih
theorem HeldLs.app {σ : AH} {vs ws : List Value} {ps qs : List (Key × Option Int)} (h : HeldLs σ vs ps) (h' : HeldLs σ ws qs) : HeldLs σ (vs ++ ws) (ps ++ qs) := by
  induction h with
  | nil => exact h'
  | cons h _ ih => exact .cons h ih
theorem HeldLs.rev {σ : AH} {vs : List Value} {ps : List (Key × Option Int)} (h : HeldLs σ vs ps) : HeldLs σ vs.reverse ps.reverse := by
  induction h with
  | nil => exact .nil
  | cons h _ ih => rw [List.reverse_cons, List.reverse_cons]; exact ih.app (.cons h .nil)
theorem HeldLs.len {σ : AH} {vs : List Value} {ps : List (Key × Option Int)} (h : HeldLs σ vs ps) : vs.length = ps.length := by
  induction h with
  | nil => rfl
  | cons _ _ ih => simp [ih]
theorem Keep.tups {F : List Addr} {σ σ' : AH} (h : Keep F σ σ') (hF : ∀ a ∈ F, ∀ x y, σ a ≠ some (.tup [x, y])) : Tups σ σ' := fun a x y e => h a _ (fun hm => hF a hm x y e) e
theorem tkZip_range {a1 a2 : Addr} {t1 t2 : Expr} {c : Cx} (ks : List Value) (worth : List (Option Int)) (hl : worth.length = ks.length) : tkZip a1 a2 ks (worth.map vo) t1 t2 c =
    (List.range ks.length).map fun (i : Nat) μ σ R => (σ a1 = some (.list ks) ∧ σ a2 = some (.list (worth.map vo))) ∧ AS c t1 (ks.getD i .none) μ σ fun μ1 σ1 => AS c t2 (vo (worth.getD i none)) μ1 σ1 R := by
  unfold tkZip
  refine List.ext_getElem (by simp [hl]) fun i h1 h2 => ?_
  have h3 : i < ks.length := by simpa using h2
  have h4 : i < worth.length := by lia
  simp only [List.getElem_map, List.getElem_zip, List.getElem_range, List.getD_eq_getElem?_getD, List.getElem?_eq_getElem h3, List.getElem?_eq_getElem h4, Option.getD_some]
theorem flat_none (n : Nat) : (List.replicate n [Value.none]).flatten = (List.replicate n (none : Option Int)).map vo := by
  induction n with
  | zero => rfl
  | succ n ih => rw [List.replicate_succ, List.flatten_cons, ih, List.replicate_succ, List.map_cons]; rfl
theorem flat_none' (n : Nat) : (List.replicate n [Value.none]).flatten = List.replicate n Value.none := by
  induction n with
  | zero => rfl
  | succ n ih => rw [List.replicate_succ, List.flatten_cons, ih, List.replicate_succ]; rfl
theorem places_turn {m p : Nat} (h : p = 0 ∨ ∃ j, p = 2 ^ j ∧ j ≤ clog m) (hp : p < m) : max 1 (2 * p) = 0 ∨ ∃ j, max 1 (2 * p) = 2 ^ j ∧ j ≤ clog m := by
  right
  rcases h with rfl | ⟨j, rfl, hj⟩
  · exact ⟨0, by simp, Nat.zero_le _⟩
  · refine ⟨j + 1, by rw [Nat.pow_succ]; have := Nat.two_pow_pos j; lia, ?_⟩
    have : ¬ clog m ≤ j := fun q => by have := (clog_le (x := m) (j := j) (by have := Nat.two_pow_pos j; lia)).mp q; lia
    lia
theorem places_end {m p : Nat} (h : p = 0 ∨ ∃ j, p = 2 ^ j ∧ j ≤ clog m) (hp : ¬ p < m) (h0 : p = 0 ∨ 0 < m) : p = places m := by
  unfold places
  rcases h with rfl | ⟨j, rfl, hj⟩
  · rw [if_pos (by lia)]
  · have := Nat.two_pow_pos j
    rw [if_neg (by lia)]
    have := (clog_le (x := m) (j := j) (by lia)).mpr (by lia)
    rw [show j = clog m by lia]
theorem LotAt.ntup {σ : AH} {d rA kA wA : Addr} {ks : List Value} {L : Lot} (H : LotAt σ d rA kA wA ks L) : ∀ a ∈ [d, rA, kA, wA], ∀ x y, σ a ≠ some (.tup [x, y]) := fun a hm x y e => by
  rcases List.mem_cons.mp hm with q | hm
  · rw [q, H.dict] at e; cases e
  · rcases List.mem_cons.mp hm with q | hm
    · rw [q, H.row] at e; cases e
    · rcases List.mem_cons.mp hm with q | hm
      · rw [q, H.keys] at e; cases e
      · rw [List.mem_singleton.mp hm, H.worth] at e; cases e
theorem LotAt.out {σ : AH} {d rA kA wA x : Addr} {ks : List Value} {L : Lot} (H : LotAt σ d rA kA wA ks L) (hx : σ x = none) : x ∉ [d, rA, kA, wA] := fun hm => by
  rcases List.mem_cons.mp hm with q | hm
  · rw [q, H.dict] at hx; cases hx
  · rcases List.mem_cons.mp hm with q | hm
    · rw [q, H.row] at hx; cases hx
    · rcases List.mem_cons.mp hm with q | hm
      · rw [q, H.keys] at hx; cases hx
      · rw [List.mem_singleton.mp hm, H.worth] at hx; cases hx
theorem fm_pos {p : Nat → Bool} {l : List Nat} {j : Nat} (h : p j = true) : (l.filter p).map (fun x : Nat => vi x) ++ [vi (j : Nat)] = ((l ++ [j]).filter p).map (fun x : Nat => vi x) := by
  rw [List.filter_append, List.filter_cons_of_pos h, List.map_append]; rfl
theorem fm_neg {p : Nat → Bool} {l : List Nat} {j : Nat} (h : p j = false) : (l.filter p).map (fun x : Nat => vi x) = ((l ++ [j]).filter p).map (fun x : Nat => vi x) := by
  rw [List.filter_append, List.filter_cons_of_neg (by rw [h]; decide), List.filter_nil, List.append_nil]
theorem fr_pos {p : Nat → Bool} {j : Nat} (h : p j = true) : (((List.range j).filter p).map (· + 1)).map (fun x : Nat => vi x) ++ [vi ((j + 1 : Nat) : Int)] = (((List.range (j + 1)).filter p).map (· + 1)).map (fun x : Nat => vi x) := by
  rw [List.range_succ, List.filter_append, List.filter_cons_of_pos h, List.map_append, List.map_append]; rfl
theorem fr_neg {p : Nat → Bool} {j : Nat} (h : p j = false) : (((List.range j).filter p).map (· + 1)).map (fun x : Nat => vi x) = (((List.range (j + 1)).filter p).map (· + 1)).map (fun x : Nat => vi x) := by
  rw [List.range_succ, List.filter_append, List.filter_cons_of_neg (by rw [h]; decide), List.filter_nil, List.append_nil]
theorem range_self {n : Nat} : List.range n = List.range' 0 (List.range n).length := by rw [List.length_range, List.range_eq_range']
theorem range_upto {n : Nat} : 0 + (List.range n).length = n := by rw [List.length_range, Nat.zero_add]
local macro_rules | `(tactic| tb_rel) => `(tactic| with_reducible first | refine ass_cons ?_ | refine ass_nil ?_)
theorem law_placed_fc {g : Gl} (hg : HK g) {σ : AH} {d rA kA wA T : Addr} {ks : List Value} {L : Lot} {k : Key} {v : Option Int} {Q : Value → AH → Prop} (H : LotAt σ d rA kA wA ks L) (hT : σ T = some (.tup [vi k.code, k.tv])) (hk : k.ok)
    (hok : ∀ i k', L.kA i = some k' → k'.ok) (hwk : ∀ i, L.kA i = none → L.wA i = none) (hf : L.found ≤ L.keys.length) (hn : L.keys.length ≤ 1000)
    (h0 : placed L k v = none → ∀ σ', Le σ σ' → Q (.bool false) σ')
    (h1 : ∀ L', placed L k v = some L' → ∀ σ' ks', LotAt σ' d rA kA wA ks' L' → Keep [d, kA, wA] σ σ' → Q (.bool true) σ') : FC g 4 (.ref 443) [.ref d, .ref T, vo v] σ Q := by
  refine fc_defC (n := 3) (ds := []) [Str.ofString "lot", Str.ofString "tag", Str.ofString "value"] [Str.ofString "worth", Str.ofString "home", Str.ofString "left"] [Str.ofString "keys"] (by rw [hg]; exact rfl) (by rw [hg]; kernel_rfl) (fun vals hv s _ => ?_) rfl (by decide +kernel) (by decide +kernel) (by decide +kernel) rfl rfl rfl (cells_one fun _ => rfl) ?_
  · obtain ⟨a0, a1, a2, rfl⟩ := len3 hv; exact BindsTo.of_eq rfl
  intro c ok hgl hroom hsc hloc hcel
  have hcK : KOK c := by subst hgl; exact hg
  have hgc : HK c.gl := by rw [hgl]; exact hg
  simp only [startM, List.cons_append, List.nil_append, List.append_nil, List.map_nil, List.map_cons]
  have hD := H.dict
  refine exs_cons ?_
  refine ex_assign_tup (env' := envS _) ok hsc (by kernel_rfl) rfl rfl (by decide) ?_
  repeat tb_rel
  refine ⟨rfl, ?_⟩
  repeat tb_rel
  refine ev_list ?_
  repeat tb_rel
  refine ⟨by decide, fun e he => ?_⟩
  have hke : kA ≠ e := fun q => by rw [← q, H.keys] at he; cases he
  refine co_eq_nil ok (by lia) (AH.set_at hke H.keys) (AH.set_self ..) ?_
  have Le1 := Le.new (o := AO.list []) he
  have H1 := H.le Le1
  have hT1 := Le1 _ _ hT
  generalize σ.set e (.list []) = σ1 at Le1 H1 hT1 ⊢
  have hlk := H.lk
  have hlw := H.lw
  have hD1 := H1.dict
  repeat tb_rel
  refine if_b (fun hb => ?_) (fun hb => ?_)
  · repeat tb_rel
    have hz : ks.length = 0 := by simpa using hb
    exact h0 (by unfold placed; rw [if_pos (by lia)]) σ1 Le1
  have hpos : 0 < ks.length := by
    cases ks with
    | nil => cases hb
    | cons x l => simp
  repeat tb_rel
  refine ca_lenK H1.keys (by lia) ?_
  repeat tb_rel
  refine ca_fcK 2 ok (by lia) (law_home_fc hgc hT1 hpos hk ?_)
  rw [hN_eq hpos k]
  have hm := hN_lt hpos k
  have hpl : placed L k v = (if L.wA (hN ks.length k) = none then some ⟨L.row, L.keys.set (hN ks.length k) (some k), L.worth.set (hN ks.length k) v, L.found⟩
      else match freeP L L.found, L.kA (hN ks.length k) with
      | some s, some kp =>
        if homeI ks.length kp = (hN ks.length k : Nat) then some ⟨L.row, L.keys.set s (some k), L.worth.set s v, s⟩
        else some ⟨L.row, (L.keys.set s (some kp)).set (hN ks.length k) (some k), (L.worth.set s (L.wA (hN ks.length k))).set (hN ks.length k) v, s⟩
      | _, _ => none) := by
    unfold placed
    rw [if_neg (by lia), hlk]
    rfl
  generalize hM : hN ks.length k = M at hm hpl ⊢
  repeat tb_rel
  refine row_at H1.worth (by lia) (by lia) ?_
  repeat tb_rel
  refine if_b (fun hw => ?_) (fun hw => ?_)
  · have hwn : L.wA M ≠ none := fun e => by unfold Lot.wA at e; rw [e] at hw; cases hw
    rw [if_neg hwn] at hpl
    have hkm : ∃ kp, L.kA M = some kp := by
      cases e : L.kA M with
      | none => exact absurd (hwk _ e) hwn
      | some kp => exact ⟨kp, rfl⟩
    obtain ⟨kp, hkp⟩ := hkm
    rw [hkp] at hpl
    obtain ⟨cc, hcc⟩ := hcel _ (.head _)
    refine exs_cons ?_
    refine ex_assign_comp ok hloc [Str.ofString "at"] [(Str.ofString "keys", .ref kA)] [(Str.ofString "keys", cc)] (swc (env' := envS _) hsc ok.ek (by kernel_rfl)) (fun _ _ => rfl) ((closureFor_some (y := Str.ofString "keys") (by decide +kernel) hcc).trans rfl) (by simp) (by decide +kernel) rfl (by decide +kernel) (fun x hx => by rw [List.mem_singleton.mp hx, relabel_S hsc]; rfl) (fun x V hx => ?_) (show ([Str.ofString "at", Str.ofString "keys"] : List Str).Nodup by decide +kernel) ?_
    · rw [List.mem_singleton] at hx
      cases hx
      exact ⟨by simp, by rw [relabel_S hsc]; rfl, by rw [Env.kindOf, hsc]; rfl, by rw [hcc]; rfl⟩
    · refine src_range rfl ok rfl (fun _ => rfl) ?_
      repeat tb_rel
      refine ⟨rfl, ?_⟩
      repeat tb_rel
      refine ⟨_, rfl, by lia, by lia, fun c' hci => ?_⟩
      rw [Int.toNat_natCast]
      refine ⟨by simp [tkRange]; lia, ?_⟩
      have ok' := hci.ok
      have hgc' : HK c'.gl := by rw [hci.gl]; exact hgc
      have hK' : KOK c' := hgc'
      have hne' := hci.ne
      have hsc' := hci.sc
      rw [relabel_S hsc] at hsc'
      have hkl : c'.env.kindOf (Str.ofString "at") = some .local := by rw [Env.kindOf, hsc']; rfl
      have hroom' : c'.room = 3 := by rw [hci.room]; exact hroom
      unfold tkRange
      refine CT.inv (fun l acc μ' σ' => Xe2 fun (i : Nat) (o : Option Value) => Xa5 (acc = (leftL L i).map (fun x : Nat => vi x)) (l = List.range' i l.length) (i + l.length = L.found) (σ' = σ1) (μ' = [(Str.ofString "at", o), (Str.ofString "keys", some (.ref kA))]))
        ?_ ?_ (List.range _) [] _ σ1 ⟨0, none, rfl, by rw [List.length_range, List.range_eq_range'], by simp, rfl, rfl⟩
      · rintro acc μ' σ' hI0
        refine hide fun S0 hS0 => ?_
        obtain ⟨i, o, ea0, _, hi, es0, eu0⟩ := hI0
        refine hS0 (at3 ea0 es0 eu0 ?_)
        clear hS0 S0
        refine ⟨trivial, fun D hD => ?_⟩
        simp only [List.length_nil, Nat.add_zero] at hi
        subst hi
        repeat tb_rel
        refine ev_list ?_
        repeat tb_rel
        refine ⟨by decide, fun e2 he2 => ?_⟩
        have hDold := hD
        have H1k := H1.keys
        have hDe : D ≠ e2 := fun q => by rw [← q, AH.set_self] at he2; cases he2
        refine co_eq_nil ok (by lia) (AH.set_at hDe (AH.set_self ..)) (AH.set_self ..) ?_
        have Le2 : Le σ1 ((σ1.set D (.list ((leftL L L.found).map (fun x : Nat => vi x)))).set e2 (.list [])) := (Le.new hD).trans (Le.new he2)
        have hD2 : ((σ1.set D (.list ((leftL L L.found).map (fun x : Nat => vi x)))).set e2 (.list [])) D = some (.list ((leftL L L.found).map (fun x : Nat => vi x))) := AH.set_at hDe (AH.set_self ..)
        have H2 := H1.le Le2
        have hT2 := Le2 _ _ hT1
        generalize (σ1.set D (.list ((leftL L L.found).map (fun x : Nat => vi x)))).set e2 (.list []) = σ2 at Le2 hD2 H2 hT2 ⊢
        have LeA := Le1.trans Le2
        repeat tb_rel
        rcases leftL_free L L.found with ⟨hfr, hlf⟩ | ⟨s, lf, hfr, hlf⟩
        · rw [hlf] at hD2 ⊢
          rw [hfr] at hpl
          refine if_t rfl ?_
          repeat tb_rel
          exact h0 hpl σ2 LeA
        · rw [hlf] at hD2 ⊢
          rw [hfr] at hpl
          dsimp only at hpl
          have hs := freeP_lt hfr
          have hs2 : s < ks.length := by lia
          refine if_f (by simp) ?_
          repeat tb_rel
          refine gi_last hD2 ?_
          have hDict := H2.dict
          repeat tb_rel
          have Hf := H2.setF (f := s)
          have Kf : Keep [d, kA, wA] σ (σ2.set d (.dict (lotF rA kA wA s))) := Keep.at (fun a o _ e => LeA a o e) (.head _)
          have hDd : D ≠ d := fun q => by rw [q, hDict] at hD2; cases hD2
          have hD3 : (σ2.set d (.dict (lotF rA kA wA s))) D = some (.list ((lf ++ [s]).map (fun x : Nat => vi x))) := (AH.set_ne hDd).trans hD2
          have hT3 : (σ2.set d (.dict (lotF rA kA wA s))) T = some (.tup [vi k.code, k.tv]) := (AH.set_ne (fun q => by rw [q, hDict] at hT2; cases hT2)).trans hT2
          generalize σ2.set d (.dict (lotF rA kA wA s)) = σ3 at Hf Kf hD3 hT3 ⊢
          obtain ⟨Tp, hTp⟩ : ∃ V, ks[M]? = some V := ⟨_, List.getElem?_eq_getElem hm⟩
          have hTg : TagAt σ3 Tp (some kp) := by have := Hf.tags M Tp hTp; rw [show Lot.kA { L with found := s } M = L.kA M from rfl, hkp] at this; exact this
          obtain ⟨Ta, rfl, hTa⟩ := id hTg
          have hkD := Hf.keys
          have hwD := Hf.worth
          repeat tb_rel
          refine gi_nat hkD (by lia) hTp ?_
          repeat tb_rel
          refine ca_lenK hkD (by lia) ?_
          repeat tb_rel
          refine ca_fcK 2 ok (by lia) (law_home_fc hgc hTa hpos (hok _ _ hkp) ?_)
          repeat tb_rel
          refine if_b (fun hh => ?_) (fun hh => ?_)
          · have hh : homeI ks.length kp = (M : Nat) := by simpa using hh
            rw [if_pos hh] at hpl
            repeat tb_rel
            refine gi_last hD3 ?_
            repeat tb_rel
            refine ex_assign_tup (env' := envS _) ok hsc (by kernel_rfl) rfl rfl (by decide) ?_
            repeat tb_rel
            refine ⟨rfl, ?_⟩
            repeat tb_rel
            refine si_nat Hf.keys (by lia) (by lia) ?_
            repeat tb_rel
            refine si_row ((AH.set_ne H.kw.symm).trans Hf.worth) (by lia) (by lia) ?_
            repeat tb_rel
            exact h1 _ hpl _ _ ((Hf.setK (k := some k) hs2 ⟨T, rfl, hT3⟩).setW) ((Kf.at (.tail _ (.head _))).at (.tail _ (.tail _ (.head _))))
          · have hh : ¬ homeI ks.length kp = (M : Nat) := by simpa using hh
            rw [if_neg hh] at hpl
            repeat tb_rel
            refine ex_assign_tup (env' := envS _) ok hsc (by kernel_rfl) rfl rfl (by decide) ?_
            repeat tb_rel
            refine gi_nat hkD (by lia) hTp ?_
            repeat tb_rel
            refine row_at hwD (by dsimp only; lia) (by dsimp only; lia) ?_
            repeat tb_rel
            refine ⟨rfl, ?_⟩
            repeat tb_rel
            refine gi_last hD3 ?_
            repeat tb_rel
            refine si_nat hkD (by lia) (by lia) ?_
            have hDk : D ≠ kA := fun q => by
              have h2 := hDold
              rw [q, H1k] at h2; cases h2
            repeat tb_rel
            refine gi_last ((AH.set_ne hDk).trans hD3) ?_
            repeat tb_rel
            refine si_row ((AH.set_ne H.kw.symm).trans hwD) (by lia) (by lia) ?_
            have H5 := (Hf.setK (k := some kp) hs2 hTg).setW (i := s) (v := L.wA M)
            have K5 : Keep [d, kA, wA] σ ((σ3.set kA (.list (ks.set s (.ref Ta)))).set wA (.list ((L.worth.set s (L.wA M)).map vo))) := ((Kf.at (.tail _ (.head _))).at (.tail _ (.tail _ (.head _))))
            have hT5 : ((σ3.set kA (.list (ks.set s (.ref Ta)))).set wA (.list ((L.worth.set s (L.wA M)).map vo))) T = some (.tup [vi k.code, k.tv]) := (AH.set_ne (fun q => by rw [q, hwD] at hT3; cases hT3)).trans ((AH.set_ne (fun q => by rw [q, hkD] at hT3; cases hT3)).trans hT3)
            show ASs c [] [] _ ((σ3.set kA (.list (ks.set s (.ref Ta)))).set wA (.list ((L.worth.set s (L.wA M)).map vo))) _
            generalize (σ3.set kA (.list (ks.set s (.ref Ta)))).set wA (.list ((L.worth.set s (L.wA M)).map vo)) = σ5 at H5 K5 hT5 ⊢
            repeat tb_rel
            refine ex_assign_tup (env' := envS _) ok hsc (by kernel_rfl) rfl rfl (by decide) ?_
            repeat tb_rel
            refine ⟨rfl, ?_⟩
            repeat tb_rel
            refine si_nat H5.keys (by rw [List.length_set]; exact hm) (by rw [List.length_set]; lia) ?_
            repeat tb_rel
            refine si_row ((AH.set_ne H.kw.symm).trans H5.worth) (by show M < (L.worth.set s (L.wA M)).length; rw [List.length_set]; lia) (by show (L.worth.set s (L.wA M)).length ≤ 1000; rw [List.length_set]; lia) ?_
            repeat tb_rel
            exact h1 _ hpl _ _ ((H5.setK (k := some k) (by simp; lia) ⟨T, rfl, hT5⟩).setW) ((K5.at (.tail _ (.head _))).at (.tail _ (.tail _ (.head _))))
      · rintro j l acc μ' σ' KK hI0 hKK
        refine hide fun S0 hS0 => ?_
        obtain ⟨i, o, ea0, hl, hi, es0, eu0⟩ := hI0
        refine hS0 (at3 ea0 es0 eu0 ?_)
        clear hS0 S0
        rw [List.length_cons, List.range'_succ] at hl
        injection hl with hj hl
        subst hj
        repeat tb_rel
        simp only [List.length_cons] at hi
        obtain ⟨V, hV⟩ : ∃ V, ks[j]? = some V := ⟨_, List.getElem?_eq_getElem (by lia)⟩
        refine gi_nat H1.keys (by lia) hV ?_
        repeat tb_rel
        refine tag_is_none (H1.tags j V hV) ?_
        repeat tb_rel
        refine if_b (fun hb => ?_) (fun hb => ?_)
        · repeat tb_rel
          exact hKK _ _ _ ⟨j + 1, _, by rw [leftL_succ, if_pos hb]; simp, hl, by lia, rfl, rfl⟩
        · exact hKK _ _ _ ⟨j + 1, _, by rw [leftL_succ, if_neg (by rw [hb]; decide)], hl, by lia, rfl, rfl⟩
  · have hwn : L.wA M = none := by
      cases e : L.wA M with
      | none => rfl
      | some x => unfold Lot.wA at e; rw [e] at hw; cases hw
    rw [if_pos hwn] at hpl
    repeat tb_rel
    refine ex_assign_tup (env' := envS _) ok hsc (by kernel_rfl) rfl rfl (by decide) ?_
    repeat tb_rel
    refine ⟨rfl, ?_⟩
    repeat tb_rel
    refine si_nat H1.keys (by lia) (by lia) ?_
    repeat tb_rel
    refine si_row ((AH.set_ne H.kw.symm).trans H1.worth) (by lia) (by lia) ?_
    repeat tb_rel
    exact h1 _ hpl _ _ ((H1.setK (k := some k) hm ⟨T, rfl, hT1⟩).setW) (((show Keep [d, kA, wA] σ σ1 from fun a o _ e => Le1 a o e).at (.tail _ (.head _))).at (.tail _ (.tail _ (.head _))))
theorem law_written_fc {g : Gl} (hg : HK g) {σ : AH} {d rA kA wA T : Addr} {ks : List Value} {L : Lot} {k : Key} {v : Option Int} {n : Nat} {Q : Value → AH → Prop} (h4 : 4 ≤ n) (H : LotAt σ d rA kA wA ks L) (hT : σ T = some (.tup [vi k.code, k.tv])) (hk : k.ok)
    (hok : ∀ i k', L.kA i = some k' → k'.ok) (hwk : ∀ i, L.kA i = none → L.wA i = none) (hf : L.found ≤ L.keys.length) (hn : L.keys.length ≤ 1000) (hrl : L.row.length ≤ 1000) (huq : ∀ i j k, L.kA i = some k → L.kA j = some k → i = j)
    (h1 : ∀ L', Wr3 L k v L' → ∀ σ' ks', LotAt σ' d rA kA wA ks' L' → Keep [d, rA, kA, wA] σ σ' → Q .none σ')
    (h2 : inRow L k = false → (∀ i, L.kA i ≠ some k) → placed L k v = none → ∀ σ', Le σ σ' → FC g n (.ref 448) [.ref d, .ref T] σ' fun _ σ1 => FC g n (.ref 455) [.ref d, .ref T, vo v] σ1 fun _ σ2 => Q .none σ2) : FC g (n + 1) (.ref 455) [.ref d, .ref T, vo v] σ Q := by
  refine fc_def (n := n) (ds := []) [Str.ofString "lot", Str.ofString "tag", Str.ofString "value"] [] (by rw [hg]; exact rfl) (by rw [hg]; kernel_rfl) (fun vals hv s _ => ?_) rfl (by decide +kernel) (by decide +kernel) rfl rfl rfl (by decide +kernel) ?_
  · obtain ⟨a0, a1, a2, rfl⟩ := len3 hv; exact BindsTo.of_eq rfl
  intro c ok hgl hroom hsc hloc
  have hcK : KOK c := by subst hgl; exact hg
  have hgc : HK c.gl := by rw [hgl]; exact hg
  simp only [startM, List.cons_append, List.nil_append, List.append_nil, List.map_nil, List.map_cons]
  subst hgl
  have hD := H.dict
  have hR := H.row
  have hKs := H.keys
  have hlk := H.lk
  have hlw := H.lw
  refine exs_cons ?_
  refine ex_if (TR.mono (Q := fun b σ' => b = inRow L k ∧ σ' = σ) ?_ fun b σ' hb => ?_)
  · repeat tb_rel
    refine ⟨⟨_, .tup hT⟩, gi_tup (j := 0) hT (by decide) (by decide) rfl rfl ?_⟩
    repeat tb_rel
    cases k with
    | b x => exact if_f rfl ⟨rfl, rfl⟩
    | y s => exact if_f rfl ⟨rfl, rfl⟩
    | i m =>
      refine if_t rfl ?_
      repeat tb_rel
      refine ⟨⟨_, .tup hT⟩, gi_tup (j := 1) (V := vi m) hT (by decide) (by decide) rfl rfl ?_⟩
      repeat tb_rel
      refine if_b (fun hb => ?_) (fun hb => ?_)
      · have hb : 1 ≤ m := by simpa using hb
        repeat tb_rel
        refine if_b (fun hc => ?_) (fun hc => ?_)
        · have hc : m ≤ L.row.length := by simpa using hc
          repeat tb_rel
          exact ⟨by simp [inRow]; lia, rfl⟩
        · have hc : ¬ m ≤ L.row.length := by simpa using hc
          repeat tb_rel
          exact ⟨by simp [inRow]; lia, rfl⟩
      · have hb : ¬ 1 ≤ m := by simpa using hb
        repeat tb_rel
        exact ⟨by simp [inRow]; lia, rfl⟩
  obtain ⟨rfl, rfl⟩ := hb
  refine if_b (fun hin => ?_) (fun hin => ?_)
  · obtain ⟨m, rfl, l1, l2⟩ : ∃ m, k = .i m ∧ 1 ≤ m ∧ m ≤ L.row.length := by
      cases k with
      | i m => simp only [inRow, Bool.and_eq_true, decide_eq_true_eq] at hin; exact ⟨m, rfl, hin⟩
      | b x => cases hin
      | y s => cases hin
    repeat tb_rel
    refine ⟨⟨_, .tup hT⟩, gi_tup (j := 1) (V := vi m) hT (by decide) (by decide) rfl rfl ?_⟩
    repeat tb_rel
    refine si_rowI (n := m) hR (by lia) (by lia) (by lia) ?_
    repeat tb_rel
    have H1 := H.setR (i := (m - 1).toNat) (v := v)
    exact h1 _ (.row hin) _ _ H1 (Same.keep (Same.set (by simp)))
  · refine exs_cons ?_
    repeat tb_rel
    refine co_in_list (isTag σ' k) ok (by lia) hKs (H.eqv hT) ?_
    repeat tb_rel
    refine if_b (fun hany => ?_) (fun hany => ?_)
    · obtain ⟨i, hi⟩ := H.any.mp hany
      have hil : i < ks.length := by
        rw [← hlk]
        by_cases q : i < L.keys.length
        · exact q
        · unfold Lot.kA at hi; rw [List.getD_eq_getElem?_getD, List.getElem?_eq_none (by lia)] at hi; cases hi
      repeat tb_rel
      refine ev_mcall (fun _ => ⟨_, rfl⟩) ?_
      repeat tb_rel
      refine gm_index hKs ?_
      refine cw_builtin (T := "list.index") ok rfl ?_
      repeat tb_rel
      refine ca_index (isTag σ' k) i ok (by lia) hKs (by lia) (H.eqv hT) ⟨ks[i], List.getElem?_eq_getElem hil, by rw [isTag_at (H.tags i _ (List.getElem?_eq_getElem hil)), hi]; simp⟩ (fun j V hj hV => ?_) ?_
      · rw [isTag_at (H.tags j V hV)]
        refine decide_eq_false fun q => ?_
        have := huq _ _ _ q hi
        lia
      repeat tb_rel
      refine si_row H.worth (by lia) (by lia) ?_
      repeat tb_rel
      exact h1 _ (.old hin hi) _ _ (H.setW (i := i) (v := v)) (Same.keep (Same.set (by simp)))
    · have hno : ∀ i, L.kA i ≠ some k := fun i hi => by
        have := H.any.mpr ⟨i, hi⟩
        rw [hany] at this; cases this
      repeat tb_rel
      refine ca_fcK 4 ok (by lia) (law_placed_fc hgc H hT hk hok hwk hf hn (fun hp σ1 hle => ?_) fun L' hp σ1 ks1 H1 K1 => ?_)
      · repeat tb_rel
        refine ca_fcK n ok (by lia) ((h2 hin hno hp σ1 hle).mono (Nat.le_refl _) fun v1 σ2 hq => ?_)
        repeat tb_rel
        refine ca_fcK n ok (by lia) (hq.mono (Nat.le_refl _) fun v2 σ3 hq2 => ?_)
        repeat tb_rel
        exact hq2
      · repeat tb_rel
        exact h1 _ (.new hin hno hp) _ _ H1 (K1.more fun a ha => by simp at ha ⊢; grind)
theorem put_written_fc {g : Gl} (hg : HK g) {σ : AH} {d rA kA wA T : Addr} {ks : List Value} {L : Lot} {k : Key} {v : Option Int} {n : Nat} {nxt : List Int} {its : List (Key × Option Int)} {Q : Value → AH → Prop} (H : LotAt σ d rA kA wA ks L) (hT : σ T = some (.tup [vi k.code, k.tv]))
    (I : Inv n L nxt) (F : Fit n L ((k, v) :: its)) (hrl : L.row.length ≤ 1000)
    (h : ∀ σ' ks' nxt', LotAt σ' d rA kA wA ks' (put L k v) → Inv n (put L k v) nxt' → Fit n (put L k v) its → Keep [d, rA, kA, wA] σ σ' → Q .none σ') : FC g 5 (.ref 455) [.ref d, .ref T, vo v] σ Q := by
  obtain ⟨rank, IF⟩ := I.F
  have hno := F.nk _ (.head _)
  have hnl : n ≤ 1000 := by have := I.np; unfold Pow at this; lia
  refine law_written_fc (n := 4) hg (Nat.le_refl _) H hT (F.okk _ (.head _)) I.ok I.wk (by rw [I.lk]; exact IF.fd) (by rw [I.lk]; exact hnl) hrl I.uq (fun L' W σ' ks' H' K' => ?_) (fun hin _ hp => ?_)
  · have key : L' = put L k v ∧ (∃ nxt', Inv n (put L k v) nxt') ∧ Fit n (put L k v) its := by
      cases W with
      | row hin =>
        obtain ⟨e, I', F'⟩ := fit_row (p := (k, v)) I F hin
        exact ⟨e.symm, ⟨nxt, I'⟩, F'⟩
      | old _ hi => exact absurd hi (hno _)
      | new hin _ hp =>
        refine hide fun S0 hS0 => ?_
        obtain ⟨_, nxt', _, a2, a3, a4, _⟩ := fit_new (p := (k, v)) I F hin
        refine hS0 ?_
        clear hS0 S0
        rw [hp] at a2
        exact ⟨Option.some.inj a2, ⟨nxt', a3⟩, a4⟩
    refine hide fun S0 hS0 => ?_
    obtain ⟨rfl, ⟨nxt', I'⟩, F'⟩ := key
    refine hS0 ?_
    clear hS0 S0
    exact h σ' ks' nxt' H' I' F' K'
  · refine hide fun S0 hS0 => ?_
    obtain ⟨_, nxt', _, a2, _⟩ := fit_new (p := (k, v)) I F hin
    refine hS0 ?_
    clear hS0 S0
    rw [hp] at a2; cases a2
theorem law_measured_fc {g : Gl} (hg : HK g) {σ : AH} {d rA kA wA T : Addr} {ks : List Value} {L : Lot} {k : Key} {nxt : List Int} {Q : Value → AH → Prop} (H : LotAt σ d rA kA wA ks L) (hT : σ T = some (.tup [vi k.code, k.tv])) (hk : k.ok)
    (I : Inv L.keys.length L nxt) (hnew : ∀ i, L.kA i ≠ some k) (hr : inRow L k = false) (hl : live L ≤ 11) (hrl : L.row.length ≤ 16)
    (h : ∀ σ' rA' kA' wA' ks', LotAt σ' d rA' kA' wA' ks' (measured L k) → Keep [d] σ σ' → σ rA' = none → σ kA' = none → σ wA' = none → Q .none σ') : FC g 6 (.ref 448) [.ref d, .ref T] σ Q := by
  refine fc_defC (n := 5) (ds := []) [Str.ofString "lot", Str.ofString "tag"] [Str.ofString "held", Str.ofString "slots", Str.ofString "numbers", Str.ofString "many", Str.ofString "places", Str.ofString "row", Str.ofString "at", Str.ofString "key", Str.ofString "value"] [Str.ofString "size", Str.ofString "wide"] (by rw [hg]; exact rfl) (by rw [hg]; kernel_rfl) (fun vals hv s _ => ?_) rfl (by decide +kernel) (by decide +kernel) (by decide +kernel) rfl rfl rfl (cells_two (by decide +kernel) fun _ => rfl) ?_
  · obtain ⟨a0, a1, rfl⟩ := len2 hv; exact BindsTo.of_eq rfl
  intro c ok hgl hroom hsc hloc hcel
  have hcK : KOK c := by subst hgl; exact hg
  have hgc : HK c.gl := by rw [hgl]; exact hg
  simp only [startM, List.cons_append, List.nil_append, List.append_nil, List.map_nil, List.map_cons]
  have hD := H.dict
  have hlk := H.lk
  have hlw := H.lw
  have hkl1 : ks.length ≤ 1000 := by have := I.np; unfold Pow at this; lia
  refine exs_cons ?_
  refine ex_assign_comp ok hloc [Str.ofString "key", Str.ofString "value"] [] [] (swc (env' := envS _) hsc ok.ek (by kernel_rfl)) (fun _ _ => rfl) (closureFor_none (by decide +kernel)) .nil (by decide +kernel) rfl (by decide +kernel) (by rw [relabel_S hsc]; decide +kernel) (fun x V hx => nomatch hx) (by decide) ?_
  refine src_zip rfl ok rfl rfl (fun _ => rfl) ?_
  repeat tb_rel
  refine ⟨rfl, ?_⟩
  repeat tb_rel
  refine ⟨kA, wA, _, _, rfl, rfl, H.keys, H.worth, fun c' hci => ?_⟩
  rw [tkZip_range _ _ hlw]
  refine ⟨by simp; lia, ?_⟩
  have ok' := hci.ok
  have hgc' : HK c'.gl := by rw [hci.gl]; exact hgc
  have hK' : KOK c' := hgc'
  have hne' := hci.ne
  have hsc' := hci.sc
  rw [relabel_S hsc] at hsc'
  have hkl_key : c'.env.kindOf (Str.ofString "key") = some .local := by rw [Env.kindOf, hsc']; rfl
  have hkl_value : c'.env.kindOf (Str.ofString "value") = some .local := by rw [Env.kindOf, hsc']; rfl
  have hroom' : c'.room = 5 := by rw [hci.room]; exact hroom
  refine CT.inv (fun l acc μ' σ' => Xe3 fun (i : Nat) (o p : Option Value) => Xa5 (HeldLs σ' acc ((List.range i).filterMap (heldAt1 L))) (l = List.range' i l.length) (i + l.length = ks.length) (Le σ σ') (μ' = [(Str.ofString "key", o), (Str.ofString "value", p)]))
    ?_ ?_ (List.range _) [] _ σ ⟨0, none, none, .nil, range_self, range_upto, Le.rfl', rfl⟩
  rotate_left
  · rintro j l acc μ' σ' KK hI0 hKK
    refine hide fun S0 hS0 => ?_
    obtain ⟨i, o, p, hHL, hl2, hi, hle, eu0⟩ := hI0
    refine hS0 (at1 eu0 ?_)
    clear hS0 S0
    rw [List.length_cons, List.range'_succ] at hl2
    have hj := (List.cons.inj hl2).1
    replace hl2 := (List.cons.inj hl2).2
    subst hj
    simp only [List.length_cons] at hi
    have hjl : j < ks.length := by lia
    refine ⟨⟨hle _ _ H.keys, hle _ _ H.worth⟩, ?_⟩
    repeat tb_rel
    have hV : ks[j]? = some (ks.getD j .none) := by rw [List.getD_eq_getElem?_getD, List.getElem?_eq_getElem hjl]; rfl
    have hTg := (H.tags j _ hV).le hle
    have est : (List.range (j + 1)).filterMap (heldAt1 L) = (List.range j).filterMap (heldAt1 L) ++ (heldAt1 L j).toList := by
      rw [List.range_succ, List.filterMap_append]; cases h : heldAt1 L j <;> simp [h]
    cases hw : L.wA j with
    | none =>
      have eg : heldAt1 L j = none := by unfold heldAt1; rw [hw]; cases L.kA j <;> rfl
      rw [show L.worth.getD j none = none from hw]
      refine if_f rfl ?_
      exact hKK _ _ _ ⟨j + 1, _, _, by rw [est, eg]; simpa using hHL, hl2, by lia, hle, rfl⟩
    | some x =>
      cases hkk : L.kA j with
      | none => rw [I.wk j hkk] at hw; cases hw
      | some kk =>
        have eg : heldAt1 L j = some (kk, some x) := by unfold heldAt1; rw [hw, hkk]
        rw [show L.worth.getD j none = some x from hw]
        rw [hkk] at hTg
        refine if_t rfl ?_
        repeat tb_rel
        refine ev_tuple ?_
        repeat tb_rel
        refine ⟨by simp, fun a ha => ?_⟩
        exact hKK _ _ _ ⟨j + 1, _, _, by
          rw [est, eg]
          exact (hHL.tups (Le.new ha).tups).app (.cons ⟨a, _, x, rfl, rfl, AH.set_self .., hTg.le (Le.new ha)⟩ .nil), hl2, by lia, hle.trans (Le.new ha), rfl⟩
  rintro hvs μ' σ1 hI0
  refine hide fun S0 hS0 => ?_
  obtain ⟨i, o, p, hHL, _, hi, hle, eu0⟩ := hI0
  refine hS0 (at1 eu0 ?_)
  clear hS0 S0
  refine ⟨⟨hle _ _ H.keys, hle _ _ H.worth⟩, fun hdA hdN => ?_⟩
  simp only [List.length_nil, Nat.add_zero] at hi
  rw [hi, ← hlk] at hHL
  change HeldLs σ1 hvs (heldL L) at hHL
  have hvl := hHL.len
  have hhl : (heldL L).length ≤ 11 := by unfold live at hl; rw [cS_held I] at hl; lia
  have hsl : (slotsL L.row).length ≤ 11 := by unfold live at hl; rw [cS_slots] at hl; lia
  have LeA := hle.trans (Le.new (o := AO.list hvs) hdN)
  have hHd : (σ1.set hdA (.list hvs)) hdA = some (.list hvs) := AH.set_self ..
  replace hHL := hHL.tups (Le.new (o := AO.list hvs) hdN).tups
  generalize σ1.set hdA (.list hvs) = σ2 at LeA hHd hHL ⊢
  clear hle hi
  have hD2 := LeA _ _ H.dict
  repeat tb_rel
  refine ex_assign_comp ok hloc [Str.ofString "at", Str.ofString "value"] [] [] (swc (env' := envS _) hsc ok.ek (by kernel_rfl)) (fun _ _ => rfl) (closureFor_none (by decide +kernel)) .nil (by decide +kernel) rfl (by decide +kernel) (by rw [relabel_S hsc]; decide +kernel) (fun x V hx => nomatch hx) (by decide) ?_
  refine src_enum rfl ok rfl (fun _ => rfl) ?_
  repeat tb_rel
  refine ⟨rfl, ?_⟩
  repeat tb_rel
  refine ⟨rA, _, rfl, LeA _ _ H.row, fun c' hci => ?_⟩
  rw [tkEnum_range]
  refine ⟨by simp; lia, ?_⟩
  have ok' := hci.ok
  have hgc' : HK c'.gl := by rw [hci.gl]; exact hgc
  have hK' : KOK c' := hgc'
  have hne' := hci.ne
  have hsc' := hci.sc
  rw [relabel_S hsc] at hsc'
  have hkl_at : c'.env.kindOf (Str.ofString "at") = some .local := by rw [Env.kindOf, hsc']; rfl
  have hkl_value : c'.env.kindOf (Str.ofString "value") = some .local := by rw [Env.kindOf, hsc']; rfl
  have hroom' : c'.room = 5 := by rw [hci.room]; exact hroom
  refine CT.inv (fun l acc μ' σ' => Xe3 fun (i : Nat) (o p : Option Value) => Xa5 (acc = (((List.range i).filter fun i => (L.row.getD i none).isSome).map (· + 1)).map (fun x : Nat => vi x)) (l = List.range' i l.length) (i + l.length = L.row.length) (σ' = σ2) (μ' = [(Str.ofString "at", o), (Str.ofString "value", p)]))
    ?_ ?_ (List.range _) [] _ σ2 ⟨0, none, none, rfl, range_self, range_upto, rfl, rfl⟩
  rotate_left
  · rintro j l acc μ' σ' KK hI0 hKK
    refine hide fun S0 hS0 => ?_
    obtain ⟨i, o, p, ea0, hl2, hi, es0, eu0⟩ := hI0
    refine hS0 (at3 ea0 es0 eu0 ?_)
    clear hS0 S0
    rw [List.length_cons, List.range'_succ] at hl2
    have hj := (List.cons.inj hl2).1
    replace hl2 := (List.cons.inj hl2).2
    subst hj
    simp only [List.length_cons] at hi
    refine ⟨LeA _ _ H.row, ?_⟩
    repeat tb_rel
    refine if_b (fun hb => ?_) (fun hb => ?_)
    · repeat tb_rel
      exact hKK _ _ _ ⟨j + 1, _, _, fr_pos hb, hl2, by lia, rfl, rfl⟩
    · exact hKK _ _ _ ⟨j + 1, _, _, fr_neg hb, hl2, by lia, rfl, rfl⟩
  rintro acc μ' σ' hI0
  refine hide fun S0 hS0 => ?_
  obtain ⟨i, o, p, ea0, _, hi, es0, eu0⟩ := hI0
  refine hS0 (at3 ea0 es0 eu0 ?_)
  clear hS0 S0
  refine ⟨LeA _ _ H.row, fun slA slN => ?_⟩
  simp only [List.length_nil, Nat.add_zero] at hi
  subst hi
  have LeB := LeA.trans (Le.new (o := AO.list ((slotsL L.row).map (fun x : Nat => vi x))) slN)
  have hSl : (σ2.set slA (.list ((slotsL L.row).map (fun x : Nat => vi x)))) slA = some (.list ((slotsL L.row).map (fun x : Nat => vi x))) := AH.set_self ..
  have hHd3 := Le.new (o := AO.list ((slotsL L.row).map (fun x : Nat => vi x))) slN _ _ hHd
  replace hHL := hHL.tups (Le.new (o := AO.list ((slotsL L.row).map (fun x : Nat => vi x))) slN).tups
  show ∃ μ', Put _ _ _ μ' ∧ Then c _ _ .next μ' (σ2.set slA (.list ((slotsL L.row).map (fun x : Nat => vi x))))
  generalize σ2.set slA (.list ((slotsL L.row).map (fun x : Nat => vi x))) = σ3 at LeB hSl hHd3 hHL ⊢
  have hD3 := LeB _ _ H.dict
  have hT3 := LeB _ _ hT
  repeat tb_rel
  refine ev_comp ok hloc [Str.ofString "key", Str.ofString "value"] [] [] (fun _ _ => rfl) (closureFor_none (by decide +kernel)) .nil (by decide +kernel) rfl (by decide +kernel) (by rw [relabel_S hsc]; decide +kernel) (fun x V hx => nomatch hx) (by decide) ?_
  refine src_list rfl ?_
  repeat tb_rel
  refine ev_list ?_
  repeat tb_rel
  refine ev_tuple ?_
  repeat tb_rel
  refine ⟨by simp, fun tP htP => ?_⟩
  repeat tb_rel
  refine ⟨by simp, fun e1 he1 => ?_⟩
  repeat tb_rel
  have Le4 : Le σ3 ((σ3.set tP (.tup [.ref T, vi 0])).set e1 (.list [.ref tP])) := (Le.new htP).trans (Le.new he1)
  have hP4 : ((σ3.set tP (.tup [.ref T, vi 0])).set e1 (.list [.ref tP])) tP = some (.tup [.ref T, vi 0]) := Le.new he1 _ _ (AH.set_self ..)
  have hE4 : ((σ3.set tP (.tup [.ref T, vi 0])).set e1 (.list [.ref tP])) e1 = some (.list [.ref tP]) := AH.set_self ..
  generalize (σ3.set tP (.tup [.ref T, vi 0])).set e1 (.list [.ref tP]) = σ4 at Le4 hP4 hE4 ⊢
  refine bo_add_list (Le4 _ _ hHd3) hE4 (by simp; lia) fun x hx => ?_
  have Le5 := Le4.trans (Le.new (o := AO.list (hvs ++ [.ref tP])) hx)
  have hX5 : (σ4.set x (.list (hvs ++ [.ref tP]))) x = some (.list (hvs ++ [.ref tP])) := AH.set_self ..
  have hP5 := Le.new (o := AO.list (hvs ++ [.ref tP])) hx _ _ hP4
  generalize σ4.set x (.list (hvs ++ [.ref tP])) = σ5 at Le5 hX5 hP5 ⊢
  have LeC := LeB.trans Le5
  have hHL5 : HeldLs σ5 (hvs ++ [.ref tP]) (heldL L ++ [(k, some 0)]) := (hHL.tups Le5.tups).app (.cons ⟨tP, .ref T, 0, rfl, rfl, hP5, T, rfl, LeC _ _ hT⟩ .nil)
  refine ⟨x, _, rfl, hX5, fun c' hci => ?_⟩
  refine ⟨by simp [tkList]; lia, ?_⟩
  have ok' := hci.ok
  have hgc' : HK c'.gl := by rw [hci.gl]; exact hgc
  have hK' : KOK c' := hgc'
  have hne' := hci.ne
  have hsc' := hci.sc
  rw [relabel_S hsc] at hsc'
  have hkl_key : c'.env.kindOf (Str.ofString "key") = some .local := by rw [Env.kindOf, hsc']; rfl
  have hkl_value : c'.env.kindOf (Str.ofString "value") = some .local := by rw [Env.kindOf, hsc']; rfl
  have hroom' : c'.room = 5 := by rw [hci.room]; exact hroom
  refine CT.inv (fun l acc μ' σ' => Xe4 fun (dn rs : List (Key × Option Int)) (o p : Option Value) => Xa5 (HeldLs σ5 l rs) (dn ++ rs = heldL L ++ [(k, some 0)]) (acc = ((dn.map (·.1)).filterMap posI).map (fun x : Nat => vi x)) (σ' = σ5) (μ' = [(Str.ofString "key", o), (Str.ofString "value", p)]))
    ?_ ?_ (hvs ++ [.ref tP]) [] _ σ5 ⟨[], _, none, none, hHL5, rfl, rfl, rfl, rfl⟩
  rotate_left
  · rintro hv l acc μ' σ' KK hI0 hKK
    refine hide fun S0 hS0 => ?_
    obtain ⟨dn, rs, o, p, hh, hdr, ea0, es0, eu0⟩ := hI0
    refine hS0 (at3 ea0 es0 eu0 ?_)
    clear hS0 S0
    cases hh with
    | @cons _ q _ qs hit hrest =>
    refine hide fun S0 hS0 => ?_
    obtain ⟨P, V, w, rfl, hw, hP, htag⟩ := hit
    refine hS0 ?_
    clear hS0 S0
    obtain ⟨Ta, rfl, hTa⟩ := htag
    obtain ⟨kk, kw⟩ := q
    dsimp only at hw hTa
    have est : ∀ acc', acc' = (((dn ++ [(kk, kw)]).map (·.1)).filterMap posI).map (fun x : Nat => vi x) → ∀ o p, KK acc' [(Str.ofString "key", o), (Str.ofString "value", p)] σ5 := fun acc' e o p => hKK _ _ _ ⟨dn ++ [(kk, kw)], qs, o, p, hrest, (List.append_assoc ..).trans hdr, e, rfl, rfl⟩
    have eapp : (((dn ++ [(kk, kw)]).map (·.1)).filterMap posI).map (fun x : Nat => vi x) = ((dn.map (·.1)).filterMap posI).map (fun x : Nat => vi x) ++ ((posI kk).toList).map (fun x : Nat => vi x) := by
      rw [List.map_append, List.filterMap_append, List.map_append, List.map_cons, List.map_nil]
      cases h : posI kk <;> simp [h]
    rw [eapp] at est
    refine ⟨hX5, ?_⟩
    refine as_tup ok' rfl hP rfl ?_
    repeat tb_rel
    refine ⟨⟨_, .tup hTa⟩, gi_tup (j := 0) hTa (by decide) (by decide) rfl rfl ?_⟩
    repeat tb_rel
    cases kk with
    | b z => exact if_f rfl (est _ (by simp [posI]) _ _)
    | y z => exact if_f rfl (est _ (by simp [posI]) _ _)
    | i m =>
      refine if_t rfl ?_
      repeat tb_rel
      refine ⟨⟨_, .tup hTa⟩, gi_tup (j := 1) (V := vi m) hTa (by decide) (by decide) rfl rfl ?_⟩
      repeat tb_rel
      have ep : posI (.i m) = if 0 < m then some m.toNat else none := rfl
      refine if_b (fun hb => ?_) (fun hb => ?_)
      · have hb : 0 < m := by simpa using hb
        rw [ep, if_pos hb] at est
        repeat tb_rel
        refine ⟨⟨_, .tup hTa⟩, gi_tup (j := 1) (V := vi m) hTa (by decide) (by decide) rfl rfl ?_⟩
        exact est _ (by simp; lia) _ _
      · have hb : ¬ 0 < m := by simpa using hb
        rw [ep, if_neg hb] at est
        repeat tb_rel
        exact est _ (by simp) _ _
  rintro acc μ' σ' hI0
  refine hide fun S0 hS0 => ?_
  obtain ⟨dn, rs, o, p, hh, hdr, ea0, es0, eu0⟩ := hI0
  refine hS0 (at3 ea0 es0 eu0 ?_)
  clear hS0 S0
  cases hh
  rw [List.append_nil] at hdr
  subst hdr
  refine ⟨hX5, fun D6 hD6 => ?_⟩
  have hnl : (numsL L k).length ≤ 12 := by
    have := nums_len (k := k) I
    unfold live at hl; lia
  have hnl2 : (((heldL L ++ [(k, (some 0 : Option Int))]).map (·.1)).filterMap posI).length ≤ 12 := by
    have : (((heldL L ++ [(k, (some 0 : Option Int))]).map (·.1)).filterMap posI).length ≤ (numsL L k).length := by
      unfold numsL; rw [List.map_append]; simp
    lia
  refine bo_add_list (Le.new hD6 _ _ (Le5 _ _ hSl)) (AH.set_self ..) (by simp only [List.length_map]; lia) fun nA hnA => ?_
  have Le6 := (Le.new (o := AO.list ((((heldL L ++ [(k, (some 0 : Option Int))]).map (·.1)).filterMap posI).map (fun x : Nat => vi x))) hD6).trans (Le.new (o := AO.list ((slotsL L.row).map (fun x : Nat => vi x) ++ (((heldL L ++ [(k, (some 0 : Option Int))]).map (·.1)).filterMap posI).map (fun x : Nat => vi x))) hnA)
  have hN6 := AH.set_self (σ5.set D6 (AO.list ((((heldL L ++ [(k, (some 0 : Option Int))]).map (·.1)).filterMap posI).map (fun x : Nat => vi x)))) nA (AO.list ((slotsL L.row).map (fun x : Nat => vi x) ++ (((heldL L ++ [(k, (some 0 : Option Int))]).map (·.1)).filterMap posI).map (fun x : Nat => vi x)))
  generalize ((σ5.set D6 (AO.list ((((heldL L ++ [(k, (some 0 : Option Int))]).map (·.1)).filterMap posI).map (fun x : Nat => vi x)))).set nA (AO.list ((slotsL L.row).map (fun x : Nat => vi x) ++ (((heldL L ++ [(k, (some 0 : Option Int))]).map (·.1)).filterMap posI).map (fun x : Nat => vi x)))) = σ6 at Le6 hN6 ⊢
  rw [show (slotsL L.row).map (fun x : Nat => vi x) ++ (((heldL L ++ [(k, (some 0 : Option Int))]).map (·.1)).filterMap posI).map (fun x : Nat => vi x) = (numsL L k).map (fun x : Nat => vi x) by unfold numsL; rw [List.map_append, List.map_append]; rfl] at hN6
  have LeD := LeC.trans Le6
  have hHL6 := (hHL.tups Le5.tups).tups Le6.tups
  have hHd6 := Le6 _ _ (Le5 _ _ hHd3)
  have hSl6 := Le6 _ _ (Le5 _ _ hSl)
  obtain ⟨ccs, hccs⟩ := hcel (Str.ofString "size") (by simp)
  obtain ⟨ccw, hccw⟩ := hcel (Str.ofString "wide") (by simp)
  iterate 3 tb_rel
  refine ex_assign_tup (env' := envS _) ok hsc (by kernel_rfl) rfl rfl (by decide) ?_
  repeat tb_rel
  refine ⟨rfl, ?_⟩
  repeat tb_rel
  refine ex_while (fun m μ' σ5 => Xe2 fun (w s : Nat) => Xa5 (w = 2 ^ (27 - m)) (m ≤ 27) (lsGo (numsL L k) m w s = sizeL L k) (Le σ6 σ5) (μ' = [(Str.ofString "lot", some (Value.ref d)), (Str.ofString "tag", some (Value.ref T)), (Str.ofString "held", some (Value.ref hdA)), (Str.ofString "slots", some (Value.ref slA)), (Str.ofString "numbers", some (Value.ref nA)), (Str.ofString "many", none), (Str.ofString "places", none), (Str.ofString "row", none), (Str.ofString "at", none), (Str.ofString "key", none), (Str.ofString "value", none), (Str.ofString "size", some (vi (s : Nat))), (Str.ofString "wide", some (vi (w : Nat)))])) 27 ⟨1, 0, rfl, Nat.le_refl _, rfl, Le.rfl', rfl⟩ ?_
  · rintro m μ' σ7 hI0
    refine hide fun S0 hS0 => ?_
    obtain ⟨w, s, hw, hm27, hgo, hle7, eu0⟩ := hI0
    refine hS0 (at1 eu0 ?_)
    clear hS0 S0
    have hN7 := hle7 _ _ hN6
    repeat tb_rel
    refine ca_lenK hN7 (by rw [List.length_map]; lia) ?_
    rw [List.length_map]
    repeat tb_rel
    refine if_b (fun hlt => ?_) (fun hlt => ?_)
    · have hlt : w < 2 * (numsL L k).length := nlt2 hlt
      obtain ⟨r, rfl⟩ : ∃ r, m = r + 1 := by
        cases m with
        | zero => lia
        | succ r => exact ⟨r, rfl⟩
      unfold lsGo at hgo
      rw [if_pos hlt] at hgo
      have hw2 : 2 * w = 2 ^ (27 - r) := by rw [hw, sub_more hm27, Nat.pow_succ]; lia
      obtain ⟨nums, hnums⟩ : ∃ nums, nums = numsL L k := ⟨_, rfl⟩
      rw [← hnums] at hN7 hgo hlt hnl
      repeat tb_rel
      refine ev_comp ok hloc [Str.ofString "number"] [(Str.ofString "wide", vi (w : Nat))] [(Str.ofString "wide", ccw)] (fun _ _ => rfl) ((closureFor_some (y := Str.ofString "wide") (by decide +kernel) hccw).trans rfl) (by simp) (by decide +kernel) rfl (by decide +kernel) (by rw [relabel_S hsc]; decide +kernel) (fun x V hx => by rw [List.mem_singleton] at hx; cases hx; exact ⟨by simp, by rw [relabel_S hsc]; rfl, by rw [Env.kindOf, hsc]; rfl, by rw [hccw]; rfl⟩) (show ([Str.ofString "number", Str.ofString "wide"] : List Str).Nodup by decide +kernel) ?_
      refine src_list rfl ?_
      repeat tb_rel
      refine ⟨nA, _, rfl, hN7, fun c' hci => ?_⟩
      unfold tkList
      rw [List.map_map]
      refine ⟨by simp only [List.length_map]; lia, ?_⟩
      have ok' := hci.ok
      have hgc' : HK c'.gl := by rw [hci.gl]; exact hgc
      have hK' : KOK c' := hgc'
      have hne' := hci.ne
      have hsc' := hci.sc
      rw [relabel_S hsc] at hsc'
      have hkl_number : c'.env.kindOf (Str.ofString "number") = some .local := by rw [Env.kindOf, hsc']; rfl
      have hroom' : c'.room = 5 := by rw [hci.room]; exact hroom
      refine CT.inv (fun l acc μ' σ' => Xe2 fun (dn : List Nat) (o : Option Value) => Xa4 (dn ++ l = nums) (acc = (dn.filter fun n => decide (n ≤ w)).map (fun x : Nat => vi x)) (σ' = σ7) (μ' = [(Str.ofString "number", o), (Str.ofString "wide", some (vi (w : Nat)))]))
        ?_ ?_ nums [] _ σ7 ⟨[], none, rfl, rfl, rfl, rfl⟩
      rotate_left
      · rintro j l acc μ' σ' KK hI0 hKK
        refine hide fun S0 hS0 => ?_
        obtain ⟨dn, o, hdn, ea0, es0, eu0⟩ := hI0
        refine hS0 (at3 ea0 es0 eu0 ?_)
        clear hS0 S0
        refine ⟨hN7, ?_⟩
        repeat tb_rel
        refine if_b (fun hb => ?_) (fun hb => ?_)
        · have hb : j ≤ w := nle hb
          repeat tb_rel
          exact hKK _ _ _ ⟨dn ++ [j], _, (List.append_assoc ..).trans hdn, fm_pos (decide_eq_true hb), rfl, rfl⟩
        · have hb : ¬ (j ≤ w) := nnle hb
          repeat tb_rel
          exact hKK _ _ _ ⟨dn ++ [j], _, (List.append_assoc ..).trans hdn, fm_neg (decide_eq_false hb), rfl, rfl⟩
      rintro acc μ' σ' hI0
      refine hide fun S0 hS0 => ?_
      obtain ⟨dn, o, hdn, ea0, es0, eu0⟩ := hI0
      refine hS0 (at3 ea0 es0 eu0 ?_)
      clear hS0 S0
      rw [List.append_nil] at hdn
      subst hdn
      refine ⟨hN7, fun D hDn => ?_⟩
      repeat tb_rel
      have hln : ((dn.filter fun n => decide (n ≤ w)).map (fun x : Nat => vi x)).length ≤ 1000 := by
        have := @List.length_filter_le _ (fun n => decide (n ≤ w)) dn
        rw [List.length_map]; lia
      refine ca_lenK (AH.set_self ..) hln ?_
      have Le8 := Le.new (o := AO.list ((dn.filter fun n => decide (n ≤ w)).map (fun x : Nat => vi x))) hDn
      have ecnt : ((dn.filter fun n => decide (n ≤ w)).map (fun x : Nat => vi x)).length = cntLe dn w := by
        unfold cntLe; rw [List.length_map, List.countP_eq_length_filter]
      rw [ecnt]
      have Le9 := hle7.trans Le8
      generalize σ7.set D (AO.list ((dn.filter fun n => decide (n ≤ w)).map (fun x : Nat => vi x))) = σ8 at Le9 ⊢
      repeat tb_rel
      refine if_b (fun hg => ?_) (fun hg => ?_)
      · have hg : w < 2 * cntLe dn w := nlt2 hg
        rw [if_pos hg] at hgo
        repeat tb_rel
        rw [show (2 : Int) * (w : Nat) = ((2 * w : Nat) : Int) by lia]
        exact ⟨r, by lia, 2 * w, w, hw2, by lia, by rw [← hnums]; exact hgo, Le9, rfl⟩
      · have hg : ¬ w < 2 * cntLe dn w := nnlt2 hg
        rw [if_neg hg] at hgo
        repeat tb_rel
        rw [show (2 : Int) * (w : Nat) = ((2 * w : Nat) : Int) by lia]
        exact ⟨r, by lia, 2 * w, s, hw2, by lia, by rw [← hnums]; exact hgo, Le9, rfl⟩
    · have hlt : ¬ w < 2 * (numsL L k).length := nnlt2 hlt
      rw [lsGo_stop (by lia)] at hgo
      subst hgo
      have hHd7 := hle7 _ _ hHd6
      have hSl7 := hle7 _ _ hSl6
      have hsz := size_le (k := k) I hl
      repeat tb_rel
      refine ca_lenK hHd7 (by lia) ?_
      repeat tb_rel
      refine ca_lenK hSl7 (by rw [List.length_map]; lia) ?_
      rw [List.length_map]
      have hN7' := hN7
      obtain ⟨nums, hnums⟩ : ∃ nums, nums = numsL L k := ⟨_, rfl⟩
      obtain ⟨sz, hszv⟩ : ∃ sz, sz = sizeL L k := ⟨_, rfl⟩
      rw [← hnums] at hN7' hnl
      rw [← hszv] at hsz ⊢
      repeat tb_rel
      refine ev_comp ok hloc [Str.ofString "number"] [(Str.ofString "size", vi (sz : Nat))] [(Str.ofString "size", ccs)] (fun _ _ => rfl) ((closureFor_some (y := Str.ofString "size") (by decide +kernel) hccs).trans rfl) (by simp) (by decide +kernel) rfl (by decide +kernel) (by rw [relabel_S hsc]; decide +kernel) (fun x V hx => by rw [List.mem_singleton] at hx; cases hx; exact ⟨by simp, by rw [relabel_S hsc]; rfl, by rw [Env.kindOf, hsc]; rfl, by rw [hccs]; rfl⟩) (show ([Str.ofString "number", Str.ofString "size"] : List Str).Nodup by decide +kernel) ?_
      refine src_list rfl ?_
      repeat tb_rel
      refine ⟨nA, _, rfl, hN7', fun c' hci => ?_⟩
      unfold tkList
      rw [List.map_map]
      refine ⟨by simp only [List.length_map]; lia, ?_⟩
      have ok' := hci.ok
      have hgc' : HK c'.gl := by rw [hci.gl]; exact hgc
      have hK' : KOK c' := hgc'
      have hne' := hci.ne
      have hsc' := hci.sc
      rw [relabel_S hsc] at hsc'
      have hkl_number : c'.env.kindOf (Str.ofString "number") = some .local := by rw [Env.kindOf, hsc']; rfl
      have hroom' : c'.room = 5 := by rw [hci.room]; exact hroom
      refine CT.inv (fun l acc μ' σ' => Xe2 fun (dn : List Nat) (o : Option Value) => Xa4 (dn ++ l = nums) (acc = (dn.filter fun n => decide (n ≤ sz)).map (fun x : Nat => vi x)) (σ' = σ7) (μ' = [(Str.ofString "number", o), (Str.ofString "size", some (vi (sz : Nat)))]))
        ?_ ?_ nums [] _ σ7 ⟨[], none, rfl, rfl, rfl, rfl⟩
      rotate_left
      · rintro j l acc μ' σ' KK hI0 hKK
        refine hide fun S0 hS0 => ?_
        obtain ⟨dn, o, hdn, ea0, es0, eu0⟩ := hI0
        refine hS0 (at3 ea0 es0 eu0 ?_)
        clear hS0 S0
        refine ⟨hN7', ?_⟩
        repeat tb_rel
        refine if_b (fun hb => ?_) (fun hb => ?_)
        · have hb : j ≤ sz := nle hb
          repeat tb_rel
          exact hKK _ _ _ ⟨dn ++ [j], _, (List.append_assoc ..).trans hdn, fm_pos (decide_eq_true hb), rfl, rfl⟩
        · have hb : ¬ (j ≤ sz) := nnle hb
          repeat tb_rel
          exact hKK _ _ _ ⟨dn ++ [j], _, (List.append_assoc ..).trans hdn, fm_neg (decide_eq_false hb), rfl, rfl⟩
      rintro acc μ' σ' hI0
      refine hide fun S0 hS0 => ?_
      obtain ⟨dn, o, hdn, ea0, es0, eu0⟩ := hI0
      refine hS0 (at3 ea0 es0 eu0 ?_)
      clear hS0 S0
      rw [List.append_nil] at hdn
      subst hdn
      refine ⟨hN7', fun D hDn => ?_⟩
      repeat tb_rel
      have hln : ((dn.filter fun n => decide (n ≤ sz)).map (fun x : Nat => vi x)).length ≤ 1000 := by
        have := @List.length_filter_le _ (fun n => decide (n ≤ sz)) dn
        rw [List.length_map]; lia
      refine ca_lenK (AH.set_self ..) hln ?_
      have ecnt : ((dn.filter fun n => decide (n ≤ sz)).map (fun x : Nat => vi x)).length = cntLe dn sz := by
        unfold cntLe; rw [List.length_map, List.countP_eq_length_filter]
      rw [ecnt]
      have Le8 := hle7.trans (Le.new (o := AO.list ((dn.filter fun n => decide (n ≤ sz)).map (fun x : Nat => vi x))) hDn)
      generalize σ7.set D (AO.list ((dn.filter fun n => decide (n ≤ sz)).map (fun x : Nat => vi x))) = σ8 at Le8 ⊢
      clear hN7 hN7' hHd7 hSl7 hle7
      repeat tb_rel
      have emany : (hvs.length : Int) + ((slotsL L.row).length : Nat) + 1 - (cntLe dn sz : Nat) = (manyL L k : Nat) := by
        have e : cntLe (numsL L k) (sizeL L k) ≤ (heldL L).length + (slotsL L.row).length + 1 := by
          refine Nat.le_trans (cntLe_len ..) ?_
          have := nums_len (k := k) I
          rw [cS_slots, cS_held I] at this; lia
        rw [hnums, hszv, hvl]
        exact cast_sub3 (a := (heldL L).length) (b := (slotsL L.row).length) e
      rw [emany]
      have hmany : manyL L k ≤ 12 := by have := many_le (k := k) I; unfold live at hl; lia
      obtain ⟨mn, hmn⟩ : ∃ mn, mn = manyL L k := ⟨_, rfl⟩
      rw [← hmn] at hmany ⊢
      refine ex_while (fun m μ' σ7 => ∃ (p : Nat), Xa5 (m = mn - p) ((p = 0 ∨ ∃ j, p = 2 ^ j ∧ j ≤ clog mn)) ((p = 0 ∨ 0 < mn)) (σ7 = σ8) (μ' = [(Str.ofString "lot", some (Value.ref d)), (Str.ofString "tag", some (Value.ref T)), (Str.ofString "held", some (Value.ref hdA)), (Str.ofString "slots", some (Value.ref slA)), (Str.ofString "numbers", some (Value.ref nA)), (Str.ofString "many", some (vi (mn : Nat))), (Str.ofString "places", some (vi (p : Nat))), (Str.ofString "row", none), (Str.ofString "at", none), (Str.ofString "key", none), (Str.ofString "value", none), (Str.ofString "size", some (vi (sz : Nat))), (Str.ofString "wide", some (vi (w : Nat)))])) mn ⟨0, rfl, .inl rfl, .inl rfl, rfl, rfl⟩ ?_
      rintro m μ' σ9 hI0
      refine hide fun S0 hS0 => ?_
      obtain ⟨p, em0, hp1, hp2, es0, eu0⟩ := hI0
      refine hS0 (at3 em0 es0 eu0 ?_)
      clear hS0 S0
      repeat tb_rel
      refine if_b (fun hlt2 => ?_) (fun hlt2 => ?_)
      · have hlt2 : p < mn := nlt hlt2
        repeat tb_rel
        refine ca_max ok ?_
        repeat tb_rel
        rw [max_cast]
        exact ⟨mn - max 1 (2 * p), sub_max_lt hlt2, max 1 (2 * p), rfl, places_turn hp1 hlt2, .inr (by lia), rfl, rfl⟩
      have hlt2 : ¬ p < mn := nnlt hlt2
      have hpl := places_end hp1 hlt2 hp2
      have hp16 : p ≤ 16 := by
        have := places_pow (m := mn) (by lia)
        rw [← hpl] at this; unfold Pow at this; lia
      have LeE := LeD.trans Le8
      have hD9 := LeE _ _ H.dict
      repeat tb_rel
      refine ev_list ?_
      repeat tb_rel
      refine ⟨by decide, fun e2 he2 => ?_⟩
      repeat tb_rel
      refine bo_mul_list (AH.set_self ..) (by simp) (by lia) (by lia) (by decide) fun e3 he3 => ?_
      rw [Int.toNat_natCast, flat_none]
      have LeF := (LeE.trans (Le.new (o := AO.list [.none]) he2)).trans (Le.new (o := AO.list ((List.replicate sz (none : Option Int)).map vo)) he3)
      refine bo_add_list (LeF _ _ H.row) (AH.set_self ..) (by simp; lia) fun rw5 hrw5 => ?_
      rw [← List.map_append]
      have LeG := LeF.trans (Le.new (o := AO.list ((L.row ++ List.replicate sz none).map vo)) hrw5)
      have hRW := AH.set_self ((σ8.set e2 (.list [.none])).set e3 (.list ((List.replicate sz (none : Option Int)).map vo))) rw5 (.list ((L.row ++ List.replicate sz none).map vo))
      have Lg : Le σ8 (((σ8.set e2 (.list [.none])).set e3 (.list ((List.replicate sz (none : Option Int)).map vo))).set rw5 (.list ((L.row ++ List.replicate sz none).map vo))) := ((Le.new he2).trans (Le.new he3)).trans (Le.new hrw5)
      generalize ((σ8.set e2 (.list [.none])).set e3 (.list ((List.replicate sz (none : Option Int)).map vo))).set rw5 (.list ((L.row ++ List.replicate sz none).map vo)) = σ10 at LeG hRW Lg ⊢
      have Lh := Le8.trans Lg
      have hHd10 := Lh _ _ hHd6
      have hSl10 := Lh _ _ hSl6
      have hHL10 := hHL6.tups Lh.tups
      have hD10 := LeG _ _ H.dict
      iterate 3 tb_rel
      refine ex_assign_tup (env' := envS _) ok hsc (by kernel_rfl) rfl rfl (by decide) ?_
      repeat tb_rel
      refine ev_upto (fun _ _ => ⟨_, rfl⟩) ?_
      repeat tb_rel
      refine ⟨rw5, _, _, rfl, rfl, by lia, hRW, by simp; lia, fun rN hrN => ?_⟩
      rw [Int.toNat_natCast, ← List.map_take]
      repeat tb_rel
      refine ev_list ?_
      repeat tb_rel
      refine ⟨by decide, fun e4 he4 => ?_⟩
      repeat tb_rel
      refine bo_mul_list (AH.set_self ..) (by simp) (by lia) (by lia) (by decide) fun kN hkN => ?_
      rw [Int.toNat_natCast, flat_none']
      repeat tb_rel
      refine ev_list ?_
      repeat tb_rel
      refine ⟨by decide, fun e5 he5 => ?_⟩
      repeat tb_rel
      refine bo_mul_list (AH.set_self ..) (by simp) (by lia) (by lia) (by decide) fun wN hwN => ?_
      rw [Int.toNat_natCast, flat_none]
      have L1 := Le.new (o := AO.list (((L.row ++ List.replicate sz none).take sz).map vo)) hrN
      have L2 := Le.new (o := AO.list [.none]) he4
      have L3 := Le.new (o := AO.list (List.replicate p .none)) hkN
      have L4 := Le.new (o := AO.list [.none]) he5
      have L5 := Le.new (o := AO.list ((List.replicate p (none : Option Int)).map vo)) hwN
      have hRN := (L2.trans (L3.trans (L4.trans L5))) _ _ (AH.set_self ..)
      have hKN := (L4.trans L5) _ _ (AH.set_self ..)
      have hWN := AH.set_self ((((σ10.set rN (.list (((L.row ++ List.replicate sz none).take sz).map vo))).set e4 (.list [.none])).set kN (.list (List.replicate p .none))).set e5 (.list [.none])) wN (.list ((List.replicate p (none : Option Int)).map vo))
      have fr : ∀ {τ : AH} {a : Addr}, Le σ τ → τ a = none → σ a = none := fun {τ a} hl ha => by
        cases e : σ a with
        | none => rfl
        | some o => rw [hl a o e] at ha; cases ha
      have frN := fr LeG hrN
      have fkN := fr (LeG.trans (L1.trans L2)) hkN
      have fwN := fr (LeG.trans (L1.trans (L2.trans (L3.trans L4)))) hwN
      have rkN : rN ≠ kN := fun e => by
        have := L2 _ _ (AH.set_self σ10 rN (.list (((L.row ++ List.replicate sz none).take sz).map vo)))
        subst e; rw [hkN] at this; cases this
      have rwN : rN ≠ wN := fun e => by
        have := (L2.trans (L3.trans L4)) _ _ (AH.set_self σ10 rN (.list (((L.row ++ List.replicate sz none).take sz).map vo)))
        subst e; rw [hwN] at this; cases this
      have kwN : kN ≠ wN := fun e => by
        have := L4 _ _ (AH.set_self ((σ10.set rN (.list (((L.row ++ List.replicate sz none).take sz).map vo))).set e4 (.list [.none])) kN (.list (List.replicate p .none)))
        subst e; rw [hwN] at this; cases this
      have LeH := L1.trans (L2.trans (L3.trans (L4.trans L5)))
      generalize ((((σ10.set rN (.list (((L.row ++ List.replicate sz none).take sz).map vo))).set e4 (.list [.none])).set kN (.list (List.replicate p .none))).set e5 (.list [.none])).set wN (.list ((List.replicate p (none : Option Int)).map vo)) = σ11 at LeH hRN hKN hWN ⊢
      have hD11 := LeH _ _ hD10
      repeat tb_rel
      refine ⟨rfl, ?_⟩
      repeat tb_rel
      simp only [AH.set_set]
      have hdr : d ≠ rN ∧ d ≠ kN ∧ d ≠ wN := ⟨fun e => (by rw [e, hRN] at hD11; cases hD11), fun e => (by rw [e, hKN] at hD11; cases hD11), fun e => (by rw [e, hWN] at hD11; cases hD11)⟩
      have H12 : LotAt (σ11.set d (.dict (lotF rN kN wN p))) d rN kN wN (List.replicate p .none) (fresh L k) := by
        have ef : fresh L k = blank ((L.row ++ List.replicate sz none).take sz) p := by unfold fresh; rw [← hszv, ← hmn, hpl]
        rw [ef]
        refine ⟨AH.set_self .., (AH.set_ne hdr.1.symm).trans hRN, (AH.set_ne hdr.2.1.symm).trans hKN, (AH.set_ne hdr.2.2.symm).trans hWN, fun i v e => ?_, by simp [blank], by simp [blank], rkN, rwN, kwN⟩
        rw [blank_k]
        rw [List.getElem?_replicate] at e
        show v = .none
        split at e
        · exact (Option.some.inj e).symm
        · cases e
      have K12 : Keep [d] σ (σ11.set d (.dict (lotF rN kN wN p))) := fun a o ha e => (AH.set_ne (by simpa using ha)).trans (LeH _ _ (LeG _ _ e))
      have Tp12 : Tups σ11 (σ11.set d (.dict (lotF rN kN wN p))) := fun a x y e => (AH.set_ne (fun q => by rw [q, hD11] at e; cases e)).trans e
      have hHL12 := (hHL10.tups LeH.tups).tups Tp12
      have nd : ∀ a l, σ11 a = some (.list l) → (σ11.set d (.dict (lotF rN kN wN p))) a = some (.list l) := fun a l e => (AH.set_ne (fun q => by rw [q, hD11] at e; cases e)).trans e
      have hHd12 := nd _ _ (LeH _ _ hHd10)
      have hSl12 := nd _ _ (LeH _ _ hSl10)
      have hRW12 := nd _ _ (LeH _ _ hRW)
      have dj : ∀ a l, σ10 a = some (.list l) → a ∉ [d, rN, kN, wN] := fun a l e hm => by
        have h10 : ∀ b, σ11 b ≠ none → b = a → True := fun _ _ _ => trivial
        rcases List.mem_cons.mp hm with q | hm
        · rw [q, hD10] at e; cases e
        · rcases List.mem_cons.mp hm with q | hm
          · rw [q, hrN] at e; cases e
          · rcases List.mem_cons.mp hm with q | hm
            · have := (L1.trans L2) _ _ e; rw [q, hkN] at this; cases this
            · rw [List.mem_singleton.mp hm] at e
              have := (L1.trans (L2.trans (L3.trans L4))) _ _ e; rw [hwN] at this; cases this
      have djH := dj _ _ hHd10
      have djS := dj _ _ hSl10
      have djR := dj _ _ hRW
      generalize σ11.set d (.dict (lotF rN kN wN p)) = σ12 at H12 K12 hHL12 hHd12 hSl12 hRW12 ⊢
      have F0 := items_fit (v := none) I hk hnew hr (by lia)
      have I0 := fresh_inv (k := k) I hl
      have hpp : places (manyL L k) = p := by rw [← hmn]; exact hpl.symm
      rw [hpp] at F0 I0
      have hM : puts (fresh L k) (itemsL L sz) = measured L k := by unfold measured; rw [hszv]
      rw [← hszv] at F0
      obtain ⟨slv, hslv⟩ : ∃ slv, slv = slotsL L.row := ⟨_, rfl⟩
      rw [← hslv] at hSl12
      have hslv2 : slv.length ≤ 11 := by rw [hslv]; exact hsl
      clear hHd10 hSl10 hHL10 hRW hD10 hD11 LeG LeH L1 L2 L3 L4 L5 hRN hKN hWN Lg Lh hHL6 hHd6 hSl6 hN6 hHL5 hX5 hP5 hHL hHd3 hSl hD3 hT3 hHd hD2 dj nd Tp12 hD hdr hD9
      refine ex_for_src ok (fun _ _ => rfl) (src_list rfl ?_)
      refine ev_comp ok hloc [Str.ofString "at"] [(Str.ofString "size", vi (sz : Nat))] [(Str.ofString "size", ccs)] (fun _ _ => rfl) ((closureFor_some (y := Str.ofString "size") (by decide +kernel) hccs).trans rfl) (by simp) (by decide +kernel) rfl (by decide +kernel) (by rw [relabel_S hsc]; decide +kernel) (fun x V hx => by rw [List.mem_singleton] at hx; cases hx; exact ⟨by simp, by rw [relabel_S hsc]; rfl, by rw [Env.kindOf, hsc]; rfl, by rw [hccs]; rfl⟩) (show ([Str.ofString "at", Str.ofString "size"] : List Str).Nodup by decide +kernel) ?_
      refine src_list rfl ?_
      repeat tb_rel
      refine ⟨slA, _, rfl, hSl12, fun c' hci => ?_⟩
      unfold tkList
      rw [List.map_map]
      refine ⟨by simp only [List.length_map]; lia, ?_⟩
      have ok' := hci.ok
      have hgc' : HK c'.gl := by rw [hci.gl]; exact hgc
      have hK' : KOK c' := hgc'
      have hne' := hci.ne
      have hsc' := hci.sc
      rw [relabel_S hsc] at hsc'
      have hkl_at : c'.env.kindOf (Str.ofString "at") = some .local := by rw [Env.kindOf, hsc']; rfl
      have hroom' : c'.room = 5 := by rw [hci.room]; exact hroom
      refine CT.inv (fun l acc μ' σ' => Xe2 fun (dn : List Nat) (o : Option Value) => Xa4 (dn ++ l = slv) (acc = (dn.filter fun n => decide (sz < n)).map (fun x : Nat => vi x)) (σ' = σ12) (μ' = [(Str.ofString "at", o), (Str.ofString "size", some (vi (sz : Nat)))]))
        ?_ ?_ slv [] _ σ12 ⟨[], none, rfl, rfl, rfl, rfl⟩
      rotate_left
      · rintro j l acc μ' σ' KK hI0 hKK
        refine hide fun S0 hS0 => ?_
        obtain ⟨dn, o, hdn, ea0, es0, eu0⟩ := hI0
        refine hS0 (at3 ea0 es0 eu0 ?_)
        clear hS0 S0
        refine ⟨hSl12, ?_⟩
        repeat tb_rel
        refine if_b (fun hb => ?_) (fun hb => ?_)
        · have hb : sz < j := nlt hb
          repeat tb_rel
          exact hKK _ _ _ ⟨dn ++ [j], _, (List.append_assoc ..).trans hdn, fm_pos (decide_eq_true hb), rfl, rfl⟩
        · have hb : ¬ (sz < j) := nnlt hb
          repeat tb_rel
          exact hKK _ _ _ ⟨dn ++ [j], _, (List.append_assoc ..).trans hdn, fm_neg (decide_eq_false hb), rfl, rfl⟩
      rintro acc μ' σ' hI0
      refine hide fun S0 hS0 => ?_
      obtain ⟨dn, o, hdn, ea0, es0, eu0⟩ := hI0
      refine hS0 (at3 ea0 es0 eu0 ?_)
      clear hS0 S0
      rw [List.append_nil] at hdn
      subst hdn
      refine ⟨hSl12, fun D hDn => ?_⟩
      have Le13 := Le.new (o := AO.list ((dn.filter fun n => decide (sz < n)).map (fun x : Nat => vi x))) hDn
      have hD13 := AH.set_self σ12 D (AO.list ((dn.filter fun n => decide (sz < n)).map (fun x : Nat => vi x)))
      generalize σ12.set D (AO.list ((dn.filter fun n => decide (sz < n)).map (fun x : Nat => vi x))) = σ13 at Le13 hD13 ⊢
      have H13 := H12.le Le13
      have hHL13 := hHL12.tups Le13.tups
      have hHd13 := Le13 _ _ hHd12
      have hRW13 := Le13 _ _ hRW12
      have djD := H12.out hDn
      have K13 : Keep [d] σ σ13 := fun a o ha e => Le13 _ _ (K12 a o ha e)
      have nt := H13.ntup
      clear hDn Le13 K12 H12 hHL12 hHd12 hRW12 hSl12
      refine ⟨D, _, rfl, hD13, ?_⟩
      unfold itemsL at F0 hM
      rw [← hslv] at F0 hM
      rw [List.append_assoc] at F0
      obtain ⟨lst, hlst⟩ : ∃ lst, lst = dn.filter fun n => decide (sz < n) := ⟨_, rfl⟩
      rw [← hlst] at hD13 F0 hM ⊢
      have hbnd : ∀ a ∈ lst, 1 ≤ a ∧ a ≤ L.row.length := fun a ha => by
        rw [hlst] at ha
        have := (List.mem_filter.mp ha).1
        rw [hslv] at this
        have := slots_mem.mp this
        exact ⟨this.1, this.2.1⟩
      rw [List.map_map]
      refine FT.inv (fun l μ' σ' => Xe4 fun (L1 : Lot) (ks1 : List Value) (nxt1 : List Int) (o1 : Option Value) => Xa8 (LotAt σ' d rN kN wN ks1 L1) (Inv p L1 nxt1) (Fit p L1 (l.map (fun (a : Nat) => (Key.i (a : Int), L.row.getD (a - 1) none)) ++ ((heldL L).reverse ++ [(k, none)]))) (L1.row.length ≤ 1000) (puts L1 (l.map (fun (a : Nat) => (Key.i (a : Int), L.row.getD (a - 1) none)) ++ (heldL L).reverse) = measured L k) (Keep [d, rN, kN, wN] σ13 σ') ((∀ a ∈ l, 1 ≤ a ∧ a ≤ L.row.length)) (μ' = [(Str.ofString "lot", some (Value.ref d)), (Str.ofString "tag", some (Value.ref T)), (Str.ofString "held", some (Value.ref hdA)), (Str.ofString "slots", some (Value.ref slA)), (Str.ofString "numbers", some (Value.ref nA)), (Str.ofString "many", some (vi (mn : Nat))), (Str.ofString "places", some (vi (p : Nat))), (Str.ofString "row", some (Value.ref rw5)), (Str.ofString "at", o1), (Str.ofString "key", none), (Str.ofString "value", none), (Str.ofString "size", some (vi (sz : Nat))), (Str.ofString "wide", some (vi (w : Nat)))]))
        ?_ ?_ lst _ σ13 ⟨_, _, _, none, H13, I0, F0, by rw [fresh_len]; lia, hM, fun a o _ e => e, hbnd, rfl⟩
      · rintro μ' σ14 hI0
        refine hide fun S0 hS0 => ?_
        obtain ⟨L1, ks1, nxt1, o1, H14, I14, F14, hr14, hM14, K14, _, eu0⟩ := hI0
        refine hS0 (at1 eu0 ?_)
        clear hS0 S0
        refine ⟨K14 D _ djD hD13, ?_⟩
        rw [List.map_nil, List.nil_append] at F14 hM14
        have hHL14 := hHL13.tups (K14.tups nt)
        have hHd14 := K14 _ _ djH hHd13
        repeat tb_rel
        refine ex_for_src ok (fun _ _ => rfl) (src_rev rfl ok rfl (fun _ => rfl) ?_)
        repeat tb_rel
        refine ⟨rfl, ?_⟩
        repeat tb_rel
        refine ⟨hdA, _, rfl, hHd14, ?_⟩
        unfold tkRev
        refine FT.inv (fun l μ' σ' => Xe3 fun (L1 : Lot) (ks1 : List Value) (nxt1 : List Int) => Xe3 fun (rs : List (Key × Option Int)) (o2 : Option Value) (o3 : Option Value) => Xa8 (HeldLs σ' l rs) (LotAt σ' d rN kN wN ks1 L1) (Inv p L1 nxt1) (Fit p L1 (rs ++ [(k, none)])) (L1.row.length ≤ 1000) (puts L1 rs = measured L k) (Keep [d, rN, kN, wN] σ13 σ') (μ' = [(Str.ofString "lot", some (Value.ref d)), (Str.ofString "tag", some (Value.ref T)), (Str.ofString "held", some (Value.ref hdA)), (Str.ofString "slots", some (Value.ref slA)), (Str.ofString "numbers", some (Value.ref nA)), (Str.ofString "many", some (vi (mn : Nat))), (Str.ofString "places", some (vi (p : Nat))), (Str.ofString "row", some (Value.ref rw5)), (Str.ofString "at", o1), (Str.ofString "key", o2), (Str.ofString "value", o3), (Str.ofString "size", some (vi (sz : Nat))), (Str.ofString "wide", some (vi (w : Nat)))]))
          ?_ ?_ hvs.reverse _ σ14 ⟨_, _, _, _, none, none, hHL14.rev, H14, I14, F14, hr14, hM14, K14, rfl⟩
        · rintro μ' σ15 hI0
          refine hide fun S0 hS0 => ?_
          obtain ⟨L2, ks2, nxt2, rs, o2, o3, hh, H15, I15, F15, hr15, hM15, K15, eu0⟩ := hI0
          refine hS0 (at1 eu0 ?_)
          clear hS0 S0
          refine ⟨K15 _ _ djH hHd13, ?_⟩
          cases hh
          repeat tb_rel
          have hM15 : L2 = measured L k := hM15
          refine h σ15 rN kN wN ks2 (hM15 ▸ H15) (fun a o ha e => K15 a o (fun hm => ?_) (K13 a o ha e)) frN fkN fwN
          rcases List.mem_cons.mp hm with q | hm
          · exact ha (q ▸ List.mem_singleton_self _)
          · rcases List.mem_cons.mp hm with q | hm
            · rw [q, frN] at e; cases e
            · rcases List.mem_cons.mp hm with q | hm
              · rw [q, fkN] at e; cases e
              · rw [List.mem_singleton.mp hm, fwN] at e; cases e
        · rintro hv l μ' σ15 KK hI0 hKK
          refine hide fun S0 hS0 => ?_
          obtain ⟨L2, ks2, nxt2, rs, o2, o3, hh, H15, I15, F15, hr15, hM15, K15, eu0⟩ := hI0
          refine hS0 (at1 eu0 ?_)
          clear hS0 S0
          refine ⟨K15 _ _ djH hHd13, ?_⟩
          cases hh with
          | @cons _ q _ qs hit hrest =>
          refine hide fun S0 hS0 => ?_
          obtain ⟨P, V, x, rfl, hw, hP, htag⟩ := hit
          refine hS0 ?_
          clear hS0 S0
          obtain ⟨Ta, rfl, hTa⟩ := htag
          obtain ⟨kk, kw⟩ := q
          dsimp only at hw hTa
          subst hw
          refine as_tup ok rfl hP rfl ?_
          repeat tb_rel
          refine ca_fcK 5 ok (by lia) (put_written_fc (k := kk) (v := some x) hgc H15 hTa I15 F15 hr15 fun σ16 ks16 nxt16 H16 I16 F16 K16 => ?_)
          repeat tb_rel
          exact hKK _ _ ⟨_, _, nxt16, qs, _, _, hrest.tups (K16.tups H15.ntup), H16, I16, F16, by rw [put_len]; exact hr15, hM15, K15.trans K16, rfl⟩
      · rintro j l μ' σ14 KK hI0 hKK
        refine hide fun S0 hS0 => ?_
        obtain ⟨L1, ks1, nxt1, o1, H14, I14, F14, hr14, hM14, K14, hb14, eu0⟩ := hI0
        refine hS0 (at1 eu0 ?_)
        clear hS0 S0
        refine ⟨K14 D _ djD hD13, ?_⟩
        have hRW14 := K14 _ _ djR hRW13
        have hj := hb14 j (.head _)
        have hb15 : ∀ a ∈ l, 1 ≤ a ∧ a ≤ L.row.length := fun a ha => hb14 a (.tail _ ha)
        repeat tb_rel
        refine ev_tuple ?_
        repeat tb_rel
        refine ⟨by simp, fun tq htq => ?_⟩
        have Le15 := Le.new (o := AO.tup [vi 1, vi (j : Nat)]) htq
        have hq15 := AH.set_self σ14 tq (AO.tup [vi 1, vi (j : Nat)])
        show EVs c _ _ (σ14.set tq (AO.tup [vi 1, vi (j : Nat)])) _
        generalize σ14.set tq (AO.tup [vi 1, vi (j : Nat)]) = σ15 at Le15 hq15 ⊢
        have H15 := H14.le Le15
        have hRW15 := Le15 _ _ hRW14
        repeat tb_rel
        rw [show ((j : Nat) : Int) - 1 = ((j - 1 : Nat) : Int) by lia]
        refine row_at hRW15 (by simp; lia) (by simp; lia) ?_
        have erow : (L.row ++ List.replicate sz (none : Option Int)).getD (j - 1) none = L.row.getD (j - 1) none := by
          rw [List.getD_eq_getElem?_getD, List.getElem?_append, if_pos (by lia), List.getD_eq_getElem?_getD]
        rw [erow]
        repeat tb_rel
        refine ca_fcK 5 ok (by lia) (put_written_fc (k := .i (j : Int)) hgc H15 hq15 I14 F14 hr14 fun σ16 ks16 nxt16 H16 I16 F16 K16 => ?_)
        repeat tb_rel
        exact hKK _ _ ⟨_, _, nxt16, _, H16, I16, F16, by rw [put_len]; exact hr14, hM14, K14.trans (Keep.trans (fun a o _ e => Le15 a o e) K16), hb15, rfl⟩
/-- a list of the lot's is a new one, or its own -/
noncomputable def FrL (σ : AH) (x x' : Addr) : Prop := σ x' = none ∨ x' = x
noncomputable abbrev PostL (σ : AH) (d rA kA wA : Addr) (L' : Lot) (Q : Value → AH → Prop) : Prop :=
  ∀ σ' rA' kA' wA' ks', LotAt σ' d rA' kA' wA' ks' L' → Keep [d, rA, kA, wA] σ σ' → FrL σ rA rA' → FrL σ kA kA' → FrL σ wA wA' → Q .none σ'
theorem law_written_all_fc {g : Gl} (hg : HK g) {σ : AH} {d rA kA wA T : Addr} {ks : List Value} {L L' : Lot} {k : Key} {v : Option Int} {nxt : List Int} {Q : Value → AH → Prop} (H : LotAt σ d rA kA wA ks L) (hT : σ T = some (.tup [vi k.code, k.tv])) (hk : k.ok)
    (I : Inv L.keys.length L nxt) (hl : live L ≤ 11) (hrl : L.row.length ≤ 16) (hW : Wr L k v L') (h : PostL σ d rA kA wA L' Q) : FC g 7 (.ref 455) [.ref d, .ref T, vo v] σ Q := by
  obtain ⟨rank, IF⟩ := I.F
  have hnl : L.keys.length ≤ 1000 := by have := I.np; unfold Pow at this; lia
  refine law_written_fc (n := 6) hg (by decide) H hT hk I.ok I.wk IF.fd hnl (by lia) I.uq (fun M W σ' ks' H' K' => ?_) (fun hin hno hp σ1 hle => ?_)
  · have e : M = L' := by
      cases W with
      | row hin => cases hW with
        | row _ => rfl
        | old h' _ => rw [hin] at h'; cases h'
        | new h' _ _ => rw [hin] at h'; cases h'
        | all h' _ _ => rw [hin] at h'; cases h'
      | @old i hin hi => cases hW with
        | row h' => rw [hin] at h'; cases h'
        | @old j _ hj => rw [I.uq i j k hi hj]
        | new _ h' _ => exact absurd hi (h' i)
        | all _ h' _ => exact absurd hi (h' i)
      | new hin hno hp => cases hW with
        | row h' => rw [hin] at h'; cases h'
        | @old j _ hj => exact absurd hj (hno j)
        | new _ _ h' => rw [hp] at h'; exact Option.some.inj h'
        | all _ _ h' => rw [hp] at h'; cases h'
    subst e
    exact h σ' rA kA wA ks' H' K' (.inr rfl) (.inr rfl) (.inr rfl)
  · have e : L' = put (measured L k) k v := by
      cases hW with
      | row h' => rw [hin] at h'; cases h'
      | @old j _ hj => exact absurd hj (hno j)
      | new _ _ h' => rw [hp] at h'; cases h'
      | all _ _ _ => rfl
    subst e
    refine hide fun S0 hS0 => ?_
    obtain ⟨⟨nxtM, m1⟩, m2, m3, m4⟩ := meas_ok (v := v) I hk hno hin hl hrl
    refine hS0 ?_
    clear hS0 S0
    have hsz := size_le (k := k) I hl
    have fr : ∀ {a}, σ1 a = none → σ a = none := fun {a} ha => by
      cases e : σ a with
      | none => rfl
      | some o => rw [hle a o e] at ha; cases ha
    refine law_measured_fc hg (H.le hle) (hle _ _ hT) hk I hno hin hl hrl fun σ2 rA' kA' wA' ks' H2 K2 fr2 fk2 fw2 => ?_
    have hTd : T ≠ d := fun q => by rw [q, H.dict] at hT; cases hT
    refine (put_written_fc hg H2 (K2 T _ (by simpa using hTd) (hle _ _ hT)) m1 m2 (by lia) fun σ3 ks3 nxt3 H3 I3 _ K3 => ?_).mono (by decide) fun _ _ q => q
    refine h σ3 rA' kA' wA' ks3 H3 (fun a o ha e => ?_) (.inl (fr fr2)) (.inl (fr fk2)) (.inl (fr fw2))
    have had : a ≠ d := fun q => ha (q ▸ .head _)
    have e1 := hle a o e
    refine K3 a o (fun hm => ?_) (K2 a o (by simpa using had) e1)
    rcases List.mem_cons.mp hm with q | hm
    · exact had q
    · rcases List.mem_cons.mp hm with q | hm
      · rw [q, fr2] at e1; cases e1
      · rcases List.mem_cons.mp hm with q | hm
        · rw [q, fk2] at e1; cases e1
        · rw [List.mem_singleton.mp hm, fw2] at e1; cases e1
noncomputable def isNone : Value → Bool
  | .none => true
  | _ => false
noncomputable def hvOf (n : Nat) : Option Key → Value
  | none => .none
  | some k => vi (homeI n k)
theorem law_in_order_fc {g : Gl} (hg : HK g) {σ : AH} {d rA kA wA : Addr} {ks : List Value} {L : Lot} {nxt : List Int} {Q : Value → AH → Prop} (H : LotAt σ d rA kA wA ks L) (I : Inv L.keys.length L nxt) (h : ∀ σ', Le σ σ' → Q (.bool true) σ') : FC g 3 (.ref 460) [.ref d] σ Q := by
  refine fc_defC (n := 2) (ds := []) [Str.ofString "lot"] [] [Str.ofString "keys", Str.ofString "homes"] (by rw [hg]; exact rfl) (by rw [hg]; kernel_rfl) (fun vals hv s _ => ?_) rfl (by decide +kernel) (by decide +kernel) (by decide +kernel) rfl rfl rfl (cells_two (by decide +kernel) fun _ => rfl) ?_
  · obtain ⟨a0, rfl⟩ := len1 hv; exact BindsTo.of_eq rfl
  intro c ok hgl hroom hsc hloc hcel
  have hcK : KOK c := by subst hgl; exact hg
  have hgc : HK c.gl := by rw [hgl]; exact hg
  simp only [startM, List.cons_append, List.nil_append, List.append_nil, List.map_nil, List.map_cons]
  have hD := H.dict
  have hlk := H.lk
  have hkl1 : ks.length ≤ 1000 := by have := I.np; unfold Pow at this; lia
  obtain ⟨rank, IF⟩ := I.F
  obtain ⟨cck, hcck⟩ := hcel (Str.ofString "keys") (by simp)
  obtain ⟨cch, hcch⟩ := hcel (Str.ofString "homes") (by simp)
  repeat tb_rel
  refine ev_from (fun _ _ => ⟨_, rfl⟩) ?_
  repeat tb_rel
  refine ⟨kA, _, _, rfl, rfl, by lia, H.keys, by lia, fun x hx => ?_⟩
  rw [Int.toNat_natCast]
  have Le1 := Le.new (o := AO.list (ks.drop L.found)) hx
  have hX1 := AH.set_self σ x (AO.list (ks.drop L.found))
  generalize σ.set x (.list (ks.drop L.found)) = σ1 at Le1 hX1 ⊢
  have H1 := H.le Le1
  have hsome : ∀ V ∈ ks.drop L.found, ∃ T kk, V = .ref T ∧ σ1 T = some (.tup [vi (Key.code kk), Key.tv kk]) := fun V hV => by
    obtain ⟨i, hi⟩ := List.getElem?_of_mem hV
    rw [List.getElem?_drop] at hi
    have hil := (List.getElem?_eq_some_iff.mp hi).1
    have ht := H1.tags _ V hi
    cases e : L.kA (L.found + i) with
    | none => exact absurd e (IF.up _ (by lia) (by lia))
    | some kk => rw [e] at ht; obtain ⟨T, e1, e2⟩ := ht; exact ⟨T, kk, e1, e2⟩
  refine co_in_list isNone ok (by lia) hX1 (fun V hV => ?_) ?_
  · refine hide fun S0 hS0 => ?_
    obtain ⟨T, kk, rfl, hTT⟩ := hsome V hV
    refine hS0 ?_
    clear hS0 S0
    exact eqv_tup_none hTT
  have hany : (ks.drop L.found).any isNone = false := by
    rw [List.any_eq_false]
    intro V hV
    refine hide fun S0 hS0 => ?_
    obtain ⟨T, kk, rfl, _⟩ := hsome V hV
    refine hS0 ?_
    clear hS0 S0
    exact fun h => by cases h
  rw [hany]
  repeat tb_rel
  refine ex_assignS (env' := envS _) rfl ok.ek hsc (by kernel_rfl) (by kernel_rfl) ?_
  refine ev_comp ok hloc [Str.ofString "tag"] [(Str.ofString "keys", .ref kA)] [(Str.ofString "keys", cck)] (fun _ _ => rfl) ((closureFor_some (y := Str.ofString "keys") (by decide +kernel) hcck).trans rfl) (by simp) (by decide +kernel) rfl (by decide +kernel) (by rw [relabel_S hsc]; decide +kernel) (fun x V hx => by rw [List.mem_singleton] at hx; cases hx; exact ⟨by simp, by rw [relabel_S hsc]; rfl, by rw [Env.kindOf, hsc]; rfl, by rw [hcck]; rfl⟩) (show ([Str.ofString "tag", Str.ofString "keys"] : List Str).Nodup by decide +kernel) ?_
  refine src_list rfl ?_
  repeat tb_rel
  refine ⟨kA, _, rfl, H1.keys, fun c' hci => ?_⟩
  refine ⟨by simp [tkList]; lia, ?_⟩
  have ok' := hci.ok
  have hgc' : HK c'.gl := by rw [hci.gl]; exact hgc
  have hK' : KOK c' := hgc'
  have hne' := hci.ne
  have hsc' := hci.sc
  rw [relabel_S hsc] at hsc'
  have hkl_tag : c'.env.kindOf (Str.ofString "tag") = some .local := by rw [Env.kindOf, hsc']; rfl
  have hroom' : c'.room = 2 := by rw [hci.room]; exact hroom
  refine CT.inv (fun l acc μ' σ' => Xe2 fun (i : Nat) (o : Option Value) => Xa5 (l = ks.drop i) (i ≤ ks.length) (acc = (List.range i).map (fun j => hvOf ks.length (L.kA j))) (σ' = σ1) (μ' = [(Str.ofString "tag", o), (Str.ofString "keys", some (.ref kA))]))
    ?_ ?_ ks [] _ σ1 ⟨0, none, rfl, Nat.zero_le _, rfl, rfl, rfl⟩
  rotate_left
  · rintro V l acc μ' σ' KK hI0 hKK
    refine hide fun S0 hS0 => ?_
    obtain ⟨i, o, hl, hi, ea0, es0, eu0⟩ := hI0
    refine hS0 (at3 ea0 es0 eu0 ?_)
    clear hS0 S0
    have hil : i < ks.length := by
      by_cases q : i < ks.length
      · exact q
      · rw [List.drop_of_length_le (by lia)] at hl; cases hl
    rw [List.drop_eq_getElem_cons hil] at hl
    injection hl with hV hl
    have hVi : ks[i]? = some V := by rw [List.getElem?_eq_getElem hil, hV]
    have htag := H1.tags i V hVi
    have hn0 : 0 < ks.length := by lia
    refine ⟨H1.keys, ?_⟩
    repeat tb_rel
    refine tag_is_none htag ?_
    repeat tb_rel
    have est : ∀ v, v = hvOf ks.length (L.kA i) → ∀ o, KK ((List.range i).map (fun j => hvOf ks.length (L.kA j)) ++ [v]) [(Str.ofString "tag", o), (Str.ofString "keys", some (.ref kA))] σ1 := fun v e o =>
      hKK _ _ _ ⟨i + 1, o, hl, by lia, by rw [List.range_succ, List.map_append, e]; rfl, rfl, rfl⟩
    cases hk : L.kA i with
    | none =>
      refine if_t rfl ?_
      repeat tb_rel
      exact est _ (by rw [hk]; rfl) _
    | some kk =>
      rw [hk] at htag
      obtain ⟨T, rfl, hTT⟩ := htag
      refine if_f rfl ?_
      repeat tb_rel
      refine ca_lenK H1.keys (by lia) ?_
      repeat tb_rel
      refine ca_fcK 2 ok' (by lia) (law_home_fc hgc' hTT hn0 (I.ok i kk hk) ?_)
      exact est _ (by rw [hk]; rfl) _
  rintro acc μ' σ' hI0
  refine hide fun S0 hS0 => ?_
  obtain ⟨i, o, hl, hi, ea0, es0, eu0⟩ := hI0
  refine hS0 (at3 ea0 es0 eu0 ?_)
  clear hS0 S0
  have hin : i = ks.length := by
    by_cases q : i < ks.length
    · rw [List.drop_eq_getElem_cons q] at hl; cases hl
    · lia
  subst hin
  refine ⟨H1.keys, fun hA hhA => ?_⟩
  obtain ⟨hs, hhs⟩ : ∃ hs, hs = (List.range ks.length).map (fun j => hvOf ks.length (L.kA j)) := ⟨_, rfl⟩
  rw [← hhs]
  have hsl : hs.length = ks.length := by rw [hhs]; simp
  have hget : ∀ j, j < ks.length → hs[j]? = some (hvOf ks.length (L.kA j)) := fun j hj => by rw [hhs, List.getElem?_map, List.getElem?_range hj]; rfl
  have Le2 := Le1.trans (Le.new (o := AO.list hs) hhA)
  have hS2 := AH.set_self σ1 hA (AO.list hs)
  generalize σ1.set hA (.list hs) = σ2 at Le2 hS2 ⊢
  repeat tb_rel
  refine ev_comp ok hloc [Str.ofString "home"] [(Str.ofString "homes", .ref hA)] [(Str.ofString "homes", cch)] (fun _ _ => rfl) ((closureFor_some (y := Str.ofString "homes") (by decide +kernel) hcch).trans rfl) (by simp) (by decide +kernel) rfl (by decide +kernel) (by rw [relabel_S hsc]; decide +kernel) (fun x V hx => by rw [List.mem_singleton] at hx; cases hx; exact ⟨by simp, by rw [relabel_S hsc]; rfl, by rw [Env.kindOf, hsc]; rfl, by rw [hcch]; rfl⟩) (show ([Str.ofString "home", Str.ofString "homes"] : List Str).Nodup by decide +kernel) ?_
  refine src_list rfl ?_
  repeat tb_rel
  refine ⟨hA, _, rfl, hS2, fun c' hci => ?_⟩
  refine ⟨by simp [tkList]; lia, ?_⟩
  have ok' := hci.ok
  have hgc' : HK c'.gl := by rw [hci.gl]; exact hgc
  have hK' : KOK c' := hgc'
  have hne' := hci.ne
  have hsc' := hci.sc
  rw [relabel_S hsc] at hsc'
  have hkl_home : c'.env.kindOf (Str.ofString "home") = some .local := by rw [Env.kindOf, hsc']; rfl
  have hroom' : c'.room = 2 := by rw [hci.room]; exact hroom
  refine CT.inv (fun l acc μ' σ' => Xe2 fun (i : Nat) (o : Option Value) => Xa4 (l = hs.drop i) (acc = []) (σ' = σ2) (μ' = [(Str.ofString "home", o), (Str.ofString "homes", some (.ref hA))]))
    ?_ ?_ hs [] _ σ2 ⟨0, none, rfl, rfl, rfl, rfl⟩
  rotate_left
  · rintro V l acc μ' σ' KK hI0 hKK
    refine hide fun S0 hS0 => ?_
    obtain ⟨i, o, hl, ea0, es0, eu0⟩ := hI0
    refine hS0 (at3 ea0 es0 eu0 ?_)
    clear hS0 S0
    have hil : i < hs.length := by
      by_cases q : i < hs.length
      · exact q
      · rw [List.drop_of_length_le (by lia)] at hl; cases hl
    rw [List.drop_eq_getElem_cons hil] at hl
    injection hl with hV hl
    have hVi := hget i (by lia)
    rw [List.getElem?_eq_getElem hil, ← hV] at hVi
    have hVi := Option.some.inj hVi
    have est : ∀ o, KK [] [(Str.ofString "home", o), (Str.ofString "homes", some (.ref hA))] σ2 := fun o => hKK _ _ _ ⟨i + 1, o, hl, rfl, rfl, rfl⟩
    refine ⟨hS2, ?_⟩
    rw [hVi]
    repeat tb_rel
    cases hk : L.kA i with
    | none =>
      show CO c' .IsNot .none .none σ2 _
      repeat tb_rel
      exact est _
    | some kk =>
      have hn0 : 0 < ks.length := by lia
      have ehv : hvOf ks.length (some kk) = vi (hN ks.length kk : Nat) := by rw [← hN_eq hn0 kk]; rfl
      have hh2 := hN_lt hn0 kk
      rw [ehv]
      refine co_isNot ?_
      repeat tb_rel
      obtain ⟨k', hk1, hk2⟩ := IF.hm i kk hk
      rw [hlk] at hk1 hk2
      refine ⟨⟨_, .list hS2⟩, gi_list (V := vi (hN ks.length kk : Nat)) hS2 (by lia) (by lia) (by
        rw [Int.toNat_natCast, hget _ hh2, hk1]
        show some (vi (homeI ks.length k')) = _
        rw [hN_eq hn0 k', hk2]) ?_⟩
      repeat tb_rel
      refine if_f (by simp) ?_
      repeat tb_rel
      exact est _
  rintro acc μ' σ' hI0
  refine hide fun S0 hS0 => ?_
  obtain ⟨i, o, _, ea0, es0, eu0⟩ := hI0
  refine hS0 (at3 ea0 es0 eu0 ?_)
  clear hS0 S0
  refine ⟨hS2, fun D hD => ?_⟩
  refine ev_list ?_
  repeat tb_rel
  refine ⟨by decide, fun e he => ?_⟩
  have hDe : D ≠ e := fun q => by rw [← q, AH.set_self] at he; cases he
  refine co_eq_nil ok (by lia) (AH.set_at hDe (AH.set_self ..)) (AH.set_self ..) ?_
  repeat tb_rel
  exact h _ ((Le2.trans (Le.new hD)).trans (Le.new he))
theorem law_enter {prog : Program} {w : World} {p : Program} {loose : List Str} {mean : ExcName → Option Value} {mg mb : Str → Option Value} {s : Shared} {h₁ : Heap} {env : Env} {body : List Stmt} {a : Addr} {m : Str → Option Value} (rs : List Str) {tk : Nat} {Q : Flow → Shared → Prop} {E : Value → Shared → Prop}
    (KX : (frag w.params).In s.heap) (T : Top p loose mean mg mb s.heap) (F : Fr s.heap s.heap.objs.size h₁ m) (N0 : News s.heap s.heap.objs.size h₁ [])
    (hm : m (Str.ofString "script") = some (.ref a)) (hfr : env.frame = some s.heap.objs.size) (hl : env.locals = s.heap.objs.size) (hk : env.scope.kind = .function) (heg : env.globals = mainGlobals) (heb : env.builtins = builtinsNs) (hc : env.cells = [])
    (hnd : (Str.ofString "script" :: rs).Nodup) (hloc : ∀ x ∈ Str.ofString "script" :: rs, env.scope.names.lookup x = some .local)
    (h : ∀ c : Cx, c.OK → HK c.gl → c.room = 12 → c.env.scope = env.scope → c.Fn → c.h₀ = s.heap → EXs c body ((Str.ofString "script", some (.ref a)) :: rs.map fun x => (x, none)) (fun _ => none) fun f _ _ => f = .ret (.bool true))
    (hq : ∀ h' tk', (∀ b o, s.heap.get? b = some o → h'.get? b = some o) → Q (.ret (.bool true)) ⟨h', s.gens, s.drawn, tk', s.os⟩) :
    wpAny (model prog w) (callerA.deeper env) (execs body env) Q E { s with heap := h₁, toks := tk } := by
  let c : Cx := { prog := prog, w := w, K := frag w.params, p := p, loose := loose, mean := mean, mg := mg, mb := mb, A := callerA.deeper env, env := env, fn := env, L := s.heap.objs.size, h₀ := s.heap, base := s.heap, A₀ := callerA, outer := [], room := 12, gens := s.gens, drawn := s.drawn, os := s.os, fz := [], fm := none }
  have ok : c.OK := by
    refine ⟨KX, T, below_caller _, Around.frames_deeper rfl, hfr, hk, hk, heg, heb, by show List.Pairwise _ env.cells; rw [hc]; exact .nil, rfl, ?_, ?_⟩
    · show callerA.depth + 1 + 12 < recursionLimit
      decide +kernel
    · show callerA.units + 3 + 8 * 12 < cLine
      decide +kernel
  have S : Sta c [] ((Str.ofString "script", some (.ref a)) :: rs.map fun x => (x, none)) (fun _ => none) { s with heap := h₁, toks := tk } := by
    refine ⟨m, m, [], fun x => x, [], ⟨F, N0, ⟨fun a o e => (by cases e), fun a C fs e => (by cases e), fun a C fs a' C' fs' e => (by cases e)⟩, fun p hp => (by cases hp), fun p hp => (by cases hp), .inl ⟨hl, rfl⟩, ⟨?_, fun x oV hx => ?_⟩, rfl, rfl, rfl, fun p hp => (by cases hp), fun p hp => (by cases hp), fun f e => (by cases e)⟩⟩
    · rw [List.map_cons, List.map_map]
      show (Str.ofString "script" :: rs.map id).Nodup
      rw [List.map_id]; exact hnd
    · refine .inl ⟨?_, fun V e => ?_⟩
      · refine hloc x ?_
        rcases List.mem_cons.mp hx with e | hx
        · cases e; exact .head _
        · obtain ⟨y, hy, e⟩ := List.mem_map.mp hx
          cases e; exact .tail _ hy
      · subst e
        rcases List.mem_cons.mp hx with e | hx
        · cases e; exact ⟨.ref a, hm, rfl⟩
        · obtain ⟨y, hy, e⟩ := List.mem_map.mp hx; cases e
  refine h c ok rfl rfl rfl ⟨hl, rfl, rfl⟩ rfl [] _ E Q S fun f μ' σ' s' hf S' => ?_
  have ef : f = .ret (.bool true) := by
    cases f with
    | ret v =>
      have hf : Flow.ret (er v) = .ret (.bool true) := hf
      injection hf with hf
      rw [er_bool hf]
    | next => cases hf
    | brk => cases hf
    | cont => cases hf
  subst ef
  refine Sta.el S' fun m' ml' news' δ' prot' W => ?_
  obtain ⟨hh, gg, dd, tt, oo⟩ := s'
  have e1 : gg = s.gens := W.g
  have e2 : dd = s.drawn := W.d
  have e3 : oo = s.os := W.o
  subst e1; subst e2; subst e3
  exact hq _ _ W.F.keep
/-- a part of a list that stood there before -/
theorem ev_upto_base {c : Cx} {μ : AM} {σ : AH} {Q : Value → AH → Prop} {upper : Expr} {p p' pos : Pos} {x : Str} {a : Addr} {vs : List Value} {n : Int} (ok : c.OK) (hs : slicesByName (.Slice none (some upper) none p)) (hL : c.h₀.IsList a vs.toArray) (hsz : vs.length ≤ 100000)
    (hx : (x, some (.ref a)) ∈ μ) (h0 : 0 ≤ n) (hu : ∀ (R : Value → AH → Prop), R (vi n) σ → EV c upper μ σ R) (hq : ∀ y, σ y = none → Q (.ref y) (σ.set y (.list ((vs.take n.toNat).map er)))) (hd : (x == ("__debug__" : Str)) = false := by decide) : EV c (.Subscript (.Name x p') (.Slice none (some upper) none p) pos) μ σ Q := by
  intro Φ s E Q' S k
  refine Subscript_ (ev_local ok hx (Q := fun V σ1 => V = .ref a ∧ σ1 = σ) ⟨rfl, rfl⟩ hd Φ s E _ S fun o σ1 s1 h1 S1 => wpAny_Slice ?_)
  obtain ⟨eo, rfl⟩ := h1
  rw [evalPart_none, evalPart_some]
  refine wpAny_pure (hu (fun I σ2 => I = vi n ∧ σ2 = σ1) ⟨rfl, rfl⟩ Φ s1 E _ S1 fun i σ2 s2 h2 S2 => ?_)
  obtain ⟨ei, rfl⟩ := h2
  obtain ⟨t, rfl⟩ := er_int ei
  refine wpAny_pure ?_
  rw [er_ref eo]
  have S3 := S2.keep (h' := s2.heap.push { cls := .type "slice", data := .fields #[.none, .int n t, .none] }) (tk := s2.toks) fun b o e => Heap.get?_push_of_some _ e
  have hsl : (s2.heap.push { cls := .type "slice", data := .fields #[.none, .int n t, .none] }).IsSliceOf s2.heap.objs.size .none (.int n t) .none := Heap.IsSliceOf.new ..
  generalize (s2.heap.push { cls := .type "slice", data := .fields #[.none, .int n t, .none] }) = h1 at S3 hsl ⊢
  refine Sta.el S3 fun m ml news δ prot W => ?_
  have hl : h1.IsList a vs.toArray := hL.at fun o e => W.F.keep a o e
  obtain ⟨ops, ho⟩ := hs (.ref a) (.ref s2.heap.objs.size)
  refine tail_any hl.typeIs slot_list_getitem.lookup (wpAny_getItem_list_slice hl hsl .none (.int n t) .none (by simp) ?_ (by
    rw [sizeLine_eq]; simp; lia)) ho
  have hn : h1.get? h1.objs.size = none := Heap.get?_none_of_le (Nat.le_refl _)
  refine k _ _ _ (hq _ (S3.fresh hn)) (S3.alloc (tk := s2.toks) (fun b o e => Heap.get?_push_of_some _ e) hn (Heap.get?_push_size _ rfl) ⟨_, _, .head _, ?_⟩ (fun _ _ e => nomatch e))
  have := pick_upto vs.toArray n.toNat
  rw [show ((n.toNat : Nat) : Int) = n by lia] at this
  rw [this]
theorem ints_er : ∀ {vs : List Value} {ns : List Int}, IntsAre vs ns → vs.map er = ns.map vi
  | _, _, h => by
    induction h with
    | nil => rfl
    | cons n t _ ih => rw [List.map_cons, ih]; rfl
theorem dp_cons {c : Cx} {v : Expr} {vs : List Expr} {μ : AM} {σ : AH} {Q : List Value → AH → Prop} (h : EV c v μ σ fun V σ1 => DP c vs μ σ1 fun Vs σ2 => Q (V :: Vs) σ2) : DP c (v :: vs) μ σ Q := h
theorem dp_nil {c : Cx} {μ : AM} {σ : AH} {Q : List Value → AH → Prop} (h : Q [] σ) : DP c [] μ σ Q := h
theorem dealt_nat (cs : List Int) (t : Nat) {many : Int} (h : 1 ≤ many) : ∃ r : Nat, dealt cs t many = r ∧ (r : Int) < many := by
  have := fmod_range (if t ≤ cs.length then cs.getD (t - 1) 0 else (t : Int) * t + (t : Int).fdiv 2 + 2) (b := many) (by lia)
  refine ⟨(dealt cs t many).toNat, ?_, ?_⟩
  · have h1 : 0 ≤ dealt cs t many := this.1
    lia
  · have h1 : 0 ≤ dealt cs t many := this.1
    have h2 : dealt cs t many < many := this.2
    lia
theorem clog_vals : clog 1 = 0 ∧ clog 2 = 1 ∧ clog 3 = 2 ∧ clog 4 = 2 ∧ clog 5 = 3 := by
  refine ⟨?_, ?_, ?_, ?_, ?_⟩ <;> (unfold clog; simp only [Nat.reduceSub])
  · rw [lg2_zero]
  · rw [lg2_pos (by decide), show 1 / 2 = 0 from rfl, lg2_zero]
  · rw [lg2_pos (by decide), show 2 / 2 = 1 from rfl, lg2_pos (by decide), show 1 / 2 = 0 from rfl, lg2_zero]
  · rw [lg2_pos (by decide), show 3 / 2 = 1 from rfl, lg2_pos (by decide), show 1 / 2 = 0 from rfl, lg2_zero]
  · rw [lg2_pos (by decide), show 4 / 2 = 2 from rfl, lg2_pos (by decide), show 2 / 2 = 1 from rfl, lg2_pos (by decide), show 1 / 2 = 0 from rfl, lg2_zero]
theorem pl6 {r : Nat} (h : r < 6) : ([0, 1, 2, 4, 4, 8] : List Nat)[r]? = some (places r) := by
  obtain ⟨c1, c2, c3, c4, c5⟩ := clog_vals
  have : r = 0 ∨ r = 1 ∨ r = 2 ∨ r = 3 ∨ r = 4 ∨ r = 5 := by lia
  unfold places
  rcases this with rfl | rfl | rfl | rfl | rfl | rfl <;> simp [c1, c2, c3, c4, c5]
noncomputable def okB : Key → Bool
  | .b _ => true
  | .i n => decide (-1000 ≤ n) && decide (n ≤ 1000)
  | .y s => decide (s.length ≤ 8)
theorem okB_ok {k : Key} (h : okB k = true) : k.ok := by
  cases k with
  | b x => trivial
  | i n => exact ⟨(of_decide_eq_true (Bool.and_eq_true_iff.mp h).1 : -1000 ≤ n), (of_decide_eq_true (Bool.and_eq_true_iff.mp h).2 : n ≤ 1000)⟩
  | y s => exact (of_decide_eq_true h : s.length ≤ 8)
theorem keyOf_ck : (List.range 36).all (fun n => okB (keyOf n)) = true := by kernel_rfl
theorem keyOf_ok {n : Nat} (h : n < 36) : (keyOf n).ok := okB_ok (List.all_eq_true.mp keyOf_ck n (List.mem_range.mpr h))
theorem TabAt.keep {F : List Addr} {σ σ' : AH} {t A N : Addr} {nd : List Addr} {L : Lot} {nxt : List Int} {sz lg : Int} (H : TabAt σ t A N nd L nxt sz lg) (K : Keep F σ σ') (h : ∀ a ∈ F, a ≠ t ∧ a ≠ A ∧ a ≠ N ∧ a ∉ nd) : TabAt σ' t A N nd L nxt sz lg :=
  ⟨K _ _ (fun hm => (h _ hm).1 rfl) H.inst, K _ _ (fun hm => (h _ hm).2.1 rfl) H.arr, K _ _ (fun hm => (h _ hm).2.2.1 rfl) H.nod, fun i a e => K _ _ (fun hm => (h _ hm).2.2.2 (List.mem_of_getElem? e)) (H.node i a e), H.lk, H.lw, H.ln, H.nodup, H.aN⟩
theorem LotAt.keep {F : List Addr} {σ σ' : AH} {d rA kA wA : Addr} {ks : List Value} {L : Lot} (H : LotAt σ d rA kA wA ks L) (K : Keep F σ σ') (hF : ∀ a ∈ F, ∀ x y, σ a ≠ some (.tup [x, y])) (h : ∀ a ∈ F, a ≠ d ∧ a ≠ rA ∧ a ≠ kA ∧ a ≠ wA) : LotAt σ' d rA kA wA ks L :=
  ⟨K _ _ (fun hm => (h _ hm).1 rfl) H.dict, K _ _ (fun hm => (h _ hm).2.1 rfl) H.row, K _ _ (fun hm => (h _ hm).2.2.1 rfl) H.keys, K _ _ (fun hm => (h _ hm).2.2.2 rfl) H.worth, fun i v e => (H.tags i v e).tups (K.tups hF), H.lk, H.lw, H.rk, H.rw', H.kw⟩
theorem eqv_tags {σ : AH} {V W : Value} {o : Option Key} (h : TagAt σ V o) (h' : TagAt σ W o) : EqV σ V W true := by
  cases o with
  | none => rw [show V = .none from h, show W = .none from h']; exact eqs_none.v
  | some k =>
    obtain ⟨A, rfl, hA⟩ := h
    obtain ⟨B, rfl, hB⟩ := h'
    have := eqv_tag hA hB
    rwa [decide_eq_true rfl] at this
/-- where the law stands between two steps: the hand, the table (with the lot L), the lot told beside it (M) -/
structure Run (σ : AH) (D C d t A N rA kA wA : Addr) (nd : List Addr) (ks : List Value) (cs : List Int) (turn : Nat) (L M : Lot) (nxt : List Int) (sz lg : Int) : Prop where
  hand : σ D = some (.dict (handF C turn))
  cards : σ C = some (.list (cs.map vi))
  tab : TabAt σ t A N nd L nxt sz lg
  inv : Inv nd.length L nxt
  lot : LotAt σ d rA kA wA ks M
  dD : D ≠ d
  sC : C ≠ A ∧ C ≠ N ∧ C ≠ rA ∧ C ≠ kA ∧ C ≠ wA
  sA : A ≠ rA ∧ A ≠ kA ∧ A ≠ wA
  sN : N ≠ rA ∧ N ≠ kA ∧ N ≠ wA
section
variable {σ σ' : AH} {D C d t A N rA kA wA A' N' rA' kA' wA' : Addr} {nd nd' : List Addr} {ks ks' : List Value} {cs : List Int} {turn turn' : Nat} {L M L' M' : Lot} {nxt nxt' : List Int} {sz lg sz' lg' : Int}
theorem ne_of_some {σ : AH} {a b : Addr} {x y : AO} (ha : σ a = some x) (hb : σ b = some y) (h : x ≠ y) : a ≠ b := fun e => by
  rw [e, hb] at ha; exact h (Option.some.inj ha).symm
theorem Run.le (R : Run σ D C d t A N rA kA wA nd ks cs turn L M nxt sz lg) (h : Le σ σ') : Run σ' D C d t A N rA kA wA nd ks cs turn L M nxt sz lg :=
  ⟨h _ _ R.hand, h _ _ R.cards, R.tab.le h, R.inv, R.lot.le h, R.dD, R.sC, R.sA, R.sN⟩
theorem Run.turned (R : Run σ D C d t A N rA kA wA nd ks cs turn L M nxt sz lg) : Run (σ.set D (.dict (handF C (turn' : Nat)))) D C d t A N rA kA wA nd ks cs turn' L M nxt sz lg := by
  have K : Keep [D] σ (σ.set D (.dict (handF C (turn' : Nat)))) := (Same.set (.head _)).keep
  have one : ∀ {a o}, σ a = some o → (∀ fs, o ≠ .dict fs) → a ≠ D := fun {a o} e h q => by rw [q, R.hand] at e; exact h _ (Option.some.inj e).symm
  refine ⟨AH.set_self .., (AH.set_ne (one R.cards fun _ => nofun)).trans R.cards, R.tab.keep K fun a ha => ?_, R.inv, R.lot.keep K (fun a ha x y e => ?_) fun a ha => ?_, R.dD, R.sC, R.sA, R.sN⟩
  · rw [List.mem_singleton.mp ha]
    refine ⟨(one R.tab.inst fun _ => nofun).symm, (one R.tab.arr fun _ => nofun).symm, (one R.tab.nod fun _ => nofun).symm, fun hm => ?_⟩
    obtain ⟨i, hi⟩ := List.getElem?_of_mem hm
    exact one (R.tab.node i D hi) (fun _ => nofun) rfl
  · rw [List.mem_singleton.mp ha, R.hand] at e; cases e
  · rw [List.mem_singleton.mp ha]
    exact ⟨R.dD, (one R.lot.row fun _ => nofun).symm, (one R.lot.keys fun _ => nofun).symm, (one R.lot.worth fun _ => nofun).symm⟩
theorem Run.afterSet (R : Run σ D C d t A N rA kA wA nd ks cs turn L M nxt sz lg) (H : TabAt σ' t A' N' nd' L' nxt' sz' lg') (I : Inv nd'.length L' nxt') (K : Keep (t :: A :: nd) σ σ') (F : Frs σ A N nd A' N' nd') :
    Run σ' D C d t A' N' rA kA wA nd' ks cs turn L' M nxt' sz' lg' := by
  have nod : ∀ a ∈ nd, ∃ k v x, σ a = some (.inst 177 (nodeF k v x)) := fun a hm => by
    obtain ⟨i, hi⟩ := List.getElem?_of_mem hm
    exact ⟨_, _, _, R.tab.node i a hi⟩
  have out : ∀ {a o}, σ a = some o → (∀ C fs, o ≠ .inst C fs) → a ≠ A → a ∉ t :: A :: nd := fun {a o} e h hA hm => by
    rcases List.mem_cons.mp hm with q | hm
    · rw [q, R.tab.inst] at e; exact h _ _ (Option.some.inj e).symm
    · rcases List.mem_cons.mp hm with q | hm
      · exact hA q
      · obtain ⟨_, _, _, hn⟩ := nod a hm
        rw [hn] at e; exact h _ _ (Option.some.inj e).symm
  have hdA : d ≠ A := ne_of_some R.lot.dict R.tab.arr nofun
  have hDA : D ≠ A := ne_of_some R.hand R.tab.arr nofun
  have a' : ∀ {a o}, σ a = some o → a ≠ A → a ≠ A' := fun {a o} e h q => by
    rcases F.a with f | f
    · rw [q, f] at e; cases e
    · exact h (q.trans f)
  have n' : ∀ {a o}, σ a = some o → a ≠ N → a ≠ N' := fun {a o} e h q => by
    rcases F.n with f | f
    · rw [q, f] at e; cases e
    · exact h (q.trans f)
  refine ⟨K _ _ (out R.hand (fun _ _ => nofun) hDA) R.hand, K _ _ (out R.cards (fun _ _ => nofun) R.sC.1) R.cards, H, I, R.lot.keep K (fun a hm x y e => ?_) (fun a hm => ?_), R.dD, ⟨a' R.cards R.sC.1, n' R.cards R.sC.2.1, R.sC.2.2⟩,
    ⟨(a' R.lot.row R.sA.1.symm).symm, (a' R.lot.keys R.sA.2.1.symm).symm, (a' R.lot.worth R.sA.2.2.symm).symm⟩, ⟨(n' R.lot.row R.sN.1.symm).symm, (n' R.lot.keys R.sN.2.1.symm).symm, (n' R.lot.worth R.sN.2.2.symm).symm⟩⟩
  · rcases List.mem_cons.mp hm with q | hm
    · rw [q, R.tab.inst] at e; cases e
    · rcases List.mem_cons.mp hm with q | hm
      · rw [q, R.tab.arr] at e; cases e
      · obtain ⟨_, _, _, hn⟩ := nod a hm
        rw [hn] at e; cases e
  · have o1 := out R.lot.dict (fun _ _ => nofun) hdA
    have o2 := out R.lot.row (fun _ _ => nofun) R.sA.1.symm
    have o3 := out R.lot.keys (fun _ _ => nofun) R.sA.2.1.symm
    have o4 := out R.lot.worth (fun _ _ => nofun) R.sA.2.2.symm
    exact ⟨fun q => o1 (q ▸ hm), fun q => o2 (q ▸ hm), fun q => o3 (q ▸ hm), fun q => o4 (q ▸ hm)⟩
theorem Run.afterWritten (R : Run σ D C d t A N rA kA wA nd ks cs turn L M nxt sz lg) (H : LotAt σ' d rA' kA' wA' ks' M') (K : Keep [d, rA, kA, wA] σ σ') (f1 : FrL σ rA rA') (f2 : FrL σ kA kA') (f3 : FrL σ wA wA') :
    Run σ' D C d t A N rA' kA' wA' nd ks' cs turn L M' nxt sz lg := by
  have mem : ∀ {a}, a ∈ [d, rA, kA, wA] → a = d ∨ a = rA ∨ a = kA ∨ a = wA := fun {a} hm => by simpa using hm
  have fr : ∀ {x x' a o}, FrL σ x x' → σ a = some o → a ≠ x → a ≠ x' := fun {x x' a o} f e h q => by
    rcases f with f | f
    · rw [q, f] at e; cases e
    · exact h (q.trans f)
  have ins : ∀ {a C fs}, σ a = some (.inst C fs) → ∀ b ∈ [d, rA, kA, wA], b ≠ a := fun {a C fs} e b hm q => by
    rcases mem hm with h | h | h | h
    · rw [← q, h, R.lot.dict] at e; cases e
    · rw [← q, h, R.lot.row] at e; cases e
    · rw [← q, h, R.lot.keys] at e; cases e
    · rw [← q, h, R.lot.worth] at e; cases e
  refine ⟨K _ _ (fun hm => ?_) R.hand, K _ _ (fun hm => ?_) R.cards, R.tab.keep K fun a hm => ⟨ins R.tab.inst a hm, fun q => ?_, fun q => ?_, fun hn => ?_⟩, R.inv, H, R.dD, ⟨R.sC.1, R.sC.2.1, fr f1 R.cards R.sC.2.2.1, fr f2 R.cards R.sC.2.2.2.1, fr f3 R.cards R.sC.2.2.2.2⟩,
    ⟨fr f1 R.tab.arr R.sA.1, fr f2 R.tab.arr R.sA.2.1, fr f3 R.tab.arr R.sA.2.2⟩, ⟨fr f1 R.tab.nod R.sN.1, fr f2 R.tab.nod R.sN.2.1, fr f3 R.tab.nod R.sN.2.2⟩⟩
  · rcases mem hm with h | h | h | h
    · exact R.dD h
    · exact ne_of_some R.hand R.lot.row nofun h
    · exact ne_of_some R.hand R.lot.keys nofun h
    · exact ne_of_some R.hand R.lot.worth nofun h
  · rcases mem hm with h | h | h | h
    · exact ne_of_some R.cards R.lot.dict nofun h
    · exact R.sC.2.2.1 h
    · exact R.sC.2.2.2.1 h
    · exact R.sC.2.2.2.2 h
  · rcases mem hm with h | h | h | h
    · exact ne_of_some R.tab.arr R.lot.dict nofun (q.symm.trans h)
    · exact R.sA.1 (q.symm.trans h)
    · exact R.sA.2.1 (q.symm.trans h)
    · exact R.sA.2.2 (q.symm.trans h)
  · rcases mem hm with h | h | h | h
    · exact ne_of_some R.tab.nod R.lot.dict nofun (q.symm.trans h)
    · exact R.sN.1 (q.symm.trans h)
    · exact R.sN.2.1 (q.symm.trans h)
    · exact R.sN.2.2 (q.symm.trans h)
  · obtain ⟨i, hi⟩ := List.getElem?_of_mem hn
    exact ins (R.tab.node i a hi) a hm rfl
end
theorem tkList_range {N : Addr} {t : Expr} {c : Cx} (nd : List Addr) : tkList N (nd.map .ref) t c = (List.range nd.length).map fun (i : Nat) μ σ R => σ N = some (.list (nd.map .ref)) ∧ AS c t (.ref (nd.getD i 0)) μ σ R := by
  unfold tkList
  conv => lhs; arg 2; rw [as_range nd 0]
  rw [List.map_map, List.map_map]
  rfl
theorem all_true (n : Nat) : (List.range n).all (fun _ => true) = true := by simp
theorem eqv_same {σ : AH} {l : List (Option Int)} : ∀ (j : Nat) (V W : Value), (l.map vo)[j]? = some V → (l.map vo)[j]? = some W → EqV σ V W true := fun j V W h1 h2 => by
  rw [h1] at h2
  cases h2
  rw [List.getElem?_map] at h1
  obtain ⟨x, hx, rfl⟩ := Option.map_eq_some_iff.mp h1
  have := (eqs_vo (x := x) (y := x)).v (σ := σ)
  simpa using this
local macro_rules | `(tactic| tb_rel) => `(tactic| with_reducible first | refine ass_cons ?_ | refine ass_nil ?_ | refine dp_cons ?_ | refine dp_nil ?_)
noncomputable def fnBody (o : Obj) : List Stmt := match o.data with
  | .func f => (match f.body with | .stmts b => b | _ => [])
  | _ => []
noncomputable def fnScope (o : Obj) : Scope := match o.data with
  | .func f => f.scope
  | _ => default
theorem exs_lit {c : Cx} {b b' : List Stmt} {μ : AM} {σ : AH} {Q : Flow → AM → AH → Prop} (e : b = b') (h : EXs c b' μ σ Q) : EXs c b μ σ Q := e ▸ h
theorem law_walk {c : Cx} {sa : Addr} {vs : List Value} {ns : List Int} (ok : c.OK) (hgc : HK c.gl) (hroom : c.room = 12) (hsc : c.env.scope = fnScope f465.1) (hloc : c.Fn) (hL : c.h₀.IsList sa vs.toArray) (hI : IntsAre vs ns) (hns : ns.length ≤ 63) :
    EXs c (fnBody f465.1) ((Str.ofString "script", some (.ref sa)) :: [Str.ofString "hand", Str.ofString "room", Str.ofString "deeds", Str.ofString "t", Str.ofString "places", Str.ofString "lot", Str.ofString "deed", Str.ofString "one", Str.ofString "value"].map fun x => (x, none)) (fun _ => none) fun f _ _ => f = .ret (.bool true) := by
  refine exs_lit (by conv => lhs; whnf) ?_
  have hcK : KOK c := hgc
  simp only [List.map_cons, List.map_nil]
  have hvl : vs.length = ns.length := by have := congrArg List.length (ints_er hI); simpa using this
  refine exs_cons ?_
  refine ex_assignN (by assumption) (by assumption) (fun _ => rfl) (fun _ => rfl) ?_
  refine ev_dict [Str.ofString "cards", Str.ofString "turn"] rfl rfl rfl (by simp) (by decide) (fun q hq => ?_) (by decide +kernel) ?_
  · rw [hloc.z] at hq; cases hq
  repeat tb_rel
  refine ev_upto_base (n := 26) ok (fun _ _ => ⟨_, rfl⟩) hL (by lia) (by with_reducible repeat (first | apply List.mem_cons_self | apply List.mem_cons_of_mem)) (by decide) (fun R hR => ev_int hR) fun y hy => ?_
  rw [show ((26 : Int)).toNat = 26 from rfl, List.map_take, ints_er hI, ← List.map_take]
  obtain ⟨cs, hcs⟩ : ∃ cs, cs = ns.take 26 := ⟨_, rfl⟩
  have hcl : cs.length ≤ 100 := by rw [hcs]; simp; lia
  rw [← hcs]
  repeat tb_rel
  refine ca_list (AH.set_self ..) (by rw [List.length_map]; lia) fun C hC => ?_
  have hC1 := AH.set_self (AH.set (fun _ => none) y (.list (cs.map vi))) C (.list (cs.map vi))
  generalize (AH.set (fun _ => none) y (.list (cs.map vi))).set C (.list (cs.map vi)) = σ1 at hC1 ⊢
  repeat tb_rel
  intro D hD
  have hC2 := Le.new (o := AO.dict (handF C ((0 : Nat) : Int))) hD _ _ hC1
  have hD2 := AH.set_self σ1 D (.dict (handF C ((0 : Nat) : Int)))
  show ∃ μ', Put _ _ _ μ' ∧ Then c _ _ .next μ' (σ1.set D (.dict (handF C ((0 : Nat) : Int))))
  generalize σ1.set D (.dict (handF C ((0 : Nat) : Int))) = σ2 at hC2 hD2 ⊢
  repeat tb_rel
  refine ca_fcK 1 ok (by lia) (law_dealt_fc hgc hD2 hC2 (by decide) hcl (by decide) ?_)
  obtain ⟨room, hrm, hrm2⟩ := dealt_nat cs 1 (many := 6) (by decide)
  have hCD : C ≠ D := fun e => by rw [e, hD2] at hC2; cases hC2
  rw [hrm]
  have hC3 : (σ2.set D (.dict (handF C ((0 + 1 : Nat) : Int)))) C = some (.list (cs.map vi)) := (AH.set_ne hCD).trans hC2
  have hD3 := AH.set_self σ2 D (.dict (handF C ((0 + 1 : Nat) : Int)))
  generalize σ2.set D (.dict (handF C ((0 + 1 : Nat) : Int))) = σ3 at hC3 hD3 ⊢
  repeat tb_rel
  refine ca_fcK 1 ok (by lia) (law_dealt_fc hgc hD3 hC3 (by decide) hcl (by decide) ?_)
  obtain ⟨d5, hd5, hd52⟩ := dealt_nat cs 2 (many := 5) (by decide)
  rw [show 0 + 1 + 1 = 2 from rfl, hd5]
  have hC4 : (σ3.set D (.dict (handF C ((2 : Nat) : Int)))) C = some (.list (cs.map vi)) := (AH.set_ne hCD).trans hC3
  have hD4 := AH.set_self σ3 D (.dict (handF C ((2 : Nat) : Int)))
  generalize σ3.set D (.dict (handF C ((2 : Nat) : Int))) = σ4 at hC4 hD4 ⊢
  repeat tb_rel
  refine ca_clsH (C := 408) (fI := 217) (n := 6) ok hcK (by kernel_rfl) (by kernel_rfl) (by kernel_rfl) (by lia) fun t ht => table_init_fc hgc (AH.set_self ..) (by lia) fun σ5 A N nd nxt sz lg H5 I5 K5 hA5 hN5 hn5 => ⟨rfl, ?_⟩
  have htn : ∀ {a : Addr} {o : AO}, σ4 a = some o → a ≠ t ∧ σ5 a = some o ∧ a ≠ A ∧ a ≠ N := fun {a o} e => by
    have h1 : a ≠ t := fun q => by rw [q, ht] at e; cases e
    have h2 : (σ4.set t (.inst 408 [])) a = some o := (AH.set_ne h1).trans e
    exact ⟨h1, K5 a o (by simpa using h1) h2, fun q => (by rw [q, hA5] at h2; cases h2), fun q => (by rw [q, hN5] at h2; cases h2)⟩
  have hC5 := (htn hC4).2.1
  have hD5 := (htn hD4).2.1
  have hCA := (htn hC4).2.2
  clear htn K5 hA5 hN5 hn5 hC4 hD4 ht
  repeat tb_rel
  refine ev_list ?_
  repeat tb_rel
  refine ⟨by decide, fun e1 he1 => ?_⟩
  have Le6 := Le.new (o := AO.list [vi 0, vi 1, vi 2, vi 4, vi 4, vi 8]) he1
  have hE6 := AH.set_self σ5 e1 (.list [vi 0, vi 1, vi 2, vi 4, vi 4, vi 8])
  generalize σ5.set e1 (.list [vi 0, vi 1, vi 2, vi 4, vi 4, vi 8]) = σ6 at Le6 hE6 ⊢
  repeat tb_rel
  refine ⟨⟨_, .list hE6⟩, gi_list (V := vi (places room : Nat)) hE6 (by lia) (by lia) (by
    rw [Int.toNat_natCast]
    show ((([0, 1, 2, 4, 4, 8] : List Nat).map fun x : Nat => vi x))[room]? = _
    rw [List.getElem?_map, pl6 (by lia)]; rfl) ?_⟩
  have H6 := H5.le Le6
  have hC6 := Le6 _ _ hC5
  have hD6 := Le6 _ _ hD5
  have hp8 : places room ≤ 16 := by
    have := places_pow (m := room) (by lia)
    unfold Pow at this; lia
  obtain ⟨p, hp⟩ : ∃ p, p = places room := ⟨_, rfl⟩
  rw [← hp] at H6 I5 hp8 ⊢
  clear H5 Le6 hE6 hC5 hD5
  repeat tb_rel
  refine ev_dict [Str.ofString "row", Str.ofString "keys", Str.ofString "worth", Str.ofString "found"] rfl rfl rfl (by simp) (by decide) (fun q hq => ?_) (by decide +kernel) ?_
  · rw [hloc.z] at hq; cases hq
  repeat tb_rel
  refine ev_list ?_
  repeat tb_rel
  refine ⟨by decide, fun rA hrA => ?_⟩
  repeat tb_rel
  refine ev_list ?_
  repeat tb_rel
  refine ⟨by decide, fun e4 he4 => ?_⟩
  repeat tb_rel
  refine bo_mul_list (AH.set_self ..) (by simp) (by lia) (by lia) (by decide) fun kA hkA => ?_
  rw [Int.toNat_natCast, flat_none']
  repeat tb_rel
  refine ev_list ?_
  repeat tb_rel
  refine ⟨by decide, fun e5 he5 => ?_⟩
  repeat tb_rel
  refine bo_mul_list (AH.set_self ..) (by simp) (by lia) (by lia) (by decide) fun wA hwA => ?_
  rw [Int.toNat_natCast, flat_none]
  repeat tb_rel
  intro d hd
  have L1 := Le.new (o := AO.list []) hrA
  have L2 := Le.new (o := AO.list [.none]) he4
  have L3 := Le.new (o := AO.list (List.replicate p .none)) hkA
  have L4 := Le.new (o := AO.list [.none]) he5
  have L5 := Le.new (o := AO.list ((List.replicate p (none : Option Int)).map vo)) hwA
  have L6 := Le.new (o := AO.dict (lotF rA kA wA p)) hd
  have hR7 := (L2.trans (L3.trans (L4.trans (L5.trans L6)))) _ _ (AH.set_self ..)
  have hK7 := (L4.trans (L5.trans L6)) _ _ (AH.set_self ..)
  have hW7 := L6 _ _ (AH.set_self ..)
  have hd7 := AH.set_self (((((σ6.set rA (.list [])).set e4 (.list [.none])).set kA (.list (List.replicate p .none))).set e5 (.list [.none])).set wA (.list ((List.replicate p (none : Option Int)).map vo))) d (.dict (lotF rA kA wA p))
  have nw : ∀ {τ : AH} {x a : Addr} {o : AO}, Le σ6 τ → τ x = none → σ6 a = some o → a ≠ x := fun {τ x a o} hl hx ha q => by
    have := hl a o ha
    rw [q, hx] at this; cases this
  have nr : ∀ {a : Addr} {o : AO}, σ6 a = some o → a ≠ rA ∧ a ≠ kA ∧ a ≠ wA ∧ a ≠ d := fun {a o} ha =>
    ⟨nw Le.rfl' hrA ha, nw (L1.trans L2) hkA ha, nw (L1.trans (L2.trans (L3.trans L4))) hwA ha, nw (L1.trans (L2.trans (L3.trans (L4.trans L5)))) hd ha⟩
  have rk : rA ≠ kA := fun e => by
    have := L2 _ _ (AH.set_self σ6 rA (.list []))
    subst e; rw [hkA] at this; cases this
  have rw' : rA ≠ wA := fun e => by
    have := (L2.trans (L3.trans L4)) _ _ (AH.set_self σ6 rA (.list []))
    subst e; rw [hwA] at this; cases this
  have kw : kA ≠ wA := fun e => by
    have := L4 _ _ (AH.set_self ((σ6.set rA (.list [])).set e4 (.list [.none])) kA (.list (List.replicate p .none)))
    subst e; rw [hwA] at this; cases this
  have LA := L1.trans (L2.trans (L3.trans (L4.trans (L5.trans L6))))
  show ∃ μ', Put _ _ _ μ' ∧ Then c _ _ .next μ' ((((((σ6.set rA (.list [])).set e4 (.list [.none])).set kA (.list (List.replicate p .none))).set e5 (.list [.none])).set wA (.list ((List.replicate p (none : Option Int)).map vo))).set d (.dict (lotF rA kA wA p)))
  generalize (((((σ6.set rA (.list [])).set e4 (.list [.none])).set kA (.list (List.replicate p .none))).set e5 (.list [.none])).set wA (.list ((List.replicate p (none : Option Int)).map vo))).set d (.dict (lotF rA kA wA p)) = σ7 at L6 hR7 hK7 hW7 hd7 LA ⊢
  have R7 : Run σ7 D C d t A N rA kA wA nd (List.replicate p .none) cs 2 (blank [] p) (blank [] p) nxt sz lg := by
    refine ⟨LA _ _ hD6, LA _ _ hC6, H6.le LA, I5, ⟨hd7, hR7, hK7, hW7, fun i v e => ?_, by simp [blank], by simp [blank], rk, rw', kw⟩, (nr hD6).2.2.2, ⟨hCA.1, hCA.2, (nr hC6).1, (nr hC6).2.1, (nr hC6).2.2.1⟩, ⟨(nr H6.arr).1, (nr H6.arr).2.1, (nr H6.arr).2.2.1⟩, ⟨(nr H6.nod).1, (nr H6.nod).2.1, (nr H6.nod).2.2.1⟩⟩
    rw [blank_k]
    rw [List.getElem?_replicate] at e
    show v = .none
    split at e
    · exact (Option.some.inj e).symm
    · cases e
  clear L1 L2 L3 L4 L5 L6 hR7 hK7 hW7 hd7 nw nr rk rw' kw LA hrA he4 hkA he5 hwA hd H6 hC6 hD6 I5 hCA
  repeat tb_rel
  refine ex_for_src ok (fun _ _ => rfl) (src_range rfl ok rfl (fun _ => rfl) ?_)
  repeat tb_rel
  refine ⟨rfl, ?_⟩
  repeat tb_rel
  refine ⟨8 + (d5 : Nat), rfl, by lia, by lia, ?_⟩
  rw [show ((8 : Int) + (d5 : Nat)).toNat = 8 + d5 by lia]
  unfold tkRange
  refine FT.inv (fun l μ' σ' => Xe3 fun (i : Nat) (A : Addr) (N : Addr) => Xe4 fun (rA : Addr) (kA : Addr) (wA : Addr) (nd : List Addr) => Xe4 fun (ks : List Value) (L : Lot) (nxt : List Int) (sz : Int) => Xe4 fun (lg : Int) (o1 : Option Value) (o2 : Option Value) (o3 : Option Value) => Xa6 (l = List.range' i l.length) (i + l.length = 8 + d5) (Run σ' D C d t A N rA kA wA nd ks cs (2 + 2 * i) L L nxt sz lg) (live L ≤ i) (L.row.length ≤ 16) (μ' = [(Str.ofString "script", some (Value.ref sa)), (Str.ofString "hand", some (Value.ref D)), (Str.ofString "room", some (vi (room : Nat))), (Str.ofString "deeds", some (vi (8 + (d5 : Nat)))), (Str.ofString "t", some (Value.ref t)), (Str.ofString "places", some (vi (p : Nat))), (Str.ofString "lot", some (Value.ref d)), (Str.ofString "deed", o1), (Str.ofString "one", o2), (Str.ofString "value", o3)]))
    ?_ ?_ (List.range _) _ σ7 ⟨0, A, N, rA, kA, wA, nd, _, _, nxt, sz, lg, none, none, none, by rw [List.length_range, List.range_eq_range'], by simp, R7, by unfold live cS blank; rw [List.countP_replicate]; simp, by simp [blank], rfl⟩
  · rintro μ' σ8 hI0
    refine hide fun S0 hS0 => ?_
    obtain ⟨i, A, N, rA, kA, wA, nd, ks, L, nxt, sz, lg, o1, o2, o3, _, hi, R, hlv, hrw, eu0⟩ := hI0
    refine hS0 (at1 eu0 ?_)
    clear hS0 S0
    refine ⟨trivial, ?_⟩
    repeat tb_rel
    rfl
  · rintro j l μ' σ8 KK hI0 hKK
    refine hide fun S0 hS0 => ?_
    obtain ⟨i, A, N, rA, kA, wA, nd, ks, L, nxt, sz, lg, o1, o2, o3, hl, hi, R, hlv, hrw, eu0⟩ := hI0
    refine hS0 (at1 eu0 ?_)
    clear hS0 S0
    rw [List.length_cons, List.range'_succ] at hl
    injection hl with hj hl
    subst hj
    simp only [List.length_cons] at hi
    have hD8 := R.hand
    have hC8 := R.cards
    have hj12 : j ≤ 11 := by lia
    repeat tb_rel
    refine ca_fcK 1 ok (by lia) (law_dealt_fc hgc hD8 hC8 (by lia) hcl (by decide) ?_)
    obtain ⟨q, hq, hq2⟩ := dealt_nat cs (2 + 2 * j + 1) (many := 36) (by decide)
    rw [hq]
    have R9 := R.turned (turn' := 2 + 2 * j + 1)
    generalize σ8.set D (.dict (handF C ((2 + 2 * j + 1 : Nat) : Int))) = σ9 at R9 ⊢
    repeat tb_rel
    refine ca_fcK 1 ok (by lia) (law_key_fc hgc (n := q) (by lia) fun σ10 hle10 => ?_)
    have R10 := R9.le hle10
    have hk := keyOf_ok (n := q) (by lia)
    generalize keyOf q = k at hk ⊢
    clear R9 hle10 R hD8 hC8
    have hD10 := R10.hand
    have hC10 := R10.cards
    have R11 := R10.turned (turn' := 2 + 2 * j + 1 + 1)
    iterate 3 tb_rel
    refine ex_assignN (by assumption) (by assumption) (fun _ => rfl) (fun _ => rfl) ?_
    refine EV.mono (Q := fun V σ' => ∃ v : Option Int, V = vo v ∧ σ' = σ10.set D (.dict (handF C ((2 + 2 * j + 1 + 1 : Nat) : Int)))) ?_ (fun V σ' hV => ?_)
    · repeat tb_rel
      refine ca_fcK 1 ok (by lia) (law_dealt_fc hgc hD10 hC10 (by lia) hcl (by decide) ?_)
      repeat tb_rel
      refine if_b (fun hb => ?_) (fun hb => ?_)
      · repeat tb_rel
        exact ⟨none, rfl, rfl⟩
      · repeat tb_rel
        exact ⟨some ((j : Int) + 1), rfl, rfl⟩
    obtain ⟨v, rfl, rfl⟩ := hV
    generalize σ10.set D (.dict (handF C ((2 + 2 * j + 1 + 1 : Nat) : Int))) = σ11 at R11 ⊢
    clear R10 hD10 hC10
    obtain ⟨L', hW⟩ := wr_ex L k v
    have hT11 := R11.tab.inst
    refine hide fun S0 hS0 => ?_
    obtain ⟨_, hTold, hlv', hrw'⟩ := wr_ok R11.inv hk (by lia) hrw hW
    refine hS0 ?_
    clear hS0 S0
    repeat tb_rel
    refine ca_fcK 9 ok (by lia) (set_fc hgc R11.tab R11.inv hk (by lia) hrw hW fun σ12 A' N' nd' nxt' sz' lg' H12 I12 K12 F12 => ?_)
    have R12 := R11.afterSet H12 I12 K12 F12
    have IL : Inv L.keys.length L nxt := by rw [R11.inv.lk]; exact R11.inv
    clear H12 I12 K12 F12 R11 hT11
    repeat tb_rel
    refine ca_fcK 1 ok (by lia) (law_tag_fc (k := some k) hgc (fun h => by cases h) fun kk hkk T hT => ?_)
    cases hkk
    have R13 := R12.le (Le.new (o := AO.tup [vi k.code, k.tv]) hT)
    have hT13 := AH.set_self σ12 T (.tup [vi k.code, k.tv])
    generalize σ12.set T (.tup [vi k.code, k.tv]) = σ13 at R13 hT13 ⊢
    repeat tb_rel
    refine ca_fcK 7 ok (by lia) (law_written_all_fc hgc R13.lot hT13 hk IL (by lia) hrw hW fun σ14 rA' kA' wA' ks' H14 K14 f1 f2 f3 => ?_)
    have R14 := R13.afterWritten H14 K14 f1 f2 f3
    clear R12 hT R13 hT13 H14 K14 f1 f2 f3 IL hW hrw
    have hT14 := R14.tab.inst
    have hN14 := R14.tab.nod
    have hd14 := R14.lot.dict
    repeat tb_rel
    have hnl : nd'.length ≤ 16 := by have := R14.inv.np; unfold Pow at this; lia
    refine ev_comp ok hloc [Str.ofString "node"] [] [] (fun _ _ => rfl) (closureFor_none (by decide +kernel)) .nil (by decide +kernel) rfl (by decide +kernel) (by rw [relabel_S hsc]; decide +kernel) (fun x V hx => nomatch hx) (by decide) ?_
    refine src_list rfl ?_
    repeat tb_rel
    refine ⟨N', _, rfl, hN14, fun c' hci => ?_⟩
    rw [tkList_range]
    refine ⟨by simp; lia, ?_⟩
    have ok' := hci.ok
    have hgc' : HK c'.gl := by rw [hci.gl]; exact hgc
    have hK' : KOK c' := hgc'
    have hne' := hci.ne
    have hsc' := hci.sc
    rw [relabel_S hsc] at hsc'
    have hkl_node : c'.env.kindOf (Str.ofString "node") = some .local := by rw [Env.kindOf, hsc']; rfl
    have hroom' : c'.room = 12 := by rw [hci.room]; exact hroom
    refine CT.inv (fun l acc μ' σ' => Xe2 fun (i : Nat) (o : Option Value) => Xa6 (l = List.range' i l.length) (i + l.length = nd'.length) (acc.length = i) ((∀ x V, acc[x]? = some V → TagAt σ' V (L'.kA x))) (Le σ14 σ') (μ' = [(Str.ofString "node", o)]))
      ?_ ?_ (List.range _) [] _ σ14 ⟨0, none, by rw [List.length_range, List.range_eq_range'], by simp, rfl, fun x V h => (by simp at h), Le.rfl', rfl⟩
    rotate_left
    · rintro i l acc μ' σ' KC hI0 hKC
      refine hide fun S0 hS0 => ?_
      obtain ⟨i', o, hl2, hi2, hacc, htags, hle, eu0⟩ := hI0
      refine hS0 (at1 eu0 ?_)
      clear hS0 S0
      rw [List.length_cons, List.range'_succ] at hl2
      injection hl2 with hii hl2
      subst hii
      simp only [List.length_cons] at hi2
      refine ⟨hle _ _ hN14, ?_⟩
      obtain ⟨a, ha⟩ : ∃ a, nd'[i]? = some a := ⟨_, List.getElem?_eq_getElem (by lia)⟩
      have hga : nd'.getD i 0 = a := by rw [List.getD_eq_getElem?_getD, ha]; rfl
      rw [hga]
      have hna := hle _ _ (R14.tab.node i a ha)
      repeat tb_rel
      have est : ∀ V σ2, Le σ' σ2 → TagAt σ2 V (L'.kA i) → ∀ o, KC (acc ++ [V]) [(Str.ofString "node", o)] σ2 := fun V σ2 hl3 hV o =>
        hKC _ _ _ ⟨i + 1, o, hl2, by lia, by simp [hacc], fun x W hW => by
          rcases Nat.lt_or_ge x acc.length with hx | hx
          · rw [List.getElem?_append_left hx] at hW
            exact (htags x W hW).le hl3
          · rw [List.getElem?_append_right hx] at hW
            have hx0 : x - acc.length = 0 := by
              by_cases q : x - acc.length = 0
              · exact q
              · rw [List.getElem?_eq_none (by simp; lia)] at hW; cases hW
            rw [hx0] at hW
            have hWV : W = V := by simpa using hW.symm
            have hxi : x = i := by lia
            rw [hWV, hxi]; exact hV, hle.trans hl3, rfl⟩
      refine ca_fcK 1 ok' (by lia) (law_tag_fc hgc' (fun hk0 => ?_) fun kk hkk T2 hT2 => ?_)
      · exact est _ _ Le.rfl' (by rw [hk0]; rfl) _
      · exact est _ _ (Le.new hT2) (by rw [hkk]; exact ⟨T2, rfl, AH.set_self ..⟩) _
    rintro acc μ' σ15 hI0
    refine hide fun S0 hS0 => ?_
    obtain ⟨i, o, _, hi2, hacc, htags, hle, eu0⟩ := hI0
    refine hS0 (at1 eu0 ?_)
    clear hS0 S0
    refine ⟨hle _ _ hN14, fun E1 hE1 => ?_⟩
    simp only [List.length_nil, Nat.add_zero] at hi2
    have LeA := hle.trans (Le.new (o := AO.list acc) hE1)
    have hE2 := AH.set_self σ15 E1 (AO.list acc)
    replace htags : ∀ x V, acc[x]? = some V → TagAt (σ15.set E1 (.list acc)) V (L'.kA x) := fun x V h => (htags x V h).le (Le.new hE1)
    generalize σ15.set E1 (.list acc) = σ16 at LeA hE2 htags ⊢
    have R16 := R14.le LeA
    clear hle hE1 LeA hT14 hN14 hd14 R14
    have hd16 := R16.lot.dict
    repeat tb_rel
    refine co_ne_list (fun _ => true) ok (by lia) hE2 R16.lot.keys (by rw [hacc, hi2, ← R16.lot.lk, R16.tab.lk]) (fun x V W h1 h2 => eqv_tags (htags x V h1) (R16.lot.tags x W h2)) ?_
    rw [all_true]
    repeat tb_rel
    have hT16 := R16.tab.inst
    have hN16 := R16.tab.nod
    repeat tb_rel
    refine ev_comp ok hloc [Str.ofString "node"] [] [] (fun _ _ => rfl) (closureFor_none (by decide +kernel)) .nil (by decide +kernel) rfl (by decide +kernel) (by rw [relabel_S hsc]; decide +kernel) (fun x V hx => nomatch hx) (by decide) ?_
    refine src_list rfl ?_
    repeat tb_rel
    refine ⟨N', _, rfl, hN16, fun c' hci => ?_⟩
    rw [tkList_range]
    refine ⟨by simp; lia, ?_⟩
    have ok' := hci.ok
    have hgc' : HK c'.gl := by rw [hci.gl]; exact hgc
    have hK' : KOK c' := hgc'
    have hne' := hci.ne
    have hsc' := hci.sc
    rw [relabel_S hsc] at hsc'
    have hkl_node : c'.env.kindOf (Str.ofString "node") = some .local := by rw [Env.kindOf, hsc']; rfl
    have hroom' : c'.room = 12 := by rw [hci.room]; exact hroom
    refine CT.inv (fun l acc μ' σ' => Xe2 fun (i : Nat) (o : Option Value) => Xa5 (l = List.range' i l.length) (i + l.length = nd'.length) (acc = (List.range i).map (fun x => vo (L'.wA x))) (σ' = σ16) (μ' = [(Str.ofString "node", o)]))
      ?_ ?_ (List.range _) [] _ σ16 ⟨0, none, by rw [List.length_range, List.range_eq_range'], by simp, rfl, rfl, rfl⟩
    rotate_left
    · rintro i l acc μ' σ' KC hI0 hKC
      refine hide fun S0 hS0 => ?_
      obtain ⟨i', o, hl2, hi2, ea0, es0, eu0⟩ := hI0
      refine hS0 (at3 ea0 es0 eu0 ?_)
      clear hS0 S0
      rw [List.length_cons, List.range'_succ] at hl2
      injection hl2 with hii hl2
      subst hii
      simp only [List.length_cons] at hi2
      refine ⟨hN16, ?_⟩
      obtain ⟨a, ha⟩ : ∃ a, nd'[i]? = some a := ⟨_, List.getElem?_eq_getElem (by lia)⟩
      have hga : nd'.getD i 0 = a := by rw [List.getD_eq_getElem?_getD, ha]; rfl
      rw [hga]
      have hna := R16.tab.node i a ha
      repeat tb_rel
      exact hKC _ _ _ ⟨i + 1, _, hl2, by lia, by rw [List.range_succ, List.map_append]; rfl, rfl, rfl⟩
    rintro acc2 μ' σ' hI0
    refine hide fun S0 hS0 => ?_
    obtain ⟨i2, o, _, hi3, ea0, es0, eu0⟩ := hI0
    refine hS0 (at3 ea0 es0 eu0 ?_)
    clear hS0 S0
    refine ⟨hN16, fun E3 hE3 => ?_⟩
    simp only [List.length_nil, Nat.add_zero] at hi3
    have eacc : (List.range i2).map (fun x => vo (L'.wA x)) = L'.worth.map vo := by
      rw [hi3, ← R16.tab.lw]
      conv => rhs; rw [as_range L'.worth none, List.map_map]
      rfl
    rw [eacc]
    have hE4 := AH.set_self σ16 E3 (AO.list (L'.worth.map vo))
    have R17 := R16.le (Le.new (o := AO.list (L'.worth.map vo)) hE3)
    generalize σ16.set E3 (.list (L'.worth.map vo)) = σ17 at hE4 R17 ⊢
    clear R16 hT16 hN16 hd16 hE2 htags hE3
    have hd17 := R17.lot.dict
    have hT17 := R17.tab.inst
    repeat tb_rel
    refine co_ne_list (fun _ => true) ok (by lia) hE4 R17.lot.worth rfl (fun x V W h1 h2 => eqv_same x V W h1 h2) ?_
    rw [all_true]
    repeat tb_rel
    refine co_ne_list (fun _ => true) ok (by lia) R17.tab.arr R17.lot.row rfl (fun x V W h1 h2 => eqv_same x V W h1 h2) ?_
    rw [all_true]
    repeat tb_rel
    refine if_f (by simp) ?_
    repeat tb_rel
    obtain ⟨lp, hlp⟩ : ∃ lp, nd'.length ≠ 0 → Path nxt' (homeI nd'.length k) lp := by
      by_cases q0 : nd'.length = 0
      · exact ⟨[], fun h => absurd q0 h⟩
      · obtain ⟨lp, hlp⟩ := path_of R17.inv q0 k
        exact ⟨lp, fun _ => hlp⟩
    refine ca_fcK 5 ok (by lia) (FC.mono (Q := fun V σ16 => V = vo v ∧ σ16 = σ17) (get_fc (l := lp) hgc R17.tab (by lia) R17.inv.np hk hlp (fun hin => ⟨by rw [hTold.1 hin], rfl⟩) (fun hin => ⟨by rw [told_look R17.inv hlp hTold hin], rfl⟩)) (Nat.le_refl _) fun V σ16 hV => ?_)
    obtain ⟨rfl, rfl⟩ := hV
    repeat tb_rel
    refine co_ne_vo ?_
    rw [show (v == v) = true by simp]
    repeat tb_rel
    refine ca_fcK 3 ok (by lia) (law_in_order_fc (nxt := nxt') hgc R17.lot (by rw [R17.inv.lk]; exact R17.inv) fun σ18 hle18 => ?_)
    have R18 := R17.le hle18
    repeat tb_rel
    exact hKK _ _ ⟨j + 1, A', N', rA', kA', wA', nd', ks', L', nxt', sz', lg', _, _, _, hl, by lia, R18, by lia, hrw', rfl⟩
/-! The library's tactic for the top makes a helper equation for each constant of the run, quadratic in the number of objects. A name that is taken keeps it from making that one; the run is evaluated without them as well. -/
theorem law_all.tw10024686837709580625 : True := trivial
theorem law_all.tw1006284481315042348 : True := trivial
theorem law_all.tw10075033275381536440 : True := trivial
theorem law_all.tw10090999975856555344 : True := trivial
theorem law_all.tw10240734782212473332 : True := trivial
theorem law_all.tw10253732280001569212 : True := trivial
theorem law_all.tw10294897870698960256 : True := trivial
theorem law_all.tw10297145265793509435 : True := trivial
theorem law_all.tw10300875812035996732 : True := trivial
theorem law_all.tw10344729229328920165 : True := trivial
theorem law_all.tw10382579582808609351 : True := trivial
theorem law_all.tw10437830444076844960 : True := trivial
theorem law_all.tw10470740866990187283 : True := trivial
theorem law_all.tw10486281728991561039 : True := trivial
theorem law_all.tw10487270797120572952 : True := trivial
theorem law_all.tw10517906790627618544 : True := trivial
theorem law_all.tw10529780158634616513 : True := trivial
theorem law_all.tw10562567905742353873 : True := trivial
theorem law_all.tw10565121375587587042 : True := trivial
theorem law_all.tw10575808222751662728 : True := trivial
theorem law_all.tw10610644917846335340 : True := trivial
theorem law_all.tw10632998686855480601 : True := trivial
theorem law_all.tw1068153473233568800 : True := trivial
theorem law_all.tw10780945830723714241 : True := trivial
theorem law_all.tw10806039510188334631 : True := trivial
theorem law_all.tw10808177503072308079 : True := trivial
theorem law_all.tw10834972849280226571 : True := trivial
theorem law_all.tw10842723371336156597 : True := trivial
theorem law_all.tw1095883759108861392 : True := trivial
theorem law_all.tw10972643930856128791 : True := trivial
theorem law_all.tw11008839944985332601 : True := trivial
theorem law_all.tw11020806828292283134 : True := trivial
theorem law_all.tw11061263923128422616 : True := trivial
theorem law_all.tw11085147635474315433 : True := trivial
theorem law_all.tw11086646823923730572 : True := trivial
theorem law_all.tw11090485264053204359 : True := trivial
theorem law_all.tw11125228077776306136 : True := trivial
theorem law_all.tw1115311737908471259 : True := trivial
theorem law_all.tw11156016171303442314 : True := trivial
theorem law_all.tw1115970785884932992 : True := trivial
theorem law_all.tw11169120883424520007 : True := trivial
theorem law_all.tw11185291794543270386 : True := trivial
theorem law_all.tw11194228370837134999 : True := trivial
theorem law_all.tw11195006048519719982 : True := trivial
theorem law_all.tw11208032702916000851 : True := trivial
theorem law_all.tw11238844513194340339 : True := trivial
theorem law_all.tw11239549508614699967 : True := trivial
theorem law_all.tw11254592457914836137 : True := trivial
theorem law_all.tw11266150474529332087 : True := trivial
theorem law_all.tw1126804568260048138 : True := trivial
theorem law_all.tw11316630271383740818 : True := trivial
theorem law_all.tw11366365906516837970 : True := trivial
theorem law_all.tw11407212017213923087 : True := trivial
theorem law_all.tw11427589630418949975 : True := trivial
theorem law_all.tw11509529326707108785 : True := trivial
theorem law_all.tw11566998951525393313 : True := trivial
theorem law_all.tw11575233253633470811 : True := trivial
theorem law_all.tw11587524997120335971 : True := trivial
theorem law_all.tw11596821628577882342 : True := trivial
theorem law_all.tw11604076886869528917 : True := trivial
theorem law_all.tw11655911931479345256 : True := trivial
theorem law_all.tw11660793784710997211 : True := trivial
theorem law_all.tw1166129813771130549 : True := trivial
theorem law_all.tw11681217401251675389 : True := trivial
theorem law_all.tw11755048821886595345 : True := trivial
theorem law_all.tw11779399842900871346 : True := trivial
theorem law_all.tw11806459468589365706 : True := trivial
theorem law_all.tw11821130883310013321 : True := trivial
theorem law_all.tw11833566044642688545 : True := trivial
theorem law_all.tw11836482064631991793 : True := trivial
theorem law_all.tw11911069920064303837 : True := trivial
theorem law_all.tw11953936395949465439 : True := trivial
theorem law_all.tw11977895914950762854 : True := trivial
theorem law_all.tw11978475443051844996 : True := trivial
theorem law_all.tw11981917482434212799 : True := trivial
theorem law_all.tw11986533732874898875 : True := trivial
theorem law_all.tw1200807466883419909 : True := trivial
theorem law_all.tw12012145143388645040 : True := trivial
theorem law_all.tw12018720973117135595 : True := trivial
theorem law_all.tw12020096104662128255 : True := trivial
theorem law_all.tw12040030575716422517 : True := trivial
theorem law_all.tw12055539081176029090 : True := trivial
theorem law_all.tw1213014688269875124 : True := trivial
theorem law_all.tw121348372011856147 : True := trivial
theorem law_all.tw1216541509919387563 : True := trivial
theorem law_all.tw12230927248747617965 : True := trivial
theorem law_all.tw1224010249265392569 : True := trivial
theorem law_all.tw12240263347232697027 : True := trivial
theorem law_all.tw12308355309068749982 : True := trivial
theorem law_all.tw12309555987426629805 : True := trivial
theorem law_all.tw12384212371979683370 : True := trivial
theorem law_all.tw12415205634060267573 : True := trivial
theorem law_all.tw12415261661798453589 : True := trivial
theorem law_all.tw1244168298268136379 : True := trivial
theorem law_all.tw12481217338035120217 : True := trivial
theorem law_all.tw12491990524712166927 : True := trivial
theorem law_all.tw12507762813244862470 : True := trivial
theorem law_all.tw12509682125398910234 : True := trivial
theorem law_all.tw12539917319762660869 : True := trivial
theorem law_all.tw12540705440526740223 : True := trivial
theorem law_all.tw12578298129586543361 : True := trivial
theorem law_all.tw12610587468927266379 : True := trivial
theorem law_all.tw12613626564643572922 : True := trivial
theorem law_all.tw12644882131140162811 : True := trivial
theorem law_all.tw12685006382546950688 : True := trivial
theorem law_all.tw12729013581757030507 : True := trivial
theorem law_all.tw12733668576097638289 : True := trivial
theorem law_all.tw12760510453615215998 : True := trivial
theorem law_all.tw12795914074852961918 : True := trivial
theorem law_all.tw12821476480046859578 : True := trivial
theorem law_all.tw12836747770095448064 : True := trivial
theorem law_all.tw12852575843583276402 : True := trivial
theorem law_all.tw12880530043633816451 : True := trivial
theorem law_all.tw13008198028515782221 : True := trivial
theorem law_all.tw13023151741414912232 : True := trivial
theorem law_all.tw13050402135260733356 : True := trivial
theorem law_all.tw13061075394575644761 : True := trivial
theorem law_all.tw13066556902979482641 : True := trivial
theorem law_all.tw13095150338055272814 : True := trivial
theorem law_all.tw13104927337049522412 : True := trivial
theorem law_all.tw13211181752546427078 : True := trivial
theorem law_all.tw13242965595582236870 : True := trivial
theorem law_all.tw13262692118744678910 : True := trivial
theorem law_all.tw13274840464982359763 : True := trivial
theorem law_all.tw13323004776771469176 : True := trivial
theorem law_all.tw13367176642022358155 : True := trivial
theorem law_all.tw1348223827413200919 : True := trivial
theorem law_all.tw13515836412680247291 : True := trivial
theorem law_all.tw13528875618702146035 : True := trivial
theorem law_all.tw13531483092564520072 : True := trivial
theorem law_all.tw13699687274142533169 : True := trivial
theorem law_all.tw13760747126890918739 : True := trivial
theorem law_all.tw13760851721862378156 : True := trivial
theorem law_all.tw13763162616901922433 : True := trivial
theorem law_all.tw13786776866538912107 : True := trivial
theorem law_all.tw13794602993731048600 : True := trivial
theorem law_all.tw13814730616935933626 : True := trivial
theorem law_all.tw13833317127055801060 : True := trivial
theorem law_all.tw13838683757722122955 : True := trivial
theorem law_all.tw13846950719819077829 : True := trivial
theorem law_all.tw13880960847138548369 : True := trivial
theorem law_all.tw13985060576507940359 : True := trivial
theorem law_all.tw13989974958611873218 : True := trivial
theorem law_all.tw14022319627245857414 : True := trivial
theorem law_all.tw14058198244844264512 : True := trivial
theorem law_all.tw1408806660432250928 : True := trivial
theorem law_all.tw14100515932553792916 : True := trivial
theorem law_all.tw14112813277465929817 : True := trivial
theorem law_all.tw14115007137499183204 : True := trivial
theorem law_all.tw14135679151287715560 : True := trivial
theorem law_all.tw14161950200463332022 : True := trivial
theorem law_all.tw14225962978905420208 : True := trivial
theorem law_all.tw14228614434331140909 : True := trivial
theorem law_all.tw14236084546645660719 : True := trivial
theorem law_all.tw14253376895313793166 : True := trivial
theorem law_all.tw14285781888347874446 : True := trivial
theorem law_all.tw14305966270870369670 : True := trivial
theorem law_all.tw14351850581824355812 : True := trivial
theorem law_all.tw14384918623772240547 : True := trivial
theorem law_all.tw14396964315094823396 : True := trivial
theorem law_all.tw14427759038551237300 : True := trivial
theorem law_all.tw14437242743615798716 : True := trivial
theorem law_all.tw14448975606232184337 : True := trivial
theorem law_all.tw14483480384061991028 : True := trivial
theorem law_all.tw14512922981909422826 : True := trivial
theorem law_all.tw14548401533875796570 : True := trivial
theorem law_all.tw14578468027487938174 : True := trivial
theorem law_all.tw1458131495679319933 : True := trivial
theorem law_all.tw14640322939972922974 : True := trivial
theorem law_all.tw14643942157258506644 : True := trivial
theorem law_all.tw14690459059760270787 : True := trivial
theorem law_all.tw1469086916834449242 : True := trivial
theorem law_all.tw14692936392394494320 : True := trivial
theorem law_all.tw14745461692227509293 : True := trivial
theorem law_all.tw14752512131158284028 : True := trivial
theorem law_all.tw14783403437535847111 : True := trivial
theorem law_all.tw14813995537974290954 : True := trivial
theorem law_all.tw14966067393961270158 : True := trivial
theorem law_all.tw14969216848811132704 : True := trivial
theorem law_all.tw14978941665995686438 : True := trivial
theorem law_all.tw14991419344657449139 : True := trivial
theorem law_all.tw14998430357298625318 : True := trivial
theorem law_all.tw15041844750066439977 : True := trivial
theorem law_all.tw15053150841094675366 : True := trivial
theorem law_all.tw15076095784800757957 : True := trivial
theorem law_all.tw15106878835201008470 : True := trivial
theorem law_all.tw15111771918000721386 : True := trivial
theorem law_all.tw15175368528575537740 : True := trivial
theorem law_all.tw15222793665863523046 : True := trivial
theorem law_all.tw15256493282736253867 : True := trivial
theorem law_all.tw1526100267518658005 : True := trivial
theorem law_all.tw15275527861284700546 : True := trivial
theorem law_all.tw15313853814466723436 : True := trivial
theorem law_all.tw15327138436386969399 : True := trivial
theorem law_all.tw1536540366311737286 : True := trivial
theorem law_all.tw154029563992915288 : True := trivial
theorem law_all.tw15421464354274691625 : True := trivial
theorem law_all.tw15421611283047414692 : True := trivial
theorem law_all.tw15458983422161806720 : True := trivial
theorem law_all.tw15476179445698796577 : True := trivial
theorem law_all.tw15510922497428549454 : True := trivial
theorem law_all.tw15516733807979383809 : True := trivial
theorem law_all.tw1556948465960636121 : True := trivial
theorem law_all.tw15627020587669677704 : True := trivial
theorem law_all.tw15638214500589831823 : True := trivial
theorem law_all.tw15640896081885072018 : True := trivial
theorem law_all.tw15649952513613631697 : True := trivial
theorem law_all.tw15693939393655280204 : True := trivial
theorem law_all.tw15696156366995490489 : True := trivial
theorem law_all.tw15743857825236497588 : True := trivial
theorem law_all.tw15753174923161979217 : True := trivial
theorem law_all.tw15775596325662777338 : True := trivial
theorem law_all.tw15795279041995733746 : True := trivial
theorem law_all.tw15804987732041531161 : True := trivial
theorem law_all.tw15817853144674484978 : True := trivial
theorem law_all.tw1584610834578658081 : True := trivial
theorem law_all.tw15877617104253876215 : True := trivial
theorem law_all.tw1592464377872422232 : True := trivial
theorem law_all.tw15982079766070313398 : True := trivial
theorem law_all.tw15988576510117618290 : True := trivial
theorem law_all.tw15991014356718627131 : True := trivial
theorem law_all.tw15994752243992478524 : True := trivial
theorem law_all.tw16040996727448430886 : True := trivial
theorem law_all.tw16084122824873582314 : True := trivial
theorem law_all.tw16108003277724382137 : True := trivial
theorem law_all.tw16147590587498475195 : True := trivial
theorem law_all.tw1619606534716276043 : True := trivial
theorem law_all.tw16280616582512762277 : True := trivial
theorem law_all.tw16317050728709778059 : True := trivial
theorem law_all.tw16364907183938773818 : True := trivial
theorem law_all.tw16371026202757247076 : True := trivial
theorem law_all.tw16377440506400284361 : True := trivial
theorem law_all.tw16385951753907185183 : True := trivial
theorem law_all.tw16389678097679539626 : True := trivial
theorem law_all.tw16413752452701970063 : True := trivial
theorem law_all.tw16434993861110634532 : True := trivial
theorem law_all.tw16436836394604217106 : True := trivial
theorem law_all.tw16554060013575348944 : True := trivial
theorem law_all.tw16577843217576899742 : True := trivial
theorem law_all.tw16610364562264112213 : True := trivial
theorem law_all.tw16611412123790042429 : True := trivial
theorem law_all.tw16736700015079776020 : True := trivial
theorem law_all.tw16741880675132489432 : True := trivial
theorem law_all.tw16745809935298821572 : True := trivial
theorem law_all.tw16768936007509957499 : True := trivial
theorem law_all.tw16802804513485658213 : True := trivial
theorem law_all.tw1682832674239571567 : True := trivial
theorem law_all.tw16829598718399601788 : True := trivial
theorem law_all.tw16831322107450627596 : True := trivial
theorem law_all.tw16838179679014408406 : True := trivial
theorem law_all.tw1684386024576819110 : True := trivial
theorem law_all.tw16850067431916028951 : True := trivial
theorem law_all.tw168551618296024960 : True := trivial
theorem law_all.tw17002978438999879153 : True := trivial
theorem law_all.tw17008558775933394028 : True := trivial
theorem law_all.tw17035568942905013000 : True := trivial
theorem law_all.tw17073913150402608559 : True := trivial
theorem law_all.tw17074971947010181610 : True := trivial
theorem law_all.tw17076839701368722350 : True := trivial
theorem law_all.tw17080767244641121569 : True := trivial
theorem law_all.tw17091725206767289263 : True := trivial
theorem law_all.tw17120200779325065073 : True := trivial
theorem law_all.tw17135547795266049317 : True := trivial
theorem law_all.tw17138794587834298416 : True := trivial
theorem law_all.tw17139090271463625037 : True := trivial
theorem law_all.tw17151322811525206195 : True := trivial
theorem law_all.tw17198419215744740974 : True := trivial
theorem law_all.tw17213418721671049187 : True := trivial
theorem law_all.tw17215917983952657280 : True := trivial
theorem law_all.tw17238692654854937651 : True := trivial
theorem law_all.tw17240311926567722313 : True := trivial
theorem law_all.tw17264329242000108839 : True := trivial
theorem law_all.tw17311543511305506410 : True := trivial
theorem law_all.tw17333561848662834254 : True := trivial
theorem law_all.tw17386547048453696860 : True := trivial
theorem law_all.tw17413550076941298003 : True := trivial
theorem law_all.tw17459176674885784516 : True := trivial
theorem law_all.tw17461023701970706658 : True := trivial
theorem law_all.tw17535888986555872392 : True := trivial
theorem law_all.tw1756717570143565084 : True := trivial
theorem law_all.tw17610193108198147946 : True := trivial
theorem law_all.tw17613353281601113540 : True := trivial
theorem law_all.tw17633126580248655646 : True := trivial
theorem law_all.tw17657424406159520245 : True := trivial
theorem law_all.tw17671693468899418834 : True := trivial
theorem law_all.tw17676645770964659787 : True := trivial
theorem law_all.tw17699220586243776058 : True := trivial
theorem law_all.tw17749092094045793073 : True := trivial
theorem law_all.tw17811419955406721850 : True := trivial
theorem law_all.tw17818739092667572935 : True := trivial
theorem law_all.tw17824699565076465075 : True := trivial
theorem law_all.tw17831633481768180021 : True := trivial
theorem law_all.tw18049563021733404900 : True := trivial
theorem law_all.tw18069371669798473238 : True := trivial
theorem law_all.tw1809502294756820286 : True := trivial
theorem law_all.tw18180275025638004960 : True := trivial
theorem law_all.tw1819660966834464121 : True := trivial
theorem law_all.tw18243188635623463072 : True := trivial
theorem law_all.tw18260159938748754179 : True := trivial
theorem law_all.tw18313445508184284481 : True := trivial
theorem law_all.tw18369321035705266579 : True := trivial
theorem law_all.tw18383949787495555429 : True := trivial
theorem law_all.tw18402216632963273465 : True := trivial
theorem law_all.tw18424452837839797475 : True := trivial
theorem law_all.tw18425384942027050804 : True := trivial
theorem law_all.tw18437768301239656569 : True := trivial
theorem law_all.tw185478952616494882 : True := trivial
theorem law_all.tw1878014509627251406 : True := trivial
theorem law_all.tw1908834790331025158 : True := trivial
theorem law_all.tw1909231634321623422 : True := trivial
theorem law_all.tw1961576592547977382 : True := trivial
theorem law_all.tw1988555749612562791 : True := trivial
theorem law_all.tw2030871139163601056 : True := trivial
theorem law_all.tw2103784332974290115 : True := trivial
theorem law_all.tw2126261026752179203 : True := trivial
theorem law_all.tw2135314059674174450 : True := trivial
theorem law_all.tw2154737406897626791 : True := trivial
theorem law_all.tw2161507521139017325 : True := trivial
theorem law_all.tw2224743311408289904 : True := trivial
theorem law_all.tw2225694422541459837 : True := trivial
theorem law_all.tw2238069962009214901 : True := trivial
theorem law_all.tw2239101395706997581 : True := trivial
theorem law_all.tw2252203913613538044 : True := trivial
theorem law_all.tw2355731226331693373 : True := trivial
theorem law_all.tw2440259602994764050 : True := trivial
theorem law_all.tw2465578340897827915 : True := trivial
theorem law_all.tw2506844670610910573 : True := trivial
theorem law_all.tw2534205154373081525 : True := trivial
theorem law_all.tw254210294449290986 : True := trivial
theorem law_all.tw2560851641824476598 : True := trivial
theorem law_all.tw2637589859259975594 : True := trivial
theorem law_all.tw265244927588178289 : True := trivial
theorem law_all.tw2714459630560403676 : True := trivial
theorem law_all.tw2721814648045382242 : True := trivial
theorem law_all.tw2746415857694854958 : True := trivial
theorem law_all.tw2763200530551224835 : True := trivial
theorem law_all.tw2791512771193701167 : True := trivial
theorem law_all.tw2818472761355251851 : True := trivial
theorem law_all.tw2872085493576920064 : True := trivial
theorem law_all.tw2885707341163702077 : True := trivial
theorem law_all.tw289511000256421866 : True := trivial
theorem law_all.tw2897607846274201091 : True := trivial
theorem law_all.tw2919649542600381882 : True := trivial
theorem law_all.tw2942426997265644656 : True := trivial
theorem law_all.tw2947101405759643883 : True := trivial
theorem law_all.tw29785838706219937 : True := trivial
theorem law_all.tw2981204530259232531 : True := trivial
theorem law_all.tw3012268511640468390 : True := trivial
theorem law_all.tw3015541545424464467 : True := trivial
theorem law_all.tw3049941219963327188 : True := trivial
theorem law_all.tw3050570416659367537 : True := trivial
theorem law_all.tw3085543861111676997 : True := trivial
theorem law_all.tw3116252448390264038 : True := trivial
theorem law_all.tw31263012393092130 : True := trivial
theorem law_all.tw3207115444309807146 : True := trivial
theorem law_all.tw3226911033302893226 : True := trivial
theorem law_all.tw3231379065138021979 : True := trivial
theorem law_all.tw3261250254779219729 : True := trivial
theorem law_all.tw3263060017730090603 : True := trivial
theorem law_all.tw3284748957273996875 : True := trivial
theorem law_all.tw3296963836593520940 : True := trivial
theorem law_all.tw3325111520719290175 : True := trivial
theorem law_all.tw3426539022656043222 : True := trivial
theorem law_all.tw34981568851968291 : True := trivial
theorem law_all.tw3602784471345507114 : True := trivial
theorem law_all.tw3658401073832251761 : True := trivial
theorem law_all.tw3663503265976199116 : True := trivial
theorem law_all.tw3672090284324724409 : True := trivial
theorem law_all.tw3686042991225109028 : True := trivial
theorem law_all.tw3728958221131766131 : True := trivial
theorem law_all.tw3740185271146487245 : True := trivial
theorem law_all.tw374766727668220859 : True := trivial
theorem law_all.tw3806819470392062991 : True := trivial
theorem law_all.tw3813577191599259775 : True := trivial
theorem law_all.tw3826946535189723318 : True := trivial
theorem law_all.tw3877723044392924569 : True := trivial
theorem law_all.tw3903515962272563663 : True := trivial
theorem law_all.tw3907663706730131783 : True := trivial
theorem law_all.tw3925733211270898213 : True := trivial
theorem law_all.tw3983192056104361193 : True := trivial
theorem law_all.tw3986953027485292477 : True := trivial
theorem law_all.tw404534946110283943 : True := trivial
theorem law_all.tw4078097894350094191 : True := trivial
theorem law_all.tw4105255371170773908 : True := trivial
theorem law_all.tw4179209112946984403 : True := trivial
theorem law_all.tw4182408002180818360 : True := trivial
theorem law_all.tw4209580645262858671 : True := trivial
theorem law_all.tw4289236661132030044 : True := trivial
theorem law_all.tw4338267340049963969 : True := trivial
theorem law_all.tw4373205857372294398 : True := trivial
theorem law_all.tw43822206185756307 : True := trivial
theorem law_all.tw4408054295985219607 : True := trivial
theorem law_all.tw4449761216389261190 : True := trivial
theorem law_all.tw4463155090383804945 : True := trivial
theorem law_all.tw4481082551865045004 : True := trivial
theorem law_all.tw4531640430275123664 : True := trivial
theorem law_all.tw4545471796157021838 : True := trivial
theorem law_all.tw4547236602926478784 : True := trivial
theorem law_all.tw4607750278909125284 : True := trivial
theorem law_all.tw4638716497167235156 : True := trivial
theorem law_all.tw4663659113027530946 : True := trivial
theorem law_all.tw4665142225715192508 : True := trivial
theorem law_all.tw4771868648470891126 : True := trivial
theorem law_all.tw4800166454244708440 : True := trivial
theorem law_all.tw4813110628315333655 : True := trivial
theorem law_all.tw4875587917594351017 : True := trivial
theorem law_all.tw4881685112826633117 : True := trivial
theorem law_all.tw498969334165971575 : True := trivial
theorem law_all.tw5007728179111998763 : True := trivial
theorem law_all.tw5099097261256123588 : True := trivial
theorem law_all.tw5105902913525381356 : True := trivial
theorem law_all.tw5113565536986230370 : True := trivial
theorem law_all.tw5124336459398086462 : True := trivial
theorem law_all.tw51366843150158886 : True := trivial
theorem law_all.tw5143838461203301668 : True := trivial
theorem law_all.tw5176073063277498486 : True := trivial
theorem law_all.tw5184584404607951288 : True := trivial
theorem law_all.tw5199301434253951998 : True := trivial
theorem law_all.tw5285307726481897559 : True := trivial
theorem law_all.tw5303721570435103674 : True := trivial
theorem law_all.tw5332743953270975010 : True := trivial
theorem law_all.tw5386138778478946084 : True := trivial
theorem law_all.tw5391715999942285979 : True := trivial
theorem law_all.tw5407152262560994199 : True := trivial
theorem law_all.tw5429858767254799258 : True := trivial
theorem law_all.tw5467091673537627360 : True := trivial
theorem law_all.tw5483578599265696199 : True := trivial
theorem law_all.tw5542367601281971411 : True := trivial
theorem law_all.tw5621885739728775620 : True := trivial
theorem law_all.tw569701484050765398 : True := trivial
theorem law_all.tw5810238935025566227 : True := trivial
theorem law_all.tw5857963957486633590 : True := trivial
theorem law_all.tw5914833246583547866 : True := trivial
theorem law_all.tw5923626274025043023 : True := trivial
theorem law_all.tw5925129876391146066 : True := trivial
theorem law_all.tw5947366203799548357 : True := trivial
theorem law_all.tw5962365601980372440 : True := trivial
theorem law_all.tw6001686606448372975 : True := trivial
theorem law_all.tw6022211634629375331 : True := trivial
theorem law_all.tw6068437695709350847 : True := trivial
theorem law_all.tw6231318655119160662 : True := trivial
theorem law_all.tw623384496221371744 : True := trivial
theorem law_all.tw6250623550151289363 : True := trivial
theorem law_all.tw6281336798887741830 : True := trivial
theorem law_all.tw6311965134907485826 : True := trivial
theorem law_all.tw6317846471518068684 : True := trivial
theorem law_all.tw6352045179492744985 : True := trivial
theorem law_all.tw6355135678535457092 : True := trivial
theorem law_all.tw6372170185144319752 : True := trivial
theorem law_all.tw6394399434190074597 : True := trivial
theorem law_all.tw6411806976011853373 : True := trivial
theorem law_all.tw645013614473375241 : True := trivial
theorem law_all.tw6456847839567275990 : True := trivial
theorem law_all.tw6471123649784635168 : True := trivial
theorem law_all.tw6495852183210934563 : True := trivial
theorem law_all.tw6513319782983348548 : True := trivial
theorem law_all.tw6541656116107318362 : True := trivial
theorem law_all.tw6550320685308687620 : True := trivial
theorem law_all.tw6554969296146612895 : True := trivial
theorem law_all.tw6564360385875737041 : True := trivial
theorem law_all.tw6592884879708733306 : True := trivial
theorem law_all.tw6645749129768185620 : True := trivial
theorem law_all.tw6652356289361680949 : True := trivial
theorem law_all.tw6723525195617269812 : True := trivial
theorem law_all.tw6775264209203825292 : True := trivial
theorem law_all.tw6818535541638068524 : True := trivial
theorem law_all.tw6821728593225765917 : True := trivial
theorem law_all.tw7042643379613257464 : True := trivial
theorem law_all.tw7049779834799297369 : True := trivial
theorem law_all.tw7093450904264552785 : True := trivial
theorem law_all.tw711021382710547372 : True := trivial
theorem law_all.tw7188791813448049371 : True := trivial
theorem law_all.tw7209142699435546151 : True := trivial
theorem law_all.tw7219402698325937587 : True := trivial
theorem law_all.tw7241301525396740710 : True := trivial
theorem law_all.tw7244142420057014546 : True := trivial
theorem law_all.tw7271498159299846290 : True := trivial
theorem law_all.tw7271922334478322552 : True := trivial
theorem law_all.tw7290121776363987770 : True := trivial
theorem law_all.tw7296818474457393607 : True := trivial
theorem law_all.tw7297819598837024618 : True := trivial
theorem law_all.tw7318158564511299729 : True := trivial
theorem law_all.tw7382394883274062982 : True := trivial
theorem law_all.tw7385059913978287034 : True := trivial
theorem law_all.tw7406990479455149028 : True := trivial
theorem law_all.tw7424173207631694637 : True := trivial
theorem law_all.tw743412211500013303 : True := trivial
theorem law_all.tw7470513268851451213 : True := trivial
theorem law_all.tw7497220510776412333 : True := trivial
theorem law_all.tw7506031421445054254 : True := trivial
theorem law_all.tw7515087699904939769 : True := trivial
theorem law_all.tw7518268271031788722 : True := trivial
theorem law_all.tw7570389025846386837 : True := trivial
theorem law_all.tw7574916185476446870 : True := trivial
theorem law_all.tw7647884552941119451 : True := trivial
theorem law_all.tw7697204384454675280 : True := trivial
theorem law_all.tw7718588101098686155 : True := trivial
theorem law_all.tw7757561431791933054 : True := trivial
theorem law_all.tw7791439051762490624 : True := trivial
theorem law_all.tw782427809645370415 : True := trivial
theorem law_all.tw7837713855860009970 : True := trivial
theorem law_all.tw7897600568026276390 : True := trivial
theorem law_all.tw796818876455020728 : True := trivial
theorem law_all.tw801417409540640141 : True := trivial
theorem law_all.tw8102590376130340518 : True := trivial
theorem law_all.tw8192627400900402444 : True := trivial
theorem law_all.tw8259473591719373357 : True := trivial
theorem law_all.tw8295653638501232855 : True := trivial
theorem law_all.tw8305597428437692698 : True := trivial
theorem law_all.tw8352638903468824440 : True := trivial
theorem law_all.tw8406315387685492880 : True := trivial
theorem law_all.tw8410422384732016249 : True := trivial
theorem law_all.tw8496572883052770167 : True := trivial
theorem law_all.tw8559622642134532576 : True := trivial
theorem law_all.tw8585119295471724657 : True := trivial
theorem law_all.tw8587321083128229445 : True := trivial
theorem law_all.tw8595197912787149095 : True := trivial
theorem law_all.tw8645198988984335144 : True := trivial
theorem law_all.tw8652508824891024273 : True := trivial
theorem law_all.tw8665318985690784266 : True := trivial
theorem law_all.tw866766908457270551 : True := trivial
theorem law_all.tw8729561690571945798 : True := trivial
theorem law_all.tw8755279341700096616 : True := trivial
theorem law_all.tw8810683771702325575 : True := trivial
theorem law_all.tw8836462397961589918 : True := trivial
theorem law_all.tw8858638111541304496 : True := trivial
theorem law_all.tw892440070764786429 : True := trivial
theorem law_all.tw8937883705780218553 : True := trivial
theorem law_all.tw8986646422429841763 : True := trivial
theorem law_all.tw8998419837362456327 : True := trivial
theorem law_all.tw9026439464527418359 : True := trivial
theorem law_all.tw9055577570390366099 : True := trivial
theorem law_all.tw906757414912418612 : True := trivial
theorem law_all.tw9126654936404069527 : True := trivial
theorem law_all.tw9135970852051700672 : True := trivial
theorem law_all.tw9144500139776326259 : True := trivial
theorem law_all.tw9219900260585041019 : True := trivial
theorem law_all.tw9278164327587833473 : True := trivial
theorem law_all.tw9278401209076089947 : True := trivial
theorem law_all.tw9310598725500422130 : True := trivial
theorem law_all.tw9337859482809679654 : True := trivial
theorem law_all.tw937055499877386264 : True := trivial
theorem law_all.tw9400421687833027045 : True := trivial
theorem law_all.tw941666048300869634 : True := trivial
theorem law_all.tw9421408513443329588 : True := trivial
theorem law_all.tw9429942708143374130 : True := trivial
theorem law_all.tw9441140268209864922 : True := trivial
theorem law_all.tw9462503695670663216 : True := trivial
theorem law_all.tw9496831969247301946 : True := trivial
theorem law_all.tw9505956043534509327 : True := trivial
theorem law_all.tw9552890226225023792 : True := trivial
theorem law_all.tw9615829016262974664 : True := trivial
theorem law_all.tw9619780615421632182 : True := trivial
theorem law_all.tw9642360315720231220 : True := trivial
theorem law_all.tw9697324461614764831 : True := trivial
theorem law_all.tw9729604732972894722 : True := trivial
theorem law_all.tw9741297799410488584 : True := trivial
theorem law_all.tw9758465039191818689 : True := trivial
theorem law_all.tw9839478241757703614 : True := trivial
theorem law_all.tw9881681013793774600 : True := trivial
theorem law_all.tw9885059535474818502 : True := trivial
theorem law_all.tw9906353361400467681 : True := trivial
theorem law_all.tw9930186087560989292 : True := trivial
theorem law_all.tw9987792911408698340 : True := trivial
set_option Elab.async true in
theorem law_all : PySem.Challenge.rw_xm0626_01.Holds := by
  w_on; o_law; o_head (kHook frag frags frags_ok); (case hw => w_witness2)
  k_go0
  rename Heap.IsList _ _ _ => hL
  rename IntsAre _ _ => hI
  rename ¬ _ => hlen
  refine law_enter [Str.ofString "hand", Str.ofString "room", Str.ofString "deeds", Str.ofString "t", Str.ofString "places", Str.ofString "lot", Str.ofString "deed", Str.ofString "one", Str.ofString "value"] (by assumption) (by assumption) (by assumption) (by assumption) rfl rfl rfl rfl rfl rfl rfl (by decide +kernel) (by dsimp only [envOf]; decide +kernel) ?_ ?_
  · intro c ok hgc hroom hsc hloc hbase
    rw [← hbase] at hL
    exact law_walk ok hgc hroom hsc hloc hL hI (by omega)
  · intro h' tk' hk
    have hgens : ∀ {g : Array GenState} (e : g = #[]), g = #[] := fun e => e
    exact ⟨.inl ⟨_, _, [], rfl, fun _ => rfl, ReadsW.bool true, by first | rfl | wrow_post, fun _ => ⟨List.nodup_nil, fun _ hm => nomatch hm⟩⟩, hk, rfl, by assumption⟩
end Mine
theorem PySem.Challenge.cw_xm0626_01_holds : PySem.Challenge.rw_xm0626_01.Holds :=
  Mine.law_all
