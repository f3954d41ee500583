import PyProof.Rows.All
import Wide.All
import OpenK.AllK
import Wide.FinOn
import PySem.Challenge.RW_pq0110_01
set_option Elab.async false
set_option linter.unusedVariables false
set_option genInjectivity false
set_option genSizeOfSpec false
section
open PySem PySem.W PyProof.Rows
set_option Elab.async false
set_option maxRecDepth 100000
set_option maxHeartbeats 8000000
namespace Mine
namespace hd
noncomputable abbrev pr : Program := PySem.Challenge.rw_pq0110_01.row.toRowW.prog
noncomputable def nth : List Stmt → Nat → Stmt
  | s :: _, 0 => s
  | _ :: l, n+1 => nth l n
  | [], _ => .Pass ⟨0, 0, 0, 0⟩
noncomputable def inside : Stmt → List Stmt
  | .ClassDef _ _ _ b _ _ _ _ _ _ _ => b
  | _ => []
noncomputable def S (n : Nat) : Stmt := nth pr.main.body n
noncomputable def M (c n : Nat) : Stmt := nth (inside (S c)) n
noncomputable def fa : Stmt → Arguments
  | .FunctionDef _ a _ _ _ _ _ _ _ _ => a
  | _ => default
noncomputable def fb : Stmt → List Stmt
  | .FunctionDef _ _ b _ _ _ _ _ _ _ => b
  | _ => []
noncomputable def fs : Stmt → Scope
  | .FunctionDef _ _ _ _ _ _ s _ _ _ => s
  | _ => default
noncomputable def heap_39 : Params → Frag := fun P =>
  (2, ⟨.none, .none, (.dict #[⟨(PyData.keyHash P "type.__subclasses__.Exception.0"), (.str "type.__subclasses__.Exception.0" 230), (.int 47 0)⟩, ⟨(PyData.keyHash P "type.__subclasses__.Exception.n"), 
 (.str "type.__subclasses__.Exception.n" 231), (.int 1 0)⟩] 2), #[]⟩) ::
  (3, ⟨(.type "dict"), .none, (.dict #[⟨(PyData.keyHash P "__name__"), (.str "__name__" 165), (.str "law_pq0110_01" 395)⟩, ⟨(PyData.keyHash P "__doc__"), (.str "__doc__" 166), .none⟩, ⟨(PyData.keyHash 
 P "__package__"), (.str "__package__" 167), .none⟩, ⟨(PyData.keyHash P "__loader__"), (.str "__loader__" 168), (.builtin "__main__.__loader__#opaque")⟩, ⟨(PyData.keyHash P "__spec__"), (.str 
 "__spec__" 169), .none⟩, ⟨(PyData.keyHash P "__annotations__"), (.str "__annotations__" 170), (.ref 6)⟩, ⟨(PyData.keyHash P "__builtins__"), (.str "__builtins__" 171), (.ref 4)⟩, ⟨(PyData.keyHash 
 P "__file__"), (.str "__file__" 173), (.str "/claim/cut.py" 172)⟩, ⟨(PyData.keyHash P "__cached__"), (.str "__cached__" 174), .none⟩, ⟨(PyData.keyHash P "_wall"), (.str "_wall" 193), (.ref 21)⟩, 
 ⟨(PyData.keyHash P "HeapError"), (.str "HeapError" 233), (.ref 47)⟩, ⟨(PyData.keyHash P "TermFault"), (.str "TermFault" 249), (.ref 60)⟩, ⟨(PyData.keyHash P "is_op"), (.str "is_op" 257), (.ref 
 67)⟩, ⟨(PyData.keyHash P "parts"), (.str "parts" 263), (.ref 72)⟩, ⟨(PyData.keyHash P "Bank"), (.str "Bank" 394), (.ref 174)⟩, ⟨(PyData.keyHash P "_law_width"), (.str "_law_width" 402), (.ref 
 185)⟩, ⟨(PyData.keyHash P "_law_odd"), (.str "_law_odd" 408), (.ref 192)⟩, ⟨(PyData.keyHash P "_law_draw"), (.str "_law_draw" 417), (.ref 199)⟩, ⟨(PyData.keyHash P "_law_tree"), (.str "_law_tree" 
 423), (.ref 204)⟩, ⟨(PyData.keyHash P "_law_is_fine"), (.str "_law_is_fine" 429), (.ref 209)⟩, ⟨(PyData.keyHash P "_law_ranked"), (.str "_law_ranked" 438), (.ref 216)⟩, ⟨(PyData.keyHash P "_law_heavy"), 
 (.str "_law_heavy" 444), (.ref 221)⟩, ⟨(PyData.keyHash P "_law_long"), (.str "_law_long" 450), (.ref 226)⟩, ⟨(PyData.keyHash P "_law_is_put_right"), (.str "_law_is_put_right" 462), (.ref 233)⟩, 
 ⟨(PyData.keyHash P "_law_kid"), (.str "_law_kid" 471), (.ref 240)⟩, ⟨(PyData.keyHash P "_law_is_taken_right"), (.str "_law_is_taken_right" 477), (.ref 245)⟩, ⟨(PyData.keyHash P "_law_is_known_right"), 
 (.str "_law_is_known_right" 483), (.ref 250)⟩, ⟨(PyData.keyHash P "law"), (.str "law" 489), (.ref 255)⟩] 28), #[]⟩) ::
  (15, ⟨(.type "tuple"), .none, (.seq #[] 0), #[]⟩) ::
  (17, ⟨(.type "tuple"), .none, (.seq #[(.str "k" 190)] 0), #[]⟩) ::
  (18, ⟨(.type "tuple"), .none, (.seq #[] 0), #[]⟩) ::
  (20, ⟨(.type "code"), .none, (.fields #[(.str "_wall" 187), (.str "_wall" 188), (.str "/claim/cut.py" 189), (.int 1 0), (.int 1 0), (.int 0 0), (.int 0 0), (.int 3 0), (.ref 15), (.bool .true), 
 (.int 181 0), (.ref 16), .none, (.ref 17), (.ref 18), (.ref 19), (.int 191 0), (.int 1 0), (.str "/claim/cut.py" 192)]), #[]⟩) ::
  (21, ⟨(.type "function"), .none, (.func ⟨"_wall", "_wall", fa (S 0), .stmts (fb (S 0)), fs (S 0), 3, [], .none, .none, .none, (.str "__main__" 164), .none, (.ref 20), .none, 0⟩), #[]⟩) ::
  (22, ⟨(.type "tuple"), .none, (.seq #[(.type "Exception")] 0), #[]⟩) ::
  (25, ⟨(.type "cell"), .none, (.cell (.some (.ref 47))), #[]⟩) ::
  (30, ⟨(.type "tuple"), .none, (.seq #[(.ref 25)] 0), #[]⟩) ::
  (31, ⟨(.type "tuple"), .none, (.seq #[(.str "__class__" 211)] 0), #[]⟩) ::
  (33, ⟨(.type "tuple"), .none, (.seq #[(.str "self" 212), (.str "what" 213)] 0), #[]⟩) ::
  (34, ⟨(.type "tuple"), .none, (.seq #[] 0), #[]⟩) ::
  (36, ⟨(.type "code"), .none, (.fields #[(.str "__init__" 208), (.str "HeapError.__init__" 209), (.str "/claim/cut.py" 210), (.int 7 0), (.int 2 0), (.int 0 0), (.int 0 0), (.int 3 0), (.ref 31), 
 (.bool .true), (.int 181 0), (.ref 32), .none, (.ref 33), (.ref 34), (.ref 35), (.int 214 0), (.int 7 0), (.str "/claim/cut.py" 215)]), #[]⟩) ::
  (37, ⟨(.type "function"), .none, (.func ⟨"__init__", "HeapError.__init__", fa (M 2 0), .stmts (fb (M 2 0)), fs (M 2 0), 3, [("__class__", 25)], .none, .none, .none, (.str "alikeheap.errors" 194), 
 .none, (.ref 36), (.ref 30), 0⟩), #[]⟩) ::
  (38, ⟨(.type "tuple"), .none, (.seq #[] 0), #[]⟩) ::
  (40, ⟨(.type "tuple"), .none, (.seq #[(.str "self" 220)] 0), #[]⟩) ::
  (41, ⟨(.type "tuple"), .none, (.seq #[] 0), #[]⟩) ::
  (43, ⟨(.type "code"), .none, (.fields #[(.str "told" 217), (.str "HeapError.told" 218), (.str "/claim/cut.py" 219), (.int 11 0), (.int 1 0), (.int 0 0), (.int 0 0), (.int 3 0), (.ref 38), (.bool 
 .true), (.int 181 0), (.ref 39), .none, (.ref 40), (.ref 41), (.ref 42), (.int 221 0), (.int 11 0), (.str "/claim/cut.py" 222)]), #[]⟩) ::
  (44, ⟨(.type "function"), .none, (.func ⟨"told", "HeapError.told", fa (M 2 1), .stmts (fb (M 2 1)), fs (M 2 1), 3, [], .none, .none, .none, (.str "alikeheap.errors" 194), .none, (.ref 43), .none, 
 0⟩), #[]⟩) ::
  (45, ⟨(.type "tuple"), .none, (.seq #[(.str "what" 224)] 0), #[]⟩) ::
  (46, ⟨(.type "dict"), .none, (.dict #[⟨(PyData.keyHash P "__module__"), (.str "__module__" 203), (.str "alikeheap.errors" 194)⟩, ⟨(PyData.keyHash P "__firstlineno__"), (.str "__firstlineno__" 
 207), (.int 5 206)⟩, ⟨(PyData.keyHash P "__init__"), (.str "__init__" 216), (.ref 37)⟩, ⟨(PyData.keyHash P "told"), (.str "told" 223), (.ref 44)⟩, ⟨(PyData.keyHash P "__static_attributes__"), 
 (.str "__static_attributes__" 225), (.ref 45)⟩, ⟨(PyData.keyHash P "__weakref__"), (.str "__weakref__" 228), (.ref 48)⟩, ⟨(PyData.keyHash P "__doc__"), (.str "__doc__" 229), .none⟩] 4), #[]⟩) ::
  (47, ⟨(.type "type"), .none, (.cls ⟨"HeapError", [(.type "Exception")], [(.ref 47), (.type "Exception"), (.type "BaseException"), (.type "object")], 46, "HeapError", .true, [], [(.ref 60)], .false, 
 .none, .false⟩), #[(.some (.ref 22)), .none, (.some (.str "HeapError" 196)), (.some (.str "HeapError" 204)), (.some (.builtin "Exception.__new__")), (.some (.bool .true))]⟩) ::
  (48, ⟨(.type "getset_descriptor"), .none, (.fields #[(.str "__weakref__" 227), (.ref 47), (.builtin "ExceptionGroup.__weakref__"), .none]), #[]⟩) ::
  (51, ⟨(.type "tuple"), .none, (.seq #[(.ref 47)] 0), #[]⟩) ::
  (58, ⟨(.type "tuple"), .none, (.seq #[] 0), #[]⟩) ::
  (59, ⟨(.type "dict"), .none, (.dict #[⟨(PyData.keyHash P "__module__"), (.str "__module__" 241), (.str "alikeheap.errors" 194)⟩, ⟨(PyData.keyHash P "__firstlineno__"), (.str "__firstlineno__" 
 245), (.int 13 244)⟩, ⟨(PyData.keyHash P "__static_attributes__"), (.str "__static_attributes__" 246), (.ref 58)⟩, ⟨(PyData.keyHash P "__doc__"), (.str "__doc__" 247), .none⟩] 2), #[]⟩) ::
  (60, ⟨(.type "type"), .none, (.cls ⟨"TermFault", [(.ref 47)], [(.ref 60), (.ref 47), (.type "Exception"), (.type "BaseException"), (.type "object")], 59, "TermFault", .true, [], [], .false, .none, 
 .false⟩), #[(.some (.ref 51)), .none, (.some (.str "TermFault" 234)), (.some (.str "TermFault" 242)), (.some (.builtin "Exception.__new__")), (.some (.bool .true))]⟩) ::
  (63, ⟨(.type "tuple"), .none, (.seq #[] 0), #[]⟩) ::
  (66, ⟨(.type "code"), .none, (.fields #[(.str "is_op" 252), (.str "is_op" 253), (.str "/claim/cut.py" 254), (.int 16 0), (.int 1 0), (.int 0 0), (.int 0 0), (.int 3 0), (.ref 63), (.bool .true), 
 (.int 181 0), (.ref 64), .none, .none, .none, (.ref 65), (.int 255 0), (.int 16 0), (.str "/claim/cut.py" 256)]), #[]⟩) ::
  (67, ⟨(.type "function"), .none, (.func ⟨"is_op", "is_op", fa (S 5), .stmts (fb (S 5)), fs (S 5), 3, [], .none, .none, .none, (.str "alikeheap.terms" 250), .none, (.ref 66), .none, 0⟩), #[]⟩) ::
  (68, ⟨(.type "tuple"), .none, (.seq #[] 0), #[]⟩) ::
  (71, ⟨(.type "code"), .none, (.fields #[(.str "parts" 258), (.str "parts" 259), (.str "/claim/cut.py" 260), (.int 18 0), (.int 1 0), (.int 0 0), (.int 0 0), (.int 3 0), (.ref 68), (.bool .true), 
 (.int 181 0), (.ref 69), .none, .none, .none, (.ref 70), (.int 261 0), (.int 18 0), (.str "/claim/cut.py" 262)]), #[]⟩) ::
  (72, ⟨(.type "function"), .none, (.func ⟨"parts", "parts", fa (S 6), .stmts (fb (S 6)), fs (S 6), 3, [], .none, .none, .none, (.str "alikeheap.terms" 250), .none, (.ref 71), .none, 0⟩), #[]⟩) ::
  (80, ⟨(.type "tuple"), .none, (.seq #[] 0), #[]⟩) ::
  (82, ⟨(.type "tuple"), .none, (.seq #[(.str "self" 279)] 0), #[]⟩) ::
  (83, ⟨(.type "tuple"), .none, (.seq #[] 0), #[]⟩) ::
  (85, ⟨(.type "code"), .none, (.fields #[(.str "__init__" 276), (.str "Bank.__init__" 277), (.str "/claim/cut.py" 278), (.int 25 0), (.int 1 0), (.int 0 0), (.int 0 0), (.int 3 0), (.ref 80), 
 (.bool .true), (.int 181 0), (.ref 81), .none, (.ref 82), (.ref 83), (.ref 84), (.int 280 0), (.int 25 0), (.str "/claim/cut.py" 281)]), #[]⟩) ::
  (86, ⟨(.type "function"), .none, (.func ⟨"__init__", "Bank.__init__", fa (M 7 0), .stmts (fb (M 7 0)), fs (M 7 0), 3, [], .none, .none, .none, (.str "alikeheap.terms" 250), .none, (.ref 85), 
 .none, 0⟩), #[]⟩) ::
  (87, ⟨(.type "tuple"), .none, (.seq #[] 0), #[]⟩) ::
  (89, ⟨(.type "tuple"), .none, (.seq #[(.str "self" 286)] 0), #[]⟩) ::
  (90, ⟨(.type "tuple"), .none, (.seq #[] 0), #[]⟩) ::
  (92, ⟨(.type "code"), .none, (.fields #[(.str "size" 283), (.str "Bank.size" 284), (.str "/claim/cut.py" 285), (.int 31 0), (.int 1 0), (.int 0 0), (.int 0 0), (.int 3 0), (.ref 87), (.bool .true), 
 (.int 181 0), (.ref 88), .none, (.ref 89), (.ref 90), (.ref 91), (.int 287 0), (.int 31 0), (.str "/claim/cut.py" 288)]), #[]⟩) ::
  (93, ⟨(.type "function"), .none, (.func ⟨"size", "Bank.size", fa (M 7 1), .stmts (fb (M 7 1)), fs (M 7 1), 3, [], .none, .none, .none, (.str "alikeheap.terms" 250), .none, (.ref 92), .none, 0⟩), 
 #[]⟩) ::
  (94, ⟨(.type "tuple"), .none, (.seq #[] 0), #[]⟩) ::
  (97, ⟨(.type "code"), .none, (.fields #[(.str "take" 290), (.str "Bank.take" 291), (.str "/claim/cut.py" 292), (.int 34 0), (.int 3 0), (.int 0 0), (.int 0 0), (.int 3 0), (.ref 94), (.bool .true), 
 (.int 181 0), (.ref 95), .none, .none, .none, (.ref 96), (.int 293 0), (.int 34 0), (.str "/claim/cut.py" 294)]), #[]⟩) ::
  (98, ⟨(.type "function"), .none, (.func ⟨"take", "Bank.take", fa (M 7 2), .stmts (fb (M 7 2)), fs (M 7 2), 3, [], .none, .none, .none, (.str "alikeheap.terms" 250), .none, (.ref 97), .none, 0⟩), 
 #[]⟩) ::
  (99, ⟨(.type "tuple"), .none, (.seq #[] 0), #[]⟩) ::
  (101, ⟨(.type "tuple"), .none, (.seq #[(.str "self" 299), (.str "op" 300)] 0), #[]⟩) ::
  (102, ⟨(.type "tuple"), .none, (.seq #[] 0), #[]⟩) ::
  (104, ⟨(.type "code"), .none, (.fields #[(.str "require" 296), (.str "Bank.require" 297), (.str "/claim/cut.py" 298), (.int 48 0), (.int 2 0), (.int 0 0), (.int 0 0), (.int 3 0), (.ref 99), (.bool 
 .true), (.int 181 0), (.ref 100), .none, (.ref 101), (.ref 102), (.ref 103), (.int 301 0), (.int 48 0), (.str "/claim/cut.py" 302)]), #[]⟩) ::
  (105, ⟨(.type "function"), .none, (.func ⟨"require", "Bank.require", fa (M 7 3), .stmts (fb (M 7 3)), fs (M 7 3), 3, [], .none, .none, .none, (.str "alikeheap.terms" 250), .none, (.ref 104), 
 .none, 0⟩), #[]⟩) ::
  (106, ⟨(.type "tuple"), .none, (.seq #[] 0), #[]⟩) ::
  (108, ⟨(.type "tuple"), .none, (.seq #[(.str "self" 307), (.str "t" 308), (.str "path" 309), (.str "part" 310)] 0), #[]⟩) ::
  (109, ⟨(.type "tuple"), .none, (.seq #[] 0), #[]⟩) ::
  (111, ⟨(.type "code"), .none, (.fields #[(.str "put" 304), (.str "Bank.put" 305), (.str "/claim/cut.py" 306), (.int 52 0), (.int 2 0), (.int 0 0), (.int 0 0), (.int 3 0), (.ref 106), (.bool .true), 
 (.int 181 0), (.ref 107), .none, (.ref 108), (.ref 109), (.ref 110), (.int 311 0), (.int 52 0), (.str "/claim/cut.py" 312)]), #[]⟩) ::
  (112, ⟨(.type "function"), .none, (.func ⟨"put", "Bank.put", fa (M 7 4), .stmts (fb (M 7 4)), fs (M 7 4), 3, [], .none, .none, .none, (.str "alikeheap.terms" 250), .none, (.ref 111), .none, 0⟩), 
 #[]⟩) ::
  (113, ⟨(.type "tuple"), .none, (.seq #[] 0), #[]⟩) ::
  (116, ⟨(.type "code"), .none, (.fields #[(.str "put_all" 314), (.str "Bank.put_all" 315), (.str "/claim/cut.py" 316), (.int 57 0), (.int 2 0), (.int 0 0), (.int 0 0), (.int 3 0), (.ref 113), 
 (.bool .true), (.int 181 0), (.ref 114), .none, .none, .none, (.ref 115), (.int 317 0), (.int 57 0), (.str "/claim/cut.py" 318)]), #[]⟩) ::
  (117, ⟨(.type "function"), .none, (.func ⟨"put_all", "Bank.put_all", fa (M 7 5), .stmts (fb (M 7 5)), fs (M 7 5), 3, [], .none, .none, .none, (.str "alikeheap.terms" 250), .none, (.ref 116), 
 .none, 0⟩), #[]⟩) ::
  (118, ⟨(.type "tuple"), .none, (.seq #[] 0), #[]⟩) ::
  (120, ⟨(.type "tuple"), .none, (.seq #[(.str "self" 323), (.str "many" 324)] 0), #[]⟩) ::
  (121, ⟨(.type "tuple"), .none, (.seq #[] 0), #[]⟩) ::
  (123, ⟨(.type "code"), .none, (.fields #[(.str "cut" 320), (.str "Bank.cut" 321), (.str "/claim/cut.py" 322), (.int 60 0), (.int 2 0), (.int 0 0), (.int 0 0), (.int 3 0), (.ref 118), (.bool .true), 
 (.int 181 0), (.ref 119), .none, (.ref 120), (.ref 121), (.ref 122), (.int 325 0), (.int 60 0), (.str "/claim/cut.py" 326)]), #[]⟩) ::
  (124, ⟨(.type "function"), .none, (.func ⟨"cut", "Bank.cut", fa (M 7 6), .stmts (fb (M 7 6)), fs (M 7 6), 3, [], .none, .none, .none, (.str "alikeheap.terms" 250), .none, (.ref 123), .none, 0⟩), 
 #[]⟩) ::
  (125, ⟨(.type "tuple"), .none, (.seq #[] 0), #[]⟩) ::
  (127, ⟨(.type "tuple"), .none, (.seq #[(.str "self" 331), (.str "n" 332)] 0), #[]⟩) ::
  (128, ⟨(.type "tuple"), .none, (.seq #[] 0), #[]⟩) ::
  (130, ⟨(.type "code"), .none, (.fields #[(.str "op" 328), (.str "Bank.op" 329), (.str "/claim/cut.py" 330), (.int 63 0), (.int 2 0), (.int 0 0), (.int 0 0), (.int 3 0), (.ref 125), (.bool .true), 
 (.int 181 0), (.ref 126), .none, (.ref 127), (.ref 128), (.ref 129), (.int 333 0), (.int 63 0), (.str "/claim/cut.py" 334)]), #[]⟩) ::
  (131, ⟨(.type "function"), .none, (.func ⟨"op", "Bank.op", fa (M 7 7), .stmts (fb (M 7 7)), fs (M 7 7), 3, [], .none, .none, .none, (.str "alikeheap.terms" 250), .none, (.ref 130), .none, 0⟩), 
 #[]⟩) ::
  (132, ⟨(.type "tuple"), .none, (.seq #[] 0), #[]⟩) ::
  (134, ⟨(.type "tuple"), .none, (.seq #[(.str "self" 339), (.str "n" 340)] 0), #[]⟩) ::
  (135, ⟨(.type "tuple"), .none, (.seq #[] 0), #[]⟩) ::
  (137, ⟨(.type "code"), .none, (.fields #[(.str "kids" 336), (.str "Bank.kids" 337), (.str "/claim/cut.py" 338), (.int 66 0), (.int 2 0), (.int 0 0), (.int 0 0), (.int 3 0), (.ref 132), (.bool 
 .true), (.int 181 0), (.ref 133), .none, (.ref 134), (.ref 135), (.ref 136), (.int 341 0), (.int 66 0), (.str "/claim/cut.py" 342)]), #[]⟩) ::
  (138, ⟨(.type "function"), .none, (.func ⟨"kids", "Bank.kids", fa (M 7 8), .stmts (fb (M 7 8)), fs (M 7 8), 3, [], .none, .none, .none, (.str "alikeheap.terms" 250), .none, (.ref 137), .none, 
 0⟩), #[]⟩) ::
  (139, ⟨(.type "tuple"), .none, (.seq #[] 0), #[]⟩) ::
  (141, ⟨(.type "tuple"), .none, (.seq #[(.str "self" 347), (.str "n" 348)] 0), #[]⟩) ::
  (142, ⟨(.type "tuple"), .none, (.seq #[] 0), #[]⟩) ::
  (144, ⟨(.type "code"), .none, (.fields #[(.str "node" 344), (.str "Bank.node" 345), (.str "/claim/cut.py" 346), (.int 69 0), (.int 2 0), (.int 0 0), (.int 0 0), (.int 3 0), (.ref 139), (.bool 
 .true), (.int 181 0), (.ref 140), .none, (.ref 141), (.ref 142), (.ref 143), (.int 349 0), (.int 69 0), (.str "/claim/cut.py" 350)]), #[]⟩) ::
  (145, ⟨(.type "function"), .none, (.func ⟨"node", "Bank.node", fa (M 7 9), .stmts (fb (M 7 9)), fs (M 7 9), 3, [], .none, .none, .none, (.str "alikeheap.terms" 250), .none, (.ref 144), .none, 
 0⟩), #[]⟩) ::
  (146, ⟨(.type "tuple"), .none, (.seq #[] 0), #[]⟩) ::
  (149, ⟨(.type "code"), .none, (.fields #[(.str "term" 352), (.str "Bank.term" 353), (.str "/claim/cut.py" 354), (.int 72 0), (.int 2 0), (.int 0 0), (.int 0 0), (.int 3 0), (.ref 146), (.bool 
 .true), (.int 181 0), (.ref 147), .none, .none, .none, (.ref 148), (.int 355 0), (.int 72 0), (.str "/claim/cut.py" 356)]), #[]⟩) ::
  (150, ⟨(.type "function"), .none, (.func ⟨"term", "Bank.term", fa (M 7 10), .stmts (fb (M 7 10)), fs (M 7 10), 3, [], .none, .none, .none, (.str "alikeheap.terms" 250), .none, (.ref 149), .none, 
 0⟩), #[]⟩) ::
  (151, ⟨(.type "tuple"), .none, (.seq #[] 0), #[]⟩) ::
  (153, ⟨(.type "tuple"), .none, (.seq #[(.str "self" 361), (.str "n" 362)] 0), #[]⟩) ::
  (154, ⟨(.type "tuple"), .none, (.seq #[] 0), #[]⟩) ::
  (156, ⟨(.type "code"), .none, (.fields #[(.str "weight" 358), (.str "Bank.weight" 359), (.str "/claim/cut.py" 360), (.int 84 0), (.int 2 0), (.int 0 0), (.int 0 0), (.int 3 0), (.ref 151), (.bool 
 .true), (.int 181 0), (.ref 152), .none, (.ref 153), (.ref 154), (.ref 155), (.int 363 0), (.int 84 0), (.str "/claim/cut.py" 364)]), #[]⟩) ::
  (157, ⟨(.type "function"), .none, (.func ⟨"weight", "Bank.weight", fa (M 7 11), .stmts (fb (M 7 11)), fs (M 7 11), 3, [], .none, .none, .none, (.str "alikeheap.terms" 250), .none, (.ref 156), 
 .none, 0⟩), #[]⟩) ::
  (158, ⟨(.type "tuple"), .none, (.seq #[] 0), #[]⟩) ::
  (160, ⟨(.type "tuple"), .none, (.seq #[(.str "self" 369), (.str "n" 370)] 0), #[]⟩) ::
  (161, ⟨(.type "tuple"), .none, (.seq #[] 0), #[]⟩) ::
  (163, ⟨(.type "code"), .none, (.fields #[(.str "depth" 366), (.str "Bank.depth" 367), (.str "/claim/cut.py" 368), (.int 87 0), (.int 2 0), (.int 0 0), (.int 0 0), (.int 3 0), (.ref 158), (.bool 
 .true), (.int 181 0), (.ref 159), .none, (.ref 160), (.ref 161), (.ref 162), (.int 371 0), (.int 87 0), (.str "/claim/cut.py" 372)]), #[]⟩) ::
  (164, ⟨(.type "function"), .none, (.func ⟨"depth", "Bank.depth", fa (M 7 12), .stmts (fb (M 7 12)), fs (M 7 12), 3, [], .none, .none, .none, (.str "alikeheap.terms" 250), .none, (.ref 163), .none, 
 0⟩), #[]⟩) ::
  (165, ⟨(.type "tuple"), .none, (.seq #[] 0), #[]⟩) ::
  (167, ⟨(.type "tuple"), .none, (.seq #[(.str "self" 377), (.str "op" 378), (.str "kids" 379)] 0), #[]⟩) ::
  (168, ⟨(.type "tuple"), .none, (.seq #[] 0), #[]⟩) ::
  (170, ⟨(.type "code"), .none, (.fields #[(.str "seek" 374), (.str "Bank.seek" 375), (.str "/claim/cut.py" 376), (.int 90 0), (.int 3 0), (.int 0 0), (.int 0 0), (.int 3 0), (.ref 165), (.bool 
 .true), (.int 181 0), (.ref 166), .none, (.ref 167), (.ref 168), (.ref 169), (.int 380 0), (.int 90 0), (.str "/claim/cut.py" 381)]), #[]⟩) ::
  (171, ⟨(.type "function"), .none, (.func ⟨"seek", "Bank.seek", fa (M 7 13), .stmts (fb (M 7 13)), fs (M 7 13), 3, [], .none, .none, .none, (.str "alikeheap.terms" 250), .none, (.ref 170), .none, 
 0⟩), #[]⟩) ::
  (172, ⟨(.type "tuple"), .none, (.seq #[(.str "depths" 383), (.str "nodes" 384), (.str "numbers" 385), (.str "weights" 386)] 0), #[]⟩) ::
  (173, ⟨(.type "dict"), .none, (.dict #[⟨(PyData.keyHash P "__module__"), (.str "__module__" 271), (.str "alikeheap.terms" 250)⟩, ⟨(PyData.keyHash P "__firstlineno__"), (.str "__firstlineno__" 
 275), (.int 23 274)⟩, ⟨(PyData.keyHash P "__init__"), (.str "__init__" 282), (.ref 86)⟩, ⟨(PyData.keyHash P "size"), (.str "size" 289), (.ref 93)⟩, ⟨(PyData.keyHash P "take"), (.str "take" 295), 
 (.ref 98)⟩, ⟨(PyData.keyHash P "require"), (.str "require" 303), (.ref 105)⟩, ⟨(PyData.keyHash P "put"), (.str "put" 313), (.ref 112)⟩, ⟨(PyData.keyHash P "put_all"), (.str "put_all" 319), (.ref 
 117)⟩, ⟨(PyData.keyHash P "cut"), (.str "cut" 327), (.ref 124)⟩, ⟨(PyData.keyHash P "op"), (.str "op" 335), (.ref 131)⟩, ⟨(PyData.keyHash P "kids"), (.str "kids" 343), (.ref 138)⟩, ⟨(PyData.keyHash 
 P "node"), (.str "node" 351), (.ref 145)⟩, ⟨(PyData.keyHash P "term"), (.str "term" 357), (.ref 150)⟩, ⟨(PyData.keyHash P "weight"), (.str "weight" 365), (.ref 157)⟩, ⟨(PyData.keyHash P "depth"), 
 (.str "depth" 373), (.ref 164)⟩, ⟨(PyData.keyHash P "seek"), (.str "seek" 382), (.ref 171)⟩, ⟨(PyData.keyHash P "__static_attributes__"), (.str "__static_attributes__" 387), (.ref 172)⟩, ⟨(PyData.keyHash 
 P "__dict__"), (.str "__dict__" 389), (.ref 175)⟩, ⟨(PyData.keyHash P "__weakref__"), (.str "__weakref__" 391), (.ref 176)⟩, ⟨(PyData.keyHash P "__doc__"), (.str "__doc__" 392), .none⟩] 4), 
 #[]⟩) ::
  (174, ⟨(.type "type"), .none, (.cls ⟨"Bank", [(.type "object")], [(.ref 174), (.type "object")], 173, "Bank", .true, [], [], .false, .none, .false⟩), #[.none, .none, (.some (.str "Bank" 264)), 
 (.some (.str "Bank" 272)), (.some (.builtin "object.__new__")), (.some (.bool .true))]⟩) ::
  (175, ⟨(.type "getset_descriptor"), .none, (.fields #[(.str "__dict__" 388), (.ref 174), (.builtin "function.__dict__"), (.builtin "function.__dict__#set")]), #[]⟩) ::
  (176, ⟨(.type "getset_descriptor"), .none, (.fields #[(.str "__weakref__" 390), (.ref 174), (.builtin "ExceptionGroup.__weakref__"), .none]), #[]⟩) ::
  (179, ⟨(.type "tuple"), .none, (.seq #[] 0), #[]⟩) ::
  (181, ⟨(.type "tuple"), .none, (.seq #[] 0), #[]⟩) ::
  (182, ⟨(.type "tuple"), .none, (.seq #[] 0), #[]⟩) ::
  (184, ⟨(.type "code"), .none, (.fields #[(.str "_law_width" 397), (.str "_law_width" 398), (.str "/claim/cut.py" 399), (.int 93 0), (.int 0 0), (.int 0 0), (.int 0 0), (.int 3 0), (.ref 179), 
 (.bool .true), (.int 181 0), (.ref 180), .none, (.ref 181), (.ref 182), (.ref 183), (.int 400 0), (.int 93 0), (.str "/claim/cut.py" 401)]), #[]⟩) ::
  (185, ⟨(.type "function"), .none, (.func ⟨"_law_width", "_law_width", fa (S 9), .stmts (fb (S 9)), fs (S 9), 3, [], .none, .none, .none, (.str "law_pq0110_01" 395), .none, (.ref 184), .none, 
 0⟩), #[]⟩) ::
  (186, ⟨(.type "tuple"), .none, (.seq #[] 0), #[]⟩) ::
  (188, ⟨(.type "tuple"), .none, (.seq #[] 0), #[]⟩) ::
  (189, ⟨(.type "tuple"), .none, (.seq #[] 0), #[]⟩) ::
  (191, ⟨(.type "code"), .none, (.fields #[(.str "_law_odd" 403), (.str "_law_odd" 404), (.str "/claim/cut.py" 405), (.int 95 0), (.int 0 0), (.int 0 0), (.int 0 0), (.int 3 0), (.ref 186), (.bool 
 .true), (.int 181 0), (.ref 187), .none, (.ref 188), (.ref 189), (.ref 190), (.int 406 0), (.int 95 0), (.str "/claim/cut.py" 407)]), #[]⟩) ::
  (192, ⟨(.type "function"), .none, (.func ⟨"_law_odd", "_law_odd", fa (S 10), .stmts (fb (S 10)), fs (S 10), 3, [], .none, .none, .none, (.str "law_pq0110_01" 395), .none, (.ref 191), .none, 0⟩), 
 #[]⟩) ::
  (193, ⟨(.type "tuple"), .none, (.seq #[] 0), #[]⟩) ::
  (195, ⟨(.type "tuple"), .none, (.seq #[(.str "feed" 412), (.str "wide" 413), (.str "k" 414)] 0), #[]⟩) ::
  (196, ⟨(.type "tuple"), .none, (.seq #[] 0), #[]⟩) ::
  (198, ⟨(.type "code"), .none, (.fields #[(.str "_law_draw" 409), (.str "_law_draw" 410), (.str "/claim/cut.py" 411), (.int 97 0), (.int 2 0), (.int 0 0), (.int 0 0), (.int 3 0), (.ref 193), (.bool 
 .true), (.int 181 0), (.ref 194), .none, (.ref 195), (.ref 196), (.ref 197), (.int 415 0), (.int 97 0), (.str "/claim/cut.py" 416)]), #[]⟩) ::
  (199, ⟨(.type "function"), .none, (.func ⟨"_law_draw", "_law_draw", fa (S 11), .stmts (fb (S 11)), fs (S 11), 3, [], .none, .none, .none, (.str "law_pq0110_01" 395), .none, (.ref 198), .none, 
 0⟩), #[]⟩) ::
  (200, ⟨(.type "tuple"), .none, (.seq #[] 0), #[]⟩) ::
  (203, ⟨(.type "code"), .none, (.fields #[(.str "_law_tree" 418), (.str "_law_tree" 419), (.str "/claim/cut.py" 420), (.int 103 0), (.int 2 0), (.int 0 0), (.int 0 0), (.int 3 0), (.ref 200), 
 (.bool .true), (.int 181 0), (.ref 201), .none, .none, .none, (.ref 202), (.int 421 0), (.int 103 0), (.str "/claim/cut.py" 422)]), #[]⟩) ::
  (204, ⟨(.type "function"), .none, (.func ⟨"_law_tree", "_law_tree", fa (S 12), .stmts (fb (S 12)), fs (S 12), 3, [], .none, .none, .none, (.str "law_pq0110_01" 395), .none, (.ref 203), .none, 
 0⟩), #[]⟩) ::
  (205, ⟨(.type "tuple"), .none, (.seq #[] 0), #[]⟩) ::
  (208, ⟨(.type "code"), .none, (.fields #[(.str "_law_is_fine" 424), (.str "_law_is_fine" 425), (.str "/claim/cut.py" 426), (.int 108 0), (.int 1 0), (.int 0 0), (.int 0 0), (.int 3 0), (.ref 
 205), (.bool .true), (.int 181 0), (.ref 206), .none, .none, .none, (.ref 207), (.int 427 0), (.int 108 0), (.str "/claim/cut.py" 428)]), #[]⟩) ::
  (209, ⟨(.type "function"), .none, (.func ⟨"_law_is_fine", "_law_is_fine", fa (S 13), .stmts (fb (S 13)), fs (S 13), 3, [], .none, .none, .none, (.str "law_pq0110_01" 395), .none, (.ref 208), 
 .none, 0⟩), #[]⟩) ::
  (210, ⟨(.type "tuple"), .none, (.seq #[] 0), #[]⟩) ::
  (212, ⟨(.type "tuple"), .none, (.seq #[(.str "mine" 433), (.str "tree" 434), (.str "kid" 435)] 0), #[]⟩) ::
  (213, ⟨(.type "tuple"), .none, (.seq #[] 0), #[]⟩) ::
  (215, ⟨(.type "code"), .none, (.fields #[(.str "_law_ranked" 430), (.str "_law_ranked" 431), (.str "/claim/cut.py" 432), (.int 110 0), (.int 2 0), (.int 0 0), (.int 0 0), (.int 3 0), (.ref 210), 
 (.bool .true), (.int 181 0), (.ref 211), .none, (.ref 212), (.ref 213), (.ref 214), (.int 436 0), (.int 110 0), (.str "/claim/cut.py" 437)]), #[]⟩) ::
  (216, ⟨(.type "function"), .none, (.func ⟨"_law_ranked", "_law_ranked", fa (S 14), .stmts (fb (S 14)), fs (S 14), 3, [], .none, .none, .none, (.str "law_pq0110_01" 395), .none, (.ref 215), .none, 
 0⟩), #[]⟩) ::
  (217, ⟨(.type "tuple"), .none, (.seq #[] 0), #[]⟩) ::
  (220, ⟨(.type "code"), .none, (.fields #[(.str "_law_heavy" 439), (.str "_law_heavy" 440), (.str "/claim/cut.py" 441), (.int 116 0), (.int 1 0), (.int 0 0), (.int 0 0), (.int 3 0), (.ref 217), 
 (.bool .true), (.int 181 0), (.ref 218), .none, .none, .none, (.ref 219), (.int 442 0), (.int 116 0), (.str "/claim/cut.py" 443)]), #[]⟩) ::
  (221, ⟨(.type "function"), .none, (.func ⟨"_law_heavy", "_law_heavy", fa (S 15), .stmts (fb (S 15)), fs (S 15), 3, [], .none, .none, .none, (.str "law_pq0110_01" 395), .none, (.ref 220), .none, 
 0⟩), #[]⟩) ::
  (222, ⟨(.type "tuple"), .none, (.seq #[] 0), #[]⟩) ::
  (225, ⟨(.type "code"), .none, (.fields #[(.str "_law_long" 445), (.str "_law_long" 446), (.str "/claim/cut.py" 447), (.int 118 0), (.int 1 0), (.int 0 0), (.int 0 0), (.int 3 0), (.ref 222), 
 (.bool .true), (.int 181 0), (.ref 223), .none, .none, .none, (.ref 224), (.int 448 0), (.int 118 0), (.str "/claim/cut.py" 449)]), #[]⟩) ::
  (226, ⟨(.type "function"), .none, (.func ⟨"_law_long", "_law_long", fa (S 16), .stmts (fb (S 16)), fs (S 16), 3, [], .none, .none, .none, (.str "law_pq0110_01" 395), .none, (.ref 225), .none, 
 0⟩), #[]⟩) ::
  (227, ⟨(.type "tuple"), .none, (.seq #[] 0), #[]⟩) ::
  (229, ⟨(.type "tuple"), .none, (.seq #[(.str "feed" 454), (.str "bank" 455), (.str "mine" 456), (.str "tree" 457), (.str "before" 458), (.str "got" 459)] 0), #[]⟩) ::
  (230, ⟨(.type "tuple"), .none, (.seq #[] 0), #[]⟩) ::
  (232, ⟨(.type "code"), .none, (.fields #[(.str "_law_is_put_right" 451), (.str "_law_is_put_right" 452), (.str "/claim/cut.py" 453), (.int 120 0), (.int 3 0), (.int 0 0), (.int 0 0), (.int 3 
 0), (.ref 227), (.bool .true), (.int 181 0), (.ref 228), .none, (.ref 229), (.ref 230), (.ref 231), (.int 460 0), (.int 120 0), (.str "/claim/cut.py" 461)]), #[]⟩) ::
  (233, ⟨(.type "function"), .none, (.func ⟨"_law_is_put_right", "_law_is_put_right", fa (S 17), .stmts (fb (S 17)), fs (S 17), 3, [], .none, .none, .none, (.str "law_pq0110_01" 395), .none, (.ref 
 232), .none, 0⟩), #[]⟩) ::
  (234, ⟨(.type "tuple"), .none, (.seq #[] 0), #[]⟩) ::
  (236, ⟨(.type "tuple"), .none, (.seq #[(.str "feed" 466), (.str "many" 467), (.str "way" 468)] 0), #[]⟩) ::
  (237, ⟨(.type "tuple"), .none, (.seq #[] 0), #[]⟩) ::
  (239, ⟨(.type "code"), .none, (.fields #[(.str "_law_kid" 463), (.str "_law_kid" 464), (.str "/claim/cut.py" 465), (.int 129 0), (.int 2 0), (.int 0 0), (.int 0 0), (.int 3 0), (.ref 234), (.bool 
 .true), (.int 181 0), (.ref 235), .none, (.ref 236), (.ref 237), (.ref 238), (.int 469 0), (.int 129 0), (.str "/claim/cut.py" 470)]), #[]⟩) ::
  (240, ⟨(.type "function"), .none, (.func ⟨"_law_kid", "_law_kid", fa (S 18), .stmts (fb (S 18)), fs (S 18), 3, [], .none, .none, .none, (.str "law_pq0110_01" 395), .none, (.ref 239), .none, 0⟩), 
 #[]⟩) ::
  (241, ⟨(.type "tuple"), .none, (.seq #[] 0), #[]⟩) ::
  (244, ⟨(.type "code"), .none, (.fields #[(.str "_law_is_taken_right" 472), (.str "_law_is_taken_right" 473), (.str "/claim/cut.py" 474), (.int 134 0), (.int 3 0), (.int 0 0), (.int 0 0), (.int 
 3 0), (.ref 241), (.bool .true), (.int 181 0), (.ref 242), .none, .none, .none, (.ref 243), (.int 475 0), (.int 134 0), (.str "/claim/cut.py" 476)]), #[]⟩) ::
  (245, ⟨(.type "function"), .none, (.func ⟨"_law_is_taken_right", "_law_is_taken_right", fa (S 19), .stmts (fb (S 19)), fs (S 19), 3, [], .none, .none, .none, (.str "law_pq0110_01" 395), .none, 
 (.ref 244), .none, 0⟩), #[]⟩) ::
  (246, ⟨(.type "tuple"), .none, (.seq #[] 0), #[]⟩) ::
  (249, ⟨(.type "code"), .none, (.fields #[(.str "_law_is_known_right" 478), (.str "_law_is_known_right" 479), (.str "/claim/cut.py" 480), (.int 145 0), (.int 3 0), (.int 0 0), (.int 0 0), (.int 
 3 0), (.ref 246), (.bool .true), (.int 181 0), (.ref 247), .none, .none, .none, (.ref 248), (.int 481 0), (.int 145 0), (.str "/claim/cut.py" 482)]), #[]⟩) ::
  (250, ⟨(.type "function"), .none, (.func ⟨"_law_is_known_right", "_law_is_known_right", fa (S 20), .stmts (fb (S 20)), fs (S 20), 3, [], .none, .none, .none, (.str "law_pq0110_01" 395), .none, 
 (.ref 249), .none, 0⟩), #[]⟩) ::
  (251, ⟨(.type "tuple"), .none, (.seq #[] 0), #[]⟩) ::
  (254, ⟨(.type "code"), .none, (.fields #[(.str "law" 484), (.str "law" 485), (.str "/claim/cut.py" 486), (.int 153 0), (.int 1 0), (.int 0 0), (.int 0 0), (.int 3 0), (.ref 251), (.bool .true), 
 (.int 181 0), (.ref 252), .none, .none, .none, (.ref 253), (.int 487 0), (.int 153 0), (.str "/claim/cut.py" 488)]), #[]⟩) ::
  (255, ⟨(.type "function"), .none, (.func ⟨"law", "law", fa (S 21), .stmts (fb (S 21)), fs (S 21), 3, [], .none, .none, .none, (.str "law_pq0110_01" 395), .none, (.ref 254), .none, 0⟩), #[]⟩) :: []
noncomputable def k (P : Params) (a : Nat) : Obj := (List.lookup a (heap_39 P)).getD ⟨.none, none, .fields #[], #[]⟩
noncomputable def d (P : Params) (a : Nat) : Data := (k P a).data
noncomputable def heap_386 : Params → Heap := fun P => ⟨⟨
  (boot_o_0 P) :: (boot_o_1 P) :: k P 2 :: k P 3 :: (boot_o_4 P) :: (boot_o_5 P) :: (boot_o_6 P) :: (boot_o_7 P) :: (boot_o_8 P) :: (boot_o_9 P) :: (boot_o_10 P) :: k P 251 :: ⟨.none, .none, (.fields 
 #[(.int 1 0), (.int 0 0), (.ref 20), (.int 5 0), (.int 0 0), (.ref 28), (.int 13 0), (.int 0 0), (.ref 56), (.int 16 0), (.int 0 0), (.ref 66), (.int 18 0), (.int 0 0), (.ref 71), (.int 23 0), 
 (.int 0 0), (.ref 78), (.int 93 0), (.int 0 0), (.ref 184), (.int 95 0), (.int 0 0), (.ref 191), (.int 97 0), (.int 0 0), (.ref 198), (.int 103 0), (.int 0 0), (.ref 203), (.int 108 0), (.int 
 0 0), (.ref 208), (.int 110 0), (.int 0 0), (.ref 215), (.int 116 0), (.int 0 0), (.ref 220), (.int 118 0), (.int 0 0), (.ref 225), (.int 120 0), (.int 0 0), (.ref 232), (.int 129 0), (.int 
 0 0), (.ref 239), (.int 134 0), (.int 0 0), (.ref 244), (.int 145 0), (.int 0 0), (.ref 249), (.int 153 0), (.int 0 0), (.ref 254)]), #[]⟩ :: ⟨(.type "code"), .none, (.fields #[(.str "<module>" 
 182), (.str "<module>" 183), (.str "/claim/cut.py" 184), (.int 1 0), (.int 0 0), (.int 0 0), (.int 0 0), (.int 0 0), (.ref 11), (.bool .false), (.int 181 0), (.ref 12), .none, .none, .none, 
 .none, (.int 185 0), (.int 1 0), (.str "/claim/cut.py" 186)]), #[]⟩ :: ⟨(.type "frame"), .none, .plain, #[(.some (.ref 13)), (.some (.ref 3)), (.some (.ref 3)), .none, (.some (.str "__main__" 
 164)), .none, (.some (.ref 0))]⟩ :: k P 251 :: ⟨.none, .none, (.fields #[]), #[]⟩ :: k P 17 :: k P 251 :: ⟨.none, .none, (.func ⟨"_wall", "_wall", fa (S 0), .stmts (fb (S 0)), fs (S 0), 0, [], 
 .none, .none, .none, .none, .none, .none, .none, 0⟩), #[]⟩ :: k P 20 :: k P 21 :: k P 22 :: ⟨(.type "builtin_function_or_method"), .none, (.fields #[(.builtin "type.__prepare__"), (.type "type")]), 
 #[]⟩ :: ⟨(.type "dict"), .none, (.dict #[⟨(PyData.keyHash P "__module__"), (.str "__module__" 203), (.str "alikeheap.errors" 194)⟩, ⟨(PyData.keyHash P "__qualname__"), (.str "__qualname__" 205), 
 (.str "HeapError" 204)⟩, ⟨(PyData.keyHash P "__firstlineno__"), (.str "__firstlineno__" 207), (.int 5 206)⟩, ⟨(PyData.keyHash P "__init__"), (.str "__init__" 216), (.ref 37)⟩, ⟨(PyData.keyHash 
 P "told"), (.str "told" 223), (.ref 44)⟩, ⟨(PyData.keyHash P "__static_attributes__"), (.str "__static_attributes__" 225), (.ref 45)⟩, ⟨(PyData.keyHash P "__classcell__"), (.str "__classcell__" 
 226), (.ref 25)⟩] 7), #[]⟩ :: k P 25 :: k P 251 :: ⟨.none, .none, (.fields #[(.int 7 0), (.int 4 0), (.ref 36), (.int 11 0), (.int 4 0), (.ref 43)]), #[]⟩ :: ⟨(.type "code"), .none, (.fields 
 #[(.str "HeapError" 198), (.str "HeapError" 199), (.str "/claim/cut.py" 200), (.int 5 0), (.int 0 0), (.int 0 0), (.int 0 0), (.int 0 0), (.ref 26), (.bool .false), (.int 181 0), (.ref 27), 
 .none, .none, .none, .none, (.int 201 0), (.int 5 0), (.str "/claim/cut.py" 202)]), #[]⟩ :: ⟨(.type "frame"), .none, .plain, #[(.some (.ref 28)), (.some (.ref 3)), (.some (.ref 24)), .none, 
 (.some (.str "alikeheap.errors" 194)), .none, (.some (.ref 0))]⟩ :: k P 30 :: k P 31 :: ⟨.none, .none, (.fields #[]), #[]⟩ :: k P 33 :: k P 251 :: ⟨.none, .none, (.func ⟨"__init__", "HeapError.__init__", 
 fa (M 2 0), .stmts (fb (M 2 0)), fs (M 2 0), 0, [], .none, .none, .none, .none, .none, .none, .none, 0⟩), #[]⟩ :: k P 36 :: k P 37 :: k P 251 :: ⟨.none, .none, (.fields #[]), #[]⟩ :: k P 40 
 :: k P 251 :: ⟨.none, .none, (.func ⟨"told", "HeapError.told", fa (M 2 1), .stmts (fb (M 2 1)), fs (M 2 1), 0, [], .none, .none, .none, .none, .none, .none, .none, 0⟩), #[]⟩ :: k P 43 :: k P 
 44 :: k P 45 :: k P 46 :: k P 47 :: k P 48 :: ⟨(.type "super"), .none, (.fields #[(.ref 47), (.ref 47), (.ref 47)]), #[]⟩ :: ⟨(.type "builtin_function_or_method"), .none, (.fields #[(.builtin 
 "object.__init_subclass__"), (.ref 47)]), #[]⟩ :: k P 51 :: ⟨(.type "builtin_function_or_method"), .none, (.fields #[(.builtin "type.__prepare__"), (.type "type")]), #[]⟩ :: ⟨(.type "dict"), 
 .none, (.dict #[⟨(PyData.keyHash P "__module__"), (.str "__module__" 241), (.str "alikeheap.errors" 194)⟩, ⟨(PyData.keyHash P "__qualname__"), (.str "__qualname__" 243), (.str "TermFault" 242)⟩, 
 ⟨(PyData.keyHash P "__firstlineno__"), (.str "__firstlineno__" 245), (.int 13 244)⟩, ⟨(PyData.keyHash P "__static_attributes__"), (.str "__static_attributes__" 246), (.ref 58)⟩] 4), #[]⟩ :: 
 k P 251 :: ⟨.none, .none, (.fields #[]), #[]⟩ :: ⟨(.type "code"), .none, (.fields #[(.str "TermFault" 236), (.str "TermFault" 237), (.str "/claim/cut.py" 238), (.int 13 0), (.int 0 0), (.int 
 0 0), (.int 0 0), (.int 0 0), (.ref 54), (.bool .false), (.int 181 0), (.ref 55), .none, .none, .none, .none, (.int 239 0), (.int 13 0), (.str "/claim/cut.py" 240)]), #[]⟩ :: ⟨(.type "frame"), 
 .none, .plain, #[(.some (.ref 56)), (.some (.ref 3)), (.some (.ref 53)), .none, (.some (.str "alikeheap.errors" 194)), .none, (.some (.ref 0))]⟩ :: k P 251 :: k P 59 :: k P 60 :: ⟨(.type "super"), 
 .none, (.fields #[(.ref 60), (.ref 60), (.ref 60)]), #[]⟩ :: ⟨(.type "builtin_function_or_method"), .none, (.fields #[(.builtin "object.__init_subclass__"), (.ref 60)]), #[]⟩ :: k P 251 :: ⟨.none, 
 .none, (.fields #[]), #[]⟩ :: ⟨.none, .none, (.func ⟨"is_op", "is_op", fa (S 5), .stmts (fb (S 5)), fs (S 5), 0, [], .none, .none, .none, .none, .none, .none, .none, 0⟩), #[]⟩ :: k P 66 :: k 
 P 67 :: k P 251 :: ⟨.none, .none, (.fields #[]), #[]⟩ :: ⟨.none, .none, (.func ⟨"parts", "parts", fa (S 6), .stmts (fb (S 6)), fs (S 6), 0, [], .none, .none, .none, .none, .none, .none, .none, 
 0⟩), #[]⟩ :: k P 71 :: k P 72 :: k P 251 :: ⟨(.type "builtin_function_or_method"), .none, (.fields #[(.builtin "type.__prepare__"), (.type "type")]), #[]⟩ :: ⟨(.type "dict"), .none, (.dict #[⟨(PyData.keyHash 
 P "__module__"), (.str "__module__" 271), (.str "alikeheap.terms" 250)⟩, ⟨(PyData.keyHash P "__qualname__"), (.str "__qualname__" 273), (.str "Bank" 272)⟩, ⟨(PyData.keyHash P "__firstlineno__"), 
 (.str "__firstlineno__" 275), (.int 23 274)⟩, ⟨(PyData.keyHash P "__init__"), (.str "__init__" 282), (.ref 86)⟩, ⟨(PyData.keyHash P "size"), (.str "size" 289), (.ref 93)⟩, ⟨(PyData.keyHash P 
 "take"), (.str "take" 295), (.ref 98)⟩, ⟨(PyData.keyHash P "require"), (.str "require" 303), (.ref 105)⟩, ⟨(PyData.keyHash P "put"), (.str "put" 313), (.ref 112)⟩, ⟨(PyData.keyHash P "put_all"), 
 (.str "put_all" 319), (.ref 117)⟩, ⟨(PyData.keyHash P "cut"), (.str "cut" 327), (.ref 124)⟩, ⟨(PyData.keyHash P "op"), (.str "op" 335), (.ref 131)⟩, ⟨(PyData.keyHash P "kids"), (.str "kids" 
 343), (.ref 138)⟩, ⟨(PyData.keyHash P "node"), (.str "node" 351), (.ref 145)⟩, ⟨(PyData.keyHash P "term"), (.str "term" 357), (.ref 150)⟩, ⟨(PyData.keyHash P "weight"), (.str "weight" 365), 
 (.ref 157)⟩, ⟨(PyData.keyHash P "depth"), (.str "depth" 373), (.ref 164)⟩, ⟨(PyData.keyHash P "seek"), (.str "seek" 382), (.ref 171)⟩, ⟨(PyData.keyHash P "__static_attributes__"), (.str "__static_attributes__" 
 387), (.ref 172)⟩] 18), #[]⟩ :: k P 251 :: ⟨.none, .none, (.fields #[(.int 25 0), (.int 4 0), (.ref 85), (.int 31 0), (.int 4 0), (.ref 92), (.int 34 0), (.int 4 0), (.ref 97), (.int 48 0), 
 (.int 4 0), (.ref 104), (.int 52 0), (.int 4 0), (.ref 111), (.int 57 0), (.int 4 0), (.ref 116), (.int 60 0), (.int 4 0), (.ref 123), (.int 63 0), (.int 4 0), (.ref 130), (.int 66 0), (.int 
 4 0), (.ref 137), (.int 69 0), (.int 4 0), (.ref 144), (.int 72 0), (.int 4 0), (.ref 149), (.int 84 0), (.int 4 0), (.ref 156), (.int 87 0), (.int 4 0), (.ref 163), (.int 90 0), (.int 4 0), 
 (.ref 170)]), #[]⟩ :: ⟨(.type "code"), .none, (.fields #[(.str "Bank" 266), (.str "Bank" 267), (.str "/claim/cut.py" 268), (.int 23 0), (.int 0 0), (.int 0 0), (.int 0 0), (.int 0 0), (.ref 
 76), (.bool .false), (.int 181 0), (.ref 77), .none, .none, .none, .none, (.int 269 0), (.int 23 0), (.str "/claim/cut.py" 270)]), #[]⟩ :: ⟨(.type "frame"), .none, .plain, #[(.some (.ref 78)), 
 (.some (.ref 3)), (.some (.ref 75)), .none, (.some (.str "alikeheap.terms" 250)), .none, (.some (.ref 0))]⟩ :: k P 251 :: ⟨.none, .none, (.fields #[]), #[]⟩ :: k P 82 :: k P 251 :: ⟨.none, .none, 
 (.func ⟨"__init__", "Bank.__init__", fa (M 7 0), .stmts (fb (M 7 0)), fs (M 7 0), 0, [], .none, .none, .none, .none, .none, .none, .none, 0⟩), #[]⟩ :: k P 85 :: k P 86 :: k P 251 :: ⟨.none, 
 .none, (.fields #[]), #[]⟩ :: k P 89 :: k P 251 :: ⟨.none, .none, (.func ⟨"size", "Bank.size", fa (M 7 1), .stmts (fb (M 7 1)), fs (M 7 1), 0, [], .none, .none, .none, .none, .none, .none, .none, 
 0⟩), #[]⟩ :: k P 92 :: k P 93 :: k P 251 :: ⟨.none, .none, (.fields #[]), #[]⟩ :: ⟨.none, .none, (.func ⟨"take", "Bank.take", fa (M 7 2), .stmts (fb (M 7 2)), fs (M 7 2), 0, [], .none, .none, 
 .none, .none, .none, .none, .none, 0⟩), #[]⟩ :: k P 97 :: k P 98 :: k P 251 :: ⟨.none, .none, (.fields #[]), #[]⟩ :: k P 101 :: k P 251 :: ⟨.none, .none, (.func ⟨"require", "Bank.require", fa 
 (M 7 3), .stmts (fb (M 7 3)), fs (M 7 3), 0, [], .none, .none, .none, .none, .none, .none, .none, 0⟩), #[]⟩ :: k P 104 :: k P 105 :: k P 251 :: ⟨.none, .none, (.fields #[]), #[]⟩ :: k P 108 
 :: k P 251 :: ⟨.none, .none, (.func ⟨"put", "Bank.put", fa (M 7 4), .stmts (fb (M 7 4)), fs (M 7 4), 0, [], .none, .none, .none, .none, .none, .none, .none, 0⟩), #[]⟩ :: k P 111 :: k P 112 :: 
 k P 251 :: ⟨.none, .none, (.fields #[]), #[]⟩ :: ⟨.none, .none, (.func ⟨"put_all", "Bank.put_all", fa (M 7 5), .stmts (fb (M 7 5)), fs (M 7 5), 0, [], .none, .none, .none, .none, .none, .none, 
 .none, 0⟩), #[]⟩ :: k P 116 :: k P 117 :: k P 251 :: ⟨.none, .none, (.fields #[]), #[]⟩ :: k P 120 :: k P 251 :: ⟨.none, .none, (.func ⟨"cut", "Bank.cut", fa (M 7 6), .stmts (fb (M 7 6)), fs 
 (M 7 6), 0, [], .none, .none, .none, .none, .none, .none, .none, 0⟩), #[]⟩ :: k P 123 :: k P 124 :: k P 251 :: ⟨.none, .none, (.fields #[]), #[]⟩ :: k P 127 :: k P 251 :: ⟨.none, .none, (.func 
 ⟨"op", "Bank.op", fa (M 7 7), .stmts (fb (M 7 7)), fs (M 7 7), 0, [], .none, .none, .none, .none, .none, .none, .none, 0⟩), #[]⟩ :: k P 130 :: k P 131 :: k P 251 :: ⟨.none, .none, (.fields #[]), 
 #[]⟩ :: k P 134 :: k P 251 :: ⟨.none, .none, (.func ⟨"kids", "Bank.kids", fa (M 7 8), .stmts (fb (M 7 8)), fs (M 7 8), 0, [], .none, .none, .none, .none, .none, .none, .none, 0⟩), #[]⟩ :: k 
 P 137 :: k P 138 :: k P 251 :: ⟨.none, .none, (.fields #[]), #[]⟩ :: k P 141 :: k P 251 :: ⟨.none, .none, (.func ⟨"node", "Bank.node", fa (M 7 9), .stmts (fb (M 7 9)), fs (M 7 9), 0, [], .none, 
 .none, .none, .none, .none, .none, .none, 0⟩), #[]⟩ :: k P 144 :: k P 145 :: k P 251 :: ⟨.none, .none, (.fields #[]), #[]⟩ :: ⟨.none, .none, (.func ⟨"term", "Bank.term", fa (M 7 10), .stmts 
 (fb (M 7 10)), fs (M 7 10), 0, [], .none, .none, .none, .none, .none, .none, .none, 0⟩), #[]⟩ :: k P 149 :: k P 150 :: k P 251 :: ⟨.none, .none, (.fields #[]), #[]⟩ :: k P 153 :: k P 251 :: 
 ⟨.none, .none, (.func ⟨"weight", "Bank.weight", fa (M 7 11), .stmts (fb (M 7 11)), fs (M 7 11), 0, [], .none, .none, .none, .none, .none, .none, .none, 0⟩), #[]⟩ :: k P 156 :: k P 157 :: k P 
 251 :: ⟨.none, .none, (.fields #[]), #[]⟩ :: k P 160 :: k P 251 :: ⟨.none, .none, (.func ⟨"depth", "Bank.depth", fa (M 7 12), .stmts (fb (M 7 12)), fs (M 7 12), 0, [], .none, .none, .none, .none, 
 .none, .none, .none, 0⟩), #[]⟩ :: k P 163 :: k P 164 :: k P 251 :: ⟨.none, .none, (.fields #[]), #[]⟩ :: k P 167 :: k P 251 :: ⟨.none, .none, (.func ⟨"seek", "Bank.seek", fa (M 7 13), .stmts 
 (fb (M 7 13)), fs (M 7 13), 0, [], .none, .none, .none, .none, .none, .none, .none, 0⟩), #[]⟩ :: k P 170 :: k P 171 :: k P 172 :: k P 173 :: k P 174 :: k P 175 :: k P 176 :: ⟨(.type "super"), 
 .none, (.fields #[(.ref 174), (.ref 174), (.ref 174)]), #[]⟩ :: ⟨(.type "builtin_function_or_method"), .none, (.fields #[(.builtin "object.__init_subclass__"), (.ref 174)]), #[]⟩ :: k P 251 
 :: ⟨.none, .none, (.fields #[]), #[]⟩ :: k P 251 :: k P 251 :: ⟨.none, .none, (.func ⟨"_law_width", "_law_width", fa (S 9), .stmts (fb (S 9)), fs (S 9), 0, [], .none, .none, .none, .none, .none, 
 .none, .none, 0⟩), #[]⟩ :: k P 184 :: k P 185 :: k P 251 :: ⟨.none, .none, (.fields #[]), #[]⟩ :: k P 251 :: k P 251 :: ⟨.none, .none, (.func ⟨"_law_odd", "_law_odd", fa (S 10), .stmts (fb (S 
 10)), fs (S 10), 0, [], .none, .none, .none, .none, .none, .none, .none, 0⟩), #[]⟩ :: k P 191 :: k P 192 :: k P 251 :: ⟨.none, .none, (.fields #[]), #[]⟩ :: k P 195 :: k P 251 :: ⟨.none, .none, 
 (.func ⟨"_law_draw", "_law_draw", fa (S 11), .stmts (fb (S 11)), fs (S 11), 0, [], .none, .none, .none, .none, .none, .none, .none, 0⟩), #[]⟩ :: k P 198 :: k P 199 :: k P 251 :: ⟨.none, .none, 
 (.fields #[]), #[]⟩ :: ⟨.none, .none, (.func ⟨"_law_tree", "_law_tree", fa (S 12), .stmts (fb (S 12)), fs (S 12), 0, [], .none, .none, .none, .none, .none, .none, .none, 0⟩), #[]⟩ :: k P 203 
 :: k P 204 :: k P 251 :: ⟨.none, .none, (.fields #[]), #[]⟩ :: ⟨.none, .none, (.func ⟨"_law_is_fine", "_law_is_fine", fa (S 13), .stmts (fb (S 13)), fs (S 13), 0, [], .none, .none, .none, .none, 
 .none, .none, .none, 0⟩), #[]⟩ :: k P 208 :: k P 209 :: k P 251 :: ⟨.none, .none, (.fields #[]), #[]⟩ :: k P 212 :: k P 251 :: ⟨.none, .none, (.func ⟨"_law_ranked", "_law_ranked", fa (S 14), 
 .stmts (fb (S 14)), fs (S 14), 0, [], .none, .none, .none, .none, .none, .none, .none, 0⟩), #[]⟩ :: k P 215 :: k P 216 :: k P 251 :: ⟨.none, .none, (.fields #[]), #[]⟩ :: ⟨.none, .none, (.func 
 ⟨"_law_heavy", "_law_heavy", fa (S 15), .stmts (fb (S 15)), fs (S 15), 0, [], .none, .none, .none, .none, .none, .none, .none, 0⟩), #[]⟩ :: k P 220 :: k P 221 :: k P 251 :: ⟨.none, .none, (.fields 
 #[]), #[]⟩ :: ⟨.none, .none, (.func ⟨"_law_long", "_law_long", fa (S 16), .stmts (fb (S 16)), fs (S 16), 0, [], .none, .none, .none, .none, .none, .none, .none, 0⟩), #[]⟩ :: k P 225 :: k P 226 
 :: k P 251 :: ⟨.none, .none, (.fields #[]), #[]⟩ :: k P 229 :: k P 251 :: ⟨.none, .none, (.func ⟨"_law_is_put_right", "_law_is_put_right", fa (S 17), .stmts (fb (S 17)), fs (S 17), 0, [], .none, 
 .none, .none, .none, .none, .none, .none, 0⟩), #[]⟩ :: k P 232 :: k P 233 :: k P 251 :: ⟨.none, .none, (.fields #[]), #[]⟩ :: k P 236 :: k P 251 :: ⟨.none, .none, (.func ⟨"_law_kid", "_law_kid", 
 fa (S 18), .stmts (fb (S 18)), fs (S 18), 0, [], .none, .none, .none, .none, .none, .none, .none, 0⟩), #[]⟩ :: k P 239 :: k P 240 :: k P 251 :: ⟨.none, .none, (.fields #[]), #[]⟩ :: ⟨.none, 
 .none, (.func ⟨"_law_is_taken_right", "_law_is_taken_right", fa (S 19), .stmts (fb (S 19)), fs (S 19), 0, [], .none, .none, .none, .none, .none, .none, .none, 0⟩), #[]⟩ :: k P 244 :: k P 245 
 :: k P 251 :: ⟨.none, .none, (.fields #[]), #[]⟩ :: ⟨.none, .none, (.func ⟨"_law_is_known_right", "_law_is_known_right", fa (S 20), .stmts (fb (S 20)), fs (S 20), 0, [], .none, .none, .none, 
 .none, .none, .none, .none, 0⟩), #[]⟩ :: k P 249 :: k P 250 :: k P 251 :: ⟨.none, .none, (.fields #[]), #[]⟩ :: ⟨.none, .none, (.func ⟨"law", "law", fa (S 21), .stmts (fb (S 21)), fs (S 21), 
 0, [], .none, .none, .none, .none, .none, .none, .none, 0⟩), #[]⟩ :: k P 254 :: k P 255 :: []⟩, ⟨[], [], [], 0, [], [], false, #[], [], 0, false, false, false, 0, [2000, 10, 10], false, 0, true, [], [], 0, false⟩⟩
noncomputable def view_39 : Program := { pr with main := { pr.main with body := [S 21] } }
noncomputable def H : Hook := kHook heap_39 [2, 3, 15, 17, 18, 20, 21, 22, 25, 30, 31, 33, 34, 36, 37, 38, 40, 41, 43, 44, 45, 46, 47, 48, 51, 58, 59, 60, 63, 66, 67, 68, 71, 72, 80, 82, 83, 85, 86, 87, 89, 90, 92, 93, 94, 97, 98, 99, 101, 
 102, 104, 105, 106, 108, 109, 111, 112, 113, 116, 117, 118, 120, 121, 123, 124, 125, 127, 128, 130, 131, 132, 134, 135, 137, 138, 139, 141, 142, 144, 145, 146, 149, 150, 151, 153, 154, 156, 
 157, 158, 160, 161, 163, 164, 165, 167, 168, 170, 171, 172, 173, 174, 175, 176, 179, 181, 182, 184, 185, 186, 188, 189, 191, 192, 193, 195, 196, 198, 199, 200, 203, 204, 205, 208, 209, 210, 
 212, 213, 215, 216, 217, 220, 221, 222, 225, 226, 227, 229, 230, 232, 233, 234, 236, 237, 239, 240, 241, 244, 245, 246, 249, 250, 251, 254, 255] (fun _ => by kernel_rfl)
noncomputable def L : List Str := ["_wall", "HeapError", "TermFault", "is_op", "parts", "Bank", "_law_width", "_law_odd", "_law_draw", "_law_tree", "_law_is_fine", "_law_ranked", "_law_heavy", "_law_long", "_law_is_put_right", 
 "_law_kid", "_law_is_taken_right", "_law_is_known_right"]
noncomputable abbrev Xt (s : Shared) : Bool := xlAt view_39 [] s && recOk PySem.Challenge.rw_pq0110_01.row.records s
theorem opn : opening pr = plainProg pr.main.scope.names := by kernel_rfl
theorem fen (s : Shared) : fenceModules? pr s = some s := by kernel_rfl
theorem siz (w : World) : ((boot_heap w.params).isNs mainGlobals && (Array.mk ([] : List GenState)).size == 0, (boot_heap w.params).objs.size, (boot_heap w.params).nsMap mainGlobals "__annotations__") = (true, 11, some (.ref 6)) := by kernel_rfl
noncomputable def topRunX (st : (Code → Sem Fin) → Program → World → SharedT → Thread → Option (SharedT × Thread)) (de : (String → Option Builtin) → Code → Sem Fin) (ok : Nat → Option Value → Thread → Bool) (tb : String → Option Builtin) (p : Program) (w : World) (n₀ : Nat) (ann : Option Value) : Nat → SharedT → Thread → Option SharedT
  | 0, _, _ => none
  | n + 1, s, t => match through t with
    | true => some s
    | false => match ok n₀ ann t with
      | false => none
      | true => match st (de tb) p w s t with
        | some (s', t') => topRunX st de ok tb p w n₀ ann n s' t'
        | none => none
theorem topRun_of {tb : String → Option Builtin} {p : Program} {w : World} {n₀ : Nat} {ann : Option Value} {r : SharedT} : ∀ {n : Nat} {s : SharedT} {t : Thread}, topRunX stepT denote stepOk tb p w n₀ ann n s t = some r → topRun tb p w n₀ ann n s.abs t = some r.abs
  | 0, _, _, h => by cases h
  | n + 1, s, t, h => by
    unfold topRunX at h
    unfold topRun
    cases h1 : through t with
    | true => rw [h1] at h; cases h; rfl
    | false =>
      rw [h1] at h
      cases h2 : stepOk n₀ ann t with
      | false => rw [h2] at h; cases h
      | true =>
        rw [h2] at h
        cases h3 : stepT (denote tb) p w s t with
        | none => rw [h3] at h; cases h
        | some x =>
          obtain ⟨s', t'⟩ := x
          rw [h3] at h
          dsimp only
          rw [stepT_spec h3]
          exact topRun_of h
noncomputable def tree0 (P : Params) : BT := (boot_heap P).objs.toList.foldl (fun x o => (x.1.ins x.2 o, x.2 + 1)) (BT.nil, 0) |>.1
noncomputable def s0 (w : World) (os : OsState) : SharedT := ⟨tree0 w.params, 11, (boot_heap w.params).life, Array.mk [], boot_drawn, boot_toks, os⟩
theorem abs0 (w : World) (os : OsState) : (s0 w os).abs = ⟨boot_heap w.params, Array.mk [], boot_drawn, boot_toks, os⟩ := by kernel_rfl
theorem runT (w : World) (os : OsState) : (topRunX stepT denote stepOk treeTable pr w 11 (some (.ref 6)) 1610 (s0 w os) (topStub pr)).map SharedT.abs = some ⟨heap_386 w.params, Array.mk [], {}, 490, os⟩ := by
  first
    | (rw [Fast.te10156331382660048174, Fast.te11892475500146522536, Fast.te6613529449190102663, Fast.te14364793385576792824]; kernel_rfl)
    | kernel_rfl
theorem run (w : World) (os : OsState) : topRun treeTable pr w 11 (some (.ref 6)) 1610 ⟨boot_heap w.params, Array.mk [], boot_drawn, boot_toks, os⟩ (topStub pr) = some ⟨heap_386 w.params, Array.mk [], {}, 490, os⟩ := by
  have h := runT w os
  rw [← abs0 w os]
  cases q : topRunX stepT denote stepOk treeTable pr w 11 (some (.ref 6)) 1610 (s0 w os) (topStub pr) with
  | none => rw [q] at h; cases h
  | some r =>
    rw [q] at h
    have e : r.abs = ⟨heap_386 w.params, Array.mk [], {}, 490, os⟩ := Option.some.inj h
    rw [← e]
    exact topRun_of q
theorem looks (w : World) (os : OsState) : ((staticsOk (importedModules pr.main.body) (boot_heap w.params) (heap_386 w.params) && namesBound pr (heap_386 w.params) && gensDone ⟨heap_386 w.params, Array.mk [], {}, 490, os⟩ && laidKept (boot_heap w.params) (heap_386 w.params)),
  openSeen view_39 L (importedModules pr.main.body) Xt true ⟨heap_386 w.params, Array.mk [], {}, 490, os⟩, H.obs ⟨heap_386 w.params, Array.mk [], {}, 490, os⟩) = (true, openGood view_39 L, H.val w) := by kernel_rfl
theorem said0 : looksOpen pr = true := by
  first
    | (rw [Fast.te12908688711261696721]; kernel_rfl)
    | kernel_rfl
theorem said : PySem.Challenge.rw_pq0110_01.wellSaid = true := by
  unfold OpenLaw.wellSaid OpenRow.wellSaid OpenRow.partSaid
  repeat' (with_reducible refine look_both ?_ ?_)
  all_goals first | (with_reducible exact said0) | kernel_rfl
theorem okk : (chainsOk view_39 && opensWell pr && (frees PySem.Challenge.rw_pq0110_01.row.toRowW && PySem.Challenge.rw_pq0110_01.row.toRowW.within.isEmpty)) = true := by kernel_rfl
theorem left : LeftO pr view_39 L Xt H.obs H.val 2000 true := .of_pieces (boot_open opn rfl fen) siz run rfl (fun w => funext fun os => looks w os)
end hd
end Mine
end
section
set_option Elab.async false
set_option maxRecDepth 100000
open PySem PySem.W PySem.Calls PyProof.Rows
namespace Mine

/-- what is fixed through the law's call -/
structure Cx where
  prog : Program
  w : World
  h₀ : Heap
  mg : Str → Option Value
  mb : Str → Option Value
  gens : Array GenState
  drawn : Drawn
  os : OsState
  exc : Value
  own : Addr → Prop
  lim : h₀.NoLimit
  g : h₀.Ns mainGlobals mg
  b : h₀.Ns builtinsNs mb

/-! what a conjunction, an existence holds, all at once -/
theorem an2 {p1 p2 R : Prop} (h : p1 ∧ p2) (k : p1 → p2 → R) : R := k h.1 h.2
theorem an3 {p1 p2 p3 R : Prop} (h : p1 ∧ p2 ∧ p3) (k : p1 → p2 → p3 → R) : R := k h.1 h.2.1 h.2.2
theorem an4 {p1 p2 p3 p4 R : Prop} (h : p1 ∧ p2 ∧ p3 ∧ p4) (k : p1 → p2 → p3 → p4 → R) : R := k h.1 h.2.1 h.2.2.1 h.2.2.2
theorem an5 {p1 p2 p3 p4 p5 R : Prop} (h : p1 ∧ p2 ∧ p3 ∧ p4 ∧ p5) (k : p1 → p2 → p3 → p4 → p5 → R) : R := k h.1 h.2.1 h.2.2.1 h.2.2.2.1 h.2.2.2.2
theorem an6 {p1 p2 p3 p4 p5 p6 R : Prop} (h : p1 ∧ p2 ∧ p3 ∧ p4 ∧ p5 ∧ p6) (k : p1 → p2 → p3 → p4 → p5 → p6 → R) : R := k h.1 h.2.1 h.2.2.1 h.2.2.2.1 h.2.2.2.2.1 h.2.2.2.2.2
theorem an7 {p1 p2 p3 p4 p5 p6 p7 R : Prop} (h : p1 ∧ p2 ∧ p3 ∧ p4 ∧ p5 ∧ p6 ∧ p7) (k : p1 → p2 → p3 → p4 → p5 → p6 → p7 → R) : R := k h.1 h.2.1 h.2.2.1 h.2.2.2.1 h.2.2.2.2.1 h.2.2.2.2.2.1 h.2.2.2.2.2.2
theorem an8 {p1 p2 p3 p4 p5 p6 p7 p8 R : Prop} (h : p1 ∧ p2 ∧ p3 ∧ p4 ∧ p5 ∧ p6 ∧ p7 ∧ p8) (k : p1 → p2 → p3 → p4 → p5 → p6 → p7 → p8 → R) : R := k h.1 h.2.1 h.2.2.1 h.2.2.2.1 h.2.2.2.2.1 h.2.2.2.2.2.1 h.2.2.2.2.2.2.1 h.2.2.2.2.2.2.2
theorem an9 {p1 p2 p3 p4 p5 p6 p7 p8 p9 R : Prop} (h : p1 ∧ p2 ∧ p3 ∧ p4 ∧ p5 ∧ p6 ∧ p7 ∧ p8 ∧ p9) (k : p1 → p2 → p3 → p4 → p5 → p6 → p7 → p8 → p9 → R) : R := k h.1 h.2.1 h.2.2.1 h.2.2.2.1 h.2.2.2.2.1 h.2.2.2.2.2.1 h.2.2.2.2.2.2.1 h.2.2.2.2.2.2.2.1 h.2.2.2.2.2.2.2.2
theorem an10 {p1 p2 p3 p4 p5 p6 p7 p8 p9 p10 R : Prop} (h : p1 ∧ p2 ∧ p3 ∧ p4 ∧ p5 ∧ p6 ∧ p7 ∧ p8 ∧ p9 ∧ p10) (k : p1 → p2 → p3 → p4 → p5 → p6 → p7 → p8 → p9 → p10 → R) : R := k h.1 h.2.1 h.2.2.1 h.2.2.2.1 h.2.2.2.2.1 h.2.2.2.2.2.1 h.2.2.2.2.2.2.1 h.2.2.2.2.2.2.2.1 h.2.2.2.2.2.2.2.2.1 h.2.2.2.2.2.2.2.2.2
theorem ex2 {α β : Type} {P : α → β → Prop} {R : Prop} (h : ∃ a b, P a b) (k : ∀ a b, P a b → R) : R := by obtain ⟨a, b, h⟩ := h; exact k a b h
theorem ex3 {α β γ : Type} {P : α → β → γ → Prop} {R : Prop} (h : ∃ a b c, P a b c) (k : ∀ a b c, P a b c → R) : R := by obtain ⟨a, b, c, h⟩ := h; exact k a b c h
theorem ex4 {α β γ δ : Type} {P : α → β → γ → δ → Prop} {R : Prop} (h : ∃ a b c d, P a b c d) (k : ∀ a b c d, P a b c d → R) : R := by obtain ⟨a, b, c, d, h⟩ := h; exact k a b c d h
theorem ex5 {α β γ δ ε : Type} {P : α → β → γ → δ → ε → Prop} {R : Prop} (h : ∃ a b c d e, P a b c d e) (k : ∀ a b c d e, P a b c d e → R) : R := by obtain ⟨a, b, c, d, e, h⟩ := h; exact k a b c d e h
theorem ex1 {α : Type} {P : α → Prop} {R : Prop} (h : ∃ a, P a) (k : ∀ a, P a → R) : R := by obtain ⟨a, h⟩ := h; exact k a h
theorem an12 {p1 p2 p3 p4 p5 p6 p7 p8 p9 p10 p11 p12 R : Prop} (h : p1 ∧ p2 ∧ p3 ∧ p4 ∧ p5 ∧ p6 ∧ p7 ∧ p8 ∧ p9 ∧ p10 ∧ p11 ∧ p12) (k : p1 → p2 → p3 → p4 → p5 → p6 → p7 → p8 → p9 → p10 → p11 → p12 → R) : R := k h.1 h.2.1 h.2.2.1 h.2.2.2.1 h.2.2.2.2.1 h.2.2.2.2.2.1 h.2.2.2.2.2.2.1 h.2.2.2.2.2.2.2.1 h.2.2.2.2.2.2.2.2.1 h.2.2.2.2.2.2.2.2.2.1 h.2.2.2.2.2.2.2.2.2.2.1 h.2.2.2.2.2.2.2.2.2.2.2
/-! lists of a given length -/
section
variable {α : Type} {P : List α → Prop}
theorem all0 (h : P []) : ∀ vs, vs.length = 0 → P vs
  | [], _ => h
theorem all1 (h : ∀ a, P [a]) : ∀ vs, vs.length = 1 → P vs
  | [_], _ => h _
theorem all2 (h : ∀ a b, P [a, b]) : ∀ vs, vs.length = 2 → P vs
  | [_, _], _ => h _ _
theorem all3 (h : ∀ a b c, P [a, b, c]) : ∀ vs, vs.length = 3 → P vs
  | [_, _, _], _ => h _ _ _
theorem all4 (h : ∀ a b c d, P [a, b, c, d]) : ∀ vs, vs.length = 4 → P vs
  | [_, _, _, _], _ => h _ _ _ _
end
/-! abstract values, and what a heap says of them -/
set_option genInjectivity true in
inductive AV where
  | int (i : Int)
  | str (x : Str)
  | con (v : Value)
  | tup (l : List AV)
noncomputable abbrev AV.ref (a : Addr) : AV := .con (.ref a)
noncomputable abbrev AV.bool (b : Bool) : AV := .con (.bool b)
noncomputable abbrev AV.none : AV := .con .none

/-- a tuple that nobody turns -/
noncomputable def IsT (X : Cx) (h : Heap) (a : Addr) (items : Array Value) : Prop := IsTup h a items ∧ ¬ X.own a
mutual
noncomputable def VR (X : Cx) (h : Heap) : AV → Value → Prop
  | .int i, v => ∃ t, v = .int i t
  | .str x, v => ∃ t, v = .str x t
  | .con u, v => v = u
  | .tup l, v => ∃ a items, v = .ref a ∧ IsT X h a items ∧ VRs X h l items.toList
noncomputable def VRs (X : Cx) (h : Heap) : List AV → List Value → Prop
  | [], vs => vs = []
  | x :: r, vs => ∃ v vs', vs = v :: vs' ∧ VR X h x v ∧ VRs X h r vs'
end

variable {X : Cx}
/-- tuples stay -/
noncomputable def Kept (X : Cx) (h h' : Heap) : Prop := ∀ a items, IsT X h a items → IsT X h' a items
theorem Kept.refl (h : Heap) : Kept X h h := fun _ _ x => x
theorem Kept.trans {h₁ h₂ h₃ : Heap} (x : Kept X h₁ h₂) (y : Kept X h₂ h₃) : Kept X h₁ h₃ := fun a i z => y a i (x a i z)
theorem Kept.of_keeps {h h' : Heap} (k : ∀ b o, h.get? b = some o → h'.get? b = some o) : Kept X h h' := fun _ _ x => ⟨x.1.keeps k, x.2⟩

mutual
theorem VR.mono {h h' : Heap} (k : Kept X h h') : ∀ (V : AV) (v : Value), VR X h V v → VR X h' V v
  | .int _, _, x => x
  | .str _, _, x => x
  | .con _, _, x => x
  | .tup l, _, ⟨a, items, e, ht, hl⟩ => ⟨a, items, e, k a items ht, VRs.mono k l _ hl⟩
theorem VRs.mono {h h' : Heap} (k : Kept X h h') : ∀ (Vs : List AV) (vs : List Value), VRs X h Vs vs → VRs X h' Vs vs
  | [], _, x => x
  | V :: r, _, ⟨v, vs', e, hv, hr⟩ => ⟨v, vs', e, VR.mono k V v hv, VRs.mono k r vs' hr⟩
end
theorem VRs.length {h : Heap} : ∀ {Vs : List AV} {vs : List Value}, VRs X h Vs vs → vs.length = Vs.length
  | [], _, e => by rw [show _ = [] from e]; rfl
  | _ :: r, _, ⟨v, vs', e, _, hr⟩ => by rw [e, List.length_cons, List.length_cons, VRs.length hr]
theorem VRs.nil {h : Heap} : VRs X h [] [] := rfl
theorem VRs.cons {h : Heap} {V : AV} {v : Value} {Vs vs} (x : VR X h V v) (y : VRs X h Vs vs) : VRs X h (V :: Vs) (v :: vs) := ⟨v, vs, rfl, x, y⟩
theorem VRs.append {h : Heap} : ∀ {Vs Us : List AV} {vs us : List Value}, VRs X h Vs vs → VRs X h Us us → VRs X h (Vs ++ Us) (vs ++ us)
  | [], _, _, _, e, y => by rw [show _ = [] from e]; exact y
  | _ :: _, _, _, _, ⟨v, vs', e, hv, hr⟩, y => by rw [e]; exact ⟨v, _, rfl, hv, VRs.append hr y⟩
theorem VRs.get {h : Heap} : ∀ {Vs : List AV} {vs : List Value} {i : Nat} {V : AV}, VRs X h Vs vs → Vs[i]? = some V → ∃ v, vs[i]? = some v ∧ VR X h V v
  | [], _, i, _, _, e => by simp at e
  | _ :: _, _, 0, _, ⟨v, vs', e, hv, _⟩, q => by simp at q; subst q; subst e; exact ⟨v, by simp, hv⟩
  | _ :: _, _, i + 1, _, ⟨v, vs', e, _, hr⟩, q => by
    obtain ⟨u, hu, hU⟩ := VRs.get hr (by simpa using q)
    exact ⟨u, by subst e; simpa using hu, hU⟩
theorem VRs.snoc {h : Heap} {Vs : List AV} {vs : List Value} {V : AV} {v : Value} (x : VRs X h Vs vs) (y : VR X h V v) : VRs X h (Vs ++ [V]) (vs ++ [v]) := x.append (VRs.cons y .nil)
theorem VRs.take {h : Heap} : ∀ {Vs : List AV} {vs : List Value} (n : Nat), VRs X h Vs vs → VRs X h (Vs.take n) (vs.take n)
  | [], _, n, e => by rw [show _ = [] from e]; simp; exact .nil
  | _ :: _, _, 0, _ => by simp; exact .nil
  | _ :: _, _, n + 1, ⟨v, vs', e, hv, hr⟩ => by subst e; simp; exact .cons hv (VRs.take n hr)
theorem VRs.reverse {h : Heap} : ∀ {Vs : List AV} {vs : List Value}, VRs X h Vs vs → VRs X h Vs.reverse vs.reverse
  | [], _, e => by rw [show _ = [] from e]; exact .nil
  | _ :: _, _, ⟨v, vs', e, hv, hr⟩ => by subst e; simp; exact (VRs.reverse hr).snoc hv

noncomputable def OpR (X : Cx) (h : Heap) : Option AV → Option Value → Prop
  | .none, .none => True
  | some V, some v => VR X h V v
  | _, _ => False
theorem OpR.mono {h h' : Heap} (k : Kept X h h') {V : Option AV} {v : Option Value} (x : OpR X h V v) : OpR X h' V v := by
  cases V <;> cases v <;> first | exact x | exact VR.mono k _ _ x
theorem OpR.some {h : Heap} {V : AV} {v : Option Value} (x : OpR X h (some V) v) : ∃ u, v = some u ∧ VR X h V u := by
  cases v with
  | none => exact x.elim
  | some u => exact ⟨u, rfl, x⟩
theorem OpR.none {h : Heap} {v : Option Value} (x : OpR X h .none v) : v = .none := by
  cases v with
  | none => rfl
  | some u => exact x.elim

/-! keys of texts and ints, mixed -/
noncomputable abbrev OpKey := Str ⊕ Int
noncomputable def opIs : OpKey → Value → Bool
  | .inl x, v => Value.isStrOf x v
  | .inr i, v => Value.isInt i v
noncomputable def opHash (w : World) : OpKey → Int
  | .inl x => hashStr w x
  | .inr i => hashInt i
theorem opIs_shape {k : OpKey} {v : Value} (h : opIs k v = true) : (∃ x t, k = .inl x ∧ v = .str x t) ∨ (∃ i t, k = .inr i ∧ v = .int i t) := by
  cases k with
  | inl x => obtain ⟨t, rfl⟩ := Value.isStrOf_shape h; exact .inl ⟨x, t, rfl, rfl⟩
  | inr i => obtain ⟨t, rfl⟩ := Value.isInt_shape h; exact .inr ⟨i, t, rfl, rfl⟩

theorem eqBool_str_int {prog : Program} {w : World} {A : Around} {E : Value → Shared → Prop} {s : Shared} {x : Str} {t : Tok} {i : Int} {u : Tok} {Q : Bool → Shared → Prop} (h : Q false s) :
    wpAny (model prog w) A (eqBool (.str x t) (.int i u)) Q E s := by
  unfold eqBool
  refine wpAny_holding ?_
  show wpAny _ _ (if (Value.str x t == Value.int i u) = true then _ else _) Q E s
  rw [if_neg (by intro q; exact absurd (eq_of_beq q) (by intro z; cases z))]
  refine wpAny_bind (m := richCompare .Eq _ _) (show wpAny (model prog w) A (compareOp .Eq _ _) _ E s from EqMixed.eq_str_int (wpAny_truthy_bool h))
theorem eqBool_int_str {prog : Program} {w : World} {A : Around} {E : Value → Shared → Prop} {s : Shared} {x : Str} {t : Tok} {i : Int} {u : Tok} {Q : Bool → Shared → Prop} (h : Q false s) :
    wpAny (model prog w) A (eqBool (.int i u) (.str x t)) Q E s := by
  unfold eqBool
  refine wpAny_holding ?_
  show wpAny _ _ (if (Value.int i u == Value.str x t) = true then _ else _) Q E s
  rw [if_neg (by intro q; exact absurd (eq_of_beq q) (by intro z; cases z))]
  refine wpAny_bind (m := richCompare .Eq _ _) (show wpAny (model prog w) A (compareOp .Eq _ _) _ E s from EqMixed.eq_int_str (wpAny_truthy_bool h))

noncomputable def opKind (prog : Program) (w : World) : KeyKind prog w OpKey where
  is := opIs
  hash := opHash w
  inj := fun v a b ha hb => by
    rcases opIs_shape ha with ⟨x, t, rfl, rfl⟩ | ⟨i, t, rfl, rfl⟩ <;> rcases opIs_shape hb with ⟨y, u, rfl, e⟩ | ⟨j, u, rfl, e⟩ <;> cases e <;> rfl
  byValue := fun k v h => by rcases opIs_shape h with ⟨x, t, rfl, rfl⟩ | ⟨i, t, rfl, rfl⟩ <;> rfl
  pyHash := fun {A E s k v Q} hv h => by
    rcases opIs_shape hv with ⟨x, t, rfl, rfl⟩ | ⟨i, t, rfl, rfl⟩
    · exact (strKind prog w).pyHash (k := x) hv h
    · exact (intKind prog w).pyHash (k := i) hv h
  eqBool := fun {A E s a b u v Q} hu hv h => by
    rcases opIs_shape hu with ⟨x, t, rfl, rfl⟩ | ⟨i, t, rfl, rfl⟩ <;> rcases opIs_shape hv with ⟨y, u, rfl, rfl⟩ | ⟨j, u, rfl, rfl⟩
    · refine (strKind prog w).eqBool (a := x) (b := y) hu hv ?_
      by_cases e : x = y
      · subst e; simpa using h
      · have e' : ¬ (Sum.inl x : OpKey) = Sum.inl y := fun q => e (Sum.inl.inj q)
        rw [decide_eq_false e'] at h; rw [decide_eq_false e]; exact h
    · rw [decide_eq_false (by intro q; cases q)] at h
      exact eqBool_str_int h
    · rw [decide_eq_false (by intro q; cases q)] at h
      exact eqBool_int_str h
    · refine (intKind prog w).eqBool (a := i) (b := j) hu hv ?_
      by_cases e : i = j
      · subst e; simpa using h
      · have e' : ¬ (Sum.inr i : OpKey) = Sum.inr j := fun q => e (Sum.inr.inj q)
        rw [decide_eq_false e'] at h; rw [decide_eq_false e]; exact h
  «strs» := fun k x t v h => by
    rcases opIs_shape h with ⟨y, u, rfl, e⟩ | ⟨i, u, rfl, e⟩
    · injection e with e1 e2; subst e1; exact (strKind prog w).«strs» x x t v h
    · cases e
end Mine
end
section
set_option Elab.async false
set_option maxRecDepth 100000
set_option linter.unusedVariables false
open PySem PySem.W PySem.Calls PyProof.Rows
namespace Mine

/-- abstract objects -/
inductive AO where
  | ns (m : List (Str × AV))
  | cell (v : Option AV)
  | list (l : List AV)
  | sdict (l : List (Str × AV))
  | idict (l : List (Int × AV))
  | tdict (l : List (List OpKey × AV))
  | raw (o : Obj)
  | titer (l : List AV)
  | tupg (items : Array Value)
/-- told of for its own sake -/
noncomputable def AO.isGhost : AO → Bool
  | .tupg _ => true
  | _ => false

noncomputable abbrev Store := Addr → Option AO
noncomputable def Store.set (σ : Store) (a : Addr) (o : AO) : Store := fun b => if b = a then some o else σ b
theorem set_self (σ : Store) (a : Addr) (o : AO) : σ.set a o a = some o := if_pos rfl
theorem set_ne {σ : Store} {a b : Addr} {o : AO} (h : b ≠ a) : σ.set a o b = σ b := if_neg h
noncomputable def Store.le (σ τ : Store) : Prop := ∀ a o, σ a = some o → τ a = some o
theorem Store.le.refl (σ : Store) : σ.le σ := fun _ _ x => x
theorem Store.le.trans {σ τ υ : Store} (x : σ.le τ) (y : τ.le υ) : σ.le υ := fun a o z => y a o (x a o z)
noncomputable def Store.Below (σ : Store) (n : Addr) : Prop := ∀ b o, σ b = some o → b < n
theorem le_set {σ : Store} {a : Addr} {o : AO} (h : σ.Below a) : σ.le (σ.set a o) := fun b p e => by
  rw [set_ne (Nat.ne_of_lt (h b p e))]; exact e
theorem le_set_set {σ τ : Store} {a : Addr} {o : AO} (h : σ.le τ) : (σ.set a o).le (τ.set a o) := fun b p e => by
  unfold Store.set at *
  split
  · rename_i q; rw [if_pos q] at e; exact e
  · rename_i q; rw [if_neg q] at e; exact h b p e
theorem set_set (σ : Store) (a : Addr) (o p : AO) : (σ.set a o).set a p = σ.set a p := by
  funext b; unfold Store.set; split <;> rfl
theorem set_swap (σ : Store) {a b : Addr} (h : a ≠ b) (o p : AO) : (σ.set a o).set b p = (σ.set b p).set a o := by
  funext c; unfold Store.set
  by_cases h1 : c = a
  · have h2 : ¬ c = b := fun q => h (h1.symm.trans q)
    rw [if_neg h2, if_pos h1, if_pos h1]
  · rw [if_neg h1]; by_cases h2 : c = b
    · rw [if_pos h2, if_neg h1]
    · rw [if_neg h2, if_neg h1]
theorem set_same {σ : Store} {a : Addr} {o : AO} (h : σ a = some o) : σ.set a o = σ := by
  funext b; unfold Store.set; split
  · rename_i q; rw [q, h]
  · rfl
theorem Store.Below.mono {σ : Store} {m n : Addr} (h : σ.Below m) (l : m ≤ n) : σ.Below n := fun b p e => Nat.lt_of_lt_of_le (h b p e) l
/-- a table's pairs -/
noncomputable def KVs {K : Type} (X : Cx) (h : Heap) (l : List (K × AV)) (kvs : List (K × Value)) : Prop := l.map (·.1) = kvs.map (·.1) ∧ VRs X h (l.map (·.2)) (kvs.map (·.2))
theorem KVs.mono {X : Cx} {K : Type} {h h' : Heap} {l : List (K × AV)} {kvs} (k : Kept X h h') (x : KVs X h l kvs) : KVs X h' l kvs := ⟨x.1, VRs.mono k _ _ x.2⟩

/-- what is at a -/
noncomputable def OR (X : Cx) (h : Heap) (a : Addr) : AO → Prop
  | .ns m => ∃ M, h.Ns a M ∧ ∀ x, OpR X h (m.lookup x) (M x)
  | .cell v => ∃ u, h.IsCell a u ∧ OpR X h v u
  | .list l => ∃ vs : List Value, h.IsList a vs.toArray ∧ h.PlainList a vs.toArray ∧ VRs X h l vs
  | .sdict l => ∃ kvs, h.DictOf (strKind X.prog X.w) a kvs ∧ KVs X h l kvs ∧ (a == sysModules) = false
  | .idict l => ∃ kvs, h.DictOf (intKind X.prog X.w) a kvs ∧ KVs X h l kvs ∧ (a == sysModules) = false
  | .tdict l => ∃ xs, h.DictOfH (tupleKind (opKind X.prog X.w)) a xs ∧ KVs X h l (xs.map fun x => (x.1, x.2.2)) ∧ (∀ x ∈ xs, ¬ X.own x.2.1) ∧ (a == sysModules) = false
  | .raw o => h.get? a = some o ∧ (o.cls = .type "tuple" → X.own a)
  | .titer l => ∃ t items o, h.get? a = some o ∧ o.cls = .type "tuple_iterator" ∧ o.data = .fields #[.ref t, .int 0 0] ∧ IsT X h t items ∧ VRs X h l items.toList
  | .tupg items => IsT X h a items

/-- an object is there that is no tuple -/
theorem OR.there_ {X : Cx} {h : Heap} {a : Addr} {o : AO} : o.isGhost = false → OR X h a o → ∃ ob, h.get? a = some ob ∧ ¬ ∃ items, IsT X h a items := by
  cases o with
  | ns _ =>
    intro _ z
    obtain ⟨M, ⟨o, es, ep, ho, hd, _⟩, _⟩ := z
    exact ⟨o, ho, fun ⟨i, ⟨o', ho', _, n, hd'⟩, _⟩ => by rw [ho] at ho'; cases ho'; rw [hd] at hd'; cases hd'⟩
  | cell _ =>
    intro _ z
    obtain ⟨u, ⟨o, ho, hd⟩, _⟩ := z
    exact ⟨o, ho, fun ⟨i, ⟨o', ho', _, n, hd'⟩, _⟩ => by rw [ho] at ho'; cases ho'; rw [hd] at hd'; cases hd'⟩
  | list _ =>
    intro _ z
    obtain ⟨vs, ⟨o, ho, hc, _⟩, _⟩ := z
    exact ⟨o, ho, fun ⟨i, ⟨o', ho', hc', _⟩, hw⟩ => by rw [ho] at ho'; cases ho'; exact absurd (hc.symm.trans hc') (by decide)⟩
  | sdict _ =>
    intro _ z
    obtain ⟨_, ⟨o, _, _, ho, hc, _⟩, _⟩ := z
    exact ⟨o, ho, fun ⟨i, ⟨o', ho', hc', _⟩, hw⟩ => by rw [ho] at ho'; cases ho'; exact absurd (hc.1.symm.trans hc') (by decide)⟩
  | idict _ =>
    intro _ z
    obtain ⟨_, ⟨o, _, _, ho, hc, _⟩, _⟩ := z
    exact ⟨o, ho, fun ⟨i, ⟨o', ho', hc', _⟩, hw⟩ => by rw [ho] at ho'; cases ho'; exact absurd (hc.1.symm.trans hc') (by decide)⟩
  | tdict _ =>
    intro _ z
    obtain ⟨_, ⟨o, _, _, ho, hc, _⟩, _⟩ := z
    exact ⟨o, ho, fun ⟨i, ⟨o', ho', hc', _⟩, hw⟩ => by rw [ho] at ho'; cases ho'; exact absurd (hc.1.symm.trans hc') (by decide)⟩
  | raw o =>
    intro _ z
    obtain ⟨ho, hc⟩ := z
    exact ⟨o, ho, fun ⟨i, ⟨o', ho', hc', _⟩, hw⟩ => by rw [ho] at ho'; cases ho'; exact hw (hc hc')⟩
  | titer _ =>
    intro _ z
    obtain ⟨t, i, o, ho, hc, hd, _⟩ := z
    exact ⟨o, ho, fun ⟨i, ⟨o', ho', hc', _⟩, hw⟩ => by rw [ho] at ho'; cases ho'; exact absurd (hc.symm.trans hc') (by decide)⟩
  | tupg _ => intro h; cases h
theorem OR.there {X : Cx} {h : Heap} {a : Addr} {o : AO} (x : OR X h a o) (hg : o.isGhost = false := by rfl) : ∃ ob, h.get? a = some ob ∧ ¬ ∃ items, IsT X h a items := OR.there_ hg x
theorem OR.obj {X : Cx} {h : Heap} {a : Addr} {o : AO} (x : OR X h a o) : ∃ ob, h.get? a = some ob := by
  cases q : o.isGhost with
  | false => obtain ⟨ob, ho, _⟩ := x.there q; exact ⟨ob, ho⟩
  | true =>
    cases o <;> first | (cases q; done) | skip
    obtain ⟨⟨ob, ho, _⟩, _⟩ := x
    exact ⟨ob, ho⟩

theorem isTupleKey_kept {X : Cx} {prog : Program} {w : World} {h h' : Heap} {ks : List OpKey} {a : Addr} (k : Kept X h h') (hn : ¬ X.own a) (x : IsTupleKey (opKind prog w) h ks a) : IsTupleKey (opKind prog w) h' ks a := by
  obtain ⟨o, items, n, ho, hc, hd, hi⟩ := x
  obtain ⟨⟨o', ho', hc', n', hd'⟩, _⟩ := k a items ⟨⟨o, ho, hc, n, hd⟩, hn⟩
  exact ⟨o', items, n', ho', hc', hd', hi⟩

theorem OR.move {X : Cx} {h h' : Heap} {a : Addr} (k : Kept X h h') (e : ∀ o, h.get? a = some o → h'.get? a = some o) {o : AO} : OR X h a o → OR X h' a o := by
  cases o with
  | ns _ =>
    intro z
    obtain ⟨M, ⟨o, es, ep, ho, r⟩, hm⟩ := z
    exact ⟨M, ⟨o, es, ep, e _ ho, r⟩, fun x => (hm x).mono k⟩
  | cell _ =>
    intro z
    obtain ⟨u, ⟨o, ho, hd⟩, hv⟩ := z
    exact ⟨u, ⟨o, e _ ho, hd⟩, hv.mono k⟩
  | list _ =>
    intro z
    obtain ⟨vs, ⟨o, ho, r⟩, ⟨n', ho'⟩, hv⟩ := z
    exact ⟨vs, ⟨o, e _ ho, r⟩, ⟨n', e _ ho'⟩, VRs.mono k _ _ hv⟩
  | sdict _ =>
    intro z
    obtain ⟨kvs, ⟨o, es, ep, ho, r⟩, hv, hs⟩ := z
    exact ⟨kvs, ⟨o, es, ep, e _ ho, r⟩, hv.mono k, hs⟩
  | idict _ =>
    intro z
    obtain ⟨kvs, ⟨o, es, ep, ho, r⟩, hv, hs⟩ := z
    exact ⟨kvs, ⟨o, es, ep, e _ ho, r⟩, hv.mono k, hs⟩
  | tdict _ =>
    intro z
    obtain ⟨xs, ⟨o, es, ep, ho, hc, hd, he, hi, hn⟩, hv, hw, hs⟩ := z
    exact ⟨xs, ⟨o, es, ep, e _ ho, hc, hd, he, fun x hx => isTupleKey_kept k (hw x hx) (hi x hx), hn⟩, hv.mono k, hw, hs⟩
  | raw o =>
    intro z
    obtain ⟨ho, hc⟩ := z
    exact ⟨e _ ho, hc⟩
  | titer _ =>
    intro z
    obtain ⟨t, i, o, ho, hc, hd, ht, hv⟩ := z
    exact ⟨t, i, o, e _ ho, hc, hd, k _ _ ht, VRs.mono k _ _ hv⟩
  | tupg _ =>
    intro ht
    exact k _ _ ht

/-- a state that the store tells -/
structure Ok (X : Cx) (σ : Store) (s : Shared) : Prop where
  keep : X.h₀.StaysIn s.heap
  gens : s.gens = X.gens
  drawn : s.drawn = X.drawn
  os : s.os = X.os
  sto : ∀ a o, σ a = some o → OR X s.heap a o ∧ X.h₀.get? a = none
  own : ∀ a, X.own a → ∃ o, s.heap.get? a = some o

section
variable {X : Cx} {σ τ : Store} {s : Shared}
theorem Ok.drop (x : Ok X τ s) (l : σ.le τ) : Ok X σ s := ⟨x.keep, x.gens, x.drawn, x.os, fun a o e => x.sto a o (l a o e), x.own⟩
theorem Ok.below (x : Ok X σ s) : σ.Below s.heap.objs.size := fun b o e => by
  obtain ⟨ob, ho⟩ := (x.sto b o e).1.obj
  exact Heap.lt_size ho
/-- more in the heap -/
theorem Ok.grow {h' : Heap} {tk : Nat} (x : Ok X σ s) (k : ∀ b o, s.heap.get? b = some o → h'.get? b = some o) : Ok X σ { s with heap := h', toks := tk } :=
  ⟨fun b o e => k b o (x.keep b o e), x.gens, x.drawn, x.os, fun a o e => ⟨(x.sto a o e).1.move (Kept.of_keeps k) (k a), (x.sto a o e).2⟩, fun a e => (x.own a e).imp fun o e => k a o e⟩
theorem Ok.toks {tk : Nat} (x : Ok X σ s) : Ok X σ { s with toks := tk } := x.grow fun _ _ e => e
theorem fresh_of {h : Heap} {a : Addr} (ha : h.objs.size ≤ a) : h.get? a = none := by
  cases q : h.get? a with
  | none => rfl
  | some o => exact absurd (Heap.lt_size q) (Nat.not_lt.mpr ha)
/-- a new object -/
theorem Ok.alloc {h' : Heap} {tk : Nat} {a : Addr} {o : AO} (x : Ok X σ s) (k : ∀ b o, s.heap.get? b = some o → h'.get? b = some o) (ha : s.heap.objs.size ≤ a) (ho : OR X h' a o) :
    Ok X (σ.set a o) { s with heap := h', toks := tk } := by
  have y := x.grow (tk := tk) k
  refine ⟨y.keep, y.gens, y.drawn, y.os, fun b p e => ?_, y.own⟩
  unfold Store.set at e
  split at e
  · rename_i q; cases e; subst q
    refine ⟨ho, ?_⟩
    cases q : X.h₀.get? b with
    | none => rfl
    | some ob => have := x.keep b ob q; rw [fresh_of ha] at this; cases this
  · exact y.sto b p e
theorem kept_upd {X : Cx} {h h' : Heap} {d : Addr} {ob : Obj} (hd : h.get? d = some ob) (hn : ¬ ∃ items, IsT X h d items) (hs : Heap.SameBut d h h') : Kept X h h' := fun a items t => by
  by_cases q : a = d
  · exact (hn ⟨items, q ▸ t⟩).elim
  · obtain ⟨⟨o, ho, r⟩, n⟩ := t
    exact ⟨⟨o, (hs.2 a q).trans ho, r⟩, n⟩
/-- an object turned -/
theorem Ok.upd {h' : Heap} {tk : Nat} {d : Addr} {o o' : AO} (x : Ok X σ s) (hd : σ d = some o) (hs : Heap.SameBut d s.heap h') (ho : OR X h' d o') (hg : o.isGhost = false := by rfl) :
    Ok X (σ.set d o') { s with heap := h', toks := tk } ∧ Kept X s.heap h' := by
  obtain ⟨hO, hnew⟩ := x.sto d o hd
  obtain ⟨ob, hob, hnt⟩ := hO.there hg
  have k := kept_upd (X := X) hob hnt hs
  refine ⟨⟨fun b p e => (hs.2 b (fun q => by rw [q, hnew] at e; cases e)).trans (x.keep b p e), x.gens, x.drawn, x.os, fun b p e => ?_, fun a e => ?_⟩, k⟩
  · unfold Store.set at e
    split at e
    · rename_i q; cases e; subst q; exact ⟨ho, hnew⟩
    · rename_i q; exact ⟨(x.sto b p e).1.move k fun o e' => (hs.2 b q).trans e', (x.sto b p e).2⟩
  by_cases q : a = d
  · obtain ⟨o, h⟩ := ho.obj
    exact ⟨o, q ▸ h⟩
  · exact (x.own a e).imp fun o e => (hs.2 a q).trans e
end

/-- two stores side by side -/
noncomputable def Store.join (σ φ : Store) : Store := fun a => match σ a with | some o => some o | none => φ a
noncomputable def Apart (σ φ : Store) : Prop := ∀ a o, σ a = some o → φ a = none
theorem join_left {σ φ : Store} {a : Addr} {o : AO} (h : σ a = some o) : σ.join φ a = some o := by unfold Store.join; rw [h]
theorem join_right {σ φ : Store} {a : Addr} {o : AO} (d : Apart σ φ) (h : φ a = some o) : σ.join φ a = some o := by
  unfold Store.join
  cases q : σ a with
  | none => exact h
  | some p => rw [d a p q] at h; cases h
theorem join_le {σ τ φ : Store} (l : σ.le τ) (d : Apart τ φ) : (σ.join φ).le (τ.join φ) := fun a o e => by
  unfold Store.join at e
  cases q : σ a with
  | some p => rw [q] at e; cases e; exact join_left (l a _ q)
  | none => rw [q] at e; exact join_right d e
theorem join_set (σ φ : Store) (a : Addr) (o : AO) : (σ.join φ).set a o = (σ.set a o).join φ := by
  funext b
  by_cases h : b = a
  · subst h; rw [set_self, join_left (set_self ..)]
  · rw [set_ne h]; unfold Store.join; rw [set_ne h]
theorem join_assoc (σ τ φ : Store) : (σ.join τ).join φ = σ.join (τ.join φ) := by
  funext b; unfold Store.join
  cases σ b <;> rfl
theorem Apart.le {σ τ φ : Store} (d : Apart τ φ) (l : σ.le τ) : Apart σ φ := fun a o e => d a o (l a o e)
theorem Apart.set {σ φ : Store} {a : Addr} {o : AO} (d : Apart σ φ) (h : φ a = none) : Apart (σ.set a o) φ := fun b p e => by
  unfold Store.set at e; split at e
  · rename_i q; rw [q]; exact h
  · exact d b p e
/-- the frames below stand in φ -/
noncomputable def FrOk (A : Around) (φ : Store) : Prop := ∃ l, A.frames = some l ∧ ∀ e ∈ l, e.scope.kind = .function ∧ ∃ L ρ, e.frame = some L ∧ φ L = some (.ns ρ)
/-- the store σ, and φ that nobody touches -/
structure Okf (X : Cx) (A : Around) (φ σ : Store) (s : Shared) : Prop where
  apart : Apart σ φ
  ok : Ok X (σ.join φ) s
  fr : FrOk A φ
section
variable {X : Cx} {A : Around} {σ τ φ : Store} {s : Shared}
theorem Okf.keep (x : Okf X A φ σ s) : X.h₀.StaysIn s.heap := x.ok.keep
theorem Okf.sto (x : Okf X A φ σ s) {a : Addr} {o : AO} (e : σ a = some o) : OR X s.heap a o := (x.ok.sto a o (join_left e)).1
theorem Okf.drop (x : Okf X A φ τ s) (l : σ.le τ) : Okf X A φ σ s := ⟨x.apart.le l, x.ok.drop (join_le l x.apart), x.fr⟩
theorem Okf.below (x : Okf X A φ σ s) : σ.Below s.heap.objs.size := fun b o e => x.ok.below b o (join_left e)
theorem Okf.isT {a : Addr} {items : Array Value} {h' : Heap} (x : Okf X A φ σ s) (ha : s.heap.objs.size ≤ a) (h : IsTup h' a items) : IsT X h' a items :=
  ⟨h, fun q => by obtain ⟨o, e⟩ := x.ok.own a q; exact absurd (Heap.lt_size e) (Nat.not_lt.mpr ha)⟩
theorem Okf.grow {h' : Heap} {tk : Nat} (x : Okf X A φ σ s) (k : ∀ b o, s.heap.get? b = some o → h'.get? b = some o) : Okf X A φ σ { s with heap := h', toks := tk } := ⟨x.apart, x.ok.grow k, x.fr⟩
theorem Okf.toks {tk : Nat} (x : Okf X A φ σ s) : Okf X A φ σ { s with toks := tk } := ⟨x.apart, x.ok.toks, x.fr⟩
theorem Okf.free {a : Addr} (x : Okf X A φ σ s) (ha : s.heap.objs.size ≤ a) : φ a = none := by
  cases q : φ a with
  | none => rfl
  | some o => exact absurd (x.ok.below a o (join_right x.apart q)) (Nat.not_lt.mpr ha)
theorem Okf.alloc {h' : Heap} {tk : Nat} {a : Addr} {o : AO} (x : Okf X A φ σ s) (k : ∀ b o, s.heap.get? b = some o → h'.get? b = some o) (ha : s.heap.objs.size ≤ a) (ho : OR X h' a o) :
    Okf X A φ (σ.set a o) { s with heap := h', toks := tk } := ⟨x.apart.set (x.free ha), join_set σ φ a o ▸ x.ok.alloc k ha ho, x.fr⟩
theorem Okf.upd {h' : Heap} {tk : Nat} {d : Addr} {o o' : AO} (x : Okf X A φ σ s) (hd : σ d = some o) (hs : Heap.SameBut d s.heap h') (ho : OR X h' d o') (hg : o.isGhost = false := by rfl) :
    Okf X A φ (σ.set d o') { s with heap := h', toks := tk } ∧ Kept X s.heap h' :=
  have y := x.ok.upd (tk := tk) (join_left hd) hs ho hg
  ⟨⟨x.apart.set (x.apart d o hd), join_set σ φ d o' ▸ y.1, x.fr⟩, y.2⟩
/-- a part of the store that is set aside, and comes back -/
theorem Okf.aside {B : Around} {ψ : Store} (x : Okf X A φ (σ.join ψ) s) (d : Apart σ ψ) (f : FrOk B (ψ.join φ)) : Okf X B (ψ.join φ) σ s :=
  ⟨fun a o e => by
    have h1 := d a o e
    have h2 := x.apart a o (join_left e)
    unfold Store.join; rw [h1]; exact h2, join_assoc σ ψ φ ▸ x.ok, f⟩
theorem Okf.back {B : Around} {ψ : Store} (x : Okf X B (ψ.join φ) σ s) (dφ : Apart ψ φ) (f : FrOk A φ) : Okf X A φ (σ.join ψ) s ∧ Apart σ ψ := by
  have d : Apart σ ψ := fun a o e => by
    have := x.apart a o e
    unfold Store.join at this
    cases q : ψ a with
    | none => rfl
    | some p => rw [q] at this; cases this
  refine ⟨⟨fun a o e => ?_, (join_assoc σ ψ φ).symm ▸ x.ok, f⟩, d⟩
  unfold Store.join at e
  cases q : σ a with
  | some p =>
    have := x.apart a p q
    unfold Store.join at this
    rw [d a p q] at this; exact this
  | none => rw [q] at e; exact dφ a o e
end
noncomputable def Store.one (a : Addr) (o : AO) : Store := fun b => if b = a then some o else none
theorem one_self (a : Addr) (o : AO) : Store.one a o a = some o := if_pos rfl
theorem join_one {σ : Store} {a : Addr} {o : AO} (h : σ a = none) : σ.join (Store.one a o) = σ.set a o := by
  funext b
  by_cases q : b = a
  · subst q; rw [set_self]; unfold Store.join; rw [h, one_self]
  · rw [set_ne q]; unfold Store.join Store.one; rw [if_neg q]; cases σ b <;> rfl
theorem apart_one {σ : Store} {a : Addr} {o : AO} (h : σ a = none) : Apart σ (Store.one a o) := fun b p e => by
  unfold Store.one; rw [if_neg]; intro q; rw [q, h] at e; cases e
theorem Store.Below.none {σ : Store} {a : Addr} (h : σ.Below a) : σ a = Option.none := by
  cases q : σ a with
  | none => rfl
  | some o => exact absurd (h a o q) (Nat.lt_irrefl _)

inductive AF where
  | next | brk | cont
  | ret (V : AV)
noncomputable def FR (X : Cx) (h : Heap) : AF → Flow → Prop
  | .next, f => f = .next
  | .brk, f => f = .brk
  | .cont, f => f = .cont
  | .ret V, f => ∃ v, f = .ret v ∧ VR X h V v
noncomputable def ER {α : Type} (_ : Heap) (b a : α) : Prop := a = b
end Mine
end
section
set_option Elab.async false
set_option maxRecDepth 100000
set_option linter.unusedVariables false
open PySem PySem.W PySem.Calls PyProof.Rows
namespace Mine

/-- the state of a frame: its names, and the store -/
structure Fst (X : Cx) (A : Around) (env : Env) (ρ : List (Str × AV)) (φ σ : Store) (s : Shared) : Prop where
  off : φ env.locals = none ∧ σ env.locals = none
  okf : Okf X A ((Store.one env.locals (.ns ρ)).join φ) σ s
section
variable {X : Cx} {A : Around} {env : Env} {ρ : List (Str × AV)} {φ σ τ : Store} {s : Shared}
theorem Fst.toks {tk : Nat} (x : Fst X A env ρ φ σ s) : Fst X A env ρ φ σ { s with toks := tk } := ⟨x.off, x.okf.toks⟩
theorem Fst.grow {h' : Heap} {tk : Nat} (x : Fst X A env ρ φ σ s) (k : ∀ b o, s.heap.get? b = some o → h'.get? b = some o) : Fst X A env ρ φ σ { s with heap := h', toks := tk } := ⟨x.off, x.okf.grow k⟩
theorem le_none {σ τ : Store} (l : σ.le τ) {a : Addr} (h : τ a = none) : σ a = none := by
  cases q : σ a with
  | none => rfl
  | some o => exact absurd ((l _ _ q).symm.trans h) (by simp)
theorem Fst.drop (x : Fst X A env ρ φ τ s) (l : σ.le τ) : Fst X A env ρ φ σ s := ⟨⟨x.off.1, le_none l x.off.2⟩, x.okf.drop l⟩
theorem Fst.keep (x : Fst X A env ρ φ σ s) : X.h₀.StaysIn s.heap := x.okf.keep
theorem Fst.ne {a : Addr} {o : AO} (x : Fst X A env ρ φ σ s) (e : σ a = some o) : a ≠ env.locals := fun q => by rw [q, x.off.2] at e; cases e
theorem Fst.sto {a : Addr} {o : AO} (x : Fst X A env ρ φ σ s) (e : σ a = some o) : OR X s.heap a o := x.okf.sto e
/-- the whole, the names outermost -/
theorem Fst.whole (x : Fst X A env ρ φ σ s) : Ok X ((σ.set env.locals (.ns ρ)).join φ) s := by
  have := x.okf.ok
  rw [← join_assoc, join_one x.off.2] at this; exact this
theorem Fst.names (x : Fst X A env ρ φ σ s) : OR X s.heap env.locals (.ns ρ) := (x.whole.sto _ _ (join_left (set_self ..))).1
theorem Fst.lt (x : Fst X A env ρ φ σ s) : env.locals < s.heap.objs.size := x.whole.below _ _ (join_left (set_self ..))
theorem Fst.below (x : Fst X A env ρ φ σ s) : σ.Below s.heap.objs.size := x.okf.below
theorem Fst.alloc {h' : Heap} {tk : Nat} {a : Addr} {o : AO} (x : Fst X A env ρ φ σ s) (k : ∀ b o, s.heap.get? b = some o → h'.get? b = some o) (ha : s.heap.objs.size ≤ a) (ho : OR X h' a o) :
    Fst X A env ρ φ (σ.set a o) { s with heap := h', toks := tk } :=
  ⟨⟨x.off.1, (set_ne (Nat.ne_of_lt (Nat.lt_of_lt_of_le x.lt ha))).trans x.off.2⟩, x.okf.alloc k ha ho⟩
theorem Fst.upd {h' : Heap} {tk : Nat} {d : Addr} {o o' : AO} (x : Fst X A env ρ φ σ s) (hd : σ d = some o) (hs : Heap.SameBut d s.heap h') (ho : OR X h' d o') (hg : o.isGhost = false := by rfl) :
    Fst X A env ρ φ (σ.set d o') { s with heap := h', toks := tk } ∧ Kept X s.heap h' :=
  have y := x.okf.upd (tk := tk) hd hs ho hg
  ⟨⟨⟨x.off.1, (set_ne (x.ne hd).symm).trans x.off.2⟩, y.1⟩, y.2⟩
theorem apart_one_of {φ : Store} {a : Addr} {o : AO} (h : φ a = none) : Apart (Store.one a o) φ := fun b p e => by
  unfold Store.one at e
  split at e
  · rename_i q; cases e; rw [q]; exact h
  · cases e
/-- a name stored -/
theorem FrOk.names {A : Around} {L : Addr} {ρ ρ' : List (Str × AV)} {φ : Store} (f : FrOk A ((Store.one L (.ns ρ)).join φ)) : FrOk A ((Store.one L (.ns ρ')).join φ) := by
  obtain ⟨l, hl, h⟩ := f
  refine ⟨l, hl, fun e he => ?_⟩
  obtain ⟨hk, M, ρ₁, hf, hp⟩ := h e he
  by_cases q : M = L
  · exact ⟨hk, M, ρ', hf, by subst q; exact join_left (one_self ..)⟩
  · refine ⟨hk, M, ρ₁, hf, ?_⟩
    unfold Store.join Store.one at hp ⊢
    rw [if_neg q] at hp ⊢; exact hp
theorem Fst.put {h' : Heap} {tk : Nat} {ρ' : List (Str × AV)} (x : Fst X A env ρ φ σ s) (hs : Heap.SameBut env.locals s.heap h') (ho : OR X h' env.locals (.ns ρ')) :
    Fst X A env ρ' φ σ { s with heap := h', toks := tk } ∧ Kept X s.heap h' := by
  have y := x.whole.upd (tk := tk) (join_left (set_self ..)) hs ho
  rw [join_set, set_set] at y
  have e : (σ.set env.locals (.ns ρ')).join φ = σ.join ((Store.one env.locals (.ns ρ')).join φ) := by rw [← join_one x.off.2, join_assoc]
  refine ⟨⟨x.off, ⟨fun a o q => ?_, e ▸ y.1, x.okf.fr.names⟩⟩, y.2⟩
  have := x.okf.apart a o q
  unfold Store.join Store.one at this ⊢
  rw [if_neg (x.ne q)] at this ⊢; exact this
end

/-- what stands behind a tree that leaves the names as they are -/
noncomputable def PE {α β : Type} (R : Heap → β → α → Prop) (X : Cx) (A : Around) (env : Env) (ρ : List (Str × AV)) (φ : Store) (h : Heap) (Q : β → Store → Prop) : α → Shared → Prop :=
  fun a s' => ∃ b σ', R s'.heap b a ∧ Fst X A env ρ φ σ' s' ∧ Kept X h s'.heap ∧ Q b σ'
noncomputable def XE {α β : Type} (R : Heap → β → α → Prop) (X : Cx) (A : Around) (env : Env) (ρ : List (Str × AV)) (t : Sem α) (σ : Store) (Q : β → Store → Prop) (E : Store → Value → Shared → Prop) : Prop :=
  ∀ φ s, Fst X A env ρ φ σ s → wpAny (model X.prog X.w) A t (PE R X A env ρ φ s.heap Q) (E φ) s
noncomputable abbrev EV (X : Cx) (A : Around) (env : Env) (ρ : List (Str × AV)) (e : Expr) := XE (VR X) X A env ρ (eval e env)
noncomputable abbrev EB (X : Cx) (A : Around) (env : Env) (ρ : List (Str × AV)) (e : Expr) := XE (@ER Bool) X A env ρ (isTrue e env (eval e env))

/-- behind a statement -/
noncomputable def PS (X : Cx) (A : Around) (env : Env) (φ : Store) (h : Heap) (Q : AF → List (Str × AV) → Store → Prop) : Flow → Shared → Prop :=
  fun a s' => ∃ f ρ' σ', FR X s'.heap f a ∧ Fst X A env ρ' φ σ' s' ∧ Kept X h s'.heap ∧ Q f ρ' σ'
noncomputable def XS (X : Cx) (A : Around) (env : Env) (ρ : List (Str × AV)) (t : Sem Flow) (σ : Store) (Q : AF → List (Str × AV) → Store → Prop) (E : Store → Value → Shared → Prop) : Prop :=
  ∀ φ s, Fst X A env ρ φ σ s → wpAny (model X.prog X.w) A t (PS X A env φ s.heap Q) (E φ) s
noncomputable abbrev ES (X : Cx) (A : Around) (env : Env) (ρ : List (Str × AV)) (st : Stmt) := XS X A env ρ (exec st env)
noncomputable abbrev ESs (X : Cx) (A : Around) (env : Env) (ρ : List (Str × AV)) (sts : List Stmt) := XS X A env ρ (execs sts env)
/-- behind a store of names -/
noncomputable def PU (X : Cx) (A : Around) (env : Env) (φ : Store) (h : Heap) (Q : List (Str × AV) → Store → Prop) : Unit → Shared → Prop :=
  fun _ s' => ∃ ρ' σ', Fst X A env ρ' φ σ' s' ∧ Kept X h s'.heap ∧ Q ρ' σ'
noncomputable def XU (X : Cx) (A : Around) (env : Env) (ρ : List (Str × AV)) (t : Sem Unit) (σ : Store) (Q : List (Str × AV) → Store → Prop) (E : Store → Value → Shared → Prop) : Prop :=
  ∀ φ s, Fst X A env ρ φ σ s → wpAny (model X.prog X.w) A t (PU X A env φ s.heap Q) (E φ) s

section
variable {α β : Type} {R : Heap → β → α → Prop} {X : Cx} {A : Around} {env : Env} {ρ : List (Str × AV)} {t : Sem α} {σ τ φ : Store} {Q Q' : β → Store → Prop} {E : Store → Value → Shared → Prop} {s : Shared}
theorem XE.use {Q₂ : α → Shared → Prop} (h : XE R X A env ρ t σ Q E) (x : Fst X A env ρ φ σ s)
    (k : ∀ a b σ' s', R s'.heap b a → Fst X A env ρ φ σ' s' → Kept X s.heap s'.heap → Q b σ' → Q₂ a s') : wpAny (model X.prog X.w) A t Q₂ (E φ) s :=
  wpAny_mono (h _ s x) (fun a s' ⟨b, σ', r, y, kk, q⟩ => k a b σ' s' r y kk q) fun _ _ e => e
theorem XE.at {h₀ : Heap} (h : XE R X A env ρ t σ Q E) (x : Fst X A env ρ φ σ s) (k : Kept X h₀ s.heap) : wpAny (model X.prog X.w) A t (PE R X A env ρ φ h₀ Q) (E φ) s :=
  h.use x fun a b σ' s' r y kk q => ⟨b, σ', r, y, k.trans kk, q⟩
theorem XE.mono (h : XE R X A env ρ t σ Q E) (hq : ∀ b σ', Q b σ' → Q' b σ') : XE R X A env ρ t σ Q' E := fun φ s x =>
  h.use x fun a b σ' s' r y kk q => ⟨b, σ', r, y, kk, hq b σ' q⟩
end
section
variable {X : Cx} {A : Around} {env : Env} {ρ : List (Str × AV)} {σ τ φ : Store} {E : Store → Value → Shared → Prop} {s : Shared}
theorem XS.use {t : Sem Flow} {Q : AF → List (Str × AV) → Store → Prop} {Q₂ : Flow → Shared → Prop} (h : XS X A env ρ t σ Q E) (x : Fst X A env ρ φ σ s)
    (k : ∀ a f ρ' σ' s', FR X s'.heap f a → Fst X A env ρ' φ σ' s' → Kept X s.heap s'.heap → Q f ρ' σ' → Q₂ a s') : wpAny (model X.prog X.w) A t Q₂ (E φ) s :=
  wpAny_mono (h _ s x) (fun a s' ⟨f, ρ', σ', r, y, kk, q⟩ => k a f ρ' σ' s' r y kk q) fun _ _ e => e
theorem XS.at {t : Sem Flow} {Q : AF → List (Str × AV) → Store → Prop} {h₀ : Heap} (h : XS X A env ρ t σ Q E) (x : Fst X A env ρ φ σ s) (k : Kept X h₀ s.heap) : wpAny (model X.prog X.w) A t (PS X A env φ h₀ Q) (E φ) s :=
  h.use x fun a f ρ' σ' s' r y kk q => ⟨f, ρ', σ', r, y, k.trans kk, q⟩
theorem XS.mono {t : Sem Flow} {Q Q' : AF → List (Str × AV) → Store → Prop} (h : XS X A env ρ t σ Q E) (hq : ∀ f ρ' σ', Q f ρ' σ' → Q' f ρ' σ') : XS X A env ρ t σ Q' E := fun φ s x =>
  h.use x fun a f ρ' σ' s' r y kk q => ⟨f, ρ', σ', r, y, kk, hq f ρ' σ' q⟩
/-- an exact value, told of no heap -/
theorem VR_con (h : Heap) (v : Value) : VR X h (.con v) v := rfl

/-! names -/
theorem names_of (x : Fst X A env ρ φ σ s) : ∃ M, s.heap.Ns env.locals M ∧ ∀ y, OpR X s.heap (ρ.lookup y) (M y) := x.names
theorem EV_local {n : Str} {pos : Pos} {V : AV} {Q : AV → Store → Prop} (hk : env.scope.kind = .function) (hl : env.kindOf n = some .local) (hv : ρ.lookup n = some V) (h : Q V σ)
    (hd : (n == ("__debug__" : Str)) = false := by decide) : EV X A env ρ (.Name n pos) σ Q E := fun φ s x => by
  obtain ⟨M, hn, hM⟩ := names_of x
  obtain ⟨v, hv', hr⟩ := (hv ▸ hM n : OpR X s.heap (some V) (M n)).some
  exact wpAny_Name (wpAny_loadName_local hk hl hn hv' ⟨V, σ, hr, x, .refl _, h⟩) hd
theorem EV_cell {n : Str} {pos : Pos} {c : Addr} {V : AV} {Q : AV → Store → Prop} (hk : env.scope.kind = .function) (hl : env.kindOf n = some .cell) (hc : env.cells.lookup n = some c)
    (hv : σ c = some (.cell (some V))) (h : Q V σ) (hd : (n == ("__debug__" : Str)) = false := by decide) : EV X A env ρ (.Name n pos) σ Q E := fun φ s x => by
  obtain ⟨u, hu, hr⟩ := x.sto hv
  obtain ⟨v, rfl, hr⟩ := hr.some
  exact wpAny_Name (wpAny_loadName_cell hk hl hc hu ⟨V, σ, hr, x, .refl _, h⟩) hd
theorem EV_global {n : Str} {pos : Pos} {v : Value} {Q : AV → Store → Prop} (hk : env.scope.kind = .function) (hl : env.kindOf n = some .globalImplicit) (hg : env.globals = mainGlobals)
    (hv : X.mg n = some v) (h : Q (.con v) σ) (hd : (n == ("__debug__" : Str)) = false := by decide) : EV X A env ρ (.Name n pos) σ Q E := fun φ s x =>
  Name_function_global hk hl (loadGlobal_global (hg ▸ X.g.keeps x.keep) hv ⟨.con v, σ, VR_con _ v, x, .refl _, h⟩) hd
theorem EV_builtin {n : Str} {pos : Pos} {v : Value} {Q : AV → Store → Prop} (hk : env.scope.kind = .function) (hl : env.kindOf n = some .globalImplicit) (hg : env.globals = mainGlobals) (hb : env.builtins = builtinsNs)
    (hm : X.mg n = none) (hv : X.mb n = some v) (h : Q (.con v) σ) (hd : (n == ("__debug__" : Str)) = false := by decide) : EV X A env ρ (.Name n pos) σ Q E := fun φ s x =>
  Name_function_global hk hl (loadGlobal_builtin (hg ▸ X.g.keeps x.keep) hm (hb ▸ X.b.keeps x.keep) hv ⟨.con v, σ, VR_con _ v, x, .refl _, h⟩) hd

/-! constants -/
theorem EV_int {i : Int} {k : Nat} {pos : Pos} {Q : AV → Store → Prop} (h : Q (.int i) σ) : EV X A env ρ (.Constant (.int i) k pos) σ Q E := fun φ s x =>
  wpAny_Constant_int ⟨.int i, σ, ⟨_, rfl⟩, x.toks, .refl _, h⟩
theorem EV_str {y : Str} {k : Nat} {pos : Pos} {Q : AV → Store → Prop} (h : Q (.str y) σ) : EV X A env ρ (.Constant (.str y) k pos) σ Q E := fun φ s x =>
  Constant_str ⟨.str y, σ, ⟨_, rfl⟩, x.toks, .refl _, h⟩
theorem EV_bool {y : Bool} {k : Nat} {pos : Pos} {Q : AV → Store → Prop} (h : Q (.bool y) σ) : EV X A env ρ (.Constant (.bool y) k pos) σ Q E := fun φ s x =>
  (show wpAny _ A (pure (Value.bool y)) _ (E φ) s from wpAny_pure ⟨.bool y, σ, rfl, x, .refl _, h⟩)

theorem wpAny_release {vs keep : List Value} {Q : Unit → Shared → Prop} {M : Model} {E : Value → Shared → Prop} (h : Q () s) : wpAny M A (release vs keep) Q E s := fun Γ q _ => by rw [Sem.wp_release]; exact h
theorem wpAny_operate {vs : List Value} {m : Sem Value} {Q : Value → Shared → Prop} {M : Model} {E : Value → Shared → Prop} (h : wpAny M A m Q E s) : wpAny M A (operate vs m) Q E s := fun Γ q hΓ => by rw [Sem.wp_operate]; exact h Γ q hΓ
/-! two operands -/
/-- a step on values that are told -/
noncomputable def Op1 (X : Cx) (A : Around) (env : Env) (ρ : List (Str × AV)) {α β : Type} (R : Heap → β → α → Prop) (f : Value → Sem α) (V : AV) (σ : Store) (Q : β → Store → Prop) (E : Store → Value → Shared → Prop) : Prop :=
  ∀ φ s a, VR X s.heap V a → Fst X A env ρ φ σ s → wpAny (model X.prog X.w) A (f a) (PE R X A env ρ φ s.heap Q) (E φ) s
noncomputable def Op2 (X : Cx) (A : Around) (env : Env) (ρ : List (Str × AV)) {α β : Type} (R : Heap → β → α → Prop) (f : Value → Value → Sem α) (V U : AV) (σ : Store) (Q : β → Store → Prop) (E : Store → Value → Shared → Prop) : Prop :=
  ∀ φ s a b, VR X s.heap V a → VR X s.heap U b → Fst X A env ρ φ σ s → wpAny (model X.prog X.w) A (f a b) (PE R X A env ρ φ s.heap Q) (E φ) s
theorem Op1.at {α β : Type} {R : Heap → β → α → Prop} {f : Value → Sem α} {V : AV} {Q : β → Store → Prop} {h₀ : Heap} {a : Value} (h : Op1 X A env ρ R f V σ Q E) (ha : VR X s.heap V a) (x : Fst X A env ρ φ σ s) (k : Kept X h₀ s.heap) :
    wpAny (model X.prog X.w) A (f a) (PE R X A env ρ φ h₀ Q) (E φ) s :=
  wpAny_mono (h _ s a ha x) (fun _ _ ⟨b, σ', r, y, kk, q⟩ => ⟨b, σ', r, y, k.trans kk, q⟩) fun _ _ e => e
theorem Op2.at {α β : Type} {R : Heap → β → α → Prop} {f : Value → Value → Sem α} {V U : AV} {Q : β → Store → Prop} {h₀ : Heap} {a b : Value} (h : Op2 X A env ρ R f V U σ Q E) (ha : VR X s.heap V a) (hb : VR X s.heap U b) (x : Fst X A env ρ φ σ s) (k : Kept X h₀ s.heap) :
    wpAny (model X.prog X.w) A (f a b) (PE R X A env ρ φ h₀ Q) (E φ) s :=
  wpAny_mono (h _ s a b ha hb x) (fun _ _ ⟨b, σ', r, y, kk, q⟩ => ⟨b, σ', r, y, k.trans kk, q⟩) fun _ _ e => e

theorem EV_BinOp {l r : Expr} {op : Operator} {pos : Pos} {Q : AV → Store → Prop}
    (h : EV X A env ρ l σ (fun V σ₁ => EV X A env ρ r σ₁ (fun U σ₂ => Op2 X A env ρ (VR X) (binaryOp op) V U σ₂ Q E) E) E) : EV X A env ρ (.BinOp l op r pos) σ Q E := fun φ s x =>
  wpAny_BinOp (h.use x fun a V σ₁ s₁ ha x₁ k₁ h₁ => h₁.use x₁ fun b U σ₂ s₂ hb x₂ k₂ h₂ => h₂.at (VR.mono k₂ V a ha) hb x₂ (k₁.trans k₂))
theorem EV_Compare1 {l r : Expr} {op : CmpOp} {pos : Pos} {Q : AV → Store → Prop}
    (h : EV X A env ρ l σ (fun V σ₁ => EV X A env ρ r σ₁ (fun U σ₂ => Op2 X A env ρ (VR X) (compareOp op) V U σ₂ Q E) E) E)
    (hm : behindInMarks op r = false := by with_unfolding_all rfl) : EV X A env ρ (.Compare l [op] [r] pos) σ Q E := fun φ s x =>
  wpAny_Compare1 (h.use x fun a V σ₁ s₁ ha x₁ k₁ h₁ => h₁.use x₁ fun b U σ₂ s₂ hb x₂ k₂ h₂ => h₂.at (VR.mono k₂ V a ha) hb x₂ (k₁.trans k₂)) hm
theorem EV_UnaryOp {e : Expr} {op : UnaryOp} {pos : Pos} {Q : AV → Store → Prop}
    (h : EV X A env ρ e σ (fun V σ₁ => Op1 X A env ρ (VR X) (unaryOp op) V σ₁ Q E) E) : EV X A env ρ (.UnaryOp op e pos) σ Q E := fun φ s x => by
  show wpAny _ A (do let v ← eval e env; standAt pos; holding [v] (unaryOp op v)) _ (E φ) s
  exact wpAny_bind (h.use x fun a V σ₁ s₁ ha x₁ k₁ h₁ => wpAny_bind (wpAny_standAt (wpAny_holding (h₁.at ha x₁ k₁))))

/-! tests -/
theorem EB_Compare1 {l r : Expr} {op : CmpOp} {pos : Pos} {Q : Bool → Store → Prop}
    (h : EV X A env ρ l σ (fun V σ₁ => EV X A env ρ r σ₁ (fun U σ₂ => Op2 X A env ρ (VR X) (compareOp op) V U σ₂ (fun C σ₃ => Op1 X A env ρ ER truthy C σ₃ Q E) E) E) E)
    (hm : behindInMarks op r = false := by with_unfolding_all rfl) : EB X A env ρ (.Compare l [op] [r] pos) σ Q E := fun φ s x =>
  wpAny_isTrue_Compare1 (h.use x fun a V σ₁ s₁ ha x₁ k₁ h₁ => h₁.use x₁ fun b U σ₂ s₂ hb x₂ k₂ h₂ =>
    wpAny_mono (h₂.at (VR.mono k₂ V a ha) hb x₂ (k₁.trans k₂)) (fun c s₃ ⟨C, σ₃, hc, x₃, k₃, h₃⟩ => h₃.at hc x₃ k₃) fun _ _ e => e) hm
theorem truthy_bool {b : Bool} {Q : Bool → Store → Prop} (h : Q b σ) : Op1 X A env ρ ER truthy (.bool b) σ Q E := fun φ s a ha x => by
  obtain rfl : a = .bool b := ha
  exact wpAny_truthy_bool ⟨b, σ, rfl, x, .refl _, h⟩
/-- a test that is a plain value -/
theorem EB_plain {e : Expr} {Q : Bool → Store → Prop} (he : ∀ whole, isTrue e env whole = (do let v ← whole; standAt e.pos; holding [v] (truthy v)))
    (h : EV X A env ρ e σ (fun V σ₁ => Op1 X A env ρ ER truthy V σ₁ Q E) E) : EB X A env ρ e σ Q E := fun φ s x => by
  rw [he]
  exact wpAny_bind (h.use x fun a V σ₁ s₁ ha x₁ k₁ h₁ => wpAny_bind (wpAny_standAt (wpAny_holding (h₁.at ha x₁ k₁))))
theorem EB_Not {e : Expr} {pos : Pos} {Q : Bool → Store → Prop} (h : EB X A env ρ e σ (fun b σ₁ => Q (!b) σ₁) E) : EB X A env ρ (.UnaryOp .Not e pos) σ Q E := fun φ s x => by
  show wpAny _ A (do return !(← isTrue e env (eval e env))) _ (E φ) s
  exact wpAny_bind (h.use x fun a b σ₁ s₁ ha x₁ k₁ h₁ => wpAny_pure ⟨!b, σ₁, by rw [show a = b from ha]; rfl, x₁, k₁, h₁⟩)
theorem EB_And {es : List Expr} {pos : Pos} {op : BoolOp} {Q : Bool → Store → Prop} (h : XE (@ER Bool) X A env ρ (allTrue op es env) σ Q E) : EB X A env ρ (.BoolOp op es pos) σ Q E := h
theorem allTrue_nil {op : BoolOp} {Q : Bool → Store → Prop} (h : Q (op == .And) σ) : XE (@ER Bool) X A env ρ (allTrue op [] env) σ Q E := fun φ s x => wpAny_pure ⟨_, σ, rfl, x, .refl _, h⟩
theorem allTrue_or {e : Expr} {es : List Expr} {Q : Bool → Store → Prop}
    (h : EB X A env ρ e σ (fun b σ₁ => if b = true then Q true σ₁ else XE (@ER Bool) X A env ρ (allTrue .Or es env) σ₁ Q E) E) : XE (@ER Bool) X A env ρ (allTrue .Or (e :: es) env) σ Q E := fun φ s x => by
  show wpAny _ A (do match BoolOp.Or, ← isTrue e env (eval e env) with | .And, false => pure false | .Or, true => pure true | _, _ => allTrue .Or es env) _ (E φ) s
  refine wpAny_bind (h.use x fun a b σ₁ s₁ ha x₁ k₁ h₁ => ?_)
  obtain rfl : a = b := ha
  cases a with
  | false => exact (show XE (@ER Bool) X A env ρ (allTrue .Or es env) σ₁ Q E from by simpa using h₁).at x₁ k₁
  | true => exact wpAny_pure ⟨true, σ₁, rfl, x₁, k₁, by simpa using h₁⟩
/-- and | or as values: of two -/
theorem EV_And2 {e f : Expr} {pos : Pos} {Q : AV → Store → Prop}
    (h : EV X A env ρ e σ (fun V σ₁ => Op1 X A env ρ ER truthy V σ₁ (fun b σ₂ => if b = true then EV X A env ρ f σ₂ Q E else Q V σ₂) E) E) : EV X A env ρ (.BoolOp .And [e, f] pos) σ Q E := fun φ s x => by
  show wpAny _ A (do let v ← eval e env; standAt pos; let t ← holding [v] (truthy v); match BoolOp.And, t with | .And, false | .Or, true => pure v | _, _ => eval f env) _ (E φ) s
  refine wpAny_bind (h.use x fun a V σ₁ s₁ ha x₁ k₁ h₁ => wpAny_bind (wpAny_standAt (wpAny_bind (wpAny_holding (wpAny_mono (h₁.at ha x₁ (.refl _)) (fun b s₂ ⟨c, σ₂, hb, x₂, k₂, h₂⟩ => ?_) fun _ _ e => e)))))
  obtain rfl : b = c := hb
  cases b with
  | true => exact (show EV X A env ρ f σ₂ Q E from by simpa using h₂).at x₂ (k₁.trans k₂)
  | false => exact wpAny_pure ⟨V, σ₂, VR.mono k₂ V a ha, x₂, k₁.trans k₂, by simpa using h₂⟩
theorem EV_IfExp {c e f : Expr} {pos : Pos} {Q : AV → Store → Prop}
    (h : EB X A env ρ c σ (fun b σ₁ => if b = true then EV X A env ρ e σ₁ Q E else EV X A env ρ f σ₁ Q E) E) : EV X A env ρ (.IfExp c e f pos) σ Q E := fun φ s x => by
  show wpAny _ A (do if ← isTrue c env (eval c env) then eval e env else eval f env) _ (E φ) s
  refine wpAny_bind (h.use x fun a b σ₁ s₁ ha x₁ k₁ h₁ => ?_)
  obtain rfl : a = b := ha
  cases a with
  | true => exact (show EV X A env ρ e σ₁ Q E from by simpa using h₁).at x₁ k₁
  | false => exact (show EV X A env ρ f σ₁ Q E from by simpa using h₁).at x₁ k₁
/-- a chain of two tests -/
theorem EB_Compare2 {l m r : Expr} {o p : CmpOp} {pos : Pos} {Q : Bool → Store → Prop}
    (h : EV X A env ρ l σ (fun V σ₁ => EV X A env ρ m σ₁ (fun U σ₂ => Op2 X A env ρ (VR X) (compareOp o) V U σ₂ (fun C σ₃ => Op1 X A env ρ ER truthy C σ₃ (fun b σ₄ =>
      if b = true then EV X A env ρ r σ₄ (fun T σ₅ => Op2 X A env ρ (VR X) (compareOp p) U T σ₅ (fun D σ₆ => Op1 X A env ρ ER truthy D σ₆ Q E) E) E else Q false σ₄) E) E) E) E)
    (hm : behindInMarks p r = false := by with_unfolding_all rfl) : EB X A env ρ (.Compare l [o, p] [m, r] pos) σ Q E := fun φ s x => by
  show wpAny _ A (do testChain pos (← eval l env) [o, p] (markedEach [o, p] [m, r] [eval m env, eval r env])) _ (E φ) s
  have e0 : markedEach [o, p] [m, r] [eval m env, eval r env] = [eval m env, eval r env] := by
    show [eval m env, markedBehindIn p r (eval r env)] = _
    rw [markedBehindIn_of_false hm]
  rw [e0]
  refine wpAny_bind (h.use x fun a V σ₁ s₁ ha x₁ k₁ h₁ => ?_)
  show wpAny _ A (do let rv ← holding [a] (eval m env); standAt pos; let c ← holding [a, rv] (compareOp o a rv); release [a, rv] [c]; if ← holding [c, rv] (truthy c) then testChain pos rv [p] [eval r env] else pure false) _ (E φ) s₁
  refine wpAny_bind (wpAny_holding (h₁.use x₁ fun b U σ₂ s₂ hb x₂ k₂ h₂ => wpAny_bind (wpAny_standAt (wpAny_bind (wpAny_holding (wpAny_mono (h₂.at (VR.mono k₂ V a ha) hb x₂ (.refl _)) (fun c s₃ ⟨C, σ₃, hc, x₃, k₃, h₃⟩ => ?_) fun _ _ e => e))))))
  refine wpAny_bind (wpAny_release (wpAny_bind (wpAny_holding (wpAny_mono (h₃.at hc x₃ (.refl _)) (fun d s₄ ⟨D, σ₄, hd, x₄, k₄, h₄⟩ => ?_) fun _ _ e => e))))
  obtain rfl : d = D := hd
  cases d with
  | false => exact wpAny_pure ⟨false, σ₄, rfl, x₄, k₁.trans (k₂.trans (k₃.trans k₄)), by simpa using h₄⟩
  | true =>
    have h₄' : EV X A env ρ r σ₄ (fun T σ₅ => Op2 X A env ρ (VR X) (compareOp p) U T σ₅ (fun D σ₆ => Op1 X A env ρ ER truthy D σ₆ Q E) E) E := by simpa using h₄
    show wpAny _ A (do let rv ← holding [b] (eval r env); standAt pos; let c ← operate [b, rv] (compareOp p b rv); holding [c] (truthy c)) _ (E φ) s₄
    refine wpAny_bind (wpAny_holding (h₄'.use x₄ fun t T σ₅ s₅ ht x₅ k₅ h₅ => wpAny_bind (wpAny_standAt (wpAny_bind (wpAny_operate
      (wpAny_mono (h₅.at (VR.mono (k₃.trans (k₄.trans k₅)) U b hb) ht x₅ (k₁.trans (k₂.trans (k₃.trans (k₄.trans k₅))))) (fun c s₆ ⟨C, σ₆, hc, x₆, k₆, h₆⟩ => wpAny_holding (h₆.at hc x₆ k₆)) fun _ _ e => e))))))
end
end Mine
end
section
set_option Elab.async false
set_option maxRecDepth 100000
set_option linter.unusedVariables false
open PySem PySem.W PySem.Calls PyProof.Rows
namespace Mine

/-! names stored -/
noncomputable def put (n : Str) (V : AV) : List (Str × AV) → List (Str × AV)
  | [] => [(n, V)]
  | (m, U) :: r => if m = n then (m, V) :: r else (m, U) :: put n V r
theorem put_lookup (n : Str) (V : AV) (y : Str) : ∀ ρ : List (Str × AV), (put n V ρ).lookup y = if y = n then some V else ρ.lookup y
  | [] => by
    show (match y == n with | true => some V | false => none) = _
    by_cases h : y = n
    · subst h; simp
    · have : (y == n) = false := by simpa using h
      rw [this, if_neg h]; rfl
  | (m, U) :: r => by
    unfold put
    by_cases h : m = n
    · subst h
      rw [if_pos rfl, List.lookup_cons, List.lookup_cons]
      by_cases q : y = m
      · subst q; simp
      · have : (y == m) = false := by simpa using q
        rw [this, if_neg q]
    · rw [if_neg h, List.lookup_cons, List.lookup_cons, put_lookup n V y r]
      by_cases q : y = n
      · subst q
        have : (y == m) = false := by simpa using fun e => h e.symm
        rw [this, if_pos rfl]
      · rw [if_neg q, if_neg q]
theorem ns_put {h h' : Heap} {X : Cx} {L : Addr} {ρ : List (Str × AV)} {n : Str} {V : AV} {v : Value} {M : Str → Option Value} (k : Kept X h h') (hM : ∀ y, OpR X h (ρ.lookup y) (M y)) (hv : VR X h V v)
    (hn : h'.Ns L (fun x => if x = n then some v else M x)) : OR X h' L (.ns (put n V ρ)) :=
  ⟨_, hn, fun y => by
    rw [put_lookup]
    by_cases q : y = n
    · rw [if_pos q, if_pos q]; exact VR.mono k V v hv
    · rw [if_neg q, if_neg q]; exact (hM y).mono k⟩

/-- a step upon a told value that stores names -/
noncomputable def OpU (X : Cx) (A : Around) (env : Env) (ρ : List (Str × AV)) (f : Value → Sem Unit) (V : AV) (σ : Store) (Q : List (Str × AV) → Store → Prop) (E : Store → Value → Shared → Prop) : Prop :=
  ∀ φ s a, VR X s.heap V a → Fst X A env ρ φ σ s → wpAny (model X.prog X.w) A (f a) (PU X A env φ s.heap Q) (E φ) s

section
variable {X : Cx} {A : Around} {env : Env} {ρ : List (Str × AV)} {σ τ φ : Store} {E : Store → Value → Shared → Prop} {s : Shared}
theorem OpU.at {f : Value → Sem Unit} {V : AV} {Q : List (Str × AV) → Store → Prop} {h₀ : Heap} {a : Value} (h : OpU X A env ρ f V σ Q E) (ha : VR X s.heap V a) (x : Fst X A env ρ φ σ s) (k : Kept X h₀ s.heap) :
    wpAny (model X.prog X.w) A (f a) (PU X A env φ h₀ Q) (E φ) s :=
  wpAny_mono (h _ s a ha x) (fun _ _ ⟨b, σ', y, kk, q⟩ => ⟨b, σ', y, k.trans kk, q⟩) fun _ _ e => e
theorem kept_ns {L : Addr} {M : Str → Option Value} {h h' : Heap} (hn : h.Ns L M) (hs : Heap.SameBut L h h') : Kept X h h' := by
  obtain ⟨o, es, ep, ho, hd, _⟩ := hn
  exact kept_upd (X := X) ho (fun ⟨i, ⟨o', ho', _, n, hd'⟩, _⟩ => by rw [ho] at ho'; cases ho'; rw [hd] at hd'; cases hd') hs
theorem store_local {n : Str} {V : AV} {Q : List (Str × AV) → Store → Prop} (hk : env.scope.kind = .function) (hl : env.kindOf n = some .local) (h : Q (put n V ρ) σ) :
    OpU X A env ρ (fun v => storeName env n v) V σ Q E := fun φ s a ha x => by
  obtain ⟨M, hn, hM⟩ := names_of x
  refine wpAny_storeName_local hl hn (fun h' hn' hs => ?_) (by rw [hk]; rfl)
  have k := kept_ns (X := X) hn hs
  exact ⟨_, σ, (x.put hs (ns_put k hM ha hn')).1, k, h⟩
theorem store_cell {n : Str} {c : Addr} {V : AV} {V₀ : Option AV} {Q : List (Str × AV) → Store → Prop} (hk : env.scope.kind = .function) (hl : env.kindOf n = some .cell) (hc : env.cells.lookup n = some c)
    (hv : σ c = some (.cell V₀)) (h : Q ρ (σ.set c (.cell (some V)))) : OpU X A env ρ (fun v => storeName env n v) V σ Q E := fun φ s a ha x => by
  obtain ⟨u, hu, hr⟩ := x.sto hv
  refine wpAny_storeName_cell hk hl hc hu fun h' hc' hs => ?_
  obtain ⟨o, ho, hd⟩ := hu
  have k : Kept X s.heap h' := kept_upd (X := X) ho (fun ⟨i, ⟨o', ho', _, n, hd'⟩, _⟩ => by rw [ho] at ho'; cases ho'; rw [hd] at hd'; cases hd') hs
  exact ⟨ρ, _, (x.upd (tk := s.toks) hv hs (show OR X h' c (.cell (some V)) from ⟨_, hc', VR.mono k V a ha⟩)).1, k, h⟩
theorem assign_name {n : Str} {pos : Pos} {V : AV} {Q : List (Str × AV) → Store → Prop} (h : OpU X A env ρ (fun v => storeName env n v) V σ Q E) : OpU X A env ρ (assign (.Name n pos) env) V σ Q E := fun φ s a ha x => assign_Name (h φ s a ha x)
theorem VR_tup2 {h : Heap} {V U : AV} {a : Value} (r : VR X h (.tup [V, U]) a) : ∃ t v u, a = .ref t ∧ IsTup h t #[v, u] ∧ VR X h V v ∧ VR X h U u := by
  obtain ⟨t, items, rfl, ht, hi⟩ := r
  obtain ⟨v, vs, e, hv, u, us, e', hu, e''⟩ := hi
  have hit : items = #[v, u] := by
    have : items.toList = [v, u] := by rw [e, e', show us = [] from e'']
    exact Array.toList_inj.mp this
  exact ⟨t, v, u, rfl, hit ▸ ht.1, hv, hu⟩
/-- two names out of a pair -/
theorem assign_pair {m n : Str} {p q pos : Pos} {k : Nat} {V U : AV} {Q : List (Str × AV) → Store → Prop} (hh : A.handled = none)
    (h : OpU X A env ρ (fun v => storeName env m v) V σ (fun ρ₁ σ₁ => OpU X A env ρ₁ (fun v => storeName env n v) U σ₁ Q E) E) : OpU X A env ρ (assign (.Tuple [.Name m p, .Name n q] k pos) env) (.tup [V, U]) σ Q E := fun φ s a ha x => by
  obtain ⟨t, v, u, rfl, ht, hv, hu⟩ := VR_tup2 ha
  rw [assign_Tuple]
  refine wpAny_bind (wpAny_standAt ?_)
  unfold unpack
  show wpAny _ A (holding [Value.ref t] (unpackItems (.ref t) 2 none) >>= fun xs => assignInOrder [assign (.Name m p) env, assign (.Name n q) env] xs) _ _ s
  refine wpAny_bind (wpAny_holding (show wpAny _ A (unpackItems (.ref t) (#[v, u] : Array Value).size none) _ _ s from unpackItems_tuple hh ht fun h' he => ?_))
  have kp : ∀ b o, s.heap.get? b = some o → h'.get? b = some o := fun b o e => he b o (Nat.ne_of_lt (Heap.lt_size e)) e
  have y := x.grow (tk := s.toks) kp
  have kk := Kept.of_keeps (X := X) kp
  show wpAny _ A (do holding [u] (assign (.Name m p) env v); assignInOrder [assign (.Name n q) env] [u]) _ _ _
  refine wpAny_bind (wpAny_holding (assign_Name (wpAny_mono (h.at (VR.mono kk V v hv) y kk) (fun _ s₁ ⟨ρ₁, σ₁, x₁, k₁, h₁⟩ => ?_) fun _ _ e => e)))
  show wpAny _ A (do holding [] (assign (.Name n q) env u); assignInOrder [] []) _ _ _
  exact wpAny_bind (wpAny_holding (assign_Name (wpAny_mono (h₁.at (VR.mono k₁ U u hu) x₁ k₁) (fun _ s₂ h₂ => wpAny_pure h₂) fun _ _ e => e)))

/-! statements -/
theorem ESs_nil {Q : AF → List (Str × AV) → Store → Prop} (h : Q .next ρ σ) : ESs X A env ρ [] σ Q E := fun φ s x => wpAny_execs_nil ⟨.next, ρ, σ, rfl, x, .refl _, h⟩
theorem ESs_cons {st : Stmt} {rest : List Stmt} {Q : AF → List (Str × AV) → Store → Prop}
    (h : ES X A env ρ st σ (fun f ρ₁ σ₁ => match f with | .next => ESs X A env ρ₁ rest σ₁ Q E | f => Q f ρ₁ σ₁) E) : ESs X A env ρ (st :: rest) σ Q E := fun φ s x =>
  wpAny_execs_cons (h.use x fun a f ρ₁ σ₁ s₁ hf x₁ k₁ h₁ => by
    cases f with
    | next => obtain rfl : a = .next := hf; exact XS.at h₁ x₁ k₁
    | brk => obtain rfl : a = .brk := hf; exact ⟨.brk, ρ₁, σ₁, rfl, x₁, k₁, h₁⟩
    | cont => obtain rfl : a = .cont := hf; exact ⟨.cont, ρ₁, σ₁, rfl, x₁, k₁, h₁⟩
    | ret V => obtain ⟨v, rfl, hv⟩ := hf; exact ⟨.ret V, ρ₁, σ₁, ⟨v, rfl, hv⟩, x₁, k₁, h₁⟩)
theorem ES_Assign {n : Str} {p pos : Pos} {value : Expr} {Q : AF → List (Str × AV) → Store → Prop}
    (h : EV X A env ρ value σ (fun V σ₁ => OpU X A env ρ (fun v => storeName env n v) V σ₁ (fun ρ₂ σ₂ => Q .next ρ₂ σ₂) E) E)
    (hs : swapsWith value (some (.Name n p)) pos.line env = pure false := by rfl) : ES X A env ρ (.Assign [.Name n p] value pos) σ Q E := fun φ s x =>
  wpAny_Assign_Name (h.use x fun a V σ₁ s₁ ha x₁ k₁ h₁ => wpAny_mono (h₁.at ha x₁ k₁) (fun _ s₂ ⟨ρ₂, σ₂, x₂, k₂, h₂⟩ => ⟨.next, ρ₂, σ₂, rfl, x₂, k₂, h₂⟩) fun _ _ e => e) hs
/-- the plain road of a store into several names -/
theorem ES_AssignT {elts : List Expr} {k : Nat} {tpos pos : Pos} {value : Expr} {Q : AF → List (Str × AV) → Store → Prop}
    (h : EV X A env ρ value σ (fun V σ₁ => OpU X A env ρ (assign (.Tuple elts k tpos) env) V σ₁ (fun ρ₂ σ₂ => Q .next ρ₂ σ₂) E) E)
    (hs : swapsWithSole [.Tuple elts k tpos] value pos.line env = pure false := by rfl) (hw : swappedStores [.Tuple elts k tpos] value env = pure none := by rfl) :
    ES X A env ρ (.Assign [.Tuple elts k tpos] value pos) σ Q E := fun φ s x =>
  Assign_Tuple (h.use x fun a V σ₁ s₁ ha x₁ k₁ h₁ => wpAny_mono (h₁.at ha x₁ k₁) (fun _ s₂ ⟨ρ₂, σ₂, x₂, k₂, h₂⟩ => ⟨.next, ρ₂, σ₂, rfl, x₂, k₂, h₂⟩) fun _ _ e => e) hs hw
/-- the road of stores exchanged: two names out of a pair, the last first -/
theorem ES_AssignX {m n : Str} {elts : List Expr} {k : Nat} {tpos pos : Pos} {value : Expr} {Q : AF → List (Str × AV) → Store → Prop} (hh : A.handled = none)
    (h : EV X A env ρ value σ (fun W σ₁ => ∃ V U, W = .tup [V, U] ∧ OpU X A env ρ (fun v => storeName env n v) U σ₁ (fun ρ₂ σ₂ => OpU X A env ρ₂ (fun v => storeName env m v) V σ₂ (fun ρ₃ σ₃ => Q .next ρ₃ σ₃) E) E) E)
    (hs : swapsWithSole [.Tuple elts k tpos] value pos.line env = pure false := by rfl) (hw : swappedStores [.Tuple elts k tpos] value env = pure (some [m, n]) := by rfl) :
    ES X A env ρ (.Assign [.Tuple elts k tpos] value pos) σ Q E := fun φ s x => by
  refine Assign_Tuple_swapped (h.use x fun a W σ₁ s₁ ha x₁ k₁ h₁ => ?_) hs hw
  obtain ⟨V, U, rfl, h₂⟩ := h₁
  obtain ⟨t, v, u, rfl, ht, hv, hu⟩ := VR_tup2 ha
  refine (show wpAny _ A (unpackItems (.ref t) (#[v, u] : Array Value).size none) _ _ s₁ from unpackItems_tuple hh ht fun h' he => ?_)
  have kp : ∀ b o, s₁.heap.get? b = some o → h'.get? b = some o := fun b o e => he b o (Nat.ne_of_lt (Heap.lt_size e)) e
  have y := x₁.grow (tk := s₁.toks) kp
  have kk := Kept.of_keeps (X := X) kp
  show wpAny _ A (do holding [v] (bindName env n u); assignInOrder [bindName env m] [v]) _ _ _
  refine wpAny_bind (wpAny_holding (wpAny_bindName (wpAny_mono (h₂.at (VR.mono kk U u hu) y (.refl _)) (fun _ s₂ ⟨ρ₂, σ₂, x₂, k₂, h₃⟩ => ?_) fun _ _ e => e)))
  show wpAny _ A (do holding [] (bindName env m v); assignInOrder [] []) _ _ _
  refine wpAny_bind (wpAny_holding (wpAny_bindName (wpAny_mono (h₃.at (VR.mono (kk.trans k₂) V v hv) x₂ (k₁.trans (kk.trans k₂))) (fun _ s₃ ⟨ρ₃, σ₃, x₃, k₃, h₄⟩ => ?_) fun _ _ e => e)))
  exact wpAny_pure ⟨.next, ρ₃, σ₃, rfl, x₃, k₃, h₄⟩
theorem ES_If {test : Expr} {body orelse : List Stmt} {pos : Pos} {Q : AF → List (Str × AV) → Store → Prop}
    (h : EB X A env ρ test σ (fun b σ₁ => if b = true then ESs X A env ρ body σ₁ Q E else ESs X A env ρ orelse σ₁ Q E) E) : ES X A env ρ (.If test body orelse pos) σ Q E := fun φ s x =>
  wpAny_If (h.use x fun a b σ₁ s₁ ha x₁ k₁ h₁ => by
    obtain rfl : a = b := ha
    cases a with
    | true => exact XS.at (by simpa using h₁) x₁ k₁
    | false => exact XS.at (by simpa using h₁) x₁ k₁)
theorem ES_Return {e : Expr} {pos : Pos} {Q : AF → List (Str × AV) → Store → Prop} (h : EV X A env ρ e σ (fun V σ₁ => Q (.ret V) ρ σ₁) E) : ES X A env ρ (.Return (some e) pos) σ Q E := fun φ s x =>
  wpAny_Return_some (h.use x fun a V σ₁ s₁ ha x₁ k₁ h₁ => ⟨.ret V, ρ, σ₁, ⟨a, rfl, ha⟩, x₁, k₁, h₁⟩)
/-- no object -/
noncomputable def NoRef : AV → Prop
  | .int _ => True
  | .str _ => True
  | .con v => ∀ a, v ≠ .ref a
  | .tup _ => False
theorem NoRef.not {h : Heap} {V : AV} {v : Value} (n : NoRef V) (r : VR X h V v) : ∀ a, v ≠ .ref a := by
  cases V with
  | int i => obtain ⟨t, rfl⟩ := r; intro a e; cases e
  | str i => obtain ⟨t, rfl⟩ := r; intro a e; cases e
  | con u => obtain rfl : v = u := r; exact n
  | tup l => exact n.elim
theorem ES_Expr {e : Expr} {pos : Pos} {Q : AF → List (Str × AV) → Store → Prop} (h : EV X A env ρ e σ (fun V σ₁ => NoRef V ∧ Q .next ρ σ₁) E)
    (hi : interactive env = false := by rfl) (hs : swapsWith e none pos.line env = pure false := by rfl) : ES X A env ρ (.Expr e pos) σ Q E := fun φ s x =>
  wpAny_Expr (h.use x fun a V σ₁ s₁ ha x₁ k₁ h₁ => by
    have hn := h₁.1.not ha
    split
    · exact (hn _ rfl).elim
    · exact ⟨.next, ρ, σ₁, rfl, x₁, k₁, h₁.2⟩) hi hs

/-! lists of expressions -/
noncomputable def EVs (X : Cx) (A : Around) (env : Env) (ρ : List (Str × AV)) : List Expr → Store → (List AV → Store → Prop) → (Store → Value → Shared → Prop) → Prop
  | [], σ, Q, _ => Q [] σ
  | e :: r, σ, Q, E => EV X A env ρ e σ (fun V σ₁ => EVs X A env ρ r σ₁ (fun Vs σ₂ => Q (V :: Vs) σ₂) E) E
theorem EVs_nil {X : Cx} {A : Around} {env : Env} {ρ : List (Str × AV)} {σ : Store} {Q : List AV → Store → Prop} {E : Store → Value → Shared → Prop} (h : Q [] σ) : EVs X A env ρ [] σ Q E := h
theorem EVs_cons {X : Cx} {A : Around} {env : Env} {ρ : List (Str × AV)} {σ : Store} {Q : List AV → Store → Prop} {E : Store → Value → Shared → Prop} {e : Expr} {r : List Expr}
    (h : EV X A env ρ e σ (fun V σ₁ => EVs X A env ρ r σ₁ (fun Vs σ₂ => Q (V :: Vs) σ₂) E) E) : EVs X A env ρ (e :: r) σ Q E := h
noncomputable def noStar (es : List Expr) : Bool := es.all fun e => match e with | .Starred .. => false | _ => true
theorem starEach_cons {e : Expr} {r : List Expr} (h : noStar (e :: r) = true) : starEach (e :: r) env = (false, eval e env) :: starEach r env ∧ noStar r = true := by
  unfold noStar at h
  rw [List.all_cons, Bool.and_eq_true] at h
  refine ⟨?_, h.2⟩
  cases e <;> first | rfl | (exact absurd h.1 (by simp))
theorem spliced_EVs {pos : Pos} : ∀ {es : List Expr} {ρ : List (Str × AV)} {σ : Store} {Q : List AV → Store → Prop} {E : Store → Value → Shared → Prop}, noStar es = true → EVs X A env ρ es σ Q E → XE (VRs X) X A env ρ (spliced (backTo pos (starEach es env))) σ Q E
  | [], ρ, σ, Q, E, _, h => fun φ s x => spliced_nil ⟨[], σ, .nil, x, .refl _, h⟩
  | e :: r, ρ, σ, Q, E, hn, h => fun φ s x => by
    obtain ⟨he, hr⟩ := starEach_cons (env := env) hn
    rw [he]
    refine spliced_cons (XE.use (show EV X A env ρ e σ _ E from h) x fun a V σ₁ s₁ ha x₁ k₁ h₁ => (spliced_EVs hr h₁).use x₁ fun vs Vs σ₂ s₂ hvs x₂ k₂ h₂ => ?_)
    exact ⟨V :: Vs, σ₂, .cons (VR.mono k₂ V a ha) hvs, x₂, k₁.trans k₂, h₂⟩
theorem backTo_plain {pos : Pos} : ∀ {es : List Expr}, noStar es = true → (backTo pos (starEach es env)).any (·.1) = false
  | [], _ => rfl
  | e :: r, h => by
    obtain ⟨he, hr⟩ := starEach_cons (env := env) h
    rw [he]
    show (false || (backTo pos (starEach r env)).any (·.1)) = false
    rw [backTo_plain hr]; rfl

theorem isTup_new {h : Heap} {items : List Value} : IsTup (h.push { cls := .type "tuple", data := .seq items.toArray }) h.objs.size items.toArray := IsTup.new h items.toArray
theorem EV_Tuple {es : List Expr} {k : Nat} {pos : Pos} {Q : AV → Store → Prop} (hn : noStar es = true) (hz : es.length ≤ 1000) (h : EVs X A env ρ es σ (fun Vs σ₁ => Vs.length = es.length ∧ Q (.tup Vs) σ₁) E) :
    EV X A env ρ (.Tuple es k pos) σ Q E := fun φ s x =>
  Tuple_ ((spliced_EVs hn h).use x fun vs Vs σ₁ s₁ hvs x₁ k₁ h₁ => wpAny_newTuple (by
    have kp : ∀ b o, s₁.heap.get? b = some o → (s₁.heap.push { cls := .type "tuple", data := .seq vs.toArray }).get? b = some o := fun b o e => Heap.get?_push_of_some _ e
    exact ⟨.tup Vs, σ₁, ⟨_, _, rfl, x₁.okf.isT (Nat.le_refl _) isTup_new, VRs.mono (Kept.of_keeps kp) _ _ hvs⟩, x₁.grow (tk := s₁.toks) kp, k₁.trans (Kept.of_keeps kp), h₁.2⟩)
    (by rw [hvs.length, h₁.1, sizeLine_eq]; omega))
theorem EV_List {es : List Expr} {pos : Pos} {Q : AV → Store → Prop} (hn : noStar es = true) (hz : es.length ≤ 1000) (h : EVs X A env ρ es σ (fun Vs σ₁ => Vs.length = es.length ∧ ∀ a, σ₁.Below a → env.locals < a → Q (.ref a) (σ₁.set a (.list Vs))) E) :
    EV X A env ρ (.List es pos) σ Q E := fun φ s x =>
  List_ ((spliced_EVs hn h).use x fun vs Vs σ₁ s₁ hvs x₁ k₁ h₁ => wpAny_newList (by
    have kp : ∀ b o, s₁.heap.get? b = some o → (s₁.heap.push { cls := .type "list", data := .seq vs.toArray }).get? b = some o := fun b o e => Heap.get?_push_of_some _ e
    refine ⟨.ref s₁.heap.objs.size, σ₁.set _ (.list Vs), VR_con _ _, x₁.alloc (tk := s₁.toks) kp (Nat.le_refl _) ⟨vs, ⟨_, Heap.get?_push_size _ rfl, rfl, _, rfl⟩, ⟨_, Heap.get?_push_size _ rfl⟩, VRs.mono (Kept.of_keeps kp) _ _ hvs⟩, k₁.trans (Kept.of_keeps kp), h₁.2 _ x₁.below x₁.lt⟩)
    (by rw [hvs.length, h₁.1, sizeLine_eq]; omega))
end
end Mine
end
section
set_option Elab.async false
set_option maxRecDepth 100000
set_option linter.unusedVariables false
open PySem PySem.W PySem.Calls PyProof.Rows
namespace Mine

/-- an exception of the text's own class on its way; ψ does not tell of it -/
noncomputable def Flt (X : Cx) (ψ : Store) (cur : Option Addr) (a : Addr) (h : Heap) : Prop :=
  ∃ oe vs, h.get? a = some oe ∧ oe.cls = X.exc ∧ oe.data = .fields vs ∧ X.h₀.get? a = none ∧ ψ a = none ∧
    (vs[1]? = some .none ∨ ∃ T oT ts fl, vs[1]? = some (.ref T) ∧ T ≠ a ∧ h.get? T = some oT ∧ oT.data = .fields ts ∧ ts[3]? = some fl ∧ (fl = .none ∨ ∃ L, cur = some L ∧ fl = rawInt L) ∧ X.h₀.get? T = none ∧ ψ T = none)
/-- what leaves a call -/
noncomputable def EXC (X : Cx) (A : Around) (Es : Store → Prop) : Store → Value → Shared → Prop :=
  fun φ e s' => ∃ a σ', e = .ref a ∧ Okf X A φ σ' s' ∧ Flt X (σ'.join φ) none a s'.heap ∧ Es σ'
/-- what leaves a statement -/
noncomputable def EXF (X : Cx) (A : Around) (env : Env) (Er : List (Str × AV) → Store → Prop) : Store → Value → Shared → Prop :=
  fun φ e s' => ∃ a ρ' σ', e = .ref a ∧ Fst X A env ρ' φ σ' s' ∧ Flt X (σ'.join ((Store.one env.locals (.ns ρ')).join φ)) (some env.locals) a s'.heap ∧ Er ρ' σ'
noncomputable abbrev Never : Store → Prop := fun _ => False
noncomputable abbrev NeverF : List (Str × AV) → Store → Prop := fun _ _ => False
theorem EXC.never {X : Cx} {A : Around} {φ : Store} {e : Value} {s : Shared} (h : EXC X A Never φ e s) : False := by obtain ⟨_, _, _, _, _, q⟩ := h; exact q
theorem EXF.never {X : Cx} {A : Around} {env : Env} {φ : Store} {e : Value} {s : Shared} (h : EXF X A env NeverF φ e s) : False := by obtain ⟨_, _, _, _, _, _, q⟩ := h; exact q

/-- a call: what it gives and the store behind it -/
noncomputable def CR (X : Cx) (A : Around) (φ : Store) (h : Heap) (Q : AV → Store → Prop) : Value → Shared → Prop := fun v s' => ∃ V σ', VR X s'.heap V v ∧ Okf X A φ σ' s' ∧ Kept X h s'.heap ∧ Q V σ'
noncomputable def WC (X : Cx) (A : Around) (f : Value) (Vs : List AV) (σ : Store) (Q : AV → Store → Prop) (Es : Store → Prop) : Prop :=
  ∀ φ s vs, Okf X A φ σ s → VRs X s.heap Vs vs → wpAny (model X.prog X.w) A (call f vs []) (CR X A φ s.heap Q) (EXC X A Es φ) s
theorem WC.mono {X : Cx} {A : Around} {f : Value} {Vs : List AV} {σ : Store} {Q Q' : AV → Store → Prop} {Es Es' : Store → Prop} (h : WC X A f Vs σ Q Es) (hq : ∀ V σ', Q V σ' → Q' V σ') (he : ∀ σ', Es σ' → Es' σ') : WC X A f Vs σ Q' Es' :=
  fun φ s vs x hv => wpAny_mono (h φ s vs x hv) (fun _ _ ⟨V, σ', r, y, k, q⟩ => ⟨V, σ', r, y, k, hq V σ' q⟩) fun _ _ ⟨a, σ', e, y, f, q⟩ => ⟨a, σ', e, y, f, he σ' q⟩
section
variable {X : Cx} {A : Around} {env : Env} {ρ : List (Str × AV)} {σ τ φ : Store} {E : Store → Value → Shared → Prop} {Es : Store → Prop} {Er : List (Str × AV) → Store → Prop} {s : Shared}
theorem Fst.of_okf (h : φ env.locals = none) (x : Okf X A ((Store.one env.locals (.ns ρ)).join φ) σ s) : Fst X A env ρ φ σ s := by
  refine ⟨⟨h, ?_⟩, x⟩
  cases q : σ env.locals with
  | none => rfl
  | some o =>
    have := x.apart _ _ q
    rw [join_left (one_self ..)] at this; cases this

theorem evalArgs_EVs {f : Value} {pos : Pos} {es : List Expr} {Q : List AV → Store → Prop} (hn : noStar es = true) (h : EVs X A env ρ es σ Q E) :
    XE (fun hp Vs (a : Args) => a.kw = [] ∧ VRs X hp Vs a.pos) X A env ρ (evalArgs f true (backTo pos (starEach es env)) []) σ Q E := fun φ s x => by
  have key := spliced_EVs (pos := pos) hn h
  cases es with
  | nil => exact PySem.evalArgs_none ⟨[], σ, ⟨rfl, .nil⟩, x, .refl _, h⟩
  | cons e r =>
    obtain ⟨he, hr⟩ := starEach_cons (env := env) hn
    rw [he] at key ⊢
    exact evalArgs_plain (key.use x fun vs Vs σ₁ s₁ hvs x₁ k₁ h₁ => ⟨Vs, σ₁, ⟨rfl, hvs⟩, x₁, k₁, h₁⟩)

/-- a told call, out of a frame -/
theorem WC.from {f : Value} {Vs : List AV} {Q : AV → Store → Prop} {vs : List Value} {h₀ : Heap} (h : WC X A f Vs σ Q (Er ρ)) (x : Fst X A env ρ φ σ s) (hv : VRs X s.heap Vs vs) (k : Kept X h₀ s.heap) :
    wpAny (model X.prog X.w) A (call f vs []) (PE (VR X) X A env ρ φ h₀ Q) (EXF X A env Er φ) s :=
  wpAny_mono (h _ s vs x.okf hv) (fun v s' ⟨V, σ', r, y, kk, q⟩ => ⟨V, σ', r, .of_okf x.off.1 y, k.trans kk, q⟩)
    fun e s' ⟨a, σ', he, y, fl, q⟩ => by
      obtain ⟨oe, vs, h1, h2, h3, h4, h5, h6⟩ := fl
      refine ⟨a, ρ, σ', he, .of_okf x.off.1 y, ⟨oe, vs, h1, h2, h3, h4, h5, ?_⟩, q⟩
      rcases h6 with h6 | ⟨T, oT, ts, fl, a1, a2, a3, a4, a5, a6, a7⟩
      · exact .inl h6
      · refine .inr ⟨T, oT, ts, fl, a1, a2, a3, a4, a5, ?_, a7⟩
        rcases a6 with a6 | ⟨L, a6, _⟩
        · exact .inl a6
        · cases a6

/-- a function called by its name -/
theorem EV_call_fn {n : Str} {p pos : Pos} {args : List Expr} {f : Addr} {o : Obj} {fd : FuncData} {Q : AV → Store → Prop} (ho : X.h₀.get? f = some o) (hd : o.data = .func fd) (hn : noStar args = true)
    (h : EV X A env ρ (.Name n p) σ (fun V σ₁ => V = .ref f ∧ EVs X A env ρ args σ₁ (fun Vs σ₂ => WC X A (.ref f) Vs σ₂ Q (Er ρ)) (EXF X A env Er)) (EXF X A env Er)) :
    EV X A env ρ (.Call (.Name n p) args [] pos) σ Q (EXF X A env Er) := fun φ s x => by
  show wpAny _ A (eval (.Call (.Name n p) args [] pos) env) _ _ s
  rw [arm_eval_Call_Name']
  refine wpAny_bind (h.use x fun v V σ₁ s₁ ha x₁ k₁ h₁ => ?_)
  obtain ⟨rfl, h₂⟩ := h₁
  obtain rfl : v = .ref f := ha
  refine callWith_function ((evalArgs_EVs hn h₂).use x₁ fun a Vs σ₂ s₂ hv x₂ k₂ h₃ => ⟨⟨x₂.keep _ _ ho, hd⟩, ?_⟩)
  rw [hv.1]
  exact h₃.from x₂ hv.2 (k₁.trans k₂)
/-- a built-in function called by its name -/
theorem EV_call_bi {n : Str} {p pos : Pos} {args : List Expr} {id : String} {Q : AV → Store → Prop} (hn : noStar args = true)
    (h : EV X A env ρ (.Name n p) σ (fun V σ₁ => V = .con (.builtin id) ∧ EVs X A env ρ args σ₁ (fun Vs σ₂ => WC X A (.builtin id) Vs σ₂ Q (Er ρ)) (EXF X A env Er)) (EXF X A env Er)) :
    EV X A env ρ (.Call (.Name n p) args [] pos) σ Q (EXF X A env Er) := fun φ s x => by
  show wpAny _ A (eval (.Call (.Name n p) args [] pos) env) _ _ s
  rw [arm_eval_Call_Name']
  refine wpAny_bind (h.use x fun v V σ₁ s₁ ha x₁ k₁ h₁ => ?_)
  obtain ⟨rfl, h₂⟩ := h₁
  obtain rfl : v = .builtin id := ha
  refine callWith_builtin (backTo_plain hn) ((evalArgs_EVs hn h₂).use x₁ fun a Vs σ₂ s₂ hv x₂ k₂ h₃ => ?_)
  rw [hv.1]
  exact h₃.from x₂ hv.2 (k₁.trans k₂)
/-- a built-in type called by its name -/
theorem EV_call_ty {n : Str} {p pos : Pos} {args : List Expr} {T : String} {Q : AV → Store → Prop} (hn : noStar args = true)
    (h : EV X A env ρ (.Name n p) σ (fun V σ₁ => V = .con (.type T) ∧ EVs X A env ρ args σ₁ (fun Vs σ₂ => WC X A (.type T) Vs σ₂ Q (Er ρ)) (EXF X A env Er)) (EXF X A env Er)) :
    EV X A env ρ (.Call (.Name n p) args [] pos) σ Q (EXF X A env Er) := fun φ s x => by
  show wpAny _ A (eval (.Call (.Name n p) args [] pos) env) _ _ s
  rw [arm_eval_Call_Name']
  refine wpAny_bind (h.use x fun v V σ₁ s₁ ha x₁ k₁ h₁ => ?_)
  obtain ⟨rfl, h₂⟩ := h₁
  obtain rfl : v = .type T := ha
  refine PyProof.Rows.callWith_type (backTo_plain hn) ((evalArgs_EVs hn h₂).use x₁ fun a Vs σ₂ s₂ hv x₂ k₂ h₃ => ?_)
  rw [hv.1]
  exact h₃.from x₂ hv.2 (k₁.trans k₂)

/-- a method found -/
noncomputable def GetM (X : Cx) (A : Around) (V : AV) (name : Str) (f : Value) (σ : Store) : Prop :=
  ∀ (φ : Store) (s : Shared) (a : Value) (pl : Sem Bool) (Q : Value × List Value → Shared → Prop) (E : Value → Shared → Prop), VR X s.heap V a → Okf X A φ σ s → Q (f, [a]) s → wpAny (model X.prog X.w) A (getMethod a name pl) Q E s
theorem eval_meth {o : Expr} {name : Str} {apos pos : Pos} {args : List Expr} {M : Model} {Q : Value → Shared → Prop} {E : Value → Shared → Prop}
    (hbase : attributeBase o name env (eval o env) = eval o env) (hlen : args.length < 20) (hn : noStar args = true) (hline : (apos.endLine == pos.line) = true)
    (h : wpAny M A (eval o env) (fun ov s₁ => wpAny M A (getMethod ov name (do return (← importBound o env).getD true)) (fun fx s₂ => wpAny M A (callWith pos fx.1 fx.2 (backTo pos (starEach args env)) []) Q E s₂) E s₁) E s) :
    wpAny M A (eval (.Call (.Attribute o name apos) args [] pos) env) Q E s := by
  show wpAny M A (do let ov ← attributeBase o name env (eval o env); standAt apos.atName; methodCall o name apos pos env ov (args.length + 0) (backTo pos (starEach args env)) []) Q E s
  rw [hbase]
  refine wpAny_bind (wpAny_mono h (fun ov s₁ h₁ => wpAny_bind (wpAny_standAt ?_)) fun _ _ e => e)
  have hform : methodCallForm (args.length + 0) (backTo pos (starEach args env)) [] = true := by
    unfold methodCallForm
    have h1 := backTo_plain (env := env) (pos := pos) hn
    have h2 : (backTo pos (starEach args env)).all (fun x => !x.1) = true := by
      rw [List.all_eq_true]; intro x hx
      cases q : x.1 with
      | false => rfl
      | true => rw [List.any_eq_false] at h1; exact absurd q (h1 x hx)
    rw [h2]
    show (true && true && decide (args.length + 0 + 0 < 30)) = true
    rw [decide_eq_true (by omega)]; rfl
  unfold methodCall
  rw [hform]
  refine wpAny_bind (wpAny_holding (wpAny_mono (show wpAny M A (getMethod ov name (do return (← importBound o env).getD true)) _ E s₁ from h₁) (fun fx s₂ h₂ => ?_) fun _ _ e => e))
  have hpos : methodCallPos true o env apos pos = pure pos := by unfold methodCallPos; simp [hline]
  exact wpAny_bind (wpAny_of_eq hpos h₂)
/-- a method of an own class -/
theorem EV_meth_fn {o : Expr} {name : Str} {apos pos : Pos} {args : List Expr} {f : Addr} {ob : Obj} {fd : FuncData} {Q : AV → Store → Prop} (ho : X.h₀.get? f = some ob) (hd : ob.data = .func fd)
    (hbase : attributeBase o name env (eval o env) = eval o env) (hlen : args.length < 20) (hn : noStar args = true) (hline : (apos.endLine == pos.line) = true)
    (h : EV X A env ρ o σ (fun V σ₁ => GetM X A V name (.ref f) σ₁ ∧ EVs X A env ρ args σ₁ (fun Vs σ₂ => WC X A (.ref f) (V :: Vs) σ₂ Q (Er ρ)) (EXF X A env Er)) (EXF X A env Er)) :
    EV X A env ρ (.Call (.Attribute o name apos) args [] pos) σ Q (EXF X A env Er) := fun φ s x => by
  refine eval_meth hbase hlen hn hline (h.use x fun a V σ₁ s₁ ha x₁ k₁ h₁ => h₁.1 _ s₁ a _ _ _ ha x₁.okf ?_)
  refine callWith_function ((evalArgs_EVs hn h₁.2).use x₁ fun b Vs σ₂ s₂ hv x₂ k₂ h₃ => ⟨⟨x₂.keep _ _ ho, hd⟩, ?_⟩)
  rw [hv.1]
  exact h₃.from x₂ (.cons (VR.mono k₂ V a ha) hv.2) (k₁.trans k₂)
/-- a method of a built-in type -/
theorem EV_meth_bi {o : Expr} {name : Str} {apos pos : Pos} {args : List Expr} {id : String} {Q : AV → Store → Prop}
    (hbase : attributeBase o name env (eval o env) = eval o env) (hlen : args.length < 20) (hn : noStar args = true) (hline : (apos.endLine == pos.line) = true)
    (h : EV X A env ρ o σ (fun V σ₁ => GetM X A V name (.builtin id) σ₁ ∧ EVs X A env ρ args σ₁ (fun Vs σ₂ => WC X A (.builtin id) (V :: Vs) σ₂ Q (Er ρ)) (EXF X A env Er)) (EXF X A env Er)) :
    EV X A env ρ (.Call (.Attribute o name apos) args [] pos) σ Q (EXF X A env Er) := fun φ s x => by
  refine eval_meth hbase hlen hn hline (h.use x fun a V σ₁ s₁ ha x₁ k₁ h₁ => h₁.1 _ s₁ a _ _ _ ha x₁.okf ?_)
  refine callWith_builtin (backTo_plain hn) ((evalArgs_EVs hn h₁.2).use x₁ fun b Vs σ₂ s₂ hv x₂ k₂ h₃ => ?_)
  rw [hv.1]
  exact h₃.from x₂ (.cons (VR.mono k₂ V a ha) hv.2) (k₁.trans k₂)

/-! the body of a function -/
/-- an entry more, for what is there -/
theorem Okf.more {a : Addr} {o : AO} (x : Okf X A φ σ s) (hσ : σ a = none) (hφ : φ a = none) (h0 : X.h₀.get? a = none) (ho : OR X s.heap a o) : Okf X A φ (σ.set a o) s := by
  refine ⟨x.apart.set hφ, ?_, x.fr⟩
  rw [← join_set]
  refine ⟨x.ok.keep, x.ok.gens, x.ok.drawn, x.ok.os, fun b p e => ?_, x.ok.own⟩
  unfold Store.set at e
  split at e
  · rename_i q; cases e; rw [q]; exact ⟨ho, h0⟩
  · exact x.ok.sto b p e
noncomputable def bindLA (kindOf : Str → Option NameKind) : List (Str × AV) → List (Str × AV) → List (Str × AV)
  | [], m => m
  | (n, V) :: r, m => bindLA kindOf r (if kindOf n = some .local then put n V m else m)
noncomputable def bindCA (kindOf : Str → Option NameKind) : List (Str × AV) → List (Str × AV) → List (Str × AV)
  | [], m => m
  | (n, V) :: r, m => bindCA kindOf r (if kindOf n = some .local then m else put n V m)
theorem put_OpR {h : Heap} {ρ : List (Str × AV)} {M : Str → Option Value} {n : Str} {V : AV} {v : Value} (hM : ∀ y, OpR X h (ρ.lookup y) (M y)) (hv : VR X h V v) (y : Str) :
    OpR X h ((put n V ρ).lookup y) ((fun x => if x = n then some v else M x) y) := by
  rw [put_lookup]
  show OpR X h _ (if y = n then some v else M y)
  by_cases q : y = n
  · rw [if_pos q, if_pos q]; exact hv
  · rw [if_neg q, if_neg q]; exact hM y
theorem bindLA_OpR {h : Heap} {kindOf : Str → Option NameKind} : ∀ {ns : List Str} {Vs : List AV} {vs : List Value} {ρ : List (Str × AV)} {M : Str → Option Value}, VRs X h Vs vs → (∀ y, OpR X h (ρ.lookup y) (M y)) →
    ∀ y, OpR X h ((bindLA kindOf (ns.zip Vs) ρ).lookup y) (bindL kindOf (ns.zip vs) M y)
  | [], _, _, _, _, _, hM => by simpa [bindLA, bindL] using hM
  | _ :: _, [], vs, _, _, hv, hM => by rw [show vs = [] from hv]; simpa [bindLA, bindL] using hM
  | n :: ns, V :: Vs, _, ρ, M, ⟨v, vs', e, hv, hr⟩, hM => by
    subst e
    rw [List.zip_cons_cons, List.zip_cons_cons]
    unfold bindLA bindL
    by_cases q : kindOf n = some .local
    · rw [if_pos q, if_pos q]; exact bindLA_OpR hr (put_OpR hM hv)
    · rw [if_neg q, if_neg q]; exact bindLA_OpR hr hM
theorem bindCA_OpR {h : Heap} {kindOf : Str → Option NameKind} : ∀ {ns : List Str} {Vs : List AV} {vs : List Value} {ρ : List (Str × AV)} {M : Str → Option Value}, VRs X h Vs vs → (∀ y, OpR X h (ρ.lookup y) (M y)) →
    ∀ y, OpR X h ((bindCA kindOf (ns.zip Vs) ρ).lookup y) (bindC kindOf (ns.zip vs) M y)
  | [], _, _, _, _, _, hM => by simpa [bindCA, bindC] using hM
  | _ :: _, [], vs, _, _, hv, hM => by rw [show vs = [] from hv]; simpa [bindCA, bindC] using hM
  | n :: ns, V :: Vs, _, ρ, M, ⟨v, vs', e, hv, hr⟩, hM => by
    subst e
    rw [List.zip_cons_cons, List.zip_cons_cons]
    unfold bindCA bindC
    by_cases q : kindOf n = some .local
    · rw [if_pos q, if_pos q]; exact bindCA_OpR hr hM
    · rw [if_neg q, if_neg q]; exact bindCA_OpR hr (put_OpR hM hv)
/-- the cells laid -/
noncomputable def setCells (m : List (Str × AV)) : List (Str × Addr) → Store → Store
  | [], σ => σ
  | (n, c) :: r, σ => (setCells m r σ).set c (.cell (m.lookup n))
theorem setCells_none (m : List (Str × AV)) {a : Addr} : ∀ (cs : List (Str × Addr)) (σ : Store), σ a = none → (∀ p ∈ cs, p.2 ≠ a) → setCells m cs σ a = none
  | [], _, h, _ => h
  | (n, c) :: r, σ, h, hn => by
    unfold setCells
    rw [set_ne (Ne.symm (hn (n, c) (.head _)))]
    exact setCells_none m r σ h fun p hp => hn p (.tail _ hp)
theorem Okf.cells {m : List (Str × AV)} {cm : Str → Option Value} (hm : ∀ y, OpR X s.heap (m.lookup y) (cm y)) : ∀ (cs : List (Str × Addr)), Okf X A φ σ s → (∀ n c, (n, c) ∈ cs → s.heap.IsCell c (cm n)) → cs.Pairwise (fun x y => x.2 ≠ y.2) →
    (∀ p ∈ cs, σ p.2 = none ∧ φ p.2 = none ∧ X.h₀.get? p.2 = none) → Okf X A φ (setCells m cs σ) s
  | [], x, _, _, _ => x
  | (n, c) :: r, x, hc, hp, hf => by
    obtain ⟨h1, h2⟩ := List.pairwise_cons.mp hp
    have y := Okf.cells hm r x (fun n' c' h' => hc n' c' (.tail _ h')) h2 fun p hp => hf p (.tail _ hp)
    obtain ⟨f1, f2, f3⟩ := hf (n, c) (.head _)
    exact y.more (setCells_none m r σ f1 fun p hp => (h1 p hp).symm) f2 f3 ⟨_, hc n c (.head _), hm n⟩

noncomputable def AF.val : AF → AV
  | .ret V => V
  | _ => .con .none
end
end Mine
end
section
set_option Elab.async false
set_option maxRecDepth 100000
set_option linter.unusedVariables false
open PySem PySem.W PySem.Calls PyProof.Rows
namespace Mine
section
variable {X : Cx} {A : Around} {env : Env} {ρ : List (Str × AV)} {σ τ φ : Store} {E : Store → Value → Shared → Prop} {Es : Store → Prop} {s : Shared}

theorem FrOk.push {L : Addr} {ρ : List (Str × AV)} (f : FrOk A φ) (hf : env.frame = some L) (hk : env.scope.kind = .function) (hL : φ L = none) : FrOk (A.deeper env) ((Store.one L (.ns ρ)).join φ) := by
  obtain ⟨l, hl, h⟩ := f
  refine ⟨env :: l, by show A.frames.map (env :: ·) = _; rw [hl]; rfl, fun e he => ?_⟩
  rcases List.mem_cons.mp he with rfl | he
  · exact ⟨hk, L, ρ, hf, join_left (one_self ..)⟩
  · obtain ⟨h1, M, ρ', h2, h3⟩ := h e he
    refine ⟨h1, M, ρ', h2, ?_⟩
    have hne : M ≠ L := fun q => by rw [q, hL] at h3; cases h3
    unfold Store.join Store.one
    rw [if_neg hne]; exact h3

/-- the frame dropped -/
theorem Fst.leave {B : Around} (x : Fst X B env ρ φ σ s) (f : FrOk A φ) : Okf X A φ σ s := by
  refine ⟨fun a o e => ?_, x.okf.ok.drop fun a o e => ?_, f⟩
  · have := x.okf.apart a o e
    have hne := x.ne e
    unfold Store.join Store.one at this
    rw [if_neg hne] at this; exact this
  · unfold Store.join at e
    cases q : σ a with
    | some p => rw [q] at e; cases e; exact join_left q
    | none =>
      rw [q] at e
      have hne : a ≠ env.locals := fun z => by rw [z, x.off.1] at e; cases e
      unfold Store.join Store.one
      rw [q, if_neg hne]; exact e

theorem lookup_of_nodup {α : Type} : ∀ {l : List (Str × α)}, (l.map (·.1)).Nodup → ∀ {n : Str} {c : α}, (n, c) ∈ l → l.lookup n = some c
  | (m, d) :: r, hn, n, c, h => by
    rw [List.map_cons, List.nodup_cons] at hn
    rw [List.lookup_cons]
    rcases List.mem_cons.mp h with e | h
    · cases e; simp
    · have hne : (n == m) = false := by
        cases q : n == m with
        | false => rfl
        | true => exact absurd (List.mem_map.mpr ⟨(n, c), h, eq_of_beq q⟩) hn.1
      rw [hne]; exact lookup_of_nodup hn.2 h
theorem cellsFrom_names : ∀ (names : List (Str × NameKind)) (m n : Nat) (a b : List (Str × Addr)), a.map (·.1) = b.map (·.1) → (cellsFrom m names a).map (·.1) = (cellsFrom n names b).map (·.1)
  | [], _, _, _, _, h => h
  | (x, k) :: r, m, n, a, b, h => by
    unfold cellsFrom
    cases q : k == NameKind.cell
    · simp only [Bool.false_eq_true, if_false]; exact cellsFrom_names r m n a b h
    · simp only [if_true]; exact cellsFrom_names r _ _ _ _ (by rw [List.map_cons, List.map_cons, h])
theorem cellsFrom_lookup {names : List (Str × NameKind)} (hnd : ((cellsFrom 0 names []).map (·.1)).Nodup) (m : Nat) : ∀ n c, (n, c) ∈ cellsFrom m names [] → (cellsFrom m names []).lookup n = some c :=
  fun n c h => lookup_of_nodup (by rw [cellsFrom_names names m 0 [] [] rfl]; exact hnd) h

/-- what the body of a function starts from -/
theorem frame_start {L : Addr} {fd : FuncData} {f : Addr} {ns : List Str} {Vs : List AV} {vs : List Value} {s₁ : Shared} (x : Okf X A φ σ s) (hv : VRs X s.heap Vs vs) (hk : fd.scope.kind = .function)
    (hL : L = s.heap.objs.size)
    (y : InCallC s (callEnvC fd L f).locals (bindL (callEnvC fd L f).kindOf (ns.zip vs) fun _ => none) (callEnvC fd L f).cells (bindC (callEnvC fd L f).kindOf (ns.zip vs) fun _ => none) s₁)
    (hlk : ∀ n c, (n, c) ∈ (callEnvC fd L f).cells → (callEnvC fd L f).cells.lookup n = some c) :
    Fst X (A.deeper (callEnvC fd L f)) (callEnvC fd L f) (bindLA (callEnvC fd L f).kindOf (ns.zip Vs) []) φ (setCells (bindCA (callEnvC fd L f).kindOf (ns.zip Vs) []) (callEnvC fd L f).cells σ) s₁ ∧ Kept X s.heap s₁.heap := by
  obtain ⟨⟨⟨h₁, tk, rfl⟩, hn, hkeep, hfr⟩, hcell, hap, hab⟩ := y
  have kk := Kept.of_keeps (X := X) hkeep
  have hv' := VRs.mono kk _ _ hv
  have x₁ := x.grow (tk := tk) hkeep
  have hLfree : ∀ a, s.heap.objs.size ≤ a → σ a = none ∧ φ a = none ∧ X.h₀.get? a = none := fun a ha =>
    ⟨(x.below.mono ha).none, x.free ha, by cases q : X.h₀.get? a with
      | none => rfl
      | some o => have := x.keep a o q; rw [fresh_of ha] at this; cases this⟩
  have hL' : L = (callEnvC fd L f).locals := rfl
  have fL := hLfree L (Nat.le_of_eq hL.symm)
  -- the names
  have hns : OR X h₁ L (.ns (bindLA (callEnvC fd L f).kindOf (ns.zip Vs) [])) := ⟨_, hn, bindLA_OpR (ρ := []) (M := fun _ => none) hv' fun y => trivial⟩
  -- the cells
  have hcs : ∀ p ∈ (callEnvC fd L f).cells, L < p.2 := fun p hp => hab p.1 p.2 hp
  have x₂ : Okf X A φ (setCells (bindCA (callEnvC fd L f).kindOf (ns.zip Vs) []) (callEnvC fd L f).cells σ) { s with heap := h₁, toks := tk } :=
    Okf.cells (s := { s with heap := h₁, toks := tk }) (bindCA_OpR (ρ := []) (M := fun _ => none) hv' fun y => trivial) _ x₁ (fun n c hm => hcell n c (hlk n c hm)) hap fun p hp => hLfree p.2 (by have h1 := hcs p hp; rw [hL] at h1; exact Nat.le_of_lt h1)
  have hcL : setCells (bindCA (callEnvC fd L f).kindOf (ns.zip Vs) []) (callEnvC fd L f).cells σ L = none := setCells_none _ _ _ fL.1 fun p hp => Nat.ne_of_gt (hcs p hp)
  have x₃ := x₂.more hcL fL.2.1 fL.2.2 hns
  rw [← join_one hcL] at x₃
  exact ⟨.of_okf fL.2.1 (x₃.aside (apart_one hcL) (x.fr.push rfl hk fL.2.1)), kk⟩

/-- a function of the text, that does not raise -/
theorem WC_fn {f : Addr} {o : Obj} {fd : FuncData} {s0 : Stmt} {body : List Stmt} {ns : List Str} {Vs : List AV} {Q : AV → Store → Prop} (ho : X.h₀.get? f = some o) (hd : o.data = .func fd)
    (hcd : X.h₀.CodeRec fd.code fd.qualname) (hbody : fd.body = .stmts (s0 :: body)) (hclo : fd.closure = []) (hroom : A.depth < recursionLimit)
    (hbind : ∀ vs : List Value, vs.length = Vs.length → bindArgs fd ⟨vs, []⟩ = pure (ns.zip vs))
    (hkind : ns.all (fun n => fd.scope.names.lookup n == some .local || fd.scope.names.lookup n == some .cell) = true)
    (hnd : ((cellsFrom 0 fd.scope.names []).map (·.1)).Nodup)
    (h : ∀ L, σ.Below L → ESs X (A.deeper (callEnvC fd L f)) (callEnvC fd L f) (bindLA (callEnvC fd L f).kindOf (ns.zip Vs) []) (s0 :: body)
      (setCells (bindCA (callEnvC fd L f).kindOf (ns.zip Vs) []) (callEnvC fd L f).cells σ) (fun fl _ σ' => Q fl.val σ') (EXF X (A.deeper (callEnvC fd L f)) (callEnvC fd L f) NeverF))
    (hco : fd.scope.isCoroutine = false := by rfl) (hgen : fd.scope.isGenerator = false := by rfl) (hk : fd.scope.kind = .function := by rfl) :
    WC X A (.ref f) Vs σ Q Es := fun φ s vs x hv => by
  refine wpAny_call ?_
  have hK := kindsX (scope := fd.scope) (binds := ns.zip vs) (by
    rw [List.all_eq_true]; intro y hy
    have hy1 : y.1 ∈ ns := (List.of_mem_zip (a := y.1) (b := y.2) hy).1
    exact List.all_eq_true.mp hkind y.1 hy1) (s.heap.objs.size + 1)
  refine codeAny_call_cells hroom (x.keep _ _ ho) hd (X.lim.keeps x.keep) (hcd.keeps x.keep) hbody (hbind vs hv.length) hclo hK (fun s₁ y => ?_) hco hgen hk
  have hlk : ∀ n c, (n, c) ∈ (callEnvC fd s.heap.objs.size f).cells → (callEnvC fd s.heap.objs.size f).cells.lookup n = some c := fun n c hm => cellsFrom_lookup hnd _ n c hm
  obtain ⟨F, kk⟩ := frame_start (fd := fd) (f := f) x hv hk rfl y hlk
  refine wpAny_mono (XS.use (Q₂ := fun f s' => CR X A φ s.heap Q (match f with | .ret v => v | _ => Value.none) s') (h _ x.below) F fun a fl ρ' σ' s' hf F' k' q => ?_) (fun _ _ q => q) fun e s' he => he.never.elim
  refine (show (∃ V σ', VR X s'.heap V _ ∧ _) from ⟨fl.val, σ', ?_, F'.leave x.fr, kk.trans k', q⟩)
  cases fl with
  | next => obtain rfl : a = .next := hf; exact VR_con _ _
  | brk => obtain rfl : a = .brk := hf; exact VR_con _ _
  | cont => obtain rfl : a = .cont := hf; exact VR_con _ _
  | ret V => obtain ⟨v, rfl, hv⟩ := hf; exact hv
end
end Mine
end
section
set_option Elab.async false
set_option maxRecDepth 100000
set_option linter.unusedVariables false
open PySem PySem.W PySem.Calls PyProof.Rows
namespace Mine
section
variable {X : Cx} {A : Around} {env : Env} {ρ : List (Str × AV)} {σ τ φ : Store} {E : Store → Value → Shared → Prop} {Es : Store → Prop} {s : Shared}

/-! ints -/
theorem op_add {a b : Int} {Q : AV → Store → Prop} (h : Q (.int (a + b)) σ) : Op2 X A env ρ (VR X) (binaryOp .Add) (.int a) (.int b) σ Q E := fun φ s x y hx hy F => by
  obtain ⟨t, rfl⟩ := hx; obtain ⟨u, rfl⟩ := hy
  with_reducible refine PyProof.Rows.add_int ?_
  exact ⟨.int (a + b), σ, ⟨_, rfl⟩, F.toks, .refl _, h⟩
theorem op_sub {a b : Int} {Q : AV → Store → Prop} (h : Q (.int (a - b)) σ) : Op2 X A env ρ (VR X) (binaryOp .Sub) (.int a) (.int b) σ Q E := fun φ s x y hx hy F => by
  obtain ⟨t, rfl⟩ := hx; obtain ⟨u, rfl⟩ := hy
  with_reducible refine PyProof.Rows.sub_int ?_
  exact ⟨.int (a - b), σ, ⟨_, rfl⟩, F.toks, .refl _, h⟩
theorem op_mul {a b : Int} {Q : AV → Store → Prop} (hm : IntMulOk a b) (h : Q (.int (a * b)) σ) : Op2 X A env ρ (VR X) (binaryOp .Mult) (.int a) (.int b) σ Q E := fun φ s x y hx hy F => by
  obtain ⟨t, rfl⟩ := hx; obtain ⟨u, rfl⟩ := hy
  with_reducible refine PyProof.Rows.mul_int ?_ hm
  exact ⟨.int (a * b), σ, ⟨_, rfl⟩, F.toks, .refl _, h⟩
theorem op_mod {a b : Int} {Q : AV → Store → Prop} (hb : b ≠ 0) (h : Q (.int (a.fmod b)) σ) : Op2 X A env ρ (VR X) (binaryOp .Mod) (.int a) (.int b) σ Q E := fun φ s x y hx hy F => by
  obtain ⟨t, rfl⟩ := hx; obtain ⟨u, rfl⟩ := hy
  with_reducible refine PyProof.Rows.mod_int' hb ?_
  exact ⟨.int (a.fmod b), σ, ⟨_, rfl⟩, F.toks, .refl _, h⟩
theorem op_neg {a : Int} {Q : AV → Store → Prop} (h : Q (.int (-a)) σ) : Op1 X A env ρ (VR X) (unaryOp .USub) (.int a) σ Q E := fun φ s x hx F => by
  obtain ⟨t, rfl⟩ := hx
  with_reducible refine PyProof.Rows.neg_int ?_
  exact ⟨.int (-a), σ, ⟨_, rfl⟩, F.toks, .refl _, h⟩
theorem op_eq_int {a b : Int} {Q : AV → Store → Prop} (h : Q (.bool (a == b)) σ) : Op2 X A env ρ (VR X) (compareOp .Eq) (.int a) (.int b) σ Q E := fun φ s x y hx hy F => by
  obtain ⟨t, rfl⟩ := hx; obtain ⟨u, rfl⟩ := hy
  with_reducible refine PyProof.Rows.eq_int ?_
  exact ⟨.bool (a == b), σ, VR_con _ _, F, .refl _, h⟩
theorem op_ne_int {a b : Int} {Q : AV → Store → Prop} (h : Q (.bool (a != b)) σ) : Op2 X A env ρ (VR X) (compareOp .NotEq) (.int a) (.int b) σ Q E := fun φ s x y hx hy F => by
  obtain ⟨t, rfl⟩ := hx; obtain ⟨u, rfl⟩ := hy
  with_reducible refine PyProof.Rows.ne_int ?_
  exact ⟨.bool (a != b), σ, VR_con _ _, F, .refl _, h⟩
theorem op_lt_int {a b : Int} {Q : AV → Store → Prop} (h : Q (.bool (decide (a < b))) σ) : Op2 X A env ρ (VR X) (compareOp .Lt) (.int a) (.int b) σ Q E := fun φ s x y hx hy F => by
  obtain ⟨t, rfl⟩ := hx; obtain ⟨u, rfl⟩ := hy
  with_reducible refine PyProof.Rows.lt_int ?_
  exact ⟨.bool (decide (a < b)), σ, VR_con _ _, F, .refl _, h⟩
theorem op_le_int {a b : Int} {Q : AV → Store → Prop} (h : Q (.bool (decide (a ≤ b))) σ) : Op2 X A env ρ (VR X) (compareOp .LtE) (.int a) (.int b) σ Q E := fun φ s x y hx hy F => by
  obtain ⟨t, rfl⟩ := hx; obtain ⟨u, rfl⟩ := hy
  with_reducible refine PyProof.Rows.le_int ?_
  exact ⟨.bool (decide (a ≤ b)), σ, VR_con _ _, F, .refl _, h⟩
theorem op_gt_int {a b : Int} {Q : AV → Store → Prop} (h : Q (.bool (decide (b < a))) σ) : Op2 X A env ρ (VR X) (compareOp .Gt) (.int a) (.int b) σ Q E := fun φ s x y hx hy F => by
  obtain ⟨t, rfl⟩ := hx; obtain ⟨u, rfl⟩ := hy
  with_reducible refine PyProof.Rows.gt_int ?_
  exact ⟨.bool (decide (b < a)), σ, VR_con _ _, F, .refl _, h⟩
theorem op_ge_int {a b : Int} {Q : AV → Store → Prop} (h : Q (.bool (decide (b ≤ a))) σ) : Op2 X A env ρ (VR X) (compareOp .GtE) (.int a) (.int b) σ Q E := fun φ s x y hx hy F => by
  obtain ⟨t, rfl⟩ := hx; obtain ⟨u, rfl⟩ := hy
  with_reducible refine PyProof.Rows.ge_int ?_
  exact ⟨.bool (decide (b ≤ a)), σ, VR_con _ _, F, .refl _, h⟩
/-! texts -/
theorem op_eq_str {a b : Str} {Q : AV → Store → Prop} (h : Q (.bool (a == b)) σ) : Op2 X A env ρ (VR X) (compareOp .Eq) (.str a) (.str b) σ Q E := fun φ s x y hx hy F => by
  obtain ⟨t, rfl⟩ := hx; obtain ⟨u, rfl⟩ := hy
  with_reducible refine PyProof.Rows.eq_str ?_
  exact ⟨.bool (a == b), σ, VR_con _ _, F, .refl _, h⟩
theorem op_ne_str {a b : Str} {Q : AV → Store → Prop} (h : Q (.bool (a != b)) σ) : Op2 X A env ρ (VR X) (compareOp .NotEq) (.str a) (.str b) σ Q E := fun φ s x y hx hy F => by
  obtain ⟨t, rfl⟩ := hx; obtain ⟨u, rfl⟩ := hy
  with_reducible refine PyProof.Rows.ne_str ?_
  exact ⟨.bool (a != b), σ, VR_con _ _, F, .refl _, h⟩
theorem op_add_str {a b : Str} {Q : AV → Store → Prop} (hz : a.length + b.length ≤ 1000) (h : Q (.str (a ++ b)) σ) : Op2 X A env ρ (VR X) (binaryOp .Add) (.str a) (.str b) σ Q E := fun φ s x y hx hy F => by
  obtain ⟨t, rfl⟩ := hx; obtain ⟨u, rfl⟩ := hy
  with_reducible refine PyProof.Rows.add_str (fun t' tk => ?_) (by rw [sizeLine_eq]; omega)
  exact ⟨.str (a ++ b), σ, ⟨_, rfl⟩, F.toks, .refl _, h⟩

/-! items -/
/-- what an item of a value is -/
noncomputable def ItS (X : Cx) (A : Around) (env : Env) (ρ : List (Str × AV)) (V U : AV) (σ : Store) (Q : AV → Store → Prop) (E : Store → Value → Shared → Prop) : Prop :=
  ∀ φ s a b, VR X s.heap V a → VR X s.heap U b → Fst X A env ρ φ σ s →
    (∃ T id, s.TypeIs a T ∧ typeLookup (.type T) "__getitem__" = pure (some (.builtin id))) ∧ wpAny (model X.prog X.w) A (getItem a b) (PE (VR X) X A env ρ φ s.heap Q) (E φ) s
theorem EV_Item {value slice : Expr} {pos : Pos} {Q : AV → Store → Prop} (hs : ∀ o i, subscripted slice false o i = operate [o, i] (getItem o i))
    (h : EV X A env ρ value σ (fun V σ₁ => EV X A env ρ slice σ₁ (fun U σ₂ => ItS X A env ρ V U σ₂ Q E) E) E) : EV X A env ρ (.Subscript value slice pos) σ Q E := fun φ s x =>
  Subscript_ (h.use x fun a V σ₁ s₁ ha x₁ k₁ h₁ => h₁.use x₁ fun b U σ₂ s₂ hb x₂ k₂ h₂ => by
    obtain ⟨⟨T, id, hT, hl⟩, hg⟩ := h₂ φ s₂ a b (VR.mono k₂ V a ha) hb x₂
    exact tail_any hT hl (wpAny_mono hg (fun _ _ ⟨b, σ', r, y, kk, q⟩ => ⟨b, σ', r, y, (k₁.trans k₂).trans kk, q⟩) fun _ _ e => e) (hs a b))
theorem it_tup {l : List AV} {i : Int} {V : AV} {Q : AV → Store → Prop} (h0 : 0 ≤ i) (hi : i < 1000000) (hx : l[i.toNat]? = some V) (h : Q V σ) : ItS X A env ρ (.tup l) (.int i) σ Q E := fun φ s x y hx' hy F => by
  obtain ⟨t, items, rfl, ⟨ht, _⟩, hv⟩ := hx'
  obtain ⟨u, rfl⟩ := hy
  obtain ⟨v, hv1, hv2⟩ := hv.get hx
  have hlt : i.toNat < items.size := by
    have := (List.getElem?_eq_some_iff.mp hv1).1
    simpa using this
  refine ⟨⟨"tuple", _, ht.typeIs, slot_tuple_getitem.lookup⟩, PyProof.Rows.getItem_tuple ht (by omega) (by omega) (j := i.toNat) ?_ (x := v) ?_ ⟨V, σ, hv2, F, .refl _, h⟩⟩
  · unfold seqIndex?
    have : ¬ i < 0 := by omega
    simp [this]
    first | omega | (constructor <;> omega)
  · rw [← Array.getElem?_toList]; exact hv1
theorem it_list {b : Addr} {l : List AV} {i : Int} {V : AV} {Q : AV → Store → Prop} (hb : σ b = some (.list l)) (h0 : 0 ≤ i) (hi : i < 1000000) (hx : l[i.toNat]? = some V) (h : Q V σ) : ItS X A env ρ (.ref b) (.int i) σ Q E := fun φ s x y hx' hy F => by
  obtain rfl : x = .ref b := hx'
  obtain ⟨u, rfl⟩ := hy
  obtain ⟨vs, hl, _, hv⟩ := F.sto hb
  obtain ⟨v, hv1, hv2⟩ := hv.get hx
  refine ⟨⟨"list", _, hl.typeIs, slot_list_getitem.lookup⟩, wpAny_getItem_list hl h0 (by omega) (by simpa using hv1) ⟨V, σ, hv2, F, .refl _, h⟩⟩
/-- a part of a tuple: all but the first -/
theorem EV_rest {value : Expr} {k : Nat} {p1 p pos : Pos} {Q : AV → Store → Prop}
    (h : EV X A env ρ value σ (fun V σ₁ => ∃ W r, V = .tup (W :: r) ∧ r.length ≤ 1000 ∧ Q (.tup r) σ₁) E) : EV X A env ρ (.Subscript value (.Slice (some (.Constant (.int 1) k p1)) none none p) pos) σ Q E := fun φ s x =>
  Subscript_ (h.use x fun a V σ₁ s₁ ha x₁ k₁ h₁ => by
    obtain ⟨W, r, rfl, hr, hq⟩ := h₁
    obtain ⟨t, items, rfl, ⟨ht, _⟩, hv⟩ := ha
    show wpAny _ A (do let l ← (eval (.Constant (.int 1) k p1) env); let u ← holding [l] (pure Value.none); let st ← holding [l, u] (pure Value.none); newFields "slice" [l, u, st]) _ _ s₁
    refine wpAny_bind (wpAny_Constant_int (wpAny_bind (wpAny_holding (wpAny_pure (wpAny_bind (wpAny_holding (wpAny_pure ?_)))))))
    show wpAny _ A (newObj (.type "slice") (.fields #[.int 1 s₁.toks, .none, .none])) _ _ _
    refine wpAny_newObj_type ?_ (by show (3 : Nat) ≤ sizeLine + 2; rw [sizeLine_eq]; omega)
    have kp : ∀ b o, s₁.heap.get? b = some o → (s₁.heap.push { cls := .type "slice", dict := none, data := .fields #[.int 1 s₁.toks, .none, .none] }).get? b = some o := fun b o e => Heap.get?_push_of_some _ e
    have ht' := ht.keeps kp
    obtain ⟨v, vs, e, hv1, hv2⟩ := hv
    have hlen : items.size = vs.length + 1 := by
      have : items.toList.length = (v :: vs).length := by rw [e]
      simpa using this
    have hsz : 1 ≤ items.size := by omega
    have hle : items.size ≤ sizeLine := by rw [sizeLine_eq, hlen, hv2.length]; omega
    refine tail_any ht'.typeIs slot_tuple_getitem.lookup (getItem_tuple_from (a := 1) ht' (Heap.IsSliceOf.new ..) (by omega) hsz ?_ hle) (hs := rfl)
    have hd : items.toList.drop 1 = vs := by rw [e]; rfl
    rw [hd]
    have kp2 : ∀ b o, s₁.heap.get? b = some o → ((s₁.heap.push { cls := .type "slice", dict := none, data := .fields #[.int 1 s₁.toks, .none, .none] }).push { cls := .type "tuple", data := .seq vs.toArray }).get? b = some o := fun b o e => Heap.get?_push_of_some _ (kp b o e)
    exact ⟨.tup r, σ₁, ⟨_, _, rfl, x₁.okf.isT (by simp [Heap.size_push]) isTup_new, VRs.mono (Kept.of_keeps kp2) _ _ hv2⟩, x₁.grow kp2, k₁.trans (Kept.of_keeps kp2), hq⟩)
end
end Mine
end
section
set_option Elab.async false
set_option maxRecDepth 100000
set_option linter.unusedVariables false
open PySem PySem.W PySem.Calls PyProof.Rows
namespace Mine

theorem join_none {σ φ : Store} {a : Addr} (h : (σ.join φ) a = none) : σ a = none ∧ φ a = none := by
  unfold Store.join at h
  cases q : σ a with
  | none => rw [q] at h; exact ⟨rfl, h⟩
  | some o => rw [q] at h; cases h
theorem none_join {σ φ : Store} {a : Addr} (h : σ a = none) (k : φ a = none) : (σ.join φ) a = none := by
  unfold Store.join; rw [h]; exact k
theorem join_swap {α β γ : Store} (d : Apart α β) : α.join (β.join γ) = β.join (α.join γ) := by
  funext a; unfold Store.join
  cases p : α a with
  | none => cases β a <;> rfl
  | some o => rw [d a o p]
theorem Apart.swap {α β : Store} (d : Apart α β) : Apart β α := fun a o e => by
  cases q : α a with
  | none => rfl
  | some p => rw [d a p q] at e; cases e
theorem Apart.join {α β γ : Store} (d : Apart α β) (e : Apart α γ) : Apart α (β.join γ) := fun a o q => none_join (d a o q) (e a o q)
theorem Apart.left {α β γ : Store} (d : Apart α (β.join γ)) : Apart α β := fun a o q => (join_none (d a o q)).1
theorem Apart.right {α β γ : Store} (d : Apart α (β.join γ)) : Apart α γ := fun a o q => (join_none (d a o q)).2
theorem FrOk.under {A : Around} {ψ φ : Store} (f : FrOk A φ) (d : Apart ψ φ) : FrOk A (ψ.join φ) := by
  obtain ⟨l, hl, h⟩ := f
  refine ⟨l, hl, fun e he => ?_⟩
  obtain ⟨hk, M, ρ, hf, hp⟩ := h e he
  exact ⟨hk, M, ρ, hf, join_right d hp⟩

section
variable {X : Cx} {A : Around} {env : Env} {ρ ρ₀ : List (Str × AV)} {σ τ φ ψ : Store} {E : Store → Value → Shared → Prop} {Es : Store → Prop} {s : Shared}

theorem Fst.out (x : Fst X A env ρ φ (σ.join ψ) s) (d : Apart σ ψ) : Fst X A env ρ (ψ.join φ) σ s ∧ Apart ψ φ := by
  have hl := join_none x.off.2
  have a1 : Apart ψ ((Store.one env.locals (.ns ρ)).join φ) := fun a o e => x.okf.apart a o (join_right d e)
  refine ⟨⟨⟨none_join hl.2 x.off.1, hl.1⟩, ?_⟩, a1.right⟩
  have y := x.okf.aside (B := A) d (x.okf.fr.under a1)
  rw [join_swap a1.left] at y; exact y
theorem Fst.in (x : Fst X A env ρ (ψ.join φ) σ s) (d : Apart ψ φ) (f : FrOk A ((Store.one env.locals (.ns ρ₀)).join φ)) : Fst X A env ρ φ (σ.join ψ) s ∧ Apart σ ψ := by
  have hφ := join_none x.off.1
  have a1 : Apart ψ (Store.one env.locals (.ns ρ)) := apart_one hφ.1
  have y : Okf X A (ψ.join ((Store.one env.locals (.ns ρ)).join φ)) σ s := by rw [join_swap a1]; exact x.okf
  have z := y.back (a1.join d) f.names
  exact ⟨⟨⟨hφ.2, none_join x.off.2 hφ.1⟩, z.1⟩, z.2⟩

/-- entries that go -/
theorem Okf.lose {h' : Heap} {tk : Nat} (x : Okf X A φ (σ.join ψ) s) (d : Apart σ ψ) (hn : ∀ a o, ψ a = some o → ¬ X.own a ∧ o.isGhost = false)
    (k : ∀ b o, ψ b = none → s.heap.get? b = some o → h'.get? b = some o) : Okf X A φ σ { s with heap := h', toks := tk } ∧ Kept X s.heap h' := by
  have kk : Kept X s.heap h' := fun a items t => by
    cases q : ψ a with
    | none => obtain ⟨⟨o, ho, r⟩, n⟩ := t; exact ⟨⟨o, k a o q ho, r⟩, n⟩
    | some o => exact (((x.sto (join_right d q)).there (hn a o q).2).choose_spec.2 ⟨items, t⟩).elim
  refine ⟨⟨fun a o e => x.apart a o (join_left e), ⟨fun b o e => ?_, x.ok.gens, x.ok.drawn, x.ok.os, fun a o e => ?_, fun a e => ?_⟩, x.fr⟩, kk⟩
  · cases q : ψ b with
    | none => exact k b o q (x.ok.keep b o e)
    | some p => have := (x.ok.sto b p (join_left (join_right d q))).2; rw [this] at e; cases e
  · have e' : ((σ.join ψ).join φ) a = some o := by
      unfold Store.join at e ⊢
      cases q : σ a with
      | some p => rw [q] at e; exact e
      | none =>
        rw [q] at e
        cases q2 : ψ a with
        | none => exact e
        | some p => have := x.apart a p (join_right d q2); rw [this] at e; cases e
    obtain ⟨h1, h2⟩ := x.ok.sto a o e'
    refine ⟨h1.move kk fun o' ho' => k a o' ?_ ho', h2⟩
    cases q : ψ a with
    | none => rfl
    | some p =>
      unfold Store.join at e
      cases q2 : σ a with
      | some p2 => have := d a p2 q2; rw [q] at this; cases this
      | none => rw [q2] at e; have := x.apart a p (join_right d q); rw [this] at e; cases e
  · cases q : ψ a with
    | none => exact (x.ok.own a e).imp fun o ho => k a o q ho
    | some p => exact ((hn a p q).1 e).elim

/-- an iterator over told values -/
structure Itr (X : Cx) (A : Around) (it : Value) (St : Nat → Store → Prop) (Mid : Nat → Value → Store → Prop) (need : Store → Prop) (hn : Heap → Prop) (l : List AV) : Prop where
  keeps : ∀ {h h'}, Kept X h h' → hn h → hn h'
  own : ∀ {i ψ a o}, St i ψ → ψ a = some o → ¬ X.own a
  item : ∀ {φ σ ψ s i V}, l[i]? = some V → St i ψ → need σ → hn s.heap → Apart σ ψ → Okf X A φ (σ.join ψ) s → ∀ {Q : Option Value → Shared → Prop} {E : Value → Shared → Prop},
    (∀ v s' ψ', VR X s'.heap V v → Mid (i + 1) v ψ' → Apart σ ψ' → Okf X A φ (σ.join ψ') s' → Kept X s.heap s'.heap → Q (some v) s') → wpAny (model X.prog X.w) A (pyNext it) Q E s
  done : ∀ {φ σ ψ s i}, l.length = i → St i ψ → need σ → hn s.heap → Apart σ ψ → Okf X A φ (σ.join ψ) s → ∀ {Q : Option Value → Shared → Prop} {E : Value → Shared → Prop},
    (∀ s', Okf X A φ σ s' → Kept X s.heap s'.heap → Q none s') → wpAny (model X.prog X.w) A (pyNext it) Q E s
  self : ∀ {φ σ ψ s i}, St i ψ → Apart σ ψ → Okf X A φ (σ.join ψ) s → ∀ {Q : Value → Shared → Prop} {E : Value → Shared → Prop}, Q it s → wpAny (model X.prog X.w) A (pyIter it) Q E s
  go : ∀ {φ σ ψ s i v}, Mid i v ψ → Apart σ ψ → Okf X A φ (σ.join ψ) s → ∀ {elts : List Expr} {k : Nat} {pos : Pos} {Q : Unit → Shared → Prop} {E : Value → Shared → Prop},
    (∀ s' ψ', St i ψ' → Apart σ ψ' → Okf X A φ (σ.join ψ') s' → Kept X s.heap s'.heap → Q () s') → wpAny (model X.prog X.w) A (letOwnedTupleGo (.Tuple elts k pos) it v) Q E s
/-- a value that is walked -/
noncomputable def Its (X : Cx) (A : Around) (V : AV) (l : List AV) (plain : Bool) (need : Store → Prop) (σ σ₀ : Store) : Prop :=
  ∀ φ s a, VR X s.heap V a → Okf X A φ σ s → ∀ (Q : Value → Shared → Prop) (E : Value → Shared → Prop),
    (∀ it St Mid hn ψ s', Itr X A it St Mid need hn l → (plain = true → ∀ i v ψ, Mid i v ψ → St i ψ) → St 0 ψ → hn s'.heap → Apart σ₀ ψ → Okf X A φ (σ₀.join ψ) s' → Kept X s.heap s'.heap → Q it s') →
    wpAny (model X.prog X.w) A (pyIter a) Q E s

theorem kept_same {h h' : Heap} {d : Addr} {o : AO} (ho : OR X h d o) (hs : Heap.SameBut d h h') (hg : o.isGhost = false := by rfl) : Kept X h h' := by
  obtain ⟨ob, h1, h2⟩ := ho.there hg
  exact kept_upd h1 h2 hs
theorem go_plain {I : Addr} {o : Obj} {T : String} {vs : Array Value} (ho : s.heap.get? I = some o) (hc : o.cls = .type T) (hd : o.data = .fields vs)
    (hT : (["enumerate", "zip", "dict_itemiterator", "dict_reverseitemiterator", "odict_iterator", "itertools.zip_longest", "itertools.pairwise"] : List String).contains T = false)
    {M : Model} {v : Value} {elts : List Expr} {k : Nat} {pos : Pos} {Q : Unit → Shared → Prop} {E : Value → Shared → Prop} (h : Q () s) : wpAny M A (letOwnedTupleGo (.Tuple elts k pos) (.ref I) v) Q E s := by
  cases v with
  | ref a =>
    unfold letOwnedTupleGo
    refine wpAny_bind (wpAny_load ho ?_)
    rw [hc, hd]
    show wpAny _ _ (if (["enumerate", "zip", "dict_itemiterator", "dict_reverseitemiterator", "odict_iterator", "itertools.zip_longest", "itertools.pairwise"].contains T && vs[0]? == some (rawInt a)) = true then _ else _) Q E s
    rw [hT, Bool.false_and, if_neg (by simp)]
    exact wpAny_pure h
  | _ => exact wpAny_pure h
/-- an iterator of one object -/
theorem Itr.mk1 {I : Addr} {T : String} {P : Nat → Obj → Prop} {need : Store → Prop} {hn : Heap → Prop} {l : List AV} (hown : ¬ X.own I)
    (hT : (["enumerate", "zip", "dict_itemiterator", "dict_reverseitemiterator", "odict_iterator", "itertools.zip_longest", "itertools.pairwise"] : List String).contains T = false) (hTt : T ≠ "tuple")
    (keeps : ∀ {h h'}, Kept X h h' → hn h → hn h') (hP : ∀ {i o}, P i o → o.cls = .type T ∧ ∃ vs, o.data = .fields vs)
    (hitem : ∀ {φ σ s i V o}, l[i]? = some V → P i o → need σ → hn s.heap → s.heap.get? I = some o → σ I = none → Okf X A φ (σ.set I (.raw o)) s → ∀ {Q : Option Value → Shared → Prop} {E : Value → Shared → Prop},
      (∀ v h' tk o', VR X s.heap V v → P (i + 1) o' → h'.get? I = some o' → Heap.SameBut I s.heap h' → Q (some v) { s with heap := h', toks := tk }) → wpAny (model X.prog X.w) A (pyNext (.ref I)) Q E s)
    (hdone : ∀ {φ σ s i o}, l.length ≤ i → P i o → need σ → hn s.heap → s.heap.get? I = some o → σ I = none → Okf X A φ (σ.set I (.raw o)) s → ∀ {Q : Option Value → Shared → Prop} {E : Value → Shared → Prop},
      (∀ h', Heap.ExtBut I s.heap h' → Q none { s with heap := h' }) → wpAny (model X.prog X.w) A (pyNext (.ref I)) Q E s)
    (hself : ∀ {s i o}, P i o → s.heap.get? I = some o → ∀ {Q : Value → Shared → Prop} {E : Value → Shared → Prop}, Q (.ref I) s → wpAny (model X.prog X.w) A (pyIter (.ref I)) Q E s) :
    Itr X A (.ref I) (fun i ψ => ∃ o, ψ = Store.one I (.raw o) ∧ P i o) (fun i _ ψ => ∃ o, ψ = Store.one I (.raw o) ∧ P i o) need hn l where
  keeps := keeps
  own := fun {i ψ a o} h e => by
    obtain ⟨p, rfl, _⟩ := h
    unfold Store.one at e
    split at e
    · rename_i q; rw [q]; exact hown
    · cases e
  item := fun {φ σ ψ s i V} hl h hneed hh d x {Q E} hQ => by
    obtain ⟨o, rfl, hp⟩ := h
    have hI : σ I = none := by cases q : σ I with
      | none => rfl
      | some p => have := d I p q; rw [one_self] at this; cases this
    rw [join_one hI] at x
    have hO := x.sto (set_self σ I (.raw o))
    refine hitem hl hp hneed hh hO.1 hI x fun v h' tk o' hv hp' ho' hs => ?_
    have k := kept_same hO hs
    have hto : o'.cls ≠ .type "tuple" := by rw [(hP hp').1]; intro z; injection z with z; exact hTt z
    have y := (x.upd (tk := tk) (set_self ..) hs (show OR X h' I (.raw o') from ⟨ho', fun z => (hto z).elim⟩)).1
    rw [set_set, ← join_one hI] at y
    exact hQ v _ _ (VR.mono k V v hv) ⟨o', rfl, hp'⟩ (apart_one hI) y k
  done := fun {φ σ ψ s i} hl h hneed hh d x {Q E} hQ => by
    obtain ⟨o, rfl, hp⟩ := h
    have hI : σ I = none := by cases q : σ I with
      | none => rfl
      | some p => have := d I p q; rw [one_self] at this; cases this
    have x' := x
    rw [join_one hI] at x
    refine hdone (Nat.le_of_eq hl) hp hneed hh (x.sto (set_self σ I (.raw o))).1 hI x fun h' he => ?_
    have y := x'.lose (tk := s.toks) (h' := h') d (fun a o e => by
      unfold Store.one at e
      split at e
      · rename_i q; cases e; rw [q]; exact ⟨hown, rfl⟩
      · cases e) fun b o e hb => he b o (fun q => by rw [q, one_self] at e; cases e) hb
    exact hQ _ y.1 y.2
  self := fun {φ σ ψ s i} h d x {Q E} hQ => by
    obtain ⟨o, rfl, hp⟩ := h
    exact hself hp (x.sto (join_right d (one_self ..))).1 hQ
  go := fun {φ σ ψ s i v} h d x {elts k pos Q E} hQ => by
    obtain ⟨o, rfl, hp⟩ := h
    obtain ⟨hc, vs, hd⟩ := hP hp
    exact go_plain (x.sto (join_right d (one_self ..))).1 hc hd hT (hQ s _ ⟨o, rfl, hp⟩ d x (.refl _))

/-! what is walked: lists, tuples, ranges, texts -/
theorem Okf.free2 (x : Okf X A φ σ s) {a : Addr} (ha : s.heap.objs.size ≤ a) : σ a = none ∧ φ a = none ∧ ¬ X.own a :=
  ⟨(x.below.mono ha).none, x.free ha, fun q => by obtain ⟨o, e⟩ := x.ok.own a q; exact absurd (Heap.lt_size e) (Nat.not_lt.mpr ha)⟩
theorem push_keeps {h : Heap} {o : Obj} : ∀ b p, h.get? b = some p → (h.push o).get? b = some p := fun b p e => Heap.get?_push_of_some _ e
theorem its_list {b : Addr} {l : List AV} (hh : A.handled = none) (hb : σ b = some (.list l)) : Its X A (.ref b) l true (fun σ => σ b = some (.list l)) σ σ := fun φ s a ha x Q E hQ => by
  obtain rfl : a = .ref b := ha
  obtain ⟨vs, hl, _, hv⟩ := x.sto hb
  refine wpAny_pyIter_list hl ?_
  have hf := x.free2 (Nat.le_refl _)
  have y := x.alloc (tk := s.toks) (h' := s.heap.push { cls := .type "list_iterator", data := .fields #[.ref b, .int 0 0] }) push_keeps (Nat.le_refl _)
    (show OR X _ s.heap.objs.size (.raw { cls := .type "list_iterator", data := .fields #[.ref b, .int 0 0] }) from ⟨Heap.get?_push_size _ rfl, fun z => absurd (show (Value.type "list_iterator" : Value) = .type "tuple" from z) (by decide)⟩)
  rw [← join_one hf.1] at y
  refine hQ (.ref s.heap.objs.size) _ _ (fun _ => True) _ _ (Itr.mk1 (T := "list_iterator") (P := fun i o => o.cls = .type "list_iterator" ∧ o.data = .fields #[.ref b, .int (i : Nat) 0]) hf.2.2 (by decide) (by decide) (fun _ h => h) (fun h => ⟨h.1, _, h.2⟩) ?_ ?_ ?_)
    (fun _ i v ψ h => h) ⟨_, rfl, rfl, rfl⟩ trivial (apart_one hf.1) y (Kept.of_keeps push_keeps)
  · intro φ' σ' s' i V o hlV hp hneed _ ho hI x' Q' E' hQ'
    obtain ⟨vs', hl', _, hv'⟩ := x'.sto (show (σ'.set s.heap.objs.size (.raw o)) b = some (.list l) by rw [set_ne (fun q => by rw [q, hI] at hneed; cases hneed)]; exact hneed)
    obtain ⟨v, hv1, hv2⟩ := hv'.get hlV
    refine wpAny_pyNext_list_item (i := i) ⟨o, ho, hp.1, hp.2⟩ hl' (by simpa using hv1) fun h' hit' hs => ?_
    obtain ⟨o', ho', hp'⟩ := hit'
    exact hQ' v h' s'.toks o' hv2 hp' ho' hs
  · intro φ' σ' s' i o hlV hp hneed _ ho hI x' Q' E' hQ'
    obtain ⟨vs', hl', _, hv'⟩ := x'.sto (show (σ'.set s.heap.objs.size (.raw o)) b = some (.list l) by rw [set_ne (fun q => by rw [q, hI] at hneed; cases hneed)]; exact hneed)
    exact wpAny_pyNext_list_end (i := i) hh ⟨o, ho, hp.1, hp.2⟩ hl' (by have := hv'.length; simp; omega) hQ'
  · intro s' i o hp ho Q' E' hQ'
    exact wpAny_pyIter_listiter (i := i) ⟨o, ho, hp.1, hp.2⟩ hQ'

theorem raw_there {o : Obj} {h : Heap} {T : String} (hc : o.cls = .type T) (hT : T ≠ "tuple") (hf : o.isFreed = false) : OR X (h.push o) h.objs.size (.raw o) :=
  ⟨Heap.get?_push_size _ hf, fun z => by rw [hc] at z; injection z with z; exact (hT z).elim⟩
theorem its_tup {l : List AV} (hh : A.handled = none) : Its X A (.tup l) l true (fun _ => True) σ σ := fun φ s a ha x Q E hQ => by
  obtain ⟨b, items, rfl, hl, hv⟩ := ha
  refine PyProof.Rows.iter_tuple hl.1 ?_
  have hf := x.free2 (Nat.le_refl _)
  have y := x.alloc (tk := s.toks) (h' := s.heap.push { cls := .type "tuple_iterator", data := .fields #[.ref b, .int 0 0] }) push_keeps (Nat.le_refl _)
    (raw_there (T := "tuple_iterator") rfl (by decide) rfl)
  rw [← join_one hf.1] at y
  refine hQ (.ref s.heap.objs.size) _ _ (fun h => ∃ items, IsT X h b items ∧ VRs X h l items.toList) _ _ (Itr.mk1 (T := "tuple_iterator") (P := fun i o => o.cls = .type "tuple_iterator" ∧ o.data = .fields #[.ref b, .int (i : Nat) 0]) hf.2.2 (by decide) (by decide)
    (fun k h => by obtain ⟨i, h1, h2⟩ := h; exact ⟨i, k _ _ h1, VRs.mono k _ _ h2⟩) (fun h => ⟨h.1, _, h.2⟩) ?_ ?_ ?_)
    (fun _ i v ψ h => h) ⟨_, rfl, rfl, rfl⟩ ⟨items, Kept.of_keeps push_keeps _ _ hl, VRs.mono (Kept.of_keeps push_keeps) _ _ hv⟩ (apart_one hf.1) y (Kept.of_keeps push_keeps)
  · intro φ' σ' s' i V o hlV hp hneed hn ho hI x' Q' E' hQ'
    obtain ⟨items', hl', hv'⟩ := hn
    obtain ⟨v, hv1, hv2⟩ := hv'.get hlV
    refine PyProof.Rows.next_tuple_item (i := i) ⟨o, ho, hp.1, hp.2⟩ hl'.1 (by simpa using hv1) fun h' hit' hs => ?_
    obtain ⟨o', ho', hp'⟩ := hit'
    exact hQ' v h' s'.toks o' hv2 hp' ho' hs
  · intro φ' σ' s' i o hlV hp hneed hn ho hI x' Q' E' hQ'
    obtain ⟨items', hl', hv'⟩ := hn
    exact PyProof.Rows.next_tuple_end (i := i) hh ⟨o, ho, hp.1, hp.2⟩ hl'.1 (by have := hv'.length; simp at this; simp; omega) hQ'
  · intro s' i o hp ho Q' E' hQ'
    have hT : s'.TypeIs (.ref s.heap.objs.size) "tuple_iterator" := ⟨_, ho, hp.1⟩
    refine wpAny_pyIter_slot hT F.slot_tuple_iterator_iter (wpAny_call_entry F.slot_tuple_iterator_iter hT F.entry_tuple_iterator_iter ?_ (F.args_tuple_iterator_iter_1 _))
    show wpAny _ _ (ret (.ref _)) _ _ s'
    exact wpAny_pure ⟨_, rfl, "tuple_iterator", _, hT, F.slot_tuple_iterator_next.lookup, hQ'⟩
noncomputable def rangeObj (n : Int) (t u v : Tok) : Obj := { cls := .type "range", data := .fields #[.int 0 t, .int n u, .int 1 v] }
theorem small_up {n : Int} (h0 : 0 ≤ n) (h1 : n ≤ 1000000) : Builtin.Range.small 0 n 1 = true ∧ Builtin.Range.rangeSize 0 n 1 = n := by
  have e : Builtin.Range.rangeSize 0 n 1 = n := by
    unfold Builtin.Range.rangeSize
    simp
    omega
  refine ⟨?_, e⟩
  unfold Builtin.Range.small
  rw [e]
  simp [Builtin.Range.rangeFitsLong]
  omega

theorem its_range {r : Addr} {n : Nat} {t u v : Tok} (hh : A.handled = none) (hn : n ≤ 1000000) (hr : σ r = some (.raw (rangeObj n t u v))) : Its X A (.ref r) ((List.range n).map fun i => AV.int (i : Nat)) true (fun _ => True) σ σ := fun φ s a ha x Q E hQ => by
  obtain rfl : a = .ref r := ha
  have hR : IsRange s.heap r 0 n 1 t u v := (x.sto hr).1
  have hs := small_up (n := (n : Int)) (by omega) (by omega)
  refine wpAny_pyIter_range hR hs.1 ?_
  rw [hs.2]
  have hf := x.free2 (Nat.le_refl _)
  have y := x.alloc (tk := s.toks) (h' := s.heap.push { cls := .type "range_iterator", data := .fields #[rawInt 0, rawInt (n : Int), rawInt 1] }) push_keeps (Nat.le_refl _)
    (raw_there (T := "range_iterator") rfl (by decide) rfl)
  rw [← join_one hf.1] at y
  refine hQ (.ref s.heap.objs.size) _ _ (fun h => True) _ _ (Itr.mk1 (T := "range_iterator") (P := fun i o => o = { cls := .type "range_iterator", dict := none, data := .fields #[rawInt (i : Nat), rawInt ((n : Int) - (i : Nat)), rawInt 1], slots := #[] }) hf.2.2 (by decide) (by decide)
    (fun k h => h) (fun h => by subst h; exact ⟨rfl, _, rfl⟩) ?_ ?_ ?_)
    (fun _ i v ψ h => h) ⟨_, rfl, by simp⟩ trivial (apart_one hf.1) y (Kept.of_keeps push_keeps)
  · intro φ' σ' s' i V o hlV hp hneed hn ho hI x' Q' E' hQ'
    subst hp
    have hi : i < n := by have := (List.getElem?_eq_some_iff.mp hlV).1; simpa using this
    have hV : V = .int (i : Nat) := by simpa [hi] using hlV.symm
    subst hV
    refine wpAny_pyNext_range_item (x := (i : Nat)) (left := (n : Int) - (i : Nat)) (step := 1) ho (by omega) fun h' hit' hs => ?_
    refine hQ' _ h' _ _ ⟨_, rfl⟩ rfl ?_ hs
    have e1 : ((i : Nat) : Int) + 1 = ((i + 1 : Nat) : Int) := by push_cast; rfl
    have e2 : (n : Int) - ((i + 1 : Nat) : Int) = (n : Int) - (i : Int) - 1 := by push_cast; omega
    rw [e2, ← e1]; exact hit'
  · intro φ' σ' s' i o hlV hp hneed hn ho hI x' Q' E' hQ'
    subst hp
    have hi : n ≤ i := by simpa using hlV
    exact wpAny_pyNext_range_end (x := (i : Nat)) (left := (n : Int) - (i : Nat)) (step := 1) hh ho (by omega) hQ'
  · intro s' i o hp ho Q' E' hQ'
    subst hp
    exact wpAny_pyIter_rangeiter (x := (i : Nat)) (left := (n : Int) - (i : Nat)) (step := 1) ho hQ'
theorem its_str {w : Str} (hh : A.handled = none) (ha : w.cps.all (· < 128) = true) : Its X A (.str w) (w.cps.toList.map fun c => AV.str ⟨#[c]⟩) true (fun _ => True) σ σ := fun φ s a ha' x Q E hQ => by
  obtain ⟨t, rfl⟩ := ha'
  refine wpAny_pyIter_ascii ha ?_
  have hf := x.free2 (Nat.le_refl _)
  have y := x.alloc (tk := s.toks) (h' := s.heap.push { cls := .type "str_ascii_iterator", data := .fields #[.str w t, .int 0 0] }) push_keeps (Nat.le_refl _)
    (raw_there (T := "str_ascii_iterator") rfl (by decide) rfl)
  rw [← join_one hf.1] at y
  refine hQ (.ref s.heap.objs.size) _ _ (fun h => True) _ _ (Itr.mk1 (T := "str_ascii_iterator") (P := fun i o => o.cls = .type "str_ascii_iterator" ∧ o.data = .fields #[.str w t, .int (i : Nat) 0]) hf.2.2 (by decide) (by decide)
    (fun k h => h) (fun h => ⟨h.1, _, h.2⟩) ?_ ?_ ?_)
    (fun _ i v ψ h => h) ⟨_, rfl, rfl, rfl⟩ trivial (apart_one hf.1) y (Kept.of_keeps push_keeps)
  · intro φ' σ' s' i V o hlV hp hneed hn ho hI x' Q' E' hQ'
    rw [List.getElem?_map] at hlV
    obtain ⟨c, hc, rfl⟩ := Option.map_eq_some_iff.mp hlV
    refine wpAny_pyNext_ascii_item (i := i) (c := c) ⟨o, ho, hp.1, hp.2⟩ (by simpa using hc) fun h' hit' hs => ?_
    obtain ⟨o', ho', hp'⟩ := hit'
    exact hQ' _ h' _ o' ⟨_, rfl⟩ hp' ho' hs
  · intro φ' σ' s' i o hlV hp hneed hn ho hI x' Q' E' hQ'
    exact wpAny_pyNext_ascii_end (i := i) hh ⟨o, ho, hp.1, hp.2⟩ (by simp at hlV; simp; omega) hQ'
  · intro s' i o hp ho Q' E' hQ'
    exact wpAny_pyIter_striter_ascii (i := i) ⟨o, ho, hp.1, hp.2⟩ hQ'
end
end Mine
end
section
set_option Elab.async false
set_option maxRecDepth 100000
set_option linter.unusedVariables false
open PySem PySem.W PySem.Calls PyProof.Rows
namespace Mine
section
variable {X : Cx} {A : Around} {env : Env} {ρ ρ₀ : List (Str × AV)} {σ τ φ ψ : Store} {E : Store → Value → Shared → Prop} {Es : Store → Prop} {s : Shared}

theorem apart_one_of' {φ : Store} {a : Addr} {o : AO} (h : φ a = none) : Apart (Store.one a o) φ := apart_one_of h
theorem OR.list {h : Heap} {b : Addr} {l : List AV} {vs : List Value} (hp : h.PlainList b vs.toArray) (hv : VRs X h l vs) : OR X h b (.list l) := ⟨vs, hp.isList, hp, hv⟩
theorem okf_append {b : Addr} {l : List AV} {V : AV} {v : Value} (hb : σ b = some (.list l)) (hv : VR X s.heap V v) (hz : l.length ≤ 100000) (x : Okf X A φ σ s) {Q : Value → Shared → Prop} {E : Value → Shared → Prop}
    (h : ∀ s', Okf X A φ (σ.set b (.list (l ++ [V]))) s' → Kept X s.heap s'.heap → Q .none s') : wpAny (model X.prog X.w) A (call (.builtin "list.append") [.ref b, v]) Q E s := by
  obtain ⟨vs, _, hp, hvs⟩ := x.sto hb
  refine wpAny_list_append_plain hp (fun h' hp' hs => ?_) (by rw [List.size_toArray, hvs.length, sizeLine_eq]; omega)
  have k := kept_same (x.sto hb) hs
  have y := x.upd (tk := s.toks) hb hs (show OR X h' b (.list (l ++ [V])) from OR.list (vs := vs ++ [v]) (by simpa using hp') ((VRs.mono k _ _ hvs).snoc (VR.mono k _ _ hv)))
  exact h _ y.1 y.2

/-- the tests of a comprehension -/
noncomputable def ETs (X : Cx) (A : Around) (env : Env) (ρ : List (Str × AV)) (ifs : List Expr) (σ : Store) (Q : Bool → Store → Prop) (E : Store → Value → Shared → Prop) : Prop :=
  XE (@ER Bool) X A env ρ (forIn ifs true fun c r => if r = true then do let ok ← isTrue c env (eval c env); pure (ForInStep.yield ok) else pure (ForInStep.yield r)) σ Q E
theorem ETs_nil {Q : Bool → Store → Prop} (h : Q true σ) : ETs X A env ρ [] σ Q E := fun φ s x => wpAny_tests_nil ⟨true, σ, rfl, x, .refl _, h⟩
theorem ETs_one {c : Expr} {Q : Bool → Store → Prop} (h : EB X A env ρ c σ Q E) : ETs X A env ρ [c] σ Q E := fun φ s x => wpAny_tests_one (h φ s x)

noncomputable def CompTurn (X : Cx) (A : Around) (cenv : Env) (x : Str) (ifs : List Expr) (elt : Expr) (l : List AV) (Inv : Nat → List AV → Store → Prop) : Prop :=
  ∀ i acc σ' V, l[i]? = some V → Inv i acc σ' → σ' cenv.locals = none →
    ETs X A cenv [(x, V)] ifs σ' (fun b σ₂ => if b = true then EV X A cenv [(x, V)] elt σ₂ (fun U σ₃ => Inv (i + 1) (acc ++ [U]) σ₃) (EXF X A cenv NeverF) else Inv (i + 1) acc σ₂) (EXF X A cenv NeverF)

/-- the loop of a comprehension, the accumulator at D -/
theorem comp_loop {elt iter : Expr} {x : Str} {px : Pos} {ifs : List Expr} {scope : Scope} {pos : Pos} {it : Value} {St : Nat → Store → Prop} {Mid : Nat → Value → Store → Prop} {need : Store → Prop} {hn : Heap → Prop} {l : List AV}
    {cenv : Env} {D : Addr} {h₀ : Heap} {R : Result → Shared → Prop} (Inv : Nat → List AV → Store → Prop) (itr : Itr X A it St Mid need hn l) (hmid : ∀ i v ψ, Mid i v ψ → St i ψ)
    (hx : cenv.kindOf x = some .local) (hk : cenv.scope.kind = .function) (hlen : l.length ≤ 100000) (hneed : ∀ i acc σ', Inv i acc σ' → need σ') (hturn : CompTurn X A cenv x ifs elt l Inv)
    (hφD : φ D = none)
    (hend : ∀ acc σ' ρ' s', Inv l.length acc σ' → Fst X A cenv ρ' ((Store.one D (.list acc)).join φ) σ' s' → Kept X h₀ s'.heap → R (.ok .next) s')
    {σ ψ : Store} {s : Shared} (hst : St 0 ψ) (hhn : hn s.heap) (h0 : Inv 0 [] σ) (dψ : Apart ψ ((Store.one D (.list [])).join φ)) (F : Fst X A cenv [] (ψ.join ((Store.one D (.list [])).join φ)) σ s)
    (fr : FrOk A ((Store.one cenv.locals (.ns [])).join φ)) (hφC : φ cenv.locals = none) (hCD : D ≠ cenv.locals) (k₀ : Kept X h₀ s.heap) :
    codeAny (model X.prog X.w) A (.compLoop (.ListComp elt [⟨.Name x px, iter, ifs, 0⟩] scope pos) 0 it (.ref D) cenv) R s := by
  refine codeAny_compLoop_tests (fun n s' => ∃ i acc σ' ψ' ρ', n = l.length + 1 - i ∧ i ≤ l.length ∧ acc.length ≤ i ∧ (ρ' = [] ∨ ∃ W, ρ' = [(x, W)]) ∧ St i ψ' ∧ hn s'.heap ∧ Inv i acc σ' ∧ Apart ψ' ((Store.one D (.list acc)).join φ) ∧
    Fst X A cenv ρ' (ψ'.join ((Store.one D (.list acc)).join φ)) σ' s' ∧ Kept X h₀ s'.heap) ?_ (l.length + 1) ⟨0, [], σ, ψ, [], by omega, by omega, by simp, .inl rfl, hst, hhn, h0, dψ, F, k₀⟩
  intro n s' z0
  refine ex5 z0 fun i acc σ' ψ' ρ' z1 => ?_
  refine an10 z1 fun e_1 hi hacc hρ hst' hhn' hI dψ' F' k' => ?_
  clear z1 z0
  subst e_1
  have aD : ∀ acc, Apart (Store.one D (.list acc)) φ := fun acc => apart_one_of' hφD
  have frD : ∀ acc ρ, FrOk A ((Store.one cenv.locals (.ns ρ)).join ((Store.one D (.list acc)).join φ)) := fun acc ρ => by
    have : Apart (Store.one D (.list acc)) (Store.one cenv.locals (.ns ρ)) := apart_one (by unfold Store.one; exact if_neg (Ne.symm hCD))
    rw [← join_swap this]
    exact fr.names.under (this.join (aD acc))
  obtain ⟨F₁, a₁⟩ := F'.in dψ' (frD acc [])
  by_cases hlt : i < l.length
  · obtain ⟨V, hV⟩ : ∃ V, l[i]? = some V := ⟨l[i], by simp [hlt]⟩
    refine itr.item hV hst' (hneed _ _ _ hI) hhn' a₁ F₁.okf fun v s₂ ψ₂ hv hm a₂ x₂ k₂ => ?_
    have F₂ := Fst.of_okf (ρ := ρ') F₁.off.1 x₂
    refine wpAny_assign_Name (wpAny_mono ((store_local (E := fun _ _ _ => False) (V := V) (Q := fun ρ₂ σ₂ => ρ₂ = put x V ρ' ∧ σ₂ = σ'.join ψ₂) hk hx ⟨rfl, rfl⟩) _ _ v hv F₂) (fun _ s₃ ⟨ρ₃, σ₃, F₃, k₃, h₃⟩ => ?_) fun _ _ e => e.elim)
    obtain ⟨rfl, rfl⟩ := h₃
    have hput : put x V ρ' = [(x, V)] := by
      rcases hρ with rfl | ⟨W, rfl⟩
      · rfl
      · show (if x = x then _ else _) = _
        rw [if_pos rfl]
    rw [hput] at F₃
    obtain ⟨F₄, a₄⟩ := F₃.out a₂
    refine wpAny_mono (XE.use (hturn i acc σ' V hV hI F₄.off.2) F₄ fun a b σ₅ s₅ hb F₅ k₅ h₅ => ?_) (fun _ _ q => q) fun e s' h => (EXF.never h).elim
    rw [show a = b from hb]
    have hhn5 : hn s₅.heap := itr.keeps ((k₂.trans k₃).trans k₅) hhn'
    have k5 : Kept X h₀ s₅.heap := k'.trans ((k₂.trans k₃).trans k₅)
    have hst2 : St (i + 1) ψ₂ := hmid _ _ _ hm
    cases b with
    | false =>
      rw [if_neg (by simp)] at h₅ ⊢
      exact ⟨l.length + 1 - (i + 1), by omega, i + 1, acc, σ₅, ψ₂, _, rfl, hlt, by omega, .inr ⟨V, rfl⟩, hst2, hhn5, h₅, a₄, F₅, k5⟩
    | true =>
      rw [if_pos rfl] at h₅ ⊢
      refine wpAny_mono (XE.use h₅ F₅ fun u U σ₆ s₆ hu F₆ k₆ h₆ => ?_) (fun _ _ q => q) fun e s' h => (EXF.never h).elim
      have hDψ : Apart (Store.one D (.list acc)) ψ₂ := a₄.left.swap
      rw [join_swap a₄.left] at F₆
      have hψC : ψ₂ cenv.locals = none := (join_none F₄.off.1).1
      have fr2 : FrOk A ((Store.one cenv.locals (.ns [(x, V)])).join (ψ₂.join φ)) := by
        rw [← join_swap (apart_one hψC)]
        exact fr.names.under ((apart_one hψC).join a₄.right)
      obtain ⟨F₇, a₇⟩ := F₆.in (hDψ.join (aD acc)) fr2
      have hσD : σ₆ D = none := by cases q : σ₆ D with
        | none => rfl
        | some p => have := a₇ D p q; rw [one_self] at this; cases this
      refine okf_append (b := D) (l := acc) (V := U) (join_right a₇ (one_self ..)) hu (by omega) F₇.okf fun s₇ x₇ k₇ => ?_
      rw [join_one hσD, set_set, ← join_one hσD] at x₇
      obtain ⟨F₈, a₈⟩ := (Fst.of_okf (ρ := [(x, V)]) F₇.off.1 x₇).out (apart_one hσD)
      have hD2 : Apart (Store.one D (.list (acc ++ [U]))) ψ₂ := a₈.left
      rw [join_swap hD2] at F₈
      exact ⟨l.length + 1 - (i + 1), by omega, i + 1, acc ++ [U], σ₆, ψ₂, _, rfl, hlt, by simp; omega, .inr ⟨V, rfl⟩, hst2, itr.keeps (k₆.trans k₇) hhn5, h₆, hD2.swap.join a₄.right, F₈, k5.trans (k₆.trans k₇)⟩
  · have hie : i = l.length := by omega
    subst hie
    refine itr.done rfl hst' (hneed _ _ _ hI) hhn' a₁ F₁.okf fun s₂ x₂ k₂ => ?_
    exact hend acc σ' ρ' s₂ hI (Fst.of_okf F₁.off.1 x₂) (k'.trans k₂)

theorem comp_block {elt iter : Expr} {x : Str} {px : Pos} {ifs : List Expr} {scope : Scope} {cl : List (Str × Addr)} {pos : Pos} {it : Value} {St : Nat → Store → Prop} {Mid : Nat → Value → Store → Prop} {need : Store → Prop} {hn : Heap → Prop} {l : List AV}
    {RR : Value → Addr → Result → Shared → Prop} {E : Value → Shared → Prop} (Inv : Nat → List AV → Store → Prop) (itr : Itr X A it St Mid need hn l) (hmid : ∀ i v ψ, Mid i v ψ → St i ψ)
    (hcell : ∀ y ∈ scope.names, y.2 ≠ .cell) (hkind : scope.kind = .function) (hx : scope.names.lookup x = some .local) (hlen : l.length ≤ 100000) (hneed : ∀ i acc σ', Inv i acc σ' → need σ')
    (hturn : ∀ C, CompTurn X A (compEnvC scope cl C env) x ifs elt l Inv) (hst : St 0 ψ) (hhn : hn s.heap) (h0 : Inv 0 [] σ) (d : Apart σ ψ) (y : Okf X A φ (σ.join ψ) s)
    (hRR : ∀ D C acc σ' ρ' s', φ D = none → φ C = none → D ≠ C → ¬ X.own C → Inv l.length acc σ' → Okf X A ((Store.one C (.ns ρ')).join ((Store.one D (.list acc)).join φ)) σ' s' → Kept X s.heap s'.heap → RR (.ref D) C (.ok .next) s') :
    wpAny (model X.prog X.w) A (newList []) (fun acc s₃ => wpAny (model X.prog X.w) A (newFunctionEnv scope env.globals cl [] env.qual none .none (some env)) (fun cenv s₄ =>
      codeAny (model X.prog X.w) A (.compStart (.ListComp elt [⟨.Name x px, iter, ifs, 0⟩] scope pos) 0 it acc { cenv with scope := relabel scope env }) (RR acc cenv.locals) s₄) E s₃) E s := by
  refine wpAny_newList (wpAny_newFunctionEnv hcell (by intro y hy; simp at hy) (fun h₁ hns₁ hsb₁ => ?_) hkind)
  dsimp only at hns₁ hsb₁ ⊢
  have hf := y.free2 (Nat.le_refl _)
  have y₁ := y.alloc (tk := s.toks) (o := .list []) push_keeps (Nat.le_refl _)
    (show OR X (s.heap.push { cls := .type "list", data := .seq ([] : List Value).toArray }) s.heap.objs.size (.list []) from ⟨[], ⟨_, Heap.get?_push_size _ rfl, rfl, _, rfl⟩, ⟨_, Heap.get?_push_size _ rfl⟩, .nil⟩)
  generalize hH2 : s.heap.push { cls := .type "list", dict := none, data := .seq ([] : List Value).toArray } = H2 at hns₁ hsb₁ y₁ ⊢
  have hC : H2.objs.size = s.heap.objs.size + 1 := by rw [← hH2, Heap.size_push]
  have hDC : s.heap.objs.size ≠ H2.objs.size := by rw [hC]; exact Nat.ne_of_lt (Nat.lt_succ_self _)
  have keep : ∀ b o, H2.get? b = some o → h₁.get? b = some o := fun b o e => hsb₁.extBut b o (Nat.ne_of_lt (Heap.lt_size e)) (Heap.get?_push_of_some _ e)
  have hf₁ := y₁.free2 (a := H2.objs.size) (Nat.le_refl _)
  have y₂ := y₁.alloc (tk := s.toks + ([] : List (Str × Value)).length) (a := H2.objs.size) (o := .ns []) keep (Nat.le_refl _) ⟨_, hns₁, fun _ => trivial⟩
  have kk : Kept X s.heap h₁ := (Kept.of_keeps (h' := H2) (by rw [← hH2]; exact push_keeps)).trans (Kept.of_keeps keep)
  rw [← join_one hf₁.1] at y₂
  have F : Fst X A (compEnvC scope cl H2.objs.size env) [] φ ((σ.join ψ).set s.heap.objs.size (.list [])) { s with heap := h₁, toks := s.toks + ([] : List (Str × Value)).length } :=
    ⟨⟨hf₁.2.1, hf₁.1⟩, y₂.aside (apart_one hf₁.1) (y₂.fr.under (apart_one_of hf₁.2.1))⟩
  rw [← join_one hf.1] at F
  obtain ⟨F₁, a₁⟩ := F.out (apart_one hf.1)
  obtain ⟨F₂, a₂⟩ := F₁.out d
  have loop : codeAny (model X.prog X.w) A (.compLoop (.ListComp elt [⟨.Name x px, iter, ifs, 0⟩] scope pos) 0 it (.ref s.heap.objs.size) (compEnvC scope cl H2.objs.size env)) (RR (.ref s.heap.objs.size) H2.objs.size) { s with heap := h₁, toks := s.toks + ([] : List (Str × Value)).length } :=
    comp_loop (h₀ := s.heap) (cenv := compEnvC scope cl H2.objs.size env) Inv itr hmid (show (relabel scope env).names.lookup x = some .local from lookup_relabel_local hx) (by show (relabel scope env).kind = _; exact hkind) hlen hneed (hturn _) hf.2.1
      (fun acc σ' ρ' s' hI F' k' => hRR _ _ acc σ' ρ' s' hf.2.1 hf₁.2.1 hDC hf₁.2.2 hI F'.okf k') hst (itr.keeps kk hhn) h0 a₂ F₂ (y₂.fr.under (apart_one_of hf₁.2.1)) hf₁.2.1 hDC kk
  exact codeAny_compStart_list loop (itr.self hst d F₁.okf loop)

theorem one_ne {a b : Addr} {o : AO} (h : b ≠ a) : Store.one a o b = none := if_neg h
/-- what a comprehension needs, behind the thing that it walks -/
noncomputable def CompAt (X : Cx) (A : Around) (env : Env) (scope : Scope) (cl : List (Str × Addr)) (x : Str) (ifs : List Expr) (elt : Expr) (V : AV) (σ : Store) (Q : Addr → List AV → Store → Prop) : Prop :=
  ∃ (σ₀ : Store) (l : List AV) (need : Store → Prop) (Inv : Nat → List AV → Store → Prop), Its X A V l true need σ σ₀ ∧ l.length ≤ 100000 ∧ Inv 0 [] σ₀ ∧ (∀ i acc σ', Inv i acc σ' → need σ') ∧ (∀ C, CompTurn X A (compEnvC scope cl C env) x ifs elt l Inv) ∧
    ∀ acc σ' D, Inv l.length acc σ' → σ' D = none → Q D acc σ'
theorem EV_ListComp {elt iter : Expr} {x : Str} {px : Pos} {ifs : List Expr} {scope : Scope} {cl : List (Str × Addr)} {pos : Pos} {Q : AV → Store → Prop} (hclos : closureFor scope env = pure cl) (hcell : ∀ y ∈ scope.names, y.2 ≠ .cell)
    (hkind : scope.kind = .function) (hnames : ∀ y ∈ scope.names, y.2 = .local → scope.names.lookup y.1 = some .local) (hx : scope.names.lookup x = some .local)
    (h : EV X A env ρ iter σ (fun V σ₁ => CompAt X A env scope cl x ifs elt V σ₁ fun D acc σ' => Q (.ref D) (σ'.set D (.list acc))) E)
    (hs : ∀ x, foldedSetIterable iter env x = pure x := by intro _; rfl) : EV X A env ρ (.ListComp elt [⟨.Name x px, iter, ifs, 0⟩] scope pos) σ Q E := fun φ s F => by
  show wpAny _ A (eval (.ListComp elt [⟨.Name x px, iter, ifs, 0⟩] scope pos) env) _ _ s
  rw [eval_ListComp]
  refine wpAny_comprehension_free (use := none) rfl hs hclos hkind hnames (h.use F fun a V σ₁ s₁ ha x₁ k₁ h₁ => ?_)
  refine ex4 h₁ fun σ₀ l need Inv z1 => ?_
  refine an6 z1 fun hIts hlen h0 hneed hturn hend => ?_
  clear z1 h₁
  refine hIts _ s₁ a ha x₁.okf _ _ fun it St Mid hn ψ s₂ itr hmid hst hhn d y k₂ => ?_
  refine comp_block (RR := fun acc C => compPost (model X.prog X.w) A (E φ) none _ acc C) Inv itr (hmid rfl) hcell hkind hx hlen hneed hturn hst hhn h0 d y ?_
  intro D C acc σ' ρ' s' hφD hφC hDC hCo hI x' k'
  obtain ⟨M, hM, _⟩ := (x'.ok.sto C _ (join_right x'.apart (join_left (one_self ..)))).1
  refine ⟨M, hM, fun h' hs' => ?_⟩
  have z := x'.back (A := A) (apart_one_of (none_join (one_ne (Ne.symm hDC)) hφC)) (y.fr.under (apart_one_of hφD))
  have z₂ := z.1.lose (tk := s'.toks) (h' := h') z.2 (fun a o e => by
    unfold Store.one at e
    split at e
    · rename_i q; cases e; rw [q]; exact ⟨hCo, rfl⟩
    · cases e) fun b o e hb => hs'.extBut b o (fun q => by rw [q, one_self] at e; cases e) hb
  have z₃ := z₂.1.back (A := A) (apart_one_of hφD) y.fr
  have hD : σ' D = none := by cases q : σ' D with
    | none => rfl
    | some p => have := z₃.2 D p q; rw [one_self] at this; cases this
  rw [join_one hD] at z₃
  exact ⟨.ref D, _, VR_con _ _, Fst.of_okf x₁.off.1 z₃.1, (k₁.trans k₂).trans (k'.trans z₂.2), hend acc σ' D hI hD⟩
theorem ES_AssignC {elt iter : Expr} {x n : Str} {px pn : Pos} {ifs : List Expr} {scope : Scope} {cl : List (Str × Addr)} {pos spos : Pos} {Q : AF → List (Str × AV) → Store → Prop}
    (hsw : swapsWith (.ListComp elt [⟨.Name x px, iter, ifs, 0⟩] scope pos) (some (.Name n pn)) spos.line env = pure true) (hclos : closureFor scope env = pure cl) (hcell : ∀ y ∈ scope.names, y.2 ≠ .cell)
    (hkind : scope.kind = .function) (hnames : ∀ y ∈ scope.names, y.2 = .local → scope.names.lookup y.1 = some .local) (hx : scope.names.lookup x = some .local)
    (h : EV X A env ρ iter σ (fun V σ₁ => CompAt X A env scope cl x ifs elt V σ₁ fun D acc σ' => OpU X A env ρ (fun v => storeName env n v) (.ref D) (σ'.set D (.list acc)) (fun ρ₂ σ₂ => Q .next ρ₂ σ₂) (fun _ _ _ => False)) E)
    (hs : ∀ x, foldedSetIterable iter env x = pure x := by intro _; rfl) : ES X A env ρ (.Assign [.Name n pn] (.ListComp elt [⟨.Name x px, iter, ifs, 0⟩] scope pos) spos) σ Q E := fun φ s F => by
  show wpAny _ A (exec (.Assign [.Name n pn] (.ListComp elt [⟨.Name x px, iter, ifs, 0⟩] scope pos) spos) env) _ _ s
  rw [exec_Assign_Name_used _ _ _ _ hsw]
  refine wpAny_bind (wpAny_standAt (wpAny_bind ?_))
  show wpAny _ A (do let _ ← comprehension (.ListComp elt [⟨.Name x px, iter, ifs, 0⟩] scope pos) scope env _ (newList []) false (eval iter env) (some (assign (.Name n pn) env))) _ _ s
  refine wpAny_bind (wpAny_mono (wpAny_comprehension_free (use := some (assign (.Name n pn) env)) (Q := fun _ s' => PS X A env φ s.heap Q .next s') rfl hs hclos hkind hnames
    (h.use F fun a V σ₁ s₁ ha x₁ k₁ h₁ => ?_)) (fun _ s' hq => wpAny_pure (wpAny_pure hq)) fun _ _ e => e)
  refine ex4 h₁ fun σ₀ l need Inv z1 => ?_
  refine an6 z1 fun hIts hlen h0 hneed hturn hend => ?_
  clear z1 h₁
  refine hIts _ s₁ a ha x₁.okf _ _ fun it St Mid hn ψ s₂ itr hmid hst hhn d y k₂ => ?_
  refine comp_block (RR := fun acc C => compPost (model X.prog X.w) A (E φ) (some (assign (.Name n pn) env)) (fun _ s' => PS X A env φ s.heap Q .next s') acc C) Inv itr (hmid rfl) hcell hkind hx hlen hneed hturn hst hhn h0 d y ?_
  intro D C acc σ' ρ' s' hφD hφC hDC hCo hI x' k'
  show wpAny _ A (assign (.Name n pn) env (.ref D)) _ _ _
  have hDC1 : Apart (Store.one C (.ns ρ')) (Store.one D (.list acc)) := apart_one (one_ne hDC)
  have hL : env.locals ≠ C := fun q => by
    have := (join_none hφC).1
    rw [q, one_self] at this; cases this
  have hCL : Apart (Store.one C (.ns ρ')) (Store.one env.locals (.ns ρ)) := apart_one (one_ne hL)
  have frC : FrOk A ((Store.one C (.ns ρ')).join ((Store.one env.locals (.ns ρ)).join φ)) := y.fr.under (apart_one_of hφC)
  rw [join_swap hDC1] at x'
  have z := x'.back (A := A) (apart_one_of (none_join (one_ne hDC) hφD)) frC
  have hD : σ' D = none := by cases q : σ' D with
    | none => rfl
    | some p => have := z.2 D p q; rw [one_self] at this; cases this
  rw [join_one hD, join_swap hCL] at z
  have G : Fst X A env ρ ((Store.one C (.ns ρ')).join φ) (σ'.set D (.list acc)) s' := Fst.of_okf (none_join (one_ne hL) x₁.off.1) z.1
  refine assign_Name (wpAny_mono (hend acc σ' D hI hD _ s' (.ref D) (VR_con _ _) G) (fun _ s₄ ⟨ρ₂, σ₂, G₂, k₄, h₄⟩ => ?_) fun _ _ e => e.elim)
  obtain ⟨G₃, d₃⟩ := G₂.in (ρ₀ := ρ) (apart_one_of (join_none hφC).2) y.fr
  obtain ⟨M, hM, _⟩ := G₃.sto (join_right d₃ (one_self ..))
  refine ⟨M, hM, fun h' hs' => ?_⟩
  have z₂ := G₃.okf.lose (tk := s₄.toks) (h' := h') d₃ (fun a o e => by
    unfold Store.one at e
    split at e
    · rename_i q; cases e; rw [q]; exact ⟨hCo, rfl⟩
    · cases e) fun b o e hb => hs'.extBut b o (fun q => by rw [q, one_self] at e; cases e) hb
  exact ⟨.next, ρ₂, σ₂, rfl, Fst.of_okf x₁.off.1 z₂.1, (k₁.trans k₂).trans (k'.trans (k₄.trans z₂.2)), h₄⟩
end
end Mine
end
section
set_option Elab.async false
set_option maxRecDepth 100000
set_option linter.unusedVariables false
open PySem PySem.W PySem.Calls PyProof.Rows
namespace Mine
section
variable {X : Cx} {A : Around} {env : Env} {ρ ρ₀ : List (Str × AV)} {σ τ φ ψ : Store} {E : Store → Value → Shared → Prop} {Es : Store → Prop} {Er : List (Str × AV) → Store → Prop} {s : Shared}

theorem Ok.slots {S : List Addr} {h' : Heap} (x : Ok X τ s) (hS : ∀ b ∈ S, ∃ ρ, τ b = some (.ns ρ)) (hs : Heap.SlotsOnly S s.heap h') : Ok X τ { s with heap := h' } ∧ Kept X s.heap h' := by
  have kk : Kept X s.heap h' := fun a items t => by
    by_cases q : a ∈ S
    · obtain ⟨ρ, hρ⟩ := hS a q
      exact ((x.sto a _ hρ).1.there.choose_spec.2 ⟨items, t⟩).elim
    · obtain ⟨⟨o, ho, r⟩, n⟩ := t
      exact ⟨⟨o, (hs.2.1 a q).trans ho, r⟩, n⟩
  refine ⟨⟨fun b o e => ?_, x.gens, x.drawn, x.os, fun a o e => ?_, fun a e => ?_⟩, kk⟩
  · by_cases q : b ∈ S
    · obtain ⟨ρ, hρ⟩ := hS b q
      rw [(x.sto b _ hρ).2] at e; cases e
    · exact (hs.2.1 b q).trans (x.keep b o e)
  · obtain ⟨h1, h2⟩ := x.sto a o e
    refine ⟨?_, h2⟩
    by_cases q : a ∈ S
    · obtain ⟨ρ, hρ⟩ := hS a q
      rw [hρ] at e; cases e
      obtain ⟨M, ⟨ob, es, ep, ho, r⟩, hm⟩ := h1
      obtain ⟨sl, ho'⟩ := hs.2.2 a ob ho
      exact ⟨M, ⟨_, es, ep, ho', r⟩, fun y => (hm y).mono kk⟩
    · exact h1.move kk fun o' ho' => (hs.2.1 a q).trans ho'
  · obtain ⟨o, ho⟩ := x.own a e
    obtain ⟨sl, ho'⟩ := hs.2.2 a o ho
    exact ⟨_, ho'⟩
/-- a record that nobody tells of, turned -/
theorem Ok.rec_upd {a : Addr} {oe : Obj} {vs : Array Value} {h' : Heap} {tk : Nat} (x : Ok X τ s) (hτ : τ a = none) (h0 : X.h₀.get? a = none) (ho : s.heap.get? a = some oe) (hd : oe.data = .fields vs)
    (k : ∀ b, b ≠ a → h'.get? b = s.heap.get? b) (ha : ∃ o', h'.get? a = some o') : Ok X τ { s with heap := h', toks := tk } ∧ Kept X s.heap h' := by
  have kk : Kept X s.heap h' := fun b items t => by
    obtain ⟨⟨o, ho', hc, n, hd'⟩, hn⟩ := t
    by_cases q : b = a
    · subst q; rw [ho] at ho'; cases ho'; rw [hd] at hd'; cases hd'
    · exact ⟨⟨o, (k b q).trans ho', hc, n, hd'⟩, hn⟩
  refine ⟨⟨fun b o e => (k b fun q => by rw [q, h0] at e; cases e).trans (x.keep b o e), x.gens, x.drawn, x.os, fun b o e => ?_, fun b e => ?_⟩, kk⟩
  · have hne : b ≠ a := fun q => by rw [q, hτ] at e; cases e
    exact ⟨(x.sto b o e).1.move kk fun o' e' => (k b hne).trans e', (x.sto b o e).2⟩
  · by_cases q : b = a
    · rw [q]; exact ha
    · exact (x.own b e).imp fun o e' => (k b q).trans e'
noncomputable def FrAll (l : List Env) (τ : Store) : Prop := ∀ e ∈ l, e.scope.kind = .function ∧ ∃ L ρ, e.frame = some L ∧ τ L = some (.ns ρ)
theorem FrAll.fun (x : Ok X τ s) : ∀ {l : List Env}, FrAll l τ → s.heap.FunFrames X.h₀ l
  | [], _ => trivial
  | e :: r, f => by
    obtain ⟨hk, L, ρ, hf, hp⟩ := f e (.head _)
    obtain ⟨⟨M, ⟨o, es, ep, ho, hd, _⟩, _⟩, h0⟩ := x.sto L _ hp
    exact ⟨by rw [hk]; decide, ⟨L, o, hf, h0, ho, fun vs q => by rw [hd] at q; cases q⟩, FrAll.fun x fun e' h' => f e' (.tail _ h')⟩
/-- in flight, noted in the frame L -/
noncomputable def FltAt (X : Cx) (ψ : Store) (fl : Value) (a : Addr) (h : Heap) : Prop :=
  ∃ oe vs T oT ts, h.get? a = some oe ∧ oe.cls = X.exc ∧ oe.data = .fields vs ∧ X.h₀.get? a = none ∧ ψ a = none ∧
    vs[1]? = some (.ref T) ∧ T ≠ a ∧ h.get? T = some oT ∧ oT.data = .fields ts ∧ ts[3]? = some fl ∧ X.h₀.get? T = none ∧ ψ T = none
theorem FltAt.flt {a L : Addr} {h : Heap} (x : FltAt X τ (rawInt L) a h) : Flt X τ (some L) a h := by
  refine ex5 x fun oe vs T oT ts z1 => ?_
  refine an12 z1 fun h1 h2 h3 h4 h5 h6 h7 h8 h9 h10 h11 h12 => ?_
  clear z1 x
  exact ⟨oe, vs, h1, h2, h3, h4, h5, .inr ⟨T, oT, ts, _, h6, h7, h8, h9, h10, .inr ⟨L, rfl, rfl⟩, h11, h12⟩⟩
theorem FltAt.flt0 {a : Addr} {cur : Option Addr} {h : Heap} (x : FltAt X τ .none a h) : Flt X τ cur a h := by
  refine ex5 x fun oe vs T oT ts z1 => ?_
  refine an12 z1 fun h1 h2 h3 h4 h5 h6 h7 h8 h9 h10 h11 h12 => ?_
  clear z1 x
  exact ⟨oe, vs, h1, h2, h3, h4, h5, .inr ⟨T, oT, ts, _, h6, h7, h8, h9, h10, .inl rfl, h11, h12⟩⟩
theorem Flt.le {a : Addr} {cur : Option Addr} {h : Heap} (x : Flt X τ cur a h) (l : σ.le τ) : Flt X σ cur a h := by
  obtain ⟨oe, vs, h1, h2, h3, h4, h5, h6⟩ := x
  refine ⟨oe, vs, h1, h2, h3, h4, le_none l h5, ?_⟩
  rcases h6 with h6 | ⟨T, oT, ts, fl, a1, a2, a3, a4, a5, a6, a7, a8⟩
  · exact .inl h6
  · exact .inr ⟨T, oT, ts, fl, a1, a2, a3, a4, a5, a6, a7, le_none l a8⟩
section
variable {M : Model} {E : Value → Shared → Prop}
theorem entry_ok {outer : List Env} {L e : Addr} {oe : Obj} {vs : Array Value} {head : Value} {hadNext : Bool} {Q : Unit → Shared → Prop} (x : Ok X τ s) (hfr : A.frames = some (env :: outer)) (hl : FrAll (env :: outer) τ) (hf : env.frame = some L)
    (he : s.heap.get? e = some oe) (hc : oe.cls = X.exc) (hd : oe.data = .fields vs) (hsz : 1 < vs.size) (h0 : X.h₀.get? e = none) (hτ : τ e = none)
    (h : ∀ s', Ok X τ s' → Kept X s.heap s'.heap → FltAt X τ (rawInt L) e s'.heap → Q () s') :
    wpAny M A (do let a ← frameOf env; let pl ← entryPlaceOf L hadNext; let b ← EntryCells.newEntry head a .none (rawInt L) .none pl; setField (.ref e) 1 b) Q E s := by
  refine wpAny_bind (wpAny_frameOf_fun hfr (FrAll.fun x hl) hf fun h₁ hs₁ => ?_)
  have hS : ∀ b ∈ (env :: outer).filterMap (·.frame), ∃ ρ, τ b = some (.ns ρ) := fun b hb => by
    obtain ⟨e', he', hf'⟩ := List.mem_filterMap.mp hb
    obtain ⟨_, L', ρ, hf2, hp⟩ := hl e' he'
    rw [hf'] at hf2; cases hf2; exact ⟨ρ, hp⟩
  obtain ⟨x₁, k₁⟩ := x.slots hS hs₁
  refine wpAny_bind (wpAny_entryPlaceOf fun pl hpl => ?_)
  unfold EntryCells.newEntry newFields
  refine wpAny_bind (wpAny_newObj_type ?_ (hpl.sizeOk5 _ _ _ _ _))
  have hes : e ∉ (env :: outer).filterMap (·.frame) := fun hm => by obtain ⟨ρ, hp⟩ := hS e hm; rw [hτ] at hp; cases hp
  have he₁ : h₁.get? e = some oe := (hs₁.2.1 e hes).trans he
  generalize hnT : ({ cls := .type "traceback", dict := none, data := .fields ([head, .ref L, .none, rawInt L, .none] ++ (if pl.isEmpty then List.replicate 6 Value.none else pl)).toArray } : Obj) = nT
  have hnTd : nT.data = .fields ([head, .ref L, .none, rawInt L, .none] ++ (if pl.isEmpty then List.replicate 6 Value.none else pl)).toArray := by rw [← hnT]
  have hTfree : h₁.get? h₁.objs.size = none := fresh_of (Nat.le_refl _)
  have hT0 : X.h₀.get? h₁.objs.size = none := by cases q : X.h₀.get? h₁.objs.size with
    | none => rfl
    | some o => have := x₁.keep _ o q; rw [hTfree] at this; cases this
  have hTτ : τ h₁.objs.size = none := by cases q : τ h₁.objs.size with
    | none => rfl
    | some o => exact absurd (x₁.below _ o q) (Nat.lt_irrefl _)
  have hTnew : (h₁.push nT).get? h₁.objs.size = some nT := Heap.get?_push_size _ (by rw [← hnT]; rfl)
  have x₂ := x₁.grow (tk := s.toks) (h' := h₁.push nT) push_keeps
  have he₂ : (h₁.push nT).get? e = some oe := push_keeps _ _ he₁
  have hTe : h₁.objs.size ≠ e := Nat.ne_of_gt (Heap.lt_size he₁)
  have hd₃ := Obj.data_mapFields hd (·.setIfInBounds 1 (Value.ref h₁.objs.size))
  have he₃ := Heap.get?_update_self (Obj.mapFields (·.setIfInBounds 1 (Value.ref h₁.objs.size))) he₂ (Obj.isFreed_of_fields hd₃)
  have other : ∀ b, b ≠ e → ((h₁.push nT).update e (Obj.mapFields (·.setIfInBounds 1 (Value.ref h₁.objs.size)))).get? b = (h₁.push nT).get? b := fun b hb => Heap.get?_update_other _ _ (Ne.symm hb)
  obtain ⟨x₃, k₃⟩ := x₂.rec_upd (tk := s.toks) hτ h0 he₂ hd other ⟨_, he₃⟩
  refine wpAny_setField he₂ hd hsz (h _ x₃ (k₁.trans ((Kept.of_keeps push_keeps).trans k₃)) ⟨_, _, h₁.objs.size, nT, _, he₃, (Obj.cls_mapFields _ _).trans hc, hd₃, h0, hτ, by simp [hsz], hTe, (other _ hTe).trans hTnew, hnTd, ?_, hT0, hTτ⟩)
  rcases hpl with rfl | ⟨_, _, _, _, _, _, _, rfl⟩ <;> simp
theorem note_ok {outer : List Env} {L a : Addr} {Q : Unit → Shared → Prop} (x : Ok X τ s) (hfr : A.frames = some (env :: outer)) (hl : FrAll (env :: outer) τ) (hf : env.frame = some L) (fl : Flt X τ (some L) a s.heap)
    (h : ∀ s', Ok X τ s' → Kept X s.heap s'.heap → FltAt X τ (rawInt L) a s'.heap → Q () s') : wpAny M A (noteFrame (.ref a) env) Q E s := by
  obtain ⟨oe, vs, he, hc, hd, h0, hτ, hv⟩ := fl
  unfold noteFrame
  simp only [hf]
  rcases hv with hv | ⟨T, oT, ts, f, hv, hTa, hT, hdT, h3, hfl, hT0, hTτ⟩
  · refine wpAny_bind (wpAny_field he hd hv ?_)
    rw [if_neg (by decide)]
    exact entry_ok x hfr hl hf he hc hd (Array.getElem?_eq_some_iff.mp hv).1 h0 hτ h
  · refine wpAny_bind (wpAny_field he hd hv ?_)
    rw [if_pos (show (Value.ref T != Value.none) = true from by simp)]
    refine wpAny_bind (wpAny_field hT hdT h3 ?_)
    rcases hfl with rfl | ⟨L', hL', rfl⟩
    · rw [if_neg (show ¬ ((Value.none == rawInt L) = true) from by simp [rawInt])]
      have hd₃ := Obj.data_mapFields hdT (·.setIfInBounds 3 Value.none)
      have hT₃ := Heap.get?_update_self (Obj.mapFields (·.setIfInBounds 3 Value.none)) hT (Obj.isFreed_of_fields hd₃)
      have other : ∀ b, b ≠ T → (s.heap.update T (Obj.mapFields (·.setIfInBounds 3 Value.none))).get? b = s.heap.get? b := fun b hb => Heap.get?_update_other _ _ (Ne.symm hb)
      obtain ⟨x₃, k₃⟩ := x.rec_upd (tk := s.toks) hTτ hT0 hT hdT other ⟨_, hT₃⟩
      refine wpAny_bind (wpAny_setField hT hdT (Array.getElem?_eq_some_iff.mp h3).1 ?_)
      exact entry_ok x₃ hfr hl hf ((other _ (Ne.symm hTa)).trans he) hc hd (Array.getElem?_eq_some_iff.mp hv).1 h0 hτ fun s' y k f => h s' y (k₃.trans k) f
    · cases hL'
      rw [if_pos (show (rawInt L == rawInt L) = true from by simp)]
      exact wpAny_pure (h s x (.refl _) ⟨oe, vs, T, oT, ts, he, hc, hd, h0, hτ, hv, hTa, hT, hdT, h3, hT0, hTτ⟩)
theorem setFlight_ok {f : Option Addr} {fl : Value} {a : Addr} {Q : Unit → Shared → Prop} (x : Ok X τ s) (t : FltAt X τ fl a s.heap)
    (h : ∀ s', Ok X τ s' → Kept X s.heap s'.heap → FltAt X τ (f.elim .none fun f => rawInt f) a s'.heap → Q () s') : wpAny M A (setFlight (.ref a) f) Q E s := by
  refine ex5 t fun oe vs T oT ts z1 => ?_
  refine an12 z1 fun he hc hd h0 hτ hv hTa hT hdT h3 hT0 hTτ => ?_
  clear z1 t
  unfold setFlight
  refine wpAny_bind (wpAny_field he hd hv ?_)
  rw [if_pos (show (Value.ref T != Value.none) = true from by simp)]
  have hsz : 3 < ts.size := (Array.getElem?_eq_some_iff.mp h3).1
  have hd₃ := Obj.data_mapFields hdT (·.setIfInBounds 3 (f.elim Value.none fun f => rawInt f))
  have hT₃ := Heap.get?_update_self (Obj.mapFields (·.setIfInBounds 3 (f.elim Value.none fun f => rawInt f))) hT (Obj.isFreed_of_fields hd₃)
  have other : ∀ b, b ≠ T → (s.heap.update T (Obj.mapFields (·.setIfInBounds 3 (f.elim Value.none fun f => rawInt f)))).get? b = s.heap.get? b := fun b hb => Heap.get?_update_other _ _ (Ne.symm hb)
  obtain ⟨x₃, k₃⟩ := x.rec_upd (tk := s.toks) hTτ hT0 hT hdT other ⟨_, hT₃⟩
  exact wpAny_setField hT hdT hsz (h _ x₃ k₃ ⟨oe, vs, T, _, _, (other _ (Ne.symm hTa)).trans he, hc, hd, h0, hτ, hv, hTa, hT₃, hd₃, by simp [hsz], hT0, hTτ⟩)
end

theorem WC.lower {f : Value} {Vs : List AV} {Q : AV → Store → Prop} (h : WC X A f Vs σ (fun V σ₁ => ∃ σ₂, σ₂.le σ₁ ∧ Q V σ₂) Es) : WC X A f Vs σ Q Es := fun φ s vs x hv =>
  wpAny_mono (h φ s vs x hv) (fun v s' ⟨V, σ', r, y, k, σ₂, l, q⟩ => ⟨V, σ₂, r, y.drop l, k, q⟩) fun _ _ e => e

/-! exceptions in a frame -/
/-- the frame that runs -/
structure Here (A : Around) (env : Env) : Prop where
  frames : ∃ outer, A.frames = some (env :: outer)
  frame : env.frame = some env.locals
noncomputable def EXN (X : Cx) (A : Around) (env : Env) (fl : Value) (Er : List (Str × AV) → Store → Prop) : Store → Value → Shared → Prop :=
  fun φ e s' => ∃ a ρ' σ', e = .ref a ∧ Fst X A env ρ' φ σ' s' ∧ FltAt X (σ'.join ((Store.one env.locals (.ns ρ')).join φ)) fl a s'.heap ∧ Er ρ' σ'
theorem Fst.again {s' : Shared} (x : Fst X A env ρ φ σ s) (y : Ok X (σ.join ((Store.one env.locals (.ns ρ)).join φ)) s') : Fst X A env ρ φ σ s' := ⟨x.off, ⟨x.okf.apart, y, x.okf.fr⟩⟩
theorem Fst.frAll {outer : List Env} (x : Fst X A env ρ φ σ s) (hfr : A.frames = some (env :: outer)) : FrAll (env :: outer) (σ.join ((Store.one env.locals (.ns ρ)).join φ)) := fun e he => by
  obtain ⟨l, hl, f⟩ := x.okf.fr
  rw [hfr] at hl; cases hl
  obtain ⟨hk, L, ρ', hf, hp⟩ := f e he
  exact ⟨hk, L, ρ', hf, join_right x.okf.apart hp⟩
theorem EXF.note {M : Model} {E : Value → Shared → Prop} {e : Value} {Q : Unit → Shared → Prop} (hr : Here A env) (h : EXF X A env Er φ e s) (k : ∀ s', EXN X A env (rawInt env.locals) Er φ e s' → Q () s') : wpAny M A (noteFrame e env) Q E s := by
  obtain ⟨a, ρ', σ', rfl, F, fl, q⟩ := h
  obtain ⟨outer, hfr⟩ := hr.frames
  exact note_ok F.okf.ok hfr (F.frAll hfr) hr.frame fl fun s' y kk f => k s' ⟨a, ρ', σ', rfl, F.again y, f, q⟩
theorem EXN.flight {M : Model} {E : Value → Shared → Prop} {e fl : Value} {f : Option Addr} {Q : Unit → Shared → Prop} (h : EXN X A env fl Er φ e s) (k : ∀ s', EXN X A env (f.elim .none fun f => rawInt f) Er φ e s' → Q () s') : wpAny M A (setFlight e f) Q E s := by
  obtain ⟨a, ρ', σ', rfl, F, fl, q⟩ := h
  exact setFlight_ok F.okf.ok fl fun s' y kk f => k s' ⟨a, ρ', σ', rfl, F.again y, f, q⟩
theorem EXN.exf {e : Value} (h : EXN X A env (rawInt env.locals) Er φ e s) : EXF X A env Er φ e s := by
  obtain ⟨a, ρ', σ', rfl, F, fl, q⟩ := h
  exact ⟨a, ρ', σ', rfl, F, fl.flt, q⟩
theorem EXN.land {M : Model} {E : Value → Shared → Prop} {e fl : Value} (hr : Here A env) (h : EXN X A env fl Er φ e s) (k : ∀ s', EXF X A env Er φ e s' → E e s') : cameBackBy M A env E e s := by
  unfold cameBackBy
  have h' := h
  obtain ⟨a, ρ', σ', rfl, F, ⟨oe, vs, T, oT, ts, he, hc, hd, h0, hτ, hv, _⟩, q⟩ := h
  refine wpAny_bind (wpAny_field he hd hv ?_)
  rw [if_neg (show ¬ ((Value.ref T == Value.none) = true) from Bool.false_ne_true)]
  rw [hr.frame]
  first
    | exact h'.flight fun s' y => k s' y.exf
    | exact wpAny_bind (wpAny_pure (h'.flight fun s' y => k s' y.exf))
theorem le_join {σ ψ : Store} : σ.le (σ.join ψ) := fun a o e => join_left e
theorem EXF.in {e : Value} (d : Apart ψ φ) (f : FrOk A ((Store.one env.locals (.ns ρ₀)).join φ)) (h : EXF X A env Er (ψ.join φ) e s) : EXF X A env Er φ e s := by
  obtain ⟨a, ρ', σ', rfl, F, fl, q⟩ := h
  obtain ⟨G, dσ⟩ := F.in d f
  refine ⟨a, ρ', σ', rfl, G.drop le_join, fl.le fun b o e => ?_, q⟩
  cases q1 : σ' b with
  | some p => rw [join_left q1] at e ⊢; exact e
  | none =>
    unfold Store.join at e ⊢
    rw [q1] at e ⊢
    cases q2 : Store.one env.locals (.ns ρ') b with
    | some p => rw [q2] at e; exact e
    | none =>
      rw [q2] at e
      cases q3 : ψ b with
      | none => exact e
      | some p => rw [d b p q3] at e; cases e

/-! loops -/
noncomputable def GoOk (target : Expr) (plain : Bool) : Prop := (plain = true ∧ ∀ it v, letOwnedTupleGo target it v = pure ()) ∨ ∃ elts k pos, target = .Tuple elts k pos
theorem GoOk.name {n : Str} {p : Pos} : GoOk (.Name n p) true := .inl ⟨rfl, fun _ _ => rfl⟩
theorem GoOk.tup {elts : List Expr} {k : Nat} {p : Pos} {b : Bool} : GoOk (.Tuple elts k p) b := .inr ⟨_, _, _, rfl⟩
noncomputable def ForAt (X : Cx) (A : Around) (env : Env) (target : Expr) (body : List Stmt) (plain : Bool) (ρ : List (Str × AV)) (V : AV) (σ : Store) (Q : AF → List (Str × AV) → Store → Prop) (Er : List (Str × AV) → Store → Prop) : Prop :=
  ∃ (σ₀ : Store) (l : List AV) (need : Store → Prop) (Inv : Nat → List (Str × AV) → Store → Prop), Its X A V l plain need σ σ₀ ∧ Inv 0 ρ σ₀ ∧ (∀ i ρ' σ', Inv i ρ' σ' → need σ') ∧
    (∀ i ρ' σ' V, l[i]? = some V → Inv i ρ' σ' → OpU X A env ρ' (assign target env) V σ' (fun ρ₂ σ₂ => ESs X A env ρ₂ body σ₂ (fun f ρ₃ σ₃ => match f with
      | .next => Inv (i + 1) ρ₃ σ₃
      | .cont => Inv (i + 1) ρ₃ σ₃
      | .brk => Q .next ρ₃ σ₃
      | .ret V => Q (.ret V) ρ₃ σ₃) (EXF X A env Er)) (fun _ _ _ => False)) ∧
    ∀ ρ' σ', Inv l.length ρ' σ' → Q .next ρ' σ'
theorem ES_For {target iter : Expr} {body : List Stmt} {pos : Pos} {plain : Bool} {Q : AF → List (Str × AV) → Store → Prop} (hg : GoOk target plain) (hr : Here A env)
    (h : EV X A env ρ iter σ (fun V σ₁ => ForAt X A env target body plain ρ V σ₁ Q Er) (EXF X A env Er))
    (hs : ∀ x, foldedSetIterable iter env x = pure x := by intro _; rfl) : ES X A env ρ (.For target iter body [] pos) σ Q (EXF X A env Er) := fun φ s F => by
  refine wpAny_For (h.use F fun a V σ₁ s₁ ha x₁ k₁ h₁ => ?_) hs
  refine ex4 h₁ fun σ₀ l need Inv z1 => ?_
  refine an5 z1 fun hIts h0 hneed hturn hend => ?_
  clear z1 h₁
  refine hIts _ s₁ a ha x₁.okf _ _ fun it St Mid hn ψ s₂ itr hmid hst hhn d y k₂ => ?_
  obtain ⟨F₂, d₂⟩ := (Fst.of_okf x₁.off.1 y).out d
  have fr := F.okf.fr
  refine codeAny_forLoop_any (fun n s' => ∃ i ρ' σ' ψ', n = l.length + 1 - i ∧ i ≤ l.length ∧ St i ψ' ∧ hn s'.heap ∧ Inv i ρ' σ' ∧ Apart ψ' φ ∧ Fst X A env ρ' (ψ'.join φ) σ' s' ∧ Kept X s.heap s'.heap) ?_ (l.length + 1)
    ⟨0, ρ, σ₀, ψ, by omega, by omega, hst, hhn, h0, d₂, F₂, k₁.trans k₂⟩
  intro n s' z0
  refine ex4 z0 fun i ρ' σ' ψ' z1 => ?_
  refine an8 z1 fun e_1 hi hst' hhn' hI dψ F' k' => ?_
  clear z1 z0
  subst e_1
  obtain ⟨F₃, a₃⟩ := F'.in dψ fr
  by_cases hlt : i < l.length
  · obtain ⟨V, hV⟩ : ∃ V, l[i]? = some V := ⟨l[i], by simp [hlt]⟩
    refine itr.item hV hst' (hneed _ _ _ hI) hhn' a₃ F₃.okf fun v s₄ ψ₄ hv hm a₄ x₄ k₄ => ?_
    show wpAny _ A (letOwnedTupleGo target it v) _ _ s₄
    have F₄ := Fst.of_okf (ρ := ρ') F₃.off.1 x₄
    have rest : ∀ s₅ ψ₅, St (i + 1) ψ₅ → Apart σ' ψ₅ → Fst X A env ρ' φ (σ'.join ψ₅) s₅ → Kept X s₄.heap s₅.heap →
        wpAny (model X.prog X.w) A (assign target env v) (fun _ s₂ => wpAny (model X.prog X.w) A (execs body env) (fun f s₃ => match f with
            | .next | .cont => ∃ m, m < l.length + 1 - i ∧ ∃ i ρ' σ' ψ', m = l.length + 1 - i ∧ i ≤ l.length ∧ St i ψ' ∧ hn s₃.heap ∧ Inv i ρ' σ' ∧ Apart ψ' φ ∧ Fst X A env ρ' (ψ'.join φ) σ' s₃ ∧ Kept X s.heap s₃.heap
            | .brk => PS X A env φ s.heap Q .next s₃
            | .ret v => PS X A env φ s.heap Q (.ret v) s₃) (notedBy (model X.prog X.w) A env (cameBackBy (model X.prog X.w) A env (EXF X A env Er φ))) s₂) (notedBy (model X.prog X.w) A env (cameBackBy (model X.prog X.w) A env (EXF X A env Er φ))) s₅ := by
      intro s₅ ψ₅ hst₅ a₅ F₅ k₅
      obtain ⟨G₅, d₅⟩ := F₅.out a₅
      refine wpAny_mono (hturn i ρ' σ' V hV hI _ s₅ v (VR.mono k₅ V v hv) G₅) (fun _ s₆ ⟨ρ₆, σ₆, F₆, k₆, h₆⟩ => ?_) fun _ _ e => e.elim
      refine wpAny_mono (XS.use h₆ F₆ fun a f ρ₇ σ₇ s₇ hf F₇ k₇ h₇ => ?_) (fun _ _ q => q) fun e s' h => ?_
      · have kk : Kept X s'.heap s₇.heap := k₄.trans (k₅.trans (k₆.trans k₇))
        have back : Fst X A env ρ₇ φ σ₇ s₇ := (F₇.in d₅ fr).1.drop le_join
        cases f with
        | next => obtain rfl : a = .next := hf; exact ⟨l.length + 1 - (i + 1), by omega, i + 1, ρ₇, σ₇, ψ₅, rfl, hlt, hst₅, itr.keeps kk hhn', h₇, d₅, F₇, k'.trans kk⟩
        | cont => obtain rfl : a = .cont := hf; exact ⟨l.length + 1 - (i + 1), by omega, i + 1, ρ₇, σ₇, ψ₅, rfl, hlt, hst₅, itr.keeps kk hhn', h₇, d₅, F₇, k'.trans kk⟩
        | brk => obtain rfl : a = .brk := hf; exact ⟨.next, ρ₇, σ₇, rfl, back, k'.trans kk, h₇⟩
        | ret V => obtain ⟨v, rfl, hv⟩ := hf; exact ⟨.ret V, ρ₇, σ₇, ⟨v, rfl, hv⟩, back, k'.trans kk, h₇⟩
      · exact (h.in d₅ fr).note hr fun s₈ q => q.land hr fun _ z => z
    rcases hg with ⟨hp, hgo⟩ | ⟨elts, k, tp, rfl⟩
    · rw [hgo it v]
      exact wpAny_pure (rest s₄ ψ₄ (hmid hp _ _ _ hm) a₄ F₄ (.refl _))
    · exact itr.go hm a₄ F₄.okf fun s₅ ψ₅ hst₅ a₅ x₅ k₅ => rest s₅ ψ₅ hst₅ a₅ (Fst.of_okf F₄.off.1 x₅) k₅
  · have hie : i = l.length := by omega
    subst hie
    refine itr.done rfl hst' (hneed _ _ _ hI) hhn' a₃ F₃.okf fun s₂ x₂ k₂ => ?_
    exact wpAny_execs_nil ⟨.next, ρ', σ', rfl, Fst.of_okf F₃.off.1 x₂, k'.trans k₂, hend ρ' σ' hI⟩
end
end Mine
end
section
set_option Elab.async false
set_option maxRecDepth 100000
set_option linter.unusedVariables false
open PySem PySem.W PySem.Calls PyProof.Rows PySem.SeqAt
namespace Mine

/-! deep equality -/
mutual
noncomputable def avEq : AV → AV → Bool
  | .int a, .int b => a == b
  | .str a, .str b => a == b
  | .tup l, .tup m => avEqs l m
  | _, _ => false
noncomputable def avEqs : List AV → List AV → Bool
  | [], [] => true
  | x :: l, y :: m => avEq x y && avEqs l m
  | _, _ => false
end
/-! data of depth n at most -/
mutual
noncomputable def datB : AV → Nat → Bool
  | .int _, _ => true
  | .str _, _ => true
  | .tup l, n + 1 => datBs l n
  | _, _ => false
noncomputable def datBs : List AV → Nat → Bool
  | [], _ => true
  | x :: l, n => datB x n && datBs l n
end
theorem datBs_get {n : Nat} : ∀ {l : List AV} {i : Nat} {V : AV}, datBs l n = true → l[i]? = some V → datB V n = true
  | [], i, V, _, e => by simp at e
  | x :: r, 0, V, h, e => by
    unfold datBs at h
    rw [Bool.and_eq_true] at h
    simp at e; subst e; exact h.1
  | x :: r, i + 1, V, h, e => by
    unfold datBs at h
    rw [Bool.and_eq_true] at h
    exact datBs_get h.2 (by simpa using e)
noncomputable def pairAt (l m : List AV) (j : Nat) : Bool := match l[j]?, m[j]? with
  | some x, some y => avEq x y
  | _, _ => false
theorem avEqs_range : ∀ (l m : List AV), ((List.range (min l.length m.length)).all (pairAt l m) && l.length == m.length) = avEqs l m
  | [], [] => rfl
  | [], y :: m => by simp [avEqs]
  | x :: l, [] => by simp [avEqs]
  | x :: l, y :: m => by
    have e : min (x :: l).length (y :: m).length = min l.length m.length + 1 := by simp
    rw [e, List.range_succ_eq_map, List.all_cons, List.all_map]
    unfold avEqs
    rw [← avEqs_range l m, Bool.and_assoc]
    have e1 : pairAt (x :: l) (y :: m) 0 = avEq x y := rfl
    have e2 : (pairAt (x :: l) (y :: m) ∘ Nat.succ) = pairAt l m := by funext j; rfl
    have e3 : ((x :: l).length == (y :: m).length) = (l.length == m.length) := by
      by_cases q : l.length = m.length <;> simp [q]
    rw [e1, e2, e3]
theorem avEq_same {X : Cx} {h : Heap} : ∀ (V U : AV) (n m : Nat) (v : Value), datB V n = true → datB U m = true → VR X h V v → VR X h U v → avEq V U = true := by
  intro V U n
  induction n using Nat.strongRecOn generalizing V U with
  | ind n ih =>
  intro m v h1 h2 r1 r2
  cases V with
  | con u => cases n <;> simp [datB] at h1
  | int a =>
    obtain ⟨t, e⟩ := r1
    subst e
    cases U with
    | con u => cases m <;> simp [datB] at h2
    | int b => obtain ⟨u, e'⟩ := r2; injection e' with e1; subst e1; simp [avEq]
    | str b => obtain ⟨u, e'⟩ := r2; cases e'
    | tup l => obtain ⟨u, _, e', _⟩ := r2; cases e'
  | str a =>
    obtain ⟨t, e⟩ := r1
    subst e
    cases U with
    | con u => cases m <;> simp [datB] at h2
    | int b => obtain ⟨u, e'⟩ := r2; cases e'
    | str b => obtain ⟨u, e'⟩ := r2; injection e' with e1; subst e1; simp [avEq]
    | tup l => obtain ⟨u, _, e', _⟩ := r2; cases e'
  | tup l =>
    obtain ⟨a, i, e, ht, hv⟩ := r1
    subst e
    cases U with
    | con u => cases m <;> simp [datB] at h2
    | int b => obtain ⟨u, e'⟩ := r2; cases e'
    | str b => obtain ⟨u, e'⟩ := r2; cases e'
    | tup l' =>
      obtain ⟨b, j, e', hu, hw⟩ := r2
      injection e' with e1; subst e1
      obtain ⟨o, ho, _, n1, hd⟩ := ht.1
      obtain ⟨o', ho', _, n2, hd'⟩ := hu.1
      rw [ho] at ho'; cases ho'
      rw [hd] at hd'; injection hd' with e2; subst e2
      cases n with
      | zero => cases h1
      | succ n =>
        cases m with
        | zero => cases h2
        | succ m =>
          show avEqs l l' = true
          have h3 : datBs l n = true := h1
          have h4 : datBs l' m = true := h2
          clear h1 h2 ht hu ho hd
          generalize i.toList = vs at hv hw
          induction l generalizing l' vs with
          | nil =>
            cases l' with
            | nil => rfl
            | cons y l' => obtain rfl : vs = [] := hv; obtain ⟨v, vs', e', _⟩ := hw; cases e'
          | cons x l il =>
            obtain ⟨v, vs', e, hv, hr⟩ := hv
            subst e
            cases l' with
            | nil => cases (show _ = [] from hw)
            | cons y l' =>
              obtain ⟨u, us', e', hu, hs⟩ := hw
              injection e' with e1 e2; subst e1; subst e2
              obtain ⟨h5, h6⟩ := Bool.and_eq_true_iff.mp (show (datB x n && datBs l n) = true from h3)
              obtain ⟨h7, h8⟩ := Bool.and_eq_true_iff.mp (show (datB y m && datBs l' m) = true from h4)
              exact Bool.and_eq_true_iff.mpr ⟨ih n (Nat.lt_succ_self n) x y m v h5 h7 hv hu, il l' h6 h8 vs' hr hs⟩
theorem vrs_at {X : Cx} {h : Heap} {l : List AV} {items : Array Value} (hv : VRs X h l items.toList) {j : Nat} (hj : j < items.size) : ∃ V, l[j]? = some V ∧ VR X h V items[j] := by
  have hl : j < l.length := by have := hv.length; simp at this; omega
  refine ⟨l[j], by simp [hl], ?_⟩
  obtain ⟨v, h1, h2⟩ := hv.get (i := j) (V := l[j]) (by simp [hl])
  have : v = items[j] := by simp [hj] at h1; exact h1.symm
  rw [← this]; exact h2
/-- two told data are held against each other -/
noncomputable def isTupAV : AV → Bool
  | .tup _ => true
  | _ => false
theorem eqAt_flat {X : Cx} {n : Nat} {V U : AV} {A : Around} {s : Shared} {a b : Value} (hf : isTupAV V = false) (hl : datB V n = true) (hm : datB U n = true) (r1 : VR X s.heap V a) (r2 : VR X s.heap U b) (hu : A.units + n < cLine) : EqAt A s a b (avEq V U) := by
  cases V with
  | con _ => cases n <;> cases hl
  | tup _ => cases hf
  | int i =>
    obtain ⟨t, e⟩ := r1
    subst e
    cases U with
    | con _ => cases n <;> cases hm
    | int j => obtain ⟨u, e'⟩ := r2; subst e'; exact EqAt.int_int i t j u
    | str j => obtain ⟨u, e'⟩ := r2; subst e'; exact EqAt.int_str i t j u
    | tup l => obtain ⟨a, it, e', ht, _⟩ := r2; subst e'; obtain ⟨o, h1, h2, n1, h3⟩ := ht.1; exact EqAt.int_tuple i t ⟨o, h1, h2, n1, h3⟩ (by omega)
  | str i =>
    obtain ⟨t, e⟩ := r1
    subst e
    cases U with
    | con _ => cases n <;> cases hm
    | int j => obtain ⟨u, e'⟩ := r2; subst e'; exact EqAt.str_int i t j u
    | str j => obtain ⟨u, e'⟩ := r2; subst e'; exact EqAt.str_str i t j u
    | tup l => obtain ⟨a, it, e', ht, _⟩ := r2; subst e'; obtain ⟨o, h1, h2, n1, h3⟩ := ht.1; exact EqAt.str_tuple i t ⟨o, h1, h2, n1, h3⟩ (by omega)
theorem eqAt_av {X : Cx} : ∀ (n : Nat) (V U : AV) (A : Around) (s : Shared) (a b : Value), datB V n = true → datB U n = true → VR X s.heap V a → VR X s.heap U b → A.units + n < cLine → EqAt A s a b (avEq V U) := by
  intro n
  induction n with
  | zero =>
    intro V U A s v u hl hm r1 r2 hx
    exact eqAt_flat (by cases V <;> first | rfl | cases hl) hl hm r1 r2 hx
  | succ n ih =>
    intro V U A s v u hl hm r1 r2 hx
    cases V with
    | con _ => cases hl
    | int _ => exact eqAt_flat rfl hl hm r1 r2 hx
    | str _ => exact eqAt_flat rfl hl hm r1 r2 hx
    | tup l =>
      cases U with
      | con _ => cases hm
      | int j =>
        obtain ⟨a, it, e, ht, _⟩ := r1
        obtain ⟨u, e'⟩ := r2
        subst e; subst e'
        obtain ⟨o, h1, h2, n1, h3⟩ := ht.1
        exact EqAt.tuple_int j u ⟨o, h1, h2, n1, h3⟩ (by omega)
      | str j =>
        obtain ⟨a, it, e, ht, _⟩ := r1
        obtain ⟨u, e'⟩ := r2
        subst e; subst e'
        obtain ⟨o, h1, h2, n1, h3⟩ := ht.1
        exact EqAt.tuple_str j u ⟨o, h1, h2, n1, h3⟩ (by omega)
      | tup m =>
        obtain ⟨a, i, e, ht, hv⟩ := r1
        obtain ⟨b, j, e', hu, hw⟩ := r2
        have h1 := hl
        have h2 := hm
        simp [datB] at h1 h2
        by_cases q : a = b
        · subst q
          rw [e, e', avEq_same (.tup l) (.tup m) (n + 1) (n + 1) (.ref a) hl hm ⟨a, i, rfl, ht, hv⟩ ⟨a, j, rfl, hu, hw⟩]
          exact EqAt.same _
        · subst e; subst e'
          refine EqAt.of_refs q ?_
          obtain ⟨o, p1, p2, n1, p3⟩ := ht.1
          obtain ⟨o', q1, q2, n2, q3⟩ := hu.1
          have := RcAt.tuples (A := A) (s := s) (e := pairAt l m) ⟨o, p1, p2, n1, p3⟩ ⟨o', q1, q2, n2, q3⟩ (by omega) (fun k k1 k2 => by
            obtain ⟨V, hV, rV⟩ := vrs_at hv k1
            obtain ⟨U, hU, rU⟩ := vrs_at hw k2
            have e : pairAt l m k = avEq V U := by unfold pairAt; rw [hV, hU]
            rw [e]
            exact ih V U A.in1 s _ _ (datBs_get h1 hV) (datBs_get h2 hU) rV rU (by rw [Around.in1_units]; omega))
          have e1 : i.size = l.length := by have := hv.length; simpa using this
          have e2 : j.size = m.length := by have := hw.length; simpa using this
          rw [e1, e2, avEqs_range] at this
          unfold avEq; exact this

mutual
theorem avEq_eq : ∀ (V U : AV), avEq V U = true → V = U
  | .int a, .int b, h => by simp [avEq] at h; rw [h]
  | .str a, .str b, h => by simp [avEq] at h; rw [h]
  | .tup l, .tup m, h => by unfold avEq at h; rw [avEqs_eq l m h]
  | .int _, .str _, h => by simp [avEq] at h
  | .int _, .tup _, h => by simp [avEq] at h
  | .int _, .con _, h => by simp [avEq] at h
  | .str _, .int _, h => by simp [avEq] at h
  | .str _, .tup _, h => by simp [avEq] at h
  | .str _, .con _, h => by simp [avEq] at h
  | .tup _, .int _, h => by simp [avEq] at h
  | .tup _, .str _, h => by simp [avEq] at h
  | .tup _, .con _, h => by simp [avEq] at h
  | .con _, _, h => by simp [avEq] at h
theorem avEqs_eq : ∀ (l m : List AV), avEqs l m = true → l = m
  | [], [], _ => rfl
  | [], _ :: _, h => by simp [avEqs] at h
  | _ :: _, [], h => by simp [avEqs] at h
  | x :: l, y :: m, h => by
    unfold avEqs at h
    rw [Bool.and_eq_true] at h
    rw [avEq_eq x y h.1, avEqs_eq l m h.2]
end
section
variable {X : Cx} {A : Around} {env : Env} {ρ : List (Str × AV)} {σ τ φ : Store} {E : Store → Value → Shared → Prop} {s : Shared}
noncomputable def isAV (X : Cx) (h : Heap) (V : AV) (y : Value) : Bool := @decide (VR X h V y) (Classical.propDecidable _)
theorem isAV_eq {h : Heap} {W V : AV} {y : Value} {n m : Nat} (hW : datB W n = true) (hV : datB V m = true) (r : VR X h W y) : isAV X h V y = avEq W V := by
  unfold isAV
  cases q : avEq W V with
  | true => rw [avEq_eq W V q] at r; exact @decide_eq_true _ (Classical.propDecidable _) r
  | false =>
    refine @decide_eq_false _ (Classical.propDecidable _) fun r' => ?_
    rw [avEq_same W V n m y hW hV r r'] at q; cases q
theorem any_isAV {h : Heap} {V : AV} {n m : Nat} (hV : datB V m = true) : ∀ {l : List AV} {vs : List Value}, datBs l n = true → VRs X h l vs → vs.any (isAV X h V) = l.any fun W => avEq W V
  | [], _, _, e => by rw [show _ = [] from e]; rfl
  | W :: l, _, hl, ⟨v, vs', e, hv, hr⟩ => by
    subst e
    unfold datBs at hl
    rw [Bool.and_eq_true] at hl
    rw [List.any_cons, List.any_cons, isAV_eq hl.1 hV hv, any_isAV hV hl.2 hr]
theorem mem_isAV {h : Heap} {l : List AV} {vs : List Value} {n : Nat} (hl : datBs l n = true) (hv : VRs X h l vs) {y : Value} (hy : y ∈ vs) : ∃ W, datB W n = true ∧ VR X h W y := by
  obtain ⟨i, hi, rfl⟩ := List.mem_iff_getElem.mp hy
  have hi' : i < l.length := by rw [← hv.length]; exact hi
  obtain ⟨v, h1, h2⟩ := hv.get (i := i) (V := l[i]) (by simp [hi'])
  refine ⟨l[i], datBs_get hl (i := i) (by simp [hi']), ?_⟩
  have : v = vs[i] := by simp [hi] at h1; exact h1.symm
  rw [← this]; exact h2
theorem op_notin_list {b : Addr} {l : List AV} {V : AV} {n : Nat} {Q : AV → Store → Prop} (hb : σ b = some (.list l)) (hl : datBs l n = true) (hV : datB V n = true) (hu : A.units + (n + 1) < cLine) (h : Q (.bool (!l.any fun W => avEq W V)) σ) :
    Op2 X A env ρ (VR X) (compareOp .NotIn) V (.ref b) σ Q E := fun φ s x y hx hy F => by
  obtain rfl : y = .ref b := hy
  obtain ⟨vs, hL, _, hv⟩ := F.sto hb
  refine notIn_listAt (isAV X s.heap V) hL (fun y hy => ?_) ?_
  · obtain ⟨W, hW, rW⟩ := mem_isAV hl hv (by simpa using hy)
    rw [isAV_eq hW hV rW]
    exact eqAt_av n W V A.in1 s y x hW hV rW hx (by rw [Around.in1_units]; omega)
  · rw [← Array.any_toList, any_isAV hV hl (by simpa using hv)]
    exact ⟨_, σ, VR_con _ _, F, .refl _, h⟩
theorem rc_tup {l m : List AV} {n : Nat} {x y : Value} (hl : datBs l n = true) (hm : datBs m n = true) (hx : VR X s.heap (.tup l) x) (hy : VR X s.heap (.tup m) y) (hu : A.units + (n + 1) < cLine) :
    RcAt A s x y (avEqs l m) ∧ RcNeAt A s x y (!avEqs l m) := by
  obtain ⟨a, i, rfl, ht, hv⟩ := hx
  obtain ⟨b, j, rfl, hw0, hw⟩ := hy
  obtain ⟨o, p1, p2, n1, p3⟩ := ht.1
  obtain ⟨o', q1, q2, n2, q3⟩ := hw0.1
  have he : ∀ k (k1 : k < i.size) (k2 : k < j.size), EqAt A.in1 s i[k] j[k] (pairAt l m k) := fun k k1 k2 => by
    obtain ⟨V, hV, rV⟩ := vrs_at hv k1
    obtain ⟨U, hU, rU⟩ := vrs_at hw k2
    have e : pairAt l m k = avEq V U := by unfold pairAt; rw [hV, hU]
    rw [e]
    exact eqAt_av n V U A.in1 s _ _ (datBs_get hl hV) (datBs_get hm hU) rV rU (by rw [Around.in1_units]; omega)
  have r1 := RcAt.tuples (A := A) (s := s) (e := pairAt l m) ⟨o, p1, p2, n1, p3⟩ ⟨o', q1, q2, n2, q3⟩ (by omega) he
  have r2 := RcNeAt.tuples (A := A) (s := s) (e := pairAt l m) ⟨o, p1, p2, n1, p3⟩ ⟨o', q1, q2, n2, q3⟩ (by omega) he
  have e1 : i.size = l.length := by have := hv.length; simpa using this
  have e2 : j.size = m.length := by have := hw.length; simpa using this
  rw [e1, e2, avEqs_range] at r1 r2
  exact ⟨r1, r2⟩
theorem op_ne_tup {l m : List AV} {n : Nat} {Q : AV → Store → Prop} (hl : datBs l n = true) (hm : datBs m n = true) (hu : A.units + (n + 1) < cLine) (h : Q (.bool (!avEqs l m)) σ) :
    Op2 X A env ρ (VR X) (compareOp .NotEq) (.tup l) (.tup m) σ Q E := fun φ s x y hx hy F => (rc_tup hl hm hx hy hu).2 _ _ _ _ ⟨_, σ, VR_con _ _, F, .refl _, h⟩
theorem rc_list {a b : Addr} {l m : List AV} {n : Nat} (hl : datBs l n = true) (hm : datBs m n = true) (hx : OR X s.heap a (.list l)) (hy : OR X s.heap b (.list m)) (hu : A.units + (n + 1) < cLine) :
    RcAt A s (.ref a) (.ref b) (avEqs l m) ∧ RcNeAt A s (.ref a) (.ref b) (!avEqs l m) := by
  obtain ⟨vs, hL, _, hv⟩ := hx
  obtain ⟨us, hM, _, hw⟩ := hy
  have e1 := hv.length
  have e2 := hw.length
  by_cases q : l.length = m.length
  · have he : ∀ k (k1 : k < vs.toArray.size) (k2 : k < us.toArray.size), EqAt A.in1 s vs.toArray[k] us.toArray[k] (pairAt l m k) := fun k k1 k2 => by
      obtain ⟨V, hV, rV⟩ := vrs_at (items := vs.toArray) (by simpa using hv) k1
      obtain ⟨U, hU, rU⟩ := vrs_at (items := us.toArray) (by simpa using hw) k2
      have e : pairAt l m k = avEq V U := by unfold pairAt; rw [hV, hU]
      rw [e]
      exact eqAt_av n V U A.in1 s _ _ (datBs_get hl hV) (datBs_get hm hU) rV rU (by rw [Around.in1_units]; omega)
    have hsz : vs.toArray.size = us.toArray.size := by simp; omega
    have r1 := RcAt.lists (A := A) (s := s) (e := pairAt l m) hL hM hsz (by omega) he
    have r2 := RcNeAt.lists (A := A) (s := s) (e := pairAt l m) hL hM hsz (by omega) he
    have e3 : (List.range vs.toArray.size).all (pairAt l m) = avEqs l m := by
      have := avEqs_range l m
      rw [q, Nat.min_self, beq_self_eq_true, Bool.and_true] at this
      rw [← this]; simp; rw [e1, q]
    rw [e3] at r1 r2
    exact ⟨r1, r2⟩
  · have hsz : (vs.toArray.size != us.toArray.size) = true := by simp; omega
    have e3 : avEqs l m = false := by
      cases z : avEqs l m with
      | false => rfl
      | true => rw [avEqs_eq l m z] at q; exact absurd rfl q
    rw [e3]
    exact ⟨RcAt.lists_lengths hL hM hsz (by omega), RcNeAt.lists_lengths hL hM hsz (by omega)⟩
theorem op_eq_list {a b : Addr} {l m : List AV} {n : Nat} {Q : AV → Store → Prop} (ha : σ a = some (.list l)) (hb : σ b = some (.list m)) (hl : datBs l n = true) (hm : datBs m n = true) (hu : A.units + (n + 1) < cLine) (h : Q (.bool (avEqs l m)) σ) :
    Op2 X A env ρ (VR X) (compareOp .Eq) (.ref a) (.ref b) σ Q E := fun φ s x y hx hy F => by
  obtain rfl : x = .ref a := hx
  obtain rfl : y = .ref b := hy
  exact (rc_list hl hm (F.sto ha) (F.sto hb) hu).1 _ _ _ _ ⟨_, σ, VR_con _ _, F, .refl _, h⟩
theorem op_ne_list {a b : Addr} {l m : List AV} {n : Nat} {Q : AV → Store → Prop} (ha : σ a = some (.list l)) (hb : σ b = some (.list m)) (hl : datBs l n = true) (hm : datBs m n = true) (hu : A.units + (n + 1) < cLine) (h : Q (.bool (!avEqs l m)) σ) :
    Op2 X A env ρ (VR X) (compareOp .NotEq) (.ref a) (.ref b) σ Q E := fun φ s x y hx hy F => by
  obtain rfl : x = .ref a := hx
  obtain rfl : y = .ref b := hy
  exact (rc_list hl hm (F.sto ha) (F.sto hb) hu).2 _ _ _ _ ⟨_, σ, VR_con _ _, F, .refl _, h⟩
end
end Mine
end
section
set_option Elab.async false
set_option maxRecDepth 100000
set_option linter.unusedVariables false
open PySem PySem.W PySem.Calls PyProof.Rows PySem.SeqAt
namespace Mine
theorem vrs1 {X : Cx} {h : Heap} {V : AV} {vs : List Value} (hv : VRs X h [V] vs) : ∃ v, vs = [v] ∧ VR X h V v := by
  obtain ⟨v, r, rfl, h1, e⟩ := hv
  exact ⟨v, by rw [show r = [] from e], h1⟩
theorem vrs2 {X : Cx} {h : Heap} {V U : AV} {vs : List Value} (hv : VRs X h [V, U] vs) : ∃ v u, vs = [v, u] ∧ VR X h V v ∧ VR X h U u := by
  obtain ⟨v, r, rfl, h1, h2⟩ := hv
  obtain ⟨u, rfl, h3⟩ := vrs1 h2
  exact ⟨v, u, rfl, h1, h3⟩
theorem vrs3 {X : Cx} {h : Heap} {V U T : AV} {vs : List Value} (hv : VRs X h [V, U, T] vs) : ∃ v u t, vs = [v, u, t] ∧ VR X h V v ∧ VR X h U u ∧ VR X h T t := by
  obtain ⟨v, r, rfl, h1, h2⟩ := hv
  obtain ⟨u, t, rfl, h3, h4⟩ := vrs2 h2
  exact ⟨v, u, t, rfl, h1, h3, h4⟩
theorem vrs_ints {X : Cx} {h : Heap} : ∀ {ns : List Int} {vs : List Value}, VRs X h (ns.map AV.int) vs → IntsAre vs ns
  | [], _, e => by rw [show _ = [] from e]; exact .nil
  | n :: ns, _, ⟨v, vs', e, ⟨t, hv⟩, hr⟩ => by subst e; subst hv; exact .cons n t (vrs_ints hr)
theorem ints_vrs {X : Cx} {h : Heap} : ∀ {ns : List Int} {vs : List Value}, IntsAre vs ns → VRs X h (ns.map AV.int) vs
  | _, _, .nil => .nil
  | _, _, .cons n t r => .cons ⟨t, rfl⟩ (ints_vrs r)
section
variable {X : Cx} {A : Around} {σ τ φ : Store} {Es : Store → Prop} {s : Shared} {Q : AV → Store → Prop}
theorem WC_len {b : Addr} {l : List AV} (hb : σ b = some (.list l)) (hz : l.length ≤ 100000) (h : Q (.int l.length) σ) : WC X A (.builtin "len") [.ref b] σ Q Es := fun φ s vs x hv => by
  obtain ⟨v, rfl, hw⟩ := vrs1 hv
  obtain rfl : v = .ref b := hw
  obtain ⟨us, hL, _, hu⟩ := x.sto hb
  have e : us.toArray.size = l.length := by have := hu.length; simpa using this
  refine call_len_list hL (by rw [e]; omega) ⟨.int l.length, σ, ⟨_, by rw [e]⟩, x.toks, .refl _, h⟩
theorem WC_sum {b : Addr} {ns : List Int} (hh : A.handled = none) (hb : σ b = some (.list (ns.map AV.int))) (h : Q (.int ns.sum) σ) : WC X A (.builtin "sum") [.ref b] σ Q Es := fun φ s vs x hv => by
  obtain ⟨v, rfl, hw⟩ := vrs1 hv
  obtain rfl : v = .ref b := hw
  obtain ⟨us, hL, _, hu⟩ := x.sto hb
  have hi := vrs_ints hu
  obtain ⟨xs, hx⟩ := hi.allInts.items
  have hl' : s.heap.IsList b (intItems xs) := hx ▸ hL
  refine sum_intListG hh hl' fun h' tk t' hk => ?_
  have e1 : ns = xs.toList.map (·.1) := by
    rw [← nums_intItems, ← hx]
    exact (show numsOf us.toArray.toList = ns from hi.numsOf).symm
  have e2 : preSum (numAt xs) xs.size = ns.sum := by
    rw [preSum_eq, List.take_of_length_le (by simp), e1]
  rw [e2]
  exact ⟨.int ns.sum, σ, ⟨_, rfl⟩, x.grow hk, Kept.of_keeps hk, h⟩
theorem WC_max {b : Addr} {ns : List Int} (hh : A.handled = none) (hne : 0 < ns.length) (hb : σ b = some (.list (ns.map AV.int))) (h : ∀ M, M ∈ ns → (∀ a, a ∈ ns → a ≤ M) → Q (.int M) σ) : WC X A (.builtin "max") [.ref b] σ Q Es := fun φ s vs x hv => by
  obtain ⟨v, rfl, hw⟩ := vrs1 hv
  obtain rfl : v = .ref b := hw
  obtain ⟨us, hL, _, hu⟩ := x.sto hb
  have hi := vrs_ints hu
  obtain ⟨xs, e⟩ := hi.allInts.items
  have hns : ns = xs.toList.map (·.1) := by
    rw [← hi.numsOf, ← nums_intItems, ← e]
  have hsz : 0 < xs.size := by
    have h3 := hne; rw [hns, List.length_map, Array.length_toList] at h3; exact h3
  rw [e] at hL
  refine max_intList hh hL hsz fun v h' tk hv hk => ?_
  obtain ⟨t, rfl⟩ := intItems_at hv
  obtain ⟨h1, h2⟩ := argBest_gt (numAt xs) (xs.size - 1)
  refine ⟨.int _, σ, ⟨t, rfl⟩, x.grow hk, Kept.of_keeps hk, h _ ?_ fun a ha => ?_⟩
  · rw [hns, numAt_eq]; exact getD_mem (by rw [List.length_map, Array.length_toList]; omega)
  · rw [hns] at ha
    obtain ⟨j, hj, rfl⟩ := mem_getD ha
    rw [List.length_map, Array.length_toList] at hj
    rw [← numAt_eq]; exact h2 j (by omega)
theorem WC_tuple_list {b : Addr} {l : List AV} (hb : σ b = some (.list l)) (hz : l.length ≤ 10000) (h : Q (.tup l) σ) : WC X A (.type "tuple") [.ref b] σ Q Es := fun φ s vs x hv => by
  obtain ⟨v, rfl, hw⟩ := vrs1 hv
  obtain rfl : v = .ref b := hw
  obtain ⟨us, hL, _, hu⟩ := x.sto hb
  have e : us.toArray.size = l.length := by have := hu.length; simpa using this
  refine call_tuple_list hL (fun h' hk => ?_) (by rw [e, sizeLine_eq]; omega)
  have y := x.grow (tk := s.toks) hk
  have k : Kept X s.heap (h'.push { cls := .type "tuple", data := .seq us.toArray }) := (Kept.of_keeps hk).trans (Kept.of_keeps push_keeps)
  exact ⟨.tup l, σ, ⟨_, _, rfl, y.isT (Nat.le_refl _) isTup_new, VRs.mono k _ _ (by simpa using hu)⟩, y.grow push_keeps, k, h⟩
theorem WC_tuple_tup {l : List AV} (h : Q (.tup l) σ) : WC X A (.type "tuple") [.tup l] σ Q Es := fun φ s vs x hv => by
  obtain ⟨v, rfl, hw⟩ := vrs1 hv
  obtain ⟨a, i, rfl, ht, hi⟩ := hw
  exact PyProof.Rows.call_tuple_tup ht.1 ⟨.tup l, σ, ⟨a, i, rfl, ht, hi⟩, x, .refl _, h⟩
theorem WC_list_list {b : Addr} {l : List AV} (hb : σ b = some (.list l)) (hz : l.length ≤ 10000) (h : ∀ D, σ D = none → Q (.ref D) (σ.set D (.list l))) : WC X A (.type "list") [.ref b] σ Q Es := fun φ s vs x hv => by
  obtain ⟨v, rfl, hw⟩ := vrs1 hv
  obtain rfl : v = .ref b := hw
  obtain ⟨us, hL, _, hu⟩ := x.sto hb
  have e : us.toArray.size = l.length := by have := hu.length; simpa using this
  obtain ⟨o, ho, hc, n, hd⟩ := hL
  refine call_list_seq (hsz := by rw [e, sizeLine_eq]; omega) b (.inl rfl) ho hc hd fun h' c' hk hD => ?_
  exact ⟨.ref s.heap.objs.size, _, VR_con _ _, x.alloc (tk := s.toks) hk (Nat.le_refl _) (OR.list ⟨_, hD⟩ (VRs.mono (Kept.of_keeps hk) _ _ hu)), Kept.of_keeps hk, h _ (x.free2 (Nat.le_refl _)).1⟩
theorem WC_range {n : Int} (h : ∀ r t u v, σ r = none → Q (.ref r) (σ.set r (.raw (rangeObj n t u v)))) : WC X A (.type "range") [.int n] σ Q Es := fun φ s vs x hv => by
  obtain ⟨v, rfl, t, rfl⟩ := vrs1 hv
  refine call_range_1 ⟨.ref s.heap.objs.size, _, VR_con _ _, x.alloc push_keeps (Nat.le_refl _) (raw_there (T := "range") (o := rangeObj n s.toks t (s.toks + 1)) rfl (by decide) rfl), Kept.of_keeps push_keeps, h _ _ _ _ (x.free2 (Nat.le_refl _)).1⟩
theorem rangeItems {X : Cx} {h : Heap} {acc : Array Value} {n : Nat} (hi : ItemsOf (fun i v => ∃ t, v = .int (0 + (i : Nat) * 1) t) acc n) : VRs X h ((List.range n).map fun i => AV.int (i : Nat)) acc.toList := by
  obtain ⟨h1, h2⟩ := hi
  have e : acc.toList.length = n := by simpa using h1
  have key : ∀ (k : Nat) (vs : List Value) (n : Nat), vs.length = n → (∀ j v, vs[j]? = some v → ∃ t, v = Value.int ((k + j : Nat) : Int) t) → VRs X h ((List.range n).map fun i => AV.int ((k + i : Nat) : Int)) vs := by
    intro k vs
    induction vs generalizing k with
    | nil => intro n hn _; subst hn; exact .nil
    | cons v r ih =>
      intro n hn hp
      subst hn
      rw [List.length_cons, List.range_succ_eq_map, List.map_cons, List.map_map]
      refine .cons (by obtain ⟨t, ht⟩ := hp 0 v rfl; exact ⟨t, ht⟩) ?_
      have := ih (k + 1) r.length rfl (fun j v hj => by
        obtain ⟨t, ht⟩ := hp (j + 1) v (by simpa using hj)
        exact ⟨t, by rw [ht]; congr 1; omega⟩)
      have ef : ((fun i => AV.int ((k + i : Nat) : Int)) ∘ Nat.succ) = fun i => AV.int ((k + 1 + i : Nat) : Int) := by
        funext i; show AV.int _ = AV.int _; congr 2; omega
      rw [ef]; exact this
  have := key 0 acc.toList n e (fun j v hj => by
    obtain ⟨t, ht⟩ := h2 j v (by rw [← Array.getElem?_toList]; exact hj)
    exact ⟨t, by rw [ht]; congr 1; omega⟩)
  simpa using this
theorem WC_list_range {r : Addr} {n : Nat} {t u v : Tok} (hh : A.handled = none) (hn : n ≤ 100000) (hr : σ r = some (.raw (rangeObj n t u v))) (h : ∀ D, σ D = none → Q (.ref D) (σ.set D (.list ((List.range n).map fun i => AV.int (i : Nat))))) :
    WC X A (.type "list") [.ref r] σ Q Es := fun φ s vs x hv => by
  obtain ⟨v', rfl, hw⟩ := vrs1 hv
  obtain rfl : v' = .ref r := hw
  have hR : IsRange s.heap r 0 n 1 t u v := (x.sto hr).1
  have hs := small_up (n := (n : Int)) (by omega) (by omega)
  refine call_list_range (n := n) hh hR hs.1 hs.2 (by omega) fun h' tk acc' c' hk hD hacc => ?_
  exact ⟨.ref s.heap.objs.size, _, VR_con _ _, x.alloc hk (Nat.le_refl _) (OR.list (vs := acc'.toList) ⟨c', by rw [hD]⟩ (rangeItems hacc)), Kept.of_keeps hk, h _ (x.free2 (Nat.le_refl _)).1⟩
theorem WC_isspace {w : Str} (h : Q (.bool (Txt.isspace w)) σ) : WC X A (.builtin "str.isspace") [.str w] σ Q Es := fun φ s vs x hv => by
  obtain ⟨v, rfl, t, rfl⟩ := vrs1 hv
  exact SC.isspace ⟨_, σ, VR_con _ _, x, .refl _, h⟩
theorem GetM_isspace {w : Str} : GetM X A (.str w) "isspace" (.builtin "str.isspace") σ := fun φ s a pl Q E ha x h => by
  obtain ⟨t, rfl⟩ := ha
  exact GM.isspace h
theorem GetM_list {b : Addr} {l : List AV} {name : Str} {id : String} (slot : Slot "list" name id) (hty : typeOf (.builtin id) = pure (.type "method_descriptor")) (hb : σ b = some (.list l)) : GetM X A (.ref b) name (.builtin id) σ := fun φ s a pl Q E ha x h => by
  obtain rfl : a = .ref b := ha
  obtain ⟨us, hL, ⟨n, hp⟩, hu⟩ := x.sto hb
  exact getMethod_builtin hL.typeIs PySem.F.plainAttrs_list slot hty (fun a e => by cases e; exact ⟨_, hp, rfl⟩) h
theorem WC_append {b : Addr} {l : List AV} {V : AV} (hb : σ b = some (.list l)) (hz : l.length ≤ 100000) (h : Q .none (σ.set b (.list (l ++ [V])))) : WC X A (.builtin "list.append") [.ref b, V] σ Q Es := fun φ s vs x hv => by
  obtain ⟨v, u, rfl, hw, hu⟩ := vrs2 hv
  obtain rfl : v = .ref b := hw
  exact okf_append hb hu hz x fun s' y k => ⟨.none, _, VR_con _ _, y, k, h⟩
theorem WC_pop {b : Addr} {l : List AV} {V : AV} (hb : σ b = some (.list (l ++ [V]))) (hz : l.length ≤ 100000) (h : Q V (σ.set b (.list l))) : WC X A (.builtin "list.pop") [.ref b] σ Q Es := fun φ s vs x hv => by
  obtain ⟨v, rfl, hw⟩ := vrs1 hv
  obtain rfl : v = .ref b := hw
  obtain ⟨us, hL, ⟨n, hp⟩, hu⟩ := x.sto hb
  have e : us.length = l.length + 1 := by have := hu.length; simpa using this
  obtain ⟨y, hy1, hy2⟩ := hu.get (i := l.length) (V := V) (by simp)
  obtain ⟨ws, hws⟩ : ∃ ws, ws = us.take l.length := ⟨_, rfl⟩
  have hwl : ws.length = l.length := by rw [hws, List.length_take]; omega
  have hus : us = ws ++ [y] := by
    rw [hws]
    apply List.ext_getElem?
    intro i
    by_cases q : i < l.length
    · rw [List.getElem?_append_left (by rw [List.length_take]; omega), List.getElem?_take_of_lt q]
    · by_cases q2 : i = l.length
      · subst q2
        rw [hy1, List.getElem?_append_right (by rw [List.length_take]; omega)]
        simp [List.length_take, e]
      · rw [List.getElem?_eq_none (by omega), List.getElem?_eq_none (by rw [List.length_append, List.length_take]; simp; omega)]
  have hvw : VRs X s.heap l ws := by
    have := VRs.take l.length hu
    rw [← hws] at this
    simpa using this
  clear hws hy1 hu
  subst hus
  refine Copied.pop_at hp (y := y) (by simp) (fun h' hs hg => ?_) (by rw [List.size_toArray, e, sizeLine_eq]; omega)
  have k := kept_same (x.sto hb) hs
  have z := x.upd (tk := s.toks) hb hs (show OR X h' b (.list l) from OR.list (vs := ws) ⟨n + 1, by rw [hg]; simp⟩ (VRs.mono k _ _ hvw))
  exact ⟨V, _, VR.mono k _ _ hy2, z.1, z.2, h⟩
end
end Mine
end
section
set_option Elab.async false
set_option maxRecDepth 100000
set_option linter.unusedVariables false
open PySem PySem.W PySem.Calls PyProof.Rows PySem.SeqAt
namespace Mine
theorem mapSeq_plain (f : Array Value → Array Value) (its : Array Value) (n : Nat) : ∃ n', Obj.mapSeq f { cls := .type "list", data := .seq its n } = { cls := .type "list", data := .seq (f its) n' } := ⟨_, rfl⟩
theorem notEmpty {l : List AV} {i : Array Value} (h : i.size = l.length) (q : ¬ l = []) : ¬ i.isEmpty = true := fun z => by
  have : i.size = 0 := by simpa [Array.isEmpty] using z
  rw [this] at h
  exact q (List.length_eq_zero_iff.mp h.symm)
section
variable {X : Cx} {A : Around} {env : Env} {ρ : List (Str × AV)} {σ τ φ : Store} {E : Store → Value → Shared → Prop} {Es : Store → Prop} {s : Shared} {Q : AV → Store → Prop}
theorem op_add_tup {l m : List AV} (hz : l.length + m.length ≤ 10000) (h : Q (.tup (l ++ m)) σ) : Op2 X A env ρ (VR X) (binaryOp .Add) (.tup l) (.tup m) σ Q E := fun φ s x y hx hy F => by
  obtain ⟨a, i, rfl, ht, hv⟩ := hx
  obtain ⟨b, j, rfl, hu, hw⟩ := hy
  have h1 : i.size = l.length := by have := hv.length; simpa using this
  have h2 : j.size = m.length := by have := hw.length; simpa using this
  obtain ⟨⟨cls, dd, data, sl⟩, ho, hc, n, hd⟩ := id ht.1
  obtain ⟨⟨cls2, dd2, data2, sl2⟩, ho2, hc2, n2, hd2⟩ := id hu.1
  simp only at hc hd hc2 hd2
  subst hc hd hc2 hd2
  by_cases q1 : l = []
  · subst q1
    exact concat_meets ⟨_, ho, rfl⟩ ⟨_, ho2, rfl⟩ noFill_tuple_add seq_tuple_add PySem.F.slot_tuple_add PySem.F.entry_tuple_add (PySem.F.args_tuple_add_2 _ _)
      (tuple_addW0 a b i j n n2 dd dd2 sl sl2 (by simp; simpa using h1)) ⟨ho, ho2, ⟨.tup m, σ, ⟨b, j, rfl, hu, hw⟩, F, .refl _, h⟩⟩
  · by_cases q2 : m = []
    · subst q2
      rw [List.append_nil] at h
      exact concat_meets ⟨_, ho, rfl⟩ ⟨_, ho2, rfl⟩ noFill_tuple_add seq_tuple_add PySem.F.slot_tuple_add PySem.F.entry_tuple_add (PySem.F.args_tuple_add_2 _ _)
        (tuple_addW1 a b i j n n2 dd dd2 sl sl2 (notEmpty h1 q1) (by simp; simpa using h2)) ⟨ho, ho2, ⟨.tup l, σ, ⟨a, i, rfl, ht, hv⟩, F, .refl _, h⟩⟩
    · refine concat_meets ⟨_, ho, rfl⟩ ⟨_, ho2, rfl⟩ noFill_tuple_add seq_tuple_add PySem.F.slot_tuple_add PySem.F.entry_tuple_add (PySem.F.args_tuple_add_2 _ _)
        (tuple_addW2 a b i j n n2 dd dd2 sl sl2 (notEmpty h1 q1) (notEmpty h2 q2) (by rw [h1, h2, sizeLine_eq]; omega)) ⟨ho, ho2, ?_⟩
      have k : Kept X s.heap (s.heap.push { cls := .type "tuple", data := .seq (i ++ j) }) := Kept.of_keeps push_keeps
      have e : i ++ j = (i.toList ++ j.toList).toArray := by simp
      refine ⟨.tup (l ++ m), σ, ⟨_, i ++ j, rfl, ?_, ?_⟩, F.grow push_keeps, k, h⟩
      · rw [e]; exact F.okf.isT (Nat.le_refl _) isTup_new
      · rw [Array.toList_append]; exact (VRs.mono k _ _ hv).append (VRs.mono k _ _ hw)
theorem op_add_list {a b : Addr} {l m : List AV} (ha : σ a = some (.list l)) (hb : σ b = some (.list m)) (hz : l.length + m.length ≤ 10000) (h : ∀ D, σ D = none → Q (.ref D) (σ.set D (.list (l ++ m)))) :
    Op2 X A env ρ (VR X) (binaryOp .Add) (.ref a) (.ref b) σ Q E := fun φ s x y hx hy F => by
  obtain rfl : x = .ref a := hx
  obtain rfl : y = .ref b := hy
  obtain ⟨vs, _, ⟨n, hp⟩, hv⟩ := F.sto ha
  obtain ⟨us, _, ⟨n2, hp2⟩, hu⟩ := F.sto hb
  have e1 := hv.length
  have e2 := hu.length
  have k : Kept X s.heap (s.heap.push { cls := .type "list", data := .seq (vs.toArray ++ us.toArray) }) := Kept.of_keeps push_keeps
  refine concat_meets ⟨_, hp, rfl⟩ ⟨_, hp2, rfl⟩ noFill_list_add seq_list_add PySem.F.slot_list_add PySem.F.entry_list_add (PySem.F.args_list_add_2 _ _) (AutoSeq1.list___add___list_list_0 a vs.toArray n b us.toArray n2 (by rw [List.size_toArray, List.size_toArray, sizeLine_eq]; omega)) ⟨hp, hp2, ?_⟩
  exact ⟨.ref s.heap.objs.size, _, VR_con _ _, F.alloc push_keeps (Nat.le_refl _) (OR.list (vs := vs ++ us) ⟨0, by rw [Heap.get?_push_size _ rfl]; simp⟩ ((VRs.mono k _ _ hv).append (VRs.mono k _ _ hu))), k, h _ (F.okf.free2 (Nat.le_refl _)).1⟩
theorem WC_extend {a b : Addr} {l m : List AV} (ha : σ a = some (.list l)) (hb : σ b = some (.list m)) (hz : l.length + m.length ≤ 10000) (h : Q .none (σ.set a (.list (l ++ m)))) : WC X A (.builtin "list.extend") [.ref a, .ref b] σ Q Es := fun φ s vs x hv => by
  obtain ⟨v, u, rfl, hw, hw2⟩ := vrs2 hv
  obtain rfl : v = .ref a := hw
  obtain rfl : u = .ref b := hw2
  obtain ⟨vs, _, ⟨n, hp⟩, hv⟩ := x.sto ha
  obtain ⟨us, _, ⟨n2, hp2⟩, hu⟩ := x.sto hb
  have e1 := hv.length
  have e2 := hu.length
  obtain ⟨n', hn'⟩ := mapSeq_plain (fun x => x ++ us.toArray) vs.toArray n
  have hg := Heap.get?_update_self (h := s.heap) (Obj.mapSeq fun x => x ++ us.toArray) hp (by rw [hn']; rfl)
  rw [hn'] at hg
  have hs : Heap.SameBut a s.heap (s.heap.update a (Obj.mapSeq fun x => x ++ us.toArray)) := Heap.SameBut.update ..
  have k := kept_same (x.sto ha) hs
  have z := x.upd (tk := s.toks) ha hs (show OR X _ a (.list (l ++ m)) from OR.list (vs := vs ++ us) ⟨n', by rw [hg]; simp⟩ ((VRs.mono k _ _ hv).append (VRs.mono k _ _ hu)))
  refine call_meets PySem.F.slot_list_extend ⟨_, hp, rfl⟩ PySem.F.entry_list_extend (PySem.F.args_list_extend_2 _ _) (PySem.AutoSeq1.list_extend_list_list_0 a vs.toArray n b us.toArray n2
    (by simp [Builtin.List.listTooLong, sizeLine_eq]; intro _; omega) (by rw [List.size_toArray, sizeLine_eq]; omega) (by rw [List.size_toArray, List.size_toArray, sizeLine_eq]; omega)) ⟨hp, hp2, ⟨.none, _, VR_con _ _, z.1, z.2, h⟩⟩

theorem WC_index {b : Addr} {l : List AV} {V : AV} {n j : Nat} (hb : σ b = some (.list l)) (hl : datBs l n = true) (hV : datB V n = true) (hu : A.units + (n + 1) < cLine) (hz : l.length ≤ 10000)
    (hj : ∃ W, l[j]? = some W ∧ avEq W V = true) (hno : ∀ i W, i < j → l[i]? = some W → avEq W V = false) (h : Q (.int j) σ) : WC X A (.builtin "list.index") [.ref b, V] σ Q Es := fun φ s vs x hv => by
  obtain ⟨v, u, rfl, hw, hw2⟩ := vrs2 hv
  obtain rfl : v = .ref b := hw
  obtain ⟨vs, _, ⟨k, hp⟩, hv⟩ := x.sto hb
  have e1 := hv.length
  obtain ⟨W, hW, hWV⟩ := hj
  have hjl : j < l.length := (List.getElem?_eq_some_iff.mp hW).1
  have key : ∀ i (hi : i < vs.toArray.size), ∃ W, l[i]? = some W ∧ isAV X s.heap V vs.toArray[i] = avEq W V := fun i hi => by
    obtain ⟨W, h1, h2⟩ := vrs_at (items := vs.toArray) (by simpa using hv) hi
    exact ⟨W, h1, isAV_eq (datBs_get hl h1) hV h2⟩
  have hjs : j < vs.toArray.size := by simp; omega
  refine call_meets PySem.F.slot_list_index ⟨_, hp, rfl⟩ PySem.F.entry_list_index (PySem.F.args_list_index_2 _ _)
    (list_indexAt b vs.toArray k none #[] u (isAV X s.heap V) j hjs (by omega) ?_ fun m hm hlt => ?_) ⟨hp, fun y hy => ?_, ⟨.int j, σ, ⟨_, rfl⟩, x.toks, .refl _, h⟩⟩
  · obtain ⟨W', h1, h2⟩ := key j hjs
    rw [hW] at h1; cases h1
    rw [h2]; exact hWV
  · obtain ⟨W', h1, h2⟩ := key m hm
    rw [h2]; exact hno m W' hlt h1
  · obtain ⟨W, hW, rW⟩ := mem_isAV hl hv (by simpa using hy)
    rw [isAV_eq hW hV rW]
    exact eqAt_av n W V A.in1 s y u hW hV rW hw2 (by rw [Around.in1_units]; omega)
theorem WC_sorted {b : Addr} {ns : List Int} (hb : σ b = some (.list (ns.map AV.int))) (h64 : ns.length < 64) (h : ∀ D (ns' : List Int), σ D = none → ns'.Perm ns → ns'.Pairwise (· ≤ ·) → Q (.ref D) (σ.set D (.list (ns'.map AV.int)))) :
    WC X A (.builtin "sorted") [.ref b] σ Q Es := fun φ s vs x hv => by
  obtain ⟨v, rfl, hw⟩ := vrs1 hv
  obtain rfl : v = .ref b := hw
  obtain ⟨us, hL, _, hu⟩ := x.sto hb
  have hi := vrs_ints hu
  refine sorted_ints hL hi (by rw [hi.length]; exact h64) fun out ns' ho hp hs => ?_
  obtain ⟨e, he⟩ := sortedAll_at s.heap us out
  exact ⟨.ref _, _, VR_con _ _, x.alloc (tk := s.toks) (fun b o => sortedAll_old) (Nat.le_succ _) (OR.list (vs := out.toList) ⟨e, by rw [he]⟩ (ints_vrs ho)), Kept.of_keeps (fun b o => sortedAll_old), h _ ns' (x.free2 (Nat.le_succ _)).1 hp hs⟩
/-! slices of lists -/
theorem EV_rev {value : Expr} {k : Nat} {p1 p2 p pos : Pos}
    (hs : ∀ a b, subscripted (.Slice none none (some (.UnaryOp .USub (.Constant (.int 1) k p1) p2)) p) false (.ref a) (.ref b) = operate [.ref a, .ref b] (getItem (.ref a) (.ref b)))
    (h : EV X A env ρ value σ (fun V σ₁ => ∃ b l, V = .ref b ∧ σ₁ b = some (.list l) ∧ l.length ≤ 10000 ∧ ∀ D, σ₁ D = none → Q (.ref D) (σ₁.set D (.list l.reverse))) E) :
    EV X A env ρ (.Subscript value (.Slice none none (some (.UnaryOp .USub (.Constant (.int 1) k p1) p2)) p) pos) σ Q E := fun φ s F =>
  Subscript_ (h.use F fun a V σ₁ s₁ ha F₁ k₁ h₁ => by
    obtain ⟨b, l, rfl, hb, hz, hq⟩ := h₁
    obtain rfl : a = .ref b := ha
    show wpAny _ _ (do let l ← (pure Value.none); let u ← holding [l] (pure Value.none); let st ← holding [l, u] (eval (.UnaryOp .USub (.Constant (.int 1) k p1) p2) env); newFields "slice" [l, u, st]) _ _ s₁
    refine wpAny_bind (wpAny_pure (wpAny_bind (wpAny_holding (wpAny_pure (wpAny_bind (wpAny_holding ?_))))))
    have hn : EV X A env ρ (.UnaryOp .USub (.Constant (.int 1) k p1) p2) σ₁ (fun V σ' => V = .int (-1) ∧ σ' = σ₁) E := by
      with_reducible refine EV_UnaryOp ?_
      with_reducible refine EV_int ?_
      with_reducible refine op_neg ?_
      exact ⟨rfl, rfl⟩
    refine hn.use F₁ fun c V σ₂ s₂ hc F₂ k₂ h₂ => ?_
    obtain ⟨rfl, rfl⟩ := h₂
    obtain ⟨t, rfl⟩ := hc
    show wpAny _ _ (newObj (.type "slice") (.fields #[.none, .none, .int (-1) t])) _ _ _
    refine wpAny_newObj_type ?_ (by show (3 : Nat) ≤ sizeLine + 2; rw [sizeLine_eq]; omega)
    have G := F₂.grow (tk := s₂.toks) (h' := s₂.heap.push { cls := .type "slice", dict := none, data := .fields #[.none, .none, .int (-1) t] }) push_keeps
    obtain ⟨us, hL, _, hu⟩ := G.sto hb
    have e1 := hu.length
    refine tail_any hL.typeIs slot_list_getitem.lookup (wpAny_getItem_list_slice hL (Heap.IsSliceOf.new ..) .none .none (.int _ _) (by simp) ?_ (by rw [List.size_toArray, e1, sizeLine_eq]; omega)) (hs := hs _ _)
    rw [krv_pick]
    have k3 : Kept X s₂.heap ((s₂.heap.push { cls := .type "slice", dict := none, data := .fields #[.none, .none, .int (-1) t] }).push { cls := .type "list", data := .seq us.toArray.toList.reverse.toArray }) := (Kept.of_keeps push_keeps).trans (Kept.of_keeps push_keeps)
    exact ⟨.ref _, _, VR_con _ _, G.alloc (tk := s₂.toks) push_keeps (Nat.le_refl _) (OR.list ⟨0, Heap.get?_push_size _ rfl⟩ (VRs.mono (Kept.of_keeps push_keeps) _ _ hu.reverse)), k₁.trans (k₂.trans k3), hq _ (G.okf.free2 (Nat.le_refl _)).1⟩)
end
end Mine
end
section
set_option Elab.async false
set_option maxRecDepth 100000
set_option linter.unusedVariables false
open PySem PySem.W PySem.Calls PyProof.Rows PySem.SeqAt
namespace Mine
section
variable {K : Type} [DecidableEq K]
noncomputable def lookK {α : Type} (l : List (K × α)) (k : K) : Option α := (l.find? fun kv => decide (kv.1 = k)).map (·.2)
noncomputable def storeK {α : Type} (l : List (K × α)) (k : K) (v : α) : List (K × α) := if (l.any fun kv => decide (kv.1 = k)) = true then l.map (fun kv => if kv.1 = k then (kv.1, v) else kv) else l ++ [(k, v)]
noncomputable def mergeK {α : Type} (l m : List (K × α)) : List (K × α) := m.foldl (fun acc kv => storeK acc kv.1 kv.2) l
theorem KVs.nil {X : Cx} {h : Heap} : KVs X h ([] : List (K × AV)) [] := ⟨rfl, .nil⟩
theorem KVs.cons_inv {X : Cx} {h : Heap} {k : K} {V : AV} {l : List (K × AV)} {kvs : List (K × Value)} (x : KVs X h ((k, V) :: l) kvs) : ∃ v r, kvs = (k, v) :: r ∧ VR X h V v ∧ KVs X h l r := by
  obtain ⟨h1, h2⟩ := x
  cases kvs with
  | nil => cases h1
  | cons p r =>
    obtain ⟨k', v⟩ := p
    simp at h1
    obtain ⟨v', r', e, hv, hr⟩ := h2
    simp at e
    obtain ⟨e1, e2⟩ := e
    subst e1; subst e2
    obtain ⟨e3, e4⟩ := h1
    subst e3
    exact ⟨v, r, rfl, hv, e4, hr⟩
theorem KVs.cons {X : Cx} {h : Heap} {k : K} {V : AV} {v : Value} {l : List (K × AV)} {kvs : List (K × Value)} (hv : VR X h V v) (x : KVs X h l kvs) : KVs X h ((k, V) :: l) ((k, v) :: kvs) :=
  ⟨by simp [x.1], .cons hv x.2⟩
theorem KVs.nil_inv {X : Cx} {h : Heap} {kvs : List (K × Value)} (x : KVs X h ([] : List (K × AV)) kvs) : kvs = [] := by
  obtain ⟨h1, _⟩ := x
  cases kvs with
  | nil => rfl
  | cons _ _ => cases h1
theorem KVs.look {X : Cx} {h : Heap} (k : K) : ∀ {l : List (K × AV)} {kvs : List (K × Value)}, KVs X h l kvs → OpR X h (lookK l k) ((kvs.find? fun kv => decide (kv.1 = k)).map (·.2))
  | [], _, x => by rw [x.nil_inv]; exact trivial
  | (k', V) :: l, _, x => by
    obtain ⟨v, r, rfl, hv, hr⟩ := x.cons_inv
    unfold lookK
    rw [List.find?_cons, List.find?_cons]
    by_cases q : k' = k
    · simp [q]; exact hv
    · simp [q]; exact KVs.look k hr
theorem KVs.any {X : Cx} {h : Heap} (k : K) : ∀ {l : List (K × AV)} {kvs : List (K × Value)}, KVs X h l kvs → (kvs.any fun kv => decide (kv.1 = k)) = (l.any fun kv => decide (kv.1 = k))
  | [], _, x => by rw [x.nil_inv]; rfl
  | (k', V) :: l, _, x => by
    obtain ⟨v, r, rfl, hv, hr⟩ := x.cons_inv
    rw [List.any_cons, List.any_cons, KVs.any k hr]
theorem KVs.snoc {X : Cx} {h : Heap} {k : K} {V : AV} {v : Value} (hv : VR X h V v) : ∀ {l : List (K × AV)} {kvs : List (K × Value)}, KVs X h l kvs → KVs X h (l ++ [(k, V)]) (kvs ++ [(k, v)])
  | [], _, x => by rw [x.nil_inv]; exact .cons hv .nil
  | (k', U) :: l, _, x => by
    obtain ⟨u, r, rfl, hu, hr⟩ := x.cons_inv
    exact .cons hu (KVs.snoc hv hr)
theorem KVs.turn {X : Cx} {h : Heap} {k : K} {V : AV} {v : Value} (hv : VR X h V v) : ∀ {l : List (K × AV)} {kvs : List (K × Value)}, KVs X h l kvs → KVs X h (l.map (fun kv => if kv.1 = k then (kv.1, V) else kv)) (kvs.map (fun kv => if kv.1 = k then (kv.1, v) else kv))
  | [], _, x => by rw [x.nil_inv]; exact .nil
  | (k', U) :: l, _, x => by
    obtain ⟨u, r, rfl, hu, hr⟩ := x.cons_inv
    rw [List.map_cons, List.map_cons]
    by_cases q : k' = k
    · rw [if_pos q, if_pos q]; exact .cons hv (KVs.turn hv hr)
    · rw [if_neg q, if_neg q]; exact .cons hu (KVs.turn hv hr)
theorem KVs.stored {X : Cx} {h : Heap} {k : K} {V : AV} {v : Value} {l : List (K × AV)} {kvs : List (K × Value)} (x : KVs X h l kvs) (hv : VR X h V v) : KVs X h (storeK l k V) (stored kvs k v) := by
  unfold storeK PySem.stored
  rw [x.any k]
  by_cases q : (l.any fun kv => decide (kv.1 = k)) = true
  · rw [if_pos q, if_pos q]; exact x.turn hv
  · rw [if_neg q, if_neg q]; exact x.snoc hv
theorem KVs.merged {X : Cx} {h : Heap} : ∀ {m : List (K × AV)} {ms : List (K × Value)} {l : List (K × AV)} {kvs : List (K × Value)}, KVs X h l kvs → KVs X h m ms → KVs X h (mergeK l m) (merged kvs ms)
  | [], _, _, _, x, y => by rw [y.nil_inv]; exact x
  | (k, V) :: m, _, _, _, x, y => by
    obtain ⟨v, r, rfl, hv, hr⟩ := y.cons_inv
    exact KVs.merged (m := m) (ms := r) (x.stored hv) hr
theorem KVs.length {X : Cx} {h : Heap} {l : List (K × AV)} {kvs : List (K × Value)} (x : KVs X h l kvs) : kvs.length = l.length := by
  have := congrArg List.length x.1
  simpa using this.symm
end
theorem wpAny_contains_of {M : Model} {A : Around} {E : Value → Shared → Prop} {s : Shared} {d key : Value} {Q : Bool → Shared → Prop} (h : wpAny M A (compareOp .In key d) (fun v s' => ∃ b, v = .bool b ∧ Q b s') E s) : wpAny M A (contains d key) Q E s := fun Γ p hΓ => by
  have h1 : PySem.Sem.wp M Γ (do return Value.bool (← contains d key)) (fun v _ s' => ∃ b, v = .bool b ∧ Q b s') (fun e _ s' => E e s') p s := h Γ p hΓ
  simp only [Sem.wp_bind', Sem.wp_pure'] at h1
  exact Sem.wp_mono M Γ _ (fun b p' s' ⟨c, e, q⟩ => by injection e with e; subst e; exact q) (fun _ _ _ e => e) p s h1
theorem notIn_of {M : Model} {A : Around} {E : Value → Shared → Prop} {s : Shared} {d key : Value} {Q : Value → Shared → Prop} (h : wpAny M A (compareOp .In key d) (fun v s' => ∃ b, v = .bool b ∧ Q (.bool (!b)) s') E s) : wpAny M A (compareOp .NotIn key d) Q E s := by
  show wpAny _ _ (do return .bool (!(← contains d key))) Q E s
  exact wpAny_bind (wpAny_mono (wpAny_contains_of h) (fun b s' q => wpAny_pure q) fun _ _ e => e)
section
variable {X : Cx} {A : Around} {env : Env} {ρ : List (Str × AV)} {σ τ φ : Store} {E : Store → Value → Shared → Prop} {Es : Store → Prop} {s : Shared} {Q : AV → Store → Prop}
theorem Okf.low (x : Okf X A φ σ s) : (s.heap.objs.size == sysModules) = false := beq_eq_false_iff_ne.mpr (Nat.ne_of_gt (modules_low (X.lim.keeps x.keep)))
noncomputable def emptyD : AO → Prop
  | .sdict [] => True
  | .idict [] => True
  | .tdict [] => True
  | _ => False
theorem OR_emptyD {h : Heap} {o : AO} (ho : emptyD o) (hs : (h.objs.size == sysModules) = false) : OR X (h.push { cls := .type "dict", data := .dict #[] }) h.objs.size o := by
  cases o with
  | sdict l => cases l with
    | nil => exact ⟨[], Heap.DictOf.new h, KVs.nil, hs⟩
    | cons _ _ => exact ho.elim
  | idict l => cases l with
    | nil => exact ⟨[], Heap.DictOf.new h, KVs.nil, hs⟩
    | cons _ _ => exact ho.elim
  | tdict l => cases l with
    | nil => exact ⟨[], Heap.DictOfH.new h, KVs.nil, (fun _ hx => by simp at hx), hs⟩
    | cons _ _ => exact ho.elim
  | ns _ => exact ho.elim
  | cell _ => exact ho.elim
  | list _ => exact ho.elim
  | raw _ => exact ho.elim
  | titer _ => exact ho.elim
  | tupg _ => exact ho.elim
theorem EV_Dict0 {pos : Pos} (o : AO) (ho : emptyD o) (h : ∀ D, σ D = none → Q (.ref D) (σ.set D o)) : EV X A env ρ (.Dict [] [] pos) σ Q E := fun φ s F =>
  wpAny_Dict_empty ⟨.ref _, _, VR_con _ _, F.alloc (tk := s.toks) push_keeps (Nat.le_refl _) (OR_emptyD ho F.okf.low), Kept.of_keeps push_keeps, h _ (F.okf.free2 (Nat.le_refl _)).1⟩
/-- pairs of a display -/
theorem evalPairs_EVs {pos : Pos} : ∀ {ps : List (Expr × Expr)} {σ : Store} {Q : List AV → Store → Prop}, EVs X A env ρ (ps.flatMap fun p => [p.1, p.2]) σ Q E →
    XE (fun h Vs (vs : List (Value × Value)) => VRs X h Vs (vs.flatMap fun p => [p.1, p.2])) X A env ρ (evalPairs (ps.map fun p => (eval p.1 env, do let x ← eval p.2 env; standAt pos; pure x))) σ Q E
  | [], σ, Q, h => fun φ s F => evalPairs_nil ⟨[], σ, .nil, F, .refl _, h⟩
  | (k, v) :: r, σ, Q, h => fun φ s F => by
    refine evalPairs_cons (XE.use (show EV X A env ρ k σ _ E from h) F fun a V σ₁ s₁ ha F₁ k₁ h₁ => wpAny_bind (XE.use (show EV X A env ρ v σ₁ _ E from h₁) F₁ fun b U σ₂ s₂ hb F₂ k₂ h₂ => wpAny_bind (wpAny_standAt (wpAny_pure ?_))))
    refine (evalPairs_EVs (ps := r) h₂).use F₂ fun vs Vs σ₃ s₃ hvs F₃ k₃ h₃ => ?_
    exact ⟨V :: U :: Vs, σ₃, .cons (VR.mono (k₂.trans k₃) V a ha) (.cons (VR.mono k₃ U b hb) hvs), F₃, k₁.trans (k₂.trans k₃), h₃⟩
/-- a store of an item -/
noncomputable def SetS (X : Cx) (A : Around) (env : Env) (ρ : List (Str × AV)) (O I V : AV) (σ : Store) (Q : Store → Prop) (E : Store → Value → Shared → Prop) : Prop :=
  ∀ φ s o i v, VR X s.heap O o → VR X s.heap I i → VR X s.heap V v → Fst X A env ρ φ σ s → wpAny (model X.prog X.w) A (setItem o i v) (fun _ s' => ∃ σ', Fst X A env ρ φ σ' s' ∧ Kept X s.heap s'.heap ∧ Q σ') (E φ) s
theorem ES_SetItem {o i value : Expr} {pos' pos : Pos} {Q : AF → List (Str × AV) → Store → Prop}
    (h : EV X A env ρ value σ (fun V σ₁ => EV X A env ρ o σ₁ (fun O σ₂ => EV X A env ρ i σ₂ (fun I σ₃ => SetS X A env ρ O I V σ₃ (fun σ₄ => Q .next ρ σ₄) E) E) E) E)
    (hs : swapsWith value (some (.Subscript o i pos')) pos.line env = pure false := by rfl) : ES X A env ρ (.Assign [.Subscript o i pos'] value pos) σ Q E := fun φ s F =>
  wpAny_Assign_Subscript (h.use F fun a V σ₁ s₁ ha F₁ k₁ h₁ => h₁.use F₁ fun b O σ₂ s₂ hb F₂ k₂ h₂ => h₂.use F₂ fun c I σ₃ s₃ hc F₃ k₃ h₃ =>
    wpAny_mono (h₃ φ s₃ b c a (VR.mono k₃ O b hb) hc (VR.mono (k₂.trans k₃) V a ha) F₃) (fun _ s₄ ⟨σ₄, F₄, k₄, h₄⟩ => ⟨.next, ρ, σ₄, rfl, F₄, k₁.trans (k₂.trans (k₃.trans k₄)), h₄⟩) fun _ _ e => e) hs
theorem isStrOf_self {x : Str} {t : Tok} : (strKind X.prog X.w).is x (.str x t) = true := by
  show Value.isStrOf x (.str x t) = true
  simp [Value.isStrOf]
theorem isInt_self {x : Int} {t : Tok} : (intKind X.prog X.w).is x (.int x t) = true := by
  show Value.isInt x (.int x t) = true
  simp [Value.isInt]

/-! tables of text keys -/
theorem carriesS {h : Heap} {l : List (Str × AV)} : ∀ {vs : List (Value × Value)}, VRs X h (l.flatMap fun p => [.str p.1, p.2]) (vs.flatMap fun p => [p.1, p.2]) → ∃ kvs, Carries (strKind X.prog X.w) vs kvs ∧ KVs X h l kvs := by
  induction l with
  | nil =>
    intro vs e
    cases vs with
    | nil => exact ⟨[], trivial, KVs.nil⟩
    | cons q r => obtain ⟨a, b⟩ := q; exact absurd (show (_ : List Value) = [] from e) (by simp)
  | cons p l ih =>
    intro vs e
    obtain ⟨k, V⟩ := p
    cases vs with
    | nil => obtain ⟨_, _, e, _⟩ := e; simp at e
    | cons q r =>
    obtain ⟨a, b⟩ := q
    obtain ⟨a', _, e, ha, b', _, e', hb, hr⟩ := e
    simp at e
    obtain ⟨e1, e2⟩ := e
    subst e1; subst e2
    simp at e'
    obtain ⟨e1, e2⟩ := e'
    subst e1; subst e2
    obtain ⟨t, rfl⟩ := ha
    obtain ⟨kvs, hc, hk⟩ := ih hr
    exact ⟨(k, b) :: kvs, ⟨by first | exact isStrOf_self | exact isInt_self, rfl, hc⟩, KVs.cons hb hk⟩
theorem EV_DictS {keys : List (Option Expr)} {values : List Expr} {pos : Pos} (ps : List (Expr × Expr)) (h0 : ps ≠ []) (hlen : ps.length ≤ 15)
    (hshape : (evalEachOpt keys env).zip ((evalEach values env).map fun v => do let x ← v; standAt pos; pure x) = (ps.map fun p => (eval p.1 env, do let x ← eval p.2 env; standAt pos; pure x)).map fun p => (some p.1, p.2))
    (h : ∀ D, σ D = none → EVs X A env ρ (ps.flatMap fun p => [p.1, p.2]) (σ.set D (.sdict [])) (fun Vs σ₁ => ∃ l, Vs = (l.flatMap fun p => [.str p.1, p.2]) ∧ σ₁ D = some (.sdict []) ∧ Q (.ref D) (σ₁.set D (.sdict (mergeK [] l)))) E) :
    EV X A env ρ (.Dict keys values pos) σ Q E := fun φ s F => by
  have G := F.alloc (tk := s.toks) (h' := s.heap.push { cls := .type "dict", data := .dict #[] }) push_keeps (Nat.le_refl _) (OR_emptyD (X := X) (o := .sdict []) trivial F.okf.low)
  refine wpAny_Dict_pairs (knd := strKind X.prog X.w) hshape (by simpa using h0) (by simpa using hlen) ?_
  refine XE.use (evalPairs_EVs (pos := pos) (h s.heap.objs.size (F.okf.free2 (Nat.le_refl _)).1)) G fun vs Vs σ₁ s₁ hvs F₁ k₁ h₁ => ?_
  obtain ⟨l, rfl, hD, hq⟩ := h₁
  obtain ⟨kvs, hc, hk⟩ := carriesS hvs
  obtain ⟨kvs0, hd0, hk0, hs0⟩ := F₁.sto hD
  obtain rfl := hk0.nil_inv
  refine ⟨kvs, hc, hd0, fun h' hd' hs' => ?_⟩
  have kk := kept_same (F₁.sto hD) hs'
  have z := F₁.upd (tk := s₁.toks + vs.length) hD hs' (show OR X h' _ (.sdict (mergeK [] l)) from ⟨_, hd', (KVs.merged KVs.nil hk).mono kk, hs0⟩)
  exact ⟨.ref _, _, VR_con _ _, z.1, (Kept.of_keeps push_keeps).trans (k₁.trans kk), hq⟩
theorem op_in_s {d : Addr} {k : Str} {l : List (Str × AV)} (hd : σ d = some (.sdict l)) (h : Q (.bool (lookK l k).isSome) σ) : Op2 X A env ρ (VR X) (compareOp .In) (.str k) (.ref d) σ Q E := fun φ s x y hx hy F => by
  obtain ⟨t, rfl⟩ := hx
  obtain rfl : y = .ref d := hy
  obtain ⟨kvs, hm, hk, hs⟩ := F.sto hd
  refine wpAny_in_of (knd := strKind X.prog X.w) (k := k) (by first | exact isStrOf_self | exact isInt_self) hs hm.mapOf ?_
  have := hk.look k
  refine ⟨_, σ, VR_con _ _, F.toks, .refl _, ?_⟩
  have e : (valueAt kvs k).isSome = (lookK l k).isSome := by
    unfold valueAt
    cases q : lookK l k with
    | none => rw [q] at this; rw [this.none]; rfl
    | some V => rw [q] at this; obtain ⟨u, hu, _⟩ := this.some; rw [hu]; rfl
  rw [e]; exact h
theorem op_notin_s {d : Addr} {k : Str} {l : List (Str × AV)} (hd : σ d = some (.sdict l)) (h : Q (.bool (!(lookK l k).isSome)) σ) : Op2 X A env ρ (VR X) (compareOp .NotIn) (.str k) (.ref d) σ Q E := fun φ s x y hx hy F => by
  refine notIn_of (wpAny_mono ((op_in_s (Q := fun V σ' => V = .bool (lookK l k).isSome ∧ σ' = σ) hd ⟨rfl, rfl⟩) φ s x y hx hy F) (fun v s' hh => ?_) fun _ _ e => e)
  obtain ⟨V, σ', hv, F', k', rfl, rfl⟩ := hh
  exact ⟨_, hv, _, _, VR_con _ _, F', k', h⟩
theorem it_s {d : Addr} {k : Str} {l : List (Str × AV)} {V : AV} (hd : σ d = some (.sdict l)) (hV : lookK l k = some V) (h : Q V σ) : ItS X A env ρ (.ref d) (.str k) σ Q E := fun φ s x y hx hy F => by
  obtain rfl : x = .ref d := hx
  obtain ⟨t, rfl⟩ := hy
  obtain ⟨kvs, hm, hk, hs⟩ := F.sto hd
  have := hk.look k
  rw [hV] at this
  obtain ⟨u, hu, hV⟩ := this.some
  exact ⟨⟨"dict", _, hm.typeIs, slot_dict_getitem.lookup⟩, wpAny_getItem_of (knd := strKind X.prog X.w) (k := k) (by first | exact isStrOf_self | exact isInt_self) hm.mapOf hu ⟨V, σ, hV, F.toks, .refl _, h⟩⟩
theorem set_s {d : Addr} {k : Str} {l : List (Str × AV)} {V : AV} {Q : Store → Prop} (hd : σ d = some (.sdict l)) (hz : l.length ≤ 10000) (h : Q (σ.set d (.sdict (storeK l k V)))) : SetS X A env ρ (.ref d) (.str k) V σ Q E := fun φ s x y v hx hy hv F => by
  obtain rfl : x = .ref d := hx
  obtain ⟨t, rfl⟩ := hy
  obtain ⟨kvs, hm, hk, hs⟩ := F.sto hd
  refine wpAny_setItem_pairs (knd := strKind X.prog X.w) (k := k) (by first | exact isStrOf_self | exact isInt_self) hm (fun h' hm' hs' => ?_) (by rw [hk.length, sizeLine_eq]; omega)
  have kk := kept_same (F.sto hd) hs'
  have z := F.upd (tk := s.toks + 1) hd hs' (show OR X h' d (.sdict (storeK l k V)) from ⟨_, hm', (hk.stored hv).mono kk, hs⟩)
  exact ⟨_, z.1, z.2, h⟩

/-! tables of int keys -/
theorem carriesI {h : Heap} {l : List (Int × AV)} : ∀ {vs : List (Value × Value)}, VRs X h (l.flatMap fun p => [.int p.1, p.2]) (vs.flatMap fun p => [p.1, p.2]) → ∃ kvs, Carries (intKind X.prog X.w) vs kvs ∧ KVs X h l kvs := by
  induction l with
  | nil =>
    intro vs e
    cases vs with
    | nil => exact ⟨[], trivial, KVs.nil⟩
    | cons q r => obtain ⟨a, b⟩ := q; exact absurd (show (_ : List Value) = [] from e) (by simp)
  | cons p l ih =>
    intro vs e
    obtain ⟨k, V⟩ := p
    cases vs with
    | nil => obtain ⟨_, _, e, _⟩ := e; simp at e
    | cons q r =>
    obtain ⟨a, b⟩ := q
    obtain ⟨a', _, e, ha, b', _, e', hb, hr⟩ := e
    simp at e
    obtain ⟨e1, e2⟩ := e
    subst e1; subst e2
    simp at e'
    obtain ⟨e1, e2⟩ := e'
    subst e1; subst e2
    obtain ⟨t, rfl⟩ := ha
    obtain ⟨kvs, hc, hk⟩ := ih hr
    exact ⟨(k, b) :: kvs, ⟨by first | exact isStrOf_self | exact isInt_self, rfl, hc⟩, KVs.cons hb hk⟩
theorem EV_DictI {keys : List (Option Expr)} {values : List Expr} {pos : Pos} (ps : List (Expr × Expr)) (h0 : ps ≠ []) (hlen : ps.length ≤ 15)
    (hshape : (evalEachOpt keys env).zip ((evalEach values env).map fun v => do let x ← v; standAt pos; pure x) = (ps.map fun p => (eval p.1 env, do let x ← eval p.2 env; standAt pos; pure x)).map fun p => (some p.1, p.2))
    (h : ∀ D, σ D = none → EVs X A env ρ (ps.flatMap fun p => [p.1, p.2]) (σ.set D (.idict [])) (fun Vs σ₁ => ∃ l, Vs = (l.flatMap fun p => [.int p.1, p.2]) ∧ σ₁ D = some (.idict []) ∧ Q (.ref D) (σ₁.set D (.idict (mergeK [] l)))) E) :
    EV X A env ρ (.Dict keys values pos) σ Q E := fun φ s F => by
  have G := F.alloc (tk := s.toks) (h' := s.heap.push { cls := .type "dict", data := .dict #[] }) push_keeps (Nat.le_refl _) (OR_emptyD (X := X) (o := .idict []) trivial F.okf.low)
  refine wpAny_Dict_pairs (knd := intKind X.prog X.w) hshape (by simpa using h0) (by simpa using hlen) ?_
  refine XE.use (evalPairs_EVs (pos := pos) (h s.heap.objs.size (F.okf.free2 (Nat.le_refl _)).1)) G fun vs Vs σ₁ s₁ hvs F₁ k₁ h₁ => ?_
  obtain ⟨l, rfl, hD, hq⟩ := h₁
  obtain ⟨kvs, hc, hk⟩ := carriesI hvs
  obtain ⟨kvs0, hd0, hk0, hs0⟩ := F₁.sto hD
  obtain rfl := hk0.nil_inv
  refine ⟨kvs, hc, hd0, fun h' hd' hs' => ?_⟩
  have kk := kept_same (F₁.sto hD) hs'
  have z := F₁.upd (tk := s₁.toks + vs.length) hD hs' (show OR X h' _ (.idict (mergeK [] l)) from ⟨_, hd', (KVs.merged KVs.nil hk).mono kk, hs0⟩)
  exact ⟨.ref _, _, VR_con _ _, z.1, (Kept.of_keeps push_keeps).trans (k₁.trans kk), hq⟩
theorem op_in_i {d : Addr} {k : Int} {l : List (Int × AV)} (hd : σ d = some (.idict l)) (h : Q (.bool (lookK l k).isSome) σ) : Op2 X A env ρ (VR X) (compareOp .In) (.int k) (.ref d) σ Q E := fun φ s x y hx hy F => by
  obtain ⟨t, rfl⟩ := hx
  obtain rfl : y = .ref d := hy
  obtain ⟨kvs, hm, hk, hs⟩ := F.sto hd
  refine wpAny_in_of (knd := intKind X.prog X.w) (k := k) (by first | exact isStrOf_self | exact isInt_self) hs hm.mapOf ?_
  have := hk.look k
  refine ⟨_, σ, VR_con _ _, F.toks, .refl _, ?_⟩
  have e : (valueAt kvs k).isSome = (lookK l k).isSome := by
    unfold valueAt
    cases q : lookK l k with
    | none => rw [q] at this; rw [this.none]; rfl
    | some V => rw [q] at this; obtain ⟨u, hu, _⟩ := this.some; rw [hu]; rfl
  rw [e]; exact h
theorem op_notin_i {d : Addr} {k : Int} {l : List (Int × AV)} (hd : σ d = some (.idict l)) (h : Q (.bool (!(lookK l k).isSome)) σ) : Op2 X A env ρ (VR X) (compareOp .NotIn) (.int k) (.ref d) σ Q E := fun φ s x y hx hy F => by
  refine notIn_of (wpAny_mono ((op_in_i (Q := fun V σ' => V = .bool (lookK l k).isSome ∧ σ' = σ) hd ⟨rfl, rfl⟩) φ s x y hx hy F) (fun v s' hh => ?_) fun _ _ e => e)
  obtain ⟨V, σ', hv, F', k', rfl, rfl⟩ := hh
  exact ⟨_, hv, _, _, VR_con _ _, F', k', h⟩
theorem it_i {d : Addr} {k : Int} {l : List (Int × AV)} {V : AV} (hd : σ d = some (.idict l)) (hV : lookK l k = some V) (h : Q V σ) : ItS X A env ρ (.ref d) (.int k) σ Q E := fun φ s x y hx hy F => by
  obtain rfl : x = .ref d := hx
  obtain ⟨t, rfl⟩ := hy
  obtain ⟨kvs, hm, hk, hs⟩ := F.sto hd
  have := hk.look k
  rw [hV] at this
  obtain ⟨u, hu, hV⟩ := this.some
  exact ⟨⟨"dict", _, hm.typeIs, slot_dict_getitem.lookup⟩, wpAny_getItem_of (knd := intKind X.prog X.w) (k := k) (by first | exact isStrOf_self | exact isInt_self) hm.mapOf hu ⟨V, σ, hV, F.toks, .refl _, h⟩⟩
theorem set_i {d : Addr} {k : Int} {l : List (Int × AV)} {V : AV} {Q : Store → Prop} (hd : σ d = some (.idict l)) (hz : l.length ≤ 10000) (h : Q (σ.set d (.idict (storeK l k V)))) : SetS X A env ρ (.ref d) (.int k) V σ Q E := fun φ s x y v hx hy hv F => by
  obtain rfl : x = .ref d := hx
  obtain ⟨t, rfl⟩ := hy
  obtain ⟨kvs, hm, hk, hs⟩ := F.sto hd
  refine wpAny_setItem_pairs (knd := intKind X.prog X.w) (k := k) (by first | exact isStrOf_self | exact isInt_self) hm (fun h' hm' hs' => ?_) (by rw [hk.length, sizeLine_eq]; omega)
  have kk := kept_same (F.sto hd) hs'
  have z := F.upd (tk := s.toks + 1) hd hs' (show OR X h' d (.idict (storeK l k V)) from ⟨_, hm', (hk.stored hv).mono kk, hs⟩)
  exact ⟨_, z.1, z.2, h⟩
end
end Mine
end
section
set_option Elab.async false
set_option maxRecDepth 100000
set_option linter.unusedVariables false
open PySem PySem.W PySem.Calls PyProof.Rows PySem.SeqAt
namespace Mine
noncomputable def keyAV : OpKey → AV
  | .inl x => .str x
  | .inr i => .int i
theorem itemsAre_key {X : Cx} {h : Heap} : ∀ {ks : List OpKey} {vs : List Value}, VRs X h (ks.map keyAV) vs → PySem.ItemsAre (opKind X.prog X.w) ks vs
  | [], _, e => by rw [show _ = [] from e]; exact .nil
  | .inl x :: ks, _, ⟨v, vs', e, ⟨t, hv⟩, hr⟩ => by subst e; subst hv; exact .cons (by show Value.isStrOf x (.str x t) = true; simp [Value.isStrOf]) (itemsAre_key hr)
  | .inr x :: ks, _, ⟨v, vs', e, ⟨t, hv⟩, hr⟩ => by subst e; subst hv; exact .cons (by show Value.isInt x (.int x t) = true; simp [Value.isInt]) (itemsAre_key hr)
theorem isKey {X : Cx} {h : Heap} {ks : List OpKey} {v : Value} (x : VR X h (.tup (ks.map keyAV)) v) : ∃ a, v = .ref a ∧ IsTupleKey (opKind X.prog X.w) h ks a ∧ ¬ X.own a := by
  obtain ⟨a, i, rfl, ht, hi⟩ := x
  obtain ⟨o, ho, hc, n, hd⟩ := ht.1
  exact ⟨a, rfl, ⟨o, i, n, ho, hc, hd, itemsAre_key hi⟩, ht.2⟩
section
variable {X : Cx} {h : Heap}
theorem atKey_look (k : List OpKey) : ∀ {l : List (List OpKey × AV)} {xs : List (List OpKey × Addr × Value)}, KVs X h l (xs.map fun x => (x.1, x.2.2)) → OpR X h (lookK l k) ((atKey xs k).map (·.2))
  | [], [], _ => trivial
  | [], _ :: _, x => by have := x.nil_inv; simp at this
  | (k', V) :: l, [], x => by obtain ⟨v, r, e, _⟩ := x.cons_inv; simp at e
  | (k', V) :: l, (k2, a, v2) :: xs, x => by
    obtain ⟨v, r, e, hv, hr⟩ := x.cons_inv
    simp at e
    obtain ⟨⟨e1, e2⟩, e3⟩ := e
    subst e1; subst e2; subst e3
    unfold lookK atKey
    rw [List.find?_cons, List.find?_cons]
    by_cases q : k2 = k
    · simp [q]; exact hv
    · simp [q]
      have := atKey_look k hr
      unfold lookK atKey at this
      simpa using this
theorem atKey_some (k : List OpKey) {l : List (List OpKey × AV)} {xs : List (List OpKey × Addr × Value)} (x : KVs X h l (xs.map fun x => (x.1, x.2.2))) : (atKey xs k).isSome = (lookK l k).isSome := by
  have := atKey_look k x
  cases q : lookK l k with
  | none =>
    rw [q] at this
    have := this.none
    cases z : atKey xs k with
    | none => rfl
    | some p => rw [z] at this; cases this
  | some V =>
    rw [q] at this
    obtain ⟨u, hu, _⟩ := this.some
    cases z : atKey xs k with
    | none => rw [z] at hu; cases hu
    | some p => rfl
end
section
variable {X : Cx} {A : Around} {env : Env} {ρ : List (Str × AV)} {σ τ φ : Store} {E : Store → Value → Shared → Prop} {Es : Store → Prop} {s : Shared} {Q : AV → Store → Prop}
theorem op_in_t {d : Addr} {ks : List OpKey} {l : List (List OpKey × AV)} (hu : A.units + 1 < cLine) (hd : σ d = some (.tdict l)) (h : Q (.bool (lookK l ks).isSome) σ) : Op2 X A env ρ (VR X) (compareOp .In) (.tup (ks.map keyAV)) (.ref d) σ Q E := fun φ s x y hx hy F => by
  obtain ⟨a, rfl, hk, _⟩ := isKey hx
  obtain rfl : y = .ref d := hy
  obtain ⟨xs, hm, hkv, hw, hs⟩ := F.sto hd
  refine wpAny_in_heap (knd := tupleKind (opKind X.prog X.w)) (tupleKind_room_in1 hu) hk hs hm ?_
  rw [atKey_some ks hkv]
  exact ⟨_, σ, VR_con _ _, F.toks, .refl _, h⟩
theorem it_t {d : Addr} {ks : List OpKey} {l : List (List OpKey × AV)} {V : AV} (hu : A.units + 1 < cLine) (hd : σ d = some (.tdict l)) (hV : lookK l ks = some V) (h : Q V σ) : ItS X A env ρ (.ref d) (.tup (ks.map keyAV)) σ Q E := fun φ s x y hx hy F => by
  obtain rfl : x = .ref d := hx
  obtain ⟨a, rfl, hk, _⟩ := isKey hy
  obtain ⟨xs, hm, hkv, hw, hs⟩ := F.sto hd
  have := atKey_look ks hkv
  rw [hV] at this
  obtain ⟨u, hu', hr⟩ := this.some
  cases z : atKey xs ks with
  | none => rw [z] at hu'; cases hu'
  | some p =>
    rw [z] at hu'
    have e : p.2 = u := by simpa using hu'
    exact ⟨⟨"dict", _, hm.typeIs, slot_dict_getitem.lookup⟩, wpAny_getItem_heap (knd := tupleKind (opKind X.prog X.w)) (tupleKind_room_in1 hu) hk hm z ⟨V, σ, by rw [e]; exact hr, F.toks, .refl _, h⟩⟩
/-- a new key -/
theorem set_t {d : Addr} {ks : List OpKey} {l : List (List OpKey × AV)} {V : AV} {Q : Store → Prop} (hu : A.units + 1 < cLine) (hd : σ d = some (.tdict l)) (hz : l.length ≤ 10000) (hn : lookK l ks = none) (h : Q (σ.set d (.tdict (l ++ [(ks, V)])))) :
    SetS X A env ρ (.ref d) (.tup (ks.map keyAV)) V σ Q E := fun φ s x y v hx hy hv F => by
  obtain rfl : x = .ref d := hx
  obtain ⟨a, rfl, hk, hown⟩ := isKey hy
  obtain ⟨xs, hm, hkv, hw, hs⟩ := F.sto hd
  have hlen : xs.length = l.length := by have := hkv.length; simpa using this
  refine wpAny_setItem_heap (knd := tupleKind (opKind X.prog X.w)) (tupleKind_room_in1 hu) hk hm (fun h' hm' hs' => ?_) (by rw [hlen, sizeLine_eq]; omega)
  have kk := kept_same (F.sto hd) hs'
  have hat : atKey xs ks = none := by
    have := atKey_some ks hkv
    rw [hn] at this
    cases z : atKey xs ks with
    | none => rfl
    | some p => rw [z] at this; cases this
  rw [storedH_new hat] at hm'
  have z := F.upd (tk := s.toks + (tupleKind (opKind X.prog X.w)).draws ks) hd hs' (show OR X h' d (.tdict (l ++ [(ks, V)])) from
    ⟨_, hm', by rw [List.map_append]; exact (KVs.snoc hv hkv).mono kk, fun x hx => by
      rcases List.mem_append.mp hx with hx | hx
      · exact hw x hx
      · obtain rfl := List.mem_singleton.mp hx; exact hown, hs⟩)
  exact ⟨_, z.1, z.2, h⟩
theorem WC_get_t {d : Addr} {ks : List OpKey} {l : List (List OpKey × AV)} {V : AV} (hu : A.units + 1 < cLine) (hd : σ d = some (.tdict l)) (h : Q ((lookK l ks).getD V) σ) : WC X A (.builtin "dict.get") [.ref d, .tup (ks.map keyAV), V] σ Q Es := fun φ s vs x hv => by
  obtain ⟨v, u, t, rfl, h1, h2, h3⟩ := vrs3 hv
  obtain rfl : v = .ref d := h1
  obtain ⟨a, rfl, hk, hown⟩ := isKey h2
  obtain ⟨xs, hm, hkv, hw, hs⟩ := x.sto hd
  refine call_meetsIn PySem.F.slot_dict_get hm.typeIs PySem.F.entry_dict_get (PySem.F.args_dict_get_3 _ _ _) (meetsH_dict_get_default (tupleKind (opKind X.prog X.w)) d a hs t) ⟨tupleKind_room_in1 hu, ks, xs, hk, hm, ?_⟩
  refine ⟨_, σ, ?_, x.toks, .refl _, h⟩
  have := atKey_look ks hkv
  cases q : lookK l ks with
  | none => rw [q] at this; rw [this.none]; exact h3
  | some W => rw [q] at this; obtain ⟨u, hu', hr⟩ := this.some; rw [hu']; exact hr
theorem GetM_tdict {d : Addr} {l : List (List OpKey × AV)} : σ d = some (.tdict l) → GetM X A (.ref d) "get" (.builtin "dict.get") σ := fun hd φ s a pl Q E ha x h => by
  obtain rfl : a = .ref d := ha
  obtain ⟨xs, ⟨o, es, ep, ho, hex, hr⟩, hkv, hw, hs⟩ := x.sto hd
  exact getMethod_builtin ⟨o, ho, hex.1⟩ PySem.F.plainAttrs_dict PySem.F.slot_dict_get PySem.F.type_dict_get (fun a e => by cases e; exact ⟨o, ho, hex.2.1⟩) h
/-! sorted keys of a table -/
theorem keys_ints {h : Heap} {vs : List Value} {kvs : List (Int × Value)} : ∀ {l : List (Int × AV)}, KVs X h l kvs → vs.length = kvs.length → (∀ (j : Nat) (v : Value), vs[j]? = some v → ∃ k x, kvs[j]? = some (k, x) ∧ (intKind X.prog X.w).is k v = true) → IntsAre vs (l.map (·.1)) := by
  intro l
  induction l generalizing vs kvs with
  | nil => intro hk hl _; have := hk.nil_inv; subst this; have : vs = [] := List.length_eq_zero_iff.mp (by simpa using hl); subst this; exact .nil
  | cons p l ih =>
    intro hk hl hv
    obtain ⟨k, V⟩ := p
    obtain ⟨v, r, rfl, _, hr⟩ := hk.cons_inv
    cases vs with
    | nil => simp at hl
    | cons u us =>
      obtain ⟨k', x, e, hi⟩ := hv 0 u rfl
      simp at e
      obtain ⟨t, rfl⟩ := Value.isInt_shape (show Value.isInt k' u = true from hi)
      rw [← e.1]
      exact .cons _ t (ih hr (by simpa using hl) fun j w hw => by obtain ⟨k2, x2, e2, h2⟩ := hv (j + 1) w (by simpa using hw); exact ⟨k2, x2, by simpa using e2, h2⟩)
theorem WC_sorted_i {d : Addr} {l : List (Int × AV)} (hh : A.handled = none) (hd : σ d = some (.idict l)) (h64 : l.length < 64) (h : ∀ D (ns : List Int), σ D = none → ns.Perm (l.map (·.1)) → ns.Pairwise (· ≤ ·) → Q (.ref D) (σ.set D (.list (ns.map AV.int)))) :
    WC X A (.builtin "sorted") [.ref d] σ Q Es := fun φ s vs x hv => by
  obtain ⟨v, rfl, hw⟩ := vrs1 hv
  obtain rfl : v = .ref d := hw
  obtain ⟨kvs, hD, hkv, hs⟩ := x.sto hd
  obtain ⟨ep, hat⟩ := hD.dictAt
  have hn : kvs.length ≤ sizeLine := by rw [hkv.length, sizeLine_eq]; omega
  refine call_function_entry kind_sorted plain_sorted entry_sorted (args_sorted1 _) ?_
  unfold Builtin.«sorted»
  refine wpAny_bind (m := checkCount "sorted" 1 1 _) (wpAny_pure ?_)
  refine wpAny_bind (kdu_collect (A := A.in1) (kdl_dict (knd := intKind X.prog X.w) (kvs := kvs) (ep := ep) hs) hh hat hn fun h' tk acc hk hacc => ?_)
  have hl : acc.toList.length = kvs.length := by rw [Array.length_toList]; exact hacc.1
  have hI : IntsAre acc.toList (l.map (·.1)) := keys_ints (vs := acc.toList) hkv hl fun j v e => hacc.2 j v (by rw [← Array.getElem?_toList]; exact e)
  refine wpAny_bind (wpAny_newList ?_ (by rw [hl]; exact hn))
  have y := x.grow (tk := tk) hk
  have hoL : (h'.push { cls := .type "list", data := .seq acc.toList.toArray }).get? h'.objs.size = some (seqObj "list" acc.toList.toArray 0) := Heap.get?_push_size _ rfl
  refine wpAny_bind (wpAny_holding (wpAny_call_entry slot_list_sort ⟨_, hoL, rfl⟩ entry_list_sort (list_sort_tree hoL hI (by rw [hl, hkv.length]; exact h64) fun out ns' a1 a2 a3 => ⟨_, rfl, ?_⟩) (args_list_sort _)))
  obtain ⟨e, he⟩ := sortedHeap_at (vs := acc.toList) (out := out) hoL
  have old : ∀ b o, h'.get? b = some o → (sortedHeap (h'.push { cls := .type "list", data := .seq acc.toList.toArray }) h'.objs.size acc.toList out).get? b = some o := fun b o e => by
    rw [sortedHeap_old (Nat.ne_of_lt (Heap.lt_size e)) (by rw [size_push']; exact Nat.lt_succ_of_lt (Heap.lt_size e))]
    exact push_keeps b o e
  exact wpAny_pure ⟨_, rfl, ⟨.ref _, _, VR_con _ _, y.alloc (tk := tk) old (Nat.le_refl _) (OR.list (vs := out.toList) ⟨e, by rw [he]⟩ (ints_vrs a1)), (Kept.of_keeps hk).trans (Kept.of_keeps old), h _ ns' (y.free2 (Nat.le_refl _)).1 a2 a3⟩⟩
end
end Mine
end
section
set_option Elab.async false
set_option maxRecDepth 100000
set_option linter.unusedVariables false
open PySem PySem.W PySem.Calls PyProof.Rows PySem.SeqAt
namespace Mine
section
variable {X : Cx} {A : Around} {env : Env} {ρ ρ₀ : List (Str × AV)} {σ τ φ ψ : Store} {E : Store → Value → Shared → Prop} {Es : Store → Prop} {Er : List (Str × AV) → Store → Prop} {s : Shared}
noncomputable def CompTurn2 (X : Cx) (A : Around) (cenv : Env) (target : Expr) (RC : List (Str × AV) → Prop) (elt : Expr) (l : List AV) (Inv : Nat → List AV → Store → Prop) : Prop :=
  ∀ i acc σ' V ρ', l[i]? = some V → Inv i acc σ' → RC ρ' → σ' cenv.locals = none →
    OpU X A cenv ρ' (assign target cenv) V σ' (fun ρ₂ σ₂ => RC ρ₂ ∧ EV X A cenv ρ₂ elt σ₂ (fun U σ₃ => Inv (i + 1) (acc ++ [U]) σ₃) (EXF X A cenv NeverF)) (fun _ _ _ => False)

theorem comp_loop2 {elt iter : Expr} {elts : List Expr} {tk : Nat} {tp : Pos} {RC : List (Str × AV) → Prop} {scope : Scope} {pos : Pos} {it : Value} {St : Nat → Store → Prop} {Mid : Nat → Value → Store → Prop} {need : Store → Prop} {hn : Heap → Prop} {l : List AV}
    {cenv : Env} {D : Addr} {h₀ : Heap} {R : Result → Shared → Prop} (Inv : Nat → List AV → Store → Prop) (itr : Itr X A it St Mid need hn l) (hRC : RC [])
    (hlen : l.length ≤ 100000) (hneed : ∀ i acc σ', Inv i acc σ' → need σ') (hturn : CompTurn2 X A cenv (.Tuple elts tk tp) RC elt l Inv)
    (hφD : φ D = none)
    (hend : ∀ acc σ' ρ' s', Inv l.length acc σ' → Fst X A cenv ρ' ((Store.one D (.list acc)).join φ) σ' s' → Kept X h₀ s'.heap → R (.ok .next) s')
    {σ ψ : Store} {s : Shared} (hst : St 0 ψ) (hhn : hn s.heap) (h0 : Inv 0 [] σ) (dψ : Apart ψ ((Store.one D (.list [])).join φ)) (F : Fst X A cenv [] (ψ.join ((Store.one D (.list [])).join φ)) σ s)
    (fr : FrOk A ((Store.one cenv.locals (.ns [])).join φ)) (hφC : φ cenv.locals = none) (hCD : D ≠ cenv.locals) (k₀ : Kept X h₀ s.heap) :
    codeAny (model X.prog X.w) A (.compLoop (.ListComp elt [⟨.Tuple elts tk tp, iter, [], 0⟩] scope pos) 0 it (.ref D) cenv) R s := by
  refine kcp_loop (fun n s' => ∃ i acc σ' ψ' ρ', n = l.length + 1 - i ∧ i ≤ l.length ∧ acc.length ≤ i ∧ RC ρ' ∧ St i ψ' ∧ hn s'.heap ∧ Inv i acc σ' ∧ Apart ψ' ((Store.one D (.list acc)).join φ) ∧
    Fst X A cenv ρ' (ψ'.join ((Store.one D (.list acc)).join φ)) σ' s' ∧ Kept X h₀ s'.heap) ?_ (l.length + 1) ⟨0, [], σ, ψ, [], by omega, by omega, by simp, hRC, hst, hhn, h0, dψ, F, k₀⟩
  intro n s' z0
  refine ex5 z0 fun i acc σ' ψ' ρ' z1 => ?_
  refine an10 z1 fun e_1 hi hacc hρ hst' hhn' hI dψ' F' k' => ?_
  clear z1 z0
  subst e_1
  have aD : ∀ acc, Apart (Store.one D (.list acc)) φ := fun acc => apart_one_of' hφD
  have frD : ∀ acc ρ, FrOk A ((Store.one cenv.locals (.ns ρ)).join ((Store.one D (.list acc)).join φ)) := fun acc ρ => by
    have : Apart (Store.one D (.list acc)) (Store.one cenv.locals (.ns ρ)) := apart_one (by unfold Store.one; exact if_neg (Ne.symm hCD))
    rw [← join_swap this]
    exact fr.names.under (this.join (aD acc))
  obtain ⟨F₁, a₁⟩ := F'.in dψ' (frD acc [])
  by_cases hlt : i < l.length
  · obtain ⟨V, hV⟩ : ∃ V, l[i]? = some V := ⟨l[i], by simp [hlt]⟩
    refine itr.item hV hst' (hneed _ _ _ hI) hhn' a₁ F₁.okf fun v s₂ ψ₂ hv hm a₂ x₂ k₂ => ?_
    have F₂ := Fst.of_okf (ρ := ρ') F₁.off.1 x₂
    refine itr.go hm a₂ F₂.okf fun s₂' ψ₂ hst2 a₂ x₂' k₂' => ?_
    have F₂ := Fst.of_okf (ρ := ρ') F₂.off.1 x₂'
    obtain ⟨G, aG⟩ := F₂.out a₂
    refine wpAny_mono (hturn i acc σ' V ρ' hV hI hρ G.off.2 _ s₂' v (VR.mono k₂' V v hv) G) (fun _ s₅ ⟨ρ₅, σ₅, F₅, k₃, hρ5, h₅⟩ => ?_) fun _ _ e => e.elim
    have a₄ := aG
    have hhn5 : hn s₅.heap := itr.keeps ((k₂.trans k₂').trans k₃) hhn'
    have k5 : Kept X h₀ s₅.heap := k'.trans ((k₂.trans k₂').trans k₃)
    refine wpAny_mono (XE.use h₅ F₅ fun u U σ₆ s₆ hu F₆ k₆ h₆ => ?_) (fun _ _ q => q) fun e s' h => (EXF.never h).elim
    have hDψ : Apart (Store.one D (.list acc)) ψ₂ := a₄.left.swap
    rw [join_swap a₄.left] at F₆
    have hψC : ψ₂ cenv.locals = none := (join_none F₅.off.1).1
    have fr2 : FrOk A ((Store.one cenv.locals (.ns ρ₅)).join (ψ₂.join φ)) := by
      rw [← join_swap (apart_one hψC)]
      exact fr.names.under ((apart_one hψC).join a₄.right)
    obtain ⟨F₇, a₇⟩ := F₆.in (hDψ.join (aD acc)) fr2
    have hσD : σ₆ D = none := by cases q : σ₆ D with
      | none => rfl
      | some p => have := a₇ D p q; rw [one_self] at this; cases this
    refine okf_append (b := D) (l := acc) (V := U) (join_right a₇ (one_self ..)) hu (by omega) F₇.okf fun s₇ x₇ k₇ => ?_
    rw [join_one hσD, set_set, ← join_one hσD] at x₇
    obtain ⟨F₈, a₈⟩ := (Fst.of_okf (ρ := ρ₅) F₇.off.1 x₇).out (apart_one hσD)
    have hD2 : Apart (Store.one D (.list (acc ++ [U]))) ψ₂ := a₈.left
    rw [join_swap hD2] at F₈
    exact ⟨l.length + 1 - (i + 1), by omega, i + 1, acc ++ [U], σ₆, ψ₂, _, rfl, hlt, by simp; omega, hρ5, hst2, itr.keeps (k₆.trans k₇) hhn5, h₆, hD2.swap.join a₄.right, F₈, k5.trans (k₆.trans k₇)⟩
  · have hie : i = l.length := by omega
    subst hie
    refine itr.done rfl hst' (hneed _ _ _ hI) hhn' a₁ F₁.okf fun s₂ x₂ k₂ => ?_
    exact hend acc σ' ρ' s₂ hI (Fst.of_okf F₁.off.1 x₂) (k'.trans k₂)

theorem comp_block2 {elt iter : Expr} {elts : List Expr} {tk : Nat} {tp : Pos} {RC : List (Str × AV) → Prop} {scope : Scope} {cl : List (Str × Addr)} {pos : Pos} {it : Value} {St : Nat → Store → Prop} {Mid : Nat → Value → Store → Prop} {need : Store → Prop} {hn : Heap → Prop} {l : List AV}
    {RR : Value → Addr → Result → Shared → Prop} {E : Value → Shared → Prop} (Inv : Nat → List AV → Store → Prop) (itr : Itr X A it St Mid need hn l) (hRC : RC [])
    (hcell : ∀ y ∈ scope.names, y.2 ≠ .cell) (hkind : scope.kind = .function) (hlen : l.length ≤ 100000) (hneed : ∀ i acc σ', Inv i acc σ' → need σ')
    (hturn : ∀ C, CompTurn2 X A (compEnvC scope cl C env) (.Tuple elts tk tp) RC elt l Inv) (hst : St 0 ψ) (hhn : hn s.heap) (h0 : Inv 0 [] σ) (d : Apart σ ψ) (y : Okf X A φ (σ.join ψ) s)
    (hRR : ∀ D C acc σ' ρ' s', φ D = none → φ C = none → D ≠ C → ¬ X.own C → Inv l.length acc σ' → Okf X A ((Store.one C (.ns ρ')).join ((Store.one D (.list acc)).join φ)) σ' s' → Kept X s.heap s'.heap → RR (.ref D) C (.ok .next) s') :
    wpAny (model X.prog X.w) A (newList []) (fun acc s₃ => wpAny (model X.prog X.w) A (newFunctionEnv scope env.globals cl [] env.qual none .none (some env)) (fun cenv s₄ =>
      codeAny (model X.prog X.w) A (.compStart (.ListComp elt [⟨.Tuple elts tk tp, iter, [], 0⟩] scope pos) 0 it acc { cenv with scope := relabel scope env }) (RR acc cenv.locals) s₄) E s₃) E s := by
  refine wpAny_newList (wpAny_newFunctionEnv hcell (by intro y hy; simp at hy) (fun h₁ hns₁ hsb₁ => ?_) hkind)
  dsimp only at hns₁ hsb₁ ⊢
  have hf := y.free2 (Nat.le_refl _)
  have y₁ := y.alloc (tk := s.toks) (o := .list []) push_keeps (Nat.le_refl _)
    (show OR X (s.heap.push { cls := .type "list", data := .seq ([] : List Value).toArray }) s.heap.objs.size (.list []) from ⟨[], ⟨_, Heap.get?_push_size _ rfl, rfl, _, rfl⟩, ⟨_, Heap.get?_push_size _ rfl⟩, .nil⟩)
  generalize hH2 : s.heap.push { cls := .type "list", dict := none, data := .seq ([] : List Value).toArray } = H2 at hns₁ hsb₁ y₁ ⊢
  have hC : H2.objs.size = s.heap.objs.size + 1 := by rw [← hH2, Heap.size_push]
  have hDC : s.heap.objs.size ≠ H2.objs.size := by rw [hC]; exact Nat.ne_of_lt (Nat.lt_succ_self _)
  have keep : ∀ b o, H2.get? b = some o → h₁.get? b = some o := fun b o e => hsb₁.extBut b o (Nat.ne_of_lt (Heap.lt_size e)) (Heap.get?_push_of_some _ e)
  have hf₁ := y₁.free2 (a := H2.objs.size) (Nat.le_refl _)
  have y₂ := y₁.alloc (tk := s.toks + ([] : List (Str × Value)).length) (a := H2.objs.size) (o := .ns []) keep (Nat.le_refl _) ⟨_, hns₁, fun _ => trivial⟩
  have kk : Kept X s.heap h₁ := (Kept.of_keeps (h' := H2) (by rw [← hH2]; exact push_keeps)).trans (Kept.of_keeps keep)
  rw [← join_one hf₁.1] at y₂
  have F : Fst X A (compEnvC scope cl H2.objs.size env) [] φ ((σ.join ψ).set s.heap.objs.size (.list [])) { s with heap := h₁, toks := s.toks + ([] : List (Str × Value)).length } :=
    ⟨⟨hf₁.2.1, hf₁.1⟩, y₂.aside (apart_one hf₁.1) (y₂.fr.under (apart_one_of hf₁.2.1))⟩
  rw [← join_one hf.1] at F
  obtain ⟨F₁, a₁⟩ := F.out (apart_one hf.1)
  obtain ⟨F₂, a₂⟩ := F₁.out d
  have loop : codeAny (model X.prog X.w) A (.compLoop (.ListComp elt [⟨.Tuple elts tk tp, iter, [], 0⟩] scope pos) 0 it (.ref s.heap.objs.size) (compEnvC scope cl H2.objs.size env)) (RR (.ref s.heap.objs.size) H2.objs.size) { s with heap := h₁, toks := s.toks + ([] : List (Str × Value)).length } :=
    comp_loop2 (h₀ := s.heap) (cenv := compEnvC scope cl H2.objs.size env) Inv itr hRC hlen hneed (hturn _) hf.2.1
      (fun acc σ' ρ' s' hI F' k' => hRR _ _ acc σ' ρ' s' hf.2.1 hf₁.2.1 hDC hf₁.2.2 hI F'.okf k') hst (itr.keeps kk hhn) h0 a₂ F₂ (y₂.fr.under (apart_one_of hf₁.2.1)) hf₁.2.1 hDC kk
  exact codeAny_compStart_list loop (itr.self hst d F₁.okf loop)


noncomputable def CompAt2 (X : Cx) (A : Around) (env : Env) (scope : Scope) (cl : List (Str × Addr)) (target : Expr) (RC : List (Str × AV) → Prop) (elt : Expr) (V : AV) (σ : Store) (Q : Addr → List AV → Store → Prop) : Prop :=
  ∃ (σ₀ : Store) (l : List AV) (need : Store → Prop) (Inv : Nat → List AV → Store → Prop), (∃ plain, Its X A V l plain need σ σ₀) ∧ l.length ≤ 100000 ∧ Inv 0 [] σ₀ ∧ (∀ i acc σ', Inv i acc σ' → need σ') ∧ (∀ C, CompTurn2 X A (compEnvC scope cl C env) target RC elt l Inv) ∧
    ∀ acc σ' D, Inv l.length acc σ' → σ' D = none → Q D acc σ'
theorem EV_ListComp2 {elt iter : Expr} {elts : List Expr} {tk : Nat} {tp : Pos} (RC : List (Str × AV) → Prop) {scope : Scope} {cl : List (Str × Addr)} {pos : Pos} {Q : AV → Store → Prop} (hclos : closureFor scope env = pure cl) (hcell : ∀ y ∈ scope.names, y.2 ≠ .cell)
    (hRC : RC []) (hkind : scope.kind = .function) (hnames : ∀ y ∈ scope.names, y.2 = .local → scope.names.lookup y.1 = some .local)
    (h : EV X A env ρ iter σ (fun V σ₁ => CompAt2 X A env scope cl (.Tuple elts tk tp) RC elt V σ₁ fun D acc σ' => Q (.ref D) (σ'.set D (.list acc))) E)
    (hs : ∀ x, foldedSetIterable iter env x = pure x := by intro _; rfl) : EV X A env ρ (.ListComp elt [⟨.Tuple elts tk tp, iter, [], 0⟩] scope pos) σ Q E := fun φ s F => by
  show wpAny _ A (eval (.ListComp elt [⟨.Tuple elts tk tp, iter, [], 0⟩] scope pos) env) _ _ s
  rw [eval_ListComp]
  refine wpAny_comprehension_free (use := none) rfl hs hclos hkind hnames (h.use F fun a V σ₁ s₁ ha x₁ k₁ h₁ => ?_)
  obtain ⟨σ₀, l, need, Inv, ⟨plain, hIts⟩, hlen, h0, hneed, hturn, hend⟩ := h₁
  refine hIts _ s₁ a ha x₁.okf _ _ fun it St Mid hn ψ s₂ itr hmid hst hhn d y k₂ => ?_
  refine comp_block2 (RR := fun acc C => compPost (model X.prog X.w) A (E φ) none _ acc C) Inv itr hRC hcell hkind hlen hneed hturn hst hhn h0 d y ?_
  intro D C acc σ' ρ' s' hφD hφC hDC hCo hI x' k'
  obtain ⟨M, hM, _⟩ := (x'.ok.sto C _ (join_right x'.apart (join_left (one_self ..)))).1
  refine ⟨M, hM, fun h' hs' => ?_⟩
  have z := x'.back (A := A) (apart_one_of (none_join (one_ne (Ne.symm hDC)) hφC)) (y.fr.under (apart_one_of hφD))
  have z₂ := z.1.lose (tk := s'.toks) (h' := h') z.2 (fun a o e => by
    unfold Store.one at e
    split at e
    · rename_i q; cases e; rw [q]; exact ⟨hCo, rfl⟩
    · cases e) fun b o e hb => hs'.extBut b o (fun q => by rw [q, one_self] at e; cases e) hb
  have z₃ := z₂.1.back (A := A) (apart_one_of hφD) y.fr
  have hD : σ' D = none := by cases q : σ' D with
    | none => rfl
    | some p => have := z₃.2 D p q; rw [one_self] at this; cases this
  rw [join_one hD] at z₃
  exact ⟨.ref D, _, VR_con _ _, Fst.of_okf x₁.off.1 z₃.1, (k₁.trans k₂).trans (k'.trans z₂.2), hend acc σ' D hI hD⟩

/-! while -/
theorem ES_While {test : Expr} {body : List Stmt} {pos : Pos} {Q : AF → List (Str × AV) → Store → Prop} (hr : Here A env) (Inv : Nat → List (Str × AV) → Store → Prop) {n : Nat} (h0 : Inv n ρ σ)
    (h : ∀ n ρ σ, Inv n ρ σ → EB X A env ρ test σ (fun b σ₁ => if b = true then ESs X A env ρ body σ₁ (fun f ρ₂ σ₂ => match f with
        | .next => ∃ m, m < n ∧ Inv m ρ₂ σ₂
        | .cont => ∃ m, m < n ∧ Inv m ρ₂ σ₂
        | .brk => Q .next ρ₂ σ₂
        | .ret V => Q (.ret V) ρ₂ σ₂) (EXF X A env Er) else Q .next ρ σ₁) (EXF X A env Er)) : ES X A env ρ (.While test body [] pos) σ Q (EXF X A env Er) := fun φ s F => by
  refine wpAny_While (codeAny_whileLoop (fun n s' => ∃ ρ' σ', Inv n ρ' σ' ∧ Fst X A env ρ' φ σ' s' ∧ Kept X s.heap s'.heap) ?_ n ⟨ρ, σ, h0, F, .refl _⟩)
  rintro n s' ⟨ρ', σ', hI, F', k'⟩
  have hE : ∀ e s₂, EXF X A env Er φ e s₂ → notedBy (model X.prog X.w) A env (cameBackBy (model X.prog X.w) A env (EXF X A env Er φ)) e s₂ := fun e s₂ q => q.note hr fun s₃ q => q.land hr fun _ z => z
  refine wpAny_mono (XE.use (h n ρ' σ' hI) F' fun a b σ₁ s₁ ha F₁ k₁ h₁ => ?_) (fun _ _ q => q) hE
  obtain rfl : a = b := ha
  cases a with
  | true =>
    rw [if_pos rfl] at h₁
    show wpAny _ _ (execs body env) _ _ _
    refine wpAny_mono (XS.use h₁ F₁ fun a f ρ₂ σ₂ s₂ hf F₂ k₂ h₂ => ?_) (fun _ _ q => q) hE
    have kk := k'.trans (k₁.trans k₂)
    cases f with
    | next => obtain rfl : a = .next := hf; obtain ⟨m, hm, hI2⟩ := h₂; exact ⟨m, hm, ρ₂, σ₂, hI2, F₂, kk⟩
    | cont => obtain rfl : a = .cont := hf; obtain ⟨m, hm, hI2⟩ := h₂; exact ⟨m, hm, ρ₂, σ₂, hI2, F₂, kk⟩
    | brk => obtain rfl : a = .brk := hf; exact ⟨.next, ρ₂, σ₂, rfl, F₂, kk, h₂⟩
    | ret V => obtain ⟨v, rfl, hv⟩ := hf; exact ⟨.ret V, ρ₂, σ₂, ⟨v, rfl, hv⟩, F₂, kk, h₂⟩
  | false =>
    rw [if_neg (by simp)] at h₁
    exact wpAny_execs_nil ⟨.next, ρ', σ₁, rfl, F₁, k'.trans k₁, h₁⟩
end
end Mine
end
section
set_option Elab.async false
set_option maxRecDepth 100000
set_option linter.unusedVariables false
open PySem PySem.W PySem.Calls PyProof.Rows PySem.SeqAt
open AutoSeq1 (wpAny_loadPart')
namespace Mine
/-! enumerate, over a tuple -/
theorem meets_enum_tup (l : Addr) (items : Array Value) (n : Nat) (dct : Option Addr) (sl : Array (Option Value)) :
    Meets (Builtin.«enumerate.__new__» ⟨[.type "enumerate", .ref l], []⟩) (fun _ R s => s.heap.get? l = some { cls := .type "tuple", dict := dct, data := .seq items n, slots := sl } ∧
      R (.ok (.ret (.ref (s.heap.push { cls := .type "tuple_iterator", data := .fields #[.ref l, .int 0 0] }).objs.size)))
        { s with heap := (s.heap.push { cls := .type "tuple_iterator", data := .fields #[.ref l, .int 0 0] }).push { cls := .type "enumerate", data := .fields #[.none, .bool false, .ref s.heap.objs.size, rawInt 0, .none, .none] } }) :=
  .of_wp fun prog w A R s h => by
    obtain ⟨hp, g, d, tk, os⟩ := s; obtain ⟨hl, h⟩ := h
    have hsub := sub_enumerate
    have hL : IsTup (Shared.heap ⟨hp, g, d, tk, os⟩) l items := ⟨_, hl, rfl, n, rfl⟩
    wp_walk using wpAny_loadPart' hl
    refine wpAny_stack_any fun st => wpAny_pure ?_
    split
    · rename_i c _ _ _ _ _
      cases (c == Value.type "enumerate")
      · wp_walk using wpAny_loadPart' hl, PyProof.Rows.iter_tuple hL
        exact ⟨_, rfl, h⟩
      · wp_walk using wpAny_loadPart' hl, PyProof.Rows.iter_tuple hL
        exact ⟨_, rfl, h⟩
    · wp_walk using wpAny_loadPart' hl, PyProof.Rows.iter_tuple hL
      exact ⟨_, rfl, h⟩
section
variable {prog : Program} {w : World} {A : Around} {E : Value → Shared → Prop} {s : Shared}
theorem nextOf_tuple_item {it l : Addr} {i : Nat} {items} {x : Value} {Q : Value → Shared → Prop} (hit : IsTupIter s.heap it l i)
    (hl : IsTup s.heap l items) (hx : items[i]? = some x)
    (hQ : ∀ h', IsTupIter h' it l (i + 1) → Heap.SameBut it s.heap h' → Q x { s with heap := h' }) :
    wpAny (model prog w) A (Builtin.SmallTypes.nextOf (.ref it)) Q E s := by
  obtain ⟨o, ho, hc, hd⟩ := id hit
  obtain ⟨ol, hol, _, nl, hdl⟩ := hl
  unfold Builtin.SmallTypes.nextOf
  refine wpAny_bind (wpAny_callSpecial?_slot (name := Str.ofString "__next__") hit.typeIs slot_tupleiter_next
    (wpAny_call_entry slot_tupleiter_next hit.typeIs entry_tupleiter_next ?_ (args_tupleiter_next _)))
  show wpAny _ _ (field (.ref it) 0 >>= _) _ _ s
  refine wpAny_bind (wpAny_field ho hd (x := .ref l) rfl ?_)
  show wpAny _ _ (if (Value.ref l == Value.none) = true then _ else _) _ _ s
  rw [if_neg (show ¬ ((Value.ref l == Value.none) = true) from Bool.false_ne_true)]
  show wpAny _ _ (field (.ref it) 1 >>= _) _ _ s
  refine wpAny_bind (wpAny_field ho hd (x := .int i 0) rfl ?_)
  show wpAny _ _ (seqItems? (.ref l) >>= _) _ _ s
  refine wpAny_bind (wpAny_seqItems hol hdl ?_)
  simp only [Int.toNat_natCast, hx]
  refine wpAny_bind (wpAny_setField ho hd (by simp) (wpAny_pure ⟨x, rfl, wpAny_pure (hQ _ ?_ (Heap.SameBut.update ..))⟩))
  exact ⟨_, Heap.get?_update_self _ ho (Obj.isFreed_of_fields (Obj.data_mapFields hd _)), (Obj.cls_mapFields ..).trans hc, by
    rw [Obj.data_mapFields hd]; simp [rawInt]⟩
theorem nextOf_tuple_end {it l : Addr} {i : Nat} {items} {Q : Value → Shared → Prop} (hh : A.handled = none)
    (hit : IsTupIter s.heap it l i) (hl : IsTup s.heap l items) (hx : items[i]? = none)
    (hE : ∀ h' e, Heap.ExtBut it s.heap h' → (∃ o, h'.get? e = some o ∧ o.cls = .type "StopIteration") → E (.ref e) { s with heap := h' }) :
    wpAny (model prog w) A (Builtin.SmallTypes.nextOf (.ref it)) Q E s := by
  obtain ⟨o, ho, hc, hd⟩ := id hit
  obtain ⟨ol, hol, _, nl, hdl⟩ := hl
  unfold Builtin.SmallTypes.nextOf
  refine wpAny_bind (wpAny_callSpecial?_slot (name := Str.ofString "__next__") hit.typeIs slot_tupleiter_next
    (wpAny_call_entry slot_tupleiter_next hit.typeIs entry_tupleiter_next ?_ (args_tupleiter_next _)))
  show wpAny _ _ (field (.ref it) 0 >>= _) _ _ s
  refine wpAny_bind (wpAny_field ho hd (x := .ref l) rfl ?_)
  show wpAny _ _ (if (Value.ref l == Value.none) = true then _ else _) _ _ s
  rw [if_neg (show ¬ ((Value.ref l == Value.none) = true) from Bool.false_ne_true)]
  show wpAny _ _ (field (.ref it) 1 >>= _) _ _ s
  refine wpAny_bind (wpAny_field ho hd (x := .int i 0) rfl ?_)
  show wpAny _ _ (seqItems? (.ref l) >>= _) _ _ s
  refine wpAny_bind (wpAny_seqItems hol hdl ?_)
  simp only [Int.toNat_natCast, hx]
  refine wpAny_bind (wpAny_rule (wpAny_bind (wpAny_setField ho hd (by simp) ?_)))
  show wpAny _ _ (newExc (.type "StopIteration") [] >>= _) _ _ _
  refine wpAny_bind ?_
  simp only [newExc, newTuple]
  refine wpAny_bind (wpAny_newObj_type ?_ (by size_fits))
  refine wpAny_bind (m := firstArgMember _ _) (wpAny_of_eq (a := Value.none) (by first | rfl | (simp only [firstArgMember]; rfl)) ?_)
  refine wpAny_newObj_type ?_ (by size_fits)
  simp only [raiseNew]
  refine wpAny_bind (wpAny_handled ?_)
  first | rw [show A.in1.handled = none from hh] | rw [hh]
  refine wpAny_bind (wpAny_pure (wpAny_throw ?_))
  exact hE _ _ (((Heap.SameBut.update ..).extBut.push _).push _) ⟨_, Heap.get?_push_size _ rfl, rfl⟩
end
end Mine
end
section
set_option Elab.async false
set_option maxRecDepth 100000
set_option linter.unusedVariables false
open PySem PySem.W PySem.Calls PyProof.Rows PySem.SeqAt
namespace Mine
section
variable {X : Cx} {A : Around} {σ τ φ ψ ψ' : Store} {Es : Store → Prop} {s : Shared} {Q : AV → Store → Prop}
theorem Okf.adds (x : Okf X A φ σ s) (h : ∀ a o, ψ a = some o → σ a = none ∧ φ a = none ∧ X.h₀.get? a = none ∧ OR X s.heap a o) : Okf X A φ (σ.join ψ) s ∧ Apart σ ψ := by
  have d : Apart σ ψ := fun a o e => by
    cases q : ψ a with
    | none => rfl
    | some p => rw [(h a p q).1] at e; cases e
  refine ⟨⟨fun a o e => ?_, ⟨x.ok.keep, x.ok.gens, x.ok.drawn, x.ok.os, fun a o e => ?_, x.ok.own⟩, x.fr⟩, d⟩
  · cases q : σ a with
    | some p => exact x.apart a p q
    | none =>
      unfold Store.join at e
      rw [q] at e
      exact (h a o e).2.1
  · rw [join_assoc] at e
    unfold Store.join at e
    cases q : σ a with
    | some p => rw [q] at e; cases e; exact x.ok.sto a _ (join_left q)
    | none =>
      rw [q] at e
      cases q2 : ψ a with
      | some p => rw [q2] at e; cases e; obtain ⟨_, _, h3, h4⟩ := h a _ q2; exact ⟨h4, h3⟩
      | none => rw [q2] at e; exact x.ok.sto a o (join_right x.apart e)
/-- entries exchanged -/
theorem Okf.swap {h' : Heap} {tk : Nat} (x : Okf X A φ (σ.join ψ) s) (d : Apart σ ψ) (hn : ∀ a o, ψ a = some o → ¬ X.own a ∧ o.isGhost = false) (k : ∀ b o, ψ b = none → s.heap.get? b = some o → h'.get? b = some o)
    (hd : ∀ a o, ψ' a = some o → ψ a ≠ none) (ho : ∀ a o, ψ' a = some o → OR X h' a o) : Okf X A φ (σ.join ψ') { s with heap := h', toks := tk } ∧ Apart σ ψ' ∧ Kept X s.heap h' := by
  obtain ⟨y, kk⟩ := x.lose (tk := tk) d hn k
  have z := y.adds (ψ := ψ') fun a o e => by
    cases q : ψ a with
    | none => exact (hd a o e q).elim
    | some p => exact ⟨d.swap a p q, x.apart a p (join_right d q), (x.ok.sto a p (join_left (join_right d q))).2, ho a o e⟩
  exact ⟨z.1, z.2, kk⟩
noncomputable def enumObj (it : Addr) (i : Int) (old : Value) : Obj := { cls := .type "enumerate", dict := none, data := .fields #[.none, .bool false, .ref it, rawInt i, .none, old], slots := #[] }
noncomputable def enumOut (it : Addr) (i : Int) (item : Value) (a : Addr) : Obj := { cls := .type "enumerate", dict := none, data := .fields #[rawInt a, .bool false, .ref it, rawInt i, .none, item], slots := #[] }
theorem WC_enumerate {l : List AV} (h : ∀ it e, σ it = none → σ e = none → it ≠ e → ¬ X.own it → ¬ X.own e → Q (.ref e) ((σ.set it (.titer l)).set e (.raw (enumObj it 0 .none)))) : WC X A (.type "enumerate") [.tup l] σ Q Es := fun φ s vs x hv => by
  obtain ⟨v, rfl, a, i, rfl, ht, hi⟩ := vrs1 hv
  obtain ⟨⟨c, dct, dt, sl⟩, hl, hc, n, hd⟩ := id ht.1
  replace hc : c = .type "tuple" := hc
  replace hd : dt = .seq i n := hd
  subst hc hd
  have hf := x.free2 (Nat.le_refl _)
  have y := x.alloc (tk := s.toks) (h' := s.heap.push { cls := .type "tuple_iterator", data := .fields #[.ref a, .int 0 0] }) (o := .titer l) push_keeps (Nat.le_refl _)
    ⟨a, i, _, Heap.get?_push_size _ rfl, rfl, rfl, Kept.of_keeps push_keeps _ _ ht, VRs.mono (Kept.of_keeps push_keeps) _ _ hi⟩
  have hf2 := y.free2 (Nat.le_refl _)
  have z := y.alloc (tk := s.toks) (h' := (s.heap.push { cls := .type "tuple_iterator", data := .fields #[.ref a, .int 0 0] }).push (enumObj s.heap.objs.size 0 .none)) (o := .raw (enumObj s.heap.objs.size 0 .none)) push_keeps (Nat.le_refl _)
    (raw_there (T := "enumerate") rfl (by decide) rfl)
  refine callType_new PySem.F.called_enumerate (by decide) (PySem.F.typeCall_enumerate_1 _) (PySem.F.newCall_enumerate_1 _) (fun obj => PySem.F.args_object_init_2 obj _) PySem.F.entry_enumerate_new
    (meets_enum_tup a i n dct sl) ⟨hl, ?_⟩
  refine ⟨⟨enumObj s.heap.objs.size 0 .none, Heap.get?_push_size _ rfl, rfl⟩, ?_⟩
  have e : (s.heap.push { cls := .type "tuple_iterator", data := .fields #[.ref a, .int 0 0] }).objs.size = s.heap.objs.size + 1 := Heap.size_push ..
  have hσe : σ (s.heap.push { cls := .type "tuple_iterator", data := .fields #[.ref a, .int 0 0] }).objs.size = none := (x.free2 (by rw [e]; exact Nat.le_succ _)).1
  exact ⟨.ref _, _, VR_con _ _, z, (Kept.of_keeps push_keeps).trans (Kept.of_keeps push_keeps), h _ _ hf.1 hσe (by rw [e]; exact Nat.ne_of_lt (Nat.lt_succ_self _)) hf.2.2 hf2.2.2⟩
theorem draws_tup {A : Around} (hh : A.handled = none) {it t : Addr} (hne : it ≠ t) (items : Array Value) :
    Draws X.prog X.w A.in1 it [it, t] items.size (fun i v => items[i]? = some v) (fun i h => IsTupIter h it t i ∧ IsTup h t items) where
  live := fun i h st => by obtain ⟨⟨o, ho, _⟩, _⟩ := st; exact ⟨o, ho⟩
  frame := fun i h h' st k => by
    obtain ⟨⟨o, ho, r⟩, ⟨o2, ho2, r2⟩⟩ := st
    exact ⟨⟨o, k it (by simp) o ho, r⟩, ⟨o2, k t (by simp) o2 ho2, r2⟩⟩
  item := fun i s Q E hi st hQ => by
    refine nextOf_tuple_item st.1 st.2 (x := items[i]) (by simp [hi]) fun h' hit' hs' => ?_
    obtain ⟨o2, ho2, r2⟩ := st.2
    exact hQ items[i] h' s.toks (by simp [hi]) ⟨hit', ⟨o2, (hs'.2 t (Ne.symm hne)).trans ho2, r2⟩⟩ hs'
  done := fun s Q E st hE => nextOf_tuple_end hh st.1 st.2 (by simp) hE
noncomputable def enumL (l : List AV) : List AV := (List.range l.length).zipWith (fun i V => AV.tup [.int (i : Nat), V]) l
theorem enumL_get {l : List AV} {i : Nat} {V : AV} (h : (enumL l)[i]? = some V) : ∃ U, l[i]? = some U ∧ V = .tup [.int (i : Nat), U] := by
  unfold enumL at h
  rw [List.getElem?_zipWith] at h
  by_cases hi : i < l.length
  · rw [List.getElem?_range hi, List.getElem?_eq_getElem hi] at h
    exact ⟨l[i], by simp [hi], by simpa using h.symm⟩
  · rw [List.getElem?_eq_none (by simpa using hi)] at h
    simp at h
theorem enumL_length (l : List AV) : (enumL l).length = l.length := by simp [enumL]
theorem raw_tupiter {o : Obj} (hc : o.cls = .type "tuple_iterator") : o.cls = .type "tuple" → X.own a := fun z => by rw [hc] at z; exact absurd z (by decide)
noncomputable def two (a : Addr) (p : AO) (b : Addr) (q : AO) : Store := fun c => if c = b then some q else if c = a then some p else none
theorem two_b {a b : Addr} {p q : AO} : two a p b q b = some q := if_pos rfl
theorem two_a {a b : Addr} {p q : AO} (h : a ≠ b) : two a p b q a = some p := by unfold two; rw [if_neg h, if_pos rfl]
theorem two_none {a b c : Addr} {p q : AO} (h : two a p b q c = none) : c ≠ a ∧ c ≠ b := by
  unfold two at h
  by_cases h1 : c = b
  · rw [if_pos h1] at h; cases h
  · rw [if_neg h1] at h
    by_cases h2 : c = a
    · rw [if_pos h2] at h; cases h
    · exact ⟨h2, h1⟩
theorem two_some {a b c : Addr} {p q o : AO} (h : two a p b q c = some o) : (c = b ∧ o = q) ∨ (c = a ∧ o = p) := by
  unfold two at h
  by_cases h1 : c = b
  · rw [if_pos h1] at h; cases h; exact .inl ⟨h1, rfl⟩
  · rw [if_neg h1] at h
    by_cases h2 : c = a
    · rw [if_pos h2] at h; cases h; exact .inr ⟨h2, rfl⟩
    · rw [if_neg h2] at h; cases h
theorem set_two {a b : Addr} {p q : AO} (h1 : σ a = none) (h2 : σ b = none) : (σ.set a p).set b q = σ.join (two a p b q) := by
  funext c
  unfold Store.join Store.set two
  by_cases e1 : c = b
  · rw [if_pos e1, e1, h2, if_pos rfl]
  · rw [if_neg e1]
    by_cases e2 : c = a
    · rw [if_pos e2, e2, h1, if_neg (e2 ▸ e1), if_pos rfl]
    · rw [if_neg e2, if_neg e1, if_neg e2]
      cases σ c <;> rfl
theorem apart_two {a b : Addr} {p q : AO} (h1 : σ a = none) (h2 : σ b = none) : Apart σ (two a p b q) := fun c o e => by
  cases z : two a p b q c with
  | none => rfl
  | some o' =>
    rcases two_some z with ⟨rfl, _⟩ | ⟨rfl, _⟩
    · rw [h2] at e; cases e
    · rw [h1] at e; cases e
theorem its_enum {l : List AV} {it e : Addr} (hh : A.handled = none) (hit : σ it = none) (he : σ e = none) (hne : it ≠ e) (ho1 : ¬ X.own it) (ho2 : ¬ X.own e) :
    Its X A (.ref e) (enumL l) false (fun _ => True) ((σ.set it (.titer l)).set e (.raw (enumObj it 0 .none))) σ := fun φ s a ha x Q E hQ => by
  obtain rfl : a = .ref e := ha
  have hE : IsEnum s.heap e it 0 .none := (x.sto (set_self ..)).1
  obtain ⟨t, items, o, ho, hc, hd, ht, hv⟩ := x.sto (show ((σ.set it (.titer l)).set e (.raw (enumObj it 0 .none))) it = some (.titer l) by rw [set_ne hne, set_self])
  have hitt : it ≠ t := fun q => by
    obtain ⟨o', ho', hc', _⟩ := ht.1
    rw [← q, ho] at ho'; cases ho'; rw [hc] at hc'; exact absurd hc' (by decide)
  have het : e ≠ t := fun q => by
    obtain ⟨o', ho', hc', _⟩ := ht.1
    rw [← q, hE] at ho'; cases ho'; exact absurd (show (Value.type "enumerate" : Value) = .type "tuple" from hc') (by decide)
  refine wpAny_pyIter_enum hE ?_
  rw [set_two hit he] at x
  have d0 : Apart σ (two it (.titer l) e (.raw (enumObj it 0 .none))) := apart_two hit he
  have own2 : ∀ {p q : AO} {a o}, p.isGhost = false → q.isGhost = false → two it p e q a = some o → ¬ X.own a ∧ o.isGhost = false := fun g1 g2 h => by
    rcases two_some h with ⟨rfl, rfl⟩ | ⟨rfl, rfl⟩
    · exact ⟨ho2, g2⟩
    · exact ⟨ho1, g1⟩
  have dom2 : ∀ {p q p' q' : AO} {a o}, two it p e q a = some o → two it p' e q' a ≠ none := fun h z => by
    obtain ⟨z1, z2⟩ := two_none z
    rcases two_some h with ⟨h1, _⟩ | ⟨h1, _⟩
    · exact z2 h1
    · exact z1 h1
  have hef : e ∉ [it, t] := by simp only [List.mem_cons, List.not_mem_nil, or_false, not_or]; exact ⟨Ne.symm hne, het⟩
  obtain ⟨y, dy, _⟩ := x.swap (tk := s.toks) (ψ' := two it (.raw o) e (.raw (enumObj it 0 .none))) d0 (fun a o h => own2 rfl rfl h) (fun b o _ h => h) (fun a o h => dom2 h) (fun a p h => by
    rcases two_some h with ⟨rfl, rfl⟩ | ⟨rfl, rfl⟩
    · exact ⟨hE, fun z => absurd (show (Value.type "enumerate" : Value) = .type "tuple" from z) (by decide)⟩
    · exact ⟨ho, raw_tupiter hc⟩)
  have hsz : items.size = l.length := by have := hv.length; simpa using this
  refine hQ (.ref e) (fun i ψ => ∃ o old, ψ = two it (.raw o) e (.raw (enumObj it (i : Nat) old)) ∧ o.cls = .type "tuple_iterator" ∧ o.data = .fields #[.ref t, .int (i : Nat) 0])
    (fun i v ψ => ∃ o x T, v = .ref T ∧ ψ = two it (.raw o) e (.raw (enumOut it (i : Nat) x T)) ∧ o.cls = .type "tuple_iterator" ∧ o.data = .fields #[.ref t, .int (i : Nat) 0])
    (fun h => IsT X h t items ∧ VRs X h l items.toList) _ _ ?_ (fun z => by cases z) ⟨o, .none, rfl, hc, hd⟩ ⟨ht, hv⟩ dy y (.refl _)
  constructor
  · exact fun k h => ⟨k _ _ h.1, VRs.mono k _ _ h.2⟩
  · rintro i ψ a o ⟨_, _, rfl, _⟩ h; exact (own2 rfl rfl h).1
  · rintro φ' σ' ψ' s' i V hlV ⟨o', old, rfl, hc', hd'⟩ _ ⟨ht', hv'⟩ d' x' Q' E' hQ'
    obtain ⟨U, hU, rfl⟩ := enumL_get hlV
    obtain ⟨u, hu1, hu2⟩ := hv'.get hU
    have hlt : i < items.size := by have := (List.getElem?_eq_some_iff.mp hu1).1; simpa using this
    have hE' : IsEnum s'.heap e it (i : Nat) old := (x'.sto (join_right d' two_b)).1
    have hI' : s'.heap.get? it = some o' := (x'.sto (join_right d' (two_a hne))).1
    refine wpAny_pyNext_enum_itemD (draws_tup hh hitt items) hE' ⟨⟨o', hI', hc', hd'⟩, ht'.1⟩ hlt (Ne.symm hne) hef fun x2 h' tk hP hOut hst' hT hsz' hk => ?_
    obtain ⟨⟨o2, ho2', hc2, hd2⟩, _⟩ := hst'
    have hx2 : x2 = u := by
      have h1 : items[i]? = some x2 := hP
      rw [← Array.getElem?_toList, hu1] at h1; injection h1 with h1; exact h1.symm
    obtain ⟨y', dy', ky⟩ := x'.swap (tk := tk + 1) (h' := h') (ψ' := two it (.raw o2) e (.raw (enumOut it ((i + 1 : Nat) : Int) x2 s'.heap.objs.size))) d' (fun a o h => own2 rfl rfl h) (fun b o hb h => hk b o (two_none hb).2 (two_none hb).1 h) (fun a o h => dom2 h) (fun a p h => by
      rcases two_some h with ⟨rfl, rfl⟩ | ⟨rfl, rfl⟩
      · exact ⟨by rw [hOut]; rfl, fun z => absurd (show (Value.type "enumerate" : Value) = .type "tuple" from z) (by decide)⟩
      · exact ⟨ho2', raw_tupiter hc2⟩)
    refine hQ' _ _ _ ⟨_, _, rfl, x'.isT (Nat.le_refl _) ⟨_, hT, rfl, _, rfl⟩, .cons ⟨tk, rfl⟩ (.cons ?_ .nil)⟩ ⟨o2, x2, _, rfl, rfl, hc2, hd2⟩ dy' y' ky
    rw [hx2]; exact VR.mono ky _ _ hu2
  · rintro φ' σ' ψ' s' i hlen ⟨o', old, rfl, hc', hd'⟩ _ ⟨ht', hv'⟩ d' x' Q' E' hQ'
    rw [enumL_length, ← hsz] at hlen
    subst hlen
    have hE' : IsEnum s'.heap e it (items.size : Nat) old := (x'.sto (join_right d' two_b)).1
    have hI' : s'.heap.get? it = some o' := (x'.sto (join_right d' (two_a hne))).1
    refine wpAny_pyNext_enum_endD (draws_tup hh hitt items) hE' ⟨⟨o', hI', hc', hd'⟩, ht'.1⟩ fun h' he' => ?_
    obtain ⟨y', ky⟩ := x'.lose (tk := s'.toks) (h' := h') d' (fun a o h => own2 rfl rfl h) fun b o hb h => he' b o (two_none hb).1 h
    exact hQ' _ y' ky
  · rintro φ' σ' ψ' s' i ⟨o', old, rfl, hc', hd'⟩ d' x' Q' E' hQ'
    exact wpAny_pyIter_enum (show IsEnum s'.heap e it (i : Nat) old from (x'.sto (join_right d' two_b)).1) hQ'
  · rintro φ' σ' ψ' s' i v ⟨o', x2, T, rfl, rfl, hc', hd'⟩ d' x' elts k pos Q' E' hQ'
    have hE' : IsEnumOut s'.heap e it (i : Nat) x2 T := (x'.sto (join_right d' two_b)).1
    have hI' : s'.heap.get? it = some o' := (x'.sto (join_right d' (two_a hne))).1
    refine wpAny_letOwnedTupleGo_enum hE' fun h' he' hs' => ?_
    obtain ⟨y', dy', ky⟩ := x'.swap (tk := s'.toks) (h' := h') (ψ' := two it (.raw o') e (.raw (enumObj it (i : Nat) x2))) d' (fun a o h => own2 rfl rfl h) (fun b o hb h => (hs'.2 b (two_none hb).2).trans h) (fun a o h => dom2 h) (fun a p h => by
      rcases two_some h with ⟨rfl, rfl⟩ | ⟨rfl, rfl⟩
      · exact ⟨he', fun z => absurd (show (Value.type "enumerate" : Value) = .type "tuple" from z) (by decide)⟩
      · exact ⟨(hs'.2 _ hne).trans hI', raw_tupiter hc'⟩)
    exact hQ' _ _ ⟨o', x2, rfl, hc', hd'⟩ dy' y' ky
end
end Mine
end
section
set_option Elab.async false
set_option maxRecDepth 100000
set_option linter.unusedVariables false
open PySem PySem.W PySem.Calls PyProof.Rows PySem.SeqAt
namespace Mine
/-- an object of an own class -/
noncomputable def InstO (σ : Store) (x dx C : Addr) (es : List DictEntry) (n : Nat) : Prop :=
  (∃ sl, σ x = some (.raw ⟨.ref C, some dx, .plain, sl⟩)) ∧ σ dx = some (.raw (dictOf es n))
theorem InstO.le {σ τ : Store} {x dx C : Addr} {es : List DictEntry} {n : Nat} (h : InstO σ x dx C es n) (l : σ.le τ) : InstO τ x dx C es n := ⟨h.1.imp fun sl e => l _ _ e, l _ _ h.2⟩
section
variable {prog : Program} {w : World} {A : Around} {R : Result → Shared → Prop} {s : Shared} {K : Frag} {x C : Addr}
theorem osa_heap {ox od od' : Obj} {dx : Addr} {name : Str} {tk : Tok} {v : Value} {es : List DictEntry} {n : Nat} (D : s.heap.get? dx = some od) (X : K.In s.heap)
    (I : InstAt s.heap x ox C (some od)) (hd : ox.dict = some dx) (hp : plainOver K C = true) (ht : takerIn K C name = some none) (hh : (clsIn K C).any (·.hasDict) = true)
    (hl : (lookIn name od).isSome = true)
    (e : Obj.putName name (PyData.keyHash w.params name) (.str name s.toks) v od = od') (e' : od'.data = .dict es.toArray n) (hz : es.length ≤ 1000)
    (h : ∀ h', Heap.SameBut dx s.heap h' → h'.get? dx = some od' → R (.ok (.ret .none)) { s with heap := h', toks := s.toks + 1 }) :
    codeAny (model prog w) A (.call (.builtin "object.__setattr__") ⟨[.ref x, .str name tk, v], []⟩) R s := by
  refine osa_open X I hp ht fun b => ?_
  obtain ⟨cd, hc, hd'⟩ := any_some hh
  have D' : (s.heap.update dx (Obj.putName name (PyData.keyHash w.params name) (.str name s.toks) v)).get? dx = some od' := by
    rw [← e]; exact Heap.get?_update_self _ D (by rw [e]; obtain ⟨_, _, dd, _⟩ := od'; cases e'; rfl)
  obtain ⟨hx, hcl, hn, -⟩ := I
  obtain ⟨oc, odi, oda, osl⟩ := ox
  dsimp only at hcl hd
  subst hcl hd
  refine wpAny_bind (wpAny_pure (wpAny_bind (wpAny_bind (wpAny_loadPart hx (wpAny_bind ((looks_clsIn X hc).here ?_))))))
  rw [hd']
  refine wpAny_pure (a := some dx) (wpAny_bind (wpAny_pure (wpAny_bind ?_)))
  unfold nsSet
  refine wpAny_bind (wpAny_bind (wpAny_askSetting (wpAny_pure (wpAny_bind (wpAny_mkText (wpAny_bind (wpAny_loadPart D ?_)))))))
  unfold lookIn at hl
  split at hl
  · rename_i es₀ n₀ q
    rw [q]
    dsimp only
    have c : (!es₀.any (·.key.isStr name) && es₀.any (·.refKey)) = false := by
      rw [← Array.any_toList, ← Array.any_toList]
      split at hl
      · rename_i en he
        rw [List.any_eq_true.mpr ⟨en, List.mem_of_find?_eq_some he, List.find?_some he⟩]; rfl
      · split at hl
        · cases hl
        · rename_i z; rw [Bool.not_eq_true] at z; rw [z, Bool.and_false]
    rw [aRefKeyMayBeTheName_at, c]
    refine wpAny_updatePart D ?_
    refine wpAny_bind (wpAny_lookBehind D' (by rw [e']; exact pastItsLine_dict (by rw [List.size_toArray, sizeLine_eq]; omega)) ?_)
    exact wpAny_pure (h _ (Heap.SameBut.update ..) D')
  · cases hl
end
section
variable {X : Cx} {A : Around} {env : Env} {ρ : List (Str × AV)} {σ τ φ : Store} {E : Store → Value → Shared → Prop} {Es : Store → Prop} {s : Shared} {K : Frag} {x dx C : Addr} {es : List DictEntry} {n : Nat} {name : Str}
theorem InstO.at {σ : Store} (I : InstO σ x dx C es n) (o : Okf X A φ σ s) : ∃ sl, InstAt s.heap x ⟨.ref C, some dx, .plain, sl⟩ C (some (dictOf es n)) := by
  obtain ⟨⟨sl, h1⟩, h2⟩ := I
  exact ⟨sl, (o.sto h1).1, rfl, rfl, (o.sto h2).1⟩
/-- an attribute read -/
noncomputable def GetA (X : Cx) (A : Around) (V : AV) (name : Str) (U : AV) (σ : Store) : Prop :=
  ∀ (φ : Store) (s : Shared) (a : Value) (expr : Bool) (Q : Value → Shared → Prop) (E : Value → Shared → Prop), VR X s.heap V a → Okf X A φ σ s → (∀ v tk, VR X s.heap U v → Q v { s with toks := tk }) → wpAny (model X.prog X.w) A (getAttr a name expr) Q E s
theorem EV_Attr {o : Expr} {pos : Pos} {Q : AV → Store → Prop} (hbase : attributeBase o name env (eval o env) = eval o env) (hlt : ∀ a r, letTemporaryGo o a r = pure ())
    (h : EV X A env ρ o σ (fun V σ₁ => ∃ U, GetA X A V name U σ₁ ∧ Q U σ₁) E) : EV X A env ρ (.Attribute o name pos) σ Q E := fun φ s F => by
  show wpAny _ A (eval (.Attribute o name pos) env) _ _ s
  rw [arm_eval_Attribute, hbase]
  refine wpAny_bind (h.use F fun a V σ₁ s₁ ha F₁ k₁ h₁ => wpAny_bind (wpAny_standAt (wpAny_bind (wpAny_holding ?_))))
  obtain ⟨U, hg, hq⟩ := h₁
  refine hg _ s₁ a _ _ _ ha F₁.okf fun v tk hv => ?_
  rw [hlt]
  exact wpAny_bind (wpAny_pure (wpAny_pure ⟨U, σ₁, hv, F₁.toks, k₁, hq⟩))
theorem GetA_own {attr : Option Value} {v : Value} (hK : K.In X.h₀) (I : InstO σ x dx C es n) (hg : plainGet K C name = true) (hh : hasDictIn K C = true) (ha : findIn K (.ref C) name = some attr) (hn : noGet K attr = true)
    (hl : getL name es = some (some v)) (hv : handedIn v = true) : GetA X A (.ref x) name (.con v) σ := fun φ s a expr Q E hx o hq => by
  obtain rfl : a = .ref x := hx
  obtain ⟨sl, hI⟩ := I.at o
  exact get_value (hK.keeps o.keep) hI (plainGet_of hg).1 (findObj_own hh ha hn hl) hv (hq v _ rfl)
theorem GetM_inst {f : Addr} (hK : K.In X.h₀) (I : InstO σ x dx C es n) (hg : plainGet K C name = true) (hf : findIn K (.ref C) name = some (some (.ref f))) (ht : isFn K (.ref f) = true) (hl : getL name es = some none) :
    GetM X A (.ref x) name (.ref f) σ := fun φ s a pl Q E hx o hq => by
  obtain rfl : a = .ref x := hx
  obtain ⟨sl, hI⟩ := I.at o
  exact method_fn (hK.keeps o.keep) hI (plainGet_of hg).1 (plainGet_of hg).2 hf (beq_iff_eq.mp ht) (by show (lookIn name (dictOf es n)).map _ = _; rw [lookIn_dict, hl]; rfl) hq
/-- an attribute stored -/
theorem ES_SetAttr {o value : Expr} {apos pos : Pos} {Q : AF → List (Str × AV) → Store → Prop} (hK : K.In X.h₀) (hs : findIn K (.ref C) "__setattr__" = some (some (.builtin "object.__setattr__"))) (hp : plainOver K C = true) (ht : takerIn K C name = some none)
    (hh : hasDictIn K C = true)
    (h : EV X A env ρ value σ (fun V σ₁ => EV X A env ρ o σ₁ (fun O σ₂ => ∃ v, V = .con v ∧ O = .ref x ∧ ∃ dx es n, InstO σ₂ x dx C es n ∧ (getL name es).isSome = true ∧ (∀ tk, (putL name (PyData.keyHash X.w.params name) (.str name tk) v es).length ≤ 1000) ∧
      ∀ tk, Q .next ρ (σ₂.set dx (.raw (dictOf (putL name (PyData.keyHash X.w.params name) (.str name tk) v es) (putN name es n))))) E) E)
    (hsw : swapsWith value (some (.Attribute o name apos)) pos.line env = pure false := by rfl) : ES X A env ρ (.Assign [.Attribute o name apos] value pos) σ Q E := fun φ s F =>
  plainObj_wpAny_Assign_Attribute (h.use F fun a V σ₁ s₁ ha F₁ k₁ h₁ => h₁.use F₁ fun b O σ₂ s₂ hb F₂ k₂ h₂ => by
    obtain ⟨v, rfl, rfl, dx, es, n, I, hl, hz, hq⟩ := h₂
    obtain rfl : a = v := ha
    obtain rfl : b = .ref x := hb
    obtain ⟨sl, hI⟩ := I.at F₂.okf
    have D := (F₂.sto I.2).1
    refine set_plain (hK.keeps F₂.keep) hI hs (osa_heap (s := { s₂ with toks := s₂.toks + 1 }) D (hK.keeps F₂.keep) hI rfl hp ht hh hl (putName_dict ..) rfl (hz _) fun h' hs' hD' => ?_)
    have z := F₂.upd (tk := s₂.toks + 1 + 1) I.2 hs' (show OR X h' dx (.raw _) from ⟨hD', fun z => absurd (show (Value.type "dict" : Value) = .type "tuple" from z) (by decide)⟩)
    exact ⟨.next, ρ, _, rfl, z.1, k₁.trans (k₂.trans z.2), hq _⟩) hsw
end
end Mine
end
section
set_option Elab.async false
set_option maxRecDepth 100000
set_option linter.unusedVariables false
open PySem PySem.W PySem.Calls PyProof.Rows PySem.SeqAt
namespace Mine
section
variable {X : Cx} {A B : Around} {env : Env} {ρ : List (Str × AV)} {σ τ φ : Store} {E : Store → Value → Shared → Prop} {Es : Store → Prop} {s : Shared} {Q : AV → Store → Prop}
/-- a call as code -/
noncomputable def WCc (X : Cx) (A : Around) (f : Value) (Vs : List AV) (σ : Store) (Q : AV → Store → Prop) (Es : Store → Prop) : Prop :=
  ∀ φ s vs, Okf X A φ σ s → VRs X s.heap Vs vs → codeAny (model X.prog X.w) A (.call f ⟨vs, []⟩) (fun r s' => match r with | .ok (.ret v) => CR X A φ s.heap Q v s' | .ok _ => False | .error e => EXC X A Es φ e s') s
theorem WC.of_code {f : Value} {Vs : List AV} (h : WCc X A f Vs σ Q Es) : WC X A f Vs σ Q Es := fun φ s vs x hv => wpAny_call (codeAny_mono (h φ s vs x hv) fun r s' hr => by
  rcases r with e | (v | _ | _ | _) <;> first | exact hr | exact hr.elim)
theorem EXF.leave {env : Env} {outer : List Env} {M : Model} {E : Value → Shared → Prop} {e : Value} {P : Unit → Shared → Prop} (hB : B.frames = some (env :: outer)) (hf : env.frame = some env.locals) (fr : FrOk A φ)
    (h : EXF X B env (fun _ σ => Es σ) φ e s) (k : ∀ s', EXC X A Es φ e s' → P () s') : wpAny M B (leaving env e) P E s := by
  unfold leaving
  refine wpAny_bind (h.note ⟨⟨outer, hB⟩, hf⟩ fun s₁ h₁ => ?_)
  refine h₁.flight (f := none) fun s₂ h₂ => ?_
  obtain ⟨a, ρ', σ', rfl, F, fl, q⟩ := h₂
  have le : (σ'.join φ).le (σ'.join ((Store.one env.locals (.ns ρ')).join φ)) := fun b o e => by
    unfold Store.join at e ⊢
    cases q1 : σ' b with
    | some p => rw [q1] at e; exact e
    | none =>
      rw [q1] at e
      have hne : b ≠ env.locals := fun z => by rw [z, F.off.1] at e; cases e
      unfold Store.one; rw [if_neg hne]; exact e
  exact k s₂ ⟨a, σ', rfl, F.leave fr, fl.flt0.le le, q⟩
/-- a function of the text -/
theorem WCc_fx {f : Addr} {o : Obj} {fd : FuncData} {s0 : Stmt} {body : List Stmt} {ns : List Str} {Vs : List AV} (ho : X.h₀.get? f = some o) (hd : o.data = .func fd)
    (hcd : X.h₀.CodeRec fd.code fd.qualname) (hbody : fd.body = .stmts (s0 :: body)) (hclo : fd.closure = []) (hroom : A.depth < recursionLimit)
    (hbind : ∀ vs : List Value, vs.length = Vs.length → bindArgs fd ⟨vs, []⟩ = pure (ns.zip vs))
    (hkind : ns.all (fun n => fd.scope.names.lookup n == some .local || fd.scope.names.lookup n == some .cell) = true)
    (hnd : ((cellsFrom 0 fd.scope.names []).map (·.1)).Nodup)
    (h : ∀ L, σ.Below L → ESs X (A.deeper (callEnvC fd L f)) (callEnvC fd L f) (bindLA (callEnvC fd L f).kindOf (ns.zip Vs) []) (s0 :: body)
      (setCells (bindCA (callEnvC fd L f).kindOf (ns.zip Vs) []) (callEnvC fd L f).cells σ) (fun fl _ σ' => Q fl.val σ') (EXF X (A.deeper (callEnvC fd L f)) (callEnvC fd L f) fun _ σ => Es σ))
    (hco : fd.scope.isCoroutine = false := by rfl) (hgen : fd.scope.isGenerator = false := by rfl) (hk : fd.scope.kind = .function := by rfl) :
    WCc X A (.ref f) Vs σ Q Es := fun φ s vs x hv => by
  have hK := kindsX (scope := fd.scope) (binds := ns.zip vs) (by
    rw [List.all_eq_true]; intro y hy
    have hy1 : y.1 ∈ ns := (List.of_mem_zip (a := y.1) (b := y.2) hy).1
    exact List.all_eq_true.mp hkind y.1 hy1) (s.heap.objs.size + 1)
  refine codeAny_call_cells hroom (x.keep _ _ ho) hd (X.lim.keeps x.keep) (hcd.keeps x.keep) hbody (hbind vs hv.length) hclo hK (fun s₁ y => ?_) hco hgen hk
  have hlk : ∀ n c, (n, c) ∈ (callEnvC fd s.heap.objs.size f).cells → (callEnvC fd s.heap.objs.size f).cells.lookup n = some c := fun n c hm => cellsFrom_lookup hnd _ n c hm
  obtain ⟨F, kk⟩ := frame_start (fd := fd) (f := f) x hv hk rfl y hlk
  obtain ⟨l, hl, _⟩ := x.fr
  refine wpAny_mono (XS.use (Q₂ := fun f s' => CR X A φ s.heap Q (match f with | .ret v => v | _ => Value.none) s') (h _ x.below) F fun a fl ρ' σ' s' hf F' k' q => ?_) (fun _ _ q => q) fun e s' he => ?_
  · refine (show (∃ V σ', VR X s'.heap V _ ∧ _) from ⟨fl.val, σ', ?_, F'.leave x.fr, kk.trans k', q⟩)
    cases fl with
    | next => obtain rfl : a = .next := hf; exact VR_con _ _
    | brk => obtain rfl : a = .brk := hf; exact VR_con _ _
    | cont => obtain rfl : a = .cont := hf; exact VR_con _ _
    | ret V => obtain ⟨v, rfl, hv⟩ := hf; exact hv
  · exact he.leave (outer := l) (by show A.frames.map (_ :: ·) = _; rw [hl]; rfl) rfl x.fr fun s'' q => q
theorem here_call {fd : FuncData} {L f : Addr} (h : ∃ l, A.frames = some l) : Here (A.deeper (callEnvC fd L f)) (callEnvC fd L f) := by
  obtain ⟨l, hl⟩ := h
  exact ⟨⟨l, by show A.frames.map (_ :: ·) = _; rw [hl]; rfl⟩, rfl⟩
/-- an object made, of an own class with an own __init__ -/
theorem WC_make {K : Frag} {C fI : Addr} {Vs : List AV} (hK : K.In X.h₀) (hm : makesIn K C = true) (hi : findIn K (.ref C) "__init__" = some (some (.ref fI))) (hf : typeIn K (.ref fI) = some (.type "function"))
    (h : ∀ B x dx, B.frames = A.frames → B.handled = A.handled → B.depth ≤ A.depth + 2 → σ x = none → σ dx = none → x ≠ dx → WCc X B (.ref fI) (.ref x :: Vs) ((σ.set dx (.raw emptyDict)).set x (.raw (instObj C dx))) (fun V σ' => V = .con .none ∧ Q (.ref x) σ') Never) :
    WC X A (.ref C) Vs σ Q Es := WC.of_code fun φ s vs x hv => by
  obtain ⟨hh, g, d, t, os⟩ := s
  have y := x.alloc (tk := t) (h' := hh.push emptyDict) (o := .raw emptyDict) push_keeps (Nat.le_refl _) (raw_there (T := "dict") rfl (by decide) rfl)
  have hf2 := y.free2 (Nat.le_refl _)
  have z := y.alloc (tk := t) (h' := (hh.push emptyDict).push (instObj C hh.objs.size)) (o := .raw (instObj C hh.objs.size)) push_keeps (Nat.le_refl _)
    ⟨Heap.get?_push_size _ rfl, fun q => by cases q⟩
  have hsz : (hh.push emptyDict).objs.size = hh.objs.size + 1 := Heap.size_push ..
  rw [hsz] at z
  have kk : Kept X hh ((hh.push emptyDict).push (instObj C hh.objs.size)) := (Kept.of_keeps push_keeps).trans (Kept.of_keeps push_keeps)
  refine make_core (makes_of (hK.keeps x.keep) hm) (looks_findIn (hK.keeps x.keep) hi) (fun self => bind_fn (hK.keeps x.keep) self hf) (.inl rfl) ?_
  have key := h (A.under (.builtin "type.__call__" ⟨.ref C :: vs, []⟩)) (hh.objs.size + 1) hh.objs.size rfl rfl (Nat.add_le_add_left (Nat.le_of_ble_eq_true rfl) _) (x.free2 (Nat.le_succ _)).1 (x.free2 (Nat.le_refl _)).1 (Nat.ne_of_gt (Nat.lt_succ_self _)) φ
    ⟨(hh.push emptyDict).push (instObj C hh.objs.size), g, d, t, os⟩ (.ref (hh.objs.size + 1) :: vs) ⟨z.apart, z.ok, z.fr⟩ (.cons rfl (VRs.mono kk _ _ hv))
  refine codeAny_mono key fun r s' hr => ?_
  rcases r with e | (_ | _ | _ | v)
  all_goals first
    | exact hr.elim
    | skip
  · obtain ⟨_, _, _, _, _, q⟩ := hr
    exact q.elim
  · obtain ⟨V, σ', hV, o', k', rfl, hq⟩ := hr
    obtain rfl : v = .none := hV
    exact ⟨rfl, ⟨.ref _, σ', VR_con _ _, ⟨o'.apart, o'.ok, o'.fr⟩, kk.trans k', hq⟩⟩
end
end Mine
end
section
set_option Elab.async false
set_option maxRecDepth 100000
set_option linter.unusedVariables false
open PySem PySem.W PySem.Calls PyProof.Rows PySem.SeqAt
namespace Mine
section
variable {X : Cx} {A B : Around} {env : Env} {ρ : List (Str × AV)} {σ τ φ : Store} {E : Store → Value → Shared → Prop} {Er : List (Str × AV) → Store → Prop} {s : Shared} {K : Frag} {C : Addr}
theorem looks_isType {M : Model} {h : Heap} {a : Addr} {oe : Obj} {vs : Array Value} (ho : h.get? a = some oe) (hd : oe.data = .fields vs) : Looks M h (isType (.ref a)) false := by
  unfold isType
  refine (Looks.ld ho).andThen ?_
  rw [hd]; exact .now
theorem ES_Raise {e : Expr} {pos : Pos} {Q : AF → List (Str × AV) → Store → Prop} (hK : K.In X.h₀) (hh : A.handled = none) (hsub : mroIn K C (.type "BaseException") = some true) (hty : typeIn K (.ref C) = some (.type "type")) (hexc : X.exc = .ref C)
    (h : EV X A env ρ e σ (fun V σ₁ => ∃ a oe vs, V = .ref a ∧ σ₁ a = some (.raw oe) ∧ oe.cls = .ref C ∧ oe.data = .fields vs ∧ vs[1]? = some .none ∧ ∃ σ₂ : Store, σ₂.le σ₁ ∧ σ₂ a = none ∧ Er ρ σ₂) (EXF X A env Er)) :
    ES X A env ρ (.Raise (some e) none pos) σ Q (EXF X A env Er) := fun φ s F => by
  show wpAny _ A (exec (.Raise (some e) none pos) env) _ _ s
  rw [arm_exec_Raise]
  refine wpAny_bind (wpAny_standAt ?_)
  show wpAny _ A (raiseStmt env (some (do let v ← eval e env; standAt pos; pure v)) none) _ _ s
  unfold raiseStmt
  refine wpAny_bind (wpAny_bind (h.use F fun v V σ₁ s₁ hv F₁ k₁ h₁ => wpAny_bind (wpAny_standAt (wpAny_pure ?_))))
  obtain ⟨a, oe, vs, rfl, hσ, hc, hd, h1, σ₂, hle, hn, hEr⟩ := h₁
  obtain rfl : v = .ref a := hv
  have ho : s₁.heap.get? a = some oe := (F₁.sto hσ).1
  have hKs := hK.keeps F₁.keep
  have T1 : Looks (model X.prog X.w) s₁.heap (isType (.ref a)) false := looks_isType ho hd
  have T2 : Looks (model X.prog X.w) s₁.heap (typeOf (.ref a)) (.ref C) := hc ▸ (Looks.ld ho).andThen .now
  have T3 : Looks (model X.prog X.w) s₁.heap (isInstance (.ref a) (.type "BaseException")) true := T2.andThen (looks_mroIn hKs hsub)
  have T4 : Looks (model X.prog X.w) s₁.heap (typeOf (.ref C)) (.type "type") := looks_typeIn hKs hty
  refine wpAny_bind (wpAny_pure ?_)
  refine wpAny_bind (wpAny_holding ?_)
  unfold excFromValue isExcClass
  refine wpAny_bind (wpAny_bind (T1.here ?_))
  rw [if_neg Bool.false_ne_true]
  refine wpAny_pure ?_
  rw [if_neg Bool.false_ne_true]
  refine wpAny_bind (T3.here ?_)
  rw [if_pos rfl]
  refine wpAny_pure ?_
  dsimp only
  refine wpAny_bind (T1.here ?_)
  rw [if_neg Bool.false_ne_true]
  unfold raisedInstance
  refine wpAny_bind (wpAny_bind (T2.here (wpAny_bind (T4.here ?_))))
  rw [if_pos (by decide)]
  refine wpAny_pure (wpAny_bind ?_)
  unfold setFlight
  refine wpAny_bind (wpAny_field ho hd h1 ?_)
  rw [if_neg (by decide)]
  refine wpAny_pure (wpAny_raiseNew_none hh ?_)
  have G := F₁.drop hle
  refine ⟨a, ρ, σ₂, rfl, G, ⟨oe, vs, ho, hc.trans hexc.symm, hd, (F₁.okf.ok.sto a _ (join_left hσ)).2, ?_, .inl h1⟩, hEr⟩
  exact none_join hn (by
    cases q : ((Store.one env.locals (.ns ρ)).join φ) a with
    | none => rfl
    | some p => rw [F₁.okf.apart a _ hσ] at q; cases q)
theorem Fst.around (x : Fst X A env ρ φ σ s) (h : B.frames = A.frames) : Fst X B env ρ φ σ s := ⟨x.off, ⟨x.okf.apart, x.okf.ok, by
  obtain ⟨l, hl, f⟩ := x.okf.fr
  exact ⟨l, h.trans hl, f⟩⟩⟩
/-! what stays, through an exception too -/
noncomputable def NoGhost (σ : Store) : Prop := ∀ a o, σ a = some o → o.isGhost = false
theorem NoGhost.set {a : Addr} {o : AO} (h : NoGhost σ) (ho : o.isGhost = false) : NoGhost (σ.set a o) := fun b p e => by
  unfold Store.set at e
  split at e
  · cases e; exact ho
  · exact h b p e
theorem isT_same {h : Heap} {a : Addr} {i j : Array Value} (x : IsT X h a i) (y : IsT X h a j) : i = j := by
  obtain ⟨o, ho, _, n, hd⟩ := x.1
  obtain ⟨o', ho', _, n', hd'⟩ := y.1
  rw [ho] at ho'; cases ho'
  rw [hd] at hd'; injection hd'
open Classical in
noncomputable def ghosts (X : Cx) (τ : Store) (h : Heap) : Store := fun a => if q : X.h₀.get? a = none ∧ τ a = none ∧ ∃ items, IsT X h a items then some (.tupg q.2.2.choose) else none
theorem ghosts_some {h : Heap} {a : Addr} {o : AO} (e : ghosts X τ h a = some o) : ∃ items, o = .tupg items ∧ IsT X h a items ∧ X.h₀.get? a = none ∧ τ a = none := by
  unfold ghosts at e
  split at e
  · rename_i q
    cases e
    exact ⟨_, rfl, q.2.2.choose_spec, q.1, q.2.1⟩
  · cases e
theorem ghosts_is {h : Heap} {a : Addr} {items : Array Value} (h1 : X.h₀.get? a = none) (h2 : τ a = none) (h3 : IsT X h a items) : ghosts X τ h a = some (.tupg items) := by
  have q : X.h₀.get? a = none ∧ τ a = none ∧ ∃ items, IsT X h a items := ⟨h1, h2, items, h3⟩
  have e : ghosts X τ h a = some (.tupg q.2.2.choose) := by unfold ghosts; rw [dif_pos q]
  rw [e, isT_same q.2.2.choose_spec h3]
theorem Fst.ghost (x : Fst X A env ρ φ σ s) (hσ : NoGhost σ) : ∃ γ : Store, Fst X A env ρ (γ.join φ) σ s ∧
    ∀ (B : Around) ρ' σ' s', Fst X B env ρ' (γ.join φ) σ' s' → Kept X s.heap s'.heap ∧ Fst X B env ρ' φ σ' s' := by
  have hτ : ∀ a o, σ a = some o → (σ.join ((Store.one env.locals (.ns ρ)).join φ)) a ≠ none := fun a o e z => by rw [join_left e] at z; cases z
  generalize hg : ghosts X (σ.join ((Store.one env.locals (.ns ρ)).join φ)) s.heap = γ
  have hγ : ∀ a o, γ a = some o → ∃ items, o = .tupg items ∧ IsT X s.heap a items ∧ X.h₀.get? a = none ∧ (σ.join ((Store.one env.locals (.ns ρ)).join φ)) a = none := fun a o e => by rw [← hg] at e; exact ghosts_some e
  have hγL : γ env.locals = none := by
    cases q : γ env.locals with
    | none => rfl
    | some o =>
      obtain ⟨_, _, _, _, z⟩ := hγ _ _ q
      have := (join_none (join_none z).2).1
      rw [one_self] at this; cases this
  obtain ⟨y, d⟩ := x.okf.adds (ψ := γ) fun a o e => by
    obtain ⟨items, rfl, h1, h2, h3⟩ := hγ a o e
    exact ⟨(join_none h3).1, (join_none h3).2, h2, h1⟩
  have F : Fst X A env ρ φ (σ.join γ) s := ⟨⟨x.off.1, none_join x.off.2 hγL⟩, y⟩
  obtain ⟨G, dφ⟩ := F.out d
  refine ⟨γ, G, fun B ρ' σ' s' H => ?_⟩
  have fr : FrOk B ((Store.one env.locals (.ns ρ')).join φ) := by
    obtain ⟨l, hl, f⟩ := H.okf.fr
    refine ⟨l, hl, fun e he => ?_⟩
    obtain ⟨hk, M, ρ₁, hf, hp⟩ := f e he
    refine ⟨hk, M, ρ₁, hf, ?_⟩
    unfold Store.join at hp ⊢
    cases q1 : Store.one env.locals (.ns ρ') M with
    | some p => rw [q1] at hp; exact hp
    | none =>
      rw [q1] at hp
      cases q2 : γ M with
      | none => rw [q2] at hp; exact hp
      | some p =>
        rw [q2] at hp; cases hp
        obtain ⟨_, z, _⟩ := hγ M _ q2
        cases z
  refine ⟨fun a items t => ?_, (H.in (ρ₀ := ρ') dφ fr).1.drop le_join⟩
  have here : ∀ i, ((Store.one env.locals (.ns ρ')).join (γ.join φ)) a = some (.tupg i) → IsT X s'.heap a i := fun i e => (H.okf.ok.sto a _ (join_right H.okf.apart e)).1
  cases q0 : X.h₀.get? a with
  | some o =>
    obtain ⟨⟨o', ho', r⟩, n⟩ := t
    have h1 := x.keep a o q0
    rw [ho'] at h1
    injection h1 with h1
    exact ⟨⟨o', H.keep a o' (by rw [q0, h1]), r⟩, n⟩
  | none =>
    cases q1 : (σ.join ((Store.one env.locals (.ns ρ)).join φ)) a with
    | none =>
      have e : γ a = some (.tupg items) := by rw [← hg]; exact ghosts_is q0 q1 t
      have hne : Store.one env.locals (.ns ρ') a = none := one_ne fun z => by rw [z, hγL] at e; cases e
      refine here items ?_
      unfold Store.join; rw [hne, e]
    | some o =>
      have hO := (x.okf.ok.sto a o q1).1
      cases z : o.isGhost with
      | false => exact ((hO.there z).choose_spec.2 ⟨items, t⟩).elim
      | true =>
        cases o <;> first | (cases z; done) | skip
        rename_i i
        obtain rfl := isT_same (show IsT X s.heap a i from hO) t
        have hσa : σ a = none := by
          cases w : σ a with
          | none => rfl
          | some p => rw [join_left w] at q1; cases q1; have := hσ a _ w; cases this
        have q2 : ((Store.one env.locals (.ns ρ)).join φ) a = some (.tupg i) := by unfold Store.join at q1 ⊢; rw [hσa] at q1; exact q1
        have hne : a ≠ env.locals := fun w => by rw [w, join_left (one_self ..)] at q2; cases q2
        have q3 : φ a = some (.tupg i) := by unfold Store.join at q2; rw [one_ne hne] at q2; exact q2
        have q4 : γ a = none := by
          cases w : γ a with
          | none => rfl
          | some p => obtain ⟨_, _, _, _, w2⟩ := hγ a p w; rw [w2] at q1; cases q1
        refine here i ?_
        unfold Store.join; rw [one_ne hne, q4]; exact q3
/-- try, one clause: nothing leaves -/
theorem ES_Try {body : List Stmt} {n : Str} {np hpos pos : Pos} {b₀ : Stmt} {suite : List Stmt} {Q : AF → List (Str × AV) → Store → Prop} (hr : Here A env) (hK : K.In X.h₀) (hexc : X.exc = .ref C) (hx : exmOne K (.ref C) (.ref C) = some true)
    (hk : env.scope.kind = .function) (hl : env.kindOf n = some .globalImplicit) (hg : env.globals = mainGlobals) (hv : X.mg n = some (.ref C))
    (hG : NoGhost σ) (h : ESs X A env ρ body σ Q (EXF X A env Er))
    (hs : ∀ B : Around, B.frames = A.frames → ∀ ρ' σ', Er ρ' σ' → ESs X B env ρ' (b₀ :: suite) σ' Q (fun _ _ _ => False)) (hd : (n == ("__debug__" : Str)) = false := by decide) :
    ES X A env ρ (.Try body [.ExceptHandler (some (.Name n np)) none (b₀ :: suite) hpos] [] [] pos) σ Q E := fun φ s F => by
  obtain ⟨γ, G, back⟩ := F.ghost hG
  refine wpAny_Try_except (wpAny_mono (XS.use h G fun a f ρ₁ σ₁ s₁ hf F₁ k₁ h₁ => ?_) (fun _ _ q => q) fun e s₁ he => ?_)
  · have base : PS X A env φ s.heap Q a s₁ := ⟨f, ρ₁, σ₁, hf, (back A ρ₁ σ₁ s₁ F₁).2, k₁, h₁⟩
    cases f with
    | next => obtain rfl : a = .next := hf; exact wpAny_execs_nil base
    | brk => obtain rfl : a = .brk := hf; exact base
    | cont => obtain rfl : a = .cont := hf; exact base
    | ret V => obtain ⟨v, rfl, _⟩ := hf; exact base
  · refine he.note hr fun s₂ h₂ => h₂.flight (f := none) fun s₃ h₃ => ?_
    obtain ⟨a, ρ', σ', rfl, F₃, fl, q⟩ := h₃
    have fl' := fl
    obtain ⟨oe, vs, T, oT, ts, ho, hc, _⟩ := fl'
    have LT : Looks (model X.prog X.w) s₃.heap (typeOf (.ref a)) (.ref C) := (hc.trans hexc) ▸ (Looks.ld ho).andThen .now
    refine wpAny_handleBy_cons (codeAny_handlers_test ?_) (by intro q; cases q)
    refine Name_function_global hk hl (loadGlobal_global (hg ▸ X.g.keeps F₃.keep) hv ?_) hd
    refine (exm_one (hK.keeps F₃.keep) LT hx).here ?_
    show codeAny _ _ (.handlers (.ref a) [.ExceptHandler none none (b₀ :: suite) hpos] env) _ _
    refine codeAny_handlers_suite ?_
    refine setFlight_ok F₃.okf.ok fl fun s₄ y kk f4 => ?_
    have F₄ := (F₃.again y).around (B := A.mark (some (.ref a))) rfl
    refine wpAny_mono ((hs (A.mark (some (.ref a))) rfl ρ' σ' q) _ s₄ F₄) (fun f s₅ hq => ?_) fun _ _ z => z.elim
    obtain ⟨f', ρ₅, σ₅, hf, F₅, _, h₅⟩ := hq
    have F₅' : Fst X A env ρ₅ (γ.join φ) σ₅ s₅ := F₅.around rfl
    obtain ⟨kk5, F₆⟩ := back A ρ₅ σ₅ s₅ F₅'
    exact ⟨f', ρ₅, σ₅, hf, F₆, kk5, h₅⟩
end
end Mine
end
section
set_option Elab.async false
set_option maxRecDepth 100000
set_option linter.unusedVariables false
open PySem PySem.W PySem.Calls PyProof.Rows PySem.SeqAt Builtin Builtin.ObjectAttr Builtin.Getset_descriptor
namespace Mine
noncomputable abbrev excTup (rest : List Value) : Obj := { cls := .type "tuple", data := .seq rest.toArray }
noncomputable abbrev excObj (C t : Addr) : Obj := { cls := .ref C, data := .fields #[.ref t, .none, .none, .none, .bool false, .none] }
section
variable {prog : Program} {w : World} {A : Around} {E : Value → Shared → Prop} {R : Result → Shared → Prop} {h : Heap} {g : Array GenState} {d : Drawn} {t : Nat} {os : OsState}
variable {nm q : Str} {C N fI : Addr} {bs bm : List Value} {hdct : Bool} {sn : List Str} {sub : List Value} {ab : Bool} {col : Option Bool} {dd : Option Addr} {k0 k1 k2 k3 k5 : Option Value} {Bn newId inN : String} {bmN : List Value}
theorem exc_check_new {M : Model} (Fn : ExcBaseFacts Bn newId inN bmN) (hcont : (Value.ref C :: bm).contains (.type Bn) = true) {rest : List Value} {Q : Unit → Shared → Prop} (hC : h.get? C = some (excClassObj nm q C N bs bm hdct sn sub ab col dd k0 k1 k2 k3 k5 newId))
    (hq : Q () ⟨h, g, d, t, os⟩) : wpAny M A (checkBuiltinCall newId ⟨.ref C :: rest, []⟩) Q E ⟨h, g, d, t, os⟩ := by
  have hstar := Fn.noStar
  simp only [checkBuiltinCall, Fn.newKind, Fn.newSplit, Fn.newRow]
  repeat (first | refine wpAny_loadPart_at hC ?_ | (refine wpAny_isSubtype_exc hC ?_; rw [hcont]) | refine wpAny_staticBase_exc hC ?_ | refine wpAny_madeBy_exc hC ?_ | simp only [bne_self_eq_false, Bool.false_eq_true, if_false] | wp_step)
  exact hq
theorem exc_new (Fn : ExcBaseFacts Bn newId inN bmN) (hcB : (Value.ref C :: bm).contains (.type Bn) = true) (hcA : (Value.ref C :: bm).contains (.type "AttributeError") = false) (hcN : (Value.ref C :: bm).contains (.type "NameError") = false)
    {rest : List Value} (hC : h.get? C = some (excClassObj nm q C N bs bm hdct sn sub ab col dd k0 k1 k2 k3 k5 newId))
    (hq : R (.ok (.ret (.ref (h.objs.size + 1)))) ⟨(h.push (excTup rest)).push (excObj C h.objs.size), g, d, t, os⟩) (hrest : rest.length ≤ sizeLine) :
    codeAny (model prog w) A (.builtin newId ⟨.ref C :: rest, []⟩) R ⟨h, g, d, t, os⟩ := by
  have hends := Fn.ends
  refine codeAny_builtinAt Fn.entry ?_
  unfold Builtin.«BaseException.__new__»
  refine PySem.wpAt_bind ?_
  show PySem.wpAt _ _ _ (stack >>= _) _ _ _
  refine PySem.wpAt_bind (PySem.wpAt_stack fun p below => PySem.wpAt_of_wpAny ?_)
  wp_walk
  refine PySem.wpAt_of_wpAny ?_
  rw [Fn.owner]
  repeat (first | with_reducible refine wpAny_madeHere_exc Fn.canon hC ?_ | with_reducible refine wpAny_loadPart_at hC ?_ | (with_reducible refine wpAny_isSubtype_exc hC ?_; first | rw [hcB] | rw [hcA] | rw [hcN]) | wp_step)
  show R _ _
  rw [Heap.size_push]
  exact hq
theorem exc_core {rest : List Value} (Fn : ExcBaseFacts Bn newId inN bmN) (hcB : (Value.ref C :: bm).contains (.type Bn) = true) (hcA : (Value.ref C :: bm).contains (.type "AttributeError") = false) (hcN : (Value.ref C :: bm).contains (.type "NameError") = false)
    (hC : h.get? C = some (excClassObj nm q C N bs bm hdct sn sub ab col dd k0 k1 k2 k3 k5 newId)) (hrest : rest.length ≤ sizeLine)
    (hi : Looks (model prog w) h (typeLookup (.ref C) "__init__") (some (.ref fI))) (hb : ∀ self, Looks (model prog w) h (bindSpecial (.ref fI) self) (.ref fI, [self]))
    (call : Looks (model prog w) h (specialOf (.ref C) "__call__") (some (.builtin "type.__call__"))) (typ : Looks (model prog w) h (isInstance (.ref C) (.type "type")) true)
    (hq : codeAny (model prog w) (A.under (.builtin "type.__call__" ⟨.ref C :: rest, []⟩)) (.call (.ref fI) ⟨.ref (h.objs.size + 1) :: rest, []⟩) (InitBack (h.objs.size + 1) R) ⟨(h.push (excTup rest)).push (excObj C h.objs.size), g, d, t, os⟩) :
    codeAny (model prog w) A (.call (.ref C) ⟨rest, []⟩) R ⟨h, g, d, t, os⟩ := by
  refine codeAny_of_tree ?_
  show wpAny _ _ (callAny (.ref C) _) _ _ _
  refine nd_load hC ?_
  show wpAny _ _ (callAny.viaDunder (.ref C) _) _ _ _
  unfold callAny.viaDunder
  refine wpAny_bind (call.at ?_)
  dsimp only
  rw [tc_bind]
  refine wpAny_bind (wpAny_pure (wpAny_bind (wpAny_pure ?_)))
  refine wpAny_pure (a := Fin.again (.call (.builtin "type.__call__") ⟨.ref C :: rest, []⟩)) (And.intro rfl ?_)
  refine codeAny_call_builtin_at (Code.quiet_builtin _ (by decide +kernel)) entry_typeCall (check_slot tc_kind tc_split typ (tc_args _ _ _) ?_)
  unfold Builtin.«type.__call__»
  have hm : Looks (model prog w) h (mroOf (.ref C)) (.ref C :: bm) := ((Looks.ld (part := none) hC).andThen .now).andThen .now
  have hmb : Looks (model prog w) h (Bind.madeBy (.ref C)) (some newId) := fun A Q E s k q => by
    obtain ⟨hh, g, d, t, os⟩ := s
    exact wpAny_madeBy_exc (k _ _ hC) q
  repeat (first | with_reducible refine wpAny_call ?_ | lk)
  refine codeAny_call_builtin_code (Code.quiet_builtin _ Fn.quiet) (exc_check_new Fn hcB hC ?_)
  refine exc_new Fn hcB hcA hcN hC ?_ hrest
  have k : ∀ b o, h.get? b = some o → ((h.push (excTup rest)).push (excObj C h.objs.size)).get? b = some o := fun b o e => Heap.get?_push_of_some _ (Heap.get?_push_of_some _ e)
  have hx : ((h.push (excTup rest)).push (excObj C h.objs.size)).get? (h.objs.size + 1) = some (excObj C h.objs.size) := by heap_get
  have t1 : Looks (model prog w) ((h.push (excTup rest)).push (excObj C h.objs.size)) (typeOf (.ref (h.objs.size + 1))) (.ref C) := (Looks.ld hx).andThen .now
  have s1 : Looks (model prog w) ((h.push (excTup rest)).push (excObj C h.objs.size)) (isSubtype (.ref C) (.ref C)) true := fun A Q E s k' q => by
    obtain ⟨hh, g, d, t, os⟩ := s
    exact wpAny_isSubtype_exc (k' _ _ (k _ _ hC)) (by rw [show (Value.ref C :: bm).contains (.ref C) = true by simp]; exact q)
  have i1 := hi.keeps k
  have b1 := (hb (.ref (h.objs.size + 1))).keeps k
  unfold isInstance callSpecial? specialOf
  repeat (first | with_reducible refine wpAny_call ?_ | lk)
  refine codeAny_mono hq fun r s' z => ?_
  rcases r with e | (v | _ | _ | _) <;> first | exact z | exact z.elim | skip
  obtain ⟨rfl, z⟩ := z
  exact wpAny_pure (wpAny_pure z)
end
end Mine
end
section
set_option Elab.async false
set_option maxRecDepth 100000
set_option linter.unusedVariables false
open PySem PySem.W PySem.Calls PyProof.Rows PySem.SeqAt
namespace Mine
theorem slot_wd_get : Slot "wrapper_descriptor" "__get__" "wrapper_descriptor.__get__" := .of (owner := "wrapper_descriptor") (n := "__get__") (by rw [typeLookup_type, builtinLookup_eq_fast]; kernel_rfl) (by decide +kernel) (by decide +kernel) (by decide +kernel)
  (by first | exact .inl (by decide +kernel) | exact .inr (by decide +kernel)) (by rw [isSubtype_type]; kernel_rfl)
theorem entry_wd_get : entryFor table "wrapper_descriptor.__get__" = some Builtin.«wrapper_descriptor.__get__» := entryFor_of_tree (by kernel_rfl)
theorem args_wd_get (a b c : Value) : argsOk "wrapper_descriptor.__get__" ⟨[a, b, c], []⟩ := by unfold argsOk; kernel_rfl
theorem type_einit : typeOf (.builtin "Exception.__init__") = pure (.type "wrapper_descriptor") := by show builtinType _ = _; rw [builtinType_eq_fast]; kernel_rfl
noncomputable abbrev mwObj (x : Addr) : Obj := { cls := .type "method-wrapper", data := .fields #[.builtin "Exception.__init__", .ref x] }
theorem owner_einit : ".".intercalate ("Exception.__init__".cutAt '.').dropLast = "Exception" := by decide +kernel
section
variable {prog : Program} {w : World} {M : Model} {A : Around} {E : Value → Shared → Prop} {h : Heap} {g : Array GenState} {d : Drawn} {t : Nat} {os : OsState}
set_option maxHeartbeats 4000000 in
theorem sup_ga {so D x C : Addr} {l₀ l : List Value} {K : Frag} {name : Str} {tk : Tok} {Q : Fin → Shared → Prop}
    (hso : h.get? so = some (ks_superObj D x C)) (hno : Looks (model prog w) h (opaqueClassAbove (.ref C)) none)
    (hC : Looks (model prog w) h (mroOf (.ref C)) l₀) (hl : (l₀.dropWhile (· != .ref D)).drop 1 = l) (X : K.In h)
    (hf : alongIn K name l = some (some (.builtin "Exception.__init__"))) {ox : Obj} (hx : h.get? x = some ox) (hxc : ox.cls = .ref C) (hin : Looks (model prog w) h (isSubtype (.ref C) (.type "Exception")) true) (hxC : x ≠ C) (hn : (name == ("__class__" : Str)) = false)
    (hq : Q (.done (.ret (.ref h.objs.size))) ⟨h.push (mwObj x), g, d, t, os⟩) :
    wpAny (model prog w) A (Builtin.«super.__getattribute__» ⟨[.ref so, .str name tk], []⟩) Q E ⟨h, g, d, t, os⟩ := by
  have hlk := slot_wd_get.lookup
  have hne : (Value.ref x == Value.ref C) = false := by simp [hxC]
  have hTf : (⟨h, g, d, t, os⟩ : Shared).TypeIs (.builtin "Exception.__init__") "wrapper_descriptor" := type_einit
  have hdt : (ks_superObj D x C).data = .fields #[.ref D, .ref x, .ref C] := rfl
  have f0 : (#[.ref D, .ref x, .ref C] : Array Value)[0]? = some (.ref D) := rfl
  have f1 : (#[.ref D, .ref x, .ref C] : Array Value)[1]? = some (.ref x) := rfl
  have f2 : (#[.ref D, .ref x, .ref C] : Array Value)[2]? = some (.ref C) := rfl
  unfold Builtin.«super.__getattribute__»
  repeat (first
    | (with_reducible refine wpAny_field hso hdt f0 ?_) | (with_reducible refine wpAny_field hso hdt f1 ?_) | (with_reducible refine wpAny_field hso hdt f2 ?_)
    | (with_reducible refine ks_wpAny_notOpaque hno ?_)
    | (with_reducible refine Looks.at hC ?_; rw [hl])
    | (refine ks_forIn_along X (fun _ _ => rfl) rfl ?_ hf)
    | (with_reducible refine wpAny_typeOf hTf ?_)
    | (with_reducible refine wpAny_call_entry slot_wd_get hTf entry_wd_get ?_ (args_wd_get _ _ _))
    | (with_reducible refine ⟨_, rfl, ?_⟩)
    | (simp only [hn, hne, Bool.or_false, Bool.false_eq_true, if_false])
    | wp_step
    | dsimp only)
  rw [owner_einit, hxc]
  refine Looks.at hin ?_
  refine wpAny_pure ?_
  unfold newFields
  repeat (first | (with_reducible refine wpAny_newObj_type ?_ (by size_fits)) | (with_reducible refine ⟨_, rfl, ?_⟩) | wp_step)
  all_goals exact hq
theorem sup_getMethod {so D x C : Addr} {l₀ l : List Value} {K : Frag} {name : Str} {pl : Sem Bool} {Q : Value × List Value → Shared → Prop}
    (hso : h.get? so = some (ks_superObj D x C)) (hno : Looks (model prog w) h (opaqueClassAbove (.ref C)) none)
    (hC : Looks (model prog w) h (mroOf (.ref C)) l₀) (hl : (l₀.dropWhile (· != .ref D)).drop 1 = l) (X : K.In h)
    (hf : alongIn K name l = some (some (.builtin "Exception.__init__"))) {ox : Obj} (hx : h.get? x = some ox) (hxc : ox.cls = .ref C) (hin : Looks (model prog w) h (isSubtype (.ref C) (.type "Exception")) true) (hxC : x ≠ C) (hn : (name == ("__class__" : Str)) = false)
    (hq : Q (.ref h.objs.size, []) ⟨h.push (mwObj x), g, d, t + 1, os⟩) :
    wpAny (model prog w) A (getMethod (.ref so) name pl) Q E ⟨h, g, d, t, os⟩ := by
  have hlk := F.ks_slot_super_ga.lookup
  have hcan := F.ks_canon_super_ga
  have hT : ∀ t', (⟨h, g, d, t', os⟩ : Shared).TypeIs (.ref so) "super" := fun _ => ⟨_, hso, rfl⟩
  unfold getMethod
  refine wpAny_bind (wpAny_specialOf (hT _) hlk ?_)
  show wpAny _ _ (if (Manifest.canonical "super.__getattribute__" != "object.__getattribute__") = true then _ else _) _ _ _
  rw [if_pos hcan]
  unfold getAttr getAttrBy
  refine wpAny_bind (wpAny_bind (wpAny_mkText (wpAny_holding (wpAny_bind (wpAny_typeOf (hT _) (wpAny_bind (wpAny_of_eq hlk ?_)))))))
  show wpAny _ _ (getAttrByItsOwn (.ref so) (.str name t) (.type "super") (.builtin "super.__getattribute__") true false) _ _ _
  unfold getAttrByItsOwn hookBefore callGetattribute boundAndCalled
  refine wpAny_bind (wpAny_of_eq (show (if onTheHeap (.type "super") then typeLookup (.type "super") "__getattr__" else pure none) = pure none from rfl) ?_)
  refine wpAny_bind (wpAny_attempt (wpAny_holding ?_))
  show wpAny _ _ (bindSpecial (.builtin "super.__getattribute__") (.ref so) >>= _) _ _ _
  refine wpAny_bind (wpAny_of_eq (F.ks_slot_super_ga.bind _) ?_)
  refine wpAny_mono (Q := fun v s' => v = .ref h.objs.size ∧ s' = ⟨h.push (mwObj x), g, d, t + 1, os⟩) (E := fun _ _ => False)
    (wpAny_call_entry F.ks_slot_super_ga (hT _) F.ks_entry_super_ga (sup_ga hso hno hC hl X hf hx hxc hin hxC hn ⟨_, rfl, rfl, rfl⟩) (F.ks_gaArgs_super _ _)) (fun v s' hv => ?_) fun _ _ z => z.elim
  obtain ⟨rfl, rfl⟩ := hv
  exact wpAny_pure (wpAny_pure hq)
theorem sup_callWith {pos : Pos} {u x : Addr} {args : List (Bool × Sem Value)} {Q : Value → Shared → Prop} (hplain : args.any (·.1) = false) {s : Shared}
    (h : wpAny M A (evalArgs (.ref u) true args []) (fun a s₁ => s₁.heap.get? u = some (mwObj x) ∧ a.kw = [] ∧ wpAny M A (call (.ref u) a.pos []) Q E s₁) E s) : wpAny M A (callWith pos (.ref u) [] args []) Q E s := by
  unfold callWith
  refine wpAny_bind (wpAny_holding (wpAny_mono h (fun x s₁ h₁ => wpAny_bind (wpAny_standAt ?_)) fun _ _ x => x))
  obtain ⟨ho, hkw, hcall⟩ := h₁
  rw [hkw]
  simp only [hplain, List.any_nil, Bool.or_false]
  refine wpAny_bind (m := keeperOf (.ref u)) ?_
  unfold keeperOf
  refine wpAny_bind (wpAny_load ho ?_)
  simp only [show (Value.type "method-wrapper" != Value.type "method") = true by decide, show (Value.type "method-wrapper" == Value.type "builtin_function_or_method" || Value.type "method-wrapper" == Value.type "method-wrapper") = true by decide, if_true]
  refine wpAny_pure ?_
  exact wpAny_bind (wpAny_mono hcall (fun r s₂ hr => wpAny_bind (wpAny_holding (wpAny_point (wpAny_pure hr)))) fun _ _ x => x)
/-- the built-in __init__ of an exception, by its wrapper -/
theorem sup_call {u x T₀ : Addr} {v : Value} {Q : Value → Shared → Prop} {nm q : Str} {C N fI : Addr} {bs bm : List Value} {hdct : Bool} {sn : List Str} {sub : List Value} {ab : Bool} {col : Option Bool} {dd : Option Addr} {k0 k1 k2 k3 k5 : Option Value} {newId : String}
    (hC : h.get? C = some (excClassObj nm q C N bs bm hdct sn sub ab col dd k0 k1 k2 k3 k5 newId)) (hu : h.get? u = some (mwObj x)) (hx : h.get? x = some (excObj C T₀))
    (hq : ∀ h' T, (∀ b o, b ≠ x → h.get? b = some o → h'.get? b = some o) → h'.get? x = some (excObj C T) → Q .none ⟨h', g, d, t, os⟩) :
    wpAny (model prog w) A (call (.ref u) [v] []) Q E ⟨h, g, d, t, os⟩ := by
  have F := F.excBase_Exception
  refine wpAny_call (codeAny_of_tree ?_)
  show wpAny _ _ (callAny (.ref u) _) _ _ _
  unfold callAny
  refine wpAny_bind (wpAny_load hu ?_)
  show wpAny _ _ (checkBoundCall "Exception.__init__" ⟨[.ref x, v], []⟩ >>= fun _ => again (.builtin "Exception.__init__" ⟨[.ref x, v], []⟩)) _ _ _
  refine wpAny_bind ?_
  unfold checkBoundCall
  simp only [F.initKind, F.initRow]
  rw [if_pos (by decide)]
  have hshort := F.noStar
  repeat (first | with_reducible refine wpAny_loadPart_at hx ?_ | with_reducible refine wpAny_loadPart_at hC ?_ | wp_step)
  refine ⟨Code.quiet_builtin _ (by decide +kernel), codeAny_builtin F.initEntry ?_⟩
  wp_walk
  refine hq _ h.objs.size (fun b o hb he => ?_) ?_
  · rw [Heap.get?_update_other _ _ (Ne.symm hb)]
    exact Heap.get?_push_of_some _ he
  · rw [Heap.get?_update_self _ (Heap.get?_push_of_some _ hx) rfl]
    rfl
end
end Mine
end
section
set_option Elab.async false
set_option maxRecDepth 100000
set_option linter.unusedVariables false
open PySem PySem.W PySem.Calls PyProof.Rows PySem.SeqAt PySem.Builtin PySem.Builtin.ObjectAttr PySem.Builtin.Getset_descriptor
namespace Mine
section
variable {prog : Program} {w : World} {A : Around} {R : Result → Shared → Prop} {h : Heap} {g : Array GenState} {d : Drawn} {t : Nat} {os : OsState} {K : Frag} {x C T₀ : Addr}
/-- an attribute stored on an exception that has no dict yet -/
theorem exc_osa {name : Str} {tk : Tok} {v : Value} {cd : ClassData} (X : K.In h) (hx : h.get? x = some (excObj C T₀)) (hc : clsIn K C = some cd) (hpass : ∀ self, refuseLoop self "__setattr__" cd.mro = pure ()) (hsub : mroIn K C (.type "object") = some true)
    (ht : findIn K (.ref C) name = some none) (hh : cd.hasDict = true)
    (hq : ∀ h' tk', (∀ b o, b ≠ x → h.get? b = some o → h'.get? b = some o) → (∃ D, h'.get? x = some { excObj C T₀ with dict := some D }) → R (.ok (.ret .none)) ⟨h', g, d, tk', os⟩) :
    codeAny (model prog w) A (.call (.builtin "object.__setattr__") ⟨[.ref x, .str name tk, v], []⟩) R ⟨h, g, d, t, os⟩ := by
  have SF := PySem.F.store_object
  have I : Looks (model prog w) h (typeOf (.ref x)) (.ref C) := (Looks.ld hx).andThen .now
  have sub : Looks (model prog w) h (isInstance (.ref x) (.type "object")) true := I.andThen (looks_mroIn X hsub)
  refine codeAny_call_builtin SF.slot.plain SF.entry (@check_slot (model prog w) _ _ ⟨h, g, d, t, os⟩ "object.__setattr__" "object" "__setattr__" (.ref x) [.str name tk, v] [] _ SF.kind SF.split sub (SF.args (.ref x) (.str name tk) v) ?_)
  have hm : Looks (model prog w) h (mroOf (.ref C)) cd.mro := (looks_clsIn X hc).andThen .now
  rw [osa_eq, refuse_eq]
  refine wpAny_bind (wpAny_bind (I.at (wpAny_bind (hm.at ?_))))
  rw [hpass]
  refine wpAny_pure (wpAny_bind (I.at (wpAny_bind ((looks_findIn X ht).at (wpAny_bind (wpAny_pure ?_))))))
  refine wpAny_bind (wpAny_pure (wpAny_bind (wpAny_bind (wpAny_loadPart hx (wpAny_bind ((looks_clsIn X hc).at ?_))))))
  rw [hh]
  have hx₁ : (h.push { cls := .type "dict", data := .dict #[] }).get? x = some (excObj C T₀) := Heap.get?_push_of_some _ hx
  have hxs : x ≠ h.objs.size := Nat.ne_of_lt (Heap.lt_size hx)
  refine wpAny_bind (wpAny_alloc' ?_)
  refine wpAny_bind (wpAny_update' hx₁ ?_)
  refine wpAny_pure ?_
  have hgd : ((h.push { cls := .type "dict", data := .dict #[] }).update x fun o => { cls := o.cls, dict := some h.objs.size, data := o.data, slots := o.slots }).get? h.objs.size
      = some { cls := .type "dict", data := .dict #[] } :=
    (Heap.get?_update_ne _ _ _ _ hxs.symm).trans (Heap.get?_push_at rfl rfl)
  have hnd : ((h.push { cls := .type "dict", data := .dict #[] }).update x fun o => { cls := o.cls, dict := some h.objs.size, data := o.data, slots := o.slots }).Ns h.objs.size (fun _ => none) :=
    ⟨_, #[], _, hgd, rfl, fun e he => absurd he (by simp), fun _ => rfl⟩
  show wpAny _ _ (storeInDict h.objs.size (.str name tk) name v) _ _ _
  unfold storeInDict newKeyGuard
  refine wpAny_bind (wpAny_pure (wpAny_bind (wpAny_nsSet1 (Heap.Ns1.of_empty hnd) fun h' hn' hs => ?_)))
  obtain ⟨oD, esD, epD, hoD, hdD, hcD⟩ := hn'.count (Within.cons name v Within.nil)
  refine wpAny_bind (wpAny_lookBehind hoD (by rw [hdD]; exact pastItsLine_dict (Nat.le_trans hcD (by rw [List.length_cons, List.length_nil, sizeLine_eq]; omega))) ?_)
  refine wpAny_pure ?_
  refine hq h' _ (fun b ob hbx hb => ?_) ⟨h.objs.size, ?_⟩
  · exact (hs.2 b (Nat.ne_of_lt (Heap.lt_size hb))).trans ((Heap.get?_update_ne _ _ _ _ hbx).trans (Heap.get?_push_of_some _ hb))
  · exact (hs.2 x hxs).trans (Heap.get?_update_self _ hx₁ rfl)
theorem exc_setAttr {E : Value → Shared → Prop} {name : Str} {v : Value} {cd : ClassData} {Q : Unit → Shared → Prop} (X : K.In h) (hx : h.get? x = some (excObj C T₀)) (hc : clsIn K C = some cd) (hpass : ∀ self, refuseLoop self "__setattr__" cd.mro = pure ()) (hsub : mroIn K C (.type "object") = some true)
    (hs : findIn K (.ref C) "__setattr__" = some (some (.builtin "object.__setattr__"))) (ht : findIn K (.ref C) name = some none) (hh : cd.hasDict = true)
    (hq : ∀ h' tk', (∀ b o, b ≠ x → h.get? b = some o → h'.get? b = some o) → (∃ D, h'.get? x = some { excObj C T₀ with dict := some D }) → Q () ⟨h', g, d, tk', os⟩) :
    wpAny (model prog w) A (setAttr (.ref x) name v) Q E ⟨h, g, d, t, os⟩ :=
  set_plain (od := none) X ⟨hx, rfl, rfl, trivial⟩ hs (exc_osa X hx hc hpass hsub ht hh hq)
end
end Mine
end
section
set_option Elab.async false
set_option maxRecDepth 100000
set_option linter.unusedVariables false
open PySem PySem.W PySem.Calls PyProof.Rows PySem.SeqAt
namespace Mine
section
variable {X : Cx} {A B : Around} {env : Env} {ρ : List (Str × AV)} {σ τ φ : Store} {E : Store → Value → Shared → Prop} {Er : List (Str × AV) → Store → Prop} {s : Shared} {K : Frag} {C : Addr}
theorem callWith_cls {M : Model} {E : Value → Shared → Prop} {pos : Pos} {a : Addr} {args : List (Bool × Sem Value)} {Q : Value → Shared → Prop} (hplain : args.any (·.1) = false)
    (h : wpAny M A (evalArgs (.ref a) true args []) (fun x s₁ => (∃ o cd, s₁.heap.get? a = some o ∧ o.data = .cls cd) ∧ Looks M s₁.heap (specialOf (.ref a) "__call__") (some (.builtin "type.__call__")) ∧ wpAny M A (call (.ref a) x.pos x.kw) Q E s₁) E s) : wpAny M A (callWith pos (.ref a) [] args []) Q E s := by
  unfold callWith
  refine wpAny_bind (wpAny_holding (wpAny_mono h (fun x s₁ h₁ => wpAny_bind (wpAny_standAt ?_)) fun _ _ x => x))
  obtain ⟨⟨o, cd, ho, hd⟩, hl, hcall⟩ := h₁
  simp only [hplain, List.any_nil, Bool.or_false]
  refine wpAny_bind (m := keeperOf (.ref a)) ?_
  unfold keeperOf
  refine wpAny_bind (wpAny_load ho ?_)
  rw [hd]
  refine wpAny_bind (hl.here ?_)
  refine wpAny_pure ?_
  exact wpAny_bind (wpAny_mono hcall (fun r s₂ hr => wpAny_bind (wpAny_holding (wpAny_point (wpAny_pure hr)))) fun _ _ x => x)
/-- a class of the text called by its name -/
theorem EV_call_cls {n : Str} {p pos : Pos} {args : List Expr} {cd : ClassData} {Q : AV → Store → Prop} (hK : K.In X.h₀) (hc : clsIn K C = some cd) (hs : specialIn K (.ref C) "__call__" = some (some (.builtin "type.__call__"))) (hn : noStar args = true)
    (h : EV X A env ρ (.Name n p) σ (fun V σ₁ => V = .ref C ∧ EVs X A env ρ args σ₁ (fun Vs σ₂ => WC X A (.ref C) Vs σ₂ Q (Er ρ)) (EXF X A env Er)) (EXF X A env Er)) :
    EV X A env ρ (.Call (.Name n p) args [] pos) σ Q (EXF X A env Er) := fun φ s x => by
  show wpAny _ A (eval (.Call (.Name n p) args [] pos) env) _ _ s
  rw [arm_eval_Call_Name']
  refine wpAny_bind (h.use x fun v V σ₁ s₁ ha x₁ k₁ h₁ => ?_)
  obtain ⟨rfl, h₂⟩ := h₁
  obtain rfl : v = .ref C := ha
  refine callWith_cls (backTo_plain hn) ((evalArgs_EVs hn h₂).use x₁ fun a Vs σ₂ s₂ hv x₂ k₂ h₃ => ⟨?_, looks_specialIn (hK.keeps x₂.keep) hs, ?_⟩)
  · unfold clsIn at hc
    split at hc
    · rename_i c d cd' sl ho
      exact ⟨_, _, hK.keeps x₂.keep _ _ ho, rfl⟩
    · cases hc
  rw [hv.1]
  exact h₃.from x₂ hv.2 (k₁.trans k₂)
end
end Mine
end
section
set_option Elab.async false
set_option maxRecDepth 100000
set_option linter.unusedVariables false
open PySem PySem.W PySem.Calls PyProof.Rows PySem.SeqAt
namespace Mine
section
variable {X : Cx} {A B : Around} {env : Env} {ρ : List (Str × AV)} {σ τ φ : Store} {E : Store → Value → Shared → Prop} {Er : List (Str × AV) → Store → Prop} {s : Shared} {Q : AV → Store → Prop}
theorem EV_FmtInt {value : Expr} {pos : Pos} (h : EV X A env ρ value σ (fun V σ₁ => ∃ i, V = .int i ∧ i.natAbs.log2 < 1920 ∧ Q (.str (toString i)) σ₁) E) : EV X A env ρ (.FormattedValue value (-1) none pos) σ Q E := fun φ s x =>
  wpAny_FormattedValue_plain (h.use x fun a V σ₁ s₁ ha x₁ k₁ h₁ => by
    obtain ⟨i, rfl, hi, hq⟩ := h₁
    obtain ⟨t, rfl⟩ := ha
    exact wpAny_formatField_int hi ⟨.str (toString i), σ₁, ⟨_, rfl⟩, x₁.toks, k₁, hq⟩)
theorem EV_FmtStr {value : Expr} {pos : Pos} (h : EV X A env ρ value σ (fun V σ₁ => ∃ y, V = .str y ∧ y.length ≤ 1000 ∧ Q (.str y) σ₁) E) : EV X A env ρ (.FormattedValue value (-1) none pos) σ Q E := fun φ s x =>
  wpAny_FormattedValue_plain (h.use x fun a V σ₁ s₁ ha x₁ k₁ h₁ => by
    obtain ⟨y, rfl, hy, hq⟩ := h₁
    obtain ⟨t, rfl⟩ := ha
    exact wpAny_formatField_str ⟨.str y, σ₁, ⟨_, rfl⟩, x₁, k₁, hq⟩ ⟨.str y, σ₁, ⟨_, rfl⟩, x₁.toks, k₁, hq⟩ (by rw [sizeLine_eq]; omega))
/-- a text of two parts -/
theorem EV_Joined2 {v₁ v₂ : Expr} {pos : Pos} (h : EV X A env ρ v₁ σ (fun V σ₁ => ∃ y, V = .str y ∧ y.length ≤ 5000 ∧ EV X A env ρ v₂ σ₁ (fun U σ₂ => ∃ z, U = .str z ∧ z.length ≤ 5000 ∧ ∀ q, Q (.str q) σ₂) E) E) :
    EV X A env ρ (.JoinedStr [v₁, v₂] pos) σ Q E := fun φ s x =>
  wpAny_JoinedStr (h.use x fun a V σ₁ s₁ ha x₁ k₁ h₁ => by
    obtain ⟨y, rfl, hy, h₂⟩ := h₁
    obtain ⟨t, rfl⟩ := ha
    have l1 : (Str.empty ++ y).length ≤ 5000 := by rw [strLen_append]; show 0 + y.length ≤ _; omega
    refine ⟨y, t, rfl, Nat.le_trans l1 (by rw [sizeLine_eq]; omega), XE.use h₂ x₁ fun b U σ₂ s₂ hb x₂ k₂ h₃ => ?_⟩
    obtain ⟨z, rfl, hz, hq⟩ := h₃
    obtain ⟨u, rfl⟩ := hb
    have l2 : (Str.empty ++ y ++ z).length ≤ sizeLine := by rw [strLen_append, sizeLine_eq]; omega
    exact ⟨z, u, rfl, l2, l2, ⟨.str _, σ₂, ⟨_, rfl⟩, x₂.toks, k₁.trans k₂, hq _⟩⟩)
theorem it_str0 {y : Str} {c : Nat} (hc : y.cps[0]? = some c) (h : Q (.str ⟨#[c]⟩) σ) : ItS X A env ρ (.str y) (.int 0) σ Q E := fun φ s a b ha hb F => by
  obtain ⟨t, rfl⟩ := ha
  obtain ⟨u, rfl⟩ := hb
  have hl : 0 < y.length := by
    have := (Array.getElem?_eq_some_iff.mp hc).1
    exact this
  refine ⟨⟨"str", _, typeIs_str s y t, slot_str_getitem.lookup⟩, getItem_str (by decide) (c := c) ?_ ⟨.str ⟨#[c]⟩, σ, ⟨_, rfl⟩, F.toks, .refl _, h⟩⟩
  have : seqIndex? 0 y.length = some 0 := by
    unfold seqIndex?
    simp [hl]
  rw [this]; exact hc
theorem op_in_str {y z : Str} (h : Q (.bool !(Builtin.Str.occurrences y z 0 y.length 1).isEmpty) σ) : Op2 X A env ρ (VR X) (compareOp .In) (.str z) (.str y) σ Q E := fun φ s a b ha hb F => by
  obtain ⟨t, rfl⟩ := ha
  obtain ⟨u, rfl⟩ := hb
  with_reducible refine PyProof.Rows.in_str ?_
  exact ⟨_, σ, VR_con _ _, F, .refl _, h⟩
end
end Mine
end
section
set_option Elab.async false
set_option maxRecDepth 100000
set_option linter.unusedVariables false
open PySem PySem.W PySem.Calls PyProof.Rows
namespace Mine
/-- the text's own objects, at the law's call -/
structure Pk (X : Cx) : Prop where
  K : (hd.heap_39 X.w.params).In X.h₀
  exc : X.exc = .ref 60
  bui : ∀ x : Str, x ≠ "__name__" → X.mb x = bootBuiltins x
  file : ((X.prog.main.file : Str) == ("/claim/cut.py" : Str)) = true
  top : (X.prog.main.scope.names.lookup ("super" : Str)).isSome = false

section
variable {X : Cx} {A : Around} {σ : Store}
theorem odd_spec (P : Pk X) (hr : A.depth < recursionLimit) {Q : AV → Store → Prop} {Es : Store → Prop}
    (h : ∀ a, σ.Below a → Q (.ref a) (σ.set a (.list [.str "", .str "?x", .str "a b", .str "f(", .str "x:y", .str "p,q", .str "[]", .str "{"]))) :
    WC X A (.ref 192) [] σ Q Es := by
  refine WC_fn (ns := []) (P.K 192 _ rfl) rfl (codeRec_of P.K (by rfl)) rfl rfl hr ?_ rfl (by decide) ?_
  · intro vs hv
    obtain rfl : vs = [] := List.length_eq_zero_iff.mp hv
    rfl
  intro L hL
  with_reducible refine ESs_cons ?_
  with_reducible refine ES_Return ?_
  with_reducible refine EV_List ?_ ?_ ?_
  · rfl
  · decide
  repeat (with_reducible refine EVs_cons ?_; with_reducible refine EV_str ?_)
  with_reducible refine EVs_nil ?_
  exact ⟨rfl, fun a ha _ => h a ha⟩
end
end Mine
end
section
set_option Elab.async false
set_option maxRecDepth 100000
set_option linter.unusedVariables false
open PySem PySem.W PySem.Calls PyProof.Rows
namespace Mine
section
variable {X : Cx} {A : Around} {σ : Store}
set_option maxHeartbeats 2000000 in
theorem init_code (P : Pk X) (hr : A.depth < recursionLimit) {s : Shared} {x T₀ : Addr} {v : Value} {R : Result → Shared → Prop} (keep : X.h₀.StaysIn s.heap) (hx : s.heap.get? x = some (excObj 60 T₀)) (hx0 : X.h₀.get? x = none)
    (hq : ∀ h' tk', (∀ b o, b ≠ x → s.heap.get? b = some o → h'.get? b = some o) → (∃ D T, h'.get? x = some { excObj 60 T with dict := some D }) → R (.ok (.ret .none)) { s with heap := h', toks := tk' }) :
    codeAny (model X.prog X.w) A (.call (.ref 37) ⟨[.ref x, v], []⟩) R s := by
  obtain ⟨hp, g, d, t, os⟩ := s
  have hK := P.K.keeps keep
  have hx60 : x ≠ 60 := fun q => by subst q; have := P.K 60 _ rfl; rw [hx0] at this; cases this
  refine ks_codeAny_call_defAt (a := 37) (binds := [("self", .ref x), ("what", v)]) hr (keep _ _ (P.K 37 _ rfl)) rfl (X.lim.keeps keep) (Heap.CodeRec.keeps (codeRec_of P.K (by rfl)) keep) rfl (.of_eq rfl) (by decide) (locs rfl) ?_
  intro h₁ hns hk₁
  have hK₁ := hK.keeps hk₁
  have hx₁ := hk₁ _ _ hx
  refine ks_wpAt_execs_cons (ks_wpAt_Expr_any (ks_wpAt_MethodCall (ks_wpAt_super_base (f := 37) (cc := 36) rfl rfl rfl rfl (hK₁ 37 _ rfl) rfl rfl rfl (hK₁ 36 _ rfl) rfl rfl P.file P.top ?_)))
  refine ks_loadName_global rfl rfl (loadGlobal_builtin (X.g.keeps fun b o e => hk₁ b o (keep b o e)) (mg_none_of P.K X.g (by rfl)) (X.b.keeps fun b o e => hk₁ b o (keep b o e)) ((P.bui _ (by decide)).trans Boot.«super») ⟨rfl, ?_⟩)
  refine wpAny_loadName_free rfl rfl rfl ⟨_, hK₁ 25 _ rfl, rfl⟩ ?_
  refine wpAny_loadName_local rfl rfl hns rfl ?_
  refine ks_wpAny_isType_cls (hK₁ 47 _ rfl) rfl ⟨rfl, ?_⟩
  refine ks_wpAny_call_super (hK₁ 47 _ rfl) rfl hx₁ rfl (fun c e => by cases e) (looks_mroIn hK₁ (by rfl)) (fun h₂ hso hk₂ => ?_)
  have hK₂ := hK₁.keeps hk₂
  have hx₂ := hk₂ _ _ hx₁
  refine sup_getMethod (C := 60) (K := hd.heap_39 X.w.params) hso (looks_opaque hK₂ (by rfl)) (l₀ := [.ref 60, .ref 47, .type "Exception", .type "BaseException", .type "object"]) ?_ (l := [.type "Exception", .type "BaseException", .type "object"]) rfl hK₂ (by rfl) hx₂ rfl (looks_mroIn hK₂ (by rfl)) hx60 rfl ?_
  · exact fun A Q E s k q => wpAny_bind ((looks_clsIn hK₂ (by rfl)) A _ E s k (wpAny_pure q))
  have hmw : (h₂.push (mwObj x)).get? h₂.objs.size = some (mwObj x) := Heap.get?_push_at rfl rfl
  have hk₃ : ∀ b o, h₂.get? b = some o → (h₂.push (mwObj x)).get? b = some o := fun b o e => Heap.get?_push_of_some _ e
  refine sup_callWith (u := h₂.objs.size) (x := x) rfl ?_
  refine evalArgs_plain ?_
  refine spliced_cons ?_
  refine wpAny_Name (wpAny_loadName_local rfl rfl ((hns.keeps hk₂).keeps hk₃) rfl ?_) (by decide)
  refine spliced_nil ⟨hmw, rfl, ?_⟩
  refine sup_call (fI := 0) (hk₃ _ _ (hK₂ 60 _ rfl)) hmw (hk₃ _ _ hx₂) (fun h₄ T hk₄ hx₄ => ?_)
  have hk' : ∀ b o, b ≠ x → hp.get? b = some o → h₄.get? b = some o := fun b o hb e => hk₄ b o hb (hk₃ _ _ (hk₂ _ _ (hk₁ _ _ e)))
  have hK₄ : (hd.heap_39 X.w.params).In h₄ := fun b o e => hk' b o (fun q => by subst q; have := P.K _ _ e; rw [hx0] at this; cases this) (hK _ _ e)
  have hLx : hp.objs.size ≠ x := Nat.ne_of_gt (Heap.lt_size hx)
  have hns₄ : h₄.Ns hp.objs.size _ := let ⟨o, es, ep, e, r⟩ := hns; ⟨o, es, ep, hk₄ _ o hLx (hk₃ _ _ (hk₂ _ _ e)), r⟩
  refine PySem.wpAt_of_wpAny (wpAny_execs_cons (plainObj_wpAny_Assign_Attribute (wpAny_Name (wpAny_loadName_local rfl rfl hns₄ rfl ?_) (by decide))))
  refine wpAny_Name (wpAny_loadName_local rfl rfl hns₄ rfl ?_) (by decide)
  refine exc_setAttr hK₄ hx₄ (cd := (clsIn (hd.heap_39 X.w.params) 60).get (by rfl)) (by rfl) (fun self => ?_) (by rfl) (by rfl) (by rfl) (by rfl) (fun h₅ tk' hk₅ hx₅ => ?_)
  · show refuseLoop self "__setattr__" [.ref 60, .ref 47, .type "Exception", .type "BaseException", .type "object"] = pure ()
    rw [refuseLoop_ref, refuseLoop_ref]
    exact PySem.F.store_Exception.passes self
  refine wpAny_execs_nil ?_
  obtain ⟨D, hD⟩ := hx₅
  exact hq h₅ _ (fun b o hb e => hk₅ b o hb (hk' b o hb e)) ⟨D, T, hD⟩
end
end Mine
end
section
set_option Elab.async false
set_option maxRecDepth 100000
set_option linter.unusedVariables false
open PySem PySem.W PySem.Calls PyProof.Rows
namespace Mine
section
variable {X : Cx} {A : Around} {σ : Store}
theorem WC_fault (P : Pk X) (hr : A.depth + 2 < recursionLimit) {V : AV} {Q : AV → Store → Prop} {Es : Store → Prop}
    (h : ∀ a oe vs, σ a = none → oe.cls = .ref 60 → oe.data = .fields vs → vs[1]? = some .none → Q (.ref a) (σ.set a (.raw oe))) : WC X A (.ref 60) [V] σ Q Es := WC.of_code fun φ s vs x hv => by
  obtain ⟨v, rfl, hv'⟩ := vrs1 hv
  have keep := x.keep
  have f2 := x.free2 (a := s.heap.objs.size + 1) (Nat.le_succ _)
  obtain ⟨hp, g, d, t, os⟩ := s
  have hK := P.K.keeps keep
  refine exc_core (fI := 37) F.excBase_Exception (by rfl) (by rfl) (by rfl) (hK 60 _ rfl) (by rw [sizeLine_eq]; show 1 ≤ _; omega) (looks_findIn hK (by rfl)) (fun self => bind_fn hK self (by rfl)) (looks_specialIn hK (by rfl)) (looks_instIn hK (by rfl)) ?_
  have k : ∀ b o, hp.get? b = some o → ((hp.push (excTup [v])).push (excObj 60 hp.objs.size)).get? b = some o := fun b o e => Heap.get?_push_of_some _ (Heap.get?_push_of_some _ e)
  have h00 : X.h₀.get? (hp.objs.size + 1) = none := by
    cases q : X.h₀.get? (hp.objs.size + 1) with
    | none => rfl
    | some o => exact absurd (Heap.lt_size (keep _ _ q)) (Nat.not_lt.mpr (Nat.le_succ _))
  have hx : ((hp.push (excTup [v])).push (excObj 60 hp.objs.size)).get? (hp.objs.size + 1) = some (excObj 60 hp.objs.size) := by heap_get
  refine init_code P (Nat.lt_of_le_of_lt (Nat.add_le_add_left (Nat.le_of_ble_eq_true rfl) _) hr) (fun b o e => k b o (keep b o e)) hx h00 fun h' tk' hk' hx' => ⟨rfl, ?_⟩
  obtain ⟨D, T, hD⟩ := hx'
  have kk : ∀ b o, hp.get? b = some o → h'.get? b = some o := fun b o e => hk' b o (Nat.ne_of_lt (Nat.lt_succ_of_lt (Heap.lt_size e))) (k b o e)
  have z := x.alloc (tk := tk') kk (Nat.le_succ _) (show OR X h' (hp.objs.size + 1) (.raw _) from ⟨hD, fun q => by cases q⟩)
  exact ⟨.ref (hp.objs.size + 1), _, rfl, z, Kept.of_keeps kk, h _ _ _ f2.1 rfl rfl rfl⟩
end
end Mine
end
section
set_option Elab.async false
set_option maxRecDepth 100000
set_option linter.unusedVariables false
open PySem PySem.W PySem.Calls PyProof.Rows
namespace Mine
section
variable {X : Cx} {A : Around} {env : Env} {ρ : List (Str × AV)} {σ : Store} {E : Store → Value → Shared → Prop} {Q : AV → Store → Prop}
theorem EV_DictS' {keys : List (Option Expr)} {values : List Expr} {pos : Pos} (h0 : (keys.filterMap id).zip values ≠ []) (hlen : ((keys.filterMap id).zip values).length ≤ 15)
    (hshape : (evalEachOpt keys env).zip ((evalEach values env).map fun v => do let x ← v; standAt pos; pure x) = (((keys.filterMap id).zip values).map fun p => (eval p.1 env, do let x ← eval p.2 env; standAt pos; pure x)).map fun p => (some p.1, p.2))
    (h : ∀ D, σ D = none → EVs X A env ρ (((keys.filterMap id).zip values).flatMap fun p => [p.1, p.2]) (σ.set D (.sdict [])) (fun Vs σ₁ => ∃ l, Vs = (l.flatMap fun p => [.str p.1, p.2]) ∧ σ₁ D = some (.sdict []) ∧ Q (.ref D) (σ₁.set D (.sdict (mergeK [] l)))) E) :
    EV X A env ρ (.Dict keys values pos) σ Q E := EV_DictS _ h0 hlen hshape h
end
theorem WC_p {X : Cx} {A : Around} {σ : Store} {Es : Store → Prop} {Q : AV → Store → Prop} (P : Pk X) {a : Addr} {o : Obj} {fd : FuncData} {s0 : Stmt} {body : List Stmt} {ns : List Str} {Vs : List AV} (ho : (hd.heap_39 X.w.params).lookup a = some o) (hfd : o.data = .func fd)
    (hcd : X.h₀.CodeRec fd.code fd.qualname) (hbody : fd.body = .stmts (s0 :: body)) (hclo : fd.closure = []) (hroom : A.depth < recursionLimit)
    (hbind : ∀ vs : List Value, vs.length = Vs.length → bindArgs fd ⟨vs, []⟩ = pure (ns.zip vs))
    (hkind : ns.all (fun n => fd.scope.names.lookup n == some .local || fd.scope.names.lookup n == some .cell) = true) (hnd : ((cellsFrom 0 fd.scope.names []).map (·.1)).Nodup)
    (h : ∀ L, σ.Below L → ESs X (A.deeper (callEnvC fd L a)) (callEnvC fd L a) (bindLA (callEnvC fd L a).kindOf (ns.zip Vs) []) (s0 :: body)
      (setCells (bindCA (callEnvC fd L a).kindOf (ns.zip Vs) []) (callEnvC fd L a).cells σ) (fun fl _ σ' => Q fl.val σ') (EXF X (A.deeper (callEnvC fd L a)) (callEnvC fd L a) fun _ σ => Es σ))
    (hco : fd.scope.isCoroutine = false := by rfl) (hgen : fd.scope.isGenerator = false := by rfl) (hk : fd.scope.kind = .function := by rfl) : WC X A (.ref a) Vs σ Q Es :=
  WC.of_code (WCc_fx (P.K a o ho) hfd hcd hbody hclo hroom hbind hkind hnd h hco hgen hk)
/-- what is known of a frame's surroundings -/
structure EnvIs (env : Env) (names : List (Str × NameKind)) (cells : List (Str × Addr)) : Prop where
  k : env.scope.kind = .function
  g : env.globals = mainGlobals
  b : env.builtins = builtinsNs
  n : ∀ x, env.kindOf x = names.lookup x
  c : env.cells = cells
  d : names.lookup ("__debug__" : Str) = none
section
variable {env : Env} {names : List (Str × NameKind)} {cells : List (Str × Addr)}
theorem EnvIs.l (h : EnvIs env names cells) {x : Str} {k : NameKind} (e : names.lookup x = some k) : env.kindOf x = some k := (h.n x).trans e
theorem EnvIs.ce (h : EnvIs env names cells) {x : Str} {c : Addr} (e : cells.lookup x = some c) : env.cells.lookup x = some c := by rw [h.c]; exact e
theorem EnvIs.nd (h : EnvIs env names cells) {x : Str} {k : NameKind} (e : names.lookup x = some k) : (x == ("__debug__" : Str)) = false := by
  cases q : x == ("__debug__" : Str) with
  | false => rfl
  | true => rw [beq_iff_eq.mp q, h.d] at e; cases e
theorem EnvIs.bk (h : EnvIs env names cells) : (env.blockKind == .function) = true := by unfold Env.blockKind; rw [h.k]; rfl
noncomputable def E0 (cells : List (Str × Addr)) : Env := { scope := default, locals := 0, globals := 0, cells := cells }
theorem EnvIs.clo (h : EnvIs env names cells) {scope : Scope} {cl : List (Str × Addr)} (e : closureFor scope (E0 cells) = pure cl) : closureFor scope env = pure cl := by
  have : closureFor scope env = closureFor scope (E0 env.cells) := rfl
  rw [this, h.c]; exact e
theorem EnvIs.of {fd : FuncData} {L a : Addr} (he : callEnvC fd L a = env) (h1 : fd.scope.kind = .function) (h2 : fd.globals = mainGlobals) (h3 : fd.builtins = builtinsNs) (h4 : fd.scope.names.lookup ("__debug__" : Str) = none := by rfl) : EnvIs env fd.scope.names (cellsFrom (L + 1) fd.scope.names []) := by
  subst he; exact ⟨h1, h2, h3, fun _ => rfl, rfl, h4⟩
noncomputable def relabN (names l : List (Str × NameKind)) : List (Str × NameKind) := l.map fun p => if (p.2 == NameKind.free && names.lookup p.1 == some .cell) then (p.1, NameKind.cell) else (p.1, p.2)
theorem EnvIs.comp {scope : Scope} {cl : List (Str × Addr)} {C : Addr} {cenv : Env} (e : compEnvC scope cl C env = cenv) (h : EnvIs env names cells) (hk : scope.kind = .function) (hd : (relabN names scope.names).lookup ("__debug__" : Str) = none := by rfl) : EnvIs cenv (relabN names scope.names) cl := by
  subst e
  refine ⟨hk, h.g, h.b, fun x => ?_, rfl, hd⟩
  show (relabel scope env).names.lookup x = _
  unfold relabel relabN
  simp only [h.k, h.n, show (ScopeKind.function == ScopeKind.function) = true from rfl, Bool.and_true]
theorem here_of {A : Around} {fd : FuncData} {L a : Addr} (he : callEnvC fd L a = env) (h : ∃ l, A.frames = some l) : Here (A.deeper env) env := by
  subst he; exact here_call h
end
/-! doors of the walk -/
theorem pos_ {c : Prop} [i : Decidable c] {P Q : Prop} (h : c) (p : P) : if c then P else Q := by rw [if_pos h]; exact p
theorem neg_ {c : Prop} [i : Decidable c] {P Q : Prop} (h : ¬ c) (q : Q) : if c then P else Q := by rw [if_neg h]; exact q
noncomputable def biNames : List Str := ["len", "sum", "max", "sorted"]
noncomputable def tyNames : List Str := ["tuple", "list", "range", "enumerate", "zip"]
section
variable {X : Cx} {A : Around} {env : Env} {ρ : List (Str × AV)} {σ : Store} {E : Store → Value → Shared → Prop} {Q : AV → Store → Prop} {names : List (Str × NameKind)} {cells : List (Str × Addr)} {Er : List (Str × AV) → Store → Prop}
theorem look_l (H : EnvIs env names cells) {n : Str} {pos : Pos} {V : AV} (hl : names.lookup n = some .local) (hv : ρ.lookup n = some V) (h : Q V σ) : EV X A env ρ (.Name n pos) σ Q E :=
  EV_local H.k (H.l hl) hv h (H.nd hl)
theorem look_c (H : EnvIs env names cells) {n : Str} {pos : Pos} {V : AV} {c : Addr} (hl : names.lookup n = some .cell) (hc : cells.lookup n = some c) (hv : σ c = some (.cell (some V))) (h : Q V σ) : EV X A env ρ (.Name n pos) σ Q E :=
  EV_cell H.k (H.l hl) (H.ce hc) hv h (H.nd hl)
theorem look_g (P : Pk X) (H : EnvIs env names cells) {n : Str} {pos : Pos} {v : Value} (hl : names.lookup n = some .globalImplicit) (e : nsIn (hd.heap_39 X.w.params) mainGlobals n = some (some v)) (h : Q (.con v) σ) : EV X A env ρ (.Name n pos) σ Q E :=
  EV_global H.k (H.l hl) H.g (mg_of P.K X.g e) h (H.nd hl)
theorem look_b (P : Pk X) (H : EnvIs env names cells) {n : Str} {pos : Pos} {v : Value} (hl : names.lookup n = some .globalImplicit) (e : nsIn (hd.heap_39 X.w.params) mainGlobals n = some none) (hn : n ≠ "__name__") (hv : bootBuiltins n = some v) (h : Q (.con v) σ) :
    EV X A env ρ (.Name n pos) σ Q E := EV_builtin H.k (H.l hl) H.g H.b (mg_none_of P.K X.g e) ((P.bui n hn).trans hv) h (H.nd hl)
theorem put_l (H : EnvIs env names cells) {n : Str} {V : AV} {Q : List (Str × AV) → Store → Prop} (hl : names.lookup n = some .local) (h : Q (put n V ρ) σ) : OpU X A env ρ (fun v => storeName env n v) V σ Q E := store_local H.k (H.l hl) h
theorem call_fn (P : Pk X) (H : EnvIs env names cells) {n : Str} {p pos : Pos} {args : List Expr} {f : Addr} {o : Obj} {fd : FuncData} (g : (biNames.contains n || tyNames.contains n) = false) (hn : noStar args = true) (hl : names.lookup n = some .globalImplicit) (e : nsIn (hd.heap_39 X.w.params) mainGlobals n = some (some (.ref f)))
    (ho : (hd.heap_39 X.w.params).lookup f = some o) (hd : o.data = .func fd) (h : EVs X A env ρ args σ (fun Vs σ₂ => WC X A (.ref f) Vs σ₂ Q (Er ρ)) (EXF X A env Er)) : EV X A env ρ (.Call (.Name n p) args [] pos) σ Q (EXF X A env Er) :=
  EV_call_fn (P.K f o ho) hd hn (look_g P H hl e ⟨rfl, h⟩)
theorem call_bi (P : Pk X) (H : EnvIs env names cells) {n : Str} {p pos : Pos} {args : List Expr} {id : String} (g : biNames.contains n = true) (hn : noStar args = true) (hl : names.lookup n = some .globalImplicit) (e : nsIn (hd.heap_39 X.w.params) mainGlobals n = some none)
    (hv : bootBuiltins n = some (.builtin id)) (h : EVs X A env ρ args σ (fun Vs σ₂ => WC X A (.builtin id) Vs σ₂ Q (Er ρ)) (EXF X A env Er)) : EV X A env ρ (.Call (.Name n p) args [] pos) σ Q (EXF X A env Er) :=
  EV_call_bi hn (look_b P H hl e (fun q => by rw [q] at g; revert g; decide) hv ⟨rfl, h⟩)
theorem call_ty (P : Pk X) (H : EnvIs env names cells) {n : Str} {p pos : Pos} {args : List Expr} {T : String} (g : tyNames.contains n = true) (hn : noStar args = true) (hl : names.lookup n = some .globalImplicit) (e : nsIn (hd.heap_39 X.w.params) mainGlobals n = some none)
    (hv : bootBuiltins n = some (.type T)) (h : EVs X A env ρ args σ (fun Vs σ₂ => WC X A (.type T) Vs σ₂ Q (Er ρ)) (EXF X A env Er)) : EV X A env ρ (.Call (.Name n p) args [] pos) σ Q (EXF X A env Er) :=
  EV_call_ty hn (look_b P H hl e (fun q => by rw [q] at g; revert g; decide) hv ⟨rfl, h⟩)
theorem comp_l (H : EnvIs env names cells) {elt iter : Expr} {x : Str} {px : Pos} {ifs : List Expr} {scope : Scope} {cl : List (Str × Addr)} {pos : Pos} (hclos : closureFor scope (E0 cells) = pure cl) (hcell : ∀ y ∈ scope.names, y.2 ≠ .cell)
    (hkind : scope.kind = .function) (hnames : ∀ y ∈ scope.names, y.2 = .local → scope.names.lookup y.1 = some .local) (hx : scope.names.lookup x = some .local)
    (h : EV X A env ρ iter σ (fun V σ₁ => CompAt X A env scope cl x ifs elt V σ₁ fun D acc σ' => Q (.ref D) (σ'.set D (.list acc))) E)
    (hs : ∀ x, foldedSetIterable iter env x = pure x) : EV X A env ρ (.ListComp elt [⟨.Name x px, iter, ifs, 0⟩] scope pos) σ Q E := EV_ListComp (H.clo hclos) hcell hkind hnames hx h hs
end
end Mine
end
section
set_option Elab.async false
set_option maxRecDepth 100000
set_option maxHeartbeats 8000000
set_option linter.unusedVariables false
open PySem PySem.W PySem.Calls PyProof.Rows
namespace Mine
local macro_rules | `(tactic| walk_at "m.bi") => `(tactic| ((with_reducible refine' call_bi (by assumption) (by assumption) ?g ?n ?l ?e ?v ?_); (case g => rfl); (case n => rfl); (case l => rfl); (case e => rfl); (case v => (with_reducible first | exact Boot.«len» | exact Boot.«sum» | exact Boot.«max» | exact Boot.«sorted»))))
local macro_rules | `(tactic| walk_at "m.s") => `(tactic| first
  | with_reducible refine ESs_nil ?_ | with_reducible refine EVs_cons ?_ | with_reducible refine EVs_nil ?_
  | ((with_reducible refine' look_l (by assumption) ?l ?v ?_); (case l => rfl); (case v => (first | rfl | assumption)))
  | with_reducible refine EV_int ?_ | with_reducible refine EV_str ?_
  | ((with_reducible refine EV_Item ?_ ?_); (intro _ _; rfl))
  | ((with_reducible first | refine EB_Compare1 ?_ ?_ | refine EV_Compare1 ?_ ?_); rotate_left; with_unfolding_all rfl)
  | with_reducible refine EV_BinOp ?_ | with_reducible refine EV_UnaryOp ?_
  | with_reducible refine ESs_cons ?_ | with_reducible refine ES_Return ?_ | with_reducible refine ES_If ?_ | ((with_reducible first | refine ES_Assign ?_ ?_ | refine ES_SetItem ?_ ?_); rotate_left; rfl)
  | ((with_reducible refine put_l (by assumption) ?_ ?_); rfl)
  | with_reducible refine op_add ?_ | with_reducible refine op_sub ?_ | with_reducible refine op_lt_int ?_ | with_reducible refine op_eq_int ?_ | with_reducible refine truthy_bool ?_)
local macro_rules | `(tactic| walk_at "m.go") => `(tactic| repeat (first | walk_at "m.bi" | walk_at "m.s"))
local macro_rules | `(tactic| walk_at "m.run") => `(tactic| repeat (first
  | with_reducible refine ESs_nil ?_ | with_reducible refine EVs_cons ?_ | with_reducible refine EVs_nil ?_
  | ((with_reducible refine' look_c (by assumption) ?l ?c ?v ?_); (case l => rfl); (case c => rfl); (case v => assumption))
  | ((with_reducible refine' call_fn (by assumption) (by assumption) ?g ?n ?l ?e ?o ?d ?_); (case g => rfl); (case n => rfl); (case l => rfl); (case e => rfl); (case o => exact rfl); (case d => exact rfl))
  | ((with_reducible refine' call_ty (by assumption) (by assumption) ?g ?n ?l ?e ?v ?_); (case g => rfl); (case n => rfl); (case l => rfl); (case e => rfl); (case v => (with_reducible first | exact Boot.«tuple» | exact Boot.«list» | exact Boot.«range» | exact Boot.«enumerate» | exact Boot.«zip»)))
  | ((with_reducible refine EV_Attr ?_ ?_ ?_); rfl; (intro _ _; rfl))
  | ((with_reducible first | refine EV_Tuple ?_ ?_ ?_ | refine EV_List ?_ ?_ ?_); rfl; decide) | with_reducible refine EV_rest ?_
  | with_reducible refine EV_bool ?_ | with_reducible refine EV_IfExp ?_
  | ((with_reducible refine' comp_l (by assumption) ?a ?b ?c ?d ?e ?_ ?f); (case a => rfl); (case b => decide); (case c => rfl); (case d => decide); (case e => rfl); (case f => intro _; rfl))
  | with_reducible refine op_gt_int ?_ | with_reducible refine op_ge_int ?_ | with_reducible refine op_le_int ?_ | with_reducible refine op_ne_int ?_ | with_reducible refine op_eq_str ?_ | with_reducible refine op_ne_str ?_ | with_reducible refine op_neg ?_
  | walk_at "m.s" | walk_at "m.bi"))
section
section
variable {X : Cx} {A : Around} {σ : Store}
theorem width_spec (P : Pk X) (hr : A.depth < recursionLimit) {Q : AV → Store → Prop} {Es : Store → Prop}
    (h : ∀ D, σ D = none → Q (.ref D) (σ.set D (.sdict [("a", .int 0), ("f", .int 1), ("g", .int 2), ("b", .int 0)]))) :
    WC X A (.ref 185) [] σ Q Es := by
  refine WC_p P (ns := []) rfl rfl (codeRec_of P.K (by rfl)) rfl rfl hr ?_ rfl (by decide) ?_
  · exact all0 rfl
  intro L hL
  show ESs _ _ _ [] _ σ _ _
  generalize callEnvC _ L 185 = env
  with_reducible refine ESs_cons ?_
  with_reducible refine ES_Return ?_
  with_reducible refine EV_DictS' ?_ ?_ ?_ ?_
  · simp
  · simp
  · rfl
  intro D hD
  show EVs _ _ _ _ (_ :: _ :: _ :: _ :: _ :: _ :: _ :: _ :: []) _ _ _
  repeat (with_reducible refine EVs_cons ?_; first | with_reducible refine EV_str ?_ | with_reducible refine EV_int ?_)
  with_reducible refine EVs_nil ?_
  refine ⟨[("a", .int 0), ("f", .int 1), ("g", .int 2), ("b", .int 0)], rfl, set_self .., ?_⟩
  rw [set_set]
  exact h D hD
theorem bits_small {k : Nat} (h : k ≤ 1000) : Builtin.Int.intBits (k : Int) ≤ 64 := by
  have : ∀ k : Nat, k ≤ 1000 → Builtin.Int.intBits (k : Int) ≤ 64 := by decide +kernel
  exact this k h
/-- what a draw gives -/
noncomputable def drawN (cs : List Int) (k : Nat) : Int := if k < cs.length then cs.getD k 0 else (7 * (k : Int) * k + 5 * k + 3 * cs.length + 2).fmod 101
theorem draw_spec (P : Pk X) (hr : A.depth < recursionLimit) {fd c : Addr} {cs : List Int} {k : Nat} {wide : Int} (hf : σ fd = some (.sdict [("cells", .ref c), ("at", .int k)])) (hc : σ c = some (.list (cs.map AV.int))) (hw : 0 < wide) (hk : k ≤ 1000) (hcs : cs.length ≤ 48) {Q : AV → Store → Prop} {Es : Store → Prop}
    (h : Q (.int ((drawN cs k).fmod wide)) (σ.set fd (.sdict [("cells", .ref c), ("at", .int (k + 1))]))) :
    WC X A (.ref 199) [.ref fd, .int wide] σ Q Es := by
  have hfc : fd ≠ c := fun q => by rw [q, hc] at hf; cases hf
  refine WC_p P (ns := ["feed", "wide"]) rfl rfl (codeRec_of P.K (by rfl)) rfl rfl hr ?_ rfl (by decide) ?_
  · exact all2 fun a b => rfl
  intro L hL
  show ESs _ _ _ [("feed", .ref fd), ("wide", .int wide)] _ σ _ _
  generalize he : callEnvC _ L 199 = env
  have hE := EnvIs.of he rfl rfl rfl
  walk_at "m.go"
  with_reducible refine' it_s hf ?v ?_
  case v => rfl
  walk_at "m.go"
  with_reducible refine' set_s hf ?z ?_
  case z => simp
  have hf2 : (σ.set fd (.sdict (storeK [("cells", .ref c), ("at", .int k)] "at" (.int ((k : Int) + 1))))) fd = some (.sdict [("cells", .ref c), ("at", .int (k + 1))]) := set_self ..
  have hc2 : (σ.set fd (.sdict (storeK [("cells", .ref c), ("at", .int k)] "at" (.int ((k : Int) + 1))))) c = some (.list (cs.map AV.int)) := by rw [set_ne (Ne.symm hfc)]; exact hc
  generalize hσ' : σ.set fd (.sdict (storeK [("cells", .ref c), ("at", .int k)] "at" (.int ((k : Int) + 1)))) = σ' at *
  have h' : Q (.int ((drawN cs k).fmod wide)) σ' := by rw [← hσ']; exact h
  show ESs _ _ _ _ _ σ' _ _
  walk_at "m.go"
  with_reducible refine' it_s hf2 ?v ?_
  case v => rfl
  walk_at "m.go"
  with_reducible refine' WC_len hc2 ?z ?_
  case z => simp; omega
  walk_at "m.go"
  rw [List.length_map]
  by_cases hlt : k < cs.length
  · refine pos_ (by simpa using hlt) ?_
    walk_at "m.go"
    with_reducible refine' it_s hf2 ?v ?_
    case v => rfl
    walk_at "m.go"
    with_reducible refine' it_list hc2 ?q0 ?q1 ?q2 ?_
    case q0 => omega
    case q1 => omega
    case q2 => rw [List.getElem?_map]; simp [hlt]; rfl
    walk_at "m.go"
    with_reducible refine' op_mod ?q3 ?_
    case q3 => omega
    refine cast ?_ h'
    unfold drawN
    rw [if_pos hlt]
    simp [List.getD_eq_getElem?_getD, hlt]
    rfl
  · refine neg_ (by simpa using hlt) ?_
    walk_at "m.go"
    with_reducible refine' op_mul ?q0 ?_
    case q0 => exact .of_left (by decide)
    walk_at "m.go"
    with_reducible refine' op_mul ?q1 ?_
    case q1 => exact .of_right (bits_small (by omega))
    walk_at "m.go"
    with_reducible refine' op_mul ?q2 ?_
    case q2 => exact .of_left (by decide)
    walk_at "m.go"
    with_reducible refine' it_s hf2 ?v ?_
    case v => rfl
    walk_at "m.go"
    with_reducible refine' WC_len hc2 ?z2 ?_
    case z2 => simp; omega
    walk_at "m.go"
    with_reducible refine' op_mul ?q4 ?_
    case q4 => exact .of_left (by decide)
    walk_at "m.go"
    with_reducible refine' op_mod ?q5 ?_
    case q5 => decide
    walk_at "m.go"
    with_reducible refine' op_mod ?q6 ?_
    case q6 => omega
    refine cast ?_ h'
    unfold drawN
    rw [if_neg hlt, List.length_map]
    rfl
end
end
section
noncomputable def bankEs (w : World) (t1 t2 t3 t4 : Tok) (nn tt ww dd : Addr) : List DictEntry :=
  [⟨PyData.keyHash w.params "nodes", .str "nodes" t1, .ref nn⟩, ⟨PyData.keyHash w.params "numbers", .str "numbers" t2, .ref tt⟩, ⟨PyData.keyHash w.params "weights", .str "weights" t3, .ref ww⟩, ⟨PyData.keyHash w.params "depths", .str "depths" t4, .ref dd⟩]
/-- the parts of a bank -/
structure BP where
  b : Addr
  dx : Addr
  nn : Addr
  tt : Addr
  ww : Addr
  dd : Addr
noncomputable def BankAt (X : Cx) (σ : Store) (p : BP) : Prop := ∃ t1 t2 t3 t4 n, InstO σ p.b p.dx 174 (bankEs X.w t1 t2 t3 t4 p.nn p.tt p.ww p.dd) n
section
variable {X : Cx} {A : Around} {σ : Store} {p : BP}
theorem BankAt.le {σ τ : Store} (h : BankAt X σ p) (l : σ.le τ) : BankAt X τ p := by
  obtain ⟨t1, t2, t3, t4, n, h⟩ := h
  exact ⟨t1, t2, t3, t4, n, h.le l⟩
theorem get_nodes (P : Pk X) (B : BankAt X σ p) : GetA X A (.ref p.b) "nodes" (.ref p.nn) σ := by
  obtain ⟨t1, t2, t3, t4, n, h⟩ := B
  exact GetA_own (K := hd.heap_39 X.w.params) P.K h (by rfl) (by rfl) (attr := none) (by rfl) (by rfl) (by rfl) (by rfl)
theorem get_numbers (P : Pk X) (B : BankAt X σ p) : GetA X A (.ref p.b) "numbers" (.ref p.tt) σ := by
  obtain ⟨t1, t2, t3, t4, n, h⟩ := B
  exact GetA_own (K := hd.heap_39 X.w.params) P.K h (by rfl) (by rfl) (attr := none) (by rfl) (by rfl) (by rfl) (by rfl)
theorem get_weights (P : Pk X) (B : BankAt X σ p) : GetA X A (.ref p.b) "weights" (.ref p.ww) σ := by
  obtain ⟨t1, t2, t3, t4, n, h⟩ := B
  exact GetA_own (K := hd.heap_39 X.w.params) P.K h (by rfl) (by rfl) (attr := none) (by rfl) (by rfl) (by rfl) (by rfl)
theorem get_depths (P : Pk X) (B : BankAt X σ p) : GetA X A (.ref p.b) "depths" (.ref p.dd) σ := by
  obtain ⟨t1, t2, t3, t4, n, h⟩ := B
  exact GetA_own (K := hd.heap_39 X.w.params) P.K h (by rfl) (by rfl) (attr := none) (by rfl) (by rfl) (by rfl) (by rfl)
theorem meth_take (P : Pk X) (B : BankAt X σ p) : GetM X A (.ref p.b) "take" (.ref 98) σ := by
  obtain ⟨t1, t2, t3, t4, n, h⟩ := B
  exact GetM_inst (K := hd.heap_39 X.w.params) P.K h (by rfl) (by rfl) (by rfl) (by rfl)
theorem meth_size (P : Pk X) (B : BankAt X σ p) : GetM X A (.ref p.b) "size" (.ref 93) σ := by
  obtain ⟨t1, t2, t3, t4, n, h⟩ := B
  exact GetM_inst (K := hd.heap_39 X.w.params) P.K h (by rfl) (by rfl) (by rfl) (by rfl)
theorem meth_require (P : Pk X) (B : BankAt X σ p) : GetM X A (.ref p.b) "require" (.ref 105) σ := by
  obtain ⟨t1, t2, t3, t4, n, h⟩ := B
  exact GetM_inst (K := hd.heap_39 X.w.params) P.K h (by rfl) (by rfl) (by rfl) (by rfl)
theorem meth_put (P : Pk X) (B : BankAt X σ p) : GetM X A (.ref p.b) "put" (.ref 112) σ := by
  obtain ⟨t1, t2, t3, t4, n, h⟩ := B
  exact GetM_inst (K := hd.heap_39 X.w.params) P.K h (by rfl) (by rfl) (by rfl) (by rfl)
theorem meth_put_all (P : Pk X) (B : BankAt X σ p) : GetM X A (.ref p.b) "put_all" (.ref 117) σ := by
  obtain ⟨t1, t2, t3, t4, n, h⟩ := B
  exact GetM_inst (K := hd.heap_39 X.w.params) P.K h (by rfl) (by rfl) (by rfl) (by rfl)
theorem meth_op (P : Pk X) (B : BankAt X σ p) : GetM X A (.ref p.b) "op" (.ref 131) σ := by
  obtain ⟨t1, t2, t3, t4, n, h⟩ := B
  exact GetM_inst (K := hd.heap_39 X.w.params) P.K h (by rfl) (by rfl) (by rfl) (by rfl)
theorem meth_kids (P : Pk X) (B : BankAt X σ p) : GetM X A (.ref p.b) "kids" (.ref 138) σ := by
  obtain ⟨t1, t2, t3, t4, n, h⟩ := B
  exact GetM_inst (K := hd.heap_39 X.w.params) P.K h (by rfl) (by rfl) (by rfl) (by rfl)
theorem meth_node (P : Pk X) (B : BankAt X σ p) : GetM X A (.ref p.b) "node" (.ref 145) σ := by
  obtain ⟨t1, t2, t3, t4, n, h⟩ := B
  exact GetM_inst (K := hd.heap_39 X.w.params) P.K h (by rfl) (by rfl) (by rfl) (by rfl)
theorem meth_term (P : Pk X) (B : BankAt X σ p) : GetM X A (.ref p.b) "term" (.ref 150) σ := by
  obtain ⟨t1, t2, t3, t4, n, h⟩ := B
  exact GetM_inst (K := hd.heap_39 X.w.params) P.K h (by rfl) (by rfl) (by rfl) (by rfl)
theorem meth_weight (P : Pk X) (B : BankAt X σ p) : GetM X A (.ref p.b) "weight" (.ref 157) σ := by
  obtain ⟨t1, t2, t3, t4, n, h⟩ := B
  exact GetM_inst (K := hd.heap_39 X.w.params) P.K h (by rfl) (by rfl) (by rfl) (by rfl)
theorem meth_depth (P : Pk X) (B : BankAt X σ p) : GetM X A (.ref p.b) "depth" (.ref 164) σ := by
  obtain ⟨t1, t2, t3, t4, n, h⟩ := B
  exact GetM_inst (K := hd.heap_39 X.w.params) P.K h (by rfl) (by rfl) (by rfl) (by rfl)
theorem meth_seek (P : Pk X) (B : BankAt X σ p) : GetM X A (.ref p.b) "seek" (.ref 171) σ := by
  obtain ⟨t1, t2, t3, t4, n, h⟩ := B
  exact GetM_inst (K := hd.heap_39 X.w.params) P.K h (by rfl) (by rfl) (by rfl) (by rfl)
end
end
section
section
variable {X : Cx} {A : Around} {σ : Store} {p : BP} {Q : AV → Store → Prop} {Es : Store → Prop}
theorem size_spec (P : Pk X) (hr : A.depth < recursionLimit) (B : BankAt X σ p) {l : List AV} (hn : σ p.nn = some (.list l)) (hz : l.length ≤ 1000) (h : Q (.int l.length) σ) : WC X A (.ref 93) [.ref p.b] σ Q Es := by
  refine WC_p P (ns := ["self"]) rfl rfl (codeRec_of P.K (by rfl)) rfl rfl hr ?_ rfl (by decide) ?_
  · exact all1 fun a => rfl
  intro L hL
  show ESs _ _ _ [("self", .ref p.b)] _ σ _ _
  generalize he : callEnvC _ L 93 = env
  have hE := EnvIs.of he rfl rfl rfl
  walk_at "m.go"
  ((with_reducible refine EV_Attr ?_ ?_ ?_); rfl; (intro _ _; rfl))
  walk_at "m.go"
  refine ⟨_, get_nodes P B, ?_⟩
  walk_at "m.go"
  with_reducible refine' WC_len hn ?z ?_
  case z => omega
  exact h
theorem node_spec (P : Pk X) (hr : A.depth < recursionLimit) (B : BankAt X σ p) {l : List AV} (hn : σ p.nn = some (.list l)) {n : Int} (h0 : 0 ≤ n) (h1 : n < 1000) {V : AV} (hV : l[n.toNat]? = some V) (h : Q V σ) : WC X A (.ref 145) [.ref p.b, .int n] σ Q Es := by
  refine WC_p P (ns := ["self", "n"]) rfl rfl (codeRec_of P.K (by rfl)) rfl rfl hr ?_ rfl (by decide) ?_
  · exact all2 fun a b => rfl
  intro L hL
  show ESs _ _ _ [("self", .ref p.b), ("n", .int n)] _ σ _ _
  generalize he : callEnvC _ L 145 = env
  have hE := EnvIs.of he rfl rfl rfl
  walk_at "m.go"
  ((with_reducible refine EV_Attr ?_ ?_ ?_); rfl; (intro _ _; rfl))
  walk_at "m.go"
  refine ⟨_, get_nodes P B, ?_⟩
  walk_at "m.go"
  with_reducible refine' it_list hn h0 ?q1 hV ?_
  case q1 => omega
  exact h
theorem weight_spec (P : Pk X) (hr : A.depth < recursionLimit) (B : BankAt X σ p) {l : List AV} (hn : σ p.ww = some (.list l)) {n : Int} (h0 : 0 ≤ n) (h1 : n < 1000) {V : AV} (hV : l[n.toNat]? = some V) (h : Q V σ) : WC X A (.ref 157) [.ref p.b, .int n] σ Q Es := by
  refine WC_p P (ns := ["self", "n"]) rfl rfl (codeRec_of P.K (by rfl)) rfl rfl hr ?_ rfl (by decide) ?_
  · exact all2 fun a b => rfl
  intro L hL
  show ESs _ _ _ [("self", .ref p.b), ("n", .int n)] _ σ _ _
  generalize he : callEnvC _ L 157 = env
  have hE := EnvIs.of he rfl rfl rfl
  walk_at "m.go"
  ((with_reducible refine EV_Attr ?_ ?_ ?_); rfl; (intro _ _; rfl))
  walk_at "m.go"
  refine ⟨_, get_weights P B, ?_⟩
  walk_at "m.go"
  with_reducible refine' it_list hn h0 ?q1 hV ?_
  case q1 => omega
  exact h
theorem depth_spec (P : Pk X) (hr : A.depth < recursionLimit) (B : BankAt X σ p) {l : List AV} (hn : σ p.dd = some (.list l)) {n : Int} (h0 : 0 ≤ n) (h1 : n < 1000) {V : AV} (hV : l[n.toNat]? = some V) (h : Q V σ) : WC X A (.ref 164) [.ref p.b, .int n] σ Q Es := by
  refine WC_p P (ns := ["self", "n"]) rfl rfl (codeRec_of P.K (by rfl)) rfl rfl hr ?_ rfl (by decide) ?_
  · exact all2 fun a b => rfl
  intro L hL
  show ESs _ _ _ [("self", .ref p.b), ("n", .int n)] _ σ _ _
  generalize he : callEnvC _ L 164 = env
  have hE := EnvIs.of he rfl rfl rfl
  walk_at "m.go"
  ((with_reducible refine EV_Attr ?_ ?_ ?_); rfl; (intro _ _; rfl))
  walk_at "m.go"
  refine ⟨_, get_depths P B, ?_⟩
  walk_at "m.go"
  with_reducible refine' it_list hn h0 ?q1 hV ?_
  case q1 => omega
  exact h
theorem op_spec (P : Pk X) (hr : A.depth < recursionLimit) (B : BankAt X σ p) {l : List AV} (hn : σ p.nn = some (.list l)) {n : Int} (h0 : 0 ≤ n) (h1 : n < 1000) {V : AV} {r : List AV} (hV : l[n.toNat]? = some (.tup (V :: r))) (h : Q V σ) : WC X A (.ref 131) [.ref p.b, .int n] σ Q Es := by
  refine WC_p P (ns := ["self", "n"]) rfl rfl (codeRec_of P.K (by rfl)) rfl rfl hr ?_ rfl (by decide) ?_
  · exact all2 fun a b => rfl
  intro L hL
  show ESs _ _ _ [("self", .ref p.b), ("n", .int n)] _ σ _ _
  generalize he : callEnvC _ L 131 = env
  have hE := EnvIs.of he rfl rfl rfl
  walk_at "m.go"
  ((with_reducible refine EV_Attr ?_ ?_ ?_); rfl; (intro _ _; rfl))
  walk_at "m.go"
  refine ⟨_, get_nodes P B, ?_⟩
  walk_at "m.go"
  with_reducible refine' it_list hn h0 ?q1 hV ?_
  case q1 => omega
  walk_at "m.go"
  with_reducible refine' it_tup ?q2 ?q3 ?q4 ?_
  case q2 => decide
  case q3 => decide
  case q4 => rfl
  exact h
theorem kids_spec (P : Pk X) (hr : A.depth < recursionLimit) (B : BankAt X σ p) {l : List AV} (hn : σ p.nn = some (.list l)) {n : Int} (h0 : 0 ≤ n) (h1 : n < 1000) {V : AV} {r : List AV} (hV : l[n.toNat]? = some (.tup (V :: r))) (hz : r.length ≤ 1000) (h : Q (.tup r) σ) : WC X A (.ref 138) [.ref p.b, .int n] σ Q Es := by
  refine WC_p P (ns := ["self", "n"]) rfl rfl (codeRec_of P.K (by rfl)) rfl rfl hr ?_ rfl (by decide) ?_
  · exact all2 fun a b => rfl
  intro L hL
  show ESs _ _ _ [("self", .ref p.b), ("n", .int n)] _ σ _ _
  generalize he : callEnvC _ L 138 = env
  have hE := EnvIs.of he rfl rfl rfl
  with_reducible refine ESs_cons ?_
  with_reducible refine ES_Return ?_
  with_reducible refine EV_rest ?_
  walk_at "m.s"
  ((with_reducible refine EV_Attr ?_ ?_ ?_); rfl; (intro _ _; rfl))
  walk_at "m.go"
  refine ⟨_, get_nodes P B, ?_⟩
  walk_at "m.go"
  with_reducible refine' it_list hn h0 ?q1 hV ?_
  case q1 => omega
  exact ⟨_, _, rfl, hz, h⟩
end
end
section
theorem le_new {σ : Store} {a : Addr} {o : AO} (h : σ a = none) : σ.le (σ.set a o) := fun b p e => by
  rw [set_ne (fun q => by subst q; rw [h] at e; cases e)]; exact e
structure Room (A : Around) (n : Nat) : Prop where
  dep : A.depth + n < recursionLimit
  han : A.handled = none
  uni : A.units + 3 * n + 30 < cLine
  frm : ∃ l, A.frames = some l
theorem Room.deeper {A : Around} {n : Nat} {env : Env} (r : Room A (n + 1)) : Room (A.deeper env) n :=
  ⟨by have := r.dep; show A.depth + 1 + n < _; omega, r.han, by have := r.uni; show A.units + 3 + 3 * n + 30 < _; omega, by obtain ⟨l, h⟩ := r.frm; exact ⟨env :: l, by show (A.frames.map _) = _; rw [h]; rfl⟩⟩
theorem Room.le {A : Around} {n m : Nat} (r : Room A n) (h : m ≤ n) : Room A m := ⟨by have := r.dep; omega, r.han, by have := r.uni; omega, r.frm⟩
theorem Room.d {A : Around} {n : Nat} (r : Room A n) : A.depth < recursionLimit := by have := r.dep; omega
theorem Room.u {A : Around} {n k : Nat} (r : Room A n) (h : k ≤ 30) : A.units + k < cLine := by have := r.uni; omega
noncomputable def badSign (c : Nat) : Bool := Txt.isspace ⟨#[c]⟩ || !(Builtin.Str.occurrences "()[]{},:" ⟨#[c]⟩ 0 (Str.length "()[]{},:") 1).isEmpty
noncomputable def isOp (op : Str) : Bool := op != "" && (op.cps.toList.filter badSign).isEmpty
theorem avEqs_nil : ∀ l : List AV, avEqs l [] = l.isEmpty
  | [] => rfl
  | _ :: _ => rfl
section
variable {X : Cx} {A : Around} {σ : Store} {p : BP} {Q : AV → Store → Prop} {Es : Store → Prop}
theorem datBs_strs : ∀ (l : List Nat) (n : Nat), datBs (l.map fun c => AV.str ⟨#[c]⟩) n = true
  | [], _ => rfl
  | c :: r, n => by
    show (datB (.str _) n && datBs _ n) = true
    rw [datBs_strs r n]
    cases n <;> rfl
theorem is_op_spec (P : Pk X) (r : Room A 1) {op : Str} (ha : op.cps.all (· < 128) = true) (hz : op.cps.size ≤ 1000) (h : Q (.bool (isOp op)) σ) : WC X A (.ref 67) [.str op] σ Q Es := by
  refine WC.lower ?_
  refine WC_p P (ns := ["text"]) rfl rfl (codeRec_of P.K (by rfl)) rfl rfl r.d ?_ rfl (by decide) ?_
  · exact all1 fun a => rfl
  intro L hL
  show ESs _ _ _ [("text", .str op)] _ σ _ _
  generalize he : callEnvC _ L 67 = env
  have hE := EnvIs.of he rfl rfl rfl
  have r' : Room (A.deeper env) 0 := r.deeper
  generalize A.deeper env = B at *
  with_reducible refine ESs_cons ?_
  with_reducible refine ES_Return ?_
  with_reducible refine EV_And2 ?_
  walk_at "m.go"
  with_reducible refine op_ne_str ?_
  walk_at "m.go"
  by_cases h0 : op = ""
  · subst h0
    exact ⟨_, .refl _, h⟩
  have h0' : (op != ("" : Str)) = true := by simpa using h0
  have h' : Q (.bool (op.cps.toList.filter badSign).isEmpty) σ := by
    have : isOp op = (op.cps.toList.filter badSign).isEmpty := by unfold isOp; rw [h0']; rfl
    rw [← this]; exact h
  rw [h0', if_pos rfl]
  walk_at "m.s"
  ((with_reducible refine' comp_l (by assumption) ?c1_2 ?c2_2 ?c3_2 ?c4_2 ?c5_2 ?_ ?c6_2); (case c1_2 => rfl); (case c2_2 => decide); (case c3_2 => rfl); (case c4_2 => decide); (case c5_2 => rfl); (case c6_2 => intro _; rfl))
  walk_at "m.s"
  refine ⟨σ, _, _, fun i acc σ' => σ' = σ ∧ acc = ((op.cps.toList.take i).filter badSign).map (fun c => AV.str ⟨#[c]⟩), its_str r'.han ha, by simp; omega, ⟨rfl, rfl⟩, fun _ _ _ _ => trivial, ?_, ?_⟩
  · rintro C i acc σ' V hV ⟨rfl, rfl⟩ hC
    rw [List.getElem?_map] at hV
    obtain ⟨c, hc, rfl⟩ := Option.map_eq_some_iff.mp hV
    generalize hce : compEnvC _ _ C env = cenv
    have hcE := EnvIs.comp hce hE rfl
    clear hce
    with_reducible refine ETs_one ?_
    with_reducible refine EB_And ?_
    with_reducible refine allTrue_or ?_
    ((with_reducible refine EB_plain ?_ ?_); (intro _; rfl))
    ((with_reducible refine EV_meth_bi (id := "str.isspace") ?_ ?_ ?_ ?_ ?_); rfl; decide; rfl; rfl)
    walk_at "m.s"
    refine ⟨GetM_isspace, ?_⟩
    walk_at "m.go"
    with_reducible refine WC_isspace ?_
    with_reducible refine truthy_bool ?_
    have ht : op.cps.toList.take (i + 1) = op.cps.toList.take i ++ [c] := by
      rw [List.take_add_one, hc]; rfl
    have fin : ∀ b, b = badSign c → (if b = true then EV X B cenv [("sign", .str ⟨#[c]⟩)] (Expr.Name "sign" ⟨17, 27, 17, 31⟩) σ' (fun U σ₃ => σ₃ = σ' ∧ ((op.cps.toList.take i).filter badSign).map (fun c => AV.str ⟨#[c]⟩) ++ [U] = ((op.cps.toList.take (i + 1)).filter badSign).map (fun c => AV.str ⟨#[c]⟩)) (EXF X B cenv NeverF) else σ' = σ' ∧ ((op.cps.toList.take i).filter badSign).map (fun c => AV.str ⟨#[c]⟩) = ((op.cps.toList.take (i + 1)).filter badSign).map (fun c => AV.str ⟨#[c]⟩)) := by
      rintro b rfl
      rw [ht, List.filter_append]
      cases hb : badSign c
      · simp [hb]
      · simp only [if_true]
        walk_at "m.s"
        simp [hb]
    cases hs : Txt.isspace ⟨#[c]⟩
    · simp only [Bool.false_eq_true, if_false]
      with_reducible refine allTrue_or ?_
      walk_at "m.s"
      walk_at "m.s"
      walk_at "m.go"
      with_reducible refine op_in_str ?_
      with_reducible refine truthy_bool ?_
      cases ho : (Builtin.Str.occurrences "()[]{},:" ⟨#[c]⟩ 0 (Str.length "()[]{},:") 1).isEmpty
      · exact fin true (by unfold badSign; rw [hs, ho]; rfl)
      · refine allTrue_nil ?_
        exact fin false (by unfold badSign; rw [hs, ho]; rfl)
    · exact fin true (by unfold badSign; rw [hs]; rfl)
  · rintro acc σ' D ⟨rfl, rfl⟩ hD
    with_reducible refine EV_List ?_ ?_ ?_
    · rfl
    · decide
    walk_at "m.go"
    refine ⟨rfl, fun a ha' _ => ?_⟩
    have hDa : D ≠ a := Nat.ne_of_lt (ha' D _ (set_self ..))
    with_reducible refine' op_eq_list (n := 0) ?q0 ?q1 ?q2 ?q3 ?q4 ?_
    case q0 => rw [set_ne hDa, set_self]
    case q1 => exact set_self ..
    case q2 => exact datBs_strs _ _
    case q3 => rfl
    case q4 => exact r'.u (by decide)
    have hl : (List.map (fun c => AV.str { cps := #[c] }) op.cps.toList).length = op.cps.toList.length := by simp
    rw [hl, List.take_length] at ha' ⊢
    rw [avEqs_nil, List.isEmpty_map]
    exact ⟨_, (le_new hD).trans (le_set ha'), h'⟩
end
end
section
noncomputable def isGood (op : Str) : Bool := isOp op && !(op.cps[0]? == some 63)
section
variable {X : Cx} {B : Around} {env : Env} {ρ : List (Str × AV)} {σ : Store} {Er : List (Str × AV) → Store → Prop}
theorem ES_fault (P : Pk X) (r : Room B 3) {arg : Expr} {p1 p6 p7 : Pos} {Q : AF → List (Str × AV) → Store → Prop} {names : List (Str × NameKind)} {cells : List (Str × Addr)} (H : EnvIs env names cells) (hl : names.lookup ("TermFault" : Str) = some .globalImplicit) (hn : noStar [arg] = true)
    (hE : Er ρ σ) (h : EV X B env ρ arg σ (fun _ σ₁ => σ₁ = σ) (EXF X B env Er)) : ES X B env ρ (.Raise (some (.Call (.Name "TermFault" p1) [arg] [] p6)) none p7) σ Q (EXF X B env Er) := by
  refine ES_Raise (K := hd.heap_39 X.w.params) (C := 60) P.K r.han (by rfl) (by rfl) P.exc ?_
  refine EV_call_cls (K := hd.heap_39 X.w.params) (C := 60) (cd := (clsIn (hd.heap_39 X.w.params) 60).get (by rfl)) P.K (by rfl) (by rfl) hn ?_
  refine look_g P H (v := .ref 60) hl (by rfl) ⟨rfl, ?_⟩
  refine EVs_cons (h.mono fun V σ₁ e => ?_)
  subst e
  refine EVs_nil (WC_fault P (by have := r.dep; omega) fun a oe vs ha hc hd hv => ?_)
  exact ⟨a, oe, vs, rfl, set_self .., hc, hd, hv, _, le_new ha, ha, hE⟩
end
section
variable {X : Cx} {A : Around} {σ : Store} {p : BP} {Q : AV → Store → Prop} {Es : Store → Prop}
theorem require_spec (P : Pk X) (r : Room A 4) {bV : AV} {op : Str} (ha : op.cps.all (· < 128) = true) (hz : op.cps.size ≤ 1000) (h : isGood op = true → Q .none σ) (hE : isGood op = false → Es σ) : WC X A (.ref 105) [bV, .str op] σ Q Es := by
  refine WC_p P (ns := ["self", "op"]) rfl rfl (codeRec_of P.K (by rfl)) rfl rfl r.d ?_ rfl (by decide) ?_
  · exact all2 fun a b => rfl
  intro L hL
  show ESs _ _ _ [("self", bV), ("op", .str op)] _ σ _ _
  generalize he : callEnvC _ L 105 = env
  have hEn := EnvIs.of he rfl rfl rfl
  have r' : Room (A.deeper env) 3 := r.deeper
  generalize A.deeper env = B at *
  with_reducible refine ESs_cons ?_
  with_reducible refine ES_If ?_
  with_reducible refine EB_And ?_
  with_reducible refine allTrue_or ?_
  with_reducible refine EB_Not ?_
  ((with_reducible refine EB_plain ?_ ?_); (intro _; rfl))
  ((with_reducible refine' call_fn (by assumption) (by assumption) ?c1_2 ?c2_2 ?c3_2 ?c4_2 ?c5_2 ?c6_2 ?_); (case c1_2 => rfl); (case c2_2 => rfl); (case c3_2 => rfl); (case c4_2 => rfl); (case c5_2 => exact rfl); (case c6_2 => exact rfl))
  walk_at "m.go"
  refine is_op_spec P (r'.le (by decide)) ha hz ?_
  with_reducible refine truthy_bool ?_
  cases hi : isOp op
  · simp only [Bool.not_false, if_true]
    with_reducible refine ESs_cons ?_
    refine ES_fault P r' hEn rfl rfl (hE (by unfold isGood; rw [hi]; rfl)) ?_
    with_reducible refine EV_Joined2 ?_
    with_reducible refine EV_FmtStr ?_
    walk_at "m.s"
    refine ⟨op, rfl, hz, op, rfl, Nat.le_trans hz (by decide), ?_⟩
    with_reducible refine EV_str ?_
    exact ⟨_, rfl, by decide, fun _ => rfl⟩
  · simp only [Bool.not_true, Bool.false_eq_true, if_false]
    have hne : op ≠ "" := fun q => by subst q; revert hi; decide
    obtain ⟨c, hc⟩ : ∃ c, op.cps[0]? = some c := by
      cases q : op.cps[0]? with
      | some c => exact ⟨c, rfl⟩
      | none =>
        refine absurd ?_ hne
        have : op.cps.size = 0 := by have := Array.getElem?_eq_none_iff.mp q; omega
        obtain ⟨cs⟩ := op
        have : cs = #[] := Array.size_eq_zero_iff.mp this
        subst this; rfl
    with_reducible refine allTrue_or ?_
    walk_at "m.s"
    walk_at "m.s"
    walk_at "m.s"
    walk_at "m.go"
    with_reducible refine it_str0 hc ?_
    walk_at "m.go"
    with_reducible refine op_eq_str ?_
    with_reducible refine truthy_bool ?_
    by_cases h63 : c = 63
    · subst h63
      rw [show ((⟨#[63]⟩ : Str) == ("?" : Str)) = true by decide]
      simp only [if_true]
      with_reducible refine ESs_cons ?_
      refine ES_fault P r' hEn rfl rfl (hE (by unfold isGood; rw [hi, hc]; rfl)) ?_
      with_reducible refine EV_Joined2 ?_
      with_reducible refine EV_FmtStr ?_
      walk_at "m.s"
      refine ⟨op, rfl, hz, op, rfl, Nat.le_trans hz (by decide), ?_⟩
      with_reducible refine EV_str ?_
      exact ⟨_, rfl, by decide, fun _ => rfl⟩
    · have e : ((⟨#[c]⟩ : Str) == ("?" : Str)) = false := by
        rw [beq_eq_false_iff_ne]
        intro q
        have : (#[c] : Array Nat) = #[63] := congrArg Str.cps q
        exact h63 (by simpa using this)
      rw [e]
      simp only [Bool.false_eq_true, if_false]
      refine allTrue_nil ?_
      refine ESs_nil ?_
      exact ESs_nil (h (by unfold isGood; rw [hi, hc]; simp [h63]))
end
end
section
section
variable {X : Cx} {A : Around} {σ : Store} {Q : AV → Store → Prop} {Es : Store → Prop}
theorem bank_new (P : Pk X) (hr : A.depth + 3 < recursionLimit)
    (h : ∀ p (σ' : Store), σ.le σ' → BankAt X σ' p → σ' p.nn = some (.list []) → σ' p.tt = some (.tdict []) → σ' p.ww = some (.list []) → σ' p.dd = some (.list []) → σ p.b = none → σ p.dx = none → σ p.nn = none → σ p.tt = none → σ p.ww = none → σ p.dd = none →
      [p.b, p.dx, p.nn, p.tt, p.ww, p.dd].Nodup → Q (.ref p.b) σ') : WC X A (.ref 174) [] σ Q Es := by
  refine WC_make (K := hd.heap_39 X.w.params) (fI := 86) P.K (by rfl) (by rfl) (by rfl) fun B x dx hf hh hd' hx hdx hne => ?_
  refine WCc_fx (ns := ["self"]) (P.K 86 _ rfl) rfl (codeRec_of P.K (by rfl)) rfl rfl (by omega) ?_ rfl (by decide) ?_
  · exact all1 fun a => rfl
  intro L hL
  show ESs _ _ _ [("self", .ref x)] _ ((σ.set dx (.raw emptyDict)).set x (.raw (instObj 174 dx))) _ _
  generalize he : callEnvC _ L 86 = env
  have hE := EnvIs.of he rfl rfl rfl
  have setA : ∀ {name : Str} {value : Expr} {ap p1 pp : Pos} {σ₀ : Store} {es : List DictEntry} {n : Nat} {QQ : AF → List (Str × AV) → Store → Prop} {Er : List (Str × AV) → Store → Prop}, takerIn (hd.heap_39 X.w.params) 174 name = some none → swapsWith value (some (.Attribute (.Name "self" p1) name ap)) pp.line env = pure false →
      EV X (B.deeper env) env [("self", .ref x)] value σ₀ (fun V σ₁ => ∃ a, V = .ref a ∧ InstO σ₁ x dx 174 es n ∧ (getL name es).isSome = true ∧ (∀ tk, (putL name (PyData.keyHash X.w.params name) (.str name tk) (.ref a) es).length ≤ 1000) ∧
        ∀ tk, QQ .next [("self", .ref x)] (σ₁.set dx (.raw (dictOf (putL name (PyData.keyHash X.w.params name) (.str name tk) (.ref a) es) (putN name es n))))) (EXF X (B.deeper env) env Er) →
      ES X (B.deeper env) env [("self", .ref x)] (.Assign [.Attribute (.Name "self" p1) name ap] value pp) σ₀ QQ (EXF X (B.deeper env) env Er) := by
    intro name value ap p1 pp σ₀ es n QQ Er ht hsw hv
    refine ES_SetAttr (K := hd.heap_39 X.w.params) (C := 174) (x := x) P.K (by rfl) (by rfl) ht (by rfl) (hv.mono fun V σ₁ h₁ => ?_) hsw
    obtain ⟨a, rfl, hI, hg, hz, hq⟩ := h₁
    walk_at "m.s"
    exact ⟨_, rfl, rfl, dx, es, n, hI, hg, hz, hq⟩
  have hx0 : ((σ.set dx (.raw emptyDict)).set x (.raw (instObj 174 dx))) x = some (.raw (instObj 174 dx)) := set_self ..
  have hd0 : ((σ.set dx (.raw emptyDict)).set x (.raw (instObj 174 dx))) dx = some (.raw emptyDict) := by rw [set_ne (Ne.symm hne)]; exact set_self ..
  have hl0 : σ.le ((σ.set dx (.raw emptyDict)).set x (.raw (instObj 174 dx))) := (le_new hdx).trans (le_new (by rw [set_ne hne]; exact hx))
  generalize ((σ.set dx (.raw emptyDict)).set x (.raw (instObj 174 dx))) = τ at *
  with_reducible refine ESs_cons ?_
  refine setA (es := []) (n := 0) (by rfl) (by rfl) ?_
  with_reducible refine EV_List ?_ ?_ ?_
  · rfl
  · decide
  walk_at "m.go"
  refine ⟨rfl, fun nn hnn' _ => ?_⟩
  have hnn := hnn'.none
  have nx : nn ≠ x := fun q => by rw [q, hx0] at hnn; cases hnn
  have nd : nn ≠ dx := fun q => by rw [q, hd0] at hnn; cases hnn
  refine ⟨nn, rfl, ⟨⟨#[], by rw [set_ne (Ne.symm nx)]; exact hx0⟩, by rw [set_ne (Ne.symm nd)]; exact hd0⟩, rfl, fun tk => ?_, fun t1 => ?_⟩
  · show (1 : Nat) ≤ 1000
    decide
  have hx1 : ((τ.set nn (.list [])).set dx (.raw (dictOf (putL "nodes" (PyData.keyHash X.w.params "nodes") (.str "nodes" t1) (.ref nn) []) (putN "nodes" [] 0)))) x = some (.raw (instObj 174 dx)) := by rw [set_ne hne, set_ne (Ne.symm nx)]; exact hx0
  have hd1 := set_self (τ.set nn (.list [])) dx (.raw (dictOf (putL "nodes" (PyData.keyHash X.w.params "nodes") (.str "nodes" t1) (.ref nn) []) (putN "nodes" [] 0)))
  have hn1 : ((τ.set nn (.list [])).set dx (.raw (dictOf (putL "nodes" (PyData.keyHash X.w.params "nodes") (.str "nodes" t1) (.ref nn) []) (putN "nodes" [] 0)))) nn = some (.list []) := by rw [set_ne nd]; exact set_self ..
  have hl1 : σ.le ((τ.set nn (.list [])).set dx (.raw (dictOf (putL "nodes" (PyData.keyHash X.w.params "nodes") (.str "nodes" t1) (.ref nn) []) (putN "nodes" [] 0)))) := fun b o e => by
    rw [set_ne (fun q => by rw [q, hdx] at e; cases e)]; exact (le_new hnn) b o (hl0 b o e)
  generalize ((τ.set nn (.list [])).set dx (.raw (dictOf (putL "nodes" (PyData.keyHash X.w.params "nodes") (.str "nodes" t1) (.ref nn) []) (putN "nodes" [] 0)))) = τ1 at *
  show ESs _ _ _ _ _ τ1 _ _
  with_reducible refine ESs_cons ?_
  refine setA (es := putL "nodes" (PyData.keyHash X.w.params "nodes") (.str "nodes" t1) (.ref nn) []) (n := putN "nodes" [] 0) (by rfl) (by rfl) ?_
  refine EV_Dict0 (.tdict []) trivial fun tt htt => ?_
  have tx : tt ≠ x := fun q => by rw [q, hx1] at htt; cases htt
  have td : tt ≠ dx := fun q => by rw [q, hd1] at htt; cases htt
  have tn : tt ≠ nn := fun q => by rw [q, hn1] at htt; cases htt
  refine ⟨tt, rfl, ⟨⟨#[], by rw [set_ne (Ne.symm tx)]; exact hx1⟩, by rw [set_ne (Ne.symm td)]; exact hd1⟩, rfl, fun tk => ?_, fun t2 => ?_⟩
  · show (2 : Nat) ≤ 1000
    decide
  have hx2 : ((τ1.set tt (.tdict [])).set dx (.raw (dictOf (putL "numbers" (PyData.keyHash X.w.params "numbers") (.str "numbers" t2) (.ref tt) (putL "nodes" (PyData.keyHash X.w.params "nodes") (.str "nodes" t1) (.ref nn) [])) (putN "numbers" (putL "nodes" (PyData.keyHash X.w.params "nodes") (.str "nodes" t1) (.ref nn) []) (putN "nodes" [] 0))))) x = some (.raw (instObj 174 dx)) := by rw [set_ne hne, set_ne (Ne.symm tx)]; exact hx1
  have hd2 := set_self (τ1.set tt (.tdict [])) dx (.raw (dictOf (putL "numbers" (PyData.keyHash X.w.params "numbers") (.str "numbers" t2) (.ref tt) (putL "nodes" (PyData.keyHash X.w.params "nodes") (.str "nodes" t1) (.ref nn) [])) (putN "numbers" (putL "nodes" (PyData.keyHash X.w.params "nodes") (.str "nodes" t1) (.ref nn) []) (putN "nodes" [] 0))))
  have hn2 : ((τ1.set tt (.tdict [])).set dx (.raw (dictOf (putL "numbers" (PyData.keyHash X.w.params "numbers") (.str "numbers" t2) (.ref tt) (putL "nodes" (PyData.keyHash X.w.params "nodes") (.str "nodes" t1) (.ref nn) [])) (putN "numbers" (putL "nodes" (PyData.keyHash X.w.params "nodes") (.str "nodes" t1) (.ref nn) []) (putN "nodes" [] 0))))) nn = some (.list []) := by rw [set_ne nd, set_ne (Ne.symm tn)]; exact hn1
  have ht2 : ((τ1.set tt (.tdict [])).set dx (.raw (dictOf (putL "numbers" (PyData.keyHash X.w.params "numbers") (.str "numbers" t2) (.ref tt) (putL "nodes" (PyData.keyHash X.w.params "nodes") (.str "nodes" t1) (.ref nn) [])) (putN "numbers" (putL "nodes" (PyData.keyHash X.w.params "nodes") (.str "nodes" t1) (.ref nn) []) (putN "nodes" [] 0))))) tt = some (.tdict []) := by rw [set_ne td]; exact set_self ..
  have hl2 : σ.le ((τ1.set tt (.tdict [])).set dx (.raw (dictOf (putL "numbers" (PyData.keyHash X.w.params "numbers") (.str "numbers" t2) (.ref tt) (putL "nodes" (PyData.keyHash X.w.params "nodes") (.str "nodes" t1) (.ref nn) [])) (putN "numbers" (putL "nodes" (PyData.keyHash X.w.params "nodes") (.str "nodes" t1) (.ref nn) []) (putN "nodes" [] 0))))) := fun b o e => by
    rw [set_ne (fun q => by rw [q, hdx] at e; cases e)]; exact (le_new htt) b o (hl1 b o e)
  generalize ((τ1.set tt (.tdict [])).set dx (.raw (dictOf (putL "numbers" (PyData.keyHash X.w.params "numbers") (.str "numbers" t2) (.ref tt) (putL "nodes" (PyData.keyHash X.w.params "nodes") (.str "nodes" t1) (.ref nn) [])) (putN "numbers" (putL "nodes" (PyData.keyHash X.w.params "nodes") (.str "nodes" t1) (.ref nn) []) (putN "nodes" [] 0))))) = τ2 at *
  show ESs _ _ _ _ _ τ2 _ _
  with_reducible refine ESs_cons ?_
  refine setA (es := (putL "numbers" (PyData.keyHash X.w.params "numbers") (.str "numbers" t2) (.ref tt) (putL "nodes" (PyData.keyHash X.w.params "nodes") (.str "nodes" t1) (.ref nn) []))) (n := (putN "numbers" (putL "nodes" (PyData.keyHash X.w.params "nodes") (.str "nodes" t1) (.ref nn) []) (putN "nodes" [] 0))) (by rfl) (by rfl) ?_
  with_reducible refine EV_List ?_ ?_ ?_
  · rfl
  · decide
  walk_at "m.go"
  refine ⟨rfl, fun ww hww' _ => ?_⟩
  have hww := hww'.none
  have wx : ww ≠ x := fun q => by rw [q, hx2] at hww; cases hww
  have wd : ww ≠ dx := fun q => by rw [q, hd2] at hww; cases hww
  have wn : ww ≠ nn := fun q => by rw [q, hn2] at hww; cases hww
  have wt : ww ≠ tt := fun q => by rw [q, ht2] at hww; cases hww
  refine ⟨ww, rfl, ⟨⟨#[], by rw [set_ne (Ne.symm wx)]; exact hx2⟩, by rw [set_ne (Ne.symm wd)]; exact hd2⟩, rfl, fun tk => ?_, fun t3 => ?_⟩
  · show (3 : Nat) ≤ 1000
    decide
  have hx3 : ((τ2.set ww (.list [])).set dx (.raw (dictOf (putL "weights" (PyData.keyHash X.w.params "weights") (.str "weights" t3) (.ref ww) (putL "numbers" (PyData.keyHash X.w.params "numbers") (.str "numbers" t2) (.ref tt) (putL "nodes" (PyData.keyHash X.w.params "nodes") (.str "nodes" t1) (.ref nn) []))) (putN "weights" (putL "numbers" (PyData.keyHash X.w.params "numbers") (.str "numbers" t2) (.ref tt) (putL "nodes" (PyData.keyHash X.w.params "nodes") (.str "nodes" t1) (.ref nn) [])) (putN "numbers" (putL "nodes" (PyData.keyHash X.w.params "nodes") (.str "nodes" t1) (.ref nn) []) (putN "nodes" [] 0)))))) x = some (.raw (instObj 174 dx)) := by rw [set_ne hne, set_ne (Ne.symm wx)]; exact hx2
  have hd3 := set_self (τ2.set ww (.list [])) dx (.raw (dictOf (putL "weights" (PyData.keyHash X.w.params "weights") (.str "weights" t3) (.ref ww) (putL "numbers" (PyData.keyHash X.w.params "numbers") (.str "numbers" t2) (.ref tt) (putL "nodes" (PyData.keyHash X.w.params "nodes") (.str "nodes" t1) (.ref nn) []))) (putN "weights" (putL "numbers" (PyData.keyHash X.w.params "numbers") (.str "numbers" t2) (.ref tt) (putL "nodes" (PyData.keyHash X.w.params "nodes") (.str "nodes" t1) (.ref nn) [])) (putN "numbers" (putL "nodes" (PyData.keyHash X.w.params "nodes") (.str "nodes" t1) (.ref nn) []) (putN "nodes" [] 0)))))
  have hn3 : ((τ2.set ww (.list [])).set dx (.raw (dictOf (putL "weights" (PyData.keyHash X.w.params "weights") (.str "weights" t3) (.ref ww) (putL "numbers" (PyData.keyHash X.w.params "numbers") (.str "numbers" t2) (.ref tt) (putL "nodes" (PyData.keyHash X.w.params "nodes") (.str "nodes" t1) (.ref nn) []))) (putN "weights" (putL "numbers" (PyData.keyHash X.w.params "numbers") (.str "numbers" t2) (.ref tt) (putL "nodes" (PyData.keyHash X.w.params "nodes") (.str "nodes" t1) (.ref nn) [])) (putN "numbers" (putL "nodes" (PyData.keyHash X.w.params "nodes") (.str "nodes" t1) (.ref nn) []) (putN "nodes" [] 0)))))) nn = some (.list []) := by rw [set_ne nd, set_ne (Ne.symm wn)]; exact hn2
  have ht3 : ((τ2.set ww (.list [])).set dx (.raw (dictOf (putL "weights" (PyData.keyHash X.w.params "weights") (.str "weights" t3) (.ref ww) (putL "numbers" (PyData.keyHash X.w.params "numbers") (.str "numbers" t2) (.ref tt) (putL "nodes" (PyData.keyHash X.w.params "nodes") (.str "nodes" t1) (.ref nn) []))) (putN "weights" (putL "numbers" (PyData.keyHash X.w.params "numbers") (.str "numbers" t2) (.ref tt) (putL "nodes" (PyData.keyHash X.w.params "nodes") (.str "nodes" t1) (.ref nn) [])) (putN "numbers" (putL "nodes" (PyData.keyHash X.w.params "nodes") (.str "nodes" t1) (.ref nn) []) (putN "nodes" [] 0)))))) tt = some (.tdict []) := by rw [set_ne td, set_ne (Ne.symm wt)]; exact ht2
  have hw3 : ((τ2.set ww (.list [])).set dx (.raw (dictOf (putL "weights" (PyData.keyHash X.w.params "weights") (.str "weights" t3) (.ref ww) (putL "numbers" (PyData.keyHash X.w.params "numbers") (.str "numbers" t2) (.ref tt) (putL "nodes" (PyData.keyHash X.w.params "nodes") (.str "nodes" t1) (.ref nn) []))) (putN "weights" (putL "numbers" (PyData.keyHash X.w.params "numbers") (.str "numbers" t2) (.ref tt) (putL "nodes" (PyData.keyHash X.w.params "nodes") (.str "nodes" t1) (.ref nn) [])) (putN "numbers" (putL "nodes" (PyData.keyHash X.w.params "nodes") (.str "nodes" t1) (.ref nn) []) (putN "nodes" [] 0)))))) ww = some (.list []) := by rw [set_ne wd]; exact set_self ..
  have hl3 : σ.le ((τ2.set ww (.list [])).set dx (.raw (dictOf (putL "weights" (PyData.keyHash X.w.params "weights") (.str "weights" t3) (.ref ww) (putL "numbers" (PyData.keyHash X.w.params "numbers") (.str "numbers" t2) (.ref tt) (putL "nodes" (PyData.keyHash X.w.params "nodes") (.str "nodes" t1) (.ref nn) []))) (putN "weights" (putL "numbers" (PyData.keyHash X.w.params "numbers") (.str "numbers" t2) (.ref tt) (putL "nodes" (PyData.keyHash X.w.params "nodes") (.str "nodes" t1) (.ref nn) [])) (putN "numbers" (putL "nodes" (PyData.keyHash X.w.params "nodes") (.str "nodes" t1) (.ref nn) []) (putN "nodes" [] 0)))))) := fun b o e => by
    rw [set_ne (fun q => by rw [q, hdx] at e; cases e)]; exact (le_new hww) b o (hl2 b o e)
  generalize ((τ2.set ww (.list [])).set dx (.raw (dictOf (putL "weights" (PyData.keyHash X.w.params "weights") (.str "weights" t3) (.ref ww) (putL "numbers" (PyData.keyHash X.w.params "numbers") (.str "numbers" t2) (.ref tt) (putL "nodes" (PyData.keyHash X.w.params "nodes") (.str "nodes" t1) (.ref nn) []))) (putN "weights" (putL "numbers" (PyData.keyHash X.w.params "numbers") (.str "numbers" t2) (.ref tt) (putL "nodes" (PyData.keyHash X.w.params "nodes") (.str "nodes" t1) (.ref nn) [])) (putN "numbers" (putL "nodes" (PyData.keyHash X.w.params "nodes") (.str "nodes" t1) (.ref nn) []) (putN "nodes" [] 0)))))) = τ3 at *
  show ESs _ _ _ _ _ τ3 _ _
  with_reducible refine ESs_cons ?_
  refine setA (es := (putL "weights" (PyData.keyHash X.w.params "weights") (.str "weights" t3) (.ref ww) (putL "numbers" (PyData.keyHash X.w.params "numbers") (.str "numbers" t2) (.ref tt) (putL "nodes" (PyData.keyHash X.w.params "nodes") (.str "nodes" t1) (.ref nn) [])))) (n := (putN "weights" (putL "numbers" (PyData.keyHash X.w.params "numbers") (.str "numbers" t2) (.ref tt) (putL "nodes" (PyData.keyHash X.w.params "nodes") (.str "nodes" t1) (.ref nn) [])) (putN "numbers" (putL "nodes" (PyData.keyHash X.w.params "nodes") (.str "nodes" t1) (.ref nn) []) (putN "nodes" [] 0)))) (by rfl) (by rfl) ?_
  with_reducible refine EV_List ?_ ?_ ?_
  · rfl
  · decide
  walk_at "m.go"
  refine ⟨rfl, fun dd hdd' _ => ?_⟩
  have hdd := hdd'.none
  have dx' : dd ≠ x := fun q => by rw [q, hx3] at hdd; cases hdd
  have ddx : dd ≠ dx := fun q => by rw [q, hd3] at hdd; cases hdd
  have dn : dd ≠ nn := fun q => by rw [q, hn3] at hdd; cases hdd
  have dt : dd ≠ tt := fun q => by rw [q, ht3] at hdd; cases hdd
  have dw : dd ≠ ww := fun q => by rw [q, hw3] at hdd; cases hdd
  refine ⟨dd, rfl, ⟨⟨#[], by rw [set_ne (Ne.symm dx')]; exact hx3⟩, by rw [set_ne (Ne.symm ddx)]; exact hd3⟩, rfl, fun tk => ?_, fun t4 => ?_⟩
  · show (4 : Nat) ≤ 1000
    decide
  refine ESs_nil ?_
  refine ⟨rfl, h ⟨x, dx, nn, tt, ww, dd⟩ _ (fun b o e => ?_) ⟨t1, t2, t3, t4, _, ⟨⟨#[], ?_⟩, set_self ..⟩⟩ ?_ ?_ ?_ ?_ hx hdx (le_none hl0 hnn) (le_none hl1 htt) (le_none hl2 hww) (le_none hl3 hdd) ?_⟩
  · rw [set_ne (fun q => by rw [q, hdx] at e; cases e)]; exact (le_new hdd) b o (hl3 b o e)
  · show ((τ3.set dd (.list [])).set dx (.raw (dictOf (putL "depths" (PyData.keyHash X.w.params "depths") (.str "depths" t4) (.ref dd) (putL "weights" (PyData.keyHash X.w.params "weights") (.str "weights" t3) (.ref ww) (putL "numbers" (PyData.keyHash X.w.params "numbers") (.str "numbers" t2) (.ref tt) (putL "nodes" (PyData.keyHash X.w.params "nodes") (.str "nodes" t1) (.ref nn) [])))) (putN "depths" (putL "weights" (PyData.keyHash X.w.params "weights") (.str "weights" t3) (.ref ww) (putL "numbers" (PyData.keyHash X.w.params "numbers") (.str "numbers" t2) (.ref tt) (putL "nodes" (PyData.keyHash X.w.params "nodes") (.str "nodes" t1) (.ref nn) []))) (putN "weights" (putL "numbers" (PyData.keyHash X.w.params "numbers") (.str "numbers" t2) (.ref tt) (putL "nodes" (PyData.keyHash X.w.params "nodes") (.str "nodes" t1) (.ref nn) [])) (putN "numbers" (putL "nodes" (PyData.keyHash X.w.params "nodes") (.str "nodes" t1) (.ref nn) []) (putN "nodes" [] 0))))))) x = _
    rw [set_ne hne, set_ne (Ne.symm dx')]; exact hx3
  · show ((τ3.set dd (.list [])).set dx (.raw (dictOf (putL "depths" (PyData.keyHash X.w.params "depths") (.str "depths" t4) (.ref dd) (putL "weights" (PyData.keyHash X.w.params "weights") (.str "weights" t3) (.ref ww) (putL "numbers" (PyData.keyHash X.w.params "numbers") (.str "numbers" t2) (.ref tt) (putL "nodes" (PyData.keyHash X.w.params "nodes") (.str "nodes" t1) (.ref nn) [])))) (putN "depths" (putL "weights" (PyData.keyHash X.w.params "weights") (.str "weights" t3) (.ref ww) (putL "numbers" (PyData.keyHash X.w.params "numbers") (.str "numbers" t2) (.ref tt) (putL "nodes" (PyData.keyHash X.w.params "nodes") (.str "nodes" t1) (.ref nn) []))) (putN "weights" (putL "numbers" (PyData.keyHash X.w.params "numbers") (.str "numbers" t2) (.ref tt) (putL "nodes" (PyData.keyHash X.w.params "nodes") (.str "nodes" t1) (.ref nn) [])) (putN "numbers" (putL "nodes" (PyData.keyHash X.w.params "nodes") (.str "nodes" t1) (.ref nn) []) (putN "nodes" [] 0))))))) nn = _
    rw [set_ne nd, set_ne (Ne.symm dn)]; exact hn3
  · show ((τ3.set dd (.list [])).set dx (.raw (dictOf (putL "depths" (PyData.keyHash X.w.params "depths") (.str "depths" t4) (.ref dd) (putL "weights" (PyData.keyHash X.w.params "weights") (.str "weights" t3) (.ref ww) (putL "numbers" (PyData.keyHash X.w.params "numbers") (.str "numbers" t2) (.ref tt) (putL "nodes" (PyData.keyHash X.w.params "nodes") (.str "nodes" t1) (.ref nn) [])))) (putN "depths" (putL "weights" (PyData.keyHash X.w.params "weights") (.str "weights" t3) (.ref ww) (putL "numbers" (PyData.keyHash X.w.params "numbers") (.str "numbers" t2) (.ref tt) (putL "nodes" (PyData.keyHash X.w.params "nodes") (.str "nodes" t1) (.ref nn) []))) (putN "weights" (putL "numbers" (PyData.keyHash X.w.params "numbers") (.str "numbers" t2) (.ref tt) (putL "nodes" (PyData.keyHash X.w.params "nodes") (.str "nodes" t1) (.ref nn) [])) (putN "numbers" (putL "nodes" (PyData.keyHash X.w.params "nodes") (.str "nodes" t1) (.ref nn) []) (putN "nodes" [] 0))))))) tt = _
    rw [set_ne td, set_ne (Ne.symm dt)]; exact ht3
  · show ((τ3.set dd (.list [])).set dx (.raw (dictOf (putL "depths" (PyData.keyHash X.w.params "depths") (.str "depths" t4) (.ref dd) (putL "weights" (PyData.keyHash X.w.params "weights") (.str "weights" t3) (.ref ww) (putL "numbers" (PyData.keyHash X.w.params "numbers") (.str "numbers" t2) (.ref tt) (putL "nodes" (PyData.keyHash X.w.params "nodes") (.str "nodes" t1) (.ref nn) [])))) (putN "depths" (putL "weights" (PyData.keyHash X.w.params "weights") (.str "weights" t3) (.ref ww) (putL "numbers" (PyData.keyHash X.w.params "numbers") (.str "numbers" t2) (.ref tt) (putL "nodes" (PyData.keyHash X.w.params "nodes") (.str "nodes" t1) (.ref nn) []))) (putN "weights" (putL "numbers" (PyData.keyHash X.w.params "numbers") (.str "numbers" t2) (.ref tt) (putL "nodes" (PyData.keyHash X.w.params "nodes") (.str "nodes" t1) (.ref nn) [])) (putN "numbers" (putL "nodes" (PyData.keyHash X.w.params "nodes") (.str "nodes" t1) (.ref nn) []) (putN "nodes" [] 0))))))) ww = _
    rw [set_ne wd, set_ne (Ne.symm dw)]; exact hw3
  · show ((τ3.set dd (.list [])).set dx (.raw (dictOf (putL "depths" (PyData.keyHash X.w.params "depths") (.str "depths" t4) (.ref dd) (putL "weights" (PyData.keyHash X.w.params "weights") (.str "weights" t3) (.ref ww) (putL "numbers" (PyData.keyHash X.w.params "numbers") (.str "numbers" t2) (.ref tt) (putL "nodes" (PyData.keyHash X.w.params "nodes") (.str "nodes" t1) (.ref nn) [])))) (putN "depths" (putL "weights" (PyData.keyHash X.w.params "weights") (.str "weights" t3) (.ref ww) (putL "numbers" (PyData.keyHash X.w.params "numbers") (.str "numbers" t2) (.ref tt) (putL "nodes" (PyData.keyHash X.w.params "nodes") (.str "nodes" t1) (.ref nn) []))) (putN "weights" (putL "numbers" (PyData.keyHash X.w.params "numbers") (.str "numbers" t2) (.ref tt) (putL "nodes" (PyData.keyHash X.w.params "nodes") (.str "nodes" t1) (.ref nn) [])) (putN "numbers" (putL "nodes" (PyData.keyHash X.w.params "nodes") (.str "nodes" t1) (.ref nn) []) (putN "nodes" [] 0))))))) dd = _
    rw [set_ne ddx]; exact set_self ..
  · simp only [List.nodup_cons, List.mem_cons, List.not_mem_nil, or_false, not_or, List.nodup_nil, and_true, not_false_eq_true]
    exact ⟨⟨hne, Ne.symm nx, Ne.symm tx, Ne.symm wx, Ne.symm dx'⟩, ⟨Ne.symm nd, Ne.symm td, Ne.symm wd, Ne.symm ddx⟩, ⟨Ne.symm tn, Ne.symm wn, Ne.symm dn⟩, ⟨Ne.symm wt, Ne.symm dt⟩, Ne.symm dw⟩
end
end
section
/-! trees -/
noncomputable def okOp (op : Str) : Prop := op.cps.all (· < 128) = true ∧ op.cps.size ≤ 10
noncomputable def Tre : Nat → AV → Prop
  | 0, _ => False
  | n + 1, V => ∃ op kids, V = .tup (.str op :: kids) ∧ okOp op ∧ kids.length ≤ 2 ∧ ∀ k ∈ kids, Tre n k
theorem datBs_all {n : Nat} : ∀ {l : List AV}, datBs l n = true ↔ ∀ V ∈ l, datB V n = true
  | [] => ⟨fun _ _ h => (by cases h), fun _ => rfl⟩
  | x :: l => by
    show (datB x n && datBs l n) = true ↔ _
    rw [Bool.and_eq_true, datBs_all (l := l)]
    simp
theorem datB_str (op : Str) (n : Nat) : datB (.str op) n = true := by cases n <;> rfl
theorem datB_int (i : Int) (n : Nat) : datB (.int i) n = true := by cases n <;> rfl
theorem Tre.dat : ∀ {n : Nat} {V : AV}, Tre n V → datB V n = true
  | n + 1, V, ⟨op, kids, e, ho, hl, hk⟩ => by
    subst e
    show datBs (.str op :: kids) n = true
    rw [datBs_all]
    intro W hW
    rcases List.mem_cons.mp hW with rfl | hW
    · exact datB_str ..
    · exact (hk W hW).dat
theorem Tre.up : ∀ {n : Nat} {V : AV}, Tre n V → Tre (n + 1) V
  | n + 1, V, ⟨op, kids, e, ho, hl, hk⟩ => ⟨op, kids, e, ho, hl, fun k h => (hk k h).up⟩
theorem Tre.le {n m : Nat} {V : AV} (h : Tre n V) (l : n ≤ m) : Tre m V := by
  induction m with
  | zero => obtain rfl : n = 0 := by omega
            exact h
  | succ m ih =>
    by_cases e : n = m + 1
    · exact e ▸ h
    · exact (ih (by omega)).up
theorem avEq_refl : ∀ (n : Nat) (V : AV), datB V n = true → avEq V V = true
  | _, .int i, _ => by simp [avEq]
  | _, .str i, _ => by simp [avEq]
  | n + 1, .tup l, h => by
    have ih := avEq_refl n
    have : ∀ l, (∀ V ∈ l, datB V n = true) → avEqs l l = true := by
      intro l
      induction l with
      | nil => intro _; rfl
      | cons x l il =>
        intro h
        show (avEq x x && avEqs l l) = true
        rw [ih x (h x (.head _)), il fun V hV => h V (.tail _ hV)]; rfl
    exact this l (datBs_all.mp h)
  | 0, .tup l, h => by cases h
  | 0, .con _, h => by cases h
  | n + 1, .con _, h => by cases h
theorem avEqs_refl (n : Nat) (l : List AV) (h : datBs l n = true) : avEqs l l = true := avEq_refl (n + 1) (.tup l) h
theorem avEq_iff {n : Nat} {V W : AV} (h : datB V n = true) : avEq W V = true ↔ W = V := ⟨avEq_eq W V, fun e => by rw [e]; exact avEq_refl n V h⟩
theorem avEq_no {n : Nat} {V W : AV} (h : datB V n = true) (hn : W ≠ V) : avEq W V = false := by
  cases q : avEq W V with
  | false => rfl
  | true => exact absurd ((avEq_iff h).mp q) hn
noncomputable def hasAV (l : List AV) (V : AV) : Bool := l.any fun W => avEq W V
theorem hasAV_iff {n : Nat} {V : AV} {l : List AV} (h : datB V n = true) : hasAV l V = true ↔ V ∈ l := by
  unfold hasAV
  rw [List.any_eq_true]
  exact ⟨fun ⟨W, hW, e⟩ => (avEq_iff h).mp e ▸ hW, fun hV => ⟨V, hV, (avEq_iff h).mpr rfl⟩⟩
/-- all parts, the whole first -/
noncomputable def subs : Nat → AV → List AV
  | n + 1, .tup (.str op :: kids) => .tup (.str op :: kids) :: kids.flatMap (subs n)
  | _, _ => []
noncomputable def fineN : Nat → AV → Bool
  | n + 1, .tup (.str op :: kids) => (lookK [(("a" : Str), AV.int 0), ("f", .int 1), ("g", .int 2), ("b", .int 0)] op).isSome && kids.all (fineN n)
  | _, _ => false
noncomputable def heavyN : Nat → AV → Int
  | n + 1, .tup (.str _ :: kids) => 1 + (kids.map (heavyN n)).sum
  | _, _ => 0
noncomputable def maxZ : List Int → Int
  | [] => 0
  | x :: l => max x (maxZ l)
noncomputable def longN : Nat → AV → Int
  | n + 1, .tup (.str _ :: kids) => 1 + maxZ (kids.map (longN n))
  | _, _ => 0
/-- the terms behind a term's putting -/
noncomputable def rankL : Nat → List AV → AV → List AV
  | n + 1, M, .tup (.str op :: kids) => if hasAV (kids.foldl (rankL n) M) (.tup (.str op :: kids)) = true then kids.foldl (rankL n) M else kids.foldl (rankL n) M ++ [.tup (.str op :: kids)]
  | _, M, _ => M
noncomputable def oddOps : List Str := ["", "?x", "a b", "f(", "x:y", "p,q", "[]", "{"]
noncomputable def lawOps : List Str := ["a", "f", "g", "b"]
/-- what the law draws as a tree -/
noncomputable def LawT : Nat → AV → Prop
  | 0, _ => False
  | n + 1, V => ∃ op kids, V = .tup (.str op :: kids) ∧ ((op ∈ oddOps ∧ kids = []) ∨ (op ∈ lawOps ∧ kids.length ≤ 2)) ∧ ∀ k ∈ kids, LawT n k
theorem okOps : ∀ op ∈ oddOps ++ lawOps, okOp op := by
  unfold okOp
  decide +kernel
theorem LawT.tre : ∀ {n : Nat} {V : AV}, LawT n V → Tre n V
  | n + 1, V, ⟨op, kids, e, h, hk⟩ => by
    refine ⟨op, kids, e, okOps op ?_, ?_, fun k h => (hk k h).tre⟩
    · rcases h with h | h
      · exact List.mem_append_left _ h.1
      · exact List.mem_append_right _ h.1
    · rcases h with h | h
      · rw [h.2]; decide
      · exact h.2
/-! the feed -/
structure Feed (σ : Store) (fd c : Addr) (cs : List Int) (k : Nat) : Prop where
  fd : σ fd = some (.sdict [("cells", .ref c), ("at", .int k)])
  c : σ c = some (.list (cs.map AV.int))
  len : cs.length ≤ 48
noncomputable def fset (σ : Store) (fd c : Addr) (k : Nat) : Store := σ.set fd (.sdict [("cells", .ref c), ("at", .int k)])
section
variable {X : Cx} {A : Around} {σ τ : Store} {fd c : Addr} {cs : List Int} {k k' : Nat}
theorem Feed.ne (F : Feed σ fd c cs k) : c ≠ fd := fun q => by have := F.c; rw [q, F.fd] at this; cases this
theorem Feed.set (F : Feed σ fd c cs k) : Feed (fset σ fd c k') fd c cs k' := ⟨set_self .., by unfold fset; rw [set_ne F.ne]; exact F.c, F.len⟩
theorem Feed.le (F : Feed σ fd c cs k) (l : σ.le τ) : Feed τ fd c cs k := ⟨l _ _ F.fd, l _ _ F.c, F.len⟩
theorem Feed.same (F : Feed σ fd c cs k) : fset σ fd c k = σ := set_same F.fd
theorem fset_ne {a : Addr} (h : a ≠ fd) : fset σ fd c k a = σ a := set_ne h
theorem Feed.none (F : Feed σ fd c cs k) {a : Addr} (h : σ a = none) : fset σ fd c k' a = none := by
  rw [fset_ne (fun q => by rw [q, F.fd] at h; cases h)]; exact h
theorem draw_any (P : Pk X) (hr : A.depth < recursionLimit) {wide : Int} (F : Feed σ fd c cs k) (hw : 0 < wide) (hk : k ≤ 1000) {Q : AV → Store → Prop} {Es : Store → Prop}
    (h : ∀ r, 0 ≤ r → r < wide → Q (.int r) (fset σ fd c (k + 1))) : WC X A (.ref 199) [.ref fd, .int wide] σ Q Es :=
  draw_spec P hr F.fd F.c hw hk F.len (h _ (Int.fmod_nonneg_of_pos _ hw) (Int.fmod_lt_of_pos _ hw))
end
noncomputable abbrev look (ρ : List (Str × AV)) (n : Str) : Option AV := ρ.lookup n
theorem look_put (ρ : List (Str × AV)) (n : Str) (V : AV) : look (put n V ρ) n = some V := by rw [look, put_lookup, if_pos rfl]
theorem look_put_ne {ρ : List (Str × AV)} {n m : Str} {V U : AV} (e : look ρ n = some U) (h : n ≠ m := by decide) : look (put m V ρ) n = some U := by rw [look, put_lookup, if_neg h]; exact e
end
section
theorem cne {L i j : Nat} (h : i ≠ j) : L + i ≠ L + j := by omega
section
variable {X : Cx} {σ τ : Store} {fd c : Addr} {cs : List Int} {k k' : Nat}
theorem fset_le2 {k₁ k₂ : Nat} (l : (fset σ fd c k₁).le τ) : (fset σ fd c k₂).le (fset τ fd c k₂) := fun b o e => by
  by_cases q : b = fd
  · subst q; rw [show fset σ b c k₂ b = _ from set_self ..] at e; rw [show fset τ b c k₂ b = _ from set_self ..]; exact e
  · rw [fset_ne q] at e ⊢; exact l b o (by rw [fset_ne q]; exact e)
/-- τ is the store σ with the feed at k, and more -/
structure Drawn (σ : Store) (fd c : Addr) (cs : List Int) (k : Nat) (τ : Store) : Prop where
  F : Feed τ fd c cs k
  l : (fset σ fd c k).le τ
theorem Drawn.start (F : Feed σ fd c cs k) (l : σ.le τ) : Drawn σ fd c cs k τ := ⟨F.le l, by rw [F.same]; exact l⟩
theorem Drawn.draw (h : Drawn σ fd c cs k τ) : Drawn σ fd c cs k' (fset τ fd c k') := ⟨h.F.set, fset_le2 h.l⟩
theorem Drawn.new {a : Addr} {o : AO} (h : Drawn σ fd c cs k τ) (ha : τ a = none) : Drawn σ fd c cs k (τ.set a o) := ⟨h.F.le (le_new ha), h.l.trans (le_new ha)⟩
theorem Drawn.on {υ : Store} (h : Drawn σ fd c cs k τ) (g : Drawn τ fd c cs k' υ) : Drawn σ fd c cs k' υ := ⟨g.F, fun b o e => g.l b o ((fset_le2 h.l) b o e)⟩
theorem Drawn.at {a : Addr} {o : AO} (h : Drawn σ fd c cs k τ) (e : σ a = some o) (hn : a ≠ fd) : τ a = some o := h.l a o (by rw [fset_ne hn]; exact e)
noncomputable def treeC : Nat → Nat
  | 0 => 2
  | n + 1 => 2 + 2 * treeC n
theorem widths {op : Str} (h : op ∈ lawOps) : ∃ w : Nat, w ≤ 2 ∧ lookK [(("a" : Str), AV.int 0), ("f", .int 1), ("g", .int 2), ("b", .int 0)] op = some (.int w) := by
  simp only [lawOps, List.mem_cons, List.not_mem_nil, or_false] at h
  rcases h with rfl | rfl | rfl | rfl
  · exact ⟨0, by decide, rfl⟩
  · exact ⟨1, by decide, rfl⟩
  · exact ⟨2, by decide, rfl⟩
  · exact ⟨0, by decide, rfl⟩
theorem get_map_str {l : List Str} {d : Int} {n : Nat} (h0 : 0 ≤ d) (h1 : d < n) (hl : l.length = n) : ∃ op ∈ l, (l.map AV.str)[d.toNat]? = some (.str op) := by
  have : d.toNat < l.length := by omega
  exact ⟨l[d.toNat], List.getElem_mem _, by rw [List.getElem?_map, List.getElem?_eq_getElem this]; rfl⟩
theorem tree_spec (P : Pk X) : ∀ (n : Nat) {A : Around} {σ : Store} {k : Nat} {Q : AV → Store → Prop} {Es : Store → Prop} (r : Room A (n + 2)) (F : Feed σ fd c cs k) (hk : k + treeC n ≤ 1000)
    (h : ∀ V k', LawT (n + 1) V → k ≤ k' → k' ≤ k + treeC n → Q V (fset σ fd c k')), WC X A (.ref 204) [.ref fd, .int n] σ Q Es := by
  intro n
  induction n using Nat.strongRecOn with
  | ind n ih =>
  intro A σ k Q Es r F hk h
  have h2 : 2 ≤ treeC n := by cases n <;> simp [treeC]
  refine WC.lower ?_
  refine WC_p P (ns := ["feed", "deep"]) rfl rfl (codeRec_of P.K (by rfl)) rfl rfl r.d ?_ (by decide +kernel) (by decide +kernel) ?_
  · exact all2 fun a b => rfl
  intro L hL
  show ESs _ _ _ [] _ ((σ.set (L + 1) (.cell (some (.ref fd)))).set (L + 2) (.cell (some (.int n)))) _ _
  generalize he : callEnvC _ L 204 = env
  have hr : Here (A.deeper env) env := here_of he r.frm
  have hE := EnvIs.of he rfl rfl rfl
  have r' : Room (A.deeper env) (n+1) := r.deeper
  generalize A.deeper env = B at *
  have e1 : σ (L + 1) = none := (hL.mono (Nat.le_succ L)).none
  have e2 : σ (L + 2) = none := (hL.mono (Nat.le_add_right L 2)).none
  have n1 : L + 1 ≠ fd := fun q => by rw [q, F.fd] at e1; cases e1
  have n2 : L + 2 ≠ fd := fun q => by rw [q, F.fd] at e2; cases e2
  have l0 : σ.le ((σ.set (L + 1) (.cell (some (.ref fd)))).set (L + 2) (.cell (some (.int n)))) := (le_new e1).trans (le_new (by rw [set_ne (cne (by decide))]; exact e2))
  have D0 := Drawn.start F l0
  have b1 : ((σ.set (L + 1) (.cell (some (.ref fd)))).set (L + 2) (.cell (some (.int n)))) (L + 1) = some (.cell (some (.ref fd))) := by rw [set_ne (cne (by decide)), set_self]
  have b2 : ((σ.set (L + 1) (.cell (some (.ref fd)))).set (L + 2) (.cell (some (.int n)))) (L + 2) = some (.cell (some (.int n))) := set_self ..
  generalize ((σ.set (L + 1) (.cell (some (.ref fd)))).set (L + 2) (.cell (some (.int n)))) = τ at *
  walk_at "m.run"
  refine draw_any P r'.d D0.F (by decide) (by omega) fun d d0 d1 => ?_
  have D1 := D0.draw (k' := k + 1)
  have c1 := (Drawn.start D0.F (.refl _)).draw (k' := k + 1) |>.at b1 n1
  have c2 := (Drawn.start D0.F (.refl _)).draw (k' := k + 1) |>.at b2 n2
  generalize fset τ fd c (k + 1) = τ1 at *
  walk_at "m.run"
  by_cases hd : d = 10
  · refine pos_ (by simpa using hd) ?_
    walk_at "m.run"
    refine odd_spec P r'.d fun a ha => ?_
    have D2 := D1.new (o := .list (oddOps.map AV.str)) ha.none
    have f1 := (le_new (o := .list (oddOps.map AV.str)) ha.none) _ _ c1
    have f2 : (τ1.set a (.list (oddOps.map AV.str))) a = some (.list (oddOps.map AV.str)) := set_self ..
    have f3 : a ≠ fd := fun q => by have := ha.none; rw [q, D1.F.fd] at this; cases this
    show EV _ _ _ _ _ (τ1.set a (.list (oddOps.map AV.str))) _ _
    generalize τ1.set a (.list (oddOps.map AV.str)) = τ2 at *
    walk_at "m.run"
    refine draw_any P r'.d D2.F (by decide) (by omega) fun d d0 d1 => ?_
    obtain ⟨op, ho, hx⟩ := get_map_str (l := oddOps) d0 d1 rfl
    refine it_list (by rw [fset_ne f3]; exact f2) d0 (by omega) hx ?_
    walk_at "m.run"
    exact ⟨rfl, _, (D2.draw (k' := k + 1 + 1)).l, h _ _ ⟨op, [], rfl, .inl ⟨ho, rfl⟩, fun _ h => by cases h⟩ (by omega) (by omega)⟩
  refine neg_ (by simpa using hd) ?_
  with_reducible refine ESs_nil ?_
  with_reducible refine ESs_cons ?_
  walk_at "m.s"
  refine XE.mono (Q := fun V τ3 => ∃ op, V = .str op ∧ op ∈ lawOps ∧ (n = 0 → op ∈ (["a", "b"] : List Str)) ∧ Drawn σ fd c cs (k + 2) τ3 ∧ τ3 (L + 1) = some (.cell (some (.ref fd))) ∧ τ3 (L + 2) = some (.cell (some (.int n)))) ?_ ?_
  · walk_at "m.run"
    have go : ∀ (ops : List Str) (w : Nat), w ≤ 4 → ops.length = w → (∀ o ∈ ops, o ∈ lawOps) → (n = 0 → ∀ o ∈ ops, o ∈ (["a", "b"] : List Str)) → ∀ a, τ1.Below a → ∀ d : Int, 0 ≤ d → d < w →
        ItS X B env [] (.ref a) (.int d) (fset (τ1.set a (.list (ops.map AV.str))) fd c (k + 1 + 1)) (fun V τ3 => ∃ op, V = .str op ∧ op ∈ lawOps ∧ (n = 0 → op ∈ (["a", "b"] : List Str)) ∧ Drawn σ fd c cs (k + 2) τ3 ∧ τ3 (L + 1) = some (.cell (some (.ref fd))) ∧ τ3 (L + 2) = some (.cell (some (.int n)))) (EXF X B env fun _ σ' => Es σ') := by
      intro ops w h4 hw ho hn a ha d d0 d1
      have D2 := D1.new (o := .list (ops.map AV.str)) ha.none
      have f2 : (τ1.set a (.list (ops.map AV.str))) a = some (.list (ops.map AV.str)) := set_self ..
      have f3 : a ≠ fd := fun q => by have := ha.none; rw [q, D1.F.fd] at this; cases this
      have f4 := (le_new (o := .list (ops.map AV.str)) ha.none) _ _ c1
      have f5 := (le_new (o := .list (ops.map AV.str)) ha.none) _ _ c2
      obtain ⟨op, ho', hx⟩ := get_map_str (l := ops) d0 d1 hw
      refine it_list (by rw [fset_ne f3]; exact f2) d0 (by omega) hx ?_
      exact ⟨op, rfl, ho op ho', fun q => hn q op ho', D2.draw, by rw [fset_ne n1]; exact f4, by rw [fset_ne n2]; exact f5⟩
    by_cases hn : 0 < n
    · refine pos_ (by simpa using hn) ?_
      walk_at "m.run"
      refine ⟨rfl, fun a ha _ => ?_⟩
      have f4 := (le_new (o := .list (lawOps.map AV.str)) ha.none) _ _ c1
      show EV _ _ _ _ _ (τ1.set a (.list (lawOps.map AV.str))) _ _
      walk_at "m.run"
      exact draw_any P r'.d (D1.new ha.none).F (by decide) (by omega) fun d d0 d1 => go lawOps 4 (by decide) rfl (fun _ h => h) (fun q => by omega) a ha d d0 d1
    · refine neg_ (by simpa using hn) ?_
      walk_at "m.run"
      refine ⟨rfl, fun a ha _ => ?_⟩
      have f4 := (le_new (o := .list ((["a", "b"] : List Str).map AV.str)) ha.none) _ _ c1
      show EV _ _ _ _ _ (τ1.set a (.list ((["a", "b"] : List Str).map AV.str))) _ _
      walk_at "m.run"
      exact draw_any P r'.d (D1.new ha.none).F (by decide) (by omega) fun d d0 d1 => go ["a", "b"] 2 (by decide) rfl (by decide) (fun _ _ h => h) a ha d d0 d1
  · intro V τ3 z0
    refine ex1 z0 fun op z1 => ?_
    refine an6 z1 fun e_1 ho hn D3 c1 c2 => ?_
    clear z1 z0
    subst e_1
    obtain ⟨w, hw, hl⟩ := widths ho
    have hw0 : n = 0 → w = 0 := by
      intro q
      have := hn q
      simp only [List.mem_cons, List.not_mem_nil, or_false] at this
      rcases this with rfl | rfl <;> exact Int.ofNat.inj (AV.int.inj (Option.some.inj hl)).symm
    walk_at "m.run"
    refine ⟨rfl, ?_⟩
    walk_at "m.run"
    refine width_spec P r'.d fun D hD => ?_
    have c1 := le_new (o := .sdict [("a", .int 0), ("f", .int 1), ("g", .int 2), ("b", .int 0)]) hD _ _ c1
    have c2 := le_new (o := .sdict [("a", .int 0), ("f", .int 1), ("g", .int 2), ("b", .int 0)]) hD _ _ c2
    have hw' : (τ3.set D (.sdict [("a", .int 0), ("f", .int 1), ("g", .int 2), ("b", .int 0)])) D = _ := set_self ..
    have D4 := D3.new (o := .sdict [("a", .int 0), ("f", .int 1), ("g", .int 2), ("b", .int 0)]) hD
    generalize τ3.set D (.sdict [("a", .int 0), ("f", .int 1), ("g", .int 2), ("b", .int 0)]) = τ4 at *
    walk_at "m.run"
    refine it_s hw' hl ?_
    walk_at "m.run"
    refine WC_range fun rr t u v hrr => ?_
    have c1 := le_new (o := .raw (rangeObj w t u v)) hrr _ _ c1
    have c2 := le_new (o := .raw (rangeObj w t u v)) hrr _ _ c2
    have hr' : (τ4.set rr (.raw (rangeObj w t u v))) rr = _ := set_self ..
    have D5 := D4.new (o := .raw (rangeObj w t u v)) hrr
    generalize τ4.set rr (.raw (rangeObj w t u v)) = τ5 at *
    refine ⟨τ5, _, _, fun i acc τ' => ∃ k', Drawn τ5 fd c cs k' τ' ∧ k + 2 ≤ k' ∧ k' ≤ k + 2 + i * treeC (n - 1) ∧ acc.length = i ∧ ∀ V ∈ acc, LawT n V, its_range r'.han (by omega) hr', by simp; omega, ⟨k + 2, .start D5.F (.refl _), by omega, by omega, rfl, fun _ h => by cases h⟩, fun _ _ _ _ => trivial, ?_, ?_⟩
    · intro C i acc τ' V hV z0 hC
      refine ex1 z0 fun k' z1 => ?_
      refine an5 z1 fun DD k1 k2 ha hacc => ?_
      clear z1 z0
      rw [List.getElem?_map] at hV
      obtain ⟨j, hj, rfl⟩ := Option.map_eq_some_iff.mp hV
      have hi : i < w := by have := (List.getElem?_eq_some_iff.mp hj).1; simpa using this
      obtain ⟨m, rfl⟩ : ∃ m, n = m + 1 := ⟨n - 1, by omega⟩
      generalize hce : compEnvC _ _ C env = cenv
      have hcE := EnvIs.comp hce hE rfl
      clear hce
      refine ETs_nil ?_
      refine pos_ rfl ?_
      have c1 := DD.at c1 n1
      have c2 := DD.at c2 n2
      walk_at "m.run"
      rw [show ((m + 1 : Nat) : Int) - 1 = (m : Int) by omega]
      have hC2 : treeC (m + 1) = 2 + 2 * treeC m := rfl
      have hi2 : i * treeC m ≤ treeC m := by
        have : i ≤ 1 := by omega
        calc i * treeC m ≤ 1 * treeC m := Nat.mul_le_mul_right _ this
          _ = _ := Nat.one_mul _
      rw [Nat.add_sub_cancel] at k2 ⊢
      refine ih m (Nat.lt_succ_self m) (r'.le (by omega)) DD.F (by omega) fun V k'' hV h1 h2 => ⟨k'', DD.draw, by omega, ?_, ?_, ?_⟩
      · rw [Nat.succ_mul]; omega
      · simp [ha]
      · intro W hW
        rcases List.mem_append.mp hW with hW | hW
        · exact hacc W hW
        · rw [List.mem_singleton.mp hW]; exact hV
    · intro acc τ' D z0 hD
      refine ex1 z0 fun k' z1 => ?_
      refine an5 z1 fun DD k1 k2 ha hacc => ?_
      clear z1 z0
      simp only [List.length_map, List.length_range] at ha k2
      refine WC_tuple_list (set_self ..) (by omega) ?_
      refine op_add_tup (by simp; omega) ?_
      have hk2 : k' ≤ k + treeC n := by
        cases n with
        | zero => rw [hw0 rfl] at k2; show k' ≤ k + 2; omega
        | succ m =>
          have hC2 : treeC (m + 1) = 2 + 2 * treeC m := rfl
          have : w * treeC m ≤ 2 * treeC m := Nat.mul_le_mul_right _ hw
          rw [Nat.add_sub_cancel] at k2
          omega
      exact ⟨_, (D5.on DD).l.trans (le_new hD), h _ _ ⟨op, acc, rfl, .inr ⟨ho, by omega⟩, hacc⟩ (by omega) hk2⟩
end
end
section
theorem isEmpty_filter_not {α : Type} (f : α → Bool) : ∀ l : List α, (l.filter fun k => !f k).isEmpty = l.all f
  | [] => rfl
  | x :: l => by
    have ih := isEmpty_filter_not f l
    cases h : f x <;> simp_all
theorem take_succ_get {α : Type} {l : List α} {i : Nat} {V : α} (h : l[i]? = some V) : l.take (i + 1) = l.take i ++ [V] := by
  rw [List.take_add_one, h]; rfl
theorem maxZ_eq : ∀ (l : List Int) (M : Int), M ∈ (0 :: l) → (∀ a, a ∈ (0 :: l) → a ≤ M) → M = maxZ l := by
  have key : ∀ l : List Int, 0 ≤ maxZ l ∧ (∀ a ∈ l, a ≤ maxZ l) ∧ maxZ l ∈ (0 :: l) := by
    intro l
    induction l with
    | nil => exact ⟨Int.le_refl _, fun _ h => (by cases h), List.mem_cons_self ..⟩
    | cons x l ih =>
      obtain ⟨h0, h1, h2⟩ := ih
      show 0 ≤ max x (maxZ l) ∧ (∀ a ∈ x :: l, a ≤ max x (maxZ l)) ∧ max x (maxZ l) ∈ 0 :: x :: l
      refine ⟨by omega, fun a ha => ?_, ?_⟩
      · rcases List.mem_cons.mp ha with rfl | ha
        · omega
        · have := h1 a ha; omega
      · rcases (by omega : max x (maxZ l) = x ∨ max x (maxZ l) = maxZ l) with e | e
        · rw [e]; simp
        · rw [e]
          rcases List.mem_cons.mp h2 with e | h
          · rw [e]; simp
          · simp [h]
  intro l M hM hle
  obtain ⟨h0, h1, h2⟩ := key l
  have a := hle _ h2
  rcases List.mem_cons.mp hM with e | e
  · omega
  · have := h1 M e; omega
section
variable {X : Cx}
theorem is_fine_spec (P : Pk X) : ∀ (n : Nat) {A : Around} {σ : Store} {V : AV} {Q : AV → Store → Prop} {Es : Store → Prop} (r : Room A (n + 1)) (hn : n ≤ 20) (hV : Tre n V)
    (h : Q (.bool (fineN n V)) σ), WC X A (.ref 209) [V] σ Q Es := by
  intro n
  induction n with
  | zero => intro A σ V Q Es r hn hV h; exact False.elim hV
  | succ m ih =>
    intro A σ V Q Es r hn hV h
    refine ex2 hV fun op kids z1 => ?_
    refine an4 z1 fun e ho hl hk => ?_
    clear z1 hV
    subst e
    refine WC.lower ?_
    refine WC_p P (ns := ["tree"]) rfl rfl (codeRec_of P.K (by rfl)) rfl rfl r.d ?_ (by decide +kernel) (by decide +kernel) ?_
    · exact all1 fun a => rfl
    intro L hL
    show ESs _ _ _ [("tree", .tup (.str op :: kids))] _ σ _ _
    generalize he : callEnvC _ L 209 = env
    have hr : Here (A.deeper env) env := here_of he r.frm
    have hE := EnvIs.of he rfl rfl rfl
    have r' : Room (A.deeper env) (m+1) := r.deeper
    generalize A.deeper env = B at *
    with_reducible refine ESs_cons ?_
    with_reducible refine ES_Return ?_
    with_reducible refine EV_And2 ?_
    walk_at "m.run"
    refine it_tup (V := .str op) (Int.le_refl 0) (by decide) rfl ?_
    walk_at "m.run"
    refine width_spec P r'.d fun D hD => ?_
    refine op_in_s (set_self ..) ?_
    have l1 := le_new (o := .sdict [("a", .int 0), ("f", .int 1), ("g", .int 2), ("b", .int 0)]) hD
    generalize σ.set D (.sdict [("a", .int 0), ("f", .int 1), ("g", .int 2), ("b", .int 0)]) = τ at *
    refine truthy_bool ?_
    have hfine : fineN (m + 1) (.tup (.str op :: kids)) = ((lookK [(("a" : Str), AV.int 0), ("f", .int 1), ("g", .int 2), ("b", .int 0)] op).isSome && kids.all (fineN m)) := rfl
    rw [hfine] at h
    split
    · rename_i hs
      rw [hs, Bool.true_and] at h
      walk_at "m.run"
      refine ⟨_, _, rfl, by omega, ?_⟩
      refine ⟨τ, _, _, fun i acc τ' => τ' = τ ∧ acc = (kids.take i).filter fun k => !fineN m k, its_tup r'.han, by omega, ⟨rfl, rfl⟩, fun _ _ _ _ => trivial, ?_, ?_⟩
      · rintro C i acc τ' V hV ⟨rfl, rfl⟩ hC
        generalize hce : compEnvC _ _ C env = cenv
        have hcE := EnvIs.comp hce hE rfl
        clear hce
        with_reducible refine ETs_one ?_
        with_reducible refine EB_Not ?_
        ((with_reducible refine EB_plain ?_ ?_); (intro _; rfl))
        walk_at "m.run"
        refine ih (r'.le (by omega)) (by omega) (hk V (List.mem_of_getElem? hV)) ?_
        with_reducible refine truthy_bool ?_
        have ht : (kids.take (i + 1)).filter (fun k => !fineN m k) = (kids.take i).filter (fun k => !fineN m k) ++ [V].filter fun k => !fineN m k := by rw [take_succ_get hV, List.filter_append]
        cases hf : fineN m V
        · rw [Bool.not_false, if_pos rfl]
          walk_at "m.run"
          exact ⟨rfl, by rw [ht]; simp [hf]⟩
        · rw [Bool.not_true, if_neg (by decide)]
          exact ⟨rfl, by rw [ht]; simp [hf]⟩
      · rintro acc τ' D ⟨rfl, rfl⟩ hD
        walk_at "m.run"
        refine ⟨rfl, fun a ha' _ => ?_⟩
        have hDa : D ≠ a := Nat.ne_of_lt (ha' D _ (set_self ..))
        refine op_eq_list (n := m) (by rw [set_ne hDa, set_self]) (set_self ..) ?_ rfl (r'.u (by omega)) ?_
        · rw [datBs_all]
          intro V hV
          exact (hk V (List.mem_of_mem_take (List.mem_filter.mp hV).1)).dat
        rw [List.take_length] at ha' ⊢
        rw [avEqs_nil, isEmpty_filter_not]
        exact ⟨_, l1.trans ((le_new hD).trans (le_set ha')), h⟩
    · rename_i hs
      rw [Bool.not_eq_true] at hs
      rw [hs] at h ⊢
      exact ⟨_, l1, h⟩
theorem heavy_spec (P : Pk X) : ∀ (n : Nat) {A : Around} {σ : Store} {V : AV} {Q : AV → Store → Prop} {Es : Store → Prop} (r : Room A (n + 1)) (hn : n ≤ 20) (hV : Tre n V)
    (h : Q (.int (heavyN n V)) σ), WC X A (.ref 221) [V] σ Q Es := by
  intro n
  induction n with
  | zero => intro A σ V Q Es r hn hV h; exact False.elim hV
  | succ m ih =>
    intro A σ V Q Es r hn hV h
    refine ex2 hV fun op kids z1 => ?_
    refine an4 z1 fun e ho hl hk => ?_
    clear z1 hV
    subst e
    refine WC.lower ?_
    refine WC_p P (ns := ["tree"]) rfl rfl (codeRec_of P.K (by rfl)) rfl rfl r.d ?_ (by decide +kernel) (by decide +kernel) ?_
    · exact all1 fun a => rfl
    intro L hL
    show ESs _ _ _ [("tree", .tup (.str op :: kids))] _ σ _ _
    generalize he : callEnvC _ L 221 = env
    have hr : Here (A.deeper env) env := here_of he r.frm
    have hE := EnvIs.of he rfl rfl rfl
    have r' : Room (A.deeper env) (m+1) := r.deeper
    generalize A.deeper env = B at *
    walk_at "m.run"
    refine ⟨_, _, rfl, by omega, ?_⟩
    refine ⟨σ, _, _, fun i acc τ' => τ' = σ ∧ acc = ((kids.take i).map (heavyN m)).map AV.int, its_tup r'.han, by omega, ⟨rfl, rfl⟩, fun _ _ _ _ => trivial, ?_, ?_⟩
    · rintro C i acc τ' V hV ⟨rfl, rfl⟩ hC
      generalize hce : compEnvC _ _ C env = cenv
      have hcE := EnvIs.comp hce hE rfl
      clear hce
      refine ETs_nil ?_
      refine pos_ rfl ?_
      walk_at "m.run"
      refine ih (r'.le (by omega)) (by omega) (hk V (List.mem_of_getElem? hV)) ?_
      exact ⟨rfl, by rw [take_succ_get hV, List.map_append, List.map_append]; rfl⟩
    · rintro acc τ' D ⟨rfl, rfl⟩ hD
      walk_at "m.run"
      refine WC_sum r'.han (set_self ..) ?_
      walk_at "m.run"
      rw [List.take_length]
      exact ⟨_, le_new hD, h⟩
theorem long_spec (P : Pk X) : ∀ (n : Nat) {A : Around} {σ : Store} {V : AV} {Q : AV → Store → Prop} {Es : Store → Prop} (r : Room A (n + 1)) (hn : n ≤ 20) (hV : Tre n V)
    (h : Q (.int (longN n V)) σ), WC X A (.ref 226) [V] σ Q Es := by
  intro n
  induction n with
  | zero => intro A σ V Q Es r hn hV h; exact False.elim hV
  | succ m ih =>
    intro A σ V Q Es r hn hV h
    refine ex2 hV fun op kids z1 => ?_
    refine an4 z1 fun e ho hl hk => ?_
    clear z1 hV
    subst e
    refine WC.lower ?_
    refine WC_p P (ns := ["tree"]) rfl rfl (codeRec_of P.K (by rfl)) rfl rfl r.d ?_ (by decide +kernel) (by decide +kernel) ?_
    · exact all1 fun a => rfl
    intro L hL
    show ESs _ _ _ [("tree", .tup (.str op :: kids))] _ σ _ _
    generalize he : callEnvC _ L 226 = env
    have hr : Here (A.deeper env) env := here_of he r.frm
    have hE := EnvIs.of he rfl rfl rfl
    have r' : Room (A.deeper env) (m+1) := r.deeper
    generalize A.deeper env = B at *
    walk_at "m.run"
    refine ⟨rfl, fun a ha _ => ?_⟩
    have l1 := le_set (o := .list [.int 0]) ha
    have ha0 : (σ.set a (.list [.int 0])) a = _ := set_self ..
    generalize σ.set a (.list [.int 0]) = τ at *
    walk_at "m.run"
    refine ⟨_, _, rfl, by omega, ?_⟩
    refine ⟨τ, _, _, fun i acc τ' => τ' = τ ∧ acc = ((kids.take i).map (longN m)).map AV.int, its_tup r'.han, by omega, ⟨rfl, rfl⟩, fun _ _ _ _ => trivial, ?_, ?_⟩
    · rintro C i acc τ' V hV ⟨rfl, rfl⟩ hC
      generalize hce : compEnvC _ _ C env = cenv
      have hcE := EnvIs.comp hce hE rfl
      clear hce
      refine ETs_nil ?_
      refine pos_ rfl ?_
      walk_at "m.run"
      refine ih (r'.le (by omega)) (by omega) (hk V (List.mem_of_getElem? hV)) ?_
      exact ⟨rfl, by rw [take_succ_get hV, List.map_append, List.map_append]; rfl⟩
    · rintro acc τ' D ⟨rfl, rfl⟩ hD
      have hDa : a ≠ D := fun q => by rw [← q, ha0] at hD; cases hD
      refine op_add_list (by rw [set_ne hDa]; exact ha0) (set_self ..) (by simp; omega) fun D2 hD2 => ?_
      rw [List.take_length]
      walk_at "m.run"
      refine WC_max (ns := 0 :: kids.map (longN m)) r'.han (by simp) (set_self ..) fun M hM hle => ?_
      walk_at "m.run"
      rw [maxZ_eq _ M hM hle]
      rw [List.take_length] at hD2
      exact ⟨_, l1.trans ((le_new hD).trans (le_new hD2)), h⟩
end
end
section
section
variable {X : Cx}
theorem rankL_eq {n : Nat} {M : List AV} {op : Str} {kids : List AV} : rankL (n + 1) M (.tup (.str op :: kids)) = if hasAV (kids.foldl (rankL n) M) (.tup (.str op :: kids)) = true then kids.foldl (rankL n) M else kids.foldl (rankL n) M ++ [.tup (.str op :: kids)] := rfl
theorem rankL_tre : ∀ (n : Nat) {d : Nat} {M : List AV} {V : AV}, n ≤ d → Tre n V → (∀ W ∈ M, Tre d W) → ∀ W ∈ rankL n M V, Tre d W
  | m + 1, d, M, V, hd, ⟨op, kids, e, ho, hl, hk⟩, hM => by
    have ih := @rankL_tre m d
    have hV : Tre d V := Tre.le (show Tre (m + 1) V from ⟨op, kids, e, ho, hl, hk⟩) hd
    subst e
    have : ∀ (kids : List AV) (M : List AV), (∀ k ∈ kids, Tre m k) → (∀ W ∈ M, Tre d W) → ∀ W ∈ kids.foldl (rankL m) M, Tre d W := by
      intro kids
      induction kids with
      | nil => intro M _ hM; exact hM
      | cons k kids il =>
        intro M hk hM
        exact il (rankL m M k) (fun x hx => hk x (.tail _ hx)) (ih (by omega) (hk k (.head _)) hM)
    have h1 := this kids M hk hM
    rw [rankL_eq]
    split
    · exact h1
    · intro W hW
      rcases List.mem_append.mp hW with hW | hW
      · exact h1 W hW
      · rw [List.mem_singleton.mp hW]; exact hV
theorem rankL_len : ∀ (n : Nat) {M : List AV} {V : AV}, Tre n V → (rankL n M V).length + 1 ≤ M.length + 2 ^ n
  | m + 1, M, V, ⟨op, kids, e, ho, hl, hk⟩ => by
    have ih := @rankL_len m
    subst e
    have : ∀ (kids : List AV) (M : List AV), (∀ k ∈ kids, Tre m k) → (kids.foldl (rankL m) M).length + kids.length ≤ M.length + kids.length * 2 ^ m := by
      intro kids
      induction kids with
      | nil => intro M _; simp
      | cons k kids il =>
        intro M hk
        have h1 := il (rankL m M k) (fun x hx => hk x (.tail _ hx))
        have h2 := ih (M := M) (hk k (.head _))
        rw [List.foldl_cons, List.length_cons, Nat.succ_mul]
        omega
    have h1 := this kids M hk
    have hp : 0 < 2 ^ m := Nat.two_pow_pos m
    have h3 : kids.length * 2 ^ m + 2 ≤ 2 * 2 ^ m + kids.length := by
      match kids, hl with
      | [], _ => simp; omega
      | [a], _ => simp; omega
      | [a, b], _ => simp
    rw [rankL_eq, Nat.pow_succ]
    split
    · omega
    · rw [List.length_append, List.length_singleton]; omega
/-- the first place of V -/
noncomputable def FirstAt (l : List AV) (V : AV) (j : Nat) : Prop := l[j]? = some V ∧ ∀ i W, i < j → l[i]? = some W → W ≠ V
theorem firstAt_of_mem : ∀ {l : List AV} {V : AV}, V ∈ l → ∃ j, FirstAt l V j
  | x :: l, V, h => by
    by_cases e : x = V
    · exact ⟨0, by simp [e], fun i W hi => by omega⟩
    · obtain ⟨j, hj, hn⟩ := firstAt_of_mem (l := l) (V := V) (by rcases List.mem_cons.mp h with q | q; exact absurd q.symm e; exact q)
      refine ⟨j + 1, by simpa using hj, fun i W hi hW => ?_⟩
      cases i with
      | zero => simp at hW; exact hW ▸ e
      | succ i => exact hn i W (by omega) (by simpa using hW)
theorem rankL_mem {n : Nat} {M : List AV} {V : AV} (h : Tre n V) : V ∈ rankL n M V := by
  match n, h with
  | m + 1, h =>
    have hd := h.dat
    obtain ⟨op, kids, rfl, _⟩ := h
    rw [rankL_eq]
    split
    · rename_i q; exact (hasAV_iff hd).mp q
    · simp
theorem GetM_append {A : Around} {σ : Store} {b : Addr} {l : List AV} (h : σ b = some (.list l)) : GetM X A (.ref b) "append" (.builtin "list.append") σ := GetM_list PySem.F.slot_list_append rfl h
theorem GetM_index {A : Around} {σ : Store} {b : Addr} {l : List AV} (h : σ b = some (.list l)) : GetM X A (.ref b) "index" (.builtin "list.index") σ := GetM_list PySem.F.slot_list_index rfl h
theorem GetM_extend {A : Around} {σ : Store} {b : Addr} {l : List AV} (h : σ b = some (.list l)) : GetM X A (.ref b) "extend" (.builtin "list.extend") σ := GetM_list PySem.F.slot_list_extend rfl h
theorem GetM_pop {A : Around} {σ : Store} {b : Addr} {l : List AV} (h : σ b = some (.list l)) : GetM X A (.ref b) "pop" (.builtin "list.pop") σ := GetM_list PySem.F.slot_list_pop rfl h
theorem WC_index1 {A : Around} {σ : Store} {Q : AV → Store → Prop} {Es : Store → Prop} {b : Addr} {l : List AV} {V : AV} {n j : Nat} (hb : σ b = some (.list l)) (hl : ∀ W ∈ l, datB W n = true) (hV : datB V n = true) (hu : A.units + (n + 1) < cLine) (hz : l.length ≤ 10000)
    (hj : FirstAt l V j) (h : Q (.int j) σ) : WC X A (.builtin "list.index") [.ref b, V] σ Q Es :=
  WC_index hb (datBs_all.mpr hl) hV hu hz ⟨V, hj.1, avEq_refl n V hV⟩ (fun i W hi hW => avEq_no hV (hj.2 i W hi hW)) h
theorem ranked_spec (P : Pk X) {m : Addr} {d : Nat} (hd : d ≤ 20) : ∀ (n : Nat) {A : Around} {σ : Store} {M : List AV} {V : AV} {Q : AV → Store → Prop} {Es : Store → Prop} (r : Room A n) (hn : n ≤ d) (hm : σ m = some (.list M)) (hM : ∀ W ∈ M, Tre d W) (hV : Tre n V) (hz : M.length + 2 ^ n ≤ 5000)
    (h : ∀ j, FirstAt (rankL n M V) V j → Q (.int (j : Nat)) (σ.set m (.list (rankL n M V)))), WC X A (.ref 216) [.ref m, V] σ Q Es := by
  intro n
  induction n with
  | zero => intro A σ M V Q Es r hn hm hM hV hz h; exact False.elim hV
  | succ k ih =>
    intro A σ M V Q Es r hn hm hM hV hz h
    have hdV := hV.dat
    have hV' := hV
    have hlen := rankL_len (k + 1) (M := M) hV
    have htre := rankL_tre (k + 1) (d := d) hn hV hM
    have hmem := rankL_mem (M := M) hV
    refine ex2 hV fun op kids z1 => ?_
    refine an4 z1 fun e ho hl hk => ?_
    clear z1 hV
    subst e
    refine WC.lower ?_
    refine WC_p P (ns := ["mine", "tree"]) rfl rfl (codeRec_of P.K (by rfl)) rfl rfl r.d ?_ (by decide +kernel) (by decide +kernel) ?_
    · exact all2 fun a b => rfl
    intro L hL
    show ESs _ _ _ [("mine", .ref m), ("tree", .tup (.str op :: kids))] _ σ _ _
    generalize he : callEnvC _ L 216 = env
    have hr : Here (A.deeper env) env := here_of he r.frm
    have hE := EnvIs.of he rfl rfl rfl
    have r' : Room (A.deeper env) (k) := r.deeper
    generalize A.deeper env = B at *
    have hp : 0 < 2 ^ k := Nat.two_pow_pos k
    rw [Nat.pow_succ] at hz
    have hkl : ∀ i, i ≤ kids.length → ((kids.take i).foldl (rankL k) M).length ≤ M.length + i * 2 ^ k := by
      intro i hi
      induction i with
      | zero => simp
      | succ i ih =>
        have h1 := ih (by omega)
        have : kids[i]? = some kids[i] := List.getElem?_eq_getElem (by omega)
        rw [take_succ_get this, List.foldl_append]
        have := rankL_len k (M := (kids.take i).foldl (rankL k) M) (hk kids[i] (List.getElem_mem _))
        show (rankL k _ _).length ≤ _
        rw [Nat.succ_mul]
        omega
    have hkt : ∀ i, i ≤ kids.length → ∀ W ∈ (kids.take i).foldl (rankL k) M, Tre d W := by
      intro i hi
      induction i with
      | zero => exact hM
      | succ i ih =>
        have : kids[i]? = some kids[i] := List.getElem?_eq_getElem (by omega)
        rw [take_succ_get this, List.foldl_append]
        exact rankL_tre k (by omega) (hk kids[i] (List.getElem_mem _)) (ih (by omega))
    with_reducible refine ESs_cons ?_
    refine ES_For .name hr ?_
    walk_at "m.run"
    refine ⟨_, _, rfl, by omega, ?_⟩
    refine ⟨σ, _, _, fun i ρ' τ' => look ρ' "mine" = some (.ref m) ∧ look ρ' "tree" = some (.tup (.str op :: kids)) ∧ τ' = σ.set m (.list ((kids.take i).foldl (rankL k) M)), its_tup r'.han, ⟨rfl, rfl, (set_same hm).symm⟩, fun _ _ _ _ => trivial, ?_, ?_⟩
    · rintro i ρ' τ' V hV ⟨hρ1, hρ2, rfl⟩
      have hi := (List.getElem?_eq_some_iff.mp hV).1
      refine assign_name ?_
      walk_at "m.s"
      have k1 := look_put_ne (m := "kid") (V := V) hρ1
      have k2 := look_put_ne (m := "kid") (V := V) hρ2
      have k3 := look_put ρ' "kid" V
      generalize put "kid" V ρ' = ρ2 at *
      walk_at "m.run"
      ((with_reducible refine ES_Expr ?_ ?_ ?_); rotate_left; (first | rfl | (subst_vars; rfl)); (first | rfl | (subst_vars; rfl)))
      walk_at "m.run"
      have hlen := hkl i (by omega)
      have hi2 : i * 2 ^ k ≤ 2 ^ k := by
        have : i ≤ 1 := by omega
        calc i * 2 ^ k ≤ 1 * 2 ^ k := Nat.mul_le_mul_right _ this
          _ = _ := Nat.one_mul _
      refine ih (r'.le (by omega)) (by omega) (set_self ..) (hkt i (by omega)) (hk V (List.mem_of_getElem? hV)) (by omega) fun j hj => ⟨trivial, ?_⟩
      refine ESs_nil ⟨k1, k2, ?_⟩
      rw [set_set, take_succ_get hV, List.foldl_append]; rfl
    · rintro ρ' τ' ⟨k1, k2, rfl⟩
      rw [List.take_length]
      have hlen2 := hkl kids.length (Nat.le_refl _)
      have htre2 := hkt kids.length (Nat.le_refl _)
      rw [List.take_length] at hlen2 htre2
      have hl2 : kids.length * 2 ^ k ≤ 2 * 2 ^ k := Nat.mul_le_mul_right _ hl
      with_reducible refine ESs_cons ?_
      with_reducible refine ES_If ?_
      walk_at "m.run"
      refine op_notin_list (n := d) (set_self ..) (datBs_all.mpr fun W hW => (htre2 W hW).dat) (Tre.dat (Tre.le hV' hn)) (r'.u (by omega)) ?_
      walk_at "m.run"
      rw [rankL_eq] at h htre hmem hlen
      obtain ⟨j, hj⟩ := firstAt_of_mem hmem
      have hdd := Tre.dat (Tre.le hV' hn)
      have hq : (!(kids.foldl (rankL k) M).any fun W => avEq W (.tup (.str op :: kids))) = !hasAV (kids.foldl (rankL k) M) (.tup (.str op :: kids)) := rfl
      rw [hq]
      cases hb : hasAV (kids.foldl (rankL k) M) (.tup (.str op :: kids)) with
      | true =>
        rw [hb, if_pos rfl] at h htre hj
        rw [Bool.not_true, if_neg (by decide)]
        walk_at "m.run"
        ((with_reducible refine EV_meth_bi (id := "list.index") ?_ ?_ ?_ ?_ ?_); rfl; decide; rfl; rfl)
        walk_at "m.run"
        refine ⟨GetM_index (set_self ..), ?_⟩
        walk_at "m.run"
        refine WC_index1 (n := d) (set_self ..) (fun W hW => (htre W hW).dat) hdd (r'.u (by omega)) (by omega) hj ?_
        exact ⟨_, .refl _, h j hj⟩
      | false =>
        rw [hb, if_neg (by decide)] at h htre hj
        rw [Bool.not_false, if_pos rfl]
        walk_at "m.run"
        ((with_reducible refine ES_Expr ?_ ?_ ?_); rotate_left; (first | rfl | (subst_vars; rfl)); (first | rfl | (subst_vars; rfl)))
        ((with_reducible refine EV_meth_bi (id := "list.append") ?_ ?_ ?_ ?_ ?_); rfl; decide; rfl; rfl)
        walk_at "m.run"
        refine ⟨GetM_append (set_self ..), ?_⟩
        walk_at "m.run"
        refine WC_append (set_self ..) (by omega) ⟨fun a q => (by cases q), ?_⟩
        rw [set_set]
        walk_at "m.run"
        ((with_reducible refine EV_meth_bi (id := "list.index") ?_ ?_ ?_ ?_ ?_); rfl; decide; rfl; rfl)
        walk_at "m.run"
        refine ⟨GetM_index (set_self ..), ?_⟩
        walk_at "m.run"
        refine WC_index1 (n := d) (set_self ..) (fun W hW => (htre W hW).dat) hdd (r'.u (by omega)) (by simp; omega) hj ?_
        exact ⟨_, .refl _, h j hj⟩
end
end
section
section
variable {X : Cx}
theorem subs_eq {n : Nat} {op : Str} {kids : List AV} : subs (n + 1) (.tup (.str op :: kids)) = .tup (.str op :: kids) :: kids.flatMap (subs n) := rfl
theorem subs_len : ∀ (n : Nat) {V : AV}, Tre n V → (subs n V).length + 1 ≤ 2 ^ n
  | m + 1, V, ⟨op, kids, e, ho, hl, hk⟩ => by
    have ih := @subs_len m
    subst e
    have : ∀ (kids : List AV), (∀ k ∈ kids, Tre m k) → (kids.flatMap (subs m)).length + kids.length ≤ kids.length * 2 ^ m := by
      intro kids
      induction kids with
      | nil => intro _; simp
      | cons k kids il =>
        intro hk
        have h1 := il (fun x hx => hk x (.tail _ hx))
        have h2 := ih (hk k (.head _))
        rw [List.flatMap_cons, List.length_append, List.length_cons, Nat.succ_mul]
        omega
    have h1 := this kids hk
    have hp : 0 < 2 ^ m := Nat.two_pow_pos m
    rw [subs_eq, Nat.pow_succ, List.length_cons]
    match kids, hl, h1 with
    | [], _, h1 => simp; omega
    | [a], _, h1 => simp at h1 ⊢; omega
    | [a, b], _, h1 => simp at h1 ⊢; omega
noncomputable def pairAV (p : List AV × AV) : AV := .tup [.tup p.1, p.2]
/-- what parts(t) gives: a way and a part each -/
noncomputable def PathsOk (n : Nat) (V : AV) (l : List AV) : Prop := ∃ ps : List (List AV × AV), l = ps.map pairAV ∧ ps.map (·.2) = subs n V ∧ ∀ p ∈ ps, p.1.length ≤ n
theorem flat_len {m : Nat} {kids : List AV} (hl : kids.length ≤ 2) (hk : ∀ k ∈ kids, Tre m k) (i : Nat) : ((kids.take i).flatMap (subs m)).length ≤ 2 * 2 ^ m := by
  have : ∀ (ks : List AV), (∀ k ∈ ks, Tre m k) → (ks.flatMap (subs m)).length ≤ ks.length * 2 ^ m := by
    intro ks
    induction ks with
    | nil => intro _; simp
    | cons k ks il =>
      intro hk
      have h1 := il (fun x hx => hk x (.tail _ hx))
      have h2 := subs_len m (hk k (.head _))
      rw [List.flatMap_cons, List.length_append, List.length_cons, Nat.succ_mul]
      omega
  have h1 := this (kids.take i) (fun k h => hk k (List.mem_of_mem_take h))
  have h2 : (kids.take i).length * 2 ^ m ≤ 2 * 2 ^ m := Nat.mul_le_mul_right _ (by rw [List.length_take]; omega)
  omega
theorem parts_spec (P : Pk X) : ∀ (n : Nat) {A : Around} {σ : Store} {V : AV} {Q : AV → Store → Prop} {Es : Store → Prop} (r : Room A n) (hn : n ≤ 10) (hV : Tre n V)
    (h : ∀ D l, σ D = none → PathsOk n V l → Q (.ref D) (σ.set D (.list l))), WC X A (.ref 72) [V] σ Q Es := by
  intro n
  induction n with
  | zero => intro A σ V Q Es r hn hV h; exact False.elim hV
  | succ m ih =>
    intro A σ V Q Es r hn hV h
    refine ex2 hV fun op kids z1 => ?_
    refine an4 z1 fun e ho hl hk => ?_
    clear z1 hV
    subst e
    have hp : 2 ^ m ≤ 512 := Nat.pow_le_pow_right (by decide) (by omega : m ≤ 9)
    refine WC.lower ?_
    refine WC_p P (ns := ["t"]) rfl rfl (codeRec_of P.K (by rfl)) rfl rfl r.d ?_ (by decide +kernel) (by decide +kernel) ?_
    · exact all1 fun a => rfl
    intro L hL
    show ESs _ _ _ [("t", .tup (.str op :: kids))] _ (σ.set (L + 1) (.cell none)) _ _
    generalize he : callEnvC _ L 72 = env
    have hr : Here (A.deeper env) env := here_of he r.frm
    have hE := EnvIs.of he rfl rfl rfl
    have r' : Room (A.deeper env) (m) := r.deeper
    generalize A.deeper env = B at *
    have e1 : σ (L + 1) = none := (hL.mono (Nat.le_succ L)).none
    walk_at "m.run"
    refine ⟨rfl, ?_⟩
    walk_at "m.run"
    refine ⟨rfl, ?_⟩
    walk_at "m.run"
    refine ⟨rfl, fun a ha _ => ?_⟩
    have ha1 : a ≠ L + 1 := Nat.ne_of_gt (ha _ _ (set_self ..))
    have ha0 : σ a = none := le_none (le_new e1) ha.none
    walk_at "m.run"
    refine ES_For (plain := false) .tup hr ?_
    walk_at "m.run"
    refine ⟨_, _, rfl, by omega, ?_⟩
    walk_at "m.run"
    refine WC_enumerate fun it e hit he hne ho1 ho2 => ?_
    refine ⟨_, _, _, fun i ρ' τ' => look ρ' "found" = some (.ref a) ∧ ∃ (c : Option AV) (ps : List (List AV × AV)), ((σ.set (L + 1) (.cell c)).set a (.list (ps.map pairAV))).le τ' ∧ ps.map (·.2) = .tup (.str op :: kids) :: (kids.take i).flatMap (subs m) ∧ ∀ p ∈ ps, p.1.length ≤ m + 1, its_enum r'.han hit he hne ho1 ho2, ?_, fun _ _ _ _ => trivial, ?_, ?_⟩
    · exact ⟨rfl, none, [([], .tup (.str op :: kids))], .refl _, rfl, by simp⟩
    · intro i ρ' τ' V hV z0
      refine an2 z0 fun hρ z1 => ?_
      refine ex2 z1 fun c ps z2 => ?_
      refine an3 z2 fun hle hps hpl => ?_
      clear z2 z1 z0
      obtain ⟨U, hU, rfl⟩ := enumL_get hV
      have hUm := List.mem_of_getElem? hU
      refine assign_pair r'.han ?_
      have g1 : τ' (L + 1) = some (.cell c) := hle _ _ (by rw [set_ne (Ne.symm ha1), set_self])
      refine store_cell hE.k (hE.l (by rfl)) (hE.ce (by rfl)) g1 ?_
      have hle2 : ((σ.set (L + 1) (.cell (some (.int i)))).set a (.list (ps.map pairAV))).le (τ'.set (L + 1) (.cell (some (.int i)))) := by
        have := le_set_set (a := L + 1) (o := .cell (some (.int i))) hle
        rw [← set_swap _ (Ne.symm ha1), set_set] at this
        exact this
      have c1 : (τ'.set (L + 1) (.cell (some (.int i)))) (L + 1) = some (.cell (some (.int i))) := set_self ..
      generalize τ'.set (L + 1) (.cell (some (.int i))) = τ2 at *
      walk_at "m.s"
      have k1 := look_put_ne (m := "kid") (V := U) hρ
      have k2 := look_put ρ' "kid" U
      generalize put "kid" U ρ' = ρ2 at *
      walk_at "m.run"
      ((with_reducible refine ES_Expr ?_ ?_ ?_); rotate_left; (first | rfl | (subst_vars; rfl)); (first | rfl | (subst_vars; rfl)))
      ((with_reducible refine EV_meth_bi (id := "list.extend") ?_ ?_ ?_ ?_ ?_); rfl; decide; rfl; rfl)
      walk_at "m.run"
      have c2 : τ2 a = some (.list (ps.map pairAV)) := hle2 _ _ (set_self ..)
      refine ⟨GetM_extend c2, ?_⟩
      walk_at "m.run"
      ((with_reducible refine' EV_ListComp2 (cl := _) (fun _ => True) ?c1_4 ?c2_4 ?c7_4 ?c3_4 ?c4_4 ?_ ?c6_4); (case c1_4 => (exact EnvIs.clo (by assumption) (by rfl))); (case c2_4 => decide); (case c3_4 => rfl); (case c4_4 => decide); (case c7_4 => trivial); (case c6_4 => intro _; rfl))
      walk_at "m.run"
      refine ih (r'.le (by omega)) (by omega) (hk U hUm) fun D l hD hp2 => ?_
      obtain ⟨qs, rfl, hqs, hql⟩ := hp2
      have hqs2 : qs.length + 1 ≤ 2 ^ m := by
        have := subs_len m (hk U hUm)
        rw [← hqs, List.length_map] at this
        exact this
      have hps2 : ps.length ≤ 1 + 2 * 2 ^ m := by
        have h1 := flat_len hl hk i
        have h2 : (ps.map (·.2)).length = _ := congrArg List.length hps
        rw [List.length_map, List.length_cons] at h2
        omega
      have hDa : D ≠ a := fun q => by rw [q, c2] at hD; cases hD
      have c1' := le_new (o := .list (qs.map pairAV)) hD _ _ c1
      have c2' := le_new (o := .list (qs.map pairAV)) hD _ _ c2
      have cD : (τ2.set D (.list (qs.map pairAV))) D = _ := set_self ..
      have hle3 := hle2.trans (le_new (o := .list (qs.map pairAV)) hD)
      generalize τ2.set D (.list (qs.map pairAV)) = τ3 at *
      refine ⟨τ3, _, _, fun j acc τ' => τ' = τ3 ∧ acc = (qs.take j).map fun p => pairAV (.int i :: p.1, p.2), ⟨true, its_list r'.han cD⟩, by simp; omega, ⟨rfl, rfl⟩, fun _ _ _ e => by rw [e.1]; exact cD, ?_, ?_⟩
      · rintro C j acc τ' V ρ' hV ⟨rfl, rfl⟩ _ hC
        rw [List.getElem?_map] at hV
        obtain ⟨q, hq, rfl⟩ := Option.map_eq_some_iff.mp hV
        generalize hce : compEnvC _ _ C env = cenv
        have hcE := EnvIs.comp hce hE rfl
        clear hce
        refine assign_pair r'.han ?_
        walk_at "m.s"
        walk_at "m.s"
        have k3 := look_put_ne (m := "part") (V := q.2) (look_put ρ' "path" (.tup q.1))
        have k4 := look_put (put "path" (.tup q.1) ρ') "part" q.2
        generalize put "part" q.2 (put "path" (.tup q.1) ρ') = ρ3 at *
        refine ⟨trivial, ?_⟩
        walk_at "m.run"
        refine ⟨rfl, ?_⟩
        walk_at "m.run"
        refine op_add_tup (by have := hql q (List.mem_of_getElem? hq); simp; omega) ?_
        walk_at "m.run"
        exact ⟨rfl, rfl, by rw [take_succ_get hq, List.map_append]; rfl⟩
      · rintro acc τ' D2 ⟨rfl, rfl⟩ hD2
        rw [List.length_map, List.take_length]
        walk_at "m.run"
        have hD2a : a ≠ D2 := fun q => by rw [← q, c2'] at hD2; cases hD2
        refine WC_extend (by rw [set_ne hD2a]; exact c2') (set_self ..) (by simp; omega) ⟨fun a q => (by cases q), ?_⟩
        refine ESs_nil ⟨k1, some (.int i), ps ++ qs.map fun p => (.int i :: p.1, p.2), ?_, ?_, ?_⟩
        · rw [List.map_append, List.map_map]
          have := le_set_set (a := a) (o := .list (ps.map pairAV ++ qs.map fun p => pairAV (.int i :: p.1, p.2))) (hle3.trans (le_new (o := .list (qs.map fun p => pairAV (.int i :: p.1, p.2))) hD2))
          rw [set_set] at this
          exact this
        · rw [List.map_append, hps, take_succ_get hU, List.flatMap_append, List.map_map]
          show _ = _ :: (_ ++ ([U].flatMap (subs m)))
          rw [List.cons_append, List.flatMap_cons, List.flatMap_nil, List.append_nil, ← hqs]
          rfl
        · intro p hp
          rcases List.mem_append.mp hp with hp | hp
          · exact hpl p hp
          · obtain ⟨q, hq, rfl⟩ := List.mem_map.mp hp
            have := hql q hq
            simp; omega
    · intro ρ' τ' z0
      refine an2 z0 fun hρ z1 => ?_
      refine ex2 z1 fun c ps z2 => ?_
      refine an3 z2 fun hle hps hpl => ?_
      clear z2 z1 z0
      rw [enumL_length, List.take_length] at hps
      walk_at "m.run"
      refine ⟨_, Store.le.trans ?_ hle, h a _ ha0 ⟨ps, rfl, hps, hpl⟩⟩
      exact le_set_set (le_new e1)
end
end
section
/-! the bank's state -/
noncomputable abbrev Node := Str × List Int
noncomputable def nodeAV (x : Node) : AV := .tup (.str x.1 :: x.2.map AV.int)
noncomputable def keyOf (x : Node) : List OpKey := .inl x.1 :: x.2.map .inr
theorem key_node (x : Node) : AV.tup ((keyOf x).map keyAV) = nodeAV x := by
  show AV.tup (.str x.1 :: (x.2.map Sum.inr).map keyAV) = _
  rw [List.map_map]; rfl
theorem map_inr_inj : ∀ {l m : List Int}, (l.map Sum.inr : List OpKey) = m.map Sum.inr → l = m
  | [], [], _ => rfl
  | [], _ :: _, h => by simp at h
  | _ :: _, [], h => by simp at h
  | x :: l, y :: m, h => by
    rw [List.map_cons, List.map_cons] at h
    injection h with h1 h2
    rw [Sum.inr.inj h1, map_inr_inj h2]
theorem keyOf_inj {x y : Node} (h : keyOf x = keyOf y) : x = y := by
  obtain ⟨a, l⟩ := x
  obtain ⟨b, m⟩ := y
  unfold keyOf at h
  injection h with h1 h2
  have h1 := Sum.inl.inj h1
  have h2 : l = m := map_inr_inj h2
  simp_all
noncomputable def tabFrom : Nat → List Node → List (List OpKey × AV)
  | _, [] => []
  | n, x :: r => (keyOf x, .int n) :: tabFrom (n + 1) r
noncomputable def tabOf (N : List Node) : List (List OpKey × AV) := tabFrom 0 N
theorem tabFrom_snoc (x : Node) : ∀ (n : Nat) (N : List Node), tabFrom n (N ++ [x]) = tabFrom n N ++ [(keyOf x, .int (n + N.length : Nat))]
  | n, [] => rfl
  | n, y :: N => by
    show (keyOf y, _) :: tabFrom (n + 1) (N ++ [x]) = _ :: tabFrom (n + 1) N ++ _
    rw [tabFrom_snoc x (n + 1) N, List.length_cons, show n + 1 + N.length = n + (N.length + 1) by omega]; rfl
theorem tabOf_snoc (x : Node) (N : List Node) : tabOf (N ++ [x]) = tabOf N ++ [(keyOf x, .int N.length)] := by
  unfold tabOf; rw [tabFrom_snoc, Nat.zero_add]
theorem tabFrom_len : ∀ (n : Nat) (N : List Node), (tabFrom n N).length = N.length
  | _, [] => rfl
  | n, x :: r => by show (tabFrom (n + 1) r).length + 1 = _; rw [tabFrom_len]; rfl
theorem tabFrom_look (x : Node) : ∀ (n : Nat) (N : List Node), (∃ i, N[i]? = some x ∧ lookK (tabFrom n N) (keyOf x) = some (.int (n + i : Nat))) ∨ (x ∉ N ∧ lookK (tabFrom n N) (keyOf x) = none)
  | n, [] => .inr ⟨by simp, rfl⟩
  | n, y :: N => by
    by_cases e : y = x
    · subst e
      exact .inl ⟨0, rfl, by unfold lookK tabFrom; simp⟩
    · have hne : ¬ keyOf y = keyOf x := fun q => e (keyOf_inj q)
      have hl : lookK (tabFrom n (y :: N)) (keyOf x) = lookK (tabFrom (n + 1) N) (keyOf x) := by
        unfold lookK; rw [tabFrom, List.find?_cons]; simp [hne]
      rw [hl]
      rcases tabFrom_look x (n + 1) N with ⟨i, h1, h2⟩ | ⟨h1, h2⟩
      · exact .inl ⟨i + 1, by simpa using h1, by rw [h2, show n + 1 + i = n + (i + 1) by omega]⟩
      · exact .inr ⟨by simp [h1, Ne.symm e], h2⟩
theorem tabOf_look (x : Node) (N : List Node) : (∃ i, N[i]? = some x ∧ lookK (tabOf N) (keyOf x) = some (.int (i : Nat))) ∨ (x ∉ N ∧ lookK (tabOf N) (keyOf x) = none) := by
  rcases tabFrom_look x 0 N with ⟨i, h1, h2⟩ | h
  · exact .inl ⟨i, h1, by rw [tabOf, h2, Nat.zero_add]⟩
  · exact .inr h
structure Bk (X : Cx) (σ : Store) (p : BP) (N : List Node) (W D : List Int) : Prop where
  at' : BankAt X σ p
  nn : σ p.nn = some (.list (N.map nodeAV))
  tt : σ p.tt = some (.tdict (tabOf N))
  ww : σ p.ww = some (.list (W.map AV.int))
  dd : σ p.dd = some (.list (D.map AV.int))
  nd : [p.b, p.dx, p.nn, p.tt, p.ww, p.dd].Nodup
noncomputable def bset (σ : Store) (p : BP) (N : List Node) (W D : List Int) : Store :=
  (((σ.set p.nn (.list (N.map nodeAV))).set p.tt (.tdict (tabOf N))).set p.ww (.list (W.map AV.int))).set p.dd (.list (D.map AV.int))
section
variable {X : Cx} {σ τ : Store} {p : BP} {N N' : List Node} {W W' D D' : List Int}
structure BNe (p : BP) : Prop where
  b : p.b ≠ p.nn ∧ p.b ≠ p.tt ∧ p.b ≠ p.ww ∧ p.b ≠ p.dd
  dx : p.dx ≠ p.nn ∧ p.dx ≠ p.tt ∧ p.dx ≠ p.ww ∧ p.dx ≠ p.dd
  nn : p.nn ≠ p.tt ∧ p.nn ≠ p.ww ∧ p.nn ≠ p.dd
  tt : p.tt ≠ p.ww ∧ p.tt ≠ p.dd
  ww : p.ww ≠ p.dd
theorem bne (h : [p.b, p.dx, p.nn, p.tt, p.ww, p.dd].Nodup) : BNe p := by
  simp only [List.nodup_cons, List.mem_cons, List.not_mem_nil, or_false, not_or, List.nodup_nil, and_true, not_false_eq_true] at h
  obtain ⟨⟨h1, h2, h3, h4, h5⟩, ⟨h6, h7, h8, h9⟩, ⟨ha, hb, hc⟩, ⟨hd, he⟩, hf⟩ := h
  exact ⟨⟨h2, h3, h4, h5⟩, ⟨h6, h7, h8, h9⟩, ⟨ha, hb, hc⟩, ⟨hd, he⟩, hf⟩
theorem bset_ne {a : Addr} (h1 : a ≠ p.nn) (h2 : a ≠ p.tt) (h3 : a ≠ p.ww) (h4 : a ≠ p.dd) : bset σ p N W D a = σ a := by
  unfold bset; rw [set_ne h4, set_ne h3, set_ne h2, set_ne h1]
theorem Bk.ne (B : Bk X σ p N W D) : BNe p := bne B.nd
theorem Bk.le (B : Bk X σ p N W D) (l : σ.le τ) : Bk X τ p N W D := ⟨B.at'.le l, l _ _ B.nn, l _ _ B.tt, l _ _ B.ww, l _ _ B.dd, B.nd⟩
theorem Bk.same (B : Bk X σ p N W D) : bset σ p N W D = σ := by
  unfold bset
  rw [set_same B.nn, set_same B.tt, set_same B.ww, set_same B.dd]
theorem BankAt.bset (h : BankAt X σ p) (n : BNe p) : BankAt X (bset σ p N W D) p := by
  obtain ⟨t1, t2, t3, t4, m, ⟨sl, h1⟩, h2⟩ := h
  exact ⟨t1, t2, t3, t4, m, ⟨sl, by rw [bset_ne n.b.1 n.b.2.1 n.b.2.2.1 n.b.2.2.2]; exact h1⟩, by rw [bset_ne n.dx.1 n.dx.2.1 n.dx.2.2.1 n.dx.2.2.2]; exact h2⟩
theorem Bk.mk' (h : BankAt X σ p) (nd : [p.b, p.dx, p.nn, p.tt, p.ww, p.dd].Nodup) : Bk X (Mine.bset σ p N W D) p N W D := by
  have n := bne nd
  refine ⟨h.bset n, ?_, ?_, ?_, set_self .., nd⟩
  · unfold Mine.bset; rw [set_ne n.nn.2.2, set_ne n.nn.2.1, set_ne n.nn.1]; exact set_self ..
  · unfold Mine.bset; rw [set_ne n.tt.2, set_ne n.tt.1]; exact set_self ..
  · unfold Mine.bset; rw [set_ne n.ww]; exact set_self ..
theorem Bk.bset (B : Bk X σ p N W D) : Bk X (Mine.bset σ p N' W' D') p N' W' D' := .mk' B.at' B.nd
theorem set4 {σ : Store} {a b c d : Addr} {o1 o2 o3 o4 q1 q2 q3 q4 : AO} : ((((((((σ.set a o1).set b o2).set c o3).set d o4).set a q1).set b q2).set c q3).set d q4) = (((σ.set a q1).set b q2).set c q3).set d q4 := by
  funext x
  unfold Store.set
  repeat' split
  all_goals rfl
theorem bset_bset : Mine.bset (Mine.bset σ p N W D) p N' W' D' = Mine.bset σ p N' W' D' := set4
theorem bset_le (l : σ.le τ) : (Mine.bset σ p N W D).le (Mine.bset τ p N W D) := le_set_set (le_set_set (le_set_set (le_set_set l)))
/-- τ is σ with the bank turned, and more -/
structure Turned (X : Cx) (σ : Store) (p : BP) (N : List Node) (W D : List Int) (τ : Store) : Prop where
  B : Bk X τ p N W D
  l : (Mine.bset σ p N W D).le τ
theorem Turned.start (B : Bk X σ p N W D) (l : σ.le τ) : Turned X σ p N W D τ := ⟨B.le l, by rw [B.same]; exact l⟩
theorem bset_le2 (l : (Mine.bset σ p N W D).le τ) : (Mine.bset σ p N' W' D').le (Mine.bset τ p N' W' D') := by
  have := bset_le (p := p) (N := N') (W := W') (D := D') l
  rw [bset_bset] at this; exact this
theorem Turned.turn (T : Turned X σ p N W D τ) : Turned X σ p N' W' D' (Mine.bset τ p N' W' D') := ⟨T.B.bset, bset_le2 T.l⟩
theorem Turned.on {υ : Store} (T : Turned X σ p N W D τ) (U : Turned X τ p N' W' D' υ) : Turned X σ p N' W' D' υ := ⟨U.B, (bset_le2 T.l).trans U.l⟩
theorem Turned.more {υ : Store} (T : Turned X σ p N W D τ) (l : τ.le υ) : Turned X σ p N W D υ := ⟨T.B.le l, T.l.trans l⟩
theorem Turned.at {a : Addr} {o : AO} (T : Turned X σ p N W D τ) (h1 : a ≠ p.nn) (h2 : a ≠ p.tt) (h3 : a ≠ p.ww) (h4 : a ≠ p.dd) (e : σ a = some o) : τ a = some o := T.l a o (by rw [bset_ne h1 h2 h3 h4]; exact e)
end
section
variable {X : Cx} {A : Around} {σ : Store} {Q : AV → Store → Prop} {Es : Store → Prop}
theorem EXC.low {φ : Store} {e : Value} {s : Shared} (h : EXC X A (fun σ₁ => ∃ σ₂, σ₂.le σ₁ ∧ Es σ₂) φ e s) : EXC X A Es φ e s := by
  obtain ⟨a, σ', e1, x, f, σ₂, l, q⟩ := h
  exact ⟨a, σ₂, e1, x.drop l, f.le (join_le l x.apart), q⟩
theorem WC.low2 {f : Value} {Vs : List AV} (h : WC X A f Vs σ (fun V σ₁ => ∃ σ₂, σ₂.le σ₁ ∧ Q V σ₂) (fun σ₁ => ∃ σ₂, σ₂.le σ₁ ∧ Es σ₂)) : WC X A f Vs σ Q Es :=
  WC.lower fun φ s vs x hv => wpAny_mono (h φ s vs x hv) (fun _ _ q => q) (fun _ _ q => q.low)
end
end
section
noncomputable def wOf (W : List Int) (ks : List Int) : Int := 1 + (ks.map fun k : Int => W.getD k.toNat 0).sum
noncomputable def dOf (D : List Int) (ks : List Int) : Int := 1 + maxZ (ks.map fun k : Int => D.getD k.toNat 0)
theorem get_getD {W : List Int} {i : Nat} (h : i < W.length) : (W.map AV.int)[i]? = some (.int (W.getD i 0)) := by
  rw [List.getElem?_map, List.getElem?_eq_getElem h, List.getD_eq_getElem?_getD, List.getElem?_eq_getElem h]; rfl
theorem small_int : ∀ k : Int, -1 ≤ k → k ≤ 100 → k.natAbs.log2 < 1920 ∧ (Str.ofString (toString k)).length ≤ 5000 := by
  have h : ∀ n : Fin 102, ((n.val : Int) - 1).natAbs.log2 < 1920 ∧ (Str.ofString (toString ((n.val : Int) - 1))).length ≤ 5000 := by decide +kernel
  intro k h0 h1
  have := h ⟨(k + 1).toNat, by omega⟩
  rw [show (((k + 1).toNat : Nat) : Int) - 1 = k by omega] at this
  exact this
theorem BankAt.set {X : Cx} {σ : Store} {p : BP} {a : Addr} {o : AO} (h : BankAt X σ p) (h1 : p.b ≠ a) (h2 : p.dx ≠ a) : BankAt X (σ.set a o) p := by
  obtain ⟨t1, t2, t3, t4, m, ⟨sl, e1⟩, e2⟩ := h
  exact ⟨t1, t2, t3, t4, m, ⟨sl, by rw [set_ne h1]; exact e1⟩, by rw [set_ne h2]; exact e2⟩
section
variable {X : Cx} {A : Around} {σ : Store} {p : BP} {N : List Node} {W D : List Int} {Q : AV → Store → Prop} {Es : Store → Prop}
theorem take_spec (P : Pk X) (r : Room A 5) (BK : Bk X σ p N W D) {op : Str} {ks : List Int} {kV : AV} (hop : okOp op) (hks : ks.length ≤ 2) (hkb : ∀ k ∈ ks, (0 ≤ k ∧ k < N.length) ∨ (-1 ≤ k ∧ k ≤ 100)) (hN : N.length ≤ 5000) (hW : W.length = N.length) (hD : D.length = N.length)
    (hkV : kV = .tup (ks.map AV.int) ∨ ∃ b, kV = .ref b ∧ σ b = some (.list (ks.map AV.int)))
    (hold : ∀ i : Nat, N[i]? = some (op, ks) → Q (.int i) σ)
    (hbad : (op, ks) ∉ N → (isGood op = false ∨ ∃ k ∈ ks, ¬ (0 ≤ k ∧ k < N.length)) → Es σ)
    (hnew : (op, ks) ∉ N → isGood op = true → (∀ k ∈ ks, 0 ≤ k ∧ k < N.length) → Q (.int N.length) (bset σ p (N ++ [(op, ks)]) (W ++ [wOf W ks]) (D ++ [dOf D ks]))) :
    WC X A (.ref 98) [.ref p.b, .str op, kV] σ Q Es := by
  refine WC.low2 ?_
  refine WC_p P (ns := ["self", "op", "kids"]) rfl rfl (codeRec_of P.K (by rfl)) rfl rfl r.d ?_ (by decide +kernel) (by decide +kernel) ?_
  · exact all3 fun a b c => rfl
  intro L hL
  show ESs _ _ _ [("op", .str op), ("kids", kV)] _ (σ.set (L + 1) (.cell (some (.ref p.b)))) _ _
  generalize he : callEnvC _ L 98 = env
  have hr : Here (A.deeper env) env := here_of he r.frm
  have hE := EnvIs.of he rfl rfl rfl
  have r' : Room (A.deeper env) (4) := r.deeper
  generalize A.deeper env = B at *
  have e1 : σ (L + 1) = none := (hL.mono (Nat.le_succ L)).none
  have l0 := le_new (o := .cell (some (.ref p.b))) e1
  have T0 := Turned.start BK l0
  have c1 : (σ.set (L + 1) (.cell (some (.ref p.b)))) (L + 1) = _ := set_self ..
  have htup : WC X B (.type "tuple") [kV] (σ.set (L + 1) (.cell (some (.ref p.b)))) (fun V σ' => V = .tup (ks.map AV.int) ∧ σ' = (σ.set (L + 1) (.cell (some (.ref p.b))))) (fun σ₁ => ∃ σ₂ : Store, σ₂.le σ₁ ∧ Es σ₂) := by
    rcases hkV with rfl | ⟨b, rfl, hb⟩
    · exact WC_tuple_tup ⟨rfl, rfl⟩
    · exact WC_tuple_list (l0 _ _ hb) (by simp; omega) ⟨rfl, rfl⟩
  generalize σ.set (L + 1) (.cell (some (.ref p.b))) = τ at *
  have B0 := T0.B
  walk_at "m.run"
  refine ⟨rfl, ?_⟩
  walk_at "m.run"
  refine htup.mono ?_ (fun _ q => q)
  rintro V τ ⟨rfl, rfl⟩
  refine op_add_tup (by simp; omega) ?_
  rw [show [AV.str op] ++ ks.map AV.int = (keyOf (op, ks)).map keyAV from AV.tup.inj (key_node (op, ks)).symm]
  walk_at "m.run"
  refine ⟨_, get_numbers P B0.at', ?_⟩
  refine op_in_t (r'.u (by decide)) B0.tt ?_
  refine truthy_bool ?_
  rcases tabOf_look (op, ks) N with ⟨i, hi, hlk⟩ | ⟨hni, hlk⟩
  · rw [hlk, Option.isSome_some, if_pos rfl]
    walk_at "m.run"
    refine ⟨_, get_numbers P B0.at', ?_⟩
    walk_at "m.run"
    exact it_t (r'.u (by decide)) B0.tt hlk ⟨_, l0, hold i hi⟩
  rw [hlk, Option.isSome_none, if_neg (by decide)]
  walk_at "m.run"
  ((with_reducible refine ES_Expr ?_ ?_ ?_); rotate_left; (first | rfl | (subst_vars; rfl)); (first | rfl | (subst_vars; rfl)))
  refine EV_meth_fn (f := 105) (P.K 105 _ rfl) rfl rfl (by decide) rfl rfl ?_
  walk_at "m.run"
  refine ⟨meth_require P B0.at', ?_⟩
  walk_at "m.run"
  refine require_spec P r' hop.1 (Nat.le_trans hop.2 (by decide)) (fun hg => ?_) (fun hg => ⟨_, l0, hbad hni (.inl hg)⟩)
  refine ⟨fun a q => (by cases q), ?_⟩
  with_reducible refine ESs_cons ?_
  refine ES_For (plain := true) .name hr ?_
  walk_at "m.run"
  refine ⟨_, _, key_node (op, ks), by simp; omega, ?_⟩
  refine ⟨τ, _, _, fun i ρ' τ' => look ρ' "node" = some (.tup ((keyOf (op, ks)).map keyAV)) ∧ τ' = τ ∧ ∀ k ∈ ks.take i, 0 ≤ k ∧ k < N.length, its_tup r'.han, ⟨rfl, rfl, fun _ h => (by cases h)⟩, fun _ _ _ _ => trivial, ?_, ?_⟩
  · rintro i ρ' τ' V hV ⟨hρ, rfl, hi⟩
    rw [List.getElem?_map] at hV
    obtain ⟨k, hk, rfl⟩ := Option.map_eq_some_iff.mp hV
    have hkm := List.mem_of_getElem? hk
    refine assign_name ?_
    walk_at "m.s"
    have k1 := look_put_ne (m := "kid") (V := .int k) hρ
    have k2 := look_put ρ' "kid" (.int k)
    generalize put "kid" (.int k) ρ' = ρ2 at *
    with_reducible refine ESs_cons ?_
    with_reducible refine ES_If ?_
    with_reducible refine EB_Not ?_
    with_reducible refine EB_Compare2 ?_ ?_
    rotate_left
    · with_unfolding_all rfl
    walk_at "m.run"
    have hEr : ¬ (0 ≤ k ∧ k < N.length) → ∃ σ₂ : Store, σ₂.le τ' ∧ Es σ₂ := fun hn => ⟨_, l0, hbad hni (.inr ⟨k, hkm, hn⟩)⟩
    by_cases h0 : 0 ≤ k
    · refine pos_ (by simpa using h0) ?_
      walk_at "m.run"
      refine ⟨_, get_nodes P B0.at', ?_⟩
      walk_at "m.run"
      refine WC_len B0.nn (by simp; omega) ?_
      walk_at "m.run"
      rw [List.length_map]
      by_cases h1 : k < N.length
      · rw [decide_eq_true h1, Bool.not_true, if_neg (by decide)]
        walk_at "m.run"
        refine ⟨k1, rfl, fun q hq => ?_⟩
        rw [take_succ_get hk] at hq
        rcases List.mem_append.mp hq with hq | hq
        · exact hi q hq
        · rw [List.mem_singleton.mp hq]; exact ⟨h0, h1⟩
      · have hs : -1 ≤ k ∧ k ≤ 100 := by
          rcases hkb k hkm with h | h
          · exact absurd h.2 h1
          · exact h
        rw [decide_eq_false h1, Bool.not_false, if_pos rfl]
        with_reducible refine ESs_cons ?_
        refine ES_fault P (r'.le (by decide)) hE (by rfl) rfl (hEr fun h => h1 h.2) ?_
        with_reducible refine EV_Joined2 ?_
        with_reducible refine EV_str ?_
        refine ⟨_, rfl, by decide, ?_⟩
        with_reducible refine EV_FmtInt ?_
        walk_at "m.s"
        exact ⟨k, rfl, (small_int k hs.1 hs.2).1, _, rfl, (small_int k hs.1 hs.2).2, fun _ => rfl⟩
    · refine neg_ (by simpa using h0) ?_
      have hs : -1 ≤ k ∧ k ≤ 100 := by
        rcases hkb k hkm with h | h
        · exact absurd h.1 h0
        · exact h
      rw [Bool.not_false, if_pos rfl]
      with_reducible refine ESs_cons ?_
      refine ES_fault P (r'.le (by decide)) hE (by rfl) rfl (hEr fun h => h0 h.1) ?_
      with_reducible refine EV_Joined2 ?_
      with_reducible refine EV_str ?_
      refine ⟨_, rfl, by decide, ?_⟩
      with_reducible refine EV_FmtInt ?_
      walk_at "m.s"
      exact ⟨k, rfl, (small_int k hs.1 hs.2).1, _, rfl, (small_int k hs.1 hs.2).2, fun _ => rfl⟩
  · rintro ρ' τ' ⟨hρ, rfl, hi⟩
    have hr2 : ∀ k ∈ ks, 0 ≤ k ∧ k < N.length := fun k hk => hi k (by rw [List.length_map, List.take_length]; exact hk)
    have hnew := hnew hni hg hr2
    with_reducible refine ESs_cons ?_
    walk_at "m.s"
    walk_at "m.run"
    refine ⟨_, get_nodes P B0.at', ?_⟩
    walk_at "m.run"
    refine WC_len B0.nn (by simp; omega) ?_
    walk_at "m.run"
    refine ⟨_, get_numbers P B0.at', ?_⟩
    walk_at "m.run"
    refine set_t (r'.u (by decide)) B0.tt (by rw [tabOf, tabFrom_len]; omega) hlk ?_
    rw [List.length_map, ← tabOf_snoc]
    have ne := BK.ne
    have n1 : ∀ {a o}, σ a = some o → L + 1 ≠ a := fun e q => by rw [← q, e1] at e; cases e
    have l1 := le_set_set (a := p.tt) (o := .tdict (tabOf (N ++ [(op, ks)]))) l0
    have b1 := B0.at'.set (o := .tdict (tabOf (N ++ [(op, ks)]))) ne.b.2.1 ne.dx.2.1
    have c1' : (τ'.set p.tt (.tdict (tabOf (N ++ [(op, ks)])))) (L + 1) = some (.cell (some (.ref p.b))) := by rw [set_ne (n1 BK.tt)]; exact c1
    have hnn : (τ'.set p.tt (.tdict (tabOf (N ++ [(op, ks)])))) p.nn = some (.list (N.map nodeAV)) := by rw [set_ne ne.nn.1]; exact B0.nn
    have hww : (τ'.set p.tt (.tdict (tabOf (N ++ [(op, ks)])))) p.ww = some (.list (W.map AV.int)) := by rw [set_ne (Ne.symm ne.tt.1)]; exact B0.ww
    have hdd : (τ'.set p.tt (.tdict (tabOf (N ++ [(op, ks)])))) p.dd = some (.list (D.map AV.int)) := by rw [set_ne (Ne.symm ne.tt.2)]; exact B0.dd
    generalize τ'.set p.tt (.tdict (tabOf (N ++ [(op, ks)]))) = τ1 at *
    show ESs _ _ _ _ _ τ1 _ _
    with_reducible refine ESs_cons ?_
    ((with_reducible refine ES_Expr ?_ ?_ ?_); rotate_left; (first | rfl | (subst_vars; rfl)); (first | rfl | (subst_vars; rfl)))
    ((with_reducible refine EV_meth_bi (id := "list.append") ?_ ?_ ?_ ?_ ?_); rfl; decide; rfl; rfl)
    walk_at "m.run"
    refine ⟨_, get_nodes P b1, ?_⟩
    refine ⟨GetM_append hnn, ?_⟩
    walk_at "m.run"
    refine WC_append hnn (by simp; omega) ⟨fun a q => (by cases q), ?_⟩
    rw [show List.map nodeAV N ++ [AV.tup (List.map keyAV (keyOf (op, ks)))] = (N ++ [(op, ks)]).map nodeAV by rw [List.map_append, key_node]; rfl]
    have l2 := le_set_set (a := p.nn) (o := .list ((N ++ [(op, ks)]).map nodeAV)) l1
    have b2 := b1.set (o := .list ((N ++ [(op, ks)]).map nodeAV)) ne.b.1 ne.dx.1
    have c2 : (τ1.set p.nn (.list ((N ++ [(op, ks)]).map nodeAV))) (L + 1) = some (.cell (some (.ref p.b))) := by rw [set_ne (n1 BK.nn)]; exact c1'
    have hww2 : (τ1.set p.nn (.list ((N ++ [(op, ks)]).map nodeAV))) p.ww = some (.list (W.map AV.int)) := by rw [set_ne (Ne.symm ne.nn.2.1)]; exact hww
    have hdd2 : (τ1.set p.nn (.list ((N ++ [(op, ks)]).map nodeAV))) p.dd = some (.list (D.map AV.int)) := by rw [set_ne (Ne.symm ne.nn.2.2)]; exact hdd
    have hnn2 : (τ1.set p.nn (.list ((N ++ [(op, ks)]).map nodeAV))) p.nn = _ := set_self ..
    clear hww hdd hnn b1 c1' l1
    generalize τ1.set p.nn (.list ((N ++ [(op, ks)]).map nodeAV)) = τ2 at *
    walk_at "m.run"
    ((with_reducible refine ES_Expr ?_ ?_ ?_); rotate_left; (first | rfl | (subst_vars; rfl)); (first | rfl | (subst_vars; rfl)))
    ((with_reducible refine EV_meth_bi (id := "list.append") ?_ ?_ ?_ ?_ ?_); rfl; decide; rfl; rfl)
    walk_at "m.run"
    refine ⟨_, get_weights P b2, ?_⟩
    refine ⟨GetM_append hww2, ?_⟩
    walk_at "m.run"
    refine ⟨_, _, key_node (op, ks), by simp; omega, ?_⟩
    refine ⟨τ2, _, _, fun i acc τ' => τ' = τ2 ∧ acc = ((ks.take i).map fun k : Int => W.getD k.toNat 0).map AV.int, its_tup r'.han, by simp; omega, ⟨rfl, rfl⟩, fun _ _ _ _ => trivial, ?_, ?_⟩
    · rintro C i acc τ' V hV ⟨rfl, rfl⟩ hC
      rw [List.getElem?_map] at hV
      obtain ⟨k, hk, rfl⟩ := Option.map_eq_some_iff.mp hV
      have hkr := hr2 k (List.mem_of_getElem? hk)
      generalize hce : compEnvC _ _ C env = cenv
      have hcE := EnvIs.comp hce hE rfl
      clear hce
      refine ETs_nil ?_
      refine pos_ rfl ?_
      walk_at "m.run"
      refine ⟨_, get_weights P b2, ?_⟩
      walk_at "m.run"
      refine it_list hww2 hkr.1 (by omega) (get_getD (by omega)) ⟨rfl, ?_⟩
      rw [take_succ_get hk, List.map_append, List.map_append]; rfl
    rintro acc τ' D1 ⟨rfl, rfl⟩ hD1
    rw [List.length_map, List.take_length]
    walk_at "m.run"
    refine WC_sum r'.han (set_self ..) ?_
    walk_at "m.run"
    have hww3 := le_new (o := .list ((ks.map fun k : Int => W.getD k.toNat 0).map AV.int)) hD1 _ _ hww2
    have hdd3 := le_new (o := .list ((ks.map fun k : Int => W.getD k.toNat 0).map AV.int)) hD1 _ _ hdd2
    have hnn3 := le_new (o := .list ((ks.map fun k : Int => W.getD k.toNat 0).map AV.int)) hD1 _ _ hnn2
    have c3 := le_new (o := .list ((ks.map fun k : Int => W.getD k.toNat 0).map AV.int)) hD1 _ _ c2
    have b3 := b2.le (le_new (o := .list ((ks.map fun k : Int => W.getD k.toNat 0).map AV.int)) hD1)
    have l3 := l2.trans (le_new (o := .list ((ks.map fun k : Int => W.getD k.toNat 0).map AV.int)) hD1)
    clear hww2 hdd2 hnn2 c2 b2 l2
    generalize τ'.set D1 (.list ((ks.map fun k : Int => W.getD k.toNat 0).map AV.int)) = τ3 at *
    refine WC_append hww3 (by simp; omega) ⟨fun a q => (by cases q), ?_⟩
    rw [show List.map AV.int W ++ [AV.int (1 + (ks.map fun k : Int => W.getD k.toNat 0).sum)] = (W ++ [wOf W ks]).map AV.int by rw [List.map_append]; rfl]
    have l4 := le_set_set (a := p.ww) (o := .list ((W ++ [wOf W ks]).map AV.int)) l3
    have b4 := b3.set (o := .list ((W ++ [wOf W ks]).map AV.int)) ne.b.2.2.1 ne.dx.2.2.1
    have c4 : (τ3.set p.ww (.list ((W ++ [wOf W ks]).map AV.int))) (L + 1) = some (.cell (some (.ref p.b))) := by rw [set_ne (n1 BK.ww)]; exact c3
    have hdd4 : (τ3.set p.ww (.list ((W ++ [wOf W ks]).map AV.int))) p.dd = some (.list (D.map AV.int)) := by rw [set_ne (Ne.symm ne.ww)]; exact hdd3
    have hnn4 : (τ3.set p.ww (.list ((W ++ [wOf W ks]).map AV.int))) p.nn = some (.list ((N ++ [(op, ks)]).map nodeAV)) := by rw [set_ne ne.nn.2.1]; exact hnn3
    clear hww3 hdd3 hnn3 c3 b3 l3
    generalize τ3.set p.ww (.list ((W ++ [wOf W ks]).map AV.int)) = τ4 at *
    walk_at "m.run"
    ((with_reducible refine ES_Expr ?_ ?_ ?_); rotate_left; (first | rfl | (subst_vars; rfl)); (first | rfl | (subst_vars; rfl)))
    ((with_reducible refine EV_meth_bi (id := "list.append") ?_ ?_ ?_ ?_ ?_); rfl; decide; rfl; rfl)
    walk_at "m.run"
    refine ⟨_, get_depths P b4, ?_⟩
    refine ⟨GetM_append hdd4, ?_⟩
    walk_at "m.run"
    refine ⟨_, _, key_node (op, ks), by simp; omega, ?_⟩
    refine ⟨τ4, _, _, fun i acc τ' => τ' = τ4 ∧ acc = ((ks.take i).map fun k : Int => D.getD k.toNat 0).map AV.int, its_tup r'.han, by simp; omega, ⟨rfl, rfl⟩, fun _ _ _ _ => trivial, ?_, ?_⟩
    · rintro C i acc τ' V hV ⟨rfl, rfl⟩ hC
      rw [List.getElem?_map] at hV
      obtain ⟨k, hk, rfl⟩ := Option.map_eq_some_iff.mp hV
      have hkr := hr2 k (List.mem_of_getElem? hk)
      generalize hce : compEnvC _ _ C env = cenv
      have hcE := EnvIs.comp hce hE rfl
      clear hce
      refine ETs_nil ?_
      refine pos_ rfl ?_
      walk_at "m.run"
      refine ⟨_, get_depths P b4, ?_⟩
      walk_at "m.run"
      refine it_list hdd4 hkr.1 (by omega) (get_getD (by omega)) ⟨rfl, ?_⟩
      rw [take_succ_get hk, List.map_append, List.map_append]; rfl
    rintro acc τ' D1 ⟨rfl, rfl⟩ hD1
    rw [List.length_map, List.take_length]
    have hdd5 := le_new (o := .list ((ks.map fun k : Int => D.getD k.toNat 0).map AV.int)) hD1 _ _ hdd4
    have hnn5 := le_new (o := .list ((ks.map fun k : Int => D.getD k.toNat 0).map AV.int)) hD1 _ _ hnn4
    have c5 := le_new (o := .list ((ks.map fun k : Int => D.getD k.toNat 0).map AV.int)) hD1 _ _ c4
    have b5 := b4.le (le_new (o := .list ((ks.map fun k : Int => D.getD k.toNat 0).map AV.int)) hD1)
    have l5 := l4.trans (le_new (o := .list ((ks.map fun k : Int => D.getD k.toNat 0).map AV.int)) hD1)
    have hD1' : (τ'.set D1 (.list ((ks.map fun k : Int => D.getD k.toNat 0).map AV.int))) D1 = _ := set_self ..
    clear hdd4 hnn4 c4 b4 l4
    generalize τ'.set D1 (.list ((ks.map fun k : Int => D.getD k.toNat 0).map AV.int)) = τ5 at *
    walk_at "m.run"
    refine ⟨rfl, fun a ha _ => ?_⟩
    refine op_add_list ((le_set ha) _ _ hD1') (set_self ..) (by simp; omega) fun D2 hD2 => ?_
    rw [show List.map AV.int (ks.map fun k : Int => D.getD k.toNat 0) ++ [AV.int 0] = ((ks.map fun k : Int => D.getD k.toNat 0) ++ [0]).map AV.int by rw [List.map_append]; rfl]
    walk_at "m.run"
    refine WC_max (ns := (ks.map fun k : Int => D.getD k.toNat 0) ++ [0]) r'.han (by simp) (set_self ..) fun M hM hle => ?_
    walk_at "m.run"
    have hM' : 1 + M = dOf D ks := by
      rw [maxZ_eq (ks.map fun k : Int => D.getD k.toNat 0) M (by simpa [or_comm] using hM) (fun a ha => hle a (by simpa [or_comm] using ha))]; rfl
    rw [hM']
    have l6 := (le_set (o := .list [.int 0]) ha).trans (le_new (o := .list (((ks.map fun k : Int => D.getD k.toNat 0) ++ [0]).map AV.int)) hD2)
    have hdd6 := l6 _ _ hdd5
    have hnn6 := l6 _ _ hnn5
    have c6 := l6 _ _ c5
    have b6 := b5.le l6
    have l7 := l5.trans l6
    generalize (τ5.set a (.list [.int 0])).set D2 (.list (((ks.map fun k : Int => D.getD k.toNat 0) ++ [0]).map AV.int)) = τ6 at *
    refine WC_append hdd6 (by simp; omega) ⟨fun a q => (by cases q), ?_⟩
    rw [show List.map AV.int D ++ [AV.int (dOf D ks)] = (D ++ [dOf D ks]).map AV.int by rw [List.map_append]; rfl]
    have l8 := le_set_set (a := p.dd) (o := .list ((D ++ [dOf D ks]).map AV.int)) l7
    have b8 := b6.set (o := .list ((D ++ [dOf D ks]).map AV.int)) ne.b.2.2.2 ne.dx.2.2.2
    have c8 : (τ6.set p.dd (.list ((D ++ [dOf D ks]).map AV.int))) (L + 1) = some (.cell (some (.ref p.b))) := by rw [set_ne (n1 BK.dd)]; exact c6
    have hnn8 : (τ6.set p.dd (.list ((D ++ [dOf D ks]).map AV.int))) p.nn = some (.list ((N ++ [(op, ks)]).map nodeAV)) := by rw [set_ne ne.nn.2.2]; exact hnn6
    generalize τ6.set p.dd (.list ((D ++ [dOf D ks]).map AV.int)) = τ8 at *
    walk_at "m.run"
    refine ⟨_, get_nodes P b8, ?_⟩
    walk_at "m.run"
    refine WC_len hnn8 (by simp; omega) ?_
    walk_at "m.run"
    rw [set_swap _ (Ne.symm ne.nn.1)] at l8
    show ∃ σ₂ : Store, σ₂.le τ8 ∧ Q (.int ((((N ++ [(op, ks)]).map nodeAV).length : Int) - 1)) σ₂
    rw [show (((N ++ [(op, ks)]).map nodeAV).length : Int) - 1 = N.length by simp]
    exact ⟨bset σ p (N ++ [(op, ks)]) (W ++ [wOf W ks]) (D ++ [dOf D ks]), l8, hnew⟩
end
end
section
noncomputable def treeOf (op : Str) (ks : List Int) (M : List AV) : AV := .tup (.str op :: ks.map fun k => M.getD k.toNat .none)
/-- nodes, terms, weights and depths of a bank -/
inductive BInv : List Node → List AV → List Int → List Int → Prop
  | nil : BInv [] [] [] []
  | snoc {N M W D op ks} (h : BInv N M W D) (hk : ∀ k ∈ ks, 0 ≤ k ∧ k < (N.length : Int)) (hn : (op, ks) ∉ N) (hg : isGood op = true) (ho : okOp op) (hl : ks.length ≤ 2) :
    BInv (N ++ [(op, ks)]) (M ++ [treeOf op ks M]) (W ++ [wOf W ks]) (D ++ [dOf D ks])
theorem BInv.len {N M W D} (h : BInv N M W D) : M.length = N.length ∧ W.length = N.length ∧ D.length = N.length := by
  induction h with
  | nil => exact ⟨rfl, rfl, rfl⟩
  | snoc _ _ _ _ _ _ ih => simp [ih.1, ih.2.1, ih.2.2]
theorem getD_app {α : Type} {l r : List α} {i : Nat} {d : α} (h : i < l.length) : (l ++ r).getD i d = l.getD i d := by
  rw [List.getD_eq_getElem?_getD, List.getD_eq_getElem?_getD, List.getElem?_append_left h]
theorem map_cong {α β : Type} {f g : α → β} : ∀ {l : List α}, (∀ x ∈ l, f x = g x) → l.map f = l.map g
  | [], _ => rfl
  | x :: l, h => by rw [List.map_cons, List.map_cons, h x (.head _), map_cong fun y hy => h y (.tail _ hy)]
theorem treeOf_app {op : Str} {ks : List Int} {M R : List AV} (h : ∀ k ∈ ks, 0 ≤ k ∧ k < (M.length : Int)) : treeOf op ks (M ++ R) = treeOf op ks M := by
  unfold treeOf
  rw [map_cong fun k hk => getD_app (by have := h k hk; omega)]
theorem wOf_app {ks : List Int} {W R : List Int} (h : ∀ k ∈ ks, 0 ≤ k ∧ k < (W.length : Int)) : wOf (W ++ R) ks = wOf W ks := by
  unfold wOf
  rw [map_cong fun k hk => getD_app (by have := h k hk; omega)]
theorem dOf_app {ks : List Int} {W R : List Int} (h : ∀ k ∈ ks, 0 ≤ k ∧ k < (W.length : Int)) : dOf (W ++ R) ks = dOf W ks := by
  unfold dOf
  rw [map_cong fun k hk => getD_app (by have := h k hk; omega)]
structure NodeOk (M : List AV) (W D : List Int) (i : Nat) (op : Str) (ks : List Int) : Prop where
  k : ∀ k ∈ ks, 0 ≤ k ∧ k < (i : Int)
  M : M[i]? = some (treeOf op ks M)
  W : W[i]? = some (wOf W ks)
  D : D[i]? = some (dOf D ks)
  g : isGood op = true
  o : okOp op
  l : ks.length ≤ 2
theorem BInv.get {N M W D} (h : BInv N M W D) : ∀ {i : Nat} {op : Str} {ks : List Int}, N[i]? = some (op, ks) → NodeOk M W D i op ks := by
  induction h with
  | nil => intro i op ks e; simp at e
  | @snoc N M W D op' ks' h hk hn hg ho hl ih =>
    intro i op ks e
    obtain ⟨l1, l2, l3⟩ := h.len
    by_cases hi : i < N.length
    · rw [List.getElem?_append_left hi] at e
      have y := ih e
      have hb : ∀ k ∈ ks, 0 ≤ k ∧ k < (N.length : Int) := fun k hk => by have := y.k k hk; omega
      refine ⟨y.k, ?_, ?_, ?_, y.g, y.o, y.l⟩
      · rw [List.getElem?_append_left (by omega), y.M, treeOf_app (by rw [l1]; exact hb)]
      · rw [List.getElem?_append_left (by omega), y.W, wOf_app (by rw [l2]; exact hb)]
      · rw [List.getElem?_append_left (by omega), y.D, dOf_app (by rw [l3]; exact hb)]
    · have hi2 : i = N.length := by
        have := (List.getElem?_eq_some_iff.mp e).1
        rw [List.length_append, List.length_singleton] at this
        omega
      subst hi2
      rw [List.getElem?_append_right (Nat.le_refl _), Nat.sub_self] at e
      simp at e
      obtain ⟨rfl, rfl⟩ := e
      refine ⟨hk, ?_, ?_, ?_, hg, ho, hl⟩
      · rw [treeOf_app (by rw [l1]; exact hk), ← l1, List.getElem?_append_right (Nat.le_refl _), Nat.sub_self]; rfl
      · rw [wOf_app (by rw [l2]; exact hk), ← l2, List.getElem?_append_right (Nat.le_refl _), Nat.sub_self]; rfl
      · rw [dOf_app (by rw [l3]; exact hk), ← l3, List.getElem?_append_right (Nat.le_refl _), Nat.sub_self]; rfl
theorem nodup_snoc {α : Type} {l : List α} {x : α} (h : l.Nodup) (n : x ∉ l) : (l ++ [x]).Nodup := by
  rw [List.nodup_append]
  exact ⟨h, by simp, fun a ha b hb => by rw [List.mem_singleton.mp hb]; exact fun q => n (q ▸ ha)⟩
theorem BInv.nodup {N M W D} (h : BInv N M W D) : N.Nodup := by
  induction h with
  | nil => exact .nil
  | snoc _ _ hn _ _ _ ih => exact nodup_snoc ih hn
theorem node_at {N : List Node} {i : Nat} (h : i < N.length) : ∃ op ks, N[i]? = some (op, ks) := ⟨N[i].1, N[i].2, by rw [List.getElem?_eq_getElem h]⟩
theorem getD_some {M : List AV} {i : Nat} (h : i < M.length) : M[i]? = some (M.getD i .none) := by
  rw [List.getD_eq_getElem?_getD, List.getElem?_eq_getElem h]; rfl
/-- the terms are apart -/
theorem BInv.inj {N M W D} (h : BInv N M W D) : ∀ (i j : Nat) (V : AV), M[i]? = some V → M[j]? = some V → i = j := by
  intro i
  induction i using Nat.strongRecOn with
  | ind i ih =>
  intro j V hi hj
  obtain ⟨l1, l2, l3⟩ := h.len
  have hi' := (List.getElem?_eq_some_iff.mp hi).1
  have hj' := (List.getElem?_eq_some_iff.mp hj).1
  obtain ⟨op, ks, e⟩ := node_at (N := N) (i := i) (by omega)
  obtain ⟨oq, ls, f⟩ := node_at (N := N) (i := j) (by omega)
  have y := h.get e
  have z := h.get f
  have q : treeOf op ks M = treeOf oq ls M := by
    have a := y.M; rw [hi] at a
    have b := z.M; rw [hj] at b
    rw [← Option.some.inj a, ← Option.some.inj b]
  unfold treeOf at q
  injection q with q
  injection q with q1 q2
  injection q1 with q1
  have key : ∀ (ks ls : List Int), (∀ k ∈ ks, 0 ≤ k ∧ k < (i : Int)) → (∀ k ∈ ls, 0 ≤ k ∧ k < (j : Int)) → (ks.map fun k => M.getD k.toNat .none) = (ls.map fun k => M.getD k.toNat .none) → ks = ls := by
    intro ks
    induction ks with
    | nil => intro ls _ _ e; cases ls with | nil => rfl | cons _ _ => simp at e
    | cons k ks il =>
      intro ls h1 h2 e
      cases ls with
      | nil => simp at e
      | cons m ls =>
        rw [List.map_cons, List.map_cons] at e
        injection e with e1 e2
        have hk := h1 k (.head _)
        have hm := h2 m (.head _)
        have : k.toNat = m.toNat := ih k.toNat (by omega) m.toNat _ (getD_some (by omega)) (by rw [e1]; exact getD_some (by omega))
        rw [show k = m by omega, il ls (fun x hx => h1 x (.tail _ hx)) (fun x hx => h2 x (.tail _ hx)) e2]
  have : ks = ls := key ks ls y.k z.k q2
  subst this; subst q1
  exact (List.getElem?_inj (by omega : i < N.length) h.nodup).mp (e.trans f.symm)
/-- a node over places of its kids -/
theorem BInv.find {N M W D} (h : BInv N M W D) {op : Str} {ks : List Int} {i : Nat} (hk : ∀ k ∈ ks, 0 ≤ k ∧ k < (N.length : Int)) (e : M[i]? = some (treeOf op ks M)) : N[i]? = some (op, ks) := by
  obtain ⟨l1, l2, l3⟩ := h.len
  have hi' := (List.getElem?_eq_some_iff.mp e).1
  obtain ⟨oq, ls, f⟩ := node_at (N := N) (i := i) (by omega)
  have z := h.get f
  have q := z.M
  rw [e] at q
  have q := Option.some.inj q
  unfold treeOf at q
  injection q with q
  injection q with q1 q2
  injection q1 with q1
  have key : ∀ (ks ls : List Int), (∀ k ∈ ks, 0 ≤ k ∧ k < (N.length : Int)) → (∀ k ∈ ls, 0 ≤ k ∧ k < (N.length : Int)) → (ks.map fun k => M.getD k.toNat .none) = (ls.map fun k => M.getD k.toNat .none) → ks = ls := by
    intro ks
    induction ks with
    | nil => intro ls _ _ e; cases ls with | nil => rfl | cons _ _ => simp at e
    | cons k ks il =>
      intro ls h1 h2 e
      cases ls with
      | nil => simp at e
      | cons m ls =>
        rw [List.map_cons, List.map_cons] at e
        injection e with e1 e2
        have hk := h1 k (.head _)
        have hm := h2 m (.head _)
        have : k.toNat = m.toNat := h.inj k.toNat m.toNat _ (getD_some (by omega)) (by rw [e1]; exact getD_some (by omega))
        rw [show k = m by omega, il ls (fun x hx => h1 x (.tail _ hx)) (fun x hx => h2 x (.tail _ hx)) e2]
  rw [f, q1, key ks ls hk (fun k hk => by have := z.k k hk; omega) q2]
noncomputable def goodN : Nat → AV → Bool
  | n + 1, .tup (.str op :: kids) => isGood op && kids.all (goodN n)
  | _, _ => false
theorem foldl_pre {n : Nat} (h : ∀ M V (i : Nat) (W : AV), M[i]? = some W → (rankL n M V)[i]? = some W) : ∀ (kids : List AV) (M : List AV) (i : Nat) (W : AV), M[i]? = some W → (kids.foldl (rankL n) M)[i]? = some W
  | [], _, _, _, e => e
  | k :: kids, M, i, W, e => foldl_pre h kids (rankL n M k) i W (h M k i W e)
theorem rankL_pre : ∀ (n : Nat) (M : List AV) (V : AV) (i : Nat) (W : AV), M[i]? = some W → (rankL n M V)[i]? = some W
  | 0, M, V, i, W, e => by rw [show rankL 0 M V = M by cases V <;> rfl]; exact e
  | n + 1, M, V, i, W, e => by
    have f := foldl_pre (rankL_pre n)
    unfold rankL
    split
    · rename_i h; injection h with h; subst h
      split
      · exact f _ _ _ _ e
      · rw [List.getElem?_append_left (List.getElem?_eq_some_iff.mp (f _ _ _ _ e)).1]; exact f _ _ _ _ e
    · exact e
end
section
theorem foldl_len {m : Nat} {kids : List AV} (hk : ∀ k ∈ kids, Tre m k) (M : List AV) : ∀ i, i ≤ kids.length → ((kids.take i).foldl (rankL m) M).length ≤ M.length + i * 2 ^ m := by
  intro i hi
  induction i with
  | zero => simp
  | succ i ih =>
    have h1 := ih (by omega)
    have : kids[i]? = some kids[i] := List.getElem?_eq_getElem (by omega)
    rw [take_succ_get this, List.foldl_append]
    have := rankL_len m (M := (kids.take i).foldl (rankL m) M) (hk kids[i] (List.getElem_mem _))
    show (rankL m _ _).length ≤ _
    rw [Nat.succ_mul]
    omega
section
variable {X : Cx} {p : BP}
theorem put_all_spec (P : Pk X) : ∀ (n : Nat) {A : Around} {σ : Store} {N : List Node} {M : List AV} {W D : List Int} {V : AV} {Q : AV → Store → Prop} {Es : Store → Prop} (r : Room A (n + 5)) (BK : Bk X σ p N W D) (I : BInv N M W D) (hn : n ≤ 10) (hV : Tre n V) (hg : goodN n V = true) (hz : M.length + 2 ^ n ≤ 5000)
    (h : ∀ N' W' D' j, BInv N' (rankL n M V) W' D' → (rankL n M V)[j]? = some V → Q (.int (j : Nat)) (bset σ p N' W' D')), WC X A (.ref 117) [.ref p.b, V] σ Q Es := by
  intro n
  induction n with
  | zero => intro A σ N M W D V Q Es r BK I hn hV hg hz h; exact False.elim hV
  | succ m ih =>
    intro A σ N M W D V Q Es r BK I hn hV hg hz h
    have hdV : datB V (m + 1) = true := hV.dat
    refine ex2 hV fun op kids z1 => ?_
    refine an4 z1 fun e ho hl hk => ?_
    clear z1 hV
    subst e
    have hg' : (isGood op && kids.all (goodN m)) = true := hg
    rw [Bool.and_eq_true] at hg'
    refine WC.lower ?_
    refine WC_p P (ns := ["self", "t"]) rfl rfl (codeRec_of P.K (by rfl)) rfl rfl r.d ?_ (by decide +kernel) (by decide +kernel) ?_
    · exact all2 fun a b => rfl
    intro L hL
    show ESs _ _ _ [("t", .tup (.str op :: kids))] _ (σ.set (L + 1) (.cell (some (.ref p.b)))) _ _
    generalize he : callEnvC _ L 117 = env
    have hr : Here (A.deeper env) env := here_of he r.frm
    have hE := EnvIs.of he rfl rfl rfl
    have r' : Room (A.deeper env) (m+5) := r.deeper
    generalize A.deeper env = B at *
    have e1 : σ (L + 1) = none := (hL.mono (Nat.le_succ L)).none
    have l0 := le_new (o := .cell (some (.ref p.b))) e1
    have T0 := Turned.start BK l0
    have c1 : (σ.set (L + 1) (.cell (some (.ref p.b)))) (L + 1) = _ := set_self ..
    have n1 : ∀ {a o}, σ a = some o → L + 1 ≠ a := fun e q => by rw [← q, e1] at e; cases e
    generalize σ.set (L + 1) (.cell (some (.ref p.b))) = τ at *
    have hp : 2 ^ (m + 1) = 2 * 2 ^ m := by rw [Nat.pow_succ]; omega
    rw [hp] at hz
    with_reducible refine ESs_cons ?_
    with_reducible refine ES_Return ?_
    refine EV_meth_fn (f := 98) (P.K 98 _ rfl) rfl rfl (by decide) rfl rfl ?_
    walk_at "m.run"
    refine ⟨meth_take P T0.B.at', ?_⟩
    walk_at "m.run"
    refine it_tup (V := .str op) (Int.le_refl 0) (by decide) rfl ?_
    walk_at "m.run"
    refine ⟨_, _, rfl, by omega, ?_⟩
    refine ⟨τ, _, _, fun i acc τ' => ∃ (N' : List Node) (W' D' : List Int) (js : List Int), Turned X τ p N' W' D' τ' ∧ BInv N' ((kids.take i).foldl (rankL m) M) W' D' ∧ acc = js.map AV.int ∧ js.length = i ∧ (∀ k ∈ js, 0 ≤ k ∧ k < (N'.length : Int)) ∧ (js.map fun k => ((kids.take i).foldl (rankL m) M).getD k.toNat .none) = kids.take i,
      its_tup r'.han, by omega, ⟨N, W, D, [], .start T0.B (.refl _), I, rfl, rfl, fun _ h => (by cases h), rfl⟩, fun _ _ _ _ => trivial, ?_, ?_⟩
    · intro C i acc τ' V hV z0 hC
      refine ex4 z0 fun N' W' D' js z1 => ?_
      refine an6 z1 fun T I' e_1 hjl hjr hjm => ?_
      clear z1 z0
      subst e_1
      have hi := (List.getElem?_eq_some_iff.mp hV).1
      have hVm := List.mem_of_getElem? hV
      obtain ⟨q1, q2, q3⟩ := I'.len
      generalize hce : compEnvC _ _ C env = cenv
      have hcE := EnvIs.comp hce hE rfl
      clear hce
      refine ETs_nil ?_
      refine pos_ rfl ?_
      have c1 := T.at (n1 BK.nn) (n1 BK.tt) (n1 BK.ww) (n1 BK.dd) c1
      refine EV_meth_fn (f := 117) (P.K 117 _ rfl) rfl rfl (by decide) rfl rfl ?_
      walk_at "m.run"
      refine ⟨meth_put_all P T.B.at', ?_⟩
      walk_at "m.run"
      have hlen := foldl_len hk M i (by omega)
      have hi2 : i * 2 ^ m ≤ 2 ^ m := by
        have : i ≤ 1 := by omega
        calc i * 2 ^ m ≤ 1 * 2 ^ m := Nat.mul_le_mul_right _ this
          _ = _ := Nat.one_mul _
      refine ih (r'.le (by omega)) T.B I' (by omega) (hk V hVm) (List.all_eq_true.mp hg'.2 V hVm) (by omega) fun N2 W2 D2 j I2 hj => ?_
      have hf : (kids.take (i + 1)).foldl (rankL m) M = rankL m ((kids.take i).foldl (rankL m) M) V := by rw [take_succ_get hV, List.foldl_append]; rfl
      obtain ⟨r1, r2, r3⟩ := I2.len
      have hpre := rankL_pre m ((kids.take i).foldl (rankL m) M) V
      have hjlt := (List.getElem?_eq_some_iff.mp hj).1
      refine ⟨N2, W2, D2, js ++ [(j : Int)], T.turn, by rw [hf]; exact I2, by rw [List.map_append]; rfl, by simp [hjl], ?_, ?_⟩
      · intro k hk
        rcases List.mem_append.mp hk with hk | hk
        · have a := hjr k hk
          have b := (List.getElem?_eq_some_iff.mp (hpre k.toNat _ (getD_some (by omega)))).1
          omega
        · rw [List.mem_singleton.mp hk]; omega
      · have hcong : (js.map fun k => (rankL m ((kids.take i).foldl (rankL m) M) V).getD k.toNat .none) = kids.take i := by
          refine Eq.trans (map_cong fun k hk => ?_) hjm
          have a := hjr k hk
          rw [List.getD_eq_getElem?_getD, hpre k.toNat _ (getD_some (by omega))]; rfl
        rw [hf, take_succ_get hV, List.map_append, hcong]
        show _ ++ [(rankL m _ V).getD (j : Int).toNat .none] = _
        rw [Int.toNat_natCast, List.getD_eq_getElem?_getD, hj]; rfl
    · intro acc τ' D1 z0 hD1
      refine ex4 z0 fun N' W' D' js z1 => ?_
      refine an6 z1 fun T I' e_1 hjl hjr hjm => ?_
      clear z1 z0
      subst e_1
      rw [List.take_length] at I' hjm
      have hlen := foldl_len hk M kids.length (Nat.le_refl _)
      rw [List.take_length] at hlen
      have hl2 : kids.length * 2 ^ m ≤ 2 * 2 ^ m := Nat.mul_le_mul_right _ hl
      refine WC_tuple_list (set_self ..) (by simp; omega) ?_
      walk_at "m.run"
      obtain ⟨q1, q2, q3⟩ := I'.len
      have T' := T.more (le_new (o := .list (js.map AV.int)) hD1)
      have l1 := (T0.on T').l
      have hVt : AV.tup (.str op :: kids) = treeOf op js (kids.foldl (rankL m) M) := by unfold treeOf; rw [hjm]
      refine take_spec P (r'.le (by omega)) T'.B ho (by omega) (fun k hk => .inl (hjr k hk)) (by omega) q2 q3 (.inl rfl) ?_ ?_ ?_
      · intro i hi
        have y := (I'.get hi).M
        have hmem : hasAV (kids.foldl (rankL m) M) (.tup (.str op :: kids)) = true := (hasAV_iff hdV).mpr (List.mem_of_getElem? (i := i) (by rw [hVt]; exact y))
        rw [rankL_eq, if_pos hmem] at h
        exact ⟨_, l1, h N' W' D' i I' (by rw [hVt]; exact y)⟩
      · intro _ hb
        rcases hb with hb | ⟨k, hk, hb⟩
        · rw [hg'.1] at hb; cases hb
        · exact absurd (hjr k hk) hb
      · intro hni _ _
        have hno : ¬ hasAV (kids.foldl (rankL m) M) (.tup (.str op :: kids)) = true := by
          intro q
          obtain ⟨i, hi⟩ := List.getElem?_of_mem ((hasAV_iff hdV).mp q)
          exact hni (List.mem_of_getElem? (I'.find hjr (by rw [← hVt]; exact hi)))
        rw [rankL_eq, if_neg hno] at h
        have I2 := BInv.snoc I' hjr hni hg'.1 ho (by omega : js.length ≤ 2)
        rw [← hVt] at I2
        refine ⟨_, bset_le2 l1, h _ _ _ N'.length I2 ?_⟩
        rw [← q1, List.getElem?_append_right (Nat.le_refl _), Nat.sub_self]; rfl
end
end
section
noncomputable def headGood : AV → Bool
  | .tup (.str op :: _) => isGood op
  | _ => false
theorem subs_all : ∀ (n : Nat) {V : AV}, Tre n V → goodN n V = (subs n V).all headGood ∧ ∀ s ∈ subs n V, ∃ op kids, s = .tup (.str op :: kids) ∧ okOp op
  | m + 1, V, ⟨op, kids, e, ho, hl, hk⟩ => by
    have ih := @subs_all m
    subst e
    have : ∀ kids : List AV, (∀ k ∈ kids, Tre m k) → kids.all (goodN m) = (kids.flatMap (subs m)).all headGood ∧ ∀ s ∈ kids.flatMap (subs m), ∃ op kids, s = .tup (.str op :: kids) ∧ okOp op := by
      intro kids
      induction kids with
      | nil => intro _; exact ⟨rfl, fun s h => by cases h⟩
      | cons k kids il =>
        intro hk
        have h1 := il fun x hx => hk x (.tail _ hx)
        have h2 := ih (hk k (.head _))
        rw [List.all_cons, List.flatMap_cons, List.all_append, h1.1, h2.1]
        refine ⟨rfl, fun s hs => ?_⟩
        rcases List.mem_append.mp hs with hs | hs
        · exact h2.2 s hs
        · exact h1.2 s hs
    have h1 := this kids hk
    rw [subs_eq]
    refine ⟨?_, fun s hs => ?_⟩
    · show (isGood op && kids.all (goodN m)) = (isGood op && _)
      rw [h1.1]
    · rcases List.mem_cons.mp hs with rfl | hs
      · exact ⟨op, kids, rfl, ho⟩
      · exact h1.2 s hs
section
variable {X : Cx} {p : BP} {A : Around} {σ : Store} {N : List Node} {M : List AV} {W D : List Int} {V : AV} {Q : AV → Store → Prop} {Es : Store → Prop}
theorem put_spec (P : Pk X) (n : Nat) (r : Room A (n + 6)) (BK : Bk X σ p N W D) (I : BInv N M W D) (hn : n ≤ 10) (hV : Tre n V) (hz : M.length + 2 ^ n ≤ 5000)
    (hgood : goodN n V = true → ∀ N' W' D' j, BInv N' (rankL n M V) W' D' → (rankL n M V)[j]? = some V → Q (.int (j : Nat)) (bset σ p N' W' D'))
    (hbad : goodN n V = false → Es σ) : WC X A (.ref 112) [.ref p.b, V] σ Q Es := by
  obtain ⟨ha, hs⟩ := subs_all n hV
  have hsl := subs_len n hV
  refine WC.low2 ?_
  refine WC_p P (ns := ["self", "t"]) rfl rfl (codeRec_of P.K (by rfl)) rfl rfl r.d ?_ (by decide +kernel) (by decide +kernel) ?_
  · exact all2 fun a b => rfl
  intro L hL
  show ESs _ _ _ [("self", .ref p.b), ("t", V)] _ σ _ _
  generalize he : callEnvC _ L 112 = env
  have hr : Here (A.deeper env) env := here_of he r.frm
  have hE := EnvIs.of he rfl rfl rfl
  have r' : Room (A.deeper env) (n+5) := r.deeper
  generalize A.deeper env = B at *
  with_reducible refine ESs_cons ?_
  refine ES_For (plain := true) .tup hr ?_
  walk_at "m.run"
  refine parts_spec P n (r'.le (by omega)) hn hV fun D0 l hD0 hp => ?_
  obtain ⟨ps, rfl, hps, hpl⟩ := hp
  have hl0 := le_new (o := .list (ps.map pairAV)) hD0
  have hD1 : (σ.set D0 (.list (ps.map pairAV))) D0 = some (.list (ps.map pairAV)) := set_self ..
  generalize σ.set D0 (.list (ps.map pairAV)) = τ at *
  refine ⟨τ, _, _, fun i ρ' τ' => look ρ' "self" = some (.ref p.b) ∧ look ρ' "t" = some V ∧ τ' = τ ∧ ∀ q ∈ ps.take i, headGood q.2 = true, its_list r'.han hD1, ⟨rfl, rfl, rfl, fun _ h => (by cases h)⟩, fun _ _ _ e => by rw [e.2.2.1]; exact hD1, ?_, ?_⟩
  · intro i ρ' τ' V' hV' z0
    refine an4 z0 fun h1 h2 e_0 h3 => ?_
    clear z0
    subst e_0
    rw [List.getElem?_map] at hV'
    obtain ⟨q, hq, rfl⟩ := Option.map_eq_some_iff.mp hV'
    have hqs : q.2 ∈ subs n V := by rw [← hps]; exact List.mem_map_of_mem (List.mem_of_getElem? hq)
    obtain ⟨op, kids, hqe, hop⟩ := hs _ hqs
    refine assign_pair r'.han ?_
    walk_at "m.s"
    walk_at "m.s"
    have k1 := look_put_ne (m := "part") (V := q.2) (look_put_ne (m := "path") (V := .tup q.1) h1)
    have k2 := look_put_ne (m := "part") (V := q.2) (look_put_ne (m := "path") (V := .tup q.1) h2)
    have k4 := look_put (put "path" (.tup q.1) ρ') "part" q.2
    generalize put "part" q.2 (put "path" (.tup q.1) ρ') = ρ3 at *
    rw [hqe] at k4
    walk_at "m.run"
    ((with_reducible refine ES_Expr ?_ ?_ ?_); rotate_left; (first | rfl | (subst_vars; rfl)); (first | rfl | (subst_vars; rfl)))
    refine EV_meth_fn (f := 105) (P.K 105 _ rfl) rfl rfl (by decide) rfl rfl ?_
    walk_at "m.run"
    refine ⟨meth_require P (BK.at'.le hl0), ?_⟩
    walk_at "m.run"
    refine it_tup (V := .str op) (Int.le_refl 0) (by decide) rfl ?_
    walk_at "m.run"
    refine require_spec P (r'.le (by omega)) hop.1 (Nat.le_trans hop.2 (by decide)) (fun hg => ⟨fun a q => (by cases q), ?_⟩) (fun hg => ⟨_, hl0, hbad ?_⟩)
    · refine ESs_nil ⟨k1, k2, rfl, fun s hs => ?_⟩
      rw [take_succ_get hq] at hs
      rcases List.mem_append.mp hs with hs | hs
      · exact h3 s hs
      · rw [List.mem_singleton.mp hs, hqe]; exact hg
    · rw [ha]
      cases hb : (subs n V).all headGood with
      | false => rfl
      | true =>
        have := List.all_eq_true.mp hb _ hqs
        rw [hqe] at this
        exact absurd (this.symm.trans hg) (by decide)
  · intro ρ' τ' z0
    refine an4 z0 fun h1 h2 e_0 h3 => ?_
    clear z0
    subst e_0
    have hg : goodN n V = true := by
      rw [ha, List.all_eq_true, ← hps]
      intro s hs
      obtain ⟨q, hq, rfl⟩ := List.mem_map.mp hs
      refine h3 q ?_
      rw [List.length_map, List.take_length]; exact hq
    with_reducible refine ESs_cons ?_
    with_reducible refine ES_Return ?_
    refine EV_meth_fn (f := 117) (P.K 117 _ rfl) rfl rfl (by decide) rfl rfl ?_
    walk_at "m.run"
    refine ⟨meth_put_all P (BK.at'.le hl0), ?_⟩
    walk_at "m.run"
    exact put_all_spec P n r' (BK.le hl0) I hn hV hg hz fun N' W' D' j I' hj => ⟨_, bset_le hl0, hgood hg N' W' D' j I' hj⟩
theorem seek_spec (P : Pk X) (r : Room A 1) (BK : Bk X σ p N W D) {op : Str} {ks : List Int} (hks : ks.length ≤ 2)
    (h1 : ∀ i : Nat, N[i]? = some (op, ks) → Q (.int i) σ) (h2 : (op, ks) ∉ N → Q (.int (-1)) σ) : WC X A (.ref 171) [.ref p.b, .str op, .tup (ks.map AV.int)] σ Q Es := by
  refine WC_p P (ns := ["self", "op", "kids"]) rfl rfl (codeRec_of P.K (by rfl)) rfl rfl r.d ?_ (by decide +kernel) (by decide +kernel) ?_
  · exact all3 fun a b c => rfl
  intro L hL
  show ESs _ _ _ [("self", .ref p.b), ("op", .str op), ("kids", .tup (ks.map AV.int))] _ σ _ _
  generalize he : callEnvC _ L 171 = env
  have hr : Here (A.deeper env) env := here_of he r.frm
  have hE := EnvIs.of he rfl rfl rfl
  have r' : Room (A.deeper env) (0) := r.deeper
  generalize A.deeper env = B at *
  with_reducible refine ESs_cons ?_
  with_reducible refine ES_Return ?_
  ((with_reducible refine EV_meth_bi (id := "dict.get") ?_ ?_ ?_ ?_ ?_); rfl; decide; rfl; rfl)
  walk_at "m.run"
  refine ⟨_, get_numbers P BK.at', ?_⟩
  refine ⟨GetM_tdict BK.tt, ?_⟩
  walk_at "m.run"
  refine ⟨rfl, ?_⟩
  walk_at "m.run"
  refine WC_tuple_tup ?_
  refine op_add_tup (by simp; omega) ?_
  rw [show [AV.str op] ++ ks.map AV.int = (keyOf (op, ks)).map keyAV from AV.tup.inj (key_node (op, ks)).symm]
  walk_at "m.run"
  refine WC_get_t (r'.u (by decide)) BK.tt ?_
  rcases tabOf_look (op, ks) N with ⟨i, hi, hlk⟩ | ⟨hni, hlk⟩
  · rw [hlk]; exact h1 i hi
  · rw [hlk]; exact h2 hni
end
end
section
theorem le_upd {σ τ : Store} {a : Addr} {o : AO} (l : σ.le τ) (h : σ a = none) : σ.le (τ.set a o) := fun b p e => by
  rw [set_ne (fun q => by rw [q, h] at e; cases e)]; exact l b p e
noncomputable def kd (K : List Int) : List (Int × AV) := K.map fun k => (k, AV.bool true)
theorem lookK_map (f : Int → AV) (k : Int) : ∀ l : List Int, lookK (l.map fun k => (k, f k)) k = if k ∈ l then some (f k) else none
  | [] => rfl
  | x :: l => by
    have ih := lookK_map f k l
    unfold lookK at ih ⊢
    rw [List.map_cons, List.find?_cons]
    by_cases h : x = k
    · subst h; simp
    · rw [decide_eq_false h]
      simp only [ih, List.mem_cons, Ne.symm h, false_or]
theorem storeK_map (f : Int → AV) (k : Int) (l : List Int) (h : k ∉ l) : storeK (l.map fun k => (k, f k)) k (f k) = (l ++ [k]).map fun k => (k, f k) := by
  unfold storeK
  rw [if_neg, List.map_append]
  · rfl
  · rw [List.any_eq_true]
    rintro ⟨x, hx, e⟩
    obtain ⟨y, hy, rfl⟩ := List.mem_map.mp hx
    exact h (by have := of_decide_eq_true e; exact this ▸ hy)
theorem nodup_range : ∀ (m : Nat) (K : List Int), K.Nodup → (∀ k ∈ K, 0 ≤ k ∧ k < (m : Int)) → K.length ≤ m
  | 0, K, _, h => by
    cases K with
    | nil => exact Nat.le_refl _
    | cons x K => have := h x (.head _); omega
  | m + 1, K, hn, h => by
    by_cases q : (m : Int) ∈ K
    · have h1 := nodup_range m (K.erase (m : Int)) (hn.erase _) (fun k hk => by
        have a := (List.Nodup.mem_erase_iff hn).mp hk
        have b := h k a.2
        have := a.1
        omega)
      rw [List.length_erase_of_mem q] at h1
      omega
    · have := nodup_range m K hn (fun k hk => by
        have b := h k hk
        have : k ≠ (m : Int) := fun e => q (e ▸ hk)
        omega)
      omega
/-- what stands below n so far, and what is still to be looked at -/
structure TI (N : List Node) (n : Int) (K S : List Int) (x : Option Int) (dn : List Int) : Prop where
  nk : K.Nodup
  bd : ∀ k ∈ K, 0 ≤ k ∧ k ≤ n
  nm : n ∈ K
  ss : ∀ k ∈ S, k ∈ K
  cl : ∀ k ∈ K, k ∉ S → some k ≠ x → ∀ op ks, N[k.toNat]? = some (op, ks) → ∀ j ∈ ks, j ∈ K
  dn : ∀ j ∈ dn, j ∈ K
theorem TI.len {N n K S x dn} (h : TI N n K S x dn) : K.length ≤ n.toNat + 1 := nodup_range _ K h.nk fun k hk => by have := h.bd k hk; omega
theorem TI.pop {N n K S x} (h : TI N n K (S ++ [x]) none []) : TI N n K S (some x) [] ∧ x ∈ K :=
  ⟨⟨h.nk, h.bd, h.nm, fun k hk => h.ss k (List.mem_append_left _ hk), fun k hk hs hx op ks e => h.cl k hk (fun q => by
    rcases List.mem_append.mp q with q | q
    · exact hs q
    · exact hx (by rw [List.mem_singleton.mp q])) (by simp) op ks e, fun _ h => by cases h⟩, h.ss x (by simp)⟩
theorem TI.old {N n K S x dn j} (h : TI N n K S x dn) (hj : j ∈ K) : TI N n K S x (dn ++ [j]) :=
  ⟨h.nk, h.bd, h.nm, h.ss, h.cl, fun k hk => by
    rcases List.mem_append.mp hk with hk | hk
    · exact h.dn k hk
    · rw [List.mem_singleton.mp hk]; exact hj⟩
theorem TI.new {N n K S x dn j} (h : TI N n K S x dn) (hj : j ∉ K) (hb : 0 ≤ j ∧ j ≤ n) : TI N n (K ++ [j]) (S ++ [j]) x (dn ++ [j]) :=
  ⟨nodup_snoc h.nk hj, fun k hk => by
    rcases List.mem_append.mp hk with hk | hk
    · exact h.bd k hk
    · rw [List.mem_singleton.mp hk]; exact hb, List.mem_append_left _ h.nm, fun k hk => by
    rcases List.mem_append.mp hk with hk | hk
    · exact List.mem_append_left _ (h.ss k hk)
    · exact List.mem_append_right _ hk, fun k hk hs hx op ks e i hi => by
    rcases List.mem_append.mp hk with hk | hk
    · exact List.mem_append_left _ (h.cl k hk (fun q => hs (List.mem_append_left _ q)) hx op ks e i hi)
    · exact absurd (List.mem_append_right _ hk) hs, fun k hk => by
    rcases List.mem_append.mp hk with hk | hk
    · exact List.mem_append_left _ (h.dn k hk)
    · exact List.mem_append_right _ hk⟩
theorem TI.close {N n K S x op ks} (h : TI N n K S (some x) ks) (e : N[x.toNat]? = some (op, ks)) : TI N n K S none [] :=
  ⟨h.nk, h.bd, h.nm, h.ss, fun k hk hs _ op' ks' e' j hj => by
    by_cases q : k = x
    · subst q
      rw [e] at e'
      injection e' with e'
      injection e' with _ e'
      exact h.dn j (e' ▸ hj)
    · exact h.cl k hk hs (fun r => q (Option.some.inj r)) op' ks' e' j hj, fun _ h => by cases h⟩
theorem snoc_of_ne : ∀ {S : List Int}, S ≠ [] → ∃ S0 x, S = S0 ++ [x]
  | [], h => absurd rfl h
  | [x], _ => ⟨[], x, rfl⟩
  | x :: y :: S, _ => by
    obtain ⟨S0, z, e⟩ := snoc_of_ne (S := y :: S) (by simp)
    exact ⟨x :: S0, z, by rw [e]; rfl⟩
section
variable {X : Cx} {A : Around} {env : Env} {ρ : List (Str × AV)} {σ : Store} {E : Store → Value → Shared → Prop} {Q : AV → Store → Prop}
theorem EV_DictI' {keys : List (Option Expr)} {values : List Expr} {pos : Pos} (h0 : (keys.filterMap id).zip values ≠ []) (hlen : ((keys.filterMap id).zip values).length ≤ 15)
    (hshape : (evalEachOpt keys env).zip ((evalEach values env).map fun v => do let x ← v; standAt pos; pure x) = (((keys.filterMap id).zip values).map fun p => (eval p.1 env, do let x ← eval p.2 env; standAt pos; pure x)).map fun p => (some p.1, p.2))
    (h : ∀ D, σ D = none → EVs X A env ρ (((keys.filterMap id).zip values).flatMap fun p => [p.1, p.2]) (σ.set D (.idict [])) (fun Vs σ₁ => ∃ l, Vs = (l.flatMap fun p => [.int p.1, p.2]) ∧ σ₁ D = some (.idict []) ∧ Q (.ref D) (σ₁.set D (.idict (mergeK [] l)))) E) :
    EV X A env ρ (.Dict keys values pos) σ Q E := EV_DictI _ h0 hlen hshape h
end
section
variable {X : Cx} {p : BP} {A : Around} {σ : Store} {N : List Node} {M : List AV} {W D : List Int} {Q : AV → Store → Prop} {Es : Store → Prop}
theorem term_spec (P : Pk X) (r : Room A 2) (BK : Bk X σ p N W D) (I : BInv N M W D) (hN : N.length < 64) {n : Int} (h0 : 0 ≤ n) (h1 : n < N.length) (h : Q (M.getD n.toNat .none) σ) : WC X A (.ref 150) [.ref p.b, .int n] σ Q Es := by
  refine WC.lower ?_
  refine WC_p P (ns := ["self", "n"]) rfl rfl (codeRec_of P.K (by rfl)) rfl rfl r.d ?_ (by decide +kernel) (by decide +kernel) ?_
  · exact all2 fun a b => rfl
  intro L hL
  show ESs _ _ _ [("self", .ref p.b), ("n", .int n)] _ (σ.set (L + 1) (.cell none)) _ _
  generalize he : callEnvC _ L 150 = env
  have hr : Here (A.deeper env) env := here_of he r.frm
  have hE := EnvIs.of he rfl rfl rfl
  have r' : Room (A.deeper env) (1) := r.deeper
  generalize A.deeper env = B at *
  have e1 : σ (L + 1) = none := (hL.mono (Nat.le_succ L)).none
  have l0 := le_new (o := .cell none) e1
  have c1 : (σ.set (L + 1) (.cell none)) (L + 1) = some (.cell none) := set_self ..
  generalize σ.set (L + 1) (.cell none) = τ at *
  with_reducible refine ESs_cons ?_
  refine ES_AssignX (m := "below") (n := "stack") r'.han ?_ (by rfl) (by rw [← he]; rfl)
  walk_at "m.run"
  refine EV_DictI' (by simp) (by simp) rfl fun bl hbl => ?_
  show EVs _ _ _ _ (_ :: _ :: []) _ _ _
  walk_at "m.run"
  refine ⟨[(n, .bool true)], rfl, set_self .., ?_⟩
  rw [set_set]
  walk_at "m.run"
  refine ⟨rfl, fun st hst _ => ⟨rfl, _, _, rfl, ?_⟩⟩
  have hlt : bl ≠ st := Nat.ne_of_lt (hst _ _ (set_self ..))
  have b1 : ((τ.set bl (.idict (mergeK [] [(n, .bool true)]))).set st (.list [.int n])) bl = some (.idict (kd [n])) := by rw [set_ne hlt, set_self]; rfl
  have b2 : ((τ.set bl (.idict (mergeK [] [(n, .bool true)]))).set st (.list [.int n])) st = some (.list ([n].map AV.int)) := set_self ..
  have hst0 : τ st = none := le_none (le_new hbl) hst.none
  have lt := (le_new (o := .idict (mergeK [] [(n, .bool true)])) hbl).trans (le_set (o := .list [.int n]) hst)
  have c2 := lt _ _ c1
  have hσbl : σ bl = none := le_none l0 hbl
  have hσst : σ st = none := le_none l0 hst0
  have nbl : L + 1 ≠ bl := fun q => by rw [← q, c1] at hbl; cases hbl
  have nst : L + 1 ≠ st := fun q => by rw [← q, c1] at hst0; cases hst0
  have l1 := l0.trans lt
  generalize ((τ.set bl (.idict (mergeK [] [(n, .bool true)]))).set st (.list [.int n])) = τ1 at *
  walk_at "m.run"
  have q1 := I.len.1
  refine ES_While hr (fun m ρ' τ' => look ρ' "self" = some (.ref p.b) ∧ look ρ' "n" = some (.int n) ∧ look ρ' "below" = some (.ref bl) ∧ look ρ' "stack" = some (.ref st) ∧ σ.le τ' ∧ τ' (L + 1) = some (.cell none) ∧
    ∃ K S, TI N n K S none [] ∧ τ' bl = some (.idict (kd K)) ∧ τ' st = some (.list (S.map AV.int)) ∧ m + K.length = n.toNat + 1 + S.length ∧ m ≤ n.toNat + 1) (n := n.toNat + 1)
    ⟨rfl, rfl, rfl, rfl, l1, c2, [n], [n], ⟨by simp, by simp; omega, by simp, fun _ h => h, fun k h hs => absurd h hs, fun _ h => by cases h⟩, b1, b2, rfl, Nat.le_refl _⟩ ?_
  intro m ρ' τ' z0
  refine an7 z0 fun k1 k2 k3 k4 lτ cτ z1 => ?_
  refine ex2 z1 fun K S z2 => ?_
  refine an5 z2 fun hTI hb hs hm hm2 => ?_
  clear z2 z1 z0
  have hKl := hTI.len
  walk_at "m.run"
  refine WC_len hs (by simp; omega) ?_
  walk_at "m.run"
  rw [List.length_map]
  have hkid : ∀ {x : Int}, x ∈ K → ∃ op ks, N[x.toNat]? = some (op, ks) ∧ (N.map nodeAV)[x.toNat]? = some (.tup (.str op :: ks.map AV.int)) ∧ NodeOk M W D x.toNat op ks := fun {x} hx => by
    have := hTI.bd x hx
    obtain ⟨op, ks, e⟩ := node_at (N := N) (i := x.toNat) (by omega)
    exact ⟨op, ks, e, by rw [List.getElem?_map, e]; rfl, I.get e⟩
  split
  · rename_i hpos
    have hS : S ≠ [] := fun q => by subst q; simp at hpos
    obtain ⟨S0, x, rfl⟩ := snoc_of_ne hS
    obtain ⟨hT2, hxK⟩ := hTI.pop
    refine ex2 (hkid hxK) fun op ks z1 => ?_
    refine an3 z1 fun hx1 hx2 hx3 => ?_
    clear z1
    have hxb := hTI.bd x hxK
    with_reducible refine ESs_cons ?_
    refine ES_For (plain := true) .name hr ?_
    refine EV_meth_fn (f := 138) (P.K 138 _ rfl) rfl rfl (by decide) rfl rfl ?_
    walk_at "m.run"
    refine ⟨meth_kids P (BK.at'.le lτ), ?_⟩
    walk_at "m.run"
    ((with_reducible refine EV_meth_bi (id := "list.pop") ?_ ?_ ?_ ?_ ?_); rfl; decide; rfl; rfl)
    walk_at "m.run"
    refine ⟨GetM_pop hs, ?_⟩
    walk_at "m.run"
    refine WC_pop (l := S0.map AV.int) (V := .int x) (by rw [hs, List.map_append]; rfl) (by simp at hm ⊢; omega) ?_
    have d1 := le_upd (o := .list (S0.map AV.int)) lτ hσst
    have d2 : (τ'.set st (.list (S0.map AV.int))) (L + 1) = some (.cell none) := by rw [set_ne nst]; exact cτ
    have d3 : (τ'.set st (.list (S0.map AV.int))) bl = some (.idict (kd K)) := by rw [set_ne hlt]; exact hb
    have d4 : (τ'.set st (.list (S0.map AV.int))) st = some (.list (S0.map AV.int)) := set_self ..
    generalize τ'.set st (.list (S0.map AV.int)) = τ2 at *
    walk_at "m.run"
    refine kids_spec P r'.d (BK.at'.le d1) (d1 _ _ BK.nn) hxb.1 (by omega) hx2 (by have := hx3.l; simp; omega) ?_
    refine ⟨τ2, _, _, fun i ρ' τ' => look ρ' "self" = some (.ref p.b) ∧ look ρ' "n" = some (.int n) ∧ look ρ' "below" = some (.ref bl) ∧ look ρ' "stack" = some (.ref st) ∧ σ.le τ' ∧ τ' (L + 1) = some (.cell none) ∧
      ∃ K' S', TI N n K' S' (some x) (ks.take i) ∧ τ' bl = some (.idict (kd K')) ∧ τ' st = some (.list (S'.map AV.int)) ∧ S'.length + K.length = S0.length + K'.length, its_tup r'.han, ⟨k1, k2, k3, k4, d1, d2, K, S0, hT2, d3, d4, rfl⟩, fun _ _ _ _ => trivial, ?_, ?_⟩
    · intro i ρ' τ' V hV z0
      refine an7 z0 fun k1 k2 k3 k4 lτ cτ z1 => ?_
      refine ex2 z1 fun K' S' z2 => ?_
      refine an4 z2 fun hT' hb hs hm' => ?_
      clear z2 z1 z0
      rw [List.getElem?_map] at hV
      obtain ⟨j, hj, rfl⟩ := Option.map_eq_some_iff.mp hV
      have hjb := hx3.k j (List.mem_of_getElem? hj)
      have hK'l := hT'.len
      refine assign_name ?_
      walk_at "m.s"
      have k1 := look_put_ne (m := "kid") (V := .int j) k1
      have k2 := look_put_ne (m := "kid") (V := .int j) k2
      have k3 := look_put_ne (m := "kid") (V := .int j) k3
      have k4 := look_put_ne (m := "kid") (V := .int j) k4
      have k5 := look_put ρ' "kid" (.int j)
      generalize put "kid" (.int j) ρ' = ρ2 at *
      walk_at "m.run"
      refine op_notin_i hb ?_
      refine truthy_bool ?_
      have hin : lookK (kd K') j = if j ∈ K' then some (.bool true) else none := lookK_map (fun _ => .bool true) j K'
      by_cases hjK : j ∈ K'
      · rw [hin, if_pos hjK, Option.isSome_some, Bool.not_true, if_neg (by decide)]
        walk_at "m.run"
        exact ⟨k1, k2, k3, k4, lτ, cτ, K', S', by rw [take_succ_get hj]; exact hT'.old hjK, hb, hs, hm'⟩
      · rw [hin, if_neg hjK, Option.isSome_none, Bool.not_false, if_pos rfl]
        walk_at "m.run"
        refine set_i hb (by unfold kd; simp; omega) ?_
        rw [show storeK (kd K') j (AV.con (.bool true)) = kd (K' ++ [j]) from storeK_map (fun _ => .bool true) j K' hjK]
        have d1 := le_upd (o := .idict (kd (K' ++ [j]))) lτ hσbl
        have d2 : (τ'.set bl (.idict (kd (K' ++ [j])))) (L + 1) = some (.cell none) := by rw [set_ne nbl]; exact cτ
        have d3 : (τ'.set bl (.idict (kd (K' ++ [j])))) bl = some (.idict (kd (K' ++ [j]))) := set_self ..
        have d4 : (τ'.set bl (.idict (kd (K' ++ [j])))) st = some (.list (S'.map AV.int)) := by rw [set_ne (Ne.symm hlt)]; exact hs
        generalize τ'.set bl (.idict (kd (K' ++ [j]))) = τ3 at *
        show ESs _ _ _ _ _ τ3 _ _
        walk_at "m.run"
        ((with_reducible refine ES_Expr ?_ ?_ ?_); rotate_left; (first | rfl | (subst_vars; rfl)); (first | rfl | (subst_vars; rfl)))
        ((with_reducible refine EV_meth_bi (id := "list.append") ?_ ?_ ?_ ?_ ?_); rfl; decide; rfl; rfl)
        walk_at "m.run"
        refine ⟨GetM_append d4, ?_⟩
        walk_at "m.run"
        refine WC_append d4 (by simp at hm ⊢; omega) ⟨fun a q => (by cases q), ?_⟩
        refine ESs_nil ?_
        refine ESs_nil ⟨k1, k2, k3, k4, le_upd d1 hσst, by rw [set_ne nst]; exact d2, K' ++ [j], S' ++ [j], by rw [take_succ_get hj]; exact hT'.new hjK ⟨hjb.1, by omega⟩, by rw [set_ne hlt]; exact d3, by rw [set_self, List.map_append]; rfl, by simp; omega⟩
    · intro ρ' τ' z0
      refine an7 z0 fun k1 k2 k3 k4 lτ cτ z1 => ?_
      refine ex2 z1 fun K' S' z2 => ?_
      refine an4 z2 fun hT' hb hs hm' => ?_
      clear z2 z1 z0
      rw [List.length_map, List.take_length] at hT'
      refine ESs_nil ⟨m - 1, ?_, k1, k2, k3, k4, lτ, cτ, K', S', hT'.close hx1, hb, hs, ?_, by omega⟩
      · simp at hm; omega
      · simp at hm; omega
  · rename_i hpos
    obtain rfl : S = [] := by
      cases S with
      | nil => rfl
      | cons a S => simp at hpos
    have hcl : ∀ k ∈ K, ∀ op ks, N[k.toNat]? = some (op, ks) → ∀ j ∈ ks, j ∈ K := fun k hk => hTI.cl k hk (by simp) (by simp)
    show ESs _ _ _ _ _ τ' _ _
    with_reducible refine ESs_cons ?_
    walk_at "m.s"
    refine EV_Dict0 (.idict []) trivial fun md hmd => ?_
    have nmd : L + 1 ≠ md := fun q => by rw [← q, cτ] at hmd; cases hmd
    refine store_cell hE.k (hE.l (by rfl)) (hE.ce (by rfl)) (by rw [set_ne nmd]; exact cτ) ?_
    have hσmd := le_none lτ hmd
    have d1 : σ.le ((τ'.set md (.idict [])).set (L + 1) (.cell (some (.ref md)))) := le_upd (le_upd lτ hσmd) e1
    have d2 : ((τ'.set md (.idict [])).set (L + 1) (.cell (some (.ref md)))) (L + 1) = some (.cell (some (.ref md))) := set_self ..
    have d3 : ((τ'.set md (.idict [])).set (L + 1) (.cell (some (.ref md)))) md = some (.idict []) := by rw [set_ne (Ne.symm nmd)]; exact set_self ..
    have nbm : bl ≠ md := fun q => by rw [← q, hb] at hmd; cases hmd
    have d4 : ((τ'.set md (.idict [])).set (L + 1) (.cell (some (.ref md)))) bl = some (.idict (kd K)) := by rw [set_ne (Ne.symm nbl), set_ne nbm]; exact hb
    generalize (τ'.set md (.idict [])).set (L + 1) (.cell (some (.ref md))) = τ2 at *
    walk_at "m.run"
    refine ES_For (plain := true) .name hr ?_
    walk_at "m.run"
    refine WC_sorted_i r'.han d4 (by unfold kd; simp; omega) fun SD ns hSD hperm hsort => ?_
    rw [show (kd K).map (·.1) = K by unfold kd; rw [List.map_map]; exact List.map_id _] at hperm
    have hnl := hperm.length_eq
    have hnd : ns.Nodup := hperm.nodup_iff.mpr hTI.nk
    have hmemK : ∀ k, k ∈ ns ↔ k ∈ K := fun k => hperm.mem_iff
    have e1' := le_new (o := .list (ns.map AV.int)) hSD
    have f1 := d1.trans e1'
    have f2 := e1' _ _ d2
    have f3 := e1' _ _ d3
    have f4 : (τ2.set SD (.list (ns.map AV.int))) SD = some (.list (ns.map AV.int)) := set_self ..
    have nSm : SD ≠ md := fun q => by rw [q, d3] at hSD; cases hSD
    clear d1 d2 d3 d4 e1'
    generalize τ2.set SD (.list (ns.map AV.int)) = τ3 at *
    refine ⟨τ3, _, _, fun i ρ' τ' => look ρ' "self" = some (.ref p.b) ∧ look ρ' "n" = some (.int n) ∧ σ.le τ' ∧ τ' (L + 1) = some (.cell (some (.ref md))) ∧ τ' SD = some (.list (ns.map AV.int)) ∧ τ' md = some (.idict ((ns.take i).map fun k => (k, M.getD k.toNat .none))),
      its_list r'.han f4, ⟨k1, k2, f1, f2, f4, f3⟩, fun _ _ _ e => e.2.2.2.2.1, ?_, ?_⟩
    · intro i ρ' τ' V hV z0
      refine an6 z0 fun k1 k2 lτ cτ hs hm => ?_
      clear z0
      rw [List.getElem?_map] at hV
      obtain ⟨k, hk, rfl⟩ := Option.map_eq_some_iff.mp hV
      have hkns := List.mem_of_getElem? hk
      have hkK := (hmemK k).mp hkns
      refine ex2 (hkid hkK) fun op ks z1 => ?_
      refine an3 z1 fun hx1 hx2 hx3 => ?_
      clear z1
      have hkb := hTI.bd k hkK
      have hil := (List.getElem?_eq_some_iff.mp hk).1
      have hsp : ns = ns.take i ++ k :: ns.drop (i + 1) := by
        rw [← (List.getElem?_eq_some_iff.mp hk).2, ← List.drop_eq_getElem_cons hil, List.take_append_drop]
      have hno : k ∉ ns.take i := by
        intro q
        rw [hsp, List.nodup_append] at hnd
        exact hnd.2.2 k q k (.head _) rfl
      have hkids : ∀ j ∈ ks, j ∈ ns.take i := by
        intro j hj
        have hj1 := hx3.k j hj
        have hj2 := (hmemK j).mpr (hcl k hkK op ks hx1 j hj)
        rw [hsp] at hj2 hsort
        rcases List.mem_append.mp hj2 with q | q
        · exact q
        · rcases List.mem_cons.mp q with q | q
          · omega
          · have := (List.pairwise_cons.mp (List.pairwise_append.mp hsort).2.1).1 j q
            omega
      refine assign_name ?_
      walk_at "m.s"
      have k1 := look_put_ne (m := "k") (V := .int k) k1
      have k2 := look_put_ne (m := "k") (V := .int k) k2
      have k5 := look_put ρ' "k" (.int k)
      generalize put "k" (.int k) ρ' = ρ2 at *
      with_reducible refine ESs_cons ?_
      walk_at "m.s"
      walk_at "m.run"
      refine EV_meth_fn (f := 131) (P.K 131 _ rfl) rfl rfl (by decide) rfl rfl ?_
      walk_at "m.run"
      refine ⟨meth_op P (BK.at'.le lτ), ?_⟩
      walk_at "m.run"
      refine op_spec P r'.d (BK.at'.le lτ) (lτ _ _ BK.nn) hkb.1 (by omega) hx2 ?_
      walk_at "m.run"
      refine ⟨rfl, ?_⟩
      walk_at "m.run"
      refine EV_meth_fn (f := 138) (P.K 138 _ rfl) rfl rfl (by decide) rfl rfl ?_
      walk_at "m.run"
      refine ⟨meth_kids P (BK.at'.le lτ), ?_⟩
      walk_at "m.run"
      refine kids_spec P r'.d (BK.at'.le lτ) (lτ _ _ BK.nn) hkb.1 (by omega) hx2 (by have := hx3.l; simp; omega) ?_
      refine ⟨τ', _, _, fun q acc τ4 => τ4 = τ' ∧ acc = (ks.take q).map fun j => M.getD j.toNat .none, its_tup r'.han, by have := hx3.l; simp; omega, ⟨rfl, rfl⟩, fun _ _ _ _ => trivial, ?_, ?_⟩
      · rintro C q acc τ4 V hV ⟨rfl, rfl⟩ hC
        rw [List.getElem?_map] at hV
        obtain ⟨j, hj, rfl⟩ := Option.map_eq_some_iff.mp hV
        generalize hce : compEnvC _ _ C env = cenv
        have hcE := EnvIs.comp hce hE rfl
        clear hce
        refine ETs_nil ?_
        refine pos_ rfl ?_
        walk_at "m.run"
        have hlk := lookK_map (fun k => M.getD k.toNat .none) j (ns.take i)
        rw [if_pos (hkids j (List.mem_of_getElem? hj))] at hlk
        exact it_i hm hlk ⟨rfl, by rw [take_succ_get hj, List.map_append]; rfl⟩
      · rintro acc τ4 TD ⟨rfl, rfl⟩ hTD
        rw [List.length_map, List.take_length]
        have hkl := hx3.l
        refine WC_tuple_list (set_self ..) (by simp; omega) ?_
        refine op_add_tup (by simp; omega) ?_
        have l2 := le_new (o := .list (ks.map fun j => M.getD j.toNat .none)) hTD
        have g1 := lτ.trans l2
        have g2 := l2 _ _ cτ
        have g3 := l2 _ _ hs
        have g4 := l2 _ _ hm
        clear l2
        generalize τ4.set TD (.list (ks.map fun j => M.getD j.toNat .none)) = τ5 at *
        have hval : AV.tup ([AV.str op] ++ ks.map fun j => M.getD j.toNat .none) = M.getD k.toNat .none := by
          rw [List.getD_eq_getElem?_getD, hx3.M]; rfl
        rw [hval]
        walk_at "m.run"
        refine set_i g4 (by simp; omega) ?_
        rw [storeK_map (fun k => M.getD k.toNat .none) k _ hno, ← take_succ_get hk]
        refine ESs_nil ⟨k1, k2, le_upd g1 hσmd, by rw [set_ne nmd]; exact g2, by rw [set_ne nSm]; exact g3, set_self ..⟩
    · intro ρ' τ' z0
      refine an6 z0 fun k1 k2 lτ cτ hs hm => ?_
      clear z0
      rw [List.length_map, List.take_length] at hm
      walk_at "m.run"
      have hlk := lookK_map (fun k => M.getD k.toNat .none) n ns
      rw [if_pos ((hmemK n).mpr hTI.nm)] at hlk
      exact it_i hm hlk ⟨_, lτ, h⟩
end
end
section
/-! trees whose ops are the law's -/
noncomputable def LTre : Nat → AV → Prop
  | 0, _ => False
  | n + 1, V => ∃ op kids, V = .tup (.str op :: kids) ∧ op ∈ lawOps ∧ kids.length ≤ 2 ∧ ∀ k ∈ kids, LTre n k
theorem lawGood : ∀ op ∈ lawOps, isGood op = true := by decide +kernel
theorem oddBad : ∀ op ∈ oddOps, isGood op = false := by decide +kernel
theorem lawFine : ∀ op ∈ lawOps, (lookK [(("a" : Str), AV.int 0), ("f", .int 1), ("g", .int 2), ("b", .int 0)] op).isSome = true := by decide +kernel
theorem oddCoarse : ∀ op ∈ oddOps, (lookK [(("a" : Str), AV.int 0), ("f", .int 1), ("g", .int 2), ("b", .int 0)] op).isSome = false := by decide +kernel
theorem LTre.tre : ∀ {n : Nat} {V : AV}, LTre n V → Tre n V
  | n + 1, V, ⟨op, kids, e, ho, hl, hk⟩ => ⟨op, kids, e, okOps op (List.mem_append_right _ ho), hl, fun k h => (hk k h).tre⟩
theorem LTre.up : ∀ {n : Nat} {V : AV}, LTre n V → LTre (n + 1) V
  | n + 1, V, ⟨op, kids, e, ho, hl, hk⟩ => ⟨op, kids, e, ho, hl, fun k h => (hk k h).up⟩
theorem LTre.le {n m : Nat} {V : AV} (h : LTre n V) (l : n ≤ m) : LTre m V := by
  induction m with
  | zero => obtain rfl : n = 0 := by omega
            exact h
  | succ m ih =>
    by_cases e : n = m + 1
    · exact e ▸ h
    · exact (ih (by omega)).up
theorem LTre.good : ∀ {n : Nat} {V : AV}, LTre n V → goodN n V = true
  | n + 1, V, ⟨op, kids, e, ho, hl, hk⟩ => by
    subst e
    show (isGood op && kids.all (goodN n)) = true
    rw [lawGood op ho, Bool.true_and, List.all_eq_true]
    exact fun k h => (hk k h).good
theorem LawT.fine : ∀ {n : Nat} {V : AV}, LawT n V → fineN n V = goodN n V ∧ (fineN n V = true → LTre n V)
  | n + 1, V, ⟨op, kids, e, h, hk⟩ => by
    subst e
    have ih := fun k hk' => (hk k hk').fine
    have hf : fineN (n + 1) (.tup (.str op :: kids)) = ((lookK [(("a" : Str), AV.int 0), ("f", .int 1), ("g", .int 2), ("b", .int 0)] op).isSome && kids.all (fineN n)) := rfl
    have hg : goodN (n + 1) (.tup (.str op :: kids)) = (isGood op && kids.all (goodN n)) := rfl
    rw [hf, hg]
    rcases h with ⟨h1, h2⟩ | ⟨h1, h2⟩
    · rw [oddBad op h1, oddCoarse op h1]
      exact ⟨rfl, fun q => by cases q⟩
    · rw [lawGood op h1, lawFine op h1, Bool.true_and, Bool.true_and]
      refine ⟨?_, fun q => ⟨op, kids, rfl, h1, h2, fun k hk' => (ih k hk').2 (List.all_eq_true.mp q k hk')⟩⟩
      rw [Bool.eq_iff_iff, List.all_eq_true, List.all_eq_true]
      exact ⟨fun q k hk' => (ih k hk').1 ▸ q k hk', fun q k hk' => (ih k hk').1 ▸ q k hk'⟩
theorem rankL_subs : ∀ (n : Nat) {M : List AV} {V : AV}, ∀ W ∈ rankL n M V, W ∈ M ∨ W ∈ subs n V
  | 0, M, V, W, h => by rw [show rankL 0 M V = M by cases V <;> rfl] at h; exact .inl h
  | n + 1, M, V, W, h => by
    have ih := @rankL_subs n
    have fo : ∀ (kids : List AV) (M : List AV), ∀ W ∈ kids.foldl (rankL n) M, W ∈ M ∨ W ∈ kids.flatMap (subs n) := by
      intro kids
      induction kids with
      | nil => intro M W h; exact .inl h
      | cons k kids il =>
        intro M W h
        rw [List.flatMap_cons, List.mem_append]
        rcases il _ W h with h | h
        · rcases ih W h with h | h
          · exact .inl h
          · exact .inr (.inl h)
        · exact .inr (.inr h)
    unfold rankL at h
    split at h
    · rename_i h'; injection h' with h'; subst h'
      rw [subs_eq]
      split at h
      · rcases fo _ _ W h with h | h
        · exact .inl h
        · exact .inr (.tail _ h)
      · rcases List.mem_append.mp h with h | h
        · rcases fo _ _ W h with h | h
          · exact .inl h
          · exact .inr (.tail _ h)
        · rw [List.mem_singleton.mp h]; exact .inr (.head _)
    · exact .inl h
theorem subs_ltre : ∀ (n : Nat) {V : AV}, LTre n V → ∀ s ∈ subs n V, LTre n s
  | n + 1, V, ⟨op, kids, e, ho, hl, hk⟩, s, hs => by
    subst e
    rw [subs_eq] at hs
    rcases List.mem_cons.mp hs with rfl | hs
    · exact ⟨op, kids, rfl, ho, hl, hk⟩
    · obtain ⟨k, hk', hs⟩ := List.mem_flatMap.mp hs
      exact (subs_ltre n (hk k hk') s hs).up
theorem rankL_ltre {n d : Nat} {M : List AV} {V : AV} (hn : n ≤ d) (hV : LTre n V) (hM : ∀ W ∈ M, LTre d W) : ∀ W ∈ rankL n M V, LTre d W := fun W hW => by
  rcases rankL_subs n W hW with h | h
  · exact hM W h
  · exact (subs_ltre n hV W h).le hn
/-! what holds of a bank's terms -/
theorem getD_mem {M : List AV} {i : Nat} (h : i < M.length) : M.getD i .none ∈ M := List.mem_of_getElem? (getD_some h)
theorem BInv.kids_in {N M W D} (I : BInv N M W D) {op : Str} {kids : List AV} (h : AV.tup (.str op :: kids) ∈ M) : ∃ (i : Nat) (ks : List Int), N[i]? = some (op, ks) ∧ kids = ks.map (fun k => M.getD k.toNat .none) ∧ NodeOk M W D i op ks ∧ i < M.length := by
  obtain ⟨i, hi⟩ := List.getElem?_of_mem h
  have hl := (List.getElem?_eq_some_iff.mp hi).1
  obtain ⟨oq, ks, e⟩ := node_at (N := N) (i := i) (by rw [← I.len.1]; exact hl)
  have y := I.get e
  have q := y.M
  rw [hi] at q
  have q := Option.some.inj q
  unfold treeOf at q
  injection q with q
  injection q with q1 q2
  injection q1 with q1
  subst q1
  exact ⟨i, ks, e, q2, y, hl⟩
theorem BInv.closed {N M W D} (I : BInv N M W D) : ∀ (n : Nat) {V : AV}, V ∈ M → ∀ s ∈ subs n V, s ∈ M
  | 0, V, _, s, hs => by rw [show subs 0 V = [] by cases V <;> rfl] at hs; cases hs
  | n + 1, V, hV, s, hs => by
    unfold subs at hs
    split at hs
    · rename_i h; injection h with h; subst h
      rcases List.mem_cons.mp hs with rfl | hs
      · exact hV
      · obtain ⟨k, hk, hs⟩ := List.mem_flatMap.mp hs
        obtain ⟨i, ks, e, hkk, y, hl⟩ := I.kids_in hV
        rw [hkk] at hk
        obtain ⟨j, hj, rfl⟩ := List.mem_map.mp hk
        exact I.closed n (getD_mem (by have := y.k j hj; omega)) s hs
    · cases hs
theorem BInv.rank_same {N M W D} (I : BInv N M W D) : ∀ (n : Nat) {V : AV}, V ∈ M → Tre n V → rankL n M V = M
  | m + 1, V, hV, ht => by
    have hd := ht.dat
    obtain ⟨op, kids, e, ho, hl, hk⟩ := ht
    subst e
    obtain ⟨i, ks, e, hkk, y, hl⟩ := I.kids_in hV
    have fo : ∀ l : List AV, (∀ k ∈ l, k ∈ M ∧ Tre m k) → l.foldl (rankL m) M = M := by
      intro l
      induction l with
      | nil => intro _; rfl
      | cons k l il =>
        intro h
        rw [List.foldl_cons, I.rank_same m (h k (.head _)).1 (h k (.head _)).2]
        exact il fun x hx => h x (.tail _ hx)
    have hf := fo kids fun k hk' => ⟨by
      rw [hkk] at hk'
      obtain ⟨j, hj, rfl⟩ := List.mem_map.mp hk'
      exact getD_mem (by have := y.k j hj; omega), hk k hk'⟩
    rw [rankL_eq, hf, if_pos ((hasAV_iff hd).mpr hV)]
theorem heavy_up : ∀ {n m : Nat} {V : AV}, Tre n V → n ≤ m → heavyN m V = heavyN n V ∧ longN m V = longN n V
  | n + 1, m + 1, V, ⟨op, kids, e, ho, hl, hk⟩, h => by
    subst e
    show 1 + (kids.map (heavyN m)).sum = 1 + (kids.map (heavyN n)).sum ∧ 1 + maxZ (kids.map (longN m)) = 1 + maxZ (kids.map (longN n))
    rw [map_cong fun k hk' => (heavy_up (hk k hk') (by omega : n ≤ m)).1, map_cong fun k hk' => (heavy_up (hk k hk') (by omega : n ≤ m)).2]
    exact ⟨rfl, rfl⟩
  | n + 1, 0, V, _, h => by omega
theorem BInv.weights {N M W D} (I : BInv N M W D) {d : Nat} (hM : ∀ V ∈ M, Tre d V) : ∀ (i : Nat) (V : AV), M[i]? = some V → W[i]? = some (heavyN d V) ∧ D[i]? = some (longN d V) := by
  intro i
  induction i using Nat.strongRecOn with
  | ind i ih =>
  intro V hi
  have hl := (List.getElem?_eq_some_iff.mp hi).1
  have hV := List.mem_of_getElem? hi
  obtain ⟨op, ks, e⟩ := node_at (N := N) (i := i) (by rw [← I.len.1]; exact hl)
  have y := I.get e
  have q := y.M
  rw [hi] at q
  have q := Option.some.inj q
  have ht := hM V hV
  cases d with
  | zero => exact absurd ht (by intro h; exact h)
  | succ d =>
    obtain ⟨oq, kids, e2, ho, hkl, hk⟩ := ht
    rw [q] at e2
    unfold treeOf at e2
    injection e2 with e2
    injection e2 with _ e2
    rw [q]
    have hkid : ∀ k ∈ ks, W.getD k.toNat 0 = heavyN d (M.getD k.toNat .none) ∧ D.getD k.toNat 0 = longN d (M.getD k.toNat .none) := fun k hk' => by
      have hb := y.k k hk'
      have h1 := ih k.toNat (by omega) _ (getD_some (by omega))
      have h2 := heavy_up (hk (M.getD k.toNat .none) (by rw [← e2]; exact List.mem_map_of_mem hk')) (Nat.le_succ d)
      rw [List.getD_eq_getElem?_getD, h1.1, h2.1, List.getD_eq_getElem?_getD (l := D), h1.2, h2.2]
      exact ⟨rfl, rfl⟩
    constructor
    · rw [y.W]; unfold wOf treeOf
      show _ = some (1 + ((ks.map _).map (heavyN d)).sum)
      rw [List.map_map, map_cong fun k hk' => (hkid k hk').1]; rfl
    · rw [y.D]; unfold dOf treeOf
      show _ = some (1 + maxZ ((ks.map _).map (longN d)))
      rw [List.map_map, map_cong fun k hk' => (hkid k hk').2]; rfl
theorem BInv.law_op {N M W D} (I : BInv N M W D) {d : Nat} (hM : ∀ V ∈ M, LTre d V) {x : Node} (h : x ∈ N) : x.1 ∈ lawOps := by
  obtain ⟨i, hi⟩ := List.getElem?_of_mem h
  have y := I.get (op := x.1) (ks := x.2) hi
  have ht := hM _ (List.mem_of_getElem? y.M)
  cases d with
  | zero => exact absurd ht (by intro h; exact h)
  | succ d =>
    obtain ⟨op, kids, e, ho, _⟩ := ht
    unfold treeOf at e
    injection e with e
    injection e with e _
    injection e with e
    rw [e]; exact ho
end
section
/-! the law's state -/
structure LA where
  fd : Addr
  c : Addr
  m : Addr
  p : BP
noncomputable def LA.mv (a : LA) (b : Addr) : Prop := b = a.fd ∨ b = a.m ∨ b = a.p.nn ∨ b = a.p.tt ∨ b = a.p.ww ∨ b = a.p.dd
structure St (X : Cx) (σ : Store) (a : LA) (cs : List Int) (k : Nat) (N : List Node) (W D : List Int) (M : List AV) : Prop where
  F : Feed σ a.fd a.c cs k
  B : Bk X σ a.p N W D
  mm : σ a.m = some (.list M)
  sep : [a.c, a.m, a.p.nn, a.p.ww, a.p.dd].Nodup
noncomputable def Same (a : LA) (σ τ : Store) : Prop := ∀ b o, ¬ a.mv b → σ b = some o → τ b = some o
noncomputable def lset (σ : Store) (a : LA) (k : Nat) (N : List Node) (W D : List Int) (M : List AV) : Store := fset (bset (σ.set a.m (.list M)) a.p N W D) a.fd a.c k
section
variable {X : Cx} {σ τ υ : Store} {a : LA} {cs : List Int} {k k' : Nat} {N N' : List Node} {W W' D D' : List Int} {M M' : List AV}
theorem Same.refl : Same a σ σ := fun _ _ _ e => e
theorem Same.trans (x : Same a σ τ) (y : Same a τ υ) : Same a σ υ := fun b o n e => y b o n (x b o n e)
theorem Same.le (l : σ.le τ) : Same a σ τ := fun b o _ e => l b o e
theorem Same.fset : Same a σ (fset σ a.fd a.c k) := fun b o n e => by rw [fset_ne (fun q => n (.inl q))]; exact e
theorem Same.bset : Same a σ (bset σ a.p N W D) := fun b o n e => by
  unfold LA.mv at n
  simp only [not_or] at n
  rw [bset_ne n.2.2.1 n.2.2.2.1 n.2.2.2.2.1 n.2.2.2.2.2]; exact e
theorem Same.mset : Same a σ (σ.set a.m (.list M)) := fun b o n e => by rw [set_ne (fun q => n (.inr (.inl q)))]; exact e
structure LNe (a : LA) : Prop where
  fd : a.c ≠ a.fd ∧ a.m ≠ a.fd ∧ a.p.nn ≠ a.fd ∧ a.p.tt ≠ a.fd ∧ a.p.ww ≠ a.fd ∧ a.p.dd ≠ a.fd ∧ a.p.b ≠ a.fd ∧ a.p.dx ≠ a.fd
  c : a.c ≠ a.m ∧ a.c ≠ a.p.nn ∧ a.c ≠ a.p.tt ∧ a.c ≠ a.p.ww ∧ a.c ≠ a.p.dd
  m : a.m ≠ a.p.nn ∧ a.m ≠ a.p.tt ∧ a.m ≠ a.p.ww ∧ a.m ≠ a.p.dd
  b : a.p.b ≠ a.m ∧ a.p.dx ≠ a.m
theorem St.ne (S : St X σ a cs k N W D M) : LNe a := by
  have h := S.sep
  simp only [List.nodup_cons, List.mem_cons, List.not_mem_nil, or_false, not_or, List.nodup_nil, and_true, not_false_eq_true] at h
  obtain ⟨⟨h1, h2, h3, h4⟩, ⟨h5, h6, h7⟩, _⟩ := h
  obtain ⟨t1, t2, t3, t4, q, ⟨sl, g1⟩, g2⟩ := S.B.at'
  have F := S.F.fd
  refine ⟨⟨S.F.ne, fun q => ?_, fun q => ?_, fun q => ?_, fun q => ?_, fun q => ?_, fun q => ?_, fun q => ?_⟩, ⟨h1, h2, fun q => ?_, h3, h4⟩, ⟨h5, fun q => ?_, h6, h7⟩, fun q => ?_, fun q => ?_⟩
  · have := S.mm; rw [q, F] at this; cases this
  · have := S.B.nn; rw [q, F] at this; cases this
  · have := S.B.tt; rw [q, F] at this; cases this
  · have := S.B.ww; rw [q, F] at this; cases this
  · have := S.B.dd; rw [q, F] at this; cases this
  · rw [q, F] at g1; cases g1
  · rw [q, F] at g2; cases g2
  · have := S.F.c; rw [q, S.B.tt] at this; cases this
  · have := S.mm; rw [q, S.B.tt] at this; cases this
  · rw [q, S.mm] at g1; cases g1
  · rw [q, S.mm] at g2; cases g2
theorem St.le (S : St X σ a cs k N W D M) (l : σ.le τ) : St X τ a cs k N W D M := ⟨S.F.le l, S.B.le l, l _ _ S.mm, S.sep⟩
theorem St.fset (S : St X σ a cs k N W D M) : St X (fset σ a.fd a.c k') a cs k' N W D M := by
  have n := S.ne
  obtain ⟨n1, n2, n3, n4, n5, n6, n7, n8⟩ := n.fd
  refine ⟨S.F.set, ⟨S.B.at'.set n7 n8, ?_, ?_, ?_, ?_, S.B.nd⟩, ?_, S.sep⟩
  · rw [fset_ne n3]; exact S.B.nn
  · rw [fset_ne n4]; exact S.B.tt
  · rw [fset_ne n5]; exact S.B.ww
  · rw [fset_ne n6]; exact S.B.dd
  · rw [fset_ne n2]; exact S.mm
theorem St.bset (S : St X σ a cs k N W D M) : St X (bset σ a.p N' W' D') a cs k N' W' D' M := by
  have n := S.ne
  refine ⟨⟨?_, ?_, S.F.len⟩, S.B.bset, ?_, S.sep⟩
  · rw [bset_ne (Ne.symm n.fd.2.2.1) (Ne.symm n.fd.2.2.2.1) (Ne.symm n.fd.2.2.2.2.1) (Ne.symm n.fd.2.2.2.2.2.1)]; exact S.F.fd
  · rw [bset_ne n.c.2.1 n.c.2.2.1 n.c.2.2.2.1 n.c.2.2.2.2]; exact S.F.c
  · rw [bset_ne n.m.1 n.m.2.1 n.m.2.2.1 n.m.2.2.2]; exact S.mm
theorem St.mset (S : St X σ a cs k N W D M) : St X (σ.set a.m (.list M')) a cs k N W D M' := by
  have n := S.ne
  refine ⟨⟨?_, ?_, S.F.len⟩, ⟨S.B.at'.set n.b.1 n.b.2, ?_, ?_, ?_, ?_, S.B.nd⟩, set_self .., S.sep⟩
  · rw [set_ne (Ne.symm n.fd.2.1)]; exact S.F.fd
  · rw [set_ne n.c.1]; exact S.F.c
  · rw [set_ne (Ne.symm n.m.1)]; exact S.B.nn
  · rw [set_ne (Ne.symm n.m.2.1)]; exact S.B.tt
  · rw [set_ne (Ne.symm n.m.2.2.1)]; exact S.B.ww
  · rw [set_ne (Ne.symm n.m.2.2.2)]; exact S.B.dd
theorem St.lset (S : St X σ a cs k N W D M) : St X (lset σ a k' N' W' D' M') a cs k' N' W' D' M' := S.mset.bset.fset
theorem lset_le (s : Same a σ τ) (S : St X τ a cs k N W D M) : (Mine.lset σ a k N W D M).le τ := fun b o e => by
  have n := S.ne
  have nb := S.B.ne
  by_cases h1 : b = a.fd
  · subst h1
    rw [show Mine.lset σ a k N W D M a.fd = _ from set_self ..] at e
    rw [← e]; exact S.F.fd
  rw [Mine.lset, fset_ne h1] at e
  by_cases h2 : b = a.p.dd
  · subst h2
    rw [show Mine.bset _ a.p N W D a.p.dd = _ from set_self ..] at e
    rw [← e]; exact S.B.dd
  unfold Mine.bset at e
  rw [set_ne h2] at e
  by_cases h3 : b = a.p.ww
  · subst h3; rw [set_self] at e; rw [← e]; exact S.B.ww
  rw [set_ne h3] at e
  by_cases h4 : b = a.p.tt
  · subst h4; rw [set_self] at e; rw [← e]; exact S.B.tt
  rw [set_ne h4] at e
  by_cases h5 : b = a.p.nn
  · subst h5; rw [set_self] at e; rw [← e]; exact S.B.nn
  rw [set_ne h5] at e
  by_cases h6 : b = a.m
  · subst h6; rw [set_self] at e; rw [← e]; exact S.mm
  rw [set_ne h6] at e
  refine s b o ?_ e
  unfold LA.mv
  simp only [not_or]
  exact ⟨h1, h6, h5, h4, h3, h2⟩
theorem Same.lset : Same a σ (Mine.lset σ a k N W D M) := (Same.mset.trans Same.bset).trans Same.fset
theorem NoGhost.fset (h : NoGhost σ) {fd c : Addr} : NoGhost (Mine.fset σ fd c k) := NoGhost.set h rfl
theorem NoGhost.bset (h : NoGhost σ) {p : BP} : NoGhost (Mine.bset σ p N W D) := NoGhost.set (NoGhost.set (NoGhost.set (NoGhost.set h rfl) rfl) rfl) rfl
theorem NoGhost.lset (h : NoGhost σ) : NoGhost (Mine.lset σ a k N W D M) := NoGhost.fset (NoGhost.bset (NoGhost.set h rfl))
end
section
variable {X : Cx} {A : Around} {σ : Store} {Q : AV → Store → Prop} {Es : Store → Prop}
theorem kid_spec (P : Pk X) (r : Room A 2) {fd c : Addr} {cs : List Int} {k m : Nat} (F : Feed σ fd c cs k) (hk : k ≤ 1000)
    (h : ∀ v : Int, -1 ≤ v → v ≤ m → Q (.int v) (fset σ fd c (k + 1))) : WC X A (.ref 240) [.ref fd, .int m] σ Q Es := by
  refine WC_p P (ns := ["feed", "many"]) rfl rfl (codeRec_of P.K (by rfl)) rfl rfl r.d ?_ (by decide +kernel) (by decide +kernel) ?_
  · exact all2 fun a b => rfl
  intro L hL
  show ESs _ _ _ [("feed", .ref fd), ("many", .int m)] _ σ _ _
  generalize he : callEnvC _ L 240 = env
  have hr : Here (A.deeper env) env := here_of he r.frm
  have hE := EnvIs.of he rfl rfl rfl
  have r' : Room (A.deeper env) (1) := r.deeper
  generalize A.deeper env = B at *
  walk_at "m.run"
  refine draw_any P r'.d F (by decide) hk fun w w0 w1 => ?_
  walk_at "m.run"
  by_cases h5 : w = 5
  · refine pos_ (by simpa using h5) ?_
    walk_at "m.run"
    exact h (-1) (by omega) (by omega)
  refine neg_ (by simpa using h5) ?_
  walk_at "m.run"
  with_reducible refine EB_And ?_
  with_reducible refine allTrue_or ?_
  walk_at "m.run"
  by_cases h4 : w = 4
  · rw [show (w == 4) = true by simpa using h4, if_pos rfl, if_pos rfl]
    walk_at "m.run"
    exact h m (by omega) (by omega)
  rw [show (w == 4) = false by simpa using h4, if_neg (by decide)]
  with_reducible refine allTrue_or ?_
  walk_at "m.run"
  by_cases h0 : m = 0
  · subst h0
    rw [show (((0 : Nat) : Int) == 0) = true by rfl, if_pos rfl, if_pos rfl]
    walk_at "m.run"
    exact h _ (by omega) (by omega)
  rw [show ((m : Int) == 0) = false by simpa using h0, if_neg (by decide)]
  refine allTrue_nil ?_
  refine neg_ (by decide) ?_
  walk_at "m.run"
  refine op_mod (by omega) ?_
  have h1 := Int.fmod_nonneg_of_pos w (b := (m : Int)) (by omega)
  have h2 := Int.fmod_lt_of_pos w (b := (m : Int)) (by omega)
  exact h _ (by omega) (by omega)
end
end
section
section
variable {X : Cx} {A : Around} {σ : Store} {Q : AV → Store → Prop} {Es : Store → Prop} {a : LA} {cs : List Int} {k : Nat} {N : List Node} {W D : List Int} {M : List AV}
theorem first_one {N : List Node} {M : List AV} {W D : List Int} (I : BInv N M W D) {i j : Nat} {V : AV} (h : FirstAt M V i) (e : M[j]? = some V) : i = j := I.inj i j V h.1 e
theorem put_right_spec (P : Pk X) (r : Room A 12) (S : St X σ a cs k N W D M) (I : BInv N M W D) (hG : NoGhost σ) {d : Nat} (hd3 : 3 ≤ d) (hd2 : d ≤ 10) (hM : ∀ V ∈ M, LTre d V) (hz : M.length ≤ 900) (hk : k + 14 ≤ 1000)
    (h : ∀ k' N' W' D' M', BInv N' M' W' D' → (∀ V ∈ M', LTre d V) → M'.length ≤ M.length + 7 → k' ≤ k + 14 → Q (.bool true) (lset σ a k' N' W' D' M')) :
    WC X A (.ref 233) [.ref a.fd, .ref a.p.b, .ref a.m] σ Q Es := by
  refine WC.lower ?_
  refine WC_p P (ns := ["feed", "bank", "mine"]) rfl rfl (codeRec_of P.K (by rfl)) rfl rfl r.d ?_ (by decide +kernel) (by decide +kernel) ?_
  · exact all3 fun a b c => rfl
  intro L hL
  show ESs _ _ _ [("feed", .ref a.fd), ("bank", .ref a.p.b), ("mine", .ref a.m)] _ σ _ _
  generalize he : callEnvC _ L 233 = env
  have hr : Here (A.deeper env) env := here_of he r.frm
  have hE := EnvIs.of he rfl rfl rfl
  have r' : Room (A.deeper env) (11) := r.deeper
  generalize A.deeper env = B at *
  with_reducible refine ESs_cons ?_
  refine ES_AssignX (m := "tree") (n := "before") r'.han ?_ (by rfl) (by rw [← he]; rfl)
  walk_at "m.run"
  refine tree_spec P 2 (r'.le (by decide)) S.F (by show k + 14 ≤ 1000; exact hk) fun V k' hV h1 h2 => ?_
  have h2 : k' ≤ k + 14 := h2
  have S1 := S.fset (k' := k')
  have s1 : Same a σ (fset σ a.fd a.c k') := .fset
  have G1 : NoGhost (fset σ a.fd a.c k') := hG.fset
  generalize fset σ a.fd a.c k' = τ at *
  obtain ⟨hfg, hfl⟩ := hV.fine
  have hVt := hV.tre
  walk_at "m.run"
  refine WC_len S1.mm (by omega) ?_
  walk_at "m.run"
  refine ⟨rfl, _, _, rfl, ?_⟩
  walk_at "m.run"
  refine XS.mono (Q := fun f ρ' σ' => f = .next ∧ ∃ g, ρ' = ([("feed", .ref a.fd), ("bank", .ref a.p.b), ("mine", .ref a.m), ("before", .int M.length), ("tree", V), ("got", .int g)] : List (Str × AV)) ∧
    ((goodN 3 V = true ∧ ∃ N' W' D' j, g = ((j : Nat) : Int) ∧ BInv N' (rankL 3 M V) W' D' ∧ (rankL 3 M V)[j]? = some V ∧ σ' = bset τ a.p N' W' D') ∨ (goodN 3 V = false ∧ g = -1 ∧ σ' = τ))) ?_ ?_
  · refine ES_Try (K := hd.heap_39 X.w.params) (C := 60) (Er := fun ρ' σ' => ρ' = ([("feed", .ref a.fd), ("bank", .ref a.p.b), ("mine", .ref a.m), ("before", .int M.length), ("tree", V)] : List (Str × AV)) ∧ goodN 3 V = false ∧ σ' = τ) hr P.K P.exc (by rfl) hE.k (hE.l (by rfl)) hE.g (mg_of P.K X.g (by rfl)) G1 ?_ ?_
    · with_reducible refine ESs_cons ?_
      walk_at "m.s"
      refine EV_meth_fn (f := 112) (P.K 112 _ rfl) rfl rfl (by decide) rfl rfl ?_
      walk_at "m.run"
      refine ⟨meth_put P S1.B.at', ?_⟩
      walk_at "m.run"
      refine put_spec P 3 (r'.le (by decide)) S1.B I (by decide) hVt (by omega) (fun hg N' W' D' j I' hj => ?_) (fun hg => ⟨rfl, hg, rfl⟩)
      walk_at "m.run"
      exact ⟨rfl, _, rfl, .inl ⟨hg, N', W', D', j, rfl, I', hj, rfl⟩⟩
    · rintro B' hB' ρ' σ' ⟨rfl, hg, rfl⟩
      walk_at "m.run"
      exact ⟨rfl, _, rfl, .inr ⟨hg, rfl, rfl⟩⟩
  · rintro f ρ' σ' ⟨rfl, g, rfl, hcase⟩
    show ESs _ _ _ _ _ σ' _ _
    have S2 : ∃ N' W' D', St X σ' a cs k' N' W' D' M := by
      rcases hcase with ⟨_, N', W', D', j, _, _, _, rfl⟩ | ⟨_, _, rfl⟩
      · exact ⟨_, _, _, S1.bset⟩
      · exact ⟨_, _, _, S1⟩
    with_reducible refine ESs_cons ?_
    with_reducible refine ES_If ?_
    with_reducible refine EB_Not ?_
    ((with_reducible refine EB_plain ?_ ?_); (intro _; rfl))
    walk_at "m.run"
    refine is_fine_spec P 3 (r'.le (by decide)) (by decide) hVt ?_
    refine truthy_bool ?_
    rcases hcase with ⟨hg, N', W', D', j, rfl, I', hj, rfl⟩ | ⟨hg, rfl, rfl⟩
    · rw [hfg, hg, Bool.not_true, if_neg (by decide)]
      have hL : ∀ U ∈ rankL 3 M V, LTre d U := rankL_ltre hd3 (hfl (hfg.trans hg)) hM
      have hlen := rankL_len 3 (M := M) hVt
      have S3 := S1.bset (N' := N') (W' := W') (D' := D')
      walk_at "m.run"
      with_reducible refine EV_And2 ?_
      walk_at "m.run"
      refine ranked_spec P (d := d) (by omega) 3 (r'.le (by decide)) hd3 S3.mm (fun U hU => (hM U hU).tre) hVt (by omega) fun i hi => ?_
      rw [first_one I' hi hj]
      walk_at "m.run"
      rw [show (((j : Nat) : Int) == j) = true by simp, if_pos rfl]
      have S4 := S3.mset (M' := rankL 3 M V)
      have s4 : Same a σ ((bset τ a.p N' W' D').set a.m (.list (rankL 3 M V))) := (s1.trans .bset).trans .mset
      walk_at "m.run"
      refine EV_meth_fn (f := 93) (P.K 93 _ rfl) rfl rfl (by decide) rfl rfl ?_
      walk_at "m.run"
      refine ⟨meth_size P S4.B.at', ?_⟩
      walk_at "m.run"
      have hl2 := I'.len.1
      refine size_spec P r'.d S4.B.at' S4.B.nn (by simp; omega) ?_
      walk_at "m.run"
      refine WC_len S4.mm (by omega) ?_
      walk_at "m.run"
      rw [show (((N'.map nodeAV).length : Int) == (rankL 3 M V).length) = true by simp [hl2]]
      exact ⟨_, lset_le s4 S4, h k' N' W' D' _ I' hL (by omega) h2⟩
    · rw [hfg, hg, Bool.not_false, if_pos rfl]
      walk_at "m.run"
      with_reducible refine EV_And2 ?_
      walk_at "m.run"
      rw [show ((-1 : Int) == -1) = true by rfl, if_pos rfl]
      refine EV_Compare1 ?_ ?_
      rotate_left
      · with_unfolding_all rfl
      refine EV_meth_fn (f := 93) (P.K 93 _ rfl) rfl rfl (by decide) rfl rfl ?_
      walk_at "m.run"
      refine ⟨meth_size P S1.B.at', ?_⟩
      walk_at "m.run"
      have hl2 := I.len.1
      refine size_spec P r'.d S1.B.at' S1.B.nn (by simp; omega) ?_
      walk_at "m.run"
      rw [show (((N.map nodeAV).length : Int) == M.length) = true by simp [hl2]]
      exact ⟨_, lset_le s1 S1, h k' N W D _ I hM (by omega) h2⟩
end
end
section
theorem swaps_comp {elt : Expr} {gens : List Comprehension} {scope : Scope} {pos pt : Pos} {t : Str} {l : Nat} {env : Env} (hb : (env.blockKind == .function) = true) (hk : env.kindOf t = some .local) (hl : (pt.line == pos.line) = true)
    (hn : (scope.names.any fun (n, k) => n == t && (k == .local || k == .cell)) = false) : swapsWith (.ListComp elt gens scope pos) (some (.Name t pt)) l env = pure true := by
  show (pure (env.blockKind == .function && env.kindOf t == some .local && pt.line == pos.line && !(scope.names.any fun (n, k) => n == t && (k == .local || k == .cell))) : Sem Bool) = pure true
  rw [hb, hk, hl, hn]; rfl
theorem swapped_second {env : Env} {m n : Str} {p q tp vp : Pos} {k kv : Nat} {e f : Expr} (hn : env.kindOf n = some .cell) : swappedStores [.Tuple [.Name m p, .Name n q] k tp] (.Tuple [e, f] kv vp) env = pure none := by
  unfold swappedStores
  simp only []
  split
  · rfl
  · split
    · rfl
    · by_cases h : env.kindOf m = some .local
      · by_cases h2 : p.line = (Expr.Name m p).pos.line
        · simp [List.filterMap_cons, h, hn, h2]
        · simp [List.filterMap_cons, h, hn, h2]
      · simp [List.filterMap_cons, h, hn]
theorem swapped_third {env : Env} {m n o : Str} {p q s tp vp : Pos} {k kv : Nat} {e f g : Expr} (hn : env.kindOf n = some .cell) : swappedStores [.Tuple [.Name m p, .Name n q, .Name o s] k tp] (.Tuple [e, f, g] kv vp) env = pure none := by
  unfold swappedStores
  simp only []
  split
  · rfl
  · split
    · rfl
    · by_cases h : env.kindOf m = some .local <;> by_cases h2 : p.line = (Expr.Name m p).pos.line <;> by_cases h3 : env.kindOf o = some .local <;> by_cases h4 : s.line = (Expr.Name m p).pos.line <;>
        simp [List.filterMap_cons, h, hn, h2, h3, h4]
noncomputable def takeOps : List Str := ["a", "f", "g", "b", "?y", "f g", "f", "g"]
theorem takeLaw : ∀ op ∈ takeOps, isGood op = true → op ∈ lawOps := by decide +kernel
theorem takeOk : ∀ op ∈ takeOps, okOp op := by
  unfold okOp
  decide +kernel
theorem takeFine : ∀ op ∈ takeOps, (lookK [(("a" : Str), AV.int 0), ("f", .int 1), ("g", .int 2), ("b", .int 0)] op).isSome = decide (op ∈ lawOps) := by decide +kernel
theorem BInv.rank_node {N M W D} (I : BInv N M W D) {d : Nat} (hM : ∀ V ∈ M, Tre d V) {op : Str} {ks : List Int} (hk : ∀ k ∈ ks, 0 ≤ k ∧ k < (M.length : Int)) (ho : okOp op) (hl : ks.length ≤ 2) :
    Tre (d + 1) (treeOf op ks M) ∧ (treeOf op ks M ∈ M → rankL (d + 1) M (treeOf op ks M) = M) ∧ (treeOf op ks M ∉ M → rankL (d + 1) M (treeOf op ks M) = M ++ [treeOf op ks M]) := by
  have hkm : ∀ V ∈ ks.map fun k => M.getD k.toNat .none, V ∈ M := fun V hV => by
    obtain ⟨k, hk', rfl⟩ := List.mem_map.mp hV
    exact getD_mem (by have := hk k hk'; omega)
  have ht : Tre (d + 1) (treeOf op ks M) := ⟨op, _, rfl, ho, by simpa using hl, fun k hk' => hM k (hkm k hk')⟩
  refine ⟨ht, ?_⟩
  have fo : ∀ l : List AV, (∀ k ∈ l, k ∈ M) → l.foldl (rankL d) M = M := by
    intro l
    induction l with
    | nil => intro _; rfl
    | cons k l il =>
      intro h
      rw [List.foldl_cons, I.rank_same d (h k (.head _)) (hM k (h k (.head _)))]
      exact il fun x hx => h x (.tail _ hx)
  unfold treeOf at ht ⊢
  rw [rankL_eq, fo _ hkm]
  exact ⟨fun q => if_pos ((hasAV_iff ht.dat).mpr q), fun q => if_neg (fun h => q ((hasAV_iff ht.dat).mp h))⟩
section
variable {X : Cx} {A : Around} {σ : Store} {Q : AV → Store → Prop} {Es : Store → Prop} {a : LA} {cs : List Int} {k : Nat} {N : List Node} {W D : List Int} {M : List AV}
theorem St.free (S : St X σ a cs k N W D M) {b : Addr} (h : σ b = none) : ¬ a.mv b := by
  unfold LA.mv
  rintro (q | q | q | q | q | q) <;> subst q
  · rw [S.F.fd] at h; cases h
  · rw [S.mm] at h; cases h
  · rw [S.B.nn] at h; cases h
  · rw [S.B.tt] at h; cases h
  · rw [S.B.ww] at h; cases h
  · rw [S.B.dd] at h; cases h
theorem taken_right_spec (P : Pk X) (r : Room A 14) (S : St X σ a cs k N W D M) (I : BInv N M W D) (hG : NoGhost σ) {d : Nat} (hd2 : d ≤ 9) (hM : ∀ V ∈ M, LTre d V) (hz : M.length ≤ 90) (hk : k + 14 ≤ 1000)
    (h : ∀ k' N' W' D' M', BInv N' M' W' D' → (∀ V ∈ M', LTre (d + 1) V) → M'.length ≤ M.length + 7 → k' ≤ k + 14 → Q (.bool true) (lset σ a k' N' W' D' M')) :
    WC X A (.ref 245) [.ref a.fd, .ref a.p.b, .ref a.m] σ Q Es := by
  refine WC.lower ?_
  refine WC_p P (ns := ["feed", "bank", "mine"]) rfl rfl (codeRec_of P.K (by rfl)) rfl rfl r.d ?_ (by decide +kernel) (by decide +kernel) ?_
  · exact all3 fun a b c => rfl
  intro L hL
  show ESs _ _ _ [("bank", .ref a.p.b)] _ (((σ.set (L + 1) (.cell (some (.ref a.fd)))).set (L + 2) (.cell (some (.ref a.m)))).set (L + 3) (.cell none)) _ _
  generalize he : callEnvC _ L 245 = env
  have hr : Here (A.deeper env) env := here_of he r.frm
  have hE := EnvIs.of he rfl rfl rfl
  have r' : Room (A.deeper env) (13) := r.deeper
  generalize A.deeper env = B at *
  have e1 : σ (L + 1) = none := (hL.mono (Nat.le_add_right L 1)).none
  have e2 : σ (L + 2) = none := (hL.mono (Nat.le_add_right L 2)).none
  have e3 : σ (L + 3) = none := (hL.mono (Nat.le_add_right L 3)).none
  have l0 : (fset σ a.fd a.c k).le (((σ.set (L + 1) (.cell (some (.ref a.fd)))).set (L + 2) (.cell (some (.ref a.m)))).set (L + 3) (.cell none)) := by
    rw [S.F.same]
    exact le_upd (le_upd (le_upd (.refl _) e1) e2) e3
  have c1 : (((σ.set (L + 1) (.cell (some (.ref a.fd)))).set (L + 2) (.cell (some (.ref a.m)))).set (L + 3) (.cell none)) (L + 1) = some (.cell (some (.ref a.fd))) := by
    rw [set_ne (cne (by decide)), set_ne (cne (by decide)), set_self]
  have c2 : (((σ.set (L + 1) (.cell (some (.ref a.fd)))).set (L + 2) (.cell (some (.ref a.m)))).set (L + 3) (.cell none)) (L + 2) = some (.cell (some (.ref a.m))) := by
    rw [set_ne (cne (by decide)), set_self]
  have c3 : (((σ.set (L + 1) (.cell (some (.ref a.fd)))).set (L + 2) (.cell (some (.ref a.m)))).set (L + 3) (.cell none)) (L + 3) = some (.cell none) := set_self ..
  have G0 : NoGhost (((σ.set (L + 1) (.cell (some (.ref a.fd)))).set (L + 2) (.cell (some (.ref a.m)))).set (L + 3) (.cell none)) := ((hG.set rfl).set rfl).set rfl
  have nf : ∀ {b}, σ b = none → b ≠ a.fd := fun e q => by rw [q, S.F.fd] at e; cases e
  generalize (((σ.set (L + 1) (.cell (some (.ref a.fd)))).set (L + 2) (.cell (some (.ref a.m)))).set (L + 3) (.cell none)) = τ at *
  with_reducible refine ESs_cons ?_
  with_reducible refine ES_AssignT ?_ ?_ ?_
  rotate_left
  · rfl
  · exact swapped_second (hE.l (by rfl))
  walk_at "m.run"
  refine ⟨rfl, fun la hla _ => ?_⟩
  have m1 := le_set (o := .list (takeOps.map AV.str)) hla
  have l1 := l0.trans m1
  have c1 := m1 _ _ c1
  have c2 := m1 _ _ c2
  have c3 := m1 _ _ c3
  have G1 : NoGhost (τ.set la (.list (takeOps.map AV.str))) := G0.set rfl
  have hla1 : (τ.set la (.list (takeOps.map AV.str))) la = some (.list (takeOps.map AV.str)) := set_self ..
  have hlf : la ≠ a.fd := nf (le_none (Same.fset (a := a) (k := k) (σ := σ) |> fun _ => by rw [S.F.same] at l0; exact l0) hla.none)
  show EV _ _ _ _ _ (τ.set la (.list (takeOps.map AV.str))) _ _
  generalize τ.set la (.list (takeOps.map AV.str)) = τ1 at *
  walk_at "m.run"
  refine draw_any P r'.d (S.fset.le l1).F (by decide) (by omega) fun w w0 w1 => ?_
  obtain ⟨op, ho, hx⟩ := get_map_str (l := takeOps) w0 w1 rfl
  refine it_list (by rw [fset_ne hlf]; exact hla1) w0 (by omega) hx ?_
  have l2 := fset_le2 (k₂ := k + 1) l1
  have c1 : (fset τ1 a.fd a.c (k + 1)) (L + 1) = some (.cell (some (.ref a.fd))) := by rw [fset_ne (nf e1)]; exact c1
  have c2 : (fset τ1 a.fd a.c (k + 1)) (L + 2) = some (.cell (some (.ref a.m))) := by rw [fset_ne (nf e2)]; exact c2
  have c3 : (fset τ1 a.fd a.c (k + 1)) (L + 3) = some (.cell none) := by rw [fset_ne (nf e3)]; exact c3
  have G2 : NoGhost (fset τ1 a.fd a.c (k + 1)) := G1.fset
  generalize fset τ1 a.fd a.c (k + 1) = τ2 at *
  walk_at "m.run"
  refine WC_len (S.fset.le l2).mm (by omega) ?_
  walk_at "m.run"
  refine ⟨rfl, ?_⟩
  refine assign_pair r'.han ?_
  walk_at "m.run"
  refine store_cell hE.k (hE.l (by rfl)) (hE.ce (by rfl)) c3 ?_
  have l3 := le_upd (o := .cell (some (.int M.length))) l2 (S.F.none e3)
  have c1 : (τ2.set (L + 3) (.cell (some (.int M.length)))) (L + 1) = some (.cell (some (.ref a.fd))) := by rw [set_ne (cne (by decide))]; exact c1
  have c2 : (τ2.set (L + 3) (.cell (some (.int M.length)))) (L + 2) = some (.cell (some (.ref a.m))) := by rw [set_ne (cne (by decide))]; exact c2
  have c3 : (τ2.set (L + 3) (.cell (some (.int M.length)))) (L + 3) = some (.cell (some (.int M.length))) := set_self ..
  have G3 : NoGhost (τ2.set (L + 3) (.cell (some (.int M.length)))) := G2.set rfl
  generalize τ2.set (L + 3) (.cell (some (.int M.length))) = τ3 at *
  show ESs _ _ _ _ _ τ3 _ _
  with_reducible refine ESs_cons ?_
  refine ES_AssignC (cl := _) (swaps_comp hE.bk (hE.l (by rfl)) (by rfl) (by rfl)) (hE.clo (by rfl)) (by decide) rfl (by decide) rfl ?_
  walk_at "m.run"
  refine draw_any P r'.d (S.fset.le l3).F (by decide) (by omega) fun w w0 w1 => ?_
  have l4 := fset_le2 (k₂ := k + 2) l3
  have c1 : (fset τ3 a.fd a.c (k + 2)) (L + 1) = some (.cell (some (.ref a.fd))) := by rw [fset_ne (nf e1)]; exact c1
  have c2 : (fset τ3 a.fd a.c (k + 2)) (L + 2) = some (.cell (some (.ref a.m))) := by rw [fset_ne (nf e2)]; exact c2
  have c3 : (fset τ3 a.fd a.c (k + 2)) (L + 3) = some (.cell (some (.int M.length))) := by rw [fset_ne (nf e3)]; exact c3
  have G4 : NoGhost (fset τ3 a.fd a.c (k + 2)) := G3.fset
  show EVs _ _ _ _ _ (fset τ3 a.fd a.c (k + 2)) _ _
  generalize fset τ3 a.fd a.c (k + 2) = τ4 at *
  obtain ⟨v, rfl⟩ : ∃ v : Nat, w = v := ⟨w.toNat, by omega⟩
  walk_at "m.run"
  refine WC_range fun rr t u v' hrr => ?_
  have m5 := le_new (o := .raw (rangeObj v t u v')) hrr
  have l5 := l4.trans m5
  have c1 := m5 _ _ c1
  have c2 := m5 _ _ c2
  have c3 := m5 _ _ c3
  have G5 : NoGhost (τ4.set rr (.raw (rangeObj v t u v'))) := G4.set rfl
  have hr5 : (τ4.set rr (.raw (rangeObj v t u v'))) rr = _ := set_self ..
  generalize τ4.set rr (.raw (rangeObj v t u v')) = τ5 at *
  refine ⟨τ5, _, _, fun i acc τ' => ∃ (ks : List Int), (fset σ a.fd a.c (k + 2 + i)).le τ' ∧ τ' (L + 1) = some (.cell (some (.ref a.fd))) ∧ τ' (L + 2) = some (.cell (some (.ref a.m))) ∧ τ' (L + 3) = some (.cell (some (.int M.length))) ∧ NoGhost τ' ∧ acc = ks.map AV.int ∧ ks.length = i ∧ ∀ k ∈ ks, -1 ≤ k ∧ k ≤ (M.length : Int),
    its_range r'.han (by omega) hr5, by simp; omega, ⟨[], l5, c1, c2, c3, G5, rfl, rfl, fun _ h => (by cases h)⟩, fun _ _ _ _ => trivial, ?_, ?_⟩
  · intro C i acc τ' V hV z0 hC
    refine ex1 z0 fun ks z1 => ?_
    refine an8 z1 fun l6 c1 c2 c3 G6 e_1 hkl hkb => ?_
    clear z1 z0
    subst e_1
    rw [List.getElem?_map] at hV
    obtain ⟨j, hj, rfl⟩ := Option.map_eq_some_iff.mp hV
    have hi : i < v := by have := (List.getElem?_eq_some_iff.mp hj).1; simpa using this
    generalize hce : compEnvC _ _ C env = cenv
    have hcE := EnvIs.comp hce hE rfl
    clear hce
    refine ETs_nil ?_
    refine pos_ rfl ?_
    walk_at "m.run"
    refine kid_spec P (r'.le (by decide)) (S.fset.le l6).F (by omega) fun q q0 q1 => ?_
    refine ⟨ks ++ [q], fset_le2 (k₂ := k + 2 + i + 1) l6, by rw [fset_ne (nf e1)]; exact c1, by rw [fset_ne (nf e2)]; exact c2, by rw [fset_ne (nf e3)]; exact c3, G6.fset, by rw [List.map_append]; rfl, by simp [hkl], fun x hx => ?_⟩
    rcases List.mem_append.mp hx with hx | hx
    · exact hkb x hx
    · rw [List.mem_singleton.mp hx]; exact ⟨q0, q1⟩
  intro acc τ' KD z0 hKD
  refine ex1 z0 fun ks z1 => ?_
  refine an8 z1 fun l6 c1 c2 c3 G6 e_1 hkl hkb => ?_
  clear z1 z0
  subst e_1
  simp only [List.length_map, List.length_range] at l6 hkl
  have m7 := le_new (o := .list (ks.map AV.int)) hKD
  have l7 := l6.trans m7
  have c1 := m7 _ _ c1
  have c2 := m7 _ _ c2
  have c3 := m7 _ _ c3
  have G7 : NoGhost (τ'.set KD (.list (ks.map AV.int))) := G6.set rfl
  have hK7 : (τ'.set KD (.list (ks.map AV.int))) KD = some (.list (ks.map AV.int)) := set_self ..
  have hKσ : σ KD = none := by
    have := le_none l6 hKD
    cases q : σ KD with
    | none => rfl
    | some o =>
      by_cases e : KD = a.fd
      · rw [e, show fset σ a.fd a.c (k + 2 + v) a.fd = _ from set_self ..] at this; cases this
      · rw [fset_ne e, q] at this; cases this
  have hk' : k + 2 + v ≤ k + 14 := by omega
  have S7 := (S.fset (k' := k + 2 + v)).le l7
  have s7 : Same a σ (τ'.set KD (.list (ks.map AV.int))) := Same.fset.trans (Same.le l7)
  clear l6 hKD m7 G6 l5 l4 l3 l2 l1 l0 G5 G4 G3 G2 G1 G0 hr5 hrr m5 m1 hla1 hla
  generalize k + 2 + v = k' at *
  generalize τ'.set KD (.list (ks.map AV.int)) = τ7 at *
  walk_at "m.run"
  have hko : okOp op := takeOk op ho
  have hk2 : ks.length ≤ 2 := by omega
  obtain ⟨lN, lW, lD⟩ := I.len
  have hMt := fun V hV => (hM V hV).tre
  refine XS.mono (Q := fun f ρ' σ' => f = .next ∧ ∃ g, ρ' = ([("bank", .ref a.p.b), ("op", .str op), ("kids", .ref KD), ("got", .int g)] : List (Str × AV)) ∧
    (((op ∈ lawOps ∧ ∀ k ∈ ks, 0 ≤ k ∧ k < (M.length : Int)) ∧ ∃ N' W' D' j, g = ((j : Nat) : Int) ∧ BInv N' (rankL (d + 1) M (treeOf op ks M)) W' D' ∧ (rankL (d + 1) M (treeOf op ks M))[j]? = some (treeOf op ks M) ∧ σ' = bset τ7 a.p N' W' D') ∨
      (¬ (op ∈ lawOps ∧ ∀ k ∈ ks, 0 ≤ k ∧ k < (M.length : Int)) ∧ g = -1 ∧ σ' = τ7))) ?_ ?_
  · refine ES_Try (K := hd.heap_39 X.w.params) (C := 60) (Er := fun ρ' σ' => ρ' = ([("bank", .ref a.p.b), ("op", .str op), ("kids", .ref KD)] : List (Str × AV)) ∧ ¬ (op ∈ lawOps ∧ ∀ k ∈ ks, 0 ≤ k ∧ k < (M.length : Int)) ∧ σ' = τ7) hr P.K P.exc (by rfl) hE.k (hE.l (by rfl)) hE.g (mg_of P.K X.g (by rfl)) G7 ?_ ?_
    · with_reducible refine ESs_cons ?_
      walk_at "m.s"
      refine EV_meth_fn (f := 98) (P.K 98 _ rfl) rfl rfl (by decide) rfl rfl ?_
      walk_at "m.run"
      refine ⟨meth_take P S7.B.at', ?_⟩
      walk_at "m.run"
      refine take_spec P (r'.le (by decide)) S7.B hko hk2 (fun x hx => .inr (by have := hkb x hx; omega)) (by omega) lW lD (.inr ⟨KD, rfl, hK7⟩) ?_ ?_ ?_
      · intro i hi
        have y := I.get hi
        have hil := (List.getElem?_eq_some_iff.mp hi).1
        have hg : op ∈ lawOps ∧ ∀ k ∈ ks, 0 ≤ k ∧ k < (M.length : Int) := ⟨I.law_op hM (List.mem_of_getElem? hi), fun x hx => by have := y.k x hx; omega⟩
        obtain ⟨_, q1, _⟩ := I.rank_node hMt hg.2 hko hk2
        have q1 := q1 (List.mem_of_getElem? y.M)
        walk_at "m.run"
        exact ⟨rfl, _, rfl, .inl ⟨hg, N, W, D, i, rfl, by rw [q1]; exact I, by rw [q1]; exact y.M, S7.B.same.symm⟩⟩
      · intro hni hb
        refine ⟨rfl, ?_, rfl⟩
        rintro ⟨g1, g2⟩
        rcases hb with hb | ⟨x, hx, hb⟩
        · rw [lawGood op g1] at hb; cases hb
        · exact hb (by have := g2 x hx; omega)
      · intro hni hg hin
        have hin' : ∀ k ∈ ks, 0 ≤ k ∧ k < (M.length : Int) := fun x hx => by have := hin x hx; omega
        obtain ⟨_, _, q2⟩ := I.rank_node hMt hin' hko hk2
        have q2 := q2 (fun q => by
          obtain ⟨i, hi⟩ := List.getElem?_of_mem q
          exact hni (List.mem_of_getElem? (I.find hin hi)))
        walk_at "m.run"
        refine ⟨rfl, _, rfl, .inl ⟨⟨takeLaw op ho hg, hin'⟩, _, _, _, N.length, rfl, by rw [q2]; exact I.snoc hin hni hg hko hk2, ?_, rfl⟩⟩
        rw [q2, ← lN, List.getElem?_append_right (Nat.le_refl _), Nat.sub_self]; rfl
    · rintro B' hB' ρ' σ' ⟨rfl, hg, rfl⟩
      walk_at "m.run"
      exact ⟨rfl, _, rfl, .inr ⟨hg, rfl, rfl⟩⟩
  · rintro f ρ' σ' ⟨rfl, g, rfl, hcase⟩
    show ESs _ _ _ _ _ σ' _ _
    have hs7 : Same a τ7 σ' := by
      rcases hcase with ⟨_, N', W', D', j, _, _, _, rfl⟩ | ⟨_, _, rfl⟩
      · exact .bset
      · exact .refl
    have c1 := hs7 _ _ (S.free e1) c1
    have c2 := hs7 _ _ (S.free e2) c2
    have c3 := hs7 _ _ (S.free e3) c3
    have hK7 := hs7 _ _ (S.free hKσ) hK7
    have s8 := s7.trans hs7
    have S8 : ∃ N' W' D', St X σ' a cs k' N' W' D' M ∧ (¬ (op ∈ lawOps ∧ ∀ k ∈ ks, 0 ≤ k ∧ k < (M.length : Int)) → N' = N ∧ BInv N' M W' D') := by
      rcases hcase with ⟨hg, N', W', D', j, _, _, _, rfl⟩ | ⟨_, _, rfl⟩
      · exact ⟨_, _, _, S7.bset, fun q => absurd hg q⟩
      · exact ⟨_, _, _, S7, fun _ => ⟨rfl, I⟩⟩
    have hTr : ∀ (hg : op ∈ lawOps ∧ ∀ k ∈ ks, 0 ≤ k ∧ k < (M.length : Int)), LTre (d + 1) (treeOf op ks M) := fun hg => ⟨op, _, rfl, hg.1, by simpa using hk2, fun x hx => by
      obtain ⟨y, hy, rfl⟩ := List.mem_map.mp hx
      exact hM _ (getD_mem (by have := hg.2 y hy; omega))⟩
    -- the end when the call must be refused
    have bad : ¬ (op ∈ lawOps ∧ ∀ k ∈ ks, 0 ≤ k ∧ k < (M.length : Int)) → ∀ τ8 : Store, σ'.le τ8 → ESs X B env [("bank", .ref a.p.b), ("op", .str op), ("kids", .ref KD), ("got", .int g)] [Stmt.Return (some (Expr.BoolOp .And [Expr.Compare (Expr.Name "got" ⟨142, 15, 142, 18⟩) [.Eq] [Expr.UnaryOp .USub (Expr.Constant (.int 1) 0 ⟨142, 23, 142, 24⟩) ⟨142, 22, 142, 24⟩] ⟨142, 15, 142, 24⟩,
        Expr.Compare (Expr.Call (Expr.Attribute (Expr.Name "bank" ⟨142, 29, 142, 33⟩) "size" ⟨142, 29, 142, 38⟩) [] [] ⟨142, 29, 142, 40⟩) [.Eq] [Expr.Name "before" ⟨142, 44, 142, 50⟩] ⟨142, 29, 142, 50⟩] ⟨142, 15, 142, 50⟩)) ⟨142, 8, 142, 50⟩] τ8 (fun fl _ σ' => ∃ V, fl = .ret V ∧ ∃ σ₂ : Store, σ₂.le σ' ∧ Q V σ₂) (EXF X B env fun _ σ => Es σ) := by
      intro hg τ8 l8
      have hg1 : g = -1 := by
        rcases hcase with ⟨hg', _⟩ | ⟨_, q, _⟩
        · exact absurd hg' hg
        · exact q
      subst hg1
      obtain ⟨N', W', D', S8, hN⟩ := S8
      obtain ⟨rfl, I8⟩ := hN hg
      have S9 := S8.le l8
      have c3 := l8 _ _ c3
      walk_at "m.run"
      with_reducible refine EV_And2 ?_
      walk_at "m.run"
      rw [show ((-1 : Int) == -1) = true by rfl, if_pos rfl]
      refine EV_Compare1 ?_ ?_
      rotate_left
      · with_unfolding_all rfl
      refine EV_meth_fn (f := 93) (P.K 93 _ rfl) rfl rfl (by decide) rfl rfl ?_
      walk_at "m.run"
      refine ⟨meth_size P S9.B.at', ?_⟩
      walk_at "m.run"
      refine size_spec P r'.d S9.B.at' S9.B.nn (by simp; omega) ?_
      walk_at "m.run"
      rw [show (((N'.map nodeAV).length : Int) == M.length) = true by simp [lN]]
      exact ⟨_, rfl, _, lset_le (s8.trans (Same.le l8)) S9, h k' _ _ _ _ I8 (fun V hV => (hM V hV).up) (by omega) hk'⟩
    with_reducible refine ESs_cons ?_
    with_reducible refine ES_If ?_
    with_reducible refine EB_And ?_
    with_reducible refine allTrue_or ?_
    walk_at "m.run"
    refine width_spec P r'.d fun WD hWD => ?_
    have m9 := le_new (o := .sdict [("a", .int 0), ("f", .int 1), ("g", .int 2), ("b", .int 0)]) hWD
    refine op_notin_s (set_self ..) ?_
    refine truthy_bool ?_
    rw [takeFine op ho]
    by_cases hop : op ∈ lawOps
    · rw [decide_eq_true hop, Bool.not_true, if_neg (by decide)]
      have c1 := m9 _ _ c1
      have c2 := m9 _ _ c2
      have c3 := m9 _ _ c3
      have hK9 := m9 _ _ hK7
      generalize σ'.set WD (.sdict [("a", .int 0), ("f", .int 1), ("g", .int 2), ("b", .int 0)]) = τ9 at *
      with_reducible refine allTrue_or ?_
      walk_at "m.run"
      refine ⟨τ9, _, _, fun i acc τ' => τ' = τ9 ∧ acc = ((ks.take i).filter fun k => !(decide (0 ≤ k) && decide (k < (M.length : Int)))).map AV.int, its_list r'.han hK9, by simp; omega, ⟨rfl, rfl⟩, fun _ _ _ e => by rw [e.1]; exact hK9, ?_, ?_⟩
      · rintro C i acc τ' V hV ⟨rfl, rfl⟩ hC
        rw [List.getElem?_map] at hV
        obtain ⟨x, hx, rfl⟩ := Option.map_eq_some_iff.mp hV
        generalize hce : compEnvC _ _ C env = cenv
        have hcE := EnvIs.comp hce hE rfl
        clear hce
        have fin : ∀ b, b = !(decide (0 ≤ x) && decide (x < (M.length : Int))) → (if b = true then EV X B cenv [("kid", .int x)] (Expr.Name "kid" ⟨141, 34, 141, 37⟩) τ' (fun U σ₃ => σ₃ = τ' ∧ ((ks.take i).filter fun k => !(decide (0 ≤ k) && decide (k < (M.length : Int)))).map AV.int ++ [U] = ((ks.take (i + 1)).filter fun k => !(decide (0 ≤ k) && decide (k < (M.length : Int)))).map AV.int) (EXF X B cenv NeverF)
            else τ' = τ' ∧ ((ks.take i).filter fun k => !(decide (0 ≤ k) && decide (k < (M.length : Int)))).map AV.int = ((ks.take (i + 1)).filter fun k => !(decide (0 ≤ k) && decide (k < (M.length : Int)))).map AV.int) := by
          rintro b hb
          rw [take_succ_get hx, List.filter_append, List.map_append]
          cases b
          · refine neg_ (by decide) ?_
            simp only [List.filter_cons, List.filter_nil, ← hb, Bool.false_eq_true, if_false, List.map_nil, List.append_nil, and_self]
          · refine pos_ rfl ?_
            walk_at "m.run"
            simp only [List.filter_cons, List.filter_nil, ← hb, if_true, List.map_nil, List.map_cons, and_self]
        with_reducible refine ETs_one ?_
        with_reducible refine EB_Not ?_
        with_reducible refine EB_Compare2 ?_ ?_
        rotate_left
        · with_unfolding_all rfl
        walk_at "m.run"
        by_cases h0 : 0 ≤ x
        · refine pos_ (by simpa using h0) ?_
          walk_at "m.run"
          exact fin _ (by rw [decide_eq_true h0, Bool.true_and])
        · refine neg_ (by simpa using h0) ?_
          exact fin _ (by rw [decide_eq_false h0, Bool.false_and])
      · rintro acc τ' FD ⟨rfl, rfl⟩ hFD
        walk_at "m.run"
        refine ⟨rfl, fun fa hfa _ => ?_⟩
        have hfne : FD ≠ fa := Nat.ne_of_lt (hfa FD _ (set_self ..))
        rw [List.length_map, List.take_length] at hfa ⊢
        have m10 := (le_new (o := .list ((ks.filter fun k => !(decide (0 ≤ k) && decide (k < (M.length : Int)))).map AV.int)) hFD).trans (le_set (o := .list []) hfa)
        refine op_ne_list (n := 0) (by rw [set_ne hfne, set_self]) (set_self ..) ?_ rfl (r'.u (by decide)) ?_
        · rw [datBs_all]
          intro V hV
          obtain ⟨x, _, rfl⟩ := List.mem_map.mp hV
          exact datB_int ..
        rw [avEqs_nil, List.isEmpty_map]
        have c1 := m10 _ _ c1
        have c2 := m10 _ _ c2
        have hK9 := m10 _ _ hK9
        have l10 := m9.trans m10
        generalize (τ'.set FD (.list ((ks.filter fun k => !(decide (0 ≤ k) && decide (k < (M.length : Int)))).map AV.int))).set fa (.list []) = τ10 at *
        refine truthy_bool ?_
        cases hq : (ks.filter fun k => !(decide (0 ≤ k) && decide (k < (M.length : Int)))).isEmpty with
        | false =>
          rw [Bool.not_false, if_pos rfl, if_pos rfl]
          refine (bad ?_ τ10 l10).mono fun _ _ _ hv => by obtain ⟨V, rfl, hv⟩ := hv; exact hv
          rintro ⟨_, hin⟩
          have : (ks.filter fun k => !(decide (0 ≤ k) && decide (k < (M.length : Int)))) = [] := by
            rw [List.filter_eq_nil_iff]
            intro x hx
            have := hin x hx
            simp [this.1, this.2]
          rw [this] at hq; cases hq
        | true =>
          rw [Bool.not_true, if_neg (by decide)]
          refine allTrue_nil ?_
          refine neg_ (by decide) ?_
          have hin : ∀ k ∈ ks, 0 ≤ k ∧ k < (M.length : Int) := by
            rw [List.isEmpty_iff, List.filter_eq_nil_iff] at hq
            intro x hx
            have := hq x hx
            simpa using this
          have hg : op ∈ lawOps ∧ ∀ k ∈ ks, 0 ≤ k ∧ k < (M.length : Int) := ⟨hop, hin⟩
          obtain ⟨N', W', D', j, rfl, I', hj, rfl⟩ : ∃ N' W' D' j, g = ((j : Nat) : Int) ∧ BInv N' (rankL (d + 1) M (treeOf op ks M)) W' D' ∧ (rankL (d + 1) M (treeOf op ks M))[j]? = some (treeOf op ks M) ∧ σ' = bset τ7 a.p N' W' D' := by
            rcases hcase with ⟨_, q⟩ | ⟨q, _⟩
            · exact q
            · exact absurd hg q
          have S10 := (S7.bset (N' := N') (W' := W') (D' := D')).le l10
          have s10 := s8.trans (Same.le l10)
          walk_at "m.run"
          refine ⟨rfl, ?_⟩
          walk_at "m.run"
          refine ⟨τ10, _, _, fun i acc τ' => τ' = τ10 ∧ acc = (ks.take i).map fun k => M.getD k.toNat .none, its_list r'.han hK9, by simp; omega, ⟨rfl, rfl⟩, fun _ _ _ e => by rw [e.1]; exact hK9, ?_, ?_⟩
          · rintro C i acc τ' V hV ⟨rfl, rfl⟩ hC
            rw [List.getElem?_map] at hV
            obtain ⟨x, hx, rfl⟩ := Option.map_eq_some_iff.mp hV
            have hxb := hin x (List.mem_of_getElem? hx)
            generalize hce : compEnvC _ _ C env = cenv
            have hcE := EnvIs.comp hce hE rfl
            clear hce
            refine ETs_nil ?_
            refine pos_ rfl ?_
            walk_at "m.run"
            refine it_list S10.mm hxb.1 (by omega) (getD_some (by omega)) ⟨rfl, ?_⟩
            rw [take_succ_get hx, List.map_append]; rfl
          · rintro acc τ' TD ⟨rfl, rfl⟩ hTD
            rw [List.length_map, List.take_length]
            have m11 := le_new (o := .list (ks.map fun k => M.getD k.toNat .none)) hTD
            refine WC_tuple_list (set_self ..) (by simp; omega) ?_
            refine op_add_tup (by simp; omega) ?_
            rw [show AV.tup ([AV.str op] ++ ks.map fun k => M.getD k.toNat .none) = treeOf op ks M from rfl]
            have S11 := S10.le m11
            have s11 := s10.trans (Same.le m11)
            have c2 := m11 _ _ c2
            generalize τ'.set TD (.list (ks.map fun k => M.getD k.toNat .none)) = τ11 at *
            have hL := hTr hg
            have hRL : ∀ U ∈ rankL (d + 1) M (treeOf op ks M), LTre (d + 1) U := rankL_ltre (Nat.le_refl _) hL (fun V hV => (hM V hV).up)
            obtain ⟨_, q1, q2⟩ := I.rank_node hMt hin hko hk2
            have hlen : (rankL (d + 1) M (treeOf op ks M)).length ≤ M.length + 1 := by
              by_cases q : treeOf op ks M ∈ M
              · rw [q1 q]; omega
              · rw [q2 q]; simp
            have hp2 : 2 ^ (d + 1) ≤ 1024 := Nat.pow_le_pow_right (by decide) (by omega : d + 1 ≤ 10)
            walk_at "m.run"
            with_reducible refine EV_And2 ?_
            walk_at "m.run"
            refine ranked_spec P (d := d + 1) (by omega) (d + 1) (r'.le (by omega)) (Nat.le_refl _) S11.mm (fun U hU => (hM U hU).up.tre) hL.tre (by omega) fun i hi => ?_
            rw [first_one I' hi hj]
            walk_at "m.run"
            rw [show (((j : Nat) : Int) == j) = true by simp, if_pos rfl]
            have S12 := S11.mset (M' := rankL (d + 1) M (treeOf op ks M))
            have s12 : Same a σ (τ11.set a.m (.list (rankL (d + 1) M (treeOf op ks M)))) := s11.trans .mset
            have c2 : (τ11.set a.m (.list (rankL (d + 1) M (treeOf op ks M)))) (L + 2) = some (.cell (some (.ref a.m))) := by rw [set_ne (fun q => S.free e2 (.inr (.inl q)))]; exact c2
            generalize τ11.set a.m (.list (rankL (d + 1) M (treeOf op ks M))) = τ12 at *
            walk_at "m.run"
            refine EV_meth_fn (f := 93) (P.K 93 _ rfl) rfl rfl (by decide) rfl rfl ?_
            walk_at "m.run"
            refine ⟨meth_size P S12.B.at', ?_⟩
            walk_at "m.run"
            have hl2 := I'.len.1
            refine size_spec P r'.d S12.B.at' S12.B.nn (by simp; omega) ?_
            walk_at "m.run"
            refine WC_len S12.mm (by omega) ?_
            walk_at "m.run"
            rw [show (((N'.map nodeAV).length : Int) == (rankL (d + 1) M (treeOf op ks M)).length) = true by simp [hl2]]
            exact ⟨_, lset_le s12 S12, h k' _ _ _ _ I' hRL (by omega) hk'⟩
    · rw [decide_eq_false hop, Bool.not_false, if_pos rfl, if_pos rfl]
      exact (bad (fun q => hop q.1) _ m9).mono fun _ _ _ hv => by obtain ⟨V, rfl, hv⟩ := hv; exact hv
end
end
section
theorem notLaw : ∀ op ∈ lawOps, op ++ ("z" : Str) ∉ lawOps := by decide +kernel
theorem lawLen : ∀ op ∈ lawOps, op.length + ("z" : Str).length ≤ 1000 := by decide +kernel
theorem first_self {N : List Node} {M : List AV} {W D : List Int} (I : BInv N M W D) {j : Nat} {V : AV} (e : M[j]? = some V) : FirstAt M V j := ⟨e, fun i U hi hU q => by
  subst q
  have := I.inj i j U hU e
  omega⟩
section
variable {X : Cx} {A : Around} {σ : Store} {Q : AV → Store → Prop} {Es : Store → Prop} {p : BP} {m : Addr} {N : List Node} {W D : List Int} {M : List AV}
theorem known_right_spec (P : Pk X) (r : Room A 14) (BK : Bk X σ p N W D) (hm : σ m = some (.list M)) (I : BInv N M W D) {d : Nat} (hd2 : d ≤ 10) (hM : ∀ V ∈ M, LTre d V) (hz : M.length < 64) {i : Nat} (hi : i < M.length) (h : Q (.bool true) σ) :
    WC X A (.ref 250) [.ref p.b, .int i, .ref m] σ Q Es := by
  refine WC.lower ?_
  refine WC_p P (ns := ["bank", "n", "mine"]) rfl rfl (codeRec_of P.K (by rfl)) rfl rfl r.d ?_ (by decide +kernel) (by decide +kernel) ?_
  · exact all3 fun a b c => rfl
  intro L hL
  show ESs _ _ _ [("bank", .ref p.b)] _ ((σ.set (L + 1) (.cell (some (.int i)))).set (L + 2) (.cell (some (.ref m)))) _ _
  generalize he : callEnvC _ L 250 = env
  have hr : Here (A.deeper env) env := here_of he r.frm
  have hE := EnvIs.of he rfl rfl rfl
  have r' : Room (A.deeper env) (13) := r.deeper
  generalize A.deeper env = B at *
  have e1 : σ (L + 1) = none := (hL.mono (Nat.le_add_right L 1)).none
  have e2 : σ (L + 2) = none := (hL.mono (Nat.le_add_right L 2)).none
  have l0 : σ.le ((σ.set (L + 1) (.cell (some (.int i)))).set (L + 2) (.cell (some (.ref m)))) := le_upd (le_upd (.refl _) e1) e2
  have c1 : ((σ.set (L + 1) (.cell (some (.int i)))).set (L + 2) (.cell (some (.ref m)))) (L + 1) = some (.cell (some (.int i))) := by rw [set_ne (cne (by decide)), set_self]
  have c2 : ((σ.set (L + 1) (.cell (some (.int i)))).set (L + 2) (.cell (some (.ref m)))) (L + 2) = some (.cell (some (.ref m))) := set_self ..
  generalize (σ.set (L + 1) (.cell (some (.int i)))).set (L + 2) (.cell (some (.ref m))) = τ at *
  have lN := I.len.1
  obtain ⟨op, ks, hx⟩ := node_at (N := N) (i := i) (by omega)
  have y := I.get hx
  have hop : op ∈ lawOps := I.law_op hM (List.mem_of_getElem? hx)
  have hx2 : (N.map nodeAV)[(i : Int).toNat]? = some (.tup (.str op :: ks.map AV.int)) := by
    rw [Int.toNat_natCast, List.getElem?_map, hx]; rfl
  have hMt := fun V hV => (hM V hV).tre
  have hl := y.l
  have hT := hM _ (List.mem_of_getElem? y.M)
  obtain ⟨hw1, hw2⟩ := I.weights hMt i _ y.M
  have hMD : M.getD i .none = treeOf op ks M := by rw [List.getD_eq_getElem?_getD, y.M]; rfl
  have BK0 := BK.le l0
  walk_at "m.run"
  refine it_list (l0 _ _ hm) (by omega) (by omega) (V := treeOf op ks M) (by rw [Int.toNat_natCast]; exact y.M) ?_
  walk_at "m.run"
  refine ⟨.str op, ks.map fun k => M.getD k.toNat .none, rfl, by simp; omega, ?_⟩
  refine ⟨τ, _, _, fun j acc τ' => τ' = τ ∧ acc = (ks.take j).map AV.int, its_tup r'.han, by simp; omega, ⟨rfl, rfl⟩, fun _ _ _ _ => trivial, ?_, ?_⟩
  · rintro C j acc τ' V hV ⟨rfl, rfl⟩ hC
    rw [List.getElem?_map] at hV
    obtain ⟨x, hx, rfl⟩ := Option.map_eq_some_iff.mp hV
    have hxb := y.k x (List.mem_of_getElem? hx)
    generalize hce : compEnvC _ _ C env = cenv
    have hcE := EnvIs.comp hce hE rfl
    clear hce
    refine ETs_nil ?_
    refine pos_ rfl ?_
    walk_at "m.run"
    ((with_reducible refine EV_meth_bi (id := "list.index") ?_ ?_ ?_ ?_ ?_); rfl; decide; rfl; rfl)
    walk_at "m.run"
    refine ⟨GetM_index (l0 _ _ hm), ?_⟩
    walk_at "m.run"
    refine WC_index1 (n := d) (l0 _ _ hm) (fun W hW => (hMt W hW).dat) (hMt _ (getD_mem (by omega))).dat (r'.u (by omega)) (by omega) (first_self I (j := x.toNat) (getD_some (by omega))) ⟨rfl, ?_⟩
    rw [take_succ_get hx, List.map_append, show ((x.toNat : Nat) : Int) = x by omega]; rfl
  rintro acc τ' KD ⟨rfl, rfl⟩ hKD
  rw [List.length_map, List.take_length]
  have m1 := le_new (o := .list (ks.map AV.int)) hKD
  refine WC_tuple_list (set_self ..) (by simp; omega) ?_
  have l1 := l0.trans m1
  have c1 := m1 _ _ c1
  have c2 := m1 _ _ c2
  generalize τ'.set KD (.list (ks.map AV.int)) = τ1 at *
  have BK1 := BK.le l1
  walk_at "m.run"
  with_reducible refine EB_And ?_
  with_reducible refine allTrue_or ?_
  walk_at "m.run"
  refine ⟨τ1, _, _, fun j acc τ' => τ' = τ1 ∧ acc = [], its_tup r'.han, by simp; omega, ⟨rfl, rfl⟩, fun _ _ _ _ => trivial, ?_, ?_⟩
  · rintro C j acc τ' V hV ⟨rfl, rfl⟩ hC
    rw [List.getElem?_map] at hV
    obtain ⟨x, hx, rfl⟩ := Option.map_eq_some_iff.mp hV
    have hxb := y.k x (List.mem_of_getElem? hx)
    generalize hce : compEnvC _ _ C env = cenv
    have hcE := EnvIs.comp hce hE rfl
    clear hce
    with_reducible refine ETs_one ?_
    walk_at "m.run"
    refine neg_ (by simp; omega) ?_
    exact ⟨rfl, rfl⟩
  rintro acc τ' FD ⟨rfl, rfl⟩ hFD
  walk_at "m.run"
  refine ⟨rfl, fun fa hfa _ => ?_⟩
  have hfne : FD ≠ fa := Nat.ne_of_lt (hfa FD _ (set_self ..))
  have m2 := (le_new (o := .list []) hFD).trans (le_set (o := .list []) hfa)
  refine op_ne_list (n := 0) (by rw [set_ne hfne, set_self]) (set_self ..) rfl rfl (r'.u (by decide)) ?_
  have l2 := l1.trans m2
  have c1 := m2 _ _ c1
  have c2 := m2 _ _ c2
  generalize (τ'.set FD (.list [])).set fa (.list []) = τ2 at *
  have BK2 := BK.le l2
  refine truthy_bool ?_
  rw [show (!avEqs [] []) = false by rfl, if_neg (by decide)]
  with_reducible refine allTrue_or ?_
  walk_at "m.run"
  refine EV_meth_fn (f := 131) (P.K 131 _ rfl) rfl rfl (by decide) rfl rfl ?_
  walk_at "m.run"
  refine ⟨meth_op P BK2.at', ?_⟩
  walk_at "m.run"
  refine op_spec P r'.d BK2.at' BK2.nn (by omega) (by omega) hx2 ?_
  walk_at "m.run"
  refine EV_meth_fn (f := 138) (P.K 138 _ rfl) rfl rfl (by decide) rfl rfl ?_
  walk_at "m.run"
  refine ⟨meth_kids P BK2.at', ?_⟩
  walk_at "m.run"
  refine kids_spec P r'.d BK2.at' BK2.nn (by omega) (by omega) hx2 (by simp; omega) ?_
  walk_at "m.run"
  refine EV_meth_fn (f := 145) (P.K 145 _ rfl) rfl rfl (by decide) rfl rfl ?_
  walk_at "m.run"
  refine ⟨meth_node P BK2.at', ?_⟩
  walk_at "m.run"
  refine node_spec P r'.d BK2.at' BK2.nn (by omega) (by omega) hx2 ?_
  walk_at "m.run"
  refine ⟨rfl, ?_⟩
  walk_at "m.run"
  refine it_tup (l := .str op :: ks.map fun k => M.getD k.toNat .none) (V := .str op) (Int.le_refl 0) (by decide) rfl ?_
  walk_at "m.run"
  refine it_tup (l := .str op :: ks.map fun k => M.getD k.toNat .none) (V := .str op) (Int.le_refl 0) (by decide) rfl ?_
  walk_at "m.run"
  refine ⟨rfl, ?_⟩
  walk_at "m.run"
  refine op_add_tup (by simp; omega) ?_
  walk_at "m.run"
  refine ⟨rfl, ?_⟩
  have hint : ∀ n, datBs (ks.map AV.int) n = true := fun n => datBs_all.mpr fun V hV => by
    obtain ⟨x, _, rfl⟩ := List.mem_map.mp hV
    exact datB_int ..
  have hdat : datBs [.str op, .tup (ks.map AV.int), .tup (.str op :: ks.map AV.int)] 1 = true := by
    show (datB _ 1 && (datBs (ks.map AV.int) 0 && (datBs (.str op :: ks.map AV.int) 0 && true))) = true
    rw [hint 0, datB_str]
    show (true && (true && ((datB (.str op) 0 && datBs (ks.map AV.int) 0) && true))) = true
    rw [hint 0, datB_str]; rfl
  refine op_ne_tup (n := 1) hdat hdat (r'.u (by decide)) ?_
  refine truthy_bool ?_
  rw [show avEqs [AV.str op, AV.tup (ks.map AV.int), AV.tup (.str op :: ks.map AV.int)] [AV.str op, AV.tup (ks.map AV.int), AV.tup ([.str op] ++ ks.map AV.int)] = true from avEqs_refl 1 _ hdat, Bool.not_true, if_neg (by decide)]
  refine allTrue_nil ?_
  refine neg_ (by decide) ?_
  walk_at "m.run"
  with_reducible refine EB_And ?_
  with_reducible refine allTrue_or ?_
  walk_at "m.run"
  refine EV_meth_fn (f := 150) (P.K 150 _ rfl) rfl rfl (by decide) rfl rfl ?_
  walk_at "m.run"
  refine ⟨meth_term P BK2.at', ?_⟩
  walk_at "m.run"
  refine term_spec P (r'.le (by decide)) BK2 I (by omega) (by omega) (by omega) ?_
  rw [Int.toNat_natCast, hMD]
  walk_at "m.run"
  have hdt : datBs (.str op :: ks.map fun k => M.getD k.toNat .none) d = true := by
    have := hT.tre.up.dat
    exact this
  refine op_ne_tup (n := d) hdt hdt (r'.u (by omega)) ?_
  refine truthy_bool ?_
  rw [avEqs_refl d _ hdt, Bool.not_true, if_neg (by decide)]
  with_reducible refine allTrue_or ?_
  walk_at "m.run"
  refine EV_meth_fn (f := 157) (P.K 157 _ rfl) rfl rfl (by decide) rfl rfl ?_
  walk_at "m.run"
  refine ⟨meth_weight P BK2.at', ?_⟩
  walk_at "m.run"
  refine weight_spec P r'.d BK2.at' BK2.ww (by omega) (by omega) (V := .int (heavyN d (treeOf op ks M))) (by rw [Int.toNat_natCast, List.getElem?_map, hw1]; rfl) ?_
  walk_at "m.run"
  refine heavy_spec P d (r'.le (by omega)) (by omega) hT.tre ?_
  walk_at "m.run"
  rw [show (heavyN d (treeOf op ks M) != heavyN d (treeOf op ks M)) = false by simp, if_neg (by decide)]
  with_reducible refine allTrue_or ?_
  walk_at "m.run"
  refine EV_meth_fn (f := 164) (P.K 164 _ rfl) rfl rfl (by decide) rfl rfl ?_
  walk_at "m.run"
  refine ⟨meth_depth P BK2.at', ?_⟩
  walk_at "m.run"
  refine depth_spec P r'.d BK2.at' BK2.dd (by omega) (by omega) (V := .int (longN d (treeOf op ks M))) (by rw [Int.toNat_natCast, List.getElem?_map, hw2]; rfl) ?_
  walk_at "m.run"
  refine long_spec P d (r'.le (by omega)) (by omega) hT.tre ?_
  walk_at "m.run"
  rw [show (longN d (treeOf op ks M) != longN d (treeOf op ks M)) = false by simp, if_neg (by decide)]
  refine allTrue_nil ?_
  refine neg_ (by decide) ?_
  walk_at "m.run"
  with_reducible refine EV_And2 ?_
  walk_at "m.run"
  refine EV_meth_fn (f := 171) (P.K 171 _ rfl) rfl rfl (by decide) rfl rfl ?_
  walk_at "m.run"
  refine ⟨meth_seek P BK2.at', ?_⟩
  walk_at "m.run"
  refine it_tup (l := .str op :: ks.map fun k => M.getD k.toNat .none) (V := .str op) (Int.le_refl 0) (by decide) rfl ?_
  walk_at "m.run"
  refine seek_spec P (r'.le (by decide)) BK2 hl (fun j hj => ?_) (fun q => absurd (List.mem_of_getElem? hx) q)
  obtain rfl : j = i := (List.getElem?_inj (List.getElem?_eq_some_iff.mp hj).1 I.nodup).mp (hj.trans hx.symm)
  walk_at "m.run"
  rw [show (((j : Nat) : Int) == j) = true by simp, if_pos rfl]
  walk_at "m.run"
  refine EV_meth_fn (f := 171) (P.K 171 _ rfl) rfl rfl (by decide) rfl rfl ?_
  walk_at "m.run"
  refine ⟨meth_seek P BK2.at', ?_⟩
  walk_at "m.run"
  refine it_tup (l := .str op :: ks.map fun k => M.getD k.toNat .none) (V := .str op) (Int.le_refl 0) (by decide) rfl ?_
  walk_at "m.run"
  refine op_add_str (lawLen op hop) ?_
  walk_at "m.run"
  refine seek_spec P (r'.le (by decide)) BK2 hl (fun j hj => absurd (I.law_op hM (List.mem_of_getElem? hj)) (notLaw op hop)) (fun _ => ?_)
  walk_at "m.run"
  exact ⟨_, l2, h⟩
end
end
section
/-! zip: another view of the heap, in which the tuple that zip turns is nobody's -/
noncomputable def Cx.at (X : Cx) (o : Addr → Prop) : Cx := { X with own := o }
section
variable {X : Cx} {o : Addr → Prop}
mutual
theorem VR.to {h h' : Heap} (k : ∀ b p, h.get? b = some p → h'.get? b = some p) (hn : ∀ a, o a → h.get? a = none) : ∀ (V : AV) (v : Value), VR X h V v → VR (X.at o) h' V v
  | .int _, _, x => x
  | .str _, _, x => x
  | .con _, _, x => x
  | .tup l, _, ⟨a, items, e, ht, hl⟩ => ⟨a, items, e, ⟨ht.1.keeps k, fun q => (by obtain ⟨ob, ho, _⟩ := ht.1; rw [hn a q] at ho; cases ho)⟩, VRs.to k hn l _ hl⟩
theorem VRs.to {h h' : Heap} (k : ∀ b p, h.get? b = some p → h'.get? b = some p) (hn : ∀ a, o a → h.get? a = none) : ∀ (Vs : List AV) (vs : List Value), VRs X h Vs vs → VRs (X.at o) h' Vs vs
  | [], _, x => x
  | V :: r, _, ⟨v, vs', e, hv, hr⟩ => ⟨v, vs', e, VR.to k hn V v hv, VRs.to k hn r vs' hr⟩
end
mutual
theorem VR.fro {h : Heap} (hX : ∀ a, ¬ X.own a) : ∀ (V : AV) (v : Value), VR (X.at o) h V v → VR X h V v
  | .int _, _, x => x
  | .str _, _, x => x
  | .con _, _, x => x
  | .tup l, _, ⟨a, items, e, ht, hl⟩ => ⟨a, items, e, ⟨ht.1, hX a⟩, VRs.fro hX l _ hl⟩
theorem VRs.fro {h : Heap} (hX : ∀ a, ¬ X.own a) : ∀ (Vs : List AV) (vs : List Value), VRs (X.at o) h Vs vs → VRs X h Vs vs
  | [], _, x => x
  | V :: r, _, ⟨v, vs', e, hv, hr⟩ => ⟨v, vs', e, VR.fro hX V v hv, VRs.fro hX r vs' hr⟩
end
theorem opr_to {h h' : Heap} (k : ∀ b p, h.get? b = some p → h'.get? b = some p) (hn : ∀ a, o a → h.get? a = none) {V : Option AV} {v : Option Value} (x : OpR X h V v) : OpR (X.at o) h' V v := by
  cases V <;> cases v <;> first | exact x | exact VR.to k hn _ _ x
theorem opr_fro {h : Heap} (hX : ∀ a, ¬ X.own a) {V : Option AV} {v : Option Value} (x : OpR (X.at o) h V v) : OpR X h V v := by
  cases V <;> cases v <;> first | exact x | exact VR.fro hX _ _ x
theorem isTupleKey_keeps {prog : Program} {w : World} {h h' : Heap} {ks : List OpKey} {a : Addr} (k : ∀ b p, h.get? b = some p → h'.get? b = some p) (x : IsTupleKey (opKind prog w) h ks a) : IsTupleKey (opKind prog w) h' ks a := by
  obtain ⟨ob, items, n, ho, r⟩ := x
  exact ⟨ob, items, n, k _ _ ho, r⟩
theorem OR.to {h h' : Heap} {a : Addr} (hX : ∀ a, ¬ X.own a) (k : ∀ b p, h.get? b = some p → h'.get? b = some p) (hn : ∀ a, o a → h.get? a = none) {O : AO} : OR X h a O → OR (X.at o) h' a O := by
  cases O with
  | ns _ =>
    intro z
    obtain ⟨M, ⟨ob, es, ep, ho, r⟩, hm⟩ := z
    exact ⟨M, ⟨ob, es, ep, k _ _ ho, r⟩, fun x => opr_to k hn (hm x)⟩
  | cell _ =>
    intro z
    obtain ⟨u, ⟨ob, ho, hd⟩, hv⟩ := z
    exact ⟨u, ⟨ob, k _ _ ho, hd⟩, opr_to k hn hv⟩
  | list _ =>
    intro z
    obtain ⟨vs, ⟨ob, ho, r⟩, ⟨n', ho'⟩, hv⟩ := z
    exact ⟨vs, ⟨ob, k _ _ ho, r⟩, ⟨n', k _ _ ho'⟩, VRs.to k hn _ _ hv⟩
  | sdict _ =>
    intro z
    obtain ⟨kvs, ⟨ob, es, ep, ho, r⟩, hv, hs⟩ := z
    exact ⟨kvs, ⟨ob, es, ep, k _ _ ho, r⟩, ⟨hv.1, VRs.to k hn _ _ hv.2⟩, hs⟩
  | idict _ =>
    intro z
    obtain ⟨kvs, ⟨ob, es, ep, ho, r⟩, hv, hs⟩ := z
    exact ⟨kvs, ⟨ob, es, ep, k _ _ ho, r⟩, ⟨hv.1, VRs.to k hn _ _ hv.2⟩, hs⟩
  | tdict _ =>
    intro z
    obtain ⟨xs, ⟨ob, es, ep, ho, hc, hd, he, hi, hnn⟩, hv, hw, hs⟩ := z
    exact ⟨xs, ⟨ob, es, ep, k _ _ ho, hc, hd, he, fun x hx => isTupleKey_keeps k (hi x hx), hnn⟩, ⟨hv.1, VRs.to k hn _ _ hv.2⟩, fun x hx q => (by
      obtain ⟨ob2, items, n, ho2, _⟩ := hi x hx
      rw [hn _ q] at ho2; cases ho2), hs⟩
  | raw ob =>
    intro z
    obtain ⟨ho, hc⟩ := z
    exact ⟨k _ _ ho, fun q => absurd (hc q) (hX a)⟩
  | titer _ =>
    intro z
    obtain ⟨t, i, ob, ho, hc, hd, ht, hv⟩ := z
    exact ⟨t, i, ob, k _ _ ho, hc, hd, ⟨ht.1.keeps k, fun q => (by obtain ⟨ob2, ho2, _⟩ := ht.1; rw [hn _ q] at ho2; cases ho2)⟩, VRs.to k hn _ _ hv⟩
  | tupg _ =>
    intro ht
    exact ⟨ht.1.keeps k, fun q => (by obtain ⟨ob2, ho2, _⟩ := ht.1; rw [hn _ q] at ho2; cases ho2)⟩
theorem OR.fro {h : Heap} {a : Addr} (hX : ∀ a, ¬ X.own a) (hna : ¬ o a) {O : AO} : OR (X.at o) h a O → OR X h a O := by
  cases O with
  | ns _ =>
    intro z
    obtain ⟨M, hM, hm⟩ := z
    exact ⟨M, hM, fun x => opr_fro hX (hm x)⟩
  | cell _ =>
    intro z
    obtain ⟨u, hu, hv⟩ := z
    exact ⟨u, hu, opr_fro hX hv⟩
  | list _ =>
    intro z
    obtain ⟨vs, h1, h2, hv⟩ := z
    exact ⟨vs, h1, h2, VRs.fro hX _ _ hv⟩
  | sdict _ =>
    intro z
    obtain ⟨kvs, h1, hv, hs⟩ := z
    exact ⟨kvs, h1, ⟨hv.1, VRs.fro hX _ _ hv.2⟩, hs⟩
  | idict _ =>
    intro z
    obtain ⟨kvs, h1, hv, hs⟩ := z
    exact ⟨kvs, h1, ⟨hv.1, VRs.fro hX _ _ hv.2⟩, hs⟩
  | tdict _ =>
    intro z
    obtain ⟨xs, h1, hv, hw, hs⟩ := z
    exact ⟨xs, h1, ⟨hv.1, VRs.fro hX _ _ hv.2⟩, fun x _ => hX _, hs⟩
  | raw ob =>
    intro z
    obtain ⟨ho, hc⟩ := z
    exact ⟨ho, fun q => absurd (hc q) hna⟩
  | titer _ =>
    intro z
    obtain ⟨t, i, ob, ho, hc, hd, ht, hv⟩ := z
    exact ⟨t, i, ob, ho, hc, hd, ⟨ht.1, hX _⟩, VRs.fro hX _ _ hv⟩
  | tupg _ =>
    intro ht
    exact ⟨ht.1, hX _⟩
variable {A : Around} {σ φ ψ ψ' : Store} {s : Shared}
theorem Ok.to {h' : Heap} (hX : ∀ a, ¬ X.own a) (x : Ok X σ s) (k : ∀ b p, s.heap.get? b = some p → h'.get? b = some p) (hn : ∀ a, o a → s.heap.get? a = none) (he : ∀ a, o a → ∃ p, h'.get? a = some p) : Ok (X.at o) σ { s with heap := h' } :=
  ⟨fun b p e => k b p (x.keep b p e), x.gens, x.drawn, x.os, fun a p e => ⟨(x.sto a p e).1.to hX k hn, (x.sto a p e).2⟩, he⟩
theorem kept_ghost {h' : Heap} (x : Okf X A φ (σ.join ψ) s) (d : Apart σ ψ) (hn : ∀ a p, ψ a = some p → p.isGhost = false) (k : ∀ b p, ψ b = none → s.heap.get? b = some p → h'.get? b = some p) : Kept X s.heap h' := fun a items t => by
  cases q : ψ a with
  | none => obtain ⟨⟨ob, ho, r⟩, n⟩ := t; exact ⟨⟨ob, k a ob q ho, r⟩, n⟩
  | some p => exact (((x.sto (join_right d q)).there (hn a p q)).choose_spec.2 ⟨items, t⟩).elim
theorem not_mid (x : Okf X A φ (σ.join ψ) s) (d : Apart σ ψ) {a : Addr} {p : AO} (e : (σ.join φ) a = some p) : ψ a = none ∧ ((σ.join ψ).join φ) a = some p := by
  have hq : ψ a = none := by
    cases q : ψ a with
    | none => rfl
    | some p' =>
      unfold Store.join at e
      cases q2 : σ a with
      | some p2 => have := d a p2 q2; rw [q] at this; cases this
      | none => rw [q2] at e; have := x.apart a p' (join_right d q); rw [this] at e; cases e
  refine ⟨hq, ?_⟩
  unfold Store.join at e ⊢
  cases q : σ a with
  | some p2 => rw [q] at e; exact e
  | none => rw [q] at e; simp only [hq]; exact e
theorem Okf.loseZ {h' : Heap} (x : Okf X A φ (σ.join ψ) s) (d : Apart σ ψ) (hn : ∀ a p, ψ a = some p → p.isGhost = false) (hown : ∀ a, X.own a → ∃ p, h'.get? a = some p)
    (k : ∀ b p, ψ b = none → s.heap.get? b = some p → h'.get? b = some p) : Okf X A φ σ { s with heap := h' } := by
  have kk := kept_ghost x d hn k
  refine ⟨fun a p e => x.apart a p (join_left e), ⟨fun b p e => ?_, x.ok.gens, x.ok.drawn, x.ok.os, fun a p e => ?_, hown⟩, x.fr⟩
  · cases q : ψ b with
    | none => exact k b p q (x.ok.keep b p e)
    | some p' => have := (x.ok.sto b p' (join_left (join_right d q))).2; rw [this] at e; cases e
  · obtain ⟨hq, e'⟩ := not_mid x d e
    obtain ⟨h1, h2⟩ := x.ok.sto a p e'
    exact ⟨h1.move kk fun o' ho' => k a o' hq ho', h2⟩
theorem Okf.swapZ {h' : Heap} (x : Okf X A φ (σ.join ψ) s) (d : Apart σ ψ) (hn : ∀ a p, ψ a = some p → p.isGhost = false) (hown : ∀ a, X.own a → ∃ p, h'.get? a = some p)
    (k : ∀ b p, ψ b = none → s.heap.get? b = some p → h'.get? b = some p) (hd : ∀ a p, ψ' a = some p → ψ a ≠ none) (ho : ∀ a p, ψ' a = some p → OR X h' a p) :
    Okf X A φ (σ.join ψ') { s with heap := h' } ∧ Apart σ ψ' ∧ Kept X s.heap h' := by
  have y := x.loseZ d hn hown k
  have z := y.adds (ψ := ψ') fun a p e => by
    cases q : ψ a with
    | none => exact (hd a p e q).elim
    | some p' => exact ⟨d.swap a p' q, x.apart a p' (join_right d q), (x.ok.sto a p' (join_left (join_right d q))).2, ho a p e⟩
  exact ⟨z.1, z.2, kept_ghost x d hn k⟩
theorem Okf.leave {h' : Heap} (hX : ∀ a, ¬ X.own a) (x : Okf (X.at o) A φ (σ.join ψ) s) (d : Apart σ ψ) (hn : ∀ a p, ψ a = some p → p.isGhost = false) (hown : ∀ a, o a → ψ a ≠ none)
    (k : ∀ b p, ψ b = none → s.heap.get? b = some p → h'.get? b = some p) : Okf X A φ σ { s with heap := h' } ∧ Kept (X.at o) s.heap h' := by
  have kk := kept_ghost x d hn k
  refine ⟨⟨fun a p e => x.apart a p (join_left e), ⟨fun b p e => ?_, x.ok.gens, x.ok.drawn, x.ok.os, fun a p e => ?_, fun a q => absurd q (hX a)⟩, x.fr⟩, kk⟩
  · cases q : ψ b with
    | none => exact k b p q (x.ok.keep b p e)
    | some p' => have := (x.ok.sto b p' (join_left (join_right d q))).2; rw [show X.h₀.get? b = none from this] at e; cases e
  · obtain ⟨hq, e'⟩ := not_mid x d e
    obtain ⟨h1, h2⟩ := x.ok.sto a p e'
    exact ⟨(h1.move kk fun o' ho' => k a o' hq ho').fro hX (fun q => hown a q hq), h2⟩
end
end
section
noncomputable abbrev zipO (n : Addr) (f0 : Value) : Obj := { cls := .type "zip", dict := none, data := .fields #[f0, .bool false, .bool false, .ref (n + 2), .ref (n + 3)], slots := #[] }
noncomputable abbrev pairO (a b : Value) : Obj := { cls := .type "tuple", data := .seq #[a, b] }
noncomputable def zst (n : Addr) (oz oT oO o1 o2 : Obj) : Store := fun c => if c = n + 4 then some (.raw oz) else if c = n + 2 then some (.raw oT) else if c = n + 3 then some (.raw oO) else if c = n then some (.raw o1) else if c = n + 1 then some (.raw o2) else none
section
variable {n : Addr} {oz oT oO o1 o2 : Obj}
theorem zst_some {c : Addr} {p : AO} (h : zst n oz oT oO o1 o2 c = some p) : (c = n + 4 ∧ p = .raw oz) ∨ (c = n + 2 ∧ p = .raw oT) ∨ (c = n + 3 ∧ p = .raw oO) ∨ (c = n ∧ p = .raw o1) ∨ (c = n + 1 ∧ p = .raw o2) := by
  unfold zst at h
  split at h
  · injection h with h; exact .inl ⟨by assumption, h.symm⟩
  split at h
  · injection h with h; exact .inr (.inl ⟨by assumption, h.symm⟩)
  split at h
  · injection h with h; exact .inr (.inr (.inl ⟨by assumption, h.symm⟩))
  split at h
  · injection h with h; exact .inr (.inr (.inr (.inl ⟨by assumption, h.symm⟩)))
  split at h
  · injection h with h; exact .inr (.inr (.inr (.inr ⟨by assumption, h.symm⟩)))
  · cases h
theorem zst_none {c : Addr} (h : zst n oz oT oO o1 o2 c = none) : c ≠ n + 4 ∧ c ≠ n + 2 ∧ c ≠ n + 3 ∧ c ≠ n ∧ c ≠ n + 1 := by
  unfold zst at h
  refine ⟨fun q => ?_, fun q => ?_, fun q => ?_, fun q => ?_, fun q => ?_⟩ <;> subst q <;> simp at h
theorem zst_z : zst n oz oT oO o1 o2 (n + 4) = some (.raw oz) := by unfold zst; simp
theorem zst_T : zst n oz oT oO o1 o2 (n + 2) = some (.raw oT) := by unfold zst; simp
theorem zst_O : zst n oz oT oO o1 o2 (n + 3) = some (.raw oO) := by unfold zst; simp
theorem zst_1 : zst n oz oT oO o1 o2 n = some (.raw o1) := by unfold zst; simp
theorem zst_2 : zst n oz oT oO o1 o2 (n + 1) = some (.raw o2) := by unfold zst; simp
end
noncomputable def ZS (n la lb : Addr) (i : Nat) (ψ : Store) : Prop := ∃ a b o1 o2, ψ = zst n (zipO n .none) (pairO (.ref n) (.ref (n + 1))) (pairO a b) o1 o2 ∧
  (o1.cls = .type "list_iterator" ∧ o1.data = .fields #[.ref la, .int (i : Nat) 0]) ∧ (o2.cls = .type "list_iterator" ∧ o2.data = .fields #[.ref lb, .int (i : Nat) 0])
section
variable {X : Cx} {A : Around} {env : Env} {ρ : List (Str × AV)} {σ : Store} {Er : List (Str × AV) → Store → Prop}
theorem ES_ForZip {nm : Str} {p cpos pos tp : Pos} {e1 e2 : Expr} {elts : List Expr} {tk : Nat} {body : List Stmt} {Q : AF → List (Str × AV) → Store → Prop} (hX : ∀ a, ¬ X.own a) (hr : Here A env) (hh : A.handled = none) (hn : noStar [e1, e2] = true)
    (h : EV X A env ρ (.Name nm p) σ (fun V σ₁ => V = .con (.type "zip") ∧ EVs X A env ρ [e1, e2] σ₁ (fun Vs σ₂ => ∃ (la lb : Addr) (l m : List AV) (Inv : Nat → List (Str × AV) → Store → Prop), Vs = [.ref la, .ref lb] ∧ l.length = m.length ∧ Inv 0 ρ σ₂ ∧
      (∀ i ρ' σ', Inv i ρ' σ' → σ' la = some (.list l) ∧ σ' lb = some (.list m)) ∧
      (∀ (o : Addr → Prop) i ρ' σ' V U, l[i]? = some V → m[i]? = some U → Inv i ρ' σ' → OpU (X.at o) A env ρ' (assign (.Tuple elts tk tp) env) (.tup [V, U]) σ' (fun ρ₂ σ₃ => ESs (X.at o) A env ρ₂ body σ₃ (fun f ρ₃ σ₄ => (f = .next ∨ f = .cont) ∧ Inv (i + 1) ρ₃ σ₄) (EXF (X.at o) A env NeverF)) (fun _ _ _ => False)) ∧
      ∀ ρ' σ', Inv l.length ρ' σ' → Q .next ρ' σ') (EXF X A env Er)) (EXF X A env Er))
    (hs : ∀ x, foldedSetIterable (.Call (.Name nm p) [e1, e2] [] cpos) env x = pure x := by intro _; rfl) :
    ES X A env ρ (.For (.Tuple elts tk tp) (.Call (.Name nm p) [e1, e2] [] cpos) body [] pos) σ Q (EXF X A env Er) := fun φ s F => by
  refine wpAny_For ?_ hs
  show wpAny _ A (eval (.Call (.Name nm p) [e1, e2] [] cpos) env) _ _ s
  rw [arm_eval_Call_Name']
  refine wpAny_bind (h.use F fun v V σ₁ s₁ ha x₁ k₁ h₁ => ?_)
  obtain ⟨rfl, h₂⟩ := h₁
  obtain rfl : v = .type "zip" := ha
  refine PyProof.Rows.callWith_type (backTo_plain hn) ((evalArgs_EVs hn h₂).use x₁ fun a Vs σ₂ s₂ hv x₂ k₂ h₃ => ?_)
  rw [hv.1]
  refine ex5 h₃ fun la lb l m Inv z1 => ?_
  refine an6 z1 fun e_1 hlm hI0 hneed hturn hend => ?_
  clear z1 h₃
  subst e_1
  obtain ⟨va, vb, hva, hra, hrb⟩ := vrs2 hv.2
  obtain rfl : va = .ref la := hra
  obtain rfl : vb = .ref lb := hrb
  rw [hva]
  obtain ⟨q1, q2⟩ := hneed _ _ _ hI0
  obtain ⟨vs1, hl1, -, hv1⟩ := x₂.sto q1
  obtain ⟨vs2, hl2, -, hv2⟩ := x₂.sto q2
  have fr := F.okf.fr
  generalize hn0 : s₂.heap.objs.size = n
  refine call_zip_2 hl1 hl2 fun h' hz hTI hTO hi1 hi2 hsz hk => ?_
  rw [hn0] at hz hTI hTO hi1 hi2 hsz ⊢
  refine wpAny_pyIter_zip hz ?_
  have hkk : Kept X s.heap s₂.heap := k₁.trans k₂
  have own0 : ∀ a, (a = n + 2 ∨ a = n + 3) → s₂.heap.get? a = none := fun a q => fresh_of (by rw [hn0]; rcases q with rfl | rfl <;> exact Nat.le_add_right _ _)
  have ownE : ∀ a, (a = n + 2 ∨ a = n + 3) → ∃ p, h'.get? a = some p := fun a q => by rcases q with rfl | rfl; exact ⟨_, hTI⟩; exact ⟨_, hTO⟩
  generalize hXo : (fun a => a = n + 2 ∨ a = n + 3 : Addr → Prop) = o at *
  have hoi : ∀ a, o a ↔ (a = n + 2 ∨ a = n + 3) := fun a => by rw [← hXo]
  have own0 : ∀ a, o a → s₂.heap.get? a = none := fun a q => own0 a ((hoi a).mp q)
  have ownE : ∀ a, o a → ∃ p, h'.get? a = some p := fun a q => ownE a ((hoi a).mp q)
  have y : Okf (X.at o) A ((Store.one env.locals (.ns ρ)).join φ) σ₂ { s₂ with heap := h' } := ⟨x₂.okf.apart, x₂.okf.ok.to hX hk own0 ownE, x₂.okf.fr⟩
  obtain ⟨oa, hoa, hca, hda⟩ := hi1
  obtain ⟨ob, hob, hcb, hdb⟩ := hi2
  have hfree : ∀ a, n ≤ a → σ₂ a = none ∧ ((Store.one env.locals (.ns ρ)).join φ) a = none ∧ X.h₀.get? a = none := fun a ha => by
    have f := x₂.okf.free2 (a := a) (by rw [hn0]; exact ha)
    refine ⟨f.1, f.2.1, ?_⟩
    cases q : X.h₀.get? a with
    | none => rfl
    | some p => have := x₂.okf.ok.keep a p q; rw [fresh_of (by rw [hn0]; exact ha)] at this; cases this
  obtain ⟨y1, d1⟩ := y.adds (ψ := zst n (zipO n .none) (pairO (.ref n) (.ref (n + 1))) (pairO .none .none) oa ob) fun a p e => by
    rcases zst_some e with ⟨rfl, rfl⟩ | ⟨rfl, rfl⟩ | ⟨rfl, rfl⟩ | ⟨ea, rfl⟩ | ⟨rfl, rfl⟩
    · obtain ⟨g1, g2, g3⟩ := hfree (n + 4) (Nat.le_add_right _ _)
      exact ⟨g1, g2, g3, hz, fun q => absurd (show (Value.type "zip" : Value) = .type "tuple" from q) (by decide)⟩
    · obtain ⟨g1, g2, g3⟩ := hfree (n + 2) (Nat.le_add_right _ _)
      exact ⟨g1, g2, g3, hTI, fun _ => (hoi _).mpr (.inl rfl)⟩
    · obtain ⟨g1, g2, g3⟩ := hfree (n + 3) (Nat.le_add_right _ _)
      exact ⟨g1, g2, g3, hTO, fun _ => (hoi _).mpr (.inr rfl)⟩
    · rw [ea]
      obtain ⟨g1, g2, g3⟩ := hfree n (Nat.le_refl _)
      exact ⟨g1, g2, g3, hoa, fun q => by rw [hca] at q; exact absurd q (by decide)⟩
    · obtain ⟨g1, g2, g3⟩ := hfree (n + 1) (Nat.le_add_right _ _)
      exact ⟨g1, g2, g3, hob, fun q => by rw [hcb] at q; exact absurd q (by decide)⟩
  have F0 : Fst (X.at o) A env ρ φ (σ₂.join (zst n (zipO n .none) (pairO (.ref n) (.ref (n + 1))) (pairO .none .none) oa ob)) { s₂ with heap := h' } := Fst.of_okf x₂.off.1 y1
  obtain ⟨F1, a1⟩ := F0.out d1
  have kk0 : ∀ a items, IsT X s.heap a items → IsT (X.at o) h' a items := fun a items t => by
    have t2 := hkk a items t
    exact ⟨t2.1.keeps hk, fun q => by obtain ⟨p, hp, _⟩ := t2.1; rw [own0 a q] at hp; cases hp⟩
  refine codeAny_forLoop_any (fun j s' => ∃ i ρ' σ' ψ', j = l.length + 1 - i ∧ i ≤ l.length ∧ ZS n la lb i ψ' ∧ Inv i ρ' σ' ∧ Apart ψ' φ ∧ Fst (X.at o) A env ρ' (ψ'.join φ) σ' s' ∧ ∀ a items, IsT X s.heap a items → IsT (X.at o) s'.heap a items) ?_ (l.length + 1)
    ⟨0, ρ, σ₂, _, by omega, by omega, ⟨_, _, oa, ob, rfl, ⟨hca, hda⟩, hcb, hdb⟩, hI0, a1, F1, kk0⟩
  rintro j s' ⟨i, ρ', σ', ψ', rfl, hi, ⟨pa, pb, o1, o2, rfl, ⟨hc1, hd1⟩, hc2, hd2⟩, hI, dψ, F', kk'⟩
  obtain ⟨F3, a3⟩ := F'.in dψ fr
  have gst : ∀ a p, zst n (zipO n .none) (pairO (.ref n) (.ref (n + 1))) (pairO pa pb) o1 o2 a = some p → p.isGhost = false := fun a p e => by
    rcases zst_some e with ⟨_, rfl⟩ | ⟨_, rfl⟩ | ⟨_, rfl⟩ | ⟨_, rfl⟩ | ⟨_, rfl⟩ <;> rfl
  have gz : IsZip s'.heap (n + 4) (n + 2) (n + 3) .none := (F3.sto (join_right a3 zst_z)).1
  have gT : IsPair s'.heap (n + 2) (.ref n) (.ref (n + 1)) := (F3.sto (join_right a3 zst_T)).1
  have gO : IsPair s'.heap (n + 3) pa pb := (F3.sto (join_right a3 zst_O)).1
  have g1 : s'.heap.IsListIter n la i := ⟨o1, (F3.sto (join_right a3 zst_1)).1, hc1, hd1⟩
  have g2 : s'.heap.IsListIter (n + 1) lb i := ⟨o2, (F3.sto (join_right a3 zst_2)).1, hc2, hd2⟩
  obtain ⟨qa, qb⟩ := hneed _ _ _ hI
  obtain ⟨ws1, gl1, -, gv1⟩ := F3.sto (join_left qa)
  obtain ⟨ws2, gl2, -, gv2⟩ := F3.sto (join_left qb)
  have out : ∀ {a p}, σ' a = some p → a ≠ n + 4 ∧ a ≠ n + 2 ∧ a ≠ n + 3 ∧ a ≠ n ∧ a ≠ n + 1 := fun e => zst_none (a3 _ _ e)
  have oa' := out qa
  have ob' := out qb
  have ap : ZipApart (n + 4) (n + 2) (n + 3) n (n + 1) la lb := by
    constructor <;> first | exact oa'.1 | exact oa'.2.2.1 | exact oa'.2.2.2.1 | exact oa'.2.2.2.2 | exact ob'.1 | exact ob'.2.2.1 | exact ob'.2.2.2.1 | exact ob'.2.2.2.2 | exact Nat.ne_of_lt (by omega) | exact Nat.ne_of_gt (by omega)
  have keepZ : ∀ {h' : Heap}, (∀ c p, c ≠ n + 4 → c ≠ n + 3 → c ≠ n → c ≠ n + 1 → s'.heap.get? c = some p → h'.get? c = some p) →
      ∀ b p, zst n (zipO n .none) (pairO (.ref n) (.ref (n + 1))) (pairO pa pb) o1 o2 b = none → s'.heap.get? b = some p → h'.get? b = some p := fun hk b p e hp => by
    refine an5 (zst_none e) fun z1 z2 z3 z4 z5 => ?_
    exact hk b p z1 z3 z4 z5 hp
  by_cases hlt : i < l.length
  · obtain ⟨V, hV⟩ : ∃ V, l[i]? = some V := ⟨l[i], by simp [hlt]⟩
    obtain ⟨U, hU⟩ : ∃ U, m[i]? = some U := ⟨m[i]'(by omega), List.getElem?_eq_getElem _⟩
    obtain ⟨x, hx, hxV⟩ := gv1.get hV
    obtain ⟨u, hu, huU⟩ := gv2.get hU
    refine wpAny_pyNext_zip_item ap gz gT gO g1 g2 gl1 gl2 (x := x) (y := u) (by simpa using hx) (by simpa using hu) fun h1 b1 b2 b3 b4 b5 b6 b7 => ?_
    show wpAny _ A (letOwnedTupleGo (.Tuple elts tk tp) (.ref (n + 4)) (.ref s'.heap.objs.size)) _ _ _
    refine wpAny_letOwnedTupleGo_zip b1 fun h2 c1 c2 => ?_
    have lt : ∀ {c p}, s'.heap.get? c = some p → c < s'.heap.objs.size := fun e => Heap.lt_size e
    have zlt := lt gz
    have e2 : ∀ c, c ≠ n + 4 → h2.get? c = h1.get? c := c2.2
    have k2 : ∀ c p, c ≠ n + 4 → c ≠ n + 3 → c ≠ n → c ≠ n + 1 → s'.heap.get? c = some p → h2.get? c = some p := fun c p z1 z2 z3 z4 e => by rw [e2 c z1]; exact b7 c p z1 z2 z3 z4 e
    obtain ⟨p1, hp1, hpc1, hpd1⟩ := b3
    obtain ⟨p2, hp2, hpc2, hpd2⟩ := b4
    have m4 : ∀ j, j < 4 → n + j ≠ n + 4 := fun j hj => Nat.ne_of_lt (by omega)
    have f1 : h2.get? n = some p1 := by rw [e2 n (Nat.ne_of_lt (by omega))]; exact hp1
    have f2 : h2.get? (n + 1) = some p2 := by rw [e2 _ (m4 1 (by omega))]; exact hp2
    have f3 : h2.get? (n + 3) = some (pairO x u) := by rw [e2 _ (m4 3 (by omega))]; exact b2
    have f4 : h2.get? (n + 2) = some (pairO (.ref n) (.ref (n + 1))) := k2 _ _ (m4 2 (by omega)) (Nat.ne_of_lt (by omega)) (Nat.ne_of_gt (by omega)) (Nat.ne_of_gt (by omega)) gT
    have fT : h2.get? s'.heap.objs.size = some (pairO x u) := by rw [e2 _ (Nat.ne_of_gt zlt)]; exact b5
    have oT : ¬ o s'.heap.objs.size := fun q => by
      rcases (hoi _).mp q with q | q
      · exact absurd (lt gT) (by rw [q]; exact Nat.lt_irrefl _)
      · exact absurd (lt gO) (by rw [q]; exact Nat.lt_irrefl _)
    obtain ⟨y2, d2, kk2⟩ := F3.okf.swapZ (h' := h2) (ψ' := zst n (zipO n .none) (pairO (.ref n) (.ref (n + 1))) (pairO x u) p1 p2) a3 gst (fun a q => by
        rcases (hoi _).mp q with rfl | rfl
        · exact ⟨_, f4⟩
        · exact ⟨_, f3⟩) (keepZ k2) (fun a p e q => by
        refine an5 (zst_none q) fun z1 z2 z3 z4 z5 => ?_
        rcases zst_some e with ⟨q, _⟩ | ⟨q, _⟩ | ⟨q, _⟩ | ⟨q, _⟩ | ⟨q, _⟩
        · exact z1 q
        · exact z2 q
        · exact z3 q
        · exact z4 q
        · exact z5 q) (fun a p e => by
        rcases zst_some e with ⟨rfl, rfl⟩ | ⟨rfl, rfl⟩ | ⟨rfl, rfl⟩ | ⟨ea, rfl⟩ | ⟨rfl, rfl⟩
        · exact ⟨c1, fun q => absurd (show (Value.type "zip" : Value) = .type "tuple" from q) (by decide)⟩
        · exact ⟨f4, fun _ => (hoi _).mpr (.inl rfl)⟩
        · exact ⟨f3, fun _ => (hoi _).mpr (.inr rfl)⟩
        · rw [ea]; exact ⟨f1, fun q => by rw [hpc1] at q; exact absurd q (by decide)⟩
        · exact ⟨f2, fun q => by rw [hpc2] at q; exact absurd q (by decide)⟩)
    have F4 : Fst (X.at o) A env ρ' φ (σ'.join (zst n (zipO n .none) (pairO (.ref n) (.ref (n + 1))) (pairO x u) p1 p2)) { s' with heap := h2 } := Fst.of_okf F3.off.1 y2
    obtain ⟨F5, a5⟩ := F4.out d2
    have hVU : VR (X.at o) h2 (.tup [V, U]) (.ref s'.heap.objs.size) := ⟨_, _, rfl, ⟨⟨_, fT, rfl, _, rfl⟩, oT⟩, .cons (VR.mono kk2 _ _ hxV) (.cons (VR.mono kk2 _ _ huU) .nil)⟩
    refine wpAny_mono (hturn o i ρ' σ' V U hV hU hI _ { s' with heap := h2 } _ hVU F5) (fun _ s6 ⟨ρ6, σ6, F6, k6, h6⟩ => ?_) fun _ _ e => e.elim
    refine wpAny_mono (XS.use (X := X.at o) h6 F6 fun a f ρ7 σ7 s7 hf F7 k7 h7 => ?_) (fun _ _ q => q) fun e s' h => (EXF.never (X := X.at o) h).elim
    have kk : ∀ a items, IsT X s.heap a items → IsT (X.at o) s7.heap a items := fun a items t => k7 _ _ (k6 _ _ (kk2 _ _ (kk' a items t)))
    obtain ⟨hf2, hI2⟩ := h7
    rcases hf2 with rfl | rfl
    · obtain rfl : a = .next := hf
      exact ⟨l.length + 1 - (i + 1), by omega, i + 1, ρ7, σ7, _, rfl, hlt, ⟨x, u, p1, p2, rfl, ⟨hpc1, hpd1⟩, hpc2, hpd2⟩, hI2, a5, F7, kk⟩
    · obtain rfl : a = .cont := hf
      exact ⟨l.length + 1 - (i + 1), by omega, i + 1, ρ7, σ7, _, rfl, hlt, ⟨x, u, p1, p2, rfl, ⟨hpc1, hpd1⟩, hpc2, hpd2⟩, hI2, a5, F7, kk⟩
  · have hie : i = l.length := by omega
    subst hie
    have hlw : ws1.length = l.length := gv1.length
    refine wpAny_pyNext_zip_end hh ap gz gT gO g1 g2 gl1 gl2 (.inl (by simp [hlw])) fun h2 hk2 => ?_
    obtain ⟨y2, kk2⟩ := F3.okf.leave hX (h' := h2) a3 gst (fun a q e => by
      refine an5 (zst_none e) fun z1 z2 z3 z4 z5 => ?_
      rcases (hoi _).mp q with q | q
      · exact z2 q
      · exact z3 q) (keepZ hk2)
    have F5 : Fst X A env ρ' φ σ' { s' with heap := h2 } := Fst.of_okf F3.off.1 y2
    exact wpAny_execs_nil ⟨.next, ρ', σ', rfl, F5, fun a items t => ⟨(kk2 _ _ (kk' a items t)).1, hX a⟩, hend ρ' σ' hI⟩
end
end
section
open PySem.SeqAt
section
variable {X : Cx} {A : Around} {env : Env} {ρ : List (Str × AV)} {σ : Store} {E : Store → Value → Shared → Prop} {Q : AV → Store → Prop}
/-- the first items of a list that is there from the beginning -/
theorem EV_upto0 {value : Expr} {i : Int} {k : Nat} {p1 p pos : Pos} {b : Addr} {us : List Value} {ns : List Int} (h0 : 0 ≤ i) (hb : X.h₀.IsList b us.toArray) (hu : IntsAre us ns) (hz : ns.length ≤ 1000)
    (h : EV X A env ρ value σ (fun V σ₁ => V = .ref b ∧ ∀ D, σ₁ D = none → Q (.ref D) (σ₁.set D (.list ((ns.take i.toNat).map AV.int)))) E) :
    EV X A env ρ (.Subscript value (.Slice none (some (.Constant (.int i) k p1)) none p) pos) σ Q E := fun φ s F =>
  Subscript_ (h.use F fun a V σ₁ s₁ ha F₁ k₁ h₁ => by
    obtain ⟨rfl, hq⟩ := h₁
    obtain rfl : a = .ref b := ha
    show wpAny _ _ (do let l ← (pure Value.none); let u ← holding [l] (eval (.Constant (.int i) k p1) env); let st ← holding [l, u] (pure Value.none); newFields "slice" [l, u, st]) _ _ s₁
    refine wpAny_bind (wpAny_pure (wpAny_bind (wpAny_holding (wpAny_Constant_int (wpAny_bind (wpAny_holding (wpAny_pure ?_)))))))
    show wpAny _ _ (newObj (.type "slice") (.fields #[.none, .int i s₁.toks, .none])) _ _ _
    refine wpAny_newObj_type ?_ (by show (3 : Nat) ≤ sizeLine + 2; rw [sizeLine_eq]; omega)
    have G := F₁.grow (tk := s₁.toks + 1) (h' := s₁.heap.push { cls := .type "slice", dict := none, data := .fields #[.none, .int i s₁.toks, .none] }) push_keeps
    have hL : (s₁.heap.push { cls := .type "slice", dict := none, data := .fields #[.none, .int i s₁.toks, .none] }).IsList b us.toArray := by
      obtain ⟨o, ho, r⟩ := hb
      exact ⟨o, push_keeps _ _ (F₁.keep _ _ ho), r⟩
    have hu' : VRs X (s₁.heap.push { cls := .type "slice", dict := none, data := .fields #[.none, .int i s₁.toks, .none] }) (ns.map AV.int) us := ints_vrs hu
    have e1 := hu'.length
    rw [List.length_map] at e1
    obtain ⟨m, rfl⟩ : ∃ m : Nat, i = m := ⟨i.toNat, by omega⟩
    refine tail_any hL.typeIs slot_list_getitem.lookup (wpAny_getItem_list_slice hL (Heap.IsSliceOf.new ..) .none (.int _ _) .none (by simp) ?_ (by rw [List.size_toArray, e1, sizeLine_eq]; omega)) (hs := rfl)
    rw [slicePick_upto']
    have k2 : Kept X s₁.heap ((s₁.heap.push { cls := .type "slice", dict := none, data := .fields #[.none, .int (m : Int) s₁.toks, .none] }).push { cls := .type "list", data := .seq (List.take m us.toArray.toList).toArray }) := (Kept.of_keeps push_keeps).trans (Kept.of_keeps push_keeps)
    exact ⟨.ref _, _, VR_con _ _, G.alloc (tk := s₁.toks + 1) push_keeps (Nat.le_refl _) (OR.list ⟨0, Heap.get?_push_size _ rfl⟩ (VRs.mono (Kept.of_keeps push_keeps) _ _ (by rw [List.map_take]; exact VRs.take m hu'))), k₁.trans k2, hq _ (G.okf.free2 (Nat.le_refl _)).1⟩)
theorem VR_tup3 {h : Heap} {V U W : AV} {a : Value} (r : VR X h (.tup [V, U, W]) a) : ∃ t v u w, a = .ref t ∧ IsTup h t #[v, u, w] ∧ VR X h V v ∧ VR X h U u ∧ VR X h W w := by
  obtain ⟨t, items, rfl, ht, hi⟩ := r
  obtain ⟨v, vs, e, hv, u, us, e', hu, w, ws, e2, hw, e''⟩ := hi
  have hit : items = #[v, u, w] := by
    have : items.toList = [v, u, w] := by rw [e, e', e2, show ws = [] from e'']
    exact Array.toList_inj.mp this
  exact ⟨t, v, u, w, rfl, hit ▸ ht.1, hv, hu, hw⟩
theorem assign_triple {m n o : Str} {p q r pos : Pos} {k : Nat} {V U W : AV} {Q : List (Str × AV) → Store → Prop} (hh : A.handled = none)
    (h : OpU X A env ρ (fun v => storeName env m v) V σ (fun ρ₁ σ₁ => OpU X A env ρ₁ (fun v => storeName env n v) U σ₁ (fun ρ₂ σ₂ => OpU X A env ρ₂ (fun v => storeName env o v) W σ₂ Q E) E) E) :
    OpU X A env ρ (assign (.Tuple [.Name m p, .Name n q, .Name o r] k pos) env) (.tup [V, U, W]) σ Q E := fun φ s a ha x => by
  refine ex4 (VR_tup3 ha) fun t v u w z1 => ?_
  refine an5 z1 fun e_1 ht hv hu hw => ?_
  clear z1
  subst e_1
  rw [assign_Tuple]
  refine wpAny_bind (wpAny_standAt ?_)
  unfold unpack
  show wpAny _ A (holding [Value.ref t] (unpackItems (.ref t) 3 none) >>= fun xs => assignInOrder [assign (.Name m p) env, assign (.Name n q) env, assign (.Name o r) env] xs) _ _ s
  refine wpAny_bind (wpAny_holding (show wpAny _ A (unpackItems (.ref t) (#[v, u, w] : Array Value).size none) _ _ s from unpackItems_tuple hh ht fun h' he => ?_))
  have kp : ∀ b o, s.heap.get? b = some o → h'.get? b = some o := fun b o e => he b o (Nat.ne_of_lt (Heap.lt_size e)) e
  have y := x.grow (tk := s.toks) kp
  have kk := Kept.of_keeps (X := X) kp
  show wpAny _ A (do holding [u, w] (assign (.Name m p) env v); assignInOrder [assign (.Name n q) env, assign (.Name o r) env] [u, w]) _ _ _
  refine wpAny_bind (wpAny_holding (assign_Name (wpAny_mono (h.at (VR.mono kk V v hv) y kk) (fun _ s₁ ⟨ρ₁, σ₁, x₁, k₁, h₁⟩ => ?_) fun _ _ e => e)))
  show wpAny _ A (do holding [w] (assign (.Name n q) env u); assignInOrder [assign (.Name o r) env] [w]) _ _ _
  refine wpAny_bind (wpAny_holding (assign_Name (wpAny_mono (h₁.at (VR.mono k₁ U u hu) x₁ k₁) (fun _ s₂ ⟨ρ₂, σ₂, x₂, k₂, h₂⟩ => ?_) fun _ _ e => e)))
  show wpAny _ A (do holding [] (assign (.Name o r) env w); assignInOrder [] []) _ _ _
  exact wpAny_bind (wpAny_holding (assign_Name (wpAny_mono (h₂.at (VR.mono k₂ W w hw) x₂ k₂) (fun _ s₃ h₃ => wpAny_pure h₃) fun _ _ e => e)))
end
/-! ordered numbers without doubles, all of 0 .. n-1 -/
theorem asc_range : ∀ (l : List Int) (s : Int), l.Pairwise (· < ·) → (∀ x ∈ l, s ≤ x ∧ x < s + l.length) → l = (List.range l.length).map fun i : Nat => s + i
  | [], _, _, _ => rfl
  | x :: l, s, hp, hb => by
    obtain ⟨h1, h2⟩ := List.pairwise_cons.mp hp
    have hx : x = s := by
      have hx0 := hb x (.head _)
      have hl : l.length ≤ (s + (x :: l).length - (x + 1)).toNat := by
        have := nodup_range (s + (x :: l).length - (x + 1)).toNat (l.map fun y => y - (x + 1)) (by
          rw [List.nodup_iff_pairwise_ne, List.pairwise_map]
          exact h2.imp fun h => by omega) (fun k hk => by
          obtain ⟨y, hy, rfl⟩ := List.mem_map.mp hk
          have a := h1 y hy
          have b := hb y (.tail _ hy)
          omega)
        rw [List.length_map] at this
        exact this
      rw [List.length_cons] at hl hx0
      omega
    subst hx
    have ih := asc_range l (x + 1) h2 (fun y hy => by
      have a := h1 y hy
      have b := hb y (.tail _ hy)
      rw [List.length_cons] at b
      omega)
    rw [List.length_cons, List.range_succ_eq_map, List.map_cons, List.map_map]
    congr 1
    · simp
    · conv => lhs; rw [ih]
      apply map_cong
      intro i _
      simp only [Function.comp_apply]
      omega
theorem sorted_range {l m : List Int} {n : Nat} (hp : m.Perm l) (hs : m.Pairwise (· ≤ ·)) (hn : l.Nodup) (hl : l.length = n) (hb : ∀ x ∈ l, 0 ≤ x ∧ x < (n : Int)) : m = (List.range n).map fun i : Nat => (i : Int) := by
  have hn' : m.Nodup := hp.nodup_iff.mpr hn
  have hlt : m.Pairwise (· < ·) := by
    rw [List.nodup_iff_pairwise_ne] at hn'
    exact (hs.and hn').imp fun h => by have := h.1; have := h.2; omega
  have hlm : m.length = n := hp.length_eq.trans hl
  have := asc_range m 0 hlt (fun x hx => by have := hb x (hp.mem_iff.mp hx); omega)
  rw [hlm] at this
  rw [this]
  exact map_cong fun i _ => by omega
section
variable {X : Cx} {σ τ : Store} {a : LA} {cs : List Int} {k : Nat} {N : List Node} {W D : List Int} {M : List AV}
theorem St.cellfree (S : St X σ a cs k N W D M) {b : Addr} {v : Option AV} (h : σ b = some (.cell v)) : ¬ a.mv b := by
  unfold LA.mv
  rintro (q | q | q | q | q | q) <;> subst q
  · rw [S.F.fd] at h; cases h
  · rw [S.mm] at h; cases h
  · rw [S.B.nn] at h; cases h
  · rw [S.B.tt] at h; cases h
  · rw [S.B.ww] at h; cases h
  · rw [S.B.dd] at h; cases h
theorem Bk.cellfree {p : BP} (B : Bk X σ p N W D) {b : Addr} {v : Option AV} (h : σ b = some (.cell v)) : b ≠ p.nn ∧ b ≠ p.tt ∧ b ≠ p.ww ∧ b ≠ p.dd :=
  ⟨fun q => (by rw [q, B.nn] at h; cases h), fun q => (by rw [q, B.tt] at h; cases h), fun q => (by rw [q, B.ww] at h; cases h), fun q => (by rw [q, B.dd] at h; cases h)⟩
end
theorem Pk.at {X : Cx} (P : Pk X) (o : Addr → Prop) : Pk (X.at o) := ⟨P.K, P.exc, P.bui, P.file, P.top⟩
theorem Bk.at {X : Cx} {o : Addr → Prop} {σ : Store} {p : BP} {N : List Node} {W D : List Int} (B : Bk X σ p N W D) : Bk (X.at o) σ p N W D := ⟨B.at', B.nn, B.tt, B.ww, B.dd, B.nd⟩
theorem nodup_sub {l m : List AV} (hn : l.Nodup) (hs : ∀ x ∈ l, x ∈ m) : l.length ≤ m.length := by
  induction l generalizing m with
  | nil => exact Nat.zero_le _
  | cons x l ih =>
    obtain ⟨h1, h2⟩ := List.nodup_cons.mp hn
    have hx := hs x (.head _)
    obtain ⟨s, t, rfl⟩ := List.append_of_mem hx
    have := ih (m := s ++ t) h2 (fun y hy => by
      have := hs y (.tail _ hy)
      rw [List.mem_append, List.mem_cons] at this
      rw [List.mem_append]
      rcases this with h | h | h
      · exact .inl h
      · subst h; exact absurd hy h1
      · exact .inr h)
    rw [List.length_append] at this
    rw [List.length_cons, List.length_append, List.length_cons]
    omega
theorem BInv.nodupM {N M W D} (I : BInv N M W D) : M.Nodup := by
  rw [List.nodup_iff_pairwise_ne, List.pairwise_iff_getElem]
  intro i j hi hj hij e
  have := I.inj i j M[i] (List.getElem?_eq_getElem hi) (by rw [e]; exact List.getElem?_eq_getElem hj)
  omega
section
variable {X : Cx} {A : Around} {σ : Store} {Q : AV → Store → Prop} {Es : Store → Prop}
/-- a new bank: the store, and it alone -/
theorem bank_new' (P : Pk X) (hr : A.depth + 3 < recursionLimit) (hG : NoGhost σ)
    (h : ∀ p (σ' : Store), σ.le σ' → NoGhost σ' → Bk X σ' p [] [] [] → σ p.b = none → σ p.dx = none → σ p.nn = none → σ p.tt = none → σ p.ww = none → σ p.dd = none → Q (.ref p.b) σ') : WC X A (.ref 174) [] σ Q Es := by
  refine WC.lower (bank_new P hr fun p τ2 l3 hBA b1 b2 b3 b4 z1 z2 z3 z4 z5 z6 hnd => ?_)
  have ne := bne hnd
  obtain ⟨t1, t2, t3, t4, n, ⟨sl, q1⟩, q2⟩ := hBA
  have hne : p.b ≠ p.dx := fun q => by
    simp only [List.nodup_cons, List.mem_cons, List.not_mem_nil, or_false, not_or] at hnd
    exact hnd.1.1 q
  have hB : BankAt X ((σ.set p.b (.raw ⟨.ref 174, some p.dx, .plain, sl⟩)).set p.dx (.raw (dictOf (bankEs X.w t1 t2 t3 t4 p.nn p.tt p.ww p.dd) n))) p :=
    ⟨t1, t2, t3, t4, n, ⟨sl, by rw [set_ne hne, set_self]⟩, set_self ..⟩
  have hBk : Bk X (bset ((σ.set p.b (.raw ⟨.ref 174, some p.dx, .plain, sl⟩)).set p.dx (.raw (dictOf (bankEs X.w t1 t2 t3 t4 p.nn p.tt p.ww p.dd) n))) p [] [] []) p [] [] [] := .mk' hB hnd
  refine ⟨bset ((σ.set p.b (.raw ⟨.ref 174, some p.dx, .plain, sl⟩)).set p.dx (.raw (dictOf (bankEs X.w t1 t2 t3 t4 p.nn p.tt p.ww p.dd) n))) p [] [] [], ?_, h p _ ?_ (NoGhost.bset ((hG.set rfl).set rfl)) hBk z1 z2 z3 z4 z5 z6⟩
  · intro b o e
    unfold bset at e
    by_cases h1 : b = p.dd
    · subst h1; rw [set_self] at e; rw [← e]; exact b4
    rw [set_ne h1] at e
    by_cases h2 : b = p.ww
    · subst h2; rw [set_self] at e; rw [← e]; exact b3
    rw [set_ne h2] at e
    by_cases h3 : b = p.tt
    · subst h3; rw [set_self] at e; rw [← e]; exact b2
    rw [set_ne h3] at e
    by_cases h4 : b = p.nn
    · subst h4; rw [set_self] at e; rw [← e]; exact b1
    rw [set_ne h4] at e
    by_cases h5 : b = p.dx
    · subst h5; rw [set_self] at e; rw [← e]; exact q2
    rw [set_ne h5] at e
    by_cases h6 : b = p.b
    · subst h6; rw [set_self] at e; rw [← e]; exact q1
    rw [set_ne h6] at e
    exact l3 b o e
  · intro b o e
    rw [bset_ne (fun q => by rw [q, z3] at e; cases e) (fun q => by rw [q, z4] at e; cases e) (fun q => by rw [q, z5] at e; cases e) (fun q => by rw [q, z6] at e; cases e),
      set_ne (fun q => by rw [q, z2] at e; cases e), set_ne (fun q => by rw [q, z1] at e; cases e)]
    exact e
end
theorem Bk.setcell {X : Cx} {σ : Store} {p : BP} {N : List Node} {W D : List Int} (BK : Bk X σ p N W D) {b : Addr} {v w : Option AV} (h : σ b = some (.cell v)) : Bk X (σ.set b (.cell w)) p N W D := by
  have n3 := BK.cellfree h
  obtain ⟨t1, t2, t3, t4, n, ⟨sl, q1⟩, q2⟩ := BK.at'
  refine ⟨BK.at'.set (fun q => by rw [q, h] at q1; cases q1) (fun q => by rw [q, h] at q2; cases q2), ?_, ?_, ?_, ?_, BK.nd⟩
  · rw [set_ne (Ne.symm n3.1)]; exact BK.nn
  · rw [set_ne (Ne.symm n3.2.1)]; exact BK.tt
  · rw [set_ne (Ne.symm n3.2.2.1)]; exact BK.ww
  · rw [set_ne (Ne.symm n3.2.2.2)]; exact BK.dd
end
section
section
variable {X : Cx} {A : Around} {σ : Store}
theorem law_spec (P : Pk X) (hX : ∀ a, ¬ X.own a) (r : Room A 20) {sc : Addr} {us : List Value} {ns : List Int} (hb : X.h₀.IsList sc us.toArray) (hu : IntsAre us ns) (hz : ns.length ≤ 63) (hG : NoGhost σ) :
    WCc X A (.ref 255) [.ref sc] σ (fun V _ => V = .bool true) Never := by
  refine WCc_fx (ns := ["script"]) (P.K 255 _ rfl) rfl (codeRec_of P.K (by rfl)) rfl rfl r.d ?_ (by decide +kernel) (by decide +kernel) ?_
  · exact all1 fun a => rfl
  intro L hL
  show ESs _ _ _ [("script", .ref sc)] _ ((((σ.set (L + 1) (.cell none)).set (L + 2) (.cell none)).set (L + 3) (.cell none)).set (L + 4) (.cell none)) _ _
  generalize he : callEnvC _ L 255 = env
  have hE := EnvIs.of he rfl rfl rfl
  have hr : Here (A.deeper env) env := here_of he r.frm
  have r' : Room (A.deeper env) 19 := r.deeper
  generalize A.deeper env = B at *
  have e1 : σ (L + 1) = none := (hL.mono (Nat.le_add_right L 1)).none
  have e2 : σ (L + 2) = none := (hL.mono (Nat.le_add_right L 2)).none
  have e3 : σ (L + 3) = none := (hL.mono (Nat.le_add_right L 3)).none
  have e4 : σ (L + 4) = none := (hL.mono (Nat.le_add_right L 4)).none
  have c1 : ((((σ.set (L + 1) (.cell none)).set (L + 2) (.cell none)).set (L + 3) (.cell none)).set (L + 4) (.cell none)) (L + 1) = some (.cell none) := by
    rw [set_ne (cne (by decide)), set_ne (cne (by decide)), set_ne (cne (by decide)), set_self]
  have c2 : ((((σ.set (L + 1) (.cell none)).set (L + 2) (.cell none)).set (L + 3) (.cell none)).set (L + 4) (.cell none)) (L + 2) = some (.cell none) := by
    rw [set_ne (cne (by decide)), set_ne (cne (by decide)), set_self]
  have c3 : ((((σ.set (L + 1) (.cell none)).set (L + 2) (.cell none)).set (L + 3) (.cell none)).set (L + 4) (.cell none)) (L + 3) = some (.cell none) := by
    rw [set_ne (cne (by decide)), set_self]
  have c4 : ((((σ.set (L + 1) (.cell none)).set (L + 2) (.cell none)).set (L + 3) (.cell none)).set (L + 4) (.cell none)) (L + 4) = some (.cell none) := set_self ..
  have G0 : NoGhost ((((σ.set (L + 1) (.cell none)).set (L + 2) (.cell none)).set (L + 3) (.cell none)).set (L + 4) (.cell none)) := (((hG.set rfl).set rfl).set rfl).set rfl
  generalize ((((σ.set (L + 1) (.cell none)).set (L + 2) (.cell none)).set (L + 3) (.cell none)).set (L + 4) (.cell none)) = τ at *
  with_reducible refine ESs_cons ?_
  with_reducible refine ES_AssignT ?_ ?_ ?_
  rotate_left
  · rfl
  · exact swapped_third (hE.l (by rfl))
  with_reducible refine EV_Tuple ?_ ?_ ?_
  · rfl
  · decide
  with_reducible refine EVs_cons ?_
  with_reducible refine EV_DictS' ?_ ?_ ?_ ?_
  · simp
  · simp
  · rfl
  intro fd hfd
  show EVs _ _ _ _ (_ :: _ :: _ :: _ :: []) _ _ _
  walk_at "m.run"
  refine EV_upto0 (by decide) hb hu (by omega) ?_
  walk_at "m.run"
  refine ⟨rfl, fun D0 hD0 => ?_⟩
  walk_at "m.run"
  refine WC_list_list (set_self ..) (by simp; omega) fun c hc => ?_
  walk_at "m.run"
  have hz48 : (ns.take (Int.toNat 48)).length ≤ 48 := by rw [List.length_take]; exact Nat.min_le_left _ _
  generalize ns.take (Int.toNat 48) = cs at *
  have n0 : fd ≠ D0 := fun q => by rw [← q, set_self] at hD0; cases hD0
  have n1 : fd ≠ c := fun q => by rw [← q, set_ne n0, set_self] at hc; cases hc
  have u1 : (((τ.set fd (.sdict [])).set D0 (.list (cs.map AV.int))).set c (.list (cs.map AV.int))) fd = some (.sdict []) := by rw [set_ne n1, set_ne n0, set_self]
  refine ⟨[("cells", .ref c), ("at", .int 0)], rfl, u1, ?_⟩
  have l1 := ((le_new (o := .sdict []) hfd).trans (le_new (o := .list (cs.map AV.int)) hD0)).trans (le_new (o := .list (cs.map AV.int)) hc)
  have l2 := le_upd (o := .sdict [("cells", .ref c), ("at", .int 0)]) l1 hfd
  have u2 : ((((τ.set fd (.sdict [])).set D0 (.list (cs.map AV.int))).set c (.list (cs.map AV.int))).set fd (.sdict [("cells", .ref c), ("at", .int 0)])) fd = some (.sdict [("cells", .ref c), ("at", .int ((0 : Nat) : Int))]) := set_self ..
  have u3 : ((((τ.set fd (.sdict [])).set D0 (.list (cs.map AV.int))).set c (.list (cs.map AV.int))).set fd (.sdict [("cells", .ref c), ("at", .int 0)])) c = some (.list (cs.map AV.int)) := by rw [set_ne (Ne.symm n1), set_self]
  have G1 : NoGhost ((((τ.set fd (.sdict [])).set D0 (.list (cs.map AV.int))).set c (.list (cs.map AV.int))).set fd (.sdict [("cells", .ref c), ("at", .int 0)])) := (((G0.set rfl).set rfl).set rfl).set rfl
  show EVs _ _ _ _ _ ((((τ.set fd (.sdict [])).set D0 (.list (cs.map AV.int))).set c (.list (cs.map AV.int))).set fd (.sdict [("cells", .ref c), ("at", .int 0)])) _ _
  generalize ((((τ.set fd (.sdict [])).set D0 (.list (cs.map AV.int))).set c (.list (cs.map AV.int))).set fd (.sdict [("cells", .ref c), ("at", .int 0)])) = τ1 at *
  have F1 : Feed τ1 fd c cs 0 := ⟨u2, u3, hz48⟩
  with_reducible refine EVs_cons ?_
  refine EV_call_cls (K := Mine.hd.heap_39 X.w.params) (C := 174) (cd := (clsIn (Mine.hd.heap_39 X.w.params) 174).get (by rfl)) P.K (by rfl) (by rfl) rfl ?_
  refine look_g P hE (v := .ref 174) rfl (by rfl) ⟨rfl, ?_⟩
  walk_at "m.run"
  refine bank_new' P (by have := r'.dep; omega) G1 fun p τ2 l3 G2 BK z1 z2 z3 z4 z5 z6 => ?_
  have F2 := F1.le l3
  walk_at "m.run"
  refine ⟨rfl, fun m hm _ => ?_⟩
  have hm0 := hm.none
  have l4 := le_new (o := .list []) hm0
  have F3 := F2.le l4
  have BK3 := BK.le l4
  have m3 : (τ2.set m (.list [])) m = some (.list []) := set_self ..
  have G3 : NoGhost (τ2.set m (.list [])) := G2.set rfl
  have l5 := (l2.trans l3).trans l4
  have nm : c ≠ m := fun q => by rw [← q, F2.c] at hm0; cases hm0
  have nn1 : c ≠ p.nn := fun q => by rw [← q, F1.c] at z3; cases z3
  have nn2 : c ≠ p.ww := fun q => by rw [← q, F1.c] at z5; cases z5
  have nn3 : c ≠ p.dd := fun q => by rw [← q, F1.c] at z6; cases z6
  have nn4 : m ≠ p.nn := fun q => by rw [q, BK.nn] at hm0; cases hm0
  have nn5 : m ≠ p.ww := fun q => by rw [q, BK.ww] at hm0; cases hm0
  have nn6 : m ≠ p.dd := fun q => by rw [q, BK.dd] at hm0; cases hm0
  have c1 := l5 _ _ c1
  have c2 := l5 _ _ c2
  have c3 := l5 _ _ c3
  have c4 := l5 _ _ c4
  generalize τ2.set m (.list []) = τ3 at *
  walk_at "m.run"
  refine ⟨rfl, ?_⟩
  refine assign_triple r'.han ?_
  walk_at "m.run"
  refine store_cell hE.k (hE.l (by rfl)) (hE.ce (by rfl)) c1 ?_
  refine store_cell (c := L + 2) hE.k (hE.l (by rfl)) (hE.ce (by rfl)) (by rw [set_ne (cne (by decide))]; exact c2) ?_
  have S3 : St X ((τ3.set (L + 1) (.cell (some (.ref p.b)))).set (L + 2) (.cell (some (.ref m)))) ⟨fd, c, m, p⟩ cs 0 [] [] [] [] := by
    have ne3 := BK3.cellfree c1
    have ne4 := BK3.cellfree c2
    have x1 : fd ≠ L + 1 := fun q => by rw [← q, F3.fd] at c1; cases c1
    have x2 : fd ≠ L + 2 := fun q => by rw [← q, F3.fd] at c2; cases c2
    have x3 : c ≠ L + 1 := fun q => by rw [← q, F3.c] at c1; cases c1
    have x4 : c ≠ L + 2 := fun q => by rw [← q, F3.c] at c2; cases c2
    have x5 : m ≠ L + 1 := fun q => by rw [← q, m3] at c1; cases c1
    have x6 : m ≠ L + 2 := fun q => by rw [← q, m3] at c2; cases c2
    obtain ⟨t1, t2, t3, t4, n, ⟨sl, q1⟩, q2⟩ := BK3.at'
    have y1 : p.b ≠ L + 1 := fun q => by rw [← q, q1] at c1; cases c1
    have y2 : p.b ≠ L + 2 := fun q => by rw [← q, q1] at c2; cases c2
    have y3 : p.dx ≠ L + 1 := fun q => by rw [← q, q2] at c1; cases c1
    have y4 : p.dx ≠ L + 2 := fun q => by rw [← q, q2] at c2; cases c2
    refine ⟨⟨?_, ?_, hz48⟩, ⟨(BK3.at'.set y1 y3).set y2 y4, ?_, ?_, ?_, ?_, BK3.nd⟩, ?_, ?_⟩
    · rw [set_ne x2, set_ne x1]; exact F3.fd
    · rw [set_ne x4, set_ne x3]; exact F3.c
    · rw [set_ne (Ne.symm ne4.1), set_ne (Ne.symm ne3.1)]; exact BK3.nn
    · rw [set_ne (Ne.symm ne4.2.1), set_ne (Ne.symm ne3.2.1)]; exact BK3.tt
    · rw [set_ne (Ne.symm ne4.2.2.1), set_ne (Ne.symm ne3.2.2.1)]; exact BK3.ww
    · rw [set_ne (Ne.symm ne4.2.2.2), set_ne (Ne.symm ne3.2.2.2)]; exact BK3.dd
    · rw [set_ne x6, set_ne x5]; exact m3
    · have w := BK3.ne
      simp only [List.nodup_cons, List.mem_cons, List.not_mem_nil, or_false, not_or, List.nodup_nil, and_true, not_false_eq_true]
      exact ⟨⟨nm, nn1, nn2, nn3⟩, ⟨nn4, nn5, nn6⟩, ⟨w.nn.2.1, w.nn.2.2⟩, w.ww⟩
  have d1 : ((τ3.set (L + 1) (.cell (some (.ref p.b)))).set (L + 2) (.cell (some (.ref m)))) (L + 1) = some (.cell (some (.ref p.b))) := by rw [set_ne (cne (by decide)), set_self]
  have d2 : ((τ3.set (L + 1) (.cell (some (.ref p.b)))).set (L + 2) (.cell (some (.ref m)))) (L + 2) = some (.cell (some (.ref m))) := set_self ..
  have d3 : ((τ3.set (L + 1) (.cell (some (.ref p.b)))).set (L + 2) (.cell (some (.ref m)))) (L + 3) = some (.cell none) := by rw [set_ne (cne (by decide)), set_ne (cne (by decide))]; exact c3
  have d4 : ((τ3.set (L + 1) (.cell (some (.ref p.b)))).set (L + 2) (.cell (some (.ref m)))) (L + 4) = some (.cell none) := by rw [set_ne (cne (by decide)), set_ne (cne (by decide))]; exact c4
  have G4 : NoGhost ((τ3.set (L + 1) (.cell (some (.ref p.b)))).set (L + 2) (.cell (some (.ref m)))) := (G3.set rfl).set rfl
  generalize (τ3.set (L + 1) (.cell (some (.ref p.b)))).set (L + 2) (.cell (some (.ref m))) = τ4 at *
  generalize ha : (⟨fd, c, m, p⟩ : LA) = a at *
  obtain rfl : fd = a.fd := by rw [← ha]
  obtain rfl : m = a.m := by rw [← ha]
  obtain rfl : p = a.p := by rw [← ha]
  clear c1 c2 c3 c4 G3 l5 F3 BK3 m3 l4 hm0 hm F2 BK l3 G2 G1 F1 u1 u2 u3 hc hD0 hfd l1 l2 G0
  show ESs _ _ _ ([("script", .ref sc), ("feed", .ref a.fd)] : List (Str × AV)) _ τ4 _ _
  with_reducible refine ESs_cons ?_
  refine XS.mono (Q := fun f ρ' τ' => f = .next ∧ look ρ' "feed" = some (.ref a.fd) ∧ ∃ (k : Nat) (N : List Node) (W D : List Int) (M : List AV), St X τ' a cs k N W D M ∧ BInv N M W D ∧ (∀ V ∈ M, LTre 9 V) ∧ M.length ≤ 42 ∧
    τ' (L + 1) = some (.cell (some (.ref a.p.b))) ∧ τ' (L + 2) = some (.cell (some (.ref a.m))) ∧ τ' (L + 3) = some (.cell none) ∧ τ' (L + 4) = some (.cell none) ∧ NoGhost τ') ?_ ?_
  · refine ES_For (plain := true) .name hr ?_
    walk_at "m.run"
    refine draw_any P r'.d S3.F (by decide) (by decide) fun w w0 w1 => ?_
    have S5 := S3.fset (k' := 1)
    have d1 := Same.fset (a := a) (k := 1) _ _ (S3.cellfree d1) d1
    have d2 := Same.fset (a := a) (k := 1) _ _ (S3.cellfree d2) d2
    have d3 := Same.fset (a := a) (k := 1) _ _ (S3.cellfree d3) d3
    have d4 := Same.fset (a := a) (k := 1) _ _ (S3.cellfree d4) d4
    have G5 : NoGhost (fset τ4 a.fd a.c 1) := G4.fset
    show Op2 _ _ _ _ _ _ _ _ (fset τ4 a.fd a.c 1) _ _
    generalize fset τ4 a.fd a.c 1 = τ5 at *
    walk_at "m.run"
    obtain ⟨v, hv, hv6⟩ : ∃ v : Nat, (2 : Int) + w = v ∧ v ≤ 6 := ⟨(2 + w).toNat, by omega, by omega⟩
    rw [hv]
    refine WC_range fun rr t u v' hrr => ?_
    have m6 := le_new (o := .raw (rangeObj v t u v')) hrr
    have S6 := S5.le m6
    have d1 := m6 _ _ d1
    have d2 := m6 _ _ d2
    have d3 := m6 _ _ d3
    have d4 := m6 _ _ d4
    have G6 : NoGhost (τ5.set rr (.raw (rangeObj v t u v'))) := G5.set rfl
    have hr6 : (τ5.set rr (.raw (rangeObj v t u v'))) rr = _ := set_self ..
    generalize τ5.set rr (.raw (rangeObj v t u v')) = τ6 at *
    refine ⟨τ6, _, _, fun i ρ' τ' => look ρ' "feed" = some (.ref a.fd) ∧ ∃ (k : Nat) (N : List Node) (W D : List Int) (M : List AV), St X τ' a cs k N W D M ∧ BInv N M W D ∧ (∀ V ∈ M, LTre (3 + i) V) ∧ M.length ≤ 7 * i ∧ k ≤ 1 + 15 * i ∧
      τ' (L + 1) = some (.cell (some (.ref a.p.b))) ∧ τ' (L + 2) = some (.cell (some (.ref a.m))) ∧ τ' (L + 3) = some (.cell none) ∧ τ' (L + 4) = some (.cell none) ∧ NoGhost τ',
      its_range r'.han (by omega) hr6, ⟨rfl, 1, [], [], [], [], S6, .nil, fun _ h => (by cases h), by simp, by omega, d1, d2, d3, d4, G6⟩, fun _ _ _ _ => trivial, ?_, ?_⟩
    · intro i ρ' τ' V hV z0
      refine an2 z0 fun h1 z1 => ?_
      refine ex5 z1 fun k N W D M z2 => ?_
      refine an10 z2 fun S I hM hl hk d1 d2 d3 d4 G => ?_
      clear z2 z1 z0
      rw [List.getElem?_map] at hV
      obtain ⟨j, hj, rfl⟩ := Option.map_eq_some_iff.mp hV
      have hi : i < v := by have := (List.getElem?_eq_some_iff.mp hj).1; simpa using this
      refine assign_name ?_
      walk_at "m.s"
      have h1 := look_put_ne (m := "lap") (V := .int (j : Nat)) h1
      generalize put "lap" (.int (j : Nat)) ρ' = ρ2 at *
      walk_at "m.run"
      refine draw_any P r'.d S.F (by decide) (by omega) fun w w0 w1 => ?_
      have S7 := S.fset (k' := k + 1)
      have s7 := Same.fset (a := a) (σ := τ') (k := k + 1)
      have d1 := s7 _ _ (S.cellfree d1) d1
      have d2 := s7 _ _ (S.cellfree d2) d2
      have d3 := s7 _ _ (S.cellfree d3) d3
      have d4 := s7 _ _ (S.cellfree d4) d4
      have G7 : NoGhost (fset τ' a.fd a.c (k + 1)) := G.fset
      generalize fset τ' a.fd a.c (k + 1) = τ7 at *
      walk_at "m.run"
      have fin : ∀ k' N' W' D' M', BInv N' M' W' D' → (∀ V ∈ M', LTre (3 + i + 1) V) → M'.length ≤ M.length + 7 → k' ≤ k + 1 + 14 →
          look ρ2 "feed" = some (.ref a.fd) ∧ ∃ (k : Nat) (N : List Node) (W D : List Int) (M : List AV), St X (lset τ7 a k' N' W' D' M') a cs k N W D M ∧ BInv N M W D ∧ (∀ V ∈ M, LTre (3 + (i + 1)) V) ∧ M.length ≤ 7 * (i + 1) ∧ k ≤ 1 + 15 * (i + 1) ∧
          (lset τ7 a k' N' W' D' M') (L + 1) = some (.cell (some (.ref a.p.b))) ∧ (lset τ7 a k' N' W' D' M') (L + 2) = some (.cell (some (.ref a.m))) ∧ (lset τ7 a k' N' W' D' M') (L + 3) = some (.cell none) ∧ (lset τ7 a k' N' W' D' M') (L + 4) = some (.cell none) ∧ NoGhost (lset τ7 a k' N' W' D' M') := by
        intro k' N' W' D' M' I' hM' hl' hk'
        have s8 := Same.lset (a := a) (σ := τ7) (k := k') (N := N') (W := W') (D := D') (M := M')
        exact ⟨h1, k', N', W', D', M', S7.lset, I', hM', by omega, by omega, s8 _ _ (S7.cellfree d1) d1, s8 _ _ (S7.cellfree d2) d2, s8 _ _ (S7.cellfree d3) d3, s8 _ _ (S7.cellfree d4) d4, G7.lset⟩
      by_cases hw : w = 2
      · refine pos_ (by simpa using hw) ?_
        walk_at "m.run"
        with_reducible refine EB_Not ?_
        ((with_reducible refine EB_plain ?_ ?_); (intro _; rfl))
        walk_at "m.run"
        refine taken_right_spec P (r'.le (by decide)) S7 I G7 (d := 3 + i) (by omega) hM (by omega) (by omega) fun k' N' W' D' M' I' hM' hl' hk' => ?_
        refine truthy_bool ?_
        rw [Bool.not_true, if_neg (by decide)]
        walk_at "m.run"
        exact fin k' N' W' D' M' I' hM' hl' hk'
      · refine neg_ (by simpa using hw) ?_
        walk_at "m.run"
        with_reducible refine EB_Not ?_
        ((with_reducible refine EB_plain ?_ ?_); (intro _; rfl))
        walk_at "m.run"
        refine put_right_spec P (r'.le (by decide)) S7 I G7 (d := 3 + i) (by omega) (by omega) hM (by omega) (by omega) fun k' N' W' D' M' I' hM' hl' hk' => ?_
        refine truthy_bool ?_
        rw [Bool.not_true, if_neg (by decide)]
        walk_at "m.run"
        exact fin k' N' W' D' M' I' (fun V hV => (hM' V hV).up) hl' hk'
    · intro ρ' τ' z0
      refine an2 z0 fun h1 z1 => ?_
      refine ex5 z1 fun k N W D M z2 => ?_
      refine an10 z2 fun S I hM hl hk d1 d2 d3 d4 G => ?_
      clear z2 z1 z0
      rw [List.length_map, List.length_range] at hM hl
      exact ⟨rfl, h1, k, N, W, D, M, S, I, fun V hV => (hM V hV).le (by omega), by omega, d1, d2, d3, d4, G⟩
  clear S3 d1 d2 d3 d4 G4
  intro f ρ0 τ z0
  refine an3 z0 fun e_0 h1 z1 => ?_
  refine ex5 z1 fun k N W D M z2 => ?_
  refine an9 z2 fun S I hM hl d1 d2 d3 d4 G => ?_
  clear z2 z1 z0
  subst e_0
  show ESs _ _ _ ρ0 _ τ _ _
  have hMt : ∀ V ∈ M, Tre 9 V := fun V hV => (hM V hV).tre
  have lN := I.len.1
  -- every term is told right
  walk_at "m.run"
  refine WC_len S.mm (by omega) ?_
  walk_at "m.run"
  refine WC_range fun rr t u v' hrr => ?_
  have m1 := le_new (o := .raw (rangeObj M.length t u v')) hrr
  have S1 := S.le m1
  have d1 := m1 _ _ d1
  have d2 := m1 _ _ d2
  have d3 := m1 _ _ d3
  have d4 := m1 _ _ d4
  have G1 : NoGhost (τ.set rr (.raw (rangeObj M.length t u v'))) := G.set rfl
  have hr1 : (τ.set rr (.raw (rangeObj M.length t u v'))) rr = _ := set_self ..
  generalize τ.set rr (.raw (rangeObj M.length t u v')) = τ1 at *
  refine ⟨τ1, _, _, fun j acc τ' => τ' = τ1 ∧ acc = [], its_range r'.han (by omega) hr1, by simp; omega, ⟨rfl, rfl⟩, fun _ _ _ _ => trivial, ?_, ?_⟩
  · rintro C j acc τ' V hV ⟨rfl, rfl⟩ hC
    rw [List.getElem?_map] at hV
    obtain ⟨q, hq, rfl⟩ := Option.map_eq_some_iff.mp hV
    have hqM : q < M.length := by have := List.mem_range.mp (List.mem_of_getElem? hq); exact this
    generalize hce : compEnvC _ _ C env = cenv
    have hcE := EnvIs.comp hce hE rfl
    clear hce
    with_reducible refine ETs_one ?_
    with_reducible refine EB_Not ?_
    ((with_reducible refine EB_plain ?_ ?_); (intro _; rfl))
    walk_at "m.run"
    refine known_right_spec P (r'.le (by decide)) S1.B S1.mm I (d := 9) (by decide) hM (by omega) hqM ?_
    refine truthy_bool ?_
    rw [Bool.not_true, if_neg (by decide)]
    exact ⟨rfl, rfl⟩
  rintro acc τ' FD ⟨rfl, rfl⟩ hFD
  walk_at "m.run"
  refine ⟨rfl, fun fa hfa _ => ?_⟩
  have hfne : FD ≠ fa := Nat.ne_of_lt (hfa FD _ (set_self ..))
  have m2 := (le_new (o := .list []) hFD).trans (le_set (o := .list []) hfa)
  refine op_ne_list (n := 0) (by rw [set_ne hfne, set_self]) (set_self ..) rfl rfl (r'.u (by decide)) ?_
  have S2 := S1.le m2
  have d1 := m2 _ _ d1
  have d2 := m2 _ _ d2
  have d3 := m2 _ _ d3
  have d4 := m2 _ _ d4
  have G2 : NoGhost ((τ'.set FD (.list [])).set fa (.list [])) := (G1.set rfl).set rfl
  generalize (τ'.set FD (.list [])).set fa (.list []) = τ2 at *
  refine truthy_bool ?_
  rw [show (!avEqs [] []) = false by rfl, if_neg (by decide)]
  walk_at "m.run"
  -- what is not there is not found
  with_reducible refine EB_And ?_
  with_reducible refine allTrue_or ?_
  walk_at "m.run"
  refine EV_meth_fn (f := 171) (P.K 171 _ rfl) rfl rfl (by decide) rfl rfl ?_
  walk_at "m.run"
  refine ⟨meth_seek P S2.B.at', ?_⟩
  walk_at "m.run"
  refine WC_len S2.mm (by omega) ?_
  walk_at "m.run"
  refine ⟨rfl, ?_⟩
  walk_at "m.run"
  refine seek_spec P (r'.le (by decide)) S2.B (ks := [(M.length : Int)]) (Nat.le_succ 1) (fun i hi => ?_) (fun _ => ?_)
  · have := (I.get hi).k (M.length : Int) (by simp)
    have := (List.getElem?_eq_some_iff.mp hi).1
    omega
  walk_at "m.run"
  rw [show ((-1 : Int) != -1) = false by rfl, if_neg (by decide)]
  with_reducible refine allTrue_or ?_
  walk_at "m.run"
  refine EV_meth_fn (f := 171) (P.K 171 _ rfl) rfl rfl (by decide) rfl rfl ?_
  walk_at "m.run"
  refine ⟨meth_seek P S2.B.at', ?_⟩
  walk_at "m.run"
  refine ⟨rfl, ?_⟩
  walk_at "m.run"
  refine seek_spec P (r'.le (by decide)) S2.B (ks := [(-1 : Int)]) (by decide) (fun i hi => ?_) (fun _ => ?_)
  · have := (I.get hi).k (-1) (by simp)
    omega
  walk_at "m.run"
  rw [show ((-1 : Int) != -1) = false by rfl, if_neg (by decide)]
  refine allTrue_nil ?_
  refine neg_ (by decide) ?_
  with_reducible refine ESs_nil ?_
  -- the second bank
  with_reducible refine ESs_cons ?_
  walk_at "m.s"
  refine EV_call_cls (K := Mine.hd.heap_39 X.w.params) (C := 174) (cd := (clsIn (Mine.hd.heap_39 X.w.params) 174).get (by rfl)) P.K (by rfl) (by rfl) rfl ?_
  refine look_g P hE (v := .ref 174) rfl (by rfl) ⟨rfl, ?_⟩
  with_reducible refine EVs_nil ?_
  refine bank_new' P (by have := r'.dep; omega) G2 fun p τ3 l3 G3 BK z1 z2 z3 z4 z5 z6 => ?_
  have mp : a.m ≠ p.nn ∧ a.m ≠ p.tt ∧ a.m ≠ p.ww ∧ a.m ≠ p.dd := ⟨fun q => (by rw [← q, S2.mm] at z3; cases z3), fun q => (by rw [← q, S2.mm] at z4; cases z4), fun q => (by rw [← q, S2.mm] at z5; cases z5), fun q => (by rw [← q, S2.mm] at z6; cases z6)⟩
  have hm3 := l3 _ _ S2.mm
  have d2 := l3 _ _ d2
  have d3 := l3 _ _ d3
  have d4 := l3 _ _ d4
  refine store_cell (c := L + 3) hE.k (hE.l (by rfl)) (hE.ce (by rfl)) d3 ?_
  have n3 := BK.cellfree d3
  have BK4 : Bk X (τ3.set (L + 3) (.cell (some (.ref p.b)))) p [] [] [] := by
    obtain ⟨t1, t2, t3, t4, n, ⟨sl, q1⟩, q2⟩ := BK.at'
    refine ⟨BK.at'.set (fun q => by rw [q, d3] at q1; cases q1) (fun q => by rw [q, d3] at q2; cases q2), ?_, ?_, ?_, ?_, BK.nd⟩
    · rw [set_ne (Ne.symm n3.1)]; exact BK.nn
    · rw [set_ne (Ne.symm n3.2.1)]; exact BK.tt
    · rw [set_ne (Ne.symm n3.2.2.1)]; exact BK.ww
    · rw [set_ne (Ne.symm n3.2.2.2)]; exact BK.dd
  have hm4 : (τ3.set (L + 3) (.cell (some (.ref p.b)))) a.m = some (.list M) := by rw [set_ne (fun q => by rw [q, d3] at hm3; cases hm3)]; exact hm3
  have d2 : (τ3.set (L + 3) (.cell (some (.ref p.b)))) (L + 2) = some (.cell (some (.ref a.m))) := by rw [set_ne (cne (by decide))]; exact d2
  have d4 : (τ3.set (L + 3) (.cell (some (.ref p.b)))) (L + 4) = some (.cell none) := by rw [set_ne (cne (by decide))]; exact d4
  have d3 : (τ3.set (L + 3) (.cell (some (.ref p.b)))) (L + 3) = some (.cell (some (.ref p.b))) := set_self ..
  generalize τ3.set (L + 3) (.cell (some (.ref p.b))) = τ4 at *
  clear BK hm3 n3 l3 G3 z1 z2 z3 z4 z5 z6 S2 G2 d1
  show ESs _ _ _ ρ0 _ τ4 _ _
  with_reducible refine ESs_cons ?_
  refine XS.mono (Q := fun f ρ' τ' => f = .next ∧ ∃ (N2 : List Node) (W2 D2 : List Int) (M2 : List AV), Bk X τ' p N2 W2 D2 ∧ BInv N2 M2 W2 D2 ∧ (∀ V ∈ M2, V ∈ M) ∧ (∀ V ∈ M, V ∈ M2) ∧
    τ' a.m = some (.list M) ∧ τ' (L + 2) = some (.cell (some (.ref a.m))) ∧ τ' (L + 3) = some (.cell (some (.ref p.b))) ∧ τ' (L + 4) = some (.cell none)) ?_ ?_
  · refine ES_For (plain := true) .name hr ?_
    refine EV_rev (by intro _ _; rfl) ?_
    walk_at "m.run"
    refine ⟨a.m, M, rfl, hm4, by omega, fun RD hRD => ?_⟩
    have rp : RD ≠ p.nn ∧ RD ≠ p.tt ∧ RD ≠ p.ww ∧ RD ≠ p.dd := ⟨fun q => (by rw [q, BK4.nn] at hRD; cases hRD), fun q => (by rw [q, BK4.tt] at hRD; cases hRD), fun q => (by rw [q, BK4.ww] at hRD; cases hRD), fun q => (by rw [q, BK4.dd] at hRD; cases hRD)⟩
    have m5 := le_new (o := .list M.reverse) hRD
    have hR5 : (τ4.set RD (.list M.reverse)) RD = some (.list M.reverse) := set_self ..
    have BK5 := BK4.le m5
    have hm5 := m5 _ _ hm4
    have d2 := m5 _ _ d2
    have d3 := m5 _ _ d3
    have d4 := m5 _ _ d4
    generalize τ4.set RD (.list M.reverse) = τ5 at *
    refine ⟨τ5, _, _, fun i ρ' τ' => ∃ (N2 : List Node) (W2 D2 : List Int) (M2 : List AV), Bk X τ' p N2 W2 D2 ∧ BInv N2 M2 W2 D2 ∧ (∀ V ∈ M2, V ∈ M) ∧ (∀ V ∈ M.reverse.take i, V ∈ M2) ∧
      τ' a.m = some (.list M) ∧ τ' (L + 2) = some (.cell (some (.ref a.m))) ∧ τ' (L + 3) = some (.cell (some (.ref p.b))) ∧ τ' (L + 4) = some (.cell none) ∧ τ' RD = some (.list M.reverse),
      its_list r'.han hR5, ⟨[], [], [], [], BK5, .nil, fun _ h => (by cases h), fun _ h => (by simp at h), hm5, d2, d3, d4, hR5⟩, fun _ _ _ h => (by obtain ⟨_, _, _, _, _, _, _, _, _, _, _, _, e⟩ := h; exact e), ?_, ?_⟩
    · intro i ρ' τ' V hV z0
      refine ex4 z0 fun N2 W2 D2 M2 z1 => ?_
      refine an9 z1 fun BK I2 hs1 hs2 hm d2 d3 d4 hRD => ?_
      clear z1 z0
      have hVM : V ∈ M := List.mem_reverse.mp (List.mem_of_getElem? hV)
      refine assign_name ?_
      walk_at "m.s"
      have k1 := look_put ρ' "tree" V
      generalize put "tree" V ρ' = ρ2 at *
      walk_at "m.run"
      ((with_reducible refine ES_Expr ?_ ?_ ?_); rotate_left; (first | rfl | (subst_vars; rfl)); (first | rfl | (subst_vars; rfl)))
      refine EV_meth_fn (f := 112) (P.K 112 _ rfl) rfl rfl (by decide) rfl rfl ?_
      walk_at "m.run"
      refine ⟨meth_put P BK.at', ?_⟩
      walk_at "m.run"
      have hsl := nodup_sub I2.nodupM hs1
      have hVt := hMt V hVM
      refine put_spec P 9 (r'.le (by decide)) BK I2 (by decide) hVt (by omega) (fun hg N' W' D' j I' hj => ?_) (fun hg => ?_)
      · refine ⟨trivial, ?_⟩
        have q2 := BK.cellfree d2
        have q3 := BK.cellfree d3
        have q4 := BK.cellfree d4
        refine ESs_nil ⟨N', W', D', rankL 9 M2 V, BK.bset, I', fun U hU => ?_, fun U hU => ?_, ?_, ?_, ?_, ?_, ?_⟩
        · rcases rankL_subs 9 U hU with h | h
          · exact hs1 U h
          · exact I.closed 9 hVM U h
        · rw [take_succ_get hV] at hU
          rcases List.mem_append.mp hU with hU | hU
          · obtain ⟨q, hq⟩ := List.getElem?_of_mem (hs2 U hU)
            exact List.mem_of_getElem? (rankL_pre 9 M2 V q U hq)
          · rw [List.mem_singleton.mp hU]; exact rankL_mem hVt
        · rw [bset_ne mp.1 mp.2.1 mp.2.2.1 mp.2.2.2]; exact hm
        · rw [bset_ne q2.1 q2.2.1 q2.2.2.1 q2.2.2.2]; exact d2
        · rw [bset_ne q3.1 q3.2.1 q3.2.2.1 q3.2.2.2]; exact d3
        · rw [bset_ne q4.1 q4.2.1 q4.2.2.1 q4.2.2.2]; exact d4
        · rw [bset_ne rp.1 rp.2.1 rp.2.2.1 rp.2.2.2]; exact hRD
      · have := (hM V hVM).good
        rw [this] at hg; cases hg
    · intro ρ' τ' z0
      refine ex4 z0 fun N2 W2 D2 M2 z1 => ?_
      refine an9 z1 fun BK I2 hs1 hs2 hm d2 d3 d4 hRD => ?_
      clear z1 z0
      exact ⟨rfl, N2, W2, D2, M2, BK, I2, hs1, fun V hV => hs2 V (by rw [List.take_length]; exact List.mem_reverse.mpr hV), hm, d2, d3, d4⟩
  clear BK4 hm4 d2 d3 d4
  intro f ρ0 τ z0
  refine an2 z0 fun e_0 z1 => ?_
  refine ex4 z1 fun N2 W2 D2 M2 z2 => ?_
  refine an8 z2 fun BK I2 hs1 hs2 hm d2 d3 d4 => ?_
  clear z2 z1 z0
  subst e_0
  show ESs _ _ _ ρ0 _ τ _ _
  have hsl := nodup_sub I2.nodupM hs1
  have hsl2 := nodup_sub I.nodupM hs2
  have hlen2 : M2.length = M.length := by omega
  -- the numbers of all terms in it
  with_reducible refine ESs_cons ?_
  refine ES_AssignC (cl := _) (swaps_comp hE.bk (hE.l (by rfl)) (by rfl) (by rfl)) (hE.clo (by rfl)) (by decide) rfl (by decide) rfl ?_
  walk_at "m.run"
  refine ⟨τ, _, _, fun i acc τ' => ∃ (N2 : List Node) (W2 D2 js : List Int), Bk X τ' p N2 W2 D2 ∧ BInv N2 M2 W2 D2 ∧ acc = js.map AV.int ∧ js.length = i ∧ (∀ (q : Nat) (j : Int), js[q]? = some j → 0 ≤ j ∧ M2[j.toNat]? = M[q]?) ∧
      τ' a.m = some (.list M) ∧ τ' (L + 2) = some (.cell (some (.ref a.m))) ∧ τ' (L + 3) = some (.cell (some (.ref p.b))) ∧ τ' (L + 4) = some (.cell none),
    its_list r'.han hm, by omega, ⟨N2, W2, D2, [], BK, I2, rfl, rfl, fun _ _ h => (by simp at h), hm, d2, d3, d4⟩, fun _ _ _ h => (by obtain ⟨_, _, _, _, _, _, _, _, _, e, _⟩ := h; exact e), ?_, ?_⟩
  · intro C i acc τ' V hV z0 hC
    refine ex4 z0 fun N3 W3 D3 js z1 => ?_
    refine an9 z1 fun BK I3 e_1 hjl hjs hm d2 d3 d4 => ?_
    clear z1 z0
    subst e_1
    have hVM : V ∈ M := List.mem_of_getElem? hV
    have hVt := hMt V hVM
    generalize hce : compEnvC _ _ C env = cenv
    have hcE := EnvIs.comp hce hE rfl
    clear hce
    refine ETs_nil ?_
    refine pos_ rfl ?_
    refine EV_meth_fn (f := 112) (P.K 112 _ rfl) rfl rfl (by decide) rfl rfl ?_
    walk_at "m.run"
    refine ⟨meth_put P BK.at', ?_⟩
    walk_at "m.run"
    have hsame := I3.rank_same 9 (hs2 V hVM) hVt
    refine put_spec P 9 (r'.le (by decide)) BK I3 (by decide) hVt (by omega) (fun hg N' W' D' j I' hj => ?_) (fun hg => ?_)
    · rw [hsame] at I' hj
      have q2 := BK.cellfree d2
      have q3 := BK.cellfree d3
      have q4 := BK.cellfree d4
      refine ⟨N', W', D', js ++ [(j : Int)], BK.bset, I', by rw [List.map_append]; rfl, by simp [hjl], fun q x hx => ?_, ?_, ?_, ?_, ?_⟩
      · by_cases hq : q < js.length
        · rw [List.getElem?_append_left hq] at hx
          exact hjs q x hx
        · have hq2 : q = js.length := by
            have := (List.getElem?_eq_some_iff.mp hx).1
            rw [List.length_append, List.length_singleton] at this
            omega
          subst hq2
          rw [List.getElem?_append_right (Nat.le_refl _), Nat.sub_self] at hx
          simp at hx
          subst hx
          rw [Int.toNat_natCast, hj, hjl, hV]
          exact ⟨by omega, rfl⟩
      · rw [bset_ne mp.1 mp.2.1 mp.2.2.1 mp.2.2.2]; exact hm
      · rw [bset_ne q2.1 q2.2.1 q2.2.2.1 q2.2.2.2]; exact d2
      · rw [bset_ne q3.1 q3.2.1 q3.2.2.1 q3.2.2.2]; exact d3
      · rw [bset_ne q4.1 q4.2.1 q4.2.2.1 q4.2.2.2]; exact d4
    · have := (hM V hVM).good
      rw [this] at hg; cases hg
  clear hm d2 d3 d4 BK I2
  intro acc τ' AD z0 hAD
  refine ex4 z0 fun N3 W3 D3 js z1 => ?_
  refine an9 z1 fun BK I2 e_1 hjl hjs hm d2 d3 d4 => ?_
  clear z1 z0
  subst e_1
  have m6 := le_new (o := .list (js.map AV.int)) hAD
  have BK6 := BK.le m6
  have hm6 := m6 _ _ hm
  have d2 := m6 _ _ d2
  have d3 := m6 _ _ d3
  have d4 := m6 _ _ d4
  have hA6 : (τ'.set AD (.list (js.map AV.int))) AD = some (.list (js.map AV.int)) := set_self ..
  generalize τ'.set AD (.list (js.map AV.int)) = τ6 at *
  have lN2 := I2.len.1
  have hjr : ∀ x ∈ js, 0 ≤ x ∧ x < (M.length : Int) := fun x hx => by
    obtain ⟨q, hq⟩ := List.getElem?_of_mem hx
    obtain ⟨g1, g2⟩ := hjs q x hq
    have hql := (List.getElem?_eq_some_iff.mp hq).1
    rw [List.getElem?_eq_getElem (by omega : q < M.length)] at g2
    have := (List.getElem?_eq_some_iff.mp g2).1
    omega
  have hjn : js.Nodup := by
    rw [List.nodup_iff_pairwise_ne, List.pairwise_iff_getElem]
    intro q1 q2 hq1 hq2 hq e
    have g1 := (hjs q1 js[q1] (List.getElem?_eq_getElem hq1)).2
    have g2 := (hjs q2 js[q2] (List.getElem?_eq_getElem hq2)).2
    rw [e, g2, List.getElem?_eq_getElem (by omega : q2 < M.length)] at g1
    have := I.inj q1 q2 _ g1.symm (List.getElem?_eq_getElem (by omega : q2 < M.length))
    omega
  walk_at "m.run"
  have k1 := look_put ρ0 "again" (.ref AD)
  generalize put "again" (.ref AD) ρ0 = ρ1 at *
  with_reducible refine EB_And ?_
  with_reducible refine allTrue_or ?_
  walk_at "m.run"
  refine EV_meth_fn (f := 93) (P.K 93 _ rfl) rfl rfl (by decide) rfl rfl ?_
  walk_at "m.run"
  refine ⟨meth_size P BK6.at', ?_⟩
  walk_at "m.run"
  refine size_spec P r'.d BK6.at' BK6.nn (by simp; omega) ?_
  walk_at "m.run"
  refine WC_len hm6 (by omega) ?_
  walk_at "m.run"
  rw [show (((N3.map nodeAV).length : Int) != M.length) = false by simp; omega, if_neg (by decide)]
  with_reducible refine allTrue_or ?_
  walk_at "m.run"
  refine WC_sorted hA6 (by omega) fun SD ns' hSD hperm hsort => ?_
  rw [sorted_range hperm hsort hjn (by rw [hjl]) hjr]
  have m7 := le_new (o := .list (((List.range M.length).map fun i : Nat => (i : Int)).map AV.int)) hSD
  have BK7 := BK6.le m7
  have hm7 := m7 _ _ hm6
  have d2 := m7 _ _ d2
  have d3 := m7 _ _ d3
  have d4 := m7 _ _ d4
  have hA7 := m7 _ _ hA6
  have hS7 : (τ6.set SD (.list (((List.range M.length).map fun i : Nat => (i : Int)).map AV.int))) SD = _ := set_self ..
  generalize τ6.set SD (.list (((List.range M.length).map fun i : Nat => (i : Int)).map AV.int)) = τ7 at *
  walk_at "m.run"
  refine WC_len hm7 (by omega) ?_
  walk_at "m.run"
  refine WC_range fun rr t u v' hrr => ?_
  walk_at "m.run"
  have m8 := le_new (o := .raw (rangeObj M.length t u v')) hrr
  refine WC_list_range r'.han (by omega) (set_self ..) fun LD hLD => ?_
  have m9 := m8.trans (le_new (o := .list ((List.range M.length).map fun i => AV.int (i : Nat))) hLD)
  have BK8 := BK7.le m9
  have hm8 := m9 _ _ hm7
  have d2 := m9 _ _ d2
  have d3 := m9 _ _ d3
  have d4 := m9 _ _ d4
  have hA8 := m9 _ _ hA7
  have hS8 := m9 _ _ hS7
  have hL8 : ((τ7.set rr (.raw (rangeObj M.length t u v'))).set LD (.list ((List.range M.length).map fun i => AV.int (i : Nat)))) LD = some (.list (((List.range M.length).map fun i : Nat => (i : Int)).map AV.int)) := by
    rw [set_self, List.map_map]; rfl
  generalize (τ7.set rr (.raw (rangeObj M.length t u v'))).set LD (.list ((List.range M.length).map fun i => AV.int (i : Nat))) = τ8 at *
  have hdat : datBs (((List.range M.length).map fun i : Nat => (i : Int)).map AV.int) 0 = true := datBs_all.mpr fun V hV => by
    obtain ⟨x, _, rfl⟩ := List.mem_map.mp hV
    exact datB_int ..
  refine op_ne_list (n := 0) hS8 hL8 hdat hdat (r'.u (by decide)) ?_
  refine truthy_bool ?_
  rw [avEqs_refl 0 _ hdat, Bool.not_true, if_neg (by decide)]
  refine allTrue_nil ?_
  refine neg_ (by decide) ?_
  with_reducible refine ESs_nil ?_
  -- the last walk
  with_reducible refine ESs_cons ?_
  refine ES_ForZip hX hr r'.han rfl ?_
  refine look_b P hE (by rfl) (by rfl) (by decide) Boot.«zip» ?_
  refine ⟨rfl, ?_⟩
  walk_at "m.run"
  refine ⟨AD, a.m, js.map AV.int, M, fun i ρ' τ' => Bk X τ' p N3 W3 D3 ∧ τ' AD = some (.list (js.map AV.int)) ∧ τ' a.m = some (.list M) ∧ τ' (L + 3) = some (.cell (some (.ref p.b))) ∧ ∃ v, τ' (L + 4) = some (.cell v), rfl, by simp [hjl], ⟨BK8, hA8, hm8, d3, _, d4⟩, fun i ρ' τ' h => ⟨h.2.1, h.2.2.1⟩, ?_, ?_⟩
  · rintro o i ρ' τ' V U hV hU ⟨BK, hA, hm, d3, v4, d4⟩
    rw [List.getElem?_map] at hV
    obtain ⟨j, hj, rfl⟩ := Option.map_eq_some_iff.mp hV
    have P' : Pk (X.at o) := P.at o
    have hjb := hjr j (List.mem_of_getElem? hj)
    obtain ⟨g1, g2⟩ := hjs i j hj
    refine assign_pair r'.han ?_
    refine store_cell (c := L + 4) hE.k (hE.l (by rfl)) (hE.ce (by rfl)) d4 ?_
    have BK9 := BK.setcell (w := some (.int j)) d4
    have x3 : (τ'.set (L + 4) (.cell (some (.int j)))) (L + 3) = some (.cell (some (.ref p.b))) := by rw [set_ne (cne (by decide))]; exact d3
    have x4 : (τ'.set (L + 4) (.cell (some (.int j)))) (L + 4) = some (.cell (some (.int j))) := set_self ..
    have xA : (τ'.set (L + 4) (.cell (some (.int j)))) AD = some (.list (js.map AV.int)) := by rw [set_ne (fun q => by rw [q, d4] at hA; cases hA)]; exact hA
    have xm : (τ'.set (L + 4) (.cell (some (.int j)))) a.m = some (.list M) := by rw [set_ne (fun q => by rw [q, d4] at hm; cases hm)]; exact hm
    generalize τ'.set (L + 4) (.cell (some (.int j))) = τ9 at *
    have BKo : Bk (X.at o) τ9 p N3 W3 D3 := BK9.at
    walk_at "m.s"
    have k1 := look_put ρ' "tree" U
    generalize put "tree" U ρ' = ρ2 at *
    have hUM : U ∈ M := List.mem_of_getElem? hU
    have hget : M2.getD j.toNat .none = U := by rw [List.getD_eq_getElem?_getD, g2, hU]; rfl
    have hdU := (hMt U hUM).dat
    obtain ⟨op, kids, rfl, _, hkl, _⟩ := hM U hUM
    obtain ⟨op2, ks, hn⟩ := node_at (N := N3) (i := j.toNat) (by omega)
    have y := I2.get hn
    have hn2 : (N3.map nodeAV)[j.toNat]? = some (.tup (.str op2 :: ks.map AV.int)) := by rw [List.getElem?_map, hn]; rfl
    walk_at "m.run"
    with_reducible refine EB_And ?_
    with_reducible refine allTrue_or ?_
    walk_at "m.run"
    refine EV_meth_fn (f := 150) (P'.K 150 _ rfl) rfl rfl (by decide) rfl rfl ?_
    walk_at "m.run"
    refine ⟨meth_term P' BKo.at', ?_⟩
    walk_at "m.run"
    refine term_spec P' (r'.le (by decide)) BKo I2 (by omega) hjb.1 (by omega) ?_
    rw [hget]
    walk_at "m.run"
    have hds : datBs (.str op :: kids) 8 = true := hdU
    refine op_ne_tup (n := 8) hds hds (r'.u (by decide)) ?_
    refine truthy_bool ?_
    rw [avEqs_refl 8 _ hds, Bool.not_true, if_neg (by decide)]
    with_reducible refine allTrue_or ?_
    walk_at "m.run"
    refine EV_meth_fn (f := 138) (P'.K 138 _ rfl) rfl rfl (by decide) rfl rfl ?_
    walk_at "m.run"
    refine ⟨meth_kids P' BKo.at', ?_⟩
    walk_at "m.run"
    refine kids_spec P' r'.d BKo.at' BKo.nn hjb.1 (by omega) hn2 (by have := y.l; simp; omega) ?_
    refine ⟨τ9, _, _, fun q acc τ' => τ' = τ9 ∧ acc = [], its_tup r'.han, by have := y.l; simp; omega, ⟨rfl, rfl⟩, fun _ _ _ _ => trivial, ?_, ?_⟩
    · rintro C q acc τ' V hV ⟨rfl, rfl⟩ hC
      rw [List.getElem?_map] at hV
      obtain ⟨x, hx, rfl⟩ := Option.map_eq_some_iff.mp hV
      have hxb := y.k x (List.mem_of_getElem? hx)
      generalize hce : compEnvC _ _ C env = cenv
      have hcE := EnvIs.comp hce hE rfl
      clear hce
      with_reducible refine ETs_one ?_
      walk_at "m.run"
      refine neg_ (by simp; omega) ?_
      exact ⟨rfl, rfl⟩
    rintro acc τ' FD ⟨rfl, rfl⟩ hFD
    walk_at "m.run"
    refine ⟨rfl, fun fa hfa _ => ?_⟩
    have hfne : FD ≠ fa := Nat.ne_of_lt (hfa FD _ (set_self ..))
    have m10 := (le_new (o := .list []) hFD).trans (le_set (o := .list []) hfa)
    refine op_ne_list (n := 0) (by rw [set_ne hfne, set_self]) (set_self ..) rfl rfl (r'.u (by decide)) ?_
    refine truthy_bool ?_
    rw [show (!avEqs [] []) = false by rfl, if_neg (by decide)]
    refine allTrue_nil ?_
    refine neg_ (by decide) ?_
    with_reducible refine ESs_nil ?_
    with_reducible refine ESs_nil ?_
    exact ⟨.inl rfl, BK9.le m10, m10 _ _ xA, m10 _ _ xm, m10 _ _ x3, _, m10 _ _ x4⟩
  · rintro ρ' τ' _
    walk_at "m.run"
    rfl
end
end
section
theorem law_join {w : World} {s₁ : Shared} {mg mb : Str → Option Value} {loose : List Str} {mean : ExcName → Option Value} {V : Program} {fa sc : Addr} {us : List Value} {ns : List Int} (KX : (hd.heap_39 w.params).In s₁.heap) (T : Top V loose mean mg mb s₁.heap)
    (hmg : mg "law" = some (.ref fa)) (hg : s₁.gens = #[]) (hL : s₁.heap.IsList sc us.toArray) (hI : IntsAre us ns) (hz : ns.length ≤ 63) {c : ClaimW} {cl : Str → Option Addr} {args : List WData} (hr : ∀ cls, c.raises args cls = false) (hp : c.post args (.bool true) args = true) :
    codeAny (model PySem.Challenge.rw_pq0110_01.row.prog w) callerA (.call (.ref fa) ⟨[.ref sc], []⟩) (GoodWG c cl mean args s₁) s₁ := by
  have hfa : fa = 255 := by
    have h1 : mg "law" = some (.ref 255) := mg_of KX T.g (by rfl)
    rw [hmg] at h1
    injection h1 with h1
    injection h1
  subst hfa
  let X : Cx := { prog := PySem.Challenge.rw_pq0110_01.row.prog, w := w, h₀ := s₁.heap, mg := mg, mb := mb, gens := s₁.gens, drawn := s₁.drawn, os := s₁.os, exc := .ref 60, own := fun _ => False, lim := T.nolimit, g := T.g, b := T.b }
  have P : Pk X := ⟨KX, rfl, T.builtins, by rfl, by rfl⟩
  have R : Room callerA 20 := ⟨by show 1 + claimMargin + 20 < recursionLimit; decide, rfl, by show 4 + 3 * 20 + 30 < cLine; decide, ⟨[], rfl⟩⟩
  have hO : Okf X callerA (fun _ => none) (fun _ => none) s₁ := ⟨fun _ _ e => (by cases e), ⟨fun _ _ e => e, rfl, rfl, rfl, fun _ _ e => (by cases e), fun _ e => e.elim⟩, [], rfl, fun _ h => (by cases h)⟩
  have key := law_spec (σ := fun _ => none) P (fun _ h => h) R hL hI hz (fun _ _ e => (by cases e)) (fun _ => none) s₁ [.ref sc] hO ⟨_, _, rfl, rfl, rfl⟩
  refine codeAny_mono key fun r s' q => ?_
  match r, q with
  | .ok (.ret v), ⟨U, σ', hv, hok, _, hU⟩ =>
    subst hU
    obtain rfl : v = .bool true := hv
    exact GoodW.toG ⟨.inl ⟨_, _, [], rfl, hr, ReadsW.bool true, hp, fun _ => ⟨List.nodup_nil, fun _ hm => (nomatch hm)⟩⟩, hok.keep, hok.ok.os, hok.ok.gens.trans hg⟩
  | .error e, q => exact q.never.elim
end
end Mine
end
open PySem PySem.W PySem.Calls PyProof.Rows
set_option maxRecDepth 100000 in
set_option maxHeartbeats 8000000 in
theorem PySem.Challenge.cw_pq0110_01_holds : PySem.Challenge.rw_pq0110_01.Holds := by
  refine holds_law Mine.hd.said fun said => holds_open (q := Mine.hd.view_39) (loose := Mine.hd.L) (Xt := Mine.hd.Xt) (XP := XL Mine.hd.view_39 []) (Yf := Hook.obs Mine.hd.H) (Ya := Hook.val Mine.hd.H) (YP := Hook.says Mine.hd.H) (N := 2000) Mine.hd.left (Hook.of Mine.hd.H) (Hook.keeps Mine.hd.H) (fun s e => xl_of s (Bool.and_eq_true_iff.mp e).1) XL.keeps (by rfl) (by rfl) (by rfl) (fun s e => recFacts_of (Bool.and_eq_true_iff.mp e).2) rfl said Mine.hd.okk ⟨rfl, rfl, rfl, rfl, rfl, by decide +kernel⟩ ?hw ?hc
  case hw => exact ⟨[WData.list []], by kernel_rfl, by kernel_rfl⟩
  case hc =>
    k_fill
    intro w s₀ s₁ mg mb G Y fa o pm cd doc dV kV ho hd hcd hD hmg hg args vals as hpre hlay hrd hwl hlo
    have KX : (Mine.hd.heap_39 w.params).In s₁.heap := kIn_of Y
    refine Ground.open G ?_
    intro T B D TE TW
    wrow_args hpre hlay hrd hwl hlo
    all_goals (first | refine callC_kw (enter_call ?_) | refine enter_call ?_)
    refine Mine.law_join KX T hmg hg (by assumption) (by assumption) (by omega) (fun _ => rfl) ?_
    wrow_post
