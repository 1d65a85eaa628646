import PyProof.Rows.All
import Wide.All
import OpenK.AllK
import Wide.FinOn
import Lean
import PySem.Challenge.RW_xm0765_01
open PySem PySem.W PyProof.Rows PySem.Calls PySem.Spec
set_option Elab.async false
set_option compiler.extract_closed false
set_option maxRecDepth 100000
set_option maxHeartbeats 4000000
set_option linter.all false
set_option genSizeOf false
set_option genInjectivity false
namespace Mine
section
noncomputable abbrev PRG : Program := PySem.Challenge.pw_xm0765_01
noncomputable def s1 (i : Nat) : Stmt := PRG.main.body.getD i (.Pass default)
noncomputable def s2 (i j : Nat) : Stmt := match s1 i with
  | .ClassDef _ _ _ b _ _ _ _ _ _ _ => b.getD j (.Pass default)
  | s => s
noncomputable abbrev hS (x : String) (t : Nat) : Value := .str (Str.ofString x) t
noncomputable abbrev hI (n : Int) (t : Nat) : Value := .int n t
noncomputable abbrev hR (a : Nat) : Value := .ref a
noncomputable def hT (l : List Value) : Obj := ⟨.type "tuple", none, .seq ⟨l⟩ 0, ⟨[]⟩⟩
noncomputable def hN (l : List Value) : Obj := ⟨.none, none, .fields ⟨l⟩, ⟨[]⟩⟩
noncomputable def hC (c : String) (l : List Value) : Obj := ⟨.type c, none, .fields ⟨l⟩, ⟨[]⟩⟩
noncomputable def hE (P : Params) (k : String) (t : Nat) (v : Value) : DictEntry := ⟨PyData.keyHash P (Str.ofString k), .str (Str.ofString k) t, v⟩
noncomputable def hF (s : Stmt) (q : String) (g : Nat) (md cd : Value) : FuncData := match s with
  | .FunctionDef n a b _ _ _ sc _ _ _ => ⟨n, Str.ofString q, a, .stmts b, sc, g, [], .none, .none, .none, md, none, cd, .none, 0⟩
  | _ => default
noncomputable def hA : Stmt → Int
  | .FunctionDef _ a _ _ _ _ _ _ _ _ => a.args.length
  | _ => 0
noncomputable def hP : Stmt → Int
  | .FunctionDef _ _ _ _ _ _ _ _ _ p => p.line
  | _ => 0
noncomputable def hV : List String → Nat → List Value
  | [], _ => []
  | x :: l, t => hS x t :: hV l (t + 1)
noncomputable def hM : Stmt → Str
  | .FunctionDef n _ _ _ _ _ _ _ _ _ => n
  | _ => Str.empty
/-- the seven things that a def makes -/
noncomputable def hK (a t : Nat) (md : Value) (q : String) (vs : List String) (s : Stmt) : Nat → Obj
  | 0 => hT []
  | 1 => hN []
  | 2 => hT (hV vs (t + 3))
  | 3 => hT []
  | 4 => ⟨.none, none, .func (hF s q 0 .none .none), ⟨[]⟩⟩
  | 5 => hC "code" [.str (hM s) t, hS q (t + 1), hS "/claim/cut.py" (t + 2), hI (hP s) 0, hI (hA s) 0, hI 0 0, hI 0 0, hI 3 0, hR a, .bool true, hI 181 0, hR (a + 1), .none, hR (a + 2), hR (a + 3), hR (a + 4), hI (t + 3 + vs.length : Nat) 0, hI (hP s) 0, hS "/claim/cut.py" (t + 4 + vs.length)]
  | _ => ⟨.type "function", none, .func (hF s q 3 md (hR (a + 5))), ⟨[]⟩⟩
noncomputable def f15 : Nat → Obj := hK 15 187 (hS "__main__" 164) "_wall" ["k"] (s1 0)
noncomputable def f29 : Nat → Obj := hK 29 208 (hS "pagebase.errors" 194) "PagebaseError.__init__" ["self", "message"] (s2 2 0)
noncomputable def f66 : Nat → Obj := hK 66 259 (hS "pagebase.whole_tree" 257) "pages_of" ["trees", "root", "found", "left", "seen", "page"] (s1 6)
noncomputable def f73 : Nat → Obj := hK 73 279 (hS "pagebase.records" 277) "put_varint" ["n", "rest", "found", "turn"] (s1 10)
noncomputable def f80 : Nat → Obj := hK 80 289 (hS "pagebase.records" 277) "get_varint" ["octets", "at", "number", "turn", "octet"] (s1 11)
noncomputable def f87 : Nat → Obj := hK 87 300 (hS "pagebase.records" 277) "signed" ["n"] (s1 12)
noncomputable def f95 : Nat → Obj := hK 95 320 (hS "pagebase.node_view" 307) "two_at" ["octets", "at"] (s1 20)
noncomputable def f102 : Nat → Obj := hK 102 328 (hS "pagebase.node_view" 307) "four_at" ["octets", "at"] (s1 21)
noncomputable def f109 : Nat → Obj := hK 109 336 (hS "pagebase.node_view" 307) "put_two" ["octets", "at", "number"] (s1 22)
noncomputable def f116 : Nat → Obj := hK 116 345 (hS "pagebase.node_view" 307) "put_four" ["octets", "at", "number"] (s1 23)
noncomputable def f123 : Nat → Obj := hK 123 354 (hS "pagebase.node_view" 307) "four_octets" ["number", "found"] (s1 24)
noncomputable def f130 : Nat → Obj := hK 130 362 (hS "pagebase.node_view" 307) "is_leaf" ["kind"] (s1 25)
noncomputable def f137 : Nat → Obj := hK 137 370 (hS "pagebase.node_view" 307) "head_size" ["kind"] (s1 27)
noncomputable def f144 : Nat → Obj := hK 144 377 (hS "pagebase.node_view" 307) "max_local" ["kind", "usable"] (s1 28)
noncomputable def f151 : Nat → Obj := hK 151 385 (hS "pagebase.node_view" 307) "min_local" ["usable"] (s1 29)
noncomputable def f158 : Nat → Obj := hK 158 392 (hS "pagebase.node_view" 307) "local_size" ["kind", "usable", "size", "most", "least", "surplus"] (s1 30)
noncomputable def f172 : Nat → Obj := hK 172 416 (hS "pagebase.node_view" 307) "Cell.__init__" ["self", "child", "rowid", "size", "local", "overflow"] (s2 31 0)
noncomputable def f179 : Nat → Obj := hK 179 428 (hS "pagebase.node_view" 307) "Cell.rest" ["self"] (s2 31 1)
noncomputable def f186 : Nat → Obj := hK 186 435 (hS "pagebase.node_view" 307) "Cell.octets" ["self", "kind", "found"] (s2 31 2)
noncomputable def f200 : Nat → Obj := hK 200 457 (hS "pagebase.node_view" 307) "read_cell" ["octets", "at", "kind", "usable", "child", "rowid", "overflow", "number", "size", "many", "local"] (s1 32)
noncomputable def f214 : Nat → Obj := hK 214 486 (hS "pagebase.node_view" 307) "NodeView.__init__" ["self", "octets", "page", "usable"] (s2 33 0)
noncomputable def f221 : Nat → Obj := hK 221 496 (hS "pagebase.node_view" 307) "NodeView.kind" ["self", "kind"] (s2 33 1)
noncomputable def f228 : Nat → Obj := hK 228 504 (hS "pagebase.node_view" 307) "NodeView.is_leaf" ["self"] (s2 33 2)
noncomputable def f235 : Nat → Obj := hK 235 511 (hS "pagebase.node_view" 307) "NodeView.is_rows" ["self"] (s2 33 3)
noncomputable def f242 : Nat → Obj := hK 242 518 (hS "pagebase.node_view" 307) "NodeView.count" ["self"] (s2 33 4)
noncomputable def f249 : Nat → Obj := hK 249 525 (hS "pagebase.node_view" 307) "NodeView.pointers" ["self"] (s2 33 5)
noncomputable def f256 : Nat → Obj := hK 256 532 (hS "pagebase.node_view" 307) "NodeView.content" ["self"] (s2 33 6)
noncomputable def f263 : Nat → Obj := hK 263 539 (hS "pagebase.node_view" 307) "NodeView.fragments" ["self"] (s2 33 7)
noncomputable def f270 : Nat → Obj := hK 270 546 (hS "pagebase.node_view" 307) "NodeView.right" ["self"] (s2 33 8)
noncomputable def f277 : Nat → Obj := hK 277 553 (hS "pagebase.node_view" 307) "NodeView.octets" ["self"] (s2 33 9)
noncomputable def f284 : Nat → Obj := hK 284 560 (hS "pagebase.node_view" 307) "NodeView.place" ["self", "i", "first", "at"] (s2 33 10)
noncomputable def f291 : Nat → Obj := hK 291 570 (hS "pagebase.node_view" 307) "NodeView.cell" ["self", "i", "cell", "end"] (s2 33 11)
noncomputable def f298 : Nat → Obj := hK 298 580 (hS "pagebase.node_view" 307) "NodeView.raw" ["self", "i", "at", "cell", "end"] (s2 33 12)
noncomputable def f310 : Nat → Obj := hK 310 597 (hS "pagebase.node_view" 307) "NodeView.rowid" ["self", "i", "at", "number", "size"] (s2 33 14)
noncomputable def f317 : Nat → Obj := hK 317 608 (hS "pagebase.node_view" 307) "NodeView.child" ["self", "i"] (s2 33 15)
noncomputable def f329 : Nat → Obj := hK 329 622 (hS "pagebase.node_view" 307) "NodeView.blocks" ["self", "found", "at", "behind", "size"] (s2 33 17)
noncomputable def f343 : Nat → Obj := hK 343 649 (hS "pagebase.layout" 645) "cost" ["raw"] (s1 36)
noncomputable def f355 : Nat → Obj := hK 355 662 (hS "pagebase.layout" 645) "base_of" ["page"] (s1 38)
noncomputable def f362 : Nat → Obj := hK 362 669 (hS "pagebase.layout" 645) "capacity" ["page", "kind", "usable"] (s1 39)
noncomputable def f369 : Nat → Obj := hK 369 678 (hS "pagebase.layout" 645) "child_of" ["raw"] (s1 40)
noncomputable def f383 : Nat → Obj := hK 383 697 (hS "pagebase.layout" 645) "Content.__init__" ["self", "kind", "raws", "right"] (s2 41 0)
noncomputable def f402 : Nat → Obj := hK 402 724 (hS "pagebase.layout" 645) "fits" ["pager", "page", "content"] (s1 42)
noncomputable def f409 : Nat → Obj := hK 409 733 (hS "pagebase.layout" 645) "write_content" ["pager", "page", "content", "size", "base", "pointers", "cells", "at", "raw", "padded", "head", "front"] (s1 43)
noncomputable def f423 : Nat → Obj := hK 423 765 (hS "pagebase.store" 751) "PageStore.__init__" ["self", "page_size"] (s2 45 0)
noncomputable def f430 : Nat → Obj := hK 430 773 (hS "pagebase.store" 751) "PageStore.page_count" ["self"] (s2 45 1)
noncomputable def f437 : Nat → Obj := hK 437 780 (hS "pagebase.store" 751) "PageStore.read_page" ["self", "page"] (s2 45 2)
noncomputable def f444 : Nat → Obj := hK 444 788 (hS "pagebase.store" 751) "PageStore.write_page" ["self", "page", "octets"] (s2 45 3)
noncomputable def f451 : Nat → Obj := hK 451 797 (hS "pagebase.store" 751) "PageStore.extend" ["self"] (s2 45 4)
noncomputable def f458 : Nat → Obj := hK 458 804 (hS "pagebase.store" 751) "PageStore.take" ["self"] (s2 45 5)
noncomputable def f465 : Nat → Obj := hK 465 811 (hS "pagebase.store" 751) "PageStore.give" ["self", "page"] (s2 45 6)
noncomputable def f486 : Nat → Obj := hK 486 844 (hS "pagebase.node" 830) "Node.set_right" ["self", "page"] (s2 47 0)
noncomputable def f493 : Nat → Obj := hK 493 852 (hS "pagebase.node" 830) "Node.clear" ["self", "kind"] (s2 47 1)
noncomputable def f500 : Nat → Obj := hK 500 860 (hS "pagebase.node" 830) "Node.gap" ["self"] (s2 47 2)
noncomputable def f507 : Nat → Obj := hK 507 867 (hS "pagebase.node" 830) "Node.set_blocks" ["self", "blocks"] (s2 47 3)
noncomputable def f514 : Nat → Obj := hK 514 875 (hS "pagebase.node" 830) "Node.room" ["self", "free", "at", "size"] (s2 47 4)
noncomputable def f521 : Nat → Obj := hK 521 885 (hS "pagebase.node" 830) "Node.is_sparse" ["self"] (s2 47 5)
noncomputable def f528 : Nat → Obj := hK 528 892 (hS "pagebase.node" 830) "Node.take_block" ["self", "need"] (s2 47 6)
noncomputable def f535 : Nat → Obj := hK 535 900 (hS "pagebase.node" 830) "Node.allocate" ["self", "need"] (s2 47 7)
noncomputable def f542 : Nat → Obj := hK 542 908 (hS "pagebase.node" 830) "Node.put_all" ["self", "raws"] (s2 47 8)
noncomputable def f549 : Nat → Obj := hK 549 916 (hS "pagebase.node" 830) "Node.insert" ["self", "i", "octets"] (s2 47 9)
noncomputable def f556 : Nat → Obj := hK 556 925 (hS "pagebase.node" 830) "Node.remove" ["self", "i"] (s2 47 10)
noncomputable def f563 : Nat → Obj := hK 563 933 (hS "pagebase.node" 830) "Node.give_back" ["self", "at", "size"] (s2 47 11)
noncomputable def f582 : Nat → Obj := hK 582 960 (hS "pagebase.trees" 946) "Trees.__init__" ["self", "pager", "free"] (s2 49 0)
noncomputable def f589 : Nat → Obj := hK 589 969 (hS "pagebase.trees" 946) "Trees.usable" ["self"] (s2 49 1)
noncomputable def f596 : Nat → Obj := hK 596 976 (hS "pagebase.trees" 946) "Trees.node" ["self", "page"] (s2 49 2)
noncomputable def f603 : Nat → Obj := hK 603 984 (hS "pagebase.trees" 946) "Trees.new_node" ["self", "page", "kind"] (s2 49 3)
noncomputable def f610 : Nat → Obj := hK 610 993 (hS "pagebase.trees" 946) "Trees.save" ["self", "node"] (s2 49 4)
noncomputable def f617 : Nat → Obj := hK 617 1001 (hS "pagebase.trees" 946) "Trees.touch" ["self", "root"] (s2 49 5)
noncomputable def f624 : Nat → Obj := hK 624 1009 (hS "pagebase.trees" 946) "Trees.deeper" ["self", "path"] (s2 49 6)
noncomputable def f638 : Nat → Obj := hK 638 1030 (hS "law_xm0765_01" 1028) "_law_pool" ["script", "k", "cell", "big", "mixed"] (s1 51)
noncomputable def f645 : Nat → Obj := hK 645 1041 (hS "law_xm0765_01" 1028) "_law_take" ["source", "top", "digit"] (s1 52)
noncomputable def f652 : Nat → Obj := hK 652 1050 (hS "law_xm0765_01" 1028) "_law_one" ["source", "things"] (s1 53)
noncomputable def f659 : Nat → Obj := hK 659 1058 (hS "law_xm0765_01" 1028) "_law_four" ["number"] (s1 54)
noncomputable def f666 : Nat → Obj := hK 666 1065 (hS "law_xm0765_01" 1028) "_law_shuffled" ["source", "things", "left", "found", "at"] (s1 55)
noncomputable def f678 : Nat → Obj := hK 678 1082 (hS "law_xm0765_01" 1028) "_law_down" ["children", "page", "found", "child"] (s1 57)
noncomputable def f685 : Nat → Obj := hK 685 1092 (hS "law_xm0765_01" 1028) "_law_told" ["children", "is_rows_here", "root", "store", "ahead", "told"] (s1 58)
noncomputable def f697 : Nat → Obj := hK 697 1110 (hS "law_xm0765_01" 1028) "_law_due" ["children", "root", "many", "found", "left", "page"] (s1 60)
noncomputable def f704 : Nat → Obj := hK 704 1122 (hS "law_xm0765_01" 1028) "law" ["script", "k"] (s1 61)
noncomputable def o11 : Obj := hT []
noncomputable def o12 : Obj := hN []
noncomputable def o13 : Obj := hC "code" [(hS "<module>" 182), (hS "<module>" 183), (hS "/claim/cut.py" 184), (hI 1 0), (hI 0 0), (hI 0 0), (hI 0 0), (hI 0 0), (hR 11), (.bool false), (hI 181 0), (hR 12), .none, .none, .none, .none, (hI 185 0), (hI 1 0), (hS "/claim/cut.py" 186)]
noncomputable def o14 : Obj := ⟨(.type "frame"), .none, .plain, ⟨[(.some (hR 13)), (.some (hR 3)), (.some (hR 3)), .none, (.some (hS "__main__" 164)), .none, (.some (hR 0))]⟩⟩
noncomputable def o2 (P : Params) : Obj := ⟨.none, .none, (.dict ⟨[(hE P "type.__subclasses__.Exception.0" 221 (hI 38 0)), (hE P "type.__subclasses__.Exception.n" 222 (hI 1 0))]⟩ 2), ⟨[]⟩⟩
noncomputable def o3 (P : Params) : Obj := ⟨(.type "dict"), .none, (.dict ⟨[(hE P "__name__" 165 (hS "pagebase.node_view" 307)), (hE P "__doc__" 166 .none), (hE P "__package__" 167 .none), (hE P "__loader__" 168 (.builtin "__main__.__loader__#opaque")), (hE P "__spec__" 169 .none), (hE P "__annotations__" 170 (hR 6)), (hE P "__builtins__" 171 (hR 4)), (hE P "__file__" 173 (hS "/claim/cut.py" 172)), (hE P "__cached__" 174 .none), (hE P "_wall" 193 (hR 21)), (hE P "PagebaseError" 224 (hR 38)), (hE P "CorruptError" 240 (hR 51)), (hE P "MisuseError" 256 (hR 63)), (hE P "pages_of" 270 (hR 72)), (hE P "HEADER_SIZE" 272 (hI 32 271)), (hE P "WORD" 276 (hI 18446744073709551616 275)), (hE P "put_varint" 288 (hR 79)), (hE P "get_varint" 299 (hR 86)), (hE P "signed" 306 (hR 93)), (hE P "INNER_KEYS" 310 (hI 2 309)), (hE P "INNER_ROWS" 312 (hI 5 311)), (hE P "LEAF_KEYS" 314 (hI 10 313)), (hE P "LEAF_ROWS" 316 (hI 13 315)), (hE P "KINDS" 317 (hR 94)), (hE P "LEAST_CELL" 319 (hI 4 318)), (hE P "two_at" 327 (hR 101)), (hE P "four_at" 335 (hR 108)), (hE P "put_two" 344 (hR 115)), (hE P "put_four" 353 (hR 122)), (hE P "four_octets" 361 (hR 129)), (hE P "is_leaf" 368 (hR 136)), (hE P "is_leaf_node_view" 369 (hR 136)), (hE P "head_size" 376 (hR 143)), (hE P "max_local" 384 (hR 150)), (hE P "min_local" 391 (hR 157)), (hE P "local_size" 403 (hR 164))]⟩ 36), ⟨[]⟩⟩
noncomputable def o12b : Obj := hN [(hI 1 0), (hI 0 0), (hR 20), (hI 5 0), (hI 0 0), (hR 27), (hI 9 0), (hI 0 0), (hR 47), (hI 11 0), (hI 0 0), (hR 59), (hI 14 0), (hI 0 0), (hR 71), (hI 29 0), (hI 0 0), (hR 78), (hI 46 0), (hI 0 0), (hR 85), (hI 59 0), (hI 0 0), (hR 92), (hI 70 0), (hI 0 0), (hR 100), (hI 72 0), (hI 0 0), (hR 107), (hI 74 0), (hI 0 0), (hR 114), (hI 77 0), (hI 0 0), (hR 121), (hI 80 0), (hI 0 0), (hR 128), (hI 84 0), (hI 0 0), (hR 135), (hI 87 0), (hI 0 0), (hR 142), (hI 91 0), (hI 0 0), (hR 149), (hI 95 0), (hI 0 0), (hR 156), (hI 97 0), (hI 0 0), (hR 163)]
noncomputable def o22 : Obj := hT [(.type "Exception")]
noncomputable def o23 : Obj := hC "builtin_function_or_method" [(.builtin "type.__prepare__"), (.type "type")]
noncomputable def o24 (P : Params) : Obj := ⟨(.type "dict"), .none, (.dict ⟨[(hE P "__module__" 203 (hS "pagebase.errors" 194)), (hE P "__qualname__" 205 (hS "PagebaseError" 204)), (hE P "__firstlineno__" 207 (hI 5 206)), (hE P "__init__" 215 (hR 35)), (hE P "__static_attributes__" 217 (hR 36))]⟩ 5), ⟨[]⟩⟩
noncomputable def o25 : Obj := hT []
noncomputable def o26 : Obj := hN [(hI 7 0), (hI 4 0), (hR 34)]
noncomputable def o27 : Obj := hC "code" [(hS "PagebaseError" 198), (hS "PagebaseError" 199), (hS "/claim/cut.py" 200), (hI 5 0), (hI 0 0), (hI 0 0), (hI 0 0), (hI 0 0), (hR 25), (.bool false), (hI 181 0), (hR 26), .none, .none, .none, .none, (hI 201 0), (hI 5 0), (hS "/claim/cut.py" 202)]
noncomputable def o28 : Obj := ⟨(.type "frame"), .none, .plain, ⟨[(.some (hR 27)), (.some (hR 3)), (.some (hR 24)), .none, (.some (hS "pagebase.errors" 194)), .none, (.some (hR 0))]⟩⟩
noncomputable def o36 : Obj := hT [(hS "message" 216)]
noncomputable def o37 (P : Params) : Obj := ⟨(.type "dict"), .none, (.dict ⟨[(hE P "__module__" 203 (hS "pagebase.errors" 194)), (hE P "__firstlineno__" 207 (hI 5 206)), (hE P "__init__" 215 (hR 35)), (hE P "__static_attributes__" 217 (hR 36)), (hE P "__weakref__" 219 (hR 39)), (hE P "__doc__" 220 .none)]⟩ 3), ⟨[]⟩⟩
noncomputable def o38 : Obj := ⟨(.type "type"), .none, (.cls (ClassData.mk (Str.ofString "PagebaseError") [(.type "Exception")] [(hR 38), (.type "Exception"), (.type "BaseException"), (.type "object")] 37 (Str.ofString "PagebaseError") true [] [(hR 51), (hR 63)] false .none false)), ⟨[(.some (hR 22)), .none, (.some (hS "PagebaseError" 196)), (.some (hS "PagebaseError" 204)), (.some (.builtin "Exception.__new__")), (.some (.bool true))]⟩⟩
noncomputable def o39 : Obj := hC "getset_descriptor" [(hS "__weakref__" 218), (hR 38), (.builtin "ExceptionGroup.__weakref__"), .none]
noncomputable def o40 : Obj := hC "super" [(hR 38), (hR 38), (hR 38)]
noncomputable def o41 : Obj := hC "builtin_function_or_method" [(.builtin "object.__init_subclass__"), (hR 38)]
noncomputable def o42 : Obj := hT [(hR 38)]
noncomputable def o43 : Obj := hC "builtin_function_or_method" [(.builtin "type.__prepare__"), (.type "type")]
noncomputable def o44 (P : Params) : Obj := ⟨(.type "dict"), .none, (.dict ⟨[(hE P "__module__" 232 (hS "pagebase.errors" 194)), (hE P "__qualname__" 234 (hS "CorruptError" 233)), (hE P "__firstlineno__" 236 (hI 9 235)), (hE P "__static_attributes__" 237 (hR 49))]⟩ 4), ⟨[]⟩⟩
noncomputable def o45 : Obj := hT []
noncomputable def o46 : Obj := hN []
noncomputable def o47 : Obj := hC "code" [(hS "CorruptError" 227), (hS "CorruptError" 228), (hS "/claim/cut.py" 229), (hI 9 0), (hI 0 0), (hI 0 0), (hI 0 0), (hI 0 0), (hR 45), (.bool false), (hI 181 0), (hR 46), .none, .none, .none, .none, (hI 230 0), (hI 9 0), (hS "/claim/cut.py" 231)]
noncomputable def o48 : Obj := ⟨(.type "frame"), .none, .plain, ⟨[(.some (hR 47)), (.some (hR 3)), (.some (hR 44)), .none, (.some (hS "pagebase.errors" 194)), .none, (.some (hR 0))]⟩⟩
noncomputable def o49 : Obj := hT []
noncomputable def o50 (P : Params) : Obj := ⟨(.type "dict"), .none, (.dict ⟨[(hE P "__module__" 232 (hS "pagebase.errors" 194)), (hE P "__firstlineno__" 236 (hI 9 235)), (hE P "__static_attributes__" 237 (hR 49)), (hE P "__doc__" 238 .none)]⟩ 2), ⟨[]⟩⟩
noncomputable def o51 : Obj := ⟨(.type "type"), .none, (.cls (ClassData.mk (Str.ofString "CorruptError") [(hR 38)] [(hR 51), (hR 38), (.type "Exception"), (.type "BaseException"), (.type "object")] 50 (Str.ofString "CorruptError") true [] [] false .none false)), ⟨[(.some (hR 42)), .none, (.some (hS "CorruptError" 225)), (.some (hS "CorruptError" 233)), (.some (.builtin "Exception.__new__")), (.some (.bool true))]⟩⟩
noncomputable def o52 : Obj := hC "super" [(hR 51), (hR 51), (hR 51)]
noncomputable def o53 : Obj := hC "builtin_function_or_method" [(.builtin "object.__init_subclass__"), (hR 51)]
noncomputable def o54 : Obj := hT [(hR 38)]
noncomputable def o55 : Obj := hC "builtin_function_or_method" [(.builtin "type.__prepare__"), (.type "type")]
noncomputable def o56 (P : Params) : Obj := ⟨(.type "dict"), .none, (.dict ⟨[(hE P "__module__" 248 (hS "pagebase.errors" 194)), (hE P "__qualname__" 250 (hS "MisuseError" 249)), (hE P "__firstlineno__" 252 (hI 11 251)), (hE P "__static_attributes__" 253 (hR 61))]⟩ 4), ⟨[]⟩⟩
noncomputable def o57 : Obj := hT []
noncomputable def o58 : Obj := hN []
noncomputable def o59 : Obj := hC "code" [(hS "MisuseError" 243), (hS "MisuseError" 244), (hS "/claim/cut.py" 245), (hI 11 0), (hI 0 0), (hI 0 0), (hI 0 0), (hI 0 0), (hR 57), (.bool false), (hI 181 0), (hR 58), .none, .none, .none, .none, (hI 246 0), (hI 11 0), (hS "/claim/cut.py" 247)]
noncomputable def o60 : Obj := ⟨(.type "frame"), .none, .plain, ⟨[(.some (hR 59)), (.some (hR 3)), (.some (hR 56)), .none, (.some (hS "pagebase.errors" 194)), .none, (.some (hR 0))]⟩⟩
noncomputable def o61 : Obj := hT []
noncomputable def o62 (P : Params) : Obj := ⟨(.type "dict"), .none, (.dict ⟨[(hE P "__module__" 248 (hS "pagebase.errors" 194)), (hE P "__firstlineno__" 252 (hI 11 251)), (hE P "__static_attributes__" 253 (hR 61)), (hE P "__doc__" 254 .none)]⟩ 2), ⟨[]⟩⟩
noncomputable def o63 : Obj := ⟨(.type "type"), .none, (.cls (ClassData.mk (Str.ofString "MisuseError") [(hR 38)] [(hR 63), (hR 38), (.type "Exception"), (.type "BaseException"), (.type "object")] 62 (Str.ofString "MisuseError") true [] [] false .none false)), ⟨[(.some (hR 54)), .none, (.some (hS "MisuseError" 241)), (.some (hS "MisuseError" 249)), (.some (.builtin "Exception.__new__")), (.some (.bool true))]⟩⟩
noncomputable def o64 : Obj := hC "super" [(hR 63), (hR 63), (hR 63)]
noncomputable def o65 : Obj := hC "builtin_function_or_method" [(.builtin "object.__init_subclass__"), (hR 63)]
noncomputable def o94 : Obj := hT [(hI 2 309), (hI 5 311), (hI 10 313), (hI 13 315)]
noncomputable def o3b (P : Params) : Obj := ⟨(.type "dict"), .none, (.dict ⟨[(hE P "__name__" 165 (hS "pagebase.node_view" 307)), (hE P "__doc__" 166 .none), (hE P "__package__" 167 .none), (hE P "__loader__" 168 (.builtin "__main__.__loader__#opaque")), (hE P "__spec__" 169 .none), (hE P "__annotations__" 170 (hR 6)), (hE P "__builtins__" 171 (hR 4)), (hE P "__file__" 173 (hS "/claim/cut.py" 172)), (hE P "__cached__" 174 .none), (hE P "_wall" 193 (hR 21)), (hE P "PagebaseError" 224 (hR 38)), (hE P "CorruptError" 240 (hR 51)), (hE P "MisuseError" 256 (hR 63)), (hE P "pages_of" 270 (hR 72)), (hE P "HEADER_SIZE" 272 (hI 32 271)), (hE P "WORD" 276 (hI 18446744073709551616 275)), (hE P "put_varint" 288 (hR 79)), (hE P "get_varint" 299 (hR 86)), (hE P "signed" 306 (hR 93)), (hE P "INNER_KEYS" 310 (hI 2 309)), (hE P "INNER_ROWS" 312 (hI 5 311)), (hE P "LEAF_KEYS" 314 (hI 10 313)), (hE P "LEAF_ROWS" 316 (hI 13 315)), (hE P "KINDS" 317 (hR 94)), (hE P "LEAST_CELL" 319 (hI 4 318)), (hE P "two_at" 327 (hR 101)), (hE P "four_at" 335 (hR 108)), (hE P "put_two" 344 (hR 115)), (hE P "put_four" 353 (hR 122)), (hE P "four_octets" 361 (hR 129)), (hE P "is_leaf" 368 (hR 136)), (hE P "is_leaf_node_view" 369 (hR 136)), (hE P "head_size" 376 (hR 143)), (hE P "max_local" 384 (hR 150)), (hE P "min_local" 391 (hR 157)), (hE P "local_size" 403 (hR 164)), (hE P "Cell" 456 (hR 195)), (hE P "read_cell" 473 (hR 206)), (hE P "NodeView" 644 (hR 338))]⟩ 39), ⟨[]⟩⟩
noncomputable def o12c : Obj := hN [(hI 1 0), (hI 0 0), (hR 20), (hI 5 0), (hI 0 0), (hR 27), (hI 9 0), (hI 0 0), (hR 47), (hI 11 0), (hI 0 0), (hR 59), (hI 14 0), (hI 0 0), (hR 71), (hI 29 0), (hI 0 0), (hR 78), (hI 46 0), (hI 0 0), (hR 85), (hI 59 0), (hI 0 0), (hR 92), (hI 70 0), (hI 0 0), (hR 100), (hI 72 0), (hI 0 0), (hR 107), (hI 74 0), (hI 0 0), (hR 114), (hI 77 0), (hI 0 0), (hR 121), (hI 80 0), (hI 0 0), (hR 128), (hI 84 0), (hI 0 0), (hR 135), (hI 87 0), (hI 0 0), (hR 142), (hI 91 0), (hI 0 0), (hR 149), (hI 95 0), (hI 0 0), (hR 156), (hI 97 0), (hI 0 0), (hR 163), (hI 106 0), (hI 0 0), (hR 170), (hI 131 0), (hI 0 0), (hR 205), (hI 158 0), (hI 0 0), (hR 212)]
noncomputable def o165 : Obj := hT []
noncomputable def o166 : Obj := hC "builtin_function_or_method" [(.builtin "type.__prepare__"), (.type "type")]
noncomputable def o167 (P : Params) : Obj := ⟨(.type "dict"), .none, (.dict ⟨[(hE P "__module__" 411 (hS "pagebase.node_view" 307)), (hE P "__qualname__" 413 (hS "Cell" 412)), (hE P "__firstlineno__" 415 (hI 106 414)), (hE P "__init__" 427 (hR 178)), (hE P "rest" 434 (hR 185)), (hE P "octets" 443 (hR 192)), (hE P "__static_attributes__" 449 (hR 193))]⟩ 7), ⟨[]⟩⟩
noncomputable def o168 : Obj := hT []
noncomputable def o169 : Obj := hN [(hI 108 0), (hI 4 0), (hR 177), (hI 115 0), (hI 4 0), (hR 184), (hI 118 0), (hI 4 0), (hR 191)]
noncomputable def o170 : Obj := hC "code" [(hS "Cell" 406), (hS "Cell" 407), (hS "/claim/cut.py" 408), (hI 106 0), (hI 0 0), (hI 0 0), (hI 0 0), (hI 0 0), (hR 168), (.bool false), (hI 181 0), (hR 169), .none, .none, .none, .none, (hI 409 0), (hI 106 0), (hS "/claim/cut.py" 410)]
noncomputable def o171 : Obj := ⟨(.type "frame"), .none, .plain, ⟨[(.some (hR 170)), (.some (hR 3)), (.some (hR 167)), .none, (.some (hS "pagebase.node_view" 307)), .none, (.some (hR 0))]⟩⟩
noncomputable def o193 : Obj := hT [(hS "child" 444), (hS "local" 445), (hS "overflow" 446), (hS "rowid" 447), (hS "size" 448)]
noncomputable def o194 (P : Params) : Obj := ⟨(.type "dict"), .none, (.dict ⟨[(hE P "__module__" 411 (hS "pagebase.node_view" 307)), (hE P "__firstlineno__" 415 (hI 106 414)), (hE P "__init__" 427 (hR 178)), (hE P "rest" 434 (hR 185)), (hE P "octets" 443 (hR 192)), (hE P "__static_attributes__" 449 (hR 193)), (hE P "__dict__" 451 (hR 196)), (hE P "__weakref__" 453 (hR 197)), (hE P "__doc__" 454 .none)]⟩ 4), ⟨[]⟩⟩
noncomputable def o195 : Obj := ⟨(.type "type"), .none, (.cls (ClassData.mk (Str.ofString "Cell") [(.type "object")] [(hR 195), (.type "object")] 194 (Str.ofString "Cell") true [] [] false .none false)), ⟨[.none, .none, (.some (hS "Cell" 404)), (.some (hS "Cell" 412)), (.some (.builtin "object.__new__")), (.some (.bool true))]⟩⟩
noncomputable def o196 : Obj := hC "getset_descriptor" [(hS "__dict__" 450), (hR 195), (.builtin "function.__dict__"), (.builtin "function.__dict__#set")]
noncomputable def o197 : Obj := hC "getset_descriptor" [(hS "__weakref__" 452), (hR 195), (.builtin "ExceptionGroup.__weakref__"), .none]
noncomputable def o198 : Obj := hC "super" [(hR 195), (hR 195), (hR 195)]
noncomputable def o199 : Obj := hC "builtin_function_or_method" [(.builtin "object.__init_subclass__"), (hR 195)]
noncomputable def o207 : Obj := hT []
noncomputable def o208 : Obj := hC "builtin_function_or_method" [(.builtin "type.__prepare__"), (.type "type")]
noncomputable def o209 (P : Params) : Obj := ⟨(.type "dict"), .none, (.dict ⟨[(hE P "__module__" 481 (hS "pagebase.node_view" 307)), (hE P "__qualname__" 483 (hS "NodeView" 482)), (hE P "__firstlineno__" 485 (hI 158 484)), (hE P "__init__" 495 (hR 220)), (hE P "kind" 503 (hR 227)), (hE P "is_leaf" 510 (hR 234)), (hE P "is_rows" 517 (hR 241)), (hE P "count" 524 (hR 248)), (hE P "pointers" 531 (hR 255)), (hE P "content" 538 (hR 262)), (hE P "fragments" 545 (hR 269)), (hE P "right" 552 (hR 276)), (hE P "octets" 559 (hR 283)), (hE P "place" 569 (hR 290)), (hE P "cell" 579 (hR 297)), (hE P "raw" 590 (hR 304)), (hE P "raws" 596 (hR 309)), (hE P "rowid" 607 (hR 316)), (hE P "child" 615 (hR 323)), (hE P "children" 621 (hR 328)), (hE P "blocks" 632 (hR 335)), (hE P "__static_attributes__" 637 (hR 336))]⟩ 22), ⟨[]⟩⟩
noncomputable def o210 : Obj := hT []
noncomputable def o211 : Obj := hN [(hI 160 0), (hI 4 0), (hR 219), (hI 168 0), (hI 4 0), (hR 226), (hI 174 0), (hI 4 0), (hR 233), (hI 177 0), (hI 4 0), (hR 240), (hI 180 0), (hI 4 0), (hR 247), (hI 183 0), (hI 4 0), (hR 254), (hI 188 0), (hI 4 0), (hR 261), (hI 191 0), (hI 4 0), (hR 268), (hI 194 0), (hI 4 0), (hR 275), (hI 197 0), (hI 4 0), (hR 282), (hI 200 0), (hI 4 0), (hR 289), (hI 209 0), (hI 4 0), (hR 296), (hI 213 0), (hI 4 0), (hR 303), (hI 218 0), (hI 4 0), (hR 308), (hI 221 0), (hI 4 0), (hR 315), (hI 230 0), (hI 4 0), (hR 322), (hI 235 0), (hI 4 0), (hR 327), (hI 240 0), (hI 4 0), (hR 334)]
noncomputable def o212 : Obj := hC "code" [(hS "NodeView" 476), (hS "NodeView" 477), (hS "/claim/cut.py" 478), (hI 158 0), (hI 0 0), (hI 0 0), (hI 0 0), (hI 0 0), (hR 210), (.bool false), (hI 181 0), (hR 211), .none, .none, .none, .none, (hI 479 0), (hI 158 0), (hS "/claim/cut.py" 480)]
noncomputable def o213 : Obj := ⟨(.type "frame"), .none, .plain, ⟨[(.some (hR 212)), (.some (hR 3)), (.some (hR 209)), .none, (.some (hS "pagebase.node_view" 307)), .none, (.some (hR 0))]⟩⟩
noncomputable def o305 : Obj := hT []
noncomputable def o306 : Obj := hN []
noncomputable def o307 : Obj := ⟨.none, .none, (.func (hF (s2 33 13) "NodeView.raws" 0 .none .none)), ⟨[]⟩⟩
noncomputable def o308 : Obj := hC "code" [(hS "raws" 591), (hS "NodeView.raws" 592), (hS "/claim/cut.py" 593), (hI 218 0), (hI 1 0), (hI 0 0), (hI 0 0), (hI 3 0), (hR 305), (.bool true), (hI 181 0), (hR 306), .none, .none, .none, (hR 307), (hI 594 0), (hI 218 0), (hS "/claim/cut.py" 595)]
noncomputable def o309 : Obj := ⟨(.type "function"), .none, (.func (hF (s2 33 13) "NodeView.raws" 3 (hS "pagebase.node_view" 307) (hR 308))), ⟨[]⟩⟩
noncomputable def o324 : Obj := hT []
noncomputable def o325 : Obj := hN []
noncomputable def o326 : Obj := ⟨.none, .none, (.func (hF (s2 33 16) "NodeView.children" 0 .none .none)), ⟨[]⟩⟩
noncomputable def o327 : Obj := hC "code" [(hS "children" 616), (hS "NodeView.children" 617), (hS "/claim/cut.py" 618), (hI 235 0), (hI 1 0), (hI 0 0), (hI 0 0), (hI 3 0), (hR 324), (.bool true), (hI 181 0), (hR 325), .none, .none, .none, (hR 326), (hI 619 0), (hI 235 0), (hS "/claim/cut.py" 620)]
noncomputable def o328 : Obj := ⟨(.type "function"), .none, (.func (hF (s2 33 16) "NodeView.children" 3 (hS "pagebase.node_view" 307) (hR 327))), ⟨[]⟩⟩
noncomputable def o336 : Obj := hT [(hS "base" 633), (hS "data" 634), (hS "page" 635), (hS "usable" 636)]
noncomputable def o337 (P : Params) : Obj := ⟨(.type "dict"), .none, (.dict ⟨[(hE P "__module__" 481 (hS "pagebase.node_view" 307)), (hE P "__firstlineno__" 485 (hI 158 484)), (hE P "__init__" 495 (hR 220)), (hE P "kind" 503 (hR 227)), (hE P "is_leaf" 510 (hR 234)), (hE P "is_rows" 517 (hR 241)), (hE P "count" 524 (hR 248)), (hE P "pointers" 531 (hR 255)), (hE P "content" 538 (hR 262)), (hE P "fragments" 545 (hR 269)), (hE P "right" 552 (hR 276)), (hE P "octets" 559 (hR 283)), (hE P "place" 569 (hR 290)), (hE P "cell" 579 (hR 297)), (hE P "raw" 590 (hR 304)), (hE P "raws" 596 (hR 309)), (hE P "rowid" 607 (hR 316)), (hE P "child" 615 (hR 323)), (hE P "children" 621 (hR 328)), (hE P "blocks" 632 (hR 335)), (hE P "__static_attributes__" 637 (hR 336)), (hE P "__dict__" 639 (hR 339)), (hE P "__weakref__" 641 (hR 340)), (hE P "__doc__" 642 .none)]⟩ 4), ⟨[]⟩⟩
noncomputable def o338 : Obj := ⟨(.type "type"), .none, (.cls (ClassData.mk (Str.ofString "NodeView") [(.type "object")] [(hR 338), (.type "object")] 337 (Str.ofString "NodeView") true [] [] false .none false)), ⟨[.none, .none, (.some (hS "NodeView" 474)), (.some (hS "NodeView" 482)), (.some (.builtin "object.__new__")), (.some (.bool true))]⟩⟩
noncomputable def o339 : Obj := hC "getset_descriptor" [(hS "__dict__" 638), (hR 338), (.builtin "function.__dict__"), (.builtin "function.__dict__#set")]
noncomputable def o340 : Obj := hC "getset_descriptor" [(hS "__weakref__" 640), (hR 338), (.builtin "ExceptionGroup.__weakref__"), .none]
noncomputable def o341 : Obj := hC "super" [(hR 338), (hR 338), (hR 338)]
noncomputable def o342 : Obj := hC "builtin_function_or_method" [(.builtin "object.__init_subclass__"), (hR 338)]
noncomputable def o3c (P : Params) : Obj := ⟨(.type "dict"), .none, (.dict ⟨[(hE P "__name__" 165 (hS "pagebase.node" 830)), (hE P "__doc__" 166 .none), (hE P "__package__" 167 .none), (hE P "__loader__" 168 (.builtin "__main__.__loader__#opaque")), (hE P "__spec__" 169 .none), (hE P "__annotations__" 170 (hR 6)), (hE P "__builtins__" 171 (hR 4)), (hE P "__file__" 173 (hS "/claim/cut.py" 172)), (hE P "__cached__" 174 .none), (hE P "_wall" 193 (hR 21)), (hE P "PagebaseError" 224 (hR 38)), (hE P "CorruptError" 240 (hR 51)), (hE P "MisuseError" 256 (hR 63)), (hE P "pages_of" 270 (hR 72)), (hE P "HEADER_SIZE" 272 (hI 32 271)), (hE P "WORD" 276 (hI 18446744073709551616 275)), (hE P "put_varint" 288 (hR 79)), (hE P "get_varint" 299 (hR 86)), (hE P "signed" 306 (hR 93)), (hE P "INNER_KEYS" 310 (hI 2 309)), (hE P "INNER_ROWS" 312 (hI 5 311)), (hE P "LEAF_KEYS" 314 (hI 10 313)), (hE P "LEAF_ROWS" 316 (hI 13 315)), (hE P "KINDS" 317 (hR 94)), (hE P "LEAST_CELL" 319 (hI 4 318)), (hE P "two_at" 327 (hR 101)), (hE P "four_at" 335 (hR 108)), (hE P "put_two" 344 (hR 115)), (hE P "put_four" 353 (hR 122)), (hE P "four_octets" 361 (hR 129)), (hE P "is_leaf" 368 (hR 136)), (hE P "is_leaf_node_view" 369 (hR 136)), (hE P "head_size" 376 (hR 143)), (hE P "max_local" 384 (hR 150)), (hE P "min_local" 391 (hR 157)), (hE P "local_size" 403 (hR 164)), (hE P "Cell" 456 (hR 195)), (hE P "read_cell" 473 (hR 206)), (hE P "NodeView" 644 (hR 338)), (hE P "POINTER" 648 (hI 2 647)), (hE P "cost" 655 (hR 349)), (hE P "total" 661 (hR 354)), (hE P "base_of" 668 (hR 361)), (hE P "capacity" 677 (hR 368)), (hE P "child_of" 684 (hR 375)), (hE P "Content" 723 (hR 397)), (hE P "fits" 732 (hR 408)), (hE P "write_content" 750 (hR 415)), (hE P "PageStore" 829 (hR 474))]⟩ 49), ⟨[]⟩⟩
noncomputable def o12d : Obj := hN [(hI 1 0), (hI 0 0), (hR 20), (hI 5 0), (hI 0 0), (hR 27), (hI 9 0), (hI 0 0), (hR 47), (hI 11 0), (hI 0 0), (hR 59), (hI 14 0), (hI 0 0), (hR 71), (hI 29 0), (hI 0 0), (hR 78), (hI 46 0), (hI 0 0), (hR 85), (hI 59 0), (hI 0 0), (hR 92), (hI 70 0), (hI 0 0), (hR 100), (hI 72 0), (hI 0 0), (hR 107), (hI 74 0), (hI 0 0), (hR 114), (hI 77 0), (hI 0 0), (hR 121), (hI 80 0), (hI 0 0), (hR 128), (hI 84 0), (hI 0 0), (hR 135), (hI 87 0), (hI 0 0), (hR 142), (hI 91 0), (hI 0 0), (hR 149), (hI 95 0), (hI 0 0), (hR 156), (hI 97 0), (hI 0 0), (hR 163), (hI 106 0), (hI 0 0), (hR 170), (hI 131 0), (hI 0 0), (hR 205), (hI 158 0), (hI 0 0), (hR 212), (hI 256 0), (hI 0 0), (hR 348), (hI 258 0), (hI 0 0), (hR 353), (hI 260 0), (hI 0 0), (hR 360), (hI 262 0), (hI 0 0), (hR 367), (hI 264 0), (hI 0 0), (hR 374), (hI 266 0), (hI 0 0), (hR 381), (hI 275 0), (hI 0 0), (hR 407), (hI 277 0), (hI 0 0), (hR 414), (hI 294 0), (hI 0 0), (hR 421)]
noncomputable def o350 : Obj := hT []
noncomputable def o351 : Obj := hN []
noncomputable def o352 : Obj := ⟨.none, .none, (.func (hF (s1 37) "total" 0 .none .none)), ⟨[]⟩⟩
noncomputable def o353 : Obj := hC "code" [(hS "total" 656), (hS "total" 657), (hS "/claim/cut.py" 658), (hI 258 0), (hI 1 0), (hI 0 0), (hI 0 0), (hI 3 0), (hR 350), (.bool true), (hI 181 0), (hR 351), .none, .none, .none, (hR 352), (hI 659 0), (hI 258 0), (hS "/claim/cut.py" 660)]
noncomputable def o354 : Obj := ⟨(.type "function"), .none, (.func (hF (s1 37) "total" 3 (hS "pagebase.layout" 645) (hR 353))), ⟨[]⟩⟩
noncomputable def o376 : Obj := hT []
noncomputable def o377 : Obj := hC "builtin_function_or_method" [(.builtin "type.__prepare__"), (.type "type")]
noncomputable def o378 (P : Params) : Obj := ⟨(.type "dict"), .none, (.dict ⟨[(hE P "__module__" 692 (hS "pagebase.layout" 645)), (hE P "__qualname__" 694 (hS "Content" 693)), (hE P "__firstlineno__" 696 (hI 266 695)), (hE P "__init__" 706 (hR 389)), (hE P "children" 712 (hR 394)), (hE P "__static_attributes__" 716 (hR 395))]⟩ 6), ⟨[]⟩⟩
noncomputable def o379 : Obj := hT []
noncomputable def o380 : Obj := hN [(hI 268 0), (hI 4 0), (hR 388), (hI 273 0), (hI 4 0), (hR 393)]
noncomputable def o381 : Obj := hC "code" [(hS "Content" 687), (hS "Content" 688), (hS "/claim/cut.py" 689), (hI 266 0), (hI 0 0), (hI 0 0), (hI 0 0), (hI 0 0), (hR 379), (.bool false), (hI 181 0), (hR 380), .none, .none, .none, .none, (hI 690 0), (hI 266 0), (hS "/claim/cut.py" 691)]
noncomputable def o382 : Obj := ⟨(.type "frame"), .none, .plain, ⟨[(.some (hR 381)), (.some (hR 3)), (.some (hR 378)), .none, (.some (hS "pagebase.layout" 645)), .none, (.some (hR 0))]⟩⟩
noncomputable def o390 : Obj := hT []
noncomputable def o391 : Obj := hN []
noncomputable def o392 : Obj := ⟨.none, .none, (.func (hF (s2 41 1) "Content.children" 0 .none .none)), ⟨[]⟩⟩
noncomputable def o393 : Obj := hC "code" [(hS "children" 707), (hS "Content.children" 708), (hS "/claim/cut.py" 709), (hI 273 0), (hI 1 0), (hI 0 0), (hI 0 0), (hI 3 0), (hR 390), (.bool true), (hI 181 0), (hR 391), .none, .none, .none, (hR 392), (hI 710 0), (hI 273 0), (hS "/claim/cut.py" 711)]
noncomputable def o394 : Obj := ⟨(.type "function"), .none, (.func (hF (s2 41 1) "Content.children" 3 (hS "pagebase.layout" 645) (hR 393))), ⟨[]⟩⟩
noncomputable def o395 : Obj := hT [(hS "kind" 713), (hS "raws" 714), (hS "right" 715)]
noncomputable def o396 (P : Params) : Obj := ⟨(.type "dict"), .none, (.dict ⟨[(hE P "__module__" 692 (hS "pagebase.layout" 645)), (hE P "__firstlineno__" 696 (hI 266 695)), (hE P "__init__" 706 (hR 389)), (hE P "children" 712 (hR 394)), (hE P "__static_attributes__" 716 (hR 395)), (hE P "__dict__" 718 (hR 398)), (hE P "__weakref__" 720 (hR 399)), (hE P "__doc__" 721 .none)]⟩ 4), ⟨[]⟩⟩
noncomputable def o397 : Obj := ⟨(.type "type"), .none, (.cls (ClassData.mk (Str.ofString "Content") [(.type "object")] [(hR 397), (.type "object")] 396 (Str.ofString "Content") true [] [] false .none false)), ⟨[.none, .none, (.some (hS "Content" 685)), (.some (hS "Content" 693)), (.some (.builtin "object.__new__")), (.some (.bool true))]⟩⟩
noncomputable def o398 : Obj := hC "getset_descriptor" [(hS "__dict__" 717), (hR 397), (.builtin "function.__dict__"), (.builtin "function.__dict__#set")]
noncomputable def o399 : Obj := hC "getset_descriptor" [(hS "__weakref__" 719), (hR 397), (.builtin "ExceptionGroup.__weakref__"), .none]
noncomputable def o400 : Obj := hC "super" [(hR 397), (hR 397), (hR 397)]
noncomputable def o401 : Obj := hC "builtin_function_or_method" [(.builtin "object.__init_subclass__"), (hR 397)]
noncomputable def o416 : Obj := hT []
noncomputable def o417 : Obj := hC "builtin_function_or_method" [(.builtin "type.__prepare__"), (.type "type")]
noncomputable def o418 (P : Params) : Obj := ⟨(.type "dict"), .none, (.dict ⟨[(hE P "__module__" 760 (hS "pagebase.store" 751)), (hE P "__qualname__" 762 (hS "PageStore" 761)), (hE P "__firstlineno__" 764 (hI 294 763)), (hE P "__init__" 772 (hR 429)), (hE P "page_count" 779 (hR 436)), (hE P "read_page" 787 (hR 443)), (hE P "write_page" 796 (hR 450)), (hE P "extend" 803 (hR 457)), (hE P "take" 810 (hR 464)), (hE P "give" 818 (hR 471)), (hE P "__static_attributes__" 822 (hR 472))]⟩ 11), ⟨[]⟩⟩
noncomputable def o419 : Obj := hT []
noncomputable def o420 : Obj := hN [(hI 296 0), (hI 4 0), (hR 428), (hI 301 0), (hI 4 0), (hR 435), (hI 304 0), (hI 4 0), (hR 442), (hI 309 0), (hI 4 0), (hR 449), (hI 314 0), (hI 4 0), (hR 456), (hI 318 0), (hI 4 0), (hR 463), (hI 323 0), (hI 4 0), (hR 470)]
noncomputable def o421 : Obj := hC "code" [(hS "PageStore" 755), (hS "PageStore" 756), (hS "/claim/cut.py" 757), (hI 294 0), (hI 0 0), (hI 0 0), (hI 0 0), (hI 0 0), (hR 419), (.bool false), (hI 181 0), (hR 420), .none, .none, .none, .none, (hI 758 0), (hI 294 0), (hS "/claim/cut.py" 759)]
noncomputable def o422 : Obj := ⟨(.type "frame"), .none, .plain, ⟨[(.some (hR 421)), (.some (hR 3)), (.some (hR 418)), .none, (.some (hS "pagebase.store" 751)), .none, (.some (hR 0))]⟩⟩
noncomputable def o472 : Obj := hT [(hS "page_size" 819), (hS "pages" 820), (hS "spare" 821)]
noncomputable def o473 (P : Params) : Obj := ⟨(.type "dict"), .none, (.dict ⟨[(hE P "__module__" 760 (hS "pagebase.store" 751)), (hE P "__firstlineno__" 764 (hI 294 763)), (hE P "__init__" 772 (hR 429)), (hE P "page_count" 779 (hR 436)), (hE P "read_page" 787 (hR 443)), (hE P "write_page" 796 (hR 450)), (hE P "extend" 803 (hR 457)), (hE P "take" 810 (hR 464)), (hE P "give" 818 (hR 471)), (hE P "__static_attributes__" 822 (hR 472)), (hE P "__dict__" 824 (hR 475)), (hE P "__weakref__" 826 (hR 476)), (hE P "__doc__" 827 .none)]⟩ 4), ⟨[]⟩⟩
noncomputable def o474 : Obj := ⟨(.type "type"), .none, (.cls (ClassData.mk (Str.ofString "PageStore") [(.type "object")] [(hR 474), (.type "object")] 473 (Str.ofString "PageStore") true [] [] false .none false)), ⟨[.none, .none, (.some (hS "PageStore" 753)), (.some (hS "PageStore" 761)), (.some (.builtin "object.__new__")), (.some (.bool true))]⟩⟩
noncomputable def o475 : Obj := hC "getset_descriptor" [(hS "__dict__" 823), (hR 474), (.builtin "function.__dict__"), (.builtin "function.__dict__#set")]
noncomputable def o476 : Obj := hC "getset_descriptor" [(hS "__weakref__" 825), (hR 474), (.builtin "ExceptionGroup.__weakref__"), .none]
noncomputable def o477 : Obj := hC "super" [(hR 474), (hR 474), (hR 474)]
noncomputable def o478 : Obj := hC "builtin_function_or_method" [(.builtin "object.__init_subclass__"), (hR 474)]
noncomputable def o3d (P : Params) : Obj := ⟨(.type "dict"), .none, (.dict ⟨[(hE P "__name__" 165 (hS "law_xm0765_01" 1028)), (hE P "__doc__" 166 .none), (hE P "__package__" 167 .none), (hE P "__loader__" 168 (.builtin "__main__.__loader__#opaque")), (hE P "__spec__" 169 .none), (hE P "__annotations__" 170 (hR 6)), (hE P "__builtins__" 171 (hR 4)), (hE P "__file__" 173 (hS "/claim/cut.py" 172)), (hE P "__cached__" 174 .none), (hE P "_wall" 193 (hR 21)), (hE P "PagebaseError" 224 (hR 38)), (hE P "CorruptError" 240 (hR 51)), (hE P "MisuseError" 256 (hR 63)), (hE P "pages_of" 270 (hR 72)), (hE P "HEADER_SIZE" 272 (hI 32 271)), (hE P "WORD" 276 (hI 18446744073709551616 275)), (hE P "put_varint" 288 (hR 79)), (hE P "get_varint" 299 (hR 86)), (hE P "signed" 306 (hR 93)), (hE P "INNER_KEYS" 310 (hI 2 309)), (hE P "INNER_ROWS" 312 (hI 5 311)), (hE P "LEAF_KEYS" 314 (hI 10 313)), (hE P "LEAF_ROWS" 316 (hI 13 315)), (hE P "KINDS" 317 (hR 94)), (hE P "LEAST_CELL" 319 (hI 4 318)), (hE P "two_at" 327 (hR 101)), (hE P "four_at" 335 (hR 108)), (hE P "put_two" 344 (hR 115)), (hE P "put_four" 353 (hR 122)), (hE P "four_octets" 361 (hR 129)), (hE P "is_leaf" 368 (hR 136)), (hE P "is_leaf_node_view" 369 (hR 136)), (hE P "head_size" 376 (hR 143)), (hE P "max_local" 384 (hR 150)), (hE P "min_local" 391 (hR 157)), (hE P "local_size" 403 (hR 164)), (hE P "Cell" 456 (hR 195)), (hE P "read_cell" 473 (hR 206)), (hE P "NodeView" 644 (hR 338)), (hE P "POINTER" 648 (hI 2 647)), (hE P "cost" 655 (hR 349)), (hE P "total" 661 (hR 354)), (hE P "base_of" 668 (hR 361)), (hE P "capacity" 677 (hR 368)), (hE P "child_of" 684 (hR 375)), (hE P "Content" 723 (hR 397)), (hE P "fits" 732 (hR 408)), (hE P "write_content" 750 (hR 415)), (hE P "PageStore" 829 (hR 474)), (hE P "Node" 945 (hR 572)), (hE P "Trees" 1027 (hR 633)), (hE P "_law_pool" 1040 (hR 644)), (hE P "_law_take" 1049 (hR 651)), (hE P "_law_one" 1057 (hR 658)), (hE P "_law_four" 1064 (hR 665)), (hE P "_law_shuffled" 1075 (hR 672)), (hE P "_law_store" 1081 (hR 677)), (hE P "_law_down" 1091 (hR 684)), (hE P "_law_told" 1103 (hR 691)), (hE P "_law_right" 1109 (hR 696)), (hE P "_law_due" 1121 (hR 703)), (hE P "law" 1129 (hR 710))]⟩ 62), ⟨[]⟩⟩
noncomputable def o12e : Obj := hN [(hI 1 0), (hI 0 0), (hR 20), (hI 5 0), (hI 0 0), (hR 27), (hI 9 0), (hI 0 0), (hR 47), (hI 11 0), (hI 0 0), (hR 59), (hI 14 0), (hI 0 0), (hR 71), (hI 29 0), (hI 0 0), (hR 78), (hI 46 0), (hI 0 0), (hR 85), (hI 59 0), (hI 0 0), (hR 92), (hI 70 0), (hI 0 0), (hR 100), (hI 72 0), (hI 0 0), (hR 107), (hI 74 0), (hI 0 0), (hR 114), (hI 77 0), (hI 0 0), (hR 121), (hI 80 0), (hI 0 0), (hR 128), (hI 84 0), (hI 0 0), (hR 135), (hI 87 0), (hI 0 0), (hR 142), (hI 91 0), (hI 0 0), (hR 149), (hI 95 0), (hI 0 0), (hR 156), (hI 97 0), (hI 0 0), (hR 163), (hI 106 0), (hI 0 0), (hR 170), (hI 131 0), (hI 0 0), (hR 205), (hI 158 0), (hI 0 0), (hR 212), (hI 256 0), (hI 0 0), (hR 348), (hI 258 0), (hI 0 0), (hR 353), (hI 260 0), (hI 0 0), (hR 360), (hI 262 0), (hI 0 0), (hR 367), (hI 264 0), (hI 0 0), (hR 374), (hI 266 0), (hI 0 0), (hR 381), (hI 275 0), (hI 0 0), (hR 407), (hI 277 0), (hI 0 0), (hR 414), (hI 294 0), (hI 0 0), (hR 421), (hI 326 0), (hI 0 0), (hR 484), (hI 367 0), (hI 0 0), (hR 580), (hI 394 0), (hI 0 0), (hR 643), (hI 401 0), (hI 0 0), (hR 650), (hI 408 0), (hI 0 0), (hR 657), (hI 410 0), (hI 0 0), (hR 664), (hI 412 0), (hI 0 0), (hR 671), (hI 419 0), (hI 0 0), (hR 676), (hI 431 0), (hI 0 0), (hR 683), (hI 436 0), (hI 0 0), (hR 690), (hI 444 0), (hI 0 0), (hR 695), (hI 466 0), (hI 0 0), (hR 702), (hI 475 0), (hI 0 0), (hR 709)]
noncomputable def o338b : Obj := ⟨(.type "type"), .none, (.cls (ClassData.mk (Str.ofString "NodeView") [(.type "object")] [(hR 338), (.type "object")] 337 (Str.ofString "NodeView") true [] [(hR 572)] false .none false)), ⟨[.none, .none, (.some (hS "NodeView" 474)), (.some (hS "NodeView" 482)), (.some (.builtin "object.__new__")), (.some (.bool true))]⟩⟩
noncomputable def o479 : Obj := hT [(hR 338)]
noncomputable def o480 : Obj := hC "builtin_function_or_method" [(.builtin "type.__prepare__"), (.type "type")]
noncomputable def o481 (P : Params) : Obj := ⟨(.type "dict"), .none, (.dict ⟨[(hE P "__module__" 839 (hS "pagebase.node" 830)), (hE P "__qualname__" 841 (hS "Node" 840)), (hE P "__firstlineno__" 843 (hI 326 842)), (hE P "set_right" 851 (hR 492)), (hE P "clear" 859 (hR 499)), (hE P "gap" 866 (hR 506)), (hE P "set_blocks" 874 (hR 513)), (hE P "room" 884 (hR 520)), (hE P "is_sparse" 891 (hR 527)), (hE P "take_block" 899 (hR 534)), (hE P "allocate" 907 (hR 541)), (hE P "put_all" 915 (hR 548)), (hE P "insert" 924 (hR 555)), (hE P "remove" 932 (hR 562)), (hE P "give_back" 941 (hR 569)), (hE P "__static_attributes__" 942 (hR 570))]⟩ 16), ⟨[]⟩⟩
noncomputable def o482 : Obj := hT []
noncomputable def o483 : Obj := hN [(hI 328 0), (hI 4 0), (hR 491), (hI 331 0), (hI 4 0), (hR 498), (hI 334 0), (hI 4 0), (hR 505), (hI 337 0), (hI 4 0), (hR 512), (hI 340 0), (hI 4 0), (hR 519), (hI 346 0), (hI 4 0), (hR 526), (hI 349 0), (hI 4 0), (hR 533), (hI 352 0), (hI 4 0), (hR 540), (hI 355 0), (hI 4 0), (hR 547), (hI 358 0), (hI 4 0), (hR 554), (hI 361 0), (hI 4 0), (hR 561), (hI 364 0), (hI 4 0), (hR 568)]
noncomputable def o484 : Obj := hC "code" [(hS "Node" 834), (hS "Node" 835), (hS "/claim/cut.py" 836), (hI 326 0), (hI 0 0), (hI 0 0), (hI 0 0), (hI 0 0), (hR 482), (.bool false), (hI 181 0), (hR 483), .none, .none, .none, .none, (hI 837 0), (hI 326 0), (hS "/claim/cut.py" 838)]
noncomputable def o485 : Obj := ⟨(.type "frame"), .none, .plain, ⟨[(.some (hR 484)), (.some (hR 3)), (.some (hR 481)), .none, (.some (hS "pagebase.node" 830)), .none, (.some (hR 0))]⟩⟩
noncomputable def o570 : Obj := hT []
noncomputable def o571 (P : Params) : Obj := ⟨(.type "dict"), .none, (.dict ⟨[(hE P "__module__" 839 (hS "pagebase.node" 830)), (hE P "__firstlineno__" 843 (hI 326 842)), (hE P "set_right" 851 (hR 492)), (hE P "clear" 859 (hR 499)), (hE P "gap" 866 (hR 506)), (hE P "set_blocks" 874 (hR 513)), (hE P "room" 884 (hR 520)), (hE P "is_sparse" 891 (hR 527)), (hE P "take_block" 899 (hR 534)), (hE P "allocate" 907 (hR 541)), (hE P "put_all" 915 (hR 548)), (hE P "insert" 924 (hR 555)), (hE P "remove" 932 (hR 562)), (hE P "give_back" 941 (hR 569)), (hE P "__static_attributes__" 942 (hR 570)), (hE P "__doc__" 943 .none)]⟩ 2), ⟨[]⟩⟩
noncomputable def o572 : Obj := ⟨(.type "type"), .none, (.cls (ClassData.mk (Str.ofString "Node") [(hR 338)] [(hR 572), (hR 338), (.type "object")] 571 (Str.ofString "Node") true [] [] false .none false)), ⟨[(.some (hR 479)), .none, (.some (hS "Node" 832)), (.some (hS "Node" 840)), (.some (.builtin "object.__new__")), (.some (.bool true))]⟩⟩
noncomputable def o573 : Obj := hC "super" [(hR 572), (hR 572), (hR 572)]
noncomputable def o574 : Obj := hC "builtin_function_or_method" [(.builtin "object.__init_subclass__"), (hR 572)]
noncomputable def o575 : Obj := hT []
noncomputable def o576 : Obj := hC "builtin_function_or_method" [(.builtin "type.__prepare__"), (.type "type")]
noncomputable def o577 (P : Params) : Obj := ⟨(.type "dict"), .none, (.dict ⟨[(hE P "__module__" 955 (hS "pagebase.trees" 946)), (hE P "__qualname__" 957 (hS "Trees" 956)), (hE P "__firstlineno__" 959 (hI 367 958)), (hE P "__init__" 968 (hR 588)), (hE P "usable" 975 (hR 595)), (hE P "node" 983 (hR 602)), (hE P "new_node" 992 (hR 609)), (hE P "save" 1000 (hR 616)), (hE P "touch" 1008 (hR 623)), (hE P "deeper" 1016 (hR 630)), (hE P "__static_attributes__" 1020 (hR 631))]⟩ 11), ⟨[]⟩⟩
noncomputable def o578 : Obj := hT []
noncomputable def o579 : Obj := hN [(hI 369 0), (hI 4 0), (hR 587), (hI 374 0), (hI 4 0), (hR 594), (hI 377 0), (hI 4 0), (hR 601), (hI 382 0), (hI 4 0), (hR 608), (hI 385 0), (hI 4 0), (hR 615), (hI 388 0), (hI 4 0), (hR 622), (hI 391 0), (hI 4 0), (hR 629)]
noncomputable def o580 : Obj := hC "code" [(hS "Trees" 950), (hS "Trees" 951), (hS "/claim/cut.py" 952), (hI 367 0), (hI 0 0), (hI 0 0), (hI 0 0), (hI 0 0), (hR 578), (.bool false), (hI 181 0), (hR 579), .none, .none, .none, .none, (hI 953 0), (hI 367 0), (hS "/claim/cut.py" 954)]
noncomputable def o581 : Obj := ⟨(.type "frame"), .none, .plain, ⟨[(.some (hR 580)), (.some (hR 3)), (.some (hR 577)), .none, (.some (hS "pagebase.trees" 946)), .none, (.some (hR 0))]⟩⟩
noncomputable def o631 : Obj := hT [(hS "changes" 1017), (hS "free" 1018), (hS "pager" 1019)]
noncomputable def o632 (P : Params) : Obj := ⟨(.type "dict"), .none, (.dict ⟨[(hE P "__module__" 955 (hS "pagebase.trees" 946)), (hE P "__firstlineno__" 959 (hI 367 958)), (hE P "__init__" 968 (hR 588)), (hE P "usable" 975 (hR 595)), (hE P "node" 983 (hR 602)), (hE P "new_node" 992 (hR 609)), (hE P "save" 1000 (hR 616)), (hE P "touch" 1008 (hR 623)), (hE P "deeper" 1016 (hR 630)), (hE P "__static_attributes__" 1020 (hR 631)), (hE P "__dict__" 1022 (hR 634)), (hE P "__weakref__" 1024 (hR 635)), (hE P "__doc__" 1025 .none)]⟩ 4), ⟨[]⟩⟩
noncomputable def o633 : Obj := ⟨(.type "type"), .none, (.cls (ClassData.mk (Str.ofString "Trees") [(.type "object")] [(hR 633), (.type "object")] 632 (Str.ofString "Trees") true [] [] false .none false)), ⟨[.none, .none, (.some (hS "Trees" 948)), (.some (hS "Trees" 956)), (.some (.builtin "object.__new__")), (.some (.bool true))]⟩⟩
noncomputable def o634 : Obj := hC "getset_descriptor" [(hS "__dict__" 1021), (hR 633), (.builtin "function.__dict__"), (.builtin "function.__dict__#set")]
noncomputable def o635 : Obj := hC "getset_descriptor" [(hS "__weakref__" 1023), (hR 633), (.builtin "ExceptionGroup.__weakref__"), .none]
noncomputable def o636 : Obj := hC "super" [(hR 633), (hR 633), (hR 633)]
noncomputable def o637 : Obj := hC "builtin_function_or_method" [(.builtin "object.__init_subclass__"), (hR 633)]
noncomputable def o673 : Obj := hT []
noncomputable def o674 : Obj := hN []
noncomputable def o675 : Obj := ⟨.none, .none, (.func (hF (s1 56) "_law_store" 0 .none .none)), ⟨[]⟩⟩
noncomputable def o676 : Obj := hC "code" [(hS "_law_store" 1076), (hS "_law_store" 1077), (hS "/claim/cut.py" 1078), (hI 419 0), (hI 2 0), (hI 0 0), (hI 0 0), (hI 3 0), (hR 673), (.bool true), (hI 181 0), (hR 674), .none, .none, .none, (hR 675), (hI 1079 0), (hI 419 0), (hS "/claim/cut.py" 1080)]
noncomputable def o677 : Obj := ⟨(.type "function"), .none, (.func (hF (s1 56) "_law_store" 3 (hS "law_xm0765_01" 1028) (hR 676))), ⟨[]⟩⟩
noncomputable def o692 : Obj := hT []
noncomputable def o693 : Obj := hN []
noncomputable def o694 : Obj := ⟨.none, .none, (.func (hF (s1 59) "_law_right" 0 .none .none)), ⟨[]⟩⟩
noncomputable def o695 : Obj := hC "code" [(hS "_law_right" 1104), (hS "_law_right" 1105), (hS "/claim/cut.py" 1106), (hI 444 0), (hI 1 0), (hI 0 0), (hI 0 0), (hI 3 0), (hR 692), (.bool true), (hI 181 0), (hR 693), .none, .none, .none, (hR 694), (hI 1107 0), (hI 444 0), (hS "/claim/cut.py" 1108)]
noncomputable def o696 : Obj := ⟨(.type "function"), .none, (.func (hF (s1 59) "_law_right" 3 (hS "law_xm0765_01" 1028) (hR 695))), ⟨[]⟩⟩
noncomputable def t47 (P : Params) : BT := (.node (boot_o_0 P) (.node (boot_o_1 P) (.node (boot_o_3 P) (.node (boot_o_7 P) .nil .nil) (.node o11 .nil .nil)) (.node (boot_o_5 P) (.node (boot_o_9 P) .nil .nil) (.node o13 .nil .nil))) (.node (boot_o_2 P) (.node (boot_o_4 P) (.node (boot_o_8 P) .nil .nil) (.node o12 .nil .nil)) (.node (boot_o_6 P) (.node (boot_o_10 P) .nil .nil) (.node o14 .nil .nil))))
noncomputable def t209 (P : Params) : BT := (.node (boot_o_0 P) (.node (boot_o_1 P) (.node (o3 P) (.node (boot_o_7 P) (.node (f15 0) (.node (f29 2) (.node o63 (.node (f123 4) .nil .nil) .nil) (.node (f95 0) (.node (f158 1) .nil .nil) .nil)) (.node o47 (.node (f73 6) (.node (f137 6) .nil .nil) .nil) (.node (f109 2) .nil .nil))) (.node o23 (.node o39 (.node (f66 5) (.node (f130 5) .nil .nil) .nil) (.node (f102 1) .nil .nil)) (.node o55 (.node (f87 0) (.node (f151 0) .nil .nil) .nil) (.node (f116 3) .nil .nil)))) (.node o11 (.node (f15 4) (.node (f29 6) (.node (f66 1) (.node (f130 1) .nil .nil) .nil) (.node (f95 4) (.node (f158 5) .nil .nil) .nil)) (.node o51 (.node (f80 3) (.node (f144 3) .nil .nil) .nil) (.node (f109 6) .nil .nil))) (.node o27 (.node o43 (.node (f73 2) (.node (f137 2) .nil .nil) .nil) (.node (f102 5) .nil .nil)) (.node o59 (.node (f87 4) (.node (f151 4) .nil .nil) .nil) (.node (f123 0) .nil .nil))))) (.node (boot_o_5 P) (.node (boot_o_9 P) (.node (f15 2) (.node (f29 4) (.node o65 (.node (f123 6) .nil .nil) .nil) (.node (f95 2) (.node (f158 3) .nil .nil) .nil)) (.node o49 (.node (f80 1) (.node (f144 1) .nil .nil) .nil) (.node (f109 4) .nil .nil))) (.node o25 (.node o41 (.node (f73 0) (.node (f137 0) .nil .nil) .nil) (.node (f102 3) .nil .nil)) (.node o57 (.node (f87 2) (.node (f151 2) .nil .nil) .nil) (.node (f116 5) .nil .nil)))) (.node o13 (.node (f15 6) (.node (o37 P) (.node (f66 3) (.node (f130 3) .nil .nil) .nil) (.node (f95 6) .nil .nil)) (.node o53 (.node (f80 5) (.node (f144 5) .nil .nil) .nil) (.node (f116 1) .nil .nil))) (.node (f29 0) (.node o45 (.node (f73 4) (.node (f137 4) .nil .nil) .nil) (.node (f109 0) .nil .nil)) (.node o61 (.node (f87 6) (.node (f151 6) .nil .nil) .nil) (.node (f123 2) .nil .nil)))))) (.node (o2 P) (.node (boot_o_4 P) (.node (boot_o_8 P) (.node (f15 1) (.node (f29 3) (.node o64 (.node (f123 5) .nil .nil) .nil) (.node (f95 1) (.node (f158 2) .nil .nil) .nil)) (.node o48 (.node (f80 0) (.node (f144 0) .nil .nil) .nil) (.node (f109 3) .nil .nil))) (.node (o24 P) (.node o40 (.node (f66 6) (.node (f130 6) .nil .nil) .nil) (.node (f102 2) .nil .nil)) (.node (o56 P) (.node (f87 1) (.node (f151 1) .nil .nil) .nil) (.node (f116 4) .nil .nil)))) (.node o12b (.node (f15 5) (.node o36 (.node (f66 2) (.node (f130 2) .nil .nil) .nil) (.node (f95 5) (.node (f158 6) .nil .nil) .nil)) (.node o52 (.node (f80 4) (.node (f144 4) .nil .nil) .nil) (.node (f116 0) .nil .nil))) (.node o28 (.node (o44 P) (.node (f73 3) (.node (f137 3) .nil .nil) .nil) (.node (f102 6) .nil .nil)) (.node o60 (.node (f87 5) (.node (f151 5) .nil .nil) .nil) (.node (f123 1) .nil .nil))))) (.node (boot_o_6 P) (.node (boot_o_10 P) (.node (f15 3) (.node (f29 5) (.node (f66 0) (.node (f130 0) .nil .nil) .nil) (.node (f95 3) (.node (f158 4) .nil .nil) .nil)) (.node (o50 P) (.node (f80 2) (.node (f144 2) .nil .nil) .nil) (.node (f109 5) .nil .nil))) (.node o26 (.node o42 (.node (f73 1) (.node (f137 1) .nil .nil) .nil) (.node (f102 4) .nil .nil)) (.node o58 (.node (f87 3) (.node (f151 3) .nil .nil) .nil) (.node (f116 6) .nil .nil)))) (.node o14 (.node o22 (.node o38 (.node (f66 4) (.node (f130 4) .nil .nil) .nil) (.node (f102 0) .nil .nil)) (.node o54 (.node (f80 6) (.node (f144 6) .nil .nil) .nil) (.node (f116 2) .nil .nil))) (.node (f29 1) (.node o46 (.node (f73 5) (.node (f137 5) .nil .nil) .nil) (.node (f109 1) .nil .nil)) (.node (o62 P) (.node o94 (.node (f158 0) .nil .nil) .nil) (.node (f123 3) .nil .nil)))))))
noncomputable def t391 (P : Params) : BT := (.node (boot_o_0 P) (.node (boot_o_1 P) (.node (o3b P) (.node (boot_o_7 P) (.node (f15 0) (.node (f29 2) (.node o63 (.node (f123 4) (.node (f249 6) .nil .nil) .nil) (.node (f186 5) (.node (f317 2) .nil .nil) .nil)) (.node (f95 0) (.node (f158 1) (.node (f284 3) .nil .nil) .nil) (.node (f221 2) .nil .nil))) (.node o47 (.node (f73 6) (.node (f137 6) (.node (f270 1) .nil .nil) .nil) (.node o207 (.node (f329 6) .nil .nil) .nil)) (.node (f109 2) (.node (f172 3) (.node (f298 5) .nil .nil) .nil) (.node (f235 4) .nil .nil)))) (.node o23 (.node o39 (.node (f66 5) (.node (f130 5) (.node (f263 0) .nil .nil) .nil) (.node o199 (.node o327 .nil .nil) .nil)) (.node (f102 1) (.node (o167 P) (.node (f291 4) .nil .nil) .nil) (.node (f228 3) .nil .nil))) (.node o55 (.node (f87 0) (.node (f151 0) (.node (f277 2) .nil .nil) .nil) (.node (f214 1) .nil .nil)) (.node (f116 3) (.node (f179 4) (.node (f310 1) .nil .nil) .nil) (.node (f242 5) .nil .nil))))) (.node o11 (.node (f15 4) (.node (f29 6) (.node (f66 1) (.node (f130 1) (.node (f256 3) .nil .nil) .nil) (.node o195 (.node (f317 6) .nil .nil) .nil)) (.node (f95 4) (.node (f158 5) (.node (f291 0) .nil .nil) .nil) (.node (f221 6) .nil .nil))) (.node o51 (.node (f80 3) (.node (f144 3) (.node (f270 5) .nil .nil) .nil) (.node o211 (.node o339 .nil .nil) .nil)) (.node (f109 6) (.node (f179 0) (.node o307 .nil .nil) .nil) (.node (f242 1) .nil .nil)))) (.node o27 (.node o43 (.node (f73 2) (.node (f137 2) (.node (f263 4) .nil .nil) .nil) (.node (f200 3) (.node (f329 2) .nil .nil) .nil)) (.node (f102 5) (.node o171 (.node (f298 1) .nil .nil) .nil) (.node (f235 0) .nil .nil))) (.node o59 (.node (f87 4) (.node (f151 4) (.node (f277 6) .nil .nil) .nil) (.node (f214 5) .nil .nil)) (.node (f123 0) (.node (f186 1) (.node (f310 5) .nil .nil) .nil) (.node (f249 2) .nil .nil)))))) (.node (boot_o_5 P) (.node (boot_o_9 P) (.node (f15 2) (.node (f29 4) (.node o65 (.node (f123 6) (.node (f256 1) .nil .nil) .nil) (.node o193 (.node (f317 4) .nil .nil) .nil)) (.node (f95 2) (.node (f158 3) (.node (f284 5) .nil .nil) .nil) (.node (f221 4) .nil .nil))) (.node o49 (.node (f80 1) (.node (f144 1) (.node (f270 3) .nil .nil) .nil) (.node (o209 P) (.node (o337 P) .nil .nil) .nil)) (.node (f109 4) (.node (f172 5) (.node o305 .nil .nil) .nil) (.node (f235 6) .nil .nil)))) (.node o25 (.node o41 (.node (f73 0) (.node (f137 0) (.node (f263 2) .nil .nil) .nil) (.node (f200 1) (.node (f329 0) .nil .nil) .nil)) (.node (f102 3) (.node o169 (.node (f291 6) .nil .nil) .nil) (.node (f228 5) .nil .nil))) (.node o57 (.node (f87 2) (.node (f151 2) (.node (f277 4) .nil .nil) .nil) (.node (f214 3) .nil .nil)) (.node (f116 5) (.node (f179 6) (.node (f310 3) .nil .nil) .nil) (.node (f249 0) .nil .nil))))) (.node o13 (.node (f15 6) (.node (o37 P) (.node (f66 3) (.node (f130 3) (.node (f256 5) .nil .nil) .nil) (.node o197 (.node o325 .nil .nil) .nil)) (.node (f95 6) (.node o165 (.node (f291 2) .nil .nil) .nil) (.node (f228 1) .nil .nil))) (.node o53 (.node (f80 5) (.node (f144 5) (.node (f277 0) .nil .nil) .nil) (.node o213 (.node o341 .nil .nil) .nil)) (.node (f116 1) (.node (f179 2) (.node o309 .nil .nil) .nil) (.node (f242 3) .nil .nil)))) (.node (f29 0) (.node o45 (.node (f73 4) (.node (f137 4) (.node (f263 6) .nil .nil) .nil) (.node (f200 5) (.node (f329 4) .nil .nil) .nil)) (.node (f109 0) (.node (f172 1) (.node (f298 3) .nil .nil) .nil) (.node (f235 2) .nil .nil))) (.node o61 (.node (f87 6) (.node (f151 6) (.node (f284 1) .nil .nil) .nil) (.node (f221 0) .nil .nil)) (.node (f123 2) (.node (f186 3) (.node (f317 0) .nil .nil) .nil) (.node (f249 4) .nil .nil))))))) (.node (o2 P) (.node (boot_o_4 P) (.node (boot_o_8 P) (.node (f15 1) (.node (f29 3) (.node o64 (.node (f123 5) (.node (f256 0) .nil .nil) .nil) (.node (f186 6) (.node (f317 3) .nil .nil) .nil)) (.node (f95 1) (.node (f158 2) (.node (f284 4) .nil .nil) .nil) (.node (f221 3) .nil .nil))) (.node o48 (.node (f80 0) (.node (f144 0) (.node (f270 2) .nil .nil) .nil) (.node o208 (.node o336 .nil .nil) .nil)) (.node (f109 3) (.node (f172 4) (.node (f298 6) .nil .nil) .nil) (.node (f235 5) .nil .nil)))) (.node (o24 P) (.node o40 (.node (f66 6) (.node (f130 6) (.node (f263 1) .nil .nil) .nil) (.node (f200 0) (.node o328 .nil .nil) .nil)) (.node (f102 2) (.node o168 (.node (f291 5) .nil .nil) .nil) (.node (f228 4) .nil .nil))) (.node (o56 P) (.node (f87 1) (.node (f151 1) (.node (f277 3) .nil .nil) .nil) (.node (f214 2) .nil .nil)) (.node (f116 4) (.node (f179 5) (.node (f310 2) .nil .nil) .nil) (.node (f242 6) .nil .nil))))) (.node o12c (.node (f15 5) (.node o36 (.node (f66 2) (.node (f130 2) (.node (f256 4) .nil .nil) .nil) (.node o196 (.node o324 .nil .nil) .nil)) (.node (f95 5) (.node (f158 6) (.node (f291 1) .nil .nil) .nil) (.node (f228 0) .nil .nil))) (.node o52 (.node (f80 4) (.node (f144 4) (.node (f270 6) .nil .nil) .nil) (.node o212 (.node o340 .nil .nil) .nil)) (.node (f116 0) (.node (f179 1) (.node o308 .nil .nil) .nil) (.node (f242 2) .nil .nil)))) (.node o28 (.node (o44 P) (.node (f73 3) (.node (f137 3) (.node (f263 5) .nil .nil) .nil) (.node (f200 4) (.node (f329 3) .nil .nil) .nil)) (.node (f102 6) (.node (f172 0) (.node (f298 2) .nil .nil) .nil) (.node (f235 1) .nil .nil))) (.node o60 (.node (f87 5) (.node (f151 5) (.node (f284 0) .nil .nil) .nil) (.node (f214 6) .nil .nil)) (.node (f123 1) (.node (f186 2) (.node (f310 6) .nil .nil) .nil) (.node (f249 3) .nil .nil)))))) (.node (boot_o_6 P) (.node (boot_o_10 P) (.node (f15 3) (.node (f29 5) (.node (f66 0) (.node (f130 0) (.node (f256 2) .nil .nil) .nil) (.node (o194 P) (.node (f317 5) .nil .nil) .nil)) (.node (f95 3) (.node (f158 4) (.node (f284 6) .nil .nil) .nil) (.node (f221 5) .nil .nil))) (.node (o50 P) (.node (f80 2) (.node (f144 2) (.node (f270 4) .nil .nil) .nil) (.node o210 (.node o338 .nil .nil) .nil)) (.node (f109 5) (.node (f172 6) (.node o306 .nil .nil) .nil) (.node (f242 0) .nil .nil)))) (.node o26 (.node o42 (.node (f73 1) (.node (f137 1) (.node (f263 3) .nil .nil) .nil) (.node (f200 2) (.node (f329 1) .nil .nil) .nil)) (.node (f102 4) (.node o170 (.node (f298 0) .nil .nil) .nil) (.node (f228 6) .nil .nil))) (.node o58 (.node (f87 3) (.node (f151 3) (.node (f277 5) .nil .nil) .nil) (.node (f214 4) .nil .nil)) (.node (f116 6) (.node (f186 0) (.node (f310 4) .nil .nil) .nil) (.node (f249 1) .nil .nil))))) (.node o14 (.node o22 (.node o38 (.node (f66 4) (.node (f130 4) (.node (f256 6) .nil .nil) .nil) (.node o198 (.node o326 .nil .nil) .nil)) (.node (f102 0) (.node o166 (.node (f291 3) .nil .nil) .nil) (.node (f228 2) .nil .nil))) (.node o54 (.node (f80 6) (.node (f144 6) (.node (f277 1) .nil .nil) .nil) (.node (f214 0) (.node o342 .nil .nil) .nil)) (.node (f116 2) (.node (f179 3) (.node (f310 0) .nil .nil) .nil) (.node (f242 4) .nil .nil)))) (.node (f29 1) (.node o46 (.node (f73 5) (.node (f137 5) (.node (f270 0) .nil .nil) .nil) (.node (f200 6) (.node (f329 5) .nil .nil) .nil)) (.node (f109 1) (.node (f172 2) (.node (f298 4) .nil .nil) .nil) (.node (f235 3) .nil .nil))) (.node (o62 P) (.node o94 (.node (f158 0) (.node (f284 2) .nil .nil) .nil) (.node (f221 1) .nil .nil)) (.node (f123 3) (.node (f186 4) (.node (f317 1) .nil .nil) .nil) (.node (f249 5) .nil .nil))))))))
noncomputable def t622 (P : Params) : BT := (.node (boot_o_0 P) (.node (boot_o_1 P) (.node (o3c P) (.node (boot_o_7 P) (.node (f15 0) (.node (f29 2) (.node o63 (.node (f123 4) (.node (f249 6) .nil .nil) (.node (f383 0) .nil .nil)) (.node (f186 5) (.node (f317 2) .nil .nil) (.node (f444 3) .nil .nil))) (.node (f95 0) (.node (f158 1) (.node (f284 3) .nil .nil) (.node (f409 6) .nil .nil)) (.node (f221 2) (.node o351 .nil .nil) .nil))) (.node o47 (.node (f73 6) (.node (f137 6) (.node (f270 1) .nil .nil) (.node o399 .nil .nil)) (.node o207 (.node (f329 6) .nil .nil) (.node (f458 5) .nil .nil))) (.node (f109 2) (.node (f172 3) (.node (f298 5) .nil .nil) (.node (f430 1) .nil .nil)) (.node (f235 4) (.node (f362 5) .nil .nil) .nil)))) (.node o23 (.node o39 (.node (f66 5) (.node (f130 5) (.node (f263 0) .nil .nil) (.node o391 .nil .nil)) (.node o199 (.node o327 .nil .nil) (.node (f451 4) .nil .nil))) (.node (f102 1) (.node (o167 P) (.node (f291 4) .nil .nil) (.node (f423 0) .nil .nil)) (.node (f228 3) (.node (f355 4) .nil .nil) .nil))) (.node o55 (.node (f87 0) (.node (f151 0) (.node (f277 2) .nil .nil) (.node (f402 5) .nil .nil)) (.node (f214 1) (.node (f343 0) .nil .nil) (.node (f465 6) .nil .nil))) (.node (f116 3) (.node (f179 4) (.node (f310 1) .nil .nil) (.node (f437 2) .nil .nil)) (.node (f242 5) (.node (f369 6) .nil .nil) .nil))))) (.node o11 (.node (f15 4) (.node (f29 6) (.node (f66 1) (.node (f130 1) (.node (f256 3) .nil .nil) (.node (f383 4) .nil .nil)) (.node o195 (.node (f317 6) .nil .nil) (.node (f451 0) .nil .nil))) (.node (f95 4) (.node (f158 5) (.node (f291 0) .nil .nil) (.node o419 .nil .nil)) (.node (f221 6) (.node (f355 0) .nil .nil) .nil))) (.node o51 (.node (f80 3) (.node (f144 3) (.node (f270 5) .nil .nil) (.node (f402 1) .nil .nil)) (.node o211 (.node o339 .nil .nil) (.node (f465 2) .nil .nil))) (.node (f109 6) (.node (f179 0) (.node o307 .nil .nil) (.node (f430 5) .nil .nil)) (.node (f242 1) (.node (f369 2) .nil .nil) .nil)))) (.node o27 (.node o43 (.node (f73 2) (.node (f137 2) (.node (f263 4) .nil .nil) (.node o395 .nil .nil)) (.node (f200 3) (.node (f329 2) .nil .nil) (.node (f458 1) .nil .nil))) (.node (f102 5) (.node o171 (.node (f298 1) .nil .nil) (.node (f423 4) .nil .nil)) (.node (f235 0) (.node (f362 1) .nil .nil) .nil))) (.node o59 (.node (f87 4) (.node (f151 4) (.node (f277 6) .nil .nil) (.node (f409 2) .nil .nil)) (.node (f214 5) (.node (f343 4) .nil .nil) (.node o475 .nil .nil))) (.node (f123 0) (.node (f186 1) (.node (f310 5) .nil .nil) (.node (f437 6) .nil .nil)) (.node (f249 2) (.node o379 .nil .nil) .nil)))))) (.node (boot_o_5 P) (.node (boot_o_9 P) (.node (f15 2) (.node (f29 4) (.node o65 (.node (f123 6) (.node (f256 1) .nil .nil) (.node (f383 2) .nil .nil)) (.node o193 (.node (f317 4) .nil .nil) (.node (f444 5) .nil .nil))) (.node (f95 2) (.node (f158 3) (.node (f284 5) .nil .nil) (.node o417 .nil .nil)) (.node (f221 4) (.node o353 .nil .nil) .nil))) (.node o49 (.node (f80 1) (.node (f144 1) (.node (f270 3) .nil .nil) (.node o401 .nil .nil)) (.node (o209 P) (.node (o337 P) .nil .nil) (.node (f465 0) .nil .nil))) (.node (f109 4) (.node (f172 5) (.node o305 .nil .nil) (.node (f430 3) .nil .nil)) (.node (f235 6) (.node (f369 0) .nil .nil) .nil)))) (.node o25 (.node o41 (.node (f73 0) (.node (f137 0) (.node (f263 2) .nil .nil) (.node o393 .nil .nil)) (.node (f200 1) (.node (f329 0) .nil .nil) (.node (f451 6) .nil .nil))) (.node (f102 3) (.node o169 (.node (f291 6) .nil .nil) (.node (f423 2) .nil .nil)) (.node (f228 5) (.node (f355 6) .nil .nil) .nil))) (.node o57 (.node (f87 2) (.node (f151 2) (.node (f277 4) .nil .nil) (.node (f409 0) .nil .nil)) (.node (f214 3) (.node (f343 2) .nil .nil) (.node (o473 P) .nil .nil))) (.node (f116 5) (.node (f179 6) (.node (f310 3) .nil .nil) (.node (f437 4) .nil .nil)) (.node (f249 0) (.node o377 .nil .nil) .nil))))) (.node o13 (.node (f15 6) (.node (o37 P) (.node (f66 3) (.node (f130 3) (.node (f256 5) .nil .nil) (.node (f383 6) .nil .nil)) (.node o197 (.node o325 .nil .nil) (.node (f451 2) .nil .nil))) (.node (f95 6) (.node o165 (.node (f291 2) .nil .nil) (.node o421 .nil .nil)) (.node (f228 1) (.node (f355 2) .nil .nil) .nil))) (.node o53 (.node (f80 5) (.node (f144 5) (.node (f277 0) .nil .nil) (.node (f402 3) .nil .nil)) (.node o213 (.node o341 .nil .nil) (.node (f465 4) .nil .nil))) (.node (f116 1) (.node (f179 2) (.node o309 .nil .nil) (.node (f437 0) .nil .nil)) (.node (f242 3) (.node (f369 4) .nil .nil) .nil)))) (.node (f29 0) (.node o45 (.node (f73 4) (.node (f137 4) (.node (f263 6) .nil .nil) (.node o397 .nil .nil)) (.node (f200 5) (.node (f329 4) .nil .nil) (.node (f458 3) .nil .nil))) (.node (f109 0) (.node (f172 1) (.node (f298 3) .nil .nil) (.node (f423 6) .nil .nil)) (.node (f235 2) (.node (f362 3) .nil .nil) .nil))) (.node o61 (.node (f87 6) (.node (f151 6) (.node (f284 1) .nil .nil) (.node (f409 4) .nil .nil)) (.node (f221 0) (.node (f343 6) .nil .nil) (.node o477 .nil .nil))) (.node (f123 2) (.node (f186 3) (.node (f317 0) .nil .nil) (.node (f444 1) .nil .nil)) (.node (f249 4) (.node o381 .nil .nil) .nil))))))) (.node (o2 P) (.node (boot_o_4 P) (.node (boot_o_8 P) (.node (f15 1) (.node (f29 3) (.node o64 (.node (f123 5) (.node (f256 0) .nil .nil) (.node (f383 1) .nil .nil)) (.node (f186 6) (.node (f317 3) .nil .nil) (.node (f444 4) .nil .nil))) (.node (f95 1) (.node (f158 2) (.node (f284 4) .nil .nil) (.node o416 .nil .nil)) (.node (f221 3) (.node o352 .nil .nil) .nil))) (.node o48 (.node (f80 0) (.node (f144 0) (.node (f270 2) .nil .nil) (.node o400 .nil .nil)) (.node o208 (.node o336 .nil .nil) (.node (f458 6) .nil .nil))) (.node (f109 3) (.node (f172 4) (.node (f298 6) .nil .nil) (.node (f430 2) .nil .nil)) (.node (f235 5) (.node (f362 6) .nil .nil) .nil)))) (.node (o24 P) (.node o40 (.node (f66 6) (.node (f130 6) (.node (f263 1) .nil .nil) (.node o392 .nil .nil)) (.node (f200 0) (.node o328 .nil .nil) (.node (f451 5) .nil .nil))) (.node (f102 2) (.node o168 (.node (f291 5) .nil .nil) (.node (f423 1) .nil .nil)) (.node (f228 4) (.node (f355 5) .nil .nil) .nil))) (.node (o56 P) (.node (f87 1) (.node (f151 1) (.node (f277 3) .nil .nil) (.node (f402 6) .nil .nil)) (.node (f214 2) (.node (f343 1) .nil .nil) (.node o472 .nil .nil))) (.node (f116 4) (.node (f179 5) (.node (f310 2) .nil .nil) (.node (f437 3) .nil .nil)) (.node (f242 6) (.node o376 .nil .nil) .nil))))) (.node o12d (.node (f15 5) (.node o36 (.node (f66 2) (.node (f130 2) (.node (f256 4) .nil .nil) (.node (f383 5) .nil .nil)) (.node o196 (.node o324 .nil .nil) (.node (f451 1) .nil .nil))) (.node (f95 5) (.node (f158 6) (.node (f291 1) .nil .nil) (.node o420 .nil .nil)) (.node (f228 0) (.node (f355 1) .nil .nil) .nil))) (.node o52 (.node (f80 4) (.node (f144 4) (.node (f270 6) .nil .nil) (.node (f402 2) .nil .nil)) (.node o212 (.node o340 .nil .nil) (.node (f465 3) .nil .nil))) (.node (f116 0) (.node (f179 1) (.node o308 .nil .nil) (.node (f430 6) .nil .nil)) (.node (f242 2) (.node (f369 3) .nil .nil) .nil)))) (.node o28 (.node (o44 P) (.node (f73 3) (.node (f137 3) (.node (f263 5) .nil .nil) (.node (o396 P) .nil .nil)) (.node (f200 4) (.node (f329 3) .nil .nil) (.node (f458 2) .nil .nil))) (.node (f102 6) (.node (f172 0) (.node (f298 2) .nil .nil) (.node (f423 5) .nil .nil)) (.node (f235 1) (.node (f362 2) .nil .nil) .nil))) (.node o60 (.node (f87 5) (.node (f151 5) (.node (f284 0) .nil .nil) (.node (f409 3) .nil .nil)) (.node (f214 6) (.node (f343 5) .nil .nil) (.node o476 .nil .nil))) (.node (f123 1) (.node (f186 2) (.node (f310 6) .nil .nil) (.node (f444 0) .nil .nil)) (.node (f249 3) (.node o380 .nil .nil) .nil)))))) (.node (boot_o_6 P) (.node (boot_o_10 P) (.node (f15 3) (.node (f29 5) (.node (f66 0) (.node (f130 0) (.node (f256 2) .nil .nil) (.node (f383 3) .nil .nil)) (.node (o194 P) (.node (f317 5) .nil .nil) (.node (f444 6) .nil .nil))) (.node (f95 3) (.node (f158 4) (.node (f284 6) .nil .nil) (.node (o418 P) .nil .nil)) (.node (f221 5) (.node o354 .nil .nil) .nil))) (.node (o50 P) (.node (f80 2) (.node (f144 2) (.node (f270 4) .nil .nil) (.node (f402 0) .nil .nil)) (.node o210 (.node o338 .nil .nil) (.node (f465 1) .nil .nil))) (.node (f109 5) (.node (f172 6) (.node o306 .nil .nil) (.node (f430 4) .nil .nil)) (.node (f242 0) (.node (f369 1) .nil .nil) .nil)))) (.node o26 (.node o42 (.node (f73 1) (.node (f137 1) (.node (f263 3) .nil .nil) (.node o394 .nil .nil)) (.node (f200 2) (.node (f329 1) .nil .nil) (.node (f458 0) .nil .nil))) (.node (f102 4) (.node o170 (.node (f298 0) .nil .nil) (.node (f423 3) .nil .nil)) (.node (f228 6) (.node (f362 0) .nil .nil) .nil))) (.node o58 (.node (f87 3) (.node (f151 3) (.node (f277 5) .nil .nil) (.node (f409 1) .nil .nil)) (.node (f214 4) (.node (f343 3) .nil .nil) (.node o474 .nil .nil))) (.node (f116 6) (.node (f186 0) (.node (f310 4) .nil .nil) (.node (f437 5) .nil .nil)) (.node (f249 1) (.node (o378 P) .nil .nil) .nil))))) (.node o14 (.node o22 (.node o38 (.node (f66 4) (.node (f130 4) (.node (f256 6) .nil .nil) (.node o390 .nil .nil)) (.node o198 (.node o326 .nil .nil) (.node (f451 3) .nil .nil))) (.node (f102 0) (.node o166 (.node (f291 3) .nil .nil) (.node o422 .nil .nil)) (.node (f228 2) (.node (f355 3) .nil .nil) .nil))) (.node o54 (.node (f80 6) (.node (f144 6) (.node (f277 1) .nil .nil) (.node (f402 4) .nil .nil)) (.node (f214 0) (.node o342 .nil .nil) (.node (f465 5) .nil .nil))) (.node (f116 2) (.node (f179 3) (.node (f310 0) .nil .nil) (.node (f437 1) .nil .nil)) (.node (f242 4) (.node (f369 5) .nil .nil) .nil)))) (.node (f29 1) (.node o46 (.node (f73 5) (.node (f137 5) (.node (f270 0) .nil .nil) (.node o398 .nil .nil)) (.node (f200 6) (.node (f329 5) .nil .nil) (.node (f458 4) .nil .nil))) (.node (f109 1) (.node (f172 2) (.node (f298 4) .nil .nil) (.node (f430 0) .nil .nil)) (.node (f235 3) (.node (f362 4) .nil .nil) .nil))) (.node (o62 P) (.node o94 (.node (f158 0) (.node (f284 2) .nil .nil) (.node (f409 5) .nil .nil)) (.node (f221 1) (.node o350 .nil .nil) (.node o478 .nil .nil))) (.node (f123 3) (.node (f186 4) (.node (f317 1) .nil .nil) (.node (f444 2) .nil .nil)) (.node (f249 5) (.node o382 .nil .nil) .nil))))))))
noncomputable def t864 (P : Params) : BT := (.node (boot_o_0 P) (.node (boot_o_1 P) (.node (o3d P) (.node (boot_o_7 P) (.node (f15 0) (.node (f29 2) (.node o63 (.node (f123 4) (.node (f249 6) (.node (f507 4) .nil .nil) .nil) (.node (f383 0) (.node (f638 1) .nil .nil) .nil)) (.node (f186 5) (.node (f317 2) (.node o575 .nil .nil) .nil) (.node (f444 3) (.node (f697 6) .nil .nil) .nil))) (.node (f95 0) (.node (f158 1) (.node (f284 3) (.node (f542 1) .nil .nil) .nil) (.node (f409 6) (.node (f666 5) .nil .nil) .nil)) (.node (f221 2) (.node o351 (.node (f603 4) .nil .nil) .nil) (.node o479 .nil .nil)))) (.node o47 (.node (f73 6) (.node (f137 6) (.node (f270 1) (.node (f521 6) .nil .nil) .nil) (.node o399 (.node (f652 3) .nil .nil) .nil)) (.node o207 (.node (f329 6) (.node (f589 2) .nil .nil) .nil) (.node (f458 5) .nil .nil))) (.node (f109 2) (.node (f172 3) (.node (f298 5) (.node (f556 3) .nil .nil) .nil) (.node (f430 1) (.node (f685 2) .nil .nil) .nil)) (.node (f235 4) (.node (f362 5) (.node (f617 6) .nil .nil) .nil) (.node (f493 2) .nil .nil))))) (.node o23 (.node o39 (.node (f66 5) (.node (f130 5) (.node (f263 0) (.node (f514 5) .nil .nil) .nil) (.node o391 (.node (f645 2) .nil .nil) .nil)) (.node o199 (.node o327 (.node (f582 1) .nil .nil) .nil) (.node (f451 4) .nil .nil))) (.node (f102 1) (.node (o167 P) (.node (f291 4) (.node (f549 2) .nil .nil) .nil) (.node (f423 0) (.node (f678 1) .nil .nil) .nil)) (.node (f228 3) (.node (f355 4) (.node (f610 5) .nil .nil) .nil) (.node (f486 1) .nil .nil)))) (.node o55 (.node (f87 0) (.node (f151 0) (.node (f277 2) (.node (f535 0) .nil .nil) .nil) (.node (f402 5) (.node (f659 4) .nil .nil) .nil)) (.node (f214 1) (.node (f343 0) (.node (f596 3) .nil .nil) .nil) (.node (f465 6) .nil .nil))) (.node (f116 3) (.node (f179 4) (.node (f310 1) (.node (f563 4) .nil .nil) .nil) (.node (f437 2) (.node o695 .nil .nil) .nil)) (.node (f242 5) (.node (f369 6) (.node o631 .nil .nil) .nil) (.node (f500 3) .nil .nil)))))) (.node o11 (.node (f15 4) (.node (f29 6) (.node (f66 1) (.node (f130 1) (.node (f256 3) (.node (f514 1) .nil .nil) .nil) (.node (f383 4) (.node (f638 5) .nil .nil) .nil)) (.node o195 (.node (f317 6) (.node o579 .nil .nil) .nil) (.node (f451 0) (.node (f704 3) .nil .nil) .nil))) (.node (f95 4) (.node (f158 5) (.node (f291 0) (.node (f542 5) .nil .nil) .nil) (.node o419 (.node o675 .nil .nil) .nil)) (.node (f221 6) (.node (f355 0) (.node (f610 1) .nil .nil) .nil) (.node o483 .nil .nil)))) (.node o51 (.node (f80 3) (.node (f144 3) (.node (f270 5) (.node (f528 3) .nil .nil) .nil) (.node (f402 1) (.node (f659 0) .nil .nil) .nil)) (.node o211 (.node o339 (.node (f589 6) .nil .nil) .nil) (.node (f465 2) .nil .nil))) (.node (f109 6) (.node (f179 0) (.node o307 (.node (f563 0) .nil .nil) .nil) (.node (f430 5) (.node (f685 6) .nil .nil) .nil)) (.node (f242 1) (.node (f369 2) (.node (f624 3) .nil .nil) .nil) (.node (f493 6) .nil .nil))))) (.node o27 (.node o43 (.node (f73 2) (.node (f137 2) (.node (f263 4) (.node (f521 2) .nil .nil) .nil) (.node o395 (.node (f645 6) .nil .nil) .nil)) (.node (f200 3) (.node (f329 2) (.node (f582 5) .nil .nil) .nil) (.node (f458 1) .nil .nil))) (.node (f102 5) (.node o171 (.node (f298 1) (.node (f549 6) .nil .nil) .nil) (.node (f423 4) (.node (f678 5) .nil .nil) .nil)) (.node (f235 0) (.node (f362 1) (.node (f617 2) .nil .nil) .nil) (.node (f486 5) .nil .nil)))) (.node o59 (.node (f87 4) (.node (f151 4) (.node (f277 6) (.node (f535 4) .nil .nil) .nil) (.node (f409 2) (.node (f666 1) .nil .nil) .nil)) (.node (f214 5) (.node (f343 4) (.node (f603 0) .nil .nil) .nil) (.node o475 .nil .nil))) (.node (f123 0) (.node (f186 1) (.node (f310 5) (.node (o571 P) .nil .nil) .nil) (.node (f437 6) (.node (f697 2) .nil .nil) .nil)) (.node (f249 2) (.node o379 (.node o635 .nil .nil) .nil) (.node (f507 0) .nil .nil))))))) (.node (boot_o_5 P) (.node (boot_o_9 P) (.node (f15 2) (.node (f29 4) (.node o65 (.node (f123 6) (.node (f256 1) (.node (f507 6) .nil .nil) .nil) (.node (f383 2) (.node (f638 3) .nil .nil) .nil)) (.node o193 (.node (f317 4) (.node (o577 P) .nil .nil) .nil) (.node (f444 5) (.node (f704 1) .nil .nil) .nil))) (.node (f95 2) (.node (f158 3) (.node (f284 5) (.node (f542 3) .nil .nil) .nil) (.node o417 (.node o673 .nil .nil) .nil)) (.node (f221 4) (.node o353 (.node (f603 6) .nil .nil) .nil) (.node (o481 P) .nil .nil)))) (.node o49 (.node (f80 1) (.node (f144 1) (.node (f270 3) (.node (f528 1) .nil .nil) .nil) (.node o401 (.node (f652 5) .nil .nil) .nil)) (.node (o209 P) (.node (o337 P) (.node (f589 4) .nil .nil) .nil) (.node (f465 0) .nil .nil))) (.node (f109 4) (.node (f172 5) (.node o305 (.node (f556 5) .nil .nil) .nil) (.node (f430 3) (.node (f685 4) .nil .nil) .nil)) (.node (f235 6) (.node (f369 0) (.node (f624 1) .nil .nil) .nil) (.node (f493 4) .nil .nil))))) (.node o25 (.node o41 (.node (f73 0) (.node (f137 0) (.node (f263 2) (.node (f521 0) .nil .nil) .nil) (.node o393 (.node (f645 4) .nil .nil) .nil)) (.node (f200 1) (.node (f329 0) (.node (f582 3) .nil .nil) .nil) (.node (f451 6) .nil .nil))) (.node (f102 3) (.node o169 (.node (f291 6) (.node (f549 4) .nil .nil) .nil) (.node (f423 2) (.node (f678 3) .nil .nil) .nil)) (.node (f228 5) (.node (f355 6) (.node (f617 0) .nil .nil) .nil) (.node (f486 3) .nil .nil)))) (.node o57 (.node (f87 2) (.node (f151 2) (.node (f277 4) (.node (f535 2) .nil .nil) .nil) (.node (f409 0) (.node (f659 6) .nil .nil) .nil)) (.node (f214 3) (.node (f343 2) (.node (f596 5) .nil .nil) .nil) (.node (o473 P) .nil .nil))) (.node (f116 5) (.node (f179 6) (.node (f310 3) (.node (f563 6) .nil .nil) .nil) (.node (f437 4) (.node (f697 0) .nil .nil) .nil)) (.node (f249 0) (.node o377 (.node o633 .nil .nil) .nil) (.node (f500 5) .nil .nil)))))) (.node o13 (.node (f15 6) (.node (o37 P) (.node (f66 3) (.node (f130 3) (.node (f256 5) (.node (f514 3) .nil .nil) .nil) (.node (f383 6) (.node (f645 0) .nil .nil) .nil)) (.node o197 (.node o325 (.node o581 .nil .nil) .nil) (.node (f451 2) (.node (f704 5) .nil .nil) .nil))) (.node (f95 6) (.node o165 (.node (f291 2) (.node (f549 0) .nil .nil) .nil) (.node o421 (.node o677 .nil .nil) .nil)) (.node (f228 1) (.node (f355 2) (.node (f610 3) .nil .nil) .nil) (.node o485 .nil .nil)))) (.node o53 (.node (f80 5) (.node (f144 5) (.node (f277 0) (.node (f528 5) .nil .nil) .nil) (.node (f402 3) (.node (f659 2) .nil .nil) .nil)) (.node o213 (.node o341 (.node (f596 1) .nil .nil) .nil) (.node (f465 4) .nil .nil))) (.node (f116 1) (.node (f179 2) (.node o309 (.node (f563 2) .nil .nil) .nil) (.node (f437 0) (.node o693 .nil .nil) .nil)) (.node (f242 3) (.node (f369 4) (.node (f624 5) .nil .nil) .nil) (.node (f500 1) .nil .nil))))) (.node (f29 0) (.node o45 (.node (f73 4) (.node (f137 4) (.node (f263 6) (.node (f521 4) .nil .nil) .nil) (.node o397 (.node (f652 1) .nil .nil) .nil)) (.node (f200 5) (.node (f329 4) (.node (f589 0) .nil .nil) .nil) (.node (f458 3) .nil .nil))) (.node (f109 0) (.node (f172 1) (.node (f298 3) (.node (f556 1) .nil .nil) .nil) (.node (f423 6) (.node (f685 0) .nil .nil) .nil)) (.node (f235 2) (.node (f362 3) (.node (f617 4) .nil .nil) .nil) (.node (f493 0) .nil .nil)))) (.node o61 (.node (f87 6) (.node (f151 6) (.node (f284 1) (.node (f535 6) .nil .nil) .nil) (.node (f409 4) (.node (f666 3) .nil .nil) .nil)) (.node (f221 0) (.node (f343 6) (.node (f603 2) .nil .nil) .nil) (.node o477 .nil .nil))) (.node (f123 2) (.node (f186 3) (.node (f317 0) (.node o573 .nil .nil) .nil) (.node (f444 1) (.node (f697 4) .nil .nil) .nil)) (.node (f249 4) (.node o381 (.node o637 .nil .nil) .nil) (.node (f507 2) .nil .nil)))))))) (.node (o2 P) (.node (boot_o_4 P) (.node (boot_o_8 P) (.node (f15 1) (.node (f29 3) (.node o64 (.node (f123 5) (.node (f256 0) (.node (f507 5) .nil .nil) .nil) (.node (f383 1) (.node (f638 2) .nil .nil) .nil)) (.node (f186 6) (.node (f317 3) (.node o576 .nil .nil) .nil) (.node (f444 4) (.node (f704 0) .nil .nil) .nil))) (.node (f95 1) (.node (f158 2) (.node (f284 4) (.node (f542 2) .nil .nil) .nil) (.node o416 (.node (f666 6) .nil .nil) .nil)) (.node (f221 3) (.node o352 (.node (f603 5) .nil .nil) .nil) (.node o480 .nil .nil)))) (.node o48 (.node (f80 0) (.node (f144 0) (.node (f270 2) (.node (f528 0) .nil .nil) .nil) (.node o400 (.node (f652 4) .nil .nil) .nil)) (.node o208 (.node o336 (.node (f589 3) .nil .nil) .nil) (.node (f458 6) .nil .nil))) (.node (f109 3) (.node (f172 4) (.node (f298 6) (.node (f556 4) .nil .nil) .nil) (.node (f430 2) (.node (f685 3) .nil .nil) .nil)) (.node (f235 5) (.node (f362 6) (.node (f624 0) .nil .nil) .nil) (.node (f493 3) .nil .nil))))) (.node (o24 P) (.node o40 (.node (f66 6) (.node (f130 6) (.node (f263 1) (.node (f514 6) .nil .nil) .nil) (.node o392 (.node (f645 3) .nil .nil) .nil)) (.node (f200 0) (.node o328 (.node (f582 2) .nil .nil) .nil) (.node (f451 5) .nil .nil))) (.node (f102 2) (.node o168 (.node (f291 5) (.node (f549 3) .nil .nil) .nil) (.node (f423 1) (.node (f678 2) .nil .nil) .nil)) (.node (f228 4) (.node (f355 5) (.node (f610 6) .nil .nil) .nil) (.node (f486 2) .nil .nil)))) (.node (o56 P) (.node (f87 1) (.node (f151 1) (.node (f277 3) (.node (f535 1) .nil .nil) .nil) (.node (f402 6) (.node (f659 5) .nil .nil) .nil)) (.node (f214 2) (.node (f343 1) (.node (f596 4) .nil .nil) .nil) (.node o472 .nil .nil))) (.node (f116 4) (.node (f179 5) (.node (f310 2) (.node (f563 5) .nil .nil) .nil) (.node (f437 3) (.node o696 .nil .nil) .nil)) (.node (f242 6) (.node o376 (.node (o632 P) .nil .nil) .nil) (.node (f500 4) .nil .nil)))))) (.node o12e (.node (f15 5) (.node o36 (.node (f66 2) (.node (f130 2) (.node (f256 4) (.node (f514 2) .nil .nil) .nil) (.node (f383 5) (.node (f638 6) .nil .nil) .nil)) (.node o196 (.node o324 (.node o580 .nil .nil) .nil) (.node (f451 1) (.node (f704 4) .nil .nil) .nil))) (.node (f95 5) (.node (f158 6) (.node (f291 1) (.node (f542 6) .nil .nil) .nil) (.node o420 (.node o676 .nil .nil) .nil)) (.node (f228 0) (.node (f355 1) (.node (f610 2) .nil .nil) .nil) (.node o484 .nil .nil)))) (.node o52 (.node (f80 4) (.node (f144 4) (.node (f270 6) (.node (f528 4) .nil .nil) .nil) (.node (f402 2) (.node (f659 1) .nil .nil) .nil)) (.node o212 (.node o340 (.node (f596 0) .nil .nil) .nil) (.node (f465 3) .nil .nil))) (.node (f116 0) (.node (f179 1) (.node o308 (.node (f563 1) .nil .nil) .nil) (.node (f430 6) (.node o692 .nil .nil) .nil)) (.node (f242 2) (.node (f369 3) (.node (f624 4) .nil .nil) .nil) (.node (f500 0) .nil .nil))))) (.node o28 (.node (o44 P) (.node (f73 3) (.node (f137 3) (.node (f263 5) (.node (f521 3) .nil .nil) .nil) (.node (o396 P) (.node (f652 0) .nil .nil) .nil)) (.node (f200 4) (.node (f329 3) (.node (f582 6) .nil .nil) .nil) (.node (f458 2) .nil .nil))) (.node (f102 6) (.node (f172 0) (.node (f298 2) (.node (f556 0) .nil .nil) .nil) (.node (f423 5) (.node (f678 6) .nil .nil) .nil)) (.node (f235 1) (.node (f362 2) (.node (f617 3) .nil .nil) .nil) (.node (f486 6) .nil .nil)))) (.node o60 (.node (f87 5) (.node (f151 5) (.node (f284 0) (.node (f535 5) .nil .nil) .nil) (.node (f409 3) (.node (f666 2) .nil .nil) .nil)) (.node (f214 6) (.node (f343 5) (.node (f603 1) .nil .nil) .nil) (.node o476 .nil .nil))) (.node (f123 1) (.node (f186 2) (.node (f310 6) (.node o572 .nil .nil) .nil) (.node (f444 0) (.node (f697 3) .nil .nil) .nil)) (.node (f249 3) (.node o380 (.node o636 .nil .nil) .nil) (.node (f507 1) .nil .nil))))))) (.node (boot_o_6 P) (.node (boot_o_10 P) (.node (f15 3) (.node (f29 5) (.node (f66 0) (.node (f130 0) (.node (f256 2) (.node (f514 0) .nil .nil) .nil) (.node (f383 3) (.node (f638 4) .nil .nil) .nil)) (.node (o194 P) (.node (f317 5) (.node o578 .nil .nil) .nil) (.node (f444 6) (.node (f704 2) .nil .nil) .nil))) (.node (f95 3) (.node (f158 4) (.node (f284 6) (.node (f542 4) .nil .nil) .nil) (.node (o418 P) (.node o674 .nil .nil) .nil)) (.node (f221 5) (.node o354 (.node (f610 0) .nil .nil) .nil) (.node o482 .nil .nil)))) (.node (o50 P) (.node (f80 2) (.node (f144 2) (.node (f270 4) (.node (f528 2) .nil .nil) .nil) (.node (f402 0) (.node (f652 6) .nil .nil) .nil)) (.node o210 (.node o338b (.node (f589 5) .nil .nil) .nil) (.node (f465 1) .nil .nil))) (.node (f109 5) (.node (f172 6) (.node o306 (.node (f556 6) .nil .nil) .nil) (.node (f430 4) (.node (f685 5) .nil .nil) .nil)) (.node (f242 0) (.node (f369 1) (.node (f624 2) .nil .nil) .nil) (.node (f493 5) .nil .nil))))) (.node o26 (.node o42 (.node (f73 1) (.node (f137 1) (.node (f263 3) (.node (f521 1) .nil .nil) .nil) (.node o394 (.node (f645 5) .nil .nil) .nil)) (.node (f200 2) (.node (f329 1) (.node (f582 4) .nil .nil) .nil) (.node (f458 0) .nil .nil))) (.node (f102 4) (.node o170 (.node (f298 0) (.node (f549 5) .nil .nil) .nil) (.node (f423 3) (.node (f678 4) .nil .nil) .nil)) (.node (f228 6) (.node (f362 0) (.node (f617 1) .nil .nil) .nil) (.node (f486 4) .nil .nil)))) (.node o58 (.node (f87 3) (.node (f151 3) (.node (f277 5) (.node (f535 3) .nil .nil) .nil) (.node (f409 1) (.node (f666 0) .nil .nil) .nil)) (.node (f214 4) (.node (f343 3) (.node (f596 6) .nil .nil) .nil) (.node o474 .nil .nil))) (.node (f116 6) (.node (f186 0) (.node (f310 4) (.node o570 .nil .nil) .nil) (.node (f437 5) (.node (f697 1) .nil .nil) .nil)) (.node (f249 1) (.node (o378 P) (.node o634 .nil .nil) .nil) (.node (f500 6) .nil .nil)))))) (.node o14 (.node o22 (.node o38 (.node (f66 4) (.node (f130 4) (.node (f256 6) (.node (f514 4) .nil .nil) .nil) (.node o390 (.node (f645 1) .nil .nil) .nil)) (.node o198 (.node o326 (.node (f582 0) .nil .nil) .nil) (.node (f451 3) (.node (f704 6) .nil .nil) .nil))) (.node (f102 0) (.node o166 (.node (f291 3) (.node (f549 1) .nil .nil) .nil) (.node o422 (.node (f678 0) .nil .nil) .nil)) (.node (f228 2) (.node (f355 3) (.node (f610 4) .nil .nil) .nil) (.node (f486 0) .nil .nil)))) (.node o54 (.node (f80 6) (.node (f144 6) (.node (f277 1) (.node (f528 6) .nil .nil) .nil) (.node (f402 4) (.node (f659 3) .nil .nil) .nil)) (.node (f214 0) (.node o342 (.node (f596 2) .nil .nil) .nil) (.node (f465 5) .nil .nil))) (.node (f116 2) (.node (f179 3) (.node (f310 0) (.node (f563 3) .nil .nil) .nil) (.node (f437 1) (.node o694 .nil .nil) .nil)) (.node (f242 4) (.node (f369 5) (.node (f624 6) .nil .nil) .nil) (.node (f500 2) .nil .nil))))) (.node (f29 1) (.node o46 (.node (f73 5) (.node (f137 5) (.node (f270 0) (.node (f521 5) .nil .nil) .nil) (.node o398 (.node (f652 2) .nil .nil) .nil)) (.node (f200 6) (.node (f329 5) (.node (f589 1) .nil .nil) .nil) (.node (f458 4) .nil .nil))) (.node (f109 1) (.node (f172 2) (.node (f298 4) (.node (f556 2) .nil .nil) .nil) (.node (f430 0) (.node (f685 1) .nil .nil) .nil)) (.node (f235 3) (.node (f362 4) (.node (f617 5) .nil .nil) .nil) (.node (f493 1) .nil .nil)))) (.node (o62 P) (.node o94 (.node (f158 0) (.node (f284 2) (.node (f542 0) .nil .nil) .nil) (.node (f409 5) (.node (f666 4) .nil .nil) .nil)) (.node (f221 1) (.node o350 (.node (f603 3) .nil .nil) .nil) (.node o478 .nil .nil))) (.node (f123 3) (.node (f186 4) (.node (f317 1) (.node o574 .nil .nil) .nil) (.node (f444 2) (.node (f697 5) .nil .nil) .nil)) (.node (f249 5) (.node o382 (.node (f638 0) .nil .nil) .nil) (.node (f507 3) .nil .nil)))))))))
noncomputable abbrev kAd : List Addr := [2, 3, 15, 17, 18, 20, 21, 22, 29, 31, 32, 34, 35, 36, 37, 38, 39, 42, 49, 50, 51, 54, 61, 62, 63, 66, 68, 69, 71, 72, 73, 75, 76, 78, 79, 80, 82, 83, 85, 86, 87, 89, 90, 92, 93, 94, 95, 97, 98, 100, 101, 102, 104, 105, 107, 108, 109, 111, 112, 114, 115, 116, 118, 119, 121, 122, 123, 125, 126, 128, 129, 130, 132, 133, 135, 136, 137, 139, 140, 142, 143, 144, 146, 147, 149, 150, 151, 153, 154, 156, 157, 158, 160, 161, 163, 164, 172, 174, 175, 177, 178, 179, 181, 182, 184, 185, 186, 188, 189, 191, 192, 193, 194, 195, 196, 197, 200, 202, 203, 205, 206, 214, 216, 217, 219, 220, 221, 223, 224, 226, 227, 228, 230, 231, 233, 234, 235, 237, 238, 240, 241, 242, 244, 245, 247, 248, 249, 251, 252, 254, 255, 256, 258, 259, 261, 262, 263, 265, 266, 268, 269, 270, 272, 273, 275, 276, 277, 279, 280, 282, 283, 284, 286, 287, 289, 290, 291, 293, 294, 296, 297, 298, 300, 301, 303, 304, 305, 308, 309, 310, 312, 313, 315, 316, 317, 319, 320, 322, 323, 324, 327, 328, 329, 331, 332, 334, 335, 336, 337, 338, 339, 340, 343, 345, 346, 348, 349, 350, 353, 354, 355, 357, 358, 360, 361, 362, 364, 365, 367, 368, 369, 371, 372, 374, 375, 383, 385, 386, 388, 389, 390, 393, 394, 395, 396, 397, 398, 399, 402, 404, 405, 407, 408, 409, 411, 412, 414, 415, 423, 425, 426, 428, 429, 430, 432, 433, 435, 436, 437, 439, 440, 442, 443, 444, 446, 447, 449, 450, 451, 453, 454, 456, 457, 458, 460, 461, 463, 464, 465, 467, 468, 470, 471, 472, 473, 474, 475, 476, 479, 486, 488, 489, 491, 492, 493, 495, 496, 498, 499, 500, 502, 503, 505, 506, 507, 509, 510, 512, 513, 514, 516, 517, 519, 520, 521, 523, 524, 526, 527, 528, 530, 531, 533, 534, 535, 537, 538, 540, 541, 542, 544, 545, 547, 548, 549, 551, 552, 554, 555, 556, 558, 559, 561, 562, 563, 565, 566, 568, 569, 570, 571, 572, 582, 584, 585, 587, 588, 589, 591, 592, 594, 595, 596, 598, 599, 601, 602, 603, 605, 606, 608, 609, 610, 612, 613, 615, 616, 617, 619, 620, 622, 623, 624, 626, 627, 629, 630, 631, 632, 633, 634, 635, 638, 640, 641, 643, 644, 645, 647, 648, 650, 651, 652, 654, 655, 657, 658, 659, 661, 662, 664, 665, 666, 668, 669, 671, 672, 673, 676, 677, 678, 680, 681, 683, 684, 685, 687, 688, 690, 691, 692, 695, 696, 697, 699, 700, 702, 703, 704, 706, 707, 709, 710]
noncomputable def KF (P : Params) : Frag := (nat_lit 2, o2 P) :: (nat_lit 3, o3d P) :: (nat_lit 15, f15 0) :: (nat_lit 17, f15 2) :: (nat_lit 18, f15 3) :: (nat_lit 20, f15 5) :: (nat_lit 21, f15 6) :: (nat_lit 22, o22) :: (nat_lit 29, f29 0) :: (nat_lit 31, f29 2) :: (nat_lit 32, f29 3) :: (nat_lit 34, f29 5) :: (nat_lit 35, f29 6) :: (nat_lit 36, o36) :: (nat_lit 37, o37 P) :: (nat_lit 38, o38) :: (nat_lit 39, o39) :: (nat_lit 42, o42) :: (nat_lit 49, o49) :: (nat_lit 50, o50 P) :: (nat_lit 51, o51) :: (nat_lit 54, o54) :: (nat_lit 61, o61) :: (nat_lit 62, o62 P) :: (nat_lit 63, o63) :: (nat_lit 66, f66 0) :: (nat_lit 68, f66 2) :: (nat_lit 69, f66 3) :: (nat_lit 71, f66 5) :: (nat_lit 72, f66 6) :: (nat_lit 73, f73 0) :: (nat_lit 75, f73 2) :: (nat_lit 76, f73 3) :: (nat_lit 78, f73 5) :: (nat_lit 79, f73 6) :: (nat_lit 80, f80 0) :: (nat_lit 82, f80 2) :: (nat_lit 83, f80 3) :: (nat_lit 85, f80 5) :: (nat_lit 86, f80 6) :: (nat_lit 87, f87 0) :: (nat_lit 89, f87 2) :: (nat_lit 90, f87 3) :: (nat_lit 92, f87 5) :: (nat_lit 93, f87 6) :: (nat_lit 94, o94) :: (nat_lit 95, f95 0) :: (nat_lit 97, f95 2) :: (nat_lit 98, f95 3) :: (nat_lit 100, f95 5) :: (nat_lit 101, f95 6) :: (nat_lit 102, f102 0) :: (nat_lit 104, f102 2) :: (nat_lit 105, f102 3) :: (nat_lit 107, f102 5) :: (nat_lit 108, f102 6) :: (nat_lit 109, f109 0) :: (nat_lit 111, f109 2) :: (nat_lit 112, f109 3) :: (nat_lit 114, f109 5) :: (nat_lit 115, f109 6) :: (nat_lit 116, f116 0) :: (nat_lit 118, f116 2) :: (nat_lit 119, f116 3) :: (nat_lit 121, f116 5) :: (nat_lit 122, f116 6) :: (nat_lit 123, f123 0) :: (nat_lit 125, f123 2) :: (nat_lit 126, f123 3) :: (nat_lit 128, f123 5) :: (nat_lit 129, f123 6) :: (nat_lit 130, f130 0) :: (nat_lit 132, f130 2) :: (nat_lit 133, f130 3) :: (nat_lit 135, f130 5) :: (nat_lit 136, f130 6) :: (nat_lit 137, f137 0) :: (nat_lit 139, f137 2) :: (nat_lit 140, f137 3) :: (nat_lit 142, f137 5) :: (nat_lit 143, f137 6) :: (nat_lit 144, f144 0) :: (nat_lit 146, f144 2) :: (nat_lit 147, f144 3) :: (nat_lit 149, f144 5) :: (nat_lit 150, f144 6) :: (nat_lit 151, f151 0) :: (nat_lit 153, f151 2) :: (nat_lit 154, f151 3) :: (nat_lit 156, f151 5) :: (nat_lit 157, f151 6) :: (nat_lit 158, f158 0) :: (nat_lit 160, f158 2) :: (nat_lit 161, f158 3) :: (nat_lit 163, f158 5) :: (nat_lit 164, f158 6) :: (nat_lit 172, f172 0) :: (nat_lit 174, f172 2) :: (nat_lit 175, f172 3) :: (nat_lit 177, f172 5) :: (nat_lit 178, f172 6) :: (nat_lit 179, f179 0) :: (nat_lit 181, f179 2) :: (nat_lit 182, f179 3) :: (nat_lit 184, f179 5) :: (nat_lit 185, f179 6) :: (nat_lit 186, f186 0) :: (nat_lit 188, f186 2) :: (nat_lit 189, f186 3) :: (nat_lit 191, f186 5) :: (nat_lit 192, f186 6) :: (nat_lit 193, o193) :: (nat_lit 194, o194 P) :: (nat_lit 195, o195) :: (nat_lit 196, o196) :: (nat_lit 197, o197) :: (nat_lit 200, f200 0) :: (nat_lit 202, f200 2) :: (nat_lit 203, f200 3) :: (nat_lit 205, f200 5) :: (nat_lit 206, f200 6) :: (nat_lit 214, f214 0) :: (nat_lit 216, f214 2) :: (nat_lit 217, f214 3) :: (nat_lit 219, f214 5) :: (nat_lit 220, f214 6) :: (nat_lit 221, f221 0) :: (nat_lit 223, f221 2) :: (nat_lit 224, f221 3) :: (nat_lit 226, f221 5) :: (nat_lit 227, f221 6) :: (nat_lit 228, f228 0) :: (nat_lit 230, f228 2) :: (nat_lit 231, f228 3) :: (nat_lit 233, f228 5) :: (nat_lit 234, f228 6) :: (nat_lit 235, f235 0) :: (nat_lit 237, f235 2) :: (nat_lit 238, f235 3) :: (nat_lit 240, f235 5) :: (nat_lit 241, f235 6) :: (nat_lit 242, f242 0) :: (nat_lit 244, f242 2) :: (nat_lit 245, f242 3) :: (nat_lit 247, f242 5) :: (nat_lit 248, f242 6) :: (nat_lit 249, f249 0) :: (nat_lit 251, f249 2) :: (nat_lit 252, f249 3) :: (nat_lit 254, f249 5) :: (nat_lit 255, f249 6) :: (nat_lit 256, f256 0) :: (nat_lit 258, f256 2) :: (nat_lit 259, f256 3) :: (nat_lit 261, f256 5) :: (nat_lit 262, f256 6) :: (nat_lit 263, f263 0) :: (nat_lit 265, f263 2) :: (nat_lit 266, f263 3) :: (nat_lit 268, f263 5) :: (nat_lit 269, f263 6) :: (nat_lit 270, f270 0) :: (nat_lit 272, f270 2) :: (nat_lit 273, f270 3) :: (nat_lit 275, f270 5) :: (nat_lit 276, f270 6) :: (nat_lit 277, f277 0) :: (nat_lit 279, f277 2) :: (nat_lit 280, f277 3) :: (nat_lit 282, f277 5) :: (nat_lit 283, f277 6) :: (nat_lit 284, f284 0) :: (nat_lit 286, f284 2) :: (nat_lit 287, f284 3) :: (nat_lit 289, f284 5) :: (nat_lit 290, f284 6) :: (nat_lit 291, f291 0) :: (nat_lit 293, f291 2) :: (nat_lit 294, f291 3) :: (nat_lit 296, f291 5) :: (nat_lit 297, f291 6) :: (nat_lit 298, f298 0) :: (nat_lit 300, f298 2) :: (nat_lit 301, f298 3) :: (nat_lit 303, f298 5) :: (nat_lit 304, f298 6) :: (nat_lit 305, o305) :: (nat_lit 308, o308) :: (nat_lit 309, o309) :: (nat_lit 310, f310 0) :: (nat_lit 312, f310 2) :: (nat_lit 313, f310 3) :: (nat_lit 315, f310 5) :: (nat_lit 316, f310 6) :: (nat_lit 317, f317 0) :: (nat_lit 319, f317 2) :: (nat_lit 320, f317 3) :: (nat_lit 322, f317 5) :: (nat_lit 323, f317 6) :: (nat_lit 324, o324) :: (nat_lit 327, o327) :: (nat_lit 328, o328) :: (nat_lit 329, f329 0) :: (nat_lit 331, f329 2) :: (nat_lit 332, f329 3) :: (nat_lit 334, f329 5) :: (nat_lit 335, f329 6) :: (nat_lit 336, o336) :: (nat_lit 337, o337 P) :: (nat_lit 338, o338b) :: (nat_lit 339, o339) :: (nat_lit 340, o340) :: (nat_lit 343, f343 0) :: (nat_lit 345, f343 2) :: (nat_lit 346, f343 3) :: (nat_lit 348, f343 5) :: (nat_lit 349, f343 6) :: (nat_lit 350, o350) :: (nat_lit 353, o353) :: (nat_lit 354, o354) :: (nat_lit 355, f355 0) :: (nat_lit 357, f355 2) :: (nat_lit 358, f355 3) :: (nat_lit 360, f355 5) :: (nat_lit 361, f355 6) :: (nat_lit 362, f362 0) :: (nat_lit 364, f362 2) :: (nat_lit 365, f362 3) :: (nat_lit 367, f362 5) :: (nat_lit 368, f362 6) :: (nat_lit 369, f369 0) :: (nat_lit 371, f369 2) :: (nat_lit 372, f369 3) :: (nat_lit 374, f369 5) :: (nat_lit 375, f369 6) :: (nat_lit 383, f383 0) :: (nat_lit 385, f383 2) :: (nat_lit 386, f383 3) :: (nat_lit 388, f383 5) :: (nat_lit 389, f383 6) :: (nat_lit 390, o390) :: (nat_lit 393, o393) :: (nat_lit 394, o394) :: (nat_lit 395, o395) :: (nat_lit 396, o396 P) :: (nat_lit 397, o397) :: (nat_lit 398, o398) :: (nat_lit 399, o399) :: (nat_lit 402, f402 0) :: (nat_lit 404, f402 2) :: (nat_lit 405, f402 3) :: (nat_lit 407, f402 5) :: (nat_lit 408, f402 6) :: (nat_lit 409, f409 0) :: (nat_lit 411, f409 2) :: (nat_lit 412, f409 3) :: (nat_lit 414, f409 5) :: (nat_lit 415, f409 6) :: (nat_lit 423, f423 0) :: (nat_lit 425, f423 2) :: (nat_lit 426, f423 3) :: (nat_lit 428, f423 5) :: (nat_lit 429, f423 6) :: (nat_lit 430, f430 0) :: (nat_lit 432, f430 2) :: (nat_lit 433, f430 3) :: (nat_lit 435, f430 5) :: (nat_lit 436, f430 6) :: (nat_lit 437, f437 0) :: (nat_lit 439, f437 2) :: (nat_lit 440, f437 3) :: (nat_lit 442, f437 5) :: (nat_lit 443, f437 6) :: (nat_lit 444, f444 0) :: (nat_lit 446, f444 2) :: (nat_lit 447, f444 3) :: (nat_lit 449, f444 5) :: (nat_lit 450, f444 6) :: (nat_lit 451, f451 0) :: (nat_lit 453, f451 2) :: (nat_lit 454, f451 3) :: (nat_lit 456, f451 5) :: (nat_lit 457, f451 6) :: (nat_lit 458, f458 0) :: (nat_lit 460, f458 2) :: (nat_lit 461, f458 3) :: (nat_lit 463, f458 5) :: (nat_lit 464, f458 6) :: (nat_lit 465, f465 0) :: (nat_lit 467, f465 2) :: (nat_lit 468, f465 3) :: (nat_lit 470, f465 5) :: (nat_lit 471, f465 6) :: (nat_lit 472, o472) :: (nat_lit 473, o473 P) :: (nat_lit 474, o474) :: (nat_lit 475, o475) :: (nat_lit 476, o476) :: (nat_lit 479, o479) :: (nat_lit 486, f486 0) :: (nat_lit 488, f486 2) :: (nat_lit 489, f486 3) :: (nat_lit 491, f486 5) :: (nat_lit 492, f486 6) :: (nat_lit 493, f493 0) :: (nat_lit 495, f493 2) :: (nat_lit 496, f493 3) :: (nat_lit 498, f493 5) :: (nat_lit 499, f493 6) :: (nat_lit 500, f500 0) :: (nat_lit 502, f500 2) :: (nat_lit 503, f500 3) :: (nat_lit 505, f500 5) :: (nat_lit 506, f500 6) :: (nat_lit 507, f507 0) :: (nat_lit 509, f507 2) :: (nat_lit 510, f507 3) :: (nat_lit 512, f507 5) :: (nat_lit 513, f507 6) :: (nat_lit 514, f514 0) :: (nat_lit 516, f514 2) :: (nat_lit 517, f514 3) :: (nat_lit 519, f514 5) :: (nat_lit 520, f514 6) :: (nat_lit 521, f521 0) :: (nat_lit 523, f521 2) :: (nat_lit 524, f521 3) :: (nat_lit 526, f521 5) :: (nat_lit 527, f521 6) :: (nat_lit 528, f528 0) :: (nat_lit 530, f528 2) :: (nat_lit 531, f528 3) :: (nat_lit 533, f528 5) :: (nat_lit 534, f528 6) :: (nat_lit 535, f535 0) :: (nat_lit 537, f535 2) :: (nat_lit 538, f535 3) :: (nat_lit 540, f535 5) :: (nat_lit 541, f535 6) :: (nat_lit 542, f542 0) :: (nat_lit 544, f542 2) :: (nat_lit 545, f542 3) :: (nat_lit 547, f542 5) :: (nat_lit 548, f542 6) :: (nat_lit 549, f549 0) :: (nat_lit 551, f549 2) :: (nat_lit 552, f549 3) :: (nat_lit 554, f549 5) :: (nat_lit 555, f549 6) :: (nat_lit 556, f556 0) :: (nat_lit 558, f556 2) :: (nat_lit 559, f556 3) :: (nat_lit 561, f556 5) :: (nat_lit 562, f556 6) :: (nat_lit 563, f563 0) :: (nat_lit 565, f563 2) :: (nat_lit 566, f563 3) :: (nat_lit 568, f563 5) :: (nat_lit 569, f563 6) :: (nat_lit 570, o570) :: (nat_lit 571, o571 P) :: (nat_lit 572, o572) :: (nat_lit 582, f582 0) :: (nat_lit 584, f582 2) :: (nat_lit 585, f582 3) :: (nat_lit 587, f582 5) :: (nat_lit 588, f582 6) :: (nat_lit 589, f589 0) :: (nat_lit 591, f589 2) :: (nat_lit 592, f589 3) :: (nat_lit 594, f589 5) :: (nat_lit 595, f589 6) :: (nat_lit 596, f596 0) :: (nat_lit 598, f596 2) :: (nat_lit 599, f596 3) :: (nat_lit 601, f596 5) :: (nat_lit 602, f596 6) :: (nat_lit 603, f603 0) :: (nat_lit 605, f603 2) :: (nat_lit 606, f603 3) :: (nat_lit 608, f603 5) :: (nat_lit 609, f603 6) :: (nat_lit 610, f610 0) :: (nat_lit 612, f610 2) :: (nat_lit 613, f610 3) :: (nat_lit 615, f610 5) :: (nat_lit 616, f610 6) :: (nat_lit 617, f617 0) :: (nat_lit 619, f617 2) :: (nat_lit 620, f617 3) :: (nat_lit 622, f617 5) :: (nat_lit 623, f617 6) :: (nat_lit 624, f624 0) :: (nat_lit 626, f624 2) :: (nat_lit 627, f624 3) :: (nat_lit 629, f624 5) :: (nat_lit 630, f624 6) :: (nat_lit 631, o631) :: (nat_lit 632, o632 P) :: (nat_lit 633, o633) :: (nat_lit 634, o634) :: (nat_lit 635, o635) :: (nat_lit 638, f638 0) :: (nat_lit 640, f638 2) :: (nat_lit 641, f638 3) :: (nat_lit 643, f638 5) :: (nat_lit 644, f638 6) :: (nat_lit 645, f645 0) :: (nat_lit 647, f645 2) :: (nat_lit 648, f645 3) :: (nat_lit 650, f645 5) :: (nat_lit 651, f645 6) :: (nat_lit 652, f652 0) :: (nat_lit 654, f652 2) :: (nat_lit 655, f652 3) :: (nat_lit 657, f652 5) :: (nat_lit 658, f652 6) :: (nat_lit 659, f659 0) :: (nat_lit 661, f659 2) :: (nat_lit 662, f659 3) :: (nat_lit 664, f659 5) :: (nat_lit 665, f659 6) :: (nat_lit 666, f666 0) :: (nat_lit 668, f666 2) :: (nat_lit 669, f666 3) :: (nat_lit 671, f666 5) :: (nat_lit 672, f666 6) :: (nat_lit 673, o673) :: (nat_lit 676, o676) :: (nat_lit 677, o677) :: (nat_lit 678, f678 0) :: (nat_lit 680, f678 2) :: (nat_lit 681, f678 3) :: (nat_lit 683, f678 5) :: (nat_lit 684, f678 6) :: (nat_lit 685, f685 0) :: (nat_lit 687, f685 2) :: (nat_lit 688, f685 3) :: (nat_lit 690, f685 5) :: (nat_lit 691, f685 6) :: (nat_lit 692, o692) :: (nat_lit 695, o695) :: (nat_lit 696, o696) :: (nat_lit 697, f697 0) :: (nat_lit 699, f697 2) :: (nat_lit 700, f697 3) :: (nat_lit 702, f697 5) :: (nat_lit 703, f697 6) :: (nat_lit 704, f704 0) :: (nat_lit 706, f704 2) :: (nat_lit 707, f704 3) :: (nat_lit 709, f704 5) :: (nat_lit 710, f704 6) :: []
noncomputable def hL (P : Params) : List Obj := [boot_o_0 P, boot_o_1 P, o2 P, o3d P, boot_o_4 P, boot_o_5 P, boot_o_6 P, boot_o_7 P, boot_o_8 P, boot_o_9 P, boot_o_10 P, o11, o12e, o13, o14, f15 0, f15 1, f15 2, f15 3, f15 4, f15 5, f15 6, o22, o23, o24 P, o25, o26, o27, o28, f29 0, f29 1, f29 2, f29 3, f29 4, f29 5, f29 6, o36, o37 P, o38, o39, o40, o41, o42, o43, o44 P, o45, o46, o47, o48, o49, o50 P, o51, o52, o53, o54, o55, o56 P, o57, o58, o59, o60, o61, o62 P, o63, o64, o65, f66 0, f66 1, f66 2, f66 3, f66 4, f66 5, f66 6, f73 0, f73 1, f73 2, f73 3, f73 4, f73 5, f73 6, f80 0, f80 1, f80 2, f80 3, f80 4, f80 5, f80 6, f87 0, f87 1, f87 2, f87 3, f87 4, f87 5, f87 6, o94, f95 0, f95 1, f95 2, f95 3, f95 4, f95 5, f95 6, f102 0, f102 1, f102 2, f102 3, f102 4, f102 5, f102 6, f109 0, f109 1, f109 2, f109 3, f109 4, f109 5, f109 6, f116 0, f116 1, f116 2, f116 3, f116 4, f116 5, f116 6, f123 0, f123 1, f123 2, f123 3, f123 4, f123 5, f123 6, f130 0, f130 1, f130 2, f130 3, f130 4, f130 5, f130 6, f137 0, f137 1, f137 2, f137 3, f137 4, f137 5, f137 6, f144 0, f144 1, f144 2, f144 3, f144 4, f144 5, f144 6, f151 0, f151 1, f151 2, f151 3, f151 4, f151 5, f151 6, f158 0, f158 1, f158 2, f158 3, f158 4, f158 5, f158 6, o165, o166, o167 P, o168, o169, o170, o171, f172 0, f172 1, f172 2, f172 3, f172 4, f172 5, f172 6, f179 0, f179 1, f179 2, f179 3, f179 4, f179 5, f179 6, f186 0, f186 1, f186 2, f186 3, f186 4, f186 5, f186 6, o193, o194 P, o195, o196, o197, o198, o199, f200 0, f200 1, f200 2, f200 3, f200 4, f200 5, f200 6, o207, o208, o209 P, o210, o211, o212, o213, f214 0, f214 1, f214 2, f214 3, f214 4, f214 5, f214 6, f221 0, f221 1, f221 2, f221 3, f221 4, f221 5, f221 6, f228 0, f228 1, f228 2, f228 3, f228 4, f228 5, f228 6, f235 0, f235 1, f235 2, f235 3, f235 4, f235 5, f235 6, f242 0, f242 1, f242 2, f242 3, f242 4, f242 5, f242 6, f249 0, f249 1, f249 2, f249 3, f249 4, f249 5, f249 6, f256 0, f256 1, f256 2, f256 3, f256 4, f256 5, f256 6, f263 0, f263 1, f263 2, f263 3, f263 4, f263 5, f263 6, f270 0, f270 1, f270 2, f270 3, f270 4, f270 5, f270 6, f277 0, f277 1, f277 2, f277 3, f277 4, f277 5, f277 6, f284 0, f284 1, f284 2, f284 3, f284 4, f284 5, f284 6, f291 0, f291 1, f291 2, f291 3, f291 4, f291 5, f291 6, f298 0, f298 1, f298 2, f298 3, f298 4, f298 5, f298 6, o305, o306, o307, o308, o309, f310 0, f310 1, f310 2, f310 3, f310 4, f310 5, f310 6, f317 0, f317 1, f317 2, f317 3, f317 4, f317 5, f317 6, o324, o325, o326, o327, o328, f329 0, f329 1, f329 2, f329 3, f329 4, f329 5, f329 6, o336, o337 P, o338b, o339, o340, o341, o342, f343 0, f343 1, f343 2, f343 3, f343 4, f343 5, f343 6, o350, o351, o352, o353, o354, f355 0, f355 1, f355 2, f355 3, f355 4, f355 5, f355 6, f362 0, f362 1, f362 2, f362 3, f362 4, f362 5, f362 6, f369 0, f369 1, f369 2, f369 3, f369 4, f369 5, f369 6, o376, o377, o378 P, o379, o380, o381, o382, f383 0, f383 1, f383 2, f383 3, f383 4, f383 5, f383 6, o390, o391, o392, o393, o394, o395, o396 P, o397, o398, o399, o400, o401, f402 0, f402 1, f402 2, f402 3, f402 4, f402 5, f402 6, f409 0, f409 1, f409 2, f409 3, f409 4, f409 5, f409 6, o416, o417, o418 P, o419, o420, o421, o422, f423 0, f423 1, f423 2, f423 3, f423 4, f423 5, f423 6, f430 0, f430 1, f430 2, f430 3, f430 4, f430 5, f430 6, f437 0, f437 1, f437 2, f437 3, f437 4, f437 5, f437 6, f444 0, f444 1, f444 2, f444 3, f444 4, f444 5, f444 6, f451 0, f451 1, f451 2, f451 3, f451 4, f451 5, f451 6, f458 0, f458 1, f458 2, f458 3, f458 4, f458 5, f458 6, f465 0, f465 1, f465 2, f465 3, f465 4, f465 5, f465 6, o472, o473 P, o474, o475, o476, o477, o478, o479, o480, o481 P, o482, o483, o484, o485, f486 0, f486 1, f486 2, f486 3, f486 4, f486 5, f486 6, f493 0, f493 1, f493 2, f493 3, f493 4, f493 5, f493 6, f500 0, f500 1, f500 2, f500 3, f500 4, f500 5, f500 6, f507 0, f507 1, f507 2, f507 3, f507 4, f507 5, f507 6, f514 0, f514 1, f514 2, f514 3, f514 4, f514 5, f514 6, f521 0, f521 1, f521 2, f521 3, f521 4, f521 5, f521 6, f528 0, f528 1, f528 2, f528 3, f528 4, f528 5, f528 6, f535 0, f535 1, f535 2, f535 3, f535 4, f535 5, f535 6, f542 0, f542 1, f542 2, f542 3, f542 4, f542 5, f542 6, f549 0, f549 1, f549 2, f549 3, f549 4, f549 5, f549 6, f556 0, f556 1, f556 2, f556 3, f556 4, f556 5, f556 6, f563 0, f563 1, f563 2, f563 3, f563 4, f563 5, f563 6, o570, o571 P, o572, o573, o574, o575, o576, o577 P, o578, o579, o580, o581, f582 0, f582 1, f582 2, f582 3, f582 4, f582 5, f582 6, f589 0, f589 1, f589 2, f589 3, f589 4, f589 5, f589 6, f596 0, f596 1, f596 2, f596 3, f596 4, f596 5, f596 6, f603 0, f603 1, f603 2, f603 3, f603 4, f603 5, f603 6, f610 0, f610 1, f610 2, f610 3, f610 4, f610 5, f610 6, f617 0, f617 1, f617 2, f617 3, f617 4, f617 5, f617 6, f624 0, f624 1, f624 2, f624 3, f624 4, f624 5, f624 6, o631, o632 P, o633, o634, o635, o636, o637, f638 0, f638 1, f638 2, f638 3, f638 4, f638 5, f638 6, f645 0, f645 1, f645 2, f645 3, f645 4, f645 5, f645 6, f652 0, f652 1, f652 2, f652 3, f652 4, f652 5, f652 6, f659 0, f659 1, f659 2, f659 3, f659 4, f659 5, f659 6, f666 0, f666 1, f666 2, f666 3, f666 4, f666 5, f666 6, o673, o674, o675, o676, o677, f678 0, f678 1, f678 2, f678 3, f678 4, f678 5, f678 6, f685 0, f685 1, f685 2, f685 3, f685 4, f685 5, f685 6, o692, o693, o694, o695, o696, f697 0, f697 1, f697 2, f697 3, f697 4, f697 5, f697 6, f704 0, f704 1, f704 2, f704 3, f704 4, f704 5, f704 6]
noncomputable def TOP : List Stmt := behindTheImports PRG
noncomputable def kept : List Nat := [0, 2, 3, 4, 6, 7, 8, 10, 11, 12, 14, 15, 16, 17, 18, 19, 20, 21, 22, 23, 24, 25, 26, 27, 28, 29, 30, 31, 32, 33, 35, 36, 37, 38, 39, 40, 41, 42, 43, 45, 47, 49, 51, 52, 53, 54, 55, 56, 57, 58, 59, 60, 61]
noncomputable def VW : Program := { PRG with main := { PRG.main with body := kept.map s1 } }
noncomputable def ENV0 : Env := { scope := PRG.main.scope, locals := mainNs, globals := mainNs, cells := [], code := .ref 13, frame := some 14 }
noncomputable def cE : Code := Code.body TOP ENV0
noncomputable def p0 : Pos := ⟨0, 0, 0, 0⟩
noncomputable def hH (l : List Obj) : Heap := ⟨⟨l⟩, {}⟩
noncomputable def hp14 (P : Params) : Heap := hH [boot_o_0 P, boot_o_1 P, boot_o_2 P, boot_o_3 P, boot_o_4 P, boot_o_5 P, boot_o_6 P, boot_o_7 P, boot_o_8 P, boot_o_9 P, boot_o_10 P, o11, o12, o13, o14]
noncomputable def stT (t : Params → BT) (n k : Nat) (w : World) (os : OsState) : SharedT := ⟨t w.params, n, {}, ⟨[]⟩, {}, k, os⟩
noncomputable abbrev LOOSE : List Str := [Str.ofString "WORD", Str.ofString "KINDS", Str.ofString "is_leaf_node_view"]

theorem seg_q {p : Program} {w : World} {m : Nat} {ann : Option Value} {l n : Nat} {S : SharedT} {t : Thread} {r : Option (Flow × SharedT × Code × Pos)}
    (h : Fast.tw10110043849684766642 Fast.tw14364793385576792824 p w m ann l n S t = r) : segRunT treeTable p w m ann l n S t = r := by
  rw [Fast.te10110043849684766642, Fast.te14364793385576792824]; exact h
end
section
noncomputable abbrev Led := List (Addr × Obj)
noncomputable abbrev AR (dp un : Nat) (gd : Option (List Code)) (outer : List Env) : Around := { handled := none, depth := dp, frames := some outer, guards := gd, units := un }

noncomputable def Apart (m l : Led) : Prop := ∀ p ∈ m, ∀ q ∈ l, p.1 ≠ q.1
end
section
open Sem (wp)
noncomputable def heldIds : List String := Builtin.Bytes.decodersThatHold ++ ["bytearray.__contains__", "bytearray.__mod__", "bytearray.__rmod__", "_struct.pack_into.held", "bytearray.find.held"]
noncomputable def cleanCode : Code → Bool
  | .builtin id _ => !heldIds.contains id
  | _ => true
noncomputable def Clean (l : List (Code × Pos)) : Prop := ∀ x ∈ l, cleanCode x.1 = true
theorem Clean.cons {c : Code} {p : Pos} {l : List (Code × Pos)} (hc : cleanCode c = true) (h : Clean l) : Clean ((c, p) :: l) := by
  intro x hx
  rcases List.mem_cons.mp hx with rfl | hx
  · exact hc
  · exact h x hx

/-- the wish over every context that is clean: no activation in its stack lends a bytearray's memory -/
noncomputable def wpC {α : Type} (M : Model) (A : Around) (t : Sem α) (Q : α → Shared → Prop) (E : Value → Shared → Prop) (s : Shared) : Prop :=
  ∀ Γ p, Γ.In A → cleanCode Γ.code = true → Clean Γ.below → wp M Γ t (fun a _ s' => Q a s') (fun e _ s' => E e s') p s
noncomputable def codeC (M : Model) (A : Around) (c : Code) (R : Result → Shared → Prop) (s : Shared) : Prop :=
  ∀ Γ p, Γ.code = c → Γ.Below A → Clean Γ.below → wpCode M Γ R p s

section
variable {α β : Type} {M : Model} {A : Around} {E : Value → Shared → Prop} {s : Shared}
theorem wpC_of_any {t : Sem α} {Q : α → Shared → Prop} (h : wpAny M A t Q E s) : wpC M A t Q E s := fun Γ p hΓ _ _ => h Γ p hΓ
theorem wpC_pure {a : α} {Q : α → Shared → Prop} (h : Q a s) : wpC M A (pure a) Q E s := fun _ _ _ _ _ => h
theorem wpC_mono {t : Sem α} {Q Q' : α → Shared → Prop} {E' : Value → Shared → Prop} (h : wpC M A t Q E s) (hQ : ∀ a s, Q a s → Q' a s) (hE : ∀ e s, E e s → E' e s) : wpC M A t Q' E' s :=
  fun Γ p hΓ hc hb => Sem.wp_mono M Γ t (fun a _ s => hQ a s) (fun e _ s => hE e s) p s (h Γ p hΓ hc hb)
theorem wpC_bind {m : Sem α} {f : α → Sem β} {Q : β → Shared → Prop} (h : wpC M A m (fun a s' => wpC M A (f a) Q E s') E s) : wpC M A (m >>= f) Q E s := fun Γ p hΓ hc hb => by
  rw [Sem.wp_bind']
  exact Sem.wp_mono M Γ m (fun a p' s' h' => h' Γ p' hΓ hc hb) (fun _ _ _ h' => h') p s (h Γ p hΓ hc hb)
/-- what is walked by the kit's rules, then the rest over clean contexts -/
theorem wpC_then {m : Sem α} {f : α → Sem β} {Q : β → Shared → Prop} (h : wpAny M A m (fun a s' => wpC M A (f a) Q E s') E s) : wpC M A (m >>= f) Q E s := wpC_bind (wpC_of_any h)
theorem wpC_holding {vs : List Value} {m : Sem α} {Q : α → Shared → Prop} (h : wpC M A m Q E s) : wpC M A (holding vs m) Q E s :=
  fun Γ p hΓ hc hb => by rw [Sem.wp_holding]; exact h Γ p hΓ hc hb
/-- nothing in the stack of a clean context answers to f -/
theorem wpC_stackAny_false {f : Code × Pos → Bool} {Q : Bool → Shared → Prop} (hf : ∀ c p, cleanCode c = true → f (c, p) = false) (h : Q false s) : wpC M A (do return (← stack).any f) Q E s := fun Γ p _ hc hb => by
  show Q (((Γ.code, p) :: Γ.below).any f) s
  have : ((Γ.code, p) :: Γ.below).any f = false := by
    rw [List.any_eq_false]
    intro x hx
    have hx' := Clean.cons hc hb x hx
    obtain ⟨c, q⟩ := x
    rw [hf c q hx']
    exact Bool.false_ne_true
  rw [this]; exact h
theorem wpC_runValue {c : Code} {Q : Value → Shared → Prop}
    (hc : codeC M A c (fun r s' => match r with | .ok (.ret v) => Q v s' | .ok _ => False | .error e => E e s') s) : wpC M A (runValue c) Q E s :=
  fun Γ p hΓ hk hb => by rw [Sem.wp_runValue]; exact hc _ p rfl (hΓ.enter c none p (by intro x; cases x)) (Clean.cons hk hb)
theorem wpC_call {f : Value} {pos : List Value} {kw : List (Str × Value)} {Q : Value → Shared → Prop}
    (hc : codeC M A (.call f ⟨pos, kw⟩) (fun r s' => match r with | .ok (.ret v) => Q v s' | .ok _ => False | .error e => E e s') s) : wpC M A (call f pos kw) Q E s := wpC_runValue hc
theorem codeC_of_tree {c : Code} {R : Result → Shared → Prop} (hk : cleanCode c = true)
    (h : wpC M (A.under c) (M.den c) (fun fin s' => match fin with | .done f => R (.ok f) s' | .again c' => c'.quiet = true ∧ codeC M A c' R s') (fun e s' => R (.error e) s') s) : codeC M A c R s := fun Γ p hc hΓ hb => by
  rw [wpCode_iff_wp, hc]
  refine Sem.wp_mono M Γ _ (fun fin p' s' h' => ?_) (fun _ _ _ h' => h') p s (h Γ p (hc ▸ hΓ.in) (hc ▸ hk) hb)
  cases fin with
  | done f => exact h'
  | again c' => exact ⟨h'.1, h'.2 (Γ.goto c') p' rfl (hΓ.goto c') hb⟩
end
end
section
open Sem (wp)
/-- the wish over every context; where κ is true, over those contexts alone that are clean (no activation in the stack lends a bytearray's memory) -/
noncomputable def wpM {α : Type} (κ : Bool) (M : Model) (A : Around) (t : Sem α) (Q : α → Shared → Prop) (E : Value → Shared → Prop) (s : Shared) : Prop :=
  ∀ Γ p, Γ.In A → (κ = true → cleanCode Γ.code = true) → (κ = true → Clean Γ.below) → wp M Γ t (fun a _ s' => Q a s') (fun e _ s' => E e s') p s
noncomputable def codeM (κ : Bool) (M : Model) (A : Around) (c : Code) (R : Result → Shared → Prop) (s : Shared) : Prop :=
  ∀ Γ p, Γ.code = c → Γ.Below A → (κ = true → Clean Γ.below) → wpCode M Γ R p s

section
variable {κ : Bool} {α β : Type} {M : Model} {A : Around} {E : Value → Shared → Prop} {s : Shared}
theorem wpM_any {t : Sem α} {Q : α → Shared → Prop} (h : wpM false M A t Q E s) : wpAny M A t Q E s := fun Γ p hΓ => h Γ p hΓ (fun e => nomatch e) (fun e => nomatch e)
theorem codeM_up {c : Code} {R : Result → Shared → Prop} (h : codeM false M A c R s) : codeM κ M A c R s := fun Γ p hc hΓ _ => h Γ p hc hΓ (fun e => nomatch e)
theorem wpM_of_any {t : Sem α} {Q : α → Shared → Prop} (h : wpAny M A t Q E s) : wpM κ M A t Q E s := fun Γ p hΓ _ _ => h Γ p hΓ
theorem codeM_of_any {c : Code} {R : Result → Shared → Prop} (h : codeAny M A c R s) : codeM κ M A c R s := fun Γ p hc hΓ _ => h Γ p hc hΓ
theorem wpM_pure {a : α} {Q : α → Shared → Prop} (h : Q a s) : wpM κ M A (pure a) Q E s := fun _ _ _ _ _ => h
theorem wpM_mono {t : Sem α} {Q Q' : α → Shared → Prop} {E' : Value → Shared → Prop} (h : wpM κ M A t Q E s) (hQ : ∀ a s, Q a s → Q' a s) (hE : ∀ e s, E e s → E' e s) : wpM κ M A t Q' E' s :=
  fun Γ p hΓ hc hb => Sem.wp_mono M Γ t (fun a _ s => hQ a s) (fun e _ s => hE e s) p s (h Γ p hΓ hc hb)
theorem codeM_mono {c : Code} {R R' : Result → Shared → Prop} (h : codeM κ M A c R s) (hR : ∀ r s, R r s → R' r s) : codeM κ M A c R' s := fun Γ p hc hΓ hb => wpCode_mono hR (h Γ p hc hΓ hb)
theorem wpM_bind {m : Sem α} {f : α → Sem β} {Q : β → Shared → Prop} (h : wpM κ M A m (fun a s' => wpM κ M A (f a) Q E s') E s) : wpM κ M A (m >>= f) Q E s := fun Γ p hΓ hc hb => by
  rw [Sem.wp_bind']
  exact Sem.wp_mono M Γ m (fun a p' s' h' => h' Γ p' hΓ hc hb) (fun _ _ _ h' => h') p s (h Γ p hΓ hc hb)
/-- what is walked by the kit's rules, then the rest over clean contexts -/
theorem wpM_then {m : Sem α} {f : α → Sem β} {Q : β → Shared → Prop} (h : wpAny M A m (fun a s' => wpM κ M A (f a) Q E s') E s) : wpM κ M A (m >>= f) Q E s := wpM_bind (wpM_of_any h)
theorem wpM_holding {vs : List Value} {m : Sem α} {Q : α → Shared → Prop} (h : wpM κ M A m Q E s) : wpM κ M A (holding vs m) Q E s :=
  fun Γ p hΓ hc hb => by rw [Sem.wp_holding]; exact h Γ p hΓ hc hb
theorem wpM_attempt {m : Sem α} {Q : Except Value α → Shared → Prop} (h : wpM κ M A m (fun a => Q (.ok a)) (fun e => Q (.error e)) s) : wpM κ M A m.attempt Q E s :=
  fun Γ p hΓ hc hb => by rw [Sem.wp_attempt]; exact h Γ p hΓ hc hb
theorem wpM_onRaise {m : Sem α} {k : Value → Sem Unit} {Q : α → Shared → Prop}
    (h : wpM κ M A m Q (fun e s' => wpM κ M A (k e) (fun _ s'' => E e s'') E s') s) : wpM κ M A (m.onRaise k) Q E s := fun Γ p hΓ hc hb => by
  rw [Sem.wp_onRaise]
  exact Sem.wp_mono M Γ m (fun _ _ _ h' => h') (fun e p' s' h' => h' Γ p' hΓ hc hb) p s (h Γ p hΓ hc hb)
theorem wpM_standAt {pos : Pos} {Q : Unit → Shared → Prop} (h : Q () s) : wpM κ M A (standAt pos) Q E s := fun _ _ _ _ _ => h
theorem wpM_point {Q : Unit → Shared → Prop} (h : Q () s) : wpM κ M A point Q E s := fun _ _ _ _ _ => h
theorem wpM_run {c : Code} {h : Option Value} {Q : Flow → Shared → Prop}
    (hc : codeM κ M (A.mark h) c (fun r s' => match r with | .ok f => Q f s' | .error e => E e s') s) (hnb : h ≠ some byPass := by intro x; cases x) : wpM κ M A (run c h) Q E s :=
  fun Γ p hΓ hk hb => by rw [Sem.wp_run]; exact hc _ p rfl (hΓ.enter c h p hnb) (fun e => Clean.cons (hk e) (hb e))
theorem wpM_runValue {c : Code} {Q : Value → Shared → Prop}
    (hc : codeM κ M A c (fun r s' => match r with | .ok (.ret v) => Q v s' | .ok _ => False | .error e => E e s') s) : wpM κ M A (runValue c) Q E s :=
  fun Γ p hΓ hk hb => by rw [Sem.wp_runValue]; exact hc _ p rfl (hΓ.enter c none p (by intro x; cases x)) (fun e => Clean.cons (hk e) (hb e))
theorem wpM_call {f : Value} {pos : List Value} {kw : List (Str × Value)} {Q : Value → Shared → Prop}
    (hc : codeM κ M A (.call f ⟨pos, kw⟩) (fun r s' => match r with | .ok (.ret v) => Q v s' | .ok _ => False | .error e => E e s') s) : wpM κ M A (call f pos kw) Q E s := wpM_runValue hc
theorem codeM_of_tree {c : Code} {R : Result → Shared → Prop} (hk : cleanCode c = true)
    (h : wpM κ M (A.under c) (M.den c) (fun fin s' => match fin with | .done f => R (.ok f) s' | .again c' => c'.quiet = true ∧ codeM κ M A c' R s') (fun e s' => R (.error e) s') s) : codeM κ M A c R s := fun Γ p hc hΓ hb => by
  rw [wpCode_iff_wp, hc]
  refine Sem.wp_mono M Γ _ (fun fin p' s' h' => ?_) (fun _ _ _ h' => h') p s (h Γ p (hc ▸ hΓ.in) (fun _ => hc ▸ hk) hb)
  cases fin with
  | done f => exact h'
  | again c' => exact ⟨h'.1, h'.2 (Γ.goto c') p' rfl (hΓ.goto c') hb⟩
theorem codeM_loop {c : Code} {R : Result → Shared → Prop} (hk : cleanCode c = true) (hq : c.quiet = true) (I : Nat → Shared → Prop)
    (turn : ∀ n s, I n s → wpM κ M (A.under c) (M.den c)
      (fun fin s' => match fin with | .done f => R (.ok f) s' | .again c' => (c' = c ∧ ∃ m, m < n ∧ I m s') ∨ (c'.quiet = true ∧ codeM κ M A c' R s')) (fun e s' => R (.error e) s') s)
    (n : Nat) (h : I n s) : codeM κ M A c R s := by
  induction n using Nat.strongRecOn generalizing s with
  | ind n ih =>
    refine codeM_of_tree hk (wpM_mono (turn n s h) (fun fin s' hf => ?_) fun _ _ h' => h')
    cases fin with
    | done f => exact hf
    | again c' =>
      rcases hf with ⟨rfl, m, hm, hI⟩ | hf
      · exact ⟨hq, ih m hm hI⟩
      · exact hf
theorem wpM_callMarked {mark f : Value} {pos : List Value} {kw : List (Str × Value)} {Q : Value → Shared → Prop} (h : wpM κ M A (call f pos kw) Q E s) : wpM κ M A (callMarked mark f pos kw) Q E s := by
  unfold callMarked
  intro Γ p hΓ hc hb
  have := h Γ p hΓ hc hb
  first
    | (rw [Sem.wp_keep]; exact this)
    | simpa using this
end
end
section
open Sem (wp)
section
variable {κ : Bool} {α β : Type} {M : Model} {A : Around} {E : Value → Shared → Prop} {s : Shared} {env : Env}
theorem wpM_idE {t : Sem α} {Q Q' : α → Shared → Prop} (h : wpM κ M A t Q E s) (hQ : ∀ a s, Q a s → Q' a s) : wpM κ M A t Q' E s := wpM_mono h hQ fun _ _ x => x
theorem wpM_execs_cons {st rest} {Q : Flow → Shared → Prop} (h : wpM κ M A (exec st env) (fun f s' => match f with | .next => wpM κ M A (execs rest env) Q E s' | f => Q f s') E s) : wpM κ M A (execs (st :: rest) env) Q E s := by
  rw [execs_cons]
  refine wpM_bind (wpM_idE h fun f s' h' => ?_)
  cases f <;> first | exact h' | exact wpM_pure h'
theorem wpM_execs_nil {Q : Flow → Shared → Prop} (h : Q .next s) : wpM κ M A (execs [] env) Q E s := fun _ _ _ _ _ => h
theorem wpM_Call_Name {id : PySem.Str} {p pos : Pos} {args : List Expr} {keywords : List Keyword} {Q : Value → Shared → Prop}
    (h : wpAny M A (eval (.Name id p) env) (fun f s₁ => wpM κ M A (callWith pos f [] (backTo pos (starEach args env)) (backToKw pos (keywordEach keywords env))) Q E s₁) E s) :
    wpM κ M A (eval (.Call (.Name id p) args keywords pos) env) Q E s := by
  rw [arm_eval_Call_Name']
  exact wpM_then h
theorem wpM_callWith_of {pos : Pos} {f : Value} {first : List Value} {Q : Value → Shared → Prop} {P : Heap → Prop} {args : List (Bool × Sem Value)} {keywords : List (Option PySem.Str × Sem Value)} (hplain : (args.any (·.1) || keywords.any (·.1.isNone)) = false)
    (hk : ∀ h, P h → ∃ k, (k = Keeper.frame ∨ k = Keeper.machine ∨ k = Keeper.boundFrame) ∧ Looks M h (keeperOf f) k)
    (h : wpM κ M A (evalArgs f true args keywords) (fun a s₁ => P s₁.heap ∧ wpM κ M A (call f (first ++ a.pos) a.kw) Q E s₁) E s) : wpM κ M A (callWith pos f first args keywords) Q E s := by
  unfold callWith
  refine wpM_bind (wpM_holding (wpM_idE h fun a s₁ h₁ => wpM_bind (wpM_standAt ?_)))
  obtain ⟨k, hk', L⟩ := hk _ h₁.1
  simp only [hplain]
  refine wpM_then (L.here ?_)
  have tail : ∀ {t : Sem Value}, wpM κ M A t Q E s₁ → wpM κ M A (t >>= fun r => holding [r] point >>= fun _ => pure r) Q E s₁ :=
    fun ht => wpM_bind (wpM_idE ht fun r s₂ hr => wpM_bind (wpM_holding (wpM_point (wpM_pure hr))))
  rcases hk' with rfl | rfl | rfl <;> dsimp only <;> first | exact tail h₁.2 | (split <;> first | exact tail h₁.2 | exact tail (wpM_callMarked h₁.2))
end
section
variable {κ : Bool} {α : Type} {M : Model} {A : Around} {E : Value → Shared → Prop} {s : Shared} {env : Env}
theorem wpM_noted {m : Sem α} {Q : α → Shared → Prop} (h : wpM κ M A m Q (notedBy M A env E) s) : wpM κ M A (m.onRaise fun x => do noteFrame x env; theTreesLotGoes x) Q E s :=
  wpM_onRaise (wpM_mono h (fun _ _ q => q) fun _ _ hx => wpM_of_any (wpAny_bind (wpAny_mono hx (fun _ _ e => wpAny_theTreesLotGoes e) fun _ _ e => e)))
theorem wpM_runOwn {c : Code} {h : Option Value} {Q : Flow → Shared → Prop}
    (hc : codeM κ M (A.mark h) c (fun r s' => match r with | .ok f => Q f s' | .error e => cameBackBy M A env E e s') s) (hnb : h ≠ some byPass := by intro x; cases x) :
    wpM κ M A (runOwn c env h) Q E s := by
  unfold runOwn
  exact wpM_onRaise (wpM_mono (wpM_run hc hnb) (fun _ _ x => x) fun _ _ x => wpM_of_any x)
theorem wpM_While {test body orelse pos} {Q : Flow → Shared → Prop}
    (h : codeM κ M A (.whileLoop test body orelse env) (fun r s' => match r with | .ok f => Q f s' | .error e => cameBackBy M A env E e s') s) : wpM κ M A (exec (.While test body orelse pos) env) Q E s := by
  rw [exec_While]; exact wpM_bind (wpM_standAt (wpM_runOwn h))
end
section
variable {κ : Bool} {prog : Program} {w : World} {A : Around} {E : Value → Shared → Prop} {R : Result → Shared → Prop} {s : Shared} {env : Env}
theorem codeM_whileLoop {test body orelse} (I : Nat → Shared → Prop)
    (turn : ∀ n s, I n s →
      wpM κ (model prog w) A (isTrue test env (eval test env)) (fun b s₂ =>
        if b then wpM κ (model prog w) A (execs body env) (fun f s₃ => match f with
            | .next | .cont => ∃ m, m < n ∧ I m s₃
            | .brk => R (.ok .next) s₃
            | .ret v => R (.ok (.ret v)) s₃) (notedBy (model prog w) A env fun e s' => R (.error e) s') s₂
        else wpAny (model prog w) A (execs orelse env) (fun f s₃ => R (.ok f) s₃) (notedBy (model prog w) A env fun e s' => R (.error e) s') s₂)
        (notedBy (model prog w) A env fun e s' => R (.error e) s') s)
    (n : Nat) (h : I n s) : codeM κ (model prog w) A (.whileLoop test body orelse env) R s := by
  refine codeM_loop rfl rfl I (fun n s hI => ?_) n h
  show wpM κ _ A ((whileTurn test body orelse env).onRaise (fun x => do noteFrame x env; theTreesLotGoes x)) _ _ s
  refine wpM_noted ?_
  unfold whileTurn
  refine wpM_bind (wpM_idE (turn n s hI) (fun b s₂ h₂ => ?_))
  cases b with
  | true =>
    refine wpM_bind (wpM_idE (by simpa using h₂) fun f s₃ h₃ => ?_)
    cases f with
    | next => exact wpM_pure (.inl ⟨rfl, h₃⟩)
    | cont => exact wpM_pure (.inl ⟨rfl, h₃⟩)
    | brk => exact wpM_pure h₃
    | ret v => exact wpM_pure h₃
  | false => exact wpM_then (wpAny_mono (by simpa using h₂) (fun f s₃ h₃ => wpM_pure h₃) fun _ _ x => x)
theorem codeM_forLoop {target it body orelse} (I : Nat → Shared → Prop)
    (turn : ∀ n s, I n s → wpAny (model prog w) A (pyNext it) (fun r s₁ => match r with
      | none => wpAny (model prog w) A (execs orelse env) (fun f s₃ => R (.ok f) s₃) (notedBy (model prog w) A env fun e s' => R (.error e) s') s₁
      | some v => wpAny (model prog w) A (assign target env v) (fun _ s₂ => wpM κ (model prog w) A (execs body env) (fun f s₃ => match f with
          | .next | .cont => ∃ m, m < n ∧ I m s₃
          | .brk => R (.ok .next) s₃
          | .ret v => R (.ok (.ret v)) s₃) (notedBy (model prog w) A env fun e s' => R (.error e) s') s₂) (notedBy (model prog w) A env fun e s' => R (.error e) s') s₁) (notedBy (model prog w) A env fun e s' => R (.error e) s') s)
    (n : Nat) (h : I n s) (ht : ∀ v, letOwnedTupleGo target it v = pure () := by intro _; rfl) : codeM κ (model prog w) A (.forLoop target it body orelse env) R s := by
  refine codeM_loop rfl rfl I (fun n s hI => ?_) n h
  show wpM κ _ A ((forTurn target it body orelse env).onRaise (fun x => do noteFrame x env; theTreesLotGoes x)) _ _ s
  refine wpM_noted ?_
  unfold forTurn
  refine wpM_bind (wpM_standAt (wpM_then (wpAny_onRaise (wpAny_mono (turn n s hI) (fun r s₁ h₁ => ?_) fun _ _ h' => wpAny_standAt h'))))
  cases r with
  | none => exact wpM_pure (.inr ⟨rfl, codeM_of_any (codeAny_block h₁)⟩)
  | some v =>
    refine wpM_then (wpAny_of_eq (ht v) ?_)
    refine wpM_then (wpAny_mono h₁ (fun _ s₂ h₂ => wpM_bind (wpM_idE h₂ fun f s₃ h₃ => ?_)) fun _ _ h' => h')
    cases f with
    | next => exact wpM_pure (.inl ⟨rfl, h₃⟩)
    | cont => exact wpM_pure (.inl ⟨rfl, h₃⟩)
    | brk => exact wpM_pure h₃
    | ret v => exact wpM_pure h₃
theorem codeM_func {body : List Stmt}
    (h : wpM κ (model prog w) (A.deeper env) (execs body env) (fun f s' => R (.ok (.ret (match f with | .ret v => v | _ => .none))) s')
      (fun e s' => wpAny (model prog w) (A.deeper env) (leaving env e) (fun _ s'' => R (.error e) s'') (fun e' s'' => R (.error e') s'') s') s) :
    codeM κ (model prog w) A (.func body env) R s := by
  refine codeM_of_tree rfl ?_
  show wpM κ _ (A.deeper env) (do point; match ← (execs body env).onRaise (leaving env) with | .ret v => ret v | _ => ret .none) _ _ s
  refine wpM_bind (wpM_point (wpM_bind (wpM_onRaise (wpM_mono h (fun f s' h' => ?_) fun _ _ h' => wpM_of_any h'))))
  cases f <;> exact wpM_pure h'
theorem codeM_call_function {a : Addr} {args : Args} {o : Obj} {fd : FuncData} {body : List Stmt} (hroom : A.depth < recursionLimit)
    (ho : s.heap.get? a = some o)
    (hd' : o.data = .func fd) (hco : fd.scope.isCoroutine = false) (hgen : fd.scope.isGenerator = false) (hbody : fd.body = .stmts body) (hcd : s.heap.CodeRec fd.code fd.qualname)
    (h : wpAny (model prog w) A.in1 (bindArgs fd args) (fun binds s₁ =>
      wpAny (model prog w) A.in1 (newFunctionEnv fd.scope fd.globals fd.closure binds (fd.qualname ++ ".<locals>.") (some a) fd.code none fd.builtins)
        (fun env s₂ => s₂.heap.NoLimit ∧ codeM κ (model prog w) A (.func body env) R s₂) (fun e s' => R (.error e) s') s₁) (fun e s' => R (.error e) s') s) :
    codeM κ (model prog w) A (.call (.ref a) args) R s := by
  refine codeM_of_tree rfl (wpM_of_any ?_)
  show wpAny _ A.in1 (callAny (.ref a) args) _ _ s
  simp only [callAny]
  refine wpAny_bind (wpAny_load ho ?_)
  obtain ⟨c, oc, vs, tq, hc, hoc, hdc, hq⟩ := hcd
  simp only [hd', callFunction, hco, hgen, hbody, hc]
  rw [hc] at h
  refine wpAny_bind (m := field (.ref c) 1) (wpAny_field hoc hdc hq (wpAny_bind (wpAny_pure ?_)))
  exact wpAny_bind (wpAny_mono h (fun binds s₁ h₁ => wpAny_bind (wpAny_mono h₁ (fun env s₂ h₂ => wpAny_bind (wpAny_enterFrame h₂.1 hroom
    (wpAny_pure (And.intro rfl h₂.2)))) fun _ _ h' => h')) fun _ _ h' => h')
theorem codeM_builtin {id : String} {args : Args} {b : Builtin} (hk : cleanCode (.builtin id args) = true) (hb : entryFor table id = some b)
    (h : wpM κ (model prog w) (A.under (.builtin id args)) (b args)
      (fun fin s' => match fin with | .done f => R (.ok f) s' | .again c' => c'.quiet = true ∧ codeM κ (model prog w) A c' R s') (fun e s' => R (.error e) s') s) :
    codeM κ (model prog w) A (.builtin id args) R s := by
  refine codeM_of_tree hk ?_
  show wpM κ _ _ (match entryFor table id with | some b => b args | none => unsupported ((withoutEnding? id "#data").getD id)) _ _ s
  rw [hb]; exact h
theorem codeM_call_builtin_at {id : String} {args : Args} {b : Builtin} (hk : cleanCode (.builtin id args) = true) (hq : (Code.builtin id args).quiet = true) (hb : entryFor table id = some b)
    (h : wpAny (model prog w) A.in1 (checkBuiltinCall id args) (fun _ s₁ => wpM κ (model prog w) (A.under (.builtin id args)) (b args)
      (fun fin s' => match fin with | .done f => R (.ok f) s' | .again c' => c'.quiet = true ∧ codeM κ (model prog w) A c' R s') (fun e s' => R (.error e) s') s₁)
      (fun e s' => R (.error e) s') s) : codeM κ (model prog w) A (.call (.builtin id) args) R s := by
  refine codeM_of_tree rfl ?_
  show wpM κ _ A.in1 (do checkBuiltinCall id args; again (.builtin id args)) _ _ s
  exact wpM_then (wpAny_mono h (fun _ s₁ h₁ => wpM_pure (And.intro hq (codeM_builtin hk hb h₁))) fun _ _ h' => h')
end
end
section
open Sem (wp)
section
variable {α β : Type} {M : Model} {A : Around} {E : Value → Shared → Prop} {s : Shared} {env : Env}
theorem wpC_idE {t : Sem α} {Q Q' : α → Shared → Prop} (h : wpC M A t Q E s) (hQ : ∀ a s, Q a s → Q' a s) : wpC M A t Q' E s := wpC_mono h hQ fun _ _ x => x
end
section
variable {α : Type} {M : Model} {A : Around} {E : Value → Shared → Prop} {s : Shared} {env : Env}
end
section
variable {prog : Program} {w : World} {A : Around} {E : Value → Shared → Prop} {R : Result → Shared → Prop} {s : Shared} {env : Env}
theorem codeC_builtin {id : String} {args : Args} {b : Builtin} (hk : cleanCode (.builtin id args) = true) (hb : entryFor table id = some b)
    (h : wpC (model prog w) (A.under (.builtin id args)) (b args)
      (fun fin s' => match fin with | .done f => R (.ok f) s' | .again c' => c'.quiet = true ∧ codeC (model prog w) A c' R s') (fun e s' => R (.error e) s') s) :
    codeC (model prog w) A (.builtin id args) R s := by
  refine codeC_of_tree hk ?_
  show wpC _ _ (match entryFor table id with | some b => b args | none => unsupported ((withoutEnding? id "#data").getD id)) _ _ s
  rw [hb]; exact h
theorem codeC_call_builtin_at {id : String} {args : Args} {b : Builtin} (hk : cleanCode (.builtin id args) = true) (hq : (Code.builtin id args).quiet = true) (hb : entryFor table id = some b)
    (h : wpAny (model prog w) A.in1 (checkBuiltinCall id args) (fun _ s₁ => wpC (model prog w) (A.under (.builtin id args)) (b args)
      (fun fin s' => match fin with | .done f => R (.ok f) s' | .again c' => c'.quiet = true ∧ codeC (model prog w) A c' R s') (fun e s' => R (.error e) s') s₁)
      (fun e s' => R (.error e) s') s) : codeC (model prog w) A (.call (.builtin id) args) R s := by
  refine codeC_of_tree rfl ?_
  show wpC _ A.in1 (do checkBuiltinCall id args; again (.builtin id args)) _ _ s
  exact wpC_then (wpAny_mono h (fun _ s₁ h₁ => wpC_pure (And.intro hq (codeC_builtin hk hb h₁))) fun _ _ h' => h')
end
end
section
theorem ba_mro : mroOf (.type "bytearray") = pure [.type "bytearray", .type "object"] := by rw [mroOf_type]; kernel_rfl
theorem ba_lookup_new : typeLookup (.type "bytearray") "__new__" = pure (some (.builtin "bytearray.__new__")) := by rw [typeLookup_type, builtinLookup_eq_fast]; kernel_rfl
theorem ba_slot_init : Slot "bytearray" "__init__" "bytearray.__init__" :=
  .of (owner := "bytearray") (n := "__init__") (by rw [typeLookup_type, builtinLookup_eq_fast]; kernel_rfl) (by decide +kernel) (by decide +kernel) (by decide +kernel)
    (by first | exact .inl (by decide +kernel) | exact .inr (by decide +kernel)) (by rw [isSubtype_type]; kernel_rfl)
theorem ba_called : TypeCalled "bytearray" "bytearray.__new__" "bytearray.__init__" :=
  ⟨by decide +kernel, by decide +kernel, ⟨_, _, ba_mro⟩, madeBy_type ba_mro ba_lookup_new (by decide +kernel), by decide +kernel, by rw [isSubtype_type]; kernel_rfl, ba_slot_init⟩
theorem ba_typeCall (a : Value) : checkTypeCall "bytearray" ⟨[a], []⟩ = pure () := by kernel_rfl
theorem ba_newCall (a : Value) : checkBuiltinCall "bytearray.__new__" ⟨[.type "bytearray", a], []⟩ = pure () := by kernel_rfl
theorem ba_entry_new : entryFor table "bytearray.__new__" = some Builtin.«list.__new__» := by first | exact entryFor_alias (id' := "list.__new__") (by kernel_rfl) rfl (by decide +kernel) (by kernel_rfl) | exact entryFor_of_tree (by kernel_rfl)
theorem ba_plain_new : plainId "bytearray.__new__" = true := by decide +kernel
theorem ba_entry_init : entryFor table "bytearray.__init__" = some Builtin.«bytearray.__init__» := by first | exact entryFor_of_fast (by kernel_rfl) | exact entryFor_of_tree (by kernel_rfl)
theorem ba_owner : ("bytearray.__new__".splitOn ".__new__").headD "" = "bytearray" := by simp +decide [String.splitOn, String.splitOnAux]
theorem ba_sub : isSubtype (.type "bytearray") (.type "bytearray") = pure true := by rw [isSubtype_type]; kernel_rfl
theorem ba_args_init (a b : Value) : argsOk "bytearray.__init__" ⟨[a, b], []⟩ := by unfold argsOk; kernel_rfl
theorem ba_bind (v : Value) : Builtin.Bytes.bindOptional "bytearray.__init__" "bytearray" ["source", "encoding", "errors"] [v] [] = pure [some v, none, none] := by kernel_rfl
noncomputable abbrev baObj (b : Array UInt8) : Obj := { cls := .type "bytearray", data := .bytearray b }
section
variable {prog : Program} {w : World} {A : Around} {E : Value → Shared → Prop} {s : Shared}
theorem ba_code_new (a : Value) {Q₁ : Value → Shared → Prop}
    (h : Q₁ (.ref s.heap.objs.size) { s with heap := s.heap.push (baObj #[]) }) :
    codeAny (model prog w) A (.call (.builtin "bytearray.__new__") ⟨[.type "bytearray", a], []⟩) (wants Q₁ E) s := by
  refine codeAny_of_tree ?_
  show wpAny _ A.in1 (do checkBuiltinCall "bytearray.__new__" ⟨[.type "bytearray", a], []⟩; again (.builtin "bytearray.__new__" ⟨[.type "bytearray", a], []⟩)) _ _ s
  refine wpAny_bind (wpAny_of_eq (ba_newCall a) (wpAny_pure ⟨plainId_quiet ba_plain_new _, codeAny_builtin_stack ba_entry_new rfl fun p st => ?_⟩))
  rw [Around.under_plainId ba_plain_new _]
  have hsub := ba_sub
  have hown := ba_owner
  obtain ⟨hp, g, d, tk, os⟩ := s
  simp only [hown]
  wp_walk
  exact h
end
end
section
section
variable {prog : Program} {w : World} {A : Around} {E : Value → Shared → Prop} {s : Shared}
theorem callSpecialC {self : Value} {T : String} {name : PySem.Str} {id : String} {args : List Value}
    {Q : Option Value → Shared → Prop} (hT : s.TypeIs self T) (h : Slot T name id)
    (hc : wpC (model prog w) A (call (.builtin id) (self :: args) []) (fun v => Q (some v)) E s) : wpC (model prog w) A (callSpecial? self name args []) Q E s := by
  simp only [callSpecial?]
  refine wpC_then (wpAny_specialOf hT h.lookup ?_)
  simp only [h.bind]
  exact wpC_holding (wpC_bind (wpC_pure (wpC_bind (wpC_idE hc fun v s' h' => wpC_pure h'))))
theorem ba_callC {a : Value} {Q : Value → Shared → Prop}
    (hinit : ∀ D h', h' = s.heap.push (baObj #[]) → D = s.heap.objs.size → wpC (model prog w) A.in1.in1 (Builtin.«bytearray.__init__» ⟨[.ref D, a], []⟩) (fun fin s₂ => fin = .done (.ret .none) ∧ Q (.ref D) s₂) (fun _ _ => False) { s with heap := h' }) :
    wpC (model prog w) A (call (.type "bytearray") [a]) Q E s := by
  have ft := ba_called
  have hmade := ft.made
  have hsub := ft.sub
  have h1 := ft.notType
  have h2 := ft.canCreate
  have hct := ba_typeCall a
  refine wpC_call (codeC_of_tree rfl ?_)
  show wpC _ _ (callAny (.type "bytearray") _) _ _ _
  refine wpC_pure ⟨Code.quiet_builtin _ (by decide +kernel), codeC_builtin (by show (!heldIds.contains "type.__call__") = true; decide +kernel) F.entry_type_call ?_⟩
  rw [Around.under_plain (weight_type_call_type "bytearray" [a] []) rfl]
  unfold Builtin.«type.__call__»
  dsimp only
  simp only [h1, h2, Bool.false_eq_true, if_false, hct]
  refine wpC_bind (wpC_pure ?_)
  refine wpC_then (wpAny_of_eq ba_mro ?_)
  show wpC _ _ (Bind.madeBy (.type "bytearray") >>= _) _ _ _
  refine wpC_then (wpAny_of_eq hmade ?_)
  dsimp only
  refine wpC_bind (wpC_pure ?_)
  refine wpC_then (wpAny_holding (wpAny_call (codeAny_mono (ba_code_new (E := fun _ _ => False) a (Q₁ := fun v s₁ => v = .ref s.heap.objs.size ∧ s₁ = { s with heap := s.heap.push (baObj #[]) }) ⟨rfl, rfl⟩) fun r s₁ hr => ?_)))
  cases r with
  | error e => exact hr.elim
  | ok fl =>
    cases fl with
    | ret obj =>
      obtain ⟨rfl, rfl⟩ := hr
      dsimp only
      have hT : ({ s with heap := s.heap.push (baObj #[]) } : Shared).TypeIs (.ref s.heap.objs.size) "bytearray" := ⟨_, Heap.get?_push_size _ rfl, rfl⟩
      refine wpC_then (wpAny_isInstance hT ba_sub ?_)
      simp only [Bool.not_true, Bool.false_eq_true, if_false]
      refine wpC_bind (wpC_holding (callSpecialC hT ft.init ?_))
      refine wpC_call (codeC_call_builtin_at (by show (!heldIds.contains "bytearray.__init__") = true; decide +kernel) (plainId_quiet ft.init.plain _) ba_entry_init (ft.init.check _ _ _ _ _ _ _ _ hT (ba_args_init _ _) ?_))
      rw [Around.under_plainId ft.init.plain _]
      refine wpC_mono (hinit _ _ rfl rfl) (fun fin s₂ hf => ?_) fun _ _ x => x.elim
      obtain ⟨rfl, hq⟩ := hf
      exact wpC_pure hq
    | _ => exact hr.elim
theorem ba_look_release : typeLookup (.type "bytearray") "__release_buffer__" = pure (some (.builtin "bytearray.__release_buffer__")) := by rw [typeLookup_type, builtinLookup_eq_fast]; kernel_rfl
theorem ba_no_index_bytes : typeLookup (.type "bytes") "__index__" = pure none := by rw [typeLookup_type, builtinLookup_eq_fast]; kernel_rfl
theorem ba_index_int : typeLookup (.type "int") "__index__" = pure (some (.builtin "int.__index__")) := by rw [typeLookup_type, builtinLookup_eq_fast]; kernel_rfl
theorem ba_buffer_bytes {id : String} {b : Array UInt8} {t : Tok} : Builtin.Bytes.buffer? id (.bytes b t) true = pure (some b) := by
  unfold Builtin.Bytes.buffer?
  rw [KBy.special_eq KBy.look_buffer, KBy.own_buffer, KBy.own_release]
  kernel_rfl
theorem ba_endsWith : ("bytearray.__release_buffer__".endsWith ("." ++ "__release_buffer__")) = true := by decide +kernel
theorem ba_dropRight : ("bytearray.__release_buffer__".dropRight ("__release_buffer__".length + 1)) = "bytearray" := by decide +kernel
theorem ba_ownRelease {M : Model} {D : Addr} {Q : Bool → Shared → Prop} (hT : s.TypeIs (.ref D) "bytearray") (h : Q false s) : wpAny M A (Builtin.Bytes.ownRelease (.ref D)) Q E s := by
  unfold Builtin.Bytes.ownRelease Builtin.Bytes.slotIsOwn
  refine wpAny_bind (wpAny_bind (wpAny_specialOf hT ba_look_release ?_))
  dsimp only
  rw [ba_endsWith, ba_dropRight]
  simp only [Bool.not_true, Bool.false_eq_true, if_false]
  exact wpAny_isInstance hT ba_sub (wpAny_pure h)
theorem ba_write {M : Model} {D : Addr} {b : Array UInt8} {f : Array UInt8 → Array UInt8} {Q : Unit → Shared → Prop} (ho : s.heap.get? D = some (baObj b)) (hz : (f b).size ≤ sizeLine)
    (h : ∀ h', Heap.SameBut D s.heap h' → h'.get? D = some (baObj (f b)) → Q () { s with heap := h' }) : wpAny M A (Builtin.Bytes.write (.ref D) f) Q E s := by
  show wpAny M A (updateBytearray D f) Q E s
  unfold updateBytearray
  refine wpAny_bind (wpAny_load ho ?_)
  show wpAny _ _ (update D (Obj.mapBytearray f) >>= fun _ => lookBehind D) _ _ _
  have hg : (s.heap.update D (Obj.mapBytearray f)).get? D = some (baObj (f b)) := Heap.get?_update_self (Obj.mapBytearray f) ho rfl
  refine wpAny_bind (wpAny_update ho (wpAny_lookBehind hg ?_ (h _ (Heap.SameBut.update ..) hg)))
  show (if (f b).size > sizeLine then some "bytearray:memory" else none) = none
  rw [if_neg (by omega)]
theorem ba_clean_not {id : String} {args : Args} (h : cleanCode (.builtin id args) = true) : heldIds.contains id = false := by
  have : (!heldIds.contains id) = true := h
  simpa using this
theorem ba_not_decoder {id : String} {args : Args} (h : cleanCode (.builtin id args) = true) : Builtin.Bytes.decodersThatHold.contains id = false := by
  have h1 := ba_clean_not h
  unfold heldIds at h1
  rw [List.contains_append] at h1
  exact (Bool.or_eq_false_iff.mp h1).1
theorem held_ne {id x : String} {args : Args} (h : cleanCode (.builtin id args) = true) (hx : heldIds.contains x = true) : id ≠ x := fun e => by
  have := ba_clean_not h
  rw [e, hx] at this
  cases this
theorem ba_exported {D : Addr} {Q : Bool → Shared → Prop} {M : Model} (h : Q false s) : wpC M A (Builtin.Bytes.exported (.ref D)) Q E s := by
  unfold Builtin.Bytes.exported
  refine wpC_stackAny_false (fun c p hc => ?_) h
  cases c with
  | builtin id args =>
    delta Builtin.Bytes.exported.match_1
    show dite _ _ _ = false
    rw [dif_neg (held_ne hc (by decide +kernel)), dif_neg (held_ne hc (by decide +kernel)), dif_neg (held_ne hc (by decide +kernel)), dif_neg (held_ne hc (by decide +kernel)), dif_neg (held_ne hc (by decide +kernel))]
    obtain ⟨_ | ⟨v, l⟩, kw⟩ := args
    · rfl
    · show (_ && Builtin.Bytes.decodersThatHold.contains id) = false
      rw [ba_not_decoder hc, Bool.and_false]
  | _ => rfl
theorem wpC_if_false {α : Type} {M : Model} {c : Prop} [Decidable c] {a b : Sem α} {Q : α → Shared → Prop} (hc : ¬ c) (h : wpC M A b Q E s) : wpC M A (if c then a else b) Q E s := by rw [if_neg hc]; exact h
theorem wpC_if_true {α : Type} {M : Model} {c : Prop} [Decidable c] {a b : Sem α} {Q : α → Shared → Prop} (hc : c) (h : wpC M A a Q E s) : wpC M A (if c then a else b) Q E s := by rw [if_pos hc]; exact h
theorem ba_notExported {D : Addr} {b : Array UInt8} {Q : Bool → Shared → Prop} {M : Model} (ho : s.heap.get? D = some (baObj b)) (h : Q false s) :
    wpC M A (Builtin.Bytes.exported (.ref D) <||> do return (← Builtin.Bytes.exportsOf (.ref D)) > 0) Q E s := by
  show wpC M A (Builtin.Bytes.exported (.ref D) >>= _) Q E s
  refine wpC_bind (ba_exported ?_)
  show wpC M A (Builtin.Bytes.exportsOf (.ref D) >>= _) Q E s
  refine wpC_of_any (wpAny_bind ?_)
  unfold Builtin.Bytes.exportsOf
  refine wpAny_bind (wpAny_load ho ?_)
  exact wpAny_pure (wpAny_pure h)
theorem ba_init_bytes {D : Addr} {b : Array UInt8} {t : Tok} {Q : Fin → Shared → Prop} (ho : s.heap.get? D = some (baObj #[])) (hz : b.size ≤ sizeLine)
    (h : ∀ h', Heap.SameBut D s.heap h' → h'.get? D = some (baObj b) → Q (.done (.ret .none)) { s with heap := h' }) :
    wpC (model prog w) A (Builtin.«bytearray.__init__» ⟨[.ref D, .bytes b t], []⟩) Q E s := by
  have hT : s.TypeIs (.ref D) "bytearray" := ⟨_, ho, rfl⟩
  unfold Builtin.«bytearray.__init__»
  refine wpC_then (ba_ownRelease hT ?_)
  refine wpC_if_false Bool.false_ne_true ?_
  refine wpC_then (wpAny_of_eq (ba_bind _) ?_)
  dsimp only
  refine wpC_then (wpAny_of_eq (a := ()) rfl ?_)
  refine wpC_then (wpAny_of_eq (a := ()) rfl ?_)
  refine wpC_bind (ba_notExported ho ?_)
  refine wpC_if_false Bool.false_ne_true ?_
  refine wpC_then (ba_write ho (Nat.zero_le _) fun h₁ hs₁ ho₁ => ?_)
  refine wpC_then (wpAny_of_eq (a := none) rfl ?_)
  refine wpC_if_false Bool.false_ne_true ?_
  refine wpC_then (wpAny_of_eq (a := ()) rfl ?_)
  refine wpC_then (wpAny_of_eq (KBy.special_eq ba_no_index_bytes) ?_)
  refine wpC_if_false Bool.false_ne_true ?_
  refine wpC_then (wpAny_of_eq ba_buffer_bytes ?_)
  refine wpC_then (wpAny_rule ?_)
  refine wpC_then (ba_write ho₁ hz fun h₂ hs₂ ho₂ => ?_)
  refine wpC_pure (h h₂ ⟨hs₂.1.trans hs₁.1, fun a ha => (hs₂.2 a ha).trans (hs₁.2 a ha)⟩ ho₂)
theorem ba_asIndex (n : Int) (t : Tok) : asIndex (.int n t) = pure n := rfl
theorem ba_asStr (n : Int) (t : Tok) : asStr? (.int n t) = pure none := rfl
theorem ba_init_int {D : Addr} {z : Int} {t : Tok} {Q : Fin → Shared → Prop} (ho : s.heap.get? D = some (baObj #[])) (h0 : 0 < z) (hz : z ≤ 1000)
    (h : ∀ h', Heap.SameBut D s.heap h' → h'.get? D = some (baObj (Array.replicate z.toNat 0)) → Q (.done (.ret .none)) { s with heap := h' }) :
    wpC (model prog w) A (Builtin.«bytearray.__init__» ⟨[.ref D, .int z t], []⟩) Q E s := by
  have hT : s.TypeIs (.ref D) "bytearray" := ⟨_, ho, rfl⟩
  unfold Builtin.«bytearray.__init__»
  refine wpC_then (ba_ownRelease hT ?_)
  refine wpC_if_false Bool.false_ne_true ?_
  refine wpC_then (wpAny_of_eq (ba_bind _) ?_)
  dsimp only
  refine wpC_then (wpAny_of_eq (a := ()) rfl ?_)
  refine wpC_then (wpAny_of_eq (a := ()) rfl ?_)
  refine wpC_bind (ba_notExported ho ?_)
  refine wpC_if_false Bool.false_ne_true ?_
  refine wpC_then (ba_write ho (Nat.zero_le _) fun h₁ hs₁ ho₁ => ?_)
  have e1 := ba_asStr z t
  refine wpC_then (wpAny_of_eq e1 ?_)
  refine wpC_if_false Bool.false_ne_true ?_
  refine wpC_then (wpAny_of_eq (a := ()) rfl ?_)
  refine wpC_then (wpAny_specialOf (typeIs_int _ _ _) ba_index_int ?_)
  refine wpC_if_true (rfl : true = true) ?_
  refine wpC_then (wpAny_attempt (wpAny_of_eq (ba_asIndex _ _) ?_))
  dsimp only
  have f1 : Builtin.Bytes.fitsIndex z = true := by unfold Builtin.Bytes.fitsIndex; rw [Bool.and_eq_true, decide_eq_true_eq, decide_eq_true_eq]; omega
  rw [f1]
  refine wpC_if_false Bool.false_ne_true ?_
  refine wpC_if_false (by omega) ?_
  refine wpC_if_false (fun hx => by have hy := beq_iff_eq.mp hx; omega) ?_
  refine wpC_if_false (fun hx => by unfold Builtin.Bytes.tooLong at hx; rw [sizeLine_eq, decide_eq_true_eq] at hx; omega) ?_
  refine wpC_then (wpAny_rule ?_)
  refine wpC_if_true (by omega) ?_
  refine wpC_then (ba_write ho₁ (by rw [sizeLine_eq, Array.size_replicate]; omega) fun h₂ hs₂ ho₂ => ?_)
  refine wpC_pure (h h₂ ⟨hs₂.1.trans hs₁.1, fun a ha => (hs₂.2 a ha).trans (hs₁.2 a ha)⟩ ho₂)
end
end
section
theorem ba_slot_get : Slot "bytearray" "__getitem__" "bytearray.__getitem__" :=
  .of (owner := "bytearray") (n := "__getitem__") (by rw [typeLookup_type, builtinLookup_eq_fast]; kernel_rfl) (by decide +kernel) (by decide +kernel) (by decide +kernel)
    (by first | exact .inl (by decide +kernel) | exact .inr (by decide +kernel)) (by rw [isSubtype_type]; kernel_rfl)
theorem ba_slot_set : Slot "bytearray" "__setitem__" "bytearray.__setitem__" :=
  .of (owner := "bytearray") (n := "__setitem__") (by rw [typeLookup_type, builtinLookup_eq_fast]; kernel_rfl) (by decide +kernel) (by decide +kernel) (by decide +kernel)
    (by first | exact .inl (by decide +kernel) | exact .inr (by decide +kernel)) (by rw [isSubtype_type]; kernel_rfl)
theorem ba_entry_get : entryFor table "bytearray.__getitem__" = some Builtin.«bytearray.__getitem__» := by first | exact entryFor_of_fast (by kernel_rfl) | exact entryFor_of_tree (by kernel_rfl)
theorem ba_entry_set : entryFor table "bytearray.__setitem__" = some Builtin.«bytearray.__setitem__» := by first | exact entryFor_of_fast (by kernel_rfl) | exact entryFor_of_tree (by kernel_rfl)
theorem ba_args_get (a b : Value) : argsOk "bytearray.__getitem__" ⟨[a, b], []⟩ := by unfold argsOk; kernel_rfl
theorem ba_args_set (a b c : Value) : argsOk "bytearray.__setitem__" ⟨[a, b, c], []⟩ := by unfold argsOk; kernel_rfl
section
variable {prog : Program} {w : World} {A : Around} {E : Value → Shared → Prop} {s : Shared}
theorem ba_subscript {M : Model} {k : Int} {t : Tok} {Q : Option Int → Shared → Prop} (h0 : 0 ≤ k) (h1 : k < 2 ^ 63) (h : Q (some k) s) : wpAny M A (Builtin.Bytes.subscript? (.int k t)) Q E s := by
  unfold Builtin.Bytes.subscript?
  refine wpAny_bind (wpAny_specialOf (typeIs_int _ _ _) ba_index_int ?_)
  refine bm_if_false rfl ?_
  refine wpAny_bind (wpAny_of_eq (ba_asIndex k t) ?_)
  have f1 : Builtin.Bytes.fitsIndex k = true := by unfold Builtin.Bytes.fitsIndex; rw [Bool.and_eq_true, decide_eq_true_eq, decide_eq_true_eq]; omega
  rw [f1]
  exact bm_if_false rfl (wpAny_pure h)
theorem ba_payload {M : Model} {D : Addr} {b : Array UInt8} {Q : Array UInt8 → Shared → Prop} (ho : s.heap.get? D = some (baObj b)) (h : Q b s) : wpAny M A (Builtin.Bytes.payload (.ref D)) Q E s := by
  unfold Builtin.Bytes.payload Builtin.Bytes.payload?
  exact wpAny_bind (wpAny_bind (wpAny_load ho (wpAny_pure (wpAny_pure h))))
theorem ba_seqIndex {k : Int} {n : Nat} (h0 : 0 ≤ k) (h1 : k < (n : Int)) : seqIndex? k n = some k.toNat := by
  unfold seqIndex?
  rw [if_neg (show ¬ k < 0 by omega)]
  exact if_pos (by rw [Bool.and_eq_true, decide_eq_true_eq, decide_eq_true_eq]; exact ⟨h0, h1⟩)
theorem ba_getItem {D : Addr} {b : Array UInt8} {k : Int} {t : Tok} {Q : Value → Shared → Prop} (ho : s.heap.get? D = some (baObj b)) (h0 : 0 ≤ k) (hfit : b.size ≤ 1000000) (h1 : k < (b.size : Int))
    (h : Q (.int ((b.getD k.toNat 0).toNat : Nat) s.toks) { s with toks := s.toks + 1 }) : wpAny (model prog w) A (getItem (.ref D) (.int k t)) Q E s := by
  have hT : s.TypeIs (.ref D) "bytearray" := ⟨_, ho, rfl⟩
  unfold getItem
  refine wpAny_holding (wpAny_bind (wpAny_sequenceKey hT (by decide) ?_))
  refine wpAny_bind (wpAny_callSpecial?_slot (name := Str.ofString "__getitem__") hT ba_slot_get (wpAny_call_entry ba_slot_get hT ba_entry_get ?_ (ba_args_get _ _)))
  unfold Builtin.«bytearray.__getitem__»
  refine wpAny_bind (wpAny_of_eq (a := (.ref D, [.int k t])) rfl ?_)
  dsimp only
  refine wpAny_bind (ba_subscript h0 (by omega) ?_)
  dsimp only
  refine wpAny_bind (ba_payload ho ?_)
  have hx : b[k.toNat]? = some (b.getD k.toNat 0) := by
    rw [Array.getD_eq_getD_getElem?, Array.getElem?_eq_getElem (by omega)]; rfl
  rw [ba_seqIndex h0 h1]
  show wpAny _ _ (match b[k.toNat]? with | some x => _ | none => _) _ _ _
  rw [hx]
  dsimp only
  unfold retInt
  exact wpAny_bind (wpAny_mkInt (wpAny_pure ⟨_, rfl, wpAny_pure h⟩))
theorem ba_item {D : Addr} {b : Array UInt8} {k : Int} {t : Tok} {value slice : PySem.Expr} {Q : Value → Shared → Prop} (ho : s.heap.get? D = some (baObj b)) (h0 : 0 ≤ k) (hfit : b.size ≤ 1000000) (h1 : k < (b.size : Int))
    (h : Q (.int ((b.getD k.toNat 0).toNat : Nat) s.toks) { s with toks := s.toks + 1 })
    (hs : subscripted slice false (.ref D) (.int k t) = operate [.ref D, .int k t] (getItem (.ref D) (.int k t)) := by with_unfolding_all rfl) :
    wpAny (model prog w) A (subscriptTail value slice (.ref D) (.int k t)) Q E s :=
  tail_any (T := "bytearray") ⟨_, ho, rfl⟩ ba_slot_get.lookup (ba_getItem ho h0 hfit h1 h) hs
theorem ba_setItem {D : Addr} {b : Array UInt8} {k v : Int} {t u : Tok} {Q : Unit → Shared → Prop} (ho : s.heap.get? D = some (baObj b)) (h0 : 0 ≤ k) (hfit : b.size ≤ 1000000) (h1 : k < (b.size : Int)) (v0 : 0 ≤ v) (v1 : v < 256)
    (h : ∀ h', Heap.SameBut D s.heap h' → h'.get? D = some (baObj (b.setIfInBounds k.toNat v.toNat.toUInt8)) → Q () { s with heap := h' }) : wpAny (model prog w) A (setItem (.ref D) (.int k t) (.int v u)) Q E s := by
  have hT : s.TypeIs (.ref D) "bytearray" := ⟨_, ho, rfl⟩
  unfold setItem
  refine wpAny_holding (wpAny_bind (wpAny_sequenceKey hT (by decide) ?_))
  refine wpAny_bind (wpAny_callSpecial?_slot (name := Str.ofString "__setitem__") hT ba_slot_set (wpAny_call_entry ba_slot_set hT ba_entry_set ?_ (ba_args_set _ _ _)))
  unfold Builtin.«bytearray.__setitem__»
  dsimp only
  refine bm_if_false rfl ?_
  refine wpAny_bind (ba_subscript h0 (by omega) ?_)
  dsimp only
  refine wpAny_bind ?_
  unfold Builtin.Bytes.byteValue
  refine wpAny_bind (wpAny_of_eq (ba_asIndex v u) ?_)
  refine bm_if_false (by rw [Bool.or_eq_false_iff, decide_eq_false_iff_not, decide_eq_false_iff_not]; omega) ?_
  refine wpAny_pure ?_
  refine wpAny_bind (ba_payload ho ?_)
  rw [ba_seqIndex h0 h1]
  dsimp only
  refine wpAny_bind (ba_write ho (by rw [Array.size_setIfInBounds, sizeLine_eq]; omega) fun h' hs' ho' => ?_)
  exact wpAny_pure ⟨_, rfl, wpAny_pure (h h' hs' ho')⟩
end
end
section
theorem bb_no_bytes_ba : typeLookup (.type "bytearray") "__bytes__" = pure none := by rw [typeLookup_type, builtinLookup_eq_fast]; kernel_rfl
theorem bb_no_index_ba : typeLookup (.type "bytearray") "__index__" = pure none := by rw [typeLookup_type, builtinLookup_eq_fast]; kernel_rfl
theorem bb_buffer_ba : typeLookup (.type "bytearray") "__buffer__" = pure (some (.builtin "bytearray.__buffer__")) := by rw [typeLookup_type, builtinLookup_eq_fast]; kernel_rfl
theorem bb_bytes_bytes : typeLookup (.type "bytes") "__bytes__" = pure (some (.builtin "bytes.__bytes__")) := by rw [typeLookup_type, builtinLookup_eq_fast]; kernel_rfl
theorem bb_no_bytes_int : typeLookup (.type "int") "__bytes__" = pure none := by rw [typeLookup_type, builtinLookup_eq_fast]; kernel_rfl
theorem bb_endsWith : ("bytearray.__buffer__".endsWith ("." ++ "__buffer__")) = true := by decide +kernel
theorem bb_dropRight : ("bytearray.__buffer__".dropRight ("__buffer__".length + 1)) = "bytearray" := by decide +kernel
section
variable {prog : Program} {w : World} {A : Around} {E : Value → Shared → Prop} {s : Shared}
theorem bb_slotOwn {M : Model} {D : Addr} {Q : Bool → Shared → Prop} (hT : s.TypeIs (.ref D) "bytearray") (h : Q true s) : wpAny M A (Builtin.Bytes.slotIsOwn (.ref D) "__buffer__") Q E s := by
  unfold Builtin.Bytes.slotIsOwn
  refine wpAny_bind (wpAny_specialOf hT bb_buffer_ba ?_)
  dsimp only
  rw [bb_endsWith, bb_dropRight]
  simp only [Bool.not_true, Bool.false_eq_true, if_false]
  exact wpAny_isInstance hT ba_sub h
theorem bb_new_ba {D : Addr} {b : Array UInt8} {Q : Value → Shared → Prop} (ho : s.heap.get? D = some (baObj b)) (hz : b.size ≤ sizeLine) (hQ : ∀ t k, Q (.bytes b t) { s with toks := k }) :
    codeAny (model prog w) A (.call (.builtin "bytes.__new__") ⟨[.type "bytes", .ref D], []⟩) (wants Q E) s := by
  refine codeAny_of_tree ?_
  show wpAny _ A.in1 (do checkBuiltinCall "bytes.__new__" ⟨[.type "bytes", .ref D], []⟩; again (.builtin "bytes.__new__" ⟨[.type "bytes", .ref D], []⟩)) _ _ s
  refine wpAny_bind (wpAny_of_eq (F.bm_newCall _) (wpAny_pure ⟨plainId_quiet F.bm_plain _, codeAny_builtin F.bm_entry ?_⟩))
  rw [Around.under_plainId F.bm_plain _]
  have hT : s.TypeIs (.ref D) "bytearray" := ⟨_, ho, rfl⟩
  unfold Builtin.«bytes.__new__»
  refine wpAny_bind (wpAny_of_eq (a := true) rfl ?_)
  refine bm_if_false rfl ?_
  refine wpAny_bind (wpAny_of_eq F.bm_sub ?_)
  refine bm_if_false rfl ?_
  refine wpAny_bind (wpAny_of_eq (F.bm_bind _) ?_)
  refine wpAny_bind (wpAny_of_eq (a := ()) rfl ?_)
  refine wpAny_bind (wpAny_of_eq (a := ()) rfl ?_)
  refine bm_if_false rfl ?_
  refine wpAny_bind (wpAny_specialOf hT bb_no_bytes_ba ?_)
  refine wpAny_bind (wpAny_bind ?_)
  show wpAny _ _ (load D >>= _) _ _ _
  refine wpAny_bind (wpAny_load ho ?_)
  refine wpAny_pure (wpAny_pure ?_)
  refine bm_if_false rfl ?_
  refine wpAny_bind (wpAny_specialOf hT bb_no_index_ba ?_)
  refine bm_if_true rfl ?_
  first
    | show wpAny _ _ (Builtin.Bytes.buffer? "bytes.__new__" (.ref D) true >>= _) _ _ _
    | (refine wpAny_bind ?_; show wpAny _ _ (Builtin.Bytes.buffer? "bytes.__new__" (.ref D) true >>= _) _ _ _)
  refine wpAny_bind ?_
  unfold Builtin.Bytes.buffer?
  refine wpAny_bind (wpAny_specialOf hT bb_buffer_ba ?_)
  try dsimp only
  refine wpAny_bind (bb_slotOwn hT ?_)
  refine bm_if_false rfl ?_
  refine wpAny_bind (wpAny_specialOf hT bb_buffer_ba ?_)
  try dsimp only
  refine wpAny_bind (ba_ownRelease hT ?_)
  refine bm_if_false rfl ?_
  refine wpAny_bind (ba_payload ho ?_)
  refine wpAny_pure ?_
  dsimp only
  refine wpAny_bind (wpAny_rule ?_)
  refine wpAny_bind (wpAny_mkBytes ?_ hz)
  show wpAny _ _ (if (Value.type "bytes" == Value.type "bytes") = true then _ else _) _ _ _
  refine bm_if_true (by decide) ?_
  first
    | exact wpAny_pure (hQ _ _)
    | exact wpAny_bind (wpAny_pure (wpAny_pure (hQ _ _)))
theorem bb_new_int {n : Int} {t : Tok} {Q : Value → Shared → Prop} (h0 : 0 ≤ n) (hn : n ≤ 1000) (hQ : ∀ t k, Q (.bytes (Array.replicate n.toNat 0) t) { s with toks := k }) :
    codeAny (model prog w) A (.call (.builtin "bytes.__new__") ⟨[.type "bytes", .int n t], []⟩) (wants Q E) s := by
  refine codeAny_of_tree ?_
  show wpAny _ A.in1 (do checkBuiltinCall "bytes.__new__" ⟨[.type "bytes", .int n t], []⟩; again (.builtin "bytes.__new__" ⟨[.type "bytes", .int n t], []⟩)) _ _ s
  refine wpAny_bind (wpAny_of_eq (F.bm_newCall _) (wpAny_pure ⟨plainId_quiet F.bm_plain _, codeAny_builtin F.bm_entry ?_⟩))
  rw [Around.under_plainId F.bm_plain _]
  unfold Builtin.«bytes.__new__»
  refine wpAny_bind (wpAny_of_eq (a := true) rfl ?_)
  refine bm_if_false rfl ?_
  refine wpAny_bind (wpAny_of_eq F.bm_sub ?_)
  refine bm_if_false rfl ?_
  refine wpAny_bind (wpAny_of_eq (F.bm_bind _) ?_)
  refine wpAny_bind (wpAny_of_eq (a := ()) rfl ?_)
  refine wpAny_bind (wpAny_of_eq (a := ()) rfl ?_)
  refine bm_if_false rfl ?_
  refine wpAny_bind (wpAny_specialOf (typeIs_int _ _ _) bb_no_bytes_int ?_)
  refine wpAny_bind (wpAny_of_eq (a := false) rfl ?_)
  refine bm_if_false rfl ?_
  refine wpAny_bind (wpAny_specialOf (typeIs_int _ _ _) ba_index_int ?_)
  refine bm_if_false rfl ?_
  refine wpAny_bind (wpAny_attempt (wpAny_of_eq (ba_asIndex _ _) ?_))
  dsimp only
  have f1 : Builtin.Bytes.fitsIndex n = true := by unfold Builtin.Bytes.fitsIndex; rw [Bool.and_eq_true, decide_eq_true_eq, decide_eq_true_eq]; omega
  rw [f1]
  refine bm_if_false rfl ?_
  have q1 : ¬ n < 0 := by omega
  have q2 : ¬ n > 2 ^ 63 - 34 := by omega
  rw [if_neg q1, if_neg q2]
  refine bm_if_false (by unfold Builtin.Bytes.tooLong; rw [sizeLine_eq, decide_eq_false_iff_not]; omega) ?_
  refine wpAny_bind (wpAny_rule ?_)
  refine wpAny_bind (wpAny_mkBytes ?_ (by rw [sizeLine_eq, Array.size_replicate]; omega))
  show wpAny _ _ (if (Value.type "bytes" == Value.type "bytes") = true then _ else _) _ _ _
  refine bm_if_true (by decide) ?_
  first
    | exact wpAny_pure (hQ _ _)
    | exact wpAny_bind (wpAny_pure (wpAny_pure (hQ _ _)))
theorem bb_new_bytes {b : Array UInt8} {t : Tok} {Q : Value → Shared → Prop} (hQ : Q (.bytes b t) s) :
    codeAny (model prog w) A (.call (.builtin "bytes.__new__") ⟨[.type "bytes", .bytes b t], []⟩) (wants Q E) s := by
  refine codeAny_of_tree ?_
  show wpAny _ A.in1 (do checkBuiltinCall "bytes.__new__" ⟨[.type "bytes", .bytes b t], []⟩; again (.builtin "bytes.__new__" ⟨[.type "bytes", .bytes b t], []⟩)) _ _ s
  refine wpAny_bind (wpAny_of_eq (F.bm_newCall _) (wpAny_pure ⟨plainId_quiet F.bm_plain _, codeAny_builtin F.bm_entry ?_⟩))
  rw [Around.under_plainId F.bm_plain _]
  unfold Builtin.«bytes.__new__»
  refine wpAny_bind (wpAny_of_eq (a := true) rfl ?_)
  refine bm_if_false rfl ?_
  refine wpAny_bind (wpAny_of_eq F.bm_sub ?_)
  refine bm_if_false rfl ?_
  refine wpAny_bind (wpAny_of_eq (F.bm_bind _) ?_)
  refine wpAny_bind (wpAny_of_eq (a := ()) rfl ?_)
  refine wpAny_bind (wpAny_of_eq (a := ()) rfl ?_)
  refine bm_if_false rfl ?_
  refine wpAny_bind (wpAny_of_eq (KBy.special_eq bb_bytes_bytes) ?_)
  dsimp only
  refine wpAny_bind (wpAny_rule ?_)
  refine wpAny_bind (wpAny_of_eq (a := Value.type "bytes") rfl ?_)
  refine bm_if_true (by decide) ?_
  show wpAny _ _ (if (Value.type "bytes" == Value.type "bytes") = true then _ else _) _ _ _
  refine bm_if_true (by decide) ?_
  first
    | exact wpAny_pure hQ
    | exact wpAny_bind (wpAny_pure (wpAny_pure hQ))

theorem bb_bytes_ba {D : Addr} {b : Array UInt8} {Q : Value → Shared → Prop} (ho : s.heap.get? D = some (baObj b)) (hz : b.size ≤ sizeLine) (hQ : ∀ t k, Q (.bytes b t) { s with toks := k }) : wpAny (model prog w) A (call (.type "bytes") [.ref D]) Q E s := by
  refine callType_codes (Q₁ := fun obj s₁ => s₁.TypeIs obj "bytes" ∧ Q obj s₁) F.bm_called (F.bm_typeCall _) F.entry_object_init
    (bb_new_ba ho hz fun t k => ⟨PySem.W.typeIs_bytes _ _ _, hQ t k⟩) fun obj s₁ h₁ => ?_
  exact ⟨h₁.1, F.args_object_init_2 obj _, object_init_meets F.bm_called.init.lookup F.bm_called.made (by decide) prog w A.in1 _ s₁ ⟨h₁.1, rfl, h₁.2⟩⟩
theorem bb_bytes_int {n : Int} {t : Tok} {Q : Value → Shared → Prop} (h0 : 0 ≤ n) (hn : n ≤ 1000) (hQ : ∀ t k, Q (.bytes (Array.replicate n.toNat 0) t) { s with toks := k }) : wpAny (model prog w) A (call (.type "bytes") [.int n t]) Q E s := by
  refine callType_codes (Q₁ := fun obj s₁ => s₁.TypeIs obj "bytes" ∧ Q obj s₁) F.bm_called (F.bm_typeCall _) F.entry_object_init
    (bb_new_int h0 hn fun t k => ⟨PySem.W.typeIs_bytes _ _ _, hQ t k⟩) fun obj s₁ h₁ => ?_
  exact ⟨h₁.1, F.args_object_init_2 obj _, object_init_meets F.bm_called.init.lookup F.bm_called.made (by decide) prog w A.in1 _ s₁ ⟨h₁.1, rfl, h₁.2⟩⟩
theorem bb_bytes_same {b : Array UInt8} {t : Tok} {Q : Value → Shared → Prop} (hQ : Q (.bytes b t) s) : wpAny (model prog w) A (call (.type "bytes") [.bytes b t]) Q E s := by
  refine callType_codes (Q₁ := fun obj s₁ => s₁.TypeIs obj "bytes" ∧ Q obj s₁) F.bm_called (F.bm_typeCall _) F.entry_object_init
    (bb_new_bytes ⟨PySem.W.typeIs_bytes _ _ _, hQ⟩) fun obj s₁ h₁ => ?_
  exact ⟨h₁.1, F.args_object_init_2 obj _, object_init_meets F.bm_called.init.lookup F.bm_called.made (by decide) prog w A.in1 _ s₁ ⟨h₁.1, rfl, h₁.2⟩⟩
end
theorem bb_slot_join : Slot "bytes" "join" "bytes.join" :=
  .of (owner := "bytes") (n := "join") (by rw [typeLookup_type, builtinLookup_eq_fast]; kernel_rfl) (by decide +kernel) (by decide +kernel) (by decide +kernel)
    (by first | exact .inl (by decide +kernel) | exact .inr (by decide +kernel)) (by rw [isSubtype_type]; kernel_rfl)
theorem bb_type_join : typeOf (.builtin "bytes.join") = pure (.type "method_descriptor") := by show builtinType _ = _; rw [builtinType_eq_fast]; kernel_rfl
theorem bb_entry_join : entryFor table "bytes.join" = some Builtin.«bytes.join» := by first | exact entryFor_of_fast (by kernel_rfl) | exact entryFor_of_tree (by kernel_rfl)
theorem bb_args_join (a b : Value) : argsOk "bytes.join" ⟨[a, b], []⟩ := by unfold argsOk; kernel_rfl
theorem bb_take {id : String} {b : Array UInt8} {t : Tok} : Builtin.Bytes.takeBufferQuiet? id (.bytes b t) 0 = pure (some (b, none)) := by
  unfold Builtin.Bytes.takeBufferQuiet? Builtin.Bytes.takeBuffer?
  rw [KBy.special_eq KBy.look_buffer, KBy.own_buffer]
  have e := @KBy.buffer_eq b t id
  show (Sem.attempt (do let r ← Builtin.Bytes.buffer? id (.bytes b t) (full := (0 : Int) == Builtin.Bytes.fullReadOnly); pure (r.map (·, none))) >>= _) = _
  have e0 : ((0 : Int) == Builtin.Bytes.fullReadOnly) = false := by decide
  rw [e0, e]
  rfl
section
variable {prog : Program} {w : World} {A : Around} {E : Value → Shared → Prop} {s : Shared}

theorem bb_forIn_range {M : Model} {β : Type} {Q : β → Shared → Prop} (f : Nat → β → Sem (ForInStep β)) (st : Nat → β) (n : Nat)
    (step : ∀ i, i < n → ∀ Q' : ForInStep β → Shared → Prop, Q' (.yield (st (i + 1))) s → wpAny M A (f i (st i)) Q' E s) (hQ : Q (st n) s) : wpAny M A (forIn [:n] (st 0) f) Q E s := by
  rw [Std.Legacy.Range.forIn_eq_forIn_range']
  have e : (Std.Legacy.Range.mk 0 n 1 (by decide)).size = n := by simp [Std.Legacy.Range.size]
  have main : ∀ m k, k + m = n → wpAny M A (forIn (List.range' k m) (st k) f) Q E s := by
    intro m
    induction m with
    | zero =>
      intro k hk
      obtain rfl : k = n := by omega
      exact wpAny_pure hQ
    | succ m ih =>
      intro k hk
      rw [List.range'_succ, List.forIn_cons]
      refine wpAny_bind (step k (by omega) _ ?_)
      exact ih (k + 1) (by omega)
  have := main n 0 (by omega)
  rw [← e] at this
  simpa using this
theorem bb_letGo {M : Model} {Q : Unit → Shared → Prop} (keep : List Value) (h : Q () s) : ∀ taken : List (Value × Option Value), (∀ x ∈ taken, x.2 = none) → wpAny M A (Builtin.Bytes.joinLetGo taken keep) Q E s
  | [], _ => wpAny_pure h
  | (x, w) :: r, hw => by
    obtain rfl : w = none := hw (x, w) (.head _)
    unfold Builtin.Bytes.joinLetGo
    dsimp only
    exact wpAny_bind (wpAny_letGo (bb_letGo keep h r fun y hy => hw y (.tail _ hy)))
noncomputable abbrev bvals (ps : List (Array UInt8 × Tok)) : List Value := ps.map fun p => .bytes p.1 p.2
theorem bvals_get {ps : List (Array UInt8 × Tok)} {i : Nat} (h : i < ps.length) : (bvals ps).toArray.getD i .none = .bytes (ps[i]).1 (ps[i]).2 := by
  rw [Array.getD_eq_getD_getElem?]
  simp [h]
theorem joined_nil (ps : List (Array UInt8)) : KBw.bInts (Builtin.Bytes.joined #[] ps) = (ps.map KBw.bInts).flatten := by
  unfold Builtin.Bytes.joined
  have main : ∀ (l : List (Array UInt8)) (k : Nat) (out : Array UInt8), KBw.bInts ((l.zipIdx k).foldl (fun out (p, i) => (if i > 0 then out ++ #[] else out) ++ p) out) = KBw.bInts out ++ (l.map KBw.bInts).flatten := by
    intro l
    induction l with
    | nil => intro k out; simp
    | cons p r ih =>
      intro k out
      rw [List.zipIdx_cons, List.foldl_cons, ih]
      have e : (if k > 0 then out ++ #[] else out) = out := by split <;> simp
      simp only [e]
      rw [KBw.ints_app (ks := KBw.bInts out) (ls := KBw.bInts p) rfl rfl]
      simp
  simpa [KBw.bInts] using main ps 0 #[]
theorem size_fold (l : List (Array UInt8)) : ∀ k : Nat, l.toArray.foldl (fun a x => a + x.size) k = k + ((l.map KBw.bInts).flatten).length := by
  simp only [List.foldl_toArray]
  induction l with
  | nil => intro k; simp
  | cons p r ih => intro k; rw [List.foldl_cons, ih]; simp [KBw.ints_length]; omega
theorem bb_join {t : Tok} {l : Addr} {ps : List (Array UInt8 × Tok)} {Q : Value → Shared → Prop} (hl : s.heap.IsList l (bvals ps).toArray) (hz : ((ps.map fun p => KBw.bInts p.1).flatten).length ≤ 1000000)
    (hQ : ∀ c t k, KBw.bInts c = (ps.map fun p => KBw.bInts p.1).flatten → Q (.bytes c t) { s with toks := k }) : wpAny (model prog w) A (call (.builtin "bytes.join") [.bytes #[] t, .ref l]) Q E s := by
  have hT : s.TypeIs (.ref l) "list" := hl.typeIs
  obtain ⟨ol, hol, hoc, nl, hod⟩ := id hl
  refine wpAny_call_entry bb_slot_join (typeIs_bytes s #[] t) bb_entry_join ?_ (bb_args_join _ _)
  unfold Builtin.«bytes.join» Builtin.Bytes.joinM
  refine wpAny_bind (wpAny_of_eq (a := (.bytes #[] t, .ref l)) rfl ?_)
  dsimp only
  refine wpAny_bind ?_
  unfold Builtin.Bytes.joinItems
  refine wpAny_bind (wpAny_typeOf hT ?_)
  rw [if_pos (by decide)]
  refine wpAny_pure ?_
  refine wpAny_bind (wpAny_seqItems hol hod ?_)
  dsimp only
  rw [if_pos (by decide)]
  have fin : ∀ (sts : Array (Array UInt8) × List (Value × Option Value)), sts.1 = (ps.map (·.1)).toArray → (∀ x ∈ sts.2, x.2 = none) → ∀ a : Value,
      wpAny (model prog w) A.in1 (do
        let sep ← Builtin.Bytes.payload (.bytes #[] t)
        if Builtin.Bytes.tooLong (sts.1.foldl (fun x y => x + y.size) (sep.size * (sts.1.size - 1))) = true then do
          unsupported (α := PUnit) s!"{s!"{Builtin.Bytes.Kind.bytes.name}.join"}:memory"
          let result ← Builtin.Bytes.Kind.bytes.new (Builtin.Bytes.joined sep sts.1.toList)
          holding (result :: sts.2.flatMap fun x => x.1 :: x.2.toList) point
          Builtin.Bytes.joinLetGo sts.2 [result]
          ret result
        else do
          let result ← Builtin.Bytes.Kind.bytes.new (Builtin.Bytes.joined sep sts.1.toList)
          holding (result :: sts.2.flatMap fun x => x.1 :: x.2.toList) point
          Builtin.Bytes.joinLetGo sts.2 [result]
          ret result) (fun fin s₂ => ∃ v, fin = .done (.ret v) ∧ Q v s₂) E s := by
    rintro ⟨parts, taken⟩ h1 h2 a
    dsimp only at h1 h2 ⊢
    subst h1
    refine wpAny_bind (wpAny_of_eq (a := #[]) rfl ?_)
    have hsz : ((ps.map (·.1)).toArray.foldl (fun x y => x + y.size) ((#[] : Array UInt8).size * ((ps.map (·.1)).toArray.size - 1))) ≤ 1000000 := by
      rw [size_fold]
      simp only [List.map_map, List.size_toArray, List.length_nil, Nat.zero_mul, Nat.zero_add]
      exact hz
    refine bm_if_false (by unfold Builtin.Bytes.tooLong; rw [sizeLine_eq, decide_eq_false_iff_not]; omega) ?_
    have hj : KBw.bInts (Builtin.Bytes.joined #[] (ps.map (·.1))) = (ps.map fun p => KBw.bInts p.1).flatten := by rw [joined_nil, List.map_map]; rfl
    refine wpAny_bind ?_
    show wpAny _ _ (mkBytes (Builtin.Bytes.joined #[] (ps.map (·.1)))) _ _ _
    refine wpAny_mkBytes ?_ (by rw [← KBw.ints_length, hj, sizeLine_eq]; omega)
    refine wpAny_bind (wpAny_holding (wpAny_point ?_))
    refine wpAny_bind (bb_letGo _ ?_ _ h2)
    exact wpAny_pure ⟨_, rfl, hQ _ _ _ hj⟩
  have pick : ∀ i, i < ps.length → (bvals ps).toArray.getD i .none = .bytes (ps.getD i (#[], 0)).1 (ps.getD i (#[], 0)).2 := fun i hi => by
    rw [bvals_get hi, List.getD_eq_getElem?_getD, List.getElem?_eq_getElem hi]; rfl
  have grow1 : ∀ i, i < ps.length → (((ps.take i).map (·.1)).toArray.push (ps.getD i (#[], 0)).1) = ((ps.take (i + 1)).map (·.1)).toArray := fun i hi => by
    rw [List.push_toArray, List.take_add_one, List.map_append, List.getD_eq_getElem?_getD, List.getElem?_eq_getElem hi]; rfl
  have grow2 : ∀ i, i < ps.length → ((bvals (ps.take i)).map (fun v => (v, (none : Option Value))) ++ [(Value.bytes (ps.getD i (#[], 0)).1 (ps.getD i (#[], 0)).2, none)]) = (bvals (ps.take (i + 1))).map fun v => (v, none) := fun i hi => by
    rw [List.take_add_one]; unfold bvals; rw [List.map_append, List.map_append, List.getD_eq_getElem?_getD, List.getElem?_eq_getElem hi]; rfl
  have calm : ∀ i, (((bvals (ps.take i)).map (fun v => (v, (none : Option Value)))).any fun x => x.1.onHeap) = false := fun i => by
    rw [List.any_eq_false]
    intro x hx
    obtain ⟨v, hv, rfl⟩ := List.mem_map.mp hx
    obtain ⟨p, hp, rfl⟩ := List.mem_map.mp hv
    exact Bool.false_ne_true
  have kinds : (Builtin.Bytes.Kind.bytes == Builtin.Bytes.Kind.bytearray) = false := by decide
  have none2 : ∀ i, ∀ x ∈ (bvals (ps.take i)).map (fun v => (v, (none : Option Value))), x.2 = none := fun i x hx => by
    obtain ⟨v, hv, rfl⟩ := List.mem_map.mp hx
    rfl
  have hlen : (bvals ps).toArray.size = ps.length := by simp
  rcases ps with _ | ⟨p, _ | ⟨p', r⟩⟩
  case cons.nil =>
    show wpAny _ _ (typeOf (.bytes p.1 p.2) >>= _) _ _ _
    refine wpAny_bind (wpAny_typeOf (typeIs_bytes _ _ _) ?_)
    rw [if_pos (by decide)]
    refine wpAny_bind (wpAny_rule ?_)
    exact wpAny_pure ⟨_, rfl, hQ p.1 p.2 s.toks (List.append_nil _).symm⟩
  case nil =>
    show wpAny _ _ (forIn [:(bvals []).toArray.size] (#[], []) _ >>= _) _ _ _
    refine wpAny_bind (bb_forIn_range _ (fun i => (((([] : List (Array UInt8 × Tok)).take i).map (·.1)).toArray, (bvals (([] : List (Array UInt8 × Tok)).take i)).map fun v => (v, none))) _ (fun i hi => absurd hi (Nat.not_lt_zero _)) ?_)
    exact fin (#[], []) rfl (fun x hx => nomatch hx) .none
  case cons.cons =>
    show wpAny _ _ (forIn [:(bvals (p :: p' :: r)).toArray.size] (#[], []) _ >>= _) _ _ _
    generalize hps : p :: p' :: r = ps at *
    refine wpAny_bind (bb_forIn_range _ (fun i => (((ps.take i).map (·.1)).toArray, (bvals (ps.take i)).map fun v => (v, none))) _ (fun i hi Q' hq => ?_) ?_)
    · have hi' : i < ps.length := by omega
      dsimp only
      refine wpAny_bind (wpAny_seqItems hol hod ?_)
      dsimp only
      rw [if_neg (by rw [kinds, calm]; exact Bool.false_ne_true), pick i hi']
      refine wpAny_bind (wpAny_holding (wpAny_of_eq bb_take ?_))
      dsimp only
      refine wpAny_bind (wpAny_seqItems hol hod ?_)
      dsimp only
      rw [if_neg (by simp)]
      refine wpAny_pure ?_
      try dsimp only at hq
      rw [grow1 i hi', grow2 i hi']
      exact hq
    · refine fin _ ?_ (none2 _) .none
      dsimp only
      rw [hlen, List.take_length]
end
end
section
section
variable {prog : Program} {w : World} {A : Around} {K : Frag} {C : Addr} {R : Result → Shared → Prop} {h : Heap} {g : Array GenState} {d : Drawn} {t : Nat} {os : OsState}
end
theorem under_make {dp un : Nat} {gd : Option (List Code)} {l : List Env} {C : Addr} {vs : List Value} : (AR dp un gd l).under (.builtin "type.__call__" ⟨.ref C :: vs, []⟩) = AR (dp + 1) (un + 1) gd l := by rfl
section
variable {prog : Program} {K : Frag} {pv : Program} {ls : List PySem.Str} {w : World} {mean : ExcName → Option Value} {mg mb : Str → Option Value} {lv : Nat} {f : Addr} {vs : List Value} {mine : Led} {pre : Heap → Prop} {post : Value → Led → Prop}
end
section
variable {M : Model} {A : Around} {E : Value → Shared → Prop} {s : Shared} {K : Frag} {env : Env} {pos : Pos} {f : Value} {first : List Value} {Q : Value → Shared → Prop}
end
section
variable {prog : Program} {w : World} {A : Around} {E : Value → Shared → Prop} {s : Shared} {h₀ : Heap} {L : Addr} {m : PySem.Str → Option Value} {news : Led} {Q : Value → Shared → Prop}
theorem ba_made {h' : Heap} {b : Array UInt8} (F : Fr h₀ L s.heap m) (N : News h₀ L s.heap news) (hs : Heap.SameBut s.heap.objs.size (s.heap.push (baObj #[])) h') (ho : h'.get? s.heap.objs.size = some (baObj b)) :
    Fr h₀ L h' m ∧ News h₀ L h' ((s.heap.objs.size, baObj b) :: news) ∧ ∀ p ∈ news, p.1 < s.heap.objs.size := by
  have hk : ∀ a o, s.heap.get? a = some o → h'.get? a = some o := fun a o e => (hs.2 a (Nat.ne_of_lt (Heap.lt_size e))).trans (Heap.get?_push_of_some _ e)
  exact ⟨F.keeps hk, news_pushed F N hk ho rfl, fun p hp => Heap.lt_size (N p hp).1⟩
theorem ba_new_int {z : Int} {t : Tok} (F : Fr h₀ L s.heap m) (N : News h₀ L s.heap news) (h0 : 0 < z) (hz : z ≤ 1000)
    (h : ∀ D b h', Fr h₀ L h' m → News h₀ L h' ((D, baObj b) :: news) → (∀ p ∈ news, p.1 < D) → KBw.bInts b = List.replicate z.toNat 0 → Q (.ref D) { s with heap := h' }) :
    wpC (model prog w) A (call (.type "bytearray") [.int z t]) Q E s := by
  refine ba_callC fun D h' e1 e2 => ?_
  subst e1 e2
  refine ba_init_int (s := { s with heap := s.heap.push (baObj #[]) }) (Heap.get?_push_size _ rfl) h0 hz fun h' hs ho => ⟨rfl, ?_⟩
  obtain ⟨F', N', l⟩ := ba_made F N hs ho
  refine h _ _ h' F' N' l ?_
  show List.map (fun c : UInt8 => ((c.toNat : Nat) : Int)) (Array.replicate z.toNat 0).toList = _
  rw [Array.toList_replicate, List.map_replicate]
  rfl
theorem ba_new_bytes {b : Array UInt8} {t : Tok} (F : Fr h₀ L s.heap m) (N : News h₀ L s.heap news) (hz : b.size ≤ 1000000)
    (h : ∀ D h', Fr h₀ L h' m → News h₀ L h' ((D, baObj b) :: news) → (∀ p ∈ news, p.1 < D) → Q (.ref D) { s with heap := h' }) :
    wpC (model prog w) A (call (.type "bytearray") [.bytes b t]) Q E s := by
  refine ba_callC fun D h' e1 e2 => ?_
  subst e1 e2
  refine ba_init_bytes (s := { s with heap := s.heap.push (baObj #[]) }) (Heap.get?_push_size _ rfl) (by rw [sizeLine_eq]; omega) fun h' hs ho => ⟨rfl, ?_⟩
  obtain ⟨F', N', l⟩ := ba_made F N hs ho
  exact h _ h' F' N' l
end
end
section
noncomputable abbrev excO (C t : Addr) (dx : Option Addr) : Obj := { cls := .ref C, dict := dx, data := .fields #[.ref t, .none, .none, .none, .bool false, .none] }
section
variable {prog : Program} {w : World} {A : Around} {R : Result → Shared → Prop} {h : Heap} {g : Array GenState} {d : Drawn} {t : Nat} {os : OsState}
variable {nm q : PySem.Str} {C N : Addr} {bs bm bmB : List Value} {hdct : Bool} {sn : List PySem.Str} {sub : List Value} {ab : Bool} {col : Option Bool} {dd : Option Addr} {k0 k1 k2 k3 k5 : Option Value} {B newId initId : String}
theorem exc_check_new {M : Model} {E : Value → Shared → Prop} (F : ExcBaseFacts B newId initId bmB) (hcont : (Value.ref C :: bm).contains (.type B) = true) {rest : List Value} {Q : Unit → Shared → Prop} (hC : h.get? C = some (excClassObj nm q C N bs bm hdct sn sub ab col dd k0 k1 k2 k3 k5 newId))
    (hq : Q () ⟨h, g, d, t, os⟩) : wpAny M A (checkBuiltinCall newId ⟨.ref C :: rest, []⟩) Q E ⟨h, g, d, t, os⟩ := by
  have hstar := F.noStar
  simp only [checkBuiltinCall, F.newKind, F.newSplit, F.newRow]
  repeat (first | refine wpAny_loadPart_at hC ?_ | (refine wpAny_isSubtype_exc hC ?_; rw [hcont]) | refine wpAny_staticBase_exc hC ?_ | refine wpAny_madeBy_exc hC ?_ | simp only [bne_self_eq_false, Bool.false_eq_true, if_false] | wp_step)
  exact hq
theorem exc_new (F : ExcBaseFacts B newId initId bmB) (hcB : (Value.ref C :: bm).contains (.type B) = true) (hcA : (Value.ref C :: bm).contains (.type "AttributeError") = false) (hcN : (Value.ref C :: bm).contains (.type "NameError") = false)
    {rest : List Value} (hC : h.get? C = some (excClassObj nm q C N bs bm hdct sn sub ab col dd k0 k1 k2 k3 k5 newId))
    (hq : R (.ok (.ret (.ref (h.objs.size + 1)))) ⟨(h.push { cls := .type "tuple", data := .seq rest.toArray }).push (excO C h.objs.size none), g, d, t, os⟩) (hrest : rest.length ≤ sizeLine) :
    codeAny (model prog w) A (.builtin newId ⟨.ref C :: rest, []⟩) R ⟨h, g, d, t, os⟩ := by
  have hends := F.ends
  refine codeAny_builtinAt F.entry ?_
  unfold Builtin.«BaseException.__new__»
  refine PySem.wpAt_bind ?_
  show PySem.wpAt _ _ _ (stack >>= _) _ _ _
  refine PySem.wpAt_bind (PySem.wpAt_stack fun p below => PySem.wpAt_of_wpAny ?_)
  wp_walk
  refine PySem.wpAt_of_wpAny ?_
  rw [F.owner]
  repeat (first | with_reducible refine wpAny_madeHere_exc F.canon hC ?_ | with_reducible refine wpAny_loadPart_at hC ?_ | (with_reducible refine wpAny_isSubtype_exc hC ?_; first | rw [hcB] | rw [hcA] | rw [hcN]) | wp_step)
  show R _ _
  rw [Heap.size_push]
  exact hq
theorem exc_make {K : Frag} {fI : Addr} (F : ExcBaseFacts B newId initId bmB) (X : K.In h) (hcB : (Value.ref C :: bm).contains (.type B) = true) (hcA : (Value.ref C :: bm).contains (.type "AttributeError") = false) (hcN : (Value.ref C :: bm).contains (.type "NameError") = false)
    {rest : List Value} (hC : h.get? C = some (excClassObj nm q C N bs bm hdct sn sub ab col dd k0 k1 k2 k3 k5 newId)) (hrest : rest.length ≤ sizeLine)
    (hcall : specialIn K (.ref C) "__call__" = some (some (.builtin "type.__call__"))) (htyp : instIn K (.ref C) (.type "type") = some true) (hi : findIn K (.ref C) "__init__" = some (some (.ref fI))) (hf : typeIn K (.ref fI) = some (.type "function"))
    (hq : codeAny (model prog w) (A.under (.builtin "type.__call__" ⟨.ref C :: rest, []⟩)) (.call (.ref fI) ⟨.ref (h.objs.size + 1) :: rest, []⟩) (InitBack (h.objs.size + 1) R) ⟨(h.push { cls := .type "tuple", data := .seq rest.toArray }).push (excO C h.objs.size none), g, d, t, os⟩) :
    codeAny (model prog w) A (.call (.ref C) ⟨rest, []⟩) R ⟨h, g, d, t, os⟩ := by
  have call : Looks (model prog w) h (specialOf (.ref C) "__call__") (some (.builtin "type.__call__")) := looks_specialIn X hcall
  have typ : Looks (model prog w) h (isInstance (.ref C) (.type "type")) true := looks_instIn X htyp
  refine codeAny_of_tree ?_
  show wpAny _ _ (callAny (.ref C) _) _ _ _
  simp only [callAny]
  refine wpAny_bind (wpAny_load hC ?_)
  show wpAny _ _ (callAny.viaDunder (.ref C) _) _ _ _
  unfold callAny.viaDunder
  refine wpAny_bind (call.here ?_)
  dsimp only
  rw [tc_bind]
  refine wpAny_bind (wpAny_pure (wpAny_bind (wpAny_pure ?_)))
  refine wpAny_pure (a := Fin.again (.call (.builtin "type.__call__") ⟨.ref C :: rest, []⟩)) (And.intro rfl ?_)
  refine codeAny_call_builtin_at (Code.quiet_builtin _ (by decide +kernel)) entry_typeCall (check_slot tc_kind tc_split typ (tc_args _ _ _) ?_)
  unfold Builtin.«type.__call__»
  dsimp only
  refine bm_if_false (by simp) ?_
  refine wpAny_bind (wpAny_mroOf_exc hC ?_)
  refine bm_if_false rfl ?_
  refine wpAny_bind (wpAny_madeBy_exc hC ?_)
  dsimp only
  refine wpAny_bind (wpAny_pure ?_)
  refine wpAny_bind (wpAny_holding (wpAny_call (codeAny_call_builtin_code (Code.quiet_builtin _ F.quiet) (exc_check_new F hcB hC (exc_new F hcB hcA hcN hC ?_ hrest)))))
  dsimp only
  have k : ∀ b o, h.get? b = some o → ((h.push { cls := .type "tuple", data := .seq rest.toArray }).push (excO C h.objs.size none)).get? b = some o := fun b o e => Heap.get?_push_of_some _ (Heap.get?_push_of_some _ e)
  have hx : ((h.push { cls := .type "tuple", data := .seq rest.toArray }).push (excO C h.objs.size none)).get? (h.objs.size + 1) = some (excO C h.objs.size none) := by heap_get
  have X2 := X.keeps k
  have t1 : Looks (model prog w) ((h.push { cls := .type "tuple", data := .seq rest.toArray }).push (excO C h.objs.size none)) (typeOf (.ref (h.objs.size + 1))) (.ref C) := (Looks.ld hx).andThen .now
  have j1 : ∀ {A' : Around} {E' : Value → Shared → Prop} {Q' : Bool → Shared → Prop}, Q' true ⟨(h.push { cls := .type "tuple", data := .seq rest.toArray }).push (excO C h.objs.size none), g, d, t, os⟩ → wpAny (model prog w) A' (isInstance (.ref (h.objs.size + 1)) (.ref C)) Q' E' ⟨(h.push { cls := .type "tuple", data := .seq rest.toArray }).push (excO C h.objs.size none), g, d, t, os⟩ := fun {A' E' Q'} hq' => by
    unfold isInstance
    refine wpAny_bind (t1.here ?_)
    refine wpAny_isSubtype_exc (k _ _ hC) ?_
    have e : (Value.ref C :: bm).contains (.ref C) = true := by simp
    rw [e]; exact hq'
  have j2 : Looks (model prog w) ((h.push { cls := .type "tuple", data := .seq rest.toArray }).push (excO C h.objs.size none)) (specialOf (.ref (h.objs.size + 1)) "__init__") (some (.ref fI)) := by unfold specialOf; exact t1.andThen (looks_findIn X2 hi)
  have b1 : Looks (model prog w) ((h.push { cls := .type "tuple", data := .seq rest.toArray }).push (excO C h.objs.size none)) (bindSpecial (.ref fI) (.ref (h.objs.size + 1))) (.ref fI, [.ref (h.objs.size + 1)]) := bind_fn X2 _ hf
  refine wpAny_bind (j1 ?_)
  simp only [Bool.not_true, Bool.false_eq_true, if_false]
  refine wpAny_bind (wpAny_holding ?_)
  simp only [callSpecial?]
  refine wpAny_bind (j2.here ?_)
  dsimp only
  refine wpAny_holding (wpAny_bind (b1.here ?_))
  dsimp only
  refine wpAny_bind (wpAny_mono (wpAny_call (codeAny_mono hq fun r s' z => ?_)) (fun v s' q => wpAny_pure q) fun _ _ x => x)
  rcases r with e | (v | _ | _ | _) <;> first | exact z | exact z.elim | skip
  obtain ⟨rfl, z⟩ := z
  exact wpAny_pure z
end
open Builtin.ObjectAttr in
theorem exc_passes (self : Value) (C₁ C₂ : Addr) : refuseLoop self "__setattr__" [.ref C₁, .ref C₂, .type "Exception", .type "BaseException", .type "object"] = pure () := by
  rw [refuseLoop_ref, refuseLoop_ref]; kernel_rfl
section
open Builtin.ObjectAttr
variable {prog : Program} {w : World} {A : Around} {E : Value → Shared → Prop} {s : Shared} {K : Frag} {h₀ : Heap} {L e C C₂ t : Addr} {m : PySem.Str → Option Value} {news : Led} {g : Obj → Led} {cd : ClassData} {name : PySem.Str} {v : Value} {Q : Unit → Shared → Prop}
theorem exc_store (F : Fr h₀ L s.heap m) (X₀ : K.In h₀) (N : News h₀ L s.heap news) (U : UpdF e (excO C t none) news g) (hs : findIn K (.ref C) "__setattr__" = some (some (.builtin "object.__setattr__")))
    (hc : clsIn K C = some cd) (hmro : cd.mro = [.ref C, .ref C₂, .type "Exception", .type "BaseException", .type "object"]) (hd : cd.hasDict = true) (ha : findIn K (.ref C) name = some none)
    (h : ∀ dx h' tk, Fr h₀ L h' m → News h₀ L h' (g (excO C t (some dx))) → Q () { s with heap := h', toks := tk }) : wpAny (model prog w) A (setAttr (.ref e) name v) Q E s := by
  obtain ⟨pre, post, rfl, hg, a, b⟩ := U.split
  have z := N (e, excO C t none) (List.mem_append.mpr (.inr (.head _)))
  have X : K.In s.heap := X₀.keeps F.keep
  have I : InstAt s.heap e (excO C t none) C none := ⟨z.1, rfl, rfl, trivial⟩
  have SF := PySem.F.store_object
  refine set_plain X I hs ?_
  have sub : Looks (model prog w) s.heap (isInstance (.ref e) (.type "object")) true := I.type.andThen (looks_mroIn X (by unfold mroIn; rw [hc, Option.bind_some, hmro]; rfl))
  refine codeAny_call_builtin SF.slot.plain SF.entry (@check_slot (model prog w) _ _ { s with toks := s.toks + 1 } "object.__setattr__" "object" "__setattr__" (.ref e) [.str name s.toks, v] [] _ SF.kind SF.split sub (SF.args (.ref e) (.str name s.toks) v) ?_)
  have hm : Looks (model prog w) s.heap (mroOf (.ref C)) cd.mro := (looks_clsIn X hc).andThen .now
  rw [osa_eq, refuse_eq]
  refine wpAny_bind (wpAny_bind (I.type _ _ _ _ (fun _ _ e => e) (wpAny_bind (hm _ _ _ _ (fun _ _ e => e) ?_))))
  rw [hmro, exc_passes]
  refine wpAny_pure (wpAny_bind (I.type _ _ _ _ (fun _ _ e => e) (wpAny_bind (looks_findIn X ha _ _ _ _ (fun _ _ e => e) ?_))))
  refine wpAny_bind (wpAny_pure ?_)
  dsimp only
  unfold storeInOwnDict ownStreamTells
  refine wpAny_bind (wpAny_pure ?_)
  refine bm_if_false (by simp) ?_
  refine wpAny_bind ?_
  show wpAny _ _ (instanceDict e true) _ _ _
  unfold instanceDict
  refine wpAny_bind (wpAny_loadPart (s := { s with toks := s.toks + 1 }) z.1 ?_)
  dsimp only
  refine wpAny_bind (looks_clsIn X hc _ _ _ _ (fun _ _ e => e) ?_)
  rw [hd]
  refine bm_if_false rfl ?_
  refine bm_if_false rfl ?_
  refine wpAny_bind (wpAny_alloc ?_)
  have he : (s.heap.push emptyDict).get? e = some (excO C t none) := Heap.get?_push_of_some _ z.1
  have hlt : e < s.heap.objs.size := Heap.lt_size z.1
  have hne : e ≠ s.heap.objs.size := Nat.ne_of_lt hlt
  refine wpAny_bind (wpAny_update he ?_)
  refine wpAny_of_eq (a := some s.heap.objs.size) rfl ?_
  dsimp only
  have D : ((s.heap.push emptyDict).update e fun o => { o with dict := some s.heap.objs.size }).get? s.heap.objs.size = some emptyDict := by
    rw [Heap.get?_update_other _ _ hne]; exact Heap.get?_push_size _ rfl
  have he' : ((s.heap.push emptyDict).update e fun o => { o with dict := some s.heap.objs.size }).get? e = some (excO C t (some s.heap.objs.size)) := Heap.get?_update_self (fun o : Obj => { o with dict := some s.heap.objs.size }) he rfl
  unfold storeInDict
  refine wpAny_bind (wpAny_pure ?_)
  refine wpAny_bind ?_
  unfold nsSet
  refine wpAny_bind (wpAny_bind (wpAny_askSetting (wpAny_pure (wpAny_bind (wpAny_mkText (wpAny_bind (wpAny_loadPart (s := { s with heap := _, toks := _ }) D ?_)))))))
  dsimp only
  rw [aRefKeyMayBeTheName_at]
  refine bm_if_false (by simp) ?_
  refine wpAny_updatePart (s := { s with heap := _, toks := _ }) D ?_
  generalize (if name.cps.isEmpty = true then 0 else reduceHash ((model prog w).w.params.strHash name.cps)) = hsh
  dsimp only
  have hp : Obj.putName name hsh (Value.str name (s.toks + 1)) v (dictOf [] 0) = dictOf [⟨hsh, .str name (s.toks + 1), v⟩] 1 := by rw [putName_dict]; rfl
  have D' := Heap.get?_update_self (Obj.putName name hsh (Value.str name (s.toks + 1)) v) D (by show Obj.isFreed (Obj.putName name hsh (Value.str name (s.toks + 1)) v (dictOf [] 0)) = false; rw [hp]; rfl)
  have D2 : (((s.heap.push emptyDict).update e fun o => { o with dict := some s.heap.objs.size }).update s.heap.objs.size (Obj.putName name hsh (Value.str name (s.toks + 1)) v)).get? s.heap.objs.size = some (dictOf [⟨hsh, .str name (s.toks + 1), v⟩] 1) := D'.trans (congrArg some hp)
  refine wpAny_bind (wpAny_lookBehind (s := { s with heap := _, toks := _ }) D2 (pastItsLine_dict (by rw [sizeLine_eq]; show 1 ≤ _; omega)) ?_)
  refine wpAny_pure ?_
  have F1 := F.push emptyDict
  have N1 := N.push F emptyDict
  have hs1 : Heap.SameBut e (s.heap.push emptyDict) ((s.heap.push emptyDict).update e fun o => { o with dict := some s.heap.objs.size }) := Heap.SameBut.update ..
  have hs2 : Heap.SameBut s.heap.objs.size ((s.heap.push emptyDict).update e fun o => { o with dict := some s.heap.objs.size }) (((s.heap.push emptyDict).update e fun o => { o with dict := some s.heap.objs.size }).update s.heap.objs.size (Obj.putName name hsh (Value.str name (s.toks + 1)) v)) := Heap.SameBut.update ..
  have F2 := F1.change hs1 z.2.1 z.2.2
  have zD := N1 _ (.head _)
  have F3 := F2.change hs2 zD.2.1 zD.2.2
  have N2 : News h₀ L ((s.heap.push emptyDict).update e fun o => { o with dict := some s.heap.objs.size }) (pre ++ (e, excO C t (some s.heap.objs.size)) :: post) := news_set (fun p hp => N1 p (.tail _ hp)) a b hs1 he'
  have N3 := ksk_news N2 hs2 (fun p hp => by
    rcases List.mem_append.mp hp with hp | hp
    · exact Nat.ne_of_lt (Heap.lt_size (N p (List.mem_append_left _ hp)).1)
    · rcases List.mem_cons.mp hp with rfl | hp
      · exact hne
      · exact Nat.ne_of_lt (Heap.lt_size (N p (List.mem_append_right _ (.tail _ hp))).1))
  exact h _ _ _ F3 (hg _ ▸ N3)
end
end
section
section
variable {M : Model} {A : Around} {E : Value → Shared → Prop} {env : Env} {s : Shared}
variable {nm q : PySem.Str} {C N : Addr} {bs bm : List Value} {hdct : Bool} {sn : List PySem.Str} {sub : List Value} {ab : Bool} {col : Option Bool} {dd : Option Addr} {k0 k1 k2 k3 k5 : Option Value} {newId : String}
theorem exc_raiseStmt {x : Sem Value} {Q : Flow → Shared → Prop} (hcB : (Value.ref C :: bm).contains (.type "BaseException") = true) (hh : A.handled = none)
    (h : wpAny M A x (fun v s₁ => ∃ e t od, v = .ref e ∧ s₁.heap.get? C = some (excClassObj nm q C N bs bm hdct sn sub ab col dd k0 k1 k2 k3 k5 newId) ∧ s₁.heap.get? e = some (excO C t od) ∧ E (.ref e) s₁) E s) :
    wpAny M A (raiseStmt env (some x) none) Q E s := by
  unfold raiseStmt
  refine wpAny_bind (wpAny_mono h (fun v s₁ h₁ => ?_) fun _ _ x => x)
  obtain ⟨e, t, od, rfl, hC, he, hE⟩ := h₁
  obtain ⟨hp, g, d, tk, os⟩ := s₁
  repeat (first | with_reducible refine wpAny_loadPart_at he ?_ | with_reducible refine wpAny_loadPart_at hC ?_ | (with_reducible refine wpAny_isSubtype_exc hC ?_; rw [hcB]) | wp_step)
  exact wpAny_raiseNew_none hh hE
end
section
variable {prog : Program} {w : World} {A : Around} {E : Value → Shared → Prop} {env : Env} {s : Shared}
variable {nm q : PySem.Str} {C N : Addr} {bs bm : List Value} {hdct : Bool} {sn : List PySem.Str} {sub : List Value} {ab : Bool} {col : Option Bool} {dd : Option Addr} {k0 k1 k2 k3 k5 : Option Value} {newId : String}
theorem raise_own {x : PySem.Expr} {pos : Pos} {Q : Flow → Shared → Prop} (hcB : (Value.ref C :: bm).contains (.type "BaseException") = true) (hh : A.handled = none)
    (h : wpAny (model prog w) A (eval x env) (fun v s₁ => ∃ e t od, v = .ref e ∧ s₁.heap.get? C = some (excClassObj nm q C N bs bm hdct sn sub ab col dd k0 k1 k2 k3 k5 newId) ∧ s₁.heap.get? e = some (excO C t od) ∧ E (.ref e) s₁) E s) :
    wpAny (model prog w) A (exec (.Raise (some x) none pos) env) Q E s := by
  rw [arm_exec_Raise]
  exact wpAny_bind (wpAny_standAt (exc_raiseStmt (C := C) (nm := nm) (q := q) (N := N) (bs := bs) (bm := bm) (hdct := hdct) (sn := sn) (sub := sub) (ab := ab) (col := col) (dd := dd) (k0 := k0) (k1 := k1) (k2 := k2) (k3 := k3) (k5 := k5) (newId := newId) hcB hh (wpAny_bind (wpAny_mono h (fun v s₃ h₃ => wpAny_bind (wpAny_standAt (wpAny_pure h₃))) fun _ _ x => x))))
end
noncomputable def framesOf (l : List Env) : List Addr := l.filterMap (·.frame)
/-- an exception of class C under way: all of the ground G but the frames' objects stays -/
noncomputable def RaisedG (base G : Heap) (l : List Env) (e : Addr) (C : Addr) (h : Heap) : Prop :=
  ∃ B a0, base.StaysIn B ∧ (∀ b o, G.get? b = some o → b ∉ framesOf l → B.get? b = some o) ∧ Heap.FlyingW B l e (.ref C) a0 h
section
variable {M : Model} {A : Around} {E : Value → Shared → Prop} {s' : Shared} {base g g₂ h : Heap} {outer : List Env} {L a e t C : Addr} {m : PySem.Str → Option Value} {name : PySem.Str} {scope : Scope} {cd : Value} {Q : Unit → Shared → Prop} {od : Option Addr}
theorem leave_firstG (K : Below A base outer g) (F : Fr g L h m) (hk : ∀ b o, h.get? b = some o → s'.heap.get? b = some o) (hn : h.get? e = none) (he : s'.heap.get? e = some (excO C t od))
    (hQ : ∀ h', RaisedG base g outer e C h' → g.UpToSlots h' → Q () { s' with heap := h' }) (hkd : scope.kind = .function := by rfl) :
    wpAny M (A.deeper (envOf name scope L a cd)) (leaving (envOf name scope L a cd) (.ref e)) Q E s' := by
  have K' := K.push (name := name) (a := a) (cd := cd) F hkd
  have hin : ∀ env ∈ (envOf name scope L a cd :: outer), ∀ b, env.frame = some b → b ∈ (envOf name scope L a cd :: outer).filterMap (·.frame) := fun env he b hb => List.mem_filterMap.mpr ⟨env, he, hb⟩
  have st : base.StaysIn (hideAll h ((envOf name scope L a cd :: outer).filterMap (·.frame))) := fun b o q => hideAll_get _ (K'.stays b o q) fun hm => by
    rw [(K'.frames.mem hm).1] at q; cases q
  have sg : ∀ b o, g.get? b = some o → b ∉ framesOf outer → (hideAll h ((envOf name scope L a cd :: outer).filterMap (·.frame))).get? b = some o := fun b o q nm => hideAll_get _ (F.keep b o q) fun hm => by
    rcases kts_mem hm with z | z
    · rw [z, kts_self F] at q
      cases q
    · exact nm z
  have hen : (hideAll h ((envOf name scope L a cd :: outer).filterMap (·.frame))).get? e = none := by
    cases q : (hideAll h ((envOf name scope L a cd :: outer).filterMap (·.frame))).get? e with
    | none => rfl
    | some o => have := of_hideAll _ q; rw [hn] at this; cases this
  refine wpAny_leaving_firstW (a0 := .ref t) K'.stack ((funFrames_hide K'.frames hin).of_keeps fun b o hb _ => ⟨o, hk b o hb, rfl⟩) rfl he (fun b o hb => hk b o (of_hideAll _ hb)) hen rfl rfl rfl fun h' hL => ?_
  obtain ⟨k1, ⟨_, _, k2⟩, k3, k4⟩ := hL
  exact hQ h' ⟨_, .ref t, st, sg, k1, hen, k2, k3⟩ (((Heap.UpToSlots.of_keeps F.keep).trans (Heap.UpToSlots.of_keeps hk)).trans k4)
theorem leave_onG (K : Below A base outer g) (F : Fr g L g₂ m) (R : RaisedG base g₂ (envOf name scope L a cd :: outer) e C s'.heap) (hsm : g₂.UpToSlots s'.heap)
    (hQ : ∀ h', RaisedG base g outer e C h' → g.UpToSlots h' → Q () { s' with heap := h' }) :
    wpAny M (A.deeper (envOf name scope L a cd)) (leaving (envOf name scope L a cd) (.ref e)) Q E s' := by
  obtain ⟨B, a0, hB, hBG, hfl⟩ := R
  exact wpAny_leaves_onW (Around.frames_deeper K.stack) rfl hfl fun h' x1 x2 =>
    hQ h' ⟨B, a0, hB, fun b o q nm => hBG b o (F.keep b o q) (fun hm => by
      rcases kts_mem hm with z | z
      · rw [z, kts_self F] at q
        cases q
      · exact nm z), x1⟩ ((Heap.UpToSlots.of_keeps F.keep).trans (hsm.trans x2))
end
noncomputable def EOut (M : Model) (A : Around) (env : Env) (base g : Heap) (outer : List Env) (C : Addr) (err : Prop) (s : Shared) (e : Value) (s' : Shared) : Prop :=
  wpAny M A (leaving env e) (fun _ s'' => err ∧ ∃ a h' tk', e = .ref a ∧ s'' = { s with heap := h', toks := tk' } ∧ RaisedG base g outer a C h' ∧ g.UpToSlots h') (fun _ _ => False) s'
section
variable {prog : Program} {K : Frag} {pv : Program} {ls : List PySem.Str} {w : World} {lv : Nat} {f : Addr} {vs : List Value} {mine : Led} {pre : Heap → Prop} {post : Value → Led → Prop} {Cx : Addr} {err : Prop}
    {name qual : PySem.Str} {params : Arguments} {body : List Stmt} {scope : Scope} {dV kV doc pm cdv ct oc : Value} {an od : Option Addr} {osl : Array (Option Value)} {binds : List (PySem.Str × Value)}
end
section
variable {prog : Program} {K : Frag} {pv : Program} {ls : List PySem.Str} {w : World} {mean : ExcName → Option Value} {mg mb : PySem.Str → Option Value} {lv : Nat} {f : Addr} {vs : List Value} {mine : Led} {pre : Heap → Prop} {post : Value → Led → Prop} {Cx : Addr} {err : Prop}
end
section
variable {prog : Program} {w : World} {A : Around} {E : Value → Shared → Prop} {s : Shared} {env : Env}
end
end
section
section
variable {prog : Program} {w : World} {A : Around} {E : Value → Shared → Prop} {s : Shared}
theorem item_at {value slice : PySem.Expr} {l : Addr} {vs : List Value} {k : Int} {u : Tok} {Q : Value → Shared → Prop} (hl : s.heap.IsList l vs.toArray) (h0 : 0 ≤ k) (hz : vs.length < 100000) (h1 : k < (vs.length : Int)) (h : Q (vs.getD k.toNat .none) s)
    (hs : subscripted slice false (.ref l) (.int k u) = operate [.ref l, .int k u] (getItem (.ref l) (.int k u)) := by with_unfolding_all rfl) :
    wpAny (model prog w) A (subscriptTail value slice (.ref l) (.int k u)) Q E s :=
  item_litK hl h0 (by omega) (by rw [List.getD_eq_getElem?_getD, List.getElem?_eq_getElem (by omega)]; rfl) h hs
theorem len_at {l : Addr} {vs : List Value} {Q : Value → Shared → Prop} (hl : s.heap.IsList l vs.toArray) (hz : vs.length < 100000)
    (h : Q (.int vs.length (s.toks + 1)) { s with toks := s.toks + 1 + 1 }) : wpAny (model prog w) A (call (.builtin "len") [.ref l]) Q E s :=
  len_list hl (by simp only [List.size_toArray]; omega) (by simpa using h)
end
section
variable {prog : Program} {w : World} {A : Around} {E : Value → Shared → Prop} {Q : Flow → Shared → Prop} {s : Shared} {env : Env} {h₀ : Heap} {L : Addr}
end
section
variable {prog : Program} {w : World} {A : Around} {E : Value → Shared → Prop} {s : Shared} {h₀ : Heap} {L l : Addr} {m : PySem.Str → Option Value} {news : Led} {value slice : PySem.Expr} {vs : List Value} {ops : List Value} {Q : Value → Shared → Prop} {k : Int} {t : Tok}
theorem cut_upto (F : Fr h₀ L s.heap m) (N : News h₀ L s.heap news) (hl : s.heap.IsList l vs.toArray) (h0 : 0 ≤ k) (hz : vs.length < 100000)
    (h : ∀ D h', Fr h₀ L h' m → News h₀ L h' ((D, listOf (vs.take k.toNat).toArray 0) :: news) → (∀ p ∈ news, p.1 < D) → Q (.ref D) { s with heap := h' })
    (hs : subscripted slice false (.ref l) (.ref s.heap.objs.size) = operate ops (getItem (.ref l) (.ref s.heap.objs.size))) (ht : ∀ r, letTemporaryGo value (.ref l) r = pure ()) :
    wpAny (model prog w) A (subscriptTail value slice (.ref l) (.ref s.heap.objs.size)) Q E { s with heap := s.heap.push { cls := .type "slice", data := .fields #[.none, .int k t, .none] } } := by
  refine slice_list3 F N hl .none (IsPart.int k t) .none (by decide) (fun h' F' N' => h _ h' F' ?_ fun p hp => Nat.lt_succ_of_lt (Heap.lt_size (N p hp).1)) hs ht (by rw [List.size_toArray, sizeLine_eq]; omega)
  have e : k = ((k.toNat : Nat) : Int) := by omega
  rw [e, slicePick_upto'] at N'
  exact N'
theorem cut_from (F : Fr h₀ L s.heap m) (N : News h₀ L s.heap news) (hl : s.heap.IsList l vs.toArray) (h0 : 0 ≤ k) (hz : vs.length < 100000)
    (h : ∀ D h', Fr h₀ L h' m → News h₀ L h' ((D, listOf (vs.drop k.toNat).toArray 0) :: news) → (∀ p ∈ news, p.1 < D) → Q (.ref D) { s with heap := h' })
    (hs : subscripted slice false (.ref l) (.ref s.heap.objs.size) = operate ops (getItem (.ref l) (.ref s.heap.objs.size))) (ht : ∀ r, letTemporaryGo value (.ref l) r = pure ()) :
    wpAny (model prog w) A (subscriptTail value slice (.ref l) (.ref s.heap.objs.size)) Q E { s with heap := s.heap.push { cls := .type "slice", data := .fields #[.int k t, .none, .none] } } := by
  refine slice_list3 F N hl (IsPart.int k t) .none .none (by decide) (fun h' F' N' => h _ h' F' ?_ fun p hp => Nat.lt_succ_of_lt (Heap.lt_size (N p hp).1)) hs ht (by rw [List.size_toArray, sizeLine_eq]; omega)
  have e : k = ((k.toNat : Nat) : Int) := by omega
  rw [e, slicePick_from'] at N'
  exact N'
theorem cat_lists {b : Addr} {ws : List Value} (F : Fr h₀ L s.heap m) (N : News h₀ L s.heap news) (hl : s.heap.IsList l vs.toArray) (hb : s.heap.IsList b ws.toArray) (hz : vs.length < 100000) (hz' : ws.length < 100000)
    (h : ∀ D h', Fr h₀ L h' m → News h₀ L h' ((D, listOf (vs ++ ws).toArray 0) :: news) → (∀ p ∈ news, p.1 < D) → Q (.ref D) { s with heap := h' }) :
    wpAny (model prog w) A (binaryOp .Add (.ref l) (.ref b)) Q E s :=
  add_lists (hsz := by rw [sizeLine_eq]; omega) F N hl hb fun h' F' N' => h _ h' F' N' fun p hp => Heap.lt_size (N p hp).1
end
section
variable {prog : Program} {w : World} {A : Around} {E : Value → Shared → Prop} {s : Shared} {l : Addr} {vs : List Value} {Q : Value → Shared → Prop}
end
theorem perm_pick0 (l : List Int) (i : Nat) (h : i < l.length) : (l.getD i 0 :: (l.take i ++ l.drop (i + 1))).Perm l := by
  have e : l = l.take i ++ l.getD i 0 :: l.drop (i + 1) := by
    rw [List.getD_eq_getElem?_getD, List.getElem?_eq_getElem h]
    exact ((List.getElem_cons_drop h) ▸ (List.take_append_drop i l)).symm
  exact (List.perm_middle.symm).trans (e ▸ .refl _)
theorem perm_pick' (l : List Int) (i j : Nat) (h : i < l.length) (hj : j = i + 1) : (l.getD i 0 :: (l.take i ++ l.drop j)).Perm l := hj ▸ perm_pick0 l i h
theorem isList_of {h : Heap} {a : Addr} {items : Array Value} {n : Nat} (e : h.get? a = some (listOf items n)) : h.IsList a items := ⟨_, e, rfl, _, rfl⟩
end
section
section
variable {prog : Program} {w : World} {A : Around} {E : Value → Shared → Prop} {Q : Flow → Shared → Prop} {s : Shared} {env : Env} {h₀ : Heap} {x : PySem.Str} {px pos : Pos} {body : List Stmt} {I : Addr} {fp : List Addr} {n : Nat} {P : Nat → Value → Prop} {St : Nat → Heap → Prop} {m : PySem.Str → Option Value} {news : Led}
end

section
variable {prog : Program} {w : World} {A : Around} {E : Value → Shared → Prop} {Q : Flow → Shared → Prop} {s : Shared} {env : Env} {h₀ : Heap} {x : PySem.Str} {px pos : Pos} {body : List Stmt} {m : PySem.Str → Option Value} {news : Led} {l r : Addr} {vs : List Value}
theorem isList_some {h : Heap} {l : Addr} {items : Array Value} (hl : h.IsList l items) : ∃ o, h.get? l = some o := let ⟨o, ho, _⟩ := hl; ⟨o, ho⟩
end
end
section
theorem below_up {A : Around} {base g G : Heap} {l : List Env} (B : Below A base l g) (k : ∀ b o, g.get? b = some o → G.get? b = some o) : Below A base l G :=
  ⟨B.stack, fun b o e => k b o (B.stays b o e), B.frames.of_keeps fun b o e _ => ⟨o, k b o e, rfl⟩⟩
inductive CJ (H : Heap) (Lc I D : Addr) (oI oD : Obj) (J : Led → Prop) (s : Shared) (s₃ : Shared) : Prop
  | mk (h' : Heap) (tk : Nat) (mc : PySem.Str → Option Value) (sub all : Led) (e : s₃ = { s with heap := h', toks := tk }) (fr : Fr H Lc h' mc) (nw : News H Lc h' all) (hI : (I, oI) ∈ all) (hD : (D, oD) ∈ all) (hs : ∀ p ∈ sub, p ∈ all ∧ @Ne Nat p.1 I ∧ @Ne Nat p.1 D) (j : J sub) : CJ H Lc I D oI oD J s s₃
noncomputable abbrev compTree (prog : Program) (w : World) (A : Around) (env : Env) (scope : Scope) (cl : List (PySem.Str × Addr)) (elt : PySem.Expr) (ifs : List PySem.Expr) (Lc : Addr) (Qy : Value → Shared → Prop) (Qn : Shared → Prop) (s : Shared) : Prop :=
  wpAny (model prog w) A (forIn ifs true fun c r => if r = true then do let ok ← isTrue c (compEnvC scope cl Lc env) (eval c (compEnvC scope cl Lc env)); pure (ForInStep.yield ok) else pure (ForInStep.yield r)) (fun ok s₃ =>
    if ok = true then wpAny (model prog w) A (eval elt (compEnvC scope cl Lc env)) Qy (fun _ _ => False) s₃ else Qn s₃) (fun _ _ => False) s
section
variable {prog : Program} {w : World} {A : Around} {E : Value → Shared → Prop} {Q : Value → Shared → Prop} {s : Shared} {env : Env} {h₀ : Heap} {L : Addr} {x : PySem.Str} {px pos : Pos} {elt iter : PySem.Expr} {ifs : List PySem.Expr} {scope : Scope} {cl : List (PySem.Str × Addr)}
end
section
variable {prog : Program} {w : World} {A : Around} {E : Value → Shared → Prop} {Q : Value → Shared → Prop} {s : Shared} {env : Env} {h₀ : Heap} {L : Addr} {x : PySem.Str} {px pos : Pos} {elt iter : PySem.Expr} {ifs : List PySem.Expr} {scope : Scope} {cl : List (PySem.Str × Addr)} {m : PySem.Str → Option Value} {news : Led} {l r : Addr} {vs : List Value}
theorem off_of {H : Heap} (F : Fr h₀ L H m) {b : Addr} (hb : H.get? b = none) : b ≠ L ∧ h₀.get? b = none := by
  refine ⟨fun q => ?_, ?_⟩
  · obtain ⟨o, _, _, ho, _⟩ := F.ns
    rw [q, ho] at hb; cases hb
  · cases q : h₀.get? b with
    | none => rfl
    | some o => have := F.keep b o q; rw [hb] at this; cases this
/-- the ground of a comprehension: all but what it may change -/
noncomputable abbrev hid (h : Heap) (mine : Led) : Heap := hideAll h (mine.map (·.1))
theorem hid_of {h : Heap} {mine : Led} {b : Addr} {o : Obj} (e : (hid h mine).get? b = some o) : h.get? b = some o := of_hideAll _ e
theorem hid_get {h : Heap} {mine : Led} {b : Addr} {o : Obj} (e : h.get? b = some o) (hn : ∀ p ∈ mine, p.1 ≠ b) : (hid h mine).get? b = some o := hideAll_get _ e fun hm => by
  obtain ⟨p, hp, q⟩ := List.mem_map.mp hm
  exact hn p hp q
theorem hid_stays {h : Heap} {mine : Led} (F : Fr h₀ L h m) (N : News h₀ L h mine) : ∀ b o, h₀.get? b = some o → (hid h mine).get? b = some o := fun b o e => hid_get (F.keep b o e) fun p hp q => by
  have := (N p hp).2.2
  rw [q, e] at this; cases this
theorem hid_fr {h : Heap} {mine : Led} (F : Fr h₀ L h m) (N : News h₀ L h mine) : Fr h₀ L (hid h mine) m := by
  obtain ⟨o, es, ep, ho, hd, hk, hf⟩ := F.ns
  exact ⟨⟨o, es, ep, hid_get ho fun p hp q => (N p hp).2.1 q, hd, hk, hf⟩, hid_stays F N, F.above⟩
theorem hid_none {h : Heap} {mine : Led} {b : Addr} (e : h.get? b = none) : (hid h mine).get? b = none := by
  cases q : (hid h mine).get? b with
  | none => rfl
  | some o => rw [hid_of q] at e; cases e
noncomputable abbrev compGoal (prog : Program) (w : World) (A : Around) (env : Env) (scope : Scope) (cl : List (PySem.Str × Addr)) (x : PySem.Str) (px pos : Pos) (elt iter : PySem.Expr) (ifs : List PySem.Expr) (RR : Value → Addr → Result → Shared → Prop) (E : Value → Shared → Prop) (v : Value) (s : Shared) : Prop :=
  wpAny (model prog w) A (pyIter v) (fun it s₂ => wpAny (model prog w) A (newList []) (fun acc s₃ => wpAny (model prog w) A (newFunctionEnv scope env.globals cl [] env.qual none .none (some env)) (fun cenv s₄ =>
    codeAny (model prog w) A (.compStart (.ListComp elt [⟨.Name x px, iter, ifs, 0⟩] scope pos) 0 it acc { cenv with scope := relabel scope env }) (RR acc cenv.locals) s₄) E s₃) E s₂) E s
noncomputable abbrev compDone (s : Shared) (H : Heap) (n : Nat) (J : Nat → List Value → Led → Prop) (RR : Value → Addr → Result → Shared → Prop) : Prop :=
  ∀ D C ys c news₁ h tk m', H.get? D = none → H.get? C = none → D ≠ C → h.Ns C m' → (∀ b o, H.get? b = some o → h.get? b = some o) → h.get? D = some (listOf ys.toArray c) → ys.length ≤ n → J n ys news₁ → (∀ p ∈ news₁, h.get? p.1 = some p.2 ∧ H.get? p.1 = none ∧ @Ne Nat p.1 D ∧ @Ne Nat p.1 C) → RR (.ref D) C (.ok .next) { s with heap := h, toks := tk }
theorem mine_new {mine : Led} (Nm : News h₀ L s.heap mine) : ∀ p ∈ mine, s.heap.get? p.1 = some p.2 ∧ (hid s.heap mine).get? p.1 = none := fun p hp => ⟨(Nm p hp).1, hideAll_none _ (List.mem_map_of_mem hp)⟩
theorem compTree_nil {Lc : Addr} {Qy : Value → Shared → Prop} {Qn : Shared → Prop} (h : wpAny (model prog w) A (eval elt (compEnvC scope cl Lc env)) Qy (fun _ _ => False) s) : compTree prog w A env scope cl elt [] Lc Qy Qn s :=
  wpAny_tests_nil (by rw [if_pos rfl]; exact h)
theorem compTree_one {c : PySem.Expr} {Lc : Addr} {Qy : Value → Shared → Prop} {Qn : Shared → Prop} (h : wpAny (model prog w) A (isTrue c (compEnvC scope cl Lc env) (eval c (compEnvC scope cl Lc env))) (fun ok s₃ => if ok = true then wpAny (model prog w) A (eval elt (compEnvC scope cl Lc env)) Qy (fun _ _ => False) s₃ else Qn s₃) (fun _ _ => False) s) : compTree prog w A env scope cl elt [c] Lc Qy Qn s :=
  wpAny_tests_one h
end
section
variable {M : Model} {A : Around} {E : Value → Shared → Prop} {Q : Value → Shared → Prop} {s : Shared} {env : Env} {H : Heap} {Lc c : Addr} {m : PySem.Str → Option Value} {x : PySem.Str} {pos : Pos} {v : Value} {o : Obj}
theorem nameC_local (F : Fr H Lc s.heap m) (hv : m x = some v) (h : Q v s) (hL : env.locals = Lc) (hk : env.scope.kind = .function) (hl : env.kindOf x = some .local) (hd : (x == ("__debug__" : PySem.Str)) = false) : wpAny M A (eval (.Name x pos) env) Q E s := by
  subst hL
  exact wpAny_Name (wpAny_loadName_local hk hl F.ns hv h) hd
end
end
section
noncomputable abbrev PG : Program := PySem.Challenge.rw_xm0765_01.row.toRowW.prog
noncomputable abbrev PV : Program := VW
noncomputable abbrev LS : List PySem.Str := looseW VW [Str.ofString "WORD", Str.ofString "KINDS", Str.ofString "is_leaf_node_view"]

/-- pure data -/
inductive D where
  | none | bool (b : Bool) | int (i : Int) | str (s : PySem.Str) | bytes (l : List Int) | list (l : List D) | tuple (l : List D) | range (a b : Int) | junk
/-- values: pure data, the k-th mutable object, a thing of the top -/
inductive AV where
  | pure (d : D) | ref (k : Nat) | stat (v : Value)
/-- mutable objects -/
inductive AO where
  | list (l : List D) | ba (l : List Int) | set (l : List Int) | inst (C : Addr) (f : List (String × AV)) | exc (C : Addr) (d : Bool)
noncomputable abbrev Loc := List (PySem.Str × AV)
noncomputable abbrev tupO (ws : List Value) (n : Nat) : Obj := { cls := .type "tuple", data := .seq ws.toArray n }
mutual
inductive VR (P : Addr → Obj → Prop) : D → Value → Prop
  | none : VR P .none .none
  | bool {b} : VR P (.bool b) (.bool b)
  | int {i t} : VR P (.int i) (.int i t)
  | str {s t} : VR P (.str s) (.str s t)
  | bytes {b t} : VR P (.bytes (KBw.bInts b)) (.bytes b t)
  | list {l a ws n} : P a (listOf ws.toArray n) → VRs P l ws → VR P (.list l) (.ref a)
  | tuple {l a ws n} : P a (tupO ws n) → VRs P l ws → VR P (.tuple l) (.ref a)
  | range {i j a t u v} : P a { cls := .type "range", dict := .none, data := .fields #[.int i t, .int j u, .int 1 v], slots := #[] } → VR P (.range i j) (.ref a)
  | junk {v} : VR P .junk v
inductive VRs (P : Addr → Obj → Prop) : List D → List Value → Prop
  | nil : VRs P [] []
  | cons {d v ds vs} : VR P d v → VRs P ds vs → VRs P (d :: ds) (v :: vs)
end
/-- what a frozen thing may be -/
noncomputable def seqO (o : Obj) : Prop := (o.cls = .type "list" ∨ o.cls = .type "tuple" ∨ o.cls = .type "range") ∧ ∀ es ep, o.data ≠ .dict es ep
theorem seq_l {ws : List Value} {n : Nat} : seqO (listOf ws.toArray n) := ⟨.inl rfl, fun _ _ e => by cases e⟩
theorem seq_t {ws : List Value} {n : Nat} : seqO (tupO ws n) := ⟨.inr (.inl rfl), fun _ _ e => by cases e⟩
theorem seq_r {a b c : Value} : seqO { cls := .type "range", dict := .none, data := .fields #[a, b, c], slots := #[] } := ⟨.inr (.inr rfl), fun _ _ e => by cases e⟩
mutual
theorem VR.mono' {P Q : Addr → Obj → Prop} (h : ∀ a o, seqO o → P a o → Q a o) : ∀ {d v}, VR P d v → VR Q d v
  | _, _, .none => .none | _, _, .bool => .bool | _, _, .int => .int | _, _, .str => .str | _, _, .bytes => .bytes
  | _, _, .list p r => .list (h _ _ seq_l p) (r.mono' h)
  | _, _, .tuple p r => .tuple (h _ _ seq_t p) (r.mono' h)
  | _, _, .range p => .range (h _ _ seq_r p)
  | _, _, .junk => .junk
theorem VRs.mono' {P Q : Addr → Obj → Prop} (h : ∀ a o, seqO o → P a o → Q a o) : ∀ {d v}, VRs P d v → VRs Q d v
  | _, _, .nil => .nil
  | _, _, .cons a b => .cons (a.mono' h) (b.mono' h)
end
theorem VR.mono {P Q : Addr → Obj → Prop} (h : ∀ a o, P a o → Q a o) {d : D} {v : Value} (x : VR P d v) : VR Q d v := x.mono' fun a o _ p => h a o p
theorem VRs.mono {P Q : Addr → Obj → Prop} (h : ∀ a o, P a o → Q a o) {d : List D} {v : List Value} (x : VRs P d v) : VRs Q d v := x.mono' fun a o _ p => h a o p
theorem VRs.length {P : Addr → Obj → Prop} : ∀ {d v}, VRs P d v → d.length = v.length
  | _, _, .nil => rfl
  | _, _, .cons _ b => congrArg (· + 1) b.length
theorem VRs.get {P : Addr → Obj → Prop} : ∀ {ds vs}, VRs P ds vs → ∀ (i : Nat), i < ds.length → VR P (ds.getD i .none) (vs.getD i .none)
  | _, _, .cons a _, 0, _ => a
  | _, _, .cons _ b, i + 1, h => b.get i (by simpa using h)
theorem VRs.append {P : Addr → Obj → Prop} : ∀ {d v d' v'}, VRs P d v → VRs P d' v' → VRs P (d ++ d') (v ++ v')
  | _, _, _, _, .nil, h => h
  | _, _, _, _, .cons a b, h => .cons a (b.append h)
theorem VRs.take {P : Addr → Obj → Prop} : ∀ {d v}, VRs P d v → ∀ n, VRs P (d.take n) (v.take n)
  | _, _, .nil, n => by rw [List.take_nil, List.take_nil]; exact .nil
  | _, _, .cons _ _, 0 => .nil
  | _, _, .cons a b, n + 1 => .cons a (b.take n)
theorem VRs.drop {P : Addr → Obj → Prop} : ∀ {d v}, VRs P d v → ∀ n, VRs P (d.drop n) (v.drop n)
  | _, _, .nil, n => by rw [List.drop_nil, List.drop_nil]; exact .nil
  | _, _, .cons a b, 0 => .cons a b
  | _, _, .cons _ b, n + 1 => b.drop n
theorem VRs.reverse {P : Addr → Obj → Prop} : ∀ {d v}, VRs P d v → VRs P d.reverse v.reverse
  | _, _, .nil => .nil
  | _, _, .cons a b => by rw [List.reverse_cons, List.reverse_cons]; exact b.reverse.append (.cons a .nil)
theorem VRs.set {P : Addr → Obj → Prop} {d v} (h : VR P d v) : ∀ {ds vs}, VRs P ds vs → ∀ n, VRs P (ds.set n d) (vs.set n v)
  | _, _, .nil, _ => .nil
  | _, _, .cons _ b, 0 => .cons h b
  | _, _, .cons a b, n + 1 => .cons a (b.set h n)
theorem VRs.ints {P : Addr → Obj → Prop} : ∀ {ns : List Int} {vs}, VRs P (ns.map .int) vs → IntsAre vs ns
  | [], _, .nil => .nil
  | _ :: _, _, .cons .int b => .cons _ _ b.ints
theorem VRs.of_ints {P : Addr → Obj → Prop} : ∀ {ns : List Int} {vs}, IntsAre vs ns → VRs P (ns.map .int) vs
  | _, _, .nil => .nil
  | _, _, .cons _ _ b => .cons .int (VRs.of_ints b)
noncomputable def AVR (P : Addr → Obj → Prop) (α : List Addr) : AV → Value → Prop
  | .pure d, v => VR P d v
  | .ref k, v => ∃ a, α[k]? = some a ∧ v = .ref a
  | .stat u, v => v = u
noncomputable def Pre (α β : List Addr) : Prop := ∀ (k : Nat) (a : Addr), α[k]? = some a → β[k]? = some a
theorem Pre.rfl {α : List Addr} : Pre α α := fun _ _ h => h
theorem Pre.trans {α β γ : List Addr} (h : Pre α β) (k : Pre β γ) : Pre α γ := fun i a e => k i a (h i a e)
theorem Pre.snoc {α : List Addr} (a : Addr) : Pre α (α ++ [a]) := fun k b h => by
  rw [List.getElem?_append_left (List.getElem?_eq_some_iff.mp h).1]; exact h
theorem AVR.mono' {P Q : Addr → Obj → Prop} {α β : List Addr} (h : ∀ a o, seqO o → P a o → Q a o) (g : Pre α β) : ∀ {x v}, AVR P α x v → AVR Q β x v
  | .pure _, _, r => VR.mono' h r
  | .ref _, _, ⟨a, e, q⟩ => ⟨a, g _ _ e, q⟩
  | .stat _, _, r => r
theorem AVR.mono {P Q : Addr → Obj → Prop} {α β : List Addr} (h : ∀ a o, P a o → Q a o) (g : Pre α β) : ∀ {x v}, AVR P α x v → AVR Q β x v
  | .pure _, _, r => VR.mono h r
  | .ref _, _, ⟨a, e, q⟩ => ⟨a, g _ _ e, q⟩
  | .stat _, _, r => r
noncomputable def AVRs (P : Addr → Obj → Prop) (α : List Addr) : List AV → List Value → Prop
  | [], [] => True
  | x :: xs, v :: vs => AVR P α x v ∧ AVRs P α xs vs
  | _, _ => False
theorem AVRs.mono {P Q : Addr → Obj → Prop} {α β : List Addr} (h : ∀ a o, P a o → Q a o) (g : Pre α β) : ∀ {x v}, AVRs P α x v → AVRs Q β x v
  | [], [], _ => trivial
  | _ :: _, _ :: _, ⟨a, b⟩ => ⟨a.mono h g, AVRs.mono h g b⟩
inductive FldsR (P : Addr → Obj → Prop) (α : List Addr) : List (String × AV) → List DictEntry → Prop
  | nil : FldsR P α [] []
  | cons {n a r e es t} : DictEntry.key e = .str (Str.ofString n) t → AVR P α a e.val → FldsR P α r es → FldsR P α ((n, a) :: r) (e :: es)
theorem FldsR.mono' {P Q : Addr → Obj → Prop} {α β : List Addr} (h : ∀ a o, seqO o → P a o → Q a o) (g : Pre α β) {x v} (f : FldsR P α x v) : FldsR Q β x v := by
  induction f with
  | nil => exact .nil
  | cons a b _ ih => exact .cons a (b.mono' h g) ih
theorem FldsR.mono {P Q : Addr → Obj → Prop} {α β : List Addr} (h : ∀ a o, P a o → Q a o) (g : Pre α β) {x v} (f : FldsR P α x v) : FldsR Q β x v := f.mono' (fun a o _ => h a o) g
inductive CellR (w : World) (P : Addr → Obj → Prop) (α : List Addr) : AO → Addr → Led → Prop
  | list {ds a ws n} : VRs P ds ws → CellR w P α (.list ds) a [(a, listOf ws.toArray n)]
  | ba {b a} : CellR w P α (.ba (KBw.bInts b)) a [(a, baObj b)]
  | set {l a so} : so.SetObjOf (PySem.intKind PG w) (fun x => decide (x ∈ l)) l.length → CellR w P α (.set l) a [(a, so)]
  | exc0 {C t a} : CellR w P α (.exc C false) a [(a, excO C t none)]
  | exc1 {C t a d} : CellR w P α (.exc C true) a [(a, excO C t (some d))]
  | inst {C f a d es n} : FldsR P α f es → CellR w P α (.inst C f) a [(a, instObj C d), (d, dictOf es n)]
theorem CellR.mono' {w : World} {P Q : Addr → Obj → Prop} {α β : List Addr} (h : ∀ a o, seqO o → P a o → Q a o) (g : Pre α β) : ∀ {o a l}, CellR w P α o a l → CellR w Q β o a l
  | _, _, _, .list r => .list (r.mono' h)
  | _, _, _, .ba => .ba
  | _, _, _, .set s => .set s
  | _, _, _, .exc0 => .exc0
  | _, _, _, .exc1 => .exc1
  | _, _, _, .inst f => .inst (f.mono' h g)
theorem CellR.mono {w : World} {P Q : Addr → Obj → Prop} {α β : List Addr} (h : ∀ a o, P a o → Q a o) (g : Pre α β) : ∀ {o a l}, CellR w P α o a l → CellR w Q β o a l
  | _, _, _, .list r => .list (r.mono h)
  | _, _, _, .ba => .ba
  | _, _, _, .set s => .set s
  | _, _, _, .exc0 => .exc0
  | _, _, _, .exc1 => .exc1
  | _, _, _, .inst f => .inst (f.mono h g)
/-- the mutable objects, the k-th with its own ledger -/
noncomputable def CellsR (w : World) (P : Addr → Obj → Prop) (α : List Addr) (cells : List AO) (leds : Nat → Led) : Prop :=
  α.length = cells.length ∧ ∀ (i : Nat) (o : AO) (a : Addr), cells[i]? = some o → α[i]? = some a → CellR w P α o a (leds i)
noncomputable abbrev allL (n : Nat) (leds : Nat → Led) : Led := (List.range n).flatMap leds
theorem CellsR.mono' {w : World} {P Q : Addr → Obj → Prop} {α : List Addr} {cells : List AO} {leds : Nat → Led} (h : ∀ a o, seqO o → P a o → Q a o) (x : CellsR w P α cells leds) : CellsR w Q α cells leds :=
  ⟨x.1, fun i o a e f => (x.2 i o a e f).mono' h .rfl⟩
theorem CellsR.mono {w : World} {P Q : Addr → Obj → Prop} {α : List Addr} {cells : List AO} {leds : Nat → Led} (h : ∀ a o, P a o → Q a o) (x : CellsR w P α cells leds) : CellsR w Q α cells leds :=
  ⟨x.1, fun i o a e f => (x.2 i o a e f).mono h .rfl⟩
theorem CellsR.at {w : World} {P : Addr → Obj → Prop} {α : List Addr} {cells : List AO} {leds : Nat → Led} (x : CellsR w P α cells leds) {k : Nat} {o : AO} (e : cells[k]? = some o) : ∃ a, α[k]? = some a ∧ CellR w P α o a (leds k) := by
  have hk : k < α.length := by rw [x.1]; exact (List.getElem?_eq_some_iff.mp e).1
  exact ⟨α[k], List.getElem?_eq_getElem hk, x.2 k o _ e (List.getElem?_eq_getElem hk)⟩
/-- the ambient of a frame: all that its walk does not change -/
structure Cx (w : World) (κ : Bool) (sc : Scope) (lv : Nat) where
  mean : ExcName → Option Value
  mg : PySem.Str → Option Value
  mb : PySem.Str → Option Value
  dp : Nat
  un : Nat
  gd : Option (List Code)
  outA : List Env
  base : Heap
  h₀ : Heap
  L : Addr
  qual : PySem.Str
  fa : Option Addr
  cd : Value
  fr : Option Addr
  cl : List (PySem.Str × Addr)
  own : Bool
  α₀ : List Addr
  P : Addr → Obj → Prop
  s₀ : Shared
  fs : List Addr
  fr₀ : List Addr
  hP : ∀ a o, P a o → h₀.get? a = some o ∧ a ∉ fr₀
  Xb : (KF w.params).In base
  Tb : Top PV LS mean mg mb base
  hb : ∀ b o, base.get? b = some o → h₀.get? b = some o
  hfs : ∀ b ∈ fs, b ∈ fr₀
  hfr : ∀ b ∈ fr₀, base.get? b = none ∧ ∃ o, h₀.get? b = some o
  hout : ∀ b ∈ framesOf outA, b = L ∨ b ∈ fr₀
  hown : own = false → fs = []
  hB : ∀ g, KtsTurn fs h₀ g → ∀ h m mine, Fr g L h m → News g L h mine → Below (AR dp un gd outA) base outA (hid h mine)
  hdp : dp + 10 * lv < recursionLimit + 8
  hun : un + 100 * lv < cLine + 80
  hk : sc.kind = .function
  hcl : ∀ x k, sc.names.lookup x = some k → k = .cell ∨ k = .free → ∃ c, cl.lookup x = some c
  hcn : ∀ x c, cl.lookup x = some c → sc.names.lookup x ≠ some .local
  hci : ∀ x y c, cl.lookup x = some c → cl.lookup y = some c → x = y
section
variable {w : World} {κ : Bool} {sc : Scope} {lv : Nat}
theorem Cx.X (Γ : Cx w κ sc lv) : (KF w.params).In Γ.h₀ := Γ.Xb.keeps Γ.hb
theorem Cx.T (Γ : Cx w κ sc lv) : Top PV LS Γ.mean Γ.mg Γ.mb Γ.h₀ := Γ.Tb.keeps Γ.hb
/-- the same frame above a ground whose frames' objects have other slots (an exception went by) -/
@[reducible] noncomputable def Cx.turn (Γ : Cx w κ sc lv) (g : Heap) (t : KtsTurn Γ.fs Γ.h₀ g) : Cx w κ sc lv := { Γ with
  h₀ := g
  hP := fun a o p => ⟨t.other a o (Γ.hP a o p).1 (fun m => (Γ.hP a o p).2 (Γ.hfs a m)), (Γ.hP a o p).2⟩
  hb := fun b o e => t.other b o (Γ.hb b o e) fun m => by rw [(Γ.hfr b (Γ.hfs b m)).1] at e; cases e
  hfr := fun b m => ⟨(Γ.hfr b m).1, by
    obtain ⟨o, e⟩ := (Γ.hfr b m).2
    obtain ⟨sl, e'⟩ := t.up e
    exact ⟨_, e'⟩⟩
  hB := fun g' t' => Γ.hB g' (t.trans t') }
noncomputable abbrev Cx.env (Γ : Cx w κ sc lv) : Env := { scope := sc, locals := Γ.L, globals := mainGlobals, cells := Γ.cl, qual := Γ.qual, func := Γ.fa, code := Γ.cd, frame := Γ.fr, builtins := builtinsNs }
noncomputable abbrev Cx.A (Γ : Cx w κ sc lv) : Around := AR Γ.dp Γ.un Γ.gd Γ.outA
noncomputable abbrev Cx.st (Γ : Cx w κ sc lv) (h : Heap) (tk : Nat) : Shared := { Γ.s₀ with heap := h, toks := tk }
/-- what is frozen: of the ground, or of the frame's own making -/
noncomputable abbrev PF (P : Addr → Obj → Prop) (F : Led) : Addr → Obj → Prop := fun a o => P a o ∨ (a, o) ∈ F
noncomputable def Dist (X : Led) : Prop := X.Pairwise fun p q => p.1 ≠ q.1
/-- the heap, seen through an abstract state -/
structure Rel' (Γ : Cx w κ sc lv) (loc : Loc) (cells : List AO) (α : List Addr) (F : Led) (h : Heap) (m val : PySem.Str → Option Value) (cvl : Led) (leds : Nat → Led) : Prop where
  fr : Fr Γ.h₀ Γ.L h m
  news : News Γ.h₀ Γ.L h ((allL cells.length leds ++ cvl) ++ F)
  nd : Dist (allL cells.length leds ++ cvl)
  ap : Apart (allL cells.length leds ++ cvl) F
  cr : CellsR w (PF Γ.P F) α cells leds
  cv : ∀ x c, Γ.cl.lookup x = some c → ∃ o, o.data = .cell (val x) ∧ if Γ.own = true then (c, o) ∈ cvl else Γ.h₀.get? c = some o
  lo : ∀ x, sc.names.lookup x = some .local → m x = val x
  lr : ∀ x v, loc.lookup x = some v → ∃ u, val x = some u ∧ AVR (PF Γ.P F) α v u
  pre : Pre Γ.α₀ α
inductive Rel (Γ : Cx w κ sc lv) (loc : Loc) (cells : List AO) (α : List Addr) (F : Led) (h : Heap) : Prop
  | mk (g : Heap) (t : KtsTurn Γ.fs Γ.h₀ g) (m val : PySem.Str → Option Value) (cvl : Led) (leds : Nat → Led) (r : Rel' (Γ.turn g t) loc cells α F h m val cvl leds) : Rel Γ loc cells α F h
theorem Rel.of {Γ : Cx w κ sc lv} {loc : Loc} {cells : List AO} {α : List Addr} {F : Led} {h g : Heap} {t : KtsTurn Γ.fs Γ.h₀ g} (x : ∃ m val cvl leds, Rel' (Γ.turn g t) loc cells α F h m val cvl leds) : Rel Γ loc cells α F h :=
  x.elim fun m x => x.elim fun val x => x.elim fun cvl x => x.elim fun leds r => .mk g t m val cvl leds r
/-- what a step hands on: the state has grown, and K holds of it -/
inductive OutG (Γ : Cx w κ sc lv) (loc : Loc) (α : List Addr) (F : Led) (K : List AO → List Addr → Led → Prop) (s' : Shared) : Prop
  | mk (h' : Heap) (tk' : Nat) (α' : List Addr) (F' : Led) (cells' : List AO) (e : s' = Γ.st h' tk') (p : Pre α α') (f : ∀ p ∈ F, p ∈ F') (r : Rel Γ loc cells' α' F' h') (k : K cells' α' F') : OutG Γ loc α F K s'
noncomputable abbrev Out (Γ : Cx w κ sc lv) (loc : Loc) (α : List Addr) (F : Led) (Q : AV → List AO → Prop) (v : Value) (s' : Shared) : Prop := OutG Γ loc α F (fun c α' F' => ∃ r, AVR (PF Γ.P F') α' r v ∧ Q r c) s'
theorem OutG.mono {Γ : Cx w κ sc lv} {loc : Loc} {α α₁ : List Addr} {F F₁ : Led} {K K' : List AO → List Addr → Led → Prop} {s' : Shared} (p : Pre α α₁) (f : ∀ p ∈ F, p ∈ F₁) (h : OutG Γ loc α₁ F₁ K s')
    (k : ∀ c α' F', Pre α₁ α' → (∀ p ∈ F₁, p ∈ F') → K c α' F' → K' c α' F') : OutG Γ loc α F K' s' := by
  obtain ⟨h', tk', α', F', c, e, q, g, r, kk⟩ := h
  exact ⟨h', tk', α', F', c, e, p.trans q, fun x hx => g x (f x hx), r, k _ _ _ q g kk⟩
noncomputable abbrev Ev (Γ : Cx w κ sc lv) (E : Value → Shared → Prop) (t : Sem Value) (loc : Loc) (cells : List AO) (Q : AV → List AO → Prop) : Prop :=
  ∀ h tk α F, Rel Γ loc cells α F h → wpM κ (model PG w) Γ.A t (Out Γ loc α F Q) E (Γ.st h tk)
/-- the wish for an expression -/
noncomputable def TE (Γ : Cx w κ sc lv) (E : Value → Shared → Prop) (e : PySem.Expr) (loc : Loc) (cells : List AO) (Q : AV → List AO → Prop) : Prop := Ev Γ E (eval e Γ.env) loc cells Q
/-- the wish for a test -/
noncomputable def TB (Γ : Cx w κ sc lv) (E : Value → Shared → Prop) (e : PySem.Expr) (whole : Sem Value) (loc : Loc) (cells : List AO) (Q : Bool → List AO → Prop) : Prop :=
  ∀ h tk α F, Rel Γ loc cells α F h → wpM κ (model PG w) Γ.A (isTrue e Γ.env whole) (fun b s' => OutG Γ loc α F (fun c _ _ => Q b c) s') E (Γ.st h tk)
/-- an operation on one, two values -/
noncomputable def O1 (Γ : Cx w κ sc lv) (E : Value → Shared → Prop) (t : Value → Sem Value) (a : AV) (loc : Loc) (cells : List AO) (Q : AV → List AO → Prop) : Prop :=
  ∀ h tk α F u, Rel Γ loc cells α F h → AVR (PF Γ.P F) α a u → wpAny (model PG w) Γ.A (t u) (Out Γ loc α F Q) E (Γ.st h tk)
noncomputable def O2 (Γ : Cx w κ sc lv) (E : Value → Shared → Prop) (t : Value → Value → Sem Value) (a b : AV) (loc : Loc) (cells : List AO) (Q : AV → List AO → Prop) : Prop :=
  ∀ h tk α F u v, Rel Γ loc cells α F h → AVR (PF Γ.P F) α a u → AVR (PF Γ.P F) α b v → wpAny (model PG w) Γ.A (t u v) (Out Γ loc α F Q) E (Γ.st h tk)
/-- the arguments of a call -/
noncomputable def TA (Γ : Cx w κ sc lv) (E : Value → Shared → Prop) (pos : Pos) (es : List PySem.Expr) (loc : Loc) (cells : List AO) (Q : List AV → List AO → Prop) : Prop :=
  ∀ h tk α F, Rel Γ loc cells α F h → wpM κ (model PG w) Γ.A (spliced (backTo pos (starEach es Γ.env))) (fun vs s' => OutG Γ loc α F (fun c α' F' => ∃ rs, AVRs (PF Γ.P F') α' rs vs ∧ Q rs c) s') E (Γ.st h tk)
inductive Fl where
  | next | brk | cont | ret (v : AV)
noncomputable def FlR (P : Addr → Obj → Prop) (α : List Addr) : Fl → Flow → Prop
  | .next, f => f = .next
  | .brk, f => f = .brk
  | .cont, f => f = .cont
  | .ret r, f => ∃ v, f = .ret v ∧ AVR P α r v
/-- what was frozen stays, unless the frame is left -/
noncomputable def Fl.keeps (F F' : Led) : Fl → Prop
  | .ret _ => True
  | _ => ∀ p ∈ F, p ∈ F'
inductive OutS (Γ : Cx w κ sc lv) (F : Led) (Q : Fl → Loc → List AO → Prop) (f : Flow) (s' : Shared) : Prop
  | mk (h' : Heap) (tk' : Nat) (α' : List Addr) (F' : Led) (loc' : Loc) (cells' : List AO) (fl : Fl) (e : s' = Γ.st h' tk') (kp : fl.keeps F F') (r : Rel Γ loc' cells' α' F' h') (x : FlR (PF Γ.P F') α' fl f) (q : Q fl loc' cells') : OutS Γ F Q f s'
noncomputable def TS (Γ : Cx w κ sc lv) (E : Value → Shared → Prop) (st : Stmt) (loc : Loc) (cells : List AO) (Q : Fl → Loc → List AO → Prop) : Prop :=
  ∀ h tk α F, Rel Γ loc cells α F h → wpM κ (model PG w) Γ.A (exec st Γ.env) (OutS Γ F Q) E (Γ.st h tk)
noncomputable def TSs (Γ : Cx w κ sc lv) (E : Value → Shared → Prop) (sts : List Stmt) (loc : Loc) (cells : List AO) (Q : Fl → Loc → List AO → Prop) : Prop :=
  ∀ h tk α F, Rel Γ loc cells α F h → wpM κ (model PG w) Γ.A (execs sts Γ.env) (OutS Γ F Q) E (Γ.st h tk)
/-- how a frame is left by CorruptError: out of a callee, or by its own raise -/
structure Esc (Γ : Cx w κ sc lv) (E : Value → Shared → Prop) (err : Prop) : Prop where
  call : err → ∀ g, KtsTurn Γ.fs Γ.h₀ g → ∀ e h' tk' G m, Fr g Γ.L G m → RaisedG Γ.base G Γ.outA e 51 h' → G.UpToSlots h' → E (.ref e) (Γ.st h' tk')
structure Rse (Γ : Cx w κ sc lv) (E : Value → Shared → Prop) (err : Prop) : Prop where
  raise : err → ∀ g, KtsTurn Γ.fs Γ.h₀ g → ∀ e t od m h h' tk', Fr g Γ.L h m → (∀ b o, h.get? b = some o → h'.get? b = some o) → h.get? e = none → h'.get? e = some (excO 51 t od) → E (.ref e) (Γ.st h' tk')
/-- the frame of a function that may handle an exception -/
structure Own (Γ : Cx w κ sc lv) (outer : List Env) : Prop where
  out : Γ.outA = Γ.env :: outer
  fr : Γ.fr = some Γ.L
  cl : Γ.cl = []
  below : ∀ g, KtsTurn Γ.fs Γ.h₀ g → Below (AR 0 0 Γ.gd outer) Γ.base outer g
  fs : Γ.fs = framesOf outer
  fs₀ : Γ.fs = Γ.fr₀
end
/-- which frames' objects a contract may turn -/
noncomputable abbrev turned (τ : Bool) (l : List Env) : List Addr := if τ = true then framesOf l else []
/-- a contract of a callable thing -/
inductive CanOk (τ : Bool) (w : World) (g : Heap) (outer : List Env) (s : Shared) (α : List Addr) (P : Addr → Obj → Prop) (Q : AV → List AO → Prop) (r : Result) (s' : Shared) : Prop
  | mk (g' : Heap) (v : Value) (x : AV) (L : Addr) (m : PySem.Str → Option Value) (h' : Heap) (tk' : Nat) (F' : Led) (leds' : Nat → Led) (α' : List Addr) (cells' : List AO) (t : KtsTurn (turned τ outer) g g') (er : r = .ok (.ret v)) (es : s' = { s with heap := h', toks := tk' }) (fr : Fr g' L h' m)
    (nw : News g' L h' (allL cells'.length leds' ++ F')) (d : Dist (allL cells'.length leds')) (ap : Apart (allL cells'.length leds') F') (p : Pre α α') (cr : CellsR w (PF P F') α' cells' leds') (ra : AVR (PF P F') α' x v) (q : Q x cells') : CanOk τ w g outer s α P Q r s'
noncomputable def CanOut (τ : Bool) (w : World) (base g : Heap) (outer : List Env) (s : Shared) (α : List Addr) (P : Addr → Obj → Prop) (Q : AV → List AO → Prop) (err : Prop) (r : Result) (s' : Shared) : Prop :=
  CanOk τ w g outer s α P Q r s' ∨ (err ∧ ∃ e h' tk', r = .error (.ref e) ∧ s' = { s with heap := h', toks := tk' } ∧ RaisedG base g outer e 51 h' ∧ g.UpToSlots h')
noncomputable def CanG (τ : Bool) (w : World) (κ : Bool) (lv : Nat) (f : Addr) (args : List AV) (cells : List AO) (Q : AV → List AO → Prop) (err : Prop) : Prop :=
  ∀ (mean : ExcName → Option Value) (mg mb : PySem.Str → Option Value) (dp un : Nat) (gd : Option (List Code)) (outer : List Env) (base g : Heap) (s : Shared) (vs : List Value) (α : List Addr) (leds : Nat → Led) (P : Addr → Obj → Prop),
    Below (AR dp un gd outer) base outer g → (∀ b o, g.get? b = some o → s.heap.get? b = some o) → g.objs.size ≤ s.heap.objs.size → (KF w.params).In base → Top PV LS mean mg mb base → (∀ a o, P a o → g.get? a = some o ∧ a ∉ framesOf outer) →
    (∀ p ∈ allL cells.length leds, s.heap.get? p.1 = some p.2 ∧ g.get? p.1 = none) → Dist (allL cells.length leds) → CellsR w P α cells leds → AVRs P α args vs → dp + 10 * lv < recursionLimit → un + 100 * lv < cLine →
    codeM κ (model PG w) (AR dp un gd outer) (.call (.ref f) ⟨vs, []⟩) (CanOut τ w base g outer s α P Q err) s
noncomputable abbrev Can := CanG false
end
section
theorem upd_of {d : Addr} {o o' : Obj} {post : Led} (h2 : ∀ p ∈ post, p.1 ≠ d) : ∀ {pre : Led}, (∀ p ∈ pre, p.1 ≠ d) → Upd d o o' (pre ++ (d, o) :: post) (pre ++ (d, o') :: post)
  | [], _ => .head h2
  | _ :: _, h => .tail (h _ (.head _)) (upd_of h2 fun p hp => h p (.tail _ hp))
theorem updF_of {d : Addr} {o : Obj} {post : Led} (h2 : ∀ p ∈ post, p.1 ≠ d) : ∀ {pre : Led}, (∀ p ∈ pre, p.1 ≠ d) → UpdF d o (pre ++ (d, o) :: post) (fun o' => pre ++ (d, o') :: post)
  | [], _ => .head h2
  | _ :: _, h => .tail (h _ (.head _)) (updF_of h2 fun p hp => h p (.tail _ hp))
theorem dist_iff {X : Led} : Dist X ↔ (X.map (·.1)).Nodup := by
  unfold Dist List.Nodup
  rw [List.pairwise_map]
theorem Dist.perm {X Y : Led} (h : Dist X) (p : X.Perm Y) : Dist Y := dist_iff.mpr ((p.map _).nodup_iff.mp (dist_iff.mp h))
theorem Dist.same {X Y : Led} (h : Dist X) (e : Y.map (·.1) = X.map (·.1)) : Dist Y := dist_iff.mpr (e ▸ dist_iff.mp h)
theorem Apart.same {X Y F : Led} (h : Apart X F) (e : Y.map (·.1) = X.map (·.1)) : Apart Y F := fun p hp q hq => by
  have : p.1 ∈ X.map (·.1) := e ▸ List.mem_map_of_mem hp
  obtain ⟨p', hp', ep⟩ := List.mem_map.mp this
  exact ep ▸ h p' hp' q hq
theorem Dist.mid {a b : Led} {d : Addr} {o : Obj} (h : Dist (a ++ (d, o) :: b)) : (∀ p ∈ a, p.1 ≠ d) ∧ ∀ p ∈ b, p.1 ≠ d := by
  unfold Dist at h
  rw [List.pairwise_append, List.pairwise_cons] at h
  exact ⟨fun p hp => h.2.2 p hp _ (.head _), fun p hp => Ne.symm (h.2.1.1 p hp)⟩
theorem flatMap_same {A B : Type} {f g : A → List B} : ∀ {l : List A}, (∀ i ∈ l, f i = g i) → l.flatMap f = l.flatMap g
  | [], _ => rfl
  | i :: l, h => by rw [List.flatMap_cons, List.flatMap_cons, h i (.head _), flatMap_same fun j hj => h j (.tail _ hj)]
section
variable {w : World} {κ : Bool} {sc : Scope} {lv : Nat} {Γ : Cx w κ sc lv} {loc : Loc} {cells : List AO} {α : List Addr} {F : Led} {h h' : Heap} {m val : PySem.Str → Option Value} {cvl : Led} {leds : Nat → Led}
theorem pf_tail {P : Addr → Obj → Prop} {F G : Led} (s : ∀ p ∈ F, p ∈ G) : ∀ a o, PF P F a o → PF P G a o := fun _ _ x => x.imp id fun y => s _ y
theorem Rel'.keepP (R : Rel' Γ loc cells α F h m val cvl leds) {a : Addr} {o : Obj} (x : PF Γ.P F a o) : h.get? a = some o :=
  x.elim (fun x => R.fr.keep a o (Γ.hP a o x).1) fun x => (R.news _ (List.mem_append_right _ x)).1
/-- a new object, frozen -/
theorem Rel'.frozenN (R : Rel' Γ loc cells α F h m val cvl leds) {d : Addr} {o : Obj} (F' : Fr Γ.h₀ Γ.L h' m) (N' : News Γ.h₀ Γ.L h' ((d, o) :: ((allL cells.length leds ++ cvl) ++ F))) (l : ∀ p ∈ (allL cells.length leds ++ cvl) ++ F, p.1 ≠ d) :
    Rel' Γ loc cells α ((d, o) :: F) h' m val cvl leds where
  fr := F'
  news := fun p hp => N' p (by
    rcases List.mem_append.mp hp with hp | hp
    · exact .tail _ (List.mem_append_left _ hp)
    · rcases List.mem_cons.mp hp with rfl | hp
      · exact .head _
      · exact .tail _ (List.mem_append_right _ hp))
  nd := R.nd
  ap := fun p hp q hq => by
    rcases List.mem_cons.mp hq with rfl | hq
    · exact l p (List.mem_append_left _ hp)
    · exact R.ap p hp q hq
  cr := R.cr.mono (pf_tail fun _ h => .tail _ h)
  cv := R.cv
  lo := R.lo
  lr := fun x v e => let ⟨u, h1, h2⟩ := R.lr x v e; ⟨u, h1, h2.mono (pf_tail fun _ h => .tail _ h) .rfl⟩
  pre := R.pre
theorem Rel'.frozen (R : Rel' Γ loc cells α F h m val cvl leds) {d : Addr} {o : Obj} (F' : Fr Γ.h₀ Γ.L h' m) (N' : News Γ.h₀ Γ.L h' ((d, o) :: ((allL cells.length leds ++ cvl) ++ F))) (l : ∀ p ∈ (allL cells.length leds ++ cvl) ++ F, p.1 < d) :
    Rel' Γ loc cells α ((d, o) :: F) h' m val cvl leds := R.frozenN F' N' fun p hp => Nat.ne_of_lt (l p hp)
/-- a new object, mutable -/
theorem Rel'.madeN (R : Rel' Γ loc cells α F h m val cvl leds) {d : Addr} {ob : Obj} {o : AO} (F' : Fr Γ.h₀ Γ.L h' m) (N' : News Γ.h₀ Γ.L h' ((d, ob) :: ((allL cells.length leds ++ cvl) ++ F))) (l : ∀ p ∈ (allL cells.length leds ++ cvl) ++ F, p.1 ≠ d)
    (c : CellR w (PF Γ.P F) (α ++ [d]) o d [(d, ob)]) : ∃ m val cvl leds, Rel' Γ loc (cells ++ [o]) (α ++ [d]) F h' m val cvl leds := by
  have e : (allL (cells ++ [o]).length (fun i => if i = cells.length then [(d, ob)] else leds i) ++ cvl).Perm ((d, ob) :: (allL cells.length leds ++ cvl)) := by
    have e1 : allL (cells ++ [o]).length (fun i => if i = cells.length then [(d, ob)] else leds i) = allL cells.length leds ++ [(d, ob)] := by
      unfold allL
      rw [List.length_append, List.length_singleton, List.range_succ, List.flatMap_append]
      congr 1
      · refine flatMap_same fun i hi => if_neg ?_
        exact Nat.ne_of_lt (List.mem_range.mp hi)
      · simp
    rw [e1, List.append_assoc]
    exact List.perm_middle
  have l' : Dist ((d, ob) :: (allL cells.length leds ++ cvl)) := List.pairwise_cons.mpr ⟨fun p hp => Ne.symm (l p (List.mem_append_left _ hp)), R.nd⟩
  refine ⟨m, val, cvl, _, F', fun p hp => N' p ?_, l'.perm e.symm, fun p hp q hq => ?_, ⟨?_, fun i x a hx ha => ?_⟩, R.cv, R.lo, fun x v ex => ?_, R.pre.trans (.snoc d)⟩
  · rcases List.mem_append.mp hp with hp | hp
    · rcases List.mem_cons.mp (e.mem_iff.mp hp) with rfl | hp
      · exact .head _
      · exact .tail _ (List.mem_append_left _ hp)
    · exact .tail _ (List.mem_append_right _ hp)
  · rcases List.mem_cons.mp (e.mem_iff.mp hp) with rfl | hp
    · exact Ne.symm (l q (List.mem_append_right _ hq))
    · exact R.ap p hp q hq
  · simp [R.cr.1]
  · rcases Nat.lt_trichotomy i cells.length with hi | hi | hi
    · rw [List.getElem?_append_left hi] at hx
      rw [List.getElem?_append_left (by rw [R.cr.1]; exact hi)] at ha
      show CellR _ _ _ x a (if i = cells.length then _ else leds i)
      rw [if_neg (Nat.ne_of_lt hi)]
      exact (R.cr.2 i x a hx ha).mono (fun _ _ h => h) (.snoc d)
    · subst hi
      rw [List.getElem?_append_right (Nat.le_refl _), Nat.sub_self] at hx
      rw [← R.cr.1, List.getElem?_append_right (Nat.le_refl _), Nat.sub_self] at ha
      simp only [List.getElem?_cons_zero, Option.some.injEq] at hx ha
      subst hx ha
      show CellR _ _ _ o d (if cells.length = cells.length then _ else _)
      rw [if_pos rfl]
      exact c
    · rw [List.getElem?_eq_none (by simp; omega)] at hx
      cases hx
  · obtain ⟨u, h1, h2⟩ := R.lr x v ex
    exact ⟨u, h1, h2.mono (fun _ _ h => h) (.snoc d)⟩
theorem Rel'.made (R : Rel' Γ loc cells α F h m val cvl leds) {d : Addr} {ob : Obj} {o : AO} (F' : Fr Γ.h₀ Γ.L h' m) (N' : News Γ.h₀ Γ.L h' ((d, ob) :: ((allL cells.length leds ++ cvl) ++ F))) (l : ∀ p ∈ (allL cells.length leds ++ cvl) ++ F, p.1 < d)
    (c : CellR w (PF Γ.P F) (α ++ [d]) o d [(d, ob)]) : ∃ m val cvl leds, Rel' Γ loc (cells ++ [o]) (α ++ [d]) F h' m val cvl leds := R.madeN F' N' (fun p hp => Nat.ne_of_lt (l p hp)) c
/-- the k-th ledger by itself -/
theorem allL_at {leds : Nat → Led} {n k : Nat} (hk : k < n) (l' : Led) : (allL n fun i => if i = k then l' else leds i).Perm (l' ++ ((List.range n).erase k).flatMap leds) := by
  have p := List.perm_cons_erase (List.mem_range.mpr hk)
  refine (p.flatMap_right _).trans ?_
  rw [List.flatMap_cons, if_pos rfl]
  refine List.Perm.append_left _ ?_
  rw [flatMap_same fun i hi => if_neg ?_]
  exact (List.nodup_range.mem_erase_iff.mp hi).1
theorem upd_self {leds : Nat → Led} {k : Nat} : (fun i => if i = k then leds k else leds i) = leds := funext fun i => by
  by_cases e : i = k
  · rw [if_pos e, e]
  · rw [if_neg e]
/-- the k-th mutable object: what the heap holds of it, and how it is changed -/
theorem Rel'.at (R : Rel' Γ loc cells α F h m val cvl leds) {k : Nat} {o : AO} (hk : cells[k]? = some o) : ∃ a, α[k]? = some a ∧ CellR w (PF Γ.P F) α o a (leds k) ∧ (∀ p ∈ leds k, h.get? p.1 = some p.2) ∧
    ∀ la d ob lb, leds k = la ++ (d, ob) :: lb → ∃ pre post, News Γ.h₀ Γ.L h (pre ++ (d, ob) :: post) ∧ (∀ p ∈ leds k, p ∈ pre ++ (d, ob) :: post) ∧ (∀ p ∈ pre, p.1 ≠ d) ∧ (∀ p ∈ post, p.1 ≠ d) ∧
      ∀ ob' o' h', CellR w (PF Γ.P F) α o' a (la ++ (d, ob') :: lb) → Fr Γ.h₀ Γ.L h' m → News Γ.h₀ Γ.L h' (pre ++ (d, ob') :: post) → ∃ m val cvl leds, Rel' Γ loc (cells.set k o') α F h' m val cvl leds := by
  obtain ⟨a, h1, h2⟩ := R.cr.at hk
  have hkn : k < cells.length := (List.getElem?_eq_some_iff.mp hk).1
  have p0 := allL_at (leds := leds) hkn (leds k)
  rw [upd_self] at p0
  refine ⟨a, h1, h2, fun p hp => (R.news p (List.mem_append_left _ (List.mem_append_left _ (p0.mem_iff.mpr (List.mem_append_left _ hp))))).1, ?_⟩
  intro la d ob lb el
  have pX : ((allL cells.length leds ++ cvl)).Perm (la ++ (d, ob) :: (lb ++ (((List.range cells.length).erase k).flatMap leds ++ cvl))) := by
    have := p0.append_right cvl
    rw [el] at this
    simpa only [List.append_assoc, List.cons_append] using this
  have nd := R.nd.perm pX
  have ap : Apart (la ++ (d, ob) :: (lb ++ (((List.range cells.length).erase k).flatMap leds ++ cvl))) F := fun p hp q hq => R.ap p (pX.mem_iff.mpr hp) q hq
  have es : ∀ x : Obj, (la ++ (d, x) :: (lb ++ (((List.range cells.length).erase k).flatMap leds ++ cvl))) ++ F = la ++ (d, x) :: ((lb ++ (((List.range cells.length).erase k).flatMap leds ++ cvl)) ++ F) := fun x => by simp only [List.append_assoc, List.cons_append]
  refine ⟨la, (lb ++ (((List.range cells.length).erase k).flatMap leds ++ cvl)) ++ F, fun p hp => R.news p ?_, fun p hp => ?_, nd.mid.1, fun p hp => ?_, fun ob' o' h' c F' N' => ?_⟩
  · rw [← es] at hp
    rcases List.mem_append.mp hp with hp | hp
    · exact List.mem_append_left _ (pX.mem_iff.mpr hp)
    · exact List.mem_append_right _ hp
  · rw [el] at hp
    rcases List.mem_append.mp hp with hp | hp
    · exact List.mem_append_left _ hp
    · rcases List.mem_cons.mp hp with rfl | hp
      · exact List.mem_append_right _ (.head _)
      · exact List.mem_append_right _ (.tail _ (List.mem_append_left _ (List.mem_append_left _ hp)))
  · rcases List.mem_append.mp hp with hp | hp
    · exact nd.mid.2 p hp
    · exact Ne.symm (ap (d, ob) (List.mem_append_right _ (.head _)) p hp)
  · have p1 := allL_at (leds := leds) hkn (la ++ (d, ob') :: lb)
    have pX' : ((allL cells.length (fun i => if i = k then la ++ (d, ob') :: lb else leds i) ++ cvl)).Perm (la ++ (d, ob') :: (lb ++ (((List.range cells.length).erase k).flatMap leds ++ cvl))) := by
      have := p1.append_right cvl
      simpa only [List.append_assoc, List.cons_append] using this
    have em : (la ++ (d, ob') :: (lb ++ (((List.range cells.length).erase k).flatMap leds ++ cvl))).map (·.1) = (la ++ (d, ob) :: (lb ++ (((List.range cells.length).erase k).flatMap leds ++ cvl))).map (·.1) := by simp
    have el' : (cells.set k o').length = cells.length := List.length_set
    refine ⟨m, val, cvl, fun i => if i = k then la ++ (d, ob') :: lb else leds i, F', fun p hp => N' p ?_, ?_, ?_, ⟨by rw [el']; exact R.cr.1, fun i x b hx hb => ?_⟩, R.cv, R.lo, R.lr, R.pre⟩
    · rw [← es]
      rw [el'] at hp
      rcases List.mem_append.mp hp with hp | hp
      · exact List.mem_append_left _ (pX'.mem_iff.mp hp)
      · exact List.mem_append_right _ hp
    · rw [el']
      exact (nd.same em).perm pX'.symm
    · rw [el']
      exact fun p hp q hq => ap.same em p (pX'.mem_iff.mp hp) q hq
    · by_cases e : i = k
      · subst e
        rw [List.getElem?_set_self hkn] at hx
        cases hx
        rw [h1] at hb
        cases hb
        show CellR _ _ _ _ _ (if i = i then _ else _)
        rw [if_pos rfl]
        exact c
      · rw [List.getElem?_set_ne (Ne.symm e)] at hx
        show CellR _ _ _ _ _ (if i = k then _ else _)
        rw [if_neg e]
        exact R.cr.2 i x b hx hb
theorem out_same {K : List AO → List Addr → Led → Prop} {tk : Nat} (R : Rel Γ loc cells α F h) (k : K cells α F) : OutG Γ loc α F K (Γ.st h tk) := ⟨h, tk, α, F, cells, rfl, .rfl, fun _ x => x, R, k⟩
theorem out_new {K : List AO → List Addr → Led → Prop} {tk : Nat} {p : Addr × Obj} (R : Rel Γ loc cells α (p :: F) h) (k : K cells α (p :: F)) : OutG Γ loc α F K (Γ.st h tk) := ⟨h, tk, α, _, cells, rfl, .rfl, fun _ x => .tail _ x, R, k⟩
theorem out_cell {K : List AO → List Addr → Led → Prop} {tk : Nat} {d : Addr} {c : List AO} (R : Rel Γ loc c (α ++ [d]) F h) (k : K c (α ++ [d]) F) : OutG Γ loc α F K (Γ.st h tk) := ⟨h, tk, _, F, c, rfl, .snoc d, fun _ x => x, R, k⟩
theorem ref_snoc {P : Addr → Obj → Prop} {d : Addr} (R : Rel' Γ loc cells α F h m val cvl leds) : AVR P (α ++ [d]) (.ref cells.length) (.ref d) := ⟨d, by rw [← R.cr.1, List.getElem?_append_right (Nat.le_refl _)]; simp, rfl⟩
end
/-- local names -/
noncomputable def Loc.put (x : PySem.Str) (v : AV) : Loc → Loc
  | [] => [(x, v)]
  | (y, u) :: r => match y == x with
    | true => (x, v) :: r
    | false => (y, u) :: Loc.put x v r
theorem Loc.put_at {x : PySem.Str} {v : AV} : ∀ l : Loc, List.lookup x (l.put x v) = some v
  | [] => by simp [Loc.put, List.lookup]
  | (y, u) :: r => by
    unfold Loc.put
    cases e : y == x with
    | true => simp [List.lookup]
    | false =>
      have e' : (x == y) = false := by rw [BEq.comm]; exact e
      simp only [List.lookup, e']
      exact Loc.put_at r
theorem Loc.put_ne {x z : PySem.Str} {v : AV} (hz : z ≠ x) : ∀ l : Loc, List.lookup z (l.put x v) = List.lookup z l
  | [] => by simp [Loc.put, List.lookup, beq_false_of_ne hz]
  | (y, u) :: r => by
    unfold Loc.put
    cases e : y == x with
    | true =>
      have e' := eq_of_beq e
      subst e'
      simp [List.lookup, beq_false_of_ne hz]
    | false =>
      simp only [List.lookup]
      cases z == y with
      | true => rfl
      | false => exact Loc.put_ne hz r
section
variable {w : World} {κ : Bool} {sc : Scope} {lv : Nat} {Γ : Cx w κ sc lv} {E : Value → Shared → Prop} {loc : Loc} {cells : List AO}
end
end
section
section
variable {w : World} {κ : Bool} {sc : Scope} {lv : Nat} {Γ : Cx w κ sc lv} {E : Value → Shared → Prop} {loc : Loc} {cells : List AO} {Q : AV → List AO → Prop}
theorem Ev.bind {t : Sem Value} {f : Value → Sem Value} {Q₁ : AV → List AO → Prop} (ht : Ev Γ E t loc cells Q₁)
    (hf : ∀ r c, Q₁ r c → ∀ h tk α F u, Rel Γ loc c α F h → AVR (PF Γ.P F) α r u → wpM κ (model PG w) Γ.A (f u) (Out Γ loc α F Q) E (Γ.st h tk)) : Ev Γ E (t >>= f) loc cells Q := by
  intro h tk α F R
  refine wpM_bind (wpM_idE (ht h tk α F R) ?_)
  rintro v s' ⟨h1, tk1, α1, F1, c1, rfl, p1, f1, R1, r, ra, q⟩
  exact wpM_idE (hf r c1 q h1 tk1 α1 F1 v R1 ra) (fun v' s'' o => o.mono p1 f1 fun _ _ _ _ _ x => x)
/-- a value is at hand at once -/
theorem ev_now {t : Sem Value} {r : AV} (h : Q r cells) (ht : ∀ h tk α F, Rel Γ loc cells α F h → ∀ K : Value → Shared → Prop, (∀ v tk', AVR (PF Γ.P F) α r v → K v (Γ.st h tk')) → wpAny (model PG w) Γ.A t K E (Γ.st h tk)) : Ev Γ E t loc cells Q := fun h₁ tk α F R =>
  wpM_of_any (ht h₁ tk α F R _ fun v _ a => out_same R ⟨r, a, h⟩)
theorem TE_local {x : PySem.Str} {pos : Pos} {v : AV} (hx : sc.names.lookup x = some .local) (hl : loc.lookup x = some v) (hd : (x == ("__debug__" : PySem.Str)) = false) (h : Q v cells) : TE Γ E (.Name x pos) loc cells Q := by
  refine ev_now h ?_
  rintro h tk α F ⟨gr, tn, m, val, cvl, leds, R⟩ K k
  obtain ⟨u, hu, r⟩ := R.lr x v hl
  exact wpAny_Name (wpAny_loadName_local Γ.hk hx R.fr.ns (by rw [R.lo x hx]; exact hu) (k u tk r)) hd
theorem cv_at {α : List Addr} {F : Led} {h : Heap} {m val : PySem.Str → Option Value} {cvl : Led} {leds : Nat → Led} {x : PySem.Str} {c : Addr} (R : Rel' Γ loc cells α F h m val cvl leds) (hc : Γ.cl.lookup x = some c) : h.IsCell c (val x) := by
  obtain ⟨o, ho, hi⟩ := R.cv x c hc
  refine ⟨o, ?_, ho⟩
  split at hi
  · exact (R.news _ (List.mem_append_left _ (List.mem_append_right _ hi))).1
  · exact R.fr.keep _ _ hi
theorem TE_cell {x : PySem.Str} {pos : Pos} {v : AV} (hx : sc.names.lookup x = some .cell) (hl : loc.lookup x = some v) (hd : (x == ("__debug__" : PySem.Str)) = false) (h : Q v cells) : TE Γ E (.Name x pos) loc cells Q := by
  refine ev_now h ?_
  rintro h tk α F ⟨gr, tn, m, val, cvl, leds, R⟩ K k
  obtain ⟨u, hu, r⟩ := R.lr x v hl
  obtain ⟨c, hc⟩ := Γ.hcl x _ hx (.inl rfl)
  have hi := cv_at R hc
  rw [hu] at hi
  exact wpAny_Name (wpAny_loadName_cell Γ.hk hx hc hi (k u tk r)) hd
theorem TE_glob {x : PySem.Str} {pos : Pos} {v : AV} (hx : sc.names.lookup x = some .globalImplicit) (e : ∃ u, nsIn (KF w.params) mainGlobals x = some (some u) ∧ AVR (fun _ _ => False) [] v u) (hd : (x == ("__debug__" : PySem.Str)) = false) (h : Q v cells) : TE Γ E (.Name x pos) loc cells Q := by
  refine ev_now h ?_
  rintro h tk α F ⟨gr, tn, m, val, cvl, leds, R⟩ K k
  obtain ⟨u, hu, r⟩ := e
  exact nameG_K R.fr (Γ.turn gr tn).X (topRead_of (Γ.turn gr tn).T) hu (k u tk (r.mono (fun _ _ x => x.elim) fun i a x => by simp at x)) rfl Γ.hk hx hd
theorem TE_int {i : Int} {n : Nat} {pos : Pos} (h : Q (.pure (.int i)) cells) : TE Γ E (.Constant (.int i) n pos) loc cells Q := ev_now h fun _ _ _ _ _ _ k => wpAny_Constant_int (k _ _ .int)
theorem TE_str {i : PySem.Str} {n : Nat} {pos : Pos} (h : Q (.pure (.str i)) cells) : TE Γ E (.Constant (.str i) n pos) loc cells Q := ev_now h fun _ _ _ _ _ _ k => Constant_str (k _ _ .str)
theorem TE_none {n : Nat} {pos : Pos} (h : Q (.pure .none) cells) : TE Γ E (.Constant .none n pos) loc cells Q := ev_now h fun _ _ _ _ _ _ k => wpAny_Constant_none (k _ _ .none)
theorem TE_bool {b : Bool} {n : Nat} {pos : Pos} (h : Q (.pure (.bool b)) cells) : TE Γ E (.Constant (.bool b) n pos) loc cells Q := ev_now h fun _ _ _ _ _ _ k => wpAny_Constant_bool (k _ _ .bool)
theorem TE_BinOp {l r : PySem.Expr} {op : Operator} {pos : Pos} (h : TE Γ E l loc cells fun a c₁ => TE Γ E r loc c₁ fun b c₂ => O2 Γ E (binaryOp op) a b loc c₂ Q) : TE Γ E (.BinOp l op r pos) loc cells Q := by
  unfold TE
  rw [eval_BinOp]
  refine Ev.bind h ?_
  rintro a c₁ q h₁ tk₁ α₁ F₁ u R₁ ra
  refine wpM_bind (wpM_holding (wpM_idE (q h₁ tk₁ α₁ F₁ R₁) ?_))
  rintro v s' ⟨h₂, tk₂, α₂, F₂, c₂, rfl, p₂, f₂, R₂, b, rb, q₂⟩
  exact wpM_of_any (wpAny_bind (wpAny_standAt (wpAny_operate' (wpAny_mono (q₂ h₂ tk₂ α₂ F₂ u v R₂ (ra.mono (pf_tail f₂) p₂) rb) (fun v' s'' o => o.mono p₂ f₂ fun _ _ _ _ _ x => x) fun _ _ x => x))))
theorem TE_Compare {l r : PySem.Expr} {op : CmpOp} {pos : Pos} (h : TE Γ E l loc cells fun a c₁ => TE Γ E r loc c₁ fun b c₂ => O2 Γ E (compareOp op) a b loc c₂ Q) (hm : behindInMarks op r = false) : TE Γ E (.Compare l [op] [r] pos) loc cells Q := by
  unfold TE
  rw [eval_Compare1, markedBehindIn_of_false hm]
  refine Ev.bind h ?_
  rintro a c₁ q h₁ tk₁ α₁ F₁ u R₁ ra
  refine wpM_bind (wpM_holding (wpM_idE (q h₁ tk₁ α₁ F₁ R₁) ?_))
  rintro v s' ⟨h₂, tk₂, α₂, F₂, c₂, rfl, p₂, f₂, R₂, b, rb, q₂⟩
  exact wpM_of_any (wpAny_bind (wpAny_standAt (wpAny_operate' (wpAny_mono (q₂ h₂ tk₂ α₂ F₂ u v R₂ (ra.mono (pf_tail f₂) p₂) rb) (fun v' s'' o => o.mono p₂ f₂ fun _ _ _ _ _ x => x) fun _ _ x => x))))
theorem TE_Unary {x : PySem.Expr} {op : UnaryOp} {pos : Pos} (h : TE Γ E x loc cells fun a c₁ => O1 Γ E (unaryOp op) a loc c₁ Q) : TE Γ E (.UnaryOp op x pos) loc cells Q := by
  unfold TE
  rw [eval_UnaryOp]
  refine Ev.bind h ?_
  rintro a c₁ q h₁ tk₁ α₁ F₁ u R₁ ra
  exact wpM_of_any (wpAny_bind (wpAny_standAt (wpAny_holding (q h₁ tk₁ α₁ F₁ u R₁ ra))))
theorem TE_If {test body orelse : PySem.Expr} {pos : Pos} (h : TB Γ E test (eval test Γ.env) loc cells fun b c₁ => if b = true then TE Γ E body loc c₁ Q else TE Γ E orelse loc c₁ Q) : TE Γ E (.IfExp test body orelse pos) loc cells Q := by
  intro h₀ tk α F R
  rw [eval_IfExp]
  refine wpM_bind (wpM_idE (h h₀ tk α F R) ?_)
  rintro b s' ⟨h₁, tk₁, α₁, F₁, c₁, rfl, p₁, f₁, R₁, q⟩
  have fin : ∀ {e : PySem.Expr}, TE Γ E e loc c₁ Q → wpM κ (model PG w) Γ.A (eval e Γ.env) (Out Γ loc α F Q) E (Γ.st h₁ tk₁) := fun z => wpM_idE (z h₁ tk₁ α₁ F₁ R₁) fun v' s'' o => o.mono p₁ f₁ fun _ _ _ _ _ x => x
  cases b with
  | true => exact fin (by simpa using q)
  | false => exact fin (by simpa using q)
theorem TE_Attr {o : PySem.Expr} {attr : PySem.Str} {pos : Pos} (h : TE Γ E o loc cells fun a c₁ => O1 Γ E (fun u => getAttr u attr true) a loc c₁ Q)
    (he : eval (.Attribute o attr pos) Γ.env = (do
      let u ← eval o Γ.env
      standAt pos.atName
      let r ← holding [u] (getAttr u attr true)
      letTemporaryGo o u r
      pure r)) : TE Γ E (.Attribute o attr pos) loc cells Q := by
  unfold TE
  rw [he]
  refine Ev.bind h ?_
  rintro a c₁ q h₁ tk₁ α₁ F₁ u R₁ ra
  exact wpM_of_any (wpAny_bind (wpAny_standAt (wpAny_bind (wpAny_holding (wpAny_mono (q h₁ tk₁ α₁ F₁ u R₁ ra) (fun r s₂ h₂ => wpAny_bind (wpAny_letTemporaryGo (wpAny_pure h₂))) fun _ _ x => x)))))
theorem TE_Sub {value slice : PySem.Expr} {pos : Pos} (h : TE Γ E value loc cells fun a c₁ => TE Γ E slice loc c₁ fun b c₂ => O2 Γ E (subscriptTail value slice) a b loc c₂ Q) : TE Γ E (.Subscript value slice pos) loc cells Q := by
  unfold TE
  rw [eval_Subscript]
  refine Ev.bind h ?_
  rintro a c₁ q h₁ tk₁ α₁ F₁ u R₁ ra
  refine wpM_bind (wpM_holding (wpM_idE (q h₁ tk₁ α₁ F₁ R₁) ?_))
  rintro v s' ⟨h₂, tk₂, α₂, F₂, c₂, rfl, p₂, f₂, R₂, b, rb, q₂⟩
  exact wpM_of_any (wpAny_bind (wpAny_standAt (wpAny_mono (q₂ h₂ tk₂ α₂ F₂ u v R₂ (ra.mono (pf_tail f₂) p₂) rb) (fun v' s'' o => o.mono p₂ f₂ fun _ _ _ _ _ x => x) fun _ _ x => x)))
end
section
variable {w : World} {κ : Bool} {sc : Scope} {lv : Nat} {Γ : Cx w κ sc lv} {E : Value → Shared → Prop} {loc : Loc} {cells : List AO} {Q : Bool → List AO → Prop}
/-- the truth of a value -/
noncomputable def OT (Γ : Cx w κ sc lv) (E : Value → Shared → Prop) (a : AV) (loc : Loc) (cells : List AO) (Q : Bool → List AO → Prop) : Prop :=
  ∀ h tk α F u, Rel Γ loc cells α F h → AVR (PF Γ.P F) α a u → wpAny (model PG w) Γ.A (truthy u) (fun b s' => OutG Γ loc α F (fun c _ _ => Q b c) s') E (Γ.st h tk)
theorem OT_bool {b : Bool} (h : Q b cells) : OT Γ E (.pure (.bool b)) loc cells Q := by
  rintro h₁ tk α F u R ra
  cases ra
  exact wpAny_truthy_bool (out_same R h)
theorem TB_plain {e : PySem.Expr} {whole : Sem Value} (h : Ev Γ E whole loc cells fun a c₁ => OT Γ E a loc c₁ Q) (he : isTrue e Γ.env whole = (do let v ← whole; standAt e.pos; holding [v] (truthy v))) : TB Γ E e whole loc cells Q := by
  intro h₀ tk α F R
  rw [he]
  refine wpM_bind (wpM_idE (h h₀ tk α F R) ?_)
  rintro v s' ⟨h₁, tk₁, α₁, F₁, c₁, rfl, p₁, f₁, R₁, r, ra, q⟩
  exact wpM_of_any (wpAny_bind (wpAny_standAt (wpAny_holding (wpAny_mono (q h₁ tk₁ α₁ F₁ v R₁ ra) (fun b s'' o => o.mono p₁ f₁ fun _ _ _ _ _ x => x) fun _ _ x => x))))
theorem TB_Compare {l r : PySem.Expr} {op : CmpOp} {pos : Pos} {whole : Sem Value} (h : TE Γ E l loc cells fun a c₁ => TE Γ E r loc c₁ fun b c₂ => O2 Γ E (compareOp op) a b loc c₂ fun x c₃ => OT Γ E x loc c₃ Q) (hm : behindInMarks op r = false) :
    TB Γ E (.Compare l [op] [r] pos) whole loc cells Q := by
  intro h₀ tk α F R
  rw [isTrue_Compare1, markedBehindIn_of_false hm]
  refine wpM_bind (wpM_idE (h h₀ tk α F R) ?_)
  rintro u s' ⟨h₁, tk₁, α₁, F₁, c₁, rfl, p₁, f₁, R₁, r, ra, q⟩
  refine wpM_bind (wpM_holding (wpM_idE (q h₁ tk₁ α₁ F₁ R₁) ?_))
  rintro v s' ⟨h₂, tk₂, α₂, F₂, c₂, rfl, p₂, f₂, R₂, b, rb, q₂⟩
  refine wpM_of_any (wpAny_bind (wpAny_standAt (wpAny_bind (wpAny_operate' (wpAny_mono (q₂ h₂ tk₂ α₂ F₂ u v R₂ (ra.mono (pf_tail f₂) p₂) rb) ?_ fun _ _ x => x)))))
  rintro x s' ⟨h₃, tk₃, α₃, F₃, c₃, rfl, p₃, f₃, R₃, y, ry, q₃⟩
  exact wpAny_holding (wpAny_mono (q₃ h₃ tk₃ α₃ F₃ x R₃ ry) (fun b s'' o => o.mono (p₁.trans (p₂.trans p₃)) (fun z hz => f₃ z (f₂ z (f₁ z hz))) fun _ _ _ _ _ x => x) fun _ _ x => x)
theorem TB_not {x : PySem.Expr} {pos : Pos} {whole : Sem Value} (h : TB Γ E x (eval x Γ.env) loc cells fun b c => Q (!b) c) : TB Γ E (.UnaryOp .Not x pos) whole loc cells Q := by
  intro h₀ tk α F R
  show wpM κ _ _ (do return !(← isTrue x Γ.env (eval x Γ.env))) _ _ _
  exact wpM_bind (wpM_idE (h h₀ tk α F R) fun c s' h' => wpM_pure h')
theorem TB_or_nil {pos : Pos} {whole : Sem Value} (h : Q false cells) : TB Γ E (.BoolOp .Or [] pos) whole loc cells Q := fun _ _ _ _ R => wpM_pure (out_same R h)
theorem TB_or {x : PySem.Expr} {rest : List PySem.Expr} {pos : Pos} {whole : Sem Value} (h : TB Γ E x (eval x Γ.env) loc cells fun b c => if b = true then Q true c else TB Γ E (.BoolOp .Or rest pos) whole loc c Q) : TB Γ E (.BoolOp .Or (x :: rest) pos) whole loc cells Q := by
  intro h₀ tk α F R
  show wpM κ _ _ (do
    match BoolOp.Or, ← isTrue x Γ.env (eval x Γ.env) with
    | .And, false => pure false
    | .Or, true => pure true
    | _, _ => allTrue .Or rest Γ.env) _ _ _
  refine wpM_bind (wpM_idE (h h₀ tk α F R) ?_)
  rintro b s' ⟨h₁, tk₁, α₁, F₁, c₁, rfl, p₁, f₁, R₁, q⟩
  cases b with
  | true => exact wpM_pure ⟨h₁, tk₁, α₁, F₁, c₁, rfl, p₁, f₁, R₁, by simpa using q⟩
  | false =>
    simp only [Bool.false_eq_true, if_false] at q
    exact wpM_idE (q h₁ tk₁ α₁ F₁ R₁) fun b s'' o => o.mono p₁ f₁ fun _ _ _ _ _ x => x
end
section
variable {w : World} {κ : Bool} {sc : Scope} {lv : Nat} {Γ : Cx w κ sc lv} {E : Value → Shared → Prop} {loc : Loc} {cells : List AO} {Q : List AV → List AO → Prop} {pos : Pos}
theorem TA_nil (h : Q [] cells) : TA Γ E pos [] loc cells Q := fun _ _ _ _ R => wpM_pure (out_same R ⟨[], trivial, h⟩)
theorem TA_cons {e : PySem.Expr} {rest : List PySem.Expr} (h : TE Γ E e loc cells fun a c₁ => TA Γ E pos rest loc c₁ fun as c₂ => Q (a :: as) c₂) (he : starEach (e :: rest) Γ.env = (false, eval e Γ.env) :: starEach rest Γ.env) : TA Γ E pos (e :: rest) loc cells Q := by
  intro h₀ tk α F R
  rw [he]
  show wpM κ _ _ (spliced ((false, eval e Γ.env) :: backTo pos (starEach rest Γ.env))) _ _ _
  rw [spliced]
  refine wpM_bind (wpM_idE (h h₀ tk α F R) ?_)
  rintro u s' ⟨h₁, tk₁, α₁, F₁, c₁, rfl, p₁, f₁, R₁, r, ra, q⟩
  simp only [Bool.false_eq_true, if_false]
  refine wpM_bind (wpM_pure (wpM_bind (wpM_holding (wpM_idE (q h₁ tk₁ α₁ F₁ R₁) ?_))))
  rintro vs s' ⟨h₂, tk₂, α₂, F₂, c₂, rfl, p₂, f₂, R₂, rs, rb, q₂⟩
  exact wpM_pure ⟨h₂, tk₂, α₂, F₂, c₂, rfl, p₁.trans p₂, fun z hz => f₂ z (f₁ z hz), R₂, r :: rs, ⟨ra.mono (pf_tail f₂) p₂, rb⟩, q₂⟩
end
end
section
noncomputable def Storable (sc : Scope) (own : Bool) (x : PySem.Str) : Prop := sc.names.lookup x = some .local ∨ (sc.names.lookup x = some .cell ∧ own = true)
section
variable {w : World} {κ : Bool} {sc : Scope} {lv : Nat} {Γ : Cx w κ sc lv} {E : Value → Shared → Prop} {loc : Loc} {cells : List AO} {α : List Addr} {F : Led} {h : Heap} {tk : Nat}
theorem lr_put {m val val' : PySem.Str → Option Value} {cvl : Led} {leds : Nat → Led} (R : Rel' Γ loc cells α F h m val cvl leds) {x : PySem.Str} {r : AV} {v : Value} (ra : AVR (PF Γ.P F) α r v) (h1 : val' x = some v) (h2 : ∀ y, y ≠ x → val' y = val y) :
    ∀ y u, (loc.put x r).lookup y = some u → ∃ w, val' y = some w ∧ AVR (PF Γ.P F) α u w := by
  intro y u hu
  by_cases e : y = x
  · subst e
    rw [Loc.put_at] at hu
    cases hu
    exact ⟨v, h1, ra⟩
  · rw [Loc.put_ne e] at hu
    obtain ⟨w, a, b⟩ := R.lr y u hu
    exact ⟨w, (h2 y e).trans a, b⟩
theorem store_name {x : PySem.Str} {r : AV} {v : Value} (hx : Storable sc Γ.own x) (R : Rel Γ loc cells α F h) (ra : AVR (PF Γ.P F) α r v) {K : Unit → Shared → Prop} {E' : Value → Shared → Prop} (k : ∀ h' tk', Rel Γ (loc.put x r) cells α F h' → K () (Γ.st h' tk')) :
    wpAny (model PG w) Γ.A (storeName Γ.env x v) K E' (Γ.st h tk) := by
  obtain ⟨gr, tn, m, val, cvl, leds, R⟩ := R
  rcases hx with hx | ⟨hx, hown⟩
  · refine wpAny_storeName_local hx R.fr.ns (fun h' hn hs => k h' _ ⟨gr, tn, _, fun y => if y = x then some v else val y, cvl, leds, R.fr.set hn hs, R.news.set hs, R.nd, R.ap, R.cr, fun y c hc => ?_, fun y hy => ?_, lr_put R ra (if_pos rfl) fun y hy => if_neg hy, R.pre⟩)
      (by show (sc.kind == .class || (sc.kind == .module && Γ.L != mainGlobals)) = false; rw [Γ.hk]; rfl)
    · have hne : y ≠ x := fun e => Γ.hcn y c hc (e ▸ hx)
      simp only [hne, if_false]
      exact R.cv y c hc
    · show (if y = x then some v else m y) = if y = x then some v else val y
      rw [R.lo y hy]
  · obtain ⟨c, hc⟩ := Γ.hcl x _ hx (.inl rfl)
    obtain ⟨o, ho, hi⟩ := R.cv x c hc
    rw [if_pos hown] at hi
    have hm := R.news _ (List.mem_append_left _ (List.mem_append_right _ hi))
    refine wpAny_storeName_cell Γ.hk hx hc ⟨o, hm.1, ho⟩ fun h' hic hs => ?_
    obtain ⟨o', ho', hd'⟩ := hic
    have emap : ((allL cells.length leds ++ cvl.map fun p => if p.1 = c then (c, o') else p)).map (·.1) = (allL cells.length leds ++ cvl).map (·.1) := by
      rw [List.map_append, List.map_append, List.map_map]
      congr 1
      refine List.map_congr_left fun p _ => ?_
      show (if p.1 = c then (c, o') else p).1 = p.1
      split
      · rename_i e; exact e.symm
      · rfl
    refine k h' _ ⟨gr, tn, m, fun y => if y = x then some v else val y, cvl.map fun p => if p.1 = c then (c, o') else p, leds, R.fr.change hs hm.2.1 hm.2.2, ?_, R.nd.same emap, R.ap.same emap, R.cr, fun y d hd => ?_, fun y hy => ?_, lr_put R ra (if_pos rfl) fun y hy => if_neg hy, R.pre⟩
    · intro p hp
      by_cases e : p.1 = c
      · have hpo : p = (c, o') := by
          rcases List.mem_append.mp hp with hp | hp
          · rcases List.mem_append.mp hp with hp | hp
            · have := R.nd
              unfold Dist at this
              rw [List.pairwise_append] at this
              exact absurd e (this.2.2 p hp _ hi)
            · obtain ⟨q, _, rfl⟩ := List.mem_map.mp hp
              split at e
              · rename_i e'; rw [if_pos e']
              · rename_i e'; exact absurd e e'
          · exact absurd e.symm (R.ap _ (List.mem_append_right _ hi) p hp)
        subst hpo
        exact ⟨ho', hm.2⟩
      · have hpo : p ∈ (allL cells.length leds ++ cvl) ++ F := by
          rcases List.mem_append.mp hp with hp | hp
          · rcases List.mem_append.mp hp with hp | hp
            · exact List.mem_append_left _ (List.mem_append_left _ hp)
            · obtain ⟨q, hq, rfl⟩ := List.mem_map.mp hp
              split at e
              · exact absurd rfl e
              · rename_i e'; rw [if_neg e']; exact List.mem_append_left _ (List.mem_append_right _ hq)
          · exact List.mem_append_right _ hp
        exact ⟨(hs.2 _ e).trans (R.news p hpo).1, (R.news p hpo).2⟩
    · by_cases e : y = x
      · subst e
        rw [hc] at hd
        cases hd
        refine ⟨o', by simpa using hd', ?_⟩
        rw [if_pos hown]
        exact List.mem_map.mpr ⟨_, hi, by simp⟩
      · obtain ⟨o₂, ho₂, hi₂⟩ := R.cv y d hd
        rw [if_pos hown] at hi₂
        have hne : d ≠ c := fun q => e (Γ.hci y x c (q ▸ hd) hc)
        refine ⟨o₂, by simpa [e] using ho₂, ?_⟩
        rw [if_pos hown]
        exact List.mem_map.mpr ⟨_, hi₂, by simp [hne]⟩
    · show m y = if y = x then some v else val y
      have hne : y ≠ x := fun e => by rw [e, hx] at hy; cases hy
      rw [if_neg hne]
      exact R.lo y hy
end
section
variable {w : World} {κ : Bool} {sc : Scope} {lv : Nat} {Γ : Cx w κ sc lv} {E : Value → Shared → Prop} {loc : Loc} {cells : List AO} {Q : Fl → Loc → List AO → Prop}
theorem OutS.mono {F F₁ : Led} {Q' : Fl → Loc → List AO → Prop} {f : Flow} {s' : Shared} (g : ∀ p ∈ F, p ∈ F₁) (h : OutS Γ F₁ Q f s') (k : ∀ fl l c, Q fl l c → Q' fl l c) : OutS Γ F Q' f s' := by
  obtain ⟨h', tk', α', F', l, c, fl, e, g', R, r, q⟩ := h
  refine ⟨h', tk', α', F', l, c, fl, e, ?_, R, r, k _ _ _ q⟩
  cases fl with
  | ret v => trivial
  | next => exact fun p hp => g' p (g p hp)
  | brk => exact fun p hp => g' p (g p hp)
  | cont => exact fun p hp => g' p (g p hp)
theorem TS.mono {st : Stmt} {Q' : Fl → Loc → List AO → Prop} (h : TS Γ E st loc cells Q) (k : ∀ fl l c, Q fl l c → Q' fl l c) : TS Γ E st loc cells Q' := fun a b c d R => wpM_idE (h a b c d R) fun _ _ o => o.mono (fun _ x => x) k
theorem outS_next {h : Heap} {tk : Nat} {α : List Addr} {F F' : Led} {l : Loc} {c : List AO} (g : ∀ p ∈ F, p ∈ F') (R : Rel Γ l c α F' h) (q : Q .next l c) : OutS Γ F Q .next (Γ.st h tk) := ⟨h, tk, α, F', l, c, .next, rfl, g, R, rfl, q⟩
theorem TSs_nil (h : Q .next loc cells) : TSs Γ E [] loc cells Q := fun _ _ _ _ R => wpM_execs_nil (outS_next (fun _ x => x) R h)
theorem TSs_cons {st : Stmt} {rest : List Stmt} (h : TS Γ E st loc cells fun fl l c => match fl with | .next => TSs Γ E rest l c Q | fl => Q fl l c) : TSs Γ E (st :: rest) loc cells Q := by
  intro h₀ tk α F R
  refine wpM_execs_cons (wpM_idE (h h₀ tk α F R) ?_)
  rintro f s' ⟨h₁, tk₁, α₁, F₁, l₁, c₁, fl, rfl, g₁, R₁, r, q⟩
  cases fl with
  | next => cases r; exact wpM_idE (q h₁ tk₁ α₁ F₁ R₁) fun _ _ o => o.mono g₁ fun _ _ _ x => x
  | brk => cases r; exact ⟨h₁, tk₁, α₁, F₁, l₁, c₁, .brk, rfl, g₁, R₁, rfl, q⟩
  | cont => cases r; exact ⟨h₁, tk₁, α₁, F₁, l₁, c₁, .cont, rfl, g₁, R₁, rfl, q⟩
  | ret v => obtain ⟨u, rfl, ra⟩ := r; exact ⟨h₁, tk₁, α₁, F₁, l₁, c₁, .ret v, rfl, g₁, R₁, ⟨u, rfl, ra⟩, q⟩
theorem TS_Assign {x : PySem.Str} {px pos : Pos} {value : PySem.Expr} (hx : Storable sc Γ.own x) (hs : swapsWith value (some (.Name x px)) pos.line Γ.env = pure false) (h : TE Γ E value loc cells fun r c => Q .next (loc.put x r) c) : TS Γ E (.Assign [.Name x px] value pos) loc cells Q := by
  intro h₀ tk α F R
  rw [exec_Assign_Name Γ.env x px value pos hs]
  refine wpM_bind (wpM_standAt (wpM_bind (wpM_idE (h h₀ tk α F R) ?_)))
  rintro v s' ⟨h₁, tk₁, α₁, F₁, c₁, rfl, p₁, f₁, R₁, r, ra, q⟩
  refine wpM_of_any (wpAny_bind (wpAny_standAt (wpAny_bind ?_)))
  unfold bindName
  refine wpAny_bind (wpAny_holding (wpAny_point (wpAny_bind (store_name hx R₁ ra fun h₂ tk₂ R₂ => wpAny_point (wpAny_pure (outS_next f₁ R₂ q))))))
theorem TS_If {test : PySem.Expr} {body orelse : List Stmt} {pos : Pos} (h : TB Γ E test (eval test Γ.env) loc cells fun b c₁ => if b = true then TSs Γ E body loc c₁ Q else TSs Γ E orelse loc c₁ Q) : TS Γ E (.If test body orelse pos) loc cells Q := by
  intro h₀ tk α F R
  rw [exec_If]
  refine wpM_bind (wpM_standAt (wpM_bind (wpM_idE (h h₀ tk α F R) ?_)))
  rintro b s' ⟨h₁, tk₁, α₁, F₁, c₁, rfl, p₁, f₁, R₁, q⟩
  cases b with
  | true => simp only [if_true] at q ⊢; exact wpM_idE (q h₁ tk₁ α₁ F₁ R₁) fun _ _ o => o.mono f₁ fun _ _ _ x => x
  | false => simp only [Bool.false_eq_true, if_false] at q ⊢; exact wpM_idE (q h₁ tk₁ α₁ F₁ R₁) fun _ _ o => o.mono f₁ fun _ _ _ x => x
theorem TS_Return {e : PySem.Expr} {pos : Pos} (h : TE Γ E e loc cells fun r c => Q (.ret r) loc c) : TS Γ E (.Return (some e) pos) loc cells Q := by
  intro h₀ tk α F R
  rw [exec_Return_some]
  refine wpM_bind (wpM_standAt (wpM_bind (wpM_idE (h h₀ tk α F R) ?_)))
  rintro v s' ⟨h₁, tk₁, α₁, F₁, c₁, rfl, p₁, f₁, R₁, r, ra, q⟩
  exact wpM_pure ⟨h₁, tk₁, α₁, F₁, loc, c₁, .ret r, rfl, trivial, R₁, ⟨v, rfl, ra⟩, q⟩
theorem TS_Expr {e : PySem.Expr} {pos : Pos} (hi : interactive Γ.env = false) (hs : swapsWith e none pos.line Γ.env = pure false) (h : TE Γ E e loc cells fun _ c => Q .next loc c) : TS Γ E (.Expr e pos) loc cells Q := by
  intro h₀ tk α F R
  rw [exec_Expr Γ.env e pos hi hs]
  refine wpM_bind (wpM_standAt (wpM_bind (wpM_idE (h h₀ tk α F R) ?_)))
  rintro v s' ⟨h₁, tk₁, α₁, F₁, c₁, rfl, p₁, f₁, R₁, r, ra, q⟩
  exact wpM_of_any (wpAny_dropValue (outS_next f₁ R₁ q))
/-- a store into an item -/
noncomputable def OS (Γ : Cx w κ sc lv) (E : Value → Shared → Prop) (o i r : AV) (loc : Loc) (cells : List AO) (Q : List AO → Prop) : Prop :=
  ∀ h tk α F u v x, Rel Γ loc cells α F h → AVR (PF Γ.P F) α o u → AVR (PF Γ.P F) α i v → AVR (PF Γ.P F) α r x → wpAny (model PG w) Γ.A (setItem u v x) (fun _ s' => OutG Γ loc α F (fun c _ _ => Q c) s') E (Γ.st h tk)
noncomputable def OA (Γ : Cx w κ sc lv) (E : Value → Shared → Prop) (attr : PySem.Str) (o r : AV) (loc : Loc) (cells : List AO) (Q : List AO → Prop) : Prop :=
  ∀ h tk α F u x, Rel Γ loc cells α F h → AVR (PF Γ.P F) α o u → AVR (PF Γ.P F) α r x → wpAny (model PG w) Γ.A (setAttr u attr x) (fun _ s' => OutG Γ loc α F (fun c _ _ => Q c) s') E (Γ.st h tk)
theorem TS_AssignSub {o i value : PySem.Expr} {pos' pos : Pos} (hs : swapsWith value (some (.Subscript o i pos')) pos.line Γ.env = pure false)
    (h : TE Γ E value loc cells fun r c₁ => TE Γ E o loc c₁ fun ov c₂ => TE Γ E i loc c₂ fun iv c₃ => OS Γ E ov iv r loc c₃ fun c => Q .next loc c) : TS Γ E (.Assign [.Subscript o i pos'] value pos) loc cells Q := by
  intro h₀ tk α F R
  rw [exec_Assign_Subscript o i pos' value pos hs]
  refine wpM_bind (wpM_standAt (wpM_bind (wpM_idE (h h₀ tk α F R) ?_)))
  rintro v s' ⟨h₁, tk₁, α₁, F₁, c₁, rfl, p₁, f₁, R₁, r, ra, q⟩
  rw [assign_Subscript]
  refine wpM_bind ?_
  refine wpM_bind (wpM_holding (wpM_idE (q h₁ tk₁ α₁ F₁ R₁) ?_))
  rintro u s' ⟨h₂, tk₂, α₂, F₂, c₂, rfl, p₂, f₂, R₂, ov, ro, q₂⟩
  refine wpM_bind (wpM_holding (wpM_idE (q₂ h₂ tk₂ α₂ F₂ R₂) ?_))
  rintro x s' ⟨h₃, tk₃, α₃, F₃, c₃, rfl, p₃, f₃, R₃, iv, ri, q₃⟩
  refine wpM_of_any (wpAny_bind (wpAny_standAt (wpAny_bind (wpAny_holding (wpAny_mono (q₃ h₃ tk₃ α₃ F₃ u x v R₃ (ro.mono (pf_tail f₃) p₃) ri (ra.mono (pf_tail fun p hp => f₃ p (f₂ p hp)) (p₂.trans p₃))) ?_ fun _ _ x => x)))))
  rintro _ s' ⟨h₄, tk₄, α₄, F₄, c₄, rfl, p₄, f₄, R₄, q₄⟩
  exact wpAny_release' (wpM_pure (outS_next (fun p hp => f₄ p (f₃ p (f₂ p (f₁ p hp)))) R₄ q₄))
theorem TS_AssignAttr {o value : PySem.Expr} {attr : PySem.Str} {pos' pos : Pos} (hs : swapsWith value (some (.Attribute o attr pos')) pos.line Γ.env = pure false)
    (h : TE Γ E value loc cells fun r c₁ => TE Γ E o loc c₁ fun ov c₂ => OA Γ E attr ov r loc c₂ fun c => Q .next loc c) : TS Γ E (.Assign [.Attribute o attr pos'] value pos) loc cells Q := by
  intro h₀ tk α F R
  rw [plainObj_exec_Assign_Attribute o attr pos' value pos hs]
  refine wpM_bind (wpM_standAt (wpM_bind (wpM_idE (h h₀ tk α F R) ?_)))
  rintro v s' ⟨h₁, tk₁, α₁, F₁, c₁, rfl, p₁, f₁, R₁, r, ra, q⟩
  rw [assign_Attribute]
  refine wpM_bind ?_
  refine wpM_bind (wpM_holding (wpM_idE (q h₁ tk₁ α₁ F₁ R₁) ?_))
  rintro u s' ⟨h₂, tk₂, α₂, F₂, c₂, rfl, p₂, f₂, R₂, ov, ro, q₂⟩
  refine wpM_of_any (wpAny_bind (wpAny_standAt (wpAny_bind (wpAny_holding (wpAny_mono (q₂ h₂ tk₂ α₂ F₂ u v R₂ ro (ra.mono (pf_tail f₂) p₂)) ?_ fun _ _ x => x)))))
  rintro _ s' ⟨h₄, tk₄, α₄, F₄, c₄, rfl, p₄, f₄, R₄, q₄⟩
  exact wpAny_release' (wpM_pure (outS_next (fun p hp => f₄ p (f₂ p (f₁ p hp))) R₄ q₄))
end
/-- several names at once, from the last on -/
noncomputable def Loc.puts (loc : Loc) : List (PySem.Str × AV) → Loc
  | [] => loc
  | (x, v) :: r => Loc.puts (loc.put x v) r
section
variable {w : World} {κ : Bool} {sc : Scope} {lv : Nat} {Γ : Cx w κ sc lv} {E : Value → Shared → Prop} {loc : Loc} {cells : List AO} {Q : Fl → Loc → List AO → Prop}
theorem assign_all {α : List Addr} {F : Led} {K : Unit → Shared → Prop} {E' : Value → Shared → Prop} (names : List PySem.Str) : ∀ (rs : List AV) (vs : List Value) (loc : Loc) (h : Heap) (tk : Nat), names.length = rs.length → (∀ x ∈ names, Storable sc Γ.own x) → Rel Γ loc cells α F h → AVRs (PF Γ.P F) α rs vs →
    (∀ h' tk', Rel Γ (loc.puts (names.zip rs)) cells α F h' → K () (Γ.st h' tk')) → wpAny (model PG w) Γ.A (assignInOrder (names.map fun n => bindName Γ.env n) vs) K E' (Γ.st h tk) := by
  induction names with
  | nil =>
    intro rs vs loc h tk e hx R ra k
    cases rs with
    | nil => exact assignInOrder_nil (k h tk R)
    | cons _ _ => cases e
  | cons x xs ih =>
    intro rs vs loc h tk e hx R ra k
    cases rs with
    | nil => cases e
    | cons r rs =>
      cases vs with
      | nil => exact ra.elim
      | cons v vs =>
        obtain ⟨a, b⟩ := ra
        refine assignInOrder_cons (bindName_ (store_name (hx x (.head _)) R a fun h' tk' R' => ?_))
        exact ih rs vs _ h' tk' (Nat.succ.inj e) (fun y hy => hx y (.tail _ hy)) R' b k
theorem AVRs.snoc {P : Addr → Obj → Prop} {α : List Addr} {r : AV} {v : Value} (h : AVR P α r v) : ∀ {rs vs}, AVRs P α rs vs → AVRs P α (rs ++ [r]) (vs ++ [v])
  | [], [], _ => ⟨h, trivial⟩
  | _ :: _, _ :: _, ⟨a, b⟩ => ⟨a, AVRs.snoc h b⟩
theorem AVRs.reverse {P : Addr → Obj → Prop} {α : List Addr} : ∀ {rs vs}, AVRs P α rs vs → AVRs P α rs.reverse vs.reverse
  | [], [], _ => trivial
  | _ :: _, _ :: _, ⟨a, b⟩ => by rw [List.reverse_cons, List.reverse_cons]; exact (AVRs.reverse b).snoc a
theorem AVRs.length {P : Addr → Obj → Prop} {α : List Addr} : ∀ {rs vs}, AVRs P α rs vs → rs.length = vs.length
  | [], [], _ => rfl
  | _ :: _, _ :: _, ⟨_, b⟩ => congrArg (· + 1) (AVRs.length b)
theorem TS_AssignTup {elts es : List PySem.Expr} {k k' : Nat} {tpos vpos pos : Pos} {names : List PySem.Str} (hs : swapsWithSole [.Tuple elts k tpos] (.Tuple es k' vpos) pos.line Γ.env = pure false) (hw : swappedStores [.Tuple elts k tpos] (.Tuple es k' vpos) Γ.env = pure (some names))
    (hn : ∀ x ∈ names.reverse, Storable sc Γ.own x) (hz : names.length ≤ 10) (h : TA Γ E vpos es loc cells fun rs c => names.length = rs.length ∧ Q .next (loc.puts (names.reverse.zip rs.reverse)) c) : TS Γ E (.Assign [.Tuple elts k tpos] (.Tuple es k' vpos) pos) loc cells Q := by
  intro h₀ tk α F R
  rw [exec_Assign]
  refine wpM_bind (wpM_standAt ?_)
  rw [hs]
  refine wpM_bind (wpM_pure ?_)
  rw [if_neg (by decide)]
  refine wpM_bind ?_
  show wpM κ _ _ (do standAt vpos; newTuple (← spliced (backTo vpos (starEach es Γ.env)))) _ _ _
  refine wpM_bind (wpM_standAt (wpM_bind (wpM_idE (h h₀ tk α F R) ?_)))
  rintro vs s' ⟨h₁, tk₁, α₁, F₁, c₁, rfl, p₁, f₁, ⟨gr, tn, m, val, cvl, leds, R₁⟩, rs, ra, hl, q⟩
  have hvl : vs.length ≤ 10 := by rw [← ra.length, ← hl]; exact hz
  refine wpM_of_any (kup_newTuple R₁.fr R₁.news (fun D h₂ F₂ N₂ l => ?_) (by rw [sizeLine_eq]; omega))
  rw [hw]
  refine wpM_bind (wpM_pure ?_)
  show wpM κ _ _ (do rule "assign.swapped-stores"; let items ← unpackItems (.ref D) names.length none; assignInOrder (names.reverse.map fun n => bindName Γ.env n) items.reverse; pure Flow.next) _ _ _
  refine wpM_of_any (wpAny_bind (wpAny_rule ?_))
  have R₂ := R₁.frozen F₂ N₂ l
  refine wpAny_bind (unpackItemsN_ (s := Γ.st h₂ tk₁) F₂ N₂ (items := vs.toArray) ⟨_, (N₂ _ (.head _)).1, rfl, _, rfl⟩ rfl (by rw [hl, ra.length]; simp) fun h₃ F₃ N₃ => ?_)
  have R₃ : Rel Γ loc c₁ α₁ ((D, tupO vs 0) :: F₁) h₃ := ⟨gr, tn, m, val, cvl, leds, { R₂ with fr := F₃, news := fun p hp => N₃ p (by
    rcases List.mem_append.mp hp with hp | hp
    · exact .tail _ (List.mem_append_left _ hp)
    · rcases List.mem_cons.mp hp with rfl | hp
      · exact .head _
      · exact .tail _ (List.mem_append_right _ hp)) }⟩
  refine wpAny_bind (assign_all names.reverse rs.reverse _ loc h₃ tk₁ (by simpa using hl) hn R₃ ((ra.mono (pf_tail fun _ x => .tail _ x) .rfl).reverse) fun h₄ tk₄ R₄ => ?_)
  exact wpAny_pure (outS_next (fun p hp => .tail _ (f₁ p hp)) R₄ q)
end
end
section
/-- numbers of objects turned by a list: the j-th of the one side is the (ρ j)-th of the other -/
noncomputable def AV.ren (ρ : List Nat) : AV → AV
  | .ref j => match ρ[j]? with
    | some i => .ref i
    | none => .pure .none
  | x => x
noncomputable def AV.wf (n : Nat) : AV → Bool
  | .ref j => decide (j < n)
  | _ => true
noncomputable def AO.ren (ρ : List Nat) : AO → AO
  | .inst C f => .inst C (f.map fun p => (p.1, p.2.ren ρ))
  | o => o
noncomputable def AO.wf (n : Nat) : AO → Bool
  | .inst _ f => f.all fun p => p.2.wf n
  | _ => true
/-- the j-th address of the one side is the (ρ j)-th of the other -/
noncomputable def Via (ρ : List Nat) (α β : List Addr) : Prop := α.length = ρ.length ∧ ∀ (j i : Nat), ρ[j]? = some i → ∃ a, α[j]? = some a ∧ β[i]? = some a
theorem AVR.into {P : Addr → Obj → Prop} {ρ : List Nat} {α β : List Addr} (V : Via ρ α β) {x : AV} {u : Value} (h : AVR P α x u) : AVR P β (x.ren ρ) u := by
  cases x with
  | pure d => exact h
  | stat v => exact h
  | ref j =>
    obtain ⟨a, ha, rfl⟩ := h
    have hj : j < ρ.length := V.1 ▸ (List.getElem?_eq_some_iff.mp ha).1
    obtain ⟨b, hb, hc⟩ := V.2 j _ (List.getElem?_eq_getElem hj)
    rw [ha] at hb
    cases hb
    unfold AV.ren
    simp only [List.getElem?_eq_getElem hj]
    exact ⟨a, hc, rfl⟩
theorem AVR.back {P : Addr → Obj → Prop} {ρ : List Nat} {α β : List Addr} (V : Via ρ α β) {x : AV} {u : Value} (w : x.wf ρ.length = true) (h : AVR P β (x.ren ρ) u) : AVR P α x u := by
  cases x with
  | pure d => exact h
  | stat v => exact h
  | ref j =>
    have hj : j < ρ.length := of_decide_eq_true w
    unfold AV.ren at h
    simp only [List.getElem?_eq_getElem hj] at h
    obtain ⟨a, ha, rfl⟩ := h
    obtain ⟨b, hb, hc⟩ := V.2 j _ (List.getElem?_eq_getElem hj)
    rw [ha] at hc
    cases hc
    exact ⟨a, hb, rfl⟩
theorem AVRs.back {P : Addr → Obj → Prop} {ρ : List Nat} {α β : List Addr} (V : Via ρ α β) : ∀ {xs : List AV} {us : List Value}, xs.all (AV.wf ρ.length) = true → AVRs P β (xs.map (AV.ren ρ)) us → AVRs P α xs us
  | [], [], _, _ => trivial
  | x :: xs, u :: us, w, ⟨a, b⟩ => by
    simp only [List.all_cons, Bool.and_eq_true] at w
    exact ⟨a.back V w.1, AVRs.back V w.2 b⟩
theorem FldsR.into {P : Addr → Obj → Prop} {ρ : List Nat} {α β : List Addr} (V : Via ρ α β) {f : List (String × AV)} {es : List DictEntry} (h : FldsR P α f es) : FldsR P β (f.map fun p => (p.1, p.2.ren ρ)) es := by
  induction h with
  | nil => exact .nil
  | cons a b _ ih => exact .cons a (b.into V) ih
theorem FldsR.back {P : Addr → Obj → Prop} {ρ : List Nat} {α β : List Addr} (V : Via ρ α β) {f : List (String × AV)} : ∀ {es : List DictEntry}, (f.all fun p => p.2.wf ρ.length) = true → FldsR P β (f.map fun p => (p.1, p.2.ren ρ)) es → FldsR P α f es := by
  induction f with
  | nil => intro es _ h; cases h; exact .nil
  | cons p r ih =>
    intro es w h
    rw [List.all_cons, Bool.and_eq_true] at w
    rw [List.map_cons] at h
    cases h with
    | cons a b c => exact .cons a (b.back V w.1) (ih w.2 c)
theorem CellR.into {w : World} {P : Addr → Obj → Prop} {ρ : List Nat} {α β : List Addr} (V : Via ρ α β) {o : AO} {a : Addr} {l : Led} (h : CellR w P α o a l) : CellR w P β (o.ren ρ) a l := by
  cases h with
  | list r => exact .list r
  | ba => exact .ba
  | set s => exact .set s
  | exc0 => exact .exc0
  | exc1 => exact .exc1
  | inst f => exact .inst (f.into V)
theorem CellR.back {w : World} {P : Addr → Obj → Prop} {ρ : List Nat} {α β : List Addr} (V : Via ρ α β) {o : AO} {a : Addr} {l : Led} (k : o.wf ρ.length = true) (h : CellR w P β (o.ren ρ) a l) : CellR w P α o a l := by
  cases o with
  | list d => cases h with | list r => exact .list r
  | ba d => cases h with | ba => exact .ba
  | set d => cases h with | set s => exact .set s
  | exc C d => cases h with | exc0 => exact .exc0 | exc1 => exact .exc1
  | inst C f => cases h with | inst r => exact .inst (r.back V k)
/-- some of the objects, in their own order -/
structure Sel (ρ : List Nat) (cells cells' : List AO) : Prop where
  nd : ρ.Nodup
  eq : (ρ.map fun i => cells[i]?) = cells'.map fun o => some (o.ren ρ)
  wf : (cells'.all (AO.wf ρ.length)) = true
section
variable {w : World} {P : Addr → Obj → Prop} {ρ : List Nat} {α : List Addr} {cells cells' : List AO} {leds : Nat → Led}
theorem Sel.len (S : Sel ρ cells cells') : cells'.length = ρ.length := by
  have := congrArg List.length S.eq
  simpa using this.symm
theorem Sel.at (S : Sel ρ cells cells') {j i : Nat} (h : ρ[j]? = some i) : ∃ o, cells'[j]? = some o ∧ cells[i]? = some (o.ren ρ) ∧ o.wf ρ.length = true := by
  have hj : j < ρ.length := (List.getElem?_eq_some_iff.mp h).1
  have hj' : j < cells'.length := S.len ▸ hj
  have := congrArg (·[j]?) S.eq
  simp only [List.getElem?_map, h, Option.map_some, List.getElem?_eq_getElem hj', Option.some.injEq] at this
  exact ⟨cells'[j], List.getElem?_eq_getElem hj', this, List.all_eq_true.mp S.wf _ (List.getElem_mem hj')⟩
theorem Sel.lt (S : Sel ρ cells cells') {i : Nat} (h : i ∈ ρ) : i < cells.length := by
  obtain ⟨j, hj, rfl⟩ := List.getElem_of_mem h
  obtain ⟨o, _, e, _⟩ := S.at (List.getElem?_eq_getElem hj)
  exact (List.getElem?_eq_some_iff.mp e).1
theorem Sel.via (S : Sel ρ cells cells') (R : CellsR w P α cells leds) : Via ρ (ρ.map fun i => α.getD i 0) α := by
  refine ⟨by simp, fun j i h => ?_⟩
  have hi : i < α.length := R.1 ▸ S.lt (List.mem_of_getElem? h)
  refine ⟨α[i], ?_, List.getElem?_eq_getElem hi⟩
  simp [h, List.getD_eq_getElem?_getD, List.getElem?_eq_getElem hi]
theorem Sel.objs (S : Sel ρ cells cells') (R : CellsR w P α cells leds) : CellsR w P (ρ.map fun i => α.getD i 0) cells' (fun j => leds (ρ.getD j 0)) := by
  have V := S.via R
  refine ⟨by rw [List.length_map, S.len], fun j o a ho ha => ?_⟩
  have hj : j < ρ.length := S.len ▸ (List.getElem?_eq_some_iff.mp ho).1
  have e := List.getElem?_eq_getElem hj
  obtain ⟨o', h1, h2, h3⟩ := S.at e
  rw [ho] at h1
  cases h1
  obtain ⟨b, hb, hc⟩ := V.2 j _ e
  rw [ha] at hb
  cases hb
  have e' : ρ.getD j 0 = ρ[j] := by rw [List.getD_eq_getElem?_getD, e]; rfl
  show CellR w P _ o a (leds (ρ.getD j 0))
  rw [e']
  exact (R.2 _ _ _ h2 hc).back V h3
end
theorem flatMap_idx {A B : Type} {f : A → List B} {g : Nat → List B} : ∀ (l : List A) (s : Nat), (∀ (j : Nat) (x : A), l[j]? = some x → f x = g (s + j)) → l.flatMap f = (List.range' s l.length).flatMap g
  | [], _, _ => rfl
  | x :: l, s, h => by
    rw [List.flatMap_cons, List.length_cons, List.range'_succ, List.flatMap_cons, h 0 x rfl, flatMap_idx l (s + 1) fun j y e => ?_]
    · rfl
    · rw [h (j + 1) y (by simpa using e)]
      congr 1
      omega
/-- the rest of the numbers -/
noncomputable def others (n : Nat) (ρ : List Nat) : List Nat := (List.range n).filter fun i => !ρ.contains i
theorem range_split {n : Nat} {ρ : List Nat} (nd : ρ.Nodup) (h : ∀ i ∈ ρ, i < n) : (List.range n).Perm (ρ ++ others n ρ) := by
  refine (List.perm_ext_iff_of_nodup List.nodup_range ?_).mpr fun i => ?_
  · refine List.nodup_append.mpr ⟨nd, List.nodup_range.filter _, fun a ha b hb e => ?_⟩
    subst e
    have := (List.mem_filter.mp hb).2
    simp [List.contains_iff_mem.mpr ha] at this
    exact this ha
  · simp only [List.mem_append, others, List.mem_filter, List.mem_range]
    by_cases e : i ∈ ρ
    · simp [e, h i e]
    · simp [e]
theorem mem_others {n i : Nat} {ρ : List Nat} (h : i ∈ others n ρ) : i < n ∧ i ∉ ρ := by
  obtain ⟨a, b⟩ := List.mem_filter.mp h
  refine ⟨List.mem_range.mp a, fun hc => ?_⟩
  simp at b
  exact b hc
theorem allL_split {n : Nat} {ρ : List Nat} {leds : Nat → Led} (nd : ρ.Nodup) (h : ∀ i ∈ ρ, i < n) : (allL n leds).Perm (allL ρ.length (fun j => leds (ρ.getD j 0)) ++ (others n ρ).flatMap leds) := by
  refine ((range_split nd h).flatMap_right leds).trans ?_
  rw [List.flatMap_append, flatMap_idx ρ 0 (g := fun j => leds (ρ.getD j 0)) fun j x e => by simp [List.getD_eq_getElem?_getD, e], ← List.range_eq_range']
/-- the objects put back, the new ones behind -/
noncomputable def putAll : List AO → List Nat → List AO → List AO
  | cells, [], os => cells ++ os
  | cells, i :: ρ, o :: os => putAll (cells.set i o) ρ os
  | cells, _ :: _, [] => cells
noncomputable def ext (ρ : List Nat) (n k : Nat) : List Nat := ρ ++ List.range' n (k - ρ.length)
theorem putAll_len : ∀ (ρ : List Nat) (os cells : List AO), ρ.length ≤ os.length → (putAll cells ρ os).length = cells.length + (os.length - ρ.length)
  | [], os, cells, _ => by simp [putAll]
  | i :: ρ, o :: os, cells, h => by
    rw [putAll, putAll_len ρ os _ (Nat.le_of_succ_le_succ h), List.length_set]
    simp
theorem putAll_get : ∀ (ρ : List Nat) (os cells : List AO), ρ.Nodup → (∀ i ∈ ρ, i < cells.length) → ρ.length ≤ os.length → ∀ i : Nat, (putAll cells ρ os)[i]? = if i ∈ ρ then os[ρ.idxOf i]? else if i < cells.length then cells[i]? else os[i - cells.length + ρ.length]?
  | [], os, cells, _, _, _, i => by
    simp only [putAll, List.not_mem_nil, if_false, List.length_nil, Nat.add_zero]
    split
    · rename_i h; rw [List.getElem?_append_left h]
    · rename_i h; rw [List.getElem?_append_right (Nat.le_of_not_lt h)]
  | k :: ρ, o :: os, cells, nd, hl, hz, i => by
    obtain ⟨hk, nd⟩ := List.nodup_cons.mp nd
    rw [putAll, putAll_get ρ os _ nd (fun j hj => by rw [List.length_set]; exact hl j (.tail _ hj)) (Nat.le_of_succ_le_succ hz) i, List.length_set]
    by_cases e : i = k
    · subst e
      rw [if_neg hk, if_pos (hl i (.head _)), if_pos (.head _), List.getElem?_set_self (hl i (.head _)), List.idxOf_cons_self]
      rfl
    · by_cases hm : i ∈ ρ
      · rw [if_pos hm, if_pos (.tail _ hm), List.idxOf_cons, beq_false_of_ne (Ne.symm e)]
        rfl
      · have hn : ¬ i ∈ k :: ρ := fun h => (List.mem_cons.mp h).elim e hm
        rw [if_neg hm, if_neg (c := i ∈ k :: ρ) hn]
        by_cases hlt : i < cells.length
        · rw [if_pos hlt, if_pos hlt, List.getElem?_set_ne (Ne.symm e)]
        · rw [if_neg hlt, if_neg hlt]
          rfl
end
section
section
variable {κ : Bool} {M : Model} {A : Around} {E : Value → Shared → Prop} {s : Shared} {env : Env} {pos : Pos} {f : Value} {first : List Value} {Q : Value → Shared → Prop}
theorem evalArgs_M {l : List (Bool × Sem Value)} {Q : Args → Shared → Prop} (hp : l.any (·.1) = false) (h : wpM κ M A (spliced l) (fun vs s' => Q ⟨vs, []⟩ s') E s) : wpM κ M A (evalArgs f true l []) Q E s := by
  unfold evalArgs
  cases l with
  | nil =>
    show wpM κ M A (spliced [] >>= _) Q E s
    refine wpM_bind (wpM_idE h fun vs s' q => wpM_bind (wpM_pure ?_))
    exact wpM_holding (wpM_bind (wpM_pure (wpM_bind (wpM_pure (wpM_pure q)))))
  | cons x r =>
    obtain ⟨b, t⟩ := x
    simp only [List.any_cons, Bool.or_eq_false_iff] at hp
    obtain ⟨rfl, _⟩ := hp
    show wpM κ M A (spliced ((false, t) :: r) >>= _) Q E s
    refine wpM_bind (wpM_idE h fun vs s' q => wpM_bind (wpM_pure ?_))
    exact wpM_holding (wpM_bind (wpM_pure (wpM_bind (wpM_pure (wpM_pure q)))))
theorem callWith_M {P : Heap → Prop} {es : List PySem.Expr} (hp : (backTo pos (starEach es env)).any (·.1) = false) (hk : ∀ h, P h → ∃ k, (k = Keeper.frame ∨ k = Keeper.machine ∨ k = Keeper.boundFrame) ∧ Looks M h (keeperOf f) k)
    (h : wpM κ M A (spliced (backTo pos (starEach es env))) (fun vs s₁ => P s₁.heap ∧ wpM κ M A (call f (first ++ vs)) Q E s₁) E s) : wpM κ M A (callWith pos f first (backTo pos (starEach es env)) []) Q E s :=
  wpM_callWith_of (P := P) (by rw [hp]; rfl) hk (evalArgs_M hp h)
end
/-- a thing that is called without ado -/
inductive Plain (w : World) : Value → Prop
  | own {f : Value} : keepIn (KF w.params) f = true → Plain w f
  | blt {id : String} : Plain w (.builtin id)
  | type {T : String} : Plain w (.type T)
theorem Plain.looks {M : Model} {w : World} {f : Value} (x : Plain w f) {h : Heap} (X : (KF w.params).In h) : ∃ k, (k = Keeper.frame ∨ k = Keeper.machine ∨ k = Keeper.boundFrame) ∧ Looks M h (keeperOf f) k := by
  cases x with
  | own e => exact keeps_K e _ X
  | blt => exact ⟨.machine, .inr (.inl rfl), Looks.of_pure rfl⟩
  | type => exact ⟨.machine, .inr (.inl rfl), Looks.of_pure rfl⟩
section
variable {w : World} {κ : Bool} {sc : Scope} {lv : Nat} {Γ : Cx w κ sc lv} {E : Value → Shared → Prop} {loc : Loc} {cells : List AO} {Q : AV → List AO → Prop} {pos : Pos}
/-- the call of f upon values -/
noncomputable def OC (Γ : Cx w κ sc lv) (E : Value → Shared → Prop) (f : Value) (as : List AV) (loc : Loc) (cells : List AO) (Q : AV → List AO → Prop) : Prop :=
  ∀ h tk α F vs, Rel Γ loc cells α F h → AVRs (PF Γ.P F) α as vs → wpM κ (model PG w) Γ.A (call f vs) (Out Γ loc α F Q) E (Γ.st h tk)
theorem Rel.in {α : List Addr} {F : Led} {h : Heap} (R : Rel Γ loc cells α F h) : (KF w.params).In h := let ⟨gr, tn, _, _, _, _, R⟩ := R; (Γ.turn gr tn).X.keeps R.fr.keep
theorem callWith_T {f : Value} {fs : List AV} {es : List PySem.Expr} {α : List Addr} {F : Led} {h : Heap} {tk : Nat} {first : List Value} (hf : Plain w f) (hp : (backTo pos (starEach es Γ.env)).any (·.1) = false) (R : Rel Γ loc cells α F h) (ra : AVRs (PF Γ.P F) α fs first)
    (t : TA Γ E pos es loc cells fun as c => OC Γ E f (fs ++ as) loc c Q) : wpM κ (model PG w) Γ.A (callWith pos f first (backTo pos (starEach es Γ.env)) []) (Out Γ loc α F Q) E (Γ.st h tk) := by
  refine callWith_M (P := fun h => (KF w.params).In h) hp (fun h X => hf.looks X) (wpM_idE (t h tk α F R) ?_)
  rintro vs s' ⟨h₁, tk₁, α₁, F₁, c₁, rfl, p₁, f₁, R₁, rs, rb, q⟩
  have app : ∀ {xs us ys vs}, AVRs (PF Γ.P F₁) α₁ xs us → AVRs (PF Γ.P F₁) α₁ ys vs → AVRs (PF Γ.P F₁) α₁ (xs ++ ys) (us ++ vs) := by
    intro xs
    induction xs with
    | nil => intro us ys vs a b; cases us with | nil => exact b | cons _ _ => exact a.elim
    | cons x xs ih => intro us ys vs a b; cases us with | nil => exact a.elim | cons u us => exact ⟨a.1, ih a.2 b⟩
  exact ⟨R₁.in, wpM_idE (q h₁ tk₁ α₁ F₁ _ R₁ (app (ra.mono (pf_tail f₁) p₁) rb)) fun _ _ o => o.mono p₁ f₁ fun _ _ _ _ _ x => x⟩
theorem TE_callK {x : PySem.Str} {p : Pos} {es : List PySem.Expr} {f : Value} (hx : sc.names.lookup x = some .globalImplicit) (e : nsIn (KF w.params) mainGlobals x = some (some f)) (hd : (x == ("__debug__" : PySem.Str)) = false) (hf : Plain w f) (hp : (backTo pos (starEach es Γ.env)).any (·.1) = false)
    (h : TA Γ E pos es loc cells fun as c => OC Γ E f as loc c Q) : TE Γ E (.Call (.Name x p) es [] pos) loc cells Q := by
  rintro h₀ tk α F R
  have R' := R
  obtain ⟨gr, tn, m, val, cvl, leds, R₀⟩ := R
  exact wpM_Call_Name (nameG_K R₀.fr (Γ.turn gr tn).X (topRead_of (Γ.turn gr tn).T) e (callWith_T (fs := []) hf hp R' trivial h) rfl Γ.hk hx hd)
theorem TE_callB {x : PySem.Str} {p : Pos} {es : List PySem.Expr} {f : Value} (hx : sc.names.lookup x = some .globalImplicit) (e : nsIn (KF w.params) mainGlobals x = some none) (hv : bootBuiltins x = some f) (hn : x ≠ "__name__") (hd : (x == ("__debug__" : PySem.Str)) = false) (hf : Plain w f)
    (hp : (backTo pos (starEach es Γ.env)).any (·.1) = false) (h : TA Γ E pos es loc cells fun as c => OC Γ E f as loc c Q) : TE Γ E (.Call (.Name x p) es [] pos) loc cells Q := by
  rintro h₀ tk α F R
  have R' := R
  obtain ⟨gr, tn, m, val, cvl, leds, R₀⟩ := R
  exact wpM_Call_Name (Name_function_global Γ.hk hx (loadGlobal_builtin (env := Γ.env) ((Γ.turn gr tn).T.g.keeps R₀.fr.keep) (mg_none_of (Γ.turn gr tn).X (Γ.turn gr tn).T.g e) ((Γ.turn gr tn).T.b.keeps R₀.fr.keep) (((Γ.turn gr tn).T.builtins x hn).trans hv) (callWith_T (fs := []) hf hp R' trivial h)) hd)
/-- the method of an object -/
noncomputable def OM (Γ : Cx w κ sc lv) (E : Value → Shared → Prop) (name : PySem.Str) (a : AV) (f : Value) (loc : Loc) (cells : List AO) : Prop :=
  ∀ (pl : Sem Bool) h tk α F u (K : Value × List Value → Shared → Prop), Rel Γ loc cells α F h → AVR (PF Γ.P F) α a u → K (f, [u]) (Γ.st h tk) → wpAny (model PG w) Γ.A (getMethod u name pl) K E (Γ.st h tk)
theorem TE_meth {o : PySem.Expr} {name : PySem.Str} {apos : Pos} {es : List PySem.Expr} {f : Value} {pl : Sem Bool} (hp : (backTo pos (starEach es Γ.env)).any (·.1) = false)
    (he : eval (.Call (.Attribute o name apos) es [] pos) Γ.env = (do
      let ov ← eval o Γ.env
      standAt apos.atName
      let (f, first) ← holding [ov] (getMethod ov name pl)
      callWith pos f first (backTo pos (starEach es Γ.env)) (backToKw pos (keywordEach [] Γ.env))))
    (h : TE Γ E o loc cells fun a c₁ => OM Γ E name a f loc c₁ ∧ Plain w f ∧ TA Γ E pos es loc c₁ fun as c => OC Γ E f (a :: as) loc c Q) : TE Γ E (.Call (.Attribute o name apos) es [] pos) loc cells Q := by
  intro h₀ tk α F R
  rw [he]
  refine wpM_bind (wpM_idE (h h₀ tk α F R) ?_)
  rintro u s' ⟨h₁, tk₁, α₁, F₁, c₁, rfl, p₁, f₁, R₁, a, ra, q₁, hf, q₂⟩
  refine wpM_bind (wpM_standAt (wpM_then (wpAny_holding (q₁ pl h₁ tk₁ α₁ F₁ u _ R₁ ra ?_))))
  exact wpM_idE (callWith_T (fs := [a]) hf hp R₁ ⟨ra, trivial⟩ q₂) fun _ _ o => o.mono p₁ f₁ fun _ _ _ _ _ x => x
end
section
variable {w : World} {κ : Bool} {sc : Scope} {lv : Nat} {Γ : Cx w κ sc lv} {E : Value → Shared → Prop} {loc : Loc} {cells : List AO} {Q : AV → List AO → Prop}
theorem ext_get {ρ : List Nat} {n k j : Nat} (h : j < k) : (ext ρ n k)[j]? = if j < ρ.length then ρ[j]? else some (n + (j - ρ.length)) := by
  unfold ext
  split
  · rename_i e; rw [List.getElem?_append_left e]
  · rename_i e
    rw [List.getElem?_append_right (Nat.le_of_not_lt e), List.getElem?_range' (by omega)]
    simp
theorem ext_len {ρ : List Nat} {n k : Nat} (h : ρ.length ≤ k) : (ext ρ n k).length = k := by
  unfold ext
  rw [List.length_append, List.length_range']
  omega
noncomputable abbrev newL (n : Nat) (ρ : List Nat) (leds leds' : Nat → Led) (i : Nat) : Led := if i ∈ ρ then leds' (ρ.idxOf i) else if i < n then leds i else leds' (i - n + ρ.length)
theorem allL_new {n k : Nat} {ρ : List Nat} {leds leds' : Nat → Led} (nd : ρ.Nodup) (hlt : ∀ i ∈ ρ, i < n) (hz : ρ.length ≤ k) : (allL (n + (k - ρ.length)) (newL n ρ leds leds')).Perm (allL k leds' ++ (others n ρ).flatMap leds) := by
  have e1 : allL (n + (k - ρ.length)) (newL n ρ leds leds') = allL n (newL n ρ leds leds') ++ (List.range' n (k - ρ.length)).flatMap (newL n ρ leds leds') := by
    unfold allL
    rw [List.range_eq_range', List.range_eq_range', ← List.flatMap_append]
    congr 1
    have := @List.range'_append 0 n (k - ρ.length) 1
    simp only [Nat.one_mul, Nat.zero_add] at this
    exact this.symm
  have e2 : allL k leds' = allL ρ.length leds' ++ (List.range' ρ.length (k - ρ.length)).flatMap leds' := by
    unfold allL
    rw [List.range_eq_range', List.range_eq_range', ← List.flatMap_append]
    congr 1
    have := @List.range'_append 0 ρ.length (k - ρ.length) 1
    simp only [Nat.one_mul, Nat.zero_add] at this
    rw [this]
    congr 1
    omega
  have e3 : (List.range' n (k - ρ.length)).flatMap (newL n ρ leds leds') = (List.range' ρ.length (k - ρ.length)).flatMap leds' := by
    rw [flatMap_idx (f := newL n ρ leds leds') (g := leds') _ ρ.length fun j x e => ?_, List.length_range']
    have hj : j < k - ρ.length := by have := (List.getElem?_eq_some_iff.mp e).1; simpa using this
    rw [List.getElem?_range' hj] at e
    cases e
    unfold newL
    rw [if_neg fun h => by have := hlt _ h; omega, if_neg (by omega)]
    congr 1
    omega
  have e4 : allL ρ.length (fun j => newL n ρ leds leds' (ρ.getD j 0)) = allL ρ.length leds' := flatMap_same fun j hj => by
    have hj := List.mem_range.mp hj
    have e : ρ.getD j 0 = ρ[j] := by rw [List.getD_eq_getElem?_getD, List.getElem?_eq_getElem hj]; rfl
    show newL n ρ leds leds' (ρ.getD j 0) = leds' j
    unfold newL
    rw [e, if_pos (List.getElem_mem hj), nd.idxOf_getElem j hj]
  have e5 : (others n ρ).flatMap (newL n ρ leds leds') = (others n ρ).flatMap leds := flatMap_same fun i hi => by
    obtain ⟨h1, h2⟩ := mem_others hi
    unfold newL
    rw [if_neg h2, if_pos h1]
  have p := allL_split (leds := newL n ρ leds leds') nd hlt
  rw [e4, e5] at p
  rw [e1, e2, e3]
  refine (p.append_right _).trans ?_
  rw [List.append_assoc, List.append_assoc]
  exact List.Perm.append_left _ List.perm_append_comm
/-- a contract at work -/
theorem OC_canG {τ κ' : Bool} {lv' : Nat} {f : Addr} {args as : List AV} {cells' : List AO} {Q' : AV → List AO → Prop} {err : Prop} (C : CanG τ w κ' lv' f args cells' Q' err) (hτ : τ = false ∨ Γ.fs = Γ.fr₀) (ρ : List Nat) (hκ : κ' = false ∨ κ' = κ) (hlv : lv' < lv) (hE : err → Esc Γ E err)
    (ha : as = args.map (AV.ren ρ)) (hw : args.all (AV.wf ρ.length) = true) (S : Sel ρ cells cells') (h : ∀ r c, Q' r c → ρ.length ≤ c.length → Q (r.ren (ext ρ cells.length c.length)) (putAll cells ρ (c.map (AO.ren (ext ρ cells.length c.length))))) :
    OC Γ E (.ref f) as loc cells Q := by
  rintro h₀ tk α F vs ⟨gr, tn, m, val, cvl, leds, R⟩ va
  subst ha
  have hlt := fun i hi => S.lt (i := i) hi
  have V := S.via R.cr
  have pm := (allL_split (leds := leds) S.nd hlt)
  generalize hmi : allL ρ.length (fun j => leds (ρ.getD j 0)) = mine at pm
  generalize hot : (others cells.length ρ).flatMap leds = rest at pm
  have nd := R.nd.perm (pm.append_right cvl)
  rw [List.append_assoc] at nd
  have nd3 : Dist mine ∧ Dist (rest ++ cvl) ∧ ∀ p ∈ mine, ∀ q ∈ rest ++ cvl, p.1 ≠ q.1 := List.pairwise_append.mp nd
  have inX : ∀ p, p ∈ mine ∨ p ∈ rest ∨ p ∈ cvl ↔ p ∈ allL cells.length leds ++ cvl := fun p => by
    rw [List.mem_append, pm.mem_iff, List.mem_append, or_assoc]
  have Nm : News gr Γ.L h₀ mine := fun p hp => R.news p (List.mem_append_left _ ((inX p).mp (.inl hp)))
  have offm : ∀ {b : Addr} {o : Obj}, h₀.get? b = some o → (∀ p ∈ mine, p.1 ≠ b) → (hid h₀ mine).get? b = some o := fun e hn => hid_get e hn
  have oth : ∀ p, p ∈ rest ∨ p ∈ cvl ∨ p ∈ F → (hid h₀ mine).get? p.1 = some p.2 := fun p hp => by
    rcases hp with hp | hp | hp
    · exact offm (R.news p (List.mem_append_left _ ((inX p).mp (.inr (.inl hp))))).1 fun q hq => nd3.2.2 q hq p (List.mem_append_left _ hp)
    · exact offm (R.news p (List.mem_append_left _ ((inX p).mp (.inr (.inr hp))))).1 fun q hq => nd3.2.2 q hq p (List.mem_append_right _ hp)
    · exact offm (R.news p (List.mem_append_right _ hp)).1 fun q hq => R.ap q ((inX q).mp (.inl hq)) p hp
  have st : ∀ b o, gr.get? b = some o → (hid h₀ mine).get? b = some o := hid_stays R.fr Nm
  have FG := hid_fr R.fr Nm
  have Lno : gr.get? Γ.L = none := Heap.get?_none_of_le R.fr.above
  have frA : ∀ b, b ∈ framesOf Γ.outA → b ≠ Γ.L → b ∈ Γ.fr₀ := fun b hb hn => (Γ.hout b hb).resolve_left hn
  have frN : ∀ b, b ∈ Γ.fr₀ → gr.get? b ≠ none := fun b hb e => by
    obtain ⟨o, e'⟩ := ((Γ.turn gr tn).hfr b hb).2
    rw [show gr.get? b = some o from e'] at e; cases e
  have othF : ∀ p, p ∈ rest ∨ p ∈ cvl ∨ p ∈ F → p.1 ∉ framesOf Γ.outA := fun p hp hb => by
    have z : h₀.get? p.1 = some p.2 ∧ p.1 ≠ Γ.L ∧ gr.get? p.1 = none := by
      rcases hp with hp | hp | hp
      · exact R.news p (List.mem_append_left _ ((inX p).mp (.inr (.inl hp))))
      · exact R.news p (List.mem_append_left _ ((inX p).mp (.inr (.inr hp))))
      · exact R.news p (List.mem_append_right _ hp)
    exact frN _ (frA _ hb z.2.1) z.2.2
  have C' := C Γ.mean Γ.mg Γ.mb Γ.dp Γ.un Γ.gd Γ.outA Γ.base (hid h₀ mine) (Γ.st h₀ tk) vs (ρ.map fun i => α.getD i 0) (fun j => leds (ρ.getD j 0)) (PF Γ.P F)
    ((Γ.turn gr tn).hB gr .refl h₀ m mine R.fr Nm) (fun b o e => hid_of e) (Nat.le_of_eq (hideAll_size _ _)) Γ.Xb Γ.Tb (fun a o x => x.elim (fun x => ⟨st a o ((Γ.turn gr tn).hP a o x).1, fun hb => by
      by_cases e : a = Γ.L
      · have := ((Γ.turn gr tn).hP a o x).1
        rw [e, show (Γ.turn gr tn).h₀.get? Γ.L = none from Lno] at this; cases this
      · exact (Γ.hP a o x).2 (frA a hb e)⟩) fun x => ⟨oth (a, o) (.inr (.inr x)), othF (a, o) (.inr (.inr x))⟩)
    (by rw [S.len, hmi]; exact fun p hp => ⟨(Nm p hp).1, hideAll_none _ (List.mem_map_of_mem hp)⟩) (by rw [S.len, hmi]; exact nd3.1) (S.objs R.cr) (va.back V hw) (by have := Γ.hdp; omega) (by have := Γ.hun; omega)
  have C'' : codeM κ (model PG w) Γ.A (.call (.ref f) ⟨vs, []⟩) (CanOut τ w Γ.base (hid h₀ mine) Γ.outA (Γ.st h₀ tk) (ρ.map fun i => α.getD i 0) (PF Γ.P F) Q' err) (Γ.st h₀ tk) := by
    rcases hκ with rfl | rfl
    · exact codeM_up C'
    · exact C'
  refine wpM_call (codeM_mono C'' ?_)
  rintro r s' (⟨g', v, x, L', m', h', tk', F', leds', α', cells'', T', rfl, rfl, Fr', News', Dist', Apart', Pre', CR', ra, q⟩ | ⟨he, e, h', tk', rfl, rfl, Rz, U⟩)
  · dsimp only
    have gUp : ∀ b o, (hid h₀ mine).get? b = some o → g'.get? b ≠ none := fun b o e q => by
      obtain ⟨sl, e'⟩ := T'.up e
      rw [e'] at q; cases q
    have nT : ∀ b, b ∉ framesOf Γ.outA → b ∉ turned τ Γ.outA := fun b hb hm => by
      unfold turned at hm
      split at hm
      · exact hb hm
      · exact absurd hm List.not_mem_nil
    have hkp : ∀ b o, (hid h₀ mine).get? b = some o → b ∉ framesOf Γ.outA → h'.get? b = some o := fun b o e hb => Fr'.keep b o (T'.other b o e (nT b hb))
    obtain ⟨T₂, S₂⟩ := kts_turn_at (h := h') (fs := Γ.fs) (g := gr) (fun b hb => ((Γ.turn gr tn).hfr b (Γ.hfs b hb)).2) (fun b o e hb => Fr'.keep b o (T'.other b o (st b o e) fun hm => by
      unfold turned at hm
      split at hm
      · rename_i hτ'
        have hL : b ≠ Γ.L := fun q => by rw [q, Lno] at e; cases e
        rcases hτ with hτ | hτ
        · rw [hτ] at hτ'; cases hτ'
        · exact hb (hτ ▸ frA b hm hL)
      · exact absurd hm List.not_mem_nil)) (fun b o e _ => by
      obtain ⟨sl, e'⟩ := T'.up (st b o e)
      exact ⟨sl, Fr'.keep _ _ e'⟩)
    generalize ktsHeap h' Γ.fs gr = g₂ at T₂ S₂
    have F₂ : Fr g₂ Γ.L h' m := by
      obtain ⟨oL, es, ep, hL, hd, hk, hf⟩ := FG.ns
      obtain ⟨sl, e'⟩ := T'.up hL
      exact ⟨⟨_, es, ep, Fr'.keep _ _ e', hd, hk, hf⟩, S₂, by rw [T₂.size]; exact R.fr.above⟩
    have hz : ρ.length ≤ cells''.length := by
      rw [← CR'.1]
      cases hρ : ρ.length with
      | zero => exact Nat.zero_le _
      | succ n =>
        have hn : n < (ρ.map fun i => α.getD i 0).length := by rw [List.length_map]; omega
        exact (List.getElem?_eq_some_iff.mp (Pre' n _ (List.getElem?_eq_getElem hn))).1
    have hk' := CR'.1
    have pfp : ∀ a o, PF (PF Γ.P F) F' a o → PF Γ.P (F ++ F') a o := fun a o x => x.elim (fun x => x.imp id fun y => List.mem_append_left _ y) fun y => .inr (List.mem_append_right _ y)
    have pf0 : ∀ a o, PF Γ.P F a o → PF Γ.P (F ++ F') a o := fun a o x => x.imp id fun y => List.mem_append_left _ y
    have preN : Pre α (α ++ α'.drop ρ.length) := fun i a e => by rw [List.getElem?_append_left (List.getElem?_eq_some_iff.mp e).1]; exact e
    have V' : Via (ext ρ cells.length cells''.length) α' (α ++ α'.drop ρ.length) := by
      refine ⟨by rw [ext_len hz, hk'], fun j i e => ?_⟩
      have hj : j < cells''.length := by have := (List.getElem?_eq_some_iff.mp e).1; rwa [ext_len hz] at this
      rw [ext_get hj] at e
      split at e
      · obtain ⟨a, h1, h2⟩ := V.2 j i e
        exact ⟨a, Pre' j a h1, preN i a h2⟩
      · rename_i hjn
        cases e
        refine ⟨α'[j]'(by omega), List.getElem?_eq_getElem _, ?_⟩
        rw [List.getElem?_append_right (by rw [R.cr.1]; omega), List.getElem?_drop, R.cr.1, show ρ.length + (cells.length + (j - ρ.length) - cells.length) = j from by omega]
        exact List.getElem?_eq_getElem _
    have hlen : (putAll cells ρ (cells''.map (AO.ren (ext ρ cells.length cells''.length)))).length = cells.length + (cells''.length - ρ.length) := by rw [putAll_len _ _ _ (by simpa using hz)]; simp
    have pN : (allL (putAll cells ρ (cells''.map (AO.ren (ext ρ cells.length cells''.length)))).length (newL cells.length ρ leds leds') ++ cvl).Perm (allL cells''.length leds' ++ (rest ++ cvl)) := by
      rw [hlen, ← List.append_assoc, ← hot]
      exact (allL_new S.nd hlt hz).append_right _
    have apart : ∀ p ∈ allL cells''.length leds', ∀ q, q ∈ rest ∨ q ∈ cvl ∨ q ∈ F → p.1 ≠ q.1 := fun p hp q hq e => by
      have h1 := (News' p (List.mem_append_left _ hp)).2.2
      rw [e] at h1
      exact gUp _ _ (oth q hq) h1
    have newsN : ∀ p, p ∈ allL cells''.length leds' ∨ p ∈ F' → h'.get? p.1 = some p.2 ∧ p.1 ≠ Γ.L ∧ g₂.get? p.1 = none := fun p hp => by
      have z := News' p (List.mem_append.mpr hp)
      refine ⟨z.1, fun e => ?_, T₂.none_ _ ?_⟩
      · obtain ⟨oL, es, ep, hL, _⟩ := FG.ns
        exact gUp _ _ hL (e ▸ z.2.2)
      · cases q : gr.get? p.1 with
        | none => rfl
        | some o => exact absurd z.2.2 (gUp _ _ (st _ _ q))
    have keepO : ∀ p, p ∈ rest ∨ p ∈ cvl ∨ p ∈ F → h'.get? p.1 = some p.2 ∧ p.1 ≠ Γ.L ∧ g₂.get? p.1 = none := fun p hp => by
      refine ⟨hkp _ _ (oth p hp) (othF p hp), ?_⟩
      have z : p.1 ≠ Γ.L ∧ gr.get? p.1 = none := by
        rcases hp with hp | hp | hp
        · exact (R.news p (List.mem_append_left _ ((inX p).mp (.inr (.inl hp))))).2
        · exact (R.news p (List.mem_append_left _ ((inX p).mp (.inr (.inr hp))))).2
        · exact (R.news p (List.mem_append_right _ hp)).2
      exact ⟨z.1, T₂.none_ _ z.2⟩
    refine ⟨h', tk', α ++ α'.drop ρ.length, F ++ F', putAll cells ρ (cells''.map (AO.ren (ext ρ cells.length cells''.length))), rfl, preN, fun p hp => List.mem_append_left _ hp, ?_, x.ren _, (ra.mono pfp .rfl).into V', h x cells'' q hz⟩
    refine ⟨g₂, tn.trans T₂, m, val, cvl, newL cells.length ρ leds leds', F₂, fun p hp => ?_, ?_, fun p hp q hq => ?_, ⟨?_, fun i o a ho ha => ?_⟩, fun x c e => ?_, R.lo, fun x v ex => ?_, R.pre.trans preN⟩
    · rcases List.mem_append.mp hp with hp | hp
      · rcases List.mem_append.mp (pN.mem_iff.mp hp) with hp | hp
        · exact newsN p (.inl hp)
        · exact keepO p ((List.mem_append.mp hp).imp id .inl)
      · rcases List.mem_append.mp hp with hp | hp
        · exact keepO p (.inr (.inr hp))
        · exact newsN p (.inr hp)
    · refine Dist.perm ?_ pN.symm
      exact List.pairwise_append.mpr ⟨Dist', nd3.2.1, fun p hp q hq => apart p hp q ((List.mem_append.mp hq).imp id .inl)⟩
    · rcases List.mem_append.mp (pN.mem_iff.mp hp) with hp | hp
      · rcases List.mem_append.mp hq with hq | hq
        · exact apart p hp q (.inr (.inr hq))
        · exact Apart' p hp q hq
      · rcases List.mem_append.mp hq with hq | hq
        · refine R.ap p ((inX p).mp ?_) q hq
          exact .inr (List.mem_append.mp hp)
        · intro e
          have h1 := (News' q (List.mem_append_right _ hq)).2.2
          rw [← e] at h1
          exact gUp _ _ (oth p ((List.mem_append.mp hp).imp id .inl)) h1
    · rw [List.length_append, List.length_drop, hlen, R.cr.1, hk']
    · rw [putAll_get ρ _ cells S.nd hlt (by simpa using hz)] at ho
      have got : ∀ (j : Nat), (ext ρ cells.length cells''.length)[j]? = some i → (cells''.map (AO.ren (ext ρ cells.length cells''.length)))[j]? = some o → CellR w (PF Γ.P (F ++ F')) (α ++ α'.drop ρ.length) o a (leds' j) := fun j e1 e2 => by
        obtain ⟨a', h1, h2⟩ := V'.2 j i e1
        rw [ha] at h2
        cases h2
        rw [List.getElem?_map] at e2
        obtain ⟨o₀, h3, rfl⟩ := Option.map_eq_some_iff.mp e2
        exact ((CR'.2 j o₀ a h3 h1).mono pfp .rfl).into V'
      show CellR _ _ _ o a (if i ∈ ρ then _ else _)
      split
      · rename_i hi
        rw [if_pos hi] at ho
        have hj : ρ.idxOf i < ρ.length := List.idxOf_lt_length_iff.mpr hi
        refine got _ ?_ ho
        rw [ext_get (by omega), if_pos hj, List.getElem?_eq_getElem hj, List.getElem_idxOf]
      · rename_i hi
        rw [if_neg hi] at ho
        split
        · rename_i hl
          rw [if_pos hl] at ho
          rw [List.getElem?_append_left (by rw [R.cr.1]; exact hl)] at ha
          exact (R.cr.2 i o a ho ha).mono pf0 preN
        · rename_i hl
          rw [if_neg hl] at ho
          refine got _ ?_ ho
          have hb : i - cells.length + ρ.length < cells''.length := by have := (List.getElem?_eq_some_iff.mp ho).1; simpa using this
          rw [ext_get hb, if_neg (by omega)]
          congr 1
          omega
    · obtain ⟨o, h1, h2⟩ := R.cv x c e
      refine ⟨o, h1, ?_⟩
      split at h2
      · rename_i ho; rw [if_pos ho]; exact h2
      · rename_i ho
        rw [if_neg ho]
        exact T₂.other c o h2 fun hm => by rw [Γ.hown (by simpa using ho)] at hm; exact absurd hm List.not_mem_nil
    · obtain ⟨u, h1, h2⟩ := R.lr x v ex
      exact ⟨u, h1, h2.mono pf0 preN⟩
  · dsimp only
    exact (hE he).call he gr tn e h' tk' _ m FG Rz U
/-- the same for a contract that turns nothing -/
theorem OC_can {κ' : Bool} {lv' : Nat} {f : Addr} {args as : List AV} {cells' : List AO} {Q' : AV → List AO → Prop} {err : Prop} (C : Can w κ' lv' f args cells' Q' err) (ρ : List Nat) (hκ : κ' = false ∨ κ' = κ) (hlv : lv' < lv) (hE : err → Esc Γ E err)
    (ha : as = args.map (AV.ren ρ)) (hw : args.all (AV.wf ρ.length) = true) (S : Sel ρ cells cells') (h : ∀ r c, Q' r c → ρ.length ≤ c.length → Q (r.ren (ext ρ cells.length c.length)) (putAll cells ρ (c.map (AO.ren (ext ρ cells.length c.length))))) :
    OC Γ E (.ref f) as loc cells Q := OC_canG C (.inl rfl) ρ hκ hlv hE ha hw S h
end
end
section
/-- how a body's end is told to its caller: some of the objects (the handed ones first), a list perhaps frozen -/
inductive End (n₀ : Nat) (Q : AV → List AO → Prop) (v : AV) (c : List AO) : Prop
  | same : Q v c → End n₀ Q v c
  | sel (ρ : List Nat) (v' : AV) (c' : List AO) : Sel ρ c c' → v = v'.ren ρ → v'.wf ρ.length = true → (∀ i, i < n₀ → ρ[i]? = some i) → Q v' c' → End n₀ Q v c
  | frz (ρ : List Nat) (k : Nat) (ds : List D) (c' : List AO) : Sel ρ c c' → v = .ref k → c[k]? = some (.list ds) → k ∉ ρ → (∀ i, i < n₀ → ρ[i]? = some i) → Q (.pure (.list ds)) c' → End n₀ Q v c
noncomputable def Fl.val : Fl → AV
  | .ret v => v
  | _ => .pure .none
theorem bind1 {fd : FuncData} {a : PySem.Str} (h : ∀ u s, BindsTo s fd ⟨[u], []⟩ [(a, u)]) : ∀ vs : List Value, vs.length = [a].length → ∀ s, BindsTo s fd ⟨vs, []⟩ ([a].zip vs)
  | [u], _, s => h u s
theorem bind2 {fd : FuncData} {a b : PySem.Str} (h : ∀ u v s, BindsTo s fd ⟨[u, v], []⟩ [(a, u), (b, v)]) : ∀ vs : List Value, vs.length = [a, b].length → ∀ s, BindsTo s fd ⟨vs, []⟩ ([a, b].zip vs)
  | [u, v], _, s => h u v s
theorem bind3 {fd : FuncData} {a b c : PySem.Str} (h : ∀ u v x s, BindsTo s fd ⟨[u, v, x], []⟩ [(a, u), (b, v), (c, x)]) : ∀ vs : List Value, vs.length = [a, b, c].length → ∀ s, BindsTo s fd ⟨vs, []⟩ ([a, b, c].zip vs)
  | [u, v, x], _, s => h u v x s
theorem bind4 {fd : FuncData} {a b c d : PySem.Str} (h : ∀ u v x y s, BindsTo s fd ⟨[u, v, x, y], []⟩ [(a, u), (b, v), (c, x), (d, y)]) : ∀ vs : List Value, vs.length = [a, b, c, d].length → ∀ s, BindsTo s fd ⟨vs, []⟩ ([a, b, c, d].zip vs)
  | [u, v, x, y], _, s => h u v x y s
section
variable {w : World} {κ : Bool} {sc : Scope} {lv : Nat} {Γ : Cx w κ sc lv} {loc : Loc} {cells : List AO} {α : List Addr} {F : Led} {h : Heap} {m val : PySem.Str → Option Value} {cvl : Led} {leds : Nat → Led}
theorem sel_led {ρ : List Nat} {c' : List AO} (S : Sel ρ cells c') (R : Rel' Γ loc cells α F h m val cvl leds) :
    (∀ p ∈ allL c'.length (fun j => leds (ρ.getD j 0)), p ∈ allL cells.length leds) ∧ Dist (allL c'.length (fun j => leds (ρ.getD j 0))) ∧ ∀ k, k < cells.length → k ∉ ρ → ∀ p ∈ allL c'.length (fun j => leds (ρ.getD j 0)), ∀ q ∈ leds k, p.1 ≠ q.1 := by
  have p := allL_split (leds := leds) S.nd fun i hi => S.lt hi
  have nd := (List.pairwise_append.mp R.nd).1
  have nd' : Dist _ := Dist.perm (X := allL cells.length leds) nd p
  have nd3 := List.pairwise_append.mp nd'
  rw [S.len]
  refine ⟨fun q hq => p.mem_iff.mpr (List.mem_append_left _ hq), nd3.1, fun k hk hn x hx q hq => nd3.2.2 x hx q (List.mem_flatMap.mpr ⟨k, ?_, hq⟩)⟩
  refine List.mem_filter.mpr ⟨List.mem_range.mpr hk, ?_⟩
  simpa using hn
theorem pre_sel {ρ : List Nat} {c' : List AO} {n₀ : Nat} (S : Sel ρ cells c') (R : CellsR w (PF Γ.P F) α cells leds) (hz : Γ.α₀.length ≤ n₀) (hp : ∀ i, i < n₀ → ρ[i]? = some i) (pre : Pre Γ.α₀ α) : Pre Γ.α₀ (ρ.map fun i => α.getD i 0) := fun i a e => by
  have hi : i < n₀ := Nat.lt_of_lt_of_le (List.getElem?_eq_some_iff.mp e).1 hz
  obtain ⟨b, hb, hc⟩ := (S.via R).2 i i (hp i hi)
  rw [pre i a e] at hc
  cases hc
  exact hb
/-- a body's end as a contract tells it -/
theorem can_out {τ : Bool} {base : Heap} {outer : List Env} {s : Shared} {Q : AV → List AO → Prop} {err : Prop} {v : AV} {u : Value} {tk : Nat} (hs : ∀ h tk, Γ.st h tk = { s with heap := h, toks := tk }) (hz : Γ.α₀.length ≤ n₀) (hf : Γ.fs = turned τ outer)
    (R : Rel Γ loc cells α F h) (ra : AVR (PF Γ.P F) α v u) (q : End n₀ Q v cells) : CanOut τ w base Γ.h₀ outer s Γ.α₀ Γ.P Q err (.ok (.ret u)) (Γ.st h tk) := by
  obtain ⟨gr, tn, m, val, cvl, leds, R⟩ := R
  have tn' : KtsTurn (turned τ outer) Γ.h₀ gr := hf ▸ tn
  have sub : ∀ p, p ∈ allL cells.length leds ∨ p ∈ F → p ∈ (allL cells.length leds ++ cvl) ++ F := fun p hp => hp.elim (fun hp => List.mem_append_left _ (List.mem_append_left _ hp)) fun hp => List.mem_append_right _ hp
  cases q with
  | same q =>
    exact .inl ⟨gr, u, v, Γ.L, m, h, tk, F, leds, α, cells, tn', rfl, hs h tk, R.fr, fun p hp => R.news p (sub p (List.mem_append.mp hp)), (List.pairwise_append.mp R.nd).1, fun p hp q hq => R.ap p (List.mem_append_left _ hp) q hq, R.pre, R.cr, ra, q⟩
  | sel ρ v' c' S e wf hp q =>
    subst e
    obtain ⟨s1, s2, _⟩ := sel_led S R
    exact .inl ⟨gr, u, v', Γ.L, m, h, tk, F, _, _, c', tn', rfl, hs h tk, R.fr, fun p hp => R.news p (sub p ((List.mem_append.mp hp).imp (s1 p) id)), s2, fun p hp q hq => R.ap p (List.mem_append_left _ (s1 p hp)) q hq, pre_sel S R.cr hz hp R.pre, S.objs R.cr, ra.back (S.via R.cr) wf, q⟩
  | frz ρ k ds c' S e hk hn hp q =>
    subst e
    obtain ⟨s1, s2, s3⟩ := sel_led S R
    have hkn : k < cells.length := (List.getElem?_eq_some_iff.mp hk).1
    obtain ⟨a, ha, hc⟩ := R.cr.at hk
    obtain ⟨a', ha', rfl⟩ := ra
    rw [ha] at ha'
    cases ha'
    generalize hl : leds k = lk at hc
    cases hc with
    | list r =>
      rename_i ws n
      have hm : (a, listOf ws.toArray n) ∈ allL cells.length leds := List.mem_flatMap.mpr ⟨k, List.mem_range.mpr hkn, by rw [hl]; exact .head _⟩
      have tl : ∀ a o, PF Γ.P F a o → PF Γ.P ((a, listOf ws.toArray n) :: F) a o := fun a o x => x.imp id fun x => .tail _ x
      refine .inl ⟨gr, _, .pure (.list ds), Γ.L, m, h, tk, (a, listOf ws.toArray n) :: F, _, _, c', tn', rfl, hs h tk, R.fr, fun p hp => ?_, s2, fun p hp q hq => ?_, pre_sel S R.cr hz hp R.pre, (S.objs R.cr).mono (pf_tail fun _ x => .tail _ x), ?_, q⟩
      · rcases List.mem_append.mp hp with hp | hp
        · exact R.news p (sub p (.inl (s1 p hp)))
        · rcases List.mem_cons.mp hp with rfl | hp
          · exact R.news _ (sub _ (.inl hm))
          · exact R.news p (sub p (.inr hp))
      · rcases List.mem_cons.mp hq with rfl | hq
        · exact s3 k hkn hn p hp _ (by rw [hl]; exact .head _)
        · exact R.ap p (List.mem_append_left _ (s1 p hp)) q hq
      · exact .list (.inr (.head _)) (r.mono (pf_tail fun _ x => .tail _ x))
end
theorem zip_lookup {P : Addr → Obj → Prop} {α : List Addr} : ∀ {names : List PySem.Str} {as : List AV} {vs : List Value}, AVRs P α as vs → ∀ x v, (names.zip as).lookup x = some v → ∃ u, (names.zip vs).lookup x = some u ∧ AVR P α v u
  | [], _, _, _, _, _, e => by simp at e
  | _ :: _, [], _, _, _, _, e => by simp at e
  | n :: ns, a :: as, u :: us, ⟨h, k⟩, x, v, e => by
    simp only [List.zip_cons_cons, List.lookup] at e ⊢
    cases q : x == n with
    | true => rw [q] at e; cases e; exact ⟨u, rfl, h⟩
    | false => rw [q] at e; exact zip_lookup k x v e
theorem lookup_reverse {β : Type} : ∀ {l : List (PySem.Str × β)}, (l.map (·.1)).Nodup → ∀ x, l.reverse.lookup x = l.lookup x
  | [], _, _ => rfl
  | (n, v) :: r, nd, x => by
    obtain ⟨hn, nd⟩ := List.nodup_cons.mp nd
    have ih := lookup_reverse nd x
    rw [List.reverse_cons, List.lookup_append, ih]
    simp only [List.lookup]
    cases q : x == n with
    | true =>
      have e := eq_of_beq q
      subst e
      have : r.lookup x = none := by
        rw [List.lookup_eq_none_iff]
        intro p hp
        have : x ≠ p.1 := fun e => hn (List.mem_map.mpr ⟨p, hp, e.symm⟩)
        simpa using this
      rw [this]; rfl
    | false => cases r.lookup x <;> rfl
theorem zip_names {β : Type} : ∀ {names : List PySem.Str} {vs : List β}, names.length = vs.length → (names.zip vs).map (·.1) = names
  | [], [], _ => rfl
  | n :: ns, _ :: vs, e => by rw [List.zip_cons_cons, List.map_cons, zip_names (Nat.succ.inj e)]
theorem not_turned {τ : Bool} {l : List Env} {b : Addr} (h : b ∉ framesOf l) : b ∉ turned τ l := fun hm => by
  unfold turned at hm
  split at hm
  · exact h hm
  · exact absurd hm List.not_mem_nil
theorem turned_sub {τ : Bool} {l : List Env} : ∀ b ∈ turned τ l, b ∈ framesOf l := fun b hm => by
  unfold turned at hm
  split at hm
  · exact hm
  · exact absurd hm List.not_mem_nil
theorem below_turn {A : Around} {base g g' : Heap} {outer : List Env} {τ : Bool} (B : Below A base outer g) (t : KtsTurn (turned τ outer) g g') : Below A base outer g' :=
  ⟨B.stack, fun b o e => t.other b o (B.stays b o e) (fun hm => by rw [(B.frames.mem (turned_sub b hm)).1] at e; cases e), B.frames.of_keeps fun b o e _ => by
    obtain ⟨sl, hs⟩ := t.up e
    exact ⟨_, hs, rfl⟩⟩
theorem raised_turn {base g g' h : Heap} {outer : List Env} {τ : Bool} {e C : Addr} (t : KtsTurn (turned τ outer) g g') (R : RaisedG base g' outer e C h) (U : g'.UpToSlots h) : RaisedG base g outer e C h ∧ g.UpToSlots h := by
  obtain ⟨B', a0, k1, k2, k3⟩ := R
  refine ⟨⟨B', a0, k1, fun b o q nm => k2 b o (t.other b o q (not_turned nm)) nm, k3⟩, fun b o q hn => ?_⟩
  obtain ⟨sl, e'⟩ := t.up q
  obtain ⟨sl', e''⟩ := U b _ e' hn
  exact ⟨sl', e''⟩
section
variable {w : World} {κ : Bool} {lv : Nat} {f : Addr} {args : List AV} {cells : List AO} {Q : AV → List AO → Prop} {err : Prop}
    {name qual : PySem.Str} {params : Arguments} {body : List Stmt} {sc : Scope} {dV kV doc pm cdv ct oc : Value} {an od : Option Addr} {osl : Array (Option Value)} {names : List PySem.Str}
theorem enterFG {τ : Bool} (ho : (KF w.params).lookup f = some ⟨oc, od, .func (fnOf name qual params body sc dV kV doc pm an cdv ct), osl⟩) (hcd : codeIn (KF w.params) cdv qual = true)
    (hbind : ∀ vs : List Value, vs.length = names.length → ∀ s, BindsTo s (fnOf name qual params body sc dV kV doc pm an cdv ct) ⟨vs, []⟩ (names.zip vs)) (hloc : names.all (fun y => decide (sc.names.lookup y = some .local)) = true)
    (hn : decide names.Nodup = true) (hlen : args.length = names.length)
    (hco : sc.isCoroutine = false) (hgen : sc.isGenerator = false) (hk : sc.kind = .function) (hcell : ∀ x ∈ sc.names, x.2 ≠ .cell ∧ x.2 ≠ .free) (hl : 0 < lv)
    (h : ∀ (Γ : Cx w κ sc lv) (E : Value → Shared → Prop), Esc Γ E err → Rse Γ E err → PassesOwn (model PG w) Γ.A Γ.env E → Γ.α₀.length ≤ cells.length → (τ = true → ∃ outer, Own Γ outer) → TSs Γ E body (names.zip args) cells fun fl _ c => End cells.length Q fl.val c) : CanG τ w κ lv f args cells Q err := by
  intro mean mg mb dp un gd outer base g s vs α leds P B hg hsz X T hP hm nd CR va hdp hun
  have hvl : vs.length = names.length := va.length ▸ hlen
  have hnd := of_decide_eq_true hn
  have hroom : dp < recursionLimit := by omega
  have hcl : ∀ x ∈ sc.names, x.2 ≠ .cell := fun x hx => (hcell x hx).1
  have hloc' : ∀ y ∈ names.zip vs, sc.names.lookup y.1 = some .local := fun y hy => of_decide_eq_true (List.all_eq_true.mp hloc y.1 (List.of_mem_zip hy).1)
  refine codeM_call_function (fd := fnOf name qual params body sc dV kV doc pm an cdv ct) (body := body) hroom (hg _ _ (B.stays _ _ (X _ _ ho))) rfl hco hgen rfl ((codeRec_of X hcd).keeps fun b o e => hg b o (B.stays b o e)) (hbind vs hvl s _ _ _ _ ?_)
  refine wpAny_newFunctionEnv hcl hloc' (fun h₁ hns hsb => ⟨(T.nolimit.keeps fun b o e => hg b o (B.stays b o e)).fresh _ hsb, ?_⟩) hk
  have hk₁ : ∀ b o, s.heap.get? b = some o → h₁.get? b = some o := fun b o e => hsb.extBut b o (Nat.ne_of_lt (Heap.lt_size e)) (Heap.get?_push_of_some _ e)
  have noc : ∀ x k, sc.names.lookup x = some k → k ≠ .cell ∧ k ≠ .free := fun x k e => by
    obtain ⟨l₁, l₂, e', _⟩ := List.lookup_eq_some_iff.mp e
    exact hcell (x, k) (e' ▸ List.mem_append_right _ (.head _))
  let Γ : Cx w κ sc lv := {
    mean, mg, mb, gd, base, cl := [], own := true, α₀ := α, P, hP, hk, Xb := X, Tb := T, fs := turned τ outer, fr₀ := framesOf outer
    dp := ((AR dp un gd outer).deeper (envOf qual sc s.heap.objs.size f cdv)).depth
    un := ((AR dp un gd outer).deeper (envOf qual sc s.heap.objs.size f cdv)).units
    outA := envOf qual sc s.heap.objs.size f cdv :: outer
    h₀ := g, L := s.heap.objs.size, qual := qual ++ ".<locals>.", fa := some f, cd := cdv, fr := some s.heap.objs.size, s₀ := s
    hb := B.stays
    hfs := turned_sub
    hfr := fun b hm => ⟨(B.frames.mem hm).1, let ⟨o, h1, _⟩ := (B.frames.mem hm).2; ⟨o, h1⟩⟩
    hout := fun b hm => kts_mem hm
    hown := fun e => nomatch e
    hB := fun g' t h m mine F N => by
      have := (groundX (s := { s with heap := h }) (A := AR 0 0 gd (envOf qual sc s.heap.objs.size f cdv :: outer)) (R := fun _ _ => True) (below_turn B t) F N rfl rfl hk).2.1
      exact ⟨rfl, this.stays, this.frames⟩
    hdp := by show dp + 1 + 10 * lv < _; omega
    hun := by show (un + 3) + 100 * lv < _; omega
    hcl := fun x k e hk => by have := noc x k e; rcases hk with h | h; exact absurd h this.1; exact absurd h this.2
    hcn := fun x c e => by simp at e
    hci := fun x y c e => by simp at e }
  have hE : Esc Γ (EOut (model PG w) Γ.A (envOf qual sc s.heap.objs.size f cdv) base g outer 51 err s) err :=
    ⟨fun he g' t e h' tk' G m FG Rz U => leave_onG (s' := Γ.st h' tk') (below_turn B t) FG Rz U fun h2 R2 U2 => ⟨he, e, h2, tk', rfl, rfl, raised_turn t R2 U2⟩⟩
  have hr : Rse Γ (EOut (model PG w) Γ.A (envOf qual sc s.heap.objs.size f cdv) base g outer 51 err s) err :=
    ⟨fun he g' t e tt od m h h' tk' F hk' hn' he' => leave_firstG (s' := Γ.st h' tk') (hkd := hk) (below_turn B t) F hk' hn' he' fun h2 R2 U2 => ⟨he, e, h2, tk', rfl, rfl, raised_turn t R2 U2⟩⟩
  have hR : Rel Γ (names.zip args) cells α [] h₁ := by
    refine ⟨g, .refl, _, fun x => (names.zip vs).lookup x, [], leds, ⟨hns, fun b o e => hk₁ b o (hg b o e), hsz⟩, fun p hp => ?_, ?_, fun p _ q hq => (nomatch hq), CR.mono fun a o x => .inl x, fun x c e => by simp [Γ] at e, fun x _ => ?_, fun x v e => ?_, .rfl⟩
    · simp only [List.append_nil] at hp
      exact ⟨hk₁ _ _ (hm p hp).1, Nat.ne_of_lt (Heap.lt_size (hm p hp).1), (hm p hp).2⟩
    · rw [List.append_nil]; exact nd
    · exact lookup_reverse (by rw [zip_names hvl.symm]; exact hnd) x
    · obtain ⟨u, h1, h2⟩ := zip_lookup va x v e
      exact ⟨u, h1, h2.mono (fun a o x => .inl x) .rfl⟩
  refine codeM_func (wpM_mono (h Γ _ hE hr PassesOwn.leaving (Nat.le_of_eq CR.1) (fun e => ⟨outer, rfl, rfl, rfl, fun g' t => ⟨rfl, (below_turn B t).stays, (below_turn B t).frames⟩, if_pos e, if_pos e⟩) h₁ _ α [] hR) (fun fl s' ho => ?_) fun e s' x => wpAny_mono x (fun _ s'' y => ?_) fun _ _ y => y.elim)
  · obtain ⟨h', tk', α', F', loc', c', fl', rfl, _, R', rf, q⟩ := ho
    have := Nat.le_of_eq CR.1
    cases fl' with
    | ret v => obtain ⟨u, rfl, ra⟩ := rf; exact can_out (Γ := Γ) (fun _ _ => rfl) this rfl R' ra q
    | next => cases rf; exact can_out (Γ := Γ) (fun _ _ => rfl) this rfl R' (v := .pure .none) (u := .none) .none q
    | brk => cases rf; exact can_out (Γ := Γ) (fun _ _ => rfl) this rfl R' (v := .pure .none) (u := .none) .none q
    | cont => cases rf; exact can_out (Γ := Γ) (fun _ _ => rfl) this rfl R' (v := .pure .none) (u := .none) .none q
  · obtain ⟨he, a, h', tk', rfl, hs, R, U⟩ := y
    exact .inr ⟨he, a, h', tk', rfl, hs, R, U⟩
theorem enterF (ho : (KF w.params).lookup f = some ⟨oc, od, .func (fnOf name qual params body sc dV kV doc pm an cdv ct), osl⟩) (hcd : codeIn (KF w.params) cdv qual = true)
    (hbind : ∀ vs : List Value, vs.length = names.length → ∀ s, BindsTo s (fnOf name qual params body sc dV kV doc pm an cdv ct) ⟨vs, []⟩ (names.zip vs)) (hloc : names.all (fun y => decide (sc.names.lookup y = some .local)) = true)
    (hn : decide names.Nodup = true) (hlen : args.length = names.length)
    (hco : sc.isCoroutine = false) (hgen : sc.isGenerator = false) (hk : sc.kind = .function) (hcell : ∀ x ∈ sc.names, x.2 ≠ .cell ∧ x.2 ≠ .free) (hl : 0 < lv)
    (h : ∀ (Γ : Cx w κ sc lv) (E : Value → Shared → Prop), Esc Γ E err → PassesOwn (model PG w) Γ.A Γ.env E → Γ.α₀.length ≤ cells.length → TSs Γ E body (names.zip args) cells fun fl _ c => End cells.length Q fl.val c) : Can w κ lv f args cells Q err :=
  enterFG ho hcd hbind hloc hn hlen hco hgen hk hcell hl fun Γ E a _ b c _ => h Γ E a b c
end
end
section
noncomputable def down (rows : List (List Int)) : Nat → Int → List Int
  | 0, p => [p]
  | k + 1, p => p :: (rows.getD (p - 1).toNat []).flatMap (down rows k)
noncomputable def Ok (rows : List (List Int)) : Nat → Int → Prop
  | 0, p => 1 ≤ p ∧ p ≤ rows.length ∧ rows.getD (p - 1).toNat [] = []
  | k + 1, p => 1 ≤ p ∧ p ≤ rows.length ∧ (rows.getD (p - 1).toNat []).length ≤ 5 ∧ ∀ c ∈ rows.getD (p - 1).toNat [], Ok rows k c
theorem Ok.lo {rows : List (List Int)} : ∀ {k : Nat} {p : Int}, Ok rows k p → 1 ≤ p ∧ p ≤ rows.length
  | 0, _, h => ⟨h.1, h.2.1⟩
  | _ + 1, _, h => ⟨h.1, h.2.1⟩
theorem flatMap_len (f : Int → List Int) (b : Nat) : ∀ l : List Int, (∀ c ∈ l, (f c).length ≤ b) → (l.flatMap f).length ≤ l.length * b
  | [], _ => by simp
  | x :: r, h => by
    have := flatMap_len f b r fun c hc => h c (.tail _ hc)
    have h1 := h x (.head _)
    rw [List.flatMap_cons, List.length_append, List.length_cons, Nat.succ_mul]
    omega
theorem down_len {rows : List (List Int)} : ∀ (k : Nat) (p : Int), Ok rows k p → (down rows k p).length ≤ 6 ^ k
  | 0, _, _ => by simp [down]
  | k + 1, p, h => by
    have := flatMap_len (down rows k) (6 ^ k) _ fun c hc => down_len k c (h.2.2.2 c hc)
    have h5 := h.2.2.1
    have h2 : (rows.getD (p - 1).toNat []).length * 6 ^ k ≤ 5 * 6 ^ k := Nat.mul_le_mul_right _ h5
    have h3 : 1 ≤ 6 ^ k := Nat.one_le_pow _ _ (by decide)
    show (p :: _).length ≤ _
    rw [List.length_cons, Nat.pow_succ]
    omega
section
variable {prog : Program} {w : World} {A : Around} {E : Value → Shared → Prop} {s : Shared} {h₀ : Heap} {L c : Addr} {m : PySem.Str → Option Value} {value slice : PySem.Expr} {rows : List (List Int)} {k : Int} {u : Tok} {Q : Value → Shared → Prop}
end
noncomputable def due (rows : List (List Int)) (n : Nat) : Nat → List Int → List Int → Option (List Int)
  | 0, _, _ => none
  | k + 1, found, left => match left with
    | [] => some found
    | p :: r => if p ∈ found ∨ p < 1 ∨ (n : Int) < p then none else due rows n k (found ++ [p]) (rows.getD (p - 1).toNat [] ++ r)
theorem mem_rangeKs' {a : Int} {n : Nat} {p : Int} (h0 : a ≤ p) (h1 : p < a + n) : p ∈ rangeKs a n := by
  unfold rangeKs
  exact List.mem_map.mpr ⟨(p - a).toNat, List.mem_range.mpr (by omega), by omega⟩
theorem nodup_len {l : List Int} {n : Nat} (h : l.Nodup) (hin : ∀ p ∈ l, 1 ≤ p ∧ p ≤ (n : Int)) : l.length ≤ n := by
  have := List.Nodup.length_le_of_subset (l₂ := rangeKs 1 n) h fun p hp => mem_rangeKs' (hin p hp).1 (by have := (hin p hp).2; omega)
  rwa [rangeKs_length] at this
theorem due_none {rows : List (List Int)} {n k : Nat} {found left : List Int} (hk : 0 < k) (hl : 0 < left.length)
    (h : (found.any fun x => x == left.getD 0 0) = true ∨ left.getD 0 0 < 1 ∨ (n : Int) < left.getD 0 0) : due rows n k found left = none := by
  obtain ⟨k, rfl⟩ : ∃ k', k = k' + 1 := ⟨k - 1, by omega⟩
  match left, hl with
  | p :: r, _ =>
    show (if _ then _ else _) = _
    rw [if_pos]
    rcases h with h | h | h
    · left; obtain ⟨x, hx, e⟩ := List.any_eq_true.mp h; have e' : x = p := beq_iff_eq.mp e; exact e' ▸ hx
    · right; left; exact h
    · right; right; exact h
theorem due_step {rows : List (List Int)} {n k : Nat} {found left : List Int} (hk : 0 < k) (hl : 0 < left.length)
    (h1 : (found.any fun x => x == left.getD 0 0) = false) (h2 : ¬ left.getD 0 0 < 1) (h3 : ¬ (n : Int) < left.getD 0 0) :
    due rows n k found left = due rows n (k - 1) (found ++ [left.getD 0 0]) (rows.getD (left.getD 0 0 - 1).toNat [] ++ left.drop 1) := by
  obtain ⟨k, rfl⟩ : ∃ k', k = k' + 1 := ⟨k - 1, by omega⟩
  match left, hl with
  | p :: r, _ =>
    show (if _ then _ else _) = _
    rw [if_neg]
    · rfl
    · rintro (h | h | h)
      · have : (found.any fun x => x == p) = true := List.any_eq_true.mpr ⟨p, h, beq_self_eq_true p⟩
        have h1' : (found.any fun x => x == p) = false := h1
        rw [h1'] at this; cases this
      · exact h2 h
      · exact h3 h
theorem due_end {rows : List (List Int)} {n k : Nat} {found left : List Int} (hk : 0 < k) (hl : left.length = 0) : due rows n k found left = some found := by
  obtain ⟨k, rfl⟩ : ∃ k', k = k' + 1 := ⟨k - 1, by omega⟩
  rw [List.length_eq_zero_iff.mp hl]; rfl
theorem not_mem_any {found : List Int} {p : Int} (h1 : (found.any fun x => x == p) = false) : p ∉ found := fun h => by
  have : (found.any fun x => x == p) = true := List.any_eq_true.mpr ⟨p, h, beq_self_eq_true p⟩
  rw [h1] at this; cases this
theorem due_nodup {found : List Int} {p : Int} (hnd : found.Nodup) (h1 : (found.any fun x => x == p) = false) : (found ++ [p]).Nodup := by
  rw [List.nodup_append]
  exact ⟨hnd, List.nodup_cons.mpr ⟨List.not_mem_nil, List.nodup_nil⟩, fun a ha b hb e => not_mem_any h1 (by rw [List.mem_singleton.mp hb] at e; exact e ▸ ha)⟩
end
section
noncomputable abbrev two (ks : List Int) (i : Nat) : Int := ks.getD i 0 * 256 + ks.getD (i + 1) 0
noncomputable abbrev four (ks : List Int) (i : Nat) : Int := two ks i * 65536 + two ks (i + 2)
theorem bInts_getD (b : Array UInt8) (i : Nat) : (((b.getD i 0).toNat : Nat) : Int) = (KBw.bInts b).getD i 0 := by
  show _ = (List.map (fun c : UInt8 => ((c.toNat : Nat) : Int)) b.toList).getD i 0
  rw [List.getD_eq_getElem?_getD, List.getElem?_map, Array.getD_eq_getD_getElem?, ← Array.getElem?_toList]
  cases b.toList[i]? <;> rfl
theorem bInts_len (b : Array UInt8) : (KBw.bInts b).length = b.size := by
  show (List.map (fun c : UInt8 => ((c.toNat : Nat) : Int)) b.toList).length = _
  rw [List.length_map, Array.length_toList]
theorem bInts_bd (b : Array UInt8) (i : Nat) : 0 ≤ (KBw.bInts b).getD i 0 ∧ (KBw.bInts b).getD i 0 < 256 := by
  rw [← bInts_getD]
  have := (b.getD i 0).toNat_lt
  omega
section
variable {prog : Program} {w : World} {A : Around} {E : Value → Shared → Prop} {s : Shared}
theorem ba_item' {D : Addr} {b : Array UInt8} {k : Int} {t : Tok} {value slice : PySem.Expr} {Q : Value → Shared → Prop} (ho : s.heap.get? D = some (baObj b)) (h0 : 0 ≤ k) (hfit : (KBw.bInts b).length ≤ 1000) (h1 : k < ((KBw.bInts b).length : Int))
    (h : 0 ≤ (KBw.bInts b).getD k.toNat 0 → (KBw.bInts b).getD k.toNat 0 < 256 → Q (.int ((KBw.bInts b).getD k.toNat 0) s.toks) { s with toks := s.toks + 1 })
    (hs : subscripted slice false (.ref D) (.int k t) = operate [.ref D, .int k t] (getItem (.ref D) (.int k t)) := by with_unfolding_all rfl) :
    wpAny (model prog w) A (subscriptTail value slice (.ref D) (.int k t)) Q E s := by
  rw [bInts_len] at hfit h1
  refine ba_item ho h0 (by omega) h1 ?_ hs
  rw [bInts_getD]
  exact h (bInts_bd b _).1 (bInts_bd b _).2
end
end
section
noncomputable abbrev AV.int (i : Int) : AV := .pure (.int i)
noncomputable abbrev AV.none' : AV := .pure .none
section
variable {w : World} {κ : Bool} {sc : Scope} {lv : Nat} {Γ : Cx w κ sc lv} {E : Value → Shared → Prop} {loc : Loc} {cells : List AO} {Q : AV → List AO → Prop} {i j : Int}
theorem op_add (h : Q (.int (i + j)) cells) : O2 Γ E (binaryOp .Add) (.int i) (.int j) loc cells Q := by
  intro h₀ tk α F u v R ra rb; cases ra; cases rb
  exact PyProof.Rows.add_int (out_same R ⟨.int _, VR.int, h⟩)
theorem op_sub (h : Q (.int (i - j)) cells) : O2 Γ E (binaryOp .Sub) (.int i) (.int j) loc cells Q := by
  intro h₀ tk α F u v R ra rb; cases ra; cases rb
  exact PyProof.Rows.sub_int' (out_same R ⟨.int _, VR.int, h⟩)
theorem op_mul (hm : (-(2 ^ 64) < i ∧ i < 2 ^ 64) ∨ (-(2 ^ 64) < j ∧ j < 2 ^ 64)) (h : Q (.int (i * j)) cells) : O2 Γ E (binaryOp .Mult) (.int i) (.int j) loc cells Q := by
  intro h₀ tk α F u v R ra rb; cases ra; cases rb
  exact PyProof.Rows.mul_int (out_same R ⟨.int _, VR.int, h⟩) (hm.elim (fun x => IntMulOk.of_left (intBits_le_64 x.1 x.2)) fun x => IntMulOk.of_right (intBits_le_64 x.1 x.2))
theorem op_mod (hj : 0 < j) (h : Q (.int (i % j)) cells) : O2 Γ E (binaryOp .Mod) (.int i) (.int j) loc cells Q := by
  intro h₀ tk α F u v R ra rb; cases ra; cases rb
  rw [← Int.fmod_eq_emod_of_nonneg i (Int.le_of_lt hj)] at h
  exact PyProof.Rows.mod_int' (Int.ne_of_gt hj) (out_same R ⟨.int _, VR.int, h⟩)
theorem op_div (hj : 0 < j) (hz : j < 1073741824) (h : Q (.int (i / j)) cells) : O2 Γ E (binaryOp .FloorDiv) (.int i) (.int j) loc cells Q := by
  intro h₀ tk α F u v R ra rb; cases ra; cases rb
  rw [← Int.fdiv_eq_ediv_of_nonneg i (Int.le_of_lt hj)] at h
  exact PyProof.Rows.floordiv_int (Int.ne_of_gt hj) (out_same R ⟨.int _, VR.int, h⟩) (.inl (PyProof.noPylong_small (by omega)))
theorem op_pow {n : Int} (hn : 0 ≤ n) (hn2 : n ≤ 1000000) (ha : i.natAbs < 2 ^ 64) (h : Q (.int (i ^ n.toNat)) cells) : O2 Γ E (binaryOp .Pow) (.int i) (.int n) loc cells Q := by
  intro h₀ tk α F u v R ra rb; cases ra; cases rb
  exact PyProof.Rows.pow_int_small hn hn2 ha (out_same R ⟨.int _, VR.int, h⟩)
theorem op_neg (h : Q (.int (-i)) cells) : O1 Γ E (unaryOp .USub) (.int i) loc cells Q := by
  intro h₀ tk α F u R ra; cases ra
  exact PyProof.Rows.neg_int (out_same R ⟨.int _, VR.int, h⟩)
theorem op_lt (h : Q (.pure (.bool (decide (i < j)))) cells) : O2 Γ E (compareOp .Lt) (.int i) (.int j) loc cells Q := by
  intro h₀ tk α F u v R ra rb; cases ra; cases rb
  exact PyProof.Rows.lt_int (out_same R ⟨.pure (.bool _), VR.bool, h⟩)
theorem op_le (h : Q (.pure (.bool (decide (i ≤ j)))) cells) : O2 Γ E (compareOp .LtE) (.int i) (.int j) loc cells Q := by
  intro h₀ tk α F u v R ra rb; cases ra; cases rb
  exact PyProof.Rows.le_int (out_same R ⟨.pure (.bool _), VR.bool, h⟩)
theorem op_gt (h : Q (.pure (.bool (decide (j < i)))) cells) : O2 Γ E (compareOp .Gt) (.int i) (.int j) loc cells Q := by
  intro h₀ tk α F u v R ra rb; cases ra; cases rb
  exact PyProof.Rows.gt_int (out_same R ⟨.pure (.bool _), VR.bool, h⟩)
theorem op_ge (h : Q (.pure (.bool (decide (j ≤ i)))) cells) : O2 Γ E (compareOp .GtE) (.int i) (.int j) loc cells Q := by
  intro h₀ tk α F u v R ra rb; cases ra; cases rb
  exact PyProof.Rows.ge_int (out_same R ⟨.pure (.bool _), VR.bool, h⟩)
theorem op_eq (h : Q (.pure (.bool (i == j))) cells) : O2 Γ E (compareOp .Eq) (.int i) (.int j) loc cells Q := by
  intro h₀ tk α F u v R ra rb; cases ra; cases rb
  exact PyProof.Rows.eq_int (out_same R ⟨.pure (.bool _), VR.bool, h⟩)
theorem oc_int (h : Q (.int i) cells) : OC Γ E (.type "int") [.int i] loc cells Q := by
  rintro h₀ tk α F vs R va
  obtain _ | ⟨v, _ | ⟨_, _⟩⟩ := vs <;> first | exact va.elim | skip
  · obtain ⟨ra, _⟩ := va; cases ra
    exact wpM_of_any (call_int_int (out_same R ⟨.int _, VR.int, h⟩))
  · exact va.2.elim
theorem oc_int_bool {b : Bool} (h : Q (.int (if b then 1 else 0)) cells) : OC Γ E (.type "int") [.pure (.bool b)] loc cells Q := by
  rintro h₀ tk α F vs R va
  obtain _ | ⟨v, _ | ⟨_, _⟩⟩ := vs <;> first | exact va.elim | skip
  · obtain ⟨ra, _⟩ := va; cases ra
    exact wpM_of_any (call_int_bool (out_same R ⟨.int _, VR.int, h⟩))
  · exact va.2.elim
theorem oc_max (h : Q (.int (if j > i then j else i)) cells) : OC Γ E (.builtin "max") [.int i, .int j] loc cells Q := by
  rintro h₀ tk α F vs ⟨gr, tn, m, val, cvl, leds, R⟩ va
  obtain _ | ⟨v, _ | ⟨u, _ | ⟨_, _⟩⟩⟩ := vs <;> first | exact va.elim | exact va.2.elim | skip
  · obtain ⟨ra, rb, _⟩ := va; cases ra; cases rb
    exact wpM_of_any (max_two_N rfl R.fr R.news fun h' tk' F' N' => out_same ⟨gr, tn, m, val, cvl, leds, { R with fr := F', news := N' }⟩ ⟨.int _, VR.int, h⟩)
  · exact va.2.2.elim
theorem oc_min (h : Q (.int (if j < i then j else i)) cells) : OC Γ E (.builtin "min") [.int i, .int j] loc cells Q := by
  rintro h₀ tk α F vs ⟨gr, tn, m, val, cvl, leds, R⟩ va
  obtain _ | ⟨v, _ | ⟨u, _ | ⟨_, _⟩⟩⟩ := vs <;> first | exact va.elim | exact va.2.elim | skip
  · obtain ⟨ra, rb, _⟩ := va; cases ra; cases rb
    exact wpM_of_any (min_two_N rfl R.fr R.news fun h' tk' F' N' => out_same ⟨gr, tn, m, val, cvl, leds, { R with fr := F', news := N' }⟩ ⟨.int _, VR.int, h⟩)
  · exact va.2.2.elim
end
/-- a list, frozen or not -/
inductive ListAt (cells : List AO) : AV → List D → Prop
  | pure {ds} : ListAt cells (.pure (.list ds)) ds
  | ref {k ds} : cells[k]? = some (.list ds) → ListAt cells (.ref k) ds
section
variable {w : World} {κ : Bool} {sc : Scope} {lv : Nat} {Γ : Cx w κ sc lv} {E : Value → Shared → Prop} {loc : Loc} {cells : List AO} {Q : AV → List AO → Prop} {i j : Int} {α : List Addr} {F : Led} {h : Heap}
theorem ListAt.get {a : AV} {ds : List D} {u : Value} (x : ListAt cells a ds) (R : Rel Γ loc cells α F h) (ra : AVR (PF Γ.P F) α a u) : ∃ l ws n, u = .ref l ∧ h.get? l = some (listOf ws.toArray n) ∧ VRs (PF Γ.P F) ds ws := by
  obtain ⟨gr, tn, m, val, cvl, leds, R⟩ := R
  cases x with
  | pure => cases ra with | list p r => exact ⟨_, _, _, rfl, R.keepP p, r⟩
  | ref hk =>
    obtain ⟨l, hl, rfl⟩ := ra
    obtain ⟨l', hl', hc, hm, _⟩ := R.at hk
    rw [hl] at hl'
    cases hl'
    generalize leds _ = lk at hc hm
    cases hc with | list r => exact ⟨l, _, _, rfl, hm _ (.head _), r⟩
theorem op_item {value slice : PySem.Expr} {a : AV} {ds : List D} (x : ListAt cells a ds) (h0 : 0 ≤ i) (h1 : i < (ds.length : Int)) (hz : ds.length < 100000) (h : Q (.pure (ds.getD i.toNat .none)) cells)
    (hs : ∀ l u, subscripted slice false (.ref l) (.int i u) = operate [.ref l, .int i u] (getItem (.ref l) (.int i u))) : O2 Γ E (subscriptTail value slice) a (.int i) loc cells Q := by
  intro h₀ tk α F u v R ra rb; cases rb
  obtain ⟨l, ws, n, rfl, hl, r⟩ := x.get R ra
  have e := r.length
  exact item_at (isList_of hl) h0 (by omega) (by omega) (out_same R ⟨.pure _, r.get _ (by omega), h⟩) (hs _ _)
theorem oc_len {a : AV} {ds : List D} (x : ListAt cells a ds) (hz : ds.length < 100000) (h : Q (.int ds.length) cells) : OC Γ E (.builtin "len") [a] loc cells Q := by
  rintro h₀ tk α F vs R va
  obtain _ | ⟨v, _ | ⟨_, _⟩⟩ := vs <;> first | exact va.elim | skip
  · obtain ⟨l, ws, n, rfl, hl, r⟩ := x.get R va.1
    have e := r.length
    exact wpM_of_any (len_at (isList_of hl) (by omega) (out_same R ⟨.int ds.length, by rw [e]; exact VR.int, h⟩))
  · exact va.2.elim
noncomputable def AV.d : AV → D
  | .pure d => d
  | _ => .none
noncomputable def AV.isPure : AV → Bool
  | .pure _ => true
  | _ => false
theorem AVRs.pures {P : Addr → Obj → Prop} {α : List Addr} : ∀ {rs : List AV} {vs : List Value}, rs.all AV.isPure = true → AVRs P α rs vs → VRs P (rs.map AV.d) vs
  | [], [], _, _ => .nil
  | .pure d :: rs, v :: vs, e, ⟨a, b⟩ => .cons a (AVRs.pures (by simpa [AV.isPure] using e) b)
  | .ref _ :: _, _ :: _, e, _ => by simp [AV.isPure] at e
  | .stat _ :: _, _ :: _, e, _ => by simp [AV.isPure] at e
theorem TE_ListP {es : List PySem.Expr} {pos : Pos} (h : TA Γ E pos es loc cells fun rs c => rs.all AV.isPure = true ∧ rs.length ≤ 1000 ∧ Q (.pure (.list (rs.map AV.d))) c) : TE Γ E (.List es pos) loc cells Q := by
  intro h₀ tk α F R
  show wpM κ _ _ (do standAt pos; newList (← spliced (backTo pos (starEach es Γ.env)))) _ _ _
  refine wpM_bind (wpM_standAt (wpM_bind (wpM_idE (h h₀ tk α F R) ?_)))
  rintro vs s' ⟨h₁, tk₁, α₁, F₁, c₁, rfl, p₁, f₁, ⟨gr, tn, m, val, cvl, leds, R₁⟩, rs, ra, hp, hz, q⟩
  refine wpM_of_any (newList_K R₁.fr R₁.news (fun l h' F' N' lt => ?_) (by rw [← ra.length, sizeLine_eq]; omega))
  refine OutG.mono (α₁ := α₁) (F₁ := F₁) p₁ f₁ (out_new ⟨gr, tn, m, val, cvl, leds, R₁.frozen F' N' lt⟩ ⟨_, ?_, q⟩) fun _ _ _ _ _ x => x
  exact VR.list (.inr (.head _)) ((ra.pures hp).mono (pf_tail fun _ x => .tail _ x))
theorem TE_ListC {es : List PySem.Expr} {pos : Pos} (h : TA Γ E pos es loc cells fun rs c => rs.all AV.isPure = true ∧ rs.length ≤ 1000 ∧ Q (.ref c.length) (c ++ [.list (rs.map AV.d)])) : TE Γ E (.List es pos) loc cells Q := by
  intro h₀ tk α F R
  show wpM κ _ _ (do standAt pos; newList (← spliced (backTo pos (starEach es Γ.env)))) _ _ _
  refine wpM_bind (wpM_standAt (wpM_bind (wpM_idE (h h₀ tk α F R) ?_)))
  rintro vs s' ⟨h₁, tk₁, α₁, F₁, c₁, rfl, p₁, f₁, ⟨gr, tn, m, val, cvl, leds, R₁⟩, rs, ra, hp, hz, q⟩
  refine wpM_of_any (newList_K R₁.fr R₁.news (fun l h' F' N' lt => ?_) (by rw [← ra.length, sizeLine_eq]; omega))
  refine OutG.mono (α₁ := α₁) (F₁ := F₁) p₁ f₁ (out_cell (.of (g := gr) (t := tn) (R₁.made F' N' lt (.list (ra.pures hp)))) ⟨_, ref_snoc R₁, q⟩) fun _ _ _ _ _ x => x
end
end
section
section
variable {w : World} {κ : Bool} {sc : Scope} {lv : Nat} {Γ : Cx w κ sc lv} {E : Value → Shared → Prop} {loc : Loc} {cells : List AO} {Q : AV → List AO → Prop} {i j : Int} {α : List Addr} {F : Led} {h : Heap} {k : Nat} {ds : List D}
/-- a mutable list and how it is changed -/
inductive ListC (Γ : Cx w κ sc lv) (loc : Loc) (cells : List AO) (α : List Addr) (F : Led) (h : Heap) (k : Nat) (ds : List D) : Prop
  | mk (gr : Heap) (tn : KtsTurn Γ.fs Γ.h₀ gr) (l : Addr) (ws : List Value) (n : Nat) (m : PySem.Str → Option Value) (hl : α[k]? = some l) (r : VRs (PF Γ.P F) ds ws) (fr : Fr gr Γ.L h m) (ho : h.get? l = some (listOf ws.toArray n))
    (up : ∀ ds' ws' n', VRs (PF Γ.P F) ds' ws' → ∃ news news', News gr Γ.L h news ∧ (l, listOf ws.toArray n) ∈ news ∧ Upd l (listOf ws.toArray n) (listOf ws'.toArray n') news news' ∧ ∀ h', Fr gr Γ.L h' m → News gr Γ.L h' news' → Rel Γ loc (cells.set k (.list ds')) α F h') : ListC Γ loc cells α F h k ds
theorem Rel.listCell (R : Rel Γ loc cells α F h) (hk : cells[k]? = some (.list ds)) : ListC Γ loc cells α F h k ds := by
  obtain ⟨gr, tn, m, val, cvl, leds, R⟩ := R
  obtain ⟨l, hl, hc, hm, up⟩ := R.at hk
  generalize leds k = lk at hc hm up
  cases hc with
  | list r =>
    rename_i ws n
    refine ⟨gr, tn, l, ws, n, m, hl, r, R.fr, hm _ (.head _), fun ds' ws' n' r' => ?_⟩
    obtain ⟨pre, post, N, i1, a, b, fin⟩ := up [] l (listOf ws.toArray n) [] rfl
    exact ⟨_, _, N, i1 _ (.head _), upd_of b a, fun h' F' N' => (Rel.of (g := gr) (t := tn) (fin _ (.list ds') h' (.list r') F' N'))⟩
theorem Rel.baCell {l : List Int} (R : Rel Γ loc cells α F h) (hk : cells[k]? = some (.ba l)) : ∃ gr, ∃ _ : KtsTurn Γ.fs Γ.h₀ gr, ∃ d b m, α[k]? = some d ∧ KBw.bInts b = l ∧ Fr gr Γ.L h m ∧ h.get? d = some (baObj b) ∧
    ∀ b' h', Heap.SameBut d h h' → h'.get? d = some (baObj b') → Rel Γ loc (cells.set k (.ba (KBw.bInts b'))) α F h' := by
  obtain ⟨gr, tn, m, val, cvl, leds, R⟩ := R
  obtain ⟨d, hd, hc, hm, up⟩ := R.at hk
  generalize leds k = lk at hc hm up
  cases hc with
  | ba =>
    rename_i b
    refine ⟨gr, tn, d, b, m, hd, rfl, R.fr, hm _ (.head _), fun b' h' hs ho => ?_⟩
    obtain ⟨pre, post, N, i1, a, c, fin⟩ := up [] d (baObj b) [] rfl
    have z := N _ (i1 _ (.head _))
    exact (Rel.of (g := gr) (t := tn) (fin _ (.ba (KBw.bInts b')) h' .ba (R.fr.change hs z.2.1 z.2.2) (news_set N a c hs ho)))
theorem os_list {d : D} {Q : List AO → Prop} (hk : cells[k]? = some (.list ds)) (h0 : 0 ≤ i) (h1 : i < (ds.length : Int)) (hz : ds.length < 100000) (h : Q (cells.set k (.list (ds.set i.toNat d)))) : OS Γ E (.ref k) (.int i) (.pure d) loc cells Q := by
  intro h₀ tk α F u v x R ru ri rx; cases ri
  obtain ⟨gr, tn, l, ws, n, m, hl, r, Fm, ho, up⟩ := R.listCell hk
  obtain ⟨l', hl', rfl⟩ := ru
  rw [hl] at hl'
  cases hl'
  have e := r.length
  obtain ⟨news, news', N, hm, U, fin⟩ := up _ _ n (VRs.set (d := d) (v := x) rx r i.toNat)
  obtain ⟨pre, post, rfl, rfl, a, b⟩ := U.split
  have z := N _ hm
  refine ki_setAt z.1 h0 (by omega) (by simp; omega) ?_
  refine out_same (fin _ (Fm.change (Heap.SameBut.update ..) z.2.1 z.2.2) (ki_turn _ N a b ?_ ?_)) h
  · show ws.toArray.setIfInBounds i.toNat x = (ws.set i.toNat x).toArray
    apply Array.toList_inj.mp
    simp
  · simp
theorem om_list {name : PySem.Str} {id : String} (hk : cells[k]? = some (.list ds)) (slot : Slot "list" name id) (hty : typeOf (.builtin id) = pure (.type "method_descriptor")) : OM Γ E name (.ref k) (.builtin id) loc cells := by
  intro pl h₀ tk α F u K R ru hK
  obtain ⟨gr, tn, l, ws, n, m, hl, r, Fm, ho, up⟩ := R.listCell hk
  obtain ⟨l', hl', rfl⟩ := ru
  rw [hl] at hl'
  cases hl'
  obtain ⟨news, news', N, hm, U, fin⟩ := up ds ws n r
  exact kl_method N hm slot hty hK
theorem om_append (hk : cells[k]? = some (.list ds)) : OM Γ E (Str.ofString "append") (.ref k) (.builtin "list.append") loc cells := om_list hk PySem.F.slot_list_append PySem.F.type_list_append
theorem om_pop (hk : cells[k]? = some (.list ds)) : OM Γ E (Str.ofString "pop") (.ref k) (.builtin "list.pop") loc cells := om_list hk PySem.F.slot_list_pop PySem.F.type_list_pop
theorem om_reverse (hk : cells[k]? = some (.list ds)) : OM Γ E (Str.ofString "reverse") (.ref k) (.builtin "list.reverse") loc cells := om_list hk PySem.F.slot_list_reverse PySem.F.type_list_reverse
theorem oc_append {d : D} (hk : cells[k]? = some (.list ds)) (hz : ds.length < 100000) (h : Q .none' (cells.set k (.list (ds ++ [d])))) : OC Γ E (.builtin "list.append") [.ref k, .pure d] loc cells Q := by
  rintro h₀ tk α F vs R va
  obtain _ | ⟨v, _ | ⟨x, _ | ⟨_, _⟩⟩⟩ := vs <;> first | exact va.elim | exact va.2.elim | skip
  · obtain ⟨ru, rx, _⟩ := va
    obtain ⟨gr, tn, l, ws, n, m, hl, r, Fm, ho, up⟩ := R.listCell hk
    obtain ⟨l', hl', rfl⟩ := ru
    rw [hl] at hl'
    cases hl'
    have e := r.length
    obtain ⟨news, news', N, hm, U, fin⟩ := up _ _ (n + 1) (r.append (.cons rx .nil))
    refine wpM_of_any (append_K (hsz := by rw [sizeLine_eq]; simp; omega) Fm N (by rw [List.push_toArray]; exact U) fun h' F' N' => out_same (fin h' F' N') ⟨.none', VR.none, h⟩)
  · exact va.2.2.elim
theorem oc_pop {ns : List Int} (hk : cells[k]? = some (.list (ns.map .int))) (h0 : 0 < ns.length) (hz : ns.length < 100000) (h : Q (.int (ns.getLastD 0)) (cells.set k (.list (ns.dropLast.map .int)))) : OC Γ E (.builtin "list.pop") [.ref k] loc cells Q := by
  rintro h₀ tk α F vs R va
  obtain _ | ⟨v, _ | ⟨x, _⟩⟩ := vs <;> first | exact va.elim | skip
  · obtain ⟨ru, _⟩ := va
    obtain ⟨gr, tn, l, ws, n, m, hl, r, Fm, ho, up⟩ := R.listCell hk
    obtain ⟨l', hl', rfl⟩ := ru
    rw [hl] at hl'
    cases hl'
    have e := r.length
    rw [List.length_map] at e
    have hd : ∀ {l : List Int} {vs : List Value}, IntsAre vs l → IntsAre vs.dropLast l.dropLast := fun hi => by rw [List.dropLast_eq_take, List.dropLast_eq_take, hi.length]; exact hi.take _
    obtain ⟨news, news', N, hm, U, fin⟩ := up (ns.dropLast.map .int) ws.dropLast (n + 1) (.of_ints (hd r.ints))
    exact wpM_of_any (kpa_pop Fm N U r.ints (by omega) (by rw [sizeLine_eq]; omega) fun h' t F' N' _ => out_same (fin h' F' N') ⟨.int _, VR.int, h⟩)
  · exact va.2.elim
theorem oc_reverse (hk : cells[k]? = some (.list ds)) (hz : ds.length < 100000) (h : Q .none' (cells.set k (.list ds.reverse))) : OC Γ E (.builtin "list.reverse") [.ref k] loc cells Q := by
  rintro h₀ tk α F vs R va
  obtain _ | ⟨v, _ | ⟨x, _⟩⟩ := vs <;> first | exact va.elim | skip
  · obtain ⟨ru, _⟩ := va
    obtain ⟨gr, tn, l, ws, n, m, hl, r, Fm, ho, up⟩ := R.listCell hk
    obtain ⟨l', hl', rfl⟩ := ru
    rw [hl] at hl'
    cases hl'
    have e := r.length
    obtain ⟨news, news', N, hm, U, fin⟩ := up ds.reverse ws.reverse n r.reverse
    exact wpM_of_any (kl_reverse Fm N rfl U (by rw [sizeLine_eq]; show ws.length ≤ _; omega) fun h' F' N' => out_same (fin h' F' N') ⟨.none', VR.none, h⟩)
  · exact va.2.elim
-- bytearrays
theorem op_baItem {l : List Int} {value slice : PySem.Expr} (hk : cells[k]? = some (.ba l)) (h0 : 0 ≤ i) (h1 : i < (l.length : Int)) (hz : l.length ≤ 1000) (h : 0 ≤ l.getD i.toNat 0 → l.getD i.toNat 0 < 256 → Q (.int (l.getD i.toNat 0)) cells)
    (hs : ∀ d u, subscripted slice false (.ref d) (.int i u) = operate [.ref d, .int i u] (getItem (.ref d) (.int i u))) : O2 Γ E (subscriptTail value slice) (.ref k) (.int i) loc cells Q := by
  intro h₀ tk α F u v R ru ri; cases ri
  obtain ⟨gr, tn, d, b, m, hd, rfl, Fm, ho, up⟩ := R.baCell hk
  obtain ⟨l', hl', rfl⟩ := ru
  rw [hd] at hl'
  cases hl'
  exact ba_item' ho h0 hz h1 (fun a b => out_same R ⟨.int _, VR.int, h a b⟩) (hs _ _)
theorem bInts_set (b : Array UInt8) (n : Nat) (v : Int) (v0 : 0 ≤ v) (v1 : v < 256) : KBw.bInts (b.setIfInBounds n v.toNat.toUInt8) = (KBw.bInts b).set n v := by
  unfold KBw.bInts
  rw [Array.toList_setIfInBounds, List.map_set]
  congr 1
  show ((UInt8.ofNat v.toNat).toNat : Int) = v
  rw [UInt8.toNat_ofNat']
  omega
theorem os_ba {l : List Int} {v : Int} {Q : List AO → Prop} (hk : cells[k]? = some (.ba l)) (h0 : 0 ≤ i) (h1 : i < (l.length : Int)) (hz : l.length ≤ 1000) (v0 : 0 ≤ v) (v1 : v < 256) (h : Q (cells.set k (.ba (l.set i.toNat v)))) : OS Γ E (.ref k) (.int i) (.int v) loc cells Q := by
  intro h₀ tk α F u x y R ru ri rx; cases ri; cases rx
  obtain ⟨gr, tn, d, b, m, hd, rfl, Fm, ho, up⟩ := R.baCell hk
  obtain ⟨l', hl', rfl⟩ := ru
  rw [hd] at hl'
  cases hl'
  rw [KBw.ints_length] at h1 hz
  refine ba_setItem ho h0 (by omega) h1 v0 v1 fun h' hs ho' => ?_
  have := up _ h' hs ho'
  rw [bInts_set _ _ _ v0 v1] at this
  exact out_same this h
-- bytes
theorem TE_bytes {x : List UInt8} {n : Nat} {pos : Pos} (h : Q (.pure (.bytes (KBw.bInts x.toArray))) cells) : TE Γ E (.Constant (.bytes x) n pos) loc cells Q := ev_now h fun _ _ _ _ _ _ k => Constant_bytes (k _ _ VR.bytes)
theorem op_bcat {l r : List Int} (hz : l.length + r.length ≤ 100000) (h : Q (.pure (.bytes (l ++ r))) cells) : O2 Γ E (binaryOp .Add) (.pure (.bytes l)) (.pure (.bytes r)) loc cells Q := by
  intro h₀ tk α F u v R ra rb; cases ra; cases rb
  refine KBa.add_K rfl rfl (by omega) fun t' k e => ?_
  rw [← e] at h
  exact out_same R ⟨.pure (.bytes _), VR.bytes, h⟩
theorem oc_blen {l : List Int} (hz : l.length ≤ 100000) (h : Q (.int l.length) cells) : OC Γ E (.builtin "len") [.pure (.bytes l)] loc cells Q := by
  rintro h₀ tk α F vs R va
  obtain _ | ⟨v, _ | ⟨_, _⟩⟩ := vs <;> first | exact va.elim | skip
  · obtain ⟨ra, _⟩ := va; cases ra
    exact wpM_of_any (KBw.len_K rfl (by omega) (out_same R ⟨.int _, VR.int, h⟩))
  · exact va.2.elim
theorem ints_repl (n : Nat) : KBw.bInts (Array.replicate n 0) = List.replicate n 0 := by
  unfold KBw.bInts
  rw [Array.toList_replicate, List.map_replicate]; rfl
theorem oc_bytes_int (h0 : 0 ≤ i) (hn : i ≤ 1000) (h : Q (.pure (.bytes (List.replicate i.toNat 0))) cells) : OC Γ E (.type "bytes") [.int i] loc cells Q := by
  rintro h₀ tk α F vs R va
  obtain _ | ⟨v, _ | ⟨_, _⟩⟩ := vs <;> first | exact va.elim | skip
  · obtain ⟨ra, _⟩ := va; cases ra
    rw [← ints_repl] at h
    exact wpM_of_any (bb_bytes_int h0 hn fun t k => out_same R ⟨.pure (.bytes _), VR.bytes, h⟩)
  · exact va.2.elim
theorem oc_bytes_same {l : List Int} (h : Q (.pure (.bytes l)) cells) : OC Γ E (.type "bytes") [.pure (.bytes l)] loc cells Q := by
  rintro h₀ tk α F vs R va
  obtain _ | ⟨v, _ | ⟨_, _⟩⟩ := vs <;> first | exact va.elim | skip
  · obtain ⟨ra, _⟩ := va; cases ra
    exact wpM_of_any (bb_bytes_same (out_same R ⟨.pure (.bytes _), VR.bytes, h⟩))
  · exact va.2.elim
theorem oc_bytes_ba {l : List Int} (hk : cells[k]? = some (.ba l)) (hz : l.length ≤ 1000) (h : Q (.pure (.bytes l)) cells) : OC Γ E (.type "bytes") [.ref k] loc cells Q := by
  rintro h₀ tk α F vs R va
  obtain _ | ⟨v, _ | ⟨_, _⟩⟩ := vs <;> first | exact va.elim | skip
  · obtain ⟨gr, tn, d, b, m, hd, rfl, Fm, ho, up⟩ := R.baCell hk
    obtain ⟨⟨l', hl', rfl⟩, _⟩ := va
    rw [hd] at hl'
    cases hl'
    exact wpM_of_any (bb_bytes_ba ho (by rw [KBw.ints_length] at hz; rw [sizeLine_eq]; omega) fun t k => out_same R ⟨.pure (.bytes _), VR.bytes, h⟩)
  · exact va.2.elim
theorem oc_bytes_list {ns : List Int} (hr : ∀ n ∈ ns, 0 ≤ n ∧ n < 256) (hz : ns.length ≤ 1000) (h : Q (.pure (.bytes ns)) cells) : OC Γ E (.type "bytes") [.pure (.list (ns.map .int))] loc cells Q := by
  rintro h₀ tk α F vs R va
  obtain _ | ⟨v, _ | ⟨_, _⟩⟩ := vs <;> first | exact va.elim | skip
  · have R' := R
    obtain ⟨l, ws, n, rfl, hl, r⟩ := (ListAt.pure (cells := cells)).get R va.1
    obtain ⟨gr, tn, m, val, cvl, leds, R⟩ := R'
    refine wpM_of_any (KBa.make_K R.fr R.news rfl (isList_of hl) r.ints hr (by omega) fun h' t' k F' N' _ => ?_)
    rw [← KBa.ints_make hr] at h
    exact out_same ⟨gr, tn, m, val, cvl, leds, { R with fr := F', news := N' }⟩ ⟨.pure (.bytes _), VR.bytes, h⟩
  · exact va.2.elim
theorem om_to_bytes : OM Γ E (Str.ofString "to_bytes") (.int i) (.builtin "int.to_bytes") loc cells := by
  intro pl h₀ tk α F u K R ru hK; cases ru
  exact KTBy.method hK
theorem oc_to_bytes2 (h0 : 0 ≤ i) (h1 : i < 65536) (h : Q (.pure (.bytes [i / 256, i % 256])) cells) : OC Γ E (.builtin "int.to_bytes") [.int i, .int 2, .pure (.str (Str.ofString "big"))] loc cells Q := by
  rintro h₀ tk α F vs R va
  obtain _ | ⟨v, _ | ⟨x, _ | ⟨y, _ | ⟨_, _⟩⟩⟩⟩ := vs <;> first | exact va.elim | exact va.2.elim | exact va.2.2.elim | skip
  · obtain ⟨ra, rb, rc, _⟩ := va; cases ra; cases rb; cases rc
    refine wpM_of_any (KTBy.to_big (k := 2) (by decide) (by decide) h0 h1 fun b t' k' e _ => ?_)
    have e2 : (KTBy.little 2 i).reverse = [i / 256, i % 256] := by
      show [i / 256 % 256, i % 256] = _
      rw [Int.emod_eq_of_lt (by omega) (by omega)]
    rw [← e2, ← e] at h
    exact out_same R ⟨.pure (.bytes _), VR.bytes, h⟩
  · exact va.2.2.2.elim
theorem om_join {l : List Int} : OM Γ E (Str.ofString "join") (.pure (.bytes l)) (.builtin "bytes.join") loc cells := by
  intro pl h₀ tk α F u K R ru hK; cases ru
  exact KBd.method_of _ (typeIs_bytes _ _ _) bb_slot_join bb_type_join KBd.noRef hK
theorem VRs.bvals {P : Addr → Obj → Prop} : ∀ {kss : List (List Int)} {vs : List Value}, VRs P (kss.map .bytes) vs → ∃ ps, vs = bvals ps ∧ ps.map (fun p => KBw.bInts p.1) = kss
  | [], _, .nil => ⟨[], rfl, rfl⟩
  | _ :: _, _, .cons (.bytes (b := b) (t := t)) r => by
    obtain ⟨ps, rfl, e⟩ := r.bvals
    exact ⟨(b, t) :: ps, rfl, by rw [List.map_cons, e]⟩
theorem bInts_nil {b : Array UInt8} (h : KBw.bInts b = []) : b = #[] := by
  unfold KBw.bInts at h
  have := List.map_eq_nil_iff.mp h
  exact Array.toList_inj.mp this
theorem oc_join {a : AV} {kss : List (List Int)} (x : ListAt cells a (kss.map .bytes)) (hz : kss.flatten.length ≤ 100000) (h : Q (.pure (.bytes kss.flatten)) cells) : OC Γ E (.builtin "bytes.join") [.pure (.bytes []), a] loc cells Q := by
  rintro h₀ tk α F vs R va
  obtain _ | ⟨v, _ | ⟨u, _ | ⟨_, _⟩⟩⟩ := vs <;> first | exact va.elim | exact va.2.elim | skip
  · obtain ⟨ra, rb, _⟩ := va
    obtain ⟨l, ws, n, rfl, hl, r⟩ := x.get R rb
    obtain ⟨ps, rfl, e⟩ := r.bvals
    have ra' : ∃ t, v = .bytes #[] t := by
      generalize hnil : ([] : List Int) = nl at ra
      cases ra with | bytes => rename_i b t; exact ⟨t, by rw [bInts_nil hnil.symm]⟩
    obtain ⟨t, rfl⟩ := ra'
    refine wpM_of_any (bb_join (isList_of hl) (by rw [e]; omega) fun c t k ec => ?_)
    rw [e] at ec
    rw [← ec] at h
    exact out_same R ⟨.pure (.bytes _), VR.bytes, h⟩
  · exact va.2.2.elim
-- sets
theorem oc_set_new (h : Q (.ref cells.length) (cells ++ [.set []])) : OC Γ E (.type "set") [] loc cells Q := by
  rintro h₀ tk α F vs ⟨gr, tn, m, val, cvl, leds, R⟩ va
  obtain _ | ⟨v, _⟩ := vs
  · refine wpM_of_any (kse_new R.fr R.news fun D h' led F' N' lt so _ => ?_)
    exact out_cell (.of (g := gr) (t := tn) (R.made F' N' lt (.set (l := []) (by simpa using so)))) ⟨_, ref_snoc R, h⟩
  · exact va.elim
inductive SetC (Γ : Cx w κ sc lv) (loc : Loc) (cells : List AO) (α : List Addr) (F : Led) (h : Heap) (k : Nat) (l : List Int) : Prop
  | mk (gr : Heap) (tn : KtsTurn Γ.fs Γ.h₀ gr) (d : Addr) (so : Obj) (m : PySem.Str → Option Value) (hd : α[k]? = some d) (hs : so.SetObjOf (PySem.intKind PG w) (fun x => decide (x ∈ l)) l.length) (fr : Fr gr Γ.L h m) (news : Led) (g : Obj → Led) (N : News gr Γ.L h news) (U : UpdF d so news g)
    (fin : ∀ l' so' h', so'.SetObjOf (PySem.intKind PG w) (fun x => decide (x ∈ l')) l'.length → Fr gr Γ.L h' m → News gr Γ.L h' (g so') → Rel Γ loc (cells.set k (.set l')) α F h') : SetC Γ loc cells α F h k l
theorem Rel.setCell {l : List Int} (R : Rel Γ loc cells α F h) (hk : cells[k]? = some (.set l)) : SetC Γ loc cells α F h k l := by
  obtain ⟨gr, tn, m, val, cvl, leds, R⟩ := R
  obtain ⟨d, hd, hc, hm, up⟩ := R.at hk
  generalize leds k = lk at hc hm up
  cases hc with
  | set so =>
    rename_i so₀
    obtain ⟨pre, post, N, i1, a, c, fin⟩ := up [] d so₀ [] rfl
    exact ⟨gr, tn, d, so₀, m, hd, so, R.fr, _, _, N, updF_of c a, fun l' so' h' s' F' N' => (Rel.of (g := gr) (t := tn) (fin so' (.set l') h' (.set s') F' N'))⟩
theorem op_in_set {l : List Int} (hk : cells[k]? = some (.set l)) (hz : l.length < 4000) (h : Q (.pure (.bool (decide (i ∈ l)))) cells) : O2 Γ E (compareOp .In) (.int i) (.ref k) loc cells Q := by
  intro h₀ tk α F u v R ra rb; cases ra
  obtain ⟨gr, tn, d, so, m, hd, hso, Fm, news, g, N, U, fin⟩ := R.setCell hk
  obtain ⟨d', hd', rfl⟩ := rb
  rw [hd] at hd'
  cases hd'
  exact kse_in N U hso (by show _ < 4096; omega) (intKind_is _ _ _ _) rfl (out_same R ⟨.pure (.bool _), VR.bool, h⟩)
theorem om_set_add {l : List Int} (hk : cells[k]? = some (.set l)) (hz : l.length < 4000) : OM Γ E (Str.ofString "add") (.ref k) (.builtin "set.add") loc cells := by
  intro pl h₀ tk α F u K R ru hK
  obtain ⟨gr, tn, d, so, m, hd, hso, Fm, news, g, N, U, fin⟩ := R.setCell hk
  obtain ⟨d', hd', rfl⟩ := ru
  rw [hd] at hd'
  cases hd'
  exact kse_method N U hso (by show _ < 4096; omega) hK
theorem oc_set_add {l : List Int} (hk : cells[k]? = some (.set l)) (hz : l.length < 4000) (hn : ¬ i ∈ l) (h : Q .none' (cells.set k (.set (l ++ [i])))) : OC Γ E (.builtin "set.add") [.ref k, .int i] loc cells Q := by
  rintro h₀ tk α F vs R va
  obtain _ | ⟨v, _ | ⟨x, _ | ⟨_, _⟩⟩⟩ := vs <;> first | exact va.elim | exact va.2.elim | skip
  · obtain ⟨ru, rx, _⟩ := va; cases rx
    obtain ⟨gr, tn, d, so, m, hd, hso, Fm, news, g, N, U, fin⟩ := R.setCell hk
    obtain ⟨d', hd', rfl⟩ := ru
    rw [hd] at hd'
    cases hd'
    refine wpM_of_any (kse_add Fm N U hso (by show _ < 4096; omega) (intKind_is _ _ _ _) rfl fun h' so' F' N' hso' => out_same (fin (l ++ [i]) so' h' ?_ F' N') ⟨.none', VR.none, h⟩)
    have e1 : (fun k' => decide (k' ∈ l) || decide (k' = i)) = fun x => decide (x ∈ l ++ [i]) := funext fun x => by
      rw [← Bool.decide_or]
      exact decide_eq_decide.mpr (by rw [List.mem_append, List.mem_singleton])
    have e2 : (if decide (i ∈ l) = true then l.length else l.length + 1) = (l ++ [i]).length := by rw [if_neg (by simpa using hn), List.length_append]; rfl
    rw [e1, e2] at hso'
    exact hso'
  · exact va.2.2.elim
end
end
section
theorem EqAt_bytes {A : Around} {s : Shared} (b c : Array UInt8) (t u : Tok) : SeqAt.EqAt A s (.bytes b t) (.bytes c u) (b.toList == c.toList) := fun prog w E Q h => by
  unfold eqBool
  refine wpAny_holding ?_
  refine wpAny_ite_split (fun hab => ?_) (fun _ => ?_)
  · have e := eq_of_beq hab
    injection e with e1 _
    subst e1
    rw [beq_self_eq_true] at h
    exact wpAny_bind (wpAny_rule (wpAny_pure h))
  · exact wpAny_bind (eq_bytes (wpAny_truthy_bool h))
section
variable {w : World} {κ : Bool} {sc : Scope} {lv : Nat} {Γ : Cx w κ sc lv} {E : Value → Shared → Prop} {loc : Loc} {cells : List AO} {Q : AV → List AO → Prop} {i j : Int} {α : List Addr} {F : Led} {h : Heap} {k : Nat} {ds es : List D} {a b : AV}
theorem units_ok (hl : 2 ≤ lv) : Γ.A.units + 64 < cLine := by
  have := Γ.hun
  show Γ.un + 64 < cLine
  omega
-- comparisons of lists
theorem op_eq_ints {ns ms : List Int} (x : ListAt cells a (ns.map .int)) (y : ListAt cells b (ms.map .int)) (hl : 2 ≤ lv) (h : Q (.pure (.bool (decide (ns = ms)))) cells) : O2 Γ E (compareOp .Eq) a b loc cells Q := by
  intro h₀ tk α F u v R ru rv
  obtain ⟨l, ws, n, rfl, hl₁, r⟩ := x.get R ru
  obtain ⟨l', ws', n', rfl, hl₂, r'⟩ := y.get R rv
  exact eq_intsK (isList_of hl₁) r.ints (isList_of hl₂) r'.ints (units_ok hl) (out_same R ⟨.pure (.bool _), VR.bool, h⟩)
theorem op_ne_ints {ns ms : List Int} (x : ListAt cells a (ns.map .int)) (y : ListAt cells b (ms.map .int)) (hl : 2 ≤ lv) (h : Q (.pure (.bool (!decide (ns = ms)))) cells) : O2 Γ E (compareOp .NotEq) a b loc cells Q := by
  intro h₀ tk α F u v R ru rv
  obtain ⟨l, ws, n, rfl, hl₁, r⟩ := x.get R ru
  obtain ⟨l', ws', n', rfl, hl₂, r'⟩ := y.get R rv
  exact ne_intsK (isList_of hl₁) r.ints (isList_of hl₂) r'.ints (units_ok hl) (out_same R ⟨.pure (.bool _), VR.bool, h⟩)
theorem op_eq_bytess {kss : List (List Int)} (x : ListAt cells a (kss.map .bytes)) (y : ListAt cells b (kss.map .bytes)) (hl : 2 ≤ lv) (h : Q (.pure (.bool true)) cells) : O2 Γ E (compareOp .Eq) a b loc cells Q := by
  intro h₀ tk α F u v R ru rv
  obtain ⟨l, ws, n, rfl, hl₁, r⟩ := x.get R ru
  obtain ⟨l', ws', n', rfl, hl₂, r'⟩ := y.get R rv
  obtain ⟨ps, rfl, e⟩ := r.bvals
  obtain ⟨qs, rfl, e'⟩ := r'.bvals
  have eq : ps.map (fun p => KBw.bInts p.1) = qs.map fun p => KBw.bInts p.1 := e.trans e'.symm
  have hsz : ps.length = qs.length := by simpa using congrArg List.length eq
  have inj : ∀ {b c : Array UInt8}, KBw.bInts b = KBw.bInts c → b = c := fun {b c} h => by
    apply Array.toList_inj.mp
    refine List.map_inj_right (f := fun c : UInt8 => ((c.toNat : Nat) : Int)) (fun x y h => ?_) |>.mp h
    exact UInt8.toNat_inj.mp (Int.ofNat_inj.mp h)
  refine SeqAt.RcAt.lists (e := fun _ => true) (isList_of hl₁) (isList_of hl₂) (by simpa using hsz) (by have := units_ok (Γ := Γ) hl; omega) (fun j h1 h2 => ?_) PG w _ _ ?_
  · have h1' : j < ps.length := by simpa using h1
    have h2' : j < qs.length := by simpa using h2
    have ej := congrArg (·[j]?) eq
    simp only [List.getElem?_map, List.getElem?_eq_getElem h1', List.getElem?_eq_getElem h2', Option.map_some, Option.some.injEq] at ej
    have := EqAt_bytes (A := Γ.A.in1) (s := Γ.st h₀ tk) (ps[j]).1 (qs[j]).1 (ps[j]).2 (qs[j]).2
    rw [inj ej, beq_self_eq_true] at this
    simpa [inj ej] using this
  · have : (List.range (bvals ps).toArray.size).all (fun _ => true) = true := by simp
    rw [this]
    exact out_same R ⟨.pure (.bool _), VR.bool, h⟩
theorem op_eq_none_none (h : Q (.pure (.bool true)) cells) : O2 Γ E (compareOp .Eq) .none' .none' loc cells Q := by
  intro h₀ tk α F u v R ru rv; cases ru; cases rv
  exact EqNone.eq_none_none (out_same R ⟨.pure (.bool _), VR.bool, h⟩)
theorem op_isnot_none_none (h : Q (.pure (.bool false)) cells) : O2 Γ E (compareOp .IsNot) .none' .none' loc cells Q := by
  intro h₀ tk α F u v R ru rv; cases ru; cases rv
  exact isnot_none_none (out_same R ⟨.pure (.bool _), VR.bool, h⟩)
theorem op_is_none_none (h : Q (.pure (.bool true)) cells) : O2 Γ E (compareOp .Is) .none' .none' loc cells Q := by
  intro h₀ tk α F u v R ru rv; cases ru; cases rv
  exact is_none_gen (out_same R ⟨.pure (.bool true), VR.bool, h⟩)
theorem op_in_list {ns : List Int} (x : ListAt cells a (ns.map .int)) (h : Q (.pure (.bool (ns.any (· == i)))) cells) : O2 Γ E (compareOp .In) (.int i) a loc cells Q := by
  intro h₀ tk α F u v R ru rv; cases ru
  obtain ⟨l', ws', n', rfl, hl₂, r'⟩ := x.get R rv
  exact in_list_ints (isList_of hl₂) r'.ints (out_same R ⟨.pure (.bool _), VR.bool, h⟩)
theorem op_notin_top {t : Addr} {items : Array Value} {n : Nat} {d : Option Addr} {sl : Array (Option Value)} {ns : List Int} (ho : (KF w.params).lookup t = some { cls := .type "tuple", dict := d, data := .seq items n, slots := sl }) (hi : IntsAre items.toList ns)
    (h : Q (.pure (.bool (!(ns.any (· == i))))) cells) : O2 Γ E (compareOp .NotIn) (.int i) (.stat (.ref t)) loc cells Q := by
  intro h₀ tk α F u v ⟨gr, tn, m, val, cvl, leds, R⟩ ru rv; cases ru; cases rv
  exact notin_tuple_ints (kun_topT R.fr (Γ.turn gr tn).X ho) hi (out_same ⟨gr, tn, m, val, cvl, leds, R⟩ ⟨.pure (.bool _), VR.bool, h⟩)
-- new lists
theorem op_catP (x : ListAt cells a ds) (y : ListAt cells b es) (hz : ds.length < 100000) (hz' : es.length < 100000) (h : Q (.pure (.list (ds ++ es))) cells) : O2 Γ E (binaryOp .Add) a b loc cells Q := by
  intro h₀ tk α F u v R ru rv
  obtain ⟨l, ws, n, rfl, hl₁, r⟩ := x.get R ru
  obtain ⟨l', ws', n', rfl, hl₂, r'⟩ := y.get R rv
  obtain ⟨gr, tn, m, val, cvl, leds, R⟩ := R
  have e := r.length; have e' := r'.length
  exact cat_lists R.fr R.news (isList_of hl₁) (isList_of hl₂) (by omega) (by omega) fun d h' F' N' lt => out_new ⟨gr, tn, m, val, cvl, leds, R.frozen F' N' lt⟩ ⟨.pure (.list _), VR.list (.inr (.head _)) ((r.append r').mono (pf_tail fun _ x => .tail _ x)), h⟩
theorem op_catC (x : ListAt cells a ds) (y : ListAt cells b es) (hz : ds.length < 100000) (hz' : es.length < 100000) (h : Q (.ref cells.length) (cells ++ [.list (ds ++ es)])) : O2 Γ E (binaryOp .Add) a b loc cells Q := by
  intro h₀ tk α F u v R ru rv
  obtain ⟨l, ws, n, rfl, hl₁, r⟩ := x.get R ru
  obtain ⟨l', ws', n', rfl, hl₂, r'⟩ := y.get R rv
  obtain ⟨gr, tn, m, val, cvl, leds, R⟩ := R
  have e := r.length; have e' := r'.length
  exact cat_lists R.fr R.news (isList_of hl₁) (isList_of hl₂) (by omega) (by omega) fun d h' F' N' lt => out_cell (.of (g := gr) (t := tn) (R.made F' N' lt (.list (r.append r')))) ⟨_, ref_snoc R, h⟩
theorem oc_list_copy (x : ListAt cells a ds) (hz : ds.length < 100000) (h : Q (.pure (.list ds)) cells) : OC Γ E (.type "list") [a] loc cells Q := by
  rintro h₀ tk α F vs R va
  obtain _ | ⟨v, _ | ⟨_, _⟩⟩ := vs <;> first | exact va.elim | skip
  · obtain ⟨l, ws, n, rfl, hl, r⟩ := x.get R va.1
    obtain ⟨gr, tn, m, val, cvl, leds, R⟩ := R
    have e := r.length
    exact wpM_of_any (list_copyK R.fr R.news (isList_of hl) (fun D c h' F' N' lt => out_new ⟨gr, tn, m, val, cvl, leds, R.frozen F' N' lt⟩ ⟨.pure (.list _), VR.list (.inr (.head _)) (r.mono (pf_tail fun _ x => .tail _ x)), h⟩) (by rw [sizeLine_eq]; simp; omega))
  · exact va.2.elim
theorem oc_range1 (h : Q (.pure (.range 0 i)) cells) : OC Γ E (.type "range") [.int i] loc cells Q := by
  rintro h₀ tk α F vs ⟨gr, tn, m, val, cvl, leds, R⟩ va
  obtain _ | ⟨v, _ | ⟨_, _⟩⟩ := vs <;> first | exact va.elim | skip
  · obtain ⟨ra, _⟩ := va; cases ra
    refine wpM_of_any (range1_rows R.fr R.news fun h' tk' t₁ u₁ v₁ hr F' N' _ => ?_)
    refine out_new ⟨gr, tn, m, val, cvl, leds, R.frozen F' (d := h₀.objs.size) (o := { cls := .type "range", dict := none, data := .fields #[.int 0 t₁, .int i u₁, .int 1 v₁], slots := #[] }) (fun p hp => ?_) fun p hp => Heap.lt_size (R.news p hp).1⟩ ⟨.pure (.range 0 i), VR.range (.inr (.head _)), h⟩
    rcases List.mem_cons.mp hp with rfl | hp
    · refine ⟨hr, Nat.ne_of_gt R.fr.ns.lt, ?_⟩
      exact Heap.get?_none_of_le (Nat.le_of_lt (Nat.lt_of_le_of_lt R.fr.above R.fr.ns.lt))
    · exact N' p hp
  · exact va.2.elim
theorem oc_range2 (h : Q (.pure (.range i j)) cells) : OC Γ E (.type "range") [.int i, .int j] loc cells Q := by
  rintro h₀ tk α F vs ⟨gr, tn, m, val, cvl, leds, R⟩ va
  obtain _ | ⟨v, _ | ⟨u, _ | ⟨_, _⟩⟩⟩ := vs <;> first | exact va.elim | exact va.2.elim | skip
  · obtain ⟨ra, rb, _⟩ := va; cases ra; cases rb
    refine wpM_of_any (range2_rows R.fr R.news fun h' tk' t₁ u₁ v₁ hr F' N' _ => ?_)
    refine out_new ⟨gr, tn, m, val, cvl, leds, R.frozen F' (d := h₀.objs.size) (o := { cls := .type "range", dict := none, data := .fields #[.int i t₁, .int j u₁, .int 1 v₁], slots := #[] }) (fun p hp => ?_) fun p hp => Heap.lt_size (R.news p hp).1⟩ ⟨.pure (.range i j), VR.range (.inr (.head _)), h⟩
    rcases List.mem_cons.mp hp with rfl | hp
    · refine ⟨hr, Nat.ne_of_gt R.fr.ns.lt, ?_⟩
      exact Heap.get?_none_of_le (Nat.le_of_lt (Nat.lt_of_le_of_lt R.fr.above R.fr.ns.lt))
    · exact N' p hp
  · exact va.2.2.elim
theorem oc_list_range {n : Nat} (hn : n = (j - i).toNat) (h0 : i ≤ j) (hi : -1000 ≤ i) (hj : j ≤ 1000) (h : Q (.pure (.list ((rangeKs i n).map .int))) cells) : OC Γ E (.type "list") [.pure (.range i j)] loc cells Q := by
  rintro h₀ tk α F vs ⟨gr, tn, m, val, cvl, leds, R⟩ va
  obtain _ | ⟨v, _ | ⟨_, _⟩⟩ := vs <;> first | exact va.elim | skip
  · obtain ⟨ra, _⟩ := va
    cases ra with
    | range p =>
      refine wpM_of_any (kll_range (n := n) rfl R.fr R.news (R.keepP p) (small_one (by omega) (by omega) (by omega) (by omega)) ?_ (by omega) fun D us c h' tk F' N' lt hi' => ?_)
      · unfold Builtin.Range.rangeSize
        simp
        omega
      · exact out_new ⟨gr, tn, m, val, cvl, leds, R.frozen F' N' lt⟩ ⟨.pure (.list _), VR.list (.inr (.head _)) (.of_ints hi'), h⟩
  · exact va.2.elim
theorem oc_sum {ns : List Int} (x : ListAt cells a (ns.map .int)) (h : Q (.int ns.sum) cells) : OC Γ E (.builtin "sum") [a] loc cells Q := by
  rintro h₀ tk α F vs R va
  obtain _ | ⟨v, _ | ⟨_, _⟩⟩ := vs <;> first | exact va.elim | skip
  · obtain ⟨l, ws, n, rfl, hl, r⟩ := x.get R va.1
    obtain ⟨gr, tn, m, val, cvl, leds, R⟩ := R
    exact wpM_of_any (sumK rfl R.fr R.news (isList_of hl) r.ints fun h' tk t' F' N' => out_same ⟨gr, tn, m, val, cvl, leds, { R with fr := F', news := N' }⟩ ⟨.int _, VR.int, h⟩)
  · exact va.2.elim
end
end
section
/-- fields of an object -/
noncomputable def fget (name : PySem.Str) : List (String × AV) → Option AV
  | [] => none
  | (n, a) :: r => match Str.ofString n == name with
    | true => some a
    | false => fget name r
noncomputable def fput (name : String) (v : AV) : List (String × AV) → List (String × AV)
  | [] => [(name, v)]
  | (n, a) :: r => match Str.ofString n == Str.ofString name with
    | true => (n, v) :: r
    | false => (n, a) :: fput name v r
section
variable {P : Addr → Obj → Prop} {α : List Addr} {name : PySem.Str}
theorem getL_skip {x : DictEntry} {es : List DictEntry} {n : PySem.Str} {t : Tok} (hk : x.key = .str n t) (q : (n == name) = false) : getL name (x :: es) = getL name es := by
  have hs : x.key.isStr name = false := by rw [hk]; exact q
  have hr : x.refKey = false := by unfold DictEntry.refKey; rw [hk]
  unfold getL
  rw [List.any_cons, hr, Bool.false_or, List.find?_cons, hs]
theorem getL_hit {x : DictEntry} {es : List DictEntry} {n : PySem.Str} {t : Tok} (hk : x.key = .str n t) (q : (n == name) = true) : getL name (x :: es) = some (some x.val) := by
  have hs : x.key.isStr name = true := by rw [hk]; exact q
  unfold getL
  rw [List.find?_cons, hs]
theorem FldsR.get {f : List (String × AV)} {es : List DictEntry} {v : AV} (h : FldsR P α f es) : fget name f = some v → ∃ u, getL name es = some (some u) ∧ AVR P α v u := by
  induction h with
  | nil => intro e; cases e
  | @cons n a r x es t hk b _ ih =>
    intro e
    unfold fget at e
    cases q : Str.ofString n == name with
    | true => rw [q] at e; cases e; exact ⟨x.val, getL_hit hk q, b⟩
    | false => rw [q] at e; rw [getL_skip hk q]; exact ih e
theorem FldsR.none {f : List (String × AV)} {es : List DictEntry} (h : FldsR P α f es) : fget name f = none → getL name es = some none := by
  induction h with
  | nil => exact fun _ => rfl
  | @cons n a r x es t hk b _ ih =>
    intro e
    unfold fget at e
    cases q : Str.ofString n == name with
    | true => rw [q] at e; cases e
    | false => rw [q] at e; rw [getL_skip hk q]; exact ih e
theorem FldsR.some {f : List (String × AV)} {es : List DictEntry} (h : FldsR P α f es) : (getL name es).isSome = true := by
  cases e : fget name f with
  | none => rw [h.none e]; rfl
  | some v => obtain ⟨u, h1, _⟩ := h.get e; rw [h1]; rfl
theorem FldsR.put {nm : String} {hsh : Int} {t : Tok} {v : AV} {u : Value} (hv : AVR P α v u) {f : List (String × AV)} {es : List DictEntry} (h : FldsR P α f es) : FldsR P α (fput nm v f) (putL (Str.ofString nm) hsh (.str (Str.ofString nm) t) u es) := by
  induction h with
  | nil => exact .cons rfl hv .nil
  | @cons n a r x es t' hk b c ih =>
    have hs : x.key.isStr (Str.ofString nm) = (Str.ofString n == Str.ofString nm) := by rw [hk]; rfl
    unfold fput putL
    rw [hs]
    cases q : Str.ofString n == Str.ofString nm with
    | true => exact .cons hk hv c
    | false => exact .cons hk b ih
theorem FldsR.len {f : List (String × AV)} {es : List DictEntry} (h : FldsR P α f es) : f.length = es.length := by
  induction h with
  | nil => rfl
  | cons _ _ _ ih => rw [List.length_cons, List.length_cons, ih]
theorem fput_len {nm : String} {v : AV} : ∀ f : List (String × AV), (fput nm v f).length ≤ f.length + 1
  | [] => Nat.le_refl _
  | (n, a) :: r => by
    unfold fput
    cases Str.ofString n == Str.ofString nm with
    | true => exact Nat.le_succ _
    | false => exact Nat.succ_le_succ (fput_len r)
end
/-- what the text says of a class and a name -/
structure FldOk (w : World) (C : Addr) (name : PySem.Str) : Prop where
  g : plainGet (KF w.params) C name = true
  d : hasDictIn (KF w.params) C = true
  a : findIn (KF w.params) (.ref C) name = some none
structure MethOk (w : World) (C : Addr) (name : PySem.Str) (f : Addr) : Prop where
  g : plainGet (KF w.params) C name = true
  e : findIn (KF w.params) (.ref C) name = some (some (.ref f))
  t : isFn (KF w.params) (.ref f) = true
structure PutOk (w : World) (C : Addr) (name : PySem.Str) : Prop where
  s : findIn (KF w.params) (.ref C) "__setattr__" = some (some (.builtin "object.__setattr__"))
  p : plainOver (KF w.params) C = true
  t : takerIn (KF w.params) C name = some none
  d : hasDictIn (KF w.params) C = true
section
variable {w : World} {κ : Bool} {sc : Scope} {lv : Nat} {Γ : Cx w κ sc lv} {E : Value → Shared → Prop} {loc : Loc} {cells : List AO} {Q : AV → List AO → Prop} {i j : Int} {α : List Addr} {F : Led} {h : Heap} {k : Nat} {ds es : List D} {C : Addr} {fs : List (String × AV)} {name : PySem.Str}
theorem VR.handed {P : Addr → Obj → Prop} {d : D} {u : Value} (h : VR P d u) (hj : d ≠ .junk) : handedIn u = true := by
  cases h <;> first | rfl | exact absurd rfl hj
noncomputable def AV.calm : AV → Bool
  | .pure .junk => false
  | .stat _ => false
  | _ => true
theorem AVR.handed {P : Addr → Obj → Prop} {a : AV} {u : Value} (h : AVR P α a u) (hc : a.calm = true) : handedIn u = true := by
  cases a with
  | pure d => exact VR.handed h fun e => by subst e; cases hc
  | ref k => obtain ⟨_, _, rfl⟩ := h; rfl
  | stat v => cases hc
inductive InstC (Γ : Cx w κ sc lv) (loc : Loc) (cells : List AO) (α : List Addr) (F : Led) (h : Heap) (k : Nat) (C : Addr) (fs : List (String × AV)) : Prop
  | mk (gr : Heap) (tn : KtsTurn Γ.fs Γ.h₀ gr) (x d : Addr) (es : List DictEntry) (n : Nat) (m : PySem.Str → Option Value) (hx : α[k]? = some x) (f : FldsR (PF Γ.P F) α fs es) (fr : Fr gr Γ.L h m) (I : InstAt h x (instObj C d) C (some (dictOf es n))) (pre post : Led) (N : News gr Γ.L h (pre ++ (d, dictOf es n) :: post))
    (a : ∀ p ∈ pre, p.1 ≠ d) (c : ∀ p ∈ post, p.1 ≠ d) (fin : ∀ fs' es' n' h', FldsR (PF Γ.P F) α fs' es' → Fr gr Γ.L h' m → News gr Γ.L h' (pre ++ (d, dictOf es' n') :: post) → Rel Γ loc (cells.set k (.inst C fs')) α F h') : InstC Γ loc cells α F h k C fs
theorem Rel.instCell (R : Rel Γ loc cells α F h) (hk : cells[k]? = some (.inst C fs)) : InstC Γ loc cells α F h k C fs := by
  obtain ⟨gr, tn, m, val, cvl, leds, R⟩ := R
  obtain ⟨x, hx, hc, hm, up⟩ := R.at hk
  generalize leds k = lk at hc hm up
  cases hc with
  | inst f =>
    rename_i d es n
    obtain ⟨pre, post, N, i1, a, c, fin⟩ := up [(x, instObj C d)] d (dictOf es n) [] rfl
    exact ⟨gr, tn, x, d, es, n, m, hx, f, R.fr, ⟨hm _ (.head _), rfl, rfl, hm _ (.tail _ (.head _))⟩, pre, post, N, a, c, fun fs' es' n' h' f' F' N' => (Rel.of (g := gr) (t := tn) (fin _ (.inst C fs') h' (.inst f') F' N'))⟩
theorem op_attr {v : AV} (hk : cells[k]? = some (.inst C fs)) (ok : FldOk w C name) (hv : fget name fs = some v) (hc : v.calm = true) (h : Q v cells) : O1 Γ E (fun u => getAttr u name true) (.ref k) loc cells Q := by
  intro h₀ tk α F u R ru
  obtain ⟨gr, tn, x, d, es, n, m, hx, f, Fm, I, _⟩ := R.instCell hk
  obtain ⟨x', hx', rfl⟩ := ru
  rw [hx] at hx'
  cases hx'
  obtain ⟨u, h1, h2⟩ := f.get hv
  exact get_own Fm (Γ.turn gr tn).X I ok.g ok.d ok.a rfl h1 (h2.handed hc) (out_same R ⟨v, h2, h⟩)
theorem om_inst {f : Addr} (hk : cells[k]? = some (.inst C fs)) (ok : MethOk w C name f) (hv : fget name fs = none) : OM Γ E name (.ref k) (.ref f) loc cells := by
  intro pl h₀ tk α F u K R ru hK
  obtain ⟨gr, tn, x, d, es, n, m, hx, fl, Fm, I, _⟩ := R.instCell hk
  obtain ⟨x', hx', rfl⟩ := ru
  rw [hx] at hx'
  cases hx'
  exact method_inst Fm (Γ.turn gr tn).X I ok.g ok.e ok.t (fl.none hv) hK
theorem oa_inst {nm : String} {r : AV} {Q : List AO → Prop} (hk : cells[k]? = some (.inst C fs)) (ok : PutOk w C (Str.ofString nm)) (hz : fs.length ≤ 20) (h : Q (cells.set k (.inst C (fput nm r fs)))) : OA Γ E (Str.ofString nm) (.ref k) r loc cells Q := by
  intro h₀ tk α F u x R ru rx
  obtain ⟨gr, tn, y, d, es, n, m, hy, fl, Fm, I, pre, post, N, a, c, fin⟩ := R.instCell hk
  obtain ⟨y', hy', rfl⟩ := ru
  rw [hy] at hy'
  cases hy'
  have hf := FldsR.put (nm := nm) (hsh := PyData.keyHash w.params (Str.ofString nm)) (t := (Γ.st h₀ tk).toks + 1) rx fl
  refine set_dict Fm (Γ.turn gr tn).X N I rfl ok.s ok.p ok.t ok.d fl.some rfl (upd_of c a) ?_ fun h' F' N' => out_same (fin _ _ _ h' hf F' N') h
  have := hf.len
  have := fput_len (nm := nm) (v := r) fs
  show (putL _ _ _ x es).length ≤ 1000
  omega
end
section
variable {w : World} {κ : Bool} {sc : Scope} {lv : Nat} {Γ : Cx w κ sc lv} {E : Value → Shared → Prop} {loc : Loc} {cells : List AO} {Q : AV → List AO → Prop} {i j : Int} {ds : List D} {a : AV}
/-- a cut whose slice has just been made -/
noncomputable def OSl (Γ : Cx w κ sc lv) (E : Value → Shared → Prop) (value slice : PySem.Expr) (mk : Value → Obj) (a i : AV) (loc : Loc) (cells : List AO) (Q : AV → List AO → Prop) : Prop :=
  ∀ h tk α F u v, Rel Γ loc cells α F h → AVR (PF Γ.P F) α a u → AVR (PF Γ.P F) α i v → wpAny (model PG w) Γ.A (subscriptTail value slice u (.ref h.objs.size)) (Out Γ loc α F Q) E (Γ.st (h.push (mk v)) tk)
noncomputable abbrev sliceO (l u s : Value) : Obj := { cls := .type "slice", data := .fields #[l, u, s] }
theorem TE_Slice {value slice : PySem.Expr} {pos : Pos} {e : PySem.Expr} {mk : Value → Obj}
    (hs : ∀ {M : Model} {A : Around} {s : Shared} {K : Value → Shared → Prop}, wpM κ M A (eval e Γ.env) (fun v s' => K (.ref s'.heap.objs.size) { s' with heap := s'.heap.push (mk v) }) E s → wpM κ M A (eval slice Γ.env) K E s)
    (h : TE Γ E value loc cells fun a c₁ => TE Γ E e loc c₁ fun i c₂ => OSl Γ E value slice mk a i loc c₂ Q) : TE Γ E (.Subscript value slice pos) loc cells Q := by
  unfold TE
  rw [eval_Subscript]
  refine Ev.bind h ?_
  rintro a c₁ q h₁ tk₁ α₁ F₁ u R₁ ra
  refine wpM_bind (wpM_holding (hs (wpM_idE (q h₁ tk₁ α₁ F₁ R₁) ?_)))
  rintro v s' ⟨h₂, tk₂, α₂, F₂, c₂, rfl, p₂, f₂, R₂, b, rb, q₂⟩
  exact wpM_of_any (wpAny_bind (wpAny_standAt (wpAny_mono (q₂ h₂ tk₂ α₂ F₂ u v R₂ (ra.mono (pf_tail f₂) p₂) rb) (fun v' s'' o => o.mono p₂ f₂ fun _ _ _ _ _ x => x) fun _ _ x => x)))
theorem slice_up {e : PySem.Expr} {p : Pos} {M : Model} {A : Around} {s : Shared} {env : Env} {K : Value → Shared → Prop} (h : wpM κ M A (eval e env) (fun v s' => K (.ref s'.heap.objs.size) { s' with heap := s'.heap.push (sliceO .none v .none) }) E s) :
    wpM κ M A (eval (.Slice none (some e) none p) env) K E s := by
  rw [arm_eval_Slice]
  refine wpM_bind (wpM_pure (wpM_bind (wpM_holding ?_)))
  show wpM κ M A (eval e env) _ E s
  refine wpM_idE h fun v s' k => wpM_bind (wpM_holding (wpM_pure ?_))
  exact wpM_of_any (wpAny_newObj_type k)
theorem slice_lo {e : PySem.Expr} {p : Pos} {M : Model} {A : Around} {s : Shared} {env : Env} {K : Value → Shared → Prop} (h : wpM κ M A (eval e env) (fun v s' => K (.ref s'.heap.objs.size) { s' with heap := s'.heap.push (sliceO v .none .none) }) E s) :
    wpM κ M A (eval (.Slice (some e) none none p) env) K E s := by
  rw [arm_eval_Slice]
  refine wpM_bind ?_
  show wpM κ M A (eval e env) _ E s
  refine wpM_idE h fun v s' k => wpM_bind (wpM_holding (wpM_pure (wpM_bind (wpM_holding (wpM_pure ?_)))))
  exact wpM_of_any (wpAny_newObj_type k)
theorem slice_st {e : PySem.Expr} {p : Pos} {M : Model} {A : Around} {s : Shared} {env : Env} {K : Value → Shared → Prop} (h : wpM κ M A (eval e env) (fun v s' => K (.ref s'.heap.objs.size) { s' with heap := s'.heap.push (sliceO .none .none v) }) E s) :
    wpM κ M A (eval (.Slice none none (some e) p) env) K E s := by
  rw [arm_eval_Slice]
  refine wpM_bind (wpM_pure (wpM_bind (wpM_holding (wpM_pure (wpM_bind (wpM_holding ?_))))))
  show wpM κ M A (eval e env) _ E s
  refine wpM_idE h fun v s' k => ?_
  exact wpM_of_any (wpAny_newObj_type k)
theorem TE_SliceTo {value e : PySem.Expr} {p pos : Pos} (h : TE Γ E value loc cells fun a c₁ => TE Γ E e loc c₁ fun i c₂ => OSl Γ E value (.Slice none (some e) none p) (fun v => sliceO .none v .none) a i loc c₂ Q) : TE Γ E (.Subscript value (.Slice none (some e) none p) pos) loc cells Q := TE_Slice slice_up h
theorem TE_SliceFrom {value e : PySem.Expr} {p pos : Pos} (h : TE Γ E value loc cells fun a c₁ => TE Γ E e loc c₁ fun i c₂ => OSl Γ E value (.Slice (some e) none none p) (fun v => sliceO v .none .none) a i loc c₂ Q) : TE Γ E (.Subscript value (.Slice (some e) none none p) pos) loc cells Q := TE_Slice slice_lo h
theorem TE_SliceStep {value e : PySem.Expr} {p pos : Pos} (h : TE Γ E value loc cells fun a c₁ => TE Γ E e loc c₁ fun i c₂ => OSl Γ E value (.Slice none none (some e) p) (fun v => sliceO .none .none v) a i loc c₂ Q) : TE Γ E (.Subscript value (.Slice none none (some e) p) pos) loc cells Q := TE_Slice slice_st h
theorem osl_to {value slice : PySem.Expr} (x : ListAt cells a ds) (h0 : 0 ≤ i) (hz : ds.length < 100000) (h : Q (.pure (.list (ds.take i.toNat))) cells)
    (hs : ∀ l r, subscripted slice false (.ref l) (.ref r) = operate [.ref r, .ref l] (getItem (.ref l) (.ref r))) : OSl Γ E value slice (fun v => sliceO .none v .none) a (.int i) loc cells Q := by
  intro h₀ tk α F u v R ru rv; cases rv
  obtain ⟨l, ws, n, rfl, hl, r⟩ := x.get R ru
  obtain ⟨gr, tn, m, val, cvl, leds, R⟩ := R
  have e := r.length
  exact kba_turn (value' := .Name (Str.ofString "x") default) (fun _ => rfl) (cut_upto (s := Γ.st h₀ tk) R.fr R.news (isList_of hl) h0 (by omega) (fun D h' F' N' lt => out_new ⟨gr, tn, m, val, cvl, leds, R.frozen F' N' lt⟩ ⟨.pure (.list _), VR.list (.inr (.head _)) ((r.take _).mono (pf_tail fun _ x => .tail _ x)), h⟩) (hs _ _) fun _ => rfl)
theorem osl_from {value slice : PySem.Expr} (x : ListAt cells a ds) (h0 : 0 ≤ i) (hz : ds.length < 100000) (h : Q (.pure (.list (ds.drop i.toNat))) cells)
    (hs : ∀ l r, subscripted slice false (.ref l) (.ref r) = operate [.ref r, .ref l] (getItem (.ref l) (.ref r))) : OSl Γ E value slice (fun v => sliceO v .none .none) a (.int i) loc cells Q := by
  intro h₀ tk α F u v R ru rv; cases rv
  obtain ⟨l, ws, n, rfl, hl, r⟩ := x.get R ru
  obtain ⟨gr, tn, m, val, cvl, leds, R⟩ := R
  have e := r.length
  exact kba_turn (value' := .Name (Str.ofString "x") default) (fun _ => rfl) (cut_from (s := Γ.st h₀ tk) R.fr R.news (isList_of hl) h0 (by omega) (fun D h' F' N' lt => out_new ⟨gr, tn, m, val, cvl, leds, R.frozen F' N' lt⟩ ⟨.pure (.list _), VR.list (.inr (.head _)) ((r.drop _).mono (pf_tail fun _ x => .tail _ x)), h⟩) (hs _ _) fun _ => rfl)
theorem osl_bytes {value slice : PySem.Expr} {ks : List Int} (h0 : 0 ≤ i) (h1 : i ≤ (ks.length : Int)) (hz : ks.length ≤ 100000) (h : Q (.pure (.bytes (ks.take i.toNat))) cells)
    (hs : ∀ b t r, subscripted slice false (.bytes b t) (.ref r) = operate [.ref r, .bytes b t] (getItem (.bytes b t) (.ref r))) : OSl Γ E value slice (fun v => sliceO .none v .none) (.pure (.bytes ks)) (.int i) loc cells Q := by
  intro h₀ tk α F u v R ru rv; cases rv; cases ru
  rename_i b t
  obtain ⟨gr, tn, m, val, cvl, leds, R⟩ := R
  refine kba_turn (value' := .Name (Str.ofString "x") default) (fun _ => rfl) (KBc.slice_K (s := Γ.st h₀ tk) R.fr R.news rfl .none (IsPart.int _ _) (by omega) (fun h' t' k F' N' e => ?_) (hs _ _ _) fun _ => rfl)
  have e2 : (List.drop (Option.elim none 0 (clipAt (KBw.bInts b).length)) (KBw.bInts b)).take (Option.elim (some i) (KBw.bInts b).length (clipAt (KBw.bInts b).length) - Option.elim none 0 (clipAt (KBw.bInts b).length)) = (KBw.bInts b).take i.toNat := by
    show List.take (clipAt _ i - 0) (List.drop 0 _) = _
    rw [List.drop_zero, Nat.sub_zero]
    unfold clipAt
    rw [if_neg (by omega)]
    congr 1
    omega
  rw [e2] at e
  rw [← e] at h
  exact out_same ⟨gr, tn, m, val, cvl, leds, { R with fr := F', news := N' }⟩ ⟨.pure (.bytes _), VR.bytes, h⟩
theorem osl_rev {value slice : PySem.Expr} (x : ListAt cells a ds) (hz : ds.length < 100000) (h : Q (.pure (.list ds.reverse)) cells)
    (hs : ∀ l r, subscripted slice false (.ref l) (.ref r) = operate [.ref l, .ref r] (getItem (.ref l) (.ref r))) : OSl Γ E value slice (fun v => sliceO .none .none v) a (.int (-1)) loc cells Q := by
  intro h₀ tk α F u v R ru rv; cases rv
  obtain ⟨l, ws, n, rfl, hl, r⟩ := x.get R ru
  obtain ⟨gr, tn, m, val, cvl, leds, R⟩ := R
  have e := r.length
  exact kba_turn (value' := .Name (Str.ofString "x") default) (fun _ => rfl) (krv_lit (s := Γ.st h₀ tk) (zs := ws.reverse) R.fr R.news (isList_of hl) (IsPart.int _ _) rfl (fun D h' F' N' lt => out_new ⟨gr, tn, m, val, cvl, leds, R.frozen F' N' lt⟩ ⟨.pure (.list _), VR.list (.inr (.head _)) (r.reverse.mono (pf_tail fun _ x => .tail _ x)), h⟩) (hs _ _) (fun _ => rfl) (by rw [List.size_toArray, sizeLine_eq]; omega))
theorem op_itemNeg {value slice : PySem.Expr} (x : ListAt cells a ds) (h0 : i < 0) (h1 : -(ds.length : Int) ≤ i) (hz : ds.length < 100000) (h : Q (.pure (ds.getD (i + ds.length).toNat .none)) cells)
    (hs : ∀ l u, subscripted slice false (.ref l) (.int i u) = operate [.ref l, .int i u] (getItem (.ref l) (.int i u))) : O2 Γ E (subscriptTail value slice) a (.int i) loc cells Q := by
  intro h₀ tk α F u v R ra rb; cases rb
  obtain ⟨l, ws, n, rfl, hl, r⟩ := x.get R ra
  have e := r.length
  have hl' := isList_of hl
  have hj : (i + ws.length).toNat < ws.length := by omega
  rw [e] at h
  refine tail_any hl'.typeIs slot_list_getitem.lookup (wpAny_getItem_list_neg (x := ws.getD (i + ws.length).toNat .none) hl' h0 (by rw [List.size_toArray]; omega) (by omega) ?_ (out_same R ⟨.pure _, r.get _ (by omega), h⟩)) (hs _ _)
  rw [List.size_toArray, List.getD_eq_getElem?_getD, List.getElem?_eq_getElem hj]
  simp [hj]
end
end
section
section
variable {w : World} {κ : Bool} {sc : Scope} {lv : Nat} {Γ : Cx w κ sc lv} {E : Value → Shared → Prop} {loc : Loc} {cells : List AO} {Q : Fl → Loc → List AO → Prop} {J : Loc → List AO → Prop}
theorem nonew {fs : List Addr} {g₀ gr h : Heap} {L : Addr} {m : PySem.Str → Option Value} (t : KtsTurn fs g₀ gr) (F : Fr gr L h m) : g₀.get? h.objs.size = none :=
  Heap.get?_none_of_le (Nat.le_trans (by rw [← t.size]; exact F.above) (Nat.le_of_lt F.ns.lt))
/-- J holds of the state, seen otherwise perhaps (objects dropped, numbered anew) -/
noncomputable def Wk (Γ : Cx w κ sc lv) (J : Loc → List AO → Prop) (l : Loc) (c : List AO) : Prop := ∀ α F h, Rel Γ l c α F h → ∃ l' c' α' F', (∀ p ∈ F, p ∈ F') ∧ Rel Γ l' c' α' F' h ∧ J l' c'
theorem lookup_mem {β : Type} {x : PySem.Str} {v : β} : ∀ {l : List (PySem.Str × β)}, l.lookup x = some v → (x, v) ∈ l
  | [], e => by cases e
  | (y, u) :: r, e => by
    simp only [List.lookup] at e
    cases q : x == y with
    | true => rw [q] at e; cases e; rw [eq_of_beq q]; exact .head _
    | false => rw [q] at e; exact .tail _ (lookup_mem e)
theorem Wk.sel {l l' : Loc} {c c' : List AO} {n₀ : Nat} (ρ : List Nat) (S : Sel ρ c c') (hα : Γ.α₀.length ≤ n₀) (hp : ∀ i, i < n₀ → ρ[i]? = some i) (hl : ∀ p ∈ l', l.lookup p.1 = some (p.2.ren ρ) ∧ p.2.wf ρ.length = true) (h : J l' c') : Wk Γ J l c := by
  rintro α F h₀ ⟨gr, tn, m, val, cvl, leds, R⟩
  obtain ⟨s1, s2, _⟩ := sel_led S R
  have V := S.via R.cr
  have X3 := List.pairwise_append.mp R.nd
  refine ⟨l', c', ρ.map fun i => α.getD i 0, F, fun _ z => z, ⟨gr, tn, m, val, cvl, fun j => leds (ρ.getD j 0), R.fr, fun p hp => R.news p ?_, ?_, fun p hp q hq => R.ap p ?_ q hq, S.objs R.cr, R.cv, R.lo, fun x v e => ?_, pre_sel S R.cr hα hp R.pre⟩, h⟩
  · rcases List.mem_append.mp hp with hp | hp
    · rcases List.mem_append.mp hp with hp | hp
      · exact List.mem_append_left _ (List.mem_append_left _ (s1 p hp))
      · exact List.mem_append_left _ (List.mem_append_right _ hp)
    · exact List.mem_append_right _ hp
  · exact List.pairwise_append.mpr ⟨s2, X3.2.1, fun p hp q hq => X3.2.2 p (s1 p hp) q hq⟩
  · rcases List.mem_append.mp hp with hp | hp
    · exact List.mem_append_left _ (s1 p hp)
    · exact List.mem_append_right _ hp
  · obtain ⟨h1, h2⟩ := hl _ (lookup_mem e)
    obtain ⟨u, h3, h4⟩ := R.lr x _ h1
    exact ⟨u, h3, h4.back V h2⟩
theorem Wk.locs {l l' : Loc} {c : List AO} (sub : ∀ p ∈ l', l.lookup p.1 = some p.2) (h : J l' c) : Wk Γ J l c := by
  rintro α F h₀ ⟨gr, tn, m, val, cvl, leds, R⟩
  exact ⟨l', c, α, F, fun _ z => z, ⟨gr, tn, m, val, cvl, leds, { R with lr := fun x v e => R.lr x v (sub _ (lookup_mem e)) }⟩, h⟩
/-- a mutable list that nobody changes any more -/
theorem Wk.frz {l l' : Loc} {c c' : List AO} {n₀ k : Nat} {ds : List D} (ρ : List Nat) (S : Sel ρ c c') (hα : Γ.α₀.length ≤ n₀) (hp : ∀ i, i < n₀ → ρ[i]? = some i) (hk : c[k]? = some (.list ds)) (hn : k ∉ ρ)
    (hl : ∀ p ∈ l', (l.lookup p.1 = some (p.2.ren ρ) ∧ p.2.wf ρ.length = true) ∨ (l.lookup p.1 = some (.ref k) ∧ p.2 = .pure (.list ds))) (h : J l' c') : Wk Γ J l c := by
  rintro α F h₀ ⟨gr, tn, m, val, cvl, leds, R⟩
  obtain ⟨s1, s2, s3⟩ := sel_led S R
  have V := S.via R.cr
  have X3 := List.pairwise_append.mp R.nd
  have hkn : k < c.length := (List.getElem?_eq_some_iff.mp hk).1
  obtain ⟨a, ha, hc⟩ := R.cr.at hk
  generalize hlk : leds k = lk at hc
  cases hc with
  | list r =>
    rename_i ws n
    have hm : (a, listOf ws.toArray n) ∈ allL c.length leds := List.mem_flatMap.mpr ⟨k, List.mem_range.mpr hkn, by rw [hlk]; exact .head _⟩
    have up : ∀ b o, PF Γ.P F b o → PF Γ.P ((a, listOf ws.toArray n) :: F) b o := pf_tail fun _ z => .tail _ z
    refine ⟨l', c', ρ.map fun i => α.getD i 0, (a, listOf ws.toArray n) :: F, fun _ z => .tail _ z, ⟨gr, tn, m, val, cvl, fun j => leds (ρ.getD j 0), R.fr, fun p hp => R.news p ?_, ?_, fun p hp q hq => ?_, (S.objs R.cr).mono up, R.cv, R.lo, fun x v e => ?_, pre_sel S R.cr hα hp R.pre⟩, h⟩
    · rcases List.mem_append.mp hp with hp | hp
      · rcases List.mem_append.mp hp with hp | hp
        · exact List.mem_append_left _ (List.mem_append_left _ (s1 p hp))
        · exact List.mem_append_left _ (List.mem_append_right _ hp)
      · rcases List.mem_cons.mp hp with rfl | hp
        · exact List.mem_append_left _ (List.mem_append_left _ hm)
        · exact List.mem_append_right _ hp
    · exact List.pairwise_append.mpr ⟨s2, X3.2.1, fun p hp q hq => X3.2.2 p (s1 p hp) q hq⟩
    · rcases List.mem_append.mp hp with hp | hp
      · rcases List.mem_cons.mp hq with rfl | hq
        · exact s3 k hkn hn p hp _ (by rw [hlk]; exact .head _)
        · exact R.ap p (List.mem_append_left _ (s1 p hp)) q hq
      · rcases List.mem_cons.mp hq with rfl | hq
        · exact Ne.symm (X3.2.2 _ hm p hp)
        · exact R.ap p (List.mem_append_right _ hp) q hq
    · rcases hl _ (lookup_mem e) with ⟨h1, h2⟩ | ⟨h1, h2⟩
      · obtain ⟨u, h3, h4⟩ := R.lr x _ h1
        exact ⟨u, h3, (h4.mono up .rfl).back V h2⟩
      · obtain ⟨u, h3, a', ha', rfl⟩ := R.lr x _ h1
        have h2' : v = .pure (.list ds) := h2
        subst h2'
        rw [ha] at ha'
        cases ha'
        exact ⟨_, h3, VR.list (.inr (.head _)) (r.mono up)⟩
theorem TSs_wk {E : Value → Shared → Prop} {Q : Fl → Loc → List AO → Prop} {sts : List Stmt} {l : Loc} {c : List AO} (W : Wk Γ (fun l' c' => TSs Γ E sts l' c' Q) l c) : TSs Γ E sts l c Q := fun h tk α F R => by
  obtain ⟨l', c', α', F', fk, R', t⟩ := W α F h R
  exact wpM_idE (t h tk α' F' R') fun _ _ o => o.mono fk fun _ _ _ z => z
/-- the end of a loop's turn -/
noncomputable def Turn (Γ : Cx w κ sc lv) (J : Loc → List AO → Prop) (Q : Fl → Loc → List AO → Prop) (fl : Fl) (l : Loc) (c : List AO) : Prop := match fl with
  | .next => Wk Γ J l c
  | .cont => Wk Γ J l c
  | .brk => Q .next l c
  | .ret v => Q (.ret v) l c
inductive WhSt (Γ : Cx w κ sc lv) (F : Led) (I : Nat → Loc → List AO → Prop) (n : Nat) (s' : Shared) : Prop
  | mk (h : Heap) (tk : Nat) (α' : List Addr) (F' : Led) (l : Loc) (c : List AO) (e : s' = Γ.st h tk) (f : ∀ p ∈ F, p ∈ F') (r : Rel Γ l c α' F' h) (i : I n l c) : WhSt Γ F I n s'
theorem TS_While {test : PySem.Expr} {body : List Stmt} {pos : Pos} (hE : PassesOwn (model PG w) Γ.A Γ.env E) (I : Nat → Loc → List AO → Prop) (n₀ : Nat) (h0 : I n₀ loc cells)
    (turn : ∀ n l c, I n l c → TB Γ E test (eval test Γ.env) l c fun b c₁ => if b = true then TSs Γ E body l c₁ (Turn Γ (fun l c => ∃ n', n' < n ∧ I n' l c) Q) else Q .next l c₁) : TS Γ E (.While test body [] pos) loc cells Q := by
  intro h₀ tk α F R
  refine wpM_While (codeM_whileLoop (WhSt Γ F I) ?_ n₀ ⟨h₀, tk, α, F, loc, cells, rfl, fun _ x => x, R, h0⟩)
  rintro n s' ⟨h, tk, α', F', l, c, rfl, hF, R', hI⟩
  refine wpM_mono (turn n l c hI h tk α' F' R') ?_ hE
  rintro b s' ⟨h₁, tk₁, α₁, F₁, c₁, rfl, p₁, f₁, R₁, q⟩
  cases b with
  | false =>
    simp only [Bool.false_eq_true, if_false] at q ⊢
    exact wpAny_execs_nil (outS_next (fun p hp => f₁ p (hF p hp)) R₁ q)
  | true =>
    simp only [if_true] at q ⊢
    refine wpM_mono (q h₁ tk₁ α₁ F₁ R₁) ?_ hE
    rintro f s' ⟨h₂, tk₂, α₂, F₂, l₂, c₂, fl, rfl, f₂, R₂, rf, q₂⟩
    have hF2 : (∀ p ∈ F₁, p ∈ F₂) → ∀ p ∈ F, p ∈ F₂ := fun f₂ p hp => f₂ p (f₁ p (hF p hp))
    have go : (∀ p ∈ F₁, p ∈ F₂) → Wk Γ (fun l c => ∃ n', n' < n ∧ I n' l c) l₂ c₂ → ∃ m, m < n ∧ WhSt Γ F I m (Γ.st h₂ tk₂) := fun f₂ z => by
      obtain ⟨l', c', α', F', fk, R', n', hn, hI'⟩ := z α₂ F₂ h₂ R₂
      exact ⟨n', hn, h₂, tk₂, α', F', l', c', rfl, fun p hp => fk p (hF2 f₂ p hp), R', hI'⟩
    cases fl with
    | next => cases rf; exact go f₂ q₂
    | cont => cases rf; exact go f₂ q₂
    | brk => cases rf; exact outS_next (hF2 f₂) R₂ q₂
    | ret v => obtain ⟨u, rfl, ra⟩ := rf; exact ⟨h₂, tk₂, α₂, F₂, l₂, c₂, .ret v, rfl, trivial, R₂, ⟨u, rfl, ra⟩, q₂⟩
/-- a frozen thing that is none of a kind dropped -/
theorem Rel'.drop {α : List Addr} {F G : Led} {h : Heap} {m val : PySem.Str → Option Value} {cvl : Led} {leds : Nat → Led} (R : Rel' Γ loc cells α F h m val cvl leds) (hG : ∀ p ∈ G, p ∈ F) (hs : ∀ p ∈ F, seqO p.2 → p ∈ G) : Rel' Γ loc cells α G h m val cvl leds where
  fr := R.fr
  news := fun p hp => R.news p ((List.mem_append.mp hp).elim (fun x => List.mem_append_left _ x) fun x => List.mem_append_right _ (hG p x))
  nd := R.nd
  ap := fun p hp q hq => R.ap p hp q (hG q hq)
  cr := R.cr.mono' fun a o so x => x.imp id fun y => hs _ y so
  cv := R.cv
  lo := R.lo
  lr := fun x v e => let ⟨u, h1, h2⟩ := R.lr x v e; ⟨u, h1, h2.mono' (fun a o so x => x.imp id fun y => hs _ y so) .rfl⟩
  pre := R.pre
inductive ForSt (Γ : Cx w κ sc lv) (St : Nat → Heap → Prop) (F₀ : Led) (I : Addr) (J : Nat → Loc → List AO → Prop) (n k : Nat) (s' : Shared) : Prop
  | mk (h : Heap) (tk : Nat) (α : List Addr) (F : Led) (l : Loc) (c : List AO) (gr : Heap) (tn : KtsTurn Γ.fs Γ.h₀ gr) (m val : PySem.Str → Option Value) (cvl : Led) (leds : Nat → Led) (i : Nat) (e : s' = Γ.st h tk) (st : St i h) (f : ∀ p ∈ F₀, p ∈ F)
    (r : Rel' (Γ.turn gr tn) l c α F h m val cvl leds) (o : ∀ p ∈ (allL c.length leds ++ cvl) ++ F, p.1 ≠ I) (j : J i l c) (hi : i ≤ n) (hk : k = n - i) : ForSt Γ St F₀ I J n k s'
/-- the loop itself, over anything that is walked -/
theorem for_core {x : PySem.Str} {px : Pos} {body : List Stmt} {I : Addr} {fp : List Addr} {n : Nat} {P : Nat → Value → Prop} {St : Nat → Heap → Prop} {F₀ F : Led} {h : Heap} {tk : Nat} {α : List Addr} {m val : PySem.Str → Option Value} {cvl : Led} {leds : Nat → Led} {xs : Nat → AV} {gr : Heap} {tn : KtsTurn Γ.fs Γ.h₀ gr}
    (W : Walks PG w Γ.A I fp [I] n P St) (hE : PassesOwn (model PG w) Γ.A Γ.env E) (hx : Storable sc Γ.own x) (hxs : ∀ i v α F', i < n → P i v → (∀ p ∈ F₀, p ∈ F') → AVR (PF Γ.P F') α (xs i) v)
    (hfp : ∀ b ∈ fp, b ≠ I → ∃ o, PF Γ.P F₀ b o) (hIo : ∀ i h, St i h → ∃ o, h.get? I = some o ∧ ¬ seqO o) (hIL : I ≠ Γ.L) (hIn : Γ.h₀.get? I = none) (hst : St 0 h) (hF : ∀ p ∈ F₀, p ∈ F) (R : Rel' (Γ.turn gr tn) loc cells α F h m val cvl leds)
    (hoff : ∀ p ∈ (allL cells.length leds ++ cvl) ++ F, p.1 ≠ I) (J : Nat → Loc → List AO → Prop) (h0 : J 0 loc cells)
    (step : ∀ i l c, i < n → J i l c → TSs Γ E body (l.put x (xs i)) c (Turn Γ (J (i + 1)) Q)) (done : ∀ l c, J n l c → Q .next l c) :
    codeM κ (model PG w) Γ.A (.forLoop (.Name x px) (.ref I) body [] Γ.env) (fun r s' => match r with | .ok f => OutS Γ F₀ Q f s' | .error e => cameBackBy (model PG w) Γ.A Γ.env E e s') (Γ.st h tk) := by
  have hIn' : ∀ {g}, KtsTurn Γ.fs Γ.h₀ g → g.get? I = none := fun t => t.none_ I hIn
  have keepR : ∀ {gr tn l c α F h h₁ m val cvl leds}, Rel' (Γ.turn gr tn) l c α F h m val cvl leds → (∀ p ∈ (allL c.length leds ++ cvl) ++ F, p.1 ≠ I) → (∀ b o, b ∉ [I] → h.get? b = some o → h₁.get? b = some o) → Rel' (Γ.turn gr tn) l c α F h₁ m val cvl leds := fun {gr tn _ _ _ _ _ _ _ _ _ _} R ho hk =>
    { R with
      fr := ⟨R.fr.ns.at' fun o e => hk _ o (fun q => hIL (List.mem_singleton.mp q).symm) e, fun b o e => hk b o (fun q => by rw [List.mem_singleton.mp q, show (Γ.turn gr tn).h₀.get? I = none from hIn' tn] at e; cases e) (R.fr.keep b o e), R.fr.above⟩
      news := fun p hp => ⟨hk _ _ (fun q => ho p hp (List.mem_singleton.mp q)) (R.news p hp).1, (R.news p hp).2⟩ }
  refine codeM_forLoop (ForSt Γ St F₀ I J n) ?_ n
    ⟨h, tk, α, F, loc, cells, gr, tn, m, val, cvl, leds, 0, rfl, hst, hF, R, hoff, h0, Nat.zero_le _, rfl⟩
  rintro k s' ⟨h, tk, α, F, l, c, gr, tn, m, val, cvl, leds, i, rfl, hst, hF, R, hoff, hJ, hi, rfl⟩
  rcases Nat.lt_or_ge i n with hlt | hge
  · refine W.item i _ _ _ hlt hst fun v h₁ tk₁ hP hst₁ hk₁ => ?_
    have R₁ := keepR R hoff hk₁
    obtain ⟨oI, hoI, hns⟩ := hIo _ _ hst₁
    have R₂ : Rel Γ l c α ((I, oI) :: F) h₁ := by
      refine ⟨gr, tn, m, val, cvl, leds, { R₁ with
        news := fun p hp => ?_
        ap := fun p hp q hq => ?_
        cr := R₁.cr.mono (pf_tail fun _ x => .tail _ x)
        lr := fun x v e => let ⟨u, h1, h2⟩ := R₁.lr x v e; ⟨u, h1, h2.mono (pf_tail fun _ x => .tail _ x) .rfl⟩ }⟩
      · rcases List.mem_append.mp hp with hp | hp
        · exact R₁.news p (List.mem_append_left _ hp)
        · rcases List.mem_cons.mp hp with rfl | hp
          · exact ⟨hoI, hIL, hIn' tn⟩
          · exact R₁.news p (List.mem_append_right _ hp)
      · rcases List.mem_cons.mp hq with rfl | hq
        · exact hoff p (List.mem_append_left _ hp)
        · exact R₁.ap p hp q hq
    refine wpAny_assign_Name (store_name hx R₂ (hxs i v α _ hlt hP fun p hp => .tail _ (hF p hp)) fun h₂ tk₂ R₃ => ?_)
    refine wpM_mono (step i l c hlt hJ h₂ tk₂ α _ R₃) ?_ hE
    rintro f s' ⟨h₃, tk₃, α₃, F₃, l₃, c₃, fl, rfl, f₃, R₄, rf, q⟩
    have hF3' : (∀ p ∈ (I, oI) :: F, p ∈ F₃) → ∀ p ∈ F₀, p ∈ F₃ := fun f₃ p hp => f₃ p (.tail _ (hF p hp))
    have fin : (∀ p ∈ (I, oI) :: F, p ∈ F₃) → Wk Γ (J (i + 1)) l₃ c₃ → ∃ k', k' < n - i ∧ ForSt Γ St F₀ I J n k' (Γ.st h₃ tk₃) := fun f₃ z => by
      have hF3 := hF3' f₃
      obtain ⟨l', c', α', F₄, fk, ⟨gr', tn', m', val', cvl', leds', R'⟩, hJ'⟩ := z α₃ F₃ h₃ R₄
      replace hF3 : ∀ p ∈ F₀, p ∈ F₄ := fun p hp => fk p (hF3 p hp)
      have hIm : (I, oI) ∈ F₄ := fk _ (f₃ _ (.head _))
      have hI3 : h₃.get? I = some oI := (R'.news _ (List.mem_append_right _ hIm)).1
      have R'' := R'.drop (G := F₄.filter fun p => decide (@Ne Nat p.1 I)) (fun p hp => (List.mem_filter.mp hp).1) fun p hp so => by
        refine List.mem_filter.mpr ⟨hp, decide_eq_true fun e => hns ?_⟩
        have := (R'.news p (List.mem_append_right _ hp)).1
        rw [show p.1 = I from e, hI3] at this
        cases this
        exact so
      refine ⟨n - (i + 1), by omega, h₃, tk₃, α', _, l', c', gr', tn', m', val', cvl', leds', i + 1, rfl, ?_, fun p hp => ?_, R'', fun p hp => ?_, hJ', hlt, rfl⟩
      · refine W.frame _ _ _ hst₁ fun b hb o e => ?_
        by_cases q : b = I
        · subst q
          rw [hoI] at e
          cases e
          exact hI3
        · obtain ⟨o', ho'⟩ := hfp b hb q
          have e1 := R₁.keepP (ho'.imp id fun x => hF _ x)
          rw [e] at e1
          cases e1
          exact R'.keepP (ho'.imp id fun x => hF3 _ x)
      · refine List.mem_filter.mpr ⟨hF3 p hp, decide_eq_true ?_⟩
        exact hoff p (List.mem_append_right _ (hF p hp))
      · rcases List.mem_append.mp hp with hp | hp
        · exact R'.ap p hp _ hIm
        · exact of_decide_eq_true (List.mem_filter.mp hp).2
    cases fl with
    | next => cases rf; exact fin f₃ q
    | cont => cases rf; exact fin f₃ q
    | brk => cases rf; exact outS_next (hF3' f₃) R₄ q
    | ret v => obtain ⟨u, rfl, ra⟩ := rf; exact ⟨h₃, tk₃, α₃, F₃, l₃, c₃, .ret v, rfl, trivial, R₄, ⟨u, rfl, ra⟩, q⟩
  · obtain rfl : i = n := by omega
    refine W.done _ _ _ hst fun h₁ tk₁ hk₁ => wpAny_execs_nil ?_
    exact outS_next hF ⟨gr, tn, m, val, cvl, leds, keepR R hoff hk₁⟩ (done l c hJ)
/-- what a for loop goes over -/
noncomputable def FO (Γ : Cx w κ sc lv) (E : Value → Shared → Prop) (x : PySem.Str) (px : Pos) (body : List Stmt) (a : AV) (loc : Loc) (cells : List AO) (Q : Fl → Loc → List AO → Prop) : Prop :=
  ∀ h tk α F u, Rel Γ loc cells α F h → AVR (PF Γ.P F) α a u → wpAny (model PG w) Γ.A (pyIter u) (fun it s₂ => codeM κ (model PG w) Γ.A (.forLoop (.Name x px) it body [] Γ.env) (fun r s' => match r with | .ok f => OutS Γ F Q f s' | .error e => cameBackBy (model PG w) Γ.A Γ.env E e s') s₂) E (Γ.st h tk)
theorem TS_For {x : PySem.Str} {px pos : Pos} {iter : PySem.Expr} {body : List Stmt} (hs : ∀ x, foldedSetIterable iter Γ.env x = pure x) (h : TE Γ E iter loc cells fun a c => FO Γ E x px body a loc c Q) : TS Γ E (.For (.Name x px) iter body [] pos) loc cells Q := by
  intro h₀ tk α F R
  rw [exec_For]
  refine wpM_bind (wpM_standAt (wpM_bind (wpM_idE (h h₀ tk α F R) ?_)))
  rintro u s' ⟨h₁, tk₁, α₁, F₁, c₁, rfl, p₁, f₁, R₁, r, ra, q⟩
  rw [hs]
  refine wpM_bind (wpM_pure (wpM_bind (wpM_standAt (wpM_bind (wpM_of_any (wpAny_holding (wpAny_mono (q h₁ tk₁ α₁ F₁ u R₁ ra) (fun it s₂ h₂ => ?_) fun _ _ x => x)))))))
  exact wpM_runOwn (codeM_mono h₂ fun r s' x => by
    cases r with
    | ok f => exact x.mono f₁ fun _ _ _ y => y
    | error e => exact x)
theorem not_seq {T : String} (h1 : T ≠ "list") (h2 : T ≠ "tuple") (h3 : T ≠ "range") {o : Obj} (ho : o.cls = .type T) : ¬ seqO o := by
  rintro ⟨h | h | h, _⟩ <;> rw [ho] at h <;> injection h with h <;> contradiction
theorem fo_list {x : PySem.Str} {px : Pos} {body : List Stmt} {ds : List D} (hE : PassesOwn (model PG w) Γ.A Γ.env E) (hx : Storable sc Γ.own x) (J : Nat → Loc → List AO → Prop) (h0 : J 0 loc cells)
    (step : ∀ i l c, i < ds.length → J i l c → TSs Γ E body (l.put x (.pure (ds.getD i .none))) c (Turn Γ (J (i + 1)) Q)) (done : ∀ l c, J ds.length l c → Q .next l c) : FO Γ E x px body (.pure (.list ds)) loc cells Q := by
  rintro h tk α F u ⟨gr, tn, m, val, cvl, leds, R⟩ ra
  cases ra with
  | list p r =>
    rename_i l ws n
    have hl : h.IsList l ws.toArray := isList_of (R.keepP p)
    have hlt : l < h.objs.size := Heap.lt_size (R.keepP p)
    have hne : l ≠ h.objs.size := Nat.ne_of_lt hlt
    have e := r.length
    refine wpAny_pyIter_list hl ?_
    refine for_core (Walks.list (prog := PG) (w := w) rfl h.objs.size l hne ws.toArray) hE hx (xs := fun i => .pure (ds.getD i .none)) ?_ ?_ ?_ (Nat.ne_of_gt R.fr.ns.lt) (nonew tn R.fr) ⟨⟨_, Heap.get?_push_size _ rfl, rfl, rfl⟩, hl.push _⟩ (fun _ x => x)
      { R with fr := R.fr.push _, news := fun p hp => ⟨Heap.get?_push_of_some _ (R.news p hp).1, (R.news p hp).2⟩ } (fun p hp => Nat.ne_of_lt (Heap.lt_size (R.news p hp).1)) J h0 ?_ ?_
    · intro i v α F' hi hv hF
      simp only [List.size_toArray] at hi
      have hv' : v = ws.getD i .none := by
        simp at hv
        rw [List.getD_eq_getElem?_getD, hv]; rfl
      rw [hv']
      exact (r.get i (by omega)).mono (pf_tail hF)
    · intro b hb hbI
      rcases List.mem_cons.mp hb with e | hb
      · exact absurd e hbI
      · rw [List.mem_singleton.mp hb]; exact ⟨_, p⟩
    · intro i h st
      obtain ⟨o, ho, hc, _⟩ := st.1
      exact ⟨o, ho, not_seq (by decide) (by decide) (by decide) hc⟩
    · intro i l c hi hJ
      exact step i l c (by simp at hi; omega) hJ
    · intro l c hJ
      refine done l c ?_
      simpa [e] using hJ
theorem fo_tuple {x : PySem.Str} {px : Pos} {body : List Stmt} {ds : List D} (hE : PassesOwn (model PG w) Γ.A Γ.env E) (hx : Storable sc Γ.own x) (J : Nat → Loc → List AO → Prop) (h0 : J 0 loc cells)
    (step : ∀ i l c, i < ds.length → J i l c → TSs Γ E body (l.put x (.pure (ds.getD i .none))) c (Turn Γ (J (i + 1)) Q)) (done : ∀ l c, J ds.length l c → Q .next l c) : FO Γ E x px body (.pure (.tuple ds)) loc cells Q := by
  rintro h tk α F u ⟨gr, tn, m, val, cvl, leds, R⟩ ra
  cases ra with
  | tuple p r =>
    rename_i l ws n
    have hl : h.IsTuple l ws.toArray := ⟨_, R.keepP p, rfl, _, rfl⟩
    have hlt : l < h.objs.size := Heap.lt_size (R.keepP p)
    have hne : l ≠ h.objs.size := Nat.ne_of_lt hlt
    have e := r.length
    refine wpAny_pyIter_tuple hl ?_
    refine for_core (Walks.tuple (prog := PG) (w := w) rfl h.objs.size l hne ws.toArray) hE hx (xs := fun i => .pure (ds.getD i .none)) ?_ ?_ ?_ (Nat.ne_of_gt R.fr.ns.lt) (nonew tn R.fr) ⟨⟨_, Heap.get?_push_size _ rfl, rfl, rfl⟩, ⟨_, Heap.get?_push_of_some _ (R.keepP p), rfl, _, rfl⟩⟩ (fun _ x => x)
      { R with fr := R.fr.push _, news := fun p hp => ⟨Heap.get?_push_of_some _ (R.news p hp).1, (R.news p hp).2⟩ } (fun p hp => Nat.ne_of_lt (Heap.lt_size (R.news p hp).1)) J h0 ?_ ?_
    · intro i v α F' hi hv hF
      simp only [List.size_toArray] at hi
      have hv' : v = ws.getD i .none := by
        simp at hv
        rw [List.getD_eq_getElem?_getD, hv]; rfl
      rw [hv']
      exact (r.get i (by omega)).mono (pf_tail hF)
    · intro b hb hbI
      rcases List.mem_cons.mp hb with e | hb
      · exact absurd e hbI
      · rw [List.mem_singleton.mp hb]; exact ⟨_, p⟩
    · intro i h st
      obtain ⟨o, ho, hc, _⟩ := st.1
      exact ⟨o, ho, not_seq (by decide) (by decide) (by decide) hc⟩
    · intro i l c hi hJ
      exact step i l c (by simp at hi; omega) hJ
    · intro l c hJ
      refine done l c ?_
      simpa [e] using hJ
theorem rs_of {a b : Int} {n : Nat} (hn : n = (b - a).toNat) : Builtin.Range.rangeSize a b 1 = (n : Int) := by
  unfold Builtin.Range.rangeSize
  simp
  split <;> omega
theorem fo_range {x : PySem.Str} {px : Pos} {body : List Stmt} {a b : Int} {n : Nat} (hn : n = (b - a).toNat) (ha : -1000 ≤ a ∧ a ≤ 1000) (hb : -1000 ≤ b ∧ b ≤ 1000) (hE : PassesOwn (model PG w) Γ.A Γ.env E) (hx : Storable sc Γ.own x) (J : Nat → Loc → List AO → Prop) (h0 : J 0 loc cells)
    (step : ∀ i l c, i < n → J i l c → TSs Γ E body (l.put x (.int (a + (i : Int)))) c (Turn Γ (J (i + 1)) Q)) (done : ∀ l c, J n l c → Q .next l c) : FO Γ E x px body (.pure (.range a b)) loc cells Q := by
  rintro h tk α F u ⟨gr, tn, m, val, cvl, leds, R⟩ ra
  cases ra with
  | range p =>
    refine wpAny_pyIter_range (R.keepP p) (small_one (by omega) (by omega) (by omega) (by omega)) ?_
    rw [rs_of hn]
    refine for_core (Walks.range (prog := PG) (w := w) rfl h.objs.size a 1 n) hE hx (xs := fun i => .int (a + (i : Int))) ?_ ?_ ?_ (Nat.ne_of_gt R.fr.ns.lt) (nonew tn R.fr) ?_ (fun _ x => x)
      { R with fr := R.fr.push _, news := fun p hp => ⟨Heap.get?_push_of_some _ (R.news p hp).1, (R.news p hp).2⟩ } (fun p hp => Nat.ne_of_lt (Heap.lt_size (R.news p hp).1)) J h0 step done
    · rintro i v α F' hi ⟨t, rfl⟩ hF
      rw [Int.mul_one]
      exact VR.int
    · intro b hb hbI
      exact absurd (List.mem_singleton.mp hb) hbI
    · intro i h st
      exact ⟨_, st, not_seq (by decide) (by decide) (by decide) rfl⟩
    · have e : a + ((0 : Nat) : Int) * 1 = a := by simp
      have e2 : (n : Int) - ((0 : Nat) : Int) = (n : Int) := by simp
      rw [e, e2]
      exact Heap.get?_push_size _ rfl
end
end
section
theorem wpM_if_false {κ : Bool} {E : Value → Shared → Prop} {A : Around} {s : Shared} {α : Type} {M : Model} {c : Prop} [Decidable c] {a b : Sem α} {Q : α → Shared → Prop} (hc : ¬ c) (h : wpM κ M A b Q E s) : wpM κ M A (if c then a else b) Q E s := by rw [if_neg hc]; exact h
section
variable {κ : Bool} {prog : Program} {w : World} {A : Around} {K : Frag} {C : Addr} {R : Result → Shared → Prop} {h : Heap} {g : Array GenState} {d : Drawn} {t : Nat} {os : OsState}
theorem make_coreM {rest : List Value} {init : Value} (Y : Makes (model prog w) h C) (hi : Looks (model prog w) h (typeLookup (.ref C) "__init__") (some init))
    (hb : ∀ self, Looks (model prog w) h (bindSpecial init self) (init, [self])) (hne : (some init != some (Value.builtin "object.__init__")) = true ∨ (rest = [] ∧ ([] : List (PySem.Str × Value)) = []))
    (hq : codeM κ (model prog w) (A.under (.builtin "type.__call__" ⟨.ref C :: rest, []⟩)) (.call init ⟨.ref (h.objs.size + 1) :: rest, []⟩) (InitBack (h.objs.size + 1) R) ⟨(h.push emptyDict).push (instObj C h.objs.size), g, d, t, os⟩) :
    codeM κ (model prog w) A (.call (.ref C) ⟨rest, []⟩) R ⟨h, g, d, t, os⟩ := by
  have Y' := Y
  obtain ⟨⟨oc, od, cd, sl, hC, e1, e2, e4⟩, made, base, self, top, call, typ⟩ := Y
  refine codeM_of_tree rfl ?_
  show wpM κ _ _ (callAny (.ref C) _) _ _ _
  simp only [callAny]
  refine wpM_then (wpAny_load hC ?_)
  show wpM κ _ _ (callAny.viaDunder (.ref C) _) _ _ _
  unfold callAny.viaDunder
  refine wpM_then (call.here ?_)
  dsimp only
  rw [tc_bind]
  refine wpM_bind (wpM_pure (wpM_bind (wpM_pure ?_)))
  refine wpM_pure (a := Fin.again (.call (.builtin "type.__call__") ⟨.ref C :: rest, []⟩)) (And.intro rfl ?_)
  refine codeM_call_builtin_at (by show (!heldIds.contains "type.__call__") = true; decide +kernel) (Code.quiet_builtin _ (by decide +kernel)) entry_typeCall (check_slot tc_kind tc_split typ (tc_args _ _ _) ?_)
  unfold Builtin.«type.__call__»
  have hm : Looks (model prog w) h (mroOf (.ref C)) cd.mro := ((Looks.ld (part := none) hC).andThen .now).andThen .now
  dsimp only
  refine wpM_if_false (by simp) ?_
  refine wpM_then (hm.here ?_)
  rw [e4]
  refine wpM_if_false Bool.false_ne_true ?_
  refine wpM_then (made.here ?_)
  dsimp only
  refine wpM_bind (wpM_pure ?_)
  refine wpM_then (wpAny_holding (wpAny_call (new_K Y' hi hne ?_)))
  dsimp only
  have k : ∀ b o, h.get? b = some o → ((h.push emptyDict).push (instObj C h.objs.size)).get? b = some o := fun b o e => Heap.get?_push_of_some _ (Heap.get?_push_of_some _ e)
  have hx : ((h.push emptyDict).push (instObj C h.objs.size)).get? (h.objs.size + 1) = some (instObj C h.objs.size) := by heap_get
  have t1 : Looks (model prog w) ((h.push emptyDict).push (instObj C h.objs.size)) (typeOf (.ref (h.objs.size + 1))) (.ref C) := (Looks.ld hx).andThen .now
  have s1 := self.keeps k
  have i1 := hi.keeps k
  have b1 := (hb (.ref (h.objs.size + 1))).keeps k
  have j1 : Looks (model prog w) ((h.push emptyDict).push (instObj C h.objs.size)) (isInstance (.ref (h.objs.size + 1)) (.ref C)) true := by unfold isInstance; exact t1.andThen s1
  have j2 : Looks (model prog w) ((h.push emptyDict).push (instObj C h.objs.size)) (specialOf (.ref (h.objs.size + 1)) "__init__") (some init) := by unfold specialOf; exact t1.andThen i1
  refine wpM_then (j1.here ?_)
  simp only [Bool.not_true, Bool.false_eq_true, if_false]
  refine wpM_bind (wpM_holding ?_)
  simp only [callSpecial?]
  refine wpM_then (j2.here ?_)
  dsimp only
  refine wpM_holding (wpM_then (b1.here ?_))
  dsimp only
  refine wpM_bind (wpM_idE (wpM_call (codeM_mono hq fun r s' z => ?_)) fun v s' q => wpM_pure q)
  rcases r with e | (v | _ | _ | _) <;> first | exact z | exact z.elim | skip
  obtain ⟨rfl, z⟩ := z
  exact wpM_pure z
end
/-- an own class made: its __init__ by a contract that gives None -/
theorem can_make {τ : Bool} {w : World} {κ : Bool} {lv : Nat} {C fI : Addr} {args : List AV} {cells : List AO} {Q : AV → List AO → Prop} (hm : makesIn (KF w.params) C = true) (hi : findIn (KF w.params) (.ref C) "__init__" = some (some (.ref fI))) (hfn : typeIn (KF w.params) (.ref fI) = some (.type "function"))
    (I : CanG τ w κ lv fI (.ref cells.length :: args) (cells ++ [.inst C []]) (fun r c => r = .none' ∧ Q (.ref cells.length) c) False) : CanG τ w κ (lv + 1) C args cells Q False := by
  intro mean mg mb dp un gd outer base g s vs α leds P B hg hsz X T hP hm' nd CR va hdp hun
  obtain ⟨hh, gs, d, t, os⟩ := s
  have XX : (KF w.params).In hh := X.keeps fun b o e => hg b o (B.stays b o e)
  refine make_coreM (makes_of XX hm) (looks_findIn XX hi) (fun self => bind_fn XX self hfn) (.inl rfl) ?_
  rw [under_make]
  have hk : ∀ b o, hh.get? b = some o → ((hh.push emptyDict).push (instObj C hh.objs.size)).get? b = some o := fun b o e => Heap.get?_push_of_some _ (Heap.get?_push_of_some _ e)
  have hx : ((hh.push emptyDict).push (instObj C hh.objs.size)).get? (hh.objs.size + 1) = some (instObj C hh.objs.size) := by heap_get
  have hd : ((hh.push emptyDict).push (instObj C hh.objs.size)).get? hh.objs.size = some emptyDict := by heap_get
  have lt : ∀ p ∈ allL cells.length leds, p.1 < hh.objs.size := fun p hp => Heap.lt_size (hm' p hp).1
  have gn : ∀ b, hh.objs.size ≤ b → g.get? b = none := fun b hb => Heap.get?_none_of_le (Nat.le_trans hsz hb)
  have e1 : allL (cells ++ [AO.inst C []]).length (fun i => if i = cells.length then [(hh.objs.size + 1, instObj C hh.objs.size), (hh.objs.size, emptyDict)] else leds i) = allL cells.length leds ++ [(hh.objs.size + 1, instObj C hh.objs.size), (hh.objs.size, emptyDict)] := by
    unfold allL
    rw [List.length_append, List.length_singleton, List.range_succ, List.flatMap_append]
    congr 1
    · exact flatMap_same fun i hi => if_neg (Nat.ne_of_lt (List.mem_range.mp hi))
    · simp
  refine codeM_mono (I mean mg mb (dp + 1) (un + 1) gd outer base g ⟨(hh.push emptyDict).push (instObj C hh.objs.size), gs, d, t, os⟩ (.ref (hh.objs.size + 1) :: vs) (α ++ [hh.objs.size + 1]) (fun i => if i = cells.length then [(hh.objs.size + 1, instObj C hh.objs.size), (hh.objs.size, emptyDict)] else leds i) P
    ⟨rfl, B.stays, B.frames⟩ (fun b o e => hk b o (hg b o e)) ?_ X T hP ?_ ?_ ⟨?_, ?_⟩ ?_ (by omega) (by omega)) ?_
  · rw [Heap.size_push, Heap.size_push]; exact Nat.le_trans hsz (Nat.le_trans (Nat.le_succ _) (Nat.le_succ _))
  · rw [e1]
    intro p hp
    rcases List.mem_append.mp hp with hp | hp
    · exact ⟨hk _ _ (hm' p hp).1, (hm' p hp).2⟩
    · rcases List.mem_cons.mp hp with rfl | hp
      · exact ⟨hx, gn _ (Nat.le_succ _)⟩
      · rw [List.mem_singleton.mp hp]; exact ⟨hd, gn _ (Nat.le_refl _)⟩
  · rw [e1]
    refine List.pairwise_append.mpr ⟨nd, ?_, fun p hp q hq => ?_⟩
    · exact List.pairwise_cons.mpr ⟨fun q hq => by rw [List.mem_singleton.mp hq]; exact Nat.ne_of_gt (Nat.lt_succ_self _), List.pairwise_singleton ..⟩
    · have := lt p hp
      rcases List.mem_cons.mp hq with rfl | hq
      · exact Nat.ne_of_lt (Nat.lt_succ_of_lt this)
      · rw [List.mem_singleton.mp hq]; exact Nat.ne_of_lt this
  · simp [CR.1]
  · intro i o a ho ha
    rcases Nat.lt_trichotomy i cells.length with hi | hi | hi
    · rw [List.getElem?_append_left hi] at ho
      rw [List.getElem?_append_left (by rw [CR.1]; exact hi)] at ha
      show CellR _ _ _ o a (if i = cells.length then _ else leds i)
      rw [if_neg (Nat.ne_of_lt hi)]
      exact (CR.2 i o a ho ha).mono (fun _ _ h => h) (.snoc _)
    · subst hi
      rw [List.getElem?_append_right (Nat.le_refl _), Nat.sub_self] at ho
      rw [← CR.1, List.getElem?_append_right (Nat.le_refl _), Nat.sub_self] at ha
      simp only [List.getElem?_cons_zero, Option.some.injEq] at ho ha
      subst ho ha
      show CellR _ _ _ _ _ (if cells.length = cells.length then _ else _)
      rw [if_pos rfl]
      exact CellR.inst (n := 0) (es := []) .nil
    · rw [List.getElem?_eq_none (by simp; omega)] at ho
      cases ho
  · exact ⟨⟨_, by rw [← CR.1, List.getElem?_append_right (Nat.le_refl _)]; simp, rfl⟩, va.mono (fun _ _ h => h) (.snoc _)⟩
  · rintro r s' (⟨g', v, x, L', m', h', tk', F', leds', α', cells', T', rfl, rfl, Fr', News', Dist', Apart', Pre', CR', ra, rfl, q⟩ | ⟨he, _⟩)
    · cases ra
      refine ⟨rfl, .inl ⟨g', _, .ref cells.length, L', m', h', tk', F', leds', α', cells', T', rfl, rfl, Fr', News', Dist', Apart', fun i a e => Pre' i a ?_, CR', ⟨hh.objs.size + 1, Pre' _ _ ?_, rfl⟩, q⟩⟩
      · rw [List.getElem?_append_left (List.getElem?_eq_some_iff.mp e).1]; exact e
      · rw [← CR.1, List.getElem?_append_right (Nat.le_refl _)]; simp
    · exact he.elim
end
section
section
variable {w : World} {κ : Bool} {sc : Scope} {lv : Nat} {Γ : Cx w κ sc lv} {E : Value → Shared → Prop} {loc : Loc} {cells : List AO} {Q : Fl → Loc → List AO → Prop} {rest : List Stmt}
/-- what comes behind a statement that may fall through -/
noncomputable def Seq (Γ : Cx w κ sc lv) (E : Value → Shared → Prop) (rest : List Stmt) (Q : Fl → Loc → List AO → Prop) (fl : Fl) (l : Loc) (c : List AO) : Prop := match fl with
  | .next => TSs Γ E rest l c Q
  | .brk => Q .brk l c
  | .cont => Q .cont l c
  | .ret v => Q (.ret v) l c
theorem S_seq {st : Stmt} (h : TS Γ E st loc cells (Seq Γ E rest Q)) : TSs Γ E (st :: rest) loc cells Q := TSs_cons (h.mono fun fl l c q => by cases fl <;> exact q)
theorem S_assign {x : PySem.Str} {px pos : Pos} {value : PySem.Expr} (hx : Storable sc Γ.own x) (hs : swapsWith value (some (.Name x px)) pos.line Γ.env = pure false) (h : TE Γ E value loc cells fun r c => TSs Γ E rest (loc.put x r) c Q) : TSs Γ E (.Assign [.Name x px] value pos :: rest) loc cells Q := TSs_cons (TS_Assign hx hs h)
theorem S_sub {o i value : PySem.Expr} {pos' pos : Pos} (hs : swapsWith value (some (.Subscript o i pos')) pos.line Γ.env = pure false)
    (h : TE Γ E value loc cells fun r c₁ => TE Γ E o loc c₁ fun ov c₂ => TE Γ E i loc c₂ fun iv c₃ => OS Γ E ov iv r loc c₃ fun c => TSs Γ E rest loc c Q) : TSs Γ E (.Assign [.Subscript o i pos'] value pos :: rest) loc cells Q := TSs_cons (TS_AssignSub hs h)
theorem S_attr {o value : PySem.Expr} {attr : PySem.Str} {pos' pos : Pos} (hs : swapsWith value (some (.Attribute o attr pos')) pos.line Γ.env = pure false)
    (h : TE Γ E value loc cells fun r c₁ => TE Γ E o loc c₁ fun ov c₂ => OA Γ E attr ov r loc c₂ fun c => TSs Γ E rest loc c Q) : TSs Γ E (.Assign [.Attribute o attr pos'] value pos :: rest) loc cells Q := TSs_cons (TS_AssignAttr hs h)
theorem S_tup {elts es : List PySem.Expr} {k k' : Nat} {tpos vpos pos : Pos} {names : List PySem.Str} (hs : swapsWithSole [.Tuple elts k tpos] (.Tuple es k' vpos) pos.line Γ.env = pure false) (hw : swappedStores [.Tuple elts k tpos] (.Tuple es k' vpos) Γ.env = pure (some names))
    (hn : names.all (fun x => decide (sc.names.lookup x = some .local)) = true) (hz : names.length ≤ 10) (h : TA Γ E vpos es loc cells fun rs c => names.length = rs.length ∧ TSs Γ E rest (loc.puts (names.reverse.zip rs.reverse)) c Q) : TSs Γ E (.Assign [.Tuple elts k tpos] (.Tuple es k' vpos) pos :: rest) loc cells Q :=
  TSs_cons (TS_AssignTup hs hw (fun x hx => .inl (of_decide_eq_true (List.all_eq_true.mp hn x (List.mem_reverse.mp hx)))) hz h)
theorem S_ret {e : PySem.Expr} {pos : Pos} (h : TE Γ E e loc cells fun r c => Q (.ret r) loc c) : TSs Γ E (.Return (some e) pos :: rest) loc cells Q := TSs_cons (TS_Return h)
theorem S_expr {e : PySem.Expr} {pos : Pos} (hi : interactive Γ.env = false) (hs : swapsWith e none pos.line Γ.env = pure false) (h : TE Γ E e loc cells fun _ c => TSs Γ E rest loc c Q) : TSs Γ E (.Expr e pos :: rest) loc cells Q := TSs_cons (TS_Expr hi hs h)
theorem S_if {test : PySem.Expr} {body orelse : List Stmt} {pos : Pos} (h : TB Γ E test (eval test Γ.env) loc cells fun b c₁ => if b = true then TSs Γ E body loc c₁ (Seq Γ E rest Q) else TSs Γ E orelse loc c₁ (Seq Γ E rest Q)) : TSs Γ E (.If test body orelse pos :: rest) loc cells Q := S_seq (TS_If h)
theorem seq_next {l : Loc} {c : List AO} (h : TSs Γ E rest l c Q) : Seq Γ E rest Q .next l c := h
theorem seq_ret {l : Loc} {c : List AO} {v : AV} (h : Q (.ret v) l c) : Seq Γ E rest Q (.ret v) l c := h
end
theorem if_dec {c : Prop} [Decidable c] {A B : Prop} (h1 : c → A) (h2 : ¬ c → B) : if decide c = true then A else B := by
  by_cases h : c
  · rw [if_pos (decide_eq_true h)]; exact h1 h
  · rw [if_neg (by simpa using h)]; exact h2 h
theorem if_ndec {c : Prop} [Decidable c] {A B : Prop} (h1 : ¬ c → A) (h2 : c → B) : if (!decide c) = true then A else B := by
  by_cases h : c
  · rw [if_neg (by simpa using h)]; exact h2 h
  · rw [if_pos (by simpa using h)]; exact h1 h
theorem if_eq {i j : Int} {A B : Prop} (h1 : i = j → A) (h2 : i ≠ j → B) : if (i == j) = true then A else B := by
  by_cases h : i = j
  · rw [if_pos (by simpa using h)]; exact h1 h
  · rw [if_neg (by simpa using h)]; exact h2 h
theorem if_bool {b : Bool} {A B : Prop} (h1 : b = true → A) (h2 : b = false → B) : if b = true then A else B := by
  cases b
  · exact h2 rfl
  · exact h1 rfl
theorem if_t {A B : Prop} (h : A) : if true = true then A else B := h
theorem if_f {A B : Prop} (h : B) : if false = true then A else B := h
section
variable {w : World} {κ : Bool} {sc : Scope} {lv : Nat} {Γ : Cx w κ sc lv} {E : Value → Shared → Prop} {loc : Loc} {cells : List AO} {Q : AV → List AO → Prop}
theorem TE_Or1 {e : PySem.Expr} {pos : Pos} (h : TE Γ E e loc cells Q) : TE Γ E (.BoolOp .Or [e] pos) loc cells Q := h
theorem TE_Or {x y : PySem.Expr} {rest : List PySem.Expr} {pos : Pos} (h : TE Γ E x loc cells fun a c => OT Γ E a loc c fun b c₁ => if b = true then Q a c₁ else TE Γ E (.BoolOp .Or (y :: rest) pos) loc c₁ Q) : TE Γ E (.BoolOp .Or (x :: y :: rest) pos) loc cells Q := by
  intro h₀ tk α F R
  show wpM κ _ _ (do
    let v ← eval x Γ.env
    standAt pos
    let c ← holding [v] (truthy v)
    match BoolOp.Or, c with
    | .And, false | .Or, true => pure v
    | _, _ => boolOp pos .Or (eval y Γ.env :: evalEach rest Γ.env)) _ _ _
  refine wpM_bind (wpM_idE (h h₀ tk α F R) ?_)
  rintro v s' ⟨h₁, tk₁, α₁, F₁, c₁, rfl, p₁, f₁, R₁, a, ra, q⟩
  refine wpM_bind (wpM_standAt (wpM_bind (wpM_of_any (wpAny_holding (wpAny_mono (q h₁ tk₁ α₁ F₁ v R₁ ra) ?_ fun _ _ x => x)))))
  rintro b s' ⟨h₂, tk₂, α₂, F₂, c₂, rfl, p₂, f₂, R₂, q₂⟩
  cases b with
  | true => exact wpM_pure ⟨h₂, tk₂, α₂, F₂, c₂, rfl, p₁.trans p₂, fun z hz => f₂ z (f₁ z hz), R₂, a, ra.mono (pf_tail f₂) p₂, by simpa using q₂⟩
  | false =>
    simp only [Bool.false_eq_true, if_false] at q₂
    exact wpM_idE (q₂ h₂ tk₂ α₂ F₂ R₂) fun _ _ o => o.mono (p₁.trans p₂) (fun z hz => f₂ z (f₁ z hz)) fun _ _ _ _ _ x => x
end
section
variable {w : World} {κ : Bool} {sc : Scope} {lv : Nat} {Γ : Cx w κ sc lv} {E : Value → Shared → Prop} {loc : Loc} {cells : List AO}
/-- what comes behind, hidden behind a name (the terms stay small so) -/
theorem TE_hide {e : PySem.Expr} {Q : AV → List AO → Prop} (h : ∀ K : AV → List AO → Prop, (∀ r c, Q r c → K r c) → TE Γ E e loc cells K) : TE Γ E e loc cells Q := h Q fun _ _ x => x
theorem TB_hide {e : PySem.Expr} {whole : Sem Value} {Q : Bool → List AO → Prop} (h : ∀ K : Bool → List AO → Prop, (∀ b c, Q b c → K b c) → TB Γ E e whole loc cells K) : TB Γ E e whole loc cells Q := h Q fun _ _ x => x
end
theorem lm_i {α β : Type} {f : α → β} {l : List α} {i : Int} (h : i < (l.length : Int)) : i < ((l.map f).length : Int) := by rwa [List.length_map]
theorem lm_n {α β : Type} {f : α → β} {l : List α} {n : Nat} (h : l.length < n) : (l.map f).length < n := by rwa [List.length_map]
theorem boot_bytearray : bootBuiltins (Str.ofString "bytearray") = some (.type "bytearray") := by decide +kernel
theorem boot_min' : bootBuiltins (Str.ofString "min") = some (.builtin "min") := by decide +kernel
theorem boot_max' : bootBuiltins (Str.ofString "max") = some (.builtin "max") := by decide +kernel
theorem boot_sum' : bootBuiltins (Str.ofString "sum") = some (.builtin "sum") := by decide +kernel
theorem boot_len' : bootBuiltins (Str.ofString "len") = some (.builtin "len") := by decide +kernel
theorem boot_int' : bootBuiltins (Str.ofString "int") = some (.type "int") := by decide +kernel
theorem boot_list' : bootBuiltins (Str.ofString "list") = some (.type "list") := by decide +kernel
theorem boot_set' : bootBuiltins (Str.ofString "set") = some (.type "set") := by decide +kernel
theorem boot_bytes' : bootBuiltins (Str.ofString "bytes") = some (.type "bytes") := by decide +kernel
theorem boot_range' : bootBuiltins (Str.ofString "range") = some (.type "range") := by decide +kernel
end
section
section
variable {prog : Program} {w : World} {A : Around} {E : Value → Shared → Prop} {Q : Value → Shared → Prop} {s : Shared} {env : Env} {h₀ : Heap} {L : Addr} {x : PySem.Str} {px pos : Pos} {elt iter : PySem.Expr} {ifs : List PySem.Expr} {scope : Scope} {cl : List (PySem.Str × Addr)}
inductive BlkSt (s : Shared) (St : Nat → Heap → Prop) (H : Heap) (I D C : Addr) (J : Nat → List Value → Led → Prop) (n k : Nat) (s' : Shared) : Prop
  | mk (h : Heap) (tk i : Nat) (ys : List Value) (c : Nat) (m : PySem.Str → Option Value) (news : Led) (e : s' = { s with heap := h, toks := tk }) (st : St i h) (d : h.get? D = some (listOf ys.toArray c)) (ns : h.Ns C m) (hk : ∀ b o, H.get? b = some o → h.get? b = some o) (j : J i ys news)
    (w : ∀ p ∈ news, h.get? p.1 = some p.2 ∧ H.get? p.1 = none ∧ @Ne Nat p.1 I ∧ @Ne Nat p.1 D ∧ @Ne Nat p.1 C) (hy : ys.length ≤ i) (hi : i ≤ n) (hkn : k = n - i) : BlkSt s St H I D C J n k s'
/-- the block over any walk, from the heap H at its start: J speaks of what the elements made -/
theorem comp_blk {I : Addr} {fp : List Addr} {n : Nat} {P : Nat → Value → Prop} {St : Nat → Heap → Prop} {H : Heap} (W : Walks prog w A I fp [I] n P St) (hz : n < 100000)
    (hcell : ∀ y ∈ scope.names, y.2 ≠ .cell) (hkind : scope.kind = .function) (hx : scope.names.lookup x = some .local)
    (hH : ∀ b o, H.get? b = some o → s.heap.get? b = some o) (hHI : H.get? I = none) (hIlt : I < s.heap.objs.size) (hsz : H.objs.size ≤ s.heap.objs.size)
    (hfp : ∀ b ∈ fp, b ≠ I → ∃ o, H.get? b = some o) (hIo : ∀ i h, St i h → ∃ o, h.get? I = some o) (hst : St 0 s.heap)
    (J : Nat → List Value → Led → Prop) {mine : Led} (hm0 : ∀ p ∈ mine, s.heap.get? p.1 = some p.2 ∧ H.get? p.1 = none ∧ p.1 ≠ I) (h0 : J 0 [] mine)
    (step : ∀ i v ys news₁ h tk Lc D oI oD (m₁ : PySem.Str → Option Value), i < n → P i v → J i ys news₁ → (∀ p ∈ news₁, @Ne Nat p.1 I ∧ @Ne Nat p.1 D) → @Ne Nat I D → @LT.lt Nat _ I Lc → @LT.lt Nat _ D Lc → Fr H Lc h (fun y => if y = x then some v else m₁ y) → News H Lc h ((I, oI) :: (D, oD) :: news₁) →
      compTree prog w A env scope cl elt ifs Lc (fun y s₃ => CJ H Lc I D oI oD (J (i + 1) (ys ++ [y])) { s with heap := h, toks := tk } s₃) (fun s₃ => CJ H Lc I D oI oD (J (i + 1) ys) { s with heap := h, toks := tk } s₃) { s with heap := h, toks := tk })
    {RR : Value → Addr → Result → Shared → Prop}
    (done : ∀ D C ys c news₁ h tk m', H.get? D = none → H.get? C = none → D ≠ C → h.Ns C m' → (∀ b o, H.get? b = some o → h.get? b = some o) → h.get? D = some (listOf ys.toArray c) → ys.length ≤ n → J n ys news₁ → (∀ p ∈ news₁, h.get? p.1 = some p.2 ∧ H.get? p.1 = none ∧ @Ne Nat p.1 D ∧ @Ne Nat p.1 C) → RR (.ref D) C (.ok .next) { s with heap := h, toks := tk }) :
    wpAny (model prog w) A (newList []) (fun acc s₃ => wpAny (model prog w) A (newFunctionEnv scope env.globals cl [] env.qual none .none (some env)) (fun cenv s₄ =>
      codeAny (model prog w) A (.compStart (.ListComp elt [⟨.Name x px, iter, ifs, 0⟩] scope pos) 0 (.ref I) acc { cenv with scope := relabel scope env }) (RR acc cenv.locals) s₄) E s₃) E s := by
  refine wpAny_newObj_type (wpAny_newFunctionEnv hcell (by intro y hy; simp at hy) (fun h₁ hns₁ hsb₁ => ?_) hkind)
  dsimp only at hns₁ hsb₁ ⊢
  generalize hH2 : s.heap.push { cls := .type "list", dict := none, data := .seq ([] : List Value).toArray } = H2 at hns₁ hsb₁ ⊢
  have hsz2 : H2.objs.size = s.heap.objs.size + 1 := by rw [← hH2, Heap.size_push]
  have hD2 : H2.get? s.heap.objs.size = some (listOf #[] 0) := by rw [← hH2]; exact Heap.get?_push_size _ rfl
  have hH2' : ∀ b o, s.heap.get? b = some o → H2.get? b = some o := fun b o e => hH2 ▸ Heap.get?_push_of_some _ e
  generalize hC : H2.objs.size = C at hns₁ hsb₁ ⊢
  generalize hD : s.heap.objs.size = D at hD2 ⊢
  have hDC : D ≠ C := Nat.ne_of_lt (by omega)
  have hID : I ≠ D := Nat.ne_of_lt (hD ▸ hIlt)
  have hIC : I ≠ C := Nat.ne_of_lt (Nat.lt_trans (show I < D from hD ▸ hIlt) (by omega))
  have hIlC : @LT.lt Nat _ I C := Nat.lt_trans (show I < D from hD ▸ hIlt) (by omega)
  have hDlC : @LT.lt Nat _ D C := by omega
  have hHD : H.get? D = none := Heap.get?_none_of_le (hD ▸ hsz)
  have hHC : H.get? C = none := Heap.get?_none_of_le (by omega)
  have hHsz : H.objs.size ≤ C := by omega
  have old : ∀ b o, b ≠ C → H2.get? b = some o → h₁.get? b = some o := fun b o hb e => hsb₁.extBut b o hb (Heap.get?_push_of_some _ e)
  have oldH : ∀ b o, H.get? b = some o → b ≠ D ∧ b ≠ C ∧ b ≠ I := fun b o e => ⟨(fun q => by rw [q, hHD] at e; cases e), (fun q => by rw [q, hHC] at e; cases e), (fun q => by rw [q, hHI] at e; cases e)⟩
  have hst₁ : St 0 h₁ := W.frame _ _ _ hst fun b hb o e => by
    by_cases q : b = I
    · exact old b o (q ▸ hIC) (hH2' b o e)
    · obtain ⟨o', ho'⟩ := hfp b hb q
      exact old b o (oldH b o' ho').2.1 (hH2' b o e)
  have loop : ∀ s₄ : Shared, s₄ = { s with heap := h₁, toks := s.toks + ([] : List (PySem.Str × Value)).length } →
      codeAny (model prog w) A (.compLoop (.ListComp elt [⟨.Name x px, iter, ifs, 0⟩] scope pos) 0 (.ref I) (.ref D) (compEnvC scope cl C env)) (RR (.ref D) C) s₄ := by
    rintro s₄ rfl
    refine codeAny_compLoop_tests (BlkSt s St H I D C J n) ?_ n
      ⟨h₁, _, 0, [], 0, _, mine, rfl, hst₁, old D _ hDC hD2, hns₁, fun b o e => old b o (oldH b o e).2.1 (hH2' b o (hH b o e)), h0, (fun p hp => by
        obtain ⟨m1, m2, m3⟩ := hm0 p hp
        have hlt : p.1 < D := hD ▸ Heap.lt_size m1
        have hpC : p.1 ≠ C := Nat.ne_of_lt (Nat.lt_trans hlt (by omega))
        exact ⟨old _ _ hpC (hH2' _ _ m1), m2, m3, Nat.ne_of_lt hlt, hpC⟩), Nat.le_refl _, Nat.zero_le _, rfl⟩
    rintro k s' ⟨h, tk, i, ys, c, m, news, rfl, hst', hDh, hn, hk, hJi, hnews, hyl, hi, rfl⟩
    rcases Nat.lt_or_ge i n with hlt | hge
    · refine W.item i _ _ _ hlt hst' fun v h2 tk2 hP hst2 hk2' => ?_
      have hk2 : ∀ b o, b ≠ I → h.get? b = some o → h2.get? b = some o := fun b o hb => hk2' b o fun hm => hb (List.mem_singleton.mp hm)
      have hn2 : h2.Ns C m := hn.at' fun o e => hk2 C o (Ne.symm hIC) e
      refine wpAny_assign_Name (wpAny_storeName_local (lookup_relabel_local hx) hn2 (fun h3 hn3 hs3 => ?_) (by simp [compEnvC, relabel, hkind]))
      have hs3' : ∀ b, b ≠ C → h3.get? b = h2.get? b := hs3.2
      have hst3 : St (i + 1) h3 := W.frame _ _ _ hst2 fun b hb o e => by
        have hbC : b ≠ C := by
          by_cases q : b = I
          · exact q ▸ hIC
          · obtain ⟨o', ho'⟩ := hfp b hb q; exact (oldH b o' ho').2.1
        exact (hs3' b hbC).trans e
      obtain ⟨oI, hoI⟩ := hIo _ _ hst3
      have hD3 : h3.get? D = some (listOf ys.toArray c) := (hs3' D hDC).trans (hk2 D _ (Ne.symm hID) hDh)
      have F3 : Fr H C h3 (fun y => if y = x then some v else m y) := ⟨hn3, fun b o e => (hs3' b (oldH b o e).2.1).trans (hk2 b o (oldH b o e).2.2 (hk b o e)), hHsz⟩
      have N3 : News H C h3 ((I, oI) :: (D, listOf ys.toArray c) :: news) := fun p hp => by
        rcases List.mem_cons.mp hp with rfl | hp
        · exact ⟨hoI, hIC, hHI⟩
        · rcases List.mem_cons.mp hp with rfl | hp
          · exact ⟨hD3, hDC, hHD⟩
          · obtain ⟨g1, g2, g3, g4, g5⟩ := hnews p hp
            exact ⟨(hs3' p.1 g5).trans (hk2 _ _ g3 g1), g5, g2⟩
      refine wpAny_mono (step i v ys news h3 _ C D oI _ m hlt hP hJi (fun p hp => ⟨(hnews p hp).2.2.1, (hnews p hp).2.2.2.1⟩) hID hIlC hDlC F3 N3) (fun ok s₃ h₃ => ?_) fun _ _ e => e.elim
      -- what an element's end gives
      have next : ∀ {ys' : List Value} {c' : Nat} {h4 : Heap} {tk4 mc} {sub all : Led}, Fr H C h4 mc → News H C h4 all → (I, oI) ∈ all → (∀ p ∈ sub, p ∈ all ∧ @Ne Nat p.1 I ∧ @Ne Nat p.1 D) → J (i + 1) ys' sub → ys'.length ≤ i + 1 →
          ∀ h5 : Heap, (∀ b, b ≠ D → ∀ o, h4.get? b = some o → h5.get? b = some o) → h5.get? D = some (listOf ys'.toArray c') →
          ∃ k', k' < n - i ∧ BlkSt s St H I D C J n k' { s with heap := h5, toks := tk4 } := by
        intro ys' c' h4 tk4 mc sub all F4 N4 hI4 hs4 hJ4 hy4 h5 hk5 hD5
        refine ⟨n - (i + 1), by omega, h5, tk4, i + 1, ys', c', mc, sub, rfl, ?_, hD5, F4.ns.at' fun o e => hk5 C (Ne.symm hDC) o e, fun b o e => hk5 b (oldH b o e).1 o (F4.keep b o e), hJ4, fun p hp => ?_, hy4, hlt, rfl⟩
        · refine W.frame _ _ _ hst3 fun b hb o e => ?_
          by_cases q : b = I
          · subst q
            rw [hoI] at e
            cases e
            exact hk5 _ hID _ (N4 _ hI4).1
          · obtain ⟨o', ho'⟩ := hfp b hb q
            have e' := F3.keep b o' ho'
            rw [e] at e'
            cases e'
            exact hk5 b (oldH b o ho').1 o (F4.keep b o ho')
        · obtain ⟨h1, h2, h3⟩ := hs4 p hp
          have := N4 p h1
          exact ⟨hk5 _ h3 _ this.1, this.2.2, h2, h3, this.2.1⟩
      cases ok with
      | false =>
        simp only [Bool.false_eq_true, if_false] at h₃ ⊢
        obtain ⟨h4, tk4, mc, sub, all, rfl, F4, N4, hI4, hD4, hs4, hJ4⟩ := h₃
        exact next F4 N4 hI4 hs4 hJ4 (Nat.le_succ_of_le hyl) h4 (fun _ _ _ e => e) (N4 _ hD4).1
      | true =>
        simp only [if_true] at h₃ ⊢
        refine wpAny_mono h₃ (fun y s₄ h₄ => ?_) fun _ _ e => e.elim
        obtain ⟨h4, tk4, mc, sub, all, rfl, F4, N4, hI4, hD4, hs4, hJ4⟩ := h₄
        refine append_at (its := ys.toArray) (n := c) (N4 _ hD4).1 (fun h5 hs5 hD5 => ?_) (by rw [List.size_toArray, sizeLine_eq]; omega)
        rw [List.push_toArray] at hD5
        exact next F4 N4 hI4 hs4 hJ4 (by rw [List.length_append, List.length_singleton]; omega) h5 (fun b hb o e => (hs5.2 b hb).trans e) hD5
    · have e : i = n := by omega
      subst e
      refine W.done _ _ _ hst' fun h2 tk2 hk2' => ?_
      have hk2 : ∀ b o, b ≠ I → h.get? b = some o → h2.get? b = some o := fun b o hb => hk2' b o fun hm => hb (List.mem_singleton.mp hm)
      refine done D C ys c news h2 tk2 m hHD hHC hDC (hn.at' fun o e => hk2 C o (Ne.symm hIC) e) (fun b o e => hk2 b o (oldH b o e).2.2 (hk b o e)) (hk2 D _ (Ne.symm hID) hDh) hyl hJi fun p hp => ?_
      obtain ⟨g1, g2, g3, g4, g5⟩ := hnews p hp
      exact ⟨hk2 _ _ g3 g1, g2, g4, g5⟩
  exact codeAny_compStart_list (loop _ rfl) (W.self 0 _ _ _ hst₁ (loop _ rfl))
end
section
variable {prog : Program} {w : World} {A : Around} {E : Value → Shared → Prop} {Q : Value → Shared → Prop} {s : Shared} {env : Env} {h₀ : Heap} {L : Addr} {x : PySem.Str} {px pos : Pos} {elt iter : PySem.Expr} {ifs : List PySem.Expr} {scope : Scope} {cl : List (PySem.Str × Addr)} {m : PySem.Str → Option Value} {news : Led} {l r : Addr} {vs : List Value}
noncomputable abbrev compStp (prog : Program) (w : World) (A : Around) (env : Env) (scope : Scope) (cl : List (PySem.Str × Addr)) (x : PySem.Str) (elt : PySem.Expr) (ifs : List PySem.Expr) (s : Shared) (H : Heap) (J : Nat → List Value → Led → Prop) (i : Nat) (v : Value) : Prop :=
  ∀ ys news₁ h tk Lc I D oI oD (m₁ : PySem.Str → Option Value), J i ys news₁ → (∀ p ∈ news₁, @Ne Nat p.1 I ∧ @Ne Nat p.1 D) → @Ne Nat I D → @LT.lt Nat _ I Lc → @LT.lt Nat _ D Lc → Fr H Lc h (fun y => if y = x then some v else m₁ y) → News H Lc h ((I, oI) :: (D, oD) :: news₁) →
    compTree prog w A env scope cl elt ifs Lc (fun y s₃ => CJ H Lc I D oI oD (J (i + 1) (ys ++ [y])) { s with heap := h, toks := tk } s₃) (fun s₃ => CJ H Lc I D oI oD (J (i + 1) ys) { s with heap := h, toks := tk } s₃) { s with heap := h, toks := tk }
theorem cmp_list {mine : Led} {RR : Value → Addr → Result → Shared → Prop} (Nm : News h₀ L s.heap mine) (hh : A.handled = none) (hcell : ∀ y ∈ scope.names, y.2 ≠ .cell) (hkind : scope.kind = .function) (hx : scope.names.lookup x = some .local) (hl : (hid s.heap mine).IsList l vs.toArray) (hz : vs.length < 100000)
    (J : Nat → List Value → Led → Prop) (h0 : J 0 [] mine) (step : ∀ i v, vs[i]? = some v → compStp prog w A env scope cl x elt ifs s (hid s.heap mine) J i v) (done : compDone s (hid s.heap mine) vs.length J RR) :
    compGoal prog w A env scope cl x px pos elt iter ifs RR E (.ref l) s := by
  obtain ⟨ol, hol⟩ := isList_some hl
  have hlt := Heap.lt_size (hid_of hol)
  have hls : s.heap.IsList l vs.toArray := hl.at fun o e => hid_of e
  refine wpAny_pyIter_list hls ?_
  refine comp_blk (H := hid s.heap mine) (mine := mine) (Walks.list (prog := prog) (w := w) hh s.heap.objs.size l (Nat.ne_of_lt hlt) vs.toArray) (by rw [List.size_toArray]; exact hz) hcell hkind hx (fun b o e => Heap.get?_push_of_some _ (hid_of e)) (hid_none (Heap.get?_none_of_le (Nat.le_refl _)))
    (by show _ < (s.heap.push _).objs.size; rw [Heap.size_push]; exact Nat.lt_succ_self _) (by show (hideAll _ _).objs.size ≤ (s.heap.push _).objs.size; rw [Heap.size_push, hideAll_size]; exact Nat.le_succ _) (fun b hb hbI => ?_) (fun i h st => ?_) ⟨⟨_, Heap.get?_push_size _ rfl, rfl, rfl⟩, hls.push _⟩ J (fun p hp => ⟨Heap.get?_push_of_some _ (mine_new Nm p hp).1, (mine_new Nm p hp).2, Nat.ne_of_lt (Heap.lt_size (Nm p hp).1)⟩) h0 ?_ (by rw [List.size_toArray]; exact done)
  · rcases List.mem_cons.mp hb with e | hb
    · exact absurd e hbI
    · rw [List.mem_singleton.mp hb]; exact ⟨ol, hol⟩
  · obtain ⟨o, ho, _⟩ := st.1
    exact ⟨o, ho⟩
  · intro i v ys news₁ h tk Lc D oI oD m₁ _ hP
    exact step i v (by simpa using hP) ys news₁ h tk Lc _ D oI oD m₁
theorem cmp_range {mine : Led} {RR : Value → Addr → Result → Shared → Prop} {a b : Int} {t u v : Tok} {n : Nat} (Nm : News h₀ L s.heap mine) (hh : A.handled = none) (hcell : ∀ y ∈ scope.names, y.2 ≠ .cell) (hkind : scope.kind = .function) (hx : scope.names.lookup x = some .local)
    (hr : IsRange s.heap r a b 1 t u v) (hsmall : Builtin.Range.small a b 1 = true) (hn : Builtin.Range.rangeSize a b 1 = (n : Int)) (hz : n < 100000)
    (J : Nat → List Value → Led → Prop) (h0 : J 0 [] mine) (step : ∀ (i : Nat) z t, i < n → z = a + (i : Int) → compStp prog w A env scope cl x elt ifs s (hid s.heap mine) J i (.int z t)) (done : compDone s (hid s.heap mine) n J RR) :
    compGoal prog w A env scope cl x px pos elt iter ifs RR E (.ref r) s := by
  refine wpAny_pyIter_range hr hsmall ?_
  rw [hn]
  refine comp_blk (H := hid s.heap mine) (mine := mine) (Walks.range (prog := prog) (w := w) hh s.heap.objs.size a 1 n) hz hcell hkind hx (fun b o e => Heap.get?_push_of_some _ (hid_of e)) (hid_none (Heap.get?_none_of_le (Nat.le_refl _)))
    (by show _ < (s.heap.push _).objs.size; rw [Heap.size_push]; exact Nat.lt_succ_self _) (by show (hideAll _ _).objs.size ≤ (s.heap.push _).objs.size; rw [Heap.size_push, hideAll_size]; exact Nat.le_succ _) (fun b hb hbI => absurd (List.mem_singleton.mp hb) hbI) (fun i h st => ⟨_, st⟩) ?_ J (fun p hp => ⟨Heap.get?_push_of_some _ (mine_new Nm p hp).1, (mine_new Nm p hp).2, Nat.ne_of_lt (Heap.lt_size (Nm p hp).1)⟩) h0 ?_ done
  · have e : a + ((0 : Nat) : Int) * 1 = a := by simp
    have e2 : (n : Int) - ((0 : Nat) : Int) = (n : Int) := by simp
    rw [e, e2]
    exact Heap.get?_push_size _ rfl
  · rintro i v ys news₁ h tk Lc D oI oD m₁ hi ⟨t, rfl⟩
    exact step i _ t hi (by rw [Int.mul_one]) ys news₁ h tk Lc _ D oI oD m₁
end
theorem wpM_false {M : Model} {A : Around} {α : Type} {t : Sem α} {Q : α → Shared → Prop} {E : Value → Shared → Prop} {s : Shared} (h : wpM false M A t Q E s) : wpAny M A t Q E s := fun Γ p hΓ => h Γ p hΓ (fun e => nomatch e) (fun e => nomatch e)
/-- a heap's first n places -/
noncomputable def cut (h : Heap) (n : Nat) : Heap := ⟨h.objs.extract 0 n, h.life⟩
theorem cut_size {h : Heap} {n : Nat} : (cut h n).objs.size ≤ n := by
  show (h.objs.extract 0 n).size ≤ n
  rw [Array.size_extract]; omega
theorem cut_at {h : Heap} {n b : Nat} (l : b < n) : (cut h n).get? b = h.get? b := by
  unfold cut Heap.get?
  have e : (h.objs.extract 0 n)[b]? = h.objs[b]? := by
    rw [Array.getElem?_extract, Nat.zero_add]
    split
    · rfl
    · rw [Array.getElem?_eq_none (by omega)]
  rw [e]
theorem cut_of {h : Heap} {n b : Nat} {o : Obj} (e : (cut h n).get? b = some o) : b < n ∧ h.get? b = some o := by
  have l : b < n := Nat.lt_of_lt_of_le (Heap.lt_size e) cut_size
  exact ⟨l, (cut_at l).symm.trans e⟩
noncomputable def relS (scope sc : Scope) : Scope := { scope with names := scope.names.map fun (n, k) => if (k == .free && sc.kind == .function && sc.names.lookup n == some .cell) then (n, .cell) else (n, k) }
structure ClosOk (cl cl' : List (PySem.Str × Addr)) (names : List (PySem.Str × NameKind)) : Prop where
  all : ∀ x, (x, NameKind.free) ∈ names → ∃ c, cl'.lookup x = some c
  of : ∀ x c, cl'.lookup x = some c → cl.lookup x = some c ∧ (x, NameKind.free) ∈ names
theorem clos_go {env : Env} : ∀ (names seen : List (PySem.Str × NameKind)) (init : List (PySem.Str × Addr)), (∀ x, (x, NameKind.free) ∈ names → ∃ c, env.cells.lookup x = some c) → ClosOk env.cells init seen →
    ∃ cl', (forIn names init fun (x : PySem.Str × NameKind) r => (match x with | (name, kind) => if (kind == NameKind.free) = true then do let c ← cellOf env name; pure (ForInStep.yield ((name, c) :: r)) else pure (ForInStep.yield r) : Sem _)) = pure cl' ∧ ClosOk env.cells cl' (seen ++ names)
  | [], seen, init, _, k => ⟨init, rfl, by rw [List.append_nil]; exact k⟩
  | (n, kd) :: r, seen, init, h, k => by
    have hr : ∀ x, (x, NameKind.free) ∈ r → ∃ c, env.cells.lookup x = some c := fun x hx => h x (.tail _ hx)
    have ea : seen ++ (n, kd) :: r = (seen ++ [(n, kd)]) ++ r := by simp
    rw [List.forIn_cons]
    cases q : (kd == NameKind.free) with
    | false =>
      obtain ⟨cl', h1, h2⟩ := clos_go (env := env) r (seen ++ [(n, kd)]) init hr ⟨fun x hx => (by
        rcases List.mem_append.mp hx with hx | hx
        · exact k.all x hx
        · cases List.mem_singleton.mp hx
          cases q), fun x c e => ⟨(k.of x c e).1, List.mem_append_left _ (k.of x c e).2⟩⟩
      refine ⟨cl', ?_, ea ▸ h2⟩
      simp only [q, Bool.false_eq_true, if_false]
      exact h1
    | true =>
      have hk : kd = NameKind.free := by cases kd <;> first | rfl | cases q
      subst hk
      obtain ⟨c, hc⟩ := h n (.head _)
      obtain ⟨cl', h1, h2⟩ := clos_go (env := env) r (seen ++ [(n, NameKind.free)]) ((n, c) :: init) hr ⟨fun x hx => (by
        rw [List.lookup_cons]
        cases e : x == n with
        | true => exact ⟨c, rfl⟩
        | false =>
          rcases List.mem_append.mp hx with hx | hx
          · exact k.all x hx
          · cases List.mem_singleton.mp hx
            simp at e), fun x d e => by
        rw [List.lookup_cons] at e
        cases e' : x == n with
        | true =>
          rw [e'] at e
          cases e
          rw [eq_of_beq e']
          exact ⟨hc, List.mem_append_right _ (.head _)⟩
        | false =>
          rw [e'] at e
          exact ⟨(k.of x d e).1, List.mem_append_left _ (k.of x d e).2⟩⟩
      refine ⟨cl', ?_, ea ▸ h2⟩
      have : cellOf env n = pure c := by unfold cellOf; rw [hc]
      simp only [q, if_true, this]
      exact h1
theorem clos_of {scope : Scope} {env : Env} (h : ∀ x, (x, NameKind.free) ∈ scope.names → ∃ c, env.cells.lookup x = some c) : ∃ cl', closureFor scope env = pure cl' ∧ ClosOk env.cells cl' scope.names := by
  obtain ⟨cl', h1, h2⟩ := clos_go scope.names [] [] h ⟨fun _ h => absurd h List.not_mem_nil, fun _ _ e => by cases e⟩
  refine ⟨cl', ?_, h2⟩
  unfold closureFor
  show (forIn scope.names [] _ >>= _) = _
  have : ∀ (f g : PySem.Str × NameKind → List (PySem.Str × Addr) → Sem (ForInStep (List (PySem.Str × Addr)))), f = g → forIn scope.names [] g = pure cl' → (forIn scope.names [] f >>= fun cs => pure cs) = (pure cl' : Sem _) := fun f g e k => by rw [e, k]; rfl
  refine this _ _ (funext fun x => funext fun r => ?_) h1
  obtain ⟨n, kd⟩ := x
  rfl
/-- the scope of a comprehension with one loop variable x, in a function of scope sc -/
structure CompOk (scope sc : Scope) (x : PySem.Str) : Prop where
  kind : scope.kind = .function
  var : scope.names.lookup x = some .local
  nd : (scope.names.map (·.1)).Nodup
  names : (scope.names.all fun y => y.2 != .cell && (y.2 != .free || sc.names.lookup y.1 == some .cell)) = true
theorem lookup_nd {β : Type} : ∀ {l : List (PySem.Str × β)}, (l.map (·.1)).Nodup → ∀ {x : PySem.Str} {v : β}, (x, v) ∈ l → l.lookup x = some v
  | (n, u) :: r, nd, x, v, h => by
    rw [List.lookup_cons]
    rcases List.mem_cons.mp h with e | h
    · cases e; simp
    · have : (x == n) = false := by
        cases e : x == n with
        | false => rfl
        | true => exact absurd (List.mem_map.mpr ⟨_, h, eq_of_beq e⟩) (List.nodup_cons.mp nd).1
      rw [this]
      exact lookup_nd (List.nodup_cons.mp nd).2 h
section
variable {w : World} {κ : Bool} {sc : Scope} {lv : Nat} {Γ : Cx w κ sc lv} {scope : Scope} {x : PySem.Str} {cl' : List (PySem.Str × Addr)} {loc : Loc} {cells : List AO} {α : List Addr} {F : Led} {h₁ : Heap} {m val : PySem.Str → Option Value} {cvl : Led} {leds : Nat → Led}
    {elt iter : PySem.Expr} {ifs : List PySem.Expr} {px pos : Pos} {E : Value → Shared → Prop}
theorem CompOk.no_cell (k : CompOk scope sc x) {y : PySem.Str} : (y, NameKind.cell) ∉ scope.names := fun h => by
  have := List.all_eq_true.mp k.names _ h
  simp at this
theorem CompOk.mem (k : CompOk scope sc x) {y : PySem.Str} {kd : NameKind} (e : (relS scope sc).names.lookup y = some kd) : (y, kd) ∈ scope.names ∨ (kd = .cell ∧ (y, NameKind.free) ∈ scope.names) := by
  obtain ⟨⟨n, k'⟩, h1, h2⟩ := List.mem_map.mp (lookup_mem e)
  dsimp only at h2
  split at h2
  · rename_i q
    cases h2
    simp only [Bool.and_eq_true] at q
    have hk : k' = NameKind.free := by cases k' <;> first | rfl | cases q.1.1
    exact .inr ⟨rfl, hk ▸ h1⟩
  · cases h2; exact .inl h1
theorem CompOk.free (k : CompOk scope sc x) (Γ : Cx w κ sc lv) {y : PySem.Str} (h : (y, NameKind.free) ∈ scope.names) : ∃ c, Γ.cl.lookup y = some c := by
  have := List.all_eq_true.mp k.names _ h
  refine Γ.hcl y .cell ?_ (.inl rfl)
  have q : (sc.names.lookup y == some NameKind.cell) = true := by simpa using this
  cases e : sc.names.lookup y with
  | none => rw [e] at q; cases q
  | some z => rw [e] at q; cases z <;> first | rfl | cases q
/-- the ambient of an element: the comprehension's own names above a ground that holds all but the mutable objects -/
noncomputable def Cx.inner (Γ : Cx w κ sc lv) (ok : CompOk scope sc x) (hc : ClosOk Γ.cl cl' scope.names) (G : Heap) (Lc : Addr) (α : List Addr) (P : Addr → Obj → Prop) (hP : ∀ a o, P a o → G.get? a = some o ∧ a ∉ framesOf Γ.outA) (B : Below (AR Γ.dp Γ.un Γ.gd Γ.outA) Γ.base Γ.outA G) : Cx w false (relS scope sc) lv where
  mean := Γ.mean
  mg := Γ.mg
  mb := Γ.mb
  dp := Γ.dp
  un := Γ.un
  gd := Γ.gd
  outA := Γ.outA
  base := Γ.base
  h₀ := G
  L := Lc
  qual := Γ.qual
  fa := none
  cd := Γ.cd
  fr := Γ.fr
  cl := cl'
  own := false
  α₀ := α
  P := P
  s₀ := Γ.s₀
  fs := []
  fr₀ := framesOf Γ.outA
  hP := hP
  Xb := Γ.Xb
  Tb := Γ.Tb
  hb := B.stays
  hfs := fun _ h => absurd h List.not_mem_nil
  hfr := fun b hm => ⟨(B.frames.mem hm).1, let ⟨o, h1, _⟩ := (B.frames.mem hm).2; ⟨o, h1⟩⟩
  hout := fun _ h => .inr h
  hown := fun _ => rfl
  hB := fun g t _ _ _ F N => below_up B fun b o e => hid_stays F N b o (t.other b o e List.not_mem_nil)
  hdp := Γ.hdp
  hun := Γ.hun
  hk := ok.kind
  hcl := fun y k e hk => by
    rcases ok.mem e with h | ⟨_, h⟩
    · rcases hk with rfl | rfl
      · exact absurd h ok.no_cell
      · exact hc.all y h
    · exact hc.all y h
  hcn := fun y c e q => by
    have h1 := (hc.of y c e).2
    rcases ok.mem q with h | ⟨h, _⟩
    · have a := lookup_nd ok.nd h
      rw [lookup_nd ok.nd h1] at a
      cases a
    · cases h
  hci := fun y z c e f => Γ.hci y z c (hc.of y c e).1 (hc.of z c f).1
/-- an element, and its test -/
noncomputable def EL {sc' : Scope} (Γ' : Cx w false sc' lv) (elt : PySem.Expr) (l : Loc) (c : List AO) (Qy : D → Prop) (Qn : Prop) : List PySem.Expr → Prop
  | [] => TE Γ' (fun _ _ => False) elt l c fun r c' => c' = c ∧ ∃ d, r = .pure d ∧ Qy d
  | [t] => TB Γ' (fun _ _ => False) t (eval t Γ'.env) l c fun b c' => c' = c ∧ if b = true then TE Γ' (fun _ _ => False) elt l c (fun r c'' => c'' = c ∧ ∃ d, r = .pure d ∧ Qy d) else Qn
  | _ => False
inductive JF (w : World) (P : Addr → Obj → Prop) (cells : List AO) (α : List Addr) (K : Nat → List D → Prop) (i : Nat) (ys : List Value) (sub : Led) : Prop
  | mk (ds : List D) (leds : Nat → Led) (F' : Led) (rys : VRs (PF P F') ds ys) (cr : CellsR w (PF P F') α cells leds) (nd : Dist (allL cells.length leds)) (ap : Apart (allL cells.length leds) F') (s : ∀ p ∈ allL cells.length leds ++ F', p ∈ sub) (k : K i ds) : JF w P cells α K i ys sub
theorem pre_eq {α β : List Addr} (h : Pre α β) (e : β.length = α.length) : β = α := List.ext_getElem? fun i => by
  by_cases hi : i < α.length
  · rw [List.getElem?_eq_getElem hi]; exact h i _ (List.getElem?_eq_getElem hi)
  · rw [List.getElem?_eq_none (by omega), List.getElem?_eq_none (by omega)]
theorem Rel'.mine (R : Rel' Γ loc cells α F h₁ m val cvl leds) : News Γ.h₀ Γ.L h₁ (allL cells.length leds) := fun p hp => R.news p (List.mem_append_left _ (List.mem_append_left _ hp))
theorem Rel'.offF (R : Rel' Γ loc cells α F h₁ m val cvl leds) {p : Addr × Obj} (hp : p ∈ F) : (hid h₁ (allL cells.length leds)).get? p.1 = some p.2 := hid_get (R.news p (List.mem_append_right _ hp)).1 fun q hq => R.ap q (List.mem_append_left _ hq) p hp
theorem Rel'.offC (R : Rel' Γ loc cells α F h₁ m val cvl leds) {p : Addr × Obj} (hp : p ∈ cvl) : (hid h₁ (allL cells.length leds)).get? p.1 = some p.2 := hid_get (R.news p (List.mem_append_left _ (List.mem_append_right _ hp))).1 fun q hq => (List.pairwise_append.mp R.nd).2.2 q hq p hp
theorem Rel'.offA (R : Rel' Γ loc cells α F h₁ m val cvl leds) {a : Addr} {o : Obj} (p : PF Γ.P F a o) : a ∉ framesOf Γ.outA := fun hm => by
  have Lno : Γ.h₀.get? Γ.L = none := Heap.get?_none_of_le R.fr.above
  rcases p with p | p
  · obtain ⟨h1, h2⟩ := Γ.hP a o p
    rcases Γ.hout a hm with e | e
    · rw [e, Lno] at h1; cases h1
    · exact h2 e
  · obtain ⟨_, h2, h3⟩ := R.news _ (List.mem_append_right _ p)
    rcases Γ.hout a hm with e | e
    · exact h2 e
    · obtain ⟨_, o, h4⟩ := Γ.hfr a e
      rw [show Γ.h₀.get? a = none from h3] at h4; cases h4
/-- a relation of an inner ambient: its ground is not turned -/
theorem Rel'.same {g : Heap} {t : KtsTurn Γ.fs Γ.h₀ g} (hf : Γ.fs = []) (ho : Γ.own = false) (R : Rel' (Γ.turn g t) loc cells α F h₁ m val cvl leds) : Rel' Γ loc cells α F h₁ m val cvl leds := by
  have k : ∀ b o, Γ.h₀.get? b = some o → g.get? b = some o := fun b o e => t.other b o e (by rw [hf]; exact List.not_mem_nil)
  have n : ∀ b, g.get? b = none → Γ.h₀.get? b = none := fun b e => by
    cases q : Γ.h₀.get? b with
    | none => rfl
    | some o => rw [k b o q] at e; cases e
  have k' : ∀ b o, g.get? b = some o → Γ.h₀.get? b = some o := fun b o e => by
    cases q : Γ.h₀.get? b with
    | none => rw [t.none_ b q] at e; cases e
    | some o' => rw [k b o' q] at e; exact e ▸ rfl
  exact ⟨⟨R.fr.ns, fun b o e => R.fr.keep b o (k b o e), by rw [← t.size]; exact R.fr.above⟩, fun p hp => ⟨(R.news p hp).1, (R.news p hp).2.1, n _ (R.news p hp).2.2⟩, R.nd, R.ap, R.cr, fun x c e => by
    obtain ⟨o, h1, h2⟩ := R.cv x c e
    refine ⟨o, h1, ?_⟩
    rw [if_neg (by rw [show (Γ.turn g t).own = false from ho]; exact Bool.false_ne_true)] at h2
    rw [if_neg (by rw [ho]; exact Bool.false_ne_true)]
    exact k' c o h2, R.lo, R.lr, R.pre⟩
theorem comp_step (ok : CompOk scope sc x) (hc : ClosOk Γ.cl cl' scope.names) (R : Rel' Γ loc cells α F h₁ m val cvl leds) {tk₁ : Nat} {K : Nat → List D → Prop} {lc : Loc} (hlc : ∀ p ∈ lc, loc.lookup p.1 = some p.2 ∧ (p.1, NameKind.free) ∈ scope.names) {i : Nat} {v : Value} {d : D} (rv : VR (PF Γ.P F) d v)
    (st : ∀ (Γ' : Cx w false (relS scope sc) lv) (acc : List D), K i acc → EL Γ' elt ((x, .pure d) :: lc) cells (fun d' => K (i + 1) (acc ++ [d'])) (K (i + 1) acc) ifs) :
    compStp PG w Γ.A Γ.env scope cl' x elt ifs (Γ.st h₁ tk₁) (hid h₁ (allL cells.length leds)) (JF w (PF Γ.P F) cells α K) i v := by
  rintro ys news₁ h tk Lc I D oI oD m₁ ⟨ds, leds', F', rys, cr, nd, ap, sub, hK⟩ hoff hID hIL hDL Fc Nc
  generalize hH : hid h₁ (allL cells.length leds) = H at Fc Nc ⊢
  have NX : News H Lc h (allL cells.length leds' ++ F') := fun p hp => Nc p (.tail _ (.tail _ (sub p hp)))
  have HG : ∀ b o, H.get? b = some o → (hid (cut h Lc) (allL cells.length leds' ++ F')).get? b = some o := fun b o e => hid_get ((cut_at (Nat.lt_of_lt_of_le (Heap.lt_size e) Fc.above)).trans (Fc.keep b o e)) fun p hp q => by
    have := (NX p hp).2.2
    rw [q, e] at this; cases this
  have GI : (hid (cut h Lc) (allL cells.length leds' ++ F')).get? I = some oI := hid_get ((cut_at hIL).trans (Nc _ (.head _)).1) fun p hp q => (hoff p (sub p hp)).1 q
  have GD : (hid (cut h Lc) (allL cells.length leds' ++ F')).get? D = some oD := hid_get ((cut_at hDL).trans (Nc _ (.tail _ (.head _))).1) fun p hp q => (hoff p (sub p hp)).2 q
  have FG : Fr (hid (cut h Lc) (allL cells.length leds' ++ F')) Lc h (fun y => if y = x then some v else m₁ y) := ⟨Fc.ns, fun b o e => (cut_of (hid_of e)).2, by rw [hideAll_size]; exact cut_size⟩
  have NG : News (hid (cut h Lc) (allL cells.length leds' ++ F')) Lc h (allL cells.length leds' ++ F') := fun p hp => ⟨(NX p hp).1, (NX p hp).2.1, hideAll_none _ (List.mem_map_of_mem hp)⟩
  generalize hid (cut h Lc) (allL cells.length leds' ++ F') = G at HG GI GD FG NG
  have st0 : ∀ b o, Γ.h₀.get? b = some o → G.get? b = some o := fun b o e => HG b o (hH ▸ hid_stays R.fr R.mine b o e)
  let Γ' : Cx w false (relS scope sc) lv := Γ.inner ok hc G Lc α (PF Γ.P F) (fun a o p => ⟨p.elim (fun p => st0 a o (Γ.hP a o p).1) fun p => HG a o (hH ▸ R.offF p), R.offA p⟩) (below_up (Γ.hB _ .refl h₁ m _ R.fr R.mine) (hH ▸ HG))
  have xl : cl'.lookup x = none := by
    cases e : cl'.lookup x with
    | none => rfl
    | some c =>
      have a := lookup_nd ok.nd (hc.of x c e).2
      rw [ok.var] at a; cases a
  have R' : Rel' Γ' ((x, .pure d) :: lc) cells α F' h (fun y => if y = x then some v else m₁ y) (fun y => match cl'.lookup y with | some _ => val y | none => if y = x then some v else m₁ y) [] leds' := by
    refine ⟨FG, by rw [List.append_nil]; exact NG, by rw [List.append_nil]; exact nd, by rw [List.append_nil]; exact ap, cr, fun y c e => ?_, fun y hy => ?_, fun y a e => ?_, .rfl⟩
    · obtain ⟨o, h1, h2⟩ := R.cv y c (hc.of y c e).1
      have e' : cl'.lookup y = some c := e
      refine ⟨o, by rw [e']; exact h1, ?_⟩
      show G.get? c = some o
      split at h2
      · exact HG c o (hH ▸ R.offC h2)
      · exact st0 c o h2
    · have e : cl'.lookup y = none := by
        cases e : cl'.lookup y with
        | none => rfl
        | some c => exact absurd hy (Γ'.hcn y c e)
      rw [e]
    · rw [List.lookup_cons] at e
      cases q : y == x with
      | true =>
        rw [q] at e
        cases e
        refine ⟨v, ?_, rv.mono fun a o z => .inl z⟩
        rw [eq_of_beq q, xl]
        exact if_pos rfl
      | false =>
        rw [q] at e
        obtain ⟨h1, h2⟩ := hlc _ (lookup_mem e)
        obtain ⟨u, h3, h4⟩ := R.lr y a h1
        obtain ⟨c, h5⟩ := hc.all y h2
        exact ⟨u, by rw [h5]; exact h3, h4.mono (fun a o z => .inl z) .rfl⟩
  have cj : ∀ (ys' : List Value) (s' : Shared) (F₂ : Led), (∀ p ∈ F', p ∈ F₂) → OutG Γ' ((x, .pure d) :: lc) α F₂ (fun c _ F'' => c = cells ∧ ∃ ds', VRs (PF Γ'.P F'') ds' ys' ∧ K (i + 1) ds') s' → CJ H Lc I D oI oD (JF w (PF Γ.P F) cells α K (i + 1) ys') (Γ.st h tk) s' := by
    rintro ys' s' F₂ _ ⟨h', tk', α', F'', c', rfl, p', f', ⟨gr, tn, m', val'', cvl'', leds'', R''⟩, rfl, ds', rd, hK'⟩
    replace R'' := R''.same rfl rfl
    have ea : α' = α := pre_eq p' (by rw [R''.cr.1, cr.1])
    subst ea
    have NS : ∀ p ∈ allL c'.length leds'' ++ F'', h'.get? p.1 = some p.2 ∧ p.1 ≠ Lc ∧ G.get? p.1 = none := fun p hp => R''.news p ((List.mem_append.mp hp).elim (fun x => List.mem_append_left _ (List.mem_append_left _ x)) fun x => List.mem_append_right _ x)
    refine ⟨h', tk', m', allL c'.length leds'' ++ F'', (I, oI) :: (D, oD) :: (allL c'.length leds'' ++ F''), rfl, ⟨R''.fr.ns, fun b o e => R''.fr.keep b o (HG b o e), Fc.above⟩, fun p hp => ?_, .head _, .tail _ (.head _), fun p hp => ⟨.tail _ (.tail _ hp), fun q => ?_, fun q => ?_⟩,
      ds', leds'', F'', rd, R''.cr, (List.pairwise_append.mp R''.nd).1, fun p hp => R''.ap p (List.mem_append_left _ hp), fun p hp => hp, hK'⟩
    · rcases List.mem_cons.mp hp with rfl | hp
      · exact ⟨R''.fr.keep _ _ GI, (Nc _ (.head _)).2⟩
      · rcases List.mem_cons.mp hp with rfl | hp
        · exact ⟨R''.fr.keep _ _ GD, (Nc _ (.tail _ (.head _))).2⟩
        · obtain ⟨h1, h2, h3⟩ := NS p hp
          refine ⟨h1, h2, ?_⟩
          cases q : H.get? p.1 with
          | none => rfl
          | some o => rw [HG _ _ q] at h3; cases h3
    · have := (NS p hp).2.2
      rw [q, GI] at this; cases this
    · have := (NS p hp).2.2
      rw [q, GD] at this; cases this
  have yes : ∀ (h₂ : Heap) (tk₂ : Nat) (F₂ : Led), (∀ p ∈ F', p ∈ F₂) → Rel Γ' ((x, .pure d) :: lc) cells α F₂ h₂ → TE Γ' (fun _ _ => False) elt ((x, .pure d) :: lc) cells (fun r c' => c' = cells ∧ ∃ d', r = .pure d' ∧ K (i + 1) (ds ++ [d'])) →
      wpAny (model PG w) Γ.A (eval elt (compEnvC scope cl' Lc Γ.env)) (fun y s₃ => CJ H Lc I D oI oD (JF w (PF Γ.P F) cells α K (i + 1) (ys ++ [y])) (Γ.st h tk) s₃) (fun _ _ => False) (Γ.st h₂ tk₂) := fun h₂ tk₂ F₂ f₂ R₂ t => by
    refine wpAny_mono (wpM_false (t h₂ tk₂ α F₂ R₂)) (fun y s' o => cj _ _ F₂ f₂ (o.mono .rfl (fun _ z => z) ?_)) fun _ _ z => z
    rintro c α' F'' _ f'' ⟨r, ra, rfl, d', rfl, hK'⟩
    exact ⟨rfl, _, (rys.mono (pf_tail fun p hp => f'' p (f₂ p hp))).append (.cons ra .nil), hK'⟩
  have hel := st Γ' ds hK
  rcases ifs with _ | ⟨t, _ | ⟨_, _⟩⟩
  · exact compTree_nil (yes h tk F' (fun _ z => z) ⟨_, .refl, _, _, _, _, R'⟩ hel)
  · refine compTree_one (wpAny_mono (wpM_false (hel h tk α F' ⟨_, .refl, _, _, _, _, R'⟩)) ?_ fun _ _ z => z)
    rintro b s' ⟨h₂, tk₂, α₂, F₂, c₂, rfl, p₂, f₂, R₂, rfl, q⟩
    have ea : α₂ = α := pre_eq p₂ (by obtain ⟨_, _, _, _, _, _, R₂⟩ := R₂; rw [R₂.cr.1, cr.1])
    subst ea
    cases b with
    | true => exact yes h₂ tk₂ F₂ f₂ R₂ q
    | false => exact cj ys _ F₂ f₂ ⟨h₂, tk₂, α₂, F₂, _, rfl, .rfl, fun _ z => z, R₂, rfl, ds, rys.mono (pf_tail f₂), q⟩
  · exact hel.elim
end
section
variable {w : World} {κ : Bool} {sc : Scope} {lv : Nat} {Γ : Cx w κ sc lv} {scope : Scope} {x : PySem.Str} {cl' : List (PySem.Str × Addr)} {loc : Loc} {cells : List AO} {α : List Addr} {F : Led} {h₁ : Heap} {m val : PySem.Str → Option Value} {cvl : Led} {leds : Nat → Led}
    {elt iter : PySem.Expr} {ifs : List PySem.Expr} {px pos : Pos} {E : Value → Shared → Prop}
/-- a thing of the ground's own making that is no sequence changed and let go -/
theorem comp_off {FF : Led} {C : Addr} {oC : Obj} {es : Array DictEntry} {ep : Nat} {h h' : Heap} (R : Rel' Γ loc cells α FF h m val cvl leds) (hm : (C, oC) ∈ FF) (hd : oC.data = .dict es ep) (hs : Heap.SameBut C h h') : Rel' Γ loc cells α (FF.filter fun p => decide (@Ne Nat p.1 C)) h' m val cvl leds := by
  have hC := R.news _ (List.mem_append_right _ hm)
  have R1 := R.drop (G := FF.filter fun p => decide (@Ne Nat p.1 C)) (fun p hp => (List.mem_filter.mp hp).1) fun p hp so => by
    refine List.mem_filter.mpr ⟨hp, decide_eq_true fun e => ?_⟩
    have h1 := (R.news p (List.mem_append_right _ hp)).1
    rw [show p.1 = C from e, hC.1] at h1
    cases h1
    exact so.2 _ _ hd
  refine { R1 with fr := R.fr.change hs hC.2.1 hC.2.2, news := fun p hp => ?_ }
  have hne : p.1 ≠ C := by
    rcases List.mem_append.mp hp with hp | hp
    · exact R.ap p hp _ hm
    · exact of_decide_eq_true (List.mem_filter.mp hp).2
  exact ⟨(hs.2 _ hne).trans (R1.news p hp).1, (R1.news p hp).2⟩
/-- what the end of a comprehension's loop gives: the list D and the names C above an old state -/
inductive CEnd (Γ : Cx w κ sc lv) (loc : Loc) (cells : List AO) (α : List Addr) (F : Led) (S : List D → Prop) (Dd C : Addr) (h : Heap) : Prop
  | mk (ds : List D) (ys : List Value) (c : Nat) (oC : Obj) (G : Led) (m val : PySem.Str → Option Value) (cvl : Led) (leds : Nat → Led) (hS : S ds) (k : ∃ es ep, oC.data = .dict es ep ∧ StrKeys es) (hF : ∀ p ∈ F, p ∈ G) (hG : ∀ p ∈ G, p.1 ≠ C) (rys : VRs (PF Γ.P ((C, oC) :: G)) ds ys)
    (r : Rel' Γ loc cells α ((C, oC) :: G) h m val cvl leds) (d : h.get? Dd = some (listOf ys.toArray c) ∧ Dd ≠ Γ.L ∧ Γ.h₀.get? Dd = none) (n : Dd ≠ C) (o : ∀ p ∈ (allL cells.length leds ++ cvl) ++ ((C, oC) :: G), p.1 ≠ Dd) : CEnd Γ loc cells α F S Dd C h
theorem comp_end (R : Rel' Γ loc cells α F h₁ m val cvl leds) {n : Nat} {K : Nat → List D → Prop} {S : List D → Prop} {Dd C : Addr} {ys : List Value} {c : Nat} {news₁ : Led} {h : Heap} {m' : PySem.Str → Option Value} (hD : (hid h₁ (allL cells.length leds)).get? Dd = none) (hC : (hid h₁ (allL cells.length leds)).get? C = none)
    (hDC : Dd ≠ C) (hn : h.Ns C m') (hk : ∀ b o, (hid h₁ (allL cells.length leds)).get? b = some o → h.get? b = some o) (hDh : h.get? Dd = some (listOf ys.toArray c)) (J : JF w (PF Γ.P F) cells α K n ys news₁)
    (hw : ∀ p ∈ news₁, h.get? p.1 = some p.2 ∧ (hid h₁ (allL cells.length leds)).get? p.1 = none ∧ @Ne Nat p.1 Dd ∧ @Ne Nat p.1 C) (hS : ∀ r, K n r → S r) : CEnd Γ loc cells α F S Dd C h := by
  obtain ⟨ds, leds', F', rys, cr, nd, ap, sub, hK⟩ := J
  obtain ⟨oC, es, ep, hoC, hdC, hkC, _⟩ := hn
  have FH := hid_fr R.fr R.mine
  have oF := fun p (hp : p ∈ F) => R.offF hp
  have oV := fun p (hp : p ∈ cvl) => R.offC hp
  have NF := fun p (hp : p ∈ F) => R.news p (List.mem_append_right _ hp)
  have NV := fun p (hp : p ∈ cvl) => R.news p (List.mem_append_left _ (List.mem_append_right _ hp))
  have ndV := (List.pairwise_append.mp R.nd).2.1
  have apV : ∀ p ∈ cvl, ∀ q ∈ F, p.1 ≠ q.1 := fun p hp q hq => R.ap p (List.mem_append_right _ hp) q hq
  generalize hid h₁ (allL cells.length leds) = H at *
  have nne : ∀ {b d : Addr} {o : Obj}, H.get? b = some o → H.get? d = none → b ≠ d := fun e f q => by rw [q, f] at e; cases e
  have wL := fun p hp => hw p (sub p (List.mem_append_left _ hp))
  have wF := fun p hp => hw p (sub p (List.mem_append_right _ hp))
  have up : ∀ a o, PF (PF Γ.P F) F' a o → PF Γ.P ((C, oC) :: (F' ++ F)) a o := fun a o z => z.elim (fun z => z.imp id fun y => .tail _ (List.mem_append_right _ y)) fun y => .inr (.tail _ (List.mem_append_left _ y))
  have up0 : ∀ a o, PF Γ.P F a o → PF Γ.P ((C, oC) :: (F' ++ F)) a o := fun a o z => z.imp id fun y => .tail _ (List.mem_append_right _ y)
  refine ⟨ds, ys, c, oC, F' ++ F, m, val, cvl, leds', hS _ hK, ⟨es, ep, hdC, hkC⟩, fun p hp => List.mem_append_right _ hp, fun p hp => ?_, rys.mono up, ⟨FH.keeps hk, fun p hp => ?_, ?_, fun p hp q hq => ?_, cr.mono up, R.cv, R.lo, fun y v e => ?_, R.pre⟩, ⟨hDh, off_of FH hD⟩, hDC, fun p hp => ?_⟩
  · rcases List.mem_append.mp hp with hp | hp
    · exact (wF p hp).2.2.2
    · exact nne (oF p hp) hC
  · rcases List.mem_append.mp hp with hp | hp
    · rcases List.mem_append.mp hp with hp | hp
      · exact ⟨(wL p hp).1, off_of FH (wL p hp).2.1⟩
      · exact ⟨hk _ _ (oV p hp), (NV p hp).2⟩
    · rcases List.mem_cons.mp hp with rfl | hp
      · exact ⟨hoC, off_of FH hC⟩
      · rcases List.mem_append.mp hp with hp | hp
        · exact ⟨(wF p hp).1, off_of FH (wF p hp).2.1⟩
        · exact ⟨hk _ _ (oF p hp), (NF p hp).2⟩
  · exact List.pairwise_append.mpr ⟨nd, ndV, fun p hp q hq => Ne.symm (nne (oV q hq) (wL p hp).2.1)⟩
  · rcases List.mem_append.mp hp with hp | hp
    · rcases List.mem_cons.mp hq with rfl | hq
      · exact (wL p hp).2.2.2
      · rcases List.mem_append.mp hq with hq | hq
        · exact ap p hp q hq
        · exact Ne.symm (nne (oF q hq) (wL p hp).2.1)
    · rcases List.mem_cons.mp hq with rfl | hq
      · exact nne (oV p hp) hC
      · rcases List.mem_append.mp hq with hq | hq
        · exact nne (oV p hp) (wF q hq).2.1
        · exact apV p hp q hq
  · obtain ⟨u, h1, h2⟩ := R.lr y v e
    exact ⟨u, h1, h2.mono up0 .rfl⟩
  · rcases List.mem_append.mp hp with hp | hp
    · rcases List.mem_append.mp hp with hp | hp
      · exact (wL p hp).2.2.1
      · exact nne (oV p hp) hD
    · rcases List.mem_cons.mp hp with rfl | hp
      · exact Ne.symm hDC
      · rcases List.mem_append.mp hp with hp | hp
        · exact (wF p hp).2.2.1
        · exact nne (oF p hp) hD
/-- a comprehension over the value of its iterable -/
inductive CO (w : World) (sc : Scope) (lv : Nat) (scope : Scope) (x : PySem.Str) (elt : PySem.Expr) (ifs : List PySem.Expr) (lc : Loc) (cells : List AO) (S : List D → Prop) : AV → Prop
  | list {ds} (K : Nat → List D → Prop) (hz : ds.length < 100000) (h0 : K 0 []) (step : ∀ i (Γ' : Cx w false (relS scope sc) lv) acc, i < ds.length → K i acc → EL Γ' elt ((x, .pure (ds.getD i .none)) :: lc) cells (fun d' => K (i + 1) (acc ++ [d'])) (K (i + 1) acc) ifs)
      (done : ∀ r, K ds.length r → S r) : CO w sc lv scope x elt ifs lc cells S (.pure (.list ds))
  | range {a b : Int} {n : Nat} (K : Nat → List D → Prop) (hn : n = (b - a).toNat) (ha : -1000 ≤ a ∧ a ≤ 1000) (hb : -1000 ≤ b ∧ b ≤ 1000) (h0 : K 0 [])
      (step : ∀ (i : Nat) (Γ' : Cx w false (relS scope sc) lv) acc, i < n → K i acc → EL Γ' elt ((x, .int (a + (i : Int))) :: lc) cells (fun d' => K (i + 1) (acc ++ [d'])) (K (i + 1) acc) ifs) (done : ∀ r, K n r → S r) : CO w sc lv scope x elt ifs lc cells S (.pure (.range a b))
theorem comp_core (ok : CompOk scope sc x) (hc : ClosOk Γ.cl cl' scope.names) (R : Rel' Γ loc cells α F h₁ m val cvl leds) {tk₁ : Nat} {lc : Loc} (hlc : ∀ p ∈ lc, loc.lookup p.1 = some p.2 ∧ (p.1, NameKind.free) ∈ scope.names) {S : List D → Prop} {a : AV} {u : Value} (ra : AVR (PF Γ.P F) α a u)
    (co : CO w sc lv scope x elt ifs lc cells S a) {RR : Value → Addr → Result → Shared → Prop} (done : ∀ Dd C h tk, CEnd Γ loc cells α F S Dd C h → RR (.ref Dd) C (.ok .next) (Γ.st h tk)) :
    compGoal PG w Γ.A Γ.env scope cl' x px pos elt iter ifs RR E u (Γ.st h₁ tk₁) := by
  have hcell : ∀ y ∈ scope.names, y.2 ≠ .cell := fun y hy e => by obtain ⟨n, k⟩ := y; cases e; exact ok.no_cell hy
  have J0 : ∀ {K : Nat → List D → Prop}, K 0 [] → JF w (PF Γ.P F) cells α K 0 [] (allL cells.length leds) := fun k => ⟨[], leds, [], .nil, R.cr.mono fun a o z => .inl z, (List.pairwise_append.mp R.nd).1, fun _ _ q hq => (nomatch hq), fun p hp => by rwa [List.append_nil] at hp, k⟩
  have fin : ∀ {K : Nat → List D → Prop} {n}, (∀ r, K n r → S r) → compDone (Γ.st h₁ tk₁) (hid h₁ (allL cells.length leds)) n (JF w (PF Γ.P F) cells α K) RR := fun hS D C ys c news₁ h tk m' a1 a2 a3 a4 a5 a6 _ a8 a9 => done D C h tk (comp_end R a1 a2 a3 a4 a5 a6 a8 a9 hS)
  cases co with
  | list K hz h0 step dn =>
    cases ra with
    | list p r =>
      rename_i ds l ws nn
      have e := r.length
      refine cmp_list (s := Γ.st h₁ tk₁) R.mine rfl hcell ok.kind ok.var (isList_of (a := l) (n := nn) ?_) (by omega) (JF w (PF Γ.P F) cells α K) (J0 h0) (fun i v hv => ?_) (fin fun r k => dn r (e ▸ k))
      · rcases p with p | p
        · exact hid_stays R.fr R.mine _ _ (Γ.hP _ _ p).1
        · exact R.offF p
      · have hi : i < ds.length := by rw [e]; exact (List.getElem?_eq_some_iff.mp hv).1
        have rv := r.get i hi
        rw [List.getD_eq_getElem?_getD (l := ws), hv] at rv
        exact comp_step ok hc R hlc rv fun Γ' acc k => step i Γ' acc hi k
  | range K hn ha hb h0 step dn =>
    rename_i a b n
    cases ra with
    | range p =>
      refine cmp_range (s := Γ.st h₁ tk₁) R.mine rfl hcell ok.kind ok.var (R.keepP p) (small_one (by omega) (by omega) (by omega) (by omega)) (rs_of hn) (by omega) (JF w (PF Γ.P F) cells α K) (J0 h0) (fun i z t hi hz => ?_) (fin dn)
      subst hz
      exact comp_step ok hc R hlc .int fun Γ' acc k => step i Γ' acc hi k
/-- the same frame, at ease -/
noncomputable def Cx.down (Γ : Cx w κ sc lv) : Cx w false sc lv := { Γ with }
theorem Rel'.toDown (R : Rel' Γ loc cells α F h₁ m val cvl leds) : Rel' Γ.down loc cells α F h₁ m val cvl leds := ⟨R.fr, R.news, R.nd, R.ap, R.cr, R.cv, R.lo, R.lr, R.pre⟩
theorem Rel.toDown (R : Rel Γ loc cells α F h₁) : Rel Γ.down loc cells α F h₁ := let ⟨g, t, m, val, cvl, leds, R⟩ := R; ⟨g, t, m, val, cvl, leds, R.toDown⟩
theorem Rel'.ofDown (R : Rel' Γ.down loc cells α F h₁ m val cvl leds) : Rel' Γ loc cells α F h₁ m val cvl leds := ⟨R.fr, R.news, R.nd, R.ap, R.cr, R.cv, R.lo, R.lr, R.pre⟩
theorem CEnd.frozen {Dd C : Addr} {S : List D → Prop} {h h' : Heap} (ce : CEnd Γ loc cells α F S Dd C h) (hs : Heap.SameBut C h h') : ∃ ds F' m val cvl leds, S ds ∧ (∀ p ∈ F, p ∈ F') ∧ Rel' Γ loc cells α F' h' m val cvl leds ∧ VR (PF Γ.P F') (.list ds) (.ref Dd) := by
  obtain ⟨ds, ys, c, oC, G, m, val, cvl, leds, hS, ⟨es, ep, hd, _⟩, hF, hGC, rys, R, ⟨d1, d2, d3⟩, hDC, hoff⟩ := id ce
  have R1 := R.frozenN (d := Dd) (o := listOf ys.toArray c) R.fr (fun p hp => by
    rcases List.mem_cons.mp hp with rfl | hp
    · exact ⟨d1, d2, d3⟩
    · exact R.news p hp) hoff
  refine ⟨ds, _, m, val, cvl, leds, hS, fun p hp => ?_, comp_off R1 (.tail _ (.head _)) hd hs, .list (.inr (List.mem_filter.mpr ⟨.head _, decide_eq_true hDC⟩)) (rys.mono' fun a o so z => z.imp id fun y => ?_)⟩
  · exact List.mem_filter.mpr ⟨.tail _ (.tail _ (hF p hp)), decide_eq_true (hGC p (hF p hp))⟩
  · rcases List.mem_cons.mp y with y | y
    · cases y; exact absurd hd (so.2 _ _)
    · exact List.mem_filter.mpr ⟨.tail _ (.tail _ y), decide_eq_true (hGC _ y)⟩
theorem TE_Comp {Q : AV → List AO → Prop} (ok : CompOk scope sc x) (lc : Loc) (hlc : ∀ p ∈ lc, loc.lookup p.1 = some p.2 ∧ (p.1, NameKind.free) ∈ scope.names) (hs : ∀ x, foldedSetIterable iter Γ.env x = pure x)
    (h : TE Γ.down E iter loc cells fun a c => CO w sc lv scope x elt ifs lc c (fun r => Q (.pure (.list r)) c) a) : TE Γ E (.ListComp elt [⟨.Name x px, iter, ifs, 0⟩] scope pos) loc cells Q := by
  intro h₀ tk α F R
  obtain ⟨cl', hcl, hco⟩ := clos_of (env := Γ.env) fun y hy => ok.free Γ hy
  rw [eval_ListComp]
  refine wpM_of_any (wpAny_comprehension_free (use := none) rfl hs hcl ok.kind (fun y hy e => by obtain ⟨n, k⟩ := y; cases e; exact lookup_nd ok.nd hy) (wpAny_mono (wpM_false (h h₀ tk α F R.toDown)) ?_ fun _ _ z => z))
  rintro u s' ⟨h₁, tk₁, α₁, F₁, c₁, rfl, p₁, f₁, ⟨gr, tn, m, val, cvl, leds, R₁⟩, a, ra, co⟩
  refine comp_core (Γ := Γ.turn gr tn) ok hco (Rel'.ofDown (Γ := Γ.turn gr tn) R₁) hlc ra co fun Dd C h tk ce => ?_
  obtain ⟨_, _, _, oC, _, _, _, _, _, _, ⟨es, ep, hd, hk⟩, _, _, _, R2, _⟩ := id ce
  refine ⟨_, ⟨oC, es, ep, (R2.news _ (List.mem_append_right _ (.head _))).1, hd, hk, fun _ => rfl⟩, fun h' hs' => ?_⟩
  obtain ⟨ds, F', m', val', cvl', leds', q, f', R', v⟩ := ce.frozen hs'
  exact ⟨h', _, α₁, F', c₁, rfl, p₁, fun p hp => f' p (f₁ p hp), ⟨gr, tn, m', val', cvl', leds', R'⟩, .pure (.list ds), v, q⟩
end
section
variable {w : World} {κ : Bool} {sc : Scope} {lv : Nat} {Γ : Cx w κ sc lv} {scope : Scope} {x y : PySem.Str} {loc : Loc} {cells : List AO} {elt iter : PySem.Expr} {ifs : List PySem.Expr} {px py pos spos : Pos} {E : Value → Shared → Prop} {Q : Fl → Loc → List AO → Prop}
theorem comp_used (hsw : swapsWith (.ListComp elt [⟨.Name x px, iter, ifs, 0⟩] scope pos) (some (.Name y py)) spos.line Γ.env = pure true) (ok : CompOk scope sc x) (lc : Loc) (hlc : ∀ p ∈ lc, loc.lookup p.1 = some p.2 ∧ (p.1, NameKind.free) ∈ scope.names) (hs : ∀ x, foldedSetIterable iter Γ.env x = pure x)
    {S : List D → List AO → Prop} (h : TE Γ.down E iter loc cells fun a c => CO w sc lv scope x elt ifs lc c (fun r => S r c) a)
    (fin : ∀ gr (tn : KtsTurn Γ.fs Γ.h₀ gr) Dd C h tk α F c, CEnd (Γ.turn gr tn) loc c α F (fun r => S r c) Dd C h → wpAny (model PG w) Γ.A (storeName Γ.env y (.ref Dd)) (fun _ s'' => ∃ m, s''.heap.Ns C m ∧ ∀ h', Heap.SameBut C s''.heap h' → OutS Γ F Q .next { s'' with heap := h' }) E (Γ.st h tk)) :
    TS Γ E (.Assign [.Name y py] (.ListComp elt [⟨.Name x px, iter, ifs, 0⟩] scope pos) spos) loc cells Q := by
  intro h₀ tk α F R
  obtain ⟨cl', hcl, hco⟩ := clos_of (env := Γ.env) fun y hy => ok.free Γ hy
  rw [exec_Assign_Name_used _ _ _ _ hsw]
  refine wpM_of_any (wpAny_bind (wpAny_standAt (wpAny_bind ?_)))
  show wpAny _ Γ.A (do let _ ← comprehension (.ListComp elt [⟨.Name x px, iter, ifs, 0⟩] scope pos) scope Γ.env _ (newList []) false (eval iter Γ.env) (some (assign (.Name y py) Γ.env))) _ _ _
  refine wpAny_bind (wpAny_mono (wpAny_comprehension_free (use := some (assign (.Name y py) Γ.env)) (Q := fun _ s' => OutS Γ F Q .next s') rfl hs hcl ok.kind (fun y hy e => by obtain ⟨n, k⟩ := y; cases e; exact lookup_nd ok.nd hy)
    (wpAny_mono (wpM_false (h h₀ tk α F R.toDown)) ?_ fun _ _ z => z)) (fun _ s' hq => wpAny_pure (wpAny_pure hq)) fun _ _ z => z)
  rintro u s' ⟨h₁, tk₁, α₁, F₁, c₁, rfl, p₁, f₁, ⟨gr, tn, m, val, cvl, leds, R₁⟩, a, ra, co⟩
  refine comp_core (Γ := Γ.turn gr tn) ok hco (Rel'.ofDown (Γ := Γ.turn gr tn) R₁) hlc ra co fun Dd C h tk ce => ?_
  refine wpAny_assign_Name (wpAny_mono (fin gr tn Dd C h tk α₁ F₁ c₁ ce) ?_ fun _ _ z => z)
  rintro _ s'' ⟨m', hn, k⟩
  exact ⟨m', hn, fun h' hs' => (k h' hs').mono f₁ fun _ _ _ z => z⟩
theorem S_comp {rest : List Stmt} (hy : Storable sc Γ.own y) (hsw : swapsWith (.ListComp elt [⟨.Name x px, iter, ifs, 0⟩] scope pos) (some (.Name y py)) spos.line Γ.env = pure true) (ok : CompOk scope sc x) (lc : Loc) (hlc : ∀ p ∈ lc, loc.lookup p.1 = some p.2 ∧ (p.1, NameKind.free) ∈ scope.names)
    (hs : ∀ x, foldedSetIterable iter Γ.env x = pure x) (h : TE Γ.down E iter loc cells fun a c => CO w sc lv scope x elt ifs lc c (fun r => TSs Γ E rest (loc.put y (.pure (.list r))) c Q) a) :
    TSs Γ E (.Assign [.Name y py] (.ListComp elt [⟨.Name x px, iter, ifs, 0⟩] scope pos) spos :: rest) loc cells Q := by
  refine S_seq (comp_used hsw ok lc hlc hs (S := fun r c => TSs Γ E rest (loc.put y (.pure (.list r))) c Q) h fun gr tn Dd C h tk α F c ce => ?_)
  obtain ⟨ds, ys, c', oC, G, m, val, cvl, leds, hS, ⟨es, ep, hd, hk⟩, hF, hGC, rys, R, ⟨d1, d2, d3⟩, hDC, hoff⟩ := id ce
  have R1 := R.frozenN (d := Dd) (o := listOf ys.toArray c') R.fr (fun p hp => by
    rcases List.mem_cons.mp hp with rfl | hp
    · exact ⟨d1, d2, d3⟩
    · exact R.news p hp) hoff
  refine store_name hy ⟨gr, tn, m, val, cvl, leds, R1⟩ (r := .pure (.list ds)) (VR.list (.inr (.head _)) (rys.mono (pf_tail fun _ z => .tail _ z))) ?_
  rintro h' tk' ⟨gr', tn', m', val', cvl', leds', R'⟩
  refine ⟨_, ⟨oC, es, ep, (R'.news _ (List.mem_append_right _ (.tail _ (.head _)))).1, hd, hk, fun _ => rfl⟩, fun h'' hs'' => ?_⟩
  exact outS_next (fun p hp => List.mem_filter.mpr ⟨.tail _ (.tail _ (hF p hp)), decide_eq_true (hGC p (hF p hp))⟩) ⟨gr', tn', m', val', cvl', leds', comp_off R' (.tail _ (.head _)) hd hs''⟩ hS
end
end
section
theorem bindL_at {k : PySem.Str → Option NameKind} : ∀ {binds : List (PySem.Str × Value)}, (binds.map (·.1)).Nodup → ∀ m y, k y = some .local → bindL k binds m y = match binds.lookup y with | some v => some v | none => m y
  | [], _, _, _, _ => rfl
  | (n, v) :: r, nd, m, y, hy => by
    obtain ⟨hn, nd⟩ := List.nodup_cons.mp nd
    unfold bindL
    rw [bindL_at nd _ y hy, List.lookup_cons]
    cases q : y == n with
    | true =>
      have e := eq_of_beq q
      subst e
      have : r.lookup y = none := by
        rw [List.lookup_eq_none_iff]
        intro p hp
        have : y ≠ p.1 := fun e => hn (List.mem_map.mpr ⟨p, hp, e.symm⟩)
        simpa using this
      rw [this, if_pos hy]
      exact if_pos rfl
    | false =>
      have hne : y ≠ n := by simpa using q
      cases r.lookup y with
      | some u => rfl
      | none =>
        show (if k n = some .local then fun z => if z = n then some v else m z else m) y = m y
        split
        · exact if_neg hne
        · rfl
theorem bindC_at {k : PySem.Str → Option NameKind} : ∀ {binds : List (PySem.Str × Value)}, (binds.map (·.1)).Nodup → ∀ m y, k y ≠ some .local → bindC k binds m y = match binds.lookup y with | some v => some v | none => m y
  | [], _, _, _, _ => rfl
  | (n, v) :: r, nd, m, y, hy => by
    obtain ⟨hn, nd⟩ := List.nodup_cons.mp nd
    unfold bindC
    rw [bindC_at nd _ y hy, List.lookup_cons]
    cases q : y == n with
    | true =>
      have e := eq_of_beq q
      subst e
      have : r.lookup y = none := by
        rw [List.lookup_eq_none_iff]
        intro p hp
        have : y ≠ p.1 := fun e => hn (List.mem_map.mpr ⟨p, hp, e.symm⟩)
        simpa using this
      rw [this, if_neg hy]
      exact if_pos rfl
    | false =>
      have hne : y ≠ n := by simpa using q
      cases r.lookup y with
      | some u => rfl
      | none =>
        show (if k n = some .local then m else fun z => if z = n then some v else m z) y = m y
        split
        · rfl
        · exact if_neg hne
theorem cells_mem {cm : PySem.Str → Option Value} : ∀ {cs : List (PySem.Str × Addr)} {cells : Led}, CellsAre cm cs cells → cells.map (·.1) = cs.map (·.2) ∧ ∀ x c, (x, c) ∈ cs → ∃ o, (c, o) ∈ cells ∧ o.data = .cell (cm x)
  | _, _, .nil => ⟨rfl, fun _ _ h => absurd h List.not_mem_nil⟩
  | _, _, .cons h r => by
    obtain ⟨a, b⟩ := cells_mem r
    refine ⟨by simp [a], fun x c hm => ?_⟩
    rcases List.mem_cons.mp hm with e | hm
    · cases e; exact ⟨_, .head _, h⟩
    · obtain ⟨o, h1, h2⟩ := b x c hm
      exact ⟨o, .tail _ h1, h2⟩
theorem cells_kind : ∀ (names : List (PySem.Str × NameKind)) (n : Nat) (acc : List (PySem.Str × Addr)) (x : PySem.Str) (c : Addr), (x, c) ∈ cellsFrom n names acc → (x, NameKind.cell) ∈ names ∨ (x, c) ∈ acc
  | [], _, _, _, _, h => .inr h
  | (y, k) :: r, n, acc, x, c, h => by
    unfold cellsFrom at h
    split at h
    · rename_i q
      have hk : k = NameKind.cell := by cases k <;> first | rfl | cases q
      subst hk
      rcases cells_kind r _ _ x c h with h | h
      · exact .inl (.tail _ h)
      · rcases List.mem_cons.mp h with e | h
        · cases e; exact .inl (.head _)
        · exact .inr h
    · exact (cells_kind r _ _ x c h).imp (fun h => .tail _ h) id
theorem lookup_of_mem_nodup' {β : Type} : ∀ {l : List (PySem.Str × β)}, (l.map (·.1)).Nodup → ∀ {x : PySem.Str} {v : β}, (x, v) ∈ l → l.lookup x = some v
  | (n, u) :: r, nd, x, v, h => by
    rw [List.lookup_cons]
    rcases List.mem_cons.mp h with e | h
    · cases e; simp
    · have : (x == n) = false := by
        cases e : x == n with
        | false => rfl
        | true => exact absurd (List.mem_map.mpr ⟨_, h, eq_of_beq e⟩) (List.nodup_cons.mp nd).1
      rw [this]
      exact lookup_of_mem_nodup' (List.nodup_cons.mp nd).2 h
theorem cells_nodup : ∀ {names : List (PySem.Str × NameKind)} {n : Nat}, (names.map (·.1)).Nodup → ((cellsFrom n names []).map (·.1)).Nodup := by
  have : ∀ (names : List (PySem.Str × NameKind)) (n : Nat) (acc : List (PySem.Str × Addr)), (names.map (·.1)).Nodup → (acc.map (·.1)).Nodup → (∀ x ∈ acc.map (·.1), x ∉ names.map (·.1)) → ((cellsFrom n names acc).map (·.1)).Nodup := by
    intro names
    induction names with
    | nil => intro n acc _ h _; exact h
    | cons y r ih =>
      obtain ⟨y, k⟩ := y
      intro n acc hn ha hd
      obtain ⟨h1, h2⟩ := List.nodup_cons.mp hn
      unfold cellsFrom
      split
      · refine ih _ _ h2 (List.nodup_cons.mpr ⟨fun q => hd _ q (.head _), ha⟩) fun x hx hr => ?_
        rcases List.mem_cons.mp hx with rfl | hx
        · exact h1 hr
        · exact hd x hx (.tail _ hr)
      · exact ih _ _ h2 ha fun x hx hr => hd x hx (.tail _ hr)
  exact fun {names n} hn => this names n [] hn List.nodup_nil fun _ h => absurd h List.not_mem_nil
section
variable {w : World} {κ : Bool} {lv : Nat} {f : Addr} {args : List AV} {cells : List AO} {Q : AV → List AO → Prop}
    {name qual : PySem.Str} {params : Arguments} {body : List Stmt} {sc : Scope} {dV kV doc pm cdv ct oc : Value} {an od : Option Addr} {osl : Array (Option Value)} {names : List PySem.Str}
theorem enterFK {τ : Bool} (ho : (KF w.params).lookup f = some ⟨oc, od, .func (fnOf name qual params body sc dV kV doc pm an cdv ct), osl⟩) (hcd : codeIn (KF w.params) cdv qual = true)
    (hbind : ∀ vs : List Value, vs.length = names.length → ∀ s, BindsTo s (fnOf name qual params body sc dV kV doc pm an cdv ct) ⟨vs, []⟩ (names.zip vs)) (hloc : names.all (fun y => sc.names.lookup y == some .local || sc.names.lookup y == some .cell) = true)
    (hn : decide names.Nodup = true) (hlen : args.length = names.length)
    (hco : sc.isCoroutine = false) (hgen : sc.isGenerator = false) (hk : sc.kind = .function) (hfree : ∀ x ∈ sc.names, x.2 ≠ .free) (hnn : (sc.names.map (·.1)).Nodup) (hl : 0 < lv)
    (h : ∀ (Γ : Cx w κ sc lv), Γ.own = true → (τ = true → Γ.fs = Γ.fr₀) → Γ.α₀.length ≤ cells.length → TSs Γ (fun _ _ => False) body (names.zip args) cells fun fl _ c => End cells.length Q fl.val c) : CanG τ w κ lv f args cells Q False := by
  intro mean mg mb dp un gd outer base g s vs α leds P B hg hsz X T hP hm nd CR va hdp hun
  have hvl : vs.length = names.length := va.length ▸ hlen
  have hnd := of_decide_eq_true hn
  have hzn : ((names.zip vs).map (·.1)).Nodup := by rw [zip_names hvl.symm]; exact hnd
  have hroom : dp < recursionLimit := by omega
  have hkind : ((names.zip vs).all fun y => sc.names.lookup y.1 == some .local || sc.names.lookup y.1 == some .cell) = true := List.all_eq_true.mpr fun y hy => List.all_eq_true.mp hloc y.1 (List.of_mem_zip hy).1
  refine codeM_call_function (fd := fnOf name qual params body sc dV kV doc pm an cdv ct) (body := body) hroom (hg _ _ (B.stays _ _ (X _ _ ho))) rfl hco hgen rfl ((codeRec_of X hcd).keeps fun b o e => hg b o (B.stays b o e)) (hbind vs hvl s _ _ _ _ ?_)
  refine wpAny_newFunctionEnv_cells hk (kindsX hkind _) fun env' he s' x => ?_
  subst he
  refine ⟨(T.nolimit.keeps fun b o e => hg b o (B.stays b o e)).keeps x.toInCall.keep, ?_⟩
  obtain ⟨h₁, tk, rfl, _⟩ := x.done
  have hk₁ := x.toInCall.keep
  have look : ∀ {y c}, (y, c) ∈ cellsFrom (s.heap.objs.size + 1) sc.names [] → sc.names.lookup y = some .cell := fun hm => by
    rcases cells_kind _ _ _ _ _ hm with h | h
    · exact lookup_of_mem_nodup' hnn h
    · exact absurd h List.not_mem_nil
  have nodC : ((cellsFrom (s.heap.objs.size + 1) sc.names []).map (·.1)).Nodup := cells_nodup hnn
  have lk : ∀ {y c}, (cellsFrom (s.heap.objs.size + 1) sc.names []).lookup y = some c → (y, c) ∈ cellsFrom (s.heap.objs.size + 1) sc.names [] := mem_of_lookup
  obtain ⟨cvl, NC, Y⟩ := Cl.news (h₀ := s.heap) (Nat.le_refl _) fun n c hm => ⟨x.cell n c (lookup_of_mem_nodup nodC hm), x.above n c hm⟩
  obtain ⟨Y1, Y2⟩ := cells_mem Y
  have noG : ∀ b, s.heap.get? b = none → g.get? b = none := fun b e => by
    cases q : g.get? b with
    | none => rfl
    | some o => have := hg _ _ q; rw [e] at this; cases this
  let Γ : Cx w κ sc lv := {
    mean, mg, mb, gd, base, cl := cellsFrom (s.heap.objs.size + 1) sc.names [], own := true, α₀ := α, P, hP, hk, Xb := X, Tb := T, fs := turned τ outer, fr₀ := framesOf outer
    dp := ((AR dp un gd outer).deeper (envOfC qual sc s.heap.objs.size f cdv)).depth
    un := ((AR dp un gd outer).deeper (envOfC qual sc s.heap.objs.size f cdv)).units
    outA := envOfC qual sc s.heap.objs.size f cdv :: outer
    h₀ := g, L := s.heap.objs.size, qual := qual ++ ".<locals>.", fa := some f, cd := cdv, fr := some s.heap.objs.size, s₀ := s
    hb := B.stays
    hfs := turned_sub
    hfr := fun b hm => ⟨(B.frames.mem hm).1, let ⟨o, h1, _⟩ := (B.frames.mem hm).2; ⟨o, h1⟩⟩
    hout := fun b hm => by
      rcases List.mem_cons.mp (show b ∈ s.heap.objs.size :: framesOf outer from hm) with h | h
      · exact .inl h
      · exact .inr h
    hown := fun e => nomatch e
    hB := fun g' t h m mine F N => by
      have := (groundX (s := { s with heap := h }) (A := AR 0 0 gd (envOfC qual sc s.heap.objs.size f cdv :: outer)) (R := fun _ _ => True) (below_turn B t) F N rfl rfl hk).2.1
      exact ⟨rfl, this.stays, this.frames⟩
    hdp := by show dp + 1 + 10 * lv < _; omega
    hun := by show (un + 3) + 100 * lv < _; omega
    hcl := fun y k e hk => by
      rcases hk with rfl | rfl
      · exact Option.isSome_iff_exists.mp (cellsFrom_some _ _ _ (.inl e))
      · exact absurd rfl (hfree _ (mem_of_lookup e))
    hcn := fun y c e q => by rw [look (lk e)] at q; cases q
    hci := fun y z c e e' => name_of_addr x.apart (lk e) (lk e') }
  have hR : Rel Γ (names.zip args) cells α [] h₁ := by
    refine ⟨g, .refl, _, fun y => (names.zip vs).lookup y, cvl, leds, ⟨x.toInCall.ns, fun b o e => hk₁ b o (hg b o e), hsz⟩, fun p hp => ?_, ?_, fun p _ q hq => (nomatch hq), CR.mono fun a o z => .inl z, fun y c e => ?_, fun y hy => ?_, fun y v e => ?_, .rfl⟩
    · simp only [List.append_nil] at hp
      rcases List.mem_append.mp hp with hp | hp
      · exact ⟨hk₁ _ _ (hm p hp).1, Nat.ne_of_lt (Heap.lt_size (hm p hp).1), (hm p hp).2⟩
      · exact ⟨(NC p hp).1, (NC p hp).2.1, noG _ (NC p hp).2.2⟩
    · refine List.pairwise_append.mpr ⟨nd, ?_, fun p hp q hq e => ?_⟩
      · have h1 := x.apart
        have h2 : (cvl.map (·.1)).Pairwise (· ≠ ·) := by rw [Y1, List.pairwise_map]; exact h1
        rw [List.pairwise_map] at h2
        exact h2
      · have := (NC q hq).2.2
        rw [← e, (hm p hp).1] at this; cases this
    · obtain ⟨o, h1, h2⟩ := Y2 y c (lk e)
      refine ⟨o, ?_, by rw [if_pos rfl]; exact h1⟩
      rw [h2, bindC_at hzn _ y (fun q => by have := look (lk e); rw [show sc.names.lookup y = some .local from q] at this; cases this)]
      cases (names.zip vs).lookup y <;> rfl
    · show bindL _ _ _ y = _
      rw [bindL_at hzn _ y hy]
      cases (names.zip vs).lookup y <;> rfl
    · obtain ⟨u, h1, h2⟩ := zip_lookup va y v e
      exact ⟨u, h1, h2.mono (fun a o z => .inl z) .rfl⟩
  refine codeM_func (wpM_mono (h Γ rfl (fun e => if_pos e) (Nat.le_of_eq CR.1) h₁ _ α [] hR) (fun fl s' ho => ?_) fun e s' x => x.elim)
  obtain ⟨h', tk', α', F', loc', c', fl', rfl, _, R', rf, q⟩ := ho
  have := Nat.le_of_eq CR.1
  cases fl' with
  | ret v => obtain ⟨u, rfl, ra⟩ := rf; exact can_out (Γ := Γ) (fun _ _ => rfl) this rfl R' ra q
  | next => cases rf; exact can_out (Γ := Γ) (fun _ _ => rfl) this rfl R' (v := .pure .none) (u := .none) .none q
  | brk => cases rf; exact can_out (Γ := Γ) (fun _ _ => rfl) this rfl R' (v := .pure .none) (u := .none) .none q
  | cont => cases rf; exact can_out (Γ := Γ) (fun _ _ => rfl) this rfl R' (v := .pure .none) (u := .none) .none q
end
end
section
theorem cls51 (w : World) : ∃ nm q N bs hdct sn sub ab col dd k0 k1 k2 k3 k5, (KF w.params).lookup 51 = some (excClassObj nm q 51 N bs [.ref 38, .type "Exception", .type "BaseException", .type "object"] hdct sn sub ab col dd k0 k1 k2 k3 k5 "Exception.__new__") :=
  ⟨_, _, _, _, _, _, _, _, _, _, _, _, _, _, _, rfl⟩
theorem cd51 (w : World) : ∃ cd, clsIn (KF w.params) 51 = some cd ∧ cd.mro = [.ref 51, .ref 38, .type "Exception", .type "BaseException", .type "object"] ∧ cd.hasDict = true := ⟨_, rfl, rfl, rfl⟩
structure Exc51 (w : World) : Prop where
  set : findIn (KF w.params) (.ref 51) "__setattr__" = some (some (.builtin "object.__setattr__"))
  msg : findIn (KF w.params) (.ref 51) (Str.ofString "message") = some none
  call : specialIn (KF w.params) (.ref 51) "__call__" = some (some (.builtin "type.__call__"))
  typ : instIn (KF w.params) (.ref 51) (.type "type") = some true
  init : findIn (KF w.params) (.ref 51) "__init__" = some (some (.ref 35))
  fn : typeIn (KF w.params) (.ref 35) = some (.type "function")
section
variable {w : World} {κ : Bool} {sc : Scope} {lv : Nat} {Γ : Cx w κ sc lv} {E : Value → Shared → Prop} {loc : Loc} {cells : List AO} {k : Nat}
/-- the message laid into a new exception -/
theorem oa_exc {r : AV} {Q : List AO → Prop} (X : Exc51 w) (hk : cells[k]? = some (.exc 51 false)) (h : Q (cells.set k (.exc 51 true))) : OA Γ E (Str.ofString "message") (.ref k) r loc cells Q := by
  rintro h₀ tk α F u x ⟨gr, tn, m, val, cvl, leds, R⟩ ru _
  obtain ⟨a, ha, hc, hm, up⟩ := R.at hk
  obtain ⟨a', ha', rfl⟩ := ru
  rw [ha] at ha'
  cases ha'
  generalize leds k = lk at hc hm up
  cases hc with
  | exc0 =>
    rename_i t
    obtain ⟨pre, post, N, i1, b, c, fin⟩ := up [] a (excO 51 t none) [] rfl
    obtain ⟨cdx, hcx, hmx, hdx⟩ := cd51 w
    exact exc_store R.fr (Γ.turn gr tn).X N (updF_of c b) X.set hcx hmx hdx X.msg fun dx h' tk' F' N' => out_same (Rel.of (g := gr) (t := tn) (fin _ (.exc 51 true) h' .exc1 F' N')) h
theorem codeM_false {M : Model} {A : Around} {c : Code} {R : Result → Shared → Prop} {s : Shared} (h : codeM false M A c R s) : codeAny M A c R s := fun Γ p hc hΓ => h Γ p hc hΓ (fun e => nomatch e)
/-- CorruptError(message): a new exception, all else as it was -/
theorem call_exc (X : Exc51 w) (I : ∀ s, Can w false 1 35 [.ref 0, .pure (.str s)] [.exc 51 false] (fun r c => r = .none' ∧ c = [.exc 51 true]) False) (hl : 2 ≤ lv) {α : List Addr} {F : Led} {h : Heap} {tk : Nat} {m val : PySem.Str → Option Value} {cvl : Led} {leds : Nat → Led}
    (R : Rel' Γ loc cells α F h m val cvl leds) {msg : PySem.Str} {u : Tok} {Q : Value → Shared → Prop} (hQ : ∀ e t od h' tk', (∀ b o, h.get? b = some o → h'.get? b = some o) → h.get? e = none → h'.get? e = some (excO 51 t od) → Q (.ref e) (Γ.st h' tk')) :
    wpAny (model PG w) Γ.A (call (.ref 51) [.str msg u]) Q E (Γ.st h tk) := by
  have XX : (KF w.params).In h := Γ.X.keeps R.fr.keep
  have B := Γ.hB Γ.h₀ .refl h m [] R.fr (fun p hp => absurd hp List.not_mem_nil)
  obtain ⟨nm, q, N, bs, hdct, sn, sub, ab, col, dd, k0, k1, k2, k3, k5, hl'⟩ := cls51 w
  refine wpAny_call (exc_make (h := h) PySem.F.excBase_Exception XX (by rfl) (by rfl) (by rfl) (XX _ _ hl') (by rw [sizeLine_eq]; show 1 ≤ _; omega) X.call X.typ X.init X.fn ?_)
  rw [under_make]
  have hk : ∀ b o, h.get? b = some o → ((h.push { cls := .type "tuple", data := .seq #[.str msg u] }).push (excO 51 h.objs.size none)).get? b = some o := fun b o e => Heap.get?_push_of_some _ (Heap.get?_push_of_some _ e)
  have hx : ((h.push { cls := .type "tuple", data := .seq #[.str msg u] }).push (excO 51 h.objs.size none)).get? (h.objs.size + 1) = some (excO 51 h.objs.size none) := Heap.get?_push_at (Heap.size_push ..).symm rfl
  have hn : h.get? (h.objs.size + 1) = none := Heap.get?_none_of_le (Nat.le_succ _)
  have hdp := Γ.hdp
  have hun := Γ.hun
  have e1 : ∀ p, p ∈ allL [AO.exc 51 false].length (fun _ => [(h.objs.size + 1, excO 51 h.objs.size none)]) → p = (h.objs.size + 1, excO 51 h.objs.size none) := fun p hp => List.mem_singleton.mp (by simpa [allL] using hp)
  refine codeM_false (codeM_mono (I msg Γ.mean Γ.mg Γ.mb (Γ.dp + 1) (Γ.un + 1) Γ.gd Γ.outA Γ.base h { Γ.s₀ with heap := (h.push { cls := .type "tuple", data := .seq #[.str msg u] }).push (excO 51 h.objs.size none), toks := tk } [.ref (h.objs.size + 1), .str msg u] [h.objs.size + 1] (fun _ => [(h.objs.size + 1, excO 51 h.objs.size none)]) (fun _ _ => False)
    ⟨rfl, B.stays, B.frames⟩ hk (by rw [Heap.size_push, Heap.size_push]; omega) Γ.Xb Γ.Tb (fun _ _ z => z.elim) (fun p hp => by rw [e1 p hp]; exact ⟨hx, hn⟩) (by simp [Dist, allL]) ⟨rfl, fun i o a ho ha => ?_⟩ ⟨⟨_, rfl, rfl⟩, .str, trivial⟩ (by omega) (by omega)) ?_)
  · have hi : i = 0 := by have := (List.getElem?_eq_some_iff.mp ho).1; simpa using this
    subst hi
    cases ho
    cases ha
    exact .exc0
  · rintro r s' (⟨g', v, x, L', m', h', tk', F', leds', α', cells', T', rfl, rfl, Fr', News', _, _, Pre', CR', ra, rfl, rfl⟩ | ⟨z, _⟩)
    · cases ra
      refine ⟨rfl, ?_⟩
      have hg : ∀ b o, h.get? b = some o → h'.get? b = some o := fun b o e => Fr'.keep b o (T'.other b o e List.not_mem_nil)
      have c0 := CR'.2 0 _ (h.objs.size + 1) rfl (Pre' 0 _ rfl)
      generalize hl : leds' 0 = l0 at c0
      cases c0 with
      | exc1 =>
        rename_i t d
        have z := (News' (h.objs.size + 1, excO 51 t (some d)) (List.mem_append_left _ (List.mem_flatMap.mpr ⟨0, by simp, by rw [hl]; exact .head _⟩))).1
        exact hQ _ t (some d) h' tk' hg hn z
    · exact z.elim
variable {κ : Bool} {Q : Fl → Loc → List AO → Prop} {rest : List Stmt} {err : Prop}
theorem raise_corrupt {A : Around} {env : Env} {s : Shared} {x : PySem.Expr} {pos : Pos} {Q : Flow → Shared → Prop} (hh : A.handled = none)
    (h : wpAny (model PG w) A (eval x env) (fun v s₁ => ∃ e t od, v = .ref e ∧ (KF w.params).In s₁.heap ∧ s₁.heap.get? e = some (excO 51 t od) ∧ E (.ref e) s₁) E s) :
    wpAny (model PG w) A (exec (.Raise (some x) none pos) env) Q E s := by
  obtain ⟨nm, q, N, bs, hdct, sn, sub, ab, col, dd, k0, k1, k2, k3, k5, hl⟩ := cls51 w
  exact raise_own (C := 51) (nm := nm) (q := q) (N := N) (bs := bs) (bm := [.ref 38, .type "Exception", .type "BaseException", .type "object"]) (hdct := hdct) (sn := sn) (sub := sub) (ab := ab) (col := col) (dd := dd) (k0 := k0) (k1 := k1) (k2 := k2) (k3 := k3) (k5 := k5) (newId := "Exception.__new__") rfl hh
    (wpAny_mono h (fun v s₁ ⟨e, t, od, a, X, b, c⟩ => ⟨e, t, od, a, X _ _ hl, b, c⟩) fun _ _ x => x)
/-- raise CorruptError(message) -/
theorem S_raise {x : PySem.Str} {p cpos pos : Pos} {msg : PySem.Expr} (X : Exc51 w) (I : ∀ s, Can w false 1 35 [.ref 0, .pure (.str s)] [.exc 51 false] (fun r c => r = .none' ∧ c = [.exc 51 true]) False) (hl : 2 ≤ lv) (hE : Rse Γ E err) (he : err)
    (hx : sc.names.lookup x = some .globalImplicit) (e : nsIn (KF w.params) mainGlobals x = some (some (.ref 51))) (hf : Plain w (.ref 51)) (hdb : (x == ("__debug__" : PySem.Str)) = false) (hp : (backTo cpos (starEach [msg] Γ.env)).any (·.1) = false)
    (h : TA Γ.down E cpos [msg] loc cells fun as _ => ∃ s, as = [.pure (.str s)]) : TSs Γ E (.Raise (some (.Call (.Name x p) [msg] [] cpos)) none pos :: rest) loc cells Q := by
  refine TSs_cons fun h₀ tk α F R => wpM_of_any (raise_corrupt rfl ?_)
  have R' := R
  obtain ⟨gr, tn, m, val, cvl, leds, R₀⟩ := R
  refine wpM_false (wpM_Call_Name (nameG_K R₀.fr (Γ.turn gr tn).X (topRead_of (Γ.turn gr tn).T) e (callWith_M (first := []) (P := fun h => (KF w.params).In h) hp (fun h X => hf.looks X) (wpM_idE (h h₀ tk α F R'.toDown) ?_)) rfl Γ.hk hx hdb))
  rintro vs s' ⟨h₁, tk₁, α₁, F₁, c₁, rfl, p₁, f₁, R₁, rs, ra, s, rfl⟩
  obtain ⟨gr, tn, m, val, cvl, leds, R₁⟩ := R₁
  obtain _ | ⟨v, _ | ⟨_, _⟩⟩ := vs <;> first | exact ra.elim | exact ra.2.elim | skip
  have rv := ra.1
  cases rv
  refine ⟨(Γ.turn gr tn).X.keeps R₁.fr.keep, wpM_of_any (call_exc (Γ := Γ.turn gr tn) X I hl (Rel'.ofDown (Γ := Γ.turn gr tn) R₁) fun e t od h' tk' k n g => ⟨e, t, od, rfl, (Γ.turn gr tn).X.keeps fun b o z => k b o (R₁.fr.keep b o z), g, hE.raise he gr tn e t od m h₁ h' tk' R₁.fr k n g⟩)⟩
/-- the parts of a message: words, whole numbers by name -/
inductive JP (sc : Scope) (loc : Loc) : PySem.Expr → Prop
  | str {s : PySem.Str} {n : Nat} {pos : Pos} : s.length ≤ 100 → JP sc loc (.Constant (.str s) n pos)
  | int {x : PySem.Str} {p pos : Pos} {i : Int} : sc.names.lookup x = some .local → loc.lookup x = some (.int i) → (x == ("__debug__" : PySem.Str)) = false → i.natAbs < 10 ^ 10 → JP sc loc (.FormattedValue (.Name x p) (-1) none pos)
theorem join_go {h : Heap} {α : List Addr} {F : Led} (R : Rel Γ loc cells α F h) {K : Value → Shared → Prop} (hK : ∀ s t tk, K (.str s t) (Γ.st h tk)) : ∀ (parts : List PySem.Expr) (out : PySem.Str) (tk : Nat), (∀ e ∈ parts, JP sc loc e) → out.length + 100 * parts.length ≤ sizeLine → wpAny (model PG w) Γ.A (joinParts out (evalEach parts Γ.env)) K E (Γ.st h tk)
  | [], out, tk, _, hz => joinParts_nil (hK _ _ _) (by simpa using hz)
  | e :: r, out, tk, hp, hz => by
    have hz' : out.length + 100 * (r.length + 1) ≤ sizeLine := hz
    have go : ∀ (y : PySem.Str) tk', y.length ≤ 100 → (out ++ y).length ≤ sizeLine ∧ wpAny (model PG w) Γ.A (joinParts (out ++ y) (evalEach r Γ.env)) K E (Γ.st h tk') := fun y tk' hy =>
      ⟨by rw [strLen_append]; omega, join_go R hK r (out ++ y) tk' (fun e he => hp e (.tail _ he)) (by rw [strLen_append]; omega)⟩
    show wpAny _ _ (joinParts out (eval e Γ.env :: evalEach r Γ.env)) _ _ _
    refine joinParts_cons ?_
    cases hp e (.head _) with
    | str hs => exact Constant_str (go _ _ hs)
    | int hx hl hd hi =>
      rename_i x p pos i
      obtain ⟨gr, tn, m, val, cvl, leds, R⟩ := R
      obtain ⟨u, h1, h2⟩ := R.lr x _ hl
      cases h2
      have z := int_text_length_le10 (k := 10) (by decide) hi
      refine FormattedValue_plain (nameC_local (Lc := Γ.L) R.fr ((R.lo x hx).trans h1) ?_ rfl Γ.hk hx hd)
      refine formatField_int_small ?_ ?_
      · by_cases h0 : i.natAbs = 0
        · rw [h0]; decide
        · exact (Nat.log2_lt h0).mpr (Nat.lt_trans hi (by decide))
      · refine go _ _ ?_
        show (Str.ofString (toString i)).length ≤ 100
        rw [PySem.ofString_length]; omega
theorem TE_Joined {e₁ e₂ : PySem.Expr} {r : List PySem.Expr} {pos : Pos} {Q : AV → List AO → Prop} (hp : ∀ e ∈ e₁ :: e₂ :: r, JP sc loc e) (hz : r.length ≤ 20) (h : ∀ s, Q (.pure (.str s)) cells) : TE Γ E (.JoinedStr (e₁ :: e₂ :: r) pos) loc cells Q := fun h₀ tk α F R =>
  wpM_of_any (JoinedStr_many (join_go R (fun s t tk => out_same R ⟨.pure (.str s), VR.str, h s⟩) _ _ _ hp (by
    show Str.empty.length + 100 * (r.length + 1 + 1) ≤ sizeLine
    have : Str.empty.length = 0 := rfl
    rw [this, sizeLine_eq]; omega)))
end
end
section
section
variable {κ : Bool} {prog : Program} {w : World} {A : Around} {E : Value → Shared → Prop} {s : Shared} {env : Env}
theorem wpM_Try {body orelse : List Stmt} {h₀ : ExceptHandler} {hs : List ExceptHandler} {pos : Pos} {Q : Flow → Shared → Prop}
    (h : wpM κ (model prog w) A (execs body env) (fun f s₁ => match f with | .next => wpM κ (model prog w) A (execs orelse env) Q E s₁ | f => Q f s₁)
      (fun e s₁ => wpAny (model prog w) A (noteFrame e env) (fun _ s₂ => wpAny (model prog w) A (setFlight e none) (fun _ s₃ => wpAny (model prog w) A (handleBy e env (h₀ :: hs)) Q E s₃) E s₂) E s₁) s) :
    wpM κ (model prog w) A (exec (.Try body (h₀ :: hs) orelse [] pos) env) Q E s := by
  rw [arm_exec_Try]
  refine wpM_bind (wpM_standAt ?_)
  unfold tryStmt
  simp only [List.isEmpty_nil, if_true, List.isEmpty_cons, Bool.false_and, Bool.false_eq_true, if_false]
  refine wpM_bind (wpM_attempt (wpM_mono h (fun f s₁ h₁ => ?_) fun e s₁ h₁ => ?_))
  · cases f <;> first | exact h₁ | exact wpM_pure h₁
  · exact wpM_of_any (wpAny_bind (wpAny_mono h₁ (fun _ _ h₂ => wpAny_bind h₂) fun _ _ x => x))
end
section
variable {w : World} {κ : Bool} {sc : Scope} {lv : Nat} {Γ : Cx w κ sc lv} {E : Value → Shared → Prop} {loc : Loc} {cells : List AO} {Q : Fl → Loc → List AO → Prop} {outer : List Env}
/-- try: .. except CorruptError: return None, in a function that was handed no mutable thing -/
theorem TS_Try {body : List Stmt} {x : PySem.Str} {np hpos rpos cpos pos : Pos} {n : Nat} (o : Own Γ outer) (hz : Γ.α₀.length ≤ 0) (hx : sc.names.lookup x = some .globalImplicit) (ex : nsIn (KF w.params) mainGlobals x = some (some (.ref 51)))
    (q51 : ktsIn (KF w.params) 51 "BaseException" = true) (hdb : (x == ("__debug__" : PySem.Str)) = false) {err : Prop} (h : ∀ E', Esc Γ E' err → TSs Γ E' body loc cells Q) (hret : err → Q (.ret .none') [] []) :
    TS Γ E (.Try body [.ExceptHandler (some (.Name x np)) none [.Return (some (.Constant .none n cpos)) rpos] hpos] [] [] pos) loc cells Q := by
  intro h₀ tk₀ α F R
  refine wpM_Try (wpM_mono (h _ ⟨fun he gr tn e h' tk' G m FG Rz U => ?_⟩ h₀ tk₀ α F R) (fun f s' ho => ?_) fun _ _ z => z)
  · obtain ⟨B, a0, hB, hBG, hfl⟩ := Rz
    rw [o.out] at hBG hfl
    have hA : Γ.A.frames = some (Γ.env :: outer) := congrArg some o.out
    have efr : framesOf (Γ.env :: outer) = Γ.L :: framesOf outer := by
      unfold framesOf
      rw [List.filterMap_cons, show Γ.env.frame = some Γ.L from o.fr]
    have hBG' : ∀ b o, G.get? b = some o → b ∉ (envOf Str.empty sc Γ.L 0 .none :: outer).filterMap (·.frame) → B.get? b = some o := fun b o e hm => hBG b o e (by rw [efr]; exact hm)
    have K := o.below gr tn
    refine wpAny_looks_onW hA o.fr hfl fun h₄ hheld₄ hsm₄ => ?_
    refine wpAny_landsW hheld₄ fun h₅ hheld hsm₅' => ?_
    have hsm₅ := hsm₄.trans hsm₅'
    obtain ⟨g₅, T₅, F₅, K₅⟩ := kts_ground K FG hBG' hheld.1 (U.trans hsm₅)
    have X₅ : (KF w.params).In g₅ := Γ.Xb.keeps K₅.stays
    have P₅ : TopRead PV LS Γ.mg Γ.mb g₅ := topRead_of (Γ.Tb.keeps K₅.stays)
    obtain ⟨ob, hob, hobc⟩ := hheld.there
    obtain ⟨nm, q', N, bs, bm, hdct, sn, sub, ab, col, dd, k0, k1, k2, k3, k5, newId, hC, hbase, hbT⟩ := kts_cls X₅ q51
    have hC₅ := F₅.keep _ _ hC
    refine wpAny_handleBy_cons (codeAny_handlers_test (nameG_K F₅ X₅ P₅ ex ?_ rfl Γ.hk hx hdb)) (by intro q; cases q)
    refine wpAny_excMatches_sub_self hC₅ hob hobc hbase (codeAny_handlers_suite ?_)
    refine lands_againW hheld fun h₆ hfl₆ hsm₆ => ?_
    obtain ⟨g₆, T₆, F₆, K₆⟩ := kts_ground K FG hBG' hfl₆.1 ((U.trans hsm₅).trans hsm₆)
    refine wpAny_execs_cons ?_
    rw [exec_Return_some]
    refine wpAny_bind (wpAny_standAt (wpAny_bind (wpAny_Constant_none (wpAny_pure ?_))))
    have T' : KtsTurn Γ.fs gr g₆ := by rw [o.fs]; exact T₆
    have a0 : Γ.α₀ = [] := List.eq_nil_of_length_eq_zero (Nat.le_zero.mp hz)
    refine ⟨h₆, _, [], [], [], [], .ret .none', rfl, trivial, ⟨g₆, tn.trans T', m, m, [], fun _ => [], ⟨F₆, fun p hp => absurd hp List.not_mem_nil, List.Pairwise.nil, fun _ hp => absurd hp List.not_mem_nil, ⟨rfl, fun i o a e => by cases e⟩, fun x c e => ?_, fun _ _ => rfl, fun x v e => (nomatch e), ?_⟩⟩, ⟨_, rfl, .none⟩, hret he⟩
    · rw [show (Γ.turn g₆ (tn.trans T')).cl = [] from o.cl] at e; cases e
    · show Pre Γ.α₀ []
      rw [a0]; exact .rfl
  · have ho' := ho
    obtain ⟨h', tk', α', F', l, c, fl, rfl, kp, R', rf, q⟩ := ho
    cases fl with
    | next => cases rf; exact wpM_execs_nil ho'
    | brk => cases rf; exact ho'
    | cont => cases rf; exact ho'
    | ret v => obtain ⟨u, rfl, ra⟩ := rf; exact ho'
end
end
section
theorem wpM_clean {α : Type} {M : Model} {A : Around} {t : Sem α} {Q : α → Shared → Prop} {E : Value → Shared → Prop} {s : Shared} (h : wpC M A t Q E s) : wpM true M A t Q E s := fun Γ p hΓ hc hb => h Γ p hΓ (hc rfl) (hb rfl)
section
variable {w : World} {sc : Scope} {lv : Nat} {Γ : Cx w true sc lv} {E : Value → Shared → Prop} {loc : Loc} {cells : List AO} {Q : AV → List AO → Prop}
theorem oc_bytearray_int {z : Int} (h0 : 0 < z) (hz : z ≤ 1000) (h : Q (.ref cells.length) (cells ++ [.ba (List.replicate z.toNat 0)])) : OC Γ E (.type "bytearray") [.int z] loc cells Q := by
  rintro h₀ tk α F vs ⟨gr, tn, m, val, cvl, leds, R⟩ va
  obtain _ | ⟨v, _ | ⟨_, _⟩⟩ := vs <;> first | exact va.elim | exact va.2.elim | skip
  have rv := va.1
  cases rv
  refine wpM_clean (ba_new_int (s := Γ.st h₀ tk) R.fr R.news h0 hz fun D b h' F' N' lt e => ?_)
  rw [← e] at h
  exact out_cell (.of (g := gr) (t := tn) (R.made F' N' lt .ba)) ⟨_, ref_snoc R, h⟩
theorem oc_bytearray_bytes {l : List Int} (hz : l.length ≤ 100000) (h : Q (.ref cells.length) (cells ++ [.ba l])) : OC Γ E (.type "bytearray") [.pure (.bytes l)] loc cells Q := by
  rintro h₀ tk α F vs ⟨gr, tn, m, val, cvl, leds, R⟩ va
  obtain _ | ⟨v, _ | ⟨_, _⟩⟩ := vs <;> first | exact va.elim | exact va.2.elim | skip
  have rv := va.1
  cases rv with
  | bytes =>
    rename_i b t
    have e : b.size ≤ 1000000 := by
      have : (KBw.bInts b).length = b.size := by simp [KBw.bInts]
      omega
    exact wpM_clean (ba_new_bytes (s := Γ.st h₀ tk) R.fr R.news e fun D h' F' N' lt => out_cell (.of (g := gr) (t := tn) (R.made F' N' lt .ba)) ⟨_, ref_snoc R, h⟩)
end
section
variable {w : World} {κ : Bool} {sc : Scope} {lv : Nat} {Γ : Cx w κ sc lv} {E : Value → Shared → Prop} {loc : Loc} {cells : List AO} {Q : AV → List AO → Prop}
theorem TB_te {e : PySem.Expr} {Q : Bool → List AO → Prop} (h : TE Γ E e loc cells fun a c₁ => OT Γ E a loc c₁ Q) (he : isTrue e Γ.env (eval e Γ.env) = (do let v ← eval e Γ.env; standAt e.pos; holding [v] (truthy v))) : TB Γ E e (eval e Γ.env) loc cells Q := TB_plain h he
theorem op_ne {i j : Int} (h : Q (.pure (.bool (i != j))) cells) : O2 Γ E (compareOp .NotEq) (.int i) (.int j) loc cells Q := by
  intro h₀ tk α F u v R ra rb; cases ra; cases rb
  exact PyProof.Rows.ne_int (out_same R ⟨.pure (.bool _), VR.bool, h⟩)
/-- an empty dict, that nobody looks at -/
theorem TE_Dict0 {pos : Pos} (h : Q (.pure .junk) cells) : TE Γ E (.Dict [] [] pos) loc cells Q := by
  rintro h₀ tk α F ⟨gr, tn, m, val, cvl, leds, R⟩
  refine wpM_of_any (wpAny_Dict_empty ?_)
  exact out_same ⟨gr, tn, m, val, cvl, leds, { R with fr := R.fr.push _, news := fun p hp => ⟨Heap.get?_push_of_some _ (R.news p hp).1, (R.news p hp).2⟩ }⟩ ⟨.pure .junk, VR.junk, h⟩
end
theorem if_ne {i j : Int} {A B : Prop} (h1 : i ≠ j → A) (h2 : i = j → B) : if (i != j) = true then A else B := by
  by_cases h : i = j
  · rw [if_neg (by simpa using h)]; exact h2 h
  · rw [if_pos (by simpa using h)]; exact h1 h
end
theorem fill : PySem.Challenge.rw_xm0765_01 = PySem.Challenge.rw_xm0765_01 ∧ KF = KF := by
  k_fill
  exact ⟨rfl, rfl⟩
section
theorem take_f (w : World) (a b top : Int) (h0 : 0 < top) (h1 : top < 1000) (ha : 0 ≤ a) (hb : 0 ≤ b) :
    Can w false 1 651 [.ref 0, .int top] [.list [.int a, .int b]] (fun r c => ∃ z a' b', r = .int z ∧ 0 ≤ z ∧ z < top ∧ 0 ≤ a' ∧ 0 ≤ b' ∧ c = [.list [.int a', .int b']]) False := by
  refine' enterF (names := [Str.ofString "source", Str.ofString "top"]) ?ho ?hcd ?hb ?hl ?hn ?hlen ?h1 ?h2 ?h3 ?h4 ?h5 ?_
  case ho => k_is
  case hcd => k_is
  case hl => decide
  case hn => decide
  case hlen => rfl
  case h1 => rfl
  case h2 => rfl
  case h3 => rfl
  case h4 => decide
  case h5 => decide
  case hb => exact bind2 fun _ _ _ => BindsTo.of_eq rfl
  intro Γ E hE hP hα
  clear hα
  refine S_if ?_
  refine TB_hide fun K hK => ?_
  refine TB_Compare ?_ rfl
  refine TE_Sub ?_
  refine TE_local rfl rfl rfl ?_
  refine TE_int ?_
  refine op_item (by exact .ref rfl) (of_decide_eq_true rfl) (of_decide_eq_true rfl) (of_decide_eq_true rfl) ?_ (fun _ _ => rfl)
  refine TE_int ?_
  refine op_gt ?_
  refine OT_bool ?_
  refine hK _ _ ?_
  refine if_dec (fun hp => ?_) (fun hp => ?_)
  · with_unfolding_all refine S_assign (.inl rfl) rfl ?_
    refine TE_hide fun K hK => ?_
    refine TE_BinOp ?_
    refine TE_callB (by rfl) (by k_is) boot_int' (by decide) (by rfl) .type (by rfl) ?_
    refine TA_cons ?_ rfl
    refine TE_Sub ?_
    refine TE_local rfl rfl rfl ?_
    refine TE_int ?_
    refine op_item (by exact .ref rfl) (of_decide_eq_true rfl) (of_decide_eq_true rfl) (of_decide_eq_true rfl) ?_ (fun _ _ => rfl)
    refine TA_nil ?_
    refine oc_int ?_
    refine TE_local rfl rfl rfl ?_
    refine op_mod (by assumption) ?_
    refine hK _ _ ?_
    with_unfolding_all refine S_sub rfl ?_
    refine TE_BinOp ?_
    refine TE_Sub ?_
    refine TE_local rfl rfl rfl ?_
    refine TE_int ?_
    refine op_item (by exact .ref rfl) (of_decide_eq_true rfl) (of_decide_eq_true rfl) (of_decide_eq_true rfl) ?_ (fun _ _ => rfl)
    refine TE_local rfl rfl rfl ?_
    refine op_div (by assumption) (by omega) ?_
    refine TE_local rfl rfl rfl ?_
    refine TE_int ?_
    refine os_list (by rfl) (of_decide_eq_true rfl) (of_decide_eq_true rfl) (of_decide_eq_true rfl) ?_
    refine S_ret ?_
    refine TE_hide fun K hK => ?_
    refine TE_local rfl rfl rfl ?_
    refine hK _ _ ?_
    refine seq_ret ?_
    exact .same ⟨_, _, _, rfl, Int.emod_nonneg _ (Int.ne_of_gt h0), Int.emod_lt_of_pos _ h0, Int.ediv_nonneg ha (Int.le_of_lt h0), hb, rfl⟩
  · refine TSs_nil ?_
    refine seq_next ?_
    with_unfolding_all refine S_sub rfl ?_
    refine TE_BinOp ?_
    refine TE_callB (by rfl) (by k_is) boot_int' (by decide) (by rfl) .type (by rfl) ?_
    refine TA_cons ?_ rfl
    refine TE_BinOp ?_
    refine TE_BinOp ?_
    refine TE_Sub ?_
    refine TE_local rfl rfl rfl ?_
    refine TE_int ?_
    refine op_item (by exact .ref rfl) (of_decide_eq_true rfl) (of_decide_eq_true rfl) (of_decide_eq_true rfl) ?_ (fun _ _ => rfl)
    refine TE_int ?_
    refine op_mul (by omega) ?_
    refine TE_int ?_
    refine op_add ?_
    refine TA_nil ?_
    refine oc_int ?_
    refine TE_int ?_
    refine op_mod (of_decide_eq_true rfl) ?_
    refine TE_local rfl rfl rfl ?_
    refine TE_int ?_
    refine os_list (by rfl) (of_decide_eq_true rfl) (of_decide_eq_true rfl) (of_decide_eq_true rfl) ?_
    refine S_ret ?_
    refine TE_hide fun K hK => ?_
    refine TE_BinOp ?_
    refine TE_callB (by rfl) (by k_is) boot_int' (by decide) (by rfl) .type (by rfl) ?_
    refine TA_cons ?_ rfl
    refine TE_BinOp ?_
    refine TE_BinOp ?_
    refine TE_callB (by rfl) (by k_is) boot_int' (by decide) (by rfl) .type (by rfl) ?_
    refine TA_cons ?_ rfl
    refine TE_BinOp ?_
    refine TE_Sub ?_
    refine TE_local rfl rfl rfl ?_
    refine TE_int ?_
    refine op_item (by exact .ref rfl) (of_decide_eq_true rfl) (of_decide_eq_true rfl) (of_decide_eq_true rfl) ?_ (fun _ _ => rfl)
    refine TE_Sub ?_
    refine TE_local rfl rfl rfl ?_
    refine TE_int ?_
    refine op_item (by exact .ref rfl) (of_decide_eq_true rfl) (of_decide_eq_true rfl) (of_decide_eq_true rfl) ?_ (fun _ _ => rfl)
    refine op_mul (by omega) ?_
    refine TA_nil ?_
    refine oc_int ?_
    refine TE_int ?_
    refine op_mod (of_decide_eq_true rfl) ?_
    refine TE_int ?_
    refine op_div (of_decide_eq_true rfl) (of_decide_eq_true rfl) ?_
    refine TA_nil ?_
    refine oc_int ?_
    refine TE_local rfl rfl rfl ?_
    refine op_mod (by assumption) ?_
    refine hK _ _ ?_
    exact .same ⟨_, _, _, rfl, Int.emod_nonneg _ (Int.ne_of_gt h0), Int.emod_lt_of_pos _ h0, ha, Int.emod_nonneg _ (by decide), rfl⟩
theorem four_in' {k : Int} (h0 : 0 ≤ k) (h1 : k < 65536) : ∀ n ∈ [0, 0, k / 256, k % 256], 0 ≤ n ∧ n < 256 := by
  intro n hn
  simp only [List.mem_cons, List.not_mem_nil, or_false] at hn
  omega
theorem four_f (w : World) (k : Int) (h0 : 0 ≤ k) (h1 : k < 65536) : Can w false 1 665 [.int k] [] (fun r c => r = .pure (.bytes [0, 0, k / 256, k % 256]) ∧ c = []) False := by
  refine' enterF (names := [Str.ofString "number"]) ?ho ?hcd ?hb ?hl ?hn ?hlen ?h1 ?h2 ?h3 ?h4 ?h5 ?_
  case ho => k_is
  case hcd => k_is
  case hl => decide
  case hn => decide
  case hlen => rfl
  case h1 => rfl
  case h2 => rfl
  case h3 => rfl
  case h4 => decide
  case h5 => decide
  case hb => exact bind1 fun _ _ => BindsTo.of_eq rfl
  intro Γ E hE hP hα
  clear hα
  refine S_ret ?_
  refine TE_hide fun K hK => ?_
  refine TE_callB (by rfl) (by k_is) boot_bytes' (by decide) (by rfl) .type (by rfl) ?_
  refine TA_cons ?_ rfl
  refine TE_ListP ?_
  refine TA_cons ?_ rfl
  refine TE_int ?_
  refine TA_cons ?_ rfl
  refine TE_int ?_
  refine TA_cons ?_ rfl
  refine TE_BinOp ?_
  refine TE_local rfl rfl rfl ?_
  refine TE_int ?_
  refine op_div (of_decide_eq_true rfl) (of_decide_eq_true rfl) ?_
  refine TA_cons ?_ rfl
  refine TE_BinOp ?_
  refine TE_local rfl rfl rfl ?_
  refine TE_int ?_
  refine op_mod (of_decide_eq_true rfl) ?_
  refine TA_nil ?_
  refine ⟨rfl, of_decide_eq_true rfl, ?_⟩
  refine TA_nil ?_
  refine oc_bytes_list (ns := [0, 0, k / 256, k % 256]) (four_in' h0 h1) (of_decide_eq_true rfl) ?_
  refine hK _ _ ?_
  exact .same ⟨rfl, rfl⟩
theorem one_f (w : World) (a b : Int) (ds : List D) (h0 : 0 < ds.length) (h1 : ds.length < 1000) (ha : 0 ≤ a) (hb : 0 ≤ b) :
    Can w false 2 658 [.ref 0, .pure (.list ds)] [.list [.int a, .int b]] (fun r c => ∃ (i : Nat) (a' b' : Int), i < ds.length ∧ r = .pure (ds.getD i .none) ∧ 0 ≤ a' ∧ 0 ≤ b' ∧ c = [.list [.int a', .int b']]) False := by
  refine' enterF (names := [Str.ofString "source", Str.ofString "things"]) ?ho ?hcd ?hb ?hl ?hn ?hlen ?h1 ?h2 ?h3 ?h4 ?h5 ?_
  case ho => k_is
  case hcd => k_is
  case hl => decide
  case hn => decide
  case hlen => rfl
  case h1 => rfl
  case h2 => rfl
  case h3 => rfl
  case h4 => decide
  case h5 => decide
  case hb => exact bind2 fun _ _ _ => BindsTo.of_eq rfl
  intro Γ E hE hP hα
  clear hα
  refine S_ret ?_
  refine TE_hide fun K hK => ?_
  refine TE_Sub ?_
  refine TE_local rfl rfl rfl ?_
  refine TE_callK (by rfl) (by k_is) (by rfl) (.own (by k_is)) (by rfl) ?_
  refine TA_cons ?_ rfl
  refine TE_local rfl rfl rfl ?_
  refine TA_cons ?_ rfl
  refine TE_callB (by rfl) (by k_is) boot_len' (by decide) (by rfl) .blt (by rfl) ?_
  refine TA_cons ?_ rfl
  refine TE_local rfl rfl rfl ?_
  refine TA_nil ?_
  refine oc_len (by exact .pure) (by omega) ?_
  refine TA_nil ?_
  refine OC_can (take_f w a b _ (by omega) (by omega) ha hb) [0] (.inl rfl) (by decide) (fun h => h.elim) rfl rfl ⟨by decide, rfl, rfl⟩ ?_
  rintro r c ⟨z, a', b', rfl, z0, z1, ha', hb', rfl⟩ -
  refine op_item (by exact .pure) (by assumption) (by assumption) (by omega) ?_ (fun _ _ => rfl)
  refine hK _ _ ?_
  exact .same ⟨_, _, _, by omega, rfl, ha', hb', rfl⟩
end
section
noncomputable abbrev nodeC (p u b : Int) (ks : List Int) : List AO := [.inst 572 [("data", .ref 1), ("page", .int p), ("usable", .int u), ("base", .int b)], .ba ks]
theorem two_f (w : World) (ks : List Int) (i : Int) (h0 : 0 ≤ i) (h1 : i + 1 < (ks.length : Int)) (hz : ks.length ≤ 1000) : Can w false 1 101 [.ref 0, .int i] [.ba ks] (fun r c => r = .int (two ks i.toNat) ∧ c = [.ba ks]) False := by
  refine' enterF (names := [Str.ofString "octets", Str.ofString "at"]) ?ho ?hcd ?hb ?hl ?hn ?hlen ?h1 ?h2 ?h3 ?h4 ?h5 ?_
  case ho => k_is
  case hcd => k_is
  case hl => decide
  case hn => decide
  case hlen => rfl
  case h1 => rfl
  case h2 => rfl
  case h3 => rfl
  case h4 => decide
  case h5 => decide
  case hb => exact bind2 fun _ _ _ => BindsTo.of_eq rfl
  intro Γ E hE hP hα
  clear hα
  refine S_ret ?_
  refine TE_hide fun K hK => ?_
  refine TE_BinOp ?_
  refine TE_BinOp ?_
  refine TE_Sub ?_
  refine TE_local rfl rfl rfl ?_
  refine TE_local rfl rfl rfl ?_
  refine op_baItem (by rfl) (by assumption) (by omega) (by assumption) (fun _ _ => ?_) (fun _ _ => rfl)
  refine TE_int ?_
  refine op_mul (by omega) ?_
  refine TE_Sub ?_
  refine TE_local rfl rfl rfl ?_
  refine TE_BinOp ?_
  refine TE_local rfl rfl rfl ?_
  refine TE_int ?_
  refine op_add ?_
  refine op_baItem (by rfl) (by omega) (by assumption) (by assumption) (fun _ _ => ?_) (fun _ _ => rfl)
  refine op_add ?_
  refine hK _ _ ?_
  exact .same ⟨by rw [show (i + 1).toNat = i.toNat + 1 by omega]; rfl, rfl⟩
theorem kind_f (w : World) (p u b : Int) (ks : List Int) (h0 : 0 ≤ b) (h1 : b < (ks.length : Int)) (hz : ks.length ≤ 1000) (hk : ks.getD b.toNat 0 = 2 ∨ ks.getD b.toNat 0 = 5 ∨ ks.getD b.toNat 0 = 10 ∨ ks.getD b.toNat 0 = 13) :
    Can w false 1 227 [.ref 0] (nodeC p u b ks) (fun r c => r = .int (ks.getD b.toNat 0) ∧ c = nodeC p u b ks) False := by
  refine' enterF (names := [Str.ofString "self"]) ?ho ?hcd ?hb ?hl ?hn ?hlen ?h1 ?h2 ?h3 ?h4 ?h5 ?_
  case ho => k_is
  case hcd => k_is
  case hl => decide
  case hn => decide
  case hlen => rfl
  case h1 => rfl
  case h2 => rfl
  case h3 => rfl
  case h4 => decide
  case h5 => decide
  case hb => exact bind1 fun _ _ => BindsTo.of_eq rfl
  intro Γ E hE hP hα
  clear hα
  with_unfolding_all refine S_assign (.inl rfl) rfl ?_
  refine TE_hide fun K hK => ?_
  refine TE_Sub ?_
  refine TE_Attr ?_ rfl
  refine TE_local rfl rfl rfl ?_
  refine op_attr (by rfl) ⟨by k_is, by k_is, by k_is⟩ (by rfl) (by rfl) ?_
  refine TE_Attr ?_ rfl
  refine TE_local rfl rfl rfl ?_
  refine op_attr (by rfl) ⟨by k_is, by k_is, by k_is⟩ (by rfl) (by rfl) ?_
  refine op_baItem (by rfl) (by assumption) (by assumption) (by assumption) (fun _ _ => ?_) (fun _ _ => rfl)
  refine hK _ _ ?_
  refine S_if ?_
  refine TB_hide fun K hK => ?_
  refine TB_Compare ?_ rfl
  refine TE_local rfl rfl rfl ?_
  refine TE_glob (v := .stat _) rfl ⟨_, by k_is, rfl⟩ rfl ?_
  refine op_notin_top (by k_is) (.cons _ _ (.cons _ _ (.cons _ _ (.cons _ _ .nil)))) ?_
  refine OT_bool ?_
  refine hK _ _ ?_
  have e : ([2, 5, 10, 13].any (· == ks.getD b.toNat 0)) = true := by rcases hk with e | e | e | e <;> rw [e] <;> rfl
  rw [e]
  refine if_f ?_
  refine TSs_nil ?_
  refine seq_next ?_
  refine S_ret ?_
  refine TE_hide fun K hK => ?_
  refine TE_local rfl rfl rfl ?_
  refine hK _ _ ?_
  exact .same ⟨rfl, rfl⟩
theorem is_leaf_f (w : World) (k : Int) : Can w false 1 136 [.int k] [] (fun r c => r = .pure (.bool (decide (k = 13 ∨ k = 10))) ∧ c = []) False := by
  refine' enterF (names := [Str.ofString "kind"]) ?ho ?hcd ?hb ?hl ?hn ?hlen ?h1 ?h2 ?h3 ?h4 ?h5 ?_
  case ho => k_is
  case hcd => k_is
  case hl => decide
  case hn => decide
  case hlen => rfl
  case h1 => rfl
  case h2 => rfl
  case h3 => rfl
  case h4 => decide
  case h5 => decide
  case hb => exact bind1 fun _ _ => BindsTo.of_eq rfl
  intro Γ E hE hP hα
  clear hα
  refine S_ret ?_
  refine TE_Or ?_
  refine TE_Compare ?_ rfl
  refine TE_local rfl rfl rfl ?_
  refine TE_glob (v := .pure (.int _)) rfl ⟨_, by k_is, .int⟩ rfl ?_
  refine op_eq ?_
  refine OT_bool ?_
  refine if_eq (fun hp => ?_) (fun hp => ?_)
  · exact .same ⟨by subst hp; rfl, rfl⟩
  · refine TE_Or1 ?_
    refine TE_Compare ?_ rfl
    refine TE_local rfl rfl rfl ?_
    refine TE_glob (v := .pure (.int _)) rfl ⟨_, by k_is, .int⟩ rfl ?_
    refine op_eq ?_
    exact .same ⟨by rw [show decide (k = 13 ∨ k = 10) = (k == 10) from by by_cases e : k = 10 <;> simp [e, hp]]; rfl, rfl⟩
theorem four_at_f (w : World) (ks : List Int) (i : Int) (h0 : 0 ≤ i) (h1 : i + 3 < (ks.length : Int)) (hz : ks.length ≤ 1000) : Can w false 2 108 [.ref 0, .int i] [.ba ks] (fun r c => r = .int (four ks i.toNat) ∧ c = [.ba ks]) False := by
  refine' enterF (names := [Str.ofString "octets", Str.ofString "at"]) ?ho ?hcd ?hb ?hl ?hn ?hlen ?h1 ?h2 ?h3 ?h4 ?h5 ?_
  case ho => k_is
  case hcd => k_is
  case hl => decide
  case hn => decide
  case hlen => rfl
  case h1 => rfl
  case h2 => rfl
  case h3 => rfl
  case h4 => decide
  case h5 => decide
  case hb => exact bind2 fun _ _ _ => BindsTo.of_eq rfl
  intro Γ E hE hP hα
  clear hα
  refine S_ret ?_
  refine TE_hide fun K hK => ?_
  refine TE_BinOp ?_
  refine TE_BinOp ?_
  refine TE_callK (by rfl) (by k_is) (by rfl) (.own (by k_is)) (by rfl) ?_
  refine TA_cons ?_ rfl
  refine TE_local rfl rfl rfl ?_
  refine TA_cons ?_ rfl
  refine TE_local rfl rfl rfl ?_
  refine TA_nil ?_
  refine OC_can (two_f w ks _ (by omega) (by omega) hz) [0] (.inl rfl) (by decide) (fun h => h.elim) rfl rfl ⟨by decide, rfl, rfl⟩ ?_
  rintro r c ⟨rfl, rfl⟩ -
  refine TE_int ?_
  refine op_mul (by omega) ?_
  refine TE_callK (by rfl) (by k_is) (by rfl) (.own (by k_is)) (by rfl) ?_
  refine TA_cons ?_ rfl
  refine TE_local rfl rfl rfl ?_
  refine TA_cons ?_ rfl
  refine TE_BinOp ?_
  refine TE_local rfl rfl rfl ?_
  refine TE_int ?_
  refine op_add ?_
  refine TA_nil ?_
  refine OC_can (two_f w ks _ (by omega) (by omega) hz) [0] (.inl rfl) (by decide) (fun h => h.elim) rfl rfl ⟨by decide, rfl, rfl⟩ ?_
  rintro r c ⟨rfl, rfl⟩ -
  refine op_add ?_
  refine hK _ _ ?_
  exact .same ⟨by rw [show (i + 2).toNat = i.toNat + 2 by omega]; rfl, rfl⟩
theorem count_f (w : World) (p u b : Int) (ks : List Int) (h0 : 0 ≤ b) (h1 : b + 4 < (ks.length : Int)) (hz : ks.length ≤ 1000) :
    Can w false 2 248 [.ref 0] (nodeC p u b ks) (fun r c => r = .int (two ks (b + 3).toNat) ∧ c = nodeC p u b ks) False := by
  refine' enterF (names := [Str.ofString "self"]) ?ho ?hcd ?hb ?hl ?hn ?hlen ?h1 ?h2 ?h3 ?h4 ?h5 ?_
  case ho => k_is
  case hcd => k_is
  case hl => decide
  case hn => decide
  case hlen => rfl
  case h1 => rfl
  case h2 => rfl
  case h3 => rfl
  case h4 => decide
  case h5 => decide
  case hb => exact bind1 fun _ _ => BindsTo.of_eq rfl
  intro Γ E hE hP hα
  clear hα
  refine S_ret ?_
  refine TE_hide fun K hK => ?_
  refine TE_callK (by rfl) (by k_is) (by rfl) (.own (by k_is)) (by rfl) ?_
  refine TA_cons ?_ rfl
  refine TE_Attr ?_ rfl
  refine TE_local rfl rfl rfl ?_
  refine op_attr (by rfl) ⟨by k_is, by k_is, by k_is⟩ (by rfl) (by rfl) ?_
  refine TA_cons ?_ rfl
  refine TE_BinOp ?_
  refine TE_Attr ?_ rfl
  refine TE_local rfl rfl rfl ?_
  refine op_attr (by rfl) ⟨by k_is, by k_is, by k_is⟩ (by rfl) (by rfl) ?_
  refine TE_int ?_
  refine op_add ?_
  refine TA_nil ?_
  refine OC_can (two_f w ks _ (by omega) (by omega) hz) [1] (.inl rfl) (by decide) (fun h => h.elim) rfl rfl ⟨by decide, rfl, rfl⟩ ?_
  rintro r c ⟨rfl, rfl⟩ -
  refine hK _ _ ?_
  exact .same ⟨rfl, rfl⟩
theorem pointers_f (w : World) (p u b : Int) (ks : List Int) (h0 : 0 ≤ b) (h1 : b < (ks.length : Int)) (hz : ks.length ≤ 1000) (hk : ks.getD b.toNat 0 ≤ 5) :
    Can w false 2 255 [.ref 0] (nodeC p u b ks) (fun r c => r = .int (b + 12) ∧ c = nodeC p u b ks) False := by
  refine' enterF (names := [Str.ofString "self"]) ?ho ?hcd ?hb ?hl ?hn ?hlen ?h1 ?h2 ?h3 ?h4 ?h5 ?_
  case ho => k_is
  case hcd => k_is
  case hl => decide
  case hn => decide
  case hlen => rfl
  case h1 => rfl
  case h2 => rfl
  case h3 => rfl
  case h4 => decide
  case h5 => decide
  case hb => exact bind1 fun _ _ => BindsTo.of_eq rfl
  intro Γ E hE hP hα
  clear hα
  refine S_if ?_
  refine TB_hide fun K hK => ?_
  refine TB_Compare ?_ rfl
  refine TE_Sub ?_
  refine TE_Attr ?_ rfl
  refine TE_local rfl rfl rfl ?_
  refine op_attr (by rfl) ⟨by k_is, by k_is, by k_is⟩ (by rfl) (by rfl) ?_
  refine TE_Attr ?_ rfl
  refine TE_local rfl rfl rfl ?_
  refine op_attr (by rfl) ⟨by k_is, by k_is, by k_is⟩ (by rfl) (by rfl) ?_
  refine op_baItem (by rfl) (by assumption) (by assumption) (by assumption) (fun _ _ => ?_) (fun _ _ => rfl)
  refine TE_glob (v := .pure (.int _)) rfl ⟨_, by k_is, .int⟩ rfl ?_
  refine op_gt ?_
  refine OT_bool ?_
  refine hK _ _ ?_
  refine if_dec (c := 5 < ks.getD b.toNat 0) (fun hp => ?_) (fun hp => ?_)
  · exfalso; omega
  refine TSs_nil ?_
  refine seq_next ?_
  refine S_ret ?_
  refine TE_hide fun K hK => ?_
  refine TE_BinOp ?_
  refine TE_Attr ?_ rfl
  refine TE_local rfl rfl rfl ?_
  refine op_attr (by rfl) ⟨by k_is, by k_is, by k_is⟩ (by rfl) (by rfl) ?_
  refine TE_int ?_
  refine op_add ?_
  refine hK _ _ ?_
  exact .same ⟨rfl, rfl⟩
theorem right_f (w : World) (p u b : Int) (ks : List Int) (h0 : 0 ≤ b) (h1 : b + 11 < (ks.length : Int)) (hz : ks.length ≤ 1000) :
    Can w false 3 276 [.ref 0] (nodeC p u b ks) (fun r c => r = .int (four ks (b + 8).toNat) ∧ c = nodeC p u b ks) False := by
  refine' enterF (names := [Str.ofString "self"]) ?ho ?hcd ?hb ?hl ?hn ?hlen ?h1 ?h2 ?h3 ?h4 ?h5 ?_
  case ho => k_is
  case hcd => k_is
  case hl => decide
  case hn => decide
  case hlen => rfl
  case h1 => rfl
  case h2 => rfl
  case h3 => rfl
  case h4 => decide
  case h5 => decide
  case hb => exact bind1 fun _ _ => BindsTo.of_eq rfl
  intro Γ E hE hP hα
  clear hα
  refine S_ret ?_
  refine TE_hide fun K hK => ?_
  refine TE_callK (by rfl) (by k_is) (by rfl) (.own (by k_is)) (by rfl) ?_
  refine TA_cons ?_ rfl
  refine TE_Attr ?_ rfl
  refine TE_local rfl rfl rfl ?_
  refine op_attr (by rfl) ⟨by k_is, by k_is, by k_is⟩ (by rfl) (by rfl) ?_
  refine TA_cons ?_ rfl
  refine TE_BinOp ?_
  refine TE_Attr ?_ rfl
  refine TE_local rfl rfl rfl ?_
  refine op_attr (by rfl) ⟨by k_is, by k_is, by k_is⟩ (by rfl) (by rfl) ?_
  refine TE_int ?_
  refine op_add ?_
  refine TA_nil ?_
  refine OC_can (four_at_f w ks _ (by omega) (by omega) hz) [1] (.inl rfl) (by decide) (fun h => h.elim) rfl rfl ⟨by decide, rfl, rfl⟩ ?_
  rintro r c ⟨rfl, rfl⟩ -
  refine hK _ _ ?_
  exact .same ⟨rfl, rfl⟩
theorem isleaf_f (w : World) (p u b : Int) (ks : List Int) (h0 : 0 ≤ b) (h1 : b < (ks.length : Int)) (hz : ks.length ≤ 1000) (hk : ks.getD b.toNat 0 = 2 ∨ ks.getD b.toNat 0 = 5 ∨ ks.getD b.toNat 0 = 10 ∨ ks.getD b.toNat 0 = 13) :
    Can w false 2 234 [.ref 0] (nodeC p u b ks) (fun r c => r = .pure (.bool (decide (ks.getD b.toNat 0 = 13 ∨ ks.getD b.toNat 0 = 10))) ∧ c = nodeC p u b ks) False := by
  refine' enterF (names := [Str.ofString "self"]) ?ho ?hcd ?hb ?hl ?hn ?hlen ?h1 ?h2 ?h3 ?h4 ?h5 ?_
  case ho => k_is
  case hcd => k_is
  case hl => decide
  case hn => decide
  case hlen => rfl
  case h1 => rfl
  case h2 => rfl
  case h3 => rfl
  case h4 => decide
  case h5 => decide
  case hb => exact bind1 fun _ _ => BindsTo.of_eq rfl
  intro Γ E hE hP hα
  clear hα
  refine S_ret ?_
  refine TE_hide fun K hK => ?_
  refine TE_callK (by rfl) (by k_is) (by rfl) (.own (by k_is)) (by rfl) ?_
  refine TA_cons ?_ rfl
  (refine' TE_meth ?hp ?he ?_; (case hp => rfl); (case he => rfl); rotate_left)
  refine TE_local rfl rfl rfl ?_
  refine ⟨om_inst (by rfl) ⟨by k_is, by k_is, by k_is⟩ (by rfl), .own (by k_is), ?_⟩
  refine TA_nil ?_
  refine OC_can (kind_f w p u b ks h0 h1 hz hk) [0, 1] (.inl rfl) (by decide) (fun h => h.elim) rfl rfl ⟨by decide, rfl, rfl⟩ ?_
  rintro r c ⟨rfl, rfl⟩ -
  refine TA_nil ?_
  refine OC_can (is_leaf_f w _) [] (.inl rfl) (by decide) (fun h => h.elim) rfl rfl ⟨by decide, rfl, rfl⟩ ?_
  rintro r c ⟨rfl, rfl⟩ -
  refine hK _ _ ?_
  exact .same ⟨rfl, rfl⟩
theorem place_f (w : World) (p u b : Int) (ks : List Int) (hb0 : 0 ≤ b) (hb1 : b + 4 < (ks.length : Int)) (hz : ks.length ≤ 1000) (hk : ks.getD b.toNat 0 ≤ 5)
    (i n off : Int) (hn : two ks (b + 3).toNat = n) (hi0 : 0 ≤ i) (hi1 : i < n) (hoff : two ks (b + 12 + 2 * i).toNat = off) (hlo : b + 12 + 2 * n ≤ off) (hhi : off + 4 ≤ u) (hsz : b + 12 + 2 * n ≤ (ks.length : Int)) :
    Can w false 3 290 [.ref 0, .int i] (nodeC p u b ks) (fun r c => r = .int off ∧ c = nodeC p u b ks) False := by
  refine' enterF (names := [Str.ofString "self", Str.ofString "i"]) ?ho ?hcd ?hb ?hl ?hn ?hlen ?h1 ?h2 ?h3 ?h4 ?h5 ?_
  case ho => k_is
  case hcd => k_is
  case hl => decide
  case hn => decide
  case hlen => rfl
  case h1 => rfl
  case h2 => rfl
  case h3 => rfl
  case h4 => decide
  case h5 => decide
  case hb => exact bind2 fun _ _ _ => BindsTo.of_eq rfl
  intro Γ E hE hP hα
  clear hα
  refine S_if ?_
  refine TB_or ?_
  refine TB_Compare ?_ rfl
  refine TE_local rfl rfl rfl ?_
  refine TE_int ?_
  refine op_lt ?_
  refine OT_bool ?_
  refine if_dec (fun hp => ?_) (fun hp => ?_)
  · exfalso; omega
  refine TB_or ?_
  refine TB_Compare ?_ rfl
  refine TE_local rfl rfl rfl ?_
  (refine' TE_meth ?hp ?he ?_; (case hp => rfl); (case he => rfl); rotate_left)
  refine TE_local rfl rfl rfl ?_
  refine ⟨om_inst (by rfl) ⟨by k_is, by k_is, by k_is⟩ (by rfl), .own (by k_is), ?_⟩
  refine TA_nil ?_
  refine OC_can (count_f w p u b ks hb0 hb1 hz) [0, 1] (.inl rfl) (by decide) (fun h => h.elim) rfl rfl ⟨by decide, rfl, rfl⟩ ?_
  rintro r c ⟨rfl, rfl⟩ -
  refine op_ge ?_
  refine OT_bool ?_
  refine if_dec (fun hp => ?_) (fun hp => ?_)
  · exfalso; omega
  refine TB_or_nil ?_
  refine if_f ?_
  refine TSs_nil ?_
  refine seq_next ?_
  with_unfolding_all refine S_assign (.inl rfl) rfl ?_
  refine TE_hide fun K hK => ?_
  (refine' TE_meth ?hp ?he ?_; (case hp => rfl); (case he => rfl); rotate_left)
  refine TE_local rfl rfl rfl ?_
  refine ⟨om_inst (by rfl) ⟨by k_is, by k_is, by k_is⟩ (by rfl), .own (by k_is), ?_⟩
  refine TA_nil ?_
  refine OC_can (pointers_f w p u b ks hb0 (by omega) hz hk) [0, 1] (.inl rfl) (by decide) (fun h => h.elim) rfl rfl ⟨by decide, rfl, rfl⟩ ?_
  rintro r c ⟨rfl, rfl⟩ -
  refine hK _ _ ?_
  with_unfolding_all refine S_assign (.inl rfl) rfl ?_
  refine TE_hide fun K hK => ?_
  refine TE_callK (by rfl) (by k_is) (by rfl) (.own (by k_is)) (by rfl) ?_
  refine TA_cons ?_ rfl
  refine TE_Attr ?_ rfl
  refine TE_local rfl rfl rfl ?_
  refine op_attr (by rfl) ⟨by k_is, by k_is, by k_is⟩ (by rfl) (by rfl) ?_
  refine TA_cons ?_ rfl
  refine TE_BinOp ?_
  refine TE_local rfl rfl rfl ?_
  refine TE_BinOp ?_
  refine TE_int ?_
  refine TE_local rfl rfl rfl ?_
  refine op_mul (by omega) ?_
  refine op_add ?_
  refine TA_nil ?_
  refine OC_can (two_f w ks _ (by omega) (by omega) hz) [1] (.inl rfl) (by decide) (fun h => h.elim) rfl rfl ⟨by decide, rfl, rfl⟩ ?_
  rintro r c ⟨rfl, rfl⟩ -
  refine hK _ _ ?_
  refine S_if ?_
  refine TB_or ?_
  refine TB_Compare ?_ rfl
  refine TE_local rfl rfl rfl ?_
  refine TE_BinOp ?_
  refine TE_local rfl rfl rfl ?_
  refine TE_BinOp ?_
  refine TE_int ?_
  (refine' TE_meth ?hp ?he ?_; (case hp => rfl); (case he => rfl); rotate_left)
  refine TE_local rfl rfl rfl ?_
  refine ⟨om_inst (by rfl) ⟨by k_is, by k_is, by k_is⟩ (by rfl), .own (by k_is), ?_⟩
  refine TA_nil ?_
  refine OC_can (count_f w p u b ks hb0 hb1 hz) [0, 1] (.inl rfl) (by decide) (fun h => h.elim) rfl rfl ⟨by decide, rfl, rfl⟩ ?_
  rintro r c ⟨rfl, rfl⟩ -
  refine op_mul (by omega) ?_
  refine op_add ?_
  refine op_lt ?_
  refine OT_bool ?_
  refine if_dec (fun hp => ?_) (fun hp => ?_)
  · exfalso; omega
  refine TB_or ?_
  refine TB_Compare ?_ rfl
  refine TE_BinOp ?_
  refine TE_local rfl rfl rfl ?_
  refine TE_glob (v := .pure (.int _)) rfl ⟨_, by k_is, .int⟩ rfl ?_
  refine op_add ?_
  refine TE_Attr ?_ rfl
  refine TE_local rfl rfl rfl ?_
  refine op_attr (by rfl) ⟨by k_is, by k_is, by k_is⟩ (by rfl) (by rfl) ?_
  refine op_gt ?_
  refine OT_bool ?_
  refine if_dec (fun hp => ?_) (fun hp => ?_)
  · exfalso; omega
  refine TB_or_nil ?_
  refine if_f ?_
  refine TSs_nil ?_
  refine seq_next ?_
  refine S_ret ?_
  refine TE_hide fun K hK => ?_
  refine TE_local rfl rfl rfl ?_
  refine hK _ _ ?_
  exact .same ⟨by rw [← hoff]; rfl, rfl⟩
structure PageIs (ks : List Int) (base usable : Int) (kids : List Int) : Prop where
  b0 : 0 ≤ base
  sz : ks.length ≤ 1000
  us : usable ≤ (ks.length : Int)
  kind : ks.getD base.toNat 0 = 2 ∨ ks.getD base.toNat 0 = 5
  ne : 0 < kids.length
  room : base + 12 + 2 * ((kids.length : Int) - 1) ≤ usable
  cnt : two ks (base + 3).toNat = (kids.length : Int) - 1
  last : four ks (base + 8).toNat = kids.getD (kids.length - 1) 0
  cell : ∀ i : Int, 0 ≤ i → i < (kids.length : Int) - 1 → base + 12 + 2 * ((kids.length : Int) - 1) ≤ two ks (base + 12 + 2 * i).toNat ∧ two ks (base + 12 + 2 * i).toNat + 4 ≤ usable ∧ four ks (two ks (base + 12 + 2 * i).toNat).toNat = kids.getD i.toNat 0
theorem child_f (w : World) (p u b : Int) (ks kids : List Int) (hp : PageIs ks b u kids) (i : Int) (hi0 : 0 ≤ i) (hi1 : i < (kids.length : Int)) :
    Can w false 4 323 [.ref 0, .int i] (nodeC p u b ks) (fun r c => r = .int (kids.getD i.toNat 0) ∧ c = nodeC p u b ks) False := by
  have hb0 := hp.b0
  have hsz := hp.sz
  have hus := hp.us
  have hroom := hp.room
  have hne := hp.ne
  have hcnt := hp.cnt
  have hkk : ks.getD b.toNat 0 ≤ 5 := by rcases hp.kind with e | e <;> rw [e] <;> decide
  refine' enterF (names := [Str.ofString "self", Str.ofString "i"]) ?ho ?hcd ?hb ?hl ?hn ?hlen ?h1 ?h2 ?h3 ?h4 ?h5 ?_
  case ho => k_is
  case hcd => k_is
  case hl => decide
  case hn => decide
  case hlen => rfl
  case h1 => rfl
  case h2 => rfl
  case h3 => rfl
  case h4 => decide
  case h5 => decide
  case hb => exact bind2 fun _ _ _ => BindsTo.of_eq rfl
  intro Γ E hE hP hα
  clear hα
  refine S_if ?_
  refine TB_hide fun K hK => ?_
  refine TB_Compare ?_ rfl
  refine TE_local rfl rfl rfl ?_
  (refine' TE_meth ?hp ?he ?_; (case hp => rfl); (case he => rfl); rotate_left)
  refine TE_local rfl rfl rfl ?_
  refine ⟨om_inst (by rfl) ⟨by k_is, by k_is, by k_is⟩ (by rfl), .own (by k_is), ?_⟩
  refine TA_nil ?_
  refine OC_can (count_f w p u b ks hb0 (by omega) hsz) [0, 1] (.inl rfl) (by decide) (fun h => h.elim) rfl rfl ⟨by decide, rfl, rfl⟩ ?_
  rintro r c ⟨rfl, rfl⟩ -
  refine op_eq ?_
  refine OT_bool ?_
  refine hK _ _ ?_
  refine if_eq (fun hq => ?_) (fun hq => ?_)
  · refine S_ret ?_
    refine TE_hide fun K hK => ?_
    (refine' TE_meth ?hp ?he ?_; (case hp => rfl); (case he => rfl); rotate_left)
    refine TE_local rfl rfl rfl ?_
    refine ⟨om_inst (by rfl) ⟨by k_is, by k_is, by k_is⟩ (by rfl), .own (by k_is), ?_⟩
    refine TA_nil ?_
    refine OC_can (right_f w p u b ks hb0 (by omega) hsz) [0, 1] (.inl rfl) (by decide) (fun h => h.elim) rfl rfl ⟨by decide, rfl, rfl⟩ ?_
    rintro r c ⟨rfl, rfl⟩ -
    refine hK _ _ ?_
    exact .same ⟨by rw [hp.last, show kids.length - 1 = i.toNat from by omega]; rfl, rfl⟩
  · have hin : i < (kids.length : Int) - 1 := by omega
    obtain ⟨ho1, ho2, ho3⟩ := hp.cell i hi0 hin
    refine TSs_nil ?_
    refine seq_next ?_
    refine S_ret ?_
    refine TE_hide fun K hK => ?_
    refine TE_callK (by rfl) (by k_is) (by rfl) (.own (by k_is)) (by rfl) ?_
    refine TA_cons ?_ rfl
    refine TE_Attr ?_ rfl
    refine TE_local rfl rfl rfl ?_
    refine op_attr (by rfl) ⟨by k_is, by k_is, by k_is⟩ (by rfl) (by rfl) ?_
    refine TA_cons ?_ rfl
    (refine' TE_meth ?hp ?he ?_; (case hp => rfl); (case he => rfl); rotate_left)
    refine TE_local rfl rfl rfl ?_
    refine ⟨om_inst (by rfl) ⟨by k_is, by k_is, by k_is⟩ (by rfl), .own (by k_is), ?_⟩
    refine TA_cons ?_ rfl
    refine TE_local rfl rfl rfl ?_
    refine TA_nil ?_
    refine OC_can (place_f w p u b ks hb0 (by omega) hsz hkk i _ _ hcnt hi0 hin rfl ho1 ho2 (by omega)) [0, 1] (.inl rfl) (by decide) (fun h => h.elim) rfl rfl ⟨by decide, rfl, rfl⟩ ?_
    rintro r c ⟨rfl, rfl⟩ -
    refine TA_nil ?_
    refine OC_can (four_at_f w ks _ (by omega) (by omega) hsz) [1] (.inl rfl) (by decide) (fun h => h.elim) rfl rfl ⟨by decide, rfl, rfl⟩ ?_
    rintro r c ⟨rfl, rfl⟩ -
    refine hK _ _ ?_
    exact .same ⟨by rw [ho3]; rfl, rfl⟩
end
section
noncomputable def cellZ (ks : List Int) : Int := 2 + if (ks.length : Int) > 4 then (ks.length : Int) else 4
theorem put_two_f (w : World) (ks : List Int) (i k : Int) (h0 : 0 ≤ i) (h1 : i + 1 < (ks.length : Int)) (hz : ks.length ≤ 1000) (k0 : 0 ≤ k) (k1 : k < 65536) :
    Can w false 1 115 [.ref 0, .int i, .int k] [.ba ks] (fun r c => r = .none' ∧ c = [.ba ((ks.set i.toNat (k / 256)).set (i + 1).toNat (k % 256))]) False := by
  refine' enterF (names := [Str.ofString "octets", Str.ofString "at", Str.ofString "number"]) ?ho ?hcd ?hb ?hl ?hn ?hlen ?h1 ?h2 ?h3 ?h4 ?h5 ?_
  case ho => k_is
  case hcd => k_is
  case hl => decide
  case hn => decide
  case hlen => rfl
  case h1 => rfl
  case h2 => rfl
  case h3 => rfl
  case h4 => decide
  case h5 => decide
  case hb => exact bind3 fun _ _ _ _ => BindsTo.of_eq rfl
  intro Γ E hE hP hα
  clear hα
  with_unfolding_all refine S_sub rfl ?_
  refine TE_BinOp ?_
  refine TE_local rfl rfl rfl ?_
  refine TE_int ?_
  refine op_div (of_decide_eq_true rfl) (of_decide_eq_true rfl) ?_
  refine TE_local rfl rfl rfl ?_
  refine TE_local rfl rfl rfl ?_
  refine os_ba (by rfl) (by assumption) (by omega) (by assumption) (by omega) (by omega) ?_
  with_unfolding_all refine S_sub rfl ?_
  refine TE_BinOp ?_
  refine TE_local rfl rfl rfl ?_
  refine TE_int ?_
  refine op_mod (of_decide_eq_true rfl) ?_
  refine TE_local rfl rfl rfl ?_
  refine TE_BinOp ?_
  refine TE_local rfl rfl rfl ?_
  refine TE_int ?_
  refine op_add ?_
  refine os_ba (by rfl) (by omega) (by first | exact lm_i (by omega) | exact lm_n (by omega) | (simp only [List.length_map, List.length_cons, List.length_nil, List.length_append, List.length_take, List.length_drop, List.length_reverse, List.length_set, List.length_replicate, List.length_dropLast]; omega)) (by first | exact lm_i (by omega) | exact lm_n (by omega) | (simp only [List.length_map, List.length_cons, List.length_nil, List.length_append, List.length_take, List.length_drop, List.length_reverse, List.length_set, List.length_replicate, List.length_dropLast]; omega)) (by omega) (by omega) ?_
  refine TSs_nil ?_
  exact .same ⟨rfl, rfl⟩
theorem put_four_f (w : World) (ks : List Int) (i k : Int) (h0 : 0 ≤ i) (h1 : i + 3 < (ks.length : Int)) (hz : ks.length ≤ 1000) (k0 : 0 ≤ k) (k1 : k < 65536) :
    Can w false 2 122 [.ref 0, .int i, .int k] [.ba ks] (fun r c => r = .none' ∧ c = [.ba ((((ks.set i.toNat (k / 65536 / 256)).set (i + 1).toNat (k / 65536 % 256)).set (i + 2).toNat (k % 65536 / 256)).set (i + 2 + 1).toNat (k % 65536 % 256))]) False := by
  refine' enterF (names := [Str.ofString "octets", Str.ofString "at", Str.ofString "number"]) ?ho ?hcd ?hb ?hl ?hn ?hlen ?h1 ?h2 ?h3 ?h4 ?h5 ?_
  case ho => k_is
  case hcd => k_is
  case hl => decide
  case hn => decide
  case hlen => rfl
  case h1 => rfl
  case h2 => rfl
  case h3 => rfl
  case h4 => decide
  case h5 => decide
  case hb => exact bind3 fun _ _ _ _ => BindsTo.of_eq rfl
  intro Γ E hE hP hα
  clear hα
  with_unfolding_all refine S_expr rfl rfl ?_
  refine TE_callK (by rfl) (by k_is) (by rfl) (.own (by k_is)) (by rfl) ?_
  refine TA_cons ?_ rfl
  refine TE_local rfl rfl rfl ?_
  refine TA_cons ?_ rfl
  refine TE_local rfl rfl rfl ?_
  refine TA_cons ?_ rfl
  refine TE_BinOp ?_
  refine TE_local rfl rfl rfl ?_
  refine TE_int ?_
  refine op_div (of_decide_eq_true rfl) (of_decide_eq_true rfl) ?_
  refine TA_nil ?_
  refine OC_can (put_two_f w ks _ _ (by omega) (by omega) hz (by omega) (by omega)) [0] (.inl rfl) (by decide) (fun h => h.elim) rfl rfl ⟨by decide, rfl, rfl⟩ ?_
  rintro r c ⟨rfl, rfl⟩ -
  with_unfolding_all refine S_expr rfl rfl ?_
  refine TE_callK (by rfl) (by k_is) (by rfl) (.own (by k_is)) (by rfl) ?_
  refine TA_cons ?_ rfl
  refine TE_local rfl rfl rfl ?_
  refine TA_cons ?_ rfl
  refine TE_BinOp ?_
  refine TE_local rfl rfl rfl ?_
  refine TE_int ?_
  refine op_add ?_
  refine TA_cons ?_ rfl
  refine TE_BinOp ?_
  refine TE_local rfl rfl rfl ?_
  refine TE_int ?_
  refine op_mod (of_decide_eq_true rfl) ?_
  refine TA_nil ?_
  refine OC_can (put_two_f w _ _ _ (by omega) (by simp only [List.length_set]; omega) (by simp only [List.length_set]; omega) (by omega) (by omega)) [0] (.inl rfl) (by decide) (fun h => h.elim) rfl rfl ⟨by decide, rfl, rfl⟩ ?_
  rintro r c ⟨rfl, rfl⟩ -
  refine TSs_nil ?_
  exact .same ⟨rfl, rfl⟩
theorem four_octets_f (w : World) (k : Int) (k0 : 0 ≤ k) (k1 : k < 65536) : Can w true 3 129 [.int k] [] (fun r c => r = .pure (.bytes [0, 0, k / 256, k % 256]) ∧ c = []) False := by
  refine' enterF (names := [Str.ofString "number"]) ?ho ?hcd ?hb ?hl ?hn ?hlen ?h1 ?h2 ?h3 ?h4 ?h5 ?_
  case ho => k_is
  case hcd => k_is
  case hl => decide
  case hn => decide
  case hlen => rfl
  case h1 => rfl
  case h2 => rfl
  case h3 => rfl
  case h4 => decide
  case h5 => decide
  case hb => exact bind1 fun _ _ => BindsTo.of_eq rfl
  intro Γ E hE hP hα
  clear hα
  with_unfolding_all refine S_assign (.inl rfl) rfl ?_
  refine TE_hide fun K hK => ?_
  refine TE_callB (by rfl) (by k_is) boot_bytearray (by decide) (by rfl) .type (by rfl) ?_
  refine TA_cons ?_ rfl
  refine TE_int ?_
  refine TA_nil ?_
  refine oc_bytearray_int (by omega) (by omega) ?_
  refine hK _ _ ?_
  with_unfolding_all refine S_expr rfl rfl ?_
  refine TE_callK (by rfl) (by k_is) (by rfl) (.own (by k_is)) (by rfl) ?_
  refine TA_cons ?_ rfl
  refine TE_local rfl rfl rfl ?_
  refine TA_cons ?_ rfl
  refine TE_int ?_
  refine TA_cons ?_ rfl
  refine TE_local rfl rfl rfl ?_
  refine TA_nil ?_
  refine OC_can (put_four_f w _ _ _ (by omega) (by decide) (by decide) k0 k1) [0] (.inl rfl) (by decide) (fun h => h.elim) rfl rfl ⟨by decide, rfl, rfl⟩ ?_
  rintro r c ⟨rfl, rfl⟩ -
  refine S_ret ?_
  refine TE_callB (by rfl) (by k_is) boot_bytes' (by decide) (by rfl) .type (by rfl) ?_
  refine TA_cons ?_ rfl
  refine TE_local rfl rfl rfl ?_
  refine TA_nil ?_
  refine oc_bytes_ba (l := [k / 65536 / 256, k / 65536 % 256, k % 65536 / 256, k % 65536 % 256]) rfl (of_decide_eq_true rfl) ?_
  have e : ([k / 65536 / 256, k / 65536 % 256, k % 65536 / 256, k % 65536 % 256] : List Int) = [0, 0, k / 256, k % 256] := by
    rw [show k / 65536 = 0 by omega, show k % 65536 = k by omega]; rfl
  rw [e]
  exact .sel [] (.pure (.bytes [0, 0, k / 256, k % 256])) [] ⟨List.nodup_nil, rfl, rfl⟩ rfl rfl (fun i h => absurd h (Nat.not_lt_zero i)) ⟨rfl, rfl⟩
theorem head_size_f (w : World) (k : Int) : Can w false 2 143 [.int k] [] (fun r c => r = .int (if k = 13 ∨ k = 10 then 8 else 12) ∧ c = []) False := by
  refine' enterF (names := [Str.ofString "kind"]) ?ho ?hcd ?hb ?hl ?hn ?hlen ?h1 ?h2 ?h3 ?h4 ?h5 ?_
  case ho => k_is
  case hcd => k_is
  case hl => decide
  case hn => decide
  case hlen => rfl
  case h1 => rfl
  case h2 => rfl
  case h3 => rfl
  case h4 => decide
  case h5 => decide
  case hb => exact bind1 fun _ _ => BindsTo.of_eq rfl
  intro Γ E hE hP hα
  clear hα
  refine S_if ?_
  refine TB_hide fun K hK => ?_
  refine TB_te ?_ rfl
  refine TE_callK (by rfl) (by k_is) (by rfl) (.own (by k_is)) (by rfl) ?_
  refine TA_cons ?_ rfl
  refine TE_local rfl rfl rfl ?_
  refine TA_nil ?_
  skip
  refine OC_can (is_leaf_f w _) [] (.inl rfl) (by decide) (fun h => h.elim) rfl rfl ⟨by decide, rfl, rfl⟩ ?_
  rintro r c ⟨rfl, rfl⟩ -
  refine OT_bool ?_
  refine hK _ _ ?_
  refine if_dec (fun hp => ?_) (fun hp => ?_)
  · refine S_ret ?_
    refine TE_hide fun K hK => ?_
    refine TE_int ?_
    refine hK _ _ ?_
    refine seq_ret ?_
    exact .same ⟨by rw [if_pos hp]; rfl, rfl⟩
  · refine TSs_nil ?_
    refine seq_next ?_
    refine S_ret ?_
    refine TE_hide fun K hK => ?_
    refine TE_int ?_
    refine hK _ _ ?_
    exact .same ⟨by rw [if_neg hp]; rfl, rfl⟩
theorem cost_f (w : World) (ks : List Int) (hz : ks.length < 1000) : Can w false 1 349 [.pure (.bytes ks)] [] (fun r c => r = .int (cellZ ks) ∧ c = []) False := by
  refine' enterF (names := [Str.ofString "raw"]) ?ho ?hcd ?hb ?hl ?hn ?hlen ?h1 ?h2 ?h3 ?h4 ?h5 ?_
  case ho => k_is
  case hcd => k_is
  case hl => decide
  case hn => decide
  case hlen => rfl
  case h1 => rfl
  case h2 => rfl
  case h3 => rfl
  case h4 => decide
  case h5 => decide
  case hb => exact bind1 fun _ _ => BindsTo.of_eq rfl
  intro Γ E hE hP hα
  clear hα
  refine S_ret ?_
  refine TE_hide fun K hK => ?_
  refine TE_BinOp ?_
  refine TE_glob (v := .pure (.int _)) rfl ⟨_, by k_is, .int⟩ rfl ?_
  refine TE_callB (by rfl) (by k_is) boot_max' (by decide) (by rfl) .blt (by rfl) ?_
  refine TA_cons ?_ rfl
  refine TE_glob (v := .pure (.int _)) rfl ⟨_, by k_is, .int⟩ rfl ?_
  refine TA_cons ?_ rfl
  refine TE_callB (by rfl) (by k_is) boot_len' (by decide) (by rfl) .blt (by rfl) ?_
  refine TA_cons ?_ rfl
  refine TE_local rfl rfl rfl ?_
  refine TA_nil ?_
  refine oc_blen (by omega) ?_
  refine TA_nil ?_
  refine oc_max ?_
  refine op_add ?_
  refine hK _ _ ?_
  exact .same ⟨rfl, rfl⟩
theorem base_of_f (w : World) (p : Int) : Can w false 1 361 [.int p] [] (fun r c => r = .int (if p = 1 then 32 else 0) ∧ c = []) False := by
  refine' enterF (names := [Str.ofString "page"]) ?ho ?hcd ?hb ?hl ?hn ?hlen ?h1 ?h2 ?h3 ?h4 ?h5 ?_
  case ho => k_is
  case hcd => k_is
  case hl => decide
  case hn => decide
  case hlen => rfl
  case h1 => rfl
  case h2 => rfl
  case h3 => rfl
  case h4 => decide
  case h5 => decide
  case hb => exact bind1 fun _ _ => BindsTo.of_eq rfl
  intro Γ E hE hP hα
  clear hα
  refine S_ret ?_
  refine TE_If ?_
  refine TB_Compare ?_ rfl
  refine TE_local rfl rfl rfl ?_
  refine TE_int ?_
  refine op_eq ?_
  refine OT_bool ?_
  refine if_eq (fun hp => ?_) (fun hp => ?_)
  · refine TE_glob (v := .pure (.int _)) rfl ⟨_, by k_is, .int⟩ rfl ?_
    exact .same ⟨by rw [if_pos hp]; rfl, rfl⟩
  · refine TE_int ?_
    exact .same ⟨by rw [if_neg hp]; rfl, rfl⟩
theorem capacity_f (w : World) (p k u : Int) : Can w false 3 368 [.int p, .int k, .int u] [] (fun r c => r = .int (u - (if p = 1 then 32 else 0) - (if k = 13 ∨ k = 10 then 8 else 12)) ∧ c = []) False := by
  refine' enterF (names := [Str.ofString "page", Str.ofString "kind", Str.ofString "usable"]) ?ho ?hcd ?hb ?hl ?hn ?hlen ?h1 ?h2 ?h3 ?h4 ?h5 ?_
  case ho => k_is
  case hcd => k_is
  case hl => decide
  case hn => decide
  case hlen => rfl
  case h1 => rfl
  case h2 => rfl
  case h3 => rfl
  case h4 => decide
  case h5 => decide
  case hb => exact bind3 fun _ _ _ _ => BindsTo.of_eq rfl
  intro Γ E hE hP hα
  clear hα
  refine S_ret ?_
  refine TE_hide fun K hK => ?_
  refine TE_BinOp ?_
  refine TE_BinOp ?_
  refine TE_local rfl rfl rfl ?_
  refine TE_callK (by rfl) (by k_is) (by rfl) (.own (by k_is)) (by rfl) ?_
  refine TA_cons ?_ rfl
  refine TE_local rfl rfl rfl ?_
  refine TA_nil ?_
  refine OC_can (base_of_f w _) [] (.inl rfl) (by decide) (fun h => h.elim) rfl rfl ⟨by decide, rfl, rfl⟩ ?_
  rintro r c ⟨rfl, rfl⟩ -
  refine op_sub ?_
  refine TE_callK (by rfl) (by k_is) (by rfl) (.own (by k_is)) (by rfl) ?_
  refine TA_cons ?_ rfl
  refine TE_local rfl rfl rfl ?_
  refine TA_nil ?_
  refine OC_can (head_size_f w _) [] (.inl rfl) (by decide) (fun h => h.elim) rfl rfl ⟨by decide, rfl, rfl⟩ ?_
  rintro r c ⟨rfl, rfl⟩ -
  refine op_sub ?_
  refine hK _ _ ?_
  exact .same ⟨rfl, rfl⟩
end
section
theorem take_snoc {α : Type} {l : List α} {i : Nat} (d : α) (h : i < l.length) : l.take (i + 1) = l.take i ++ [l.getD i d] := by
  rw [List.take_add_one, List.getD_eq_getElem?_getD, List.getElem?_eq_getElem h]; rfl
theorem getD_map {α β : Type} {f : α → β} {l : List α} {i : Nat} (a : α) (b : β) (h : i < l.length) : (l.map f).getD i b = f (l.getD i a) := by
  simp [List.getD_eq_getElem?_getD, List.getElem?_eq_getElem h]
theorem total_f (w : World) (kss : List (List Int)) (hz : kss.length < 1000) (hk : ∀ ks ∈ kss, ks.length < 1000) : Can w false 2 354 [.pure (.list (kss.map .bytes))] [] (fun r c => r = .int ((kss.map cellZ).sum) ∧ c = []) False := by
  refine' enterF (names := [Str.ofString "raws"]) ?ho ?hcd ?hb ?hl ?hn ?hlen ?h1 ?h2 ?h3 ?h4 ?h5 ?_
  case ho => k_is
  case hcd => k_is
  case hl => decide
  case hn => decide
  case hlen => rfl
  case h1 => rfl
  case h2 => rfl
  case h3 => rfl
  case h4 => decide
  case h5 => decide
  case hb => exact bind1 fun _ _ => BindsTo.of_eq rfl
  intro Γ E hE hP hα
  clear hα
  refine S_ret ?_
  refine TE_callB (by rfl) (by k_is) boot_sum' (by decide) (by rfl) .blt (by rfl) ?_
  refine TA_cons ?_ rfl
  refine TE_Comp ⟨rfl, rfl, by decide, rfl⟩ [] (fun _ h => absurd h List.not_mem_nil) (fun _ => rfl) ?_
  refine TE_local rfl rfl rfl ?_
  refine .list (fun i r => r = ((kss.take i).map cellZ).map .int) (by simp only [List.length_map]; omega) rfl (fun i Γ' acc hi hK => ?_) (fun r hr => ?_)
  · rw [List.length_map] at hi
    rw [getD_map (f := D.bytes) ([] : List Int) D.none hi]
    show TE _ _ _ _ _ _
    refine TE_callK (by rfl) (by k_is) (by rfl) (.own (by k_is)) (by rfl) ?_
    refine TA_cons ?_ rfl
    refine TE_local rfl rfl rfl ?_
    refine TA_nil ?_
    refine OC_can (cost_f w _ (hk _ ?_)) [] (.inl rfl) (by decide) (fun h => h.elim) rfl rfl ⟨by decide, rfl, rfl⟩ ?_
    · rw [List.getD_eq_getElem?_getD, List.getElem?_eq_getElem hi]; exact List.getElem_mem hi
    rintro r c ⟨rfl, rfl⟩ -
    exact ⟨rfl, _, rfl, by rw [hK, take_snoc [] hi, List.map_append, List.map_append]; rfl⟩
  · rw [List.length_map, List.take_length] at hr
    subst hr
    refine TA_nil ?_
    refine oc_sum .pure ?_
    exact .same ⟨rfl, rfl⟩
end
section
noncomputable abbrev contentI (k r : Int) (kss : List (List Int)) : AO := .inst 397 [("kind", .int k), ("raws", .pure (.list (kss.map .bytes))), ("right", .int r)]
theorem content_init_f (w : World) (k r : Int) (kss : List (List Int)) : Can w false 1 389 [.ref 0, .int k, .pure (.list (kss.map .bytes)), .int r] [.inst 397 []] (fun v c => v = .none' ∧ AV.ref 0 = .ref 0 ∧ c = [contentI k r kss]) False := by
  refine' enterF (names := [Str.ofString "self", Str.ofString "kind", Str.ofString "raws", Str.ofString "right"]) ?ho ?hcd ?hb ?hl ?hn ?hlen ?h1 ?h2 ?h3 ?h4 ?h5 ?_
  case ho => k_is
  case hcd => k_is
  case hl => decide
  case hn => decide
  case hlen => rfl
  case h1 => rfl
  case h2 => rfl
  case h3 => rfl
  case h4 => decide
  case h5 => decide
  case hb => exact bind4 fun _ _ _ _ _ => BindsTo.of_eq rfl
  intro Γ E hE hP hα
  clear hα
  with_unfolding_all refine S_attr rfl ?_
  refine TE_local rfl rfl rfl ?_
  refine TE_local rfl rfl rfl ?_
  refine oa_inst (by rfl) ⟨by k_is, by k_is, by k_is, by k_is⟩ (of_decide_eq_true rfl) ?_
  with_unfolding_all refine S_attr rfl ?_
  refine TE_local rfl rfl rfl ?_
  refine TE_local rfl rfl rfl ?_
  refine oa_inst (by rfl) ⟨by k_is, by k_is, by k_is, by k_is⟩ (of_decide_eq_true rfl) ?_
  with_unfolding_all refine S_attr rfl ?_
  refine TE_local rfl rfl rfl ?_
  refine TE_local rfl rfl rfl ?_
  refine oa_inst (by rfl) ⟨by k_is, by k_is, by k_is, by k_is⟩ (of_decide_eq_true rfl) ?_
  refine TSs_nil ?_
  exact .same ⟨rfl, rfl, rfl⟩
theorem content_f (w : World) (k r : Int) (kss : List (List Int)) : Can w false 2 397 [.int k, .pure (.list (kss.map .bytes)), .int r] [] (fun v c => v = .ref 0 ∧ c = [contentI k r kss]) False :=
  can_make (Q := fun v c => v = .ref 0 ∧ c = [contentI k r kss]) (by k_is) (by k_is) (by k_is) (content_init_f w k r kss)
noncomputable abbrev storeC (pgs : List (List Int)) : List AO := [.inst 474 [("page_size", .int 128), ("pages", .ref 1), ("spare", .ref 2)], .list (pgs.map .bytes), .list []]
theorem page_count_f (w : World) (pgs : List (List Int)) (hz : pgs.length < 1000) : Can w false 1 436 [.ref 0] (storeC pgs) (fun v c => v = .int pgs.length ∧ c = storeC pgs) False := by
  refine' enterF (names := [Str.ofString "self"]) ?ho ?hcd ?hb ?hl ?hn ?hlen ?h1 ?h2 ?h3 ?h4 ?h5 ?_
  case ho => k_is
  case hcd => k_is
  case hl => decide
  case hn => decide
  case hlen => rfl
  case h1 => rfl
  case h2 => rfl
  case h3 => rfl
  case h4 => decide
  case h5 => decide
  case hb => exact bind1 fun _ _ => BindsTo.of_eq rfl
  intro Γ E hE hP hα
  clear hα
  refine S_ret ?_
  refine TE_hide fun K hK => ?_
  refine TE_callB (by rfl) (by k_is) boot_len' (by decide) (by rfl) .blt (by rfl) ?_
  refine TA_cons ?_ rfl
  refine TE_Attr ?_ rfl
  refine TE_local rfl rfl rfl ?_
  refine op_attr (by rfl) ⟨by k_is, by k_is, by k_is⟩ (by rfl) (by rfl) ?_
  refine TA_nil ?_
  refine oc_len (by exact .ref rfl) (by first | exact lm_i (by omega) | exact lm_n (by omega) | (simp only [List.length_map, List.length_cons, List.length_nil, List.length_append, List.length_take, List.length_drop, List.length_reverse, List.length_set, List.length_replicate, List.length_dropLast]; omega)) ?_
  refine hK _ _ ?_
  exact .same ⟨by rw [List.length_map]; rfl, rfl⟩
theorem read_page_f (w : World) (pgs : List (List Int)) (p : Int) (hz : pgs.length < 1000) (h0 : 1 ≤ p) (h1 : p ≤ (pgs.length : Int)) : Can w false 1 443 [.ref 0, .int p] (storeC pgs) (fun v c => v = .pure (.bytes (pgs.getD (p - 1).toNat [])) ∧ c = storeC pgs) False := by
  refine' enterF (names := [Str.ofString "self", Str.ofString "page"]) ?ho ?hcd ?hb ?hl ?hn ?hlen ?h1 ?h2 ?h3 ?h4 ?h5 ?_
  case ho => k_is
  case hcd => k_is
  case hl => decide
  case hn => decide
  case hlen => rfl
  case h1 => rfl
  case h2 => rfl
  case h3 => rfl
  case h4 => decide
  case h5 => decide
  case hb => exact bind2 fun _ _ _ => BindsTo.of_eq rfl
  intro Γ E hE hP hα
  clear hα
  refine S_if ?_
  refine TB_or ?_
  refine TB_Compare ?_ rfl
  refine TE_local rfl rfl rfl ?_
  refine TE_int ?_
  refine op_lt ?_
  refine OT_bool ?_
  refine if_dec (fun hp => ?_) (fun hp => ?_)
  · exfalso; omega
  refine TB_or ?_
  refine TB_Compare ?_ rfl
  refine TE_local rfl rfl rfl ?_
  refine TE_callB (by rfl) (by k_is) boot_len' (by decide) (by rfl) .blt (by rfl) ?_
  refine TA_cons ?_ rfl
  refine TE_Attr ?_ rfl
  refine TE_local rfl rfl rfl ?_
  refine op_attr (by rfl) ⟨by k_is, by k_is, by k_is⟩ (by rfl) (by rfl) ?_
  refine TA_nil ?_
  refine oc_len (by exact .ref rfl) (by first | exact lm_i (by omega) | exact lm_n (by omega) | (simp only [List.length_map, List.length_cons, List.length_nil, List.length_append, List.length_take, List.length_drop, List.length_reverse, List.length_set, List.length_replicate, List.length_dropLast]; omega)) ?_
  refine op_gt ?_
  refine OT_bool ?_
  refine if_dec (fun hp => ?_) (fun hp => ?_)
  · exfalso; rw [List.length_map] at hp; omega
  refine TB_or_nil ?_
  refine if_f ?_
  refine TSs_nil ?_
  refine seq_next ?_
  refine S_ret ?_
  refine TE_hide fun K hK => ?_
  refine TE_Sub ?_
  refine TE_Attr ?_ rfl
  refine TE_local rfl rfl rfl ?_
  refine op_attr (by rfl) ⟨by k_is, by k_is, by k_is⟩ (by rfl) (by rfl) ?_
  refine TE_BinOp ?_
  refine TE_local rfl rfl rfl ?_
  refine TE_int ?_
  refine op_sub ?_
  refine op_item (by exact .ref rfl) (by omega) (by omega) (by first | exact lm_i (by omega) | exact lm_n (by omega) | (simp only [List.length_map, List.length_cons, List.length_nil, List.length_append, List.length_take, List.length_drop, List.length_reverse, List.length_set, List.length_replicate, List.length_dropLast]; omega)) ?_ (fun _ _ => rfl)
  refine hK _ _ ?_
  exact .same ⟨by rw [getD_map (f := D.bytes) ([] : List Int) D.none (by omega)]; rfl, rfl⟩
theorem write_page_f (w : World) (pgs : List (List Int)) (p : Int) (b : List Int) (hb : b.length = 128) (hz : pgs.length < 1000) (h0 : 1 ≤ p) (h1 : p ≤ (pgs.length : Int)) :
    Can w false 1 450 [.ref 0, .int p, .pure (.bytes b)] (storeC pgs) (fun v c => v = .none' ∧ c = storeC (pgs.set (p - 1).toNat b)) False := by
  refine' enterF (names := [Str.ofString "self", Str.ofString "page", Str.ofString "octets"]) ?ho ?hcd ?hb ?hl ?hn ?hlen ?h1 ?h2 ?h3 ?h4 ?h5 ?_
  case ho => k_is
  case hcd => k_is
  case hl => decide
  case hn => decide
  case hlen => rfl
  case h1 => rfl
  case h2 => rfl
  case h3 => rfl
  case h4 => decide
  case h5 => decide
  case hb => exact bind3 fun _ _ _ _ => BindsTo.of_eq rfl
  intro Γ E hE hP hα
  clear hα
  refine S_if ?_
  refine TB_or ?_
  refine TB_Compare ?_ rfl
  refine TE_callB (by rfl) (by k_is) boot_len' (by decide) (by rfl) .blt (by rfl) ?_
  refine TA_cons ?_ rfl
  refine TE_local rfl rfl rfl ?_
  refine TA_nil ?_
  refine oc_blen (by omega) ?_
  refine TE_Attr ?_ rfl
  refine TE_local rfl rfl rfl ?_
  refine op_attr (by rfl) ⟨by k_is, by k_is, by k_is⟩ (by rfl) (by rfl) ?_
  refine op_ne ?_
  refine OT_bool ?_
  refine if_ne (fun hp => ?_) (fun hp => ?_)
  · exfalso; omega
  refine TB_or ?_
  refine TB_Compare ?_ rfl
  refine TE_local rfl rfl rfl ?_
  refine TE_int ?_
  refine op_lt ?_
  refine OT_bool ?_
  refine if_dec (fun hp => ?_) (fun hp => ?_)
  · exfalso; omega
  refine TB_or ?_
  refine TB_Compare ?_ rfl
  refine TE_local rfl rfl rfl ?_
  refine TE_callB (by rfl) (by k_is) boot_len' (by decide) (by rfl) .blt (by rfl) ?_
  refine TA_cons ?_ rfl
  refine TE_Attr ?_ rfl
  refine TE_local rfl rfl rfl ?_
  refine op_attr (by rfl) ⟨by k_is, by k_is, by k_is⟩ (by rfl) (by rfl) ?_
  refine TA_nil ?_
  refine oc_len (by exact .ref rfl) (by first | exact lm_i (by omega) | exact lm_n (by omega) | (simp only [List.length_map, List.length_cons, List.length_nil, List.length_append, List.length_take, List.length_drop, List.length_reverse, List.length_set, List.length_replicate, List.length_dropLast]; omega)) ?_
  refine op_gt ?_
  refine OT_bool ?_
  refine if_dec (fun hp => ?_) (fun hp => ?_)
  · exfalso; rw [List.length_map] at hp; omega
  refine TB_or_nil ?_
  refine if_f ?_
  refine TSs_nil ?_
  refine seq_next ?_
  with_unfolding_all refine S_sub rfl ?_
  refine TE_callB (by rfl) (by k_is) boot_bytes' (by decide) (by rfl) .type (by rfl) ?_
  refine TA_cons ?_ rfl
  refine TE_local rfl rfl rfl ?_
  refine TA_nil ?_
  refine oc_bytes_same ?_
  refine TE_Attr ?_ rfl
  refine TE_local rfl rfl rfl ?_
  refine op_attr (by rfl) ⟨by k_is, by k_is, by k_is⟩ (by rfl) (by rfl) ?_
  refine TE_BinOp ?_
  refine TE_local rfl rfl rfl ?_
  refine TE_int ?_
  refine op_sub ?_
  refine os_list (by rfl) (by omega) (by omega) (by first | exact lm_i (by omega) | exact lm_n (by omega) | (simp only [List.length_map, List.length_cons, List.length_nil, List.length_append, List.length_take, List.length_drop, List.length_reverse, List.length_set, List.length_replicate, List.length_dropLast]; omega)) ?_
  refine TSs_nil ?_
  exact .same ⟨rfl, by rw [show (List.map D.bytes pgs).set (p - 1).toNat (.bytes b) = List.map D.bytes (pgs.set (p - 1).toNat b) from List.map_set.symm]; rfl⟩
theorem extend_f (w : World) (pgs : List (List Int)) (hz : pgs.length < 900) : Can w false 1 457 [.ref 0] (storeC pgs) (fun v c => v = .int (pgs.length + 1) ∧ c = storeC (pgs ++ [List.replicate 128 0])) False := by
  refine' enterF (names := [Str.ofString "self"]) ?ho ?hcd ?hb ?hl ?hn ?hlen ?h1 ?h2 ?h3 ?h4 ?h5 ?_
  case ho => k_is
  case hcd => k_is
  case hl => decide
  case hn => decide
  case hlen => rfl
  case h1 => rfl
  case h2 => rfl
  case h3 => rfl
  case h4 => decide
  case h5 => decide
  case hb => exact bind1 fun _ _ => BindsTo.of_eq rfl
  intro Γ E hE hP hα
  clear hα
  with_unfolding_all refine S_expr rfl rfl ?_
  (refine' TE_meth ?hp ?he ?_; (case hp => rfl); (case he => rfl); rotate_left)
  refine TE_Attr ?_ rfl
  refine TE_local rfl rfl rfl ?_
  refine op_attr (by rfl) ⟨by k_is, by k_is, by k_is⟩ (by rfl) (by rfl) ?_
  refine ⟨om_append rfl, .blt, ?_⟩
  refine TA_cons ?_ rfl
  refine TE_callB (by rfl) (by k_is) boot_bytes' (by decide) (by rfl) .type (by rfl) ?_
  refine TA_cons ?_ rfl
  refine TE_Attr ?_ rfl
  refine TE_local rfl rfl rfl ?_
  refine op_attr (by rfl) ⟨by k_is, by k_is, by k_is⟩ (by rfl) (by rfl) ?_
  refine TA_nil ?_
  refine oc_bytes_int (by decide) (by decide) ?_
  refine TA_nil ?_
  refine oc_append (by rfl) (by first | exact lm_i (by omega) | exact lm_n (by omega) | (simp only [List.length_map, List.length_cons, List.length_nil, List.length_append, List.length_take, List.length_drop, List.length_reverse, List.length_set, List.length_replicate, List.length_dropLast]; omega)) ?_
  refine S_ret ?_
  refine TE_hide fun K hK => ?_
  refine TE_callB (by rfl) (by k_is) boot_len' (by decide) (by rfl) .blt (by rfl) ?_
  refine TA_cons ?_ rfl
  refine TE_Attr ?_ rfl
  refine TE_local rfl rfl rfl ?_
  refine op_attr (by rfl) ⟨by k_is, by k_is, by k_is⟩ (by rfl) (by rfl) ?_
  refine TA_nil ?_
  refine oc_len (by exact .ref rfl) (by first | exact lm_i (by omega) | exact lm_n (by omega) | (simp only [List.length_map, List.length_cons, List.length_nil, List.length_append, List.length_take, List.length_drop, List.length_reverse, List.length_set, List.length_replicate, List.length_dropLast]; omega)) ?_
  refine hK _ _ ?_
  exact .same ⟨by simp [Fl.val], by rw [show List.map D.bytes pgs ++ [D.bytes (List.replicate (Int.toNat 128) 0)] = List.map D.bytes (pgs ++ [List.replicate 128 0]) by rw [List.map_append]; rfl]; rfl⟩
theorem store_init_f (w : World) : Can w false 1 429 [.ref 0, .int 128] [.inst 474 []] (fun v c => v = .none' ∧ AV.ref 0 = .ref 0 ∧ c = storeC []) False := by
  refine' enterF (names := [Str.ofString "self", Str.ofString "page_size"]) ?ho ?hcd ?hb ?hl ?hn ?hlen ?h1 ?h2 ?h3 ?h4 ?h5 ?_
  case ho => k_is
  case hcd => k_is
  case hl => decide
  case hn => decide
  case hlen => rfl
  case h1 => rfl
  case h2 => rfl
  case h3 => rfl
  case h4 => decide
  case h5 => decide
  case hb => exact bind2 fun _ _ _ => BindsTo.of_eq rfl
  intro Γ E hE hP hα
  clear hα
  with_unfolding_all refine S_attr rfl ?_
  refine TE_local rfl rfl rfl ?_
  refine TE_local rfl rfl rfl ?_
  refine oa_inst (by rfl) ⟨by k_is, by k_is, by k_is, by k_is⟩ (of_decide_eq_true rfl) ?_
  with_unfolding_all refine S_attr rfl ?_
  refine TE_ListC ?_
  refine TA_nil ?_
  refine ⟨rfl, by decide, ?_⟩
  refine TE_local rfl rfl rfl ?_
  refine oa_inst (by rfl) ⟨by k_is, by k_is, by k_is, by k_is⟩ (of_decide_eq_true rfl) ?_
  with_unfolding_all refine S_attr rfl ?_
  refine TE_ListC ?_
  refine TA_nil ?_
  refine ⟨rfl, by decide, ?_⟩
  refine TE_local rfl rfl rfl ?_
  refine oa_inst (by rfl) ⟨by k_is, by k_is, by k_is, by k_is⟩ (of_decide_eq_true rfl) ?_
  refine TSs_nil ?_
  exact .same ⟨rfl, rfl, rfl⟩
theorem store_f (w : World) : Can w false 2 474 [.int 128] [] (fun v c => v = .ref 0 ∧ c = storeC []) False :=
  can_make (Q := fun v c => v = .ref 0 ∧ c = storeC []) (by k_is) (by k_is) (by k_is) (store_init_f w)
noncomputable abbrev treesC (pgs : List (List Int)) : List AO := storeC pgs ++ [.inst 633 [("pager", .ref 0), ("free", .ref 0), ("changes", .pure .junk)]]
theorem trees_init_f (w : World) (pgs : List (List Int)) : Can w false 1 588 [.ref 3, .ref 0, .ref 0] (storeC pgs ++ [.inst 633 []]) (fun v c => v = .none' ∧ AV.ref 3 = .ref 3 ∧ c = treesC pgs) False := by
  refine' enterF (names := [Str.ofString "self", Str.ofString "pager", Str.ofString "free"]) ?ho ?hcd ?hb ?hl ?hn ?hlen ?h1 ?h2 ?h3 ?h4 ?h5 ?_
  case ho => k_is
  case hcd => k_is
  case hl => decide
  case hn => decide
  case hlen => rfl
  case h1 => rfl
  case h2 => rfl
  case h3 => rfl
  case h4 => decide
  case h5 => decide
  case hb => exact bind3 fun _ _ _ _ => BindsTo.of_eq rfl
  intro Γ E hE hP hα
  clear hα
  with_unfolding_all refine S_attr rfl ?_
  refine TE_local rfl rfl rfl ?_
  refine TE_local rfl rfl rfl ?_
  refine oa_inst (by rfl) ⟨by k_is, by k_is, by k_is, by k_is⟩ (of_decide_eq_true rfl) ?_
  with_unfolding_all refine S_attr rfl ?_
  refine TE_local rfl rfl rfl ?_
  refine TE_local rfl rfl rfl ?_
  refine oa_inst (by rfl) ⟨by k_is, by k_is, by k_is, by k_is⟩ (of_decide_eq_true rfl) ?_
  with_unfolding_all refine S_attr rfl ?_
  refine TE_Dict0 ?_
  refine TE_local rfl rfl rfl ?_
  refine oa_inst (by rfl) ⟨by k_is, by k_is, by k_is, by k_is⟩ (of_decide_eq_true rfl) ?_
  refine TSs_nil ?_
  exact .same ⟨rfl, rfl, rfl⟩
theorem trees_f (w : World) (pgs : List (List Int)) : Can w false 2 633 [.ref 0, .ref 0] (storeC pgs) (fun v c => v = .ref 3 ∧ c = treesC pgs) False :=
  can_make (Q := fun v c => v = .ref 3 ∧ c = treesC pgs) (by k_is) (by k_is) (by k_is) (trees_init_f w pgs)
theorem view_init_f (w : World) (b : List Int) (p u : Int) (hz : b.length ≤ 1000) : Can w true 1 220 [.ref 0, .pure (.bytes b), .int p, .int u] [.inst 572 []] (fun v c => v = .none' ∧ AV.ref 0 = .ref 0 ∧ c = nodeC p u (if p = 1 then 32 else 0) b) False := by
  refine' enterF (names := [Str.ofString "self", Str.ofString "octets", Str.ofString "page", Str.ofString "usable"]) ?ho ?hcd ?hb ?hl ?hn ?hlen ?h1 ?h2 ?h3 ?h4 ?h5 ?_
  case ho => k_is
  case hcd => k_is
  case hl => decide
  case hn => decide
  case hlen => rfl
  case h1 => rfl
  case h2 => rfl
  case h3 => rfl
  case h4 => decide
  case h5 => decide
  case hb => exact bind4 fun _ _ _ _ _ => BindsTo.of_eq rfl
  intro Γ E hE hP hα
  clear hα
  with_unfolding_all refine S_attr rfl ?_
  refine TE_callB (by rfl) (by k_is) boot_bytearray (by decide) (by rfl) .type (by rfl) ?_
  refine TA_cons ?_ rfl
  refine TE_local rfl rfl rfl ?_
  refine TA_nil ?_
  refine oc_bytearray_bytes (by omega) ?_
  refine TE_local rfl rfl rfl ?_
  refine oa_inst (by rfl) ⟨by k_is, by k_is, by k_is, by k_is⟩ (of_decide_eq_true rfl) ?_
  with_unfolding_all refine S_attr rfl ?_
  refine TE_local rfl rfl rfl ?_
  refine TE_local rfl rfl rfl ?_
  refine oa_inst (by rfl) ⟨by k_is, by k_is, by k_is, by k_is⟩ (of_decide_eq_true rfl) ?_
  with_unfolding_all refine S_attr rfl ?_
  refine TE_local rfl rfl rfl ?_
  refine TE_local rfl rfl rfl ?_
  refine oa_inst (by rfl) ⟨by k_is, by k_is, by k_is, by k_is⟩ (of_decide_eq_true rfl) ?_
  with_unfolding_all refine S_attr rfl ?_
  refine TE_int ?_
  refine TE_local rfl rfl rfl ?_
  refine oa_inst (by rfl) ⟨by k_is, by k_is, by k_is, by k_is⟩ (of_decide_eq_true rfl) ?_
  refine S_if ?_
  refine TB_hide fun K hK => ?_
  refine TB_Compare ?_ rfl
  refine TE_local rfl rfl rfl ?_
  refine TE_int ?_
  refine op_eq ?_
  refine OT_bool ?_
  refine hK _ _ ?_
  refine if_eq (fun hp => ?_) (fun hp => ?_)
  · with_unfolding_all refine S_attr rfl ?_
    refine TE_glob (v := .pure (.int _)) rfl ⟨_, by k_is, .int⟩ rfl ?_
    refine TE_local rfl rfl rfl ?_
    refine oa_inst (by rfl) ⟨by k_is, by k_is, by k_is, by k_is⟩ (of_decide_eq_true rfl) ?_
    refine TSs_nil ?_
    refine seq_next ?_
    refine TSs_nil ?_
    exact .same ⟨rfl, rfl, by rw [if_pos hp]; rfl⟩
  · refine TSs_nil ?_
    refine seq_next ?_
    refine TSs_nil ?_
    exact .same ⟨rfl, rfl, by rw [if_neg hp]; rfl⟩
theorem node_f (w : World) (b : List Int) (p u : Int) (hz : b.length ≤ 1000) : Can w true 2 572 [.pure (.bytes b), .int p, .int u] [] (fun v c => v = .ref 0 ∧ c = nodeC p u (if p = 1 then 32 else 0) b) False :=
  can_make (Q := fun v c => v = .ref 0 ∧ c = nodeC p u (if p = 1 then 32 else 0) b) (by k_is) (by k_is) (by k_is) (view_init_f w b p u hz)
end
section
noncomputable def lens (l : List (List Int)) : Int := (l.map fun ks => (ks.length : Int)).sum
noncomputable def ends : Int → List (List Int) → List (List Int)
  | _, [] => []
  | a, ks :: r => [(a - ks.length) / 256, (a - ks.length) % 256] :: ends (a - ks.length) r
theorem lens_append (l r : List (List Int)) : lens (l ++ r) = lens l + lens r := by unfold lens; rw [List.map_append, List.sum_append]
theorem ends_append : ∀ (l r : List (List Int)) (a : Int), ends a (l ++ r) = ends a l ++ ends (a - lens l) r
  | [], r, a => by show ends a r = ends (a - 0) r; rw [Int.sub_zero]
  | ks :: l, r, a => by
    show _ :: ends _ (l ++ r) = _ :: (ends _ l ++ _)
    rw [ends_append l r]
    show _ = _ :: (_ ++ ends (a - ((ks.length : Int) + lens l)) r)
    rw [show a - (ks.length : Int) - lens l = a - ((ks.length : Int) + lens l) by omega]
theorem ends_length : ∀ (l : List (List Int)) (a : Int), (ends a l).length = l.length
  | [], _ => rfl
  | _ :: l, a => congrArg Nat.succ (ends_length l _)
theorem lens_le : ∀ {l : List (List Int)}, (∀ ks ∈ l, ks.length ≤ 6) → 0 ≤ lens l ∧ lens l ≤ 6 * (l.length : Int)
  | [], _ => by decide
  | ks :: l, h => by
    have ih := lens_le (l := l) fun k hk => h k (.tail _ hk)
    have h1 := h ks (.head _)
    have e : lens (ks :: l) = (ks.length : Int) + lens l := rfl
    rw [List.length_cons, e]
    omega
noncomputable def headL (kind n z right : Int) : List Int := [kind, 0, 0, n / 256, n % 256, z / 256, z % 256, 0] ++ if kind = 13 ∨ kind = 10 then [] else [0, 0, right / 256, right % 256]
theorem headL_len (k n z r : Int) : (headL k n z r).length = if k = 13 ∨ k = 10 then 8 else 12 := by unfold headL; split <;> rfl
theorem ends_flat : ∀ (l : List (List Int)) (a : Int), (ends a l).flatten.length = 2 * l.length
  | [], _ => rfl
  | ks :: l, a => by
    show ([_, _] ++ (ends _ l).flatten).length = 2 * (l.length + 1)
    rw [List.length_append, ends_flat l]; show 2 + _ = _; omega
theorem flat_lens : ∀ l : List (List Int), ((l.flatten.length : Nat) : Int) = lens l
  | [] => rfl
  | ks :: l => by
    show (((ks ++ l.flatten).length : Nat) : Int) = (ks.length : Int) + lens l
    rw [List.length_append, ← flat_lens l]; omega
theorem lens_rev (l : List (List Int)) : lens l.reverse = lens l := by
  unfold lens; rw [List.map_reverse, List.sum_reverse]
theorem cellZ_sum : ∀ {l : List (List Int)}, (∀ ks ∈ l, 4 ≤ ks.length) → (l.map cellZ).sum = 2 * (l.length : Int) + lens l
  | [], _ => rfl
  | ks :: l, h => by
    have ih := cellZ_sum (l := l) fun k hk => h k (.tail _ hk)
    have h1 := h ks (.head _)
    rw [List.map_cons, List.sum_cons, ih, List.length_cons]
    show cellZ ks + _ = _ + ((ks.length : Int) + lens l)
    unfold cellZ
    split <;> omega
noncomputable def pageImg (old : List Int) (base kind right : Int) (kss : List (List Int)) : List Int :=
  old.take base.toNat ++ headL kind kss.length (128 - lens kss) right ++ (ends 128 kss).flatten ++ List.replicate (128 - lens kss - ((old.take base.toNat ++ headL kind kss.length (128 - lens kss) right ++ (ends 128 kss).flatten).length : Nat)).toNat 0 ++ kss.reverse.flatten
theorem fits_f (w : World) (pgs kss : List (List Int)) (p k r : Int) (hz : kss.length < 1000) (hk : ∀ ks ∈ kss, ks.length < 1000) :
    Can w false 4 408 [.ref 0, .int p, .ref 3] (storeC pgs ++ [contentI k r kss]) (fun v c => v = .pure (.bool (decide ((kss.map cellZ).sum ≤ 128 - (if p = 1 then 32 else 0) - (if k = 13 ∨ k = 10 then 8 else 12)))) ∧ c = storeC pgs ++ [contentI k r kss]) False := by
  refine' enterF (names := [Str.ofString "pager", Str.ofString "page", Str.ofString "content"]) ?ho ?hcd ?hb ?hl ?hn ?hlen ?h1 ?h2 ?h3 ?h4 ?h5 ?_
  case ho => k_is
  case hcd => k_is
  case hl => decide
  case hn => decide
  case hlen => rfl
  case h1 => rfl
  case h2 => rfl
  case h3 => rfl
  case h4 => decide
  case h5 => decide
  case hb => exact bind3 fun _ _ _ _ => BindsTo.of_eq rfl
  intro Γ E hE hP hα
  clear hα
  refine S_ret ?_
  refine TE_Compare ?_ rfl
  refine TE_callK (by rfl) (by k_is) (by rfl) (.own (by k_is)) (by rfl) ?_
  refine TA_cons ?_ rfl
  refine TE_Attr ?_ rfl
  refine TE_local rfl rfl rfl ?_
  refine op_attr (by rfl) ⟨by k_is, by k_is, by k_is⟩ (by rfl) (by rfl) ?_
  refine TA_nil ?_
  refine OC_can (total_f w kss hz hk) [] (.inl rfl) (by decide) (fun h => h.elim) rfl rfl ⟨by decide, rfl, rfl⟩ ?_
  rintro r c ⟨rfl, rfl⟩ -
  refine TE_callK (by rfl) (by k_is) (by rfl) (.own (by k_is)) (by rfl) ?_
  refine TA_cons ?_ rfl
  refine TE_local rfl rfl rfl ?_
  refine TA_cons ?_ rfl
  refine TE_Attr ?_ rfl
  refine TE_local rfl rfl rfl ?_
  refine op_attr (by rfl) ⟨by k_is, by k_is, by k_is⟩ (by rfl) (by rfl) ?_
  refine TA_cons ?_ rfl
  refine TE_Attr ?_ rfl
  refine TE_local rfl rfl rfl ?_
  refine op_attr (by rfl) ⟨by k_is, by k_is, by k_is⟩ (by rfl) (by rfl) ?_
  refine TA_nil ?_
  refine OC_can (capacity_f w _ _ _) [] (.inl rfl) (by decide) (fun h => h.elim) rfl rfl ⟨by decide, rfl, rfl⟩ ?_
  rintro r c ⟨rfl, rfl⟩ -
  refine op_le ?_
  exact .same ⟨rfl, rfl⟩
noncomputable abbrev wl (p base z : Int) : Loc := [(Str.ofString "pager", .ref 0), (Str.ofString "page", .int p), (Str.ofString "content", .ref 3), (Str.ofString "size", .int 128), (Str.ofString "base", .int base), (Str.ofString "pointers", .ref 4), (Str.ofString "cells", .ref 5), (Str.ofString "at", .int z)]
noncomputable abbrev wc (pgs kss : List (List Int)) (k r : Int) (i : Nat) : List AO := storeC pgs ++ [contentI k r kss, .list ((ends 128 (kss.take i)).map .bytes), .list ((kss.take i).map .bytes)]
theorem wcont_f (w : World) (pgs kss : List (List Int)) (p k r : Int) (hks : ∀ ks ∈ kss, 4 ≤ ks.length ∧ ks.length ≤ 6) (hn : kss.length ≤ 5) (hlen : ∀ ks ∈ pgs, ks.length = 128) (hp : pgs.length < 900) (p0 : 1 ≤ p) (p1 : p ≤ (pgs.length : Int))
    (hkind : k = 2 ∨ k = 5 ∨ k = 10 ∨ k = 13) (r0 : 0 ≤ r) (r1 : r < 65536) (hroom : (kss.map cellZ).sum ≤ 128 - (if p = 1 then 32 else 0) - (if k = 13 ∨ k = 10 then 8 else 12)) :
    Can w true 6 415 [.ref 0, .int p, .ref 3] (storeC pgs ++ [contentI k r kss]) (fun v c => v = .none' ∧ c = storeC (pgs.set (p - 1).toNat (pageImg (pgs.getD (p - 1).toNat []) (if p = 1 then 32 else 0) k r kss)) ++ [contentI k r kss]) False := by
  refine' enterF (names := [Str.ofString "pager", Str.ofString "page", Str.ofString "content"]) ?ho ?hcd ?hb ?hl ?hn ?hlen ?h1 ?h2 ?h3 ?h4 ?h5 ?_
  case ho => k_is
  case hcd => k_is
  case hl => decide
  case hn => decide
  case hlen => rfl
  case h1 => rfl
  case h2 => rfl
  case h3 => rfl
  case h4 => decide
  case h5 => decide
  case hb => exact bind3 fun _ _ _ _ => BindsTo.of_eq rfl
  intro Γ E hE hP hα
  replace hα : id _ := hα
  refine S_if ?_
  refine TB_hide fun K hK => ?_
  refine TB_not ?_
  refine TB_te ?_ rfl
  refine TE_callK (by rfl) (by k_is) (by rfl) (.own (by k_is)) (by rfl) ?_
  refine TA_cons ?_ rfl
  refine TE_local rfl rfl rfl ?_
  refine TA_cons ?_ rfl
  refine TE_local rfl rfl rfl ?_
  refine TA_cons ?_ rfl
  refine TE_local rfl rfl rfl ?_
  refine TA_nil ?_
  refine OC_can (fits_f w pgs kss p k r (by omega) (fun ks h => Nat.lt_of_le_of_lt (hks ks h).2 (by decide))) [0, 1, 2, 3] (.inl rfl) (by decide) (fun h => h.elim) rfl rfl ⟨by decide, rfl, rfl⟩ ?_
  rintro _ c ⟨rfl, rfl⟩ -
  refine OT_bool ?_
  refine hK _ _ ?_
  rw [decide_eq_true hroom]
  refine if_f ?_
  refine TSs_nil ?_
  refine seq_next ?_
  refine S_tup (names := [Str.ofString "size", Str.ofString "base"]) rfl rfl rfl (by decide) ?_
  refine TA_cons ?_ rfl
  refine TE_Attr ?_ rfl
  refine TE_local rfl rfl rfl ?_
  refine op_attr (by rfl) ⟨by k_is, by k_is, by k_is⟩ (by rfl) (by rfl) ?_
  refine TA_cons ?_ rfl
  refine TE_callK (by rfl) (by k_is) (by rfl) (.own (by k_is)) (by rfl) ?_
  refine TA_cons ?_ rfl
  refine TE_local rfl rfl rfl ?_
  refine TA_nil ?_
  refine OC_can (base_of_f w p) [] (.inl rfl) (by decide) (fun h => h.elim) rfl rfl ⟨by decide, rfl, rfl⟩ ?_
  rintro _ c ⟨rfl, rfl⟩ -
  generalize hbase : (if p = 1 then (32 : Int) else 0) = base at *
  have hbv : base = 32 ∨ base = 0 := by rw [← hbase]; split <;> simp
  refine TA_nil ?_
  refine ⟨rfl, ?_⟩
  refine S_tup (names := [Str.ofString "pointers", Str.ofString "cells", Str.ofString "at"]) rfl rfl rfl (by decide) ?_
  refine TA_cons ?_ rfl
  refine TE_ListC ?_
  refine TA_nil ?_
  refine ⟨rfl, by decide, ?_⟩
  refine TA_cons ?_ rfl
  refine TE_ListC ?_
  refine TA_nil ?_
  refine ⟨rfl, by decide, ?_⟩
  refine TA_cons ?_ rfl
  refine TE_local rfl rfl rfl ?_
  refine TA_nil ?_
  refine ⟨rfl, ?_⟩
  refine TSs_wk (Wk.locs (l' := wl p base 128) (by simp only [List.forall_mem_cons]; exact ⟨rfl, rfl, rfl, rfl, rfl, rfl, rfl, rfl, fun _ h => nomatch h⟩) ?_)
  refine S_seq (TS_For (fun _ => rfl) ?_)
  generalize hQ : Seq Γ _ _ _ = Q'
  refine TE_Attr ?_ rfl
  refine TE_local rfl rfl rfl ?_
  refine op_attr (by rfl) ⟨by k_is, by k_is, by k_is⟩ (by rfl) (by rfl) ?_
  refine fo_list hP (.inl rfl) (fun i l c => l = wl p base (128 - lens (kss.take i)) ∧ c = wc pgs kss k r i) ⟨by rw [show (128 : Int) - lens (kss.take 0) = 128 from rfl], rfl⟩ (fun i l c hi hJ => ?_) (fun l c hJ => ?_)
  · clear hroom hbv hbase hkind r0 r1 hp p0 p1
    obtain ⟨rfl, rfl⟩ := hJ
    rw [List.length_map] at hi
    rw [getD_map (f := D.bytes) ([] : List Int) D.none hi]
    have hm : kss.getD i [] ∈ kss := by rw [List.getD_eq_getElem?_getD, List.getElem?_eq_getElem hi]; exact List.getElem_mem hi
    obtain ⟨k4, k6⟩ := hks _ hm
    have htk := take_snoc ([] : List Int) hi
    obtain ⟨hl0, hl1⟩ := lens_le (l := kss.take i) fun x hx => (hks x (List.mem_of_mem_take hx)).2
    have hl2 : (kss.take i).length ≤ kss.length := by rw [List.length_take]; omega
    generalize kss.getD i [] = ks at *
    with_unfolding_all refine S_assign (.inl rfl) rfl ?_
    refine TE_hide fun K hK => ?_
    refine TE_BinOp ?_
    refine TE_local rfl rfl rfl ?_
    refine TE_callB (by rfl) (by k_is) boot_bytes' (by decide) (by rfl) .type (by rfl) ?_
    refine TA_cons ?_ rfl
    refine TE_callB (by rfl) (by k_is) boot_max' (by decide) (by rfl) .blt (by rfl) ?_
    refine TA_cons ?_ rfl
    refine TE_int ?_
    refine TA_cons ?_ rfl
    refine TE_BinOp ?_
    refine TE_glob (v := .pure (.int _)) rfl ⟨_, by k_is, .int⟩ rfl ?_
    refine TE_callB (by rfl) (by k_is) boot_len' (by decide) (by rfl) .blt (by rfl) ?_
    refine TA_cons ?_ rfl
    refine TE_local rfl rfl rfl ?_
    refine TA_nil ?_
    refine oc_blen (by omega) ?_
    refine op_sub ?_
    refine TA_nil ?_
    refine oc_max ?_
    refine TA_nil ?_
    have hmx : (0 : Int) ≤ (if (4 - (ks.length : Int)) > 0 then 4 - (ks.length : Int) else 0) ∧ (if (4 - (ks.length : Int)) > 0 then 4 - (ks.length : Int) else 0) = 0 := by split <;> omega
    refine oc_bytes_int hmx.1 (by rw [hmx.2]; decide) ?_
    rw [hmx.2]
    refine op_bcat (by first | exact lm_i (by omega) | exact lm_n (by omega) | (simp only [List.length_map, List.length_cons, List.length_nil, List.length_append, List.length_take, List.length_drop, List.length_reverse, List.length_set, List.length_replicate, List.length_dropLast]; omega)) ?_
    refine hK _ _ ?_
    with_unfolding_all refine S_assign (.inl rfl) rfl ?_
    refine TE_hide fun K hK => ?_
    refine TE_BinOp ?_
    refine TE_local rfl rfl rfl ?_
    refine TE_callB (by rfl) (by k_is) boot_len' (by decide) (by rfl) .blt (by rfl) ?_
    refine TA_cons ?_ rfl
    refine TE_local rfl rfl rfl ?_
    refine TA_nil ?_
    refine oc_blen (by first | exact lm_i (by omega) | exact lm_n (by omega) | (simp only [List.length_map, List.length_cons, List.length_nil, List.length_append, List.length_take, List.length_drop, List.length_reverse, List.length_set, List.length_replicate, List.length_dropLast]; omega)) ?_
    refine op_sub ?_
    refine hK _ _ ?_
    with_unfolding_all refine S_expr rfl rfl ?_
    (refine' TE_meth ?hp ?he ?_; (case hp => rfl); (case he => rfl); rotate_left)
    refine TE_local rfl rfl rfl ?_
    refine ⟨om_append rfl, .blt, ?_⟩
    refine TA_cons ?_ rfl
    (refine' TE_meth ?hp ?he ?_; (case hp => rfl); (case he => rfl); rotate_left)
    refine TE_local rfl rfl rfl ?_
    refine ⟨om_to_bytes, .blt, ?_⟩
    refine TA_cons ?_ rfl
    refine TE_glob (v := .pure (.int _)) rfl ⟨_, by k_is, .int⟩ rfl ?_
    refine TA_cons ?_ rfl
    refine TE_str ?_
    refine TA_nil ?_
    rw [show ks ++ List.replicate (Int.toNat 0) 0 = ks from List.append_nil ks]
    have hel := ends_length (kss.take i) 128
    refine oc_to_bytes2 (by omega) (by omega) ?_
    refine TA_nil ?_
    refine oc_append (by rfl) (by first | exact lm_i (by omega) | exact lm_n (by omega) | (simp only [List.length_map, List.length_cons, List.length_nil, List.length_append, List.length_take, List.length_drop, List.length_reverse, List.length_set, List.length_replicate, List.length_dropLast]; omega)) ?_
    with_unfolding_all refine S_expr rfl rfl ?_
    (refine' TE_meth ?hp ?he ?_; (case hp => rfl); (case he => rfl); rotate_left)
    refine TE_local rfl rfl rfl ?_
    refine ⟨om_append rfl, .blt, ?_⟩
    refine TA_cons ?_ rfl
    refine TE_local rfl rfl rfl ?_
    refine TA_nil ?_
    refine oc_append (by rfl) (by first | exact lm_i (by omega) | exact lm_n (by omega) | (simp only [List.length_map, List.length_cons, List.length_nil, List.length_append, List.length_take, List.length_drop, List.length_reverse, List.length_set, List.length_replicate, List.length_dropLast]; omega)) ?_
    refine TSs_nil ?_
    have hlq : lens (kss.take i ++ [ks]) = lens (kss.take i) + ks.length := by rw [lens_append]; show _ + ((ks.length : Int) + 0) = _; rw [Int.add_zero]
    have hz : (128 : Int) - lens (kss.take (i + 1)) = 128 - lens (kss.take i) - ks.length := by rw [htk, hlq]; omega
    show Wk _ _ _ _
    refine Wk.locs (l' := wl p base (128 - lens (kss.take (i + 1)))) (by rw [hz]; simp only [List.forall_mem_cons]; exact ⟨rfl, rfl, rfl, rfl, rfl, rfl, rfl, rfl, fun _ h => nomatch h⟩) ⟨rfl, ?_⟩
    show _ = storeC pgs ++ [contentI k r kss, .list ((ends 128 (kss.take (i + 1))).map .bytes), .list ((kss.take (i + 1)).map .bytes)]
    rw [htk, ends_append, List.map_append, List.map_append]
    rfl
  · subst hQ
    clear hbase
    obtain ⟨rfl, rfl⟩ := hJ
    rw [List.length_map, List.take_length]
    rw [show wc pgs kss k r kss.length = storeC pgs ++ [contentI k r kss, .list ((ends 128 kss).map .bytes), .list (kss.map .bytes)] by unfold wc; rw [List.take_length]]
    obtain ⟨hl0, hl1⟩ := lens_le (l := kss) fun x hx => (hks x hx).2
    refine seq_next ?_
    with_unfolding_all refine S_assign (.inl rfl) rfl ?_
    refine TE_hide fun K hK => ?_
    refine TE_BinOp ?_
    refine TE_BinOp ?_
    refine TE_BinOp ?_
    refine TE_callB (by rfl) (by k_is) boot_bytes' (by decide) (by rfl) .type (by rfl) ?_
    refine TA_cons ?_ rfl
    have hel := ends_length kss 128
    refine TE_ListP ?_
    refine TA_cons ?_ rfl
    refine TE_Attr ?_ rfl
    refine TE_local rfl rfl rfl ?_
    refine op_attr (by rfl) ⟨by k_is, by k_is, by k_is⟩ (by rfl) (by rfl) ?_
    refine TA_cons ?_ rfl
    refine TE_int ?_
    refine TA_cons ?_ rfl
    refine TE_int ?_
    refine TA_nil ?_
    refine ⟨rfl, of_decide_eq_true rfl, ?_⟩
    refine TA_nil ?_
    refine oc_bytes_list (ns := [k, 0, 0]) (by intro n hn; simp only [List.mem_cons, List.not_mem_nil, or_false] at hn; omega) (of_decide_eq_true rfl) ?_
    (refine' TE_meth ?hp ?he ?_; (case hp => rfl); (case he => rfl); rotate_left)
    refine TE_callB (by rfl) (by k_is) boot_len' (by decide) (by rfl) .blt (by rfl) ?_
    refine TA_cons ?_ rfl
    refine TE_Attr ?_ rfl
    refine TE_local rfl rfl rfl ?_
    refine op_attr (by rfl) ⟨by k_is, by k_is, by k_is⟩ (by rfl) (by rfl) ?_
    refine TA_nil ?_
    refine oc_len (by exact .pure) (by first | exact lm_i (by omega) | exact lm_n (by omega) | (simp only [List.length_map, List.length_cons, List.length_nil, List.length_append, List.length_take, List.length_drop, List.length_reverse, List.length_set, List.length_replicate, List.length_dropLast]; omega)) ?_
    refine ⟨om_to_bytes, .blt, ?_⟩
    refine TA_cons ?_ rfl
    refine TE_int ?_
    refine TA_cons ?_ rfl
    refine TE_str ?_
    refine TA_nil ?_
    rw [List.length_map]
    refine oc_to_bytes2 (by omega) (by omega) ?_
    refine op_bcat (of_decide_eq_true rfl) ?_
    (refine' TE_meth ?hp ?he ?_; (case hp => rfl); (case he => rfl); rotate_left)
    refine TE_local rfl rfl rfl ?_
    refine ⟨om_to_bytes, .blt, ?_⟩
    refine TA_cons ?_ rfl
    refine TE_int ?_
    refine TA_cons ?_ rfl
    refine TE_str ?_
    refine TA_nil ?_
    refine oc_to_bytes2 (by omega) (by omega) ?_
    refine op_bcat (of_decide_eq_true rfl) ?_
    refine TE_callB (by rfl) (by k_is) boot_bytes' (by decide) (by rfl) .type (by rfl) ?_
    refine TA_cons ?_ rfl
    refine TE_int ?_
    refine TA_nil ?_
    refine oc_bytes_int (by decide) (by decide) ?_
    refine op_bcat (of_decide_eq_true rfl) ?_
    have hhl := headL_len k kss.length (128 - lens kss) r
    refine hK _ _ ?_
    refine S_seq (TS.mono (Q := fun fl l c => fl = .next ∧ l = Loc.put (Str.ofString "head") (.pure (.bytes (headL k kss.length (128 - lens kss) r))) (wl p base (128 - lens kss)) ∧ c = storeC pgs ++ [contentI k r kss, .list ((ends 128 kss).map .bytes), .list (kss.map .bytes)]) (TS_If ?_) ?_)
    · refine TB_not ?_
      refine TB_te ?_ rfl
      refine TE_callK (by rfl) (by k_is) (by rfl) (.own (by k_is)) (by rfl) ?_
      refine TA_cons ?_ rfl
      refine TE_Attr ?_ rfl
      refine TE_local rfl rfl rfl ?_
      refine op_attr (by rfl) ⟨by k_is, by k_is, by k_is⟩ (by rfl) (by rfl) ?_
      refine TA_nil ?_
      refine OC_can (is_leaf_f w _) [] (.inl rfl) (by decide) (fun h => h.elim) rfl rfl ⟨by decide, rfl, rfl⟩ ?_
      rintro _ c ⟨rfl, rfl⟩ -
      refine OT_bool ?_
      refine if_ndec (fun hq => ?_) (fun hq => ?_)
      · with_unfolding_all refine S_assign (.inl rfl) rfl ?_
        refine TE_hide fun K hK => ?_
        refine TE_BinOp ?_
        refine TE_local rfl rfl rfl ?_
        refine TE_callK (by rfl) (by k_is) (by rfl) (.own (by k_is)) (by rfl) ?_
        refine TA_cons ?_ rfl
        refine TE_Attr ?_ rfl
        refine TE_local rfl rfl rfl ?_
        refine op_attr (by rfl) ⟨by k_is, by k_is, by k_is⟩ (by rfl) (by rfl) ?_
        refine TA_nil ?_
        refine OC_can (four_octets_f w r r0 r1) [] (.inr rfl) (by decide) (fun h => h.elim) rfl rfl ⟨by decide, rfl, rfl⟩ ?_
        rintro _ c ⟨rfl, rfl⟩ -
        refine op_bcat (of_decide_eq_true rfl) ?_
        refine hK _ _ ?_
        refine TSs_nil ?_
        refine ⟨rfl, ?_, rfl⟩
        unfold headL
        rw [if_neg hq]
        rfl
      · refine TSs_nil ?_
        refine ⟨rfl, ?_, rfl⟩
        unfold headL
        rw [if_pos hq]
        rfl
    · rintro _ _ _ ⟨rfl, rfl, rfl⟩
      have hpl : (pgs.getD (p - 1).toNat []).length = 128 := hlen _ (by rw [List.getD_eq_getElem?_getD, List.getElem?_eq_getElem (by omega)]; exact List.getElem_mem _)
      generalize hold : pgs.getD (p - 1).toNat [] = old at *
      generalize hhd : headL k kss.length (128 - lens kss) r = hdl at *
      refine seq_next ?_
      with_unfolding_all refine S_assign (.inl rfl) rfl ?_
      refine TE_BinOp ?_
      refine TE_BinOp ?_
      refine TE_SliceTo ?_
      (refine' TE_meth ?hp ?he ?_; (case hp => rfl); (case he => rfl); rotate_left)
      refine TE_local rfl rfl rfl ?_
      refine ⟨om_inst (by rfl) ⟨by k_is, by k_is, by k_is⟩ (by rfl), .own (by k_is), ?_⟩
      refine TA_cons ?_ rfl
      refine TE_local rfl rfl rfl ?_
      refine TA_nil ?_
      refine OC_can (read_page_f w pgs p (by omega) p0 p1) [0, 1, 2] (.inl rfl) (by decide) (fun h => h.elim) rfl rfl ⟨by decide, rfl, rfl⟩ ?_
      rintro _ c ⟨rfl, rfl⟩ -
      rw [hold]
      refine TE_local rfl rfl rfl ?_
      have hhl' : hdl.length ≤ 12 := by rw [hhl]; split <;> omega
      refine osl_bytes (ks := old) (by omega) (by omega) (by omega) ?_ (fun _ _ _ => rfl)
      refine TE_local rfl rfl rfl ?_
      refine op_bcat (by first | exact lm_i (by omega) | exact lm_n (by omega) | (simp only [List.length_map, List.length_cons, List.length_nil, List.length_append, List.length_take, List.length_drop, List.length_reverse, List.length_set, List.length_replicate, List.length_dropLast]; omega)) ?_
      (refine' TE_meth ?hp ?he ?_; (case hp => rfl); (case he => rfl); rotate_left)
      refine TE_bytes ?_
      refine ⟨om_join, .blt, ?_⟩
      refine TA_cons ?_ rfl
      refine TE_local rfl rfl rfl ?_
      refine TA_nil ?_
      have hcz := cellZ_sum (l := kss) fun x hx => (hks x hx).1
      have hef := ends_flat kss 128
      have hfl : ((old.take base.toNat ++ hdl ++ (ends 128 kss).flatten).length : Int) = base + hdl.length + 2 * kss.length := by
        rw [List.length_append, List.length_append, List.length_take, hef]; omega
      have hrm : base + hdl.length + 2 * kss.length ≤ 128 - lens kss := by
        rw [hcz] at hroom
        rw [hhl]
        split at hroom <;> rename_i hq
        · rw [if_pos hq]; omega
        · rw [if_neg hq]; omega
      refine oc_join (kss := ends 128 kss) (.ref rfl) (by omega) ?_
      refine op_bcat (by first | exact lm_i (by omega) | exact lm_n (by omega) | (simp only [List.length_map, List.length_cons, List.length_nil, List.length_append, List.length_take, List.length_drop, List.length_reverse, List.length_set, List.length_replicate, List.length_dropLast]; omega)) ?_
      with_unfolding_all refine S_expr rfl rfl ?_
      (refine' TE_meth ?hp ?he ?_; (case hp => rfl); (case he => rfl); rotate_left)
      refine TE_local rfl rfl rfl ?_
      refine ⟨om_reverse rfl, .blt, ?_⟩
      refine TA_nil ?_
      refine oc_reverse rfl (by rw [List.length_map]; omega) ?_
      rw [← List.map_reverse]
      with_unfolding_all refine S_expr rfl rfl ?_
      (refine' TE_meth ?hp ?he ?_; (case hp => rfl); (case he => rfl); rotate_left)
      refine TE_local rfl rfl rfl ?_
      refine ⟨om_inst (by rfl) ⟨by k_is, by k_is, by k_is⟩ (by rfl), .own (by k_is), ?_⟩
      refine TA_cons ?_ rfl
      refine TE_local rfl rfl rfl ?_
      refine TA_cons ?_ rfl
      refine TE_BinOp ?_
      refine TE_BinOp ?_
      refine TE_local rfl rfl rfl ?_
      refine TE_callB (by rfl) (by k_is) boot_bytes' (by decide) (by rfl) .type (by rfl) ?_
      refine TA_cons ?_ rfl
      refine TE_BinOp ?_
      refine TE_local rfl rfl rfl ?_
      refine TE_callB (by rfl) (by k_is) boot_len' (by decide) (by rfl) .blt (by rfl) ?_
      refine TA_cons ?_ rfl
      refine TE_local rfl rfl rfl ?_
      refine TA_nil ?_
      refine oc_blen (by omega) ?_
      refine op_sub ?_
      refine TA_nil ?_
      refine oc_bytes_int (by omega) (by omega) ?_
      generalize hfr : old.take base.toNat ++ hdl ++ (ends 128 kss).flatten = front at *
      have hrv := flat_lens kss.reverse
      rw [lens_rev] at hrv
      refine op_bcat (by first | exact lm_i (by omega) | exact lm_n (by omega) | (simp only [List.length_map, List.length_cons, List.length_nil, List.length_append, List.length_take, List.length_drop, List.length_reverse, List.length_set, List.length_replicate, List.length_dropLast]; omega)) ?_
      (refine' TE_meth ?hp ?he ?_; (case hp => rfl); (case he => rfl); rotate_left)
      refine TE_bytes ?_
      refine ⟨om_join, .blt, ?_⟩
      refine TA_cons ?_ rfl
      refine TE_local rfl rfl rfl ?_
      refine TA_nil ?_
      refine oc_join (kss := kss.reverse) (.ref rfl) (by omega) ?_
      refine op_bcat (by first | exact lm_i (by omega) | exact lm_n (by omega) | (simp only [List.length_map, List.length_cons, List.length_nil, List.length_append, List.length_take, List.length_drop, List.length_reverse, List.length_set, List.length_replicate, List.length_dropLast]; omega)) ?_
      refine TA_nil ?_
      refine OC_can (write_page_f w pgs p _ (by rw [List.length_append, List.length_append, List.length_replicate]; omega) (by omega) p0 p1) [0, 1, 2] (.inl rfl) (by decide) (fun h => h.elim) rfl rfl ⟨by decide, rfl, rfl⟩ ?_
      rintro _ c ⟨rfl, rfl⟩ -
      refine TSs_nil ?_
      refine .sel [0, 1, 2, 3] .none' (storeC (pgs.set (p - 1).toNat (pageImg old base k r kss)) ++ [contentI k r kss]) ⟨by decide, ?_, rfl⟩ rfl rfl (fun i hi => ?_) ⟨rfl, rfl⟩
      · unfold pageImg
        rw [hhd, hfr]
        rfl
      · have : i = 0 ∨ i = 1 ∨ i = 2 ∨ i = 3 := by have : i < 4 := hi; omega
        rcases this with rfl | rfl | rfl | rfl <;> rfl
end
section
noncomputable def PageFits (ks : List Int) (base : Int) (row : List Int) : Prop :=
  ks.length = 128 ∧ 0 ≤ base ∧ base < 128 ∧ ((row = [] ∧ (ks.getD base.toNat 0 = 13 ∨ ks.getD base.toNat 0 = 10)) ∨ PageIs ks base 128 row)
theorem children_f (w : World) (p b : Int) (ks row : List Int) (h : PageFits ks b row) : Can w false 5 328 [.ref 0] (nodeC p 128 b ks) (fun r c => r = .pure (.list (row.map .int)) ∧ c = nodeC p 128 b ks) False := by
  obtain ⟨hl, h0, h1, hk⟩ := h
  refine' enterFK (names := [Str.ofString "self"]) ?ho ?hcd ?hb ?hl ?hn ?hlen ?h1 ?h2 ?h3 ?h4 ?h5 ?h6 ?_
  case ho => k_is
  case hcd => k_is
  case hl => rfl
  case hn => decide
  case hlen => rfl
  case h1 => rfl
  case h2 => rfl
  case h3 => rfl
  case h4 => decide
  case h5 => decide
  case h6 => decide
  case hb => exact bind1 fun _ _ => BindsTo.of_eq rfl
  intro Γ ho _ hα
  clear hα
  refine S_if ?_
  refine TB_hide fun K hK => ?_
  refine TB_te ?_ rfl
  (refine' TE_meth ?hp ?he ?_; (case hp => rfl); (case he => rfl); rotate_left)
  refine TE_cell rfl rfl rfl ?_
  refine ⟨om_inst (by rfl) ⟨by k_is, by k_is, by k_is⟩ (by rfl), .own (by k_is), ?_⟩
  refine TA_nil ?_
  refine OC_can (isleaf_f w p 128 b ks h0 (by omega) (by omega) (by rcases hk with ⟨_, h | h⟩ | h; exact .inr (.inr (.inr h)); exact .inr (.inr (.inl h)); exact h.kind.elim .inl fun h => .inr (.inl h))) [0, 1] (.inl rfl) (by decide) (fun h => h.elim) rfl rfl ⟨by decide, rfl, rfl⟩ ?_
  rintro _ c ⟨rfl, rfl⟩ -
  refine OT_bool ?_
  refine hK _ _ ?_
  rcases hk with ⟨rfl, hk⟩ | hp
  · rw [decide_eq_true (show ks.getD b.toNat 0 = 13 ∨ ks.getD b.toNat 0 = 10 from hk)]
    refine if_t ?_
    refine S_ret ?_
    refine TE_hide fun K hK => ?_
    refine TE_ListP ?_
    refine TA_nil ?_
    refine ⟨rfl, by decide, ?_⟩
    refine hK _ _ ?_
    exact .same ⟨rfl, rfl⟩
  · have hne := hp.ne
    have hcnt := hp.cnt
    have hroom := hp.room
    rw [decide_eq_false (show ¬ (ks.getD b.toNat 0 = 13 ∨ ks.getD b.toNat 0 = 10) from by rcases hp.kind with e | e <;> rw [e] <;> decide)]
    refine if_f ?_
    refine TSs_nil ?_
    refine seq_next ?_
    refine S_ret ?_
    refine TE_Comp ⟨rfl, rfl, by decide, rfl⟩ [(Str.ofString "self", .ref 0)] (by simp only [List.forall_mem_cons]; exact ⟨⟨rfl, by decide⟩, fun _ h => nomatch h⟩) (fun _ => rfl) ?_
    refine TE_callB (by rfl) (by k_is) boot_range' (by decide) (by rfl) .type (by rfl) ?_
    refine TA_cons ?_ rfl
    refine TE_BinOp ?_
    (refine' TE_meth ?hp ?he ?_; (case hp => rfl); (case he => rfl); rotate_left)
    refine TE_cell rfl rfl rfl ?_
    refine ⟨om_inst (by rfl) ⟨by k_is, by k_is, by k_is⟩ (by rfl), .own (by k_is), ?_⟩
    refine TA_nil ?_
    refine OC_can (count_f w p 128 b ks h0 (by omega) (by omega)) [0, 1] (.inl rfl) (by decide) (fun h => h.elim) rfl rfl ⟨by decide, rfl, rfl⟩ ?_
    rintro _ c ⟨rfl, rfl⟩ -
    rw [hcnt]
    refine TE_int ?_
    refine op_add ?_
    refine TA_nil ?_
    refine oc_range1 ?_
    refine .range (n := row.length) (fun i r => r = (row.take i).map .int) (by omega) (by omega) (by omega) rfl (fun i Γ' acc hi hK => ?_) (fun r hr => ?_)
    · show TE _ _ _ _ _ _
      (refine' TE_meth ?hp ?he ?_; (case hp => rfl); (case he => rfl); rotate_left)
      refine TE_cell rfl rfl rfl ?_
      refine ⟨om_inst (by rfl) ⟨by k_is, by k_is, by k_is⟩ (by rfl), .own (by k_is), ?_⟩
      refine TA_cons ?_ rfl
      refine TE_local rfl rfl rfl ?_
      refine TA_nil ?_
      refine OC_can (child_f w p 128 b ks row hp _ (by omega) (by omega)) [0, 1] (.inl rfl) (by decide) (fun h => h.elim) rfl rfl ⟨by decide, rfl, rfl⟩ ?_
      rintro _ c ⟨rfl, rfl⟩ -
      exact ⟨rfl, _, rfl, by rw [hK, take_snoc 0 hi, List.map_append, show (0 + (i : Int)).toNat = i by omega]; rfl⟩
    · rw [List.take_length] at hr
      subst hr
      exact .same ⟨rfl, rfl⟩
end
section
theorem exc51 (w : World) : Exc51 w := ⟨by k_is, by k_is, by k_is, by k_is, by k_is, by k_is⟩
theorem exc_init_f (w : World) (s : PySem.Str) : Can w false 1 35 [.ref 0, .pure (.str s)] [.exc 51 false] (fun r c => r = .none' ∧ c = [.exc 51 true]) False := by
  refine' enterF (names := [Str.ofString "self", Str.ofString "message"]) ?ho ?hcd ?hb ?hl ?hn ?hlen ?h1 ?h2 ?h3 ?h4 ?h5 ?_
  case ho => k_is
  case hcd => k_is
  case hl => decide
  case hn => decide
  case hlen => rfl
  case h1 => rfl
  case h2 => rfl
  case h3 => rfl
  case h4 => decide
  case h5 => decide
  case hb => exact bind2 fun _ _ _ => BindsTo.of_eq rfl
  intro Γ E hE hP hα
  clear hα
  with_unfolding_all refine S_attr rfl ?_
  refine TE_local rfl rfl rfl ?_
  refine TE_local rfl rfl rfl ?_
  refine oa_exc (exc51 w) rfl ?_
  refine TSs_nil ?_
  exact .same ⟨rfl, rfl⟩
theorem usable_f (w : World) (pgs : List (List Int)) : Can w false 1 595 [.ref 3] (treesC pgs) (fun v c => v = .int 128 ∧ c = treesC pgs) False := by
  refine' enterF (names := [Str.ofString "self"]) ?ho ?hcd ?hb ?hl ?hn ?hlen ?h1 ?h2 ?h3 ?h4 ?h5 ?_
  case ho => k_is
  case hcd => k_is
  case hl => decide
  case hn => decide
  case hlen => rfl
  case h1 => rfl
  case h2 => rfl
  case h3 => rfl
  case h4 => decide
  case h5 => decide
  case hb => exact bind1 fun _ _ => BindsTo.of_eq rfl
  intro Γ E hE hP hα
  clear hα
  refine S_ret ?_
  refine TE_hide fun K hK => ?_
  refine TE_Attr ?_ rfl
  refine TE_Attr ?_ rfl
  refine TE_local rfl rfl rfl ?_
  refine op_attr (by rfl) ⟨by k_is, by k_is, by k_is⟩ (by rfl) (by rfl) ?_
  refine op_attr (by rfl) ⟨by k_is, by k_is, by k_is⟩ (by rfl) (by rfl) ?_
  refine hK _ _ ?_
  exact .same ⟨rfl, rfl⟩
theorem tnode_f (w : World) (pgs : List (List Int)) (page : Int) (hz : pgs.length < 1000) (hlen : ∀ ks ∈ pgs, ks.length = 128) (b0 : -1000000 < page) (b1 : page < 1000000) :
    Can w true 4 602 [.ref 3, .int page] (treesC pgs) (fun v c => 1 ≤ page ∧ page ≤ (pgs.length : Int) ∧ v = .ref 4 ∧ c = treesC pgs ++ (nodeC page 128 (if page = 1 then 32 else 0) (pgs.getD (page - 1).toNat [])).map (AO.ren [4, 5])) (page < 1 ∨ (pgs.length : Int) < page) := by
  refine' enterFG (names := [Str.ofString "self", Str.ofString "page"]) ?ho ?hcd ?hb ?hl ?hn ?hlen ?h1 ?h2 ?h3 ?h4 ?h5 ?_
  case ho => k_is
  case hcd => k_is
  case hl => decide
  case hn => decide
  case hlen => rfl
  case h1 => rfl
  case h2 => rfl
  case h3 => rfl
  case h4 => decide
  case h5 => decide
  case hb => exact bind2 fun _ _ _ => BindsTo.of_eq rfl
  intro Γ E hE hR hP hα _
  clear hα
  refine S_if ?_
  refine TB_or ?_
  refine TB_Compare ?_ rfl
  refine TE_local rfl rfl rfl ?_
  refine TE_int ?_
  refine op_lt ?_
  refine OT_bool ?_
  refine if_dec (fun hp => ?_) (fun hp => ?_)
  · refine S_raise (exc51 w) (exc_init_f w) (by decide) hR (.inl hp) rfl (by k_is) (.own (by k_is)) rfl rfl ?_
    refine TA_cons ?_ rfl
    refine TE_Joined (by simp only [List.forall_mem_cons]; exact ⟨.str (by decide), .int rfl rfl rfl (by omega), fun _ h => nomatch h⟩) (by decide) fun s => ?_
    refine TA_nil ?_
    exact ⟨s, rfl⟩
  refine TB_or ?_
  refine TB_Compare ?_ rfl
  refine TE_local rfl rfl rfl ?_
  (refine' TE_meth ?hp ?he ?_; (case hp => rfl); (case he => rfl); rotate_left)
  refine TE_Attr ?_ rfl
  refine TE_local rfl rfl rfl ?_
  refine op_attr (by rfl) ⟨by k_is, by k_is, by k_is⟩ (by rfl) (by rfl) ?_
  refine ⟨om_inst (by rfl) ⟨by k_is, by k_is, by k_is⟩ (by rfl), .own (by k_is), ?_⟩
  refine TA_nil ?_
  refine OC_can (page_count_f w pgs hz) [0, 1, 2] (.inl rfl) (by decide) (fun h => h.elim) rfl rfl ⟨by decide, rfl, rfl⟩ ?_
  rintro _ c ⟨rfl, rfl⟩ -
  refine op_gt ?_
  refine OT_bool ?_
  refine if_dec (fun hq => ?_) (fun hq => ?_)
  · refine S_raise (exc51 w) (exc_init_f w) (by decide) hR (.inr hq) rfl (by k_is) (.own (by k_is)) rfl rfl ?_
    refine TA_cons ?_ rfl
    refine TE_Joined (by simp only [List.forall_mem_cons]; exact ⟨.str (by decide), .int rfl rfl rfl (by omega), fun _ h => nomatch h⟩) (by decide) fun s => ?_
    refine TA_nil ?_
    exact ⟨s, rfl⟩
  have hb : (pgs.getD (page - 1).toNat []).length = 128 := hlen _ (by rw [List.getD_eq_getElem?_getD, List.getElem?_eq_getElem (by omega)]; exact List.getElem_mem _)
  refine TB_or_nil ?_
  refine if_f ?_
  refine TSs_nil ?_
  refine seq_next ?_
  refine S_ret ?_
  refine TE_hide fun K hK => ?_
  refine TE_callK (by rfl) (by k_is) (by rfl) (.own (by k_is)) (by rfl) ?_
  refine TA_cons ?_ rfl
  (refine' TE_meth ?hp ?he ?_; (case hp => rfl); (case he => rfl); rotate_left)
  refine TE_Attr ?_ rfl
  refine TE_local rfl rfl rfl ?_
  refine op_attr (by rfl) ⟨by k_is, by k_is, by k_is⟩ (by rfl) (by rfl) ?_
  refine ⟨om_inst (by rfl) ⟨by k_is, by k_is, by k_is⟩ (by rfl), .own (by k_is), ?_⟩
  refine TA_cons ?_ rfl
  refine TE_local rfl rfl rfl ?_
  refine TA_nil ?_
  refine OC_can (read_page_f w pgs page hz (by omega) (by omega)) [0, 1, 2] (.inl rfl) (by decide) (fun h => h.elim) rfl rfl ⟨by decide, rfl, rfl⟩ ?_
  rintro _ c ⟨rfl, rfl⟩ -
  refine TA_cons ?_ rfl
  refine TE_local rfl rfl rfl ?_
  refine TA_cons ?_ rfl
  (refine' TE_meth ?hp ?he ?_; (case hp => rfl); (case he => rfl); rotate_left)
  refine TE_local rfl rfl rfl ?_
  refine ⟨om_inst (by rfl) ⟨by k_is, by k_is, by k_is⟩ (by rfl), .own (by k_is), ?_⟩
  refine TA_nil ?_
  refine OC_can (usable_f w pgs) [0, 1, 2, 3] (.inl rfl) (by decide) (fun h => h.elim) rfl rfl ⟨by decide, rfl, rfl⟩ ?_
  rintro _ c ⟨rfl, rfl⟩ -
  refine TA_nil ?_
  refine OC_can (node_f w _ page 128 (by omega)) [] (.inr rfl) (by decide) (fun h => h.elim) rfl rfl ⟨by decide, rfl, rfl⟩ ?_
  rintro _ c ⟨rfl, rfl⟩ -
  refine hK _ _ ?_
  exact .same ⟨by omega, by omega, rfl, rfl⟩
end
section
theorem last_split {l : List Int} (h : 0 < l.length) : l = l.dropLast ++ [l.getLastD 0] := by
  obtain ⟨l', x, rfl⟩ : ∃ l' x, l = l' ++ [x] := ⟨l.dropLast, l.getLast (List.ne_nil_of_length_pos h), (List.dropLast_concat_getLast _).symm⟩
  simp
theorem rev_head {l : List Int} (h : 0 < l.length) : l.reverse.getD 0 0 = l.getLastD 0 := by
  rw [last_split h]; simp
theorem rev_tail {l : List Int} (h : 0 < l.length) : l.reverse.drop 1 = l.dropLast.reverse := by
  conv => lhs; rw [last_split h]
  simp
theorem getD_len {rows : List (List Int)} {b : Nat} (h : ∀ r ∈ rows, r.length ≤ b) (i : Nat) : (rows.getD i []).length ≤ b := by
  rw [List.getD_eq_getElem?_getD]
  cases e : rows[i]? with
  | none => exact Nat.zero_le _
  | some r => exact h r (List.mem_of_getElem? e)
noncomputable abbrev pl (root : Int) : Loc := [(Str.ofString "trees", .ref 3), (Str.ofString "root", .int root), (Str.ofString "found", .ref 4), (Str.ofString "left", .ref 5), (Str.ofString "seen", .ref 6)]
noncomputable abbrev pc (pgs : List (List Int)) (found left : List Int) : List AO := treesC pgs ++ [.list (found.map .int), .list (left.map .int), .set found]
noncomputable def PagesJ (pgs rows : List (List Int)) (n : Nat) (root : Int) (k : Nat) (l : Loc) (c : List AO) : Prop :=
  ∃ found left : List Int, l = pl root ∧ c = pc pgs found left ∧ found.length ≤ n ∧ left.length ≤ 1 + 10 * found.length ∧ k + found.length = n + 1 ∧ due rows n (n + 1) [] [root] = due rows n k found left.reverse ∧ found.Nodup ∧ (∀ p ∈ found, 1 ≤ p ∧ p ≤ (n : Int)) ∧ ∀ p ∈ left, 0 ≤ p ∧ p ≤ 65535
theorem pages_of_f (w : World) (pgs rows : List (List Int)) (n : Nat) (hn : rows.length = n) (hk : pgs.length = n) (hn6 : n ≤ 6) (h10 : ∀ r ∈ rows, r.length ≤ 10) (hin2 : ∀ r ∈ rows, ∀ p ∈ r, 0 ≤ p ∧ p ≤ 65535)
    (hfit : ∀ i, i < n → PageFits (pgs.getD i []) (if i = 0 then 32 else 0) (rows.getD i [])) (root : Int) (r0 : 0 ≤ root) (r1 : root ≤ 65535) :
    Can w true 7 72 [.ref 3, .int root] (treesC pgs) (fun v c => ∃ ns : List Int, due rows n (n + 1) [] [root] = some ns ∧ v = .pure (.list (ns.map .int)) ∧ c = treesC pgs) (due rows n (n + 1) [] [root] = none) := by
  have h128 : ∀ ks ∈ pgs, ks.length = 128 := fun ks hks => by
    obtain ⟨i, hi, rfl⟩ := List.getElem_of_mem hks
    have := (hfit i (by omega)).1
    rwa [List.getD_eq_getElem?_getD, List.getElem?_eq_getElem hi] at this
  refine' enterFG (names := [Str.ofString "trees", Str.ofString "root"]) ?ho ?hcd ?hb ?hl ?hn ?hlen ?h1 ?h2 ?h3 ?h4 ?h5 ?_
  case ho => k_is
  case hcd => k_is
  case hl => decide
  case hn => decide
  case hlen => rfl
  case h1 => rfl
  case h2 => rfl
  case h3 => rfl
  case h4 => decide
  case h5 => decide
  case hb => exact bind2 fun _ _ _ => BindsTo.of_eq rfl
  intro Γ E hE hR hP hα _
  replace hα : id _ := hα
  with_unfolding_all refine S_assign (.inl rfl) rfl ?_
  refine TE_hide fun K hK => ?_
  refine TE_ListC ?_
  refine TA_nil ?_
  refine ⟨rfl, by decide, ?_⟩
  refine hK _ _ ?_
  with_unfolding_all refine S_assign (.inl rfl) rfl ?_
  refine TE_hide fun K hK => ?_
  refine TE_ListC ?_
  refine TA_cons ?_ rfl
  refine TE_local rfl rfl rfl ?_
  refine TA_nil ?_
  refine ⟨rfl, of_decide_eq_true rfl, ?_⟩
  refine hK _ _ ?_
  with_unfolding_all refine S_assign (.inl rfl) rfl ?_
  refine TE_hide fun K hK => ?_
  refine TE_callB (by rfl) (by k_is) boot_set' (by decide) (by rfl) .type (by rfl) ?_
  refine TA_nil ?_
  refine oc_set_new ?_
  refine hK _ _ ?_
  refine S_seq (TS_While hP (PagesJ pgs rows n root) (n + 1) ⟨[], [root], rfl, rfl, by simp, by simp, by simp, rfl, .nil, (fun _ h => nomatch h), by simp only [List.forall_mem_cons]; exact ⟨⟨r0, r1⟩, fun _ h => nomatch h⟩⟩ ?_)
  rintro k l c ⟨found, left, rfl, rfl, hfl, hll, hk', hdue, hnd, hin, hlf⟩
  refine TB_Compare ?_ rfl
  refine TE_local rfl rfl rfl ?_
  refine TE_ListP ?_
  refine TA_nil ?_
  refine ⟨rfl, by decide, ?_⟩
  refine op_ne_ints (ns := left) (ms := []) (.ref rfl) .pure (by decide) ?_
  refine OT_bool ?_
  by_cases h0 : left = []
  · rw [decide_eq_true h0]
    refine if_f ?_
    refine seq_next ?_
    refine S_ret ?_
    refine TE_hide fun K hK => ?_
    refine TE_local rfl rfl rfl ?_
    refine hK _ _ ?_
    refine .frz [0, 1, 2, 3] 4 (found.map .int) (treesC pgs) ⟨by decide, rfl, rfl⟩ rfl rfl (by decide) (fun i hi => ?_) ⟨found, ?_, rfl, rfl⟩
    · have : i = 0 ∨ i = 1 ∨ i = 2 ∨ i = 3 := by have : i < 4 := hi; omega
      rcases this with rfl | rfl | rfl | rfl <;> rfl
    · rw [hdue, due_end (by omega) (by rw [h0]; rfl)]
  have hl0 : 0 < left.length := List.length_pos_iff.mpr h0
  rw [decide_eq_false h0]
  refine if_t ?_
  with_unfolding_all refine S_assign (.inl rfl) rfl ?_
  refine TE_hide fun K hK => ?_
  (refine' TE_meth ?hp ?he ?_; (case hp => rfl); (case he => rfl); rotate_left)
  refine TE_local rfl rfl rfl ?_
  refine ⟨om_pop rfl, .blt, ?_⟩
  refine TA_nil ?_
  refine oc_pop (ns := left) rfl hl0 (by omega) ?_
  obtain ⟨lo, hi⟩ := hlf (left.getLastD 0) (by rw [last_split (l := left) (by omega)]; simp)
  have hrh := rev_head hl0
  have hrt := rev_tail hl0
  have hdl : left.dropLast.length = left.length - 1 := List.length_dropLast ..
  generalize hpg : left.getLastD 0 = pg at *
  refine hK _ _ ?_
  refine S_if ?_
  refine TB_hide fun K hK => ?_
  refine TB_Compare ?_ rfl
  refine TE_local rfl rfl rfl ?_
  refine TE_local rfl rfl rfl ?_
  refine op_in_set rfl (by omega) ?_
  refine OT_bool ?_
  refine hK _ _ ?_
  have hdn : pg ∈ found ∨ pg < 1 ∨ (n : Int) < pg → due rows n (n + 1) [] [root] = none := fun h => by
    rw [hdue]
    refine due_none (by omega) (by rw [List.length_reverse]; omega) ?_
    rw [hrh]
    exact h.imp (fun h => List.any_eq_true.mpr ⟨_, h, beq_self_eq_true _⟩) id
  refine if_dec (fun hp => ?_) (fun hnm => ?_)
  · refine S_raise (exc51 w) (exc_init_f w) (by decide) hR (hdn (.inl hp)) rfl (by k_is) (.own (by k_is)) rfl rfl ?_
    refine TA_cons ?_ rfl
    refine TE_Joined (by simp only [List.forall_mem_cons]; exact ⟨.str (by decide), .int rfl rfl rfl (by omega), .str (by decide), fun _ h => nomatch h⟩) (by decide) fun s => ?_
    refine TA_nil ?_
    exact ⟨s, rfl⟩
  refine TSs_nil ?_
  refine seq_next ?_
  with_unfolding_all refine S_expr rfl rfl ?_
  (refine' TE_meth ?hp ?he ?_; (case hp => rfl); (case he => rfl); rotate_left)
  refine TE_local rfl rfl rfl ?_
  refine ⟨om_set_add rfl (by omega), .blt, ?_⟩
  refine TA_cons ?_ rfl
  refine TE_local rfl rfl rfl ?_
  refine TA_nil ?_
  refine oc_set_add rfl (by omega) hnm ?_
  with_unfolding_all refine S_expr rfl rfl ?_
  (refine' TE_meth ?hp ?he ?_; (case hp => rfl); (case he => rfl); rotate_left)
  refine TE_local rfl rfl rfl ?_
  refine ⟨om_append rfl, .blt, ?_⟩
  refine TA_cons ?_ rfl
  refine TE_local rfl rfl rfl ?_
  refine TA_nil ?_
  refine oc_append (by rfl) (by first | exact lm_i (by omega) | exact lm_n (by omega) | (simp only [List.length_map, List.length_cons, List.length_nil, List.length_append, List.length_take, List.length_drop, List.length_reverse, List.length_set, List.length_replicate, List.length_dropLast]; omega)) ?_
  with_unfolding_all refine S_assign (.inl rfl) rfl ?_
  refine TE_BinOp ?_
  refine TE_local rfl rfl rfl ?_
  refine TE_SliceStep ?_
  (refine' TE_meth ?hp ?he ?_; (case hp => rfl); (case he => rfl); rotate_left)
  (refine' TE_meth ?hp ?he ?_; (case hp => rfl); (case he => rfl); rotate_left)
  refine TE_local rfl rfl rfl ?_
  refine ⟨om_inst (by rfl) ⟨by k_is, by k_is, by k_is⟩ (by rfl), .own (by k_is), ?_⟩
  refine TA_cons ?_ rfl
  refine TE_local rfl rfl rfl ?_
  refine TA_nil ?_
  refine OC_can (tnode_f w pgs pg (by omega) h128 (by omega) (by omega)) [0, 1, 2, 3] (.inr rfl) (by decide) (fun he => ⟨fun _ => hE.call (hdn (.inr (by omega)))⟩) rfl rfl ⟨by decide, rfl, rfl⟩ ?_
  rintro _ c ⟨p1, p2, rfl, rfl⟩ -
  refine ⟨om_inst (by rfl) ⟨by k_is, by k_is, by k_is⟩ (by rfl), .own (by k_is), ?_⟩
  refine TA_nil ?_
  have hpf : PageFits (pgs.getD (pg - 1).toNat []) (if pg = 1 then 32 else 0) (rows.getD (pg - 1).toNat []) := by
    have := hfit (pg - 1).toNat (by omega)
    by_cases hp1 : pg = 1
    · rw [if_pos hp1]; rw [if_pos (by omega)] at this; exact this
    · rw [if_neg hp1]; rw [if_neg (by omega)] at this; exact this
  have hrl := getD_len h10 (pg - 1).toNat
  have hrin : ∀ p ∈ rows.getD (pg - 1).toNat [], 0 ≤ p ∧ p ≤ 65535 := hin2 _ (by rw [List.getD_eq_getElem?_getD, List.getElem?_eq_getElem (by omega)]; exact List.getElem_mem _)
  generalize hrow : rows.getD (pg - 1).toNat [] = row at *
  refine OC_can (children_f w pg _ _ row hpf) [7, 8] (.inl rfl) (by decide) (fun h => h.elim) rfl rfl ⟨by decide, rfl, rfl⟩ ?_
  rintro _ c ⟨rfl, rfl⟩ -
  refine TE_Unary ?_
  refine TE_int ?_
  refine op_neg ?_
  refine osl_rev (ds := row.map .int) .pure (by rw [List.length_map]; omega) ?_ (fun _ _ => rfl)
  refine op_catC (ds := left.dropLast.map .int) (.ref rfl) .pure (by rw [List.length_map]; omega) (by rw [List.length_reverse, List.length_map]; omega) ?_
  refine TSs_nil ?_
  have hany : (found.any fun x => x == pg) = false := by
    cases e : found.any fun x => x == pg with
    | false => rfl
    | true => obtain ⟨x, hx, hxe⟩ := List.any_eq_true.mp e; rw [eq_of_beq hxe] at hx; exact absurd hx hnm
  have hin' : ∀ p ∈ found ++ [pg], 1 ≤ p ∧ p ≤ (n : Int) := fun p hp => by
    rcases List.mem_append.mp hp with hp | hp
    · exact hin p hp
    · rw [List.mem_singleton.mp hp]; omega
  have hnd' := due_nodup hnd hany
  have hlen' := nodup_len hnd' hin'
  rw [List.length_append, List.length_singleton] at hlen'
  show Wk _ _ _ _
  refine' Wk.sel [0, 1, 2, 3, 4, 9, 6] (l' := pl root) (c' := treesC pgs ++ [.list (found.map .int ++ [.int pg]), .list (left.dropLast.map .int ++ (row.map .int).reverse), .set (found ++ [pg])]) ?S hα ?hp ?hl ?J
  case S => exact ⟨by decide, rfl, rfl⟩
  case hp =>
    intro i hi
    have : i = 0 ∨ i = 1 ∨ i = 2 ∨ i = 3 := by have : i < 4 := hi; omega
    rcases this with rfl | rfl | rfl | rfl <;> rfl
  case hl =>
    simp only [List.forall_mem_cons]
    exact ⟨⟨rfl, rfl⟩, ⟨rfl, rfl⟩, ⟨rfl, rfl⟩, ⟨rfl, rfl⟩, ⟨rfl, rfl⟩, fun _ h => nomatch h⟩
  refine ⟨k - 1, by omega, found ++ [pg], left.dropLast ++ row.reverse, rfl, ?_, ?_, ?_, ?_, ?_, hnd', hin', ?_⟩
  · unfold pc
    rw [List.map_append, List.map_append, List.map_reverse]; rfl
  · rw [List.length_append, List.length_singleton]; omega
  · rw [List.length_append, List.length_append, List.length_singleton, List.length_reverse]; omega
  · rw [List.length_append, List.length_singleton]; omega
  · rw [hdue, due_step (by omega) (by rw [List.length_reverse]; omega) (by rw [hrh]; exact hany) (by rw [hrh]; omega) (by rw [hrh]; omega), hrh, hrow, hrt, List.reverse_append, List.reverse_reverse]
  · intro p hp
    rcases List.mem_append.mp hp with hp | hp
    · exact hlf p (List.dropLast_subset _ hp)
    · exact hrin p (List.mem_reverse.mp hp)
end
section
theorem take_next {α : Type} {l : List α} {i : Nat} {x : α} (h : l[i]? = some x) : l.take (i + 1) = l.take i ++ [x] := by rw [List.take_add_one, h]; rfl
theorem getD_app {A R : List Int} {j : Nat} : (A ++ R).getD (A.length + j) 0 = R.getD j 0 := by
  rw [List.getD_eq_getElem?_getD, List.getElem?_append_right (Nat.le_add_right _ _), Nat.add_sub_cancel_left, ← List.getD_eq_getElem?_getD]
theorem getD_left {A R : List Int} {j : Nat} (h : j < A.length) : (A ++ R).getD j 0 = A.getD j 0 := by
  rw [List.getD_eq_getElem?_getD, List.getElem?_append_left h, ← List.getD_eq_getElem?_getD]
theorem two_app {A R : List Int} {j : Nat} : two (A ++ R) (A.length + j) = two R j := by
  show (A ++ R).getD (A.length + j) 0 * 256 + (A ++ R).getD (A.length + (j + 1)) 0 = _
  rw [getD_app, getD_app]
theorem two_left {A R : List Int} {j : Nat} (h : j + 1 < A.length) : two (A ++ R) j = two A j := by
  show (A ++ R).getD j 0 * 256 + (A ++ R).getD (j + 1) 0 = _
  rw [getD_left (by omega), getD_left h]
theorem four_app {A R : List Int} {j : Nat} : four (A ++ R) (A.length + j) = four R j := by
  show two (A ++ R) (A.length + j) * 65536 + two (A ++ R) (A.length + (j + 2)) = _
  rw [two_app, two_app]
theorem four_left {A R : List Int} {j : Nat} (h : j + 3 < A.length) : four (A ++ R) j = four A j := by
  show two (A ++ R) j * 65536 + two (A ++ R) (j + 2) = _
  rw [two_left (by omega), two_left (by omega)]
theorem two_pair (x : Int) (R : List Int) : two ([x / 256, x % 256] ++ R) 0 = x := by
  show x / 256 * 256 + x % 256 = x
  omega
theorem ends_two : ∀ (l : List (List Int)) (a : Int) (i : Nat), i < l.length → two ((ends a l).flatten) (2 * i) = a - lens (l.take (i + 1))
  | ks :: l, a, 0, _ => by
    show two ([(a - ks.length) / 256, (a - ks.length) % 256] ++ _) 0 = a - ((ks.length : Int) + 0)
    rw [two_pair]; omega
  | ks :: l, a, i + 1, h => by
    show two ([(a - ks.length) / 256, (a - ks.length) % 256] ++ _) (2 * (i + 1)) = a - ((ks.length : Int) + lens (l.take (i + 1)))
    have e : 2 * (i + 1) = ([(a - ks.length) / 256, (a - ks.length) % 256] : List Int).length + 2 * i := by show _ = 2 + 2 * i; omega
    rw [e, two_app, ends_two l _ i (by simpa using h)]
    omega
theorem split_at {kss : List (List Int)} {i : Nat} (h : i < kss.length) : kss = kss.take i ++ (kss.getD i [] :: kss.drop (i + 1)) := by
  rw [List.getD_eq_getElem?_getD, List.getElem?_eq_getElem h]
  exact ((List.getElem_cons_drop h) ▸ (List.take_append_drop i kss)).symm
section
variable {old : List Int} {base kind right : Int} {kss : List (List Int)}
theorem img_split (kind right : Int) (kss : List (List Int)) (hold : old.length = 128) (hb : base = 32 ∨ base = 0) : ∃ A n, A.length = base.toNat ∧ pageImg old base kind right kss = A ++ (headL kind kss.length (128 - lens kss) right ++ ((ends 128 kss).flatten ++ (List.replicate n 0 ++ kss.reverse.flatten))) :=
  ⟨old.take base.toNat, _, by rw [List.length_take, hold]; omega, by unfold pageImg; simp only [List.append_assoc]; rfl⟩
theorem img_len (hold : old.length = 128) (hb : base = 32 ∨ base = 0) (hroom : base + (if kind = 13 ∨ kind = 10 then 8 else 12) + 2 * (kss.length : Int) + lens kss ≤ 128) : (pageImg old base kind right kss).length = 128 := by
  have h1 := flat_lens kss.reverse
  rw [lens_rev] at h1
  have hH := headL_len kind kss.length (128 - lens kss) right
  unfold pageImg
  simp only [List.length_append, List.length_take, List.length_replicate, ends_flat, hold, hH]
  split at hroom <;> rename_i hk <;> simp only [hk, if_true, if_false] <;> omega
theorem img_kind (hold : old.length = 128) (hb : base = 32 ∨ base = 0) : (pageImg old base kind right kss).getD base.toNat 0 = kind := by
  obtain ⟨A, n, hA, e⟩ := img_split kind right kss hold hb
  rw [e, ← hA]
  exact getD_app (j := 0)
theorem img_cnt (hold : old.length = 128) (hb : base = 32 ∨ base = 0) : two (pageImg old base kind right kss) (base + 3).toNat = kss.length := by
  obtain ⟨A, n, hA, e⟩ := img_split kind right kss hold hb
  rw [e, show (base + 3).toNat = A.length + 3 by omega, two_app]
  show (kss.length : Int) / 256 * 256 + (kss.length : Int) % 256 = _
  omega
theorem img_right (hold : old.length = 128) (hb : base = 32 ∨ base = 0) (hk : ¬ (kind = 13 ∨ kind = 10)) : four (pageImg old base kind right kss) (base + 8).toNat = right := by
  obtain ⟨A, n, hA, e⟩ := img_split kind right kss hold hb
  rw [e, show (base + 8).toNat = A.length + 8 by omega, four_app, headL, if_neg hk]
  show ((0 : Int) * 256 + 0) * 65536 + (right / 256 * 256 + right % 256) = _
  omega
theorem img_ptr (hold : old.length = 128) (hb : base = 32 ∨ base = 0) (hk : ¬ (kind = 13 ∨ kind = 10)) {i : Nat} (hi : i < kss.length) : two (pageImg old base kind right kss) (base + 12 + 2 * (i : Int)).toNat = 128 - lens (kss.take (i + 1)) := by
  obtain ⟨A, n, hA, e⟩ := img_split kind right kss hold hb
  have hH := headL_len kind kss.length (128 - lens kss) right
  rw [if_neg hk] at hH
  rw [e, show (base + 12 + 2 * (i : Int)).toNat = A.length + (12 + 2 * i) by omega, two_app, ← hH, two_app, two_left (by rw [ends_flat]; omega), ends_two _ _ _ hi]
theorem img_cell (hold : old.length = 128) (hb : base = 32 ∨ base = 0) (hroom : base + (if kind = 13 ∨ kind = 10 then 8 else 12) + 2 * (kss.length : Int) + lens kss ≤ 128) {i : Nat} (hi : i < kss.length) (h4 : 4 ≤ (kss.getD i []).length) :
    four (pageImg old base kind right kss) (128 - lens (kss.take (i + 1))).toNat = four (kss.getD i []) 0 := by
  have hlen := img_len (right := right) hold hb hroom
  obtain ⟨A, n, hA, e⟩ := img_split kind right kss hold hb
  have hs := split_at hi
  have e2 : kss.reverse.flatten = (kss.drop (i + 1)).reverse.flatten ++ (kss.getD i [] ++ (kss.take i).reverse.flatten) := by
    conv => lhs; rw [hs]
    simp only [List.reverse_append, List.reverse_cons, List.flatten_append, List.flatten_cons, List.flatten_nil, List.append_nil, List.append_assoc]
  have e3 : pageImg old base kind right kss = (A ++ (headL kind kss.length (128 - lens kss) right ++ ((ends 128 kss).flatten ++ (List.replicate n 0 ++ (kss.drop (i + 1)).reverse.flatten)))) ++ (kss.getD i [] ++ (kss.take i).reverse.flatten) := by
    rw [e, e2]; simp only [List.append_assoc]
  rw [e3] at hlen ⊢
  generalize A ++ (headL kind kss.length (128 - lens kss) right ++ ((ends 128 kss).flatten ++ (List.replicate n 0 ++ (kss.drop (i + 1)).reverse.flatten))) = P at *
  have h1 := flat_lens (kss.take i).reverse
  rw [lens_rev] at h1
  have h2 : lens (kss.take (i + 1)) = lens (kss.take i) + (kss.getD i []).length := by
    rw [take_next (x := kss.getD i []) (by rw [List.getD_eq_getElem?_getD, List.getElem?_eq_getElem hi]; rfl), lens_append]
    show _ + ((_ : Int) + 0) = _
    rw [Int.add_zero]
  rw [List.length_append, List.length_append] at hlen
  rw [show (128 - lens (kss.take (i + 1))).toNat = P.length + 0 by omega, four_app, four_left (by omega)]
end
noncomputable def cellOf (r : Bool) (k : Nat) (p : Int) : List Int := [0, 0, p / 256, p % 256] ++ if r = true then [64 + (k : Int)] else [1, 64 + (k : Int)]
noncomputable def cellsOf (r : Bool) (row : List Int) : List (List Int) := (List.range (row.length - 1)).map fun k => cellOf r k (row.getD k 0)
theorem cellsOf_len (r : Bool) (row : List Int) : (cellsOf r row).length = row.length - 1 := by unfold cellsOf; rw [List.length_map, List.length_range]
theorem cellOf_len (r : Bool) (k : Nat) (p : Int) : 5 ≤ (cellOf r k p).length ∧ (cellOf r k p).length ≤ 6 := by
  cases r
  · exact ⟨(show 5 ≤ 6 by decide), (show 6 ≤ 6 by decide)⟩
  · exact ⟨(show 5 ≤ 5 by decide), (show 5 ≤ 6 by decide)⟩
theorem cellsOf_mem {r : Bool} {row ks : List Int} (h : ks ∈ cellsOf r row) : 4 ≤ ks.length ∧ ks.length ≤ 6 := by
  obtain ⟨k, _, rfl⟩ := List.mem_map.mp h
  have := cellOf_len r k (row.getD k 0)
  omega
theorem cellsOf_get {r : Bool} {row : List Int} {i : Nat} (h : i < row.length - 1) : (cellsOf r row).getD i [] = cellOf r i (row.getD i 0) := by
  unfold cellsOf
  rw [List.getD_eq_getElem?_getD, List.getElem?_map, List.getElem?_range h]; rfl
theorem fits_inner {old : List Int} {base : Int} {r : Bool} {row : List Int} (hold : old.length = 128) (hb : base = 32 ∨ base = 0) (hn : row ≠ []) (h6 : row.length ≤ 6) (hp : ∀ p ∈ row, 0 ≤ p ∧ p ≤ 65535) :
    PageFits (pageImg old base (if r = true then 5 else 2) (row.getD (row.length - 1) 0) (cellsOf r row)) base row := by
  have hn0 : 0 < row.length := List.length_pos_iff.mpr hn
  have hcl := cellsOf_len r row
  obtain ⟨hl0, hl1⟩ := lens_le (l := cellsOf r row) fun ks h => (cellsOf_mem h).2
  have hk : ¬ ((if r = true then (5 : Int) else 2) = 13 ∨ (if r = true then (5 : Int) else 2) = 10) := by cases r <;> decide
  have hroom : base + (if (if r = true then (5 : Int) else 2) = 13 ∨ (if r = true then (5 : Int) else 2) = 10 then 8 else 12) + 2 * ((cellsOf r row).length : Int) + lens (cellsOf r row) ≤ 128 := by rw [if_neg hk]; omega
  have hlen := img_len (right := row.getD (row.length - 1) 0) hold hb hroom
  have hroom' : id _ := hroom
  have hk' : id _ := hk
  clear hroom hk
  have hb0 : 0 ≤ base ∧ base ≤ 32 := by rcases hb with h | h <;> rw [h] <;> decide
  refine ⟨hlen, by omega, by omega, .inr ⟨by omega, by omega, by omega, ?_, hn0, by omega, ?_, img_right hold hb hk', ?_⟩⟩
  · rw [img_kind hold hb]; cases r <;> simp
  · rw [img_cnt hold hb]; omega
  · intro i hi0 hi1
    obtain ⟨j, rfl⟩ : ∃ j : Nat, i = (j : Int) := ⟨i.toNat, by omega⟩
    have hj : j < (cellsOf r row).length := by omega
    have hg := cellsOf_get (r := r) (row := row) (i := j) (by omega)
    have h5 := cellOf_len r j (row.getD j 0)
    obtain ⟨ht0, ht1⟩ := lens_le (l := (cellsOf r row).take (j + 1)) fun ks h => (cellsOf_mem (List.mem_of_mem_take h)).2
    have h9 : lens ((cellsOf r row).take (j + 1)) + lens ((cellsOf r row).drop (j + 1)) = lens (cellsOf r row) := by rw [← lens_append, List.take_append_drop]
    obtain ⟨hd0, hd1⟩ := lens_le (l := (cellsOf r row).drop (j + 1)) fun ks h => (cellsOf_mem (List.mem_of_mem_drop h)).2
    have h2 : lens ((cellsOf r row).take (j + 1)) = lens ((cellsOf r row).take j) + (cellOf r j (row.getD j 0)).length := by
      rw [take_next (x := cellOf r j (row.getD j 0)) (by rw [← hg, List.getD_eq_getElem?_getD, List.getElem?_eq_getElem hj]; rfl), lens_append]
      show _ + ((_ : Int) + 0) = _
      rw [Int.add_zero]
    obtain ⟨hq0, hq1⟩ := lens_le (l := (cellsOf r row).take j) fun ks h => (cellsOf_mem (List.mem_of_mem_take h)).2
    have hptr := img_ptr (right := row.getD (row.length - 1) 0) hold hb hk' hj
    rw [hptr]
    clear hptr
    have hcell := img_cell (right := row.getD (row.length - 1) 0) hold hb hroom' hj (by rw [hg]; omega)
    refine ⟨by omega, by omega, ?_⟩
    rw [hcell, hg]
    have hpj := hp (row.getD j 0) (getD_mem (by omega))
    show ((0 : Int) * 256 + 0) * 65536 + (row.getD j 0 / 256 * 256 + row.getD j 0 % 256) = row.getD (j : Int).toNat 0
    rw [Int.toNat_natCast]
    omega
theorem fits_leaf {old : List Int} {base : Int} {r : Bool} (hold : old.length = 128) (hb : base = 32 ∨ base = 0) : PageFits (pageImg old base (if r = true then 13 else 10) 0 []) base [] := by
  refine ⟨img_len hold hb ?_, by omega, by omega, .inl ⟨rfl, ?_⟩⟩
  · have hk : ((if r = true then (13 : Int) else 10) = 13 ∨ (if r = true then (13 : Int) else 10) = 10) := by cases r <;> decide
    rw [if_pos hk]
    show base + 8 + 2 * 0 + 0 ≤ 128
    omega
  · rw [img_kind hold hb]; cases r <;> simp
end
section
section
variable {w : World} {κ : Bool} {sc : Scope} {lv : Nat} {Γ : Cx w κ sc lv} {E : Value → Shared → Prop} {loc : Loc} {cells : List AO} {Q : AV → List AO → Prop}
theorem TE_IfInt {test : PySem.Expr} {x y : Int} {n m : Nat} {p q pos : Pos} (h : TB Γ E test (eval test Γ.env) loc cells fun b c => Q (.int (if b = true then x else y)) c) : TE Γ E (.IfExp test (.Constant (.int x) n p) (.Constant (.int y) m q) pos) loc cells Q :=
  TE_If fun h₀ tk α F R => wpM_idE (h h₀ tk α F R) fun b _ o => o.mono .rfl (fun _ z => z) fun c _ _ _ _ z => by
    cases b with
    | true => rw [if_pos rfl] at z ⊢; exact TE_int z
    | false => rw [if_neg Bool.false_ne_true] at z ⊢; exact TE_int z
end
theorem set_all {pgs : List (List Int)} {i : Nat} {pg : List Int} (h : ∀ ks ∈ pgs, ks.length = 128) (hp : pg.length = 128) : ∀ ks ∈ pgs.set i pg, ks.length = 128 := fun ks hk => by
  rcases List.mem_or_eq_of_mem_set hk with hk | rfl
  · exact h ks hk
  · exact hp
theorem set_fits {pgs rows : List (List Int)} {i : Nat} {pg : List Int} (hi : i < pgs.length) (hfit : ∀ j, j < i → PageFits (pgs.getD j []) (if j = 0 then 32 else 0) (rows.getD j [])) (h : PageFits pg (if i = 0 then 32 else 0) (rows.getD i [])) :
    ∀ j, j < i + 1 → PageFits ((pgs.set i pg).getD j []) (if j = 0 then 32 else 0) (rows.getD j []) := fun j hj => by
  by_cases e : j = i
  · subst e
    rw [List.getD_eq_getElem?_getD, List.getElem?_set_self hi]; exact h
  · rw [List.getD_eq_getElem?_getD, List.getElem?_set_ne (fun q => e q.symm), ← List.getD_eq_getElem?_getD]
    exact hfit j (by omega)
noncomputable abbrev rowsV (rows : List (List Int)) : AV := .pure (.list (rows.map fun r => .list (r.map .int)))
noncomputable abbrev tl (rows : List (List Int)) (r : Bool) : Loc := [(Str.ofString "children", rowsV rows), (Str.ofString "is_rows_here", .pure (.bool r)), (Str.ofString "store", .ref 0)]
theorem store_all_f (w : World) (rows : List (List Int)) (r : Bool) (hn6 : rows.length ≤ 6) (h6 : ∀ x ∈ rows, x.length ≤ 6) (hp : ∀ x ∈ rows, ∀ p ∈ x, 0 ≤ p ∧ p ≤ 65535) :
    Can w true 7 677 [rowsV rows, .pure (.bool r)] [] (fun v c => ∃ pgs : List (List Int), v = .ref 0 ∧ c = storeC pgs ∧ pgs.length = rows.length ∧ ∀ i, i < rows.length → PageFits (pgs.getD i []) (if i = 0 then 32 else 0) (rows.getD i [])) False := by
  refine' enterFK (names := [Str.ofString "children", Str.ofString "is_rows_here"]) ?ho ?hcd ?hb ?hl ?hn ?hlen ?h1 ?h2 ?h3 ?h4 ?h5 ?h6 ?_
  case ho => k_is
  case hcd => k_is
  case hl => rfl
  case hn => decide
  case hlen => rfl
  case h1 => rfl
  case h2 => rfl
  case h3 => rfl
  case h4 => decide
  case h5 => decide
  case h6 => decide
  case hb => exact bind2 fun _ _ _ => BindsTo.of_eq rfl
  intro Γ ho _ hα
  replace hα : id _ := hα
  have hP : PassesOwn (model PG w) Γ.A Γ.env (fun _ _ => False) := PassesOwn.never
  with_unfolding_all refine S_assign (.inl rfl) rfl ?_
  refine TE_hide fun K hK => ?_
  refine TE_callK (by rfl) (by k_is) (by rfl) (.own (by k_is)) (by rfl) ?_
  refine TA_cons ?_ rfl
  refine TE_int ?_
  refine TA_nil ?_
  refine OC_can (store_f w) [] (.inl rfl) (by decide) (fun h => h.elim) rfl rfl ⟨by decide, rfl, rfl⟩ ?_
  rintro _ c ⟨rfl, rfl⟩ -
  refine hK _ _ ?_
  refine S_seq (TS_For (fun _ => rfl) ?_)
  generalize hQ : Seq Γ _ _ _ = Q'
  refine TE_local rfl rfl rfl ?_
  refine fo_list hP (.inr ⟨rfl, ho⟩) (fun i l c => l = tl rows r ∧ c = storeC (List.replicate i (List.replicate 128 0))) ⟨rfl, rfl⟩ (fun i l c hi hJ => ?_) (fun l c hJ => ?_)
  · obtain ⟨rfl, rfl⟩ := hJ
    rw [List.length_map] at hi
    with_unfolding_all refine S_expr rfl rfl ?_
    (refine' TE_meth ?hp ?he ?_; (case hp => rfl); (case he => rfl); rotate_left)
    refine TE_local rfl rfl rfl ?_
    refine ⟨om_inst (by rfl) ⟨by k_is, by k_is, by k_is⟩ (by rfl), .own (by k_is), ?_⟩
    refine TA_nil ?_
    refine OC_can (extend_f w _ (by rw [List.length_replicate]; omega)) [0, 1, 2] (.inl rfl) (by decide) (fun h => h.elim) rfl rfl ⟨by decide, rfl, rfl⟩ ?_
    rintro _ c ⟨rfl, rfl⟩ -
    refine TSs_nil ?_
    show Wk _ _ _ _
    refine' Wk.locs (l' := tl rows r) ?hl ⟨rfl, ?hc⟩
    case hl => simp only [List.forall_mem_cons]; exact ⟨rfl, rfl, rfl, fun _ h => nomatch h⟩
    case hc =>
      have e : List.replicate (i + 1) (List.replicate 128 (0 : Int)) = List.replicate i (List.replicate 128 0) ++ [List.replicate 128 0] := List.replicate_succ' ..
      show _ = storeC (List.replicate (i + 1) (List.replicate 128 0))
      rw [e]; rfl
  subst hQ
  obtain ⟨rfl, rfl⟩ := hJ
  rw [List.length_map]
  refine seq_next ?_
  refine S_seq (TS_For (fun _ => rfl) ?_)
  generalize hQ : Seq Γ _ _ _ = Q'
  refine TE_callB (by rfl) (by k_is) boot_range' (by decide) (by rfl) .type (by rfl) ?_
  refine TA_cons ?_ rfl
  refine TE_callB (by rfl) (by k_is) boot_len' (by decide) (by rfl) .blt (by rfl) ?_
  refine TA_cons ?_ rfl
  refine TE_local rfl rfl rfl ?_
  refine TA_nil ?_
  refine oc_len (by exact .pure) (by first | exact lm_i (by omega) | exact lm_n (by omega) | (simp only [List.length_map, List.length_cons, List.length_nil, List.length_append, List.length_take, List.length_drop, List.length_reverse, List.length_set, List.length_replicate, List.length_dropLast]; omega)) ?_
  refine TA_nil ?_
  refine oc_range1 ?_
  refine fo_range (n := rows.length) (by rw [List.length_map]; omega) (by omega) (by rw [List.length_map]; omega) hP (.inl rfl) (fun i l c => l = tl rows r ∧ ∃ pgs : List (List Int), c = storeC pgs ∧ pgs.length = rows.length ∧ (∀ ks ∈ pgs, ks.length = 128) ∧ ∀ j, j < i → PageFits (pgs.getD j []) (if j = 0 then 32 else 0) (rows.getD j []))
    ⟨rfl, List.replicate rows.length (List.replicate 128 0), rfl, List.length_replicate, (fun ks h => by rw [List.eq_of_mem_replicate h]; rfl), fun j h => absurd h (Nat.not_lt_zero j)⟩ (fun i l c hi hJ => ?_) (fun l c hJ => ?_)
  · have hα' := hα
    clear hα
    obtain ⟨rfl, pgs, rfl, hpl, h128, hfit⟩ := hJ
    refine S_assign (.inr ⟨rfl, ho⟩) rfl ?_
    refine TE_hide fun K hK => ?_
    refine TE_Sub ?_
    refine TE_local rfl rfl rfl ?_
    refine TE_local rfl rfl rfl ?_
    refine op_item (by exact .pure) (of_decide_eq_true rfl) (by first | exact lm_i (by omega) | exact lm_n (by omega) | (simp only [List.length_map, List.length_cons, List.length_nil, List.length_append, List.length_take, List.length_drop, List.length_reverse, List.length_set, List.length_replicate, List.length_dropLast]; omega)) (by first | exact lm_i (by omega) | exact lm_n (by omega) | (simp only [List.length_map, List.length_cons, List.length_nil, List.length_append, List.length_take, List.length_drop, List.length_reverse, List.length_set, List.length_replicate, List.length_dropLast]; omega)) ?_ (fun _ _ => rfl)
    rw [getD_map (f := fun x : List Int => D.list (x.map .int)) ([] : List Int) D.none (by omega)]
    have ei : (0 + (i : Int)).toNat = i := by omega
    rw [ei]
    have hm : rows.getD i [] ∈ rows := by rw [List.getD_eq_getElem?_getD, List.getElem?_eq_getElem hi]; exact List.getElem_mem hi
    have hrow6 := h6 _ hm
    have hrowp := hp _ hm
    generalize hrow : rows.getD i [] = row at *
    refine hK _ _ ?_
    refine S_if ?_
    refine TB_hide fun K hK => ?_
    refine TB_Compare ?_ rfl
    refine TE_cell rfl rfl rfl ?_
    refine TE_ListP ?_
    refine TA_nil ?_
    refine ⟨rfl, by decide, ?_⟩
    refine op_eq_ints (ns := row) (ms := []) .pure .pure (by decide) ?_
    refine OT_bool ?_
    refine hK _ _ ?_
    have hold : (pgs.getD i []).length = 128 := h128 _ (by rw [List.getD_eq_getElem?_getD, List.getElem?_eq_getElem (by omega)]; exact List.getElem_mem _)
    have hbv : (if i = 0 then (32 : Int) else 0) = 32 ∨ (if i = 0 then (32 : Int) else 0) = 0 := by split <;> simp
    have ebase : (if (0 + (i : Int) + 1) = 1 then (32 : Int) else 0) = if i = 0 then 32 else 0 := by
      by_cases h : i = 0
      · rw [if_pos h, if_pos (by omega)]
      · rw [if_neg h, if_neg (by omega)]
    have eidx : (0 + (i : Int) + 1 - 1).toNat = i := by omega
    refine if_dec (fun hr => ?_) (fun hr => ?_)
    · subst hr
      with_unfolding_all refine S_expr rfl rfl ?_
      refine TE_callK (by rfl) (by k_is) (by rfl) (.own (by k_is)) (by rfl) ?_
      refine TA_cons ?_ rfl
      refine TE_local rfl rfl rfl ?_
      refine TA_cons ?_ rfl
      refine TE_BinOp ?_
      refine TE_local rfl rfl rfl ?_
      refine TE_int ?_
      refine op_add ?_
      refine TA_cons ?_ rfl
      refine TE_callK (by rfl) (by k_is) (by rfl) (.own (by k_is)) (by rfl) ?_
      refine TA_cons ?_ rfl
      refine TE_IfInt ?_
      refine TB_te ?_ rfl
      refine TE_cell rfl rfl rfl ?_
      refine OT_bool ?_
      refine TA_cons ?_ rfl
      generalize hkd : (if r = true then (13 : Int) else 10) = kd
      have hkd' : kd = 13 ∨ kd = 10 := by rw [← hkd]; split <;> simp
      refine TE_ListP ?_
      refine TA_nil ?_
      refine ⟨rfl, by decide, ?_⟩
      refine TA_cons ?_ rfl
      refine TE_int ?_
      refine TA_nil ?_
      refine OC_can (content_f w kd 0 []) [] (.inl rfl) (by decide) (fun h => h.elim) rfl rfl ⟨by decide, rfl, rfl⟩ ?_
      rintro _ c ⟨rfl, rfl⟩ -
      refine TA_nil ?_
      refine OC_can (wcont_f w pgs [] _ kd 0 (fun _ h => nomatch h) (by decide) h128 (by omega) (by omega) (by omega) (by omega) (by decide) (by decide) (by show (0 : Int) ≤ _; rw [if_pos (show kd = 13 ∨ kd = 10 from hkd')]; split <;> decide)) [0, 1, 2, 3] (.inr rfl) (by decide) (fun h => h.elim) rfl rfl ⟨by decide, rfl, rfl⟩ ?_
      rintro _ c ⟨rfl, rfl⟩ -
      refine TSs_nil ?_
      refine seq_next ?_
      refine TSs_nil ?_
      rw [eidx, ebase]
      have hpf : PageFits (pageImg (pgs.getD i []) (if i = 0 then 32 else 0) kd 0 []) (if i = 0 then 32 else 0) [] := by rw [← hkd]; exact fits_leaf hold hbv
      show Wk _ _ _ _
      refine' Wk.sel [0, 1, 2] (l' := tl rows r) (c' := storeC (pgs.set i (pageImg (pgs.getD i []) (if i = 0 then 32 else 0) kd 0 []))) ?S hα' (fun i h => absurd h (Nat.not_lt_zero i)) ?hl ⟨rfl, _, rfl, ?q1, ?q2, ?q3⟩
      case S => exact ⟨by decide, rfl, rfl⟩
      case hl => simp only [List.forall_mem_cons]; exact ⟨⟨rfl, rfl⟩, ⟨rfl, rfl⟩, ⟨rfl, rfl⟩, fun _ h => nomatch h⟩
      case q1 => rw [List.length_set, hpl]
      case q2 => exact set_all h128 hpf.1
      case q3 => exact set_fits (by omega) hfit (hrow.symm ▸ hpf)
    have hr0 : 0 < row.length := List.length_pos_iff.mpr hr
    refine S_comp (.inl rfl) rfl ⟨rfl, rfl, by decide, rfl⟩ [(Str.ofString "row", .pure (.list (row.map .int))), (Str.ofString "is_rows_here", .pure (.bool r))] (by simp only [List.forall_mem_cons]; exact ⟨⟨rfl, by decide⟩, ⟨rfl, by decide⟩, fun _ h => nomatch h⟩) (fun _ => rfl) ?_
    refine TE_callB (by rfl) (by k_is) boot_range' (by decide) (by rfl) .type (by rfl) ?_
    refine TA_cons ?_ rfl
    refine TE_BinOp ?_
    refine TE_callB (by rfl) (by k_is) boot_len' (by decide) (by rfl) .blt (by rfl) ?_
    refine TA_cons ?_ rfl
    refine TE_cell rfl rfl rfl ?_
    refine TA_nil ?_
    refine oc_len (by exact .pure) (by first | exact lm_i (by omega) | exact lm_n (by omega) | (simp only [List.length_map, List.length_cons, List.length_nil, List.length_append, List.length_take, List.length_drop, List.length_reverse, List.length_set, List.length_replicate, List.length_dropLast]; omega)) ?_
    refine TE_int ?_
    refine op_sub ?_
    refine TA_nil ?_
    refine oc_range1 ?_
    rw [List.length_map]
    refine .range (n := row.length - 1) (fun i x => x = ((cellsOf r row).take i).map .bytes) (by omega) (by omega) (by omega) rfl (fun j Γ' acc hj hK => ?_) (fun x hx => ?_)
    · show TE _ _ _ _ _ _
      have ej : (0 + (j : Int)).toNat = j := by omega
      refine TE_BinOp ?_
      refine TE_callK (by rfl) (by k_is) (by rfl) (.own (by k_is)) (by rfl) ?_
      refine TA_cons ?_ rfl
      refine TE_Sub ?_
      refine TE_cell rfl rfl rfl ?_
      refine TE_local rfl rfl rfl ?_
      refine op_item (by exact .pure) (of_decide_eq_true rfl) (by first | exact lm_i (by omega) | exact lm_n (by omega) | (simp only [List.length_map, List.length_cons, List.length_nil, List.length_append, List.length_take, List.length_drop, List.length_reverse, List.length_set, List.length_replicate, List.length_dropLast]; omega)) (by first | exact lm_i (by omega) | exact lm_n (by omega) | (simp only [List.length_map, List.length_cons, List.length_nil, List.length_append, List.length_take, List.length_drop, List.length_reverse, List.length_set, List.length_replicate, List.length_dropLast]; omega)) ?_ (fun _ _ => rfl)
      refine TA_nil ?_
      rw [ej, getD_map (f := D.int) (0 : Int) D.none (by omega)]
      have hq := hrowp (row.getD j 0) (by rw [List.getD_eq_getElem?_getD, List.getElem?_eq_getElem (by omega)]; exact List.getElem_mem _)
      have hce : ((cellsOf r row).take (j + 1)).map D.bytes = ((cellsOf r row).take j).map D.bytes ++ [D.bytes (cellOf r j (row.getD j 0))] := by
        rw [take_snoc [] (by rw [cellsOf_len]; omega), cellsOf_get (by omega), List.map_append]; rfl
      rw [hce, ← hK]
      generalize row.getD j 0 = q at *
      refine OC_can (four_f w q (by omega) (by omega)) [] (.inl rfl) (by decide) (fun h => h.elim) rfl rfl ⟨by decide, rfl, rfl⟩ ?_
      rintro _ c ⟨rfl, rfl⟩ -
      refine TE_callB (by rfl) (by k_is) boot_bytes' (by decide) (by rfl) .type (by rfl) ?_
      refine TA_cons ?_ rfl
      refine TE_If ?_
      refine TB_not ?_
      refine TB_te ?_ rfl
      refine TE_cell rfl rfl rfl ?_
      refine OT_bool ?_
      cases r with
      | true =>
        refine if_f ?_
        refine TE_ListP ?_
        refine TA_cons ?_ rfl
        refine TE_BinOp ?_
        refine TE_int ?_
        refine TE_local rfl rfl rfl ?_
        refine op_add ?_
        refine TA_nil ?_
        refine ⟨rfl, of_decide_eq_true rfl, ?_⟩
        refine TA_nil ?_
        refine oc_bytes_list (ns := [64 + (0 + (j : Int))]) (by intro n hn; simp only [List.mem_cons, List.not_mem_nil, or_false] at hn; omega) (of_decide_eq_true rfl) ?_
        refine op_bcat (l := [0, 0, q / 256, q % 256]) (r := [64 + (0 + (j : Int))]) (of_decide_eq_true rfl) ?_
        exact ⟨rfl, _, rfl, by rw [show (0 : Int) + (j : Int) = j by omega]; rfl⟩
      | false =>
        refine if_t ?_
        refine TE_ListP ?_
        refine TA_cons ?_ rfl
        refine TE_int ?_
        refine TA_cons ?_ rfl
        refine TE_BinOp ?_
        refine TE_int ?_
        refine TE_local rfl rfl rfl ?_
        refine op_add ?_
        refine TA_nil ?_
        refine ⟨rfl, of_decide_eq_true rfl, ?_⟩
        refine TA_nil ?_
        refine oc_bytes_list (ns := [1, 64 + (0 + (j : Int))]) (by intro n hn; simp only [List.mem_cons, List.not_mem_nil, or_false] at hn; omega) (of_decide_eq_true rfl) ?_
        refine op_bcat (l := [0, 0, q / 256, q % 256]) (r := [1, 64 + (0 + (j : Int))]) (of_decide_eq_true rfl) ?_
        exact ⟨rfl, _, rfl, by rw [show (0 : Int) + (j : Int) = j by omega]; rfl⟩
    rw [List.take_of_length_le (by rw [cellsOf_len]; omega)] at hx
    subst hx
    with_unfolding_all refine S_expr rfl rfl ?_
    refine TE_callK (by rfl) (by k_is) (by rfl) (.own (by k_is)) (by rfl) ?_
    refine TA_cons ?_ rfl
    refine TE_local rfl rfl rfl ?_
    refine TA_cons ?_ rfl
    refine TE_BinOp ?_
    refine TE_local rfl rfl rfl ?_
    refine TE_int ?_
    refine op_add ?_
    refine TA_cons ?_ rfl
    refine TE_callK (by rfl) (by k_is) (by rfl) (.own (by k_is)) (by rfl) ?_
    refine TA_cons ?_ rfl
    refine TE_IfInt ?_
    refine TB_te ?_ rfl
    refine TE_cell rfl rfl rfl ?_
    refine OT_bool ?_
    refine TA_cons ?_ rfl
    refine TE_local rfl rfl rfl ?_
    refine TA_cons ?_ rfl
    refine TE_Sub ?_
    refine TE_cell rfl rfl rfl ?_
    refine TE_Unary ?_
    refine TE_int ?_
    refine op_neg ?_
    generalize hkd : (if r = true then (5 : Int) else 2) = kd
    have hkd' : kd = 5 ∨ kd = 2 := by rw [← hkd]; split <;> simp
    refine op_itemNeg (ds := row.map .int) .pure (by decide) (by rw [List.length_map]; omega) (by rw [List.length_map]; omega) ?_ (fun _ _ => rfl)
    rw [List.length_map, show ((-1 : Int) + (row.length : Int)).toNat = row.length - 1 by omega, getD_map (f := D.int) (0 : Int) D.none (by omega)]
    have hlast := hrowp (row.getD (row.length - 1) 0) (by rw [List.getD_eq_getElem?_getD, List.getElem?_eq_getElem (by omega)]; exact List.getElem_mem _)
    have hpf := fits_inner (old := pgs.getD i []) (base := if i = 0 then 32 else 0) (r := r) hold hbv hr hrow6 hrowp
    rw [hkd] at hpf
    have hcl := cellsOf_len r row
    have hcm : ∀ ks ∈ cellsOf r row, 4 ≤ ks.length ∧ ks.length ≤ 6 := fun ks h => cellsOf_mem h
    generalize row.getD (row.length - 1) 0 = last at *
    generalize cellsOf r row = kss at *
    refine TA_nil ?_
    refine OC_can (content_f w kd last kss) [] (.inl rfl) (by decide) (fun h => h.elim) rfl rfl ⟨by decide, rfl, rfl⟩ ?_
    rintro _ c ⟨rfl, rfl⟩ -
    refine TA_nil ?_
    have hcz := cellZ_sum fun ks h => (hcm ks h).1
    have hll := lens_le fun ks h => (hcm ks h).2
    refine OC_can (wcont_f w pgs kss _ kd last hcm (by omega) h128 (by omega) (by omega) (by omega) (by omega) (by omega) (by omega) (by rw [hcz, ebase, if_neg (show ¬ (kd = 13 ∨ kd = 10) by omega)]; rcases hbv with h | h <;> rw [h] <;> omega)) [0, 1, 2, 3] (.inr rfl) (by decide) (fun h => h.elim) rfl rfl ⟨by decide, rfl, rfl⟩ ?_
    rintro _ c ⟨rfl, rfl⟩ -
    refine TSs_nil ?_
    refine seq_next ?_
    refine TSs_nil ?_
    rw [eidx, ebase]
    show Wk _ _ _ _
    refine' Wk.sel [0, 1, 2] (l' := tl rows r) (c' := storeC (pgs.set i (pageImg (pgs.getD i []) (if i = 0 then 32 else 0) kd last kss))) ?S hα' (fun i h => absurd h (Nat.not_lt_zero i)) ?hl ⟨rfl, _, rfl, ?q1, ?q2, ?q3⟩
    case S => exact ⟨by decide, rfl, rfl⟩
    case hl => simp only [List.forall_mem_cons]; exact ⟨⟨rfl, rfl⟩, ⟨rfl, rfl⟩, ⟨rfl, rfl⟩, fun _ h => nomatch h⟩
    case q1 => rw [List.length_set, hpl]
    case q2 => exact set_all h128 hpf.1
    case q3 => exact set_fits (by omega) hfit (hrow.symm ▸ hpf)
  subst hQ
  obtain ⟨rfl, pgs, rfl, hpl, h128, hfit⟩ := hJ
  refine seq_next ?_
  refine S_ret ?_
  refine TE_hide fun K hK => ?_
  refine TE_local rfl rfl rfl ?_
  refine hK _ _ ?_
  exact .same ⟨pgs, rfl, rfl, hpl, hfit⟩
end
section
noncomputable def dueV : Option (List Int) → AV
  | none => .none'
  | some ks => .pure (.list (ks.map .int))
noncomputable abbrev ul (rows : List (List Int)) (root : Int) (n : Nat) (left : List Int) : Loc := [(Str.ofString "children", .pure (.list (rows.map fun r => .list (r.map .int)))), (Str.ofString "root", .int root), (Str.ofString "many", .int n), (Str.ofString "found", .ref 0), (Str.ofString "left", .pure (.list (left.map .int)))]
noncomputable def DueJ (rows : List (List Int)) (n : Nat) (root : Int) (k : Nat) (l : Loc) (c : List AO) : Prop :=
  ∃ found left : List Int, l = ul rows root n left ∧ c = [.list (found.map .int)] ∧ found.length ≤ n ∧ left.length ≤ 1 + 10 * found.length ∧ k + found.length = n + 1 ∧ due rows n (n + 1) [] [root] = due rows n k found left ∧ found.Nodup ∧ (∀ p ∈ found, 1 ≤ p ∧ p ≤ (n : Int))
theorem due_f (w : World) (rows : List (List Int)) (n : Nat) (hn : rows.length = n) (hn6 : n ≤ 6) (h10 : ∀ r ∈ rows, r.length ≤ 10) (root : Int) :
    Can w false 2 703 [.pure (.list (rows.map fun r => .list (r.map .int))), .int root, .int n] [] (fun v c => v = dueV (due rows n (n + 1) [] [root]) ∧ c = []) False := by
  refine' enterF (names := [Str.ofString "children", Str.ofString "root", Str.ofString "many"]) ?ho ?hcd ?hb ?hl ?hn ?hlen ?h1 ?h2 ?h3 ?h4 ?h5 ?_
  case ho => k_is
  case hcd => k_is
  case hl => decide
  case hn => decide
  case hlen => rfl
  case h1 => rfl
  case h2 => rfl
  case h3 => rfl
  case h4 => decide
  case h5 => decide
  case hb => exact bind3 fun _ _ _ _ => BindsTo.of_eq rfl
  intro Γ E hE hP hα
  clear hα
  refine S_tup (names := [Str.ofString "found", Str.ofString "left"]) rfl rfl rfl (by decide) ?_
  refine TA_cons ?_ rfl
  refine TE_ListC ?_
  refine TA_nil ?_
  refine ⟨rfl, by decide, ?_⟩
  refine TA_cons ?_ rfl
  refine TE_ListP ?_
  refine TA_cons ?_ rfl
  refine TE_local rfl rfl rfl ?_
  refine TA_nil ?_
  refine ⟨rfl, of_decide_eq_true rfl, ?_⟩
  refine TA_nil ?_
  refine ⟨rfl, ?_⟩
  refine TSs_wk (Wk.locs (l' := ul rows root n [root]) (by simp only [List.forall_mem_cons]; exact ⟨rfl, rfl, rfl, rfl, rfl, fun _ h => nomatch h⟩) ?_)
  refine S_seq (TS_While hP (DueJ rows n root) (n + 1) ⟨[], [root], rfl, rfl, by simp, by simp, by simp, rfl, .nil, (fun _ h => nomatch h)⟩ ?_)
  rintro k l c ⟨found, left, rfl, rfl, hfl, hll, hk', hdue, hnd, hin⟩
  refine TB_Compare ?_ rfl
  refine TE_local rfl rfl rfl ?_
  refine TE_ListP ?_
  refine TA_nil ?_
  refine ⟨rfl, by decide, ?_⟩
  refine op_ne_ints (ns := left) (ms := []) .pure .pure (by decide) ?_
  refine OT_bool ?_
  by_cases h0 : left = []
  · rw [decide_eq_true h0]
    refine if_f ?_
    refine seq_next ?_
    refine S_ret ?_
    refine TE_hide fun K hK => ?_
    refine TE_local rfl rfl rfl ?_
    refine hK _ _ ?_
    refine .frz [] 0 (found.map .int) [] ⟨by decide, rfl, rfl⟩ rfl rfl (by decide) (fun i hi => absurd hi (Nat.not_lt_zero i)) ⟨?_, rfl⟩
    rw [hdue, due_end (by omega) (by rw [h0]; rfl)]; rfl
  have hl0 : 0 < left.length := List.length_pos_iff.mpr h0
  rw [decide_eq_false h0]
  refine if_t ?_
  with_unfolding_all refine S_assign (.inl rfl) rfl ?_
  refine TE_hide fun K hK => ?_
  refine TE_Sub ?_
  refine TE_local rfl rfl rfl ?_
  refine TE_int ?_
  refine op_item (by exact .pure) (of_decide_eq_true rfl) (by first | exact lm_i (by omega) | exact lm_n (by omega) | (simp only [List.length_map, List.length_cons, List.length_nil, List.length_append, List.length_take, List.length_drop, List.length_reverse, List.length_set, List.length_replicate, List.length_dropLast]; omega)) (by first | exact lm_i (by omega) | exact lm_n (by omega) | (simp only [List.length_map, List.length_cons, List.length_nil, List.length_append, List.length_take, List.length_drop, List.length_reverse, List.length_set, List.length_replicate, List.length_dropLast]; omega)) ?_ (fun _ _ => rfl)
  refine hK _ _ ?_
  refine S_if ?_
  refine TB_or ?_
  refine TB_Compare ?_ rfl
  refine TE_local rfl rfl rfl ?_
  refine TE_local rfl rfl rfl ?_
  rw [getD_map (f := D.int) (0 : Int) D.none (by simpa using hl0)]
  have hdn : (found.any fun x => x == left.getD (Int.toNat 0) 0) = true ∨ left.getD (Int.toNat 0) 0 < 1 ∨ (n : Int) < left.getD (Int.toNat 0) 0 → dueV (due rows n (n + 1) [] [root]) = .none' := fun h => by rw [hdue, due_none (by omega) hl0 h]; rfl
  have hds : (found.any fun x => x == left.getD (Int.toNat 0) 0) = false → ¬ left.getD (Int.toNat 0) 0 < 1 → ¬ (n : Int) < left.getD (Int.toNat 0) 0 → due rows n k found left = due rows n (k - 1) (found ++ [left.getD (Int.toNat 0) 0]) (rows.getD (left.getD (Int.toNat 0) 0 - 1).toNat [] ++ left.drop 1) := fun h1 h2 h3 => due_step (by omega) hl0 h1 h2 h3
  have hld : (left.drop 1).length = left.length - 1 := List.length_drop ..
  generalize left.getD (Int.toNat 0) 0 = pg at *
  have non : ∀ c : List AO, dueV (due rows n (n + 1) [] [root]) = .none' → End 0 (fun v c => v = dueV (due rows n (n + 1) [] [root]) ∧ c = []) .none' c := fun c h => .sel [] .none' [] ⟨List.nodup_nil, rfl, rfl⟩ rfl rfl (fun i h => absurd h (Nat.not_lt_zero i)) ⟨h.symm, rfl⟩
  refine op_in_list (ns := found) (.ref rfl) ?_
  refine OT_bool ?_
  refine if_bool (fun hany => ?_) (fun hany => ?_)
  · refine if_t ?_
    refine S_ret ?_
    refine TE_hide fun K hK => ?_
    refine TE_none ?_
    refine hK _ _ ?_
    refine seq_ret ?_
    exact non _ (hdn (.inl hany))
  refine TB_or ?_
  refine TB_Compare ?_ rfl
  refine TE_local rfl rfl rfl ?_
  refine TE_int ?_
  refine op_lt ?_
  refine OT_bool ?_
  refine if_dec (fun hp => ?_) (fun hp => ?_)
  · refine if_t ?_
    refine S_ret ?_
    refine TE_hide fun K hK => ?_
    refine TE_none ?_
    refine hK _ _ ?_
    refine seq_ret ?_
    exact non _ (hdn (.inr (.inl hp)))
  refine TB_or ?_
  refine TB_Compare ?_ rfl
  refine TE_local rfl rfl rfl ?_
  refine TE_local rfl rfl rfl ?_
  refine op_gt ?_
  refine OT_bool ?_
  refine if_dec (fun hq => ?_) (fun hq => ?_)
  · refine if_t ?_
    refine S_ret ?_
    refine TE_hide fun K hK => ?_
    refine TE_none ?_
    refine hK _ _ ?_
    refine seq_ret ?_
    exact non _ (hdn (.inr (.inr hq)))
  refine TB_or_nil ?_
  refine if_f ?_
  refine TSs_nil ?_
  refine seq_next ?_
  with_unfolding_all refine S_expr rfl rfl ?_
  (refine' TE_meth ?hp ?he ?_; (case hp => rfl); (case he => rfl); rotate_left)
  refine TE_local rfl rfl rfl ?_
  refine ⟨om_append rfl, .blt, ?_⟩
  refine TA_cons ?_ rfl
  refine TE_local rfl rfl rfl ?_
  refine TA_nil ?_
  refine oc_append (by rfl) (by first | exact lm_i (by omega) | exact lm_n (by omega) | (simp only [List.length_map, List.length_cons, List.length_nil, List.length_append, List.length_take, List.length_drop, List.length_reverse, List.length_set, List.length_replicate, List.length_dropLast]; omega)) ?_
  with_unfolding_all refine S_assign (.inl rfl) rfl ?_
  refine TE_BinOp ?_
  refine TE_Sub ?_
  refine TE_local rfl rfl rfl ?_
  refine TE_BinOp ?_
  refine TE_local rfl rfl rfl ?_
  refine TE_int ?_
  refine op_sub ?_
  refine op_item (by exact .pure) (by omega) (by first | exact lm_i (by omega) | exact lm_n (by omega) | (simp only [List.length_map, List.length_cons, List.length_nil, List.length_append, List.length_take, List.length_drop, List.length_reverse, List.length_set, List.length_replicate, List.length_dropLast]; omega)) (by first | exact lm_i (by omega) | exact lm_n (by omega) | (simp only [List.length_map, List.length_cons, List.length_nil, List.length_append, List.length_take, List.length_drop, List.length_reverse, List.length_set, List.length_replicate, List.length_dropLast]; omega)) ?_ (fun _ _ => rfl)
  refine TE_SliceFrom ?_
  refine TE_local rfl rfl rfl ?_
  refine TE_int ?_
  have hds' := hds hany hp hq
  have hrl := getD_len h10 (pg - 1).toNat
  rw [getD_map (f := fun r : List Int => D.list (r.map .int)) ([] : List Int) D.none (by omega)]
  generalize hrow : rows.getD (pg - 1).toNat [] = row at *
  have hin' : ∀ p ∈ found ++ [pg], 1 ≤ p ∧ p ≤ (n : Int) := fun p hp => by
    rcases List.mem_append.mp hp with hp | hp
    · exact hin p hp
    · rw [List.mem_singleton.mp hp]; omega
  have hnd' := due_nodup hnd hany
  have hlen' := nodup_len hnd' hin'
  rw [List.length_append, List.length_singleton] at hlen'
  refine osl_from (ds := left.map .int) .pure (by decide) (by rw [List.length_map]; omega) ?_ (fun _ _ => rfl)
  refine op_catP (ds := row.map .int) (es := (left.map .int).drop (Int.toNat 1)) .pure .pure (by rw [List.length_map]; omega) (by rw [List.length_drop, List.length_map]; omega) ?_
  rw [← List.map_drop, ← List.map_append]
  refine TSs_nil ?_
  show Wk _ _ _ _
  refine' Wk.locs (l' := ul rows root n (row ++ left.drop 1)) ?hl ?J
  case hl => simp only [List.forall_mem_cons]; exact ⟨rfl, rfl, rfl, rfl, rfl, fun _ h => nomatch h⟩
  case J =>
    refine' ⟨k - 1, ?j1, found ++ [pg], row ++ left.drop 1, rfl, ?j2, ?j3, ?j4, ?j5, ?j6, hnd', hin'⟩
    case j1 => omega
    case j2 => rw [List.map_append]; rfl
    case j3 => rw [List.length_append, List.length_singleton]; omega
    case j4 => rw [List.length_append, List.length_append, List.length_singleton]; omega
    case j5 => rw [List.length_append, List.length_singleton]; omega
    case j6 => rw [hdue, hds']
end
section
theorem kts51 (w : World) : ktsIn (KF w.params) 51 "BaseException" = true := rfl
theorem told_f (w : World) (rows : List (List Int)) (r : Bool) (hn6 : rows.length ≤ 6) (h6 : ∀ x ∈ rows, x.length ≤ 6) (hp : ∀ x ∈ rows, ∀ p ∈ x, 0 ≤ p ∧ p ≤ 65535) (root : Int) (r0 : 0 ≤ root) (r1 : root ≤ 65535) :
    CanG true w true 8 691 [rowsV rows, .pure (.bool r), .int root] [] (fun v c => v = dueV (due rows rows.length (rows.length + 1) [] [root]) ∧ c = []) False := by
  refine' enterFG (names := [Str.ofString "children", Str.ofString "is_rows_here", Str.ofString "root"]) ?ho ?hcd ?hb ?hl ?hn ?hlen ?h1 ?h2 ?h3 ?h4 ?h5 ?_
  case ho => k_is
  case hcd => k_is
  case hl => decide
  case hn => decide
  case hlen => rfl
  case h1 => rfl
  case h2 => rfl
  case h3 => rfl
  case h4 => decide
  case h5 => decide
  case hb => exact bind3 fun _ _ _ _ => BindsTo.of_eq rfl
  intro Γ E hE hR hP hα hO
  replace hα : id _ := hα
  obtain ⟨outer, hO⟩ := hO rfl
  with_unfolding_all refine S_assign (.inl rfl) rfl ?_
  refine TE_hide fun K hK => ?_
  refine TE_callK (by rfl) (by k_is) (by rfl) (.own (by k_is)) (by rfl) ?_
  refine TA_cons ?_ rfl
  refine TE_local rfl rfl rfl ?_
  refine TA_cons ?_ rfl
  refine TE_local rfl rfl rfl ?_
  refine TA_nil ?_
  refine OC_can (store_all_f w rows r hn6 h6 hp) [] (.inr rfl) (by decide) (fun h => h.elim) rfl rfl ⟨by decide, rfl, rfl⟩ ?_
  rintro _ c ⟨pgs, rfl, rfl, hpl, hfit⟩ -
  refine hK _ _ ?_
  with_unfolding_all refine S_assign (.inl rfl) rfl ?_
  refine TE_hide fun K hK => ?_
  refine TE_callB (by rfl) (by k_is) boot_list' (by decide) (by rfl) .type (by rfl) ?_
  refine TA_cons ?_ rfl
  refine TE_Attr ?_ rfl
  refine TE_local rfl rfl rfl ?_
  refine op_attr (by rfl) ⟨by k_is, by k_is, by k_is⟩ (by rfl) (by rfl) ?_
  refine TA_nil ?_
  refine oc_list_copy (ds := pgs.map .bytes) (.ref rfl) (by rw [List.length_map]; omega) ?_
  refine hK _ _ ?_
  refine S_seq (TS_Try (err := due rows rows.length (rows.length + 1) [] [root] = none) hO hα rfl (by k_is) (kts51 w) rfl (fun E' hE' => ?_) (fun he => ?_))
  · with_unfolding_all refine S_assign (.inl rfl) rfl ?_
    refine TE_hide fun K hK => ?_
    refine TE_callK (by rfl) (by k_is) (by rfl) (.own (by k_is)) (by rfl) ?_
    refine TA_cons ?_ rfl
    refine TE_callK (by rfl) (by k_is) (by rfl) (.own (by k_is)) (by rfl) ?_
    refine TA_cons ?_ rfl
    refine TE_local rfl rfl rfl ?_
    refine TA_cons ?_ rfl
    refine TE_local rfl rfl rfl ?_
    refine TA_nil ?_
    refine OC_can (trees_f w pgs) [0, 1, 2] (.inl rfl) (by decide) (fun h => h.elim) rfl rfl ⟨by decide, rfl, rfl⟩ ?_
    rintro _ c ⟨rfl, rfl⟩ -
    refine TA_cons ?_ rfl
    refine TE_local rfl rfl rfl ?_
    refine TA_nil ?_
    refine OC_can (pages_of_f w pgs rows rows.length rfl hpl hn6 (fun x h => Nat.le_trans (h6 x h) (by decide)) hp hfit root r0 r1) [0, 1, 2, 3] (.inr rfl) (by decide) (fun he => ⟨fun _ => hE'.call he⟩) rfl rfl ⟨by decide, rfl, rfl⟩ ?_
    rintro _ c ⟨ks, hks, rfl, rfl⟩ -
    refine hK _ _ ?_
    refine TSs_nil ?_
    refine seq_next ?_
    refine S_ret ?_
    refine TE_If ?_
    refine TB_Compare ?_ rfl
    refine TE_Attr ?_ rfl
    refine TE_local rfl rfl rfl ?_
    refine op_attr (by rfl) ⟨by k_is, by k_is, by k_is⟩ (by rfl) (by rfl) ?_
    refine TE_local rfl rfl rfl ?_
    refine op_eq_bytess (kss := pgs) (.ref rfl) .pure (by decide) ?_
    refine OT_bool ?_
    refine if_t ?_
    refine TE_local rfl rfl rfl ?_
    refine .sel [] (.pure (.list (ks.map .int))) [] ⟨List.nodup_nil, rfl, rfl⟩ rfl rfl (fun i h => absurd h (Nat.not_lt_zero i)) ⟨by rw [hks]; rfl, rfl⟩
  · exact .same ⟨by rw [he]; rfl, rfl⟩
end
section
noncomputable abbrev sl (many : Int) (left : List Int) : Loc := [(Str.ofString "source", .ref 0), (Str.ofString "things", .pure (.range 1 (many + 1))), (Str.ofString "left", .pure (.list (left.map .int))), (Str.ofString "found", .ref 1)]
noncomputable def ShJ (many : Int) (k : Nat) (l : Loc) (c : List AO) : Prop :=
  ∃ (left found : List Int) (a b : Int), l = sl many left ∧ c = [.list [.int a, .int b], .list (found.map .int)] ∧ k = left.length ∧ (found ++ left).Perm (rangeKs 1 many.toNat) ∧ 0 ≤ a ∧ 0 ≤ b
theorem shuffled_f (w : World) (a b many : Int) (h0 : 1 ≤ many) (h1 : many ≤ 6) (ha : 0 ≤ a) (hb : 0 ≤ b) :
    Can w false 3 672 [.ref 0, .pure (.range 1 (many + 1))] [.list [.int a, .int b]] (fun v c => ∃ (ns : List Int) (a' b' : Int), v = .pure (.list (ns.map .int)) ∧ ns.Perm (rangeKs 1 many.toNat) ∧ 0 ≤ a' ∧ 0 ≤ b' ∧ c = [.list [.int a', .int b']]) False := by
  refine' enterF (names := [Str.ofString "source", Str.ofString "things"]) ?ho ?hcd ?hb ?hl ?hn ?hlen ?h1 ?h2 ?h3 ?h4 ?h5 ?_
  case ho => k_is
  case hcd => k_is
  case hl => decide
  case hn => decide
  case hlen => rfl
  case h1 => rfl
  case h2 => rfl
  case h3 => rfl
  case h4 => decide
  case h5 => decide
  case hb => exact bind2 fun _ _ _ => BindsTo.of_eq rfl
  intro Γ E hE hP hα
  clear hα
  refine S_tup (names := [Str.ofString "left", Str.ofString "found"]) rfl rfl rfl (by decide) ?_
  refine TA_cons ?_ rfl
  refine TE_callB (by rfl) (by k_is) boot_list' (by decide) (by rfl) .type (by rfl) ?_
  refine TA_cons ?_ rfl
  refine TE_local rfl rfl rfl ?_
  refine TA_nil ?_
  refine oc_list_range (n := many.toNat) (by omega) (by omega) (by omega) (by omega) ?_
  refine TA_cons ?_ rfl
  refine TE_ListC ?_
  refine TA_nil ?_
  refine ⟨rfl, by decide, ?_⟩
  refine TA_nil ?_
  refine ⟨rfl, ?_⟩
  refine TSs_wk (Wk.locs (l' := sl many (rangeKs 1 many.toNat)) (by simp only [List.forall_mem_cons]; exact ⟨rfl, rfl, rfl, rfl, fun _ h => nomatch h⟩) ?_)
  refine S_seq (TS_While hP (ShJ many) many.toNat ⟨rangeKs 1 many.toNat, [], a, b, rfl, rfl, (rangeKs_length _ _).symm, .refl _, ha, hb⟩ ?_)
  rintro k l c ⟨left, found, a, b, rfl, rfl, rfl, hpm, ha, hb⟩
  have hlen := hpm.length_eq
  rw [rangeKs_length, List.length_append] at hlen
  refine TB_Compare ?_ rfl
  refine TE_local rfl rfl rfl ?_
  refine TE_ListP ?_
  refine TA_nil ?_
  refine ⟨rfl, by decide, ?_⟩
  refine op_ne_ints (ns := left) (ms := []) .pure .pure (by decide) ?_
  refine OT_bool ?_
  by_cases hl0 : left = []
  · rw [decide_eq_true hl0]
    refine if_f ?_
    refine seq_next ?_
    refine S_ret ?_
    refine TE_hide fun K hK => ?_
    refine TE_local rfl rfl rfl ?_
    refine hK _ _ ?_
    refine .frz [0] 1 (found.map .int) [.list [.int a, .int b]] ⟨by decide, rfl, rfl⟩ rfl rfl (by decide) (fun i hi => ?_) ⟨found, a, b, rfl, by rw [hl0, List.append_nil] at hpm; exact hpm, ha, hb, rfl⟩
    have : i = 0 := by have : i < 1 := hi; omega
    subst this; rfl
  have hl1 : 0 < left.length := List.length_pos_iff.mpr hl0
  rw [decide_eq_false hl0]
  refine if_t ?_
  with_unfolding_all refine S_assign (.inl rfl) rfl ?_
  refine TE_hide fun K hK => ?_
  refine TE_callK (by rfl) (by k_is) (by rfl) (.own (by k_is)) (by rfl) ?_
  refine TA_cons ?_ rfl
  refine TE_local rfl rfl rfl ?_
  refine TA_cons ?_ rfl
  refine TE_callB (by rfl) (by k_is) boot_len' (by decide) (by rfl) .blt (by rfl) ?_
  refine TA_cons ?_ rfl
  refine TE_local rfl rfl rfl ?_
  refine TA_nil ?_
  refine oc_len (by exact .pure) (by first | exact lm_i (by omega) | exact lm_n (by omega) | (simp only [List.length_map, List.length_cons, List.length_nil, List.length_append, List.length_take, List.length_drop, List.length_reverse, List.length_set, List.length_replicate, List.length_dropLast]; omega)) ?_
  refine TA_nil ?_
  rw [List.length_map]
  refine OC_can (take_f w a b _ (by omega) (by omega) ha hb) [0] (.inl rfl) (by decide) (fun h => h.elim) rfl rfl ⟨by decide, rfl, rfl⟩ ?_
  rintro _ c ⟨z, a', b', rfl, z0, z1, ha', hb', rfl⟩ -
  refine hK _ _ ?_
  with_unfolding_all refine S_expr rfl rfl ?_
  (refine' TE_meth ?hp ?he ?_; (case hp => rfl); (case he => rfl); rotate_left)
  refine TE_local rfl rfl rfl ?_
  refine ⟨om_append rfl, .blt, ?_⟩
  refine TA_cons ?_ rfl
  refine TE_Sub ?_
  refine TE_local rfl rfl rfl ?_
  refine TE_local rfl rfl rfl ?_
  refine op_item (by exact .pure) (by assumption) (by first | exact lm_i (by omega) | exact lm_n (by omega) | (simp only [List.length_map, List.length_cons, List.length_nil, List.length_append, List.length_take, List.length_drop, List.length_reverse, List.length_set, List.length_replicate, List.length_dropLast]; omega)) (by first | exact lm_i (by omega) | exact lm_n (by omega) | (simp only [List.length_map, List.length_cons, List.length_nil, List.length_append, List.length_take, List.length_drop, List.length_reverse, List.length_set, List.length_replicate, List.length_dropLast]; omega)) ?_ (fun _ _ => rfl)
  refine TA_nil ?_
  refine oc_append (by rfl) (by first | exact lm_i (by omega) | exact lm_n (by omega) | (simp only [List.length_map, List.length_cons, List.length_nil, List.length_append, List.length_take, List.length_drop, List.length_reverse, List.length_set, List.length_replicate, List.length_dropLast]; omega)) ?_
  with_unfolding_all refine S_assign (.inl rfl) rfl ?_
  refine TE_hide fun K hK => ?_
  refine TE_BinOp ?_
  refine TE_SliceTo ?_
  refine TE_local rfl rfl rfl ?_
  refine TE_local rfl rfl rfl ?_
  refine osl_to (ds := left.map .int) .pure z0 (by rw [List.length_map]; omega) ?_ (fun _ _ => rfl)
  refine TE_SliceFrom ?_
  refine TE_local rfl rfl rfl ?_
  refine TE_BinOp ?_
  refine TE_local rfl rfl rfl ?_
  refine TE_int ?_
  refine op_add ?_
  refine osl_from (ds := left.map .int) .pure (by omega) (by rw [List.length_map]; omega) ?_ (fun _ _ => rfl)
  refine op_catP (ds := (left.map .int).take z.toNat) (es := (left.map .int).drop (z + 1).toNat) .pure .pure (by rw [List.length_take, List.length_map]; omega) (by rw [List.length_drop, List.length_map]; omega) ?_
  rw [getD_map (f := D.int) (0 : Int) D.none (by omega)]
  rw [← List.map_take, ← List.map_drop, ← List.map_append]
  refine hK _ _ ?_
  refine TSs_nil ?_
  show Wk _ _ _ _
  refine' Wk.locs (l' := sl many (left.take z.toNat ++ left.drop (z + 1).toNat)) ?hl ?J
  case hl => simp only [List.forall_mem_cons]; exact ⟨rfl, rfl, rfl, rfl, fun _ h => nomatch h⟩
  case J =>
    refine' ⟨left.length - 1, ?j1, left.take z.toNat ++ left.drop (z + 1).toNat, found ++ [left.getD z.toNat 0], a', b', rfl, ?j2, ?j3, ?j4, ha', hb'⟩
    case j1 => omega
    case j2 => rw [List.map_append]; rfl
    case j3 => rw [List.length_append, List.length_take, List.length_drop]; omega
    case j4 =>
      refine List.Perm.trans ?_ hpm
      rw [List.append_assoc]
      exact (perm_pick' _ _ _ (by omega) (by omega)).append_left _
end
section
theorem mul_nn {a b : Int} (h : 0 ≤ a) (k : 0 ≤ b) : 0 ≤ a * b := Int.mul_nonneg h k
theorem big_nn (x : Int) : 0 ≤ (if -1 - x > x then -1 - x else x) := by split <;> omega
theorem pool_f (w : World) (ns : List Int) (k : Int) (hz : ns.length ≤ 63) (k0 : 0 ≤ k) (k1 : k < 2) : Can w false 1 644 [.pure (.list (ns.map .int)), .int k] [] (fun v c => ∃ a b : Int, v = .ref 0 ∧ 0 ≤ a ∧ 0 ≤ b ∧ c = [.list [.int a, .int b]]) False := by
  refine' enterF (names := [Str.ofString "script", Str.ofString "k"]) ?ho ?hcd ?hb ?hl ?hn ?hlen ?h1 ?h2 ?h3 ?h4 ?h5 ?_
  case ho => k_is
  case hcd => k_is
  case hl => decide
  case hn => decide
  case hlen => rfl
  case h1 => rfl
  case h2 => rfl
  case h3 => rfl
  case h4 => decide
  case h5 => decide
  case hb => exact bind2 fun _ _ _ => BindsTo.of_eq rfl
  intro Γ E hE hP hα
  clear hα
  with_unfolding_all refine S_assign (.inl rfl) rfl ?_
  refine TE_int ?_
  refine S_seq (TS.mono (Q := fun fl l c => fl = .next ∧ c = [] ∧ ∃ x, l = [(Str.ofString "script", .pure (.list (ns.map .int))), (Str.ofString "k", .int k), (Str.ofString "cell", .int x)]) (TS_If ?_) ?_)
  · refine TB_Compare ?_ rfl
    refine TE_local rfl rfl rfl ?_
    refine TE_callB (by rfl) (by k_is) boot_len' (by decide) (by rfl) .blt (by rfl) ?_
    refine TA_cons ?_ rfl
    refine TE_local rfl rfl rfl ?_
    refine TA_nil ?_
    refine oc_len (by exact .pure) (by first | exact lm_i (by omega) | exact lm_n (by omega) | (simp only [List.length_map, List.length_cons, List.length_nil, List.length_append, List.length_take, List.length_drop, List.length_reverse, List.length_set, List.length_replicate, List.length_dropLast]; omega)) ?_
    refine op_lt ?_
    refine OT_bool ?_
    refine if_dec (fun hp => ?_) (fun hp => ?_)
    · rw [List.length_map] at hp
      with_unfolding_all refine S_assign (.inl rfl) rfl ?_
      refine TE_hide fun K hK => ?_
      refine TE_Sub ?_
      refine TE_local rfl rfl rfl ?_
      refine TE_local rfl rfl rfl ?_
      refine op_item (by exact .pure) (by assumption) (by first | exact lm_i (by omega) | exact lm_n (by omega) | (simp only [List.length_map, List.length_cons, List.length_nil, List.length_append, List.length_take, List.length_drop, List.length_reverse, List.length_set, List.length_replicate, List.length_dropLast]; omega)) (by first | exact lm_i (by omega) | exact lm_n (by omega) | (simp only [List.length_map, List.length_cons, List.length_nil, List.length_append, List.length_take, List.length_drop, List.length_reverse, List.length_set, List.length_replicate, List.length_dropLast]; omega)) ?_ (fun _ _ => rfl)
      refine hK _ _ ?_
      refine TSs_nil ?_
      rw [getD_map (f := D.int) (0 : Int) D.none (by omega)]
      exact ⟨rfl, rfl, _, rfl⟩
    · refine TSs_nil ?_
      exact ⟨rfl, rfl, _, rfl⟩
  rintro _ _ _ ⟨rfl, rfl, x, rfl⟩
  refine seq_next ?_
  with_unfolding_all refine S_assign (.inl rfl) rfl ?_
  refine TE_hide fun K hK => ?_
  refine TE_callB (by rfl) (by k_is) boot_max' (by decide) (by rfl) .blt (by rfl) ?_
  refine TA_cons ?_ rfl
  refine TE_callB (by rfl) (by k_is) boot_int' (by decide) (by rfl) .type (by rfl) ?_
  refine TA_cons ?_ rfl
  refine TE_local rfl rfl rfl ?_
  refine TA_nil ?_
  refine oc_int ?_
  refine TA_cons ?_ rfl
  refine TE_callB (by rfl) (by k_is) boot_int' (by decide) (by rfl) .type (by rfl) ?_
  refine TA_cons ?_ rfl
  refine TE_BinOp ?_
  refine TE_Unary ?_
  refine TE_int ?_
  refine op_neg ?_
  refine TE_local rfl rfl rfl ?_
  refine op_sub ?_
  refine TA_nil ?_
  refine oc_int ?_
  refine TA_nil ?_
  refine oc_max ?_
  refine hK _ _ ?_
  with_unfolding_all refine S_assign (.inl rfl) rfl ?_
  refine TE_hide fun K hK => ?_
  refine TE_BinOp ?_
  refine TE_callB (by rfl) (by k_is) boot_int' (by decide) (by rfl) .type (by rfl) ?_
  refine TA_cons ?_ rfl
  refine TE_BinOp ?_
  refine TE_BinOp ?_
  refine TE_BinOp ?_
  refine TE_BinOp ?_
  refine TE_BinOp ?_
  refine TE_callB (by rfl) (by k_is) boot_int' (by decide) (by rfl) .type (by rfl) ?_
  refine TA_cons ?_ rfl
  refine TE_local rfl rfl rfl ?_
  refine TA_nil ?_
  refine oc_int ?_
  refine TE_int ?_
  refine op_mod (of_decide_eq_true rfl) ?_
  refine TE_BinOp ?_
  refine TE_BinOp ?_
  refine TE_int ?_
  refine TE_local rfl rfl rfl ?_
  refine op_mul (by omega) ?_
  refine TE_local rfl rfl rfl ?_
  refine op_mul (by omega) ?_
  refine op_add ?_
  refine TE_BinOp ?_
  refine TE_int ?_
  refine TE_local rfl rfl rfl ?_
  refine op_mul (by omega) ?_
  refine op_add ?_
  refine TE_int ?_
  refine op_add ?_
  refine TE_int ?_
  refine op_mul (by omega) ?_
  refine TA_nil ?_
  refine oc_int ?_
  refine TE_int ?_
  refine op_mod (of_decide_eq_true rfl) ?_
  refine hK _ _ ?_
  refine S_ret ?_
  have hbn := big_nn x
  generalize (if -1 - x > x then -1 - x else x) = big at *
  refine TE_ListC ?_
  refine TA_cons ?_ rfl
  refine TE_BinOp ?_
  refine TE_local rfl rfl rfl ?_
  refine TE_callB (by rfl) (by k_is) boot_int' (by decide) (by rfl) .type (by rfl) ?_
  refine TA_cons ?_ rfl
  refine TE_Compare ?_ rfl
  refine TE_local rfl rfl rfl ?_
  refine TE_BinOp ?_
  refine TE_int ?_
  refine TE_int ?_
  refine op_pow (by decide) (by decide) (by decide) ?_
  refine op_ge ?_
  refine TA_nil ?_
  refine oc_int_bool ?_
  refine op_mul (by omega) ?_
  refine TA_cons ?_ rfl
  refine TE_local rfl rfl rfl ?_
  refine TA_nil ?_
  refine ⟨rfl, of_decide_eq_true rfl, .same ⟨_, _, rfl, mul_nn hbn ?_, Int.emod_nonneg _ (by decide), rfl⟩⟩
  split <;> decide
end
section
noncomputable abbrev rowsD (rows : List (List Int)) : AV := .pure (.list (rows.map fun r => .list (r.map .int)))
noncomputable abbrev dl (rows : List (List Int)) (p : Int) (found : List Int) : Loc := [(Str.ofString "children", rowsD rows), (Str.ofString "page", .int p), (Str.ofString "found", .pure (.list (found.map .int)))]
theorem down_body (w : World) (rows : List (List Int)) (hrows : rows.length < 1000) (lv : Nat) (p : Int) (hlo : 1 ≤ p ∧ p ≤ rows.length) (h5 : (rows.getD (p - 1).toNat []).length ≤ 5) (out : Int → List Int) (hout : ∀ q ∈ rows.getD (p - 1).toNat [], (out q).length ≤ 10000)
    (IH : ∀ q ∈ rows.getD (p - 1).toNat [], Can w false lv 684 [rowsD rows, .int q] [] (fun v c => v = .pure (.list ((out q).map .int)) ∧ c = []) False) :
    Can w false (lv + 1) 684 [rowsD rows, .int p] [] (fun v c => v = .pure (.list ((p :: (rows.getD (p - 1).toNat []).flatMap out).map .int)) ∧ c = []) False := by
  refine' enterF (names := [Str.ofString "children", Str.ofString "page"]) ?ho ?hcd ?hb ?hl ?hn ?hlen ?h1 ?h2 ?h3 ?h4 ?h5 ?_
  case h5 => exact Nat.succ_pos _
  case ho => k_is
  case hcd => k_is
  case hl => decide
  case hn => decide
  case hlen => rfl
  case h1 => rfl
  case h2 => rfl
  case h3 => rfl
  case h4 => decide
  case hb => exact bind2 fun _ _ _ => BindsTo.of_eq rfl
  intro Γ E hE hP hα
  clear hα
  with_unfolding_all refine S_assign (.inl rfl) rfl ?_
  refine TE_hide fun K hK => ?_
  refine TE_ListP ?_
  refine TA_cons ?_ rfl
  refine TE_local rfl rfl rfl ?_
  refine TA_nil ?_
  refine ⟨rfl, of_decide_eq_true rfl, ?_⟩
  refine hK _ _ ?_
  refine S_seq (TS_For (fun _ => rfl) ?_)
  refine TE_Sub ?_
  refine TE_local rfl rfl rfl ?_
  refine TE_BinOp ?_
  refine TE_local rfl rfl rfl ?_
  refine TE_int ?_
  refine op_sub ?_
  refine op_item (by exact .pure) (by omega) (by first | exact lm_i (by omega) | exact lm_n (by omega) | (simp only [List.length_map, List.length_cons, List.length_nil, List.length_append, List.length_take, List.length_drop, List.length_reverse, List.length_set, List.length_replicate, List.length_dropLast]; omega)) (by first | exact lm_i (by omega) | exact lm_n (by omega) | (simp only [List.length_map, List.length_cons, List.length_nil, List.length_append, List.length_take, List.length_drop, List.length_reverse, List.length_set, List.length_replicate, List.length_dropLast]; omega)) ?_ (fun _ _ => rfl)
  rw [getD_map (f := fun r : List Int => D.list (r.map .int)) ([] : List Int) D.none (by omega)]
  generalize rows.getD (p - 1).toNat [] = row at *
  refine fo_list hP (.inl rfl) (fun i l c => l = dl rows p (p :: (row.take i).flatMap out) ∧ c = []) ⟨rfl, rfl⟩ (fun i l c hi hJ => ?_) (fun l c hJ => ?_)
  · obtain ⟨rfl, rfl⟩ := hJ
    rw [List.length_map] at hi
    rw [getD_map (f := D.int) (0 : Int) D.none hi]
    have hm : row.getD i 0 ∈ row := by rw [List.getD_eq_getElem?_getD, List.getElem?_eq_getElem hi]; exact List.getElem_mem hi
    have htk := take_snoc (0 : Int) hi
    have hsz : ((row.take i).flatMap out).length ≤ 5 * 10000 := by
      have h2 := flatMap_len out 10000 (row.take i) fun c hc => hout c (List.mem_of_mem_take hc)
      have h3 : (row.take i).length ≤ 5 := Nat.le_trans (List.length_take_le' _ _) h5
      omega
    have hq := hout _ hm
    generalize row.getD i 0 = q at *
    with_unfolding_all refine S_assign (.inl rfl) rfl ?_
    refine TE_hide fun K hK => ?_
    refine TE_BinOp ?_
    refine TE_local rfl rfl rfl ?_
    refine TE_callK (by rfl) (by k_is) (by rfl) (.own (by k_is)) (by rfl) ?_
    refine TA_cons ?_ rfl
    refine TE_local rfl rfl rfl ?_
    refine TA_cons ?_ rfl
    refine TE_local rfl rfl rfl ?_
    refine TA_nil ?_
    refine OC_can (IH q hm) [] (.inl rfl) (Nat.lt_succ_self _) (fun h => h.elim) rfl rfl ⟨by decide, rfl, rfl⟩ ?_
    rintro _ c ⟨rfl, rfl⟩ -
    refine op_catP (ds := (p :: (row.take i).flatMap out).map .int) (es := (out q).map .int) .pure .pure (by rw [List.length_map, List.length_cons]; omega) (by rw [List.length_map]; omega) ?_
    rw [← List.map_append]
    refine hK _ _ ?_
    refine TSs_nil ?_
    show Wk _ _ _ _
    refine' Wk.locs (l' := dl rows p (p :: (row.take (i + 1)).flatMap out)) ?hl ⟨rfl, rfl⟩
    rw [htk, List.flatMap_append, show [q].flatMap out = out q by simp]
    simp only [List.forall_mem_cons]
    exact ⟨rfl, rfl, rfl, fun _ h => nomatch h⟩
  · obtain ⟨rfl, rfl⟩ := hJ
    rw [List.length_map, List.take_length]
    refine seq_next ?_
    refine S_ret ?_
    refine TE_hide fun K hK => ?_
    refine TE_local rfl rfl rfl ?_
    refine hK _ _ ?_
    exact .same ⟨rfl, rfl⟩
theorem down_f (w : World) (rows : List (List Int)) (hrows : rows.length < 1000) : ∀ (k : Nat), k ≤ 6 → ∀ (p : Int), Ok rows k p → Can w false (k + 1) 684 [rowsD rows, .int p] [] (fun v c => v = .pure (.list ((down rows k p).map .int)) ∧ c = []) False
  | 0, _, p, hk => by
    have h := down_body w rows hrows 0 p hk.lo (by rw [hk.2.2]; decide) (fun _ => []) (fun _ _ => by decide) (fun q hq => by rw [hk.2.2] at hq; cases hq)
    rw [hk.2.2] at h
    exact h
  | k + 1, hk6, p, hk =>
    down_body w rows hrows (k + 1) p hk.lo hk.2.2.1 (down rows k) (fun q hq => Nat.le_trans (down_len k q (hk.2.2.2 q hq)) (Nat.le_trans (Nat.pow_le_pow_right (by decide) (show k ≤ 5 by omega)) (by decide)))
      fun q hq => down_f w rows hrows k (by omega) q (hk.2.2.2 q hq)
end
section
theorem rk_lt {ns : List Int} {c : Int} (h : ns.idxOf c < ns.length) : c ∈ ns := List.idxOf_lt_length_iff.mp h
/-- the rows after some steps of the making: each child stands behind its parent in ns, and once only -/
structure Fst (ns : List Int) (i : Nat) (rows : List (List Int)) : Prop where
  edge : ∀ (j : Nat) c, c ∈ rows.getD j [] → ns.idxOf ((j : Int) + 1) < ns.idxOf c ∧ ns.idxOf c ≤ i
  uniq : ∀ (j k : Nat) c, c ∈ rows.getD j [] → c ∈ rows.getD k [] → j = k
  nd : ∀ j : Nat, (rows.getD j []).Nodup
theorem rep_getD {n j : Nat} : (List.replicate n ([] : List Int)).getD j [] = [] := by
  rw [List.getD_eq_getElem?_getD, List.getElem?_replicate]
  split <;> rfl
theorem Fst.zero {ns : List Int} {n : Nat} : Fst ns 0 (List.replicate n []) :=
  ⟨fun j c h => (by rw [rep_getD] at h; cases h), fun j k c h _ => (by rw [rep_getD] at h; cases h), fun j => by rw [rep_getD]; exact .nil⟩
theorem set_getD {rows : List (List Int)} {a j : Nat} {r : List Int} (ha : a < rows.length) : (rows.set a r).getD j [] = if j = a then r else rows.getD j [] := by
  by_cases e : j = a
  · subst e; rw [if_pos rfl, List.getD_eq_getElem?_getD, List.getElem?_set_self ha]; rfl
  · rw [if_neg e, List.getD_eq_getElem?_getD, List.getElem?_set_ne (Ne.symm e), List.getD_eq_getElem?_getD]
theorem idx_at {ns : List Int} (nd : ns.Nodup) {i : Nat} (h : i < ns.length) : ns.idxOf (ns.getD i 0) = i := by
  rw [List.getD_eq_getElem?_getD, List.getElem?_eq_getElem h]
  exact nd.idxOf_getElem i h
theorem Fst.step {ns : List Int} {i k : Nat} {rows : List (List Int)} {r : List Int} (F : Fst ns i rows) (nd : ns.Nodup) (hi : i + 1 < ns.length) (hk : k ≤ i) (p1 : 1 ≤ ns.getD k 0) (hp : (ns.getD k 0 - 1).toNat < rows.length)
    (hr : r = rows.getD (ns.getD k 0 - 1).toNat [] ++ [ns.getD (i + 1) 0] ∨ r = [ns.getD (i + 1) 0] ++ rows.getD (ns.getD k 0 - 1).toNat []) : Fst ns (i + 1) (rows.set (ns.getD k 0 - 1).toNat r) := by
  have ik := idx_at nd (i := k) (by omega)
  have ix := idx_at nd hi
  generalize ns.getD k 0 = p at *
  generalize ns.getD (i + 1) 0 = x at *
  have hm : ∀ c, c ∈ r → c = x ∨ c ∈ rows.getD (p - 1).toNat [] := fun c hc => by
    rcases hr with rfl | rfl
    · exact (List.mem_append.mp hc).symm.imp (fun h => List.mem_singleton.mp h) id
    · exact (List.mem_append.mp hc).imp (fun h => List.mem_singleton.mp h) id
  have hx : ∀ j : Nat, x ∉ rows.getD j [] := fun j h => by have := (F.edge j x h).2; omega
  refine ⟨fun j c h => ?_, fun j l c h h' => ?_, fun j => ?_⟩
  · rw [set_getD hp] at h
    split at h
    · rename_i e
      subst e
      have e' : (((p - 1).toNat : Nat) : Int) + 1 = p := by omega
      rcases hm c h with rfl | h
      · rw [e']; omega
      · have := F.edge _ c h; omega
    · have := F.edge _ c h; omega
  · rw [set_getD hp] at h h'
    have both : ∀ j, (if j = (p - 1).toNat then r else rows.getD j []) = (if j = (p - 1).toNat then r else rows.getD j []) := fun _ => rfl
    by_cases ej : j = (p - 1).toNat <;> by_cases el : l = (p - 1).toNat
    · omega
    · rw [if_pos ej] at h; rw [if_neg el] at h'
      rcases hm c h with rfl | h
      · exact absurd h' (hx _)
      · rw [ej]; exact F.uniq _ _ c h h'
    · rw [if_neg ej] at h; rw [if_pos el] at h'
      rcases hm c h' with rfl | h'
      · exact absurd h (hx _)
      · rw [el]; exact F.uniq _ _ c h h'
    · rw [if_neg ej] at h; rw [if_neg el] at h'
      exact F.uniq _ _ c h h'
  · rw [set_getD hp]
    split
    · rcases hr with rfl | rfl
      · exact List.nodup_append.mpr ⟨F.nd _, List.nodup_cons.mpr ⟨List.not_mem_nil, .nil⟩, fun a ha b hb e => hx (p - 1).toNat (by rw [← List.mem_singleton.mp hb, ← e]; exact ha)⟩
      · exact List.nodup_append.mpr ⟨List.nodup_cons.mpr ⟨List.not_mem_nil, .nil⟩, F.nd _, fun a ha b hb e => hx (p - 1).toNat (by rw [← List.mem_singleton.mp ha, e]; exact hb)⟩
    · exact F.nd _
/-- ns lists the pages 1 .. n -/
structure Nums (ns : List Int) (n : Nat) : Prop where
  len : ns.length = n
  nd : ns.Nodup
  mem : ∀ p, p ∈ ns ↔ 1 ≤ p ∧ p ≤ (n : Int)
theorem rangeKs_mem {n : Nat} {p : Int} : p ∈ rangeKs 1 n ↔ 1 ≤ p ∧ p ≤ (n : Int) := by
  refine ⟨fun h => ?_, fun h => mem_rangeKs' h.1 (by omega)⟩
  unfold rangeKs at h
  obtain ⟨i, hi, rfl⟩ := List.mem_map.mp h
  have := List.mem_range.mp hi
  omega
theorem rangeKs_nodup (n : Nat) : (rangeKs 1 n).Nodup := by
  unfold rangeKs List.Nodup
  rw [List.pairwise_map]
  exact List.nodup_range.imp fun h e => h (by omega)
theorem Nums.of {ns : List Int} {n : Nat} (h : ns.Perm (rangeKs 1 n)) : Nums ns n :=
  ⟨by rw [h.length_eq, rangeKs_length], (h.nodup_iff).mpr (rangeKs_nodup n), fun p => h.mem_iff.trans rangeKs_mem⟩
theorem Nums.at {ns : List Int} {n i : Nat} (N : Nums ns n) (h : i < n) : 1 ≤ ns.getD i 0 ∧ ns.getD i 0 ≤ (n : Int) ∧ ns.getD i 0 ∈ ns := by
  have hi : i < ns.length := by rw [N.len]; exact h
  have : ns.getD i 0 ∈ ns := by rw [List.getD_eq_getElem?_getD, List.getElem?_eq_getElem hi]; exact List.getElem_mem hi
  exact ⟨((N.mem _).mp this).1, ((N.mem _).mp this).2, this⟩
section
variable {ns : List Int} {n i : Nat} {rows : List (List Int)}
theorem Fst.kid (F : Fst ns i rows) (N : Nums ns n) (hi : i < n) {p c : Int} (hp : 1 ≤ p) (h : c ∈ rows.getD (p - 1).toNat []) : ns.idxOf p < ns.idxOf c ∧ c ∈ ns := by
  have := F.edge _ c h
  rw [show (((p - 1).toNat : Nat) : Int) + 1 = p by omega] at this
  exact ⟨this.1, rk_lt (by rw [N.len]; omega)⟩
theorem Fst.row_len (F : Fst ns i rows) (N : Nums ns n) (hi : i < n) {p : Int} (hp : p ∈ ns) : (rows.getD (p - 1).toNat []).length + 1 ≤ n := by
  have p1 := ((N.mem p).mp hp).1
  have h : (p :: rows.getD (p - 1).toNat []).Nodup := List.nodup_cons.mpr ⟨fun h => by have := (F.kid N hi p1 h).1; omega, F.nd _⟩
  exact nodup_len h fun q hq => by
    rcases List.mem_cons.mp hq with rfl | hq
    · exact (N.mem _).mp hp
    · exact (N.mem _).mp (F.kid N hi p1 hq).2
theorem Fst.all_len (F : Fst ns i rows) (N : Nums ns n) (hi : i < n) (hl : rows.length = n) : ∀ r ∈ rows, r.length + 1 ≤ n := fun r hr => by
  obtain ⟨j, hj, rfl⟩ := List.getElem_of_mem hr
  have := F.row_len N hi (p := (j : Int) + 1) ((N.mem _).mpr (by omega))
  rwa [show ((j : Int) + 1 - 1).toNat = j by omega, List.getD_eq_getElem?_getD, List.getElem?_eq_getElem hj] at this
theorem Fst.all_mem (F : Fst ns i rows) (N : Nums ns n) (hi : i < n) : ∀ r ∈ rows, ∀ c ∈ r, 1 ≤ c ∧ c ≤ (n : Int) := fun r hr c hc => by
  obtain ⟨j, hj, rfl⟩ := List.getElem_of_mem hr
  have := F.edge j c (by rw [List.getD_eq_getElem?_getD, List.getElem?_eq_getElem hj]; exact hc)
  exact (N.mem _).mp (rk_lt (by rw [N.len]; omega))
theorem Fst.ok (F : Fst ns i rows) (N : Nums ns n) (hi : i < n) (hl : rows.length = n) (hn : n ≤ 6) : ∀ (k : Nat) (p : Int), p ∈ ns → n ≤ k + 1 + ns.idxOf p → Ok rows k p
  | 0, p, hp, hk => by
    have h1 := (N.mem p).mp hp
    refine ⟨h1.1, by rw [hl]; exact h1.2, List.eq_nil_iff_forall_not_mem.mpr fun c hc => ?_⟩
    have := F.kid N hi h1.1 hc
    have := List.idxOf_lt_length_iff.mpr this.2
    have := N.len
    omega
  | k + 1, p, hp, hk => by
    have h1 := (N.mem p).mp hp
    have := F.row_len N hi hp
    refine ⟨h1.1, by rw [hl]; exact h1.2, by omega, fun c hc => ?_⟩
    have := F.kid N hi h1.1 hc
    exact F.ok N hi hl hn k c this.2 (by omega)
end
theorem Ok.up {rows : List (List Int)} : ∀ {k : Nat} {p : Int}, Ok rows k p → Ok rows (k + 1) p ∧ down rows (k + 1) p = down rows k p
  | 0, p, h => by
    refine ⟨⟨h.1, h.2.1, by rw [h.2.2]; decide, fun c hc => by rw [h.2.2] at hc; cases hc⟩, ?_⟩
    show p :: _ = [p]
    rw [h.2.2]; rfl
  | k + 1, p, h => by
    refine ⟨⟨h.1, h.2.1, h.2.2.1, fun c hc => (h.2.2.2 c hc).up.1⟩, ?_⟩
    show p :: (rows.getD (p - 1).toNat []).flatMap (down rows (k + 1)) = p :: (rows.getD (p - 1).toNat []).flatMap (down rows k)
    have h' := h.2.2.2
    generalize rows.getD (p - 1).toNat [] = row at h'
    congr 1
    induction row with
    | nil => rfl
    | cons c r ih => rw [List.flatMap_cons, List.flatMap_cons, (h' c (.head _)).up.2, ih fun d hd => h' d (.tail _ hd)]
theorem Ok.eq {rows : List (List Int)} {k : Nat} {p : Int} (h : Ok rows k p) : down rows k p = p :: (rows.getD (p - 1).toNat []).flatMap (down rows k) := h.up.2.symm
theorem Ok.kids {rows : List (List Int)} {k : Nat} {p : Int} (h : Ok rows k p) : ∀ c ∈ rows.getD (p - 1).toNat [], Ok rows k c := h.up.1.2.2.2
theorem due_down {rows : List (List Int)} {n K : Nat} (hn : rows.length = n) : ∀ (fuel : Nat) (found left : List Int), (∀ p ∈ left, Ok rows K p) → (found ++ left.flatMap (down rows K)).Nodup → (left.flatMap (down rows K)).length < fuel → due rows n fuel found left = some (found ++ left.flatMap (down rows K))
  | 0, _, _, _, _, h => absurd h (Nat.not_lt_zero _)
  | fuel + 1, found, [], _, _, _ => by rw [List.flatMap_nil, List.append_nil]; rfl
  | fuel + 1, found, p :: r, hok, hnd, hf => by
    have hp := hok p (.head _)
    have e : (p :: r).flatMap (down rows K) = p :: (rows.getD (p - 1).toNat [] ++ r).flatMap (down rows K) := by
      rw [List.flatMap_cons, hp.eq, List.flatMap_append, List.cons_append]
    rw [e] at hnd hf ⊢
    have hlo := hp.lo
    show (if _ then _ else _) = _
    rw [if_neg]
    · rw [due_down hn fuel (found ++ [p]) _ (fun q hq => (List.mem_append.mp hq).elim (hp.kids q) fun h => hok q (.tail _ h)) (by rw [List.append_assoc]; exact hnd) (by rw [List.length_cons] at hf; omega), List.append_assoc]
      rfl
    · rintro (h | h | h)
      · exact (List.nodup_append.mp hnd).2.2 p h p (.head _) rfl
      · omega
      · omega
theorem sum_one {f : Int → Nat} {q : Int} : ∀ {l : List Int}, (∀ x ∈ l, f x ≤ if x = q then 1 else 0) → (l.map f).sum ≤ l.count q
  | [], _ => Nat.zero_le _
  | x :: l, h => by
    rw [List.map_cons, List.sum_cons, List.count_cons]
    have h1 := h x (.head _)
    have h2 := sum_one (f := f) (q := q) (l := l) fun y hy => h y (.tail _ hy)
    by_cases e : x = q
    · rw [if_pos e] at h1; rw [if_pos (by simpa using e)]; omega
    · rw [if_neg e] at h1; rw [if_neg (by simpa using e)]; omega
theorem sum_nil {f : Int → Nat} : ∀ {l : List Int}, (∀ x ∈ l, f x = 0) → (l.map f).sum = 0
  | [], _ => rfl
  | x :: l, h => by rw [List.map_cons, List.sum_cons, h x (.head _), sum_nil fun y hy => h y (.tail _ hy)]
theorem down_count (rows : List (List Int)) (y : Int) : ∀ (k : Nat) (p : Int), (down rows k p).count y ≤ (if y = p then 1 else 0) + ((down rows k p).map fun q => (rows.getD (q - 1).toNat []).count y).sum
  | 0, p => by
    show [p].count y ≤ _
    rw [List.count_singleton]
    by_cases e : y = p
    · rw [if_pos (by simp [e]), if_pos e]; omega
    · rw [if_neg (by simpa using Ne.symm e)]; omega
  | k + 1, p => by
    have hrow : ∀ l : List Int, (l.flatMap (down rows k)).count y ≤ l.count y + ((l.flatMap (down rows k)).map fun q => (rows.getD (q - 1).toNat []).count y).sum := fun l => by
      induction l with
      | nil => exact Nat.zero_le _
      | cons c r ih =>
        rw [List.flatMap_cons, List.count_append, List.map_append, List.sum_append, List.count_cons]
        have h1 := down_count rows y k c
        by_cases e : c = y
        · rw [if_pos e.symm] at h1; rw [if_pos (by simpa using e)]; omega
        · rw [if_neg (Ne.symm e)] at h1; rw [if_neg (by simpa using e)]; omega
    show (p :: (rows.getD (p - 1).toNat []).flatMap (down rows k)).count y ≤ _ + (((p :: (rows.getD (p - 1).toNat []).flatMap (down rows k)).map fun q => (rows.getD (q - 1).toNat []).count y).sum)
    have := hrow (rows.getD (p - 1).toNat [])
    rw [List.map_cons, List.sum_cons, List.count_cons]
    by_cases e : p = y
    · rw [if_pos (by simpa using e), if_pos e.symm]; omega
    · rw [if_neg (by simpa using e), if_neg (Ne.symm e)]; omega
section
variable {ns : List Int} {n i : Nat} {rows : List (List Int)}
theorem Fst.ranks (F : Fst ns i rows) (N : Nums ns n) (hi : i < n) : ∀ (k : Nat) (p : Int), p ∈ ns → ∀ q ∈ down rows k p, q ∈ ns ∧ ns.idxOf p ≤ ns.idxOf q
  | 0, p, hp, q, hq => by rw [List.mem_singleton.mp hq]; exact ⟨hp, Nat.le_refl _⟩
  | k + 1, p, hp, q, hq => by
    rcases List.mem_cons.mp hq with rfl | hq
    · exact ⟨hp, Nat.le_refl _⟩
    · obtain ⟨c, hc, hq⟩ := List.mem_flatMap.mp hq
      have h1 := F.kid N hi ((N.mem p).mp hp).1 hc
      have h2 := F.ranks N hi k c h1.2 q hq
      exact ⟨h2.1, by omega⟩
theorem Fst.down_nodup (F : Fst ns i rows) (N : Nums ns n) (hi : i < n) (k : Nat) {p : Int} (hp : p ∈ ns) : (down rows k p).Nodup := by
  have R := F.ranks N hi k p hp
  have C := fun y => down_count rows y k p
  generalize down rows k p = L at *
  have key : ∀ (m : Nat) (y : Int), ns.idxOf y < m → L.count y ≤ 1 := by
    intro m
    induction m with
    | zero => exact fun y h => absurd h (Nat.not_lt_zero _)
    | succ m ih =>
      intro y hy
      by_cases e : y = p
      · subst e
        have := C y
        rw [if_pos rfl, sum_nil fun q hq => ?_] at this
        · exact this
        · refine List.count_eq_zero.mpr fun h => ?_
          have h1 := R q hq
          have h2 := F.kid N hi ((N.mem q).mp h1.1).1 h
          omega
      · by_cases ex : ∃ q, q ∈ L ∧ y ∈ rows.getD (q - 1).toNat []
        · obtain ⟨q, hq, hy'⟩ := ex
          have h2 := F.kid N hi ((N.mem q).mp (R q hq).1).1 hy'
          have h3 := ih q (by omega)
          have h4 := C y
          rw [if_neg e, Nat.zero_add] at h4
          refine Nat.le_trans h4 (Nat.le_trans (sum_one (q := q) fun x hx => ?_) h3)
          split
          · exact List.nodup_iff_count.mp (F.nd _) y
          · rename_i hne
            refine Nat.le_of_eq (List.count_eq_zero.mpr fun h => hne ?_)
            have := F.uniq _ _ y h hy'
            have a := ((N.mem q).mp (R q hq).1).1
            have b := ((N.mem x).mp (R x hx).1).1
            omega
        · have h4 := C y
          rw [if_neg e, Nat.zero_add, sum_nil fun q hq => List.count_eq_zero.mpr fun h => ex ⟨q, hq, h⟩] at h4
          omega
  exact List.nodup_iff_count.mpr fun y => key _ y (Nat.lt_succ_self _)
/-- the walk from a page of the tree meets its pages in order, each once -/
theorem Fst.due_eq (F : Fst ns i rows) (N : Nums ns n) (hi : i < n) (hl : rows.length = n) (hn : n ≤ 6) {p : Int} (hp : p ∈ ns) : Ok rows 5 p ∧ due rows n (n + 1) [] [p] = some (down rows 5 p) := by
  have ok := F.ok N hi hl hn 5 p hp (by omega)
  have nd := F.down_nodup N hi 5 hp
  have len := nodup_len nd fun q hq => (N.mem q).mp (F.ranks N hi 5 p hp q hq).1
  have e : [p].flatMap (down rows 5) = down rows 5 p := by simp
  refine ⟨ok, ?_⟩
  rw [due_down hl (n + 1) [] [p] (fun q hq => by rw [List.mem_singleton.mp hq]; exact ok) (by rw [e]; exact nd) (by rw [e]; omega), e]
  rfl
end
end
section
section
variable {w : World} {κ : Bool} {sc : Scope} {lv : Nat} {Γ : Cx w κ sc lv} {E : Value → Shared → Prop} {loc : Loc} {cells : List AO} {Q : AV → List AO → Prop}
theorem TE_TupP {es : List PySem.Expr} {k : Nat} {pos : Pos} (h : TA Γ E pos es loc cells fun rs c => rs.all AV.isPure = true ∧ rs.length ≤ 1000 ∧ Q (.pure (.tuple (rs.map AV.d))) c) : TE Γ E (.Tuple es k pos) loc cells Q := by
  intro h₀ tk α F R
  show wpM κ _ _ (do standAt pos; newTuple (← spliced (backTo pos (starEach es Γ.env)))) _ _ _
  refine wpM_bind (wpM_standAt (wpM_bind (wpM_idE (h h₀ tk α F R) ?_)))
  rintro vs s' ⟨h₁, tk₁, α₁, F₁, c₁, rfl, p₁, f₁, ⟨gr, tn, m, val, cvl, leds, R₁⟩, rs, ra, hp, hz, q⟩
  refine wpM_of_any (kup_newTuple R₁.fr R₁.news (fun l h' F' N' lt => ?_) (by rw [← ra.length, sizeLine_eq]; omega))
  refine OutG.mono (α₁ := α₁) (F₁ := F₁) p₁ f₁ (out_new ⟨gr, tn, m, val, cvl, leds, R₁.frozen F' N' lt⟩ ⟨_, ?_, q⟩) fun _ _ _ _ _ x => x
  exact VR.tuple (.inr (.head _)) ((ra.pures hp).mono (pf_tail fun _ x => .tail _ x))
end
section
variable {w : World} {κ : Bool} {sc : Scope} {lv : Nat} {Γ : Cx w κ sc lv} {loc : Loc} {cells : List AO} {α : List Addr} {F : Led} {E : Value → Shared → Prop} {scope : Scope} {x : PySem.Str} {elt iter : PySem.Expr} {ifs : List PySem.Expr} {px pos : Pos}
theorem CEnd.made {Dd C : Addr} {S : List D → Prop} {h h' : Heap} (ce : CEnd Γ loc cells α F S Dd C h) (hs : Heap.SameBut C h h') : ∃ ds F' m val cvl leds, S ds ∧ (∀ p ∈ F, p ∈ F') ∧ Rel' Γ loc (cells ++ [.list ds]) (α ++ [Dd]) F' h' m val cvl leds ∧ ∀ P : Addr → Obj → Prop, AVR P (α ++ [Dd]) (.ref cells.length) (.ref Dd) := by
  obtain ⟨ds, ys, c, oC, G, m, val, cvl, leds, hS, ⟨es, ep, hd, _⟩, hF, hGC, rys, R, ⟨d1, d2, d3⟩, hDC, hoff⟩ := id ce
  obtain ⟨m', val', cvl', leds', R1⟩ := R.madeN (d := Dd) (ob := listOf ys.toArray c) R.fr (fun p hp => by
    rcases List.mem_cons.mp hp with rfl | hp
    · exact ⟨d1, d2, d3⟩
    · exact R.news p hp) hoff (.list rys)
  exact ⟨ds, _, m', val', cvl', leds', hS, fun p hp => List.mem_filter.mpr ⟨.tail _ (hF p hp), decide_eq_true (hGC p (hF p hp))⟩, comp_off R1 (.head _) hd hs, fun P => ref_snoc R⟩
theorem TE_CompC {Q : AV → List AO → Prop} (ok : CompOk scope sc x) (lc : Loc) (hlc : ∀ p ∈ lc, loc.lookup p.1 = some p.2 ∧ (p.1, NameKind.free) ∈ scope.names) (hs : ∀ x, foldedSetIterable iter Γ.env x = pure x)
    (h : TE Γ.down E iter loc cells fun a c => CO w sc lv scope x elt ifs lc c (fun r => Q (.ref c.length) (c ++ [.list r])) a) : TE Γ E (.ListComp elt [⟨.Name x px, iter, ifs, 0⟩] scope pos) loc cells Q := by
  intro h₀ tk α F R
  obtain ⟨cl', hcl, hco⟩ := clos_of (env := Γ.env) fun y hy => ok.free Γ hy
  rw [eval_ListComp]
  refine wpM_of_any (wpAny_comprehension_free (use := none) rfl hs hcl ok.kind (fun y hy e => by obtain ⟨n, k⟩ := y; cases e; exact lookup_nd ok.nd hy) (wpAny_mono (wpM_false (h h₀ tk α F R.toDown)) ?_ fun _ _ z => z))
  rintro u s' ⟨h₁, tk₁, α₁, F₁, c₁, rfl, p₁, f₁, ⟨gr, tn, m, val, cvl, leds, R₁⟩, a, ra, co⟩
  refine comp_core (Γ := Γ.turn gr tn) ok hco (Rel'.ofDown (Γ := Γ.turn gr tn) R₁) hlc ra co fun Dd C h tk ce => ?_
  obtain ⟨_, _, _, oC, _, _, _, _, _, _, ⟨es, ep, hd, hk⟩, _, _, _, R2, _⟩ := id ce
  refine ⟨_, ⟨oC, es, ep, (R2.news _ (List.mem_append_right _ (.head _))).1, hd, hk, fun _ => rfl⟩, fun h' hs' => ?_⟩
  obtain ⟨ds, F', m', val', cvl', leds', q, f', R', v⟩ := ce.made hs'
  exact ⟨h', _, α₁ ++ [Dd], F', _, rfl, fun i a e => Pre.snoc Dd i a (p₁ i a e), fun p hp => f' p (f₁ p hp), ⟨gr, tn, m', val', cvl', leds', R'⟩, .ref c₁.length, v _, q⟩
end
noncomputable abbrev rl (many : Nat) (r : Bool) (ns : List Int) (ch : AV) : Loc := [(Str.ofString "source", .ref 0), (Str.ofString "many", .int many), (Str.ofString "is_rows_here", .pure (.bool r)), (Str.ofString "numbers", .pure (.list (ns.map .int))), (Str.ofString "children", ch)]
noncomputable abbrev rowD (r : List Int) : D := .list (r.map .int)
noncomputable abbrev xl (many : Nat) (r : Bool) (ns : List Int) (ch : AV) (page : Int) (row : List Int) (spot : Nat) (other : Int) : Loc := [(Str.ofString "source", .ref 0), (Str.ofString "many", .int many), (Str.ofString "is_rows_here", .pure (.bool r)), (Str.ofString "numbers", .pure (.list (ns.map .int))), (Str.ofString "children", ch), (Str.ofString "page", .int page), (Str.ofString "row", .pure (rowD row)), (Str.ofString "spot", .int spot), (Str.ofString "other", .int other)]
noncomputable def RJ (n : Nat) (r : Bool) (ns : List Int) (i : Nat) (l : Loc) (c : List AO) : Prop :=
  ∃ (a b : Int) (rows : List (List Int)), l = rl n r ns (.ref 1) ∧ c = [.list [.int a, .int b], .list (rows.map rowD)] ∧ 0 ≤ a ∧ 0 ≤ b ∧ rows.length = n ∧ Fst ns i rows
theorem right_all_f (w : World) (a b : Int) (ha : 0 ≤ a) (hb : 0 ≤ b) : CanG true w true 9 696 [.ref 0] [.list [.int a, .int b]] (fun v c => v = .pure (.bool true) ∧ ∃ a' b' : Int, c = [.list [.int a', .int b']]) False := by
  refine' enterFK (names := [Str.ofString "source"]) ?ho ?hcd ?hb ?hl ?hn ?hlen ?h1 ?h2 ?h3 ?h4 ?h5 ?h6 ?_
  case ho => k_is
  case hcd => k_is
  case hl => rfl
  case hn => decide
  case hlen => rfl
  case h1 => rfl
  case h2 => rfl
  case h3 => rfl
  case h4 => decide
  case h5 => decide
  case h6 => decide
  case hb => exact bind1 fun _ _ => BindsTo.of_eq rfl
  intro Γ ho hfs hα
  have hP : PassesOwn (model PG w) Γ.A Γ.env (fun _ _ => False) := PassesOwn.never
  refine S_tup (names := [Str.ofString "many", Str.ofString "is_rows_here"]) rfl rfl rfl (by decide) ?_
  refine TA_cons ?_ rfl
  refine TE_BinOp ?_
  refine TE_int ?_
  refine TE_callK (by rfl) (by k_is) (by rfl) (.own (by k_is)) (by rfl) ?_
  refine TA_cons ?_ rfl
  refine TE_local rfl rfl rfl ?_
  refine TA_cons ?_ rfl
  refine TE_int ?_
  refine TA_nil ?_
  refine OC_can (take_f w a b 6 (by decide) (by decide) ha hb) [0] (.inl rfl) (by decide) (fun h => h.elim) rfl rfl ⟨by decide, rfl, rfl⟩ ?_
  rintro _ c ⟨z, a₁, b₁, rfl, z0, z1, ha₁, hb₁, rfl⟩ -
  refine op_add ?_
  refine TA_cons ?_ rfl
  refine TE_Compare ?_ rfl
  refine TE_callK (by rfl) (by k_is) (by rfl) (.own (by k_is)) (by rfl) ?_
  refine TA_cons ?_ rfl
  refine TE_local rfl rfl rfl ?_
  refine TA_cons ?_ rfl
  refine TE_int ?_
  refine TA_nil ?_
  refine OC_can (take_f w a₁ b₁ 2 (by decide) (by decide) ha₁ hb₁) [0] (.inl rfl) (by decide) (fun h => h.elim) rfl rfl ⟨by decide, rfl, rfl⟩ ?_
  rintro _ c ⟨z', a₂, b₂, rfl, _, _, ha₂, hb₂, rfl⟩ -
  refine TE_int ?_
  refine op_eq ?_
  refine TA_nil ?_
  refine ⟨rfl, ?_⟩
  obtain ⟨n, hn⟩ : ∃ n : Nat, (1 + z : Int) = n := ⟨(1 + z).toNat, by omega⟩
  rw [hn]
  have n1 : 1 ≤ n := by omega
  have n6 : n ≤ 6 := by omega
  generalize (z' == 0) = r
  refine TSs_wk (Wk.locs (l' := [(Str.ofString "source", .ref 0), (Str.ofString "many", .int n), (Str.ofString "is_rows_here", .pure (.bool r))]) (c := [.list [.int a₂, .int b₂]]) (by simp only [List.forall_mem_cons]; exact ⟨rfl, rfl, rfl, fun _ h => nomatch h⟩) ?_)
  have nI : (1 : Int) ≤ n ∧ (n : Int) ≤ 6 := ⟨by omega, by omega⟩
  have hα' : id (Γ.α₀.length ≤ 1) := hα
  clear hn z0 z1 ha hb ha₁ hb₁ hα
  with_unfolding_all refine S_assign (.inl rfl) rfl ?_
  refine TE_hide fun K hK => ?_
  refine TE_callK (by rfl) (by k_is) (by rfl) (.own (by k_is)) (by rfl) ?_
  refine TA_cons ?_ rfl
  refine TE_local rfl rfl rfl ?_
  refine TA_cons ?_ rfl
  refine TE_callB (by rfl) (by k_is) boot_range' (by decide) (by rfl) .type (by rfl) ?_
  refine TA_cons ?_ rfl
  refine TE_int ?_
  refine TA_cons ?_ rfl
  refine TE_BinOp ?_
  refine TE_local rfl rfl rfl ?_
  refine TE_int ?_
  refine op_add ?_
  refine TA_nil ?_
  refine oc_range2 ?_
  refine TA_nil ?_
  refine OC_can (shuffled_f w a₂ b₂ n nI.1 nI.2 ha₂ hb₂) [0] (.inl rfl) (by decide) (fun h => h.elim) rfl rfl ⟨by decide, rfl, rfl⟩ ?_
  rintro _ c ⟨ns, a₃, b₃, rfl, hpm, ha₃, hb₃, rfl⟩ -
  have N : Nums ns n := Nums.of (by simpa using hpm)
  have hnl := N.len
  have ns6 : ns.length ≤ 6 := by omega
  refine hK _ _ ?_
  refine TSs_wk (Wk.locs (l' := [(Str.ofString "source", .ref 0), (Str.ofString "many", .int n), (Str.ofString "is_rows_here", .pure (.bool r)), (Str.ofString "numbers", .pure (.list (ns.map .int)))]) (c := [.list [.int a₃, .int b₃]]) (by simp only [List.forall_mem_cons]; exact ⟨rfl, rfl, rfl, rfl, fun _ h => nomatch h⟩) ?_)
  clear hpm ha₂ hb₂
  refine S_assign (.inr ⟨rfl, ho⟩) rfl ?_
  refine TE_CompC ⟨rfl, rfl, by decide, rfl⟩ [] (fun _ h => absurd h List.not_mem_nil) (fun _ => rfl) ?_
  refine TE_callB (by rfl) (by k_is) boot_range' (by decide) (by rfl) .type (by rfl) ?_
  refine TA_cons ?_ rfl
  refine TE_local rfl rfl rfl ?_
  refine TA_nil ?_
  refine oc_range1 ?_
  refine .range (n := n) (fun i x => x = List.replicate i (.list [])) (by omega) (by omega) (by omega) rfl (fun j Γ' acc hj hK => ?_) (fun x hx => ?_)
  · show TE _ _ _ _ _ _
    refine TE_ListP ?_
    refine TA_nil ?_
    exact ⟨rfl, by decide, rfl, _, rfl, by rw [hK]; exact (List.replicate_succ' ..).symm⟩
  subst hx
  refine TSs_wk (Wk.locs (l' := rl n r ns (.ref 1)) (c := [.list [.int a₃, .int b₃], .list (List.replicate n (.list []))]) (by simp only [List.forall_mem_cons]; exact ⟨rfl, rfl, rfl, rfl, rfl, fun _ h => nomatch h⟩) ?_)
  refine S_seq (TS_For (fun _ => rfl) ?_)
  generalize hQ : Seq Γ _ _ _ = Q'
  refine TE_callB (by rfl) (by k_is) boot_range' (by decide) (by rfl) .type (by rfl) ?_
  refine TA_cons ?_ rfl
  refine TE_int ?_
  refine TA_cons ?_ rfl
  refine TE_local rfl rfl rfl ?_
  refine TA_nil ?_
  refine oc_range2 ?_
  refine fo_range (n := n - 1) (by omega) (by omega) (by omega) hP (.inl rfl) (RJ n r ns) ⟨a₃, b₃, List.replicate n [], rfl, by rw [List.map_replicate]; rfl, ha₃, hb₃, List.length_replicate, Fst.zero⟩ (fun i l c hi hJ => ?_) (fun l c hJ => ?_)
  · clear ha₃ hb₃
    obtain ⟨a, b, rows, rfl, rfl, ha, hb, hrl, hF⟩ := hJ
    with_unfolding_all refine S_assign (.inl rfl) rfl ?_
    refine TE_hide fun K hK => ?_
    refine TE_Sub ?_
    refine TE_local rfl rfl rfl ?_
    refine TE_callK (by rfl) (by k_is) (by rfl) (.own (by k_is)) (by rfl) ?_
    refine TA_cons ?_ rfl
    refine TE_local rfl rfl rfl ?_
    refine TA_cons ?_ rfl
    refine TE_local rfl rfl rfl ?_
    refine TA_nil ?_
    refine OC_can (take_f w a b (1 + (i : Int)) (by omega) (by omega) ha hb) [0] (.inl rfl) (by decide) (fun h => h.elim) rfl rfl ⟨by decide, rfl, rfl⟩ ?_
    rintro _ c ⟨t, a', b', rfl, t0, t1, ha', hb', rfl⟩ -
    obtain ⟨k, rfl⟩ : ∃ k : Nat, t = k := ⟨t.toNat, by omega⟩
    have hk := N.at (i := k) (by omega)
    have hx := N.at (i := i + 1) (by omega)
    have hst : ∀ r, _ → Fst ns (i + 1) (rows.set (ns.getD k 0 - 1).toNat r) := fun r => hF.step (k := k) (r := r) N.nd (by omega) (by omega) hk.1 (by omega)
    refine op_item (by exact .pure) (by assumption) (by first | exact lm_i (by omega) | exact lm_n (by omega) | (simp only [List.length_map, List.length_cons, List.length_nil, List.length_append, List.length_take, List.length_drop, List.length_reverse, List.length_set, List.length_replicate, List.length_dropLast]; omega)) (by first | exact lm_i (by omega) | exact lm_n (by omega) | (simp only [List.length_map, List.length_cons, List.length_nil, List.length_append, List.length_take, List.length_drop, List.length_reverse, List.length_set, List.length_replicate, List.length_dropLast]; omega)) ?_ (fun _ _ => rfl)
    rw [Int.toNat_natCast, getD_map (f := D.int) (0 : Int) D.none (by omega)]
    refine hK _ _ ?_
    with_unfolding_all refine S_assign (.inl rfl) rfl ?_
    refine TE_hide fun K hK => ?_
    refine TE_Sub ?_
    refine TE_cell rfl rfl rfl ?_
    refine TE_BinOp ?_
    refine TE_local rfl rfl rfl ?_
    refine TE_int ?_
    refine op_sub ?_
    refine op_item (by exact .ref rfl) (by omega) (by first | exact lm_i (by omega) | exact lm_n (by omega) | (simp only [List.length_map, List.length_cons, List.length_nil, List.length_append, List.length_take, List.length_drop, List.length_reverse, List.length_set, List.length_replicate, List.length_dropLast]; omega)) (by first | exact lm_i (by omega) | exact lm_n (by omega) | (simp only [List.length_map, List.length_cons, List.length_nil, List.length_append, List.length_take, List.length_drop, List.length_reverse, List.length_set, List.length_replicate, List.length_dropLast]; omega)) ?_ (fun _ _ => rfl)
    refine hK _ _ ?_
    with_unfolding_all refine S_sub rfl ?_
    refine TE_callK (by rfl) (by k_is) (by rfl) (.own (by k_is)) (by rfl) ?_
    refine TA_cons ?_ rfl
    refine TE_local rfl rfl rfl ?_
    refine TA_cons ?_ rfl
    refine TE_ListP ?_
    refine TA_cons ?_ rfl
    refine TE_BinOp ?_
    refine TE_local rfl rfl rfl ?_
    refine TE_ListP ?_
    refine TA_cons ?_ rfl
    refine TE_Sub ?_
    refine TE_local rfl rfl rfl ?_
    refine TE_local rfl rfl rfl ?_
    refine op_item (by exact .pure) (of_decide_eq_true rfl) (by first | exact lm_i (by omega) | exact lm_n (by omega) | (simp only [List.length_map, List.length_cons, List.length_nil, List.length_append, List.length_take, List.length_drop, List.length_reverse, List.length_set, List.length_replicate, List.length_dropLast]; omega)) (by first | exact lm_i (by omega) | exact lm_n (by omega) | (simp only [List.length_map, List.length_cons, List.length_nil, List.length_append, List.length_take, List.length_drop, List.length_reverse, List.length_set, List.length_replicate, List.length_dropLast]; omega)) ?_ (fun _ _ => rfl)
    refine TA_nil ?_
    rw [getD_map (f := rowD) ([] : List Int) D.none (by omega)]
    rw [show (1 + (i : Int)).toNat = i + 1 by omega, getD_map (f := D.int) (0 : Int) D.none (by omega)]
    have hrow := hF.row_len N (by omega) hk.2.2
    generalize hrw : rows.getD (ns.getD k 0 - 1).toNat [] = row at *
    refine ⟨rfl, of_decide_eq_true rfl, ?_⟩
    refine op_catP (ds := row.map .int) (es := [ns.getD (i + 1) 0].map .int) .pure .pure (by rw [List.length_map]; omega) (of_decide_eq_true rfl) ?_
    rw [← List.map_append]
    refine TA_cons ?_ rfl
    refine TE_BinOp ?_
    refine TE_ListP ?_
    refine TA_cons ?_ rfl
    refine TE_Sub ?_
    refine TE_local rfl rfl rfl ?_
    refine TE_local rfl rfl rfl ?_
    refine op_item (by exact .pure) (of_decide_eq_true rfl) (by first | exact lm_i (by omega) | exact lm_n (by omega) | (simp only [List.length_map, List.length_cons, List.length_nil, List.length_append, List.length_take, List.length_drop, List.length_reverse, List.length_set, List.length_replicate, List.length_dropLast]; omega)) (by first | exact lm_i (by omega) | exact lm_n (by omega) | (simp only [List.length_map, List.length_cons, List.length_nil, List.length_append, List.length_take, List.length_drop, List.length_reverse, List.length_set, List.length_replicate, List.length_dropLast]; omega)) ?_ (fun _ _ => rfl)
    refine TA_nil ?_
    rw [show (1 + (i : Int)).toNat = i + 1 by omega, getD_map (f := D.int) (0 : Int) D.none (by omega)]
    refine ⟨rfl, of_decide_eq_true rfl, ?_⟩
    refine TE_local rfl rfl rfl ?_
    refine op_catP (ds := [ns.getD (i + 1) 0].map .int) (es := row.map .int) .pure .pure (of_decide_eq_true rfl) (by rw [List.length_map]; omega) ?_
    rw [← List.map_append]
    refine TA_nil ?_
    refine ⟨rfl, of_decide_eq_true rfl, ?_⟩
    refine TA_nil ?_
    refine OC_can (one_f w a' b' _ (of_decide_eq_true rfl) (of_decide_eq_true rfl) ha' hb') [0] (.inl rfl) (by decide) (fun h => h.elim) rfl rfl ⟨by decide, rfl, rfl⟩ ?_
    rintro _ c ⟨j, a'', b'', hj, rfl, ha'', hb'', rfl⟩ -
    refine TE_cell rfl rfl rfl ?_
    refine TE_BinOp ?_
    refine TE_local rfl rfl rfl ?_
    refine TE_int ?_
    refine op_sub ?_
    refine os_list (by rfl) (by omega) (by first | exact lm_i (by omega) | exact lm_n (by omega) | (simp only [List.length_map, List.length_cons, List.length_nil, List.length_append, List.length_take, List.length_drop, List.length_reverse, List.length_set, List.length_replicate, List.length_dropLast]; omega)) (by first | exact lm_i (by omega) | exact lm_n (by omega) | (simp only [List.length_map, List.length_cons, List.length_nil, List.length_append, List.length_take, List.length_drop, List.length_reverse, List.length_set, List.length_replicate, List.length_dropLast]; omega)) ?_
    refine TSs_nil ?_
    obtain ⟨row', hr', hd'⟩ : ∃ row' : List Int, (row' = row ++ [ns.getD (i + 1) 0] ∨ row' = [ns.getD (i + 1) 0] ++ row) ∧ ([D.list ((row ++ [ns.getD (i + 1) 0]).map .int), D.list (([ns.getD (i + 1) 0] ++ row).map .int)] : List D).getD j D.none = rowD row' := by
      have hj' : j < 2 := hj
      rcases (show j = 0 ∨ j = 1 by omega) with rfl | rfl
      · exact ⟨_, .inl rfl, rfl⟩
      · exact ⟨_, .inr rfl, rfl⟩
    show Wk _ _ _ _
    refine' Wk.locs (l' := rl n r ns (.ref 1)) ?hl ⟨a'', b'', rows.set (ns.getD k 0 - 1).toNat row', rfl, ?hc, ha'', hb'', ?hz, hst row' ?hf⟩
    case hl => simp only [List.forall_mem_cons]; exact ⟨rfl, rfl, rfl, rfl, rfl, fun _ h => nomatch h⟩
    case hc =>
      rw [List.map_set]
      exact congrArg (fun z : D => [AO.list [.int a'', .int b''], AO.list ((rows.map rowD).set (ns.getD k 0 - 1).toNat z)]) hd'
    case hz => rw [List.length_set]; exact hrl
    case hf => exact hr'
  subst hQ
  clear ha₃ hb₃
  obtain ⟨a, b, rows, rfl, rfl, ha, hb, hrl, hF⟩ := hJ
  have hi : n - 1 < n := by omega
  have N1 := N.at (i := 0) (by omega)
  have hal := hF.all_len N hi hrl
  have ham := hF.all_mem N hi
  have hdn := fun {p : Int} hp => hF.due_eq (p := p) N hi hrl n6 hp
  refine TSs_wk (Wk.frz (l' := rl n r ns (rowsD rows)) (c' := [.list [.int a, .int b]]) (k := 1) [0] ⟨by decide, rfl, rfl⟩ hα' (fun i hi => ?_) rfl (by decide) ?_ ?_)
  · have : i = 0 := by have : i < 1 := hi; omega
    subst this; rfl
  · simp only [List.forall_mem_cons]
    exact ⟨.inl ⟨rfl, rfl⟩, .inl ⟨rfl, rfl⟩, .inl ⟨rfl, rfl⟩, .inl ⟨rfl, rfl⟩, .inr ⟨rfl, trivial⟩, fun _ h => nomatch h⟩
  refine S_seq (TS_For (fun _ => rfl) ?_)
  generalize hQ : Seq Γ _ _ _ = Q'
  refine TE_TupP ?_
  refine TA_cons ?_ rfl
  refine TE_Sub ?_
  refine TE_local rfl rfl rfl ?_
  refine TE_int ?_
  refine op_item (by exact .pure) (of_decide_eq_true rfl) (by first | exact lm_i (by omega) | exact lm_n (by omega) | (simp only [List.length_map, List.length_cons, List.length_nil, List.length_append, List.length_take, List.length_drop, List.length_reverse, List.length_set, List.length_replicate, List.length_dropLast]; omega)) (by first | exact lm_i (by omega) | exact lm_n (by omega) | (simp only [List.length_map, List.length_cons, List.length_nil, List.length_append, List.length_take, List.length_drop, List.length_reverse, List.length_set, List.length_replicate, List.length_dropLast]; omega)) ?_ (fun _ _ => rfl)
  refine TA_cons ?_ rfl
  refine TE_callK (by rfl) (by k_is) (by rfl) (.own (by k_is)) (by rfl) ?_
  refine TA_cons ?_ rfl
  refine TE_local rfl rfl rfl ?_
  refine TA_cons ?_ rfl
  refine TE_local rfl rfl rfl ?_
  refine TA_nil ?_
  rw [show Int.toNat 0 = 0 from rfl, getD_map (f := D.int) (0 : Int) D.none (by omega)]
  refine OC_can (one_f w a b (ns.map .int) (by rw [List.length_map]; omega) (by rw [List.length_map]; omega) ha hb) [0] (.inl rfl) (by decide) (fun h => h.elim) rfl rfl ⟨by decide, rfl, rfl⟩ ?_
  rintro _ c ⟨j, a₁, b₁, hj, rfl, ha₁, hb₁, rfl⟩ -
  rw [List.length_map] at hj
  have N2 := N.at (i := j) (by omega)
  refine TA_nil ?_
  refine ⟨rfl, of_decide_eq_true rfl, ?_⟩
  rw [getD_map (f := D.int) (0 : Int) D.none (by omega)]
  have N12 : ∀ i, i < 2 → ∃ p : Int, p ∈ ns ∧ ([D.int (ns.getD 0 0), D.int (ns.getD j 0)] : List D).getD i .none = .int p := fun i hi => by
    rcases (show i = 0 ∨ i = 1 by omega) with rfl | rfl
    · exact ⟨_, N1.2.2, rfl⟩
    · exact ⟨_, N2.2.2, rfl⟩
  show FO Γ _ _ _ _ (.pure (.tuple [D.int (ns.getD 0 0), D.int (ns.getD j 0)])) _ [.list [.int a₁, .int b₁]] _
  refine fo_tuple hP (.inl rfl) (fun i l c => l = rl n r ns (rowsD rows) ∧ c = [.list [.int a₁, .int b₁]]) ⟨rfl, rfl⟩ (fun i l c hi hJ => ?_) (fun l c hJ => ?_)
  · obtain ⟨rfl, rfl⟩ := hJ
    obtain ⟨p, hp, e⟩ := N12 i hi
    rw [e]
    obtain ⟨ok, hdue⟩ := hdn hp
    have hp1 := (N.mem p).mp hp
    refine S_if ?_
    refine TB_hide fun K hK => ?_
    refine TB_Compare ?_ rfl
    refine TE_callK (by rfl) (by k_is) (by rfl) (.own (by k_is)) (by rfl) ?_
    refine TA_cons ?_ rfl
    refine TE_cell rfl rfl rfl ?_
    refine TA_cons ?_ rfl
    refine TE_local rfl rfl rfl ?_
    refine TA_cons ?_ rfl
    refine TE_local rfl rfl rfl ?_
    refine TA_nil ?_
    refine OC_canG (told_f w rows r (by omega) (fun x hx => by have := hal x hx; omega) (fun x hx q hq => by have := ham x hx q hq; omega) p (by omega) (by omega)) (.inr (hfs rfl)) [] (.inr rfl) (by decide) (fun h => h.elim) rfl rfl ⟨by decide, rfl, rfl⟩ ?_
    rintro _ c ⟨rfl, rfl⟩ -
    rw [hrl, hdue]
    refine TE_callK (by rfl) (by k_is) (by rfl) (.own (by k_is)) (by rfl) ?_
    refine TA_cons ?_ rfl
    refine TE_cell rfl rfl rfl ?_
    refine TA_cons ?_ rfl
    refine TE_local rfl rfl rfl ?_
    refine TA_nil ?_
    refine OC_can (down_f w rows (by omega) 5 (by decide) p ok) [] (.inl rfl) (by decide) (fun h => h.elim) rfl rfl ⟨by decide, rfl, rfl⟩ ?_
    rintro _ c ⟨rfl, rfl⟩ -
    refine op_ne_ints (ns := down rows 5 p) (ms := down rows 5 p) .pure .pure (by decide) ?_
    rw [decide_eq_true rfl]
    refine OT_bool ?_
    refine hK _ _ ?_
    refine if_f ?_
    refine TSs_nil ?_
    refine seq_next ?_
    refine TSs_nil ?_
    show Wk _ _ _ _
    refine' Wk.locs (l' := rl n r ns (rowsD rows)) ?hl ⟨rfl, rfl⟩
    case hl => simp only [List.forall_mem_cons]; exact ⟨rfl, rfl, rfl, rfl, rfl, fun _ h => nomatch h⟩
  subst hQ
  obtain ⟨rfl, rfl⟩ := hJ
  refine seq_next ?_
  have hfs' := hfs rfl
  clear N12 N1 N2 hj ha hb hdn
  refine S_comp (.inl rfl) rfl ⟨rfl, rfl, by decide, rfl⟩ [(Str.ofString "children", rowsD rows)] (by simp only [List.forall_mem_cons]; exact ⟨⟨rfl, by decide⟩, fun _ h => nomatch h⟩) (fun _ => rfl) ?_
  refine TE_local rfl rfl rfl ?_
  refine .list (fun i x => x = ((ns.take i).filter fun p => !decide (rows.getD (p - 1).toNat [] = [])).map .int) (by rw [List.length_map]; omega) rfl (fun i Γ' acc hi hK => ?_) (fun x hx => ?_)
  · show TB _ _ _ _ _ _ _
    rw [List.length_map] at hi
    rw [getD_map (f := D.int) (0 : Int) D.none hi, take_snoc (0 : Int) hi]
    have hp := N.at (i := i) (by omega)
    generalize ns.getD i 0 = p at *
    refine TB_Compare ?_ rfl
    refine TE_Sub ?_
    refine TE_cell rfl rfl rfl ?_
    refine TE_BinOp ?_
    refine TE_local rfl rfl rfl ?_
    refine TE_int ?_
    refine op_sub ?_
    refine op_item (by exact .pure) (by omega) (by first | exact lm_i (by omega) | exact lm_n (by omega) | (simp only [List.length_map, List.length_cons, List.length_nil, List.length_append, List.length_take, List.length_drop, List.length_reverse, List.length_set, List.length_replicate, List.length_dropLast]; omega)) (by first | exact lm_i (by omega) | exact lm_n (by omega) | (simp only [List.length_map, List.length_cons, List.length_nil, List.length_append, List.length_take, List.length_drop, List.length_reverse, List.length_set, List.length_replicate, List.length_dropLast]; omega)) ?_ (fun _ _ => rfl)
    rw [getD_map (f := rowD) ([] : List Int) D.none (by omega)]
    have hrow := hF.row_len N (by omega) hp.2.2
    rw [List.filter_append, List.map_append, ← hK]
    have hflt : [p].filter (fun p => !decide (rows.getD (p - 1).toNat [] = [])) = if (!decide (rows.getD (p - 1).toNat [] = [])) = true then [p] else [] := by rw [List.filter_cons]; rfl
    rw [hflt]
    refine TE_ListP ?_
    refine TA_nil ?_
    refine ⟨rfl, of_decide_eq_true rfl, ?_⟩
    refine op_ne_ints (ns := rows.getD (p - 1).toNat []) (ms := []) .pure .pure (by decide) ?_
    refine OT_bool ?_
    generalize (!decide (rows.getD (p - 1).toNat [] = [])) = bb
    cases bb with
    | true =>
      refine ⟨rfl, ?_⟩
      rw [if_pos rfl, if_pos rfl]
      refine TE_local rfl rfl rfl ?_
      exact ⟨rfl, _, rfl, rfl⟩
    | false =>
      refine ⟨rfl, ?_⟩
      rw [if_neg Bool.false_ne_true, if_neg Bool.false_ne_true]
      exact (List.append_nil _).symm
  rw [List.length_map, List.take_length] at hx
  subst hx
  have hin : ∀ p ∈ ns.filter (fun p => !decide (rows.getD (p - 1).toNat [] = [])), p ∈ ns ∧ rows.getD (p - 1).toNat [] ≠ [] := fun p hp => by
    obtain ⟨h1, h2⟩ := List.mem_filter.mp hp
    exact ⟨h1, by simpa using h2⟩
  have hinl : (ns.filter (fun p => !decide (rows.getD (p - 1).toNat [] = []))).length ≤ 6 := Nat.le_trans (List.length_filter_le _ _) (by omega)
  generalize ns.filter (fun p => !decide (rows.getD (p - 1).toNat [] = [])) = inner at *
  refine S_if ?_
  refine TB_hide fun K hK => ?_
  refine TB_Compare ?_ rfl
  refine TE_local rfl rfl rfl ?_
  refine TE_ListP ?_
  refine TA_nil ?_
  refine ⟨rfl, of_decide_eq_true rfl, ?_⟩
  refine op_eq_ints (ns := inner) (ms := []) .pure .pure (by decide) ?_
  refine OT_bool ?_
  refine hK _ _ ?_
  refine if_dec (fun he => ?_) (fun he => ?_)
  · refine S_ret ?_
    refine TE_Compare ?_ rfl
    refine TE_callK (by rfl) (by k_is) (by rfl) (.own (by k_is)) (by rfl) ?_
    refine TA_cons ?_ rfl
    refine TE_ListP ?_
    refine TA_cons ?_ rfl
    refine TE_ListP ?_
    refine TA_cons ?_ rfl
    refine TE_int ?_
    refine TA_nil ?_
    refine ⟨rfl, of_decide_eq_true rfl, ?_⟩
    refine TA_nil ?_
    refine ⟨rfl, of_decide_eq_true rfl, ?_⟩
    refine TA_cons ?_ rfl
    refine TE_local rfl rfl rfl ?_
    refine TA_cons ?_ rfl
    refine TE_int ?_
    refine TA_nil ?_
    refine OC_canG (told_f w [[1]] r (by decide) (by decide) (by decide) 1 (by decide) (by decide)) (.inr hfs') [] (.inr rfl) (by decide) (fun h => h.elim) rfl rfl ⟨by decide, rfl, rfl⟩ ?_
    rintro _ c ⟨rfl, rfl⟩ -
    refine TE_none ?_
    refine op_is_none_none ?_
    refine seq_ret ?_
    exact .same ⟨rfl, a₁, b₁, rfl⟩
  refine TSs_nil ?_
  refine seq_next ?_
  with_unfolding_all refine S_assign (.inl rfl) rfl ?_
  refine TE_hide fun K hK => ?_
  refine TE_callK (by rfl) (by k_is) (by rfl) (.own (by k_is)) (by rfl) ?_
  refine TA_cons ?_ rfl
  refine TE_local rfl rfl rfl ?_
  refine TA_cons ?_ rfl
  refine TE_local rfl rfl rfl ?_
  refine TA_nil ?_
  have hi0 : 0 < inner.length := List.length_pos_iff.mpr he
  refine OC_can (one_f w a₁ b₁ (inner.map .int) (by rw [List.length_map]; omega) (by rw [List.length_map]; omega) ha₁ hb₁) [0] (.inl rfl) (by decide) (fun h => h.elim) rfl rfl ⟨by decide, rfl, rfl⟩ ?_
  rintro _ c ⟨jj, a₂, b₂, hjj, rfl, ha₂, hb₂, rfl⟩ -
  rw [List.length_map] at hjj
  rw [getD_map (f := D.int) (0 : Int) D.none (by omega)]
  obtain ⟨hpn, hpr⟩ := hin (inner.getD jj 0) (by rw [List.getD_eq_getElem?_getD, List.getElem?_eq_getElem hjj]; exact List.getElem_mem _)
  generalize inner.getD jj 0 = page at *
  have hp1 := (N.mem page).mp hpn
  refine hK _ _ ?_
  refine TSs_wk (Wk.locs (l' := [(Str.ofString "source", .ref 0), (Str.ofString "many", .int n), (Str.ofString "is_rows_here", .pure (.bool r)), (Str.ofString "numbers", .pure (.list (ns.map .int))), (Str.ofString "children", rowsD rows), (Str.ofString "page", .int page)]) (c := [.list [.int a₂, .int b₂]]) (by simp only [List.forall_mem_cons]; exact ⟨rfl, rfl, rfl, rfl, rfl, rfl, fun _ h => nomatch h⟩) ?_)
  clear he hi0 hin hinl hjj ha₁ hb₁
  with_unfolding_all refine S_assign (.inl rfl) rfl ?_
  refine TE_hide fun K hK => ?_
  refine TE_Sub ?_
  refine TE_cell rfl rfl rfl ?_
  refine TE_BinOp ?_
  refine TE_local rfl rfl rfl ?_
  refine TE_int ?_
  refine op_sub ?_
  refine op_item (by exact .pure) (by omega) (by first | exact lm_i (by omega) | exact lm_n (by omega) | (simp only [List.length_map, List.length_cons, List.length_nil, List.length_append, List.length_take, List.length_drop, List.length_reverse, List.length_set, List.length_replicate, List.length_dropLast]; omega)) (by first | exact lm_i (by omega) | exact lm_n (by omega) | (simp only [List.length_map, List.length_cons, List.length_nil, List.length_append, List.length_take, List.length_drop, List.length_reverse, List.length_set, List.length_replicate, List.length_dropLast]; omega)) ?_ (fun _ _ => rfl)
  rw [getD_map (f := rowD) ([] : List Int) D.none (by omega)]
  have hr5 := hF.row_len N (by omega) hpn
  have hrm : ∀ q ∈ rows.getD (page - 1).toNat [], 1 ≤ q ∧ q ≤ (n : Int) := fun q hq => (N.mem q).mp (hF.kid N (by omega) hp1.1 hq).2
  generalize rows.getD (page - 1).toNat [] = row at *
  have hr0 : 0 < row.length := List.length_pos_iff.mpr hpr
  have nr : rows.length = n := hrl
  refine hK _ _ ?_
  refine S_tup (names := [Str.ofString "spot", Str.ofString "other"]) rfl rfl rfl (by decide) ?_
  refine TA_cons ?_ rfl
  refine TE_callK (by rfl) (by k_is) (by rfl) (.own (by k_is)) (by rfl) ?_
  refine TA_cons ?_ rfl
  refine TE_local rfl rfl rfl ?_
  refine TA_cons ?_ rfl
  refine TE_callB (by rfl) (by k_is) boot_len' (by decide) (by rfl) .blt (by rfl) ?_
  refine TA_cons ?_ rfl
  refine TE_local rfl rfl rfl ?_
  refine TA_nil ?_
  refine oc_len (by exact .pure) (by first | exact lm_i (by omega) | exact lm_n (by omega) | (simp only [List.length_map, List.length_cons, List.length_nil, List.length_append, List.length_take, List.length_drop, List.length_reverse, List.length_set, List.length_replicate, List.length_dropLast]; omega)) ?_
  refine TA_nil ?_
  rw [List.length_map]
  refine OC_can (take_f w a₂ b₂ _ (by omega) (by omega) ha₂ hb₂) [0] (.inl rfl) (by decide) (fun h => h.elim) rfl rfl ⟨by decide, rfl, rfl⟩ ?_
  rintro _ c ⟨t, a₃, b₃, rfl, t0, t1, ha₃, hb₃, rfl⟩ -
  obtain ⟨s, rfl⟩ : ∃ s : Nat, t = s := ⟨t.toNat, by omega⟩
  refine TA_cons ?_ rfl
  refine TE_callK (by rfl) (by k_is) (by rfl) (.own (by k_is)) (by rfl) ?_
  refine TA_cons ?_ rfl
  refine TE_local rfl rfl rfl ?_
  refine TA_cons ?_ rfl
  refine TE_BinOp ?_
  refine TE_local rfl rfl rfl ?_
  refine TE_ListP ?_
  refine TA_cons ?_ rfl
  refine TE_int ?_
  refine TA_cons ?_ rfl
  refine TE_BinOp ?_
  refine TE_local rfl rfl rfl ?_
  refine TE_int ?_
  refine op_add ?_
  refine TA_cons ?_ rfl
  refine TE_int ?_
  refine TA_nil ?_
  refine ⟨rfl, of_decide_eq_true rfl, ?_⟩
  refine op_catP (ds := ns.map .int) (es := [0, (n : Int) + 1, 40000].map .int) .pure .pure (by rw [List.length_map]; omega) (of_decide_eq_true rfl) ?_
  rw [← List.map_append]
  refine TA_nil ?_
  refine OC_can (one_f w a₃ b₃ ((ns ++ [0, (n : Int) + 1, 40000]).map .int) (by rw [List.length_map, List.length_append]; exact Nat.lt_of_lt_of_le (show 0 < 3 by decide) (Nat.le_add_left _ _)) (by rw [List.length_map, List.length_append]; show _ + 3 < _; omega) ha₃ hb₃) [0] (.inl rfl) (by decide) (fun h => h.elim) rfl rfl ⟨by decide, rfl, rfl⟩ ?_
  rintro _ c ⟨j₂, a₄, b₄, hj₂, rfl, ha₄, hb₄, rfl⟩ -
  rw [List.length_map] at hj₂
  rw [getD_map (f := D.int) (0 : Int) D.none hj₂]
  have hom : (ns ++ [0, (n : Int) + 1, 40000]).getD j₂ 0 ∈ ns ++ [0, (n : Int) + 1, 40000] := by rw [List.getD_eq_getElem?_getD, List.getElem?_eq_getElem hj₂]; exact List.getElem_mem _
  have ho : 0 ≤ (ns ++ [0, (n : Int) + 1, 40000]).getD j₂ 0 ∧ (ns ++ [0, (n : Int) + 1, 40000]).getD j₂ 0 ≤ 65535 := by
    generalize (ns ++ [0, (n : Int) + 1, 40000]).getD j₂ 0 = o at *
    rcases List.mem_append.mp hom with h | h
    · have := (N.mem o).mp h; omega
    · simp only [List.mem_cons, List.not_mem_nil, or_false] at h; omega
  generalize (ns ++ [0, (n : Int) + 1, 40000]).getD j₂ 0 = other at *
  refine TA_nil ?_
  refine ⟨rfl, ?_⟩
  refine TSs_wk (Wk.locs (l' := xl n r ns (rowsD rows) page row s other) (c := [.list [.int a₄, .int b₄]]) (by simp only [List.forall_mem_cons]; exact ⟨rfl, rfl, rfl, rfl, rfl, rfl, rfl, rfl, rfl, fun _ h => nomatch h⟩) ?_)
  refine S_seq (TS.mono (Q := fun fl l c => fl = .next ∧ c = [.list [.int a₄, .int b₄]] ∧ ∃ o, 0 ≤ o ∧ o ≤ 65535 ∧ l = xl n r ns (rowsD rows) page row s o) (TS_If ?_) ?_)
  · refine TB_Compare ?_ rfl
    refine TE_local rfl rfl rfl ?_
    refine TE_Sub ?_
    refine TE_local rfl rfl rfl ?_
    refine TE_local rfl rfl rfl ?_
    refine op_item (by exact .pure) (by assumption) (by first | exact lm_i (by omega) | exact lm_n (by omega) | (simp only [List.length_map, List.length_cons, List.length_nil, List.length_append, List.length_take, List.length_drop, List.length_reverse, List.length_set, List.length_replicate, List.length_dropLast]; omega)) (by first | exact lm_i (by omega) | exact lm_n (by omega) | (simp only [List.length_map, List.length_cons, List.length_nil, List.length_append, List.length_take, List.length_drop, List.length_reverse, List.length_set, List.length_replicate, List.length_dropLast]; omega)) ?_ (fun _ _ => rfl)
    rw [Int.toNat_natCast, getD_map (f := D.int) (0 : Int) D.none (by omega)]
    refine op_eq ?_
    refine OT_bool ?_
    refine if_eq (fun _ => ?_) (fun _ => ?_)
    · with_unfolding_all refine S_assign (.inl rfl) rfl ?_
      refine TE_local rfl rfl rfl ?_
      refine TSs_nil ?_
      exact ⟨rfl, rfl, page, by omega, by omega, rfl⟩
    · refine TSs_nil ?_
      exact ⟨rfl, rfl, other, ho.1, ho.2, rfl⟩
  clear ho ha₂ hb₂ ha₃ hb₃ hom hj₂
  rintro _ _ _ ⟨rfl, rfl, o, o0, o1, rfl⟩
  refine seq_next ?_
  with_unfolding_all refine S_assign (.inl rfl) rfl ?_
  refine TE_BinOp ?_
  refine TE_BinOp ?_
  refine TE_SliceTo ?_
  refine TE_cell rfl rfl rfl ?_
  refine TE_BinOp ?_
  refine TE_local rfl rfl rfl ?_
  refine TE_int ?_
  refine op_sub ?_
  refine osl_to (ds := rows.map rowD) .pure (by omega) (by rw [List.length_map]; omega) ?_ (fun _ _ => rfl)
  refine TE_ListP ?_
  refine TA_cons ?_ rfl
  refine TE_BinOp ?_
  refine TE_BinOp ?_
  refine TE_SliceTo ?_
  refine TE_local rfl rfl rfl ?_
  refine TE_local rfl rfl rfl ?_
  refine osl_to (ds := row.map .int) .pure (by omega) (by rw [List.length_map]; omega) ?_ (fun _ _ => rfl)
  refine TE_ListP ?_
  refine TA_cons ?_ rfl
  refine TE_local rfl rfl rfl ?_
  refine TA_nil ?_
  refine ⟨rfl, of_decide_eq_true rfl, ?_⟩
  refine op_catP (ds := (row.map .int).take (Int.toNat s)) (es := [o].map .int) .pure .pure (by rw [List.length_take, List.length_map]; omega) (of_decide_eq_true rfl) ?_
  refine TE_SliceFrom ?_
  refine TE_local rfl rfl rfl ?_
  refine TE_BinOp ?_
  refine TE_local rfl rfl rfl ?_
  refine TE_int ?_
  refine op_add ?_
  refine osl_from (ds := row.map .int) .pure (by omega) (by rw [List.length_map]; omega) ?_ (fun _ _ => rfl)
  refine op_catP (ds := (row.map .int).take (Int.toNat s) ++ [o].map .int) (es := (row.map .int).drop ((s : Int) + 1).toNat) .pure .pure (by rw [List.length_append, List.length_take, List.length_map]; show _ + 1 < _; omega) (by rw [List.length_drop, List.length_map]; omega) ?_
  refine TA_nil ?_
  refine ⟨rfl, of_decide_eq_true rfl, ?_⟩
  rw [show (row.map D.int).take (Int.toNat s) ++ [o].map D.int ++ (row.map D.int).drop ((s : Int) + 1).toNat = (row.take (Int.toNat s) ++ [o] ++ row.drop ((s : Int) + 1).toNat).map D.int by simp, ← List.map_take (f := rowD)]
  have hrw2 : ∀ q ∈ row.take (Int.toNat s) ++ [o] ++ row.drop ((s : Int) + 1).toNat, 0 ≤ q ∧ q ≤ 65535 := fun q hq => by
    rcases List.mem_append.mp hq with h | h
    · rcases List.mem_append.mp h with h | h
      · have := hrm q (List.mem_of_mem_take h); omega
      · rw [List.mem_singleton.mp h]; exact ⟨o0, o1⟩
    · have := hrm q (List.mem_of_mem_drop h); omega
  have hrl2 : (row.take (Int.toNat s) ++ [o] ++ row.drop ((s : Int) + 1).toNat).length ≤ 6 := by
    rw [List.length_append, List.length_append, List.length_take, List.length_drop]; show _ + 1 + _ ≤ _; omega
  generalize row.take (Int.toNat s) ++ [o] ++ row.drop ((s : Int) + 1).toNat = row₂ at *
  refine op_catP (ds := (rows.take (page - 1).toNat).map rowD) (es := [row₂].map rowD) .pure .pure (by rw [List.length_map, List.length_take]; omega) (of_decide_eq_true rfl) ?_
  refine TE_SliceFrom ?_
  refine TE_cell rfl rfl rfl ?_
  refine TE_local rfl rfl rfl ?_
  refine osl_from (ds := rows.map rowD) .pure (by omega) (by rw [List.length_map]; omega) ?_ (fun _ _ => rfl)
  rw [← List.map_drop, ← List.map_append]
  refine op_catP (ds := (rows.take (page - 1).toNat ++ [row₂]).map rowD) (es := (rows.drop page.toNat).map rowD) .pure .pure (by rw [List.length_map, List.length_append, List.length_take]; show _ + 1 < _; omega) (by rw [List.length_map, List.length_drop]; omega) ?_
  rw [← List.map_append]
  have hb1 : (rows.take (page - 1).toNat ++ [row₂] ++ rows.drop page.toNat).length = n := by
    rw [List.length_append, List.length_append, List.length_take, List.length_drop]; show _ + 1 + _ = _; omega
  have hb2 : ∀ x ∈ rows.take (page - 1).toNat ++ [row₂] ++ rows.drop page.toNat, x.length ≤ 6 ∧ ∀ q ∈ x, 0 ≤ q ∧ q ≤ 65535 := fun x hx => by
    have old : x ∈ rows → x.length ≤ 6 ∧ ∀ q ∈ x, 0 ≤ q ∧ q ≤ 65535 := fun h => ⟨by have := hal x h; omega, fun q hq => by have := ham x h q hq; omega⟩
    rcases List.mem_append.mp hx with h | h
    · rcases List.mem_append.mp h with h | h
      · exact old (List.mem_of_mem_take h)
      · rw [List.mem_singleton.mp h]; exact ⟨hrl2, hrw2⟩
    · exact old (List.mem_of_mem_drop h)
  generalize rows.take (page - 1).toNat ++ [row₂] ++ rows.drop page.toNat = bent at *
  have N1 := N.at (i := 0) (by omega)
  clear hrl nr hrl2 hrw2 o0 o1 t0 t1 hr0 hr5 hp1
  with_unfolding_all refine S_assign (.inl rfl) rfl ?_
  refine TE_hide fun K hK => ?_
  refine TE_callK (by rfl) (by k_is) (by rfl) (.own (by k_is)) (by rfl) ?_
  refine TA_cons ?_ rfl
  refine TE_local rfl rfl rfl ?_
  refine TA_cons ?_ rfl
  refine TE_Sub ?_
  refine TE_local rfl rfl rfl ?_
  refine TE_int ?_
  refine op_item (by exact .pure) (of_decide_eq_true rfl) (by first | exact lm_i (by omega) | exact lm_n (by omega) | (simp only [List.length_map, List.length_cons, List.length_nil, List.length_append, List.length_take, List.length_drop, List.length_reverse, List.length_set, List.length_replicate, List.length_dropLast]; omega)) (by first | exact lm_i (by omega) | exact lm_n (by omega) | (simp only [List.length_map, List.length_cons, List.length_nil, List.length_append, List.length_take, List.length_drop, List.length_reverse, List.length_set, List.length_replicate, List.length_dropLast]; omega)) ?_ (fun _ _ => rfl)
  refine TA_cons ?_ rfl
  refine TE_local rfl rfl rfl ?_
  refine TA_nil ?_
  rw [show Int.toNat 0 = 0 from rfl, getD_map (f := D.int) (0 : Int) D.none (by omega)]
  refine OC_can (due_f w bent n hb1 n6 (fun x hx => Nat.le_trans (hb2 x hx).1 (by decide)) (ns.getD 0 0)) [] (.inl rfl) (by decide) (fun h => h.elim) rfl rfl ⟨by decide, rfl, rfl⟩ ?_
  rintro _ c ⟨rfl, rfl⟩ -
  refine hK _ _ ?_
  refine S_ret ?_
  refine TE_Compare ?_ rfl
  refine TE_callK (by rfl) (by k_is) (by rfl) (.own (by k_is)) (by rfl) ?_
  refine TA_cons ?_ rfl
  refine TE_local rfl rfl rfl ?_
  refine TA_cons ?_ rfl
  refine TE_local rfl rfl rfl ?_
  refine TA_cons ?_ rfl
  refine TE_Sub ?_
  refine TE_local rfl rfl rfl ?_
  refine TE_int ?_
  refine op_item (by exact .pure) (of_decide_eq_true rfl) (by first | exact lm_i (by omega) | exact lm_n (by omega) | (simp only [List.length_map, List.length_cons, List.length_nil, List.length_append, List.length_take, List.length_drop, List.length_reverse, List.length_set, List.length_replicate, List.length_dropLast]; omega)) (by first | exact lm_i (by omega) | exact lm_n (by omega) | (simp only [List.length_map, List.length_cons, List.length_nil, List.length_append, List.length_take, List.length_drop, List.length_reverse, List.length_set, List.length_replicate, List.length_dropLast]; omega)) ?_ (fun _ _ => rfl)
  refine TA_nil ?_
  rw [show Int.toNat 0 = 0 from rfl, getD_map (f := D.int) (0 : Int) D.none (by omega)]
  refine OC_canG (told_f w bent r (by omega) (fun x hx => (hb2 x hx).1) (fun x hx => (hb2 x hx).2) (ns.getD 0 0) (by omega) (by omega)) (.inr hfs') [] (.inr rfl) (by decide) (fun h => h.elim) rfl rfl ⟨by decide, rfl, rfl⟩ ?_
  rintro _ c ⟨rfl, rfl⟩ -
  rw [hb1]
  refine TE_local rfl rfl rfl ?_
  generalize due bent n (n + 1) [] [ns.getD 0 0] = dd
  cases dd with
  | none =>
    refine op_eq_none_none ?_
    exact .same ⟨rfl, a₄, b₄, rfl⟩
  | some ks =>
    refine op_eq_ints (ns := ks) (ms := ks) .pure .pure (by decide) ?_
    rw [decide_eq_true rfl]
    exact .same ⟨rfl, a₄, b₄, rfl⟩
end
section
noncomputable def LawJ (ns : List Int) (l : Loc) (c : List AO) : Prop := l = [(Str.ofString "script", .pure (.list (ns.map .int)))] ∧ c = []
theorem law_f (w : World) (ns : List Int) (hz : ns.length ≤ 63) : CanG true w true 10 710 [.pure (.list (ns.map .int))] [] (fun v _ => v = .pure (.bool true)) False := by
  refine' enterFG (names := [Str.ofString "script"]) ?ho ?hcd ?hb ?hl ?hn ?hlen ?h1 ?h2 ?h3 ?h4 ?h5 ?_
  case ho => k_is
  case hcd => k_is
  case hl => decide
  case hn => decide
  case hlen => rfl
  case h1 => rfl
  case h2 => rfl
  case h3 => rfl
  case h4 => decide
  case h5 => decide
  case hb => exact bind1 fun _ _ => BindsTo.of_eq rfl
  intro Γ E hE hR hP hα hO
  replace hα : id _ := hα
  obtain ⟨outer, hO⟩ := hO rfl
  have hfs := hO.fs₀
  refine S_if ?_
  refine TB_or ?_
  refine TB_Compare ?_ rfl
  refine TE_callK (by rfl) (by k_is) (by rfl) (.own (by k_is)) (by rfl) ?_
  refine TA_cons ?_ rfl
  refine TE_ListP ?_
  refine TA_cons ?_ rfl
  refine TE_ListP ?_
  refine TA_cons ?_ rfl
  refine TE_int ?_
  refine TA_cons ?_ rfl
  refine TE_int ?_
  refine TA_nil ?_
  refine ⟨rfl, of_decide_eq_true rfl, ?_⟩
  refine TA_cons ?_ rfl
  refine TE_ListP ?_
  refine TA_nil ?_
  refine ⟨rfl, of_decide_eq_true rfl, ?_⟩
  refine TA_nil ?_
  refine ⟨rfl, of_decide_eq_true rfl, ?_⟩
  refine TA_cons ?_ rfl
  refine TE_bool ?_
  refine TA_cons ?_ rfl
  refine TE_int ?_
  refine TA_nil ?_
  refine OC_canG (told_f w [[2, 2], []] true (by decide) (by decide) (by decide) 1 (by decide) (by decide)) (.inr hfs) [] (.inr rfl) (by decide) (fun h => h.elim) rfl rfl ⟨by decide, rfl, rfl⟩ ?_
  rintro _ c ⟨rfl, rfl⟩ -
  refine TE_none ?_
  refine op_isnot_none_none ?_
  refine OT_bool ?_
  refine if_f ?_
  refine TB_or ?_
  refine TB_Compare ?_ rfl
  refine TE_callK (by rfl) (by k_is) (by rfl) (.own (by k_is)) (by rfl) ?_
  refine TA_cons ?_ rfl
  refine TE_ListP ?_
  refine TA_cons ?_ rfl
  refine TE_ListP ?_
  refine TA_cons ?_ rfl
  refine TE_int ?_
  refine TA_nil ?_
  refine ⟨rfl, of_decide_eq_true rfl, ?_⟩
  refine TA_cons ?_ rfl
  refine TE_ListP ?_
  refine TA_nil ?_
  refine ⟨rfl, of_decide_eq_true rfl, ?_⟩
  refine TA_nil ?_
  refine ⟨rfl, of_decide_eq_true rfl, ?_⟩
  refine TA_cons ?_ rfl
  refine TE_bool ?_
  refine TA_cons ?_ rfl
  refine TE_int ?_
  refine TA_nil ?_
  refine OC_canG (told_f w [[2], []] false (by decide) (by decide) (by decide) 1 (by decide) (by decide)) (.inr hfs) [] (.inr rfl) (by decide) (fun h => h.elim) rfl rfl ⟨by decide, rfl, rfl⟩ ?_
  rintro _ c ⟨rfl, rfl⟩ -
  refine TE_ListP ?_
  refine TA_cons ?_ rfl
  refine TE_int ?_
  refine TA_cons ?_ rfl
  refine TE_int ?_
  refine TA_nil ?_
  refine ⟨rfl, of_decide_eq_true rfl, ?_⟩
  refine op_ne_ints (ns := [1, 2]) (ms := [1, 2]) .pure .pure (by decide) ?_
  rw [decide_eq_true rfl]
  refine OT_bool ?_
  refine if_f ?_
  refine TB_or_nil ?_
  refine if_f ?_
  refine TSs_nil ?_
  refine seq_next ?_
  refine S_seq (TS_For (fun _ => rfl) ?_)
  refine TE_callB (by rfl) (by k_is) boot_range' (by decide) (by rfl) .type (by rfl) ?_
  refine TA_cons ?_ rfl
  refine TE_callB (by rfl) (by k_is) boot_max' (by decide) (by rfl) .blt (by rfl) ?_
  refine TA_cons ?_ rfl
  refine TE_int ?_
  refine TA_cons ?_ rfl
  refine TE_callB (by rfl) (by k_is) boot_min' (by decide) (by rfl) .blt (by rfl) ?_
  refine TA_cons ?_ rfl
  refine TE_int ?_
  refine TA_cons ?_ rfl
  refine TE_callB (by rfl) (by k_is) boot_len' (by decide) (by rfl) .blt (by rfl) ?_
  refine TA_cons ?_ rfl
  refine TE_local rfl rfl rfl ?_
  refine TA_nil ?_
  refine oc_len (by exact .pure) (by first | exact lm_i (by omega) | exact lm_n (by omega) | (simp only [List.length_map, List.length_cons, List.length_nil, List.length_append, List.length_take, List.length_drop, List.length_reverse, List.length_set, List.length_replicate, List.length_dropLast]; omega)) ?_
  refine TA_nil ?_
  refine oc_min ?_
  refine TA_nil ?_
  refine oc_max ?_
  refine TA_nil ?_
  refine oc_range1 ?_
  rw [List.length_map]
  generalize hm : (if (if (ns.length : Int) < 2 then (ns.length : Int) else 2) > 1 then (if (ns.length : Int) < 2 then (ns.length : Int) else 2) else 1) = m
  have m1 : 0 ≤ m ∧ m ≤ 2 := by rw [← hm]; split <;> split <;> omega
  clear hm
  refine fo_range (n := m.toNat) (by omega) (by omega) (by omega) hP (.inl rfl) (fun _ => LawJ ns) ⟨rfl, rfl⟩ (fun i l c hi hJ => ?_) (fun l c hJ => ?_)
  · obtain ⟨rfl, rfl⟩ := hJ
    refine S_if ?_
    refine TB_hide fun K hK => ?_
    refine TB_not ?_
    refine TB_te ?_ rfl
    refine TE_callK (by rfl) (by k_is) (by rfl) (.own (by k_is)) (by rfl) ?_
    refine TA_cons ?_ rfl
    refine TE_callK (by rfl) (by k_is) (by rfl) (.own (by k_is)) (by rfl) ?_
    refine TA_cons ?_ rfl
    refine TE_local rfl rfl rfl ?_
    refine TA_cons ?_ rfl
    refine TE_local rfl rfl rfl ?_
    refine TA_nil ?_
    refine OC_can (pool_f w ns (0 + (i : Int)) hz (by omega) (by omega)) [] (.inl rfl) (by decide) (fun h => h.elim) rfl rfl ⟨by decide, rfl, rfl⟩ ?_
    rintro _ c ⟨a, b, rfl, ha, hb, rfl⟩ -
    refine TA_nil ?_
    refine OC_canG (right_all_f w a b ha hb) (.inr hfs) [0] (.inr rfl) (by decide) (fun h => h.elim) rfl rfl ⟨by decide, rfl, rfl⟩ ?_
    rintro _ c ⟨rfl, a', b', rfl⟩ -
    refine OT_bool ?_
    refine hK _ _ ?_
    refine if_f ?_
    refine TSs_nil ?_
    refine seq_next ?_
    refine TSs_nil ?_
    show Wk _ _ _ _
    refine' Wk.sel [] (l' := [(Str.ofString "script", .pure (.list (ns.map .int)))]) (c' := []) ⟨by decide, rfl, rfl⟩ hα (fun i h => absurd h (Nat.not_lt_zero i)) ?hl ⟨rfl, rfl⟩
    case hl => simp only [List.forall_mem_cons]; exact ⟨⟨rfl, rfl⟩, fun _ h => nomatch h⟩
  obtain ⟨rfl, rfl⟩ := hJ
  refine seq_next ?_
  refine S_ret ?_
  refine TE_hide fun K hK => ?_
  refine TE_bool ?_
  refine hK _ _ ?_
  exact .same rfl
end
section
theorem run1 (w : World) (os : OsState) : segRunT treeTable PRG w 11 (some (.ref 6)) 1 1251 (stT t47 15 187 w os) (piecesOf (TOP.take 31) ENV0 cE p0 [topFrame p0]) = some (.next, stT t209 165 404 w os, cE, ⟨97, 0, 105, 16⟩) := seg_q (by kernel_rfl)
theorem run2 (w : World) (os : OsState) : segRunT treeTable PRG w 11 (some (.ref 6)) 1 1103 (stT t209 165 404 w os) (piecesOf ((TOP.drop 31).take 3) ENV0 cE ⟨97, 0, 105, 16⟩ [topFrame p0]) = some (.next, stT t391 343 645 w os, cE, ⟨158, 0, 253, 20⟩) := seg_q (by kernel_rfl)
theorem run3 (w : World) (os : OsState) : segRunT treeTable PRG w 11 (some (.ref 6)) 1 923 (stT t391 343 645 w os) (piecesOf ((TOP.drop 34).take 13) ENV0 cE ⟨158, 0, 253, 20⟩ [topFrame p0]) = some (.next, stT t622 479 832 w os, cE, ⟨325, 0, 325, 8⟩) := seg_q (by kernel_rfl)
theorem run4 (w : World) (os : OsState) : segRunT treeTable PRG w 11 (some (.ref 6)) 1 1375 (stT t622 479 832 w os) (piecesOf (TOP.drop 47) ENV0 cE ⟨325, 0, 325, 8⟩ [topFrame p0]) = some (.next, stT t864 711 1130 w os, cE, ⟨475, 0, 481, 15⟩) := seg_q (by kernel_rfl)
end
section
theorem go_q {p : Program} {w : World} {m : Nat} {ann : Option Value} {n : Nat} {S S' : Shared} {t : Thread} {c c' : Code} {q : Pos} {st : List Frame}
    (h : Fast.tw15667345088766844465 Fast.tw14364793385576792824 p w m ann n S t = some (S', ⟨Fast.tw11892475500146522536 Fast.tw14364793385576792824 c, c', q, st⟩)) : topGo treeTable p w m ann n S t = some (S', ⟨denote treeTable c, c', q, st⟩) := by
  rw [Fast.te15667345088766844465, Fast.te11892475500146522536, Fast.te14364793385576792824]; exact h
theorem run_q {p : Program} {w : World} {m : Nat} {ann : Option Value} {l n : Nat} {S : Shared} {t : Thread} {r : Option (Flow × Shared × Code × Pos)}
    (h : Fast.tw14374325043358763698 Fast.tw14364793385576792824 p w m ann l n S t = r) : segRun treeTable p w m ann l n S t = r := by
  rw [Fast.te14374325043358763698, Fast.te14364793385576792824]; exact h
theorem top_q {p : Program} {w : World} {m : Nat} {ann : Option Value} {n : Nat} {S : Shared} {t : Thread} {r : Option Shared}
    (h : Fast.tw14082659384304107361 Fast.tw14364793385576792824 p w m ann n S t = r) : topRun treeTable p w m ann n S t = r := by
  rw [Fast.te14082659384304107361, Fast.te14364793385576792824]; exact h
theorem run_pre (w : World) (os : OsState) : topGo treeTable PRG w 11 (some (.ref 6)) 12 ⟨boot_heap w.params, ⟨[]⟩, boot_drawn, boot_toks, os⟩ (topStub PRG) = some (⟨hp14 w.params, ⟨[]⟩, {}, 187, os⟩, ⟨denote treeTable cE, cE, p0, [topFrame p0]⟩) := go_q (by kernel_rfl)
theorem run_block (w : World) (os : OsState) : segRun treeTable PRG w 11 (some (.ref 6)) 1 1 ⟨hp14 w.params, ⟨[]⟩, {}, 187, os⟩ (blockOf TOP ENV0 cE p0 [topFrame p0]) = some (.next, (stT t47 15 187 w os).abs, cE, p0) := run_q (by kernel_rfl)
theorem run_fin (w : World) (os : OsState) : topRun treeTable PRG w 11 (some (.ref 6)) 2 (stT t864 711 1130 w os).abs ⟨doneF .next, cE, ⟨475, 0, 481, 15⟩, [topFrame p0]⟩ = some ⟨hH (hL w.params), ⟨[]⟩, {}, 1130, os⟩ := top_q (by kernel_rfl)
theorem top_split : TOP = TOP.take 31 ++ ((TOP.drop 31).take 3 ++ ((TOP.drop 34).take 13 ++ (TOP.drop 47 ++ []))) := by
  rw [List.append_nil, show TOP.drop 47 = (TOP.drop 34).drop 13 by rw [List.drop_drop], List.take_append_drop, show TOP.drop 34 = (TOP.drop 31).drop 3 by rw [List.drop_drop], List.take_append_drop, List.take_append_drop]
theorem rest_of {M : Nat} {w : World} {s r : Shared} (h : topRun treeTable PRG w 11 (some (.ref 6)) M s (restOf (TOP.take 31 ++ ((TOP.drop 31).take 3 ++ ((TOP.drop 34).take 13 ++ (TOP.drop 47 ++ [])))) ENV0 cE p0 [topFrame p0]) = some r) : topRun treeTable PRG w 11 (some (.ref 6)) M s (restOf TOP ENV0 cE p0 [topFrame p0]) = some r := by
  rw [top_split]; exact h
theorem run_all (w : World) (os : OsState) : topRun treeTable PRG w 11 (some (.ref 6)) (12 + (1 + (1251 + (1103 + (923 + (1375 + 2)))))) ⟨boot_heap w.params, ⟨[]⟩, boot_drawn, boot_toks, os⟩ (topStub PRG) = some ⟨hH (hL w.params), ⟨[]⟩, {}, 1130, os⟩ :=
  go_top (run_pre w os) (piece_block (run_block w os) (rest_of (piece_app (segRun_of (run1 w os)) (piece_app (segRun_of (run2 w os)) (piece_app (segRun_of (run3 w os)) (piece_app (segRun_of (run4 w os)) (piece_nil (run_fin w os))))))))
end
section
noncomputable abbrev LV : List (Str × WData) := [(Str.ofString "WORD", .int 18446744073709551616), (Str.ofString "KINDS", .tuple [.int 2, .int 5, .int 10, .int 13])]
theorem kAd_eq (P : Params) : kAd = (KF P).map (·.1) := by kernel_rfl
noncomputable abbrev HK : Hook := kHook KF kAd kAd_eq
noncomputable abbrev XT (s : Shared) : Bool := xlAt VW LV s && recOk [] s
noncomputable abbrev FIN (w : World) (os : OsState) : Shared := ⟨hH (hL w.params), ⟨[]⟩, {}, 1130, os⟩
theorem look1 (w : World) (os : OsState) : (staticsOk (importedModules PRG.main.body) (boot_heap w.params) (hH (hL w.params)) && namesBound PRG (hH (hL w.params)) && gensDone (FIN w os) && laidKept (boot_heap w.params) (hH (hL w.params))) = true := by kernel_rfl
theorem lk1 (w : World) (os : OsState) : seen ((recsOf VW).map (·.name)) (ownsOf VW) [] { FIN w os with gens := #[] } = expectedOf VW := by kernel_rfl
theorem lk2 (w : World) (os : OsState) : (FIN w os).heap.bltView = bltViewBooted := by kernel_rfl
theorem lk3a (w : World) (os : OsState) : (FIN w os).heap.keysOk (looseW VW LOOSE) ((recsOf VW).map (·.name)) ((litsOf VW).map (·.1)) ((clssOf VW (looseW VW LOOSE)).map (·.name)) = true := by kernel_rfl
theorem lk3b (w : World) (os : OsState) : (FIN w os).heap.accountedOkI (importedModules PRG.main.body) = true := by kernel_rfl
theorem lk3c (w : World) (os : OsState) : ((FIN w os).heap.isNs mainGlobals && (FIN w os).heap.isNs builtinsNs) = true := by kernel_rfl
theorem lk3d (w : World) (os : OsState) : tablesOk VW (FIN w os).heap = true := by kernel_rfl
theorem lk3e (w : World) (os : OsState) : XT (FIN w os) = true := by kernel_rfl
theorem lk4 (w : World) (os : OsState) : tabsOk VW (FIN w os) = true := by kernel_rfl
theorem lk5 (w : World) (os : OsState) : pinSeenD VW (drecsOf VW) (FIN w os) = pinGoodD (drecsOf VW) := by kernel_rfl
theorem lk6 (w : World) (os : OsState) : plainSeenE VW (looseW VW LOOSE) (FIN w os) = plainGoodE VW (looseW VW LOOSE) := by kernel_rfl
theorem lk7 (w : World) (os : OsState) : plainSeenD VW LOOSE (FIN w os) = plainGoodD VW LOOSE := by kernel_rfl
theorem lk8 (w : World) (os : OsState) : wideSeen VW (FIN w os) = wideGood VW := by kernel_rfl
theorem lk9 (w : World) (os : OsState) : clsSeenW VW LOOSE (FIN w os) = clsGoodW VW LOOSE := by kernel_rfl
theorem look2 (w : World) (os : OsState) : openSeen VW LOOSE (importedModules PRG.main.body) XT true (FIN w os) = openGood VW LOOSE := by
  have c := lk3c w os
  rw [Bool.and_eq_true] at c
  have e3 : ((FIN w os).heap.keysOk (looseW VW LOOSE) ((recsOf VW).map (·.name)) ((litsOf VW).map (·.1)) ((clssOf VW (looseW VW LOOSE)).map (·.name)) && (FIN w os).heap.accountedOkI (importedModules PRG.main.body) && (FIN w os).heap.isNs mainGlobals && (FIN w os).heap.isNs builtinsNs && tablesOk VW (FIN w os).heap && XT (FIN w os) && (if true = true then (FIN w os).gens.size == 0 else !leftWithCleanup (FIN w os).gens)) = true := by
    rw [lk3a w os, lk3b w os, c.1, c.2, lk3d w os, lk3e w os]; rfl
  exact looks_pair (lk1 w os) (looks_pair (lk2 w os) (looks_pair e3 (looks_pair (lk4 w os) (looks_pair (lk5 w os) (looks_pair (lk6 w os) (looks_pair (lk7 w os) (looks_pair (lk8 w os) (lk9 w os))))))))
theorem look3 (w : World) (os : OsState) : HK.obs (FIN w os) = HK.val w := by kernel_rfl
end
section
noncomputable abbrev ROW : OpenRow := PySem.Challenge.rw_xm0765_01.row
theorem op_plain : opening PRG = plainProg PRG.main.scope.names := by kernel_rfl
theorem op_fence (s : Shared) : fenceModules? PRG s = some s := by kernel_rfl
theorem boot_size (P : Params) : ((boot_heap P).isNs mainGlobals && (⟨[]⟩ : Array GenState).size == 0, (boot_heap P).objs.size, (boot_heap P).nsMap mainGlobals "__annotations__") = (true, 11, some (.ref 6)) := by kernel_rfl
theorem LEFT : LeftO PRG VW LOOSE XT HK.obs HK.val 9402 :=
  LeftO.of_pieces (H₀ := boot_heap) (H₁ := fun P => hH (hL P)) (gs₀ := ⟨[]⟩) (gs₁ := ⟨[]⟩) (d₀ := boot_drawn) (d₁ := {}) (k₀ := boot_toks) (k₁ := 1130) (m₀ := 11) (ann := some (.ref 6)) (M := 12 + (1 + (1251 + (1103 + (923 + (1375 + 2)))))) (boot_open op_plain (by decide) op_fence) (fun w => boot_size w.params) run_all (by decide) fun w => funext fun os => looks_pair (look1 w os) (looks_pair (look2 w os) (look3 w os))
theorem row_prom : ROW.toRowW.promised := ⟨[.list []], by decide +kernel, by decide +kernel⟩
theorem row_bare : PRG.bare := ⟨rfl, rfl, rfl, rfl, rfl, by decide +kernel⟩
end
section
theorem and2 {a b : Bool} (h : a = true) (k : b = true) : (a && b) = true := by rw [h, k]; rfl
theorem said_law : PySem.Challenge.rw_xm0765_01.wellSaid = true := by
  unfold OpenLaw.wellSaid OpenRow.wellSaid OpenRow.partSaid looksOpen
  repeat' with_reducible apply and2
  all_goals decide +kernel
theorem said_row : ROW.wellSaid = true := by
  have h := said_law
  simp only [OpenLaw.wellSaid, Bool.and_eq_true] at h
  exact h.1.1.1.1.1.1.1.1.1.1.1.1.1.1.1.1.1.1
theorem row_ok : (chainsOk VW && opensWell PRG && (frees ROW.toRowW && ROW.within.isEmpty)) = true := by decide +kernel
noncomputable def LAWD : DefRec := match s1 61 with
  | .FunctionDef n a b _ _ _ sc _ _ p => ⟨n, a, b, sc, p⟩
  | _ => ⟨Str.empty, default, [], default, default⟩
theorem law_def : defOf VW ROW.name = some (LAWD, []) := by kernel_rfl
theorem law_the : PRG.theDef ROW.name = some (LAWD.params, LAWD.body, LAWD.scope) := by kernel_rfl
theorem law_kw : kwWritten? LAWD.params.kwonlyargs LAWD.params.kw_defaults = some [] := by kernel_rfl
end
section
/-- the caller's own context is clean: nothing stands in its stack -/
theorem law_ends {w : World} {t : Sem Fin} {s : Shared} {R : Value → Shared → Prop} (hreg : s.asleep)
    (h : wpM true (model PRG w) callerA t (fun f s' => ∃ v, f = .done (.ret v) ∧ R v s' ∧ leftWithCleanup s'.gens = false) (fun _ _ => False) s) :
    ∃ n v s' s'', schedN (denote table) PRG w n (.single s ⟨t, .builtin "claim.caller" {}, default, []⟩) = .halted (.done (.ret v)) s' ∧
      runN (denote table) PRG w n s ⟨t, .builtin "claim.caller" {}, default, []⟩ = .halted (.done (.ret v)) s' ∧ s'.forget = s''.forget ∧ R v s'' := by
  have h' := h ⟨.builtin "claim.caller" {}, none, none, [], none⟩ default caller_in (fun _ => by decide +kernel) (fun _ x hx => absurd hx List.not_mem_nil)
  obtain ⟨n, r, s₁, s₂, hs, hn, hfo, v, rfl, hR⟩ := wp_halts_full (M := model PRG w) (R := fun r s' => ∃ v, r = .ok (.ret v) ∧ R v s') hreg
    (Sem.wp_mono (model PRG w) _ t (fun f p' s' ⟨v, e, hR, hg⟩ => by subst e; exact ⟨⟨v, rfl, hR⟩, hg⟩) (fun _ _ _ x => x.elim) default s h')
  exact ⟨n, v, s₂, s₁, hs, hn, hfo, hR⟩
noncomputable abbrev LawC : ClaimW := ROW.toRowW.claim
/-- what is asked of the walk of law -/
noncomputable def Walked : Prop := ∀ (w : World) (s : Shared) (mean : ExcName → Option Value) (mg mb : Str → Option Value) (ns : List Int) (ws : List Value) (n : Nat) (a : Addr),
  Top VW (looseW VW LOOSE) mean mg mb s.heap → (KF w.params).In s.heap → ns.length ≤ 63 → s.heap.get? a = some (listOf ws.toArray n) → IntsAre ws ns →
  wpM true (model PRG w) callerA (call (.ref 710) [.ref a]) (fun v s' => v = .bool true ∧ (∀ b o, s.heap.get? b = some o → s'.heap.get? b = some o) ∧ s'.os = s.os ∧ s'.gens = s.gens) (fun _ _ => False) s
theorem law_args {w : World} {s₀ s₁ : Shared} {args : List WData} {vals : List Value} {as : List Addr} (hpre : LawC.pre args = true) (hlay : WData.layableAll args = true) (hrd : ReadsAllW [] (classAt s₀.heap) s₁.heap vals args as)
    (hwl : WellAll w.params s₁.heap vals args) (hlo : ∀ a ∈ as, (a == sysModules) = false) : ∃ ns : List Int, args = [ofPy (PyData.list (ns.map PyData.int))] ∧ ns.length ≤ 63 ∧ ∃ a vs, vals = [.ref a] ∧ s₁.heap.IsList a vs.toArray ∧ IntsAre vs ns := by
  wrow_args hpre hlay hrd hwl hlo
  exact ⟨_, rfl, by omega, _, _, rfl, by assumption, by assumption⟩
theorem row_split : (chainsOk VW = true ∧ opensWell PRG = true) ∧ frees ROW.toRowW = true := by
  have h := row_ok
  simp only [Bool.and_eq_true] at h
  exact ⟨⟨h.1.1, h.1.2⟩, h.2.1⟩
theorem law_at (P : Params) : nsIn (KF P) mainGlobals ROW.name = some (some (.ref 710)) := by kernel_rfl
theorem law_post (args : List WData) : LawC.post args (.bool true) args = true := by kernel_rfl
theorem holds_of (walked : Walked) : PySem.Challenge.rw_xm0765_01.Holds := by
  have hX : ∀ s, XT s = true → XL VW LV (s.heap.nsMap mainGlobals) s.heap := fun s e => xl_of s (Bool.and_eq_true_iff.mp e).1
  obtain ⟨⟨hch, how⟩, hfree⟩ := row_split
  obtain ⟨hsame, hu, ha, hap, hm⟩ := frees_parts hfree
  refine ⟨said_law, said_row, row_prom, ⟨row_bare, how, rfl⟩, row_prom.witness, fun w => ⟨(LEFT.behind hX hch w).1, fun s' hs' => ?_⟩⟩
  obtain ⟨s₀, hf, hg0, s, hT, hz, hgens, hg, G, hK⟩ := (LEFT.behind hX hch w).2 s' hs'
  refine ⟨s₀, hf, hg0, s, hT, fun n hn => ?_, (fun x hx => nomatch hx), (fun x hx => nomatch hx), ?_⟩
  · obtain rfl : n = ROW.name := (by simpa using hn : _ ∧ _).2
    exact pinned_of_view (d := LAWD) (kwd := []) hg G law_def law_the law_kw
  have hgens : s.gens = #[] := Array.eq_empty_of_size_eq_zero (beq_iff_eq.mp hgens)
  intro args hpre hlay ord hord
  obtain ⟨⟨vs, s₁⟩, hlaid⟩ := Option.isSome_iff_exists.mp (layAllW_isSome (P := w.params) (ord := ord) G.has args ROW.args s (pre_splitW hpre).1)
  have keeps := layAllW_keeps _ _ _ hlaid
  have hal := layAllW_rest _ _ _ hlaid
  obtain ⟨as, hrd, hin, hold⟩ := reads_layAllW hord _ _ _ hlaid hlay s₁.heap (fun _ _ e => e)
  have L : Laid [] w s s₁ args vs as := ⟨⟨ord, hord, hlaid⟩, hrd, hin, hold, keeps, hal.1.trans hgens, hal.2.2.1⟩
  obtain ⟨ns, rfl, hz63, a, ws, rfl, hL, hI⟩ := law_args hpre hlay hrd (well_layAllW hord _ s _ hlaid _ fun _ _ e => e)
    (fun a ha => beq_eq_false_iff_ne.mpr fun e => by have := (hin.2.2 a ha).1; subst e; exact absurd G.low (Nat.not_lt.mpr this))
  have T := (G.keeps XL.keeps keeps).T
  have KX : (KF w.params).In s₁.heap := HK.keeps _ _ _ (HK.of w s hK) keeps
  have hmg : s.heap.nsMap mainGlobals ROW.name = some (.ref 710) := mg_of KX T.g (law_at _)
  have W := walked w s₁ _ _ _ ns ws 0 a T KX hz63 (X.script_obj L hL) hI
  obtain ⟨n, v, s', s'', hs, hn, hfo, rfl, keep, hos, hgn⟩ := law_ends (t := (callStub ROW.name [.ref a]).cur) (R := fun v s' => v = .bool true ∧ (∀ b o, s₁.heap.get? b = some o → s'.heap.get? b = some o) ∧ s'.os = s₁.os ∧ s'.gens = s₁.gens) (Shared.asleep_of_life hal.2.2.2 hz) (by
    refine wpM_bind (wpM_of_any (wpAny_nsGet T.g ?_))
    rw [hmg]
    refine wpM_bind (wpM_mono W (fun v s' x => wpM_pure ⟨v, rfl, x, ?_⟩) fun _ _ x => x)
    exact leftWithCleanup_false_of_bare (AllBare.of_eq (x.2.2.2.trans L.gens)))
  obtain ⟨eh, _, _, eo, _⟩ := Shared.forget_eq hfo
  have good : GoodWG LawC (classAt s.heap) (ExcName.means s.heap) [ofPy (PyData.list (ns.map PyData.int))] s₁ (.ok (.ret (.bool true))) s'' :=
    ⟨.inl ⟨.bool true, .bool true, [], rfl, fun _ => rfl, .bool true, law_post _, fun _ => ⟨.nil, fun _ h => nomatch h⟩⟩, .of_keep keep, hos, .of_eq (hgn.trans L.gens)⟩
  obtain ⟨e, eos, _⟩ := good.laid hsame rfl (ident_freeW hu ha hap) L
  have hlife : s'.heap.life = s.heap.life := (runN_life _ _ _ hn).trans hal.2.2.2
  refine ⟨_, s₁, hlaid, n, _, s', hs, ?_, (fun _ i x hx => by rw [hgens] at hx; simp at hx), (fun q => nomatch q), by rw [hlife], Shared.rest_eq (eo.trans eos)⟩
  rcases e.congr eh with ⟨v, ev, d1, d2, d3, d4, d5⟩ | ⟨e, ob, cls, ev, _⟩
  · cases ev
    exact .inl ⟨_, rfl, d1, d2, d3, fun b o y _ => d4 b o y, d5⟩
  · cases ev
end
section
theorem walked : Walked := by
  intro w s mean mg mb ns ws n a T KX hz ho hI
  have C := law_f w ns hz mean mg mb (1 + claimMargin) 4 (some []) [] s.heap s.heap s [.ref a] [] (fun _ => []) (fun b o => s.heap.get? b = some o) (below_caller s.heap) (fun _ _ e => e) (Nat.le_refl _) KX T (fun b o e => ⟨e, List.not_mem_nil⟩)
    (fun p hp => absurd hp List.not_mem_nil) .nil ⟨rfl, fun i o b e => by cases e⟩ ⟨VR.list ho (VRs.of_ints hI), trivial⟩ (by decide) (by decide)
  refine wpM_call (codeM_mono C ?_)
  rintro r s' (⟨g', v, x, L', m, h', tk', F', leds', α', cells', T', rfl, rfl, Fr', _, _, _, _, _, ra, rfl⟩ | ⟨he, _⟩)
  · cases ra
    exact ⟨rfl, fun b o e => Fr'.keep b o (T'.other b o e List.not_mem_nil), rfl, rfl⟩
  · exact he.elim
end
end Mine
theorem PySem.Challenge.cw_xm0765_01_holds : PySem.Challenge.rw_xm0765_01.Holds :=
  Mine.holds_of Mine.walked
