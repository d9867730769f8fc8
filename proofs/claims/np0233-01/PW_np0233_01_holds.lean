import PyProof.Rows.All
import Wide.All
import OpenK.AllK
import Wide.FinOn
import Lean
import PySem.Challenge.RW_np0233_01
open PySem PySem.W PySem.Calls PyProof.Rows
set_option Elab.async false
set_option linter.unusedVariables false
set_option maxRecDepth 100000
set_option maxHeartbeats 8000000
set_option compiler.extract_closed false
namespace Mine
/-! the known part of the heap (the objects that the top leaves; bodies of functions by their places in the program) -/
local macro_rules | `(tactic| walk_at "lit") => `(tactic| ((conv => lhs; whnf); first | done | exact rfl))
noncomputable def pwB : List Stmt := PySem.Challenge.pw_np0233_01.main.body
noncomputable def nthS : List Stmt → Nat → Stmt
  | [], _ => .Pass default
  | s :: _, 0 => s
  | _ :: r, n + 1 => nthS r n
noncomputable def clsB : Stmt → List Stmt
  | .ClassDef _ _ _ b _ _ _ _ _ _ _ => b
  | _ => []
noncomputable def fnA : Stmt → Arguments
  | .FunctionDef _ a _ _ _ _ _ _ _ _ => a
  | _ => default
noncomputable def fnB : Stmt → List Stmt
  | .FunctionDef _ _ b _ _ _ _ _ _ _ => b
  | _ => []
noncomputable def fnS : Stmt → Scope
  | .FunctionDef _ _ _ _ _ _ s _ _ _ => s
  | _ => default
noncomputable def K0 : Params → Frag := fun P =>
  ((nat_lit 2), ⟨.none, none, (.dict #[] 0), #[]⟩) ::
  ((nat_lit 3), ⟨(.type "dict"), none, (.dict #[⟨(PyData.keyHash P "__name__"), (.str "__name__" 165), (.str "law_np0233_01" 826)⟩, ⟨(PyData.keyHash P "__doc__"), (.str "__doc__" 166), .none⟩, ⟨(PyData.keyHash P "__package__"), (.str "__package__" 167), .none⟩, ⟨(PyData.keyHash P "__loader__"), (.str "__loader__" 168), (.builtin "__main__.__loader__#opaque")⟩, ⟨(PyData.keyHash P "__spec__"), (.str "__spec__" 169), .none⟩, ⟨(PyData.keyHash P "__annotations__"), (.str "__annotations__" 170), (.ref 6)⟩, ⟨(PyData.keyHash P "__builtins__"), (.str "__builtins__" 171), (.ref 4)⟩, ⟨(PyData.keyHash P "__file__"), (.str "__file__" 173), (.str "/claim/cut.py" 172)⟩, ⟨(PyData.keyHash P "__cached__"), (.str "__cached__" 174), .none⟩, ⟨(PyData.keyHash P "rows_of"), (.str "rows_of" 194), (.ref 19)⟩, ⟨(PyData.keyHash P "Node"), (.str "Node" 230), (.ref 43)⟩, ⟨(PyData.keyHash P "PVar"), (.str "PVar" 265), (.ref 72)⟩, ⟨(PyData.keyHash P "PWild"), (.str "PWild" 296), (.ref 99)⟩, ⟨(PyData.keyHash P "PLit"), (.str "PLit" 331), (.ref 126)⟩, ⟨(PyData.keyHash P "PCon"), (.str "PCon" 366), (.ref 153)⟩, ⟨(PyData.keyHash P "PTuple"), (.str "PTuple" 399), (.ref 180)⟩, ⟨(PyData.keyHash P "PList"), (.str "PList" 432), (.ref 207)⟩, ⟨(PyData.keyHash P "PAs"), (.str "PAs" 467), (.ref 234)⟩, ⟨(PyData.keyHash P "PLazy"), (.str "PLazy" 500), (.ref 261)⟩, ⟨(PyData.keyHash P "PBang"), (.str "PBang" 533), (.ref 288)⟩, ⟨(PyData.keyHash P "NIL"), (.str "NIL" 537), (.str "[]" 536)⟩, ⟨(PyData.keyHash P "CONS"), (.str "CONS" 539), (.str ":" 538)⟩, ⟨(PyData.keyHash P "UNIT"), (.str "UNIT" 541), (.str "()" 540)⟩, ⟨(PyData.keyHash P "BUILT_IN"), (.str "BUILT_IN" 548), (.ref 291)⟩, ⟨(PyData.keyHash P "tuple_name"), (.str "tuple_name" 555), (.ref 298)⟩, ⟨(PyData.keyHash P "is_tuple_name"), (.str "is_tuple_name" 562), (.ref 305)⟩, ⟨(PyData.keyHash P "listed"), (.str "listed" 569), (.ref 312)⟩, ⟨(PyData.keyHash P "lettered"), (.str "lettered" 576), (.ref 319)⟩, ⟨(PyData.keyHash P "spread"), (.str "spread" 583), (.ref 326)⟩, ⟨(PyData.keyHash P "Constructors"), (.str "Constructors" 634), (.ref 362)⟩, ⟨(PyData.keyHash P "FIRST_SIGN"), (.str "FIRST_SIGN" 638), (.int 97 637)⟩, ⟨(PyData.keyHash P "looked_at"), (.str "looked_at" 645), (.ref 373)⟩, ⟨(PyData.keyHash P "is_literal"), (.str "is_literal" 654), (.ref 380)⟩, ⟨(PyData.keyHash P "lines_of"), (.str "lines_of" 660), (.ref 385)⟩, ⟨(PyData.keyHash P "with_con"), (.str "with_con" 666), (.ref 390)⟩, ⟨(PyData.keyHash P "with_literal"), (.str "with_literal" 672), (.ref 395)⟩, ⟨(PyData.keyHash P "with_any"), (.str "with_any" 678), (.ref 400)⟩, ⟨(PyData.keyHash P "heads_of"), (.str "heads_of" 687), (.ref 407)⟩, ⟨(PyData.keyHash P "other_literal"), (.str "other_literal" 693), (.ref 412)⟩, ⟨(PyData.keyHash P "Watcher"), (.str "Watcher" 768), (.ref 455)⟩, ⟨(PyData.keyHash P "unmatched"), (.str "unmatched" 774), (.ref 464)⟩, ⟨(PyData.keyHash P "useless"), (.str "useless" 780), (.ref 469)⟩, ⟨(PyData.keyHash P "ConInfo"), (.str "ConInfo" 825), (.ref 486)⟩, ⟨(PyData.keyHash P "_law_kinds"), (.str "_law_kinds" 844), (.ref 491)⟩, ⟨(PyData.keyHash P "_law_lots"), (.str "_law_lots" 853), (.ref 500)⟩, ⟨(PyData.keyHash P "_law_pool"), (.str "_law_pool" 864), (.ref 507)⟩, ⟨(PyData.keyHash P "_law_take"), (.str "_law_take" 873), (.ref 514)⟩, ⟨(PyData.keyHash P "_law_one"), (.str "_law_one" 881), (.ref 521)⟩, ⟨(PyData.keyHash P "_law_pattern"), (.str "_law_pattern" 887), (.ref 526)⟩, ⟨(PyData.keyHash P "_law_values"), (.str "_law_values" 893), (.ref 531)⟩, ⟨(PyData.keyHash P "_law_fits"), (.str "_law_fits" 899), (.ref 536)⟩, ⟨(PyData.keyHash P "_law_all_fit"), (.str "_law_all_fit" 909), (.ref 543)⟩, ⟨(PyData.keyHash P "law"), (.str "law" 915), (.ref 548)⟩] 53), #[]⟩) ::
  ((nat_lit 15), ⟨(.type "tuple"), none, (.seq #[] 0), #[]⟩) ::
  ((nat_lit 18), ⟨(.type "code"), none, (.fields #[(.str "rows_of" 189), (.str "rows_of" 190), (.str "/claim/cut.py" 191), (.int 2 0), (.int 1 0), (.int 0 0), (.int 0 0), (.int 3 0), (.ref 15), (.bool true), (.int 181 0), (.ref 16), .none, .none, .none, (.ref 17), (.int 192 0), (.int 2 0), (.str "/claim/cut.py" 193)]), #[]⟩) ::
  ((nat_lit 19), ⟨(.type "function"), none, (.func ⟨"rows_of", "rows_of", (by refine' (?f1 : (x : Arguments) → fnA (nthS pwB 1) = x → Arguments) _ ?h1; (case h1 => walk_at "lit"); exact fun x _ => x), .stmts (by refine' (?f2 : (x : List Stmt) → fnB (nthS pwB 1) = x → List Stmt) _ ?h2; (case h2 => walk_at "lit"); exact fun x _ => x), (by refine' (?f3 : (x : Scope) → fnS (nthS pwB 1) = x → Scope) _ ?h3; (case h3 => walk_at "lit"); exact fun x _ => x), 3, [], .none, .none, .none, (.str "lazycore.nodes" 187), none, (.ref 18), .none, 0⟩), #[]⟩) ::
  ((nat_lit 27), ⟨(.type "tuple"), none, (.seq #[] 0), #[]⟩) ::
  ((nat_lit 29), ⟨(.type "tuple"), none, (.seq #[(.str "self" 210), (.str "place" 211)] 0), #[]⟩) ::
  ((nat_lit 30), ⟨(.type "tuple"), none, (.seq #[] 0), #[]⟩) ::
  ((nat_lit 32), ⟨(.type "code"), none, (.fields #[(.str "__init__" 207), (.str "Node.__init__" 208), (.str "/claim/cut.py" 209), (.int 6 0), (.int 2 0), (.int 0 0), (.int 0 0), (.int 3 0), (.ref 27), (.bool true), (.int 181 0), (.ref 28), .none, (.ref 29), (.ref 30), (.ref 31), (.int 212 0), (.int 6 0), (.str "/claim/cut.py" 213)]), #[]⟩) ::
  ((nat_lit 33), ⟨(.type "function"), none, (.func ⟨"__init__", "Node.__init__", (by refine' (?f4 : (x : Arguments) → fnA (nthS (clsB (nthS pwB 2)) 0) = x → Arguments) _ ?h4; (case h4 => walk_at "lit"); exact fun x _ => x), .stmts (by refine' (?f5 : (x : List Stmt) → fnB (nthS (clsB (nthS pwB 2)) 0) = x → List Stmt) _ ?h5; (case h5 => walk_at "lit"); exact fun x _ => x), (by refine' (?f6 : (x : Scope) → fnS (nthS (clsB (nthS pwB 2)) 0) = x → Scope) _ ?h6; (case h6 => walk_at "lit"); exact fun x _ => x), 3, [], .none, .none, .none, (.str "lazycore.nodes" 187), none, (.ref 32), .none, 0⟩), #[]⟩) ::
  ((nat_lit 34), ⟨(.type "tuple"), none, (.seq #[] 0), #[]⟩) ::
  ((nat_lit 36), ⟨(.type "tuple"), none, (.seq #[(.str "self" 218)] 0), #[]⟩) ::
  ((nat_lit 37), ⟨(.type "tuple"), none, (.seq #[] 0), #[]⟩) ::
  ((nat_lit 39), ⟨(.type "code"), none, (.fields #[(.str "row" 215), (.str "Node.row" 216), (.str "/claim/cut.py" 217), (.int 9 0), (.int 1 0), (.int 0 0), (.int 0 0), (.int 3 0), (.ref 34), (.bool true), (.int 181 0), (.ref 35), .none, (.ref 36), (.ref 37), (.ref 38), (.int 219 0), (.int 9 0), (.str "/claim/cut.py" 220)]), #[]⟩) ::
  ((nat_lit 40), ⟨(.type "function"), none, (.func ⟨"row", "Node.row", (by refine' (?f7 : (x : Arguments) → fnA (nthS (clsB (nthS pwB 2)) 1) = x → Arguments) _ ?h7; (case h7 => walk_at "lit"); exact fun x _ => x), .stmts (by refine' (?f8 : (x : List Stmt) → fnB (nthS (clsB (nthS pwB 2)) 1) = x → List Stmt) _ ?h8; (case h8 => walk_at "lit"); exact fun x _ => x), (by refine' (?f9 : (x : Scope) → fnS (nthS (clsB (nthS pwB 2)) 1) = x → Scope) _ ?h9; (case h9 => walk_at "lit"); exact fun x _ => x), 3, [], .none, .none, .none, (.str "lazycore.nodes" 187), none, (.ref 39), .none, 0⟩), #[]⟩) ::
  ((nat_lit 41), ⟨(.type "tuple"), none, (.seq #[(.str "place" 222)] 0), #[]⟩) ::
  ((nat_lit 42), ⟨(.type "dict"), none, (.dict #[⟨(PyData.keyHash P "__module__"), (.str "__module__" 202), (.str "lazycore.nodes" 187)⟩, ⟨(PyData.keyHash P "__firstlineno__"), (.str "__firstlineno__" 206), (.int 4 205)⟩, ⟨(PyData.keyHash P "__init__"), (.str "__init__" 214), (.ref 33)⟩, ⟨(PyData.keyHash P "row"), (.str "row" 221), (.ref 40)⟩, ⟨(PyData.keyHash P "__static_attributes__"), (.str "__static_attributes__" 223), (.ref 41)⟩, ⟨(PyData.keyHash P "__dict__"), (.str "__dict__" 225), (.ref 44)⟩, ⟨(PyData.keyHash P "__weakref__"), (.str "__weakref__" 227), (.ref 45)⟩, ⟨(PyData.keyHash P "__doc__"), (.str "__doc__" 228), .none⟩] 4), #[]⟩) ::
  ((nat_lit 43), ⟨(.type "type"), none, (.cls ⟨"Node", [(.type "object")], [(.ref 43), (.type "object")], 42, "Node", true, [], [(.ref 72), (.ref 99), (.ref 126), (.ref 153), (.ref 180), (.ref 207), (.ref 234), (.ref 261), (.ref 288)], false, none, false⟩), #[none, none, (some (.str "Node" 195)), (some (.str "Node" 203)), (some (.builtin "object.__new__")), (some (.bool true))]⟩) ::
  ((nat_lit 44), ⟨(.type "getset_descriptor"), none, (.fields #[(.str "__dict__" 224), (.ref 43), (.builtin "function.__dict__"), (.builtin "function.__dict__#set")]), #[]⟩) ::
  ((nat_lit 45), ⟨(.type "getset_descriptor"), none, (.fields #[(.str "__weakref__" 226), (.ref 43), (.builtin "ExceptionGroup.__weakref__"), .none]), #[]⟩) ::
  ((nat_lit 48), ⟨(.type "tuple"), none, (.seq #[(.ref 43)] 0), #[]⟩) ::
  ((nat_lit 55), ⟨(.type "tuple"), none, (.seq #[.none] 0), #[]⟩) ::
  ((nat_lit 56), ⟨(.type "tuple"), none, (.seq #[] 0), #[]⟩) ::
  ((nat_lit 58), ⟨(.type "tuple"), none, (.seq #[(.str "self" 248), (.str "name" 249), (.str "place" 250)] 0), #[]⟩) ::
  ((nat_lit 59), ⟨(.type "tuple"), none, (.seq #[] 0), #[]⟩) ::
  ((nat_lit 61), ⟨(.type "code"), none, (.fields #[(.str "__init__" 245), (.str "PVar.__init__" 246), (.str "/claim/cut.py" 247), (.int 14 0), (.int 3 0), (.int 0 0), (.int 0 0), (.int 3 0), (.ref 56), (.bool true), (.int 181 0), (.ref 57), .none, (.ref 58), (.ref 59), (.ref 60), (.int 251 0), (.int 14 0), (.str "/claim/cut.py" 252)]), #[]⟩) ::
  ((nat_lit 62), ⟨(.type "function"), none, (.func ⟨"__init__", "PVar.__init__", (by refine' (?f10 : (x : Arguments) → fnA (nthS (clsB (nthS pwB 4)) 0) = x → Arguments) _ ?h10; (case h10 => walk_at "lit"); exact fun x _ => x), .stmts (by refine' (?f11 : (x : List Stmt) → fnB (nthS (clsB (nthS pwB 4)) 0) = x → List Stmt) _ ?h11; (case h11 => walk_at "lit"); exact fun x _ => x), (by refine' (?f12 : (x : Scope) → fnS (nthS (clsB (nthS pwB 4)) 0) = x → Scope) _ ?h12; (case h12 => walk_at "lit"); exact fun x _ => x), 3, [], (.ref 55), .none, .none, (.str "lazycore.pattern_nodes" 231), none, (.ref 61), .none, 0⟩), #[]⟩) ::
  ((nat_lit 63), ⟨(.type "tuple"), none, (.seq #[] 0), #[]⟩) ::
  ((nat_lit 65), ⟨(.type "tuple"), none, (.seq #[(.str "self" 257)] 0), #[]⟩) ::
  ((nat_lit 66), ⟨(.type "tuple"), none, (.seq #[] 0), #[]⟩) ::
  ((nat_lit 68), ⟨(.type "code"), none, (.fields #[(.str "row" 254), (.str "PVar.row" 255), (.str "/claim/cut.py" 256), (.int 18 0), (.int 1 0), (.int 0 0), (.int 0 0), (.int 3 0), (.ref 63), (.bool true), (.int 181 0), (.ref 64), .none, (.ref 65), (.ref 66), (.ref 67), (.int 258 0), (.int 18 0), (.str "/claim/cut.py" 259)]), #[]⟩) ::
  ((nat_lit 69), ⟨(.type "function"), none, (.func ⟨"row", "PVar.row", (by refine' (?f13 : (x : Arguments) → fnA (nthS (clsB (nthS pwB 4)) 1) = x → Arguments) _ ?h13; (case h13 => walk_at "lit"); exact fun x _ => x), .stmts (by refine' (?f14 : (x : List Stmt) → fnB (nthS (clsB (nthS pwB 4)) 1) = x → List Stmt) _ ?h14; (case h14 => walk_at "lit"); exact fun x _ => x), (by refine' (?f15 : (x : Scope) → fnS (nthS (clsB (nthS pwB 4)) 1) = x → Scope) _ ?h15; (case h15 => walk_at "lit"); exact fun x _ => x), 3, [], .none, .none, .none, (.str "lazycore.pattern_nodes" 231), none, (.ref 68), .none, 0⟩), #[]⟩) ::
  ((nat_lit 70), ⟨(.type "tuple"), none, (.seq #[(.str "name" 261)] 0), #[]⟩) ::
  ((nat_lit 71), ⟨(.type "dict"), none, (.dict #[⟨(PyData.keyHash P "__module__"), (.str "__module__" 240), (.str "lazycore.pattern_nodes" 231)⟩, ⟨(PyData.keyHash P "__firstlineno__"), (.str "__firstlineno__" 244), (.int 12 243)⟩, ⟨(PyData.keyHash P "__init__"), (.str "__init__" 253), (.ref 62)⟩, ⟨(PyData.keyHash P "row"), (.str "row" 260), (.ref 69)⟩, ⟨(PyData.keyHash P "__static_attributes__"), (.str "__static_attributes__" 262), (.ref 70)⟩, ⟨(PyData.keyHash P "__doc__"), (.str "__doc__" 263), .none⟩] 2), #[]⟩) ::
  ((nat_lit 72), ⟨(.type "type"), none, (.cls ⟨"PVar", [(.ref 43)], [(.ref 72), (.ref 43), (.type "object")], 71, "PVar", true, [], [], false, none, false⟩), #[(some (.ref 48)), none, (some (.str "PVar" 233)), (some (.str "PVar" 241)), (some (.builtin "object.__new__")), (some (.bool true))]⟩) ::
  ((nat_lit 75), ⟨(.type "tuple"), none, (.seq #[(.ref 43)] 0), #[]⟩) ::
  ((nat_lit 82), ⟨(.type "tuple"), none, (.seq #[.none] 0), #[]⟩) ::
  ((nat_lit 83), ⟨(.type "tuple"), none, (.seq #[] 0), #[]⟩) ::
  ((nat_lit 85), ⟨(.type "tuple"), none, (.seq #[(.str "self" 281), (.str "place" 282)] 0), #[]⟩) ::
  ((nat_lit 86), ⟨(.type "tuple"), none, (.seq #[] 0), #[]⟩) ::
  ((nat_lit 88), ⟨(.type "code"), none, (.fields #[(.str "__init__" 278), (.str "PWild.__init__" 279), (.str "/claim/cut.py" 280), (.int 22 0), (.int 2 0), (.int 0 0), (.int 0 0), (.int 3 0), (.ref 83), (.bool true), (.int 181 0), (.ref 84), .none, (.ref 85), (.ref 86), (.ref 87), (.int 283 0), (.int 22 0), (.str "/claim/cut.py" 284)]), #[]⟩) ::
  ((nat_lit 89), ⟨(.type "function"), none, (.func ⟨"__init__", "PWild.__init__", (by refine' (?f16 : (x : Arguments) → fnA (nthS (clsB (nthS pwB 5)) 0) = x → Arguments) _ ?h16; (case h16 => walk_at "lit"); exact fun x _ => x), .stmts (by refine' (?f17 : (x : List Stmt) → fnB (nthS (clsB (nthS pwB 5)) 0) = x → List Stmt) _ ?h17; (case h17 => walk_at "lit"); exact fun x _ => x), (by refine' (?f18 : (x : Scope) → fnS (nthS (clsB (nthS pwB 5)) 0) = x → Scope) _ ?h18; (case h18 => walk_at "lit"); exact fun x _ => x), 3, [], (.ref 82), .none, .none, (.str "lazycore.pattern_nodes" 231), none, (.ref 88), .none, 0⟩), #[]⟩) ::
  ((nat_lit 90), ⟨(.type "tuple"), none, (.seq #[] 0), #[]⟩) ::
  ((nat_lit 92), ⟨(.type "tuple"), none, (.seq #[(.str "self" 289)] 0), #[]⟩) ::
  ((nat_lit 93), ⟨(.type "tuple"), none, (.seq #[] 0), #[]⟩) ::
  ((nat_lit 95), ⟨(.type "code"), none, (.fields #[(.str "row" 286), (.str "PWild.row" 287), (.str "/claim/cut.py" 288), (.int 25 0), (.int 1 0), (.int 0 0), (.int 0 0), (.int 3 0), (.ref 90), (.bool true), (.int 181 0), (.ref 91), .none, (.ref 92), (.ref 93), (.ref 94), (.int 290 0), (.int 25 0), (.str "/claim/cut.py" 291)]), #[]⟩) ::
  ((nat_lit 96), ⟨(.type "function"), none, (.func ⟨"row", "PWild.row", (by refine' (?f19 : (x : Arguments) → fnA (nthS (clsB (nthS pwB 5)) 1) = x → Arguments) _ ?h19; (case h19 => walk_at "lit"); exact fun x _ => x), .stmts (by refine' (?f20 : (x : List Stmt) → fnB (nthS (clsB (nthS pwB 5)) 1) = x → List Stmt) _ ?h20; (case h20 => walk_at "lit"); exact fun x _ => x), (by refine' (?f21 : (x : Scope) → fnS (nthS (clsB (nthS pwB 5)) 1) = x → Scope) _ ?h21; (case h21 => walk_at "lit"); exact fun x _ => x), 3, [], .none, .none, .none, (.str "lazycore.pattern_nodes" 231), none, (.ref 95), .none, 0⟩), #[]⟩) ::
  ((nat_lit 97), ⟨(.type "tuple"), none, (.seq #[] 0), #[]⟩) ::
  ((nat_lit 98), ⟨(.type "dict"), none, (.dict #[⟨(PyData.keyHash P "__module__"), (.str "__module__" 273), (.str "lazycore.pattern_nodes" 231)⟩, ⟨(PyData.keyHash P "__firstlineno__"), (.str "__firstlineno__" 277), (.int 20 276)⟩, ⟨(PyData.keyHash P "__init__"), (.str "__init__" 285), (.ref 89)⟩, ⟨(PyData.keyHash P "row"), (.str "row" 292), (.ref 96)⟩, ⟨(PyData.keyHash P "__static_attributes__"), (.str "__static_attributes__" 293), (.ref 97)⟩, ⟨(PyData.keyHash P "__doc__"), (.str "__doc__" 294), .none⟩] 2), #[]⟩) ::
  ((nat_lit 99), ⟨(.type "type"), none, (.cls ⟨"PWild", [(.ref 43)], [(.ref 99), (.ref 43), (.type "object")], 98, "PWild", true, [], [], false, none, false⟩), #[(some (.ref 75)), none, (some (.str "PWild" 266)), (some (.str "PWild" 274)), (some (.builtin "object.__new__")), (some (.bool true))]⟩) ::
  ((nat_lit 102), ⟨(.type "tuple"), none, (.seq #[(.ref 43)] 0), #[]⟩) ::
  ((nat_lit 109), ⟨(.type "tuple"), none, (.seq #[.none] 0), #[]⟩) ::
  ((nat_lit 110), ⟨(.type "tuple"), none, (.seq #[] 0), #[]⟩) ::
  ((nat_lit 112), ⟨(.type "tuple"), none, (.seq #[(.str "self" 312), (.str "kind" 313), (.str "value" 314), (.str "place" 315)] 0), #[]⟩) ::
  ((nat_lit 113), ⟨(.type "tuple"), none, (.seq #[] 0), #[]⟩) ::
  ((nat_lit 115), ⟨(.type "code"), none, (.fields #[(.str "__init__" 309), (.str "PLit.__init__" 310), (.str "/claim/cut.py" 311), (.int 29 0), (.int 4 0), (.int 0 0), (.int 0 0), (.int 3 0), (.ref 110), (.bool true), (.int 181 0), (.ref 111), .none, (.ref 112), (.ref 113), (.ref 114), (.int 316 0), (.int 29 0), (.str "/claim/cut.py" 317)]), #[]⟩) ::
  ((nat_lit 116), ⟨(.type "function"), none, (.func ⟨"__init__", "PLit.__init__", (by refine' (?f22 : (x : Arguments) → fnA (nthS (clsB (nthS pwB 6)) 0) = x → Arguments) _ ?h22; (case h22 => walk_at "lit"); exact fun x _ => x), .stmts (by refine' (?f23 : (x : List Stmt) → fnB (nthS (clsB (nthS pwB 6)) 0) = x → List Stmt) _ ?h23; (case h23 => walk_at "lit"); exact fun x _ => x), (by refine' (?f24 : (x : Scope) → fnS (nthS (clsB (nthS pwB 6)) 0) = x → Scope) _ ?h24; (case h24 => walk_at "lit"); exact fun x _ => x), 3, [], (.ref 109), .none, .none, (.str "lazycore.pattern_nodes" 231), none, (.ref 115), .none, 0⟩), #[]⟩) ::
  ((nat_lit 117), ⟨(.type "tuple"), none, (.seq #[] 0), #[]⟩) ::
  ((nat_lit 119), ⟨(.type "tuple"), none, (.seq #[(.str "self" 322)] 0), #[]⟩) ::
  ((nat_lit 120), ⟨(.type "tuple"), none, (.seq #[] 0), #[]⟩) ::
  ((nat_lit 122), ⟨(.type "code"), none, (.fields #[(.str "row" 319), (.str "PLit.row" 320), (.str "/claim/cut.py" 321), (.int 34 0), (.int 1 0), (.int 0 0), (.int 0 0), (.int 3 0), (.ref 117), (.bool true), (.int 181 0), (.ref 118), .none, (.ref 119), (.ref 120), (.ref 121), (.int 323 0), (.int 34 0), (.str "/claim/cut.py" 324)]), #[]⟩) ::
  ((nat_lit 123), ⟨(.type "function"), none, (.func ⟨"row", "PLit.row", (by refine' (?f25 : (x : Arguments) → fnA (nthS (clsB (nthS pwB 6)) 1) = x → Arguments) _ ?h25; (case h25 => walk_at "lit"); exact fun x _ => x), .stmts (by refine' (?f26 : (x : List Stmt) → fnB (nthS (clsB (nthS pwB 6)) 1) = x → List Stmt) _ ?h26; (case h26 => walk_at "lit"); exact fun x _ => x), (by refine' (?f27 : (x : Scope) → fnS (nthS (clsB (nthS pwB 6)) 1) = x → Scope) _ ?h27; (case h27 => walk_at "lit"); exact fun x _ => x), 3, [], .none, .none, .none, (.str "lazycore.pattern_nodes" 231), none, (.ref 122), .none, 0⟩), #[]⟩) ::
  ((nat_lit 124), ⟨(.type "tuple"), none, (.seq #[(.str "kind" 326), (.str "value" 327)] 0), #[]⟩) ::
  ((nat_lit 125), ⟨(.type "dict"), none, (.dict #[⟨(PyData.keyHash P "__module__"), (.str "__module__" 304), (.str "lazycore.pattern_nodes" 231)⟩, ⟨(PyData.keyHash P "__firstlineno__"), (.str "__firstlineno__" 308), (.int 27 307)⟩, ⟨(PyData.keyHash P "__init__"), (.str "__init__" 318), (.ref 116)⟩, ⟨(PyData.keyHash P "row"), (.str "row" 325), (.ref 123)⟩, ⟨(PyData.keyHash P "__static_attributes__"), (.str "__static_attributes__" 328), (.ref 124)⟩, ⟨(PyData.keyHash P "__doc__"), (.str "__doc__" 329), .none⟩] 2), #[]⟩) ::
  ((nat_lit 126), ⟨(.type "type"), none, (.cls ⟨"PLit", [(.ref 43)], [(.ref 126), (.ref 43), (.type "object")], 125, "PLit", true, [], [], false, none, false⟩), #[(some (.ref 102)), none, (some (.str "PLit" 297)), (some (.str "PLit" 305)), (some (.builtin "object.__new__")), (some (.bool true))]⟩) ::
  ((nat_lit 129), ⟨(.type "tuple"), none, (.seq #[(.ref 43)] 0), #[]⟩) ::
  ((nat_lit 136), ⟨(.type "tuple"), none, (.seq #[.none] 0), #[]⟩) ::
  ((nat_lit 137), ⟨(.type "tuple"), none, (.seq #[] 0), #[]⟩) ::
  ((nat_lit 139), ⟨(.type "tuple"), none, (.seq #[(.str "self" 347), (.str "name" 348), (.str "args" 349), (.str "place" 350)] 0), #[]⟩) ::
  ((nat_lit 140), ⟨(.type "tuple"), none, (.seq #[] 0), #[]⟩) ::
  ((nat_lit 142), ⟨(.type "code"), none, (.fields #[(.str "__init__" 344), (.str "PCon.__init__" 345), (.str "/claim/cut.py" 346), (.int 38 0), (.int 4 0), (.int 0 0), (.int 0 0), (.int 3 0), (.ref 137), (.bool true), (.int 181 0), (.ref 138), .none, (.ref 139), (.ref 140), (.ref 141), (.int 351 0), (.int 38 0), (.str "/claim/cut.py" 352)]), #[]⟩) ::
  ((nat_lit 143), ⟨(.type "function"), none, (.func ⟨"__init__", "PCon.__init__", (by refine' (?f28 : (x : Arguments) → fnA (nthS (clsB (nthS pwB 7)) 0) = x → Arguments) _ ?h28; (case h28 => walk_at "lit"); exact fun x _ => x), .stmts (by refine' (?f29 : (x : List Stmt) → fnB (nthS (clsB (nthS pwB 7)) 0) = x → List Stmt) _ ?h29; (case h29 => walk_at "lit"); exact fun x _ => x), (by refine' (?f30 : (x : Scope) → fnS (nthS (clsB (nthS pwB 7)) 0) = x → Scope) _ ?h30; (case h30 => walk_at "lit"); exact fun x _ => x), 3, [], (.ref 136), .none, .none, (.str "lazycore.pattern_nodes" 231), none, (.ref 142), .none, 0⟩), #[]⟩) ::
  ((nat_lit 144), ⟨(.type "tuple"), none, (.seq #[] 0), #[]⟩) ::
  ((nat_lit 146), ⟨(.type "tuple"), none, (.seq #[(.str "self" 357)] 0), #[]⟩) ::
  ((nat_lit 147), ⟨(.type "tuple"), none, (.seq #[] 0), #[]⟩) ::
  ((nat_lit 149), ⟨(.type "code"), none, (.fields #[(.str "row" 354), (.str "PCon.row" 355), (.str "/claim/cut.py" 356), (.int 43 0), (.int 1 0), (.int 0 0), (.int 0 0), (.int 3 0), (.ref 144), (.bool true), (.int 181 0), (.ref 145), .none, (.ref 146), (.ref 147), (.ref 148), (.int 358 0), (.int 43 0), (.str "/claim/cut.py" 359)]), #[]⟩) ::
  ((nat_lit 150), ⟨(.type "function"), none, (.func ⟨"row", "PCon.row", (by refine' (?f31 : (x : Arguments) → fnA (nthS (clsB (nthS pwB 7)) 1) = x → Arguments) _ ?h31; (case h31 => walk_at "lit"); exact fun x _ => x), .stmts (by refine' (?f32 : (x : List Stmt) → fnB (nthS (clsB (nthS pwB 7)) 1) = x → List Stmt) _ ?h32; (case h32 => walk_at "lit"); exact fun x _ => x), (by refine' (?f33 : (x : Scope) → fnS (nthS (clsB (nthS pwB 7)) 1) = x → Scope) _ ?h33; (case h33 => walk_at "lit"); exact fun x _ => x), 3, [], .none, .none, .none, (.str "lazycore.pattern_nodes" 231), none, (.ref 149), .none, 0⟩), #[]⟩) ::
  ((nat_lit 151), ⟨(.type "tuple"), none, (.seq #[(.str "args" 361), (.str "name" 362)] 0), #[]⟩) ::
  ((nat_lit 152), ⟨(.type "dict"), none, (.dict #[⟨(PyData.keyHash P "__module__"), (.str "__module__" 339), (.str "lazycore.pattern_nodes" 231)⟩, ⟨(PyData.keyHash P "__firstlineno__"), (.str "__firstlineno__" 343), (.int 36 342)⟩, ⟨(PyData.keyHash P "__init__"), (.str "__init__" 353), (.ref 143)⟩, ⟨(PyData.keyHash P "row"), (.str "row" 360), (.ref 150)⟩, ⟨(PyData.keyHash P "__static_attributes__"), (.str "__static_attributes__" 363), (.ref 151)⟩, ⟨(PyData.keyHash P "__doc__"), (.str "__doc__" 364), .none⟩] 2), #[]⟩) ::
  ((nat_lit 153), ⟨(.type "type"), none, (.cls ⟨"PCon", [(.ref 43)], [(.ref 153), (.ref 43), (.type "object")], 152, "PCon", true, [], [], false, none, false⟩), #[(some (.ref 129)), none, (some (.str "PCon" 332)), (some (.str "PCon" 340)), (some (.builtin "object.__new__")), (some (.bool true))]⟩) ::
  ((nat_lit 156), ⟨(.type "tuple"), none, (.seq #[(.ref 43)] 0), #[]⟩) ::
  ((nat_lit 163), ⟨(.type "tuple"), none, (.seq #[.none] 0), #[]⟩) ::
  ((nat_lit 164), ⟨(.type "tuple"), none, (.seq #[] 0), #[]⟩) ::
  ((nat_lit 166), ⟨(.type "tuple"), none, (.seq #[(.str "self" 382), (.str "items" 383), (.str "place" 384)] 0), #[]⟩) ::
  ((nat_lit 167), ⟨(.type "tuple"), none, (.seq #[] 0), #[]⟩) ::
  ((nat_lit 169), ⟨(.type "code"), none, (.fields #[(.str "__init__" 379), (.str "PTuple.__init__" 380), (.str "/claim/cut.py" 381), (.int 47 0), (.int 3 0), (.int 0 0), (.int 0 0), (.int 3 0), (.ref 164), (.bool true), (.int 181 0), (.ref 165), .none, (.ref 166), (.ref 167), (.ref 168), (.int 385 0), (.int 47 0), (.str "/claim/cut.py" 386)]), #[]⟩) ::
  ((nat_lit 170), ⟨(.type "function"), none, (.func ⟨"__init__", "PTuple.__init__", (by refine' (?f34 : (x : Arguments) → fnA (nthS (clsB (nthS pwB 8)) 0) = x → Arguments) _ ?h34; (case h34 => walk_at "lit"); exact fun x _ => x), .stmts (by refine' (?f35 : (x : List Stmt) → fnB (nthS (clsB (nthS pwB 8)) 0) = x → List Stmt) _ ?h35; (case h35 => walk_at "lit"); exact fun x _ => x), (by refine' (?f36 : (x : Scope) → fnS (nthS (clsB (nthS pwB 8)) 0) = x → Scope) _ ?h36; (case h36 => walk_at "lit"); exact fun x _ => x), 3, [], (.ref 163), .none, .none, (.str "lazycore.pattern_nodes" 231), none, (.ref 169), .none, 0⟩), #[]⟩) ::
  ((nat_lit 171), ⟨(.type "tuple"), none, (.seq #[] 0), #[]⟩) ::
  ((nat_lit 173), ⟨(.type "tuple"), none, (.seq #[(.str "self" 391)] 0), #[]⟩) ::
  ((nat_lit 174), ⟨(.type "tuple"), none, (.seq #[] 0), #[]⟩) ::
  ((nat_lit 176), ⟨(.type "code"), none, (.fields #[(.str "row" 388), (.str "PTuple.row" 389), (.str "/claim/cut.py" 390), (.int 51 0), (.int 1 0), (.int 0 0), (.int 0 0), (.int 3 0), (.ref 171), (.bool true), (.int 181 0), (.ref 172), .none, (.ref 173), (.ref 174), (.ref 175), (.int 392 0), (.int 51 0), (.str "/claim/cut.py" 393)]), #[]⟩) ::
  ((nat_lit 177), ⟨(.type "function"), none, (.func ⟨"row", "PTuple.row", (by refine' (?f37 : (x : Arguments) → fnA (nthS (clsB (nthS pwB 8)) 1) = x → Arguments) _ ?h37; (case h37 => walk_at "lit"); exact fun x _ => x), .stmts (by refine' (?f38 : (x : List Stmt) → fnB (nthS (clsB (nthS pwB 8)) 1) = x → List Stmt) _ ?h38; (case h38 => walk_at "lit"); exact fun x _ => x), (by refine' (?f39 : (x : Scope) → fnS (nthS (clsB (nthS pwB 8)) 1) = x → Scope) _ ?h39; (case h39 => walk_at "lit"); exact fun x _ => x), 3, [], .none, .none, .none, (.str "lazycore.pattern_nodes" 231), none, (.ref 176), .none, 0⟩), #[]⟩) ::
  ((nat_lit 178), ⟨(.type "tuple"), none, (.seq #[(.str "items" 395)] 0), #[]⟩) ::
  ((nat_lit 179), ⟨(.type "dict"), none, (.dict #[⟨(PyData.keyHash P "__module__"), (.str "__module__" 374), (.str "lazycore.pattern_nodes" 231)⟩, ⟨(PyData.keyHash P "__firstlineno__"), (.str "__firstlineno__" 378), (.int 45 377)⟩, ⟨(PyData.keyHash P "__init__"), (.str "__init__" 387), (.ref 170)⟩, ⟨(PyData.keyHash P "row"), (.str "row" 394), (.ref 177)⟩, ⟨(PyData.keyHash P "__static_attributes__"), (.str "__static_attributes__" 396), (.ref 178)⟩, ⟨(PyData.keyHash P "__doc__"), (.str "__doc__" 397), .none⟩] 2), #[]⟩) ::
  ((nat_lit 180), ⟨(.type "type"), none, (.cls ⟨"PTuple", [(.ref 43)], [(.ref 180), (.ref 43), (.type "object")], 179, "PTuple", true, [], [], false, none, false⟩), #[(some (.ref 156)), none, (some (.str "PTuple" 367)), (some (.str "PTuple" 375)), (some (.builtin "object.__new__")), (some (.bool true))]⟩) ::
  ((nat_lit 183), ⟨(.type "tuple"), none, (.seq #[(.ref 43)] 0), #[]⟩) ::
  ((nat_lit 190), ⟨(.type "tuple"), none, (.seq #[.none] 0), #[]⟩) ::
  ((nat_lit 191), ⟨(.type "tuple"), none, (.seq #[] 0), #[]⟩) ::
  ((nat_lit 193), ⟨(.type "tuple"), none, (.seq #[(.str "self" 415), (.str "items" 416), (.str "place" 417)] 0), #[]⟩) ::
  ((nat_lit 194), ⟨(.type "tuple"), none, (.seq #[] 0), #[]⟩) ::
  ((nat_lit 196), ⟨(.type "code"), none, (.fields #[(.str "__init__" 412), (.str "PList.__init__" 413), (.str "/claim/cut.py" 414), (.int 55 0), (.int 3 0), (.int 0 0), (.int 0 0), (.int 3 0), (.ref 191), (.bool true), (.int 181 0), (.ref 192), .none, (.ref 193), (.ref 194), (.ref 195), (.int 418 0), (.int 55 0), (.str "/claim/cut.py" 419)]), #[]⟩) ::
  ((nat_lit 197), ⟨(.type "function"), none, (.func ⟨"__init__", "PList.__init__", (by refine' (?f40 : (x : Arguments) → fnA (nthS (clsB (nthS pwB 9)) 0) = x → Arguments) _ ?h40; (case h40 => walk_at "lit"); exact fun x _ => x), .stmts (by refine' (?f41 : (x : List Stmt) → fnB (nthS (clsB (nthS pwB 9)) 0) = x → List Stmt) _ ?h41; (case h41 => walk_at "lit"); exact fun x _ => x), (by refine' (?f42 : (x : Scope) → fnS (nthS (clsB (nthS pwB 9)) 0) = x → Scope) _ ?h42; (case h42 => walk_at "lit"); exact fun x _ => x), 3, [], (.ref 190), .none, .none, (.str "lazycore.pattern_nodes" 231), none, (.ref 196), .none, 0⟩), #[]⟩) ::
  ((nat_lit 198), ⟨(.type "tuple"), none, (.seq #[] 0), #[]⟩) ::
  ((nat_lit 200), ⟨(.type "tuple"), none, (.seq #[(.str "self" 424)] 0), #[]⟩) ::
  ((nat_lit 201), ⟨(.type "tuple"), none, (.seq #[] 0), #[]⟩) ::
  ((nat_lit 203), ⟨(.type "code"), none, (.fields #[(.str "row" 421), (.str "PList.row" 422), (.str "/claim/cut.py" 423), (.int 59 0), (.int 1 0), (.int 0 0), (.int 0 0), (.int 3 0), (.ref 198), (.bool true), (.int 181 0), (.ref 199), .none, (.ref 200), (.ref 201), (.ref 202), (.int 425 0), (.int 59 0), (.str "/claim/cut.py" 426)]), #[]⟩) ::
  ((nat_lit 204), ⟨(.type "function"), none, (.func ⟨"row", "PList.row", (by refine' (?f43 : (x : Arguments) → fnA (nthS (clsB (nthS pwB 9)) 1) = x → Arguments) _ ?h43; (case h43 => walk_at "lit"); exact fun x _ => x), .stmts (by refine' (?f44 : (x : List Stmt) → fnB (nthS (clsB (nthS pwB 9)) 1) = x → List Stmt) _ ?h44; (case h44 => walk_at "lit"); exact fun x _ => x), (by refine' (?f45 : (x : Scope) → fnS (nthS (clsB (nthS pwB 9)) 1) = x → Scope) _ ?h45; (case h45 => walk_at "lit"); exact fun x _ => x), 3, [], .none, .none, .none, (.str "lazycore.pattern_nodes" 231), none, (.ref 203), .none, 0⟩), #[]⟩) ::
  ((nat_lit 205), ⟨(.type "tuple"), none, (.seq #[(.str "items" 428)] 0), #[]⟩) ::
  ((nat_lit 206), ⟨(.type "dict"), none, (.dict #[⟨(PyData.keyHash P "__module__"), (.str "__module__" 407), (.str "lazycore.pattern_nodes" 231)⟩, ⟨(PyData.keyHash P "__firstlineno__"), (.str "__firstlineno__" 411), (.int 53 410)⟩, ⟨(PyData.keyHash P "__init__"), (.str "__init__" 420), (.ref 197)⟩, ⟨(PyData.keyHash P "row"), (.str "row" 427), (.ref 204)⟩, ⟨(PyData.keyHash P "__static_attributes__"), (.str "__static_attributes__" 429), (.ref 205)⟩, ⟨(PyData.keyHash P "__doc__"), (.str "__doc__" 430), .none⟩] 2), #[]⟩) ::
  ((nat_lit 207), ⟨(.type "type"), none, (.cls ⟨"PList", [(.ref 43)], [(.ref 207), (.ref 43), (.type "object")], 206, "PList", true, [], [], false, none, false⟩), #[(some (.ref 183)), none, (some (.str "PList" 400)), (some (.str "PList" 408)), (some (.builtin "object.__new__")), (some (.bool true))]⟩) ::
  ((nat_lit 210), ⟨(.type "tuple"), none, (.seq #[(.ref 43)] 0), #[]⟩) ::
  ((nat_lit 217), ⟨(.type "tuple"), none, (.seq #[.none] 0), #[]⟩) ::
  ((nat_lit 218), ⟨(.type "tuple"), none, (.seq #[] 0), #[]⟩) ::
  ((nat_lit 220), ⟨(.type "tuple"), none, (.seq #[(.str "self" 448), (.str "name" 449), (.str "pattern" 450), (.str "place" 451)] 0), #[]⟩) ::
  ((nat_lit 221), ⟨(.type "tuple"), none, (.seq #[] 0), #[]⟩) ::
  ((nat_lit 223), ⟨(.type "code"), none, (.fields #[(.str "__init__" 445), (.str "PAs.__init__" 446), (.str "/claim/cut.py" 447), (.int 63 0), (.int 4 0), (.int 0 0), (.int 0 0), (.int 3 0), (.ref 218), (.bool true), (.int 181 0), (.ref 219), .none, (.ref 220), (.ref 221), (.ref 222), (.int 452 0), (.int 63 0), (.str "/claim/cut.py" 453)]), #[]⟩) ::
  ((nat_lit 224), ⟨(.type "function"), none, (.func ⟨"__init__", "PAs.__init__", (by refine' (?f46 : (x : Arguments) → fnA (nthS (clsB (nthS pwB 10)) 0) = x → Arguments) _ ?h46; (case h46 => walk_at "lit"); exact fun x _ => x), .stmts (by refine' (?f47 : (x : List Stmt) → fnB (nthS (clsB (nthS pwB 10)) 0) = x → List Stmt) _ ?h47; (case h47 => walk_at "lit"); exact fun x _ => x), (by refine' (?f48 : (x : Scope) → fnS (nthS (clsB (nthS pwB 10)) 0) = x → Scope) _ ?h48; (case h48 => walk_at "lit"); exact fun x _ => x), 3, [], (.ref 217), .none, .none, (.str "lazycore.pattern_nodes" 231), none, (.ref 223), .none, 0⟩), #[]⟩) ::
  ((nat_lit 225), ⟨(.type "tuple"), none, (.seq #[] 0), #[]⟩) ::
  ((nat_lit 227), ⟨(.type "tuple"), none, (.seq #[(.str "self" 458)] 0), #[]⟩) ::
  ((nat_lit 228), ⟨(.type "tuple"), none, (.seq #[] 0), #[]⟩) ::
  ((nat_lit 230), ⟨(.type "code"), none, (.fields #[(.str "row" 455), (.str "PAs.row" 456), (.str "/claim/cut.py" 457), (.int 68 0), (.int 1 0), (.int 0 0), (.int 0 0), (.int 3 0), (.ref 225), (.bool true), (.int 181 0), (.ref 226), .none, (.ref 227), (.ref 228), (.ref 229), (.int 459 0), (.int 68 0), (.str "/claim/cut.py" 460)]), #[]⟩) ::
  ((nat_lit 231), ⟨(.type "function"), none, (.func ⟨"row", "PAs.row", (by refine' (?f49 : (x : Arguments) → fnA (nthS (clsB (nthS pwB 10)) 1) = x → Arguments) _ ?h49; (case h49 => walk_at "lit"); exact fun x _ => x), .stmts (by refine' (?f50 : (x : List Stmt) → fnB (nthS (clsB (nthS pwB 10)) 1) = x → List Stmt) _ ?h50; (case h50 => walk_at "lit"); exact fun x _ => x), (by refine' (?f51 : (x : Scope) → fnS (nthS (clsB (nthS pwB 10)) 1) = x → Scope) _ ?h51; (case h51 => walk_at "lit"); exact fun x _ => x), 3, [], .none, .none, .none, (.str "lazycore.pattern_nodes" 231), none, (.ref 230), .none, 0⟩), #[]⟩) ::
  ((nat_lit 232), ⟨(.type "tuple"), none, (.seq #[(.str "name" 462), (.str "pattern" 463)] 0), #[]⟩) ::
  ((nat_lit 233), ⟨(.type "dict"), none, (.dict #[⟨(PyData.keyHash P "__module__"), (.str "__module__" 440), (.str "lazycore.pattern_nodes" 231)⟩, ⟨(PyData.keyHash P "__firstlineno__"), (.str "__firstlineno__" 444), (.int 61 443)⟩, ⟨(PyData.keyHash P "__init__"), (.str "__init__" 454), (.ref 224)⟩, ⟨(PyData.keyHash P "row"), (.str "row" 461), (.ref 231)⟩, ⟨(PyData.keyHash P "__static_attributes__"), (.str "__static_attributes__" 464), (.ref 232)⟩, ⟨(PyData.keyHash P "__doc__"), (.str "__doc__" 465), .none⟩] 2), #[]⟩) ::
  ((nat_lit 234), ⟨(.type "type"), none, (.cls ⟨"PAs", [(.ref 43)], [(.ref 234), (.ref 43), (.type "object")], 233, "PAs", true, [], [], false, none, false⟩), #[(some (.ref 210)), none, (some (.str "PAs" 433)), (some (.str "PAs" 441)), (some (.builtin "object.__new__")), (some (.bool true))]⟩) ::
  ((nat_lit 237), ⟨(.type "tuple"), none, (.seq #[(.ref 43)] 0), #[]⟩) ::
  ((nat_lit 244), ⟨(.type "tuple"), none, (.seq #[.none] 0), #[]⟩) ::
  ((nat_lit 245), ⟨(.type "tuple"), none, (.seq #[] 0), #[]⟩) ::
  ((nat_lit 247), ⟨(.type "tuple"), none, (.seq #[(.str "self" 483), (.str "pattern" 484), (.str "place" 485)] 0), #[]⟩) ::
  ((nat_lit 248), ⟨(.type "tuple"), none, (.seq #[] 0), #[]⟩) ::
  ((nat_lit 250), ⟨(.type "code"), none, (.fields #[(.str "__init__" 480), (.str "PLazy.__init__" 481), (.str "/claim/cut.py" 482), (.int 72 0), (.int 3 0), (.int 0 0), (.int 0 0), (.int 3 0), (.ref 245), (.bool true), (.int 181 0), (.ref 246), .none, (.ref 247), (.ref 248), (.ref 249), (.int 486 0), (.int 72 0), (.str "/claim/cut.py" 487)]), #[]⟩) ::
  ((nat_lit 251), ⟨(.type "function"), none, (.func ⟨"__init__", "PLazy.__init__", (by refine' (?f52 : (x : Arguments) → fnA (nthS (clsB (nthS pwB 11)) 0) = x → Arguments) _ ?h52; (case h52 => walk_at "lit"); exact fun x _ => x), .stmts (by refine' (?f53 : (x : List Stmt) → fnB (nthS (clsB (nthS pwB 11)) 0) = x → List Stmt) _ ?h53; (case h53 => walk_at "lit"); exact fun x _ => x), (by refine' (?f54 : (x : Scope) → fnS (nthS (clsB (nthS pwB 11)) 0) = x → Scope) _ ?h54; (case h54 => walk_at "lit"); exact fun x _ => x), 3, [], (.ref 244), .none, .none, (.str "lazycore.pattern_nodes" 231), none, (.ref 250), .none, 0⟩), #[]⟩) ::
  ((nat_lit 252), ⟨(.type "tuple"), none, (.seq #[] 0), #[]⟩) ::
  ((nat_lit 254), ⟨(.type "tuple"), none, (.seq #[(.str "self" 492)] 0), #[]⟩) ::
  ((nat_lit 255), ⟨(.type "tuple"), none, (.seq #[] 0), #[]⟩) ::
  ((nat_lit 257), ⟨(.type "code"), none, (.fields #[(.str "row" 489), (.str "PLazy.row" 490), (.str "/claim/cut.py" 491), (.int 76 0), (.int 1 0), (.int 0 0), (.int 0 0), (.int 3 0), (.ref 252), (.bool true), (.int 181 0), (.ref 253), .none, (.ref 254), (.ref 255), (.ref 256), (.int 493 0), (.int 76 0), (.str "/claim/cut.py" 494)]), #[]⟩) ::
  ((nat_lit 258), ⟨(.type "function"), none, (.func ⟨"row", "PLazy.row", (by refine' (?f55 : (x : Arguments) → fnA (nthS (clsB (nthS pwB 11)) 1) = x → Arguments) _ ?h55; (case h55 => walk_at "lit"); exact fun x _ => x), .stmts (by refine' (?f56 : (x : List Stmt) → fnB (nthS (clsB (nthS pwB 11)) 1) = x → List Stmt) _ ?h56; (case h56 => walk_at "lit"); exact fun x _ => x), (by refine' (?f57 : (x : Scope) → fnS (nthS (clsB (nthS pwB 11)) 1) = x → Scope) _ ?h57; (case h57 => walk_at "lit"); exact fun x _ => x), 3, [], .none, .none, .none, (.str "lazycore.pattern_nodes" 231), none, (.ref 257), .none, 0⟩), #[]⟩) ::
  ((nat_lit 259), ⟨(.type "tuple"), none, (.seq #[(.str "pattern" 496)] 0), #[]⟩) ::
  ((nat_lit 260), ⟨(.type "dict"), none, (.dict #[⟨(PyData.keyHash P "__module__"), (.str "__module__" 475), (.str "lazycore.pattern_nodes" 231)⟩, ⟨(PyData.keyHash P "__firstlineno__"), (.str "__firstlineno__" 479), (.int 70 478)⟩, ⟨(PyData.keyHash P "__init__"), (.str "__init__" 488), (.ref 251)⟩, ⟨(PyData.keyHash P "row"), (.str "row" 495), (.ref 258)⟩, ⟨(PyData.keyHash P "__static_attributes__"), (.str "__static_attributes__" 497), (.ref 259)⟩, ⟨(PyData.keyHash P "__doc__"), (.str "__doc__" 498), .none⟩] 2), #[]⟩) ::
  ((nat_lit 261), ⟨(.type "type"), none, (.cls ⟨"PLazy", [(.ref 43)], [(.ref 261), (.ref 43), (.type "object")], 260, "PLazy", true, [], [], false, none, false⟩), #[(some (.ref 237)), none, (some (.str "PLazy" 468)), (some (.str "PLazy" 476)), (some (.builtin "object.__new__")), (some (.bool true))]⟩) ::
  ((nat_lit 264), ⟨(.type "tuple"), none, (.seq #[(.ref 43)] 0), #[]⟩) ::
  ((nat_lit 271), ⟨(.type "tuple"), none, (.seq #[.none] 0), #[]⟩) ::
  ((nat_lit 272), ⟨(.type "tuple"), none, (.seq #[] 0), #[]⟩) ::
  ((nat_lit 274), ⟨(.type "tuple"), none, (.seq #[(.str "self" 516), (.str "pattern" 517), (.str "place" 518)] 0), #[]⟩) ::
  ((nat_lit 275), ⟨(.type "tuple"), none, (.seq #[] 0), #[]⟩) ::
  ((nat_lit 277), ⟨(.type "code"), none, (.fields #[(.str "__init__" 513), (.str "PBang.__init__" 514), (.str "/claim/cut.py" 515), (.int 80 0), (.int 3 0), (.int 0 0), (.int 0 0), (.int 3 0), (.ref 272), (.bool true), (.int 181 0), (.ref 273), .none, (.ref 274), (.ref 275), (.ref 276), (.int 519 0), (.int 80 0), (.str "/claim/cut.py" 520)]), #[]⟩) ::
  ((nat_lit 278), ⟨(.type "function"), none, (.func ⟨"__init__", "PBang.__init__", (by refine' (?f58 : (x : Arguments) → fnA (nthS (clsB (nthS pwB 12)) 0) = x → Arguments) _ ?h58; (case h58 => walk_at "lit"); exact fun x _ => x), .stmts (by refine' (?f59 : (x : List Stmt) → fnB (nthS (clsB (nthS pwB 12)) 0) = x → List Stmt) _ ?h59; (case h59 => walk_at "lit"); exact fun x _ => x), (by refine' (?f60 : (x : Scope) → fnS (nthS (clsB (nthS pwB 12)) 0) = x → Scope) _ ?h60; (case h60 => walk_at "lit"); exact fun x _ => x), 3, [], (.ref 271), .none, .none, (.str "lazycore.pattern_nodes" 231), none, (.ref 277), .none, 0⟩), #[]⟩) ::
  ((nat_lit 279), ⟨(.type "tuple"), none, (.seq #[] 0), #[]⟩) ::
  ((nat_lit 281), ⟨(.type "tuple"), none, (.seq #[(.str "self" 525)] 0), #[]⟩) ::
  ((nat_lit 282), ⟨(.type "tuple"), none, (.seq #[] 0), #[]⟩) ::
  ((nat_lit 284), ⟨(.type "code"), none, (.fields #[(.str "row" 522), (.str "PBang.row" 523), (.str "/claim/cut.py" 524), (.int 84 0), (.int 1 0), (.int 0 0), (.int 0 0), (.int 3 0), (.ref 279), (.bool true), (.int 181 0), (.ref 280), .none, (.ref 281), (.ref 282), (.ref 283), (.int 526 0), (.int 84 0), (.str "/claim/cut.py" 527)]), #[]⟩) ::
  ((nat_lit 285), ⟨(.type "function"), none, (.func ⟨"row", "PBang.row", (by refine' (?f61 : (x : Arguments) → fnA (nthS (clsB (nthS pwB 12)) 1) = x → Arguments) _ ?h61; (case h61 => walk_at "lit"); exact fun x _ => x), .stmts (by refine' (?f62 : (x : List Stmt) → fnB (nthS (clsB (nthS pwB 12)) 1) = x → List Stmt) _ ?h62; (case h62 => walk_at "lit"); exact fun x _ => x), (by refine' (?f63 : (x : Scope) → fnS (nthS (clsB (nthS pwB 12)) 1) = x → Scope) _ ?h63; (case h63 => walk_at "lit"); exact fun x _ => x), 3, [], .none, .none, .none, (.str "lazycore.pattern_nodes" 231), none, (.ref 284), .none, 0⟩), #[]⟩) ::
  ((nat_lit 286), ⟨(.type "tuple"), none, (.seq #[(.str "pattern" 529)] 0), #[]⟩) ::
  ((nat_lit 287), ⟨(.type "dict"), none, (.dict #[⟨(PyData.keyHash P "__module__"), (.str "__module__" 508), (.str "lazycore.pattern_nodes" 231)⟩, ⟨(PyData.keyHash P "__firstlineno__"), (.str "__firstlineno__" 512), (.int 78 511)⟩, ⟨(PyData.keyHash P "__init__"), (.str "__init__" 521), (.ref 278)⟩, ⟨(PyData.keyHash P "row"), (.str "row" 528), (.ref 285)⟩, ⟨(PyData.keyHash P "__static_attributes__"), (.str "__static_attributes__" 530), (.ref 286)⟩, ⟨(PyData.keyHash P "__doc__"), (.str "__doc__" 531), .none⟩] 2), #[]⟩) ::
  ((nat_lit 288), ⟨(.type "type"), none, (.cls ⟨"PBang", [(.ref 43)], [(.ref 288), (.ref 43), (.type "object")], 287, "PBang", true, [], [], false, none, false⟩), #[(some (.ref 264)), none, (some (.str "PBang" 501)), (some (.str "PBang" 509)), (some (.builtin "object.__new__")), (some (.bool true))]⟩) ::
  ((nat_lit 291), ⟨(.type "dict"), none, (.dict #[⟨(PyData.keyHash P "[]"), (.str "[]" 536), (.int 0 542)⟩, ⟨(PyData.keyHash P ":"), (.str ":" 538), (.int 2 543)⟩, ⟨(PyData.keyHash P "()"), (.str "()" 540), (.int 0 544)⟩] 3), #[]⟩) ::
  ((nat_lit 292), ⟨(.type "tuple"), none, (.seq #[] 0), #[]⟩) ::
  ((nat_lit 294), ⟨(.type "tuple"), none, (.seq #[(.str "many" 552)] 0), #[]⟩) ::
  ((nat_lit 295), ⟨(.type "tuple"), none, (.seq #[] 0), #[]⟩) ::
  ((nat_lit 297), ⟨(.type "code"), none, (.fields #[(.str "tuple_name" 549), (.str "tuple_name" 550), (.str "/claim/cut.py" 551), (.int 91 0), (.int 1 0), (.int 0 0), (.int 0 0), (.int 3 0), (.ref 292), (.bool true), (.int 181 0), (.ref 293), .none, (.ref 294), (.ref 295), (.ref 296), (.int 553 0), (.int 91 0), (.str "/claim/cut.py" 554)]), #[]⟩) ::
  ((nat_lit 298), ⟨(.type "function"), none, (.func ⟨"tuple_name", "tuple_name", (by refine' (?f64 : (x : Arguments) → fnA (nthS pwB 18) = x → Arguments) _ ?h64; (case h64 => walk_at "lit"); exact fun x _ => x), .stmts (by refine' (?f65 : (x : List Stmt) → fnB (nthS pwB 18) = x → List Stmt) _ ?h65; (case h65 => walk_at "lit"); exact fun x _ => x), (by refine' (?f66 : (x : Scope) → fnS (nthS pwB 18) = x → Scope) _ ?h66; (case h66 => walk_at "lit"); exact fun x _ => x), 3, [], .none, .none, .none, (.str "lazycore.pattern_forms" 534), none, (.ref 297), .none, 0⟩), #[]⟩) ::
  ((nat_lit 299), ⟨(.type "tuple"), none, (.seq #[] 0), #[]⟩) ::
  ((nat_lit 301), ⟨(.type "tuple"), none, (.seq #[(.str "name" 559)] 0), #[]⟩) ::
  ((nat_lit 302), ⟨(.type "tuple"), none, (.seq #[] 0), #[]⟩) ::
  ((nat_lit 304), ⟨(.type "code"), none, (.fields #[(.str "is_tuple_name" 556), (.str "is_tuple_name" 557), (.str "/claim/cut.py" 558), (.int 93 0), (.int 1 0), (.int 0 0), (.int 0 0), (.int 3 0), (.ref 299), (.bool true), (.int 181 0), (.ref 300), .none, (.ref 301), (.ref 302), (.ref 303), (.int 560 0), (.int 93 0), (.str "/claim/cut.py" 561)]), #[]⟩) ::
  ((nat_lit 305), ⟨(.type "function"), none, (.func ⟨"is_tuple_name", "is_tuple_name", (by refine' (?f67 : (x : Arguments) → fnA (nthS pwB 19) = x → Arguments) _ ?h67; (case h67 => walk_at "lit"); exact fun x _ => x), .stmts (by refine' (?f68 : (x : List Stmt) → fnB (nthS pwB 19) = x → List Stmt) _ ?h68; (case h68 => walk_at "lit"); exact fun x _ => x), (by refine' (?f69 : (x : Scope) → fnS (nthS pwB 19) = x → Scope) _ ?h69; (case h69 => walk_at "lit"); exact fun x _ => x), 3, [], .none, .none, .none, (.str "lazycore.pattern_forms" 534), none, (.ref 304), .none, 0⟩), #[]⟩) ::
  ((nat_lit 306), ⟨(.type "tuple"), none, (.seq #[] 0), #[]⟩) ::
  ((nat_lit 308), ⟨(.type "tuple"), none, (.seq #[(.str "items" 566)] 0), #[]⟩) ::
  ((nat_lit 309), ⟨(.type "tuple"), none, (.seq #[] 0), #[]⟩) ::
  ((nat_lit 311), ⟨(.type "code"), none, (.fields #[(.str "listed" 563), (.str "listed" 564), (.str "/claim/cut.py" 565), (.int 95 0), (.int 1 0), (.int 0 0), (.int 0 0), (.int 3 0), (.ref 306), (.bool true), (.int 181 0), (.ref 307), .none, (.ref 308), (.ref 309), (.ref 310), (.int 567 0), (.int 95 0), (.str "/claim/cut.py" 568)]), #[]⟩) ::
  ((nat_lit 312), ⟨(.type "function"), none, (.func ⟨"listed", "listed", (by refine' (?f70 : (x : Arguments) → fnA (nthS pwB 20) = x → Arguments) _ ?h70; (case h70 => walk_at "lit"); exact fun x _ => x), .stmts (by refine' (?f71 : (x : List Stmt) → fnB (nthS pwB 20) = x → List Stmt) _ ?h71; (case h71 => walk_at "lit"); exact fun x _ => x), (by refine' (?f72 : (x : Scope) → fnS (nthS pwB 20) = x → Scope) _ ?h72; (case h72 => walk_at "lit"); exact fun x _ => x), 3, [], .none, .none, .none, (.str "lazycore.pattern_forms" 534), none, (.ref 311), .none, 0⟩), #[]⟩) ::
  ((nat_lit 313), ⟨(.type "tuple"), none, (.seq #[] 0), #[]⟩) ::
  ((nat_lit 315), ⟨(.type "tuple"), none, (.seq #[(.str "text" 573)] 0), #[]⟩) ::
  ((nat_lit 316), ⟨(.type "tuple"), none, (.seq #[] 0), #[]⟩) ::
  ((nat_lit 318), ⟨(.type "code"), none, (.fields #[(.str "lettered" 570), (.str "lettered" 571), (.str "/claim/cut.py" 572), (.int 97 0), (.int 1 0), (.int 0 0), (.int 0 0), (.int 3 0), (.ref 313), (.bool true), (.int 181 0), (.ref 314), .none, (.ref 315), (.ref 316), (.ref 317), (.int 574 0), (.int 97 0), (.str "/claim/cut.py" 575)]), #[]⟩) ::
  ((nat_lit 319), ⟨(.type "function"), none, (.func ⟨"lettered", "lettered", (by refine' (?f73 : (x : Arguments) → fnA (nthS pwB 21) = x → Arguments) _ ?h73; (case h73 => walk_at "lit"); exact fun x _ => x), .stmts (by refine' (?f74 : (x : List Stmt) → fnB (nthS pwB 21) = x → List Stmt) _ ?h74; (case h74 => walk_at "lit"); exact fun x _ => x), (by refine' (?f75 : (x : Scope) → fnS (nthS pwB 21) = x → Scope) _ ?h75; (case h75 => walk_at "lit"); exact fun x _ => x), 3, [], .none, .none, .none, (.str "lazycore.pattern_forms" 534), none, (.ref 318), .none, 0⟩), #[]⟩) ::
  ((nat_lit 320), ⟨(.type "tuple"), none, (.seq #[] 0), #[]⟩) ::
  ((nat_lit 322), ⟨(.type "tuple"), none, (.seq #[(.str "pattern" 580)] 0), #[]⟩) ::
  ((nat_lit 323), ⟨(.type "tuple"), none, (.seq #[] 0), #[]⟩) ::
  ((nat_lit 325), ⟨(.type "code"), none, (.fields #[(.str "spread" 577), (.str "spread" 578), (.str "/claim/cut.py" 579), (.int 101 0), (.int 1 0), (.int 0 0), (.int 0 0), (.int 3 0), (.ref 320), (.bool true), (.int 181 0), (.ref 321), .none, (.ref 322), (.ref 323), (.ref 324), (.int 581 0), (.int 101 0), (.str "/claim/cut.py" 582)]), #[]⟩) ::
  ((nat_lit 326), ⟨(.type "function"), none, (.func ⟨"spread", "spread", (by refine' (?f76 : (x : Arguments) → fnA (nthS pwB 22) = x → Arguments) _ ?h76; (case h76 => walk_at "lit"); exact fun x _ => x), .stmts (by refine' (?f77 : (x : List Stmt) → fnB (nthS pwB 22) = x → List Stmt) _ ?h77; (case h77 => walk_at "lit"); exact fun x _ => x), (by refine' (?f78 : (x : Scope) → fnS (nthS pwB 22) = x → Scope) _ ?h78; (case h78 => walk_at "lit"); exact fun x _ => x), 3, [], .none, .none, .none, (.str "lazycore.pattern_forms" 534), none, (.ref 325), .none, 0⟩), #[]⟩) ::
  ((nat_lit 334), ⟨(.type "tuple"), none, (.seq #[] 0), #[]⟩) ::
  ((nat_lit 336), ⟨(.type "tuple"), none, (.seq #[(.str "self" 599), (.str "cons" 600)] 0), #[]⟩) ::
  ((nat_lit 337), ⟨(.type "tuple"), none, (.seq #[] 0), #[]⟩) ::
  ((nat_lit 339), ⟨(.type "code"), none, (.fields #[(.str "__init__" 596), (.str "Constructors.__init__" 597), (.str "/claim/cut.py" 598), (.int 111 0), (.int 2 0), (.int 0 0), (.int 0 0), (.int 3 0), (.ref 334), (.bool true), (.int 181 0), (.ref 335), .none, (.ref 336), (.ref 337), (.ref 338), (.int 601 0), (.int 111 0), (.str "/claim/cut.py" 602)]), #[]⟩) ::
  ((nat_lit 340), ⟨(.type "function"), none, (.func ⟨"__init__", "Constructors.__init__", (by refine' (?f79 : (x : Arguments) → fnA (nthS (clsB (nthS pwB 23)) 0) = x → Arguments) _ ?h79; (case h79 => walk_at "lit"); exact fun x _ => x), .stmts (by refine' (?f80 : (x : List Stmt) → fnB (nthS (clsB (nthS pwB 23)) 0) = x → List Stmt) _ ?h80; (case h80 => walk_at "lit"); exact fun x _ => x), (by refine' (?f81 : (x : Scope) → fnS (nthS (clsB (nthS pwB 23)) 0) = x → Scope) _ ?h81; (case h81 => walk_at "lit"); exact fun x _ => x), 3, [], .none, .none, .none, (.str "lazycore.pattern_forms" 534), none, (.ref 339), .none, 0⟩), #[]⟩) ::
  ((nat_lit 341), ⟨(.type "tuple"), none, (.seq #[] 0), #[]⟩) ::
  ((nat_lit 343), ⟨(.type "tuple"), none, (.seq #[(.str "self" 607), (.str "name" 608)] 0), #[]⟩) ::
  ((nat_lit 344), ⟨(.type "tuple"), none, (.seq #[] 0), #[]⟩) ::
  ((nat_lit 346), ⟨(.type "code"), none, (.fields #[(.str "arity" 604), (.str "Constructors.arity" 605), (.str "/claim/cut.py" 606), (.int 114 0), (.int 2 0), (.int 0 0), (.int 0 0), (.int 3 0), (.ref 341), (.bool true), (.int 181 0), (.ref 342), .none, (.ref 343), (.ref 344), (.ref 345), (.int 609 0), (.int 114 0), (.str "/claim/cut.py" 610)]), #[]⟩) ::
  ((nat_lit 347), ⟨(.type "function"), none, (.func ⟨"arity", "Constructors.arity", (by refine' (?f82 : (x : Arguments) → fnA (nthS (clsB (nthS pwB 23)) 1) = x → Arguments) _ ?h82; (case h82 => walk_at "lit"); exact fun x _ => x), .stmts (by refine' (?f83 : (x : List Stmt) → fnB (nthS (clsB (nthS pwB 23)) 1) = x → List Stmt) _ ?h83; (case h83 => walk_at "lit"); exact fun x _ => x), (by refine' (?f84 : (x : Scope) → fnS (nthS (clsB (nthS pwB 23)) 1) = x → Scope) _ ?h84; (case h84 => walk_at "lit"); exact fun x _ => x), 3, [], .none, .none, .none, (.str "lazycore.pattern_forms" 534), none, (.ref 346), .none, 0⟩), #[]⟩) ::
  ((nat_lit 348), ⟨(.type "tuple"), none, (.seq #[] 0), #[]⟩) ::
  ((nat_lit 350), ⟨(.type "tuple"), none, (.seq #[(.str "self" 615), (.str "name" 616)] 0), #[]⟩) ::
  ((nat_lit 351), ⟨(.type "tuple"), none, (.seq #[] 0), #[]⟩) ::
  ((nat_lit 353), ⟨(.type "code"), none, (.fields #[(.str "is_newtype" 612), (.str "Constructors.is_newtype" 613), (.str "/claim/cut.py" 614), (.int 119 0), (.int 2 0), (.int 0 0), (.int 0 0), (.int 3 0), (.ref 348), (.bool true), (.int 181 0), (.ref 349), .none, (.ref 350), (.ref 351), (.ref 352), (.int 617 0), (.int 119 0), (.str "/claim/cut.py" 618)]), #[]⟩) ::
  ((nat_lit 354), ⟨(.type "function"), none, (.func ⟨"is_newtype", "Constructors.is_newtype", (by refine' (?f85 : (x : Arguments) → fnA (nthS (clsB (nthS pwB 23)) 2) = x → Arguments) _ ?h85; (case h85 => walk_at "lit"); exact fun x _ => x), .stmts (by refine' (?f86 : (x : List Stmt) → fnB (nthS (clsB (nthS pwB 23)) 2) = x → List Stmt) _ ?h86; (case h86 => walk_at "lit"); exact fun x _ => x), (by refine' (?f87 : (x : Scope) → fnS (nthS (clsB (nthS pwB 23)) 2) = x → Scope) _ ?h87; (case h87 => walk_at "lit"); exact fun x _ => x), 3, [], .none, .none, .none, (.str "lazycore.pattern_forms" 534), none, (.ref 353), .none, 0⟩), #[]⟩) ::
  ((nat_lit 355), ⟨(.type "tuple"), none, (.seq #[] 0), #[]⟩) ::
  ((nat_lit 358), ⟨(.type "code"), none, (.fields #[(.str "siblings" 620), (.str "Constructors.siblings" 621), (.str "/claim/cut.py" 622), (.int 122 0), (.int 2 0), (.int 0 0), (.int 0 0), (.int 3 0), (.ref 355), (.bool true), (.int 181 0), (.ref 356), .none, .none, .none, (.ref 357), (.int 623 0), (.int 122 0), (.str "/claim/cut.py" 624)]), #[]⟩) ::
  ((nat_lit 359), ⟨(.type "function"), none, (.func ⟨"siblings", "Constructors.siblings", (by refine' (?f88 : (x : Arguments) → fnA (nthS (clsB (nthS pwB 23)) 3) = x → Arguments) _ ?h88; (case h88 => walk_at "lit"); exact fun x _ => x), .stmts (by refine' (?f89 : (x : List Stmt) → fnB (nthS (clsB (nthS pwB 23)) 3) = x → List Stmt) _ ?h89; (case h89 => walk_at "lit"); exact fun x _ => x), (by refine' (?f90 : (x : Scope) → fnS (nthS (clsB (nthS pwB 23)) 3) = x → Scope) _ ?h90; (case h90 => walk_at "lit"); exact fun x _ => x), 3, [], .none, .none, .none, (.str "lazycore.pattern_forms" 534), none, (.ref 358), .none, 0⟩), #[]⟩) ::
  ((nat_lit 360), ⟨(.type "tuple"), none, (.seq #[(.str "cons" 626)] 0), #[]⟩) ::
  ((nat_lit 361), ⟨(.type "dict"), none, (.dict #[⟨(PyData.keyHash P "__module__"), (.str "__module__" 591), (.str "lazycore.pattern_forms" 534)⟩, ⟨(PyData.keyHash P "__firstlineno__"), (.str "__firstlineno__" 595), (.int 109 594)⟩, ⟨(PyData.keyHash P "__init__"), (.str "__init__" 603), (.ref 340)⟩, ⟨(PyData.keyHash P "arity"), (.str "arity" 611), (.ref 347)⟩, ⟨(PyData.keyHash P "is_newtype"), (.str "is_newtype" 619), (.ref 354)⟩, ⟨(PyData.keyHash P "siblings"), (.str "siblings" 625), (.ref 359)⟩, ⟨(PyData.keyHash P "__static_attributes__"), (.str "__static_attributes__" 627), (.ref 360)⟩, ⟨(PyData.keyHash P "__dict__"), (.str "__dict__" 629), (.ref 363)⟩, ⟨(PyData.keyHash P "__weakref__"), (.str "__weakref__" 631), (.ref 364)⟩, ⟨(PyData.keyHash P "__doc__"), (.str "__doc__" 632), .none⟩] 4), #[]⟩) ::
  ((nat_lit 362), ⟨(.type "type"), none, (.cls ⟨"Constructors", [(.type "object")], [(.ref 362), (.type "object")], 361, "Constructors", true, [], [], false, none, false⟩), #[none, none, (some (.str "Constructors" 584)), (some (.str "Constructors" 592)), (some (.builtin "object.__new__")), (some (.bool true))]⟩) ::
  ((nat_lit 363), ⟨(.type "getset_descriptor"), none, (.fields #[(.str "__dict__" 628), (.ref 362), (.builtin "function.__dict__"), (.builtin "function.__dict__#set")]), #[]⟩) ::
  ((nat_lit 364), ⟨(.type "getset_descriptor"), none, (.fields #[(.str "__weakref__" 630), (.ref 362), (.builtin "ExceptionGroup.__weakref__"), .none]), #[]⟩) ::
  ((nat_lit 367), ⟨(.type "tuple"), none, (.seq #[] 0), #[]⟩) ::
  ((nat_lit 369), ⟨(.type "tuple"), none, (.seq #[(.str "pattern" 642)] 0), #[]⟩) ::
  ((nat_lit 370), ⟨(.type "tuple"), none, (.seq #[] 0), #[]⟩) ::
  ((nat_lit 372), ⟨(.type "code"), none, (.fields #[(.str "looked_at" 639), (.str "looked_at" 640), (.str "/claim/cut.py" 641), (.int 132 0), (.int 1 0), (.int 0 0), (.int 0 0), (.int 3 0), (.ref 367), (.bool true), (.int 181 0), (.ref 368), .none, (.ref 369), (.ref 370), (.ref 371), (.int 643 0), (.int 132 0), (.str "/claim/cut.py" 644)]), #[]⟩) ::
  ((nat_lit 373), ⟨(.type "function"), none, (.func ⟨"looked_at", "looked_at", (by refine' (?f91 : (x : Arguments) → fnA (nthS pwB 26) = x → Arguments) _ ?h91; (case h91 => walk_at "lit"); exact fun x _ => x), .stmts (by refine' (?f92 : (x : List Stmt) → fnB (nthS pwB 26) = x → List Stmt) _ ?h92; (case h92 => walk_at "lit"); exact fun x _ => x), (by refine' (?f93 : (x : Scope) → fnS (nthS pwB 26) = x → Scope) _ ?h93; (case h93 => walk_at "lit"); exact fun x _ => x), 3, [], .none, .none, .none, (.str "lazycore.unmatched" 635), none, (.ref 372), .none, 0⟩), #[]⟩) ::
  ((nat_lit 374), ⟨(.type "tuple"), none, (.seq #[] 0), #[]⟩) ::
  ((nat_lit 376), ⟨(.type "tuple"), none, (.seq #[(.str "pattern" 649), (.str "kind" 650), (.str "value" 651)] 0), #[]⟩) ::
  ((nat_lit 377), ⟨(.type "tuple"), none, (.seq #[] 0), #[]⟩) ::
  ((nat_lit 379), ⟨(.type "code"), none, (.fields #[(.str "is_literal" 646), (.str "is_literal" 647), (.str "/claim/cut.py" 648), (.int 138 0), (.int 3 0), (.int 0 0), (.int 0 0), (.int 3 0), (.ref 374), (.bool true), (.int 181 0), (.ref 375), .none, (.ref 376), (.ref 377), (.ref 378), (.int 652 0), (.int 138 0), (.str "/claim/cut.py" 653)]), #[]⟩) ::
  ((nat_lit 380), ⟨(.type "function"), none, (.func ⟨"is_literal", "is_literal", (by refine' (?f94 : (x : Arguments) → fnA (nthS pwB 27) = x → Arguments) _ ?h94; (case h94 => walk_at "lit"); exact fun x _ => x), .stmts (by refine' (?f95 : (x : List Stmt) → fnB (nthS pwB 27) = x → List Stmt) _ ?h95; (case h95 => walk_at "lit"); exact fun x _ => x), (by refine' (?f96 : (x : Scope) → fnS (nthS pwB 27) = x → Scope) _ ?h96; (case h96 => walk_at "lit"); exact fun x _ => x), 3, [], .none, .none, .none, (.str "lazycore.unmatched" 635), none, (.ref 379), .none, 0⟩), #[]⟩) ::
  ((nat_lit 381), ⟨(.type "tuple"), none, (.seq #[] 0), #[]⟩) ::
  ((nat_lit 384), ⟨(.type "code"), none, (.fields #[(.str "lines_of" 655), (.str "lines_of" 656), (.str "/claim/cut.py" 657), (.int 140 0), (.int 1 0), (.int 0 0), (.int 0 0), (.int 3 0), (.ref 381), (.bool true), (.int 181 0), (.ref 382), .none, .none, .none, (.ref 383), (.int 658 0), (.int 140 0), (.str "/claim/cut.py" 659)]), #[]⟩) ::
  ((nat_lit 385), ⟨(.type "function"), none, (.func ⟨"lines_of", "lines_of", (by refine' (?f97 : (x : Arguments) → fnA (nthS pwB 28) = x → Arguments) _ ?h97; (case h97 => walk_at "lit"); exact fun x _ => x), .stmts (by refine' (?f98 : (x : List Stmt) → fnB (nthS pwB 28) = x → List Stmt) _ ?h98; (case h98 => walk_at "lit"); exact fun x _ => x), (by refine' (?f99 : (x : Scope) → fnS (nthS pwB 28) = x → Scope) _ ?h99; (case h99 => walk_at "lit"); exact fun x _ => x), 3, [], .none, .none, .none, (.str "lazycore.unmatched" 635), none, (.ref 384), .none, 0⟩), #[]⟩) ::
  ((nat_lit 386), ⟨(.type "tuple"), none, (.seq #[] 0), #[]⟩) ::
  ((nat_lit 389), ⟨(.type "code"), none, (.fields #[(.str "with_con" 661), (.str "with_con" 662), (.str "/claim/cut.py" 663), (.int 142 0), (.int 3 0), (.int 0 0), (.int 0 0), (.int 3 0), (.ref 386), (.bool true), (.int 181 0), (.ref 387), .none, .none, .none, (.ref 388), (.int 664 0), (.int 142 0), (.str "/claim/cut.py" 665)]), #[]⟩) ::
  ((nat_lit 390), ⟨(.type "function"), none, (.func ⟨"with_con", "with_con", (by refine' (?f100 : (x : Arguments) → fnA (nthS pwB 29) = x → Arguments) _ ?h100; (case h100 => walk_at "lit"); exact fun x _ => x), .stmts (by refine' (?f101 : (x : List Stmt) → fnB (nthS pwB 29) = x → List Stmt) _ ?h101; (case h101 => walk_at "lit"); exact fun x _ => x), (by refine' (?f102 : (x : Scope) → fnS (nthS pwB 29) = x → Scope) _ ?h102; (case h102 => walk_at "lit"); exact fun x _ => x), 3, [], .none, .none, .none, (.str "lazycore.unmatched" 635), none, (.ref 389), .none, 0⟩), #[]⟩) ::
  ((nat_lit 391), ⟨(.type "tuple"), none, (.seq #[] 0), #[]⟩) ::
  ((nat_lit 394), ⟨(.type "code"), none, (.fields #[(.str "with_literal" 667), (.str "with_literal" 668), (.str "/claim/cut.py" 669), (.int 150 0), (.int 3 0), (.int 0 0), (.int 0 0), (.int 3 0), (.ref 391), (.bool true), (.int 181 0), (.ref 392), .none, .none, .none, (.ref 393), (.int 670 0), (.int 150 0), (.str "/claim/cut.py" 671)]), #[]⟩) ::
  ((nat_lit 395), ⟨(.type "function"), none, (.func ⟨"with_literal", "with_literal", (by refine' (?f103 : (x : Arguments) → fnA (nthS pwB 30) = x → Arguments) _ ?h103; (case h103 => walk_at "lit"); exact fun x _ => x), .stmts (by refine' (?f104 : (x : List Stmt) → fnB (nthS pwB 30) = x → List Stmt) _ ?h104; (case h104 => walk_at "lit"); exact fun x _ => x), (by refine' (?f105 : (x : Scope) → fnS (nthS pwB 30) = x → Scope) _ ?h105; (case h105 => walk_at "lit"); exact fun x _ => x), 3, [], .none, .none, .none, (.str "lazycore.unmatched" 635), none, (.ref 394), .none, 0⟩), #[]⟩) ::
  ((nat_lit 396), ⟨(.type "tuple"), none, (.seq #[] 0), #[]⟩) ::
  ((nat_lit 399), ⟨(.type "code"), none, (.fields #[(.str "with_any" 673), (.str "with_any" 674), (.str "/claim/cut.py" 675), (.int 152 0), (.int 1 0), (.int 0 0), (.int 0 0), (.int 3 0), (.ref 396), (.bool true), (.int 181 0), (.ref 397), .none, .none, .none, (.ref 398), (.int 676 0), (.int 152 0), (.str "/claim/cut.py" 677)]), #[]⟩) ::
  ((nat_lit 400), ⟨(.type "function"), none, (.func ⟨"with_any", "with_any", (by refine' (?f106 : (x : Arguments) → fnA (nthS pwB 31) = x → Arguments) _ ?h106; (case h106 => walk_at "lit"); exact fun x _ => x), .stmts (by refine' (?f107 : (x : List Stmt) → fnB (nthS pwB 31) = x → List Stmt) _ ?h107; (case h107 => walk_at "lit"); exact fun x _ => x), (by refine' (?f108 : (x : Scope) → fnS (nthS pwB 31) = x → Scope) _ ?h108; (case h108 => walk_at "lit"); exact fun x _ => x), 3, [], .none, .none, .none, (.str "lazycore.unmatched" 635), none, (.ref 399), .none, 0⟩), #[]⟩) ::
  ((nat_lit 401), ⟨(.type "tuple"), none, (.seq #[] 0), #[]⟩) ::
  ((nat_lit 403), ⟨(.type "tuple"), none, (.seq #[(.str "rows" 682), (.str "found" 683), (.str "row" 684)] 0), #[]⟩) ::
  ((nat_lit 404), ⟨(.type "tuple"), none, (.seq #[] 0), #[]⟩) ::
  ((nat_lit 406), ⟨(.type "code"), none, (.fields #[(.str "heads_of" 679), (.str "heads_of" 680), (.str "/claim/cut.py" 681), (.int 154 0), (.int 1 0), (.int 0 0), (.int 0 0), (.int 3 0), (.ref 401), (.bool true), (.int 181 0), (.ref 402), .none, (.ref 403), (.ref 404), (.ref 405), (.int 685 0), (.int 154 0), (.str "/claim/cut.py" 686)]), #[]⟩) ::
  ((nat_lit 407), ⟨(.type "function"), none, (.func ⟨"heads_of", "heads_of", (by refine' (?f109 : (x : Arguments) → fnA (nthS pwB 32) = x → Arguments) _ ?h109; (case h109 => walk_at "lit"); exact fun x _ => x), .stmts (by refine' (?f110 : (x : List Stmt) → fnB (nthS pwB 32) = x → List Stmt) _ ?h110; (case h110 => walk_at "lit"); exact fun x _ => x), (by refine' (?f111 : (x : Scope) → fnS (nthS pwB 32) = x → Scope) _ ?h111; (case h111 => walk_at "lit"); exact fun x _ => x), 3, [], .none, .none, .none, (.str "lazycore.unmatched" 635), none, (.ref 406), .none, 0⟩), #[]⟩) ::
  ((nat_lit 408), ⟨(.type "tuple"), none, (.seq #[] 0), #[]⟩) ::
  ((nat_lit 411), ⟨(.type "code"), none, (.fields #[(.str "other_literal" 688), (.str "other_literal" 689), (.str "/claim/cut.py" 690), (.int 160 0), (.int 1 0), (.int 0 0), (.int 0 0), (.int 3 0), (.ref 408), (.bool true), (.int 181 0), (.ref 409), .none, .none, .none, (.ref 410), (.int 691 0), (.int 160 0), (.str "/claim/cut.py" 692)]), #[]⟩) ::
  ((nat_lit 412), ⟨(.type "function"), none, (.func ⟨"other_literal", "other_literal", (by refine' (?f112 : (x : Arguments) → fnA (nthS pwB 33) = x → Arguments) _ ?h112; (case h112 => walk_at "lit"); exact fun x _ => x), .stmts (by refine' (?f113 : (x : List Stmt) → fnB (nthS pwB 33) = x → List Stmt) _ ?h113; (case h113 => walk_at "lit"); exact fun x _ => x), (by refine' (?f114 : (x : Scope) → fnS (nthS pwB 33) = x → Scope) _ ?h114; (case h114 => walk_at "lit"); exact fun x _ => x), 3, [], .none, .none, .none, (.str "lazycore.unmatched" 635), none, (.ref 411), .none, 0⟩), #[]⟩) ::
  ((nat_lit 420), ⟨(.type "tuple"), none, (.seq #[] 0), #[]⟩) ::
  ((nat_lit 422), ⟨(.type "tuple"), none, (.seq #[(.str "self" 709), (.str "known" 710)] 0), #[]⟩) ::
  ((nat_lit 423), ⟨(.type "tuple"), none, (.seq #[] 0), #[]⟩) ::
  ((nat_lit 425), ⟨(.type "code"), none, (.fields #[(.str "__init__" 706), (.str "Watcher.__init__" 707), (.str "/claim/cut.py" 708), (.int 174 0), (.int 2 0), (.int 0 0), (.int 0 0), (.int 3 0), (.ref 420), (.bool true), (.int 181 0), (.ref 421), .none, (.ref 422), (.ref 423), (.ref 424), (.int 711 0), (.int 174 0), (.str "/claim/cut.py" 712)]), #[]⟩) ::
  ((nat_lit 426), ⟨(.type "function"), none, (.func ⟨"__init__", "Watcher.__init__", (by refine' (?f115 : (x : Arguments) → fnA (nthS (clsB (nthS pwB 34)) 0) = x → Arguments) _ ?h115; (case h115 => walk_at "lit"); exact fun x _ => x), .stmts (by refine' (?f116 : (x : List Stmt) → fnB (nthS (clsB (nthS pwB 34)) 0) = x → List Stmt) _ ?h116; (case h116 => walk_at "lit"); exact fun x _ => x), (by refine' (?f117 : (x : Scope) → fnS (nthS (clsB (nthS pwB 34)) 0) = x → Scope) _ ?h117; (case h117 => walk_at "lit"); exact fun x _ => x), 3, [], .none, .none, .none, (.str "lazycore.unmatched" 635), none, (.ref 425), .none, 0⟩), #[]⟩) ::
  ((nat_lit 427), ⟨(.type "tuple"), none, (.seq #[] 0), #[]⟩) ::
  ((nat_lit 429), ⟨(.type "tuple"), none, (.seq #[(.str "self" 717), (.str "rows" 718), (.str "many" 719), (.str "lines" 720), (.str "heads" 721), (.str "rest" 722)] 0), #[]⟩) ::
  ((nat_lit 430), ⟨(.type "tuple"), none, (.seq #[] 0), #[]⟩) ::
  ((nat_lit 432), ⟨(.type "code"), none, (.fields #[(.str "missing" 714), (.str "Watcher.missing" 715), (.str "/claim/cut.py" 716), (.int 177 0), (.int 3 0), (.int 0 0), (.int 0 0), (.int 3 0), (.ref 427), (.bool true), (.int 181 0), (.ref 428), .none, (.ref 429), (.ref 430), (.ref 431), (.int 723 0), (.int 177 0), (.str "/claim/cut.py" 724)]), #[]⟩) ::
  ((nat_lit 433), ⟨(.type "function"), none, (.func ⟨"missing", "Watcher.missing", (by refine' (?f118 : (x : Arguments) → fnA (nthS (clsB (nthS pwB 34)) 1) = x → Arguments) _ ?h118; (case h118 => walk_at "lit"); exact fun x _ => x), .stmts (by refine' (?f119 : (x : List Stmt) → fnB (nthS (clsB (nthS pwB 34)) 1) = x → List Stmt) _ ?h119; (case h119 => walk_at "lit"); exact fun x _ => x), (by refine' (?f120 : (x : Scope) → fnS (nthS (clsB (nthS pwB 34)) 1) = x → Scope) _ ?h120; (case h120 => walk_at "lit"); exact fun x _ => x), 3, [], .none, .none, .none, (.str "lazycore.unmatched" 635), none, (.ref 432), .none, 0⟩), #[]⟩) ::
  ((nat_lit 434), ⟨(.type "tuple"), none, (.seq #[] 0), #[]⟩) ::
  ((nat_lit 436), ⟨(.type "tuple"), none, (.seq #[(.str "self" 729), (.str "lines" 730), (.str "many" 731), (.str "names" 732), (.str "name" 733), (.str "size" 734), (.str "found" 735)] 0), #[]⟩) ::
  ((nat_lit 437), ⟨(.type "tuple"), none, (.seq #[] 0), #[]⟩) ::
  ((nat_lit 439), ⟨(.type "code"), none, (.fields #[(.str "missing_by_con" 726), (.str "Watcher.missing_by_con" 727), (.str "/claim/cut.py" 728), (.int 187 0), (.int 4 0), (.int 0 0), (.int 0 0), (.int 3 0), (.ref 434), (.bool true), (.int 181 0), (.ref 435), .none, (.ref 436), (.ref 437), (.ref 438), (.int 736 0), (.int 187 0), (.str "/claim/cut.py" 737)]), #[]⟩) ::
  ((nat_lit 440), ⟨(.type "function"), none, (.func ⟨"missing_by_con", "Watcher.missing_by_con", (by refine' (?f121 : (x : Arguments) → fnA (nthS (clsB (nthS pwB 34)) 2) = x → Arguments) _ ?h121; (case h121 => walk_at "lit"); exact fun x _ => x), .stmts (by refine' (?f122 : (x : List Stmt) → fnB (nthS (clsB (nthS pwB 34)) 2) = x → List Stmt) _ ?h122; (case h122 => walk_at "lit"); exact fun x _ => x), (by refine' (?f123 : (x : Scope) → fnS (nthS (clsB (nthS pwB 34)) 2) = x → Scope) _ ?h123; (case h123 => walk_at "lit"); exact fun x _ => x), 3, [], .none, .none, .none, (.str "lazycore.unmatched" 635), none, (.ref 439), .none, 0⟩), #[]⟩) ::
  ((nat_lit 441), ⟨(.type "tuple"), none, (.seq #[] 0), #[]⟩) ::
  ((nat_lit 444), ⟨(.type "code"), none, (.fields #[(.str "not_told" 739), (.str "Watcher.not_told" 740), (.str "/claim/cut.py" 741), (.int 195 0), (.int 3 0), (.int 0 0), (.int 0 0), (.int 3 0), (.ref 441), (.bool true), (.int 181 0), (.ref 442), .none, .none, .none, (.ref 443), (.int 742 0), (.int 195 0), (.str "/claim/cut.py" 743)]), #[]⟩) ::
  ((nat_lit 445), ⟨(.type "function"), none, (.func ⟨"not_told", "Watcher.not_told", (by refine' (?f124 : (x : Arguments) → fnA (nthS (clsB (nthS pwB 34)) 3) = x → Arguments) _ ?h124; (case h124 => walk_at "lit"); exact fun x _ => x), .stmts (by refine' (?f125 : (x : List Stmt) → fnB (nthS (clsB (nthS pwB 34)) 3) = x → List Stmt) _ ?h125; (case h125 => walk_at "lit"); exact fun x _ => x), (by refine' (?f126 : (x : Scope) → fnS (nthS (clsB (nthS pwB 34)) 3) = x → Scope) _ ?h126; (case h126 => walk_at "lit"); exact fun x _ => x), 3, [], .none, .none, .none, (.str "lazycore.unmatched" 635), none, (.ref 444), .none, 0⟩), #[]⟩) ::
  ((nat_lit 446), ⟨(.type "tuple"), none, (.seq #[] 0), #[]⟩) ::
  ((nat_lit 448), ⟨(.type "tuple"), none, (.seq #[(.str "self" 748), (.str "rows" 749), (.str "row" 750), (.str "lines" 751), (.str "line" 752), (.str "first" 753), (.str "size" 754), (.str "heads" 755), (.str "name" 756)] 0), #[]⟩) ::
  ((nat_lit 449), ⟨(.type "tuple"), none, (.seq #[] 0), #[]⟩) ::
  ((nat_lit 451), ⟨(.type "code"), none, (.fields #[(.str "is_reached" 745), (.str "Watcher.is_reached" 746), (.str "/claim/cut.py" 747), (.int 204 0), (.int 3 0), (.int 0 0), (.int 0 0), (.int 3 0), (.ref 446), (.bool true), (.int 181 0), (.ref 447), .none, (.ref 448), (.ref 449), (.ref 450), (.int 757 0), (.int 204 0), (.str "/claim/cut.py" 758)]), #[]⟩) ::
  ((nat_lit 452), ⟨(.type "function"), none, (.func ⟨"is_reached", "Watcher.is_reached", (by refine' (?f127 : (x : Arguments) → fnA (nthS (clsB (nthS pwB 34)) 4) = x → Arguments) _ ?h127; (case h127 => walk_at "lit"); exact fun x _ => x), .stmts (by refine' (?f128 : (x : List Stmt) → fnB (nthS (clsB (nthS pwB 34)) 4) = x → List Stmt) _ ?h128; (case h128 => walk_at "lit"); exact fun x _ => x), (by refine' (?f129 : (x : Scope) → fnS (nthS (clsB (nthS pwB 34)) 4) = x → Scope) _ ?h129; (case h129 => walk_at "lit"); exact fun x _ => x), 3, [], .none, .none, .none, (.str "lazycore.unmatched" 635), none, (.ref 451), .none, 0⟩), #[]⟩) ::
  ((nat_lit 453), ⟨(.type "tuple"), none, (.seq #[(.str "known" 760)] 0), #[]⟩) ::
  ((nat_lit 454), ⟨(.type "dict"), none, (.dict #[⟨(PyData.keyHash P "__module__"), (.str "__module__" 701), (.str "lazycore.unmatched" 635)⟩, ⟨(PyData.keyHash P "__firstlineno__"), (.str "__firstlineno__" 705), (.int 172 704)⟩, ⟨(PyData.keyHash P "__init__"), (.str "__init__" 713), (.ref 426)⟩, ⟨(PyData.keyHash P "missing"), (.str "missing" 725), (.ref 433)⟩, ⟨(PyData.keyHash P "missing_by_con"), (.str "missing_by_con" 738), (.ref 440)⟩, ⟨(PyData.keyHash P "not_told"), (.str "not_told" 744), (.ref 445)⟩, ⟨(PyData.keyHash P "is_reached"), (.str "is_reached" 759), (.ref 452)⟩, ⟨(PyData.keyHash P "__static_attributes__"), (.str "__static_attributes__" 761), (.ref 453)⟩, ⟨(PyData.keyHash P "__dict__"), (.str "__dict__" 763), (.ref 456)⟩, ⟨(PyData.keyHash P "__weakref__"), (.str "__weakref__" 765), (.ref 457)⟩, ⟨(PyData.keyHash P "__doc__"), (.str "__doc__" 766), .none⟩] 4), #[]⟩) ::
  ((nat_lit 455), ⟨(.type "type"), none, (.cls ⟨"Watcher", [(.type "object")], [(.ref 455), (.type "object")], 454, "Watcher", true, [], [], false, none, false⟩), #[none, none, (some (.str "Watcher" 694)), (some (.str "Watcher" 702)), (some (.builtin "object.__new__")), (some (.bool true))]⟩) ::
  ((nat_lit 456), ⟨(.type "getset_descriptor"), none, (.fields #[(.str "__dict__" 762), (.ref 455), (.builtin "function.__dict__"), (.builtin "function.__dict__#set")]), #[]⟩) ::
  ((nat_lit 457), ⟨(.type "getset_descriptor"), none, (.fields #[(.str "__weakref__" 764), (.ref 455), (.builtin "ExceptionGroup.__weakref__"), .none]), #[]⟩) ::
  ((nat_lit 460), ⟨(.type "tuple"), none, (.seq #[] 0), #[]⟩) ::
  ((nat_lit 463), ⟨(.type "code"), none, (.fields #[(.str "unmatched" 769), (.str "unmatched" 770), (.str "/claim/cut.py" 771), (.int 222 0), (.int 2 0), (.int 0 0), (.int 0 0), (.int 3 0), (.ref 460), (.bool true), (.int 181 0), (.ref 461), .none, .none, .none, (.ref 462), (.int 772 0), (.int 222 0), (.str "/claim/cut.py" 773)]), #[]⟩) ::
  ((nat_lit 464), ⟨(.type "function"), none, (.func ⟨"unmatched", "unmatched", (by refine' (?f130 : (x : Arguments) → fnA (nthS pwB 35) = x → Arguments) _ ?h130; (case h130 => walk_at "lit"); exact fun x _ => x), .stmts (by refine' (?f131 : (x : List Stmt) → fnB (nthS pwB 35) = x → List Stmt) _ ?h131; (case h131 => walk_at "lit"); exact fun x _ => x), (by refine' (?f132 : (x : Scope) → fnS (nthS pwB 35) = x → Scope) _ ?h132; (case h132 => walk_at "lit"); exact fun x _ => x), 3, [], .none, .none, .none, (.str "lazycore.unmatched" 635), none, (.ref 463), .none, 0⟩), #[]⟩) ::
  ((nat_lit 465), ⟨(.type "tuple"), none, (.seq #[] 0), #[]⟩) ::
  ((nat_lit 468), ⟨(.type "code"), none, (.fields #[(.str "useless" 775), (.str "useless" 776), (.str "/claim/cut.py" 777), (.int 226 0), (.int 2 0), (.int 0 0), (.int 0 0), (.int 3 0), (.ref 465), (.bool true), (.int 181 0), (.ref 466), .none, .none, .none, (.ref 467), (.int 778 0), (.int 226 0), (.str "/claim/cut.py" 779)]), #[]⟩) ::
  ((nat_lit 469), ⟨(.type "function"), none, (.func ⟨"useless", "useless", (by refine' (?f133 : (x : Arguments) → fnA (nthS pwB 36) = x → Arguments) _ ?h133; (case h133 => walk_at "lit"); exact fun x _ => x), .stmts (by refine' (?f134 : (x : List Stmt) → fnB (nthS pwB 36) = x → List Stmt) _ ?h134; (case h134 => walk_at "lit"); exact fun x _ => x), (by refine' (?f135 : (x : Scope) → fnS (nthS pwB 36) = x → Scope) _ ?h135; (case h135 => walk_at "lit"); exact fun x _ => x), 3, [], .none, .none, .none, (.str "lazycore.unmatched" 635), none, (.ref 468), .none, 0⟩), #[]⟩) ::
  ((nat_lit 477), ⟨(.type "tuple"), none, (.seq #[] 0), #[]⟩) ::
  ((nat_lit 479), ⟨(.type "tuple"), none, (.seq #[(.str "self" 798), (.str "name" 799), (.str "tag" 800), (.str "arity" 801), (.str "stricts" 802), (.str "type_name" 803), (.str "scheme" 804), (.str "siblings" 805), (.str "is_newtype" 806)] 0), #[]⟩) ::
  ((nat_lit 480), ⟨(.type "tuple"), none, (.seq #[] 0), #[]⟩) ::
  ((nat_lit 482), ⟨(.type "code"), none, (.fields #[(.str "__init__" 795), (.str "ConInfo.__init__" 796), (.str "/claim/cut.py" 797), (.int 235 0), (.int 9 0), (.int 0 0), (.int 0 0), (.int 3 0), (.ref 477), (.bool true), (.int 181 0), (.ref 478), .none, (.ref 479), (.ref 480), (.ref 481), (.int 807 0), (.int 235 0), (.str "/claim/cut.py" 808)]), #[]⟩) ::
  ((nat_lit 483), ⟨(.type "function"), none, (.func ⟨"__init__", "ConInfo.__init__", (by refine' (?f136 : (x : Arguments) → fnA (nthS (clsB (nthS pwB 38)) 0) = x → Arguments) _ ?h136; (case h136 => walk_at "lit"); exact fun x _ => x), .stmts (by refine' (?f137 : (x : List Stmt) → fnB (nthS (clsB (nthS pwB 38)) 0) = x → List Stmt) _ ?h137; (case h137 => walk_at "lit"); exact fun x _ => x), (by refine' (?f138 : (x : Scope) → fnS (nthS (clsB (nthS pwB 38)) 0) = x → Scope) _ ?h138; (case h138 => walk_at "lit"); exact fun x _ => x), 3, [], .none, .none, .none, (.str "lazycore.datatypes" 781), none, (.ref 482), .none, 0⟩), #[]⟩) ::
  ((nat_lit 484), ⟨(.type "tuple"), none, (.seq #[(.str "arity" 810), (.str "is_newtype" 811), (.str "name" 812), (.str "scheme" 813), (.str "siblings" 814), (.str "stricts" 815), (.str "tag" 816), (.str "type_name" 817)] 0), #[]⟩) ::
  ((nat_lit 485), ⟨(.type "dict"), none, (.dict #[⟨(PyData.keyHash P "__module__"), (.str "__module__" 790), (.str "lazycore.datatypes" 781)⟩, ⟨(PyData.keyHash P "__firstlineno__"), (.str "__firstlineno__" 794), (.int 233 793)⟩, ⟨(PyData.keyHash P "__init__"), (.str "__init__" 809), (.ref 483)⟩, ⟨(PyData.keyHash P "__static_attributes__"), (.str "__static_attributes__" 818), (.ref 484)⟩, ⟨(PyData.keyHash P "__dict__"), (.str "__dict__" 820), (.ref 487)⟩, ⟨(PyData.keyHash P "__weakref__"), (.str "__weakref__" 822), (.ref 488)⟩, ⟨(PyData.keyHash P "__doc__"), (.str "__doc__" 823), .none⟩] 4), #[]⟩) ::
  ((nat_lit 486), ⟨(.type "type"), none, (.cls ⟨"ConInfo", [(.type "object")], [(.ref 486), (.type "object")], 485, "ConInfo", true, [], [], false, none, false⟩), #[none, none, (some (.str "ConInfo" 783)), (some (.str "ConInfo" 791)), (some (.builtin "object.__new__")), (some (.bool true))]⟩) ::
  ((nat_lit 487), ⟨(.type "getset_descriptor"), none, (.fields #[(.str "__dict__" 819), (.ref 486), (.builtin "function.__dict__"), (.builtin "function.__dict__#set")]), #[]⟩) ::
  ((nat_lit 488), ⟨(.type "getset_descriptor"), none, (.fields #[(.str "__weakref__" 821), (.ref 486), (.builtin "ExceptionGroup.__weakref__"), .none]), #[]⟩) ::
  ((nat_lit 491), ⟨(.type "dict"), none, (.dict #[⟨(PyData.keyHash P "T"), (.str "T" 828), (.ref 494)⟩, ⟨(PyData.keyHash P "P"), (.str "P" 833), (.ref 496)⟩, ⟨(PyData.keyHash P "L"), (.str "L" 836), (.ref 499)⟩] 3), #[]⟩) ::
  ((nat_lit 492), ⟨(.type "tuple"), none, (.seq #[(.str "M.A" 829), (.str "" 830)] 0), #[]⟩) ::
  ((nat_lit 493), ⟨(.type "tuple"), none, (.seq #[(.str "M.B" 831), (.str "TI" 832)] 0), #[]⟩) ::
  ((nat_lit 494), ⟨(.type "list"), none, (.seq #[(.ref 492), (.ref 493)] 0), #[]⟩) ::
  ((nat_lit 495), ⟨(.type "tuple"), none, (.seq #[(.str "(,)" 834), (.str "TC" 835)] 0), #[]⟩) ::
  ((nat_lit 496), ⟨(.type "list"), none, (.seq #[(.ref 495)] 0), #[]⟩) ::
  ((nat_lit 497), ⟨(.type "tuple"), none, (.seq #[(.str "[]" 837), (.str "" 838)] 0), #[]⟩) ::
  ((nat_lit 498), ⟨(.type "tuple"), none, (.seq #[(.str ":" 839), (.str "CL" 840)] 0), #[]⟩) ::
  ((nat_lit 499), ⟨(.type "list"), none, (.seq #[(.ref 497), (.ref 498)] 0), #[]⟩) ::
  ((nat_lit 500), ⟨(.type "list"), none, (.seq #[(.str "T" 845), (.str "L" 846), (.str "I" 847), (.str "C" 848), (.str "P" 849), (.str "II" 850), (.str "TI" 851), (.str "CL" 852)] 0), #[]⟩) ::
  ((nat_lit 501), ⟨(.type "tuple"), none, (.seq #[] 0), #[]⟩) ::
  ((nat_lit 503), ⟨(.type "tuple"), none, (.seq #[(.str "script" 857), (.str "k" 858), (.str "cell" 859), (.str "big" 860), (.str "mixed" 861)] 0), #[]⟩) ::
  ((nat_lit 504), ⟨(.type "tuple"), none, (.seq #[] 0), #[]⟩) ::
  ((nat_lit 506), ⟨(.type "code"), none, (.fields #[(.str "_law_pool" 854), (.str "_law_pool" 855), (.str "/claim/cut.py" 856), (.int 247 0), (.int 2 0), (.int 0 0), (.int 0 0), (.int 3 0), (.ref 501), (.bool true), (.int 181 0), (.ref 502), .none, (.ref 503), (.ref 504), (.ref 505), (.int 862 0), (.int 247 0), (.str "/claim/cut.py" 863)]), #[]⟩) ::
  ((nat_lit 507), ⟨(.type "function"), none, (.func ⟨"_law_pool", "_law_pool", (by refine' (?f139 : (x : Arguments) → fnA (nthS pwB 42) = x → Arguments) _ ?h139; (case h139 => walk_at "lit"); exact fun x _ => x), .stmts (by refine' (?f140 : (x : List Stmt) → fnB (nthS pwB 42) = x → List Stmt) _ ?h140; (case h140 => walk_at "lit"); exact fun x _ => x), (by refine' (?f141 : (x : Scope) → fnS (nthS pwB 42) = x → Scope) _ ?h141; (case h141 => walk_at "lit"); exact fun x _ => x), 3, [], .none, .none, .none, (.str "law_np0233_01" 826), none, (.ref 506), .none, 0⟩), #[]⟩) ::
  ((nat_lit 508), ⟨(.type "tuple"), none, (.seq #[] 0), #[]⟩) ::
  ((nat_lit 510), ⟨(.type "tuple"), none, (.seq #[(.str "source" 868), (.str "top" 869), (.str "digit_here" 870)] 0), #[]⟩) ::
  ((nat_lit 511), ⟨(.type "tuple"), none, (.seq #[] 0), #[]⟩) ::
  ((nat_lit 513), ⟨(.type "code"), none, (.fields #[(.str "_law_take" 865), (.str "_law_take" 866), (.str "/claim/cut.py" 867), (.int 254 0), (.int 2 0), (.int 0 0), (.int 0 0), (.int 3 0), (.ref 508), (.bool true), (.int 181 0), (.ref 509), .none, (.ref 510), (.ref 511), (.ref 512), (.int 871 0), (.int 254 0), (.str "/claim/cut.py" 872)]), #[]⟩) ::
  ((nat_lit 514), ⟨(.type "function"), none, (.func ⟨"_law_take", "_law_take", (by refine' (?f142 : (x : Arguments) → fnA (nthS pwB 43) = x → Arguments) _ ?h142; (case h142 => walk_at "lit"); exact fun x _ => x), .stmts (by refine' (?f143 : (x : List Stmt) → fnB (nthS pwB 43) = x → List Stmt) _ ?h143; (case h143 => walk_at "lit"); exact fun x _ => x), (by refine' (?f144 : (x : Scope) → fnS (nthS pwB 43) = x → Scope) _ ?h144; (case h144 => walk_at "lit"); exact fun x _ => x), 3, [], .none, .none, .none, (.str "law_np0233_01" 826), none, (.ref 513), .none, 0⟩), #[]⟩) ::
  ((nat_lit 515), ⟨(.type "tuple"), none, (.seq #[] 0), #[]⟩) ::
  ((nat_lit 517), ⟨(.type "tuple"), none, (.seq #[(.str "source" 877), (.str "things" 878)] 0), #[]⟩) ::
  ((nat_lit 518), ⟨(.type "tuple"), none, (.seq #[] 0), #[]⟩) ::
  ((nat_lit 520), ⟨(.type "code"), none, (.fields #[(.str "_law_one" 874), (.str "_law_one" 875), (.str "/claim/cut.py" 876), (.int 261 0), (.int 2 0), (.int 0 0), (.int 0 0), (.int 3 0), (.ref 515), (.bool true), (.int 181 0), (.ref 516), .none, (.ref 517), (.ref 518), (.ref 519), (.int 879 0), (.int 261 0), (.str "/claim/cut.py" 880)]), #[]⟩) ::
  ((nat_lit 521), ⟨(.type "function"), none, (.func ⟨"_law_one", "_law_one", (by refine' (?f145 : (x : Arguments) → fnA (nthS pwB 44) = x → Arguments) _ ?h145; (case h145 => walk_at "lit"); exact fun x _ => x), .stmts (by refine' (?f146 : (x : List Stmt) → fnB (nthS pwB 44) = x → List Stmt) _ ?h146; (case h146 => walk_at "lit"); exact fun x _ => x), (by refine' (?f147 : (x : Scope) → fnS (nthS pwB 44) = x → Scope) _ ?h147; (case h147 => walk_at "lit"); exact fun x _ => x), 3, [], .none, .none, .none, (.str "law_np0233_01" 826), none, (.ref 520), .none, 0⟩), #[]⟩) ::
  ((nat_lit 522), ⟨(.type "tuple"), none, (.seq #[] 0), #[]⟩) ::
  ((nat_lit 525), ⟨(.type "code"), none, (.fields #[(.str "_law_pattern" 882), (.str "_law_pattern" 883), (.str "/claim/cut.py" 884), (.int 263 0), (.int 4 0), (.int 0 0), (.int 0 0), (.int 3 0), (.ref 522), (.bool true), (.int 181 0), (.ref 523), .none, .none, .none, (.ref 524), (.int 885 0), (.int 263 0), (.str "/claim/cut.py" 886)]), #[]⟩) ::
  ((nat_lit 526), ⟨(.type "function"), none, (.func ⟨"_law_pattern", "_law_pattern", (by refine' (?f148 : (x : Arguments) → fnA (nthS pwB 45) = x → Arguments) _ ?h148; (case h148 => walk_at "lit"); exact fun x _ => x), .stmts (by refine' (?f149 : (x : List Stmt) → fnB (nthS pwB 45) = x → List Stmt) _ ?h149; (case h149 => walk_at "lit"); exact fun x _ => x), (by refine' (?f150 : (x : Scope) → fnS (nthS pwB 45) = x → Scope) _ ?h150; (case h150 => walk_at "lit"); exact fun x _ => x), 3, [], .none, .none, .none, (.str "law_np0233_01" 826), none, (.ref 525), .none, 0⟩), #[]⟩) ::
  ((nat_lit 527), ⟨(.type "tuple"), none, (.seq #[] 0), #[]⟩) ::
  ((nat_lit 530), ⟨(.type "code"), none, (.fields #[(.str "_law_values" 888), (.str "_law_values" 889), (.str "/claim/cut.py" 890), (.int 284 0), (.int 2 0), (.int 0 0), (.int 0 0), (.int 3 0), (.ref 527), (.bool true), (.int 181 0), (.ref 528), .none, .none, .none, (.ref 529), (.int 891 0), (.int 284 0), (.str "/claim/cut.py" 892)]), #[]⟩) ::
  ((nat_lit 531), ⟨(.type "function"), none, (.func ⟨"_law_values", "_law_values", (by refine' (?f151 : (x : Arguments) → fnA (nthS pwB 46) = x → Arguments) _ ?h151; (case h151 => walk_at "lit"); exact fun x _ => x), .stmts (by refine' (?f152 : (x : List Stmt) → fnB (nthS pwB 46) = x → List Stmt) _ ?h152; (case h152 => walk_at "lit"); exact fun x _ => x), (by refine' (?f153 : (x : Scope) → fnS (nthS pwB 46) = x → Scope) _ ?h153; (case h153 => walk_at "lit"); exact fun x _ => x), 3, [], .none, .none, .none, (.str "law_np0233_01" 826), none, (.ref 530), .none, 0⟩), #[]⟩) ::
  ((nat_lit 532), ⟨(.type "tuple"), none, (.seq #[] 0), #[]⟩) ::
  ((nat_lit 535), ⟨(.type "code"), none, (.fields #[(.str "_law_fits" 894), (.str "_law_fits" 895), (.str "/claim/cut.py" 896), (.int 297 0), (.int 2 0), (.int 0 0), (.int 0 0), (.int 3 0), (.ref 532), (.bool true), (.int 181 0), (.ref 533), .none, .none, .none, (.ref 534), (.int 897 0), (.int 297 0), (.str "/claim/cut.py" 898)]), #[]⟩) ::
  ((nat_lit 536), ⟨(.type "function"), none, (.func ⟨"_law_fits", "_law_fits", (by refine' (?f154 : (x : Arguments) → fnA (nthS pwB 47) = x → Arguments) _ ?h154; (case h154 => walk_at "lit"); exact fun x _ => x), .stmts (by refine' (?f155 : (x : List Stmt) → fnB (nthS pwB 47) = x → List Stmt) _ ?h155; (case h155 => walk_at "lit"); exact fun x _ => x), (by refine' (?f156 : (x : Scope) → fnS (nthS pwB 47) = x → Scope) _ ?h156; (case h156 => walk_at "lit"); exact fun x _ => x), 3, [], .none, .none, .none, (.str "law_np0233_01" 826), none, (.ref 535), .none, 0⟩), #[]⟩) ::
  ((nat_lit 537), ⟨(.type "tuple"), none, (.seq #[] 0), #[]⟩) ::
  ((nat_lit 539), ⟨(.type "tuple"), none, (.seq #[(.str "patterns" 903), (.str "values" 904), (.str "pattern" 905), (.str "value" 906)] 0), #[]⟩) ::
  ((nat_lit 540), ⟨(.type "tuple"), none, (.seq #[] 0), #[]⟩) ::
  ((nat_lit 542), ⟨(.type "code"), none, (.fields #[(.str "_law_all_fit" 900), (.str "_law_all_fit" 901), (.str "/claim/cut.py" 902), (.int 312 0), (.int 2 0), (.int 0 0), (.int 0 0), (.int 3 0), (.ref 537), (.bool true), (.int 181 0), (.ref 538), .none, (.ref 539), (.ref 540), (.ref 541), (.int 907 0), (.int 312 0), (.str "/claim/cut.py" 908)]), #[]⟩) ::
  ((nat_lit 543), ⟨(.type "function"), none, (.func ⟨"_law_all_fit", "_law_all_fit", (by refine' (?f157 : (x : Arguments) → fnA (nthS pwB 48) = x → Arguments) _ ?h157; (case h157 => walk_at "lit"); exact fun x _ => x), .stmts (by refine' (?f158 : (x : List Stmt) → fnB (nthS pwB 48) = x → List Stmt) _ ?h158; (case h158 => walk_at "lit"); exact fun x _ => x), (by refine' (?f159 : (x : Scope) → fnS (nthS pwB 48) = x → Scope) _ ?h159; (case h159 => walk_at "lit"); exact fun x _ => x), 3, [], .none, .none, .none, (.str "law_np0233_01" 826), none, (.ref 542), .none, 0⟩), #[]⟩) ::
  ((nat_lit 544), ⟨(.type "tuple"), none, (.seq #[] 0), #[]⟩) ::
  ((nat_lit 547), ⟨(.type "code"), none, (.fields #[(.str "law" 910), (.str "law" 911), (.str "/claim/cut.py" 912), (.int 317 0), (.int 1 0), (.int 0 0), (.int 0 0), (.int 3 0), (.ref 544), (.bool true), (.int 181 0), (.ref 545), .none, .none, .none, (.ref 546), (.int 913 0), (.int 317 0), (.str "/claim/cut.py" 914)]), #[]⟩) ::
  ((nat_lit 548), ⟨(.type "function"), none, (.func ⟨"law", "law", (by refine' (?f160 : (x : Arguments) → fnA (nthS pwB 49) = x → Arguments) _ ?h160; (case h160 => walk_at "lit"); exact fun x _ => x), .stmts (by refine' (?f161 : (x : List Stmt) → fnB (nthS pwB 49) = x → List Stmt) _ ?h161; (case h161 => walk_at "lit"); exact fun x _ => x), (by refine' (?f162 : (x : Scope) → fnS (nthS pwB 49) = x → Scope) _ ?h162; (case h162 => walk_at "lit"); exact fun x _ => x), 3, [], .none, .none, .none, (.str "law_np0233_01" 826), none, (.ref 547), .none, 0⟩), #[]⟩) :: []
noncomputable def K0as : List Addr := nat_lit 2 :: nat_lit 3 :: nat_lit 15 :: nat_lit 18 :: nat_lit 19 :: nat_lit 27 :: nat_lit 29 :: nat_lit 30 :: nat_lit 32 :: nat_lit 33 :: nat_lit 34 :: nat_lit 36 :: nat_lit 37 :: nat_lit 39 :: nat_lit 40 :: nat_lit 41 :: nat_lit 42 :: nat_lit 43 :: nat_lit 44 :: nat_lit 45 :: nat_lit 48 :: nat_lit 55 :: nat_lit 56 :: nat_lit 58 :: nat_lit 59 :: nat_lit 61 :: nat_lit 62 :: nat_lit 63 :: nat_lit 65 :: nat_lit 66 :: nat_lit 68 :: nat_lit 69 :: nat_lit 70 :: nat_lit 71 :: nat_lit 72 :: nat_lit 75 :: nat_lit 82 :: nat_lit 83 :: nat_lit 85 :: nat_lit 86 :: nat_lit 88 :: nat_lit 89 :: nat_lit 90 :: nat_lit 92 :: nat_lit 93 :: nat_lit 95 :: nat_lit 96 :: nat_lit 97 :: nat_lit 98 :: nat_lit 99 :: nat_lit 102 :: nat_lit 109 :: nat_lit 110 :: nat_lit 112 :: nat_lit 113 :: nat_lit 115 :: nat_lit 116 :: nat_lit 117 :: nat_lit 119 :: nat_lit 120 :: nat_lit 122 :: nat_lit 123 :: nat_lit 124 :: nat_lit 125 :: nat_lit 126 :: nat_lit 129 :: nat_lit 136 :: nat_lit 137 :: nat_lit 139 :: nat_lit 140 :: nat_lit 142 :: nat_lit 143 :: nat_lit 144 :: nat_lit 146 :: nat_lit 147 :: nat_lit 149 :: nat_lit 150 :: nat_lit 151 :: nat_lit 152 :: nat_lit 153 :: nat_lit 156 :: nat_lit 163 :: nat_lit 164 :: nat_lit 166 :: nat_lit 167 :: nat_lit 169 :: nat_lit 170 :: nat_lit 171 :: nat_lit 173 :: nat_lit 174 :: nat_lit 176 :: nat_lit 177 :: nat_lit 178 :: nat_lit 179 :: nat_lit 180 :: nat_lit 183 :: nat_lit 190 :: nat_lit 191 :: nat_lit 193 :: nat_lit 194 :: nat_lit 196 :: nat_lit 197 :: nat_lit 198 :: nat_lit 200 :: nat_lit 201 :: nat_lit 203 :: nat_lit 204 :: nat_lit 205 :: nat_lit 206 :: nat_lit 207 :: nat_lit 210 :: nat_lit 217 :: nat_lit 218 :: nat_lit 220 :: nat_lit 221 :: nat_lit 223 :: nat_lit 224 :: nat_lit 225 :: nat_lit 227 :: nat_lit 228 :: nat_lit 230 :: nat_lit 231 :: nat_lit 232 :: nat_lit 233 :: nat_lit 234 :: nat_lit 237 :: nat_lit 244 :: nat_lit 245 :: nat_lit 247 :: nat_lit 248 :: nat_lit 250 :: nat_lit 251 :: nat_lit 252 :: nat_lit 254 :: nat_lit 255 :: nat_lit 257 :: nat_lit 258 :: nat_lit 259 :: nat_lit 260 :: nat_lit 261 :: nat_lit 264 :: nat_lit 271 :: nat_lit 272 :: nat_lit 274 :: nat_lit 275 :: nat_lit 277 :: nat_lit 278 :: nat_lit 279 :: nat_lit 281 :: nat_lit 282 :: nat_lit 284 :: nat_lit 285 :: nat_lit 286 :: nat_lit 287 :: nat_lit 288 :: nat_lit 291 :: nat_lit 292 :: nat_lit 294 :: nat_lit 295 :: nat_lit 297 :: nat_lit 298 :: nat_lit 299 :: nat_lit 301 :: nat_lit 302 :: nat_lit 304 :: nat_lit 305 :: nat_lit 306 :: nat_lit 308 :: nat_lit 309 :: nat_lit 311 :: nat_lit 312 :: nat_lit 313 :: nat_lit 315 :: nat_lit 316 :: nat_lit 318 :: nat_lit 319 :: nat_lit 320 :: nat_lit 322 :: nat_lit 323 :: nat_lit 325 :: nat_lit 326 :: nat_lit 334 :: nat_lit 336 :: nat_lit 337 :: nat_lit 339 :: nat_lit 340 :: nat_lit 341 :: nat_lit 343 :: nat_lit 344 :: nat_lit 346 :: nat_lit 347 :: nat_lit 348 :: nat_lit 350 :: nat_lit 351 :: nat_lit 353 :: nat_lit 354 :: nat_lit 355 :: nat_lit 358 :: nat_lit 359 :: nat_lit 360 :: nat_lit 361 :: nat_lit 362 :: nat_lit 363 :: nat_lit 364 :: nat_lit 367 :: nat_lit 369 :: nat_lit 370 :: nat_lit 372 :: nat_lit 373 :: nat_lit 374 :: nat_lit 376 :: nat_lit 377 :: nat_lit 379 :: nat_lit 380 :: nat_lit 381 :: nat_lit 384 :: nat_lit 385 :: nat_lit 386 :: nat_lit 389 :: nat_lit 390 :: nat_lit 391 :: nat_lit 394 :: nat_lit 395 :: nat_lit 396 :: nat_lit 399 :: nat_lit 400 :: nat_lit 401 :: nat_lit 403 :: nat_lit 404 :: nat_lit 406 :: nat_lit 407 :: nat_lit 408 :: nat_lit 411 :: nat_lit 412 :: nat_lit 420 :: nat_lit 422 :: nat_lit 423 :: nat_lit 425 :: nat_lit 426 :: nat_lit 427 :: nat_lit 429 :: nat_lit 430 :: nat_lit 432 :: nat_lit 433 :: nat_lit 434 :: nat_lit 436 :: nat_lit 437 :: nat_lit 439 :: nat_lit 440 :: nat_lit 441 :: nat_lit 444 :: nat_lit 445 :: nat_lit 446 :: nat_lit 448 :: nat_lit 449 :: nat_lit 451 :: nat_lit 452 :: nat_lit 453 :: nat_lit 454 :: nat_lit 455 :: nat_lit 456 :: nat_lit 457 :: nat_lit 460 :: nat_lit 463 :: nat_lit 464 :: nat_lit 465 :: nat_lit 468 :: nat_lit 469 :: nat_lit 477 :: nat_lit 479 :: nat_lit 480 :: nat_lit 482 :: nat_lit 483 :: nat_lit 484 :: nat_lit 485 :: nat_lit 486 :: nat_lit 487 :: nat_lit 488 :: nat_lit 491 :: nat_lit 492 :: nat_lit 493 :: nat_lit 494 :: nat_lit 495 :: nat_lit 496 :: nat_lit 497 :: nat_lit 498 :: nat_lit 499 :: nat_lit 500 :: nat_lit 501 :: nat_lit 503 :: nat_lit 504 :: nat_lit 506 :: nat_lit 507 :: nat_lit 508 :: nat_lit 510 :: nat_lit 511 :: nat_lit 513 :: nat_lit 514 :: nat_lit 515 :: nat_lit 517 :: nat_lit 518 :: nat_lit 520 :: nat_lit 521 :: nat_lit 522 :: nat_lit 525 :: nat_lit 526 :: nat_lit 527 :: nat_lit 530 :: nat_lit 531 :: nat_lit 532 :: nat_lit 535 :: nat_lit 536 :: nat_lit 537 :: nat_lit 539 :: nat_lit 540 :: nat_lit 542 :: nat_lit 543 :: nat_lit 544 :: nat_lit 547 :: nat_lit 548 :: []
example : (PySem.Challenge.rw_np0233_01, K0) = (PySem.Challenge.rw_np0233_01, K0) := by k_fill; rfl
/-- the goal behind a variable -/
theorem hideG {T : Prop} (h : ∀ G : Prop, (T → G) → G) : T := h T id
theorem ar_base {k b n : Nat} (h : Nat.ble k b = true) : k ≤ b + n := Nat.le_trans (Nat.le_of_ble_eq_true h) (Nat.le_add_right b n)
theorem ar_tr {x c d : Nat} (h : x ≤ c) (e : Nat.ble c d = true) : x ≤ d := Nat.le_trans h (Nat.le_of_ble_eq_true e)
theorem ar_trl {x c d : Nat} (h : x < c) (e : Nat.ble c d = true) : x ≤ d := Nat.le_trans (Nat.le_of_lt h) (Nat.le_of_ble_eq_true e)
theorem ar_eqtr {x y c d : Nat} (h : x = y) (h2 : y ≤ c) (e : Nat.ble c d = true) : x ≤ d := h ▸ ar_tr h2 e
theorem ar_eqtr' {x y c d : Nat} (h : y = x) (h2 : y ≤ c) (e : Nat.ble c d = true) : x ≤ d := h ▸ ar_tr h2 e
theorem ar_eqtrl {x y c d : Nat} (h : x = y) (h2 : y < c) (e : Nat.ble c d = true) : x ≤ d := h ▸ ar_trl h2 e
theorem ar_letr {x y c d : Nat} (h : x ≤ y) (h2 : y ≤ c) (e : Nat.ble c d = true) : x ≤ d := Nat.le_trans h (ar_tr h2 e)
theorem ar_lttr {x y c d : Nat} (h : x < y) (h2 : y ≤ c) (e : Nat.ble c d = true) : x ≤ d := Nat.le_trans (Nat.le_of_lt h) (ar_tr h2 e)
theorem ar_cast {x c : Nat} {d : Int} (h : x ≤ c) (e : decide ((c : Int) ≤ d) = true) : (x : Int) ≤ d := Int.le_trans (Int.ofNat_le.mpr h) (of_decide_eq_true e)
theorem ar_cast0 {x : Nat} : (0 : Int) ≤ (x : Int) := Int.natCast_nonneg x
theorem ar_eqs {x y : Nat} (h : y = x) : x ≤ y := Nat.le_of_eq h.symm
theorem ar_succ {x c : Nat} (h : x + 1 ≤ c) : x ≤ c := Nat.le_of_succ_le h
theorem ar_lesucc {x c : Nat} (h : x ≤ c) : x ≤ c + 1 := Nat.le_succ_of_le h
theorem ar_lets {x y n : Nat} (h : x < y) (h2 : y ≤ n + 1) : x ≤ n := Nat.le_of_lt_succ (Nat.lt_of_lt_of_le h h2)
theorem ar_3 {x i y z c d : Nat} (h : x ≤ i) (h2 : i < y) (h3 : y = z) (h4 : z ≤ c) (e : Nat.ble c d = true) : x ≤ d := Nat.le_trans h (Nat.le_trans (Nat.le_of_lt h2) (ar_eqtr h3 h4 e))
theorem ar_pred {n : Nat} (h : 0 < n) : n = n - 1 + 1 := (Nat.succ_pred_eq_of_pos h).symm
theorem ar_room {a n m : Nat} (h : n < m) : (a + 4 * n) + 1 ≤ a + 4 * m := by omega
theorem ar_room1 {a n : Nat} : (a + 4 * n) + 1 ≤ a + 4 * (n + 1) := ar_room (Nat.lt_succ_self _)
theorem ar_addr {x k c d : Nat} (h : x + k ≤ c) (e : Nat.ble c d = true) : x ≤ d := Nat.le_trans (Nat.le_add_right x k) (ar_tr h e)
theorem ar_castlt {x c : Nat} {d : Int} (h : x ≤ c) (e : decide ((c : Int) < d) = true) : (x : Int) < d := Int.lt_of_le_of_lt (Int.ofNat_le.mpr h) (of_decide_eq_true e)
theorem ar_casteq {x y c : Nat} {d : Int} (q : x = y) (h : y ≤ c) (e : decide ((c : Int) ≤ d) = true) : (x : Int) ≤ d := q ▸ ar_cast h e
theorem ar_ltle {x c d : Nat} (h : x ≤ c) (e : Nat.blt c d = true) : x < d := Nat.lt_of_le_of_lt h (Nat.le_of_ble_eq_true e)
theorem ar_eqltle {x y c d : Nat} (q : x = y) (h : y ≤ c) (e : Nat.blt c d = true) : x < d := q ▸ ar_ltle h e
theorem ar_c2 {x y c d : Nat} {z : Nat} (q : x = y) (h : x = z) (h2 : y ≤ c) (e : Nat.ble c d = true) : z ≤ d := h ▸ ar_eqtr q h2 e
theorem ar_lt {a b : Nat} (h : Nat.blt a b = true) : a < b := Nat.le_of_ble_eq_true h
abbrev Tac := Lean.TSyntax `tactic
def tf : List Tac → Tac
  | [] => Lean.Unhygienic.run `(tactic| fail)
  | [t] => t
  | t :: ts => Lean.Unhygienic.run `(tactic| first | $t:tactic | $(tf ts):tactic)
def ap (n : Lean.Name) : Tac := Lean.Unhygienic.run `(tactic| ((with_reducible apply $(Lean.mkCIdent n)) <;> first | ((fail_if_success (with_reducible show _ = true)); assumption) | ((fail_if_success (fail_if_success decide)); exact rfl)))
local macro_rules | `(tactic| obtain $p:rcasesPatMed := $e:term) => `(tactic| (focus (refine' hideG ?_; intro G hG; rcases $e:term with $p:rcasesPatMed; all_goals (refine' hG ?_; clear hG))))
local macro_rules
  | `(tactic| omega) =>
    let x := tf ([``Nat.le_of_ble_eq_true, ``ar_lt, ``ar_base, ``ar_cast0, ``ar_tr, ``Nat.le_of_eq, ``ar_eqs, ``ar_succ, ``ar_lesucc, ``ar_eqtr, ``ar_eqtr', ``ar_trl, ``ar_eqtrl, ``ar_letr, ``ar_lttr, ``ar_cast, ``ar_castlt, ``ar_casteq, ``ar_addr, ``ar_ltle, ``ar_eqltle, ``ar_room, ``ar_room1, ``ar_pred, ``Nat.le_trans, ``ar_lets, ``Nat.lt_of_lt_of_le, ``Nat.lt_of_le_of_lt, ``ar_3].map ap)
    `(tactic| first | $x:tactic | lia | omega (config := {}))
/-! the state: a known, unchanging part g of the heap; one frame L; a few things that change (mu) -/
noncomputable abbrev Kn := Addr → Option Obj
noncomputable abbrev Up (g g' : Kn) : Prop := ∀ a o, g a = some o → g' a = some o
noncomputable abbrev Sub (g : Kn) (h : Heap) : Prop := ∀ a o, g a = some o → h.get? a = some o
noncomputable abbrev St (s : Shared) (h : Heap) (t : Nat) : Shared := ⟨h, s.gens, s.drawn, t, s.os⟩

structure Gnd (w : World) (h : Heap) : Prop where
  k : (K0 w.params).In h
  gl : ∃ mg, h.Ns mainGlobals mg
  bt : ∃ mb, h.Ns builtinsNs mb ∧ ∀ x : Str, x ≠ "__name__" → mb x = bootBuiltins x
  lim : h.NoLimit
noncomputable def Gd (w : World) (g : Kn) : Prop := ∃ hB, Gnd w hB ∧ ∀ a o, hB.get? a = some o → g a = some o
theorem Gd.mono {w : World} {g g' : Kn} (G : Gd w g) (up : Up g g') : Gd w g' :=
  let ⟨hB, x, y⟩ := G; ⟨hB, x, fun a o e => up a o (y a o e)⟩
theorem Gnd.keeps {w : World} {h h' : Heap} (G : Gnd w h) (hk : ∀ b o, h.get? b = some o → h'.get? b = some o) : Gnd w h' :=
  ⟨G.k.keeps hk, let ⟨mg, a⟩ := G.gl; ⟨mg, a.keeps hk⟩, let ⟨mb, a, b⟩ := G.bt; ⟨mb, a.keeps hk, b⟩, G.lim.keeps hk⟩
theorem Gd.at {w : World} {g : Kn} {h : Heap} (G : Gd w g) (sub : Sub g h) : Gnd w h :=
  let ⟨_, x, y⟩ := G; x.keeps fun a o e => sub a o (y a o e)

theorem Gnd.lo {w : World} {h : Heap} (G : Gnd w h) : 549 ≤ h.objs.size := by
  have e : ∃ o, (K0 w.params).lookup 548 = some o := ⟨_, rfl⟩
  obtain ⟨o, e⟩ := e
  exact Heap.lt_size (G.k _ _ e)

structure Room (A : Around) (n : Nat) : Prop where
  hh : A.handled = none
  d : A.depth + n < recursionLimit
  u : A.units + 8 * n < cLine
theorem Room.lt {A : Around} {n : Nat} (R : Room A n) : A.depth < recursionLimit := Nat.lt_of_le_of_lt (Nat.le_add_right _ _) R.d
theorem Room.le {A : Around} {n m : Nat} (R : Room A n) (h : m ≤ n) : Room A m := ⟨R.hh, by have := R.d; omega, by have := R.u; omega⟩
theorem Room.deeper {A : Around} {n : Nat} {env : Env} (R : Room A (n + 1)) : Room (A.deeper env) n := by
  obtain ⟨a, b, c⟩ := R
  exact ⟨a, by show A.depth + 1 + n < _; omega, by show A.units + 3 + 8 * n < _; omega⟩
theorem Room.dl {A : Around} {n m : Nat} {env : Env} (R : Room A n) (h : m + 1 ≤ n) : Room (A.deeper env) m := (R.le h).deeper
theorem Room.in1 {A : Around} {n : Nat} (R : Room A (n + 1)) : Room A.in1 n := by
  obtain ⟨a, b, c⟩ := R
  exact ⟨a, by show A.depth + n < _; omega, by show A.units + 1 + 8 * n < _; omega⟩

structure Grow (U : List Addr) (g : Kn) (h : Heap) (g' : Kn) (h' : Heap) : Prop where
  sub : Sub g' h'
  up : Up g g'
  all : ∀ a o, a ∉ U → h.get? a = some o → h'.get? a = some o
  size : h.objs.size ≤ h'.objs.size
  old : ∀ a, a < h.objs.size → g' a = g a
theorem Grow.refl {U : List Addr} {g : Kn} {h : Heap} (sub : Sub g h) : Grow U g h g h :=
  ⟨sub, fun _ _ e => e, fun _ _ _ e => e, Nat.le_refl _, fun _ _ => rfl⟩
theorem Grow.trans {U : List Addr} {g g' g'' : Kn} {h h' h'' : Heap} (x : Grow U g h g' h') (y : Grow U g' h' g'' h'') : Grow U g h g'' h'' :=
  ⟨y.sub, fun a o e => y.up a o (x.up a o e), fun a o n e => y.all a o n (x.all a o n e), Nat.le_trans x.size y.size,
    fun a e => (y.old a (Nat.lt_of_lt_of_le e x.size)).trans (x.old a e)⟩

noncomputable def Ret (U : List Addr) (g : Kn) (s : Shared) (h : Heap) (Out : Kn → Heap → Value → Prop) (r : Value) (s' : Shared) : Prop :=
  ∃ g' h' t', s' = St s h' t' ∧ Grow U g h g' h' ∧ Out g' h' r
noncomputable abbrev NoE : Value → Shared → Prop := fun _ _ => False

structure Fm (U : List Addr) (w : World) (g₀ : Kn) (h₀ : Heap) (L : Addr) (g : Kn) (h : Heap) (l : List (Str × Value)) (μ : List (Addr × Obj)) : Prop where
  ns : h.Ns L (fun y => l.lookup y)
  gd : Gd w g
  sub : Sub g h
  off : g L = none
  above : h₀.objs.size ≤ L
  lo : 549 ≤ h₀.objs.size
  up : Up g₀ g
  all : ∀ a o, a ∉ U → h₀.get? a = some o → h.get? a = some o
  old : ∀ a, a < h₀.objs.size → g a = g₀ a
  mu : ∀ p ∈ μ, h.get? p.1 = some p.2 ∧ g p.1 = none ∧ p.1 ≠ L ∧ (p.1 ∈ U ∨ h₀.objs.size ≤ p.1)
  nd : (μ.map (·.1)).Nodup

section
variable {U : List Addr} {w : World} {g₀ g : Kn} {h₀ h h' : Heap} {L : Addr} {l : List (Str × Value)} {μ : List (Addr × Obj)}
theorem Fm.gnd (F : Fm U w g₀ h₀ L g h l μ) : Gnd w h := F.gd.at F.sub
theorem Fm.k (F : Fm U w g₀ h₀ L g h l μ) : (K0 w.params).In h := F.gnd.k
theorem Fm.lt (F : Fm U w g₀ h₀ L g h l μ) : L < h.objs.size := F.ns.lt
theorem Fm.grow (F : Fm U w g₀ h₀ L g h l μ) : Grow U g₀ h₀ g h := ⟨F.sub, F.up, F.all, Nat.le_trans F.above (Nat.le_of_lt F.lt), F.old⟩

theorem Fm.store {x : Str} {v : Value} (F : Fm U w g₀ h₀ L g h l μ) (hn : h'.Ns L (fun y => if y = x then some v else l.lookup y)) (hs : Heap.SameBut L h h') : Fm U w g₀ h₀ L g h' ((x, v) :: l) μ where
  ns := by
    have e : (fun y => ((x, v) :: l).lookup y) = fun y => if y = x then some v else l.lookup y := by
      funext y
      rw [List.lookup_cons]
      by_cases hy : y = x
      · subst hy; simp
      · have : (y == x) = false := by simpa using hy
        simp [this, hy]
    rw [e]; exact hn
  gd := F.gd
  sub := fun a o e => (hs.2 a (fun q => by rw [q, F.off] at e; cases e)).trans (F.sub a o e)
  off := F.off
  above := F.above
  lo := F.lo
  up := F.up
  all := fun a o n e => (hs.2 a (Nat.ne_of_lt (Nat.lt_of_lt_of_le (Heap.lt_size e) F.above))).trans (F.all a o n e)
  old := F.old
  mu := fun p hp => ⟨(hs.2 p.1 (F.mu p hp).2.2.1).trans (F.mu p hp).1, (F.mu p hp).2⟩
  nd := F.nd

theorem Fm.keep (F : Fm U w g₀ h₀ L g h l μ) (hk : ∀ b o, h.get? b = some o → h'.get? b = some o) : Fm U w g₀ h₀ L g h' l μ where
  ns := F.ns.keeps hk
  gd := F.gd
  sub := fun a o e => hk a o (F.sub a o e)
  off := F.off
  above := F.above
  lo := F.lo
  up := F.up
  all := fun a o n e => hk a o (F.all a o n e)
  old := F.old
  mu := fun p hp => ⟨hk _ _ (F.mu p hp).1, (F.mu p hp).2⟩
  nd := F.nd

theorem Fm.free (F : Fm U w g₀ h₀ L g h l μ) : g h.objs.size = none := by
  cases e : g h.objs.size with
  | none => rfl
  | some o => exact absurd (Heap.lt_size (F.sub _ _ e)) (Nat.lt_irrefl _)
theorem Fm.push (F : Fm U w g₀ h₀ L g h l μ) (o : Obj) (ho : o.isFreed = false) : Fm U w g₀ h₀ L g (h.push o) l ((h.objs.size, o) :: μ) :=
  let K := F.keep (h' := h.push o) fun _ _ e => Heap.get?_push_of_some _ e
  { K with
    mu := fun p hp => by
      rcases List.mem_cons.mp hp with rfl | hp
      · exact ⟨Heap.get?_push_size _ ho, F.free, Nat.ne_of_gt F.lt, .inr (Nat.le_trans F.above (Nat.le_of_lt F.lt))⟩
      · exact K.mu p hp
    nd := by
      rw [List.map_cons, List.nodup_cons]
      refine ⟨fun hm => ?_, F.nd⟩
      obtain ⟨p, hp, e⟩ := List.mem_map.mp hm
      exact absurd (Heap.lt_size (F.mu p hp).1) (by rw [e]; exact Nat.lt_irrefl _) }
theorem Fm.drop {p : Addr × Obj} (F : Fm U w g₀ h₀ L g h l (p :: μ)) : Fm U w g₀ h₀ L g h l μ :=
  { F with mu := fun q hq => F.mu q (.tail _ hq), nd := by have := F.nd; rw [List.map_cons, List.nodup_cons] at this; exact this.2 }

theorem Fm.freeze {a : Addr} {o : Obj} (F : Fm U w g₀ h₀ L g h l ((a, o) :: μ)) (ha : h₀.objs.size ≤ a) :
    ∃ g', (∀ b x, g b = some x → g' b = some x) ∧ g' a = some o ∧ (∀ b, b ≠ a → g' b = g b) ∧ Fm U w g₀ h₀ L g' h l μ := by
  obtain ⟨m1, m2, m3, _⟩ := F.mu _ (.head _)
  have nd := F.nd
  rw [List.map_cons, List.nodup_cons] at nd
  have up : ∀ b x, g b = some x → (fun b => if b = a then some o else g b) b = some x := fun b x e => by
    show (if b = a then some o else g b) = some x
    rw [if_neg (fun q => by rw [q] at e; rw [m2] at e; cases e)]; exact e
  refine ⟨fun b => if b = a then some o else g b, up, if_pos rfl, fun b n => if_neg n, F.ns, F.gd.mono up, ?_, ?_, F.above, F.lo, fun b x e => up b x (F.up b x e), F.all, ?_, ?_, nd.2⟩
  · intro b x e
    by_cases hb : b = a
    · subst hb; simp only [if_true] at e; cases e; exact m1
    · simp only [if_neg hb] at e; exact F.sub b x e
  · simp only [if_neg (Ne.symm m3)]; exact F.off
  · intro b hb
    rw [← F.old b hb]
    exact if_neg (fun q => absurd (Nat.lt_of_lt_of_le hb ha) (by rw [q]; exact Nat.lt_irrefl _))
  · intro p hp
    obtain ⟨p1, p2, p3, p4⟩ := F.mu p (.tail _ hp)
    refine ⟨p1, ?_, p3, p4⟩
    rw [if_neg (fun q => nd.1 (List.mem_map.mpr ⟨p, hp, q⟩))]; exact p2

/-- one object of those that change is turned -/
theorem Fm.turn {a : Addr} {o o' : Obj} (F : Fm U w g₀ h₀ L g h l ((a, o) :: μ)) (hs : Heap.SameBut a h h') (ho : h'.get? a = some o') : Fm U w g₀ h₀ L g h' l ((a, o') :: μ) := by
  obtain ⟨m1, m2, m3, m4⟩ := F.mu _ (.head _)
  have nd := F.nd
  rw [List.map_cons, List.nodup_cons] at nd
  refine ⟨F.ns.sameBut hs (Ne.symm m3), F.gd, fun b x e => (hs.2 b (fun q => by rw [q, m2] at e; cases e)).trans (F.sub b x e), F.off, F.above, F.lo, F.up, fun b x n e => ?_, F.old, ?_, F.nd⟩
  · refine (hs.2 b fun q => ?_).trans (F.all b x n e)
    rcases m4 with m4 | m4
    · exact n (q ▸ m4)
    · exact absurd (Heap.lt_size e) (Nat.not_lt.mpr (q ▸ m4))
  · intro p hp
    rcases List.mem_cons.mp hp with rfl | hp
    · exact ⟨ho, m2, m3, m4⟩
    · exact ⟨(hs.2 p.1 fun q => nd.1 (List.mem_map.mpr ⟨p, hp, q⟩)).trans (F.mu p (.tail _ hp)).1, (F.mu p (.tail _ hp)).2⟩
/-- a call that changes nothing old -/
theorem Fm.call {g' : Kn} (F : Fm U w g₀ h₀ L g h l μ) (G : Grow [] g h g' h') : Fm U w g₀ h₀ L g' h' l μ where
  ns := F.ns.keeps fun b o e => G.all b o (by simp) e
  gd := F.gd.mono G.up
  sub := G.sub
  off := (G.old L F.lt).trans F.off
  above := F.above
  lo := F.lo
  up := fun a o e => G.up a o (F.up a o e)
  all := fun a o n e => G.all a o (by simp) (F.all a o n e)
  old := fun a e => (G.old a (Nat.lt_of_lt_of_le e (Nat.le_trans F.above (Nat.le_of_lt F.lt)))).trans (F.old a e)
  mu := fun p hp => by
    obtain ⟨p1, p2, p3, p4⟩ := F.mu p hp
    exact ⟨G.all _ _ (by simp) p1, (G.old _ (Heap.lt_size p1)).trans p2, p3, p4⟩
  nd := F.nd
/-- a call that changes the first of those that change -/
theorem Fm.callM {g' : Kn} {a : Addr} {o o' : Obj} (F : Fm U w g₀ h₀ L g h l ((a, o) :: μ)) (G : Grow [a] g h g' h') (ho : h'.get? a = some o') : Fm U w g₀ h₀ L g' h' l ((a, o') :: μ) := by
  obtain ⟨m1, m2, m3, m4⟩ := F.mu _ (.head _)
  have nd := F.nd
  rw [List.map_cons, List.nodup_cons] at nd
  have al : ∀ b x, b ≠ a → h.get? b = some x → h'.get? b = some x := fun b x n e => G.all b x (by simpa using n) e
  obtain ⟨oL, es, ep, hL, r⟩ := F.ns
  refine ⟨⟨oL, es, ep, al _ _ (Ne.symm m3) hL, r⟩, F.gd.mono G.up, G.sub, (G.old L F.lt).trans F.off, F.above, F.lo, fun b x e => G.up b x (F.up b x e), fun b x n e => ?_,
    fun b e => (G.old b (Nat.lt_of_lt_of_le e (Nat.le_trans F.above (Nat.le_of_lt F.lt)))).trans (F.old b e), ?_, F.nd⟩
  · refine al b x (fun q => ?_) (F.all b x n e)
    rcases m4 with m4 | m4
    · exact n (q ▸ m4)
    · exact absurd (Heap.lt_size e) (Nat.not_lt.mpr (q ▸ m4))
  · intro p hp
    rcases List.mem_cons.mp hp with rfl | hp
    · exact ⟨ho, (G.old _ (Heap.lt_size m1)).trans m2, m3, m4⟩
    · obtain ⟨p1, p2, p3, p4⟩ := F.mu p (.tail _ hp)
      exact ⟨al _ _ (fun q => nd.1 (List.mem_map.mpr ⟨p, hp, q⟩)) p1, (G.old _ (Heap.lt_size p1)).trans p2, p3, p4⟩
end
section
variable {prog : Program} {w : World} {A : Around} {E : Value → Shared → Prop} {s : Shared} {env : Env} {U : List Addr} {g₀ g : Kn} {h₀ h : Heap} {L : Addr} {t : Nat} {l : List (Str × Value)} {μ : List (Addr × Obj)}

theorem m_local {x : Str} {pos : Pos} {v : Value} {Q : Value → Shared → Prop} (F : Fm U w g₀ h₀ L g h l μ) (hk : env.scope.kind = .function) (hL : env.locals = L) (hl : env.kindOf x = some .local)
    (hdd : (x == ("__debug__" : Str)) = false) (hv : l.lookup x = some v) (hQ : Q v (St s h t)) : wpAny (model prog w) A (eval (.Name x pos) env) Q E (St s h t) := by
  subst hL
  exact wpAny_Name (wpAny_loadName_local hk hl (s := St s h t) F.ns hv hQ) hdd

theorem m_global {x : Str} {pos : Pos} {v : Value} {Q : Value → Shared → Prop} (F : Fm U w g₀ h₀ L g h l μ) (hk : env.scope.kind = .function) (hG : env.globals = mainGlobals) (hl : env.kindOf x = some .globalImplicit)
    (hdd : (x == ("__debug__" : Str)) = false) (hv : nsIn (K0 w.params) mainGlobals x = some (some v)) (hQ : Q v (St s h t)) : wpAny (model prog w) A (eval (.Name x pos) env) Q E (St s h t) := by
  obtain ⟨mg, G⟩ := F.gnd.gl
  exact Name_function_global hk hl (loadGlobal_global (env := env) (s := St s h t) (hG ▸ G) (mg_of F.k G hv) hQ) hdd

theorem m_builtin {x : Str} {pos : Pos} {v : Value} {Q : Value → Shared → Prop} (F : Fm U w g₀ h₀ L g h l μ) (hk : env.scope.kind = .function) (hG : env.globals = mainGlobals) (hB : env.builtins = builtinsNs) (hl : env.kindOf x = some .globalImplicit)
    (hdd : (x == ("__debug__" : Str)) = false) (hv : nsIn (K0 w.params) mainGlobals x = some none) (hb : bootBuiltins x = some v) (hn : x ≠ "__name__") (hQ : Q v (St s h t)) : wpAny (model prog w) A (eval (.Name x pos) env) Q E (St s h t) := by
  obtain ⟨mg, G⟩ := F.gnd.gl
  obtain ⟨mb, b1, b2⟩ := F.gnd.bt
  exact Name_function_global hk hl (loadGlobal_builtin (env := env) (s := St s h t) (hG ▸ G) (mg_none_of F.k G hv) (hB ▸ b1) ((b2 x hn).trans hb) hQ) hdd

noncomputable def CRet (U : List Addr) (g : Kn) (s : Shared) (h : Heap) (Out : Kn → Heap → Value → Prop) (r : Result) (s' : Shared) : Prop := match r with
  | .ok (.ret v) => Ret U g s h Out v s'
  | _ => False
theorem of_code {Out : Kn → Heap → Value → Prop} {f : Value} {vals : List Value} {M : Model} (hc : codeAny M A (.call f ⟨vals, []⟩) (CRet U g s h Out) (St s h t)) : wpAny M A (call f vals) (Ret U g s h Out) NoE (St s h t) :=
  wpAny_call (codeAny_mono hc fun r s' x => by
    rcases r with e | (_ | _ | _ | v)
    · exact x.elim
    · exact x.elim
    · exact x.elim
    · exact x.elim
    · exact x)
/-- entering a def without cells -/
theorem m_enterC (l : List (Str × Value)) {Out : Kn → Heap → Value → Prop} {name qual : Str} {params : Arguments} {body : List Stmt} {scope : Scope} {dV kV doc pm cdv ct oc : Value} {an od : Option Addr} {osl : Array (Option Value)} {f : Addr} {vals : List Value}
    (gd : Gd w g) (sub : Sub g h) (hμ : ∀ p ∈ μ, h.get? p.1 = some p.2 ∧ g p.1 = none ∧ p.1 ∈ U) (nd : (μ.map (·.1)).Nodup)
    (ho : (K0 w.params).lookup f = some ⟨oc, od, .func (fnOf name qual params body scope dV kV doc pm an cdv ct), osl⟩) (hcd : codeIn (K0 w.params) cdv qual = true) (hroom : A.depth < recursionLimit)
    (hbind : BindsTo (St s h t) (fnOf name qual params body scope dV kV doc pm an cdv ct) ⟨vals, []⟩ l.reverse) (hloc : (l.reverse.all fun x => decide (scope.names.lookup x.1 = some .local)) = true)
    (hcell : ∀ x ∈ scope.names, x.2 ≠ .cell) (hco : scope.isCoroutine = false) (hgen : scope.isGenerator = false) (hk : scope.kind = .function)
    (hb : ∀ L h₁ t₁, Fm U w g h L g h₁ l μ →
      wpAny (model prog w) (A.deeper (envOf qual scope L f cdv)) (execs body (envOf qual scope L f cdv)) (fun fl s' => Ret U g s h Out (match fl with | .ret v => v | _ => .none) s') NoE (St s h₁ t₁)) :
    codeAny (model prog w) A (.call (.ref f) ⟨vals, []⟩) (CRet U g s h Out) (St s h t) := by
  have G := gd.at sub
  refine codeAny_call_def (fd := fnOf name qual params body scope dV kV doc pm an cdv ct) (body := body) (binds := l.reverse) hroom (G.k _ _ ho) rfl G.lim (codeRec_of G.k hcd) rfl hbind hcell (locs hloc) (fun h₁ hns hk₁ => ?_) hco hgen hk
  have F : Fm U w g h h.objs.size g h₁ l μ := ⟨by rw [List.reverse_reverse] at hns; exact hns, gd, fun a o e => hk₁ a o (sub a o e), by
      cases e : g h.objs.size with
      | none => rfl
      | some o => exact absurd (Heap.lt_size (sub _ _ e)) (Nat.lt_irrefl _), Nat.le_refl _, G.lo, fun _ _ e => e, fun a o _ e => hk₁ a o e, fun _ _ => rfl,
    fun p hp => ⟨hk₁ _ _ (hμ p hp).1, (hμ p hp).2.1, Nat.ne_of_lt (Heap.lt_size (hμ p hp).1), .inl (hμ p hp).2.2⟩, nd⟩
  exact wpAny_mono (hb _ h₁ _ F) (fun fl s' r => r) fun _ _ e => e.elim
theorem m_enterM (l : List (Str × Value)) {Out : Kn → Heap → Value → Prop} {name qual : Str} {params : Arguments} {body : List Stmt} {scope : Scope} {dV kV doc pm cdv ct oc : Value} {an od : Option Addr} {osl : Array (Option Value)} {f : Addr} {vals : List Value}
    (gd : Gd w g) (sub : Sub g h) (hμ : ∀ p ∈ μ, h.get? p.1 = some p.2 ∧ g p.1 = none ∧ p.1 ∈ U) (nd : (μ.map (·.1)).Nodup)
    (ho : (K0 w.params).lookup f = some ⟨oc, od, .func (fnOf name qual params body scope dV kV doc pm an cdv ct), osl⟩) (hcd : codeIn (K0 w.params) cdv qual = true) (hroom : A.depth < recursionLimit)
    (hbind : BindsTo (St s h t) (fnOf name qual params body scope dV kV doc pm an cdv ct) ⟨vals, []⟩ l.reverse) (hloc : (l.reverse.all fun x => decide (scope.names.lookup x.1 = some .local)) = true)
    (hcell : ∀ x ∈ scope.names, x.2 ≠ .cell) (hco : scope.isCoroutine = false) (hgen : scope.isGenerator = false) (hk : scope.kind = .function)
    (hb : ∀ L h₁ t₁, Fm U w g h L g h₁ l μ →
      wpAny (model prog w) (A.deeper (envOf qual scope L f cdv)) (execs body (envOf qual scope L f cdv)) (fun fl s' => Ret U g s h Out (match fl with | .ret v => v | _ => .none) s') NoE (St s h₁ t₁)) :
    wpAny (model prog w) A (call (.ref f) vals) (Ret U g s h Out) NoE (St s h t) := of_code (m_enterC l gd sub hμ nd ho hcd hroom hbind hloc hcell hco hgen hk hb)
theorem m_enter (l : List (Str × Value)) {Out : Kn → Heap → Value → Prop} {name qual : Str} {params : Arguments} {body : List Stmt} {scope : Scope} {dV kV doc pm cdv ct oc : Value} {an od : Option Addr} {osl : Array (Option Value)} {f : Addr} {vals : List Value}
    (gd : Gd w g) (sub : Sub g h)
    (ho : (K0 w.params).lookup f = some ⟨oc, od, .func (fnOf name qual params body scope dV kV doc pm an cdv ct), osl⟩) (hcd : codeIn (K0 w.params) cdv qual = true) (hroom : A.depth < recursionLimit)
    (hbind : BindsTo (St s h t) (fnOf name qual params body scope dV kV doc pm an cdv ct) ⟨vals, []⟩ l.reverse) (hloc : (l.reverse.all fun x => decide (scope.names.lookup x.1 = some .local)) = true)
    (hcell : ∀ x ∈ scope.names, x.2 ≠ .cell) (hco : scope.isCoroutine = false) (hgen : scope.isGenerator = false) (hk : scope.kind = .function)
    (hb : ∀ L h₁ t₁, Fm [] w g h L g h₁ l [] →
      wpAny (model prog w) (A.deeper (envOf qual scope L f cdv)) (execs body (envOf qual scope L f cdv)) (fun fl s' => Ret [] g s h Out (match fl with | .ret v => v | _ => .none) s') NoE (St s h₁ t₁)) :
    wpAny (model prog w) A (call (.ref f) vals) (Ret [] g s h Out) NoE (St s h t) :=
  m_enterM l gd sub (by simp) (by simp) ho hcd hroom hbind hloc hcell hco hgen hk hb
theorem ret_ {Out : Kn → Heap → Value → Prop} {v : Value} (F : Fm U w g₀ h₀ L g h l μ) (o : Out g h v) : Ret U g₀ s h₀ Out v (St s h t) := ⟨g, h, t, rfl, F.grow, o⟩

/-- a call by its contract -/
theorem m_use {f : Value} {vals : List Value} {Out : Kn → Heap → Value → Prop} {Q : Value → Shared → Prop} (hc : wpAny (model prog w) A (call f vals) (Ret U g s h Out) NoE (St s h t))
    (k : ∀ K : Value → Shared → Prop, (∀ v s', Q v s' → K v s') → ∀ r g' h' t', Grow U g h g' h' → Out g' h' r → K r (St s h' t')) : wpAny (model prog w) A (call f vals) Q E (St s h t) :=
  wpAny_mono hc (fun r s' ⟨g', h', t', e, G, o⟩ => e ▸ k Q (fun _ _ x => x) r g' h' t' G o) fun _ _ e => e.elim

/-! statements -/
noncomputable def Br (b : Bool) (X Y : Prop) : Prop := (b = true → X) ∧ (b = false → Y)
theorem Br.ite {b : Bool} {X Y : Prop} (h : Br b X Y) : if b then X else Y := by cases b; exact h.2 rfl; exact h.1 rfl
variable {M : Model} {sh : Shared}
noncomputable def kRet (Q : Flow → Shared → Prop) : Value → Shared → Prop := fun v => Q (.ret v)
noncomputable abbrev kRest (M : Model) (A : Around) (E : Value → Shared → Prop) (env : Env) (rest : List Stmt) (Q : Flow → Shared → Prop) : Unit → Shared → Prop := fun _ s => wpAny M A (execs rest env) Q E s
noncomputable abbrev kTruth (M : Model) (A : Around) (E : Value → Shared → Prop) (Q : Bool → Shared → Prop) : Value → Shared → Prop := fun v s => wpAny M A (truthy v) Q E s
noncomputable abbrev kCmp2 (M : Model) (A : Around) (E : Value → Shared → Prop) (op : CmpOp) (a : Value) (Q : Value → Shared → Prop) : Value → Shared → Prop := fun b s => wpAny M A (compareOp op a b) Q E s
noncomputable abbrev kCmp1 (M : Model) (A : Around) (E : Value → Shared → Prop) (env : Env) (op : CmpOp) (r : Expr) (Q : Value → Shared → Prop) : Value → Shared → Prop := fun a s => wpAny M A (eval r env) (kCmp2 M A E op a Q) E s
noncomputable abbrev kIfE (M : Model) (A : Around) (E : Value → Shared → Prop) (env : Env) (x y : Expr) (Q : Value → Shared → Prop) : Bool → Shared → Prop := fun b s => Br b (wpAny M A (eval x env) Q E s) (wpAny M A (eval y env) Q E s)
noncomputable abbrev kStore (M : Model) (A : Around) (E : Value → Shared → Prop) (env : Env) (y : Str) (b : Value) (Q : Unit → Shared → Prop) : Unit → Shared → Prop := fun _ s => wpAny M A (storeName env y b) Q E s
noncomputable def kNot (Q : Bool → Shared → Prop) : Bool → Shared → Prop := fun b s => Q (!b) s
noncomputable abbrev kAndT (M : Model) (A : Around) (E : Value → Shared → Prop) (env : Env) (y : Expr) (Q : Bool → Shared → Prop) : Bool → Shared → Prop := fun b s => Br b (wpAny M A (PySem.isTrue y env (eval y env)) Q E s) (Q false s)
noncomputable abbrev kOrT (M : Model) (A : Around) (E : Value → Shared → Prop) (env : Env) (y : Expr) (Q : Bool → Shared → Prop) : Bool → Shared → Prop := fun b s => Br b (Q true s) (wpAny M A (PySem.isTrue y env (eval y env)) Q E s)
noncomputable abbrev kGet (M : Model) (A : Around) (E : Value → Shared → Prop) (attr : Str) (Q : Value → Shared → Prop) : Value → Shared → Prop := fun o s => wpAny M A (getAttr o attr true) Q E s
noncomputable abbrev kAnd2 (M : Model) (A : Around) (E : Value → Shared → Prop) (e : Expr) (env : Env) (v : Value) (Q : Value → Shared → Prop) : Bool → Shared → Prop := fun b s => Br b (wpAny M A (eval e env) Q E s) (Q v s)
noncomputable abbrev kAnd1 (M : Model) (A : Around) (E : Value → Shared → Prop) (e : Expr) (env : Env) (Q : Value → Shared → Prop) : Value → Shared → Prop := fun v s => wpAny M A (truthy v) (kAnd2 M A E e env v Q) E s
noncomputable abbrev kOr2 (M : Model) (A : Around) (E : Value → Shared → Prop) (e : Expr) (env : Env) (v : Value) (Q : Value → Shared → Prop) : Bool → Shared → Prop := fun b s => Br b (Q v s) (wpAny M A (eval e env) Q E s)
noncomputable abbrev kOr1 (M : Model) (A : Around) (E : Value → Shared → Prop) (e : Expr) (env : Env) (Q : Value → Shared → Prop) : Value → Shared → Prop := fun v s => wpAny M A (truthy v) (kOr2 M A E e env v Q) E s
noncomputable abbrev kArg2 (v : Value) (Q : List Value → Shared → Prop) : List Value → Shared → Prop := fun vs s => Q (v :: vs) s
noncomputable abbrev kArg (M : Model) (A : Around) (E : Value → Shared → Prop) (env : Env) (pos : Pos) (rest : List Expr) (Q : List Value → Shared → Prop) : Value → Shared → Prop := fun v s => wpAny M A (spliced (backTo pos (starEach rest env))) (kArg2 v Q) E s
noncomputable abbrev kCall (M : Model) (A : Around) (E : Value → Shared → Prop) (f : Value) (Q : Value → Shared → Prop) : List Value → Shared → Prop := fun vs s => wpAny M A (call f vs) Q E s
noncomputable abbrev kMet (M : Model) (A : Around) (E : Value → Shared → Prop) (name : Str) (pl : Sem Bool) (Q : Value × List Value → Shared → Prop) : Value → Shared → Prop := fun ov s => wpAny M A (getMethod ov name pl) Q E s
noncomputable abbrev kSub2 (M : Model) (A : Around) (E : Value → Shared → Prop) (value slice : Expr) (o : Value) (Q : Value → Shared → Prop) : Value → Shared → Prop := fun i s => wpAny M A (subscriptTail value slice o i) Q E s
noncomputable abbrev kSub1 (M : Model) (A : Around) (E : Value → Shared → Prop) (env : Env) (value slice : Expr) (Q : Value → Shared → Prop) : Value → Shared → Prop := fun o s => wpAny M A (eval slice env) (kSub2 M A E value slice o Q) E s
noncomputable abbrev kBin2 (M : Model) (A : Around) (E : Value → Shared → Prop) (op : Operator) (a : Value) (Q : Value → Shared → Prop) : Value → Shared → Prop := fun b s => wpAny M A (binaryOp op a b) Q E s
noncomputable abbrev kBin1 (M : Model) (A : Around) (E : Value → Shared → Prop) (env : Env) (op : Operator) (y : Expr) (Q : Value → Shared → Prop) : Value → Shared → Prop := fun a s => wpAny M A (eval y env) (kBin2 M A E op a Q) E s
noncomputable abbrev kList (M : Model) (A : Around) (E : Value → Shared → Prop) (Q : Value → Shared → Prop) : List Value → Shared → Prop := fun vs s => wpAny M A (newList vs) Q E s
noncomputable abbrev kTup (M : Model) (A : Around) (E : Value → Shared → Prop) (Q : Value → Shared → Prop) : List Value → Shared → Prop := fun vs s => wpAny M A (newTuple vs) Q E s
noncomputable abbrev kSet3 (M : Model) (A : Around) (E : Value → Shared → Prop) (env : Env) (attr : Str) (v : Value) (rest : List Stmt) (Q : Flow → Shared → Prop) : Value → Shared → Prop := fun ov s => wpAny M A (setAttr ov attr v) (kRest M A E env rest Q) E s
noncomputable abbrev kSet1 (M : Model) (A : Around) (E : Value → Shared → Prop) (env : Env) (attr : Str) (o : Expr) (rest : List Stmt) (Q : Flow → Shared → Prop) : Value → Shared → Prop := fun v s => wpAny M A (eval o env) (kSet3 M A E env attr v rest Q) E s
noncomputable abbrev kIter (M : Model) (A : Around) (E : Value → Shared → Prop) (Q : Value → Shared → Prop) : Value → Shared → Prop := fun v s => wpAny M A (pyIter v) Q E s
noncomputable abbrev kOwn (prog : Program) (w : World) (A : Around) (E : Value → Shared → Prop) (f : Value) (Q : Value → Shared → Prop) : List Value → Shared → Prop := fun vs s => (K0 w.params).In s.heap ∧ wpAny (model prog w) A (call f vs) Q E s
noncomputable abbrev kMethC (prog : Program) (w : World) (A : Around) (E : Value → Shared → Prop) (fx : Value × List Value) (Q : Value → Shared → Prop) : List Value → Shared → Prop := fun vs s => (K0 w.params).In s.heap ∧ wpAny (model prog w) A (call fx.1 (fx.2 ++ vs)) Q E s
noncomputable abbrev kMethF (prog : Program) (w : World) (A : Around) (E : Value → Shared → Prop) (env : Env) (pos : Pos) (args : List Expr) (Q : Value → Shared → Prop) : Value × List Value → Shared → Prop := fun fx s => keepIn (K0 w.params) fx.1 = true ∧ wpAny (model prog w) A (spliced (backTo pos (starEach args env))) (kMethC prog w A E fx Q) E s
noncomputable abbrev kMethBC (M : Model) (A : Around) (E : Value → Shared → Prop) (id : String) (first : List Value) (Q : Value → Shared → Prop) : List Value → Shared → Prop := fun vs s => wpAny M A (call (.builtin id) (first ++ vs)) Q E s
noncomputable abbrev kMethBF (M : Model) (A : Around) (E : Value → Shared → Prop) (env : Env) (pos : Pos) (args : List Expr) (Q : Value → Shared → Prop) : Value × List Value → Shared → Prop := fun fx s => ∃ id, fx.1 = .builtin id ∧ wpAny M A (spliced (backTo pos (starEach args env))) (kMethBC M A E id fx.2 Q) E s
theorem kret_ {Q : Flow → Shared → Prop} {v : Value} {s : Shared} (h : Q (.ret v) s) : kRet Q v s := h
theorem knot_ {Q : Bool → Shared → Prop} {b : Bool} {s : Shared} (h : Q (!b) s) : kNot Q b s := h
theorem m_nil {Q : Flow → Shared → Prop} (h : Q .next sh) : wpAny M A (execs [] env) Q E sh := wpAny_execs_nil h
theorem m_return {e : Expr} {pos : Pos} {rest : List Stmt} {Q : Flow → Shared → Prop} (h : wpAny M A (eval e env) (kRet Q) E sh) : wpAny M A (execs (.Return (some e) pos :: rest) env) Q E sh :=
  wpAny_execs_cons (wpAny_Return_some h)
theorem m_assign {x : Str} {p' p : Pos} {value : Expr} {rest : List Stmt} {Q : Flow → Shared → Prop} (hs : swapsWith value (some (.Name x p')) p.line env = pure false)
    (h : ∀ K : Value → Shared → Prop, (∀ v s₁, wpAny M A (storeName env x v) (kRest M A E env rest Q) E s₁ → K v s₁) → wpAny M A (eval value env) K E sh) : wpAny M A (execs (.Assign [.Name x p'] value p :: rest) env) Q E sh :=
  wpAny_execs_cons (wpAny_Assign_Name (h _ fun _ _ x => x) hs)
theorem m_store {x : Str} {v : Value} {Q : Unit → Shared → Prop} (F : Fm U w g₀ h₀ L g h l μ) (hk : env.scope.kind = .function) (hL : env.locals = L) (hl : env.kindOf x = some .local)
    (hQ : ∀ h' t', Fm U w g₀ h₀ L g h' ((x, v) :: l) μ → Q () (St s h' t')) : wpAny (model prog w) A (storeName env x v) Q E (St s h t) := by
  subst hL
  exact wpAny_storeName_local hl (s := St s h t) F.ns (fun h' hn hs => hQ _ _ (F.store hn hs)) (by rw [hk]; rfl)
noncomputable def isNext : Flow → Bool
  | .next => true
  | _ => false
theorem hideF {α : Type} {m : Sem α} {Q : α → Shared → Prop} (h : ∀ K : α → Shared → Prop, (∀ f s', Q f s' → K f s') → wpAny M A m K E sh) : wpAny M A m Q E sh := h Q fun _ _ x => x
theorem hid_out {α : Type} {Q K : α → Shared → Prop} {f : α} {s' : Shared} (H : ∀ f s', Q f s' → K f s') (h : Q f s') : K f s' := H f s' h
theorem hid_next {N : Shared → Prop} {K : Flow → Shared → Prop} {s' : Shared} (H : ∀ s', N s' → K .next s') (h : N s') : K .next s' := H s' h
theorem hid_ret {Q K : Flow → Shared → Prop} {v : Value} {s' : Shared} (H : ∀ v s', Q (.ret v) s' → K (.ret v) s') (h : Q (.ret v) s') : K (.ret v) s' := H v s' h
theorem hid_flow {Q K : Flow → Shared → Prop} {f : Flow} {s' : Shared} (H : ∀ f s', isNext f = false → Q f s' → K f s') (e : isNext f = false) (h : Q f s') : K f s' := H f s' e h
theorem m_if {test : Expr} {body orelse rest : List Stmt} {pos : Pos} {Q : Flow → Shared → Prop}
    (h : ∀ K : Flow → Shared → Prop, (∀ s', wpAny M A (execs rest env) Q E s' → K .next s') → (∀ f s', isNext f = false → Q f s' → K f s') →
      ∀ K2 : Bool → Shared → Prop, (∀ b s₂, Br b (wpAny M A (execs body env) K E s₂) (wpAny M A (execs orelse env) K E s₂) → K2 b s₂) →
      wpAny M A (PySem.isTrue test env (eval test env)) K2 E sh) : wpAny M A (execs (.If test body orelse pos :: rest) env) Q E sh :=
  wpAny_execs_cons (wpAny_If (h (fun f s' => match f with | .next => wpAny M A (execs rest env) Q E s' | f => Q f s') (fun _ x => x) (fun f s' e x => by cases f <;> first | exact x | cases e) _ (fun _ _ x => x.ite)))
theorem m_cons {st : Stmt} {rest : List Stmt} {Q : Flow → Shared → Prop} (h : wpAny M A (exec st env) (fun f s' => match f with | .next => wpAny M A (execs rest env) Q E s' | f => Q f s') E sh) : wpAny M A (execs (st :: rest) env) Q E sh := wpAny_execs_cons h
theorem m_ifexp {test body orelse : Expr} {pos : Pos} {Q : Value → Shared → Prop}
    (h : wpAny M A (PySem.isTrue test env (eval test env)) (kIfE M A E env body orelse Q) E sh) : wpAny M A (eval (.IfExp test body orelse pos) env) Q E sh :=
  wpAny_IfExp (wpAny_mono h (fun _ _ x => x.ite) fun _ _ e => e)
/-! tests -/
theorem t_not {x : Expr} {pos : Pos} {whole : Sem Value} {Q : Bool → Shared → Prop} (h : wpAny M A (PySem.isTrue x env (eval x env)) (kNot Q) E sh) :
    wpAny M A (PySem.isTrue (.UnaryOp .Not x pos) env whole) Q E sh := wpAny_isTrue_Not h
theorem t_cmp {l r : Expr} {op : CmpOp} {pos : Pos} {whole : Sem Value} {Q : Bool → Shared → Prop} (hm : behindInMarks op r = false)
    (h : wpAny M A (eval l env) (kCmp1 M A E env op r (kTruth M A E Q)) E sh) :
    wpAny M A (PySem.isTrue (.Compare l [op] [r] pos) env whole) Q E sh := wpAny_isTrue_Compare1 h hm
theorem t_and {x y : Expr} {pos : Pos} {whole : Sem Value} {Q : Bool → Shared → Prop}
    (h : wpAny M A (PySem.isTrue x env (eval x env)) (kAndT M A E env y Q) E sh) : wpAny M A (PySem.isTrue (.BoolOp .And [x, y] pos) env whole) Q E sh :=
  wpAny_isTrue_BoolOp (wpAny_allTrue_And_cons (wpAny_mono h (fun b s₁ z => by
    refine Br.ite ⟨fun e => wpAny_allTrue_And_cons (wpAny_mono (z.1 e) (fun c s₂ q => ?_) fun _ _ e => e), z.2⟩
    cases c
    · exact q
    · exact wpAny_allTrue_And_nil q) fun _ _ e => e))
theorem t_or {x y : Expr} {pos : Pos} {whole : Sem Value} {Q : Bool → Shared → Prop}
    (h : wpAny M A (PySem.isTrue x env (eval x env)) (kOrT M A E env y Q) E sh) : wpAny M A (PySem.isTrue (.BoolOp .Or [x, y] pos) env whole) Q E sh :=
  wpAny_isTrue_BoolOp (wpAny_allTrue_Or_cons (wpAny_mono h (fun b s₁ z => by
    refine Br.ite ⟨z.1, fun e => wpAny_allTrue_Or_cons (wpAny_mono (z.2 e) (fun c s₂ q => ?_) fun _ _ e => e)⟩
    cases c
    · exact wpAny_allTrue_Or_nil q
    · exact q) fun _ _ e => e))
theorem t_val {e : Expr} {whole : Sem Value} {Q : Bool → Shared → Prop} (he : PySem.isTrue e env whole = (do let v ← whole; standAt e.pos; holding [v] (truthy v))) (h : wpAny M A whole (kTruth M A E Q) E sh) :
    wpAny M A (PySem.isTrue e env whole) Q E sh := wpAny_isTrue_value h he
theorem t_bool {b : Bool} {Q : Bool → Shared → Prop} (h : Q b sh) : wpAny M A (truthy (.bool b)) Q E sh := wpAny_truthy_bool h
/-! expressions -/
theorem m_cmp {l r : Expr} {op : CmpOp} {pos : Pos} {Q : Value → Shared → Prop} (hm : behindInMarks op r = false)
    (h : wpAny M A (eval l env) (kCmp1 M A E env op r Q) E sh) : wpAny M A (eval (.Compare l [op] [r] pos) env) Q E sh := wpAny_Compare1 h hm
theorem m_attr {x attr : Str} {xp pos : Pos} {Q : Value → Shared → Prop} (h : wpAny M A (eval (.Name x xp) env) (kGet M A E attr Q) E sh) :
    wpAny M A (eval (.Attribute (.Name x xp) attr pos) env) Q E sh := Attribute_name h
theorem m_int {i : Int} {k : Nat} {pos : Pos} {Q : Value → Shared → Prop} (hQ : ∀ tk t', Q (.int i tk) (St s h t')) : wpAny M A (eval (.Constant (.int i) k pos) env) Q E (St s h t) := wpAny_Constant_int (hQ _ _)
theorem m_str {x : Str} {k : Nat} {pos : Pos} {Q : Value → Shared → Prop} (hQ : ∀ tk t', Q (.str x tk) (St s h t')) : wpAny M A (eval (.Constant (.str x) k pos) env) Q E (St s h t) := wpAny_Constant_str (hQ _ _)
theorem m_none {k : Nat} {pos : Pos} {Q : Value → Shared → Prop} (hQ : Q .none sh) : wpAny M A (eval (.Constant .none k pos) env) Q E sh := wpAny_Constant_none hQ
theorem m_and2 {x y : Expr} {pos : Pos} {Q : Value → Shared → Prop}
    (h : wpAny M A (eval x env) (fun v s₁ => wpAny M A (truthy v) (fun t s₂ => Br t (wpAny M A (eval y env) Q E s₂) (Q v s₂)) E s₁) E sh) : wpAny M A (eval (.BoolOp .And [x, y] pos) env) Q E sh :=
  wpAny_And2 (wpAny_mono h (fun v s₁ z => wpAny_mono z (fun _ _ q => q.ite) fun _ _ e => e) fun _ _ e => e)
end
/-! instances -/
noncomputable def EntsAre : List DictEntry → List (Str × Value) → Prop
  | [], [] => True
  | e :: r, p :: q => (∃ t, e.key = .str p.1 t) ∧ e.val = p.2 ∧ EntsAre r q
  | _, _ => False
theorem EntsAre.noRef : ∀ {es : List DictEntry} {fs : List (Str × Value)}, EntsAre es fs → es.any (·.refKey) = false
  | [], [], _ => rfl
  | e :: r, p :: q, ⟨⟨t, a⟩, b, c⟩ => by rw [List.any_cons, c.noRef]; simp [DictEntry.refKey, a]
  | [], _ :: _, h => h.elim
  | _ :: _, [], h => h.elim
theorem EntsAre.find (x : Str) : ∀ {es : List DictEntry} {fs : List (Str × Value)}, EntsAre es fs → (es.find? (·.key.isStr x)).map (·.val) = fs.lookup x
  | [], [], _ => rfl
  | e :: r, p :: q, ⟨⟨t, a⟩, b, c⟩ => by
    obtain ⟨n, v⟩ := p
    rw [List.find?_cons, List.lookup_cons, a]
    show Option.map _ (match (n == x) with | true => _ | false => _) = match (x == n) with | true => _ | false => _
    by_cases h : n = x
    · subst h; simp; exact b
    · have h1 : (n == x) = false := by simpa using h
      have h2 : (x == n) = false := by simpa using (Ne.symm h)
      rw [h1, h2]; exact c.find x
  | [], _ :: _, h => h.elim
  | _ :: _, [], h => h.elim
theorem EntsAre.getL {x : Str} {es : List DictEntry} {fs : List (Str × Value)} (E : EntsAre es fs) : getL x es = some (fs.lookup x) := by
  have h := E.find x
  have n := E.noRef
  unfold W.getL
  split
  · rename_i e he; rw [he] at h; rw [← h]; rfl
  · rename_i he; rw [he] at h; rw [n, ← h]; rfl

noncomputable def Inst (g : Kn) (a C : Addr) (fs : List (Str × Value)) : Prop := ∃ dx es n, g a = some (instObj C dx) ∧ g dx = some (dictOf es n) ∧ EntsAre es fs
theorem Inst.mono {g g' : Kn} {a C : Addr} {fs : List (Str × Value)} (I : Inst g a C fs) (up : Up g g') : Inst g' a C fs :=
  let ⟨dx, es, n, x, y, z⟩ := I; ⟨dx, es, n, up _ _ x, up _ _ y, z⟩

noncomputable def ClsOk (K : Frag) (D : Addr) : Bool :=
  plainGet K D "__class__" && hasDictIn K D && (findIn K (.ref D) "__class__" == some (some (.builtin "object.__class__"))) && (specialIn K (.builtin "object.__class__") "__get__" == some (some (.builtin "getset_descriptor.__get__"))) &&
  (takesIn K (.builtin "object.__class__") == some true) && (mroIn K D (.type "object") == some true)
noncomputable def AttrOk (K : Frag) (D : Addr) (x : Str) : Bool := hasDictIn K D && (findIn K (.ref D) x == some none)
noncomputable def clsAll : List Addr := [72, 99, 126, 153, 180, 207, 234, 261, 288, 362, 455, 486]
noncomputable def attrAll : List Str := ["place", "name", "kind", "value", "args", "items", "pattern", "cons", "known", "tag", "stricts", "type_name", "scheme", "is_newtype"]
theorem clsOk {w : World} : (clsAll.all fun D => ClsOk (K0 w.params) D) = true := by kernel_rfl

section
variable {prog : Program} {w : World} {A : Around} {E : Value → Shared → Prop} {s : Shared} {env : Env} {U : List Addr} {g₀ g : Kn} {h₀ h : Heap} {L : Addr} {t : Nat} {l : List (Str × Value)} {μ : List (Addr × Obj)}

theorem cls_kitx {D x : Addr} {ox od : Obj} (hD : ClsOk (K0 w.params) D = true) : KitX (K0 w.params) (.ref x) (.ref D) (fun h => W.InstAt h x ox D (some od)) := by
  unfold ClsOk at hD
  simp only [Bool.and_eq_true, beq_iff_eq] at hD
  obtain ⟨⟨⟨⟨⟨a, b⟩, c⟩, d⟩, e⟩, f⟩ := hD
  exact kitx_own a b c d e f

theorem Inst.at {a C : Addr} {fs : List (Str × Value)} (I : Inst g a C fs) (sub : Sub g h) :
    ∃ dx es n, W.InstAt h a (instObj C dx) C (some (dictOf es n)) ∧ EntsAre es fs :=
  let ⟨dx, es, n, x, y, z⟩ := I; ⟨dx, es, n, ⟨sub _ _ x, rfl, rfl, sub _ _ y⟩, z⟩

theorem m_isi {a D C : Addr} {b : Bool} {fs : List (Str × Value)} {Q : Value → Shared → Prop} (F : Fm U w g₀ h₀ L g h l μ) (I : Inst g a D fs) (hD : ClsOk (K0 w.params) D = true) (e : kitOne (K0 w.params) (.ref D) (.ref C) = some b)
    (hQ : ∀ t', Q (.bool b) (St s h t')) : wpAny (model prog w) A (call (.builtin "isinstance") [.ref a, .ref C]) Q E (St s h t) := by
  obtain ⟨dx, es, n, J, _⟩ := I.at F.sub
  exact kia_one (H := fun h => W.InstAt h a (instObj D dx) D (some (dictOf es n))) (cls_kitx hD) F.k J e (by intro q; cases q) hQ

theorem m_isiT {a D tp : Addr} {its : List Value} {b : Bool} {n : Nat} {fs : List (Str × Value)} {Q : Value → Shared → Prop} (F : Fm U w g₀ h₀ L g h l μ) (I : Inst g a D fs) (hD : ClsOk (K0 w.params) D = true)
    (htp : h.get? tp = some { cls := .type "tuple", data := .seq its.toArray n }) (e : kitAny (K0 w.params) (.ref D) its = some b)
    (hQ : ∀ t', Q (.bool b) (St s h t')) : wpAny (model prog w) A (call (.builtin "isinstance") [.ref a, .ref tp]) Q E (St s h t) := by
  obtain ⟨dx, es, n, J, _⟩ := I.at F.sub
  exact kia_tup (H := fun h => W.InstAt h a (instObj D dx) D (some (dictOf es n))) (cls_kitx hD) F.k J htp e (by intro q; cases q) hQ

theorem m_getattr {a D : Addr} {x : Str} {v : Value} {fs : List (Str × Value)} {expr : Bool} {Q : Value → Shared → Prop} (F : Fm U w g₀ h₀ L g h l μ) (I : Inst g a D fs) (hv : fs.lookup x = some v) (hD : ClsOk (K0 w.params) D = true) (hA : AttrOk (K0 w.params) D x = true)
    (hh : handedIn v = true) (hQ : ∀ t', Q v (St s h t')) : wpAny (model prog w) A (getAttr (.ref a) x expr) Q E (St s h t) := by
  obtain ⟨dx, es, n, J, EA⟩ := I.at F.sub
  unfold AttrOk at hA
  simp only [Bool.and_eq_true, beq_iff_eq] at hA
  unfold ClsOk at hD
  simp only [Bool.and_eq_true, beq_iff_eq] at hD
  exact get_value (s := St s h t) F.k J (plainGet_of hD.1.1.1.1.1).1 (findObj_own hA.1 hA.2 rfl (by show lookIn x (dictOf es n) = _; rw [lookIn_dict, EA.getL, hv])) hh (hQ _)

theorem m_method {a D f : Addr} {x : Str} {fs : List (Str × Value)} {pl : Sem Bool} {Q : Value × List Value → Shared → Prop} (F : Fm U w g₀ h₀ L g h l μ) (I : Inst g a D fs) (hv : fs.lookup x = none) (hD : ClsOk (K0 w.params) D = true)
    (hf : findIn (K0 w.params) (.ref D) x = some (some (.ref f))) (ht : typeIn (K0 w.params) (.ref f) = some (.type "function")) (hQ : Q (.ref f, [.ref a]) (St s h t)) : wpAny (model prog w) A (getMethod (.ref a) x pl) Q E (St s h t) := by
  obtain ⟨dx, es, n, J, EA⟩ := I.at F.sub
  unfold ClsOk at hD
  simp only [Bool.and_eq_true, beq_iff_eq] at hD
  exact method_fn (s := St s h t) F.k J (plainGet_of hD.1.1.1.1.1).1 (plainGet_of hD.1.1.1.1.1).2 hf ht (by show (lookIn x (dictOf es n)).map _ = _; rw [lookIn_dict, EA.getL, hv]; rfl) hQ
end

/-! patterns -/
inductive Cn where
  | a | b | pr | nil | cons
  deriving DecidableEq
noncomputable def Cn.name : Cn → Str
  | .a => "M.A" | .b => "M.B" | .pr => "(,)" | .nil => "[]" | .cons => ":"
inductive At where
  | wild | pvar | plazy | chr (c : Nat)
inductive Pat where
  | wild | pvar | plazy
  | int (i : Int) | chr (c : Nat) | text (cs : List Nat)
  | con0 (c : Cn) | con2 (c : Cn) (x y : Pat) | tup (x y : Pat)
  | lst (xs : List At)
  | as (p : Pat) | bang (p : Pat)
noncomputable def atomOf : At → Pat
  | .wild => .wild
  | .pvar => .pvar
  | .plazy => .plazy
  | .chr c => .chr c
noncomputable def Pat.cls : Pat → Addr
  | .wild => 99 | .pvar => 72 | .plazy => 261 | .int _ | .chr _ | .text _ => 126 | .con0 _ | .con2 .. => 153 | .tup .. => 180 | .lst _ => 207 | .as _ => 234 | .bang _ => 288
noncomputable def strOf (cs : List Nat) : Str := ⟨cs.toArray⟩
noncomputable def listO (vs : List Value) (n : Nat) : Obj := { cls := .type "list", data := .seq vs.toArray n }
noncomputable def IsL (g : Kn) (v : Value) (vs : List Value) : Prop := ∃ a n, v = .ref a ∧ g a = some (listO vs n)
theorem IsL.mono {g g' : Kn} {v : Value} {vs : List Value} (I : IsL g v vs) (up : Up g g') : IsL g' v vs := let ⟨a, n, x, y⟩ := I; ⟨a, n, x, up _ _ y⟩

inductive PatAt (g : Kn) : Value → Pat → Prop
  | wild {a} : Inst g a 99 [("place", .none)] → PatAt g (.ref a) .wild
  | pvar {a v} : Inst g a 72 [("place", .none), ("name", v)] → PatAt g (.ref a) .pvar
  | plazy {a v} : Inst g a 261 [("place", .none), ("pattern", v)] → PatAt g (.ref a) .plazy
  | int {a i t u} : Inst g a 126 [("place", .none), ("kind", .str "int" t), ("value", .int i u)] → PatAt g (.ref a) (.int i)
  | chr {a c t u} : Inst g a 126 [("place", .none), ("kind", .str "char" t), ("value", .str (strOf [c]) u)] → PatAt g (.ref a) (.chr c)
  | text {a cs t u} : Inst g a 126 [("place", .none), ("kind", .str "text" t), ("value", .str (strOf cs) u)] → PatAt g (.ref a) (.text cs)
  | con0 {a c t v} : Inst g a 153 [("place", .none), ("name", .str (Cn.name c) t), ("args", v)] → IsL g v [] → PatAt g (.ref a) (.con0 c)
  | con2 {a c t v x y p q} : Inst g a 153 [("place", .none), ("name", .str (Cn.name c) t), ("args", v)] → IsL g v [x, y] → PatAt g x p → PatAt g y q → PatAt g (.ref a) (.con2 c p q)
  | tup {a v x y p q} : Inst g a 180 [("place", .none), ("items", v)] → IsL g v [x, y] → PatAt g x p → PatAt g y q → PatAt g (.ref a) (.tup p q)
  | lst {a v vs xs} : Inst g a 207 [("place", .none), ("items", v)] → IsL g v vs → vs.length = xs.length → (∀ (i : Nat) (x : Value) (o : At), vs[i]? = some x → xs[i]? = some o → PatAt g x (atomOf o)) → PatAt g (.ref a) (.lst xs)
  | as {a n v p} : Inst g a 234 [("place", .none), ("name", n), ("pattern", v)] → PatAt g v p → PatAt g (.ref a) (.as p)
  | bang {a v p} : Inst g a 288 [("place", .none), ("pattern", v)] → PatAt g v p → PatAt g (.ref a) (.bang p)

theorem PatAt.mono {g g' : Kn} {v : Value} {p : Pat} (P : PatAt g v p) (up : Up g g') : PatAt g' v p := by
  induction P with
  | wild I => exact .wild (I.mono up)
  | pvar I => exact .pvar (I.mono up)
  | plazy I => exact .plazy (I.mono up)
  | int I => exact .int (I.mono up)
  | chr I => exact .chr (I.mono up)
  | text I => exact .text (I.mono up)
  | con0 I J => exact .con0 (I.mono up) (J.mono up)
  | con2 I J _ _ a b => exact .con2 (I.mono up) (J.mono up) a b
  | tup I J _ _ a b => exact .tup (I.mono up) (J.mono up) a b
  | lst I J n _ a => exact .lst (I.mono up) (J.mono up) n a
  | as I _ a => exact .as (I.mono up) a
  | bang I _ a => exact .bang (I.mono up) a
theorem PatAt.inst {g : Kn} {v : Value} {p : Pat} (P : PatAt g v p) : ∃ a fs, v = .ref a ∧ Inst g a p.cls fs := by
  cases P <;> exact ⟨_, _, rfl, by assumption⟩

noncomputable def patCls : List Addr := [72, 99, 126, 153, 180, 207, 234, 261, 288]
theorem kit_tab {w : World} : (patCls.all fun D => patCls.all fun C => kitOne (K0 w.params) (.ref D) (.ref C) == some (D == C)) = true := by kernel_rfl
theorem Pat.cls_mem (p : Pat) : p.cls ∈ patCls := List.mem_of_elem_eq_true (by cases p <;> rfl)
theorem kit_of {w : World} {D C : Addr} (hD : D ∈ patCls) (hC : C ∈ patCls) : kitOne (K0 w.params) (.ref D) (.ref C) = some (D == C) := by
  have h := List.all_eq_true.mp (List.all_eq_true.mp (kit_tab (w := w)) D hD) C hC
  exact beq_iff_eq.mp h
theorem kit_any {w : World} {D : Addr} (hD : D ∈ patCls) : ∀ (Cs : List Addr), (∀ C ∈ Cs, C ∈ patCls) → kitAny (K0 w.params) (.ref D) (Cs.map .ref) = some (Cs.contains D)
  | [], _ => rfl
  | C :: r, h => by
    have e := kit_any (w := w) hD r fun C' hC => h C' (.tail _ hC)
    rw [List.map_cons]
    unfold kitAny
    rw [kit_of hD (h C (.head _))]
    rw [List.contains_cons]
    cases q : (D == C) with
    | true => simp
    | false => simp [e]
theorem patCls_ok {w : World} {D : Addr} (h : D ∈ patCls) : ClsOk (K0 w.params) D = true :=
  List.all_eq_true.mp clsOk D (List.mem_of_elem_eq_true (List.all_eq_true.mp (show (patCls.all fun D => List.elem D clsAll) = true from rfl) D h))

section
variable {prog : Program} {w : World} {A : Around} {E : Value → Shared → Prop} {s : Shared} {env : Env} {U : List Addr} {g₀ g : Kn} {h₀ h : Heap} {L : Addr} {t : Nat} {l : List (Str × Value)} {μ : List (Addr × Obj)}
theorem m_isiP {v : Value} {p : Pat} {C : Addr} {Q : Value → Shared → Prop} (F : Fm U w g₀ h₀ L g h l μ) (P : PatAt g v p) (hC : C ∈ patCls) (hQ : ∀ t', Q (.bool (p.cls == C)) (St s h t')) :
    wpAny (model prog w) A (call (.builtin "isinstance") [v, .ref C]) Q E (St s h t) := by
  obtain ⟨a, fs, rfl, I⟩ := P.inst
  exact m_isi F I (patCls_ok p.cls_mem) (kit_of p.cls_mem hC) hQ
theorem m_isiPT {v : Value} {p : Pat} {Cs : List Addr} {tp : Addr} {n : Nat} {Q : Value → Shared → Prop} (F : Fm U w g₀ h₀ L g h l μ) (P : PatAt g v p) (hC : ∀ C ∈ Cs, C ∈ patCls) (htp : h.get? tp = some { cls := .type "tuple", data := .seq (Cs.map Value.ref).toArray n })
    (hQ : ∀ t', Q (.bool (Cs.contains p.cls)) (St s h t')) : wpAny (model prog w) A (call (.builtin "isinstance") [v, .ref tp]) Q E (St s h t) := by
  obtain ⟨a, fs, rfl, I⟩ := P.inst
  exact m_isiT F I (patCls_ok p.cls_mem) htp (kit_any p.cls_mem Cs hC) hQ
end
section
variable {M : Model} {prog : Program} {w : World} {A : Around} {E : Value → Shared → Prop} {s sh : Shared} {env : Env} {U : List Addr} {g₀ g : Kn} {h₀ h : Heap} {L : Addr} {t : Nat} {l : List (Str × Value)} {μ : List (Addr × Obj)}

theorem i_nil {pos : Pos} {Q : List Value → Shared → Prop} (h : Q [] sh) : wpAny M A (spliced (backTo pos (starEach [] env))) Q E sh := wpAny_items_nil h
theorem i_cons {pos : Pos} {e : Expr} {rest : List Expr} {Q : List Value → Shared → Prop} (he : starEach (e :: rest) env = (false, eval e env) :: starEach rest env)
    (h : wpAny M A (eval e env) (kArg M A E env pos rest Q) E sh) : wpAny M A (spliced (backTo pos (starEach (e :: rest) env))) Q E sh := wpAny_items_cons h he

/-- f(x, ..) of a built-in -/
theorem c_bi {f : Str} {p pos : Pos} {id : String} {e : Expr} {rest : List Expr} {Q : Value → Shared → Prop}
    (hn : wpAny M A (eval (.Name f p) env) (fun v s₁ => v = .builtin id ∧ s₁ = sh) E sh)
    (he : starEach (e :: rest) env = (false, eval e env) :: starEach rest env) (hplain : (backTo pos (starEach rest env)).any (·.1) = false)
    (h : wpAny M A (spliced (backTo pos (starEach (e :: rest) env))) (kCall M A E (.builtin id) Q) E sh) : wpAny M A (eval (.Call (.Name f p) (e :: rest) [] pos) env) Q E sh := by
  refine wpAny_Call_Name_kw (wpAny_mono hn (fun v s₁ hv => ?_) fun _ _ x => x)
  obtain ⟨rfl, rfl⟩ := hv
  exact callWith_method1 (first := []) h he hplain
theorem c_ty {f : Str} {p pos : Pos} {T : String} {e : Expr} {rest : List Expr} {Q : Value → Shared → Prop}
    (hn : wpAny M A (eval (.Name f p) env) (fun v s₁ => v = .type T ∧ s₁ = sh) E sh)
    (he : starEach (e :: rest) env = (false, eval e env) :: starEach rest env) (hplain : (backTo pos (starEach rest env)).any (·.1) = false)
    (h : wpAny M A (spliced (backTo pos (starEach (e :: rest) env))) (kCall M A E (.type T) Q) E sh) : wpAny M A (eval (.Call (.Name f p) (e :: rest) [] pos) env) Q E sh := by
  refine wpAny_Call_Name_kw (wpAny_mono hn (fun v s₁ hv => ?_) fun _ _ x => x)
  obtain ⟨rfl, rfl⟩ := hv
  exact PyProof.Rows.callWith_type1 h he hplain
/-- f(x, ..) of the text's own def or class -/
theorem c_own {f : Str} {p pos : Pos} {fv : Value} {e : Expr} {rest : List Expr} {Q : Value → Shared → Prop}
    (hn : wpAny (model prog w) A (eval (.Name f p) env) (fun v s₁ => v = fv ∧ s₁ = sh) E sh) (hk : keepIn (K0 w.params) fv = true ∧ True)
    (he : starEach (e :: rest) env = (false, eval e env) :: starEach rest env) (hplain : (backTo pos (starEach rest env)).any (·.1) = false)
    (h : wpAny (model prog w) A (spliced (backTo pos (starEach (e :: rest) env))) (kOwn prog w A E fv Q) E sh) : wpAny (model prog w) A (eval (.Call (.Name f p) (e :: rest) [] pos) env) Q E sh := by
  refine wpAny_Call_Name_kw (wpAny_mono hn (fun v s₁ hv => ?_) fun _ _ x => x)
  obtain ⟨rfl, rfl⟩ := hv
  show wpAny (model prog w) A (callWith pos v [] (backTo pos (starEach (e :: rest) env)) []) Q E s₁
  rw [he] at h ⊢
  exact callWith_of (first := []) (by show ((false || (backTo pos (starEach rest env)).any (·.1)) || false) = false; rw [hplain]; rfl) (keeps_K hk.1) (evalArgs_plain h)
/-- o.f(x, ..) of an own class's method -/
theorem c_meth {o : Expr} {name : Str} {apos pos : Pos} {e : Expr} {rest : List Expr} {pl : Sem Bool} {Q : Value → Shared → Prop}
    (hk : eval (.Call (.Attribute o name apos) (e :: rest) [] pos) env = (do
      let ov ← eval o env
      standAt apos.atName
      let (f, first) ← holding [ov] (getMethod ov name pl)
      callWith pos f first (backTo pos (starEach (e :: rest) env)) []))
    (he : starEach (e :: rest) env = (false, eval e env) :: starEach rest env) (hplain : (backTo pos (starEach rest env)).any (·.1) = false)
    (h : wpAny (model prog w) A (eval o env) (kMet (model prog w) A E name pl (kMethF prog w A E env pos (e :: rest) Q)) E sh) :
    wpAny (model prog w) A (eval (.Call (.Attribute o name apos) (e :: rest) [] pos) env) Q E sh := by
  refine MethodCall_ (wpAny_mono h (fun ov s₁ h₁ => wpAny_mono h₁ (fun fx s₂ h₂ => ?_) fun _ _ x => x) fun _ _ x => x) hk
  obtain ⟨hk, h₂⟩ := h₂
  rw [he] at h₂ ⊢
  exact callWith_of (by show ((false || (backTo pos (starEach rest env)).any (·.1)) || false) = false; rw [hplain]; rfl) (keeps_K hk) (evalArgs_plain h₂)

theorem m_and {x y : Expr} {r : List Expr} {pos : Pos} {Q : Value → Shared → Prop}
    (h : wpAny M A (eval x env) (kAnd1 M A E (.BoolOp .And (y :: r) pos) env Q) E sh) : wpAny M A (eval (.BoolOp .And (x :: y :: r) pos) env) Q E sh := by
  show wpAny M A (do let v ← eval x env; standAt pos; let t ← holding [v] (truthy v); match BoolOp.And, t with | .And, false | .Or, true => pure v | _, _ => boolOp pos .And (eval y env :: evalEach r env)) Q E sh
  refine wpAny_bind (wpAny_mono h (fun v s₁ h₁ => wpAny_bind (wpAny_standAt (wpAny_bind (wpAny_holding (wpAny_mono h₁ (fun b s₂ h₂ => ?_) fun _ _ e => e))))) fun _ _ e => e)
  cases b
  · exact wpAny_pure (h₂.2 rfl)
  · exact h₂.1 rfl
theorem m_or {x y : Expr} {r : List Expr} {pos : Pos} {Q : Value → Shared → Prop}
    (h : wpAny M A (eval x env) (kOr1 M A E (.BoolOp .Or (y :: r) pos) env Q) E sh) : wpAny M A (eval (.BoolOp .Or (x :: y :: r) pos) env) Q E sh := by
  show wpAny M A (do let v ← eval x env; standAt pos; let t ← holding [v] (truthy v); match BoolOp.Or, t with | .And, false | .Or, true => pure v | _, _ => boolOp pos .Or (eval y env :: evalEach r env)) Q E sh
  refine wpAny_bind (wpAny_mono h (fun v s₁ h₁ => wpAny_bind (wpAny_standAt (wpAny_bind (wpAny_holding (wpAny_mono h₁ (fun b s₂ h₂ => ?_) fun _ _ e => e))))) fun _ _ e => e)
  cases b
  · exact h₂.2 rfl
  · exact wpAny_pure (h₂.1 rfl)
theorem m_one {op : BoolOp} {x : Expr} {pos : Pos} {Q : Value → Shared → Prop} (h : wpAny M A (eval x env) Q E sh) : wpAny M A (eval (.BoolOp op [x] pos) env) Q E sh := h

theorem eqs {x y : Str} {t' u : Tok} {Q : Value → Shared → Prop} (h : Q (.bool (x == y)) sh) : wpAny (model prog w) A (compareOp .Eq (.str x t') (.str y u)) Q E sh := eq_str h
theorem eqi {x y : Int} {t' u : Tok} {Q : Value → Shared → Prop} (h : Q (.bool (x == y)) sh) : wpAny (model prog w) A (compareOp .Eq (.int x t') (.int y u)) Q E sh := eq_int h
end
/-! the library's frames and ledgers out of mine, and back -/
noncomputable def hK (w : World) : Heap := ⟨((List.range 549).map fun a => ((K0 w.params).lookup a).getD ⟨.none, none, .freed, #[]⟩).toArray, {}⟩
noncomputable def notFreed (o : Obj) : Bool := match o.data with | .freed => false | _ => true
theorem get?_notFreed {h : Heap} {a : Addr} {o : Obj} (e : h.get? a = some o) : notFreed o = true := by
  unfold Heap.get? at e
  split at e
  · cases e
  · rename_i x y
    obtain ⟨c, d, dt, sl⟩ := o
    cases dt <;> first | rfl | exact absurd e (y _ _ _)
theorem k_small {w : World} : ((K0 w.params).all fun p => decide (p.1 < 549) && notFreed p.2) = true := by kernel_rfl
theorem lookup_mem {K : Frag} {a : Addr} {o : Obj} (e : K.lookup a = some o) : (a, o) ∈ K := by
  induction K with
  | nil => cases e
  | cons p r ih =>
    obtain ⟨b, x⟩ := p
    rw [List.lookup_cons] at e
    by_cases h : a = b
    · subst h; simp at e; subst e; exact .head _
    · have : (a == b) = false := by simpa using h
      rw [this] at e; exact .tail _ (ih e)
theorem hK_get {w : World} {a : Addr} {o : Obj} : (hK w).get? a = some o ↔ (K0 w.params).lookup a = some o := by
  have g1 : ∀ a, (hK w).objs[a]? = if a < 549 then some (((K0 w.params).lookup a).getD ⟨.none, none, .freed, #[]⟩) else none := by
    intro a
    show ((List.range 549).map _).toArray[a]? = _
    rw [List.getElem?_toArray, List.getElem?_map]
    by_cases h : a < 549
    · rw [List.getElem?_range h]; simp [h]
    · rw [List.getElem?_eq_none (by simpa using h)]; simp [h]
  constructor
  · intro e
    have nf := get?_notFreed e
    unfold Heap.get? at e
    rw [g1] at e
    split at e
    · cases e
    · split at e
      · cases q : (K0 w.params).lookup a with
        | none => rw [q] at e; cases e; cases nf
        | some x => rw [q] at e; exact e
      · cases e
  · intro e
    have m := List.all_eq_true.mp (k_small (w := w)) _ (lookup_mem e)
    simp only [Bool.and_eq_true, decide_eq_true_eq] at m
    unfold Heap.get?
    rw [g1, if_pos m.1, e]
    obtain ⟨c, d, dt, sl⟩ := o
    cases dt <;> first | rfl | exact Bool.noConfusion m.2
theorem hK_in {w : World} : (K0 w.params).In (hK w) := fun _ _ e => hK_get.mpr e

noncomputable def bag (w : World) (h : Heap) (no : List Addr) : List (Addr × Obj) := (List.range h.objs.size).filterMap fun a => if no.contains a || ((K0 w.params).lookup a).isSome then none else (h.get? a).map fun o => (a, o)
theorem mem_bag {w : World} {h : Heap} {no : List Addr} {p : Addr × Obj} : p ∈ bag w h no ↔ h.get? p.1 = some p.2 ∧ p.1 ∉ no ∧ (K0 w.params).lookup p.1 = none := by
  unfold bag
  rw [List.mem_filterMap]
  constructor
  · rintro ⟨a, _, e⟩
    split at e
    · cases e
    · rename_i c
      obtain ⟨o, ho, rfl⟩ := Option.map_eq_some_iff.mp e
      simp only [Bool.or_eq_true, not_or, Bool.not_eq_true, List.contains_eq_mem, decide_eq_false_iff_not, Option.isSome_eq_false_iff, Option.isNone_iff_eq_none] at c
      exact ⟨ho, c.1, c.2⟩
  · rintro ⟨a, b, c⟩
    refine ⟨p.1, List.mem_range.mpr (Heap.lt_size a), ?_⟩
    rw [if_neg (by simp [b, c]), a]; rfl

section
variable {U : List Addr} {w : World} {g₀ g : Kn} {h₀ h h' : Heap} {L : Addr} {l l' : List (Str × Value)} {μ μ' : List (Addr × Obj)} {m' : Str → Option Value}
theorem Fm.toFr (F : Fm U w g₀ h₀ L g h l μ) : Fr (hK w) L h (fun y => l.lookup y) :=
  ⟨F.ns, fun b o e => F.k _ _ (hK_get.mp e), by
    have := F.lo
    have := F.above
    show ((List.range 549).map _).toArray.size ≤ L
    simp; omega⟩
theorem hK_none {a : Addr} (e : (K0 w.params).lookup a = none) : (hK w).get? a = none := by
  cases q : (hK w).get? a with
  | none => rfl
  | some o => rw [hK_get.mp q] at e; cases e
theorem Fm.k_none (F : Fm U w g₀ h₀ L g h l μ) {a : Addr} (e : g a = none) : (K0 w.params).lookup a = none := by
  obtain ⟨hB, x, y⟩ := F.gd
  cases q : (K0 w.params).lookup a with
  | none => rfl
  | some o => have := y _ _ (x.k _ _ q); rw [e] at this; cases this
theorem Fm.toNews (F : Fm U w g₀ h₀ L g h l μ) {no : List Addr} (hL : L ∈ no) : News (hK w) L h (bag w h no) := fun p hp => by
  obtain ⟨a, b, c⟩ := mem_bag.mp hp
  exact ⟨a, fun e => b (e ▸ hL), hK_none c⟩
theorem bag_back {no : List Addr} {news : List (Addr × Obj)} (F' : Fr (hK w) L h' m') (N' : News (hK w) L h' news) (hs : ∀ p ∈ bag w h no, p ∈ news) (k : (K0 w.params).In h) :
    ∀ b o, b ∉ no → h.get? b = some o → h'.get? b = some o := fun b o hb e => by
  cases q : (K0 w.params).lookup b with
  | none => exact (N' (b, o) (hs _ (mem_bag.mpr ⟨e, hb, q⟩))).1
  | some x => have := k _ _ q; rw [e] at this; cases this; exact F'.keep _ _ (hK_get.mpr q)
/-- back from the library's frames -/
theorem Fm.re (F : Fm U w g₀ h₀ L g h l μ) (ns : h'.Ns L (fun y => l'.lookup y)) (no : List Addr) (hk : ∀ b o, b ∉ L :: no → h.get? b = some o → h'.get? b = some o) (hno : ∀ a ∈ no, a ∈ μ.map (·.1))
    (ha : μ'.map (·.1) = μ.map (·.1)) (hμ : ∀ p ∈ μ', h'.get? p.1 = some p.2) : Fm U w g₀ h₀ L g h' l' μ' := by
  have off : ∀ a ∈ L :: no, g a = none ∧ (a ∈ U ∨ h₀.objs.size ≤ a) := by
    intro a hm
    rcases List.mem_cons.mp hm with rfl | hm
    · exact ⟨F.off, .inr F.above⟩
    · obtain ⟨p, hp, rfl⟩ := List.mem_map.mp (hno a hm)
      exact ⟨(F.mu p hp).2.1, (F.mu p hp).2.2.2⟩
  refine ⟨ns, F.gd, fun b o e => hk b o (fun q => ?_) (F.sub b o e), F.off, F.above, F.lo, F.up, fun b o n e => hk b o (fun q => ?_) (F.all b o n e), F.old, fun p hp => ?_, by rw [ha]; exact F.nd⟩
  · have := (off b q).1; rw [e] at this; cases this
  · rcases (off b q).2 with z | z
    · exact n z
    · exact absurd (Heap.lt_size e) (Nat.not_lt.mpr z)
  · have : p.1 ∈ μ.map (·.1) := ha ▸ List.mem_map_of_mem hp
    obtain ⟨q, hq, e⟩ := List.mem_map.mp this
    have z := (F.mu q hq).2
    rw [e] at z
    exact ⟨hμ p hp, z⟩
end
/-! stores into an instance; making one -/
noncomputable def SetOk (K : Frag) (C : Addr) (name : Str) : Bool :=
  (findIn K (.ref C) "__setattr__" == some (some (.builtin "object.__setattr__"))) && plainOver K C && (takerIn K C name == some none) && hasDictIn K C
theorem EntsAre.isNew {x : Str} : ∀ {es : List DictEntry} {fs : List (Str × Value)}, EntsAre es fs → fs.lookup x = none → es.any (·.key.isStr x) = false
  | [], [], _, _ => rfl
  | e :: r, (n, v) :: q, ⟨⟨t, a⟩, b, c⟩, h => by
    rw [List.lookup_cons] at h
    by_cases hx : x = n
    · subst hx; simp at h
    · have h2 : (x == n) = false := by simpa using hx
      rw [h2] at h
      rw [List.any_cons, c.isNew h, a]
      show (n == x || false) = false
      have : (n == x) = false := by simpa using (Ne.symm hx)
      rw [this]; rfl
  | [], _ :: _, h, _ => h.elim
  | _ :: _, [], h, _ => h.elim
theorem EntsAre.put {x : Str} {hs : Int} {tk : Tok} {v : Value} : ∀ {es : List DictEntry} {fs : List (Str × Value)}, EntsAre es fs → fs.lookup x = none → EntsAre (putL x hs (.str x tk) v es) (fs ++ [(x, v)])
  | [], [], _, _ => ⟨⟨tk, rfl⟩, rfl, trivial⟩
  | e :: r, (n, u) :: q, ⟨⟨t, a⟩, b, c⟩, h => by
    rw [List.lookup_cons] at h
    by_cases hx : x = n
    · subst hx; simp at h
    · have h2 : (x == n) = false := by simpa using hx
      rw [h2] at h
      have : e.key.isStr x = false := by rw [a]; show (n == x) = false; simpa using (Ne.symm hx)
      unfold putL
      rw [if_neg (by rw [this]; decide)]
      exact ⟨⟨t, a⟩, b, c.put h⟩
  | [], _ :: _, h, _ => h.elim
  | _ :: _, [], h, _ => h.elim
theorem EntsAre.len : ∀ {es : List DictEntry} {fs : List (Str × Value)}, EntsAre es fs → es.length = fs.length
  | [], [], _ => rfl
  | _ :: _, _ :: _, ⟨_, _, c⟩ => congrArg (· + 1) c.len
  | [], _ :: _, h => h.elim
  | _ :: _, [], h => h.elim

section
variable {prog : Program} {w : World} {A : Around} {E : Value → Shared → Prop} {s : Shared} {env : Env} {U : List Addr} {g₀ g : Kn} {h₀ h : Heap} {L : Addr} {t : Nat} {l : List (Str × Value)} {μ : List (Addr × Obj)}
theorem m_setattr {x dx C : Addr} {name : Str} {v : Value} {es : List DictEntry} {fs : List (Str × Value)} {n : Nat} {Q : Unit → Shared → Prop}
    (F : Fm U w g₀ h₀ L g h l ((dx, dictOf es n) :: (x, instObj C dx) :: μ)) (EA : EntsAre es fs) (hnew : fs.lookup name = none) (hS : SetOk (K0 w.params) C name = true) (hz : fs.length ≤ 100)
    (hQ : ∀ h' t' es' n', Fm U w g₀ h₀ L g h' l ((dx, dictOf es' n') :: (x, instObj C dx) :: μ) → EntsAre es' (fs ++ [(name, v)]) → Q () (St s h' t')) : wpAny (model prog w) A (setAttr (.ref x) name v) Q E (St s h t) := by
  unfold SetOk at hS
  simp only [Bool.and_eq_true, beq_iff_eq] at hS
  obtain ⟨⟨⟨s1, s2⟩, s3⟩, s4⟩ := hS
  have M1 := F.mu _ (.head _)
  have M2 := F.mu _ (.tail _ (.head _))
  have I : W.InstAt (St s h t).heap x (instObj C dx) C (some (dictOf es n)) := ⟨M2.1, rfl, rfl, M1.1⟩
  have N := F.toNews (no := [L, dx]) (.head _)
  have N1 : News (hK w) L h ((dx, dictOf es n) :: bag w h [L, dx]) := fun p hp => by
    rcases List.mem_cons.mp hp with rfl | hp
    · exact ⟨M1.1, M1.2.2.1, hK_none (F.k_none M1.2.1)⟩
    · exact N p hp
  refine set_dict (s := St s h t) (es' := putL name (PyData.keyHash w.params name) (.str name (t + 1)) v es) (n' := putN name es n) F.toFr hK_in N1 I rfl s1 s2 s3 s4 (by rw [EA.getL]; rfl) rfl (Upd.head fun p hp => ?_) ?_ fun h' F' N' => ?_
  · obtain ⟨_, b, _⟩ := mem_bag.mp hp
    exact fun q => b (by rw [q]; exact .tail _ (.head _))
  · have := (EA.put (x := name) (hs := PyData.keyHash w.params name) (tk := t + 1) (v := v) hnew).len
    rw [this, List.length_append]; simp; omega
  · have bk := bag_back (no := [L, dx]) F' N' (fun p hp => .tail _ hp) F.k
    have nd := F.nd
    simp only [List.map_cons, List.nodup_cons, List.mem_cons, not_or] at nd
    refine hQ h' _ (putL name (PyData.keyHash w.params name) (.str name (t + 1)) v es) (putN name es n) (F.re F'.ns [dx] bk (by simp) (by simp) fun p hp => ?_) (EA.put hnew)
    rcases List.mem_cons.mp hp with rfl | hp
    · exact (N' _ (.head _)).1
    · have z := F.mu p (.tail _ hp)
      refine bk p.1 p.2 (fun q => ?_) z.1
      rcases List.mem_cons.mp q with q | q
      · exact z.2.2.1 q
      · rw [List.mem_singleton] at q
        rcases List.mem_cons.mp hp with rfl | hp
        · exact nd.1.1 q.symm
        · exact nd.1.2 (q ▸ List.mem_map_of_mem hp)

/-- o.f = v -/
theorem m_putattr {o : Expr} {attr : Str} {p' p : Pos} {value : Expr} {rest : List Stmt} {Q : Flow → Shared → Prop} {M : Model} {sh : Shared} (hs : swapsWith value (some (.Attribute o attr p')) p.line env = pure false)
    (h : wpAny M A (eval value env) (kSet1 M A E env attr o rest Q) E sh) :
    wpAny M A (execs (.Assign [.Attribute o attr p'] value p :: rest) env) Q E sh := wpAny_execs_cons (plainObj_wpAny_Assign_Attribute h hs)
/-- a call as a statement -/
theorem m_expr {e : Expr} {pos : Pos} {rest : List Stmt} {Q : Flow → Shared → Prop} {sh : Shared} (hi : interactive env = false) (hs : swapsWith e none pos.line env = pure false)
    (h : wpAny (model prog w) A (eval e env) (fun _ s₁ => wpAny (model prog w) A (execs rest env) Q E s₁) E sh) : wpAny (model prog w) A (execs (.Expr e pos :: rest) env) Q E sh := wpAny_execs_cons (wpAny_Expr_any h hi hs)
/-- C.f of a class C of the top's -/
theorem m_clsmeth {C f : Addr} {x : Str} {pl : Sem Bool} {Q : Value × List Value → Shared → Prop} (F : Fm U w g₀ h₀ L g h l μ) (hg : specialIn (K0 w.params) (.ref C) "__getattribute__" = some (some (.builtin "type.__getattribute__")))
    (hr : readsIn (K0 w.params) C (.type "type") = true) (e : findCls (K0 w.params) (.ref C) (.type "type") x = some (.val (.ref f))) (hQ : ∀ t', Q (.ref f, []) (St s h t')) : wpAny (model prog w) A (getMethod (.ref C) x pl) Q E (St s h t) :=
  method_cls (s := St s h t) F.k hg (cls_value (s := St s h t) F.k hr e rfl (hQ _))

theorem Room.make {C : Addr} {vals : List Value} {n : Nat} (R : Room A (n + 1)) : Room (A.under (.builtin "type.__call__" ⟨.ref C :: vals, []⟩)) n := by
  obtain ⟨a, b, c⟩ := R
  refine ⟨a, by rw [depth_under_make]; omega, ?_⟩
  show A.units + (Code.builtin "type.__call__" ⟨.ref C :: vals, []⟩).cUnits + 8 * n < _
  have : (Code.builtin "type.__call__" ⟨.ref C :: vals, []⟩).cUnits = 1 := by with_unfolding_all rfl
  omega
theorem m_make {C fI : Addr} {vals : List Value} {fs : List (Str × Value)} {k : Nat} (R : Room A (k + 1)) (gd : Gd w g) (sub : Sub g h)
    (hm : makesIn (K0 w.params) C = true) (hi : findIn (K0 w.params) (.ref C) "__init__" = some (some (.ref fI))) (hf : typeIn (K0 w.params) (.ref fI) = some (.type "function"))
    (hinit : ∀ (A' : Around) h₁ x dx, Room A' k → (Sub g h₁) → h₁.get? dx = some (dictOf [] 0) → h₁.get? x = some (instObj C dx) → g dx = none → g x = none → dx ≠ x →
      codeAny (model prog w) A' (.call (.ref fI) ⟨.ref x :: vals, []⟩) (CRet [dx, x] g s h₁ (fun g' h' r => r = .none ∧ ∃ es n, h'.get? dx = some (dictOf es n) ∧ h'.get? x = some (instObj C dx) ∧ EntsAre es fs)) (St s h₁ t)) :
    wpAny (model prog w) A (call (.ref C) vals) (Ret [] g s h (fun g' _ r => ∃ a, r = .ref a ∧ Inst g' a C fs)) NoE (St s h t) := by
  have G := gd.at sub
  have gn : ∀ a, h.objs.size ≤ a → g a = none := fun a ha => by
    cases e : g a with
    | none => rfl
    | some o => exact absurd (Heap.lt_size (sub _ _ e)) (Nat.not_lt.mpr ha)
  have k2 : ∀ b o, h.get? b = some o → ((h.push emptyDict).push (instObj C h.objs.size)).get? b = some o := fun b o e => Heap.get?_push_of_some _ (Heap.get?_push_of_some _ e)
  refine wpAny_call (make_core (makes_of G.k hm) (looks_findIn G.k hi) (fun self => bind_fn G.k self hf) (.inl (bne_iff_ne.mpr (fun e => by cases e))) ?_)
  have hx : ((h.push emptyDict).push (instObj C h.objs.size)).get? (h.objs.size + 1) = some (instObj C h.objs.size) := by
    have := Heap.get?_push_size (h.push emptyDict) (o := instObj C h.objs.size) rfl
    rwa [Heap.size_push] at this
  have hdx : ((h.push emptyDict).push (instObj C h.objs.size)).get? h.objs.size = some (dictOf [] 0) := Heap.get?_push_of_some _ (Heap.get?_push_size _ rfl)
  have sz : ((h.push emptyDict).push (instObj C h.objs.size)).objs.size = h.objs.size + 2 := by rw [Heap.size_push, Heap.size_push]
  have H := hinit (A.under (.builtin "type.__call__" ⟨.ref C :: vals, []⟩)) _ (h.objs.size + 1) h.objs.size R.make (fun a o e => k2 a o (sub a o e)) hdx hx (gn _ (Nat.le_refl _)) (gn _ (Nat.le_succ _)) (Nat.ne_of_lt (Nat.lt_succ_self _))
  refine codeAny_mono H fun r s' z => ?_
  rcases r with e | (_ | _ | _ | v) <;> try exact z.elim
  obtain ⟨g', h', t', rfl, Gr, rfl, es, n, e1, e2, EA⟩ := z
  refine ⟨rfl, fun b => if b = h.objs.size then some (dictOf es n) else if b = h.objs.size + 1 then some (instObj C h.objs.size) else g' b, h', t', rfl, ⟨fun a o e => ?_, fun a o e => ?_, fun a o _ e => ?_, ?_, fun a ha => ?_⟩, _, rfl, h.objs.size, es, n, ?_, if_pos rfl, EA⟩
  · have e : (if a = h.objs.size then some (dictOf es n) else if a = h.objs.size + 1 then some (instObj C h.objs.size) else g' a) = some o := e
    split at e
    · rename_i q; cases e; rw [q]; exact e1
    · split at e
      · rename_i q; cases e; rw [q]; exact e2
      · exact Gr.sub _ _ e
  · have ne : a < h.objs.size := Heap.lt_size (sub _ _ e)
    rw [if_neg (Nat.ne_of_lt ne), if_neg (Nat.ne_of_lt (Nat.lt_succ_of_lt ne))]
    exact Gr.up _ _ e
  · have ne : a < h.objs.size := Heap.lt_size e
    refine Gr.all a o ?_ (k2 a o e)
    simp only [List.mem_cons, List.not_mem_nil, or_false, not_or]
    exact ⟨Nat.ne_of_lt ne, Nat.ne_of_lt (Nat.lt_succ_of_lt ne)⟩
  · have := Gr.size; rw [sz] at this; omega
  · rw [if_neg (Nat.ne_of_lt ha), if_neg (Nat.ne_of_lt (Nat.lt_succ_of_lt ha))]
    exact Gr.old a (by rw [sz]; omega)
  · show (if h.objs.size + 1 = h.objs.size then some (dictOf es n) else if h.objs.size + 1 = h.objs.size + 1 then some (instObj C h.objs.size) else g' (h.objs.size + 1)) = _
    rw [if_neg (Nat.succ_ne_self _), if_pos rfl]
theorem Fm.callU {g' : Kn} {h' : Heap} {U' : List Addr} {μ' : List (Addr × Obj)} (F : Fm U w g₀ h₀ L g h l μ) (G : Grow U' g h g' h') (hU : ∀ a ∈ U', a ∈ μ.map (·.1)) (ha : μ'.map (·.1) = μ.map (·.1)) (hμ : ∀ p ∈ μ', h'.get? p.1 = some p.2) :
    Fm U w g₀ h₀ L g' h' l μ' := by
  have nU : ∀ a ∈ U', g a = none ∧ a ≠ L ∧ (a ∈ U ∨ h₀.objs.size ≤ a) := fun a hm => by
    obtain ⟨p, hp, rfl⟩ := List.mem_map.mp (hU a hm)
    exact (F.mu p hp).2
  obtain ⟨oL, es, ep, hL, r⟩ := F.ns
  refine ⟨⟨oL, es, ep, G.all _ _ (fun q => (nU L q).2.1 rfl) hL, r⟩, F.gd.mono G.up, G.sub, (G.old L F.lt).trans F.off, F.above, F.lo, fun b x e => G.up b x (F.up b x e), fun b x n e => ?_,
    fun b e => (G.old b (Nat.lt_of_lt_of_le e (Nat.le_trans F.above (Nat.le_of_lt F.lt)))).trans (F.old b e), fun p hp => ?_, by rw [ha]; exact F.nd⟩
  · refine G.all b x (fun q => ?_) (F.all b x n e)
    rcases (nU b q).2.2 with z | z
    · exact n z
    · exact absurd (Heap.lt_size e) (Nat.not_lt.mpr z)
  · have : p.1 ∈ μ.map (·.1) := ha ▸ List.mem_map_of_mem hp
    obtain ⟨q, hq, e⟩ := List.mem_map.mp this
    have z := F.mu q hq
    rw [e] at z
    exact ⟨hμ p hp, (G.old _ (by have := Heap.lt_size z.1; exact this)).trans z.2.1, z.2.2⟩
end
/-! lists, tuples, texts, ints: the leaves -/
section
variable {M : Model} {prog : Program} {w : World} {A : Around} {E : Value → Shared → Prop} {s sh : Shared} {env : Env} {U : List Addr} {g₀ g : Kn} {h₀ h : Heap} {L : Addr} {t : Nat} {l : List (Str × Value)} {μ : List (Addr × Obj)}

theorem IsL.list {v : Value} {vs : List Value} (I : IsL g v vs) (F : Fm U w g₀ h₀ L g h l μ) : ∃ a, v = .ref a ∧ h.IsList a vs.toArray :=
  let ⟨a, n, x, y⟩ := I; ⟨a, x, _, F.sub _ _ y, rfl, n, rfl⟩
theorem muL {a : Addr} {vs : List Value} {n : Nat} (F : Fm U w g₀ h₀ L g h l ((a, listO vs n) :: μ)) : h.IsList a vs.toArray := ⟨_, (F.mu _ (.head _)).1, rfl, n, rfl⟩
noncomputable def IsT (g : Kn) (v : Value) (vs : List Value) : Prop := ∃ a n, v = .ref a ∧ g a = some { cls := .type "tuple", data := .seq vs.toArray n }
theorem IsT.mono {g' : Kn} {v : Value} {vs : List Value} (I : IsT g v vs) (up : Up g g') : IsT g' v vs := let ⟨a, n, x, y⟩ := I; ⟨a, n, x, up _ _ y⟩
theorem IsT.tup {v : Value} {vs : List Value} (I : IsT g v vs) (F : Fm U w g₀ h₀ L g h l μ) : ∃ a, v = .ref a ∧ IsTup h a vs.toArray :=
  let ⟨a, n, x, y⟩ := I; ⟨a, x, _, F.sub _ _ y, rfl, n, rfl⟩

theorem list_len {a : Addr} {vs : List Value} {Q : Value → Shared → Prop} (hl : h.IsList a vs.toArray) (hz : vs.length ≤ 2 ^ 20) (hQ : ∀ tk t', Q (.int vs.length tk) (St s h t')) :
    wpAny (model prog w) A (call (.builtin "len") [.ref a]) Q E (St s h t) :=
  call_function_entry kind_len plain_len entry_len (args_len1 _) (wpAny_len_body_list (s := St s h t) hl (by simp; omega) (by simpa using hQ _ _))
theorem l_len {v : Value} {vs : List Value} {Q : Value → Shared → Prop} (F : Fm U w g₀ h₀ L g h l μ) (I : IsL g v vs) (hz : vs.length ≤ 2 ^ 20) (hQ : ∀ tk t', Q (.int vs.length tk) (St s h t')) :
    wpAny (model prog w) A (call (.builtin "len") [v]) Q E (St s h t) := by
  obtain ⟨a, rfl, hl⟩ := I.list F
  exact list_len hl hz hQ
theorem seq_at {k : Int} {n : Nat} (h : k.toNat < n) (hlo : 0 ≤ k) : seqIndex? k n = some k.toNat := by
  unfold seqIndex?
  have h1 : ¬ k < 0 := by omega
  have h2 : k < (n : Int) := by omega
  simp [h1, h2, hlo]
/-- xs[k] -/
theorem l_item {value slice : Expr} {v x : Value} {vs : List Value} {k : Int} {u : Tok} {Q : Value → Shared → Prop} (F : Fm U w g₀ h₀ L g h l μ) (I : IsL g v vs) (hlo : 0 ≤ k) (hhi : k < 2 ^ 20) (hx : vs[k.toNat]? = some x)
    (hs : ∀ a, subscripted slice false (.ref a) (.int k u) = operate [.ref a, .int k u] (getItem (.ref a) (.int k u))) (hQ : Q x (St s h t)) : wpAny (model prog w) A (subscriptTail value slice v (.int k u)) Q E (St s h t) := by
  obtain ⟨a, rfl, hl⟩ := I.list F
  exact tail_any (s := St s h t) hl.typeIs slot_list_getitem.lookup (wpAny_getItem_list (s := St s h t) hl hlo (by omega) (by simpa using hx) hQ) (hs a)
theorem t_item {value slice : Expr} {v x : Value} {vs : List Value} {k : Int} {u : Tok} {Q : Value → Shared → Prop} (F : Fm U w g₀ h₀ L g h l μ) (I : IsT g v vs) (hlo : 0 ≤ k) (hhi : k < 2 ^ 20) (hx : vs[k.toNat]? = some x)
    (hs : ∀ a, subscripted slice false (.ref a) (.int k u) = operate [.ref a, .int k u] (getItem (.ref a) (.int k u))) (hQ : Q x (St s h t)) : wpAny (model prog w) A (subscriptTail value slice v (.int k u)) Q E (St s h t) := by
  obtain ⟨a, rfl, hl⟩ := I.tup F
  have lt : k.toNat < vs.length := by
    rcases Nat.lt_or_ge k.toNat vs.length with q | q
    · exact q
    · rw [List.getElem?_eq_none q] at hx; cases hx
  refine tail_any (s := St s h t) hl.typeIs slot_tuple_getitem.lookup (getItem_tuple (s := St s h t) (j := k.toNat) hl (by omega) (by omega) ?_ (by simpa using hx) hQ) (hs a)
  exact seq_at (by simpa using lt) hlo
/-- x[k] of a text -/
theorem s_item {value slice : Expr} {x : Str} {tx : Tok} {k : Int} {u : Tok} {c : Nat} {Q : Value → Shared → Prop} (hlo : 0 ≤ k) (hhi : k < 2 ^ 20) (hx : (seqIndex? k x.length).bind (x.cps[·]?) = some c)
    (hs : subscripted slice false (.str x tx) (.int k u) = operate [.str x tx, .int k u] (getItem (.str x tx) (.int k u))) (hQ : ∀ tk t', Q (.str (strOf [c]) tk) (St s h t')) : wpAny (model prog w) A (subscriptTail value slice (.str x tx) (.int k u)) Q E (St s h t) :=
  tail_any (s := St s h t) (typeIs_str _ x tx) F.slot_str_getitem.lookup (P.getItem_str (s := St s h t) (by simp; omega) hx (hQ _ _)) hs
theorem s_len {x : Str} {tx : Tok} {Q : Value → Shared → Prop} (hz : x.length ≤ 2 ^ 20) (hQ : ∀ tk t', Q (.int x.length tk) (St s h t')) : wpAny (model prog w) A (call (.builtin "len") [.str x tx]) Q E (St s h t) :=
  P.len_str (s := St s h t) (by omega) (hQ _ _)
noncomputable def notSlice : Expr → Bool
  | .Slice .. => false
  | _ => true
theorem m_sub {value slice : Expr} {pos : Pos} {Q : Value → Shared → Prop} (_ : notSlice slice = true) (h : wpAny M A (eval value env) (kSub1 M A E env value slice Q) E sh) :
    wpAny M A (eval (.Subscript value slice pos) env) Q E sh := Subscript_ h
theorem m_bin {x y : Expr} {op : Operator} {pos : Pos} {Q : Value → Shared → Prop} (h : wpAny M A (eval x env) (kBin1 M A E env op y Q) E sh) :
    wpAny M A (eval (.BinOp x op y pos) env) Q E sh := wpAny_BinOp h
theorem i_add {a b : Int} {t' u : Tok} {Q : Value → Shared → Prop} (hQ : ∀ tk t', Q (.int (a + b) tk) (St s h t')) : wpAny (model prog w) A (binaryOp .Add (.int a t') (.int b u)) Q E (St s h t) := PyProof.Rows.add_int (s := St s h t) (hQ _ _)
theorem i_sub {a b : Int} {t' u : Tok} {Q : Value → Shared → Prop} (hQ : ∀ tk t', Q (.int (a - b) tk) (St s h t')) : wpAny (model prog w) A (binaryOp .Sub (.int a t') (.int b u)) Q E (St s h t) := PyProof.Rows.sub_int (s := St s h t) (hQ _ _)
theorem s_add {x y : Str} {t' u : Tok} {Q : Value → Shared → Prop} (hz : x.length + y.length ≤ sizeLine) (hQ : ∀ tk t', Q (.str (x ++ y) tk) (St s h t')) : wpAny (model prog w) A (binaryOp .Add (.str x t') (.str y u)) Q E (St s h t) :=
  add_str (s := St s h t) (fun _ _ => hQ _ _) hz
/-- a new list or tuple, written -/
theorem m_list {elts : List Expr} {pos : Pos} {Q : Value → Shared → Prop} (h : wpAny M A (spliced (backTo pos (starEach elts env))) (kList M A E Q) E sh) : wpAny M A (eval (.List elts pos) env) Q E sh := List_ h
theorem m_tuple {elts : List Expr} {k : Nat} {pos : Pos} {Q : Value → Shared → Prop} (h : wpAny M A (spliced (backTo pos (starEach elts env))) (kTup M A E Q) E sh) : wpAny M A (eval (.Tuple elts k pos) env) Q E sh := Tuple_ h
theorem m_newlist {vs : List Value} {Q : Value → Shared → Prop} (F : Fm U w g₀ h₀ L g h l μ) (hz : vs.length ≤ 2 ^ 20) (hQ : ∀ a h', Fm U w g₀ h₀ L g h' l ((a, listO vs 0) :: μ) → h₀.objs.size ≤ a → Q (.ref a) (St s h' t)) : wpAny M A (newList vs) Q E (St s h t) :=
  wpAny_newObj_type (s := St s h t) (hQ _ _ (F.push _ rfl) (Nat.le_trans F.above (Nat.le_of_lt F.lt))) (by show vs.toArray.size ≤ sizeLine; rw [List.size_toArray]; exact Nat.le_trans hz (by decide))
theorem m_newtuple {vs : List Value} {Q : Value → Shared → Prop} (F : Fm U w g₀ h₀ L g h l μ) (hz : vs.length ≤ 2 ^ 20) (hQ : ∀ a h', Fm U w g₀ h₀ L g h' l ((a, { cls := .type "tuple", data := .seq vs.toArray 0 }) :: μ) → h₀.objs.size ≤ a → Q (.ref a) (St s h' t)) : wpAny M A (newTuple vs) Q E (St s h t) :=
  wpAny_newObj_type (s := St s h t) (hQ _ _ (F.push _ rfl) (Nat.le_trans F.above (Nat.le_of_lt F.lt))) (by show vs.toArray.size ≤ sizeLine; rw [List.size_toArray]; exact Nat.le_trans hz (by decide))
/-- what was made is laid with the known -/
theorem Fm.lay {a : Addr} {vs : List Value} {n : Nat} (F : Fm U w g₀ h₀ L g h l ((a, listO vs n) :: μ)) (ha : h₀.objs.size ≤ a) :
    ∃ g', (∀ b x, g b = some x → g' b = some x) ∧ IsL g' (.ref a) vs ∧ Fm U w g₀ h₀ L g' h l μ :=
  let ⟨g', up, e, _, F'⟩ := F.freeze ha; ⟨g', up, ⟨a, n, rfl, e⟩, F'⟩
/-- xs[lo:hi] -/
noncomputable def SlGoal (o vl vu : Value) (Q : Value → Shared → Prop) (s₃ : Shared) : Prop := ∃ a items lo hi, o = .ref a ∧ s₃.heap.IsList a items ∧ items.size ≤ sizeLine ∧ IsPart vl lo ∧ IsPart vu hi ∧
        Q (.ref (s₃.heap.objs.size + 1)) { s₃ with heap := (s₃.heap.push { cls := .type "slice", data := .fields #[vl, vu, .none] }).push { cls := .type "list", data := .seq (slicePick items lo hi none) } }
theorem m_slice {value : Expr} {lower upper : Option Expr} {p pos : Pos} {Q : Value → Shared → Prop} (ht : ∀ o r, letTemporaryGo value o r = pure ())
    (hv : wpAny (model prog w) A (eval value env) (fun o s₁ => wpAny (model prog w) A (evalPart lower env) (fun vl s₂ => wpAny (model prog w) A (evalPart upper env) (fun vu s₃ => SlGoal o vl vu Q s₃) E s₂) E s₁) E sh) :
    wpAny (model prog w) A (eval (.Subscript value (.Slice lower upper none p) pos) env) Q E sh := wpAny_Subscript_list_slice hv ht
theorem sl_end {v vl vu : Value} {vs : List Value} {lo hi : Option Int} {Q : Value → Shared → Prop} (F : Fm U w g₀ h₀ L g h l μ) (I : IsL g v vs) (hz : vs.length ≤ 2 ^ 20) (pl : IsPart vl lo) (pu : IsPart vu hi)
    (hQ : ∀ a h', Fm U w g₀ h₀ L g h' l ((a, listO (slicePick vs.toArray lo hi none).toList 0) :: μ) → h₀.objs.size ≤ a → Q (.ref a) (St s h' t)) : SlGoal v vl vu Q (St s h t) := by
  obtain ⟨a, rfl, hl⟩ := I.list F
  have F1 := (F.push { cls := .type "slice", data := .fields #[vl, vu, .none] } rfl).drop
  have F2 := F1.push { cls := .type "list", data := .seq (slicePick vs.toArray lo hi none) } rfl
  refine ⟨a, _, lo, hi, rfl, hl, by simp; exact Nat.le_trans hz (by decide), pl, pu, ?_⟩
  have e : (h.push { cls := .type "slice", data := .fields #[vl, vu, .none] }).objs.size = h.objs.size + 1 := Heap.size_push ..
  rw [e] at F2
  exact hQ _ _ (by unfold listO; simpa using F2) (Nat.le_trans F.above (Nat.le_trans (Nat.le_of_lt F.lt) (Nat.le_succ _)))
/-- x[1:] of a text -/
noncomputable def SsGoal (o vl vu : Value) (Q : Value → Shared → Prop) (s₃ : Shared) : Prop := ∃ x t l u, o = .str x t ∧ vl = partValue l ∧ vu = partValue u ∧
        (sliceMade x t l u none).post Q { s₃ with heap := s₃.heap.push { cls := .type "slice", data := .fields #[vl, vu, .none] } }
theorem m_sslice {value : Expr} {lower upper : Option Expr} {p pos : Pos} {Q : Value → Shared → Prop} (ht : ∀ o r, letTemporaryGo value o r = pure ())
    (hv : wpAny (model prog w) A (eval value env) (fun o s₁ => wpAny (model prog w) A (evalPart lower env) (fun vl s₂ => wpAny (model prog w) A (evalPart upper env) (fun vu s₃ => SsGoal o vl vu Q s₃) E s₂) E s₁) E sh) :
    wpAny (model prog w) A (eval (.Subscript value (.Slice lower upper none p) pos) env) Q E sh := wpAny_Subscript_str_slice hv ht
theorem sliceRange_from1 (n : Nat) : Builtin.Str.strSliceIndices (some 1) none 1 (n + 1) = (List.range n).map (1 + ·) := by
  have e : Builtin.Str.strSliceIndices (some 1) none 1 (n + 1) = sliceRange ((1 : Nat) : Int) ((n + 1 : Nat) : Int) 1 := by
    unfold Builtin.Str.strSliceIndices
    have h1 : ¬ ((1 : Int) < 0) := by omega
    simp only [h1, if_false, show (1 : Int) > 0 by decide, if_true]
    congr 1
    omega
  rw [e, sliceRange_one]
  congr 1
theorem ss_end {c : Nat} {r : List Nat} {tx u : Tok} {Q : Value → Shared → Prop} (F : Fm U w g₀ h₀ L g h l μ) (hz : r.length ≤ 2 ^ 20)
    (hQ : ∀ h' tk t', Fm U w g₀ h₀ L g h' l μ → Q (.str (strOf r) tk) (St s h' t')) : SsGoal (.str (strOf (c :: r)) tx) (.int 1 u) .none Q (St s h t) := by
  have F1 := (F.push { cls := .type "slice", data := .fields #[.int 1 u, .none, .none] } rfl).drop
  refine ⟨_, tx, some (1, u), none, rfl, rfl, rfl, ?_⟩
  have e1 : slicePicked (strOf (c :: r)) (some (1, u)) none none = (List.range r.length).map (1 + ·) := by
    unfold slicePicked
    show Builtin.Str.strSliceIndices (some 1) none 1 (strOf (c :: r)).length = _
    rw [show (strOf (c :: r)).length = r.length + 1 from by show (c :: r).toArray.size = _; simp]
    exact sliceRange_from1 _
  have e2 : sliceMade (strOf (c :: r)) tx (some (1, u)) none none = .str (strOf r) := by
    unfold sliceMade
    rw [e1]
    rw [if_neg (by
      rw [show (strOf (c :: r)).length = r.length + 1 from by show (c :: r).toArray.size = _; simp]
      simp)]
    rw [pick_run]
    simp [strOf]
  rw [e2]
  exact ⟨by show (strOf r).length ≤ sizeLine; exact Nat.le_trans (by show r.toArray.size ≤ _; simpa using hz) (by decide), hQ _ _ _ F1⟩
theorem pick_from {vs : List Value} (k : Nat) : (slicePick vs.toArray (some (k : Int)) none none).toList = vs.drop k := by rw [slicePick_from']
theorem pick_upto {vs : List Value} (k : Nat) : (slicePick vs.toArray none (some (k : Int)) none).toList = vs.take k := by rw [slicePick_upto']
/-- xs + ys -/
theorem l_add {v₁ v₂ : Value} {xs ys : List Value} {Q : Value → Shared → Prop} (F : Fm U w g₀ h₀ L g h l μ) (h1 : ∃ a, v₁ = .ref a ∧ h.IsList a xs.toArray) (h2 : ∃ b, v₂ = .ref b ∧ h.IsList b ys.toArray) (hz : xs.length + ys.length ≤ 2 ^ 20)
    (hQ : ∀ a h', Fm U w g₀ h₀ L g h' l ((a, listO (xs ++ ys) 0) :: μ) → h₀.objs.size ≤ a → Q (.ref a) (St s h' t)) : wpAny (model prog w) A (binaryOp .Add v₁ v₂) Q E (St s h t) := by
  obtain ⟨a, rfl, ha⟩ := h1
  obtain ⟨b, rfl, hb⟩ := h2
  refine add_arrays (s := St s h t) (F.toFr) (F.toNews (no := [L]) (.head _)) ha hb (fun h' F' N' => ?_) (by simp; exact Nat.le_trans hz (by decide))
  have bk := bag_back (h := h) (no := [L]) F' N' (fun p hp => .tail _ hp) F.k
  have new := N' _ (.head _)
  have F1 : Fm U w g₀ h₀ L g h' l μ := F.re F'.ns [] (by simpa using bk) (by simp) rfl fun p hp => bk _ _ (by simpa using (F.mu p hp).2.2.1) (F.mu p hp).1
  refine hQ _ _ ⟨F1.ns, F1.gd, F1.sub, F1.off, F1.above, F1.lo, F1.up, F1.all, F1.old, fun p hp => ?_, ?_⟩ (Nat.le_trans F.above (Nat.le_of_lt F.lt))
  · rcases List.mem_cons.mp hp with rfl | hp
    · exact ⟨by unfold listO; simpa using new.1, F.free, new.2.1, .inr (Nat.le_trans F.above (Nat.le_of_lt F.lt))⟩
    · exact F1.mu p hp
  · rw [List.map_cons, List.nodup_cons]
    refine ⟨fun hm => ?_, F.nd⟩
    obtain ⟨p, hp, e⟩ := List.mem_map.mp hm
    exact absurd (Heap.lt_size (F.mu p hp).1) (by rw [e]; exact Nat.lt_irrefl _)
/-- xs == [] -/
theorem l_eqnil {v₁ v₂ : Value} {xs : List Value} {Q : Value → Shared → Prop} (R : Room A 1) (h1 : ∃ a, v₁ = .ref a ∧ h.IsList a xs.toArray) (h2 : ∃ b, v₂ = .ref b ∧ h.IsList b #[]) (hQ : Q (.bool xs.isEmpty) (St s h t)) :
    wpAny (model prog w) A (compareOp .Eq v₁ v₂) Q E (St s h t) := by
  obtain ⟨a, rfl, ha⟩ := h1
  obtain ⟨b, rfl, hb⟩ := h2
  have hu : A.units < cLine := by have := R.u; omega
  cases xs with
  | nil => exact SeqAt.eq_listAt (s := St s h t) (e := fun _ => true) ha hb rfl hu (fun j h1 => by simp at h1) hQ
  | cons x r => exact SeqAt.eq_list_lengthsAt (s := St s h t) ha hb (by simp) hu hQ
end
section
variable {M : Model} {prog : Program} {w : World} {A : Around} {E : Value → Shared → Prop} {s sh : Shared} {env : Env} {U : List Addr} {g₀ g : Kn} {h₀ h : Heap} {L : Addr} {t : Nat} {l l' : List (Str × Value)} {μ : List (Addr × Obj)}
theorem Fm.relook (F : Fm U w g₀ h₀ L g h l μ) (hl : ∀ y, l'.lookup y = l.lookup y) : Fm U w g₀ h₀ L g h l' μ :=
  { F with ns := by rw [show (fun y => l'.lookup y) = fun y => l.lookup y from funext hl]; exact F.ns }
theorem lk_shadow {x : Str} {v u : Value} {r : List (Str × Value)} (y : Str) : ((x, v) :: r).lookup y = ((x, v) :: (x, u) :: r).lookup y := by
  rw [List.lookup_cons, List.lookup_cons, List.lookup_cons]
  cases y == x <;> rfl
theorem lk_swap {x z : Str} {v u : Value} {r : List (Str × Value)} (ne : (x == z) = false) (y : Str) : ((x, v) :: (z, u) :: r).lookup y = ((z, u) :: (x, v) :: r).lookup y := by
  rw [List.lookup_cons, List.lookup_cons, List.lookup_cons, List.lookup_cons]
  cases h1 : y == x <;> cases h2 : y == z <;> try rfl
  rw [eq_of_beq h1] at h2; rw [h2] at ne; cases ne
theorem s_mul {x : Str} {t' u : Tok} {n : Int} {Q : Value → Shared → Prop} (hok : MulOk x n) (hQ : ∀ tk t', Q (.str (Txt.mul x n) tk) (St s h t')) : wpAny (model prog w) A (binaryOp .Mult (.str x t') (.int n u)) Q E (St s h t) :=
  SB.mul (s := St s h t) hok fun _ _ => hQ _ _
theorem i_gt {a b : Int} {t' u : Tok} {Q : Value → Shared → Prop} (h : Q (.bool (decide (b < a))) sh) : wpAny (model prog w) A (compareOp .Gt (.int a t') (.int b u)) Q E sh := PyProof.Rows.gt_int h
theorem i_lt {a b : Int} {t' u : Tok} {Q : Value → Shared → Prop} (h : Q (.bool (decide (a < b))) sh) : wpAny (model prog w) A (compareOp .Lt (.int a t') (.int b u)) Q E sh := PyProof.Rows.lt_int h
theorem i_ge {a b : Int} {t' u : Tok} {Q : Value → Shared → Prop} (h : Q (.bool (decide (b ≤ a))) sh) : wpAny (model prog w) A (compareOp .GtE (.int a t') (.int b u)) Q E sh := PyProof.Rows.ge_int h
theorem mark_none (A : Around) : A.mark none = A := by cases A; rfl
noncomputable abbrev kWhile (M : Model) (A : Around) (E : Value → Shared → Prop) (env : Env) (body rest : List Stmt) (K Q : Flow → Shared → Prop) : Bool → Shared → Prop := fun b s => Br b (wpAny M A (execs body env) K NoE s) (wpAny M A (execs rest env) Q E s)
/-- while test: body -/
theorem m_while {test : Expr} {body rest : List Stmt} {pos : Pos} {Q : Flow → Shared → Prop} (I : Nat → Shared → Prop)
    (turn : ∀ n s', I n s' → ∀ K : Flow → Shared → Prop, (∀ m s₃, m < n → I m s₃ → K .next s₃) → (∀ v s', Q (.ret v) s' → K (.ret v) s') →
      wpAny (model prog w) A (PySem.isTrue test env (eval test env)) (kWhile (model prog w) A E env body rest K Q) NoE s') (n : Nat) (h : I n sh) :
    wpAny (model prog w) A (execs (.While test body [] pos :: rest) env) Q E sh := by
  refine wpAny_execs_cons (wpAny_While (codeAny_whileLoop I (fun n s' hI => ?_) n h))
  refine wpAny_mono (turn n s' hI (fun f s₃ => match f with | .next => ∃ m, m < n ∧ I m s₃ | .ret v => Q (.ret v) s₃ | _ => False) (fun m _ a b => ⟨m, a, b⟩) fun _ _ x => x) (fun b s₂ z => Br.ite ⟨fun e => wpAny_mono (z.1 e) (fun f s₃ q => ?_) fun _ _ e => e.elim, fun e => ?_⟩) fun _ _ e => e.elim
  · cases f with
    | next => exact q
    | brk => exact q.elim
    | cont => exact q.elim
    | ret v => exact q
  · exact wpAny_execs_nil (z.2 e)
theorem ep_some {e : Expr} {Q : Value → Shared → Prop} (h : wpAny M A (eval e env) Q E sh) : wpAny M A (evalPart (some e) env) Q E sh := h
theorem ep_none {Q : Value → Shared → Prop} (h : Q .none sh) : wpAny M A (evalPart none env) Q E sh := wpAny_pure h
end
/-! loops over what is walked item by item -/
structure Itr (prog : Program) (w : World) (A : Around) (I : Addr) (fp : List Addr) (n : Nat) (P : Nat → Value → Prop) (T : Nat → Heap → Prop) : Prop where
  W : Walks prog w A I fp [I] n P T
  live : ∀ i h, T i h → ∃ o, h.get? I = some o

section
variable {prog : Program} {w : World} {A : Around} {E : Value → Shared → Prop} {s sh : Shared} {env : Env} {U : List Addr} {g₀ g g' : Kn} {h₀ h h' : Heap} {L I : Addr} {t n i : Nat} {l l' : List (Str × Value)} {μ μ' : List (Addr × Obj)} {o o' : Obj}
  {fp : List Addr} {P : Nat → Value → Prop} {T : Nat → Heap → Prop}
theorem Fm.reDrop {a : Addr} (F : Fm U w g₀ h₀ L g h l ((a, o) :: μ)) (hk : ∀ b x, b ≠ a → h.get? b = some x → h'.get? b = some x) : Fm U w g₀ h₀ L g h' l μ := by
  obtain ⟨m1, m2, m3, m4⟩ := F.mu _ (.head _)
  have nd := F.nd
  rw [List.map_cons, List.nodup_cons] at nd
  obtain ⟨oL, es, ep, hL, r⟩ := F.ns
  refine ⟨⟨oL, es, ep, hk _ _ (Ne.symm m3) hL, r⟩, F.gd, fun b x e => hk b x (fun q => by rw [q, m2] at e; cases e) (F.sub b x e), F.off, F.above, F.lo, F.up, fun b x nn e => hk b x (fun q => ?_) (F.all b x nn e), F.old, fun p hp => ?_, nd.2⟩
  · rcases m4 with m4 | m4
    · exact nn (q ▸ m4)
    · exact absurd (Heap.lt_size e) (Nat.not_lt.mpr (q ▸ m4))
  · obtain ⟨p1, p2⟩ := F.mu p (.tail _ hp)
    exact ⟨hk _ _ (fun q => nd.1 (List.mem_map.mpr ⟨p, hp, q⟩)) p1, p2⟩
theorem Fm.reTurn {a : Addr} (F : Fm U w g₀ h₀ L g h l ((a, o) :: μ)) (hk : ∀ b x, b ≠ a → h.get? b = some x → h'.get? b = some x) (ho : h'.get? a = some o') : Fm U w g₀ h₀ L g h' l ((a, o') :: μ) := by
  have D := F.reDrop hk
  obtain ⟨m1, m2, m3, m4⟩ := F.mu _ (.head _)
  refine { D with mu := fun p hp => ?_, nd := F.nd }
  rcases List.mem_cons.mp hp with rfl | hp
  · exact ⟨ho, m2, m3, m4⟩
  · exact D.mu p hp

theorem itr_next {Q : Option Value → Shared → Prop} (It : Itr prog w A I fp n P T) (F : Fm U w g₀ h₀ L g h l ((I, o) :: μ)) (st : T i h) (hi : i < n)
    (k : ∀ v h' t' o', P i v → T (i + 1) h' → Fm U w g₀ h₀ L g h' l ((I, o') :: μ) → Q (some v) (St s h' t')) : wpAny (model prog w) A (pyNext (.ref I)) Q E (St s h t) :=
  It.W.item i (St s h t) Q E hi st fun v h' tk hP hT hk => by
    obtain ⟨o', ho'⟩ := It.live _ _ hT
    exact k v h' tk o' hP hT (F.reTurn (fun b x nb e => hk b x (by simpa using nb) e) ho')
theorem itr_done {Q : Option Value → Shared → Prop} (It : Itr prog w A I fp n P T) (F : Fm U w g₀ h₀ L g h l ((I, o) :: μ)) (st : T n h)
    (k : ∀ h' t', Fm U w g₀ h₀ L g h' l μ → Q none (St s h' t')) : wpAny (model prog w) A (pyNext (.ref I)) Q E (St s h t) :=
  It.W.done (St s h t) Q E st fun h' tk hk => k h' tk (F.reDrop fun b x nb e => hk b x (by simpa using nb) e)
theorem itr_frame (It : Itr prog w A I fp n P T) (F : Fm U w g₀ h₀ L g h l ((I, o) :: μ)) (F' : Fm U w g₀ h₀ L g' h' l' ((I, o) :: μ')) (up : ∀ a x, g a = some x → g' a = some x) (hfp : ∀ b ∈ fp, b = I ∨ ∃ x, g b = some x) (st : T i h) : T i h' :=
  It.W.frame i h h' st fun b hb x e => by
    rcases hfp b hb with rfl | ⟨y, hy⟩
    · have := (F.mu _ (.head _)).1; rw [e] at this; cases this; exact (F'.mu _ (.head _)).1
    · have := F.sub _ _ hy; rw [e] at this; cases this; exact F'.sub _ _ (up _ _ hy)

/-- where a loop stands ahead of its turn -/
inductive FRun (s : Shared) (U : List Addr) (w : World) (g₀ : Kn) (h₀ : Heap) (L : Addr) (g : Kn) (I : Addr) (n : Nat) (T : Nat → Heap → Prop) (J : Nat → Kn → List (Str × Value) → List (Addr × Obj) → Prop) : Nat → Shared → Prop
  | mk (i : Nat) (g' : Kn) (h' : Heap) (t' : Nat) (l' : List (Str × Value)) (μ' : List (Addr × Obj)) (o' : Obj) (hi : i ≤ n) (up : Up g g') (F : Fm U w g₀ h₀ L g' h' l' ((I, o') :: μ')) (hT : T i h') (hJ : J i g' l' μ') : FRun s U w g₀ h₀ L g I n T J (n + 1 - i) (St s h' t')
theorem for_run {x : Str} {px : Pos} {body rest : List Stmt} {Q : Flow → Shared → Prop} (It : Itr prog w A I fp n P T) (F : Fm U w g₀ h₀ L g h l ((I, o) :: μ)) (T0 : T 0 h) (hfp : ∀ b ∈ fp, b = I ∨ ∃ y, g b = some y)
    (hx : env.kindOf x = some .local) (hL : env.locals = L) (hk : env.scope.kind = .function)
    (J : Nat → Kn → List (Str × Value) → List (Addr × Obj) → Prop) (J0 : J 0 g l μ)
    (turn : ∀ i v g' h' t' l' μ' o', i < n → P i v → Up g g' → J i g' l' μ' → Fm U w g₀ h₀ L g' h' ((x, v) :: l') ((I, o') :: μ') →
      ∀ K : Flow → Shared → Prop, (∀ g'' h'' t'' l'' μ'', Up g' g'' → Fm U w g₀ h₀ L g'' h'' l'' ((I, o') :: μ'') → J (i + 1) g'' l'' μ'' → K .next (St s h'' t'')) → (∀ v s', Q (.ret v) s' → K (.ret v) s') →
      wpAny (model prog w) A (execs body env) K NoE (St s h' t'))
    (done : ∀ g' h' t' l' μ', Up g g' → J n g' l' μ' → Fm U w g₀ h₀ L g' h' l' μ' → wpAny (model prog w) A (execs rest env) Q E (St s h' t')) :
    codeAny (model prog w) A (.forLoop (.Name x px) (.ref I) body [] env) (fun r s' => match r with
      | .ok f => (match f with | .next => wpAny (model prog w) A (execs rest env) Q E s' | f => Q f s')
      | .error e => cameBackBy (model prog w) A env E e s') (St s h t) := by
  refine codeAny_forLoop (FRun s U w g₀ h₀ L g I n T J) ?_ (n + 1) (FRun.mk 0 g h t l μ o (Nat.zero_le _) (fun _ _ e => e) F T0 J0)
  intro k s' hI
  cases hI with
  | mk i g' h' t' l' μ' o' hi up F' T' J' =>
  rcases Nat.lt_or_eq_of_le hi with hlt | rfl
  · refine itr_next It F' T' hlt fun v h₂ t₂ o₂ hP T₂ F₂ => ?_
    refine wpAny_assign_Name (m_store F₂ hk hL hx fun h₃ t₃ F₃ => ?_)
    have T₃ : T (i + 1) h₃ := itr_frame It F₂ F₃ (fun _ _ e => e) (fun b hb => (hfp b hb).imp id fun ⟨y, e⟩ => ⟨y, up _ _ e⟩) T₂
    refine wpAny_mono (turn i v g' h₃ t₃ l' μ' o₂ hlt hP up J' F₃ (fun f s₃ => match f with
        | .ret r => Q (.ret r) s₃
        | .next => ∃ m, m < n + 1 - i ∧ FRun s U w g₀ h₀ L g I n T J m s₃
        | _ => False) (fun g'' h'' t'' l'' μ'' up2 F4 J4 => ⟨n + 1 - (i + 1), by omega, .mk (i + 1) g'' h'' t'' l'' μ'' o₂ hlt (fun a y e => up2 _ _ (up _ _ e)) F4
          (itr_frame It F₃ F4 up2 (fun b hb => (hfp b hb).imp id fun ⟨y, e⟩ => ⟨y, up _ _ e⟩) T₃) J4⟩) (fun _ _ x => x)) (fun f s₃ z => ?_) fun _ _ e => e.elim
    cases f with
    | next => exact z
    | cont => exact z.elim
    | brk => exact z.elim
    | ret r => exact z
  · refine itr_done It F' T' fun h₂ t₂ F₂ => ?_
    exact wpAny_mono (wpAny_execs_nil (Q := fun f s₃ => f = .next ∧ s₃ = St s h₂ t₂) (E := NoE) ⟨rfl, rfl⟩) (fun f s₃ ⟨a, b⟩ => by subst a; subst b; exact done g' h₂ t₂ l' μ' up J' F₂) fun _ _ e => e.elim

/-- for x in iter: body -/
noncomputable def ForAt (prog : Program) (w : World) (A : Around) (env : Env) (E : Value → Shared → Prop) (x : Str) (px : Pos) (body rest : List Stmt) (Q : Flow → Shared → Prop) (it : Value) (s₂ : Shared) : Prop :=
  codeAny (model prog w) A (.forLoop (.Name x px) it body [] env) (fun r s' => match r with
      | .ok f => (match f with | .next => wpAny (model prog w) A (execs rest env) Q E s' | f => Q f s')
      | .error e => cameBackBy (model prog w) A env E e s') s₂
theorem m_for {x : Str} {px pos : Pos} {iter : Expr} {body rest : List Stmt} {Q : Flow → Shared → Prop} (hs : (fun x => foldedSetIterable iter env x) = pure)
    (h : wpAny (model prog w) A (eval iter env) (kIter (model prog w) A E (ForAt prog w A env E x px body rest Q)) E sh) : wpAny (model prog w) A (execs (.For (.Name x px) iter body [] pos :: rest) env) Q E sh :=
  wpAny_execs_cons (wpAny_For h (congrFun hs))
end
/-! what may be walked -/
section
variable {prog : Program} {w : World} {A : Around} {E : Value → Shared → Prop} {s sh : Shared} {env : Env} {U : List Addr} {g₀ g g' : Kn} {h₀ h h' : Heap} {L I : Addr} {t n i : Nat} {l l' : List (Str × Value)} {μ μ' : List (Addr × Obj)} {o o' : Obj}
  {fp : List Addr} {P : Nat → Value → Prop} {T : Nat → Heap → Prop}
theorem it_list {v : Value} {vs : List Value} {Q : Value → Shared → Prop} (hh : A.handled = none) (F : Fm U w g₀ h₀ L g h l μ) (J : IsL g v vs)
    (k : ∀ I o h' fp T, Fm U w g₀ h₀ L g h' l ((I, o) :: μ) → Itr prog w A I fp vs.length (fun i x => vs[i]? = some x) T → T 0 h' → (∀ b ∈ fp, b = I ∨ ∃ y, g b = some y) → Q (.ref I) (St s h' t)) :
    wpAny (model prog w) A (pyIter v) Q E (St s h t) := by
  obtain ⟨a, nn, rfl, e⟩ := J
  have hl : h.IsList a vs.toArray := ⟨_, F.sub _ _ e, rfl, nn, rfl⟩
  have ne : a ≠ h.objs.size := Nat.ne_of_lt (Heap.lt_size (F.sub _ _ e))
  refine wpAny_pyIter_list (s := St s h t) hl ?_
  have F' := F.push { cls := .type "list_iterator", data := .fields #[.ref a, .int 0 0] } rfl
  have W := Walks.list (prog := prog) (w := w) hh h.objs.size a ne vs.toArray
  have sz : vs.toArray.size = vs.length := by simp
  rw [sz] at W
  refine k h.objs.size _ _ [h.objs.size, a] (fun i h' => h'.IsListIter h.objs.size a i ∧ h'.IsList a vs.toArray) F' ⟨by simpa using W, fun i h ⟨⟨o, e, _⟩, _⟩ => ⟨o, e⟩⟩ ⟨⟨_, Heap.get?_push_size _ rfl, rfl, rfl⟩, hl.push _⟩ fun b hb => ?_
  simp only [List.mem_cons, List.not_mem_nil, or_false] at hb
  rcases hb with rfl | rfl
  · exact .inl rfl
  · exact .inr ⟨_, e⟩
theorem it_tuple {v : Value} {vs : List Value} {Q : Value → Shared → Prop} (hh : A.handled = none) (F : Fm U w g₀ h₀ L g h l μ) (J : IsT g v vs)
    (k : ∀ I o h' fp T, Fm U w g₀ h₀ L g h' l ((I, o) :: μ) → Itr prog w A I fp vs.length (fun i x => vs[i]? = some x) T → T 0 h' → (∀ b ∈ fp, b = I ∨ ∃ y, g b = some y) → Q (.ref I) (St s h' t)) :
    wpAny (model prog w) A (pyIter v) Q E (St s h t) := by
  obtain ⟨a, nn, rfl, e⟩ := J
  have hl : h.IsTuple a vs.toArray := ⟨_, F.sub _ _ e, rfl, nn, rfl⟩
  have ne : a ≠ h.objs.size := Nat.ne_of_lt (Heap.lt_size (F.sub _ _ e))
  refine wpAny_pyIter_tuple (s := St s h t) hl ?_
  have F' := F.push { cls := .type "tuple_iterator", data := .fields #[.ref a, .int 0 0] } rfl
  have W := Walks.tuple (prog := prog) (w := w) hh h.objs.size a ne vs.toArray
  have sz : vs.toArray.size = vs.length := by simp
  rw [sz] at W
  refine k h.objs.size _ _ [h.objs.size, a] (fun i h' => h'.IsTupleIter h.objs.size a i ∧ h'.IsTuple a vs.toArray) F' ⟨by simpa using W, fun i h ⟨⟨o, e, _⟩, _⟩ => ⟨o, e⟩⟩ ⟨⟨_, Heap.get?_push_size _ rfl, rfl, rfl⟩, ⟨_, Heap.get?_push_of_some _ (F.sub _ _ e), rfl, nn, rfl⟩⟩ fun b hb => ?_
  simp only [List.mem_cons, List.not_mem_nil, or_false] at hb
  rcases hb with rfl | rfl
  · exact .inl rfl
  · exact .inr ⟨_, e⟩
end

/-! comprehensions -/
noncomputable def forIfs (ifs : List Expr) (env : Env) : Sem Bool := forIn ifs true fun c r => if r = true then do let ok ← PySem.isTrue c env (eval c env); pure (ForInStep.yield ok) else pure (ForInStep.yield r)
section
variable {prog : Program} {w : World} {A : Around} {E : Value → Shared → Prop} {s sh : Shared} {env : Env} {U : List Addr} {g₀ g g' : Kn} {h₀ h h' : Heap} {L I : Addr} {t n i : Nat} {l l' : List (Str × Value)} {μ μ' : List (Addr × Obj)} {o o' : Obj}
  {fp : List Addr} {P : Nat → Value → Prop} {T : Nat → Heap → Prop}
theorem ifs_nil {Q : Bool → Shared → Prop} (h : Q true sh) : wpAny (model prog w) A (forIfs [] env) Q E sh := wpAny_tests_nil h
theorem ifs_one {c : Expr} {Q : Bool → Shared → Prop} (h : wpAny (model prog w) A (PySem.isTrue c env (eval c env)) Q E sh) : wpAny (model prog w) A (forIfs [c] env) Q E sh := wpAny_tests_one h

inductive CRun (s : Shared) (U : List Addr) (w : World) (g₀ : Kn) (h₀ : Heap) (L : Addr) (g : Kn) (D I : Addr) (n : Nat) (x : Str) (T : Nat → Heap → Prop) (J : Nat → Kn → List (Addr × Obj) → List Value → Prop) : Nat → Shared → Prop
  | mk (i : Nat) (g' : Kn) (h' : Heap) (t' : Nat) (l' : List (Str × Value)) (μ' : List (Addr × Obj)) (ys : List Value) (m : Nat) (o' : Obj) (hi : i ≤ n) (hl : l' = [] ∨ ∃ v, l' = [(x, v)]) (up : Up g g') (F : Fm U w g₀ h₀ L g' h' l' ((D, listO ys m) :: (I, o') :: μ')) (hT : T i h') (hJ : J i g' μ' ys) (hy : ys.length ≤ i) : CRun s U w g₀ h₀ L g D I n x T J (n + 1 - i) (St s h' t')
/-- the inner run of a list comprehension: its own frame C, over the heap where it begins -/
theorem comp_run {elt iter : Expr} {x : Str} {px : Pos} {ifs : List Expr} {scope : Scope} {pos : Pos} {cenv : Env} {D : Addr} {R : Result → Shared → Prop} (It : Itr prog w A I fp n P T) (hn : n ≤ 2 ^ 20)
    (F : Fm U w g₀ h₀ L g h [] ((D, listO [] 0) :: (I, o) :: μ)) (T0 : T 0 h) (hfp : ∀ b ∈ fp, b = I ∨ ∃ y, g b = some y)
    (hx : cenv.kindOf x = some .local) (hL : cenv.locals = L) (hk : cenv.scope.kind = .function)
    (J : Nat → Kn → List (Addr × Obj) → List Value → Prop) (J0 : J 0 g μ [])
    (turn : ∀ i v g' h' t' μ' ys m o', i < n → P i v → Up g g' → J i g' μ' ys → Fm U w g₀ h₀ L g' h' [(x, v)] ((D, listO ys m) :: (I, o') :: μ') →
      ∀ (KT : Value → Shared → Prop) (KN : Shared → Prop), (∀ r g'' h'' t'' μ'', Up g' g'' → Fm U w g₀ h₀ L g'' h'' [(x, v)] ((D, listO ys m) :: (I, o') :: μ'') → J (i + 1) g'' μ'' (ys ++ [r]) → KT r (St s h'' t'')) → (∀ g'' h'' t'' μ'', Up g' g'' → Fm U w g₀ h₀ L g'' h'' [(x, v)] ((D, listO ys m) :: (I, o') :: μ'') → J (i + 1) g'' μ'' ys → KN (St s h'' t'')) →
      wpAny (model prog w) A (forIfs ifs cenv) (fun b s₃ => Br b (wpAny (model prog w) A (eval elt cenv) KT NoE s₃) (KN s₃)) NoE (St s h' t'))
    (done : ∀ g' h' t' l' μ' ys m, Up g g' → J n g' μ' ys → ys.length ≤ n → Fm U w g₀ h₀ L g' h' l' ((D, listO ys m) :: μ') → R (.ok .next) (St s h' t')) :
    codeAny (model prog w) A (.compLoop (.ListComp elt [⟨.Name x px, iter, ifs, 0⟩] scope pos) 0 (.ref I) (.ref D) cenv) R (St s h t) := by
  refine codeAny_compLoop_tests (CRun s U w g₀ h₀ L g D I n x T J) ?_ (n + 1) (CRun.mk 0 g h t [] μ [] 0 o (Nat.zero_le _) (.inl rfl) (fun _ _ e => e) F T0 J0 (Nat.le_refl _))
  intro k s' hI
  cases hI with
  | mk i g' h' t' l' μ' ys m o' hi hl' up F' T' J' hys =>
  have sw : ∀ {g h l a b μ}, Fm U w g₀ h₀ L g h l (a :: b :: μ) → Fm U w g₀ h₀ L g h l (b :: a :: μ) := fun F => { F with
    mu := fun p hp => F.mu p (by rcases List.mem_cons.mp hp with rfl | hp; exact .tail _ (.head _); rcases List.mem_cons.mp hp with rfl | hp; exact .head _; exact .tail _ (.tail _ hp))
    nd := by
      have nd := F.nd
      simp only [List.map_cons, List.nodup_cons, List.mem_cons, not_or] at nd ⊢
      exact ⟨⟨Ne.symm nd.1.1, nd.2.1⟩, nd.1.2, nd.2.2⟩ }
  rcases Nat.lt_or_eq_of_le hi with hlt | rfl
  · refine itr_next It (sw F') T' hlt fun v h₂ t₂ o₂ hP T₂ F₂ => ?_
    refine wpAny_assign_Name (m_store F₂ hk hL hx fun h₃ t₃ F₃ => ?_)
    have T₃ : T (i + 1) h₃ := itr_frame It F₂ F₃ (fun _ _ e => e) (fun b hb => (hfp b hb).imp id fun ⟨y, e⟩ => ⟨y, up _ _ e⟩) T₂
    have F₄ : Fm U w g₀ h₀ L g' h₃ [(x, v)] ((D, listO ys m) :: (I, o₂) :: μ') := by
      refine sw (F₃.relook fun y => ?_)
      rcases hl' with rfl | ⟨u, rfl⟩
      · rfl
      · exact lk_shadow y
    refine wpAny_mono (turn i v g' h₃ t₃ μ' ys m o₂ hlt hP up J' F₄ _ _ (fun y g'' h'' t'' μ'' up2 F5 J5 => ?_) (fun g'' h'' t'' μ'' up2 F5 J5 => ?_)) (fun b s₃ z => Br.ite ⟨fun e => wpAny_mono (z.1 e) (fun _ _ q => q) fun _ _ e => e.elim, z.2⟩) fun _ _ e => e.elim
    · refine wpAny_list_append_plain (s := St s h'' t'') (items := ys.toArray) ⟨m, (F5.mu _ (.head _)).1⟩ (fun h₆ hl₆ hs₆ => ?_) (by simp; exact Nat.le_trans hys (Nat.le_trans hi (Nat.le_trans hn (by decide))))
      obtain ⟨m6, e6⟩ := hl₆
      have F6 : Fm U w g₀ h₀ L g'' h₆ [(x, v)] ((D, listO (ys ++ [y]) m6) :: (I, o₂) :: μ'') := F5.turn hs₆ (by rw [e6]; unfold listO; simp)
      exact ⟨n + 1 - (i + 1), by omega, .mk (i + 1) g'' h₆ t'' _ μ'' (ys ++ [y]) m6 o₂ hlt (.inr ⟨v, rfl⟩) (fun a y e => up2 _ _ (up _ _ e)) F6
        (itr_frame It (sw F₄) (sw F6) up2 (fun b hb => (hfp b hb).imp id fun ⟨y, e⟩ => ⟨y, up _ _ e⟩) T₃) J5 (by rw [List.length_append]; exact Nat.succ_le_succ hys)⟩
    · exact ⟨n + 1 - (i + 1), by omega, .mk (i + 1) g'' h'' t'' _ μ'' ys m o₂ hlt (.inr ⟨v, rfl⟩) (fun a y e => up2 _ _ (up _ _ e)) F5
        (itr_frame It (sw F₄) (sw F5) up2 (fun b hb => (hfp b hb).imp id fun ⟨y, e⟩ => ⟨y, up _ _ e⟩) T₃) J5 (Nat.le_succ_of_le hys)⟩
  · refine itr_done It (sw F') T' fun h₂ t₂ F₂ => ?_
    exact done g' h₂ t₂ l' μ' ys m up J' hys F₂
end
section
variable {prog : Program} {w : World} {A : Around} {E : Value → Shared → Prop} {s sh : Shared} {env : Env} {U : List Addr} {g₀ g g' : Kn} {h₀ h h' : Heap} {L I : Addr} {t n i : Nat} {l l' : List (Str × Value)} {μ μ' μm μr : List (Addr × Obj)} {o o' : Obj}
  {fp : List Addr} {P : Nat → Value → Prop} {T : Nat → Heap → Prop}
theorem Fm.callU2 {U' : List Addr} (F : Fm U w g₀ h₀ L g h l μ) (G : Grow U' g h g' h') (hU : ∀ a ∈ U', a ∈ μ.map (·.1)) (hs : ∀ p ∈ μ', p.1 ∈ μ.map (·.1)) (hn : (μ'.map (·.1)).Nodup) (hμ : ∀ p ∈ μ', h'.get? p.1 = some p.2) :
    Fm U w g₀ h₀ L g' h' l μ' := by
  have nU : ∀ a ∈ U', g a = none ∧ a ≠ L ∧ (a ∈ U ∨ h₀.objs.size ≤ a) := fun a hm => by
    obtain ⟨p, hp, rfl⟩ := List.mem_map.mp (hU a hm)
    exact (F.mu p hp).2
  obtain ⟨oL, es, ep, hL, r⟩ := F.ns
  refine ⟨⟨oL, es, ep, G.all _ _ (fun q => (nU L q).2.1 rfl) hL, r⟩, F.gd.mono G.up, G.sub, (G.old L F.lt).trans F.off, F.above, F.lo, fun b x e => G.up b x (F.up b x e), fun b x n e => ?_,
    fun b e => (G.old b (Nat.lt_of_lt_of_le e (Nat.le_trans F.above (Nat.le_of_lt F.lt)))).trans (F.old b e), fun p hp => ?_, hn⟩
  · refine G.all b x (fun q => ?_) (F.all b x n e)
    rcases (nU b q).2.2 with z | z
    · exact n z
    · exact absurd (Heap.lt_size e) (Nat.not_lt.mpr z)
  · obtain ⟨q, hq, e⟩ := List.mem_map.mp (hs p hp)
    have z := F.mu q hq
    rw [e] at z
    exact ⟨hμ p hp, (G.old _ (by have := Heap.lt_size z.1; exact this)).trans z.2.1, z.2.2⟩
theorem Fm.addmu {D : Addr} {x : Obj} (F : Fm U w g₀ h₀ L g h l μ) (hD : h.get? D = some x) (gD : g D = none) (ne : D ≠ L) (ha : h₀.objs.size ≤ D) (hm : D ∉ μ.map (·.1)) : Fm U w g₀ h₀ L g h l ((D, x) :: μ) :=
  { F with
    mu := fun p hp => by
      rcases List.mem_cons.mp hp with rfl | hp
      · exact ⟨hD, gD, ne, .inr ha⟩
      · exact F.mu p hp
    nd := by rw [List.map_cons, List.nodup_cons]; exact ⟨hm, F.nd⟩ }
noncomputable def Beside (h₀ : Heap) (L C : Addr) (g : Kn) (μ : List (Addr × Obj)) : Prop := g C = none ∧ C ≠ L ∧ C ∉ μ.map (·.1) ∧ h₀.objs.size ≤ C
theorem Fm.but {C : Addr} (F : Fm U w g₀ h₀ L g h l μ) (B : Beside h₀ L C g μ) (hs : Heap.SameBut C h h') : Fm U w g₀ h₀ L g h' l μ :=
  ⟨F.ns.sameBut hs (Ne.symm B.2.1), F.gd, fun b x e => (hs.2 b (fun q => by rw [q, B.1] at e; cases e)).trans (F.sub b x e), F.off, F.above, F.lo, F.up,
    fun b x nn e => (hs.2 b (Nat.ne_of_lt (Nat.lt_of_lt_of_le (Heap.lt_size e) B.2.2.2))).trans (F.all b x nn e), F.old,
    fun p hp => ⟨(hs.2 p.1 (fun q => B.2.2.1 (List.mem_map.mpr ⟨p, hp, q⟩))).trans (F.mu p hp).1, (F.mu p hp).2⟩, F.nd⟩

noncomputable def CompAt (prog : Program) (w : World) (A : Around) (env : Env) (scope : Scope) (cl : List (Str × Addr)) (elt : Expr) (x : Str) (px : Pos) (iter : Expr) (ifs : List Expr) (pos : Pos) (use : Option (Value → Sem Unit)) (Q : Value → Shared → Prop) (E : Value → Shared → Prop) (it : Value) (s₂ : Shared) : Prop :=
  wpAny (model prog w) A (newList []) (fun acc s₃ => wpAny (model prog w) A (newFunctionEnv scope env.globals cl [] env.qual none .none (some env)) (fun cenv s₄ =>
    codeAny (model prog w) A (.compStart (.ListComp elt [⟨.Name x px, iter, ifs, 0⟩] scope pos) 0 it acc { cenv with scope := relabel scope env }) (compPost (model prog w) A E use Q acc cenv.locals) s₄) E s₃) E s₂
theorem m_comp {elt iter : Expr} {x : Str} {px : Pos} {ifs : List Expr} {scope : Scope} {cl : List (Str × Addr)} {pos : Pos} {Q : Value → Shared → Prop}
    (hs : (fun x => foldedSetIterable iter env x) = pure) (hclos : closureFor scope env = pure cl) (hkind : scope.kind = .function) (hnames : decide (∀ x ∈ scope.names, x.2 = .local → scope.names.lookup x.1 = some .local) = true)
    (h : wpAny (model prog w) A (eval iter env) (kIter (model prog w) A E (CompAt prog w A env scope cl elt x px iter ifs pos none Q E)) E sh) :
    wpAny (model prog w) A (eval (.ListComp elt [⟨.Name x px, iter, ifs, 0⟩] scope pos) env) Q E sh := by
  rw [eval_ListComp]; exact wpAny_comprehension_free (use := none) rfl (congrFun hs) hclos hkind (of_decide_eq_true hnames) h
/-- y = [.. for x in ..], the stores exchanged -/
theorem m_assigncomp {elt iter : Expr} {x y : Str} {px py : Pos} {ifs : List Expr} {scope : Scope} {cl : List (Str × Addr)} {pos spos : Pos} {rest : List Stmt} {Q : Flow → Shared → Prop}
    (hsw : swapsWith (.ListComp elt [⟨.Name x px, iter, ifs, 0⟩] scope pos) (some (.Name y py)) spos.line env = pure true)
    (hs : (fun x => foldedSetIterable iter env x) = pure) (hclos : closureFor scope env = pure cl) (hkind : scope.kind = .function) (hnames : decide (∀ x ∈ scope.names, x.2 = .local → scope.names.lookup x.1 = some .local) = true)
    (h : wpAny (model prog w) A (eval iter env) (kIter (model prog w) A E (CompAt prog w A env scope cl elt x px iter ifs pos (some (assign (.Name y py) env)) (fun _ s' => wpAny (model prog w) A (execs rest env) Q E s') E)) E sh) :
    wpAny (model prog w) A (execs (.Assign [.Name y py] (.ListComp elt [⟨.Name x px, iter, ifs, 0⟩] scope pos) spos :: rest) env) Q E sh := by
  refine wpAny_execs_cons ?_
  rw [exec_Assign_Name_used _ _ _ _ hsw]
  refine wpAny_bind (wpAny_standAt (wpAny_bind ?_))
  show wpAny _ A (do let _ ← comprehension (.ListComp elt [⟨.Name x px, iter, ifs, 0⟩] scope pos) scope env _ (newList []) false (eval iter env) (some (assign (.Name y py) env))) _ _ sh
  exact wpAny_bind (wpAny_mono (wpAny_comprehension_free (use := some (assign (.Name y py) env)) rfl (congrFun hs) hclos hkind (of_decide_eq_true hnames) h) (fun _ s' hq => wpAny_pure (wpAny_pure hq)) fun _ _ e => e)

theorem comp_core {elt iter : Expr} {x : Str} {px : Pos} {ifs : List Expr} {scope : Scope} {cl : List (Str × Addr)} {pos : Pos} {use : Option (Value → Sem Unit)} {Q : Value → Shared → Prop} (It : Itr prog w A I fp n P T) (hn : n ≤ 2 ^ 20)
    (F : Fm U w g₀ h₀ L g h l ((I, o) :: (μm ++ μr))) (T0 : T 0 h) (hfp : ∀ b ∈ fp, b = I ∨ ∃ y, g b = some y)
    (hcell : ∀ y ∈ scope.names, y.2 ≠ .cell) (hkind : scope.kind = .function) (hx : scope.names.lookup x = some .local)
    (J : Nat → Kn → List (Addr × Obj) → List Value → Prop) (J0 : J 0 g μm [])
    (turn : ∀ C D i v g' h' t' μ' ys m o', i < n → P i v → Up g g' → J i g' μ' ys → h.objs.size ≤ C → Fm (I :: μm.map (·.1)) w g h C g' h' [(x, v)] ((D, listO ys m) :: (I, o') :: μ') →
      ∀ (KT : Value → Shared → Prop) (KN : Shared → Prop), (∀ r g'' h'' t'' μ'', Up g' g'' → Fm (I :: μm.map (·.1)) w g h C g'' h'' [(x, v)] ((D, listO ys m) :: (I, o') :: μ'') → J (i + 1) g'' μ'' (ys ++ [r]) → KT r (St s h'' t'')) → (∀ g'' h'' t'' μ'', Up g' g'' → Fm (I :: μm.map (·.1)) w g h C g'' h'' [(x, v)] ((D, listO ys m) :: (I, o') :: μ'') → J (i + 1) g'' μ'' ys → KN (St s h'' t'')) →
      wpAny (model prog w) A (forIfs ifs (compEnvC scope cl C env)) (fun b s₃ => Br b (wpAny (model prog w) A (eval elt (compEnvC scope cl C env)) KT NoE s₃) (KN s₃)) NoE (St s h' t'))
    (hJ : ∀ i g' μ' ys, J i g' μ' ys → μ'.map (·.1) = μm.map (·.1))
    (done : ∀ C D g' h' t' μ' ys m, Up g g' → J n g' μ' ys → ys.length ≤ n → h₀.objs.size ≤ D → Beside h₀ L C g' ((D, listO ys m) :: (μ' ++ μr)) → (∃ mC, h'.Ns C mC) →
      Fm U w g₀ h₀ L g' h' l ((D, listO ys m) :: (μ' ++ μr)) → compPost (model prog w) A E use Q (.ref D) C (.ok .next) (St s h' t')) :
    CompAt prog w A env scope cl elt x px iter ifs pos use Q E (.ref I) (St s h t) := by
  unfold CompAt
  refine wpAny_newObj_type (wpAny_newFunctionEnv hcell (by intro y hy; simp at hy) (fun h₁ hns₁ hsb₁ => ?_) hkind)
  dsimp only at hns₁ hsb₁ ⊢
  generalize hH2 : h.push { cls := .type "list", dict := none, data := .seq ([] : List Value).toArray } = H2 at hns₁ hsb₁ ⊢
  have hC : H2.objs.size = h.objs.size + 1 := by rw [← hH2, Heap.size_push]
  have old : ∀ b y, h.get? b = some y → h₁.get? b = some y := fun b y e => by
    have lt := Heap.lt_size e
    exact hsb₁.extBut b y (by rw [hC]; exact Nat.ne_of_lt (Nat.lt_succ_of_lt lt)) (Heap.get?_push_of_some _ (hH2 ▸ Heap.get?_push_of_some _ e))
  have gn : ∀ a, h.objs.size ≤ a → g a = none := fun a ha => by
    cases e : g a with
    | none => rfl
    | some y => exact absurd (Heap.lt_size (F.sub _ _ e)) (Nat.not_lt.mpr ha)
  have lt : ∀ p ∈ (I, o) :: (μm ++ μr), p.1 < h.objs.size := fun p hp => Heap.lt_size (F.mu p hp).1
  have nd := F.nd
  rw [List.map_cons, List.nodup_cons, List.map_append, List.nodup_append] at nd
  have ndI : I ∉ μm.map (·.1) := fun q => nd.1 (List.mem_append.mpr (.inl q))
  have FI : Fm (I :: μm.map (·.1)) w g h H2.objs.size g h₁ [] ((h.objs.size, listO [] 0) :: (I, o) :: μm) := {
    ns := hns₁
    gd := F.gd
    sub := fun a y e => old _ _ (F.sub _ _ e)
    off := gn _ (by rw [hC]; exact Nat.le_succ _)
    above := by rw [hC]; exact Nat.le_succ _
    lo := F.gnd.lo
    up := fun _ _ e => e
    all := fun a y _ e => old _ _ e
    old := fun _ _ => rfl
    mu := fun p hp => by
      rcases List.mem_cons.mp hp with rfl | hp
      · exact ⟨hsb₁.extBut _ _ (by rw [hC]; exact Nat.ne_of_lt (Nat.lt_succ_self _)) (Heap.get?_push_of_some _ (hH2 ▸ Heap.get?_push_size _ rfl)), gn _ (Nat.le_refl _), by rw [hC]; exact Nat.ne_of_lt (Nat.lt_succ_self _), .inr (Nat.le_refl _)⟩
      · have hp' : p ∈ (I, o) :: (μm ++ μr) := by
          rcases List.mem_cons.mp hp with rfl | hp
          · exact .head _
          · exact .tail _ (List.mem_append.mpr (.inl hp))
        have z := F.mu p hp'
        refine ⟨old _ _ z.1, z.2.1, by rw [hC]; exact Nat.ne_of_lt (Nat.lt_succ_of_lt (lt p hp')), .inl ?_⟩
        rcases List.mem_cons.mp hp with rfl | hp
        · exact .head _
        · exact .tail _ (List.mem_map_of_mem hp)
    nd := by
      rw [List.map_cons, List.map_cons, List.nodup_cons, List.nodup_cons]
      refine ⟨fun q => ?_, ndI, nd.2.1⟩
      rcases List.mem_cons.mp q with q | q
      · exact absurd (lt _ (.head _)) (by rw [← q]; exact Nat.lt_irrefl _)
      · obtain ⟨p, hp, e⟩ := List.mem_map.mp q
        exact absurd (lt p (.tail _ (List.mem_append.mpr (.inl hp)))) (by rw [e]; exact Nat.lt_irrefl _) }
  have T1 : T 0 h₁ := It.W.frame 0 h h₁ T0 fun b _ y e => old b y e
  have loop : ∀ s₃ : Shared, s₃ = St s h₁ (t + 0) →
      codeAny (model prog w) A (.compLoop (.ListComp elt [⟨.Name x px, iter, ifs, 0⟩] scope pos) 0 (.ref I) (.ref h.objs.size) (compEnvC scope cl H2.objs.size env)) (compPost (model prog w) A E use Q (.ref h.objs.size) H2.objs.size) s₃ := by
    rintro s₃ rfl
    refine comp_run It hn FI T1 hfp (lookup_relabel_local hx) rfl hkind J J0 (fun i v g' h' t' μ' ys m o' hi hP up hJ F' => turn _ _ i v g' h' t' μ' ys m o' hi hP up hJ (by rw [hC]; exact Nat.le_succ _) F') ?_
    intro g' h' t' l' μ' ys m up hJ' hys F'
    have ha := hJ _ _ _ _ hJ'
    have neC : ∀ p ∈ (I, o) :: (μm ++ μr), p.1 ≠ H2.objs.size := fun p hp => Nat.ne_of_lt (Nat.lt_of_lt_of_le (lt p hp) (by rw [hC]; exact Nat.le_succ _))
    have B : Beside h₀ L H2.objs.size g' ((h.objs.size, listO ys m) :: (μ' ++ μr)) := by
      refine ⟨F'.off, fun q => ?_, fun q => ?_, Nat.le_trans F.above (Nat.le_trans (Nat.le_of_lt F.lt) (by rw [hC]; exact Nat.le_succ _))⟩
      · exact absurd F.lt (by rw [← q, hC]; exact Nat.not_lt.mpr (Nat.le_succ _))
      · rw [List.map_cons, List.map_append, ha, ← List.map_append] at q
        rcases List.mem_cons.mp q with q | q
        · rw [hC] at q; exact absurd q (Nat.succ_ne_self _)
        · obtain ⟨p, hp, e⟩ := List.mem_map.mp q
          exact neC p (.tail _ hp) e
    refine done H2.objs.size h.objs.size g' h' t' μ' ys m up hJ' hys (Nat.le_trans F.above (Nat.le_of_lt F.lt)) B ⟨_, F'.ns⟩ ?_
    have G : Grow (I :: μm.map (·.1)) g h g' h' := F'.grow
    have F2 : Fm U w g₀ h₀ L g' h' l (μ' ++ μr) := by
      refine F.callU2 G (fun a hm => ?_) (fun p hp => ?_) (by rw [List.map_append, ha, List.nodup_append]; exact nd.2) fun p hp => ?_
      · rcases List.mem_cons.mp hm with rfl | hm
        · exact .head _
        · obtain ⟨q, hq, rfl⟩ := List.mem_map.mp hm
          exact .tail _ (List.mem_map_of_mem (List.mem_append.mpr (.inl hq)))
      · rw [List.map_cons, List.map_append, ← ha, ← List.map_append]
        exact .tail _ (List.mem_map_of_mem hp)
      · rcases List.mem_append.mp hp with hp | hp
        · exact (F'.mu p (.tail _ hp)).1
        · have z := F.mu p (.tail _ (List.mem_append.mpr (.inr hp)))
          refine G.all _ _ (fun q => ?_) z.1
          rcases List.mem_cons.mp q with q | q
          · exact nd.1 (List.mem_append.mpr (.inr (List.mem_map.mpr ⟨p, hp, q⟩)))
          · exact nd.2.2.2 _ q _ (List.mem_map_of_mem hp) rfl
    have zD := F'.mu _ (.head _)
    refine F2.addmu zD.1 zD.2.1 (Nat.ne_of_gt F.lt) (Nat.le_trans F.above (Nat.le_of_lt F.lt)) fun q => ?_
    rw [List.map_append, ha, ← List.map_append] at q
    obtain ⟨p, hp, e⟩ := List.mem_map.mp q
    exact absurd (lt p (.tail _ hp)) (by rw [e]; exact Nat.lt_irrefl _)
  exact codeAny_compStart_list (loop _ rfl) (It.W.self 0 _ _ _ T1 (loop _ rfl))

/-- the list as a value -/
theorem comp_val {elt iter : Expr} {x : Str} {px : Pos} {ifs : List Expr} {scope : Scope} {cl : List (Str × Addr)} {pos : Pos} {Q : Value → Shared → Prop} (It : Itr prog w A I fp n P T) (hn : n ≤ 2 ^ 20)
    (F : Fm U w g₀ h₀ L g h l ((I, o) :: (μm ++ μr))) (T0 : T 0 h) (hfp : ∀ b ∈ fp, b = I ∨ ∃ y, g b = some y)
    (hcell : ∀ y ∈ scope.names, y.2 ≠ .cell) (hkind : scope.kind = .function) (hx : scope.names.lookup x = some .local)
    (J : Nat → Kn → List (Addr × Obj) → List Value → Prop) (J0 : J 0 g μm [])
    (turn : ∀ C D i v g' h' t' μ' ys m o', i < n → P i v → Up g g' → J i g' μ' ys → h.objs.size ≤ C → Fm (I :: μm.map (·.1)) w g h C g' h' [(x, v)] ((D, listO ys m) :: (I, o') :: μ') →
      ∀ (KT : Value → Shared → Prop) (KN : Shared → Prop), (∀ r g'' h'' t'' μ'', Up g' g'' → Fm (I :: μm.map (·.1)) w g h C g'' h'' [(x, v)] ((D, listO ys m) :: (I, o') :: μ'') → J (i + 1) g'' μ'' (ys ++ [r]) → KT r (St s h'' t'')) → (∀ g'' h'' t'' μ'', Up g' g'' → Fm (I :: μm.map (·.1)) w g h C g'' h'' [(x, v)] ((D, listO ys m) :: (I, o') :: μ'') → J (i + 1) g'' μ'' ys → KN (St s h'' t'')) →
      wpAny (model prog w) A (forIfs ifs (compEnvC scope cl C env)) (fun b s₃ => Br b (wpAny (model prog w) A (eval elt (compEnvC scope cl C env)) KT NoE s₃) (KN s₃)) NoE (St s h' t'))
    (hJ : ∀ i g' μ' ys, J i g' μ' ys → μ'.map (·.1) = μm.map (·.1))
    (done : ∀ D g' h' t' μ' ys m, Up g g' → J n g' μ' ys → ys.length ≤ n → h₀.objs.size ≤ D → Fm U w g₀ h₀ L g' h' l ((D, listO ys m) :: (μ' ++ μr)) → Q (.ref D) (St s h' t')) :
    CompAt prog w A env scope cl elt x px iter ifs pos none Q E (.ref I) (St s h t) :=
  comp_core It hn F T0 hfp hcell hkind hx J J0 turn hJ fun C D g' h' t' μ' ys m up hj hy hD B ns F' => ⟨ns.choose, ns.choose_spec, fun h'' hs => done D g' h'' t' μ' ys m up hj hy hD (F'.but B hs)⟩

/-- the list for a name -/
theorem comp_asg {elt iter : Expr} {x y : Str} {px py : Pos} {ifs : List Expr} {scope : Scope} {cl : List (Str × Addr)} {pos : Pos} {Q : Value → Shared → Prop} (It : Itr prog w A I fp n P T) (hn : n ≤ 2 ^ 20)
    (F : Fm U w g₀ h₀ L g h l ((I, o) :: (μm ++ μr))) (T0 : T 0 h) (hfp : ∀ b ∈ fp, b = I ∨ ∃ y, g b = some y)
    (hcell : ∀ y ∈ scope.names, y.2 ≠ .cell) (hkind : scope.kind = .function) (hx : scope.names.lookup x = some .local) (hk : env.scope.kind = .function) (hL : env.locals = L) (hy : env.kindOf y = some .local)
    (J : Nat → Kn → List (Addr × Obj) → List Value → Prop) (J0 : J 0 g μm [])
    (turn : ∀ C D i v g' h' t' μ' ys m o', i < n → P i v → Up g g' → J i g' μ' ys → h.objs.size ≤ C → Fm (I :: μm.map (·.1)) w g h C g' h' [(x, v)] ((D, listO ys m) :: (I, o') :: μ') →
      ∀ (KT : Value → Shared → Prop) (KN : Shared → Prop), (∀ r g'' h'' t'' μ'', Up g' g'' → Fm (I :: μm.map (·.1)) w g h C g'' h'' [(x, v)] ((D, listO ys m) :: (I, o') :: μ'') → J (i + 1) g'' μ'' (ys ++ [r]) → KT r (St s h'' t'')) → (∀ g'' h'' t'' μ'', Up g' g'' → Fm (I :: μm.map (·.1)) w g h C g'' h'' [(x, v)] ((D, listO ys m) :: (I, o') :: μ'') → J (i + 1) g'' μ'' ys → KN (St s h'' t'')) →
      wpAny (model prog w) A (forIfs ifs (compEnvC scope cl C env)) (fun b s₃ => Br b (wpAny (model prog w) A (eval elt (compEnvC scope cl C env)) KT NoE s₃) (KN s₃)) NoE (St s h' t'))
    (hJ : ∀ i g' μ' ys, J i g' μ' ys → μ'.map (·.1) = μm.map (·.1))
    (done : ∀ D g' h' t' μ' ys m, Up g g' → J n g' μ' ys → ys.length ≤ n → h₀.objs.size ≤ D → Fm U w g₀ h₀ L g' h' ((y, .ref D) :: l) ((D, listO ys m) :: (μ' ++ μr)) → Q .none (St s h' t')) :
    CompAt prog w A env scope cl elt x px iter ifs pos (some (assign (.Name y py) env)) Q E (.ref I) (St s h t) :=
  comp_core It hn F T0 hfp hcell hkind hx J J0 turn hJ fun C D g' h' t' μ' ys m up hj hyy hD B ns F' => by
    subst hL
    refine wpAny_assign_Name (wpAny_storeName_local hy (s := St s h' t') F'.ns (fun h1 hn1 hs1 => ?_) (by rw [hk]; rfl))
    obtain ⟨mC, nC⟩ := ns
    exact ⟨mC, nC.sameBut hs1 B.2.1, fun h'' hs => done D g' h'' _ μ' ys m up hj hyy hD ((F'.store hn1 hs1).but B hs)⟩
end
/-! more leaves -/
section
variable {M : Model} {prog : Program} {w : World} {A : Around} {E : Value → Shared → Prop} {s sh : Shared} {env : Env} {U : List Addr} {g₀ g g' : Kn} {h₀ h h' : Heap} {L : Addr} {t : Nat} {l l' : List (Str × Value)} {μ μ' : List (Addr × Obj)}
theorem m_attrX {value : Expr} {attr : Str} {pos : Pos} {Q : Value → Shared → Prop}
    (he : eval (.Attribute value attr pos) env = (do
      let o ← eval value env
      standAt pos.atName
      let r ← holding [o] (getAttr o attr true)
      letTemporaryGo value o r
      pure r)) (h : wpAny (model prog w) A (eval value env) (kGet (model prog w) A E attr Q) E sh) :
    wpAny (model prog w) A (eval (.Attribute value attr pos) env) Q E sh := Attribute_any_ h he
theorem l_nenil {v₁ v₂ : Value} {xs : List Value} {Q : Value → Shared → Prop} (R : Room A 1) (h1 : ∃ a, v₁ = .ref a ∧ h.IsList a xs.toArray) (h2 : ∃ b, v₂ = .ref b ∧ h.IsList b #[]) (hQ : Q (.bool (!xs.isEmpty)) (St s h t)) :
    wpAny (model prog w) A (compareOp .NotEq v₁ v₂) Q E (St s h t) := by
  obtain ⟨a, rfl, ha⟩ := h1
  obtain ⟨b, rfl, hb⟩ := h2
  have hu : A.units < cLine := by have := R.u; omega
  cases xs with
  | nil => exact SeqAt.RcNeAt.lists (s := St s h t) (e := fun _ => true) ha hb rfl hu (fun j h1 => by simp at h1) prog w E Q hQ
  | cons x r => exact SeqAt.RcNeAt.lists_lengths (s := St s h t) ha hb (by simp) hu prog w E Q hQ
theorem Fm.swap {a b : Addr × Obj} (F : Fm U w g₀ h₀ L g h l (a :: b :: μ)) : Fm U w g₀ h₀ L g h l (b :: a :: μ) := { F with
    mu := fun p hp => F.mu p (by rcases List.mem_cons.mp hp with rfl | hp; exact .tail _ (.head _); rcases List.mem_cons.mp hp with rfl | hp; exact .head _; exact .tail _ (.tail _ hp))
    nd := by
      have nd := F.nd
      simp only [List.map_cons, List.nodup_cons, List.mem_cons, not_or] at nd ⊢
      exact ⟨⟨Ne.symm nd.1.1, nd.2.1⟩, nd.1.2, nd.2.2⟩ }
theorem l_appendM {D : Addr} {vs : List Value} {n : Nat} {pl : Sem Bool} {Q : Value × List Value → Shared → Prop} (F : Fm U w g₀ h₀ L g h l ((D, listO vs n) :: μ)) (h' : Q (.builtin "list.append", [.ref D]) (St s h t)) :
    wpAny (model prog w) A (getMethod (.ref D) "append" pl) Q E (St s h t) := getMethod_list_append (s := St s h t) (F.mu _ (.head _)).1 rfl rfl h'
theorem l_append {D : Addr} {vs : List Value} {n : Nat} {x : Value} {Q : Value → Shared → Prop} (F : Fm U w g₀ h₀ L g h l ((D, listO vs n) :: μ)) (hz : vs.length ≤ 2 ^ 20)
    (hQ : ∀ h', Fm U w g₀ h₀ L g h' l ((D, listO (vs ++ [x]) (n + 1)) :: μ) → Q .none (St s h' t)) : wpAny (model prog w) A (call (.builtin "list.append") [.ref D, x]) Q E (St s h t) :=
  append_at (s := St s h t) (F.mu _ (.head _)).1 (fun h' hs e => hQ h' (F.turn hs (by rw [e]; unfold listO; simp))) (by simp; exact Nat.le_trans hz (by decide))
theorem l_copy {v : Value} {vs : List Value} {Q : Value → Shared → Prop} (F : Fm U w g₀ h₀ L g h l μ) (I : IsL g v vs) (hz : vs.length ≤ 2 ^ 20)
    (hQ : ∀ a h' n, Fm U w g₀ h₀ L g h' l ((a, listO vs n) :: μ) → h₀.objs.size ≤ a → Q (.ref a) (St s h' t)) : wpAny (model prog w) A (call (.type "list") [v]) Q E (St s h t) := by
  obtain ⟨a, n, rfl, e⟩ := I
  refine call_list_seq (s := St s h t) a (.inl rfl) (F.sub _ _ e) rfl rfl (fun h' c' hk hD => ?_) (by simp; exact Nat.le_trans hz (by decide))
  exact hQ _ h' c' ((F.keep hk).addmu hD F.free (Nat.ne_of_gt F.lt) (Nat.le_trans F.above (Nat.le_of_lt F.lt)) fun q => by
    obtain ⟨p, hp, e⟩ := List.mem_map.mp q
    exact absurd (Heap.lt_size (F.mu p hp).1) (by rw [e]; exact Nat.lt_irrefl _)) (Nat.le_trans F.above (Nat.le_of_lt F.lt))
theorem it_range {r : Addr} {a b : Int} {t1 t2 t3 : Tok} {Q : Value → Shared → Prop} (hh : A.handled = none) (F : Fm U w g₀ h₀ L g h l μ) (hr : IsRange h r a b 1 t1 t2 t3) (ha : 0 ≤ a) (hb : b ≤ 2 ^ 20) (hab : a ≤ b)
    (k : ∀ I o h' fp T, Fm U w g₀ h₀ L g h' l ((I, o) :: μ) → Itr prog w A I fp (b - a).toNat (fun i x => ∃ t, x = .int (a + i) t) T → T 0 h' → (∀ b ∈ fp, b = I ∨ ∃ y, g b = some y) → Q (.ref I) (St s h' t)) :
    wpAny (model prog w) A (pyIter (.ref r)) Q E (St s h t) := by
  refine wpAny_pyIter_range (s := St s h t) hr (small_one (by omega) (by omega) (by omega) (by omega)) ?_
  have F' := F.push { cls := .type "range_iterator", data := .fields #[rawInt a, rawInt (Builtin.Range.rangeSize a b 1), rawInt 1] } rfl
  have W := Walks.range (prog := prog) (w := w) hh h.objs.size a 1 (b - a).toNat
  have e1 : (fun (i : Nat) v => ∃ t, v = Value.int (a + i * 1) t) = fun (i : Nat) v => ∃ t, v = Value.int (a + i) t := by funext i v; rw [Int.mul_one]
  rw [e1] at W
  refine k h.objs.size _ _ [h.objs.size] _ F' ⟨W, fun i h st => ⟨_, st⟩⟩ ?_ fun b hb => .inl (by simpa using hb)
  show Heap.get? _ _ = _
  rw [Heap.get?_push_size _ rfl, rangeSize_nat]
  simp
theorem r_call1 {b : Int} {u : Tok} {Q : Value → Shared → Prop} (F : Fm U w g₀ h₀ L g h l μ) (hQ : ∀ r h' t' t1 t2 t3, Fm U w g₀ h₀ L g h' l μ → IsRange h' r 0 b 1 t1 t2 t3 → Q (.ref r) (St s h' t')) :
    wpAny (model prog w) A (call (.type "range") [.int b u]) Q E (St s h t) :=
  call_range_1 (s := St s h t) (hQ _ _ _ _ _ _ ((F.push _ rfl).drop) (IsRange.new ..))
theorem l_in {v x : Value} {vs : List Value} {Q : Value → Shared → Prop} (e : Value → Bool) (hl : ∃ a, v = .ref a ∧ h.IsList a vs.toArray) (he : ∀ y, y ∈ vs → SeqAt.EqAt A.in1 (St s h t) y x (e y)) (hQ : Q (.bool (vs.any e)) (St s h t)) :
    wpAny (model prog w) A (compareOp .In x v) Q E (St s h t) := by
  obtain ⟨a, rfl, ha⟩ := hl
  exact SeqAt.in_listAt (s := St s h t) e ha (fun y hy => he y (by simpa using hy)) (by simpa using hQ)
theorem l_notin {v x : Value} {vs : List Value} {Q : Value → Shared → Prop} (e : Value → Bool) (hl : ∃ a, v = .ref a ∧ h.IsList a vs.toArray) (he : ∀ y, y ∈ vs → SeqAt.EqAt A.in1 (St s h t) y x (e y)) (hQ : Q (.bool (!vs.any e)) (St s h t)) :
    wpAny (model prog w) A (compareOp .NotIn x v) Q E (St s h t) := by
  obtain ⟨a, rfl, ha⟩ := hl
  exact SeqAt.notIn_listAt (s := St s h t) e ha (fun y hy => he y (by simpa using hy)) (by simpa using hQ)
theorem t_in {v x : Value} {vs : List Value} {Q : Value → Shared → Prop} (e : Value → Bool) (hl : ∃ a, v = .ref a ∧ h.IsTuple a vs.toArray) (he : ∀ y, y ∈ vs → SeqAt.EqAt A.in1 (St s h t) y x (e y)) (hQ : Q (.bool (vs.any e)) (St s h t)) :
    wpAny (model prog w) A (compareOp .In x v) Q E (St s h t) := by
  obtain ⟨a, rfl, ha⟩ := hl
  exact SeqAt.in_tupleAt (s := St s h t) e ha (fun y hy => he y (by simpa using hy)) (by simpa using hQ)
end
/-! rows of patterns -/
inductive All2 {α β : Type} (R : α → β → Prop) : List α → List β → Prop
  | nil : All2 R [] []
  | cons {x y xs ys} : R x y → All2 R xs ys → All2 R (x :: xs) (y :: ys)
section
variable {α β : Type} {R R' : α → β → Prop}
theorem All2.length {xs : List α} {ys : List β} (h : All2 R xs ys) : xs.length = ys.length := by induction h with | nil => rfl | cons _ _ ih => simp [ih]
theorem All2.imp {xs : List α} {ys : List β} (h : All2 R xs ys) (f : ∀ x y, R x y → R' x y) : All2 R' xs ys := by induction h with | nil => exact .nil | cons a _ ih => exact .cons (f _ _ a) ih
theorem All2.append {xs xs' : List α} {ys ys' : List β} (h : All2 R xs ys) (h' : All2 R xs' ys') : All2 R (xs ++ xs') (ys ++ ys') := by induction h with | nil => exact h' | cons a _ ih => exact .cons a ih
theorem All2.snoc {xs : List α} {ys : List β} {x : α} {y : β} (h : All2 R xs ys) (r : R x y) : All2 R (xs ++ [x]) (ys ++ [y]) := h.append (.cons r .nil)
theorem All2.take {xs : List α} {ys : List β} (h : All2 R xs ys) : ∀ n, All2 R (xs.take n) (ys.take n) := by
  induction h with
  | nil => intro n; simpa using All2.nil
  | cons a _ ih => intro n; cases n with | zero => exact .nil | succ n => exact .cons a (ih n)
theorem All2.drop {xs : List α} {ys : List β} (h : All2 R xs ys) : ∀ n, All2 R (xs.drop n) (ys.drop n) := by
  induction h with
  | nil => intro n; simpa using All2.nil
  | cons a r ih => intro n; cases n with | zero => exact .cons a r | succ n => exact ih n
theorem All2.get {xs : List α} {ys : List β} (h : All2 R xs ys) : ∀ {i : Nat} {x : α}, xs[i]? = some x → ∃ y, ys[i]? = some y ∧ R x y := by
  induction h with
  | nil => intro i x e; simp at e
  | cons a r ih =>
    intro i x e
    cases i with
    | zero => simp at e; subst e; exact ⟨_, rfl, a⟩
    | succ i => simp at e; simpa using ih e
end
noncomputable def RowAt (g : Kn) (v : Value) (ps : List Pat) : Prop := ∃ vs, IsL g v vs ∧ All2 (PatAt g) vs ps
noncomputable def RowsAt (g : Kn) (v : Value) (rows : List (List Pat)) : Prop := ∃ vs, IsL g v vs ∧ All2 (RowAt g) vs rows
theorem RowAt.mono {g g' : Kn} {v : Value} {ps : List Pat} (H : RowAt g v ps) (up : Up g g') : RowAt g' v ps := let ⟨vs, I, P⟩ := H; ⟨vs, I.mono up, P.imp fun _ _ p => p.mono up⟩
theorem RowsAt.mono {g g' : Kn} {v : Value} {ps : List (List Pat)} (H : RowsAt g v ps) (up : Up g g') : RowsAt g' v ps := let ⟨vs, I, P⟩ := H; ⟨vs, I.mono up, P.imp fun _ _ p => p.mono up⟩
noncomputable def StrsAt (v : Value) (c : Cn) : Prop := ∃ t, v = .str c.name t
theorem take_snoc {α : Type} {xs : List α} {i : Nat} {x : α} (e : xs[i]? = some x) : xs.take (i + 1) = xs.take i ++ [x] := by
  rw [List.take_add_one, e]; rfl
theorem cn_beq (c d : Cn) : (c.name == d.name) = (c == d) := by induction c <;> induction d <;> decide
section
variable {prog : Program} {w : World} {A : Around} {E : Value → Shared → Prop} {sh : Shared} {env : Env}
theorem c_methB {o : Expr} {name : Str} {apos pos : Pos} {e : Expr} {rest : List Expr} {pl : Sem Bool} {Q : Value → Shared → Prop}
    (hk : eval (.Call (.Attribute o name apos) (e :: rest) [] pos) env = (do
      let ov ← eval o env
      standAt apos.atName
      let (f, first) ← holding [ov] (getMethod ov name pl)
      callWith pos f first (backTo pos (starEach (e :: rest) env)) []))
    (he : starEach (e :: rest) env = (false, eval e env) :: starEach rest env) (hplain : (backTo pos (starEach rest env)).any (·.1) = false)
    (h : wpAny (model prog w) A (eval o env) (kMet (model prog w) A E name pl (kMethBF (model prog w) A E env pos (e :: rest) Q)) E sh) :
    wpAny (model prog w) A (eval (.Call (.Attribute o name apos) (e :: rest) [] pos) env) Q E sh := by
  refine MethodCall_ (wpAny_mono h (fun ov s₁ h₁ => wpAny_mono h₁ (fun fx s₂ h₂ => ?_) fun _ _ x => x) fun _ _ x => x) hk
  obtain ⟨f, first⟩ := fx
  obtain ⟨id, e1, h₂⟩ := h₂
  dsimp only at e1
  subst e1
  exact callWith_method1 h₂ he hplain
end
/-! posts of a test: the heap moved, the rest as it stood -/
inductive PostB (s : Shared) (U : List Addr) (w : World) (g : Kn) (h : Heap) (L : Addr) (g₁ : Kn) (l : List (Str × Value)) (μ : List (Addr × Obj)) (P : Bool → Prop) (b : Bool) : Shared → Prop
  | mk (h' : Heap) (t' : Nat) (F : Fm U w g h L g₁ h' l μ) (hP : P b) : PostB s U w g h L g₁ l μ P b (St s h' t')
inductive PostG {α : Type} (s : Shared) (U : List Addr) (w : World) (g : Kn) (h : Heap) (L : Addr) (g₁ : Kn) (l : List (Str × Value)) (μ : List (Addr × Obj)) (P : α → Kn → Prop) (b : α) : Shared → Prop
  | mk (g' : Kn) (h' : Heap) (t' : Nat) (up : Up g₁ g') (F : Fm U w g h L g' h' l μ) (hP : P b g') : PostG s U w g h L g₁ l μ P b (St s h' t')
/-- what was stored in a turn goes behind the names that stay -/
theorem lk_base {b st : List (Str × Value)} (j : List (Str × Value)) (h : (b.all fun p => (st.lookup p.1).isNone) = true) (y : Str) : (b ++ (st ++ (b ++ j))).lookup y = (st ++ (b ++ j)).lookup y := by
  rw [List.lookup_append]
  cases e : b.lookup y with
  | none => rfl
  | some v =>
    have hm : ∃ p ∈ b, p.1 = y := by
      clear h
      induction b with
      | nil => cases e
      | cons p r ih =>
        obtain ⟨x, u⟩ := p
        rw [List.lookup_cons] at e
        by_cases q : y = x
        · exact ⟨_, .head _, q.symm⟩
        · have : (y == x) = false := by simpa using q
          rw [this] at e
          obtain ⟨p, hp, q⟩ := ih e
          exact ⟨p, .tail _ hp, q⟩
    obtain ⟨p, hp, rfl⟩ := hm
    have := List.all_eq_true.mp h p hp
    rw [List.lookup_append, List.lookup_append, Option.isNone_iff_eq_none.mp this, e]; rfl
theorem lk_tail {x : Str} {u : Value} (A : List (Str × Value)) (h : (A.lookup x).isNone = true) (y : Str) : (A ++ [(x, u)]).lookup y = ((x, u) :: A).lookup y := by
  rw [List.lookup_append, List.lookup_cons]
  by_cases e : y = x
  · subst e
    rw [Option.isNone_iff_eq_none.mp h]; simp
  · have : (y == x) = false := by simpa using e
    rw [this]
    cases q : A.lookup y <;> simp [List.lookup_cons, this, q]
def tq : List Tac → Tac
  | [] => Lean.Unhygienic.run `(tactic| skip)
  | [t] => t
  | t :: ts => Lean.Unhygienic.run `(tactic| ($t:tactic; $(tq ts):tactic))
def tc (n : Lean.Name) (t : Tac) : Tac := Lean.Unhygienic.run `(tactic| case $(Lean.mkIdent n):ident => $t:tactic)
def tw (s : String) : Tac := Lean.Unhygienic.run `(tactic| walk_at $(Lean.quote s))
def tx (t : Lean.Term) : Tac := Lean.Unhygienic.run `(tactic| exact $t)
def rf (t : Lean.Term) : Tac := Lean.Unhygienic.run `(tactic| refine' $t)
def wr (t : Tac) : Tac := Lean.Unhygienic.run `(tactic| with_reducible $t:tactic)
def tb (t : Tac) : Lean.Term := Lean.Unhygienic.run `(by $t:tactic)
def nh (n : Lean.Name) : Lean.Term := Lean.Unhygienic.run `(?$(Lean.mkIdent n))
def ta (n : Lean.Name) (ts : List Lean.Term) : Lean.Term := Lean.Syntax.mkApp (Lean.mkCIdent n) ts.toArray
def uu : Lean.Term := Lean.Unhygienic.run `(_)
def h1 : Lean.Term := Lean.Unhygienic.run `(?_)
def qr : Lean.Term := Lean.mkCIdent ``rfl
def ts : Tac := Lean.Unhygienic.run `(tactic| assumption)
def tk : Tac := Lean.Unhygienic.run `(tactic| k_is)
def td : Tac := Lean.Unhygienic.run `(tactic| decide)
def ti : List Lean.Name → Tac
  | [] => tq []
  | _ :: ns => tq [Lean.Unhygienic.run `(tactic| intro _), ti ns]
def sc : Tac := tf [Lean.Unhygienic.run `(tactic| fail_if_success (with_reducible show _ = _)), tx qr]
def sq (t : Lean.Term) : Tac := Lean.Unhygienic.run `(tactic| ((with_reducible refine' $t) <;> $sc))
def sp (n : Lean.Name) : Tac := sq (Lean.Unhygienic.run `($(Lean.mkCIdent n) ..))
def rg (q : Lean.Term) : Tac := rf (ta ``m_global [tb ts, qr, qr, qr, qr, nh `kv, q])
def sh (n : Lean.Name) (l : List Lean.Term) : Tac :=
  let t := ta ``wpAny [uu, uu, ta n l, uu, uu, uu]
  Lean.Unhygienic.run `(tactic| fail_if_success fail_if_success (with_reducible show $t))
def st (q : Lean.Term) : Tac := tq [wr (rf (ta ``m_store [q, nh `k1, nh `k2, nh `k3, h1])), tc `k1 (tx qr), tc `k2 (tx qr), tc `k3 (tx qr)]
def step : String → Option Tac
  | "enter" => some (tq ([tc `ho tk, tc `hcd tk, tc `hroom (tx (ta ``Room.lt [tb ts])),
      tc `hbind (tf [tx (ta ``BindsTo.of_eq [qr]), tx (ta ``binds_K [ta ``Gnd.k [ta ``Gd.at [tb ts, tb ts]], qr, tb tk, qr, qr, qr])]), tc `hcell td] ++ [`hloc, `hco, `hgen, `hk].map (fun n => tc n (tx qr))))
  | "bi" => some (tq [rf (ta ``m_builtin [tb ts, qr, qr, qr, qr, qr, nh `k1, nh `k2, nh `k3, ta ``And.intro [qr, qr]]),
      tc `k2 (tf ([``boot_isinstance, ``boot_len, ``boot_chr, ``boot_sorted, ``boot_max, ``boot_min, ``boot_range, ``PyProof.Rows.boot_list, ``PyProof.Rows.boot_int, ``boot_zip, ``boot_enumerate].map sp)), tc `k3 td, tc `k1 tk])
  | "me" => some (tf (tq ([wr (rf (ta ``m_local [tb ts, nh `k1, nh `k2, nh `k3, nh `k4, nh `k5, h1]))] ++ [`k1, `k2, `k3, `k4].map (fun n => tc n (tx qr)) ++ [tc `k5 (Lean.Unhygienic.run `(tactic| with_unfolding_all exact rfl))]) :: [``m_none, ``m_attr, ``m_attrX, ``m_cmp, ``m_sub, ``m_and, ``m_or, ``m_one, ``m_bin, ``m_list, ``m_tuple, ``m_ifexp, ``m_comp, `Mine.m_compG, `Mine.m_boolc, `Mine.m_unary].map sp ++
      [tq [tf [sp ``m_int, sp ``m_str], ti [`a, `b]], tq [sq (ta ``c_bi [nh `k1, h1, h1, h1]), tc `k1 (tw "bi")], tq [sq (ta ``c_ty [nh `k1, h1, h1, h1]), tc `k1 (tw "bi")],
       tq [sh ``eval [ta ``Expr.Name [uu, uu], uu], rg h1, tc `kv tk],
       tq [sq (ta ``c_own [nh `k1, nh `k2, h1, h1, h1]), tc `k1 (tq [rg (ta ``And.intro [qr, qr]), tc `kv tk]), tc `k2 (tx (ta ``And.intro [qr, ta ``trivial []]))],
       tq [sh ``eval [ta ``Expr.Call [ta ``Expr.Attribute [uu, ta ``Str.ofString [Lean.quote "append"], uu], uu, uu, uu], uu], sp ``c_methB], sp ``c_meth]))
  | "ms" => some (tf ([``m_return, ``m_nil, ``m_putattr, ``m_expr, ``m_for, ``m_assigncomp, `Mine.m_for2, `Mine.m_assigncompG, `Mine.m_tasg, `Mine.m_tget].map sp ++ [tq [sp ``m_assign, ti [`a, `b]], tq [sp ``m_if, ti [`a, `b, `c, `d, `e]]]))
  | "k" => some (tf [wr (rf (ta ``kret_ [h1])), wr (rf (ta ``knot_ [h1])), rf (ta ``hid_out [tb ts, h1]), rf (ta ``hid_flow [tb ts, qr, h1]), rf (ta ``hid_ret [tb ts, h1])])
  | "kx" => some (Lean.Unhygienic.run `(tactic| repeat $(tw "k"):tactic))
  | "fo" => some (tq [Lean.Unhygienic.run `(tactic| rename Fm _ _ _ _ _ _ _ _ _ => Fo), st (Lean.mkIdent `Fo), Lean.Unhygienic.run `(tactic| try clear Fo), ti [`a, `b, `c]])
  | "m" => some (tf [tq [sh ``eval [uu, uu], tw "me"], tq [sh ``execs [uu, uu], tw "ms"], tq [sh ``spliced [uu], tf [sp ``i_nil, sp ``i_cons]],
      tq [sh ``PySem.isTrue [uu, uu, uu], tf ([``t_not, ``t_cmp, ``t_and, ``t_or, ``t_val].map sp)], sp ``t_bool, tw "fo", tq [st (tb ts), ti [`a, `b, `c]],
      tq [tf ([``i_add, ``i_sub, `Mine.i_neg, `Mine.b_int].map sp), ti [`a, `b]], tf ([``i_gt, ``i_lt, ``i_ge, ``eqi, ``eqs, ``ep_some, ``ep_none, `Mine.i_int].map sp), rf (ta ``hid_next [tb ts, h1]), tw "k"])
  | "M" => some (tf [tw "m", tq [sh ``eval [ta ``Expr.Name [uu, uu], uu], rf (ta `Mine.m_cell [tb ts, nh `k1, qr, qr, qr, qr, h1]), tc `k1 ts]])
  | _ => none
local macro_rules
  | `(tactic| walk_at $s:str) => match step s.getString with
    | some t => pure t
    | none => Lean.Macro.throwUnsupported
inductive LitV : Value → Pat → Prop
  | int {i t} : LitV (.int i t) (.int i)
  | chr {c t} : LitV (.str (strOf [c]) t) (.chr c)
noncomputable def kindOf : Pat → Str
  | .int _ => "int"
  | .chr _ => "char"
  | _ => "text"
noncomputable def isLit : Pat → Pat → Bool
  | .int i, .int j => i == j
  | .chr c, .chr d => c == d
  | _, _ => false

theorem PatAt.lit {g : Kn} {v : Value} {p : Pat} (P : PatAt g v p) (h : p.cls = 126) : ∃ a kt x, v = .ref a ∧ Inst g a 126 [("place", .none), ("kind", .str (kindOf p) kt), ("value", x)] ∧ (LitV x p ∨ ∃ cs, p = .text cs) := by
  cases P with
  | int I => exact ⟨_, _, _, rfl, I, .inl .int⟩
  | chr I => exact ⟨_, _, _, rfl, I, .inl .chr⟩
  | text I => exact ⟨_, _, _, rfl, I, .inr ⟨_, rfl⟩⟩
  | _ => cases h
theorem k_ic : (("int" : Str) == ("char" : Str)) = false := by decide
theorem k_ci : (("char" : Str) == ("int" : Str)) = false := by decide
theorem k_ti : (("text" : Str) == ("int" : Str)) = false := by decide
theorem k_tc : (("text" : Str) == ("char" : Str)) = false := by decide
theorem strOf_inj {a b : List Nat} (h : strOf a = strOf b) : a = b := by
  have := congrArg (fun x : Str => x.cps.toList) h
  simpa [strOf] using this
theorem strOf_beq (a b : List Nat) : (strOf a == strOf b) = decide (a = b) := by
  by_cases h : a = b
  · subst h; simp
  · have : strOf a ≠ strOf b := fun e => h (strOf_inj e)
    simp [this, h]
theorem strOf_beq1 (c d : Nat) : (strOf [c] == strOf [d]) = (c == d) := by
  rw [strOf_beq]
  by_cases h : c = d
  · subst h; simp
  · simp [h]
theorem lit_kind {p q : Pat} (h : (kindOf p == kindOf q) = false) : isLit p q = false := by
  (revert h; generalize p = p; induction p <;> intro h <;> induction q <;> first | rfl | exact absurd h (by simp [kindOf]))
theorem lit_cls {p q : Pat} (h : (p.cls == 126) = false) : isLit p q = false := by induction p <;> first | rfl | exact Bool.noConfusion h
theorem lit_two {x y : Value} {p q : Pat} (D : LitV x p ∨ ∃ cs, p = .text cs) (V : LitV y q) (hb : (kindOf p == kindOf q) = true) :
    (∃ i t j u, x = .int i t ∧ y = .int j u ∧ isLit p q = (i == j)) ∨ (∃ c t d u, x = .str (strOf [c]) t ∧ y = .str (strOf [d]) u ∧ isLit p q = (c == d)) := by
  rcases D with D | ⟨cs, rfl⟩
  · cases D <;> cases V
    · exact .inl ⟨_, _, _, _, rfl, rfl, rfl⟩
    · exact absurd (hb.symm.trans k_ic) Bool.noConfusion
    · exact absurd (hb.symm.trans k_ci) Bool.noConfusion
    · exact .inr ⟨_, _, _, _, rfl, rfl, rfl⟩
  · cases V
    · exact absurd (hb.symm.trans k_ti) Bool.noConfusion
    · exact absurd (hb.symm.trans k_tc) Bool.noConfusion
theorem is_literal_spec {prog : Program} {w : World} {A : Around} {s : Shared} {g : Kn} {h : Heap} {t : Nat} {v x : Value} {p q : Pat} {kt : Tok} (R : Room A 5) (gd : Gd w g) (sub : Sub g h)
    (P : PatAt g v p) (V : LitV x q) : wpAny (model prog w) A (call (.ref 380) [v, .str (kindOf q) kt, x]) (Ret [] g s h (fun _ _ r => r = .bool (isLit p q))) NoE (St s h t) := by
  refine' m_enter [("value", x), ("kind", .str (kindOf q) kt), ("pattern", v)] gd sub ?ho ?hcd ?hroom ?hbind ?hloc ?hcell ?hco ?hgen ?hk ?hb
  walk_at "enter"
  try clear F
  intro L h₁ t₁ F
  refine' hideF ?_
  intro _ _
  repeat walk_at "m"
  repeat walk_at "m"
  walk_at "kx"; refine' m_isiP F P (by decide) ?_; intro t₂
  repeat walk_at "m"
  walk_at "kx"; refine ⟨fun hb => ?_, fun hb => ?_⟩
  · obtain ⟨a, kt', x', rfl, I, D⟩ := P.lit (by simpa using hb)
    repeat walk_at "m"
    walk_at "kx"; refine' m_getattr F I rfl (patCls_ok (by decide)) (by kernel_rfl) rfl ?_; intro t₃
    repeat walk_at "m"
    walk_at "kx"; refine ⟨fun hb => ?_, fun hb => ?_⟩
    · repeat walk_at "m"
      rcases lit_two D V (by simpa using hb) with ⟨i, ti, j, tj, rfl, rfl, e⟩ | ⟨i, ti, j, tj, rfl, rfl, e⟩
      · walk_at "kx"; refine' m_getattr F I rfl (patCls_ok (by decide)) (by kernel_rfl) rfl ?_; intro t₄
        repeat walk_at "m"
        walk_at "kx"; exact ret_ F (congrArg Value.bool e.symm)
      · walk_at "kx"; refine' m_getattr F I rfl (patCls_ok (by decide)) (by kernel_rfl) rfl ?_; intro t₄
        repeat walk_at "m"
        walk_at "kx"; exact ret_ F (congrArg Value.bool ((strOf_beq1 _ _).trans e.symm))
    · walk_at "kx"; refine ret_ F ?_
      rw [lit_kind hb, hb]
  · walk_at "kx"; refine ret_ F ?_
    rw [lit_cls hb, hb]
/-! making nodes -/
noncomputable def clsTab : List (Addr × Addr × List Str) := [(99, 89, ["place"]), (72, 62, ["place", "name"]), (126, 116, ["place", "kind", "value"]), (153, 143, ["place", "name", "args"]), (180, 170, ["place", "items"]), (207, 197, ["place", "items"]),
  (234, 224, ["place", "name", "pattern"]), (261, 251, ["place", "pattern"]), (288, 278, ["place", "pattern"]), (362, 340, ["cons"]), (455, 426, ["known"]), (486, 483, ["name", "tag", "arity", "stricts", "type_name", "scheme", "siblings", "is_newtype"])]
noncomputable def ClsFine (K : Frag) (c : Addr × Addr × List Str) : Bool :=
  makesIn K c.1 && (findIn K (.ref c.1) "__init__" == some (some (.ref c.2.1))) && (typeIn K (.ref c.2.1) == some (.type "function")) && c.2.2.all fun x => SetOk K c.1 x && AttrOk K c.1 x
theorem cls_tab {w : World} : (clsTab.all fun c => ClsFine (K0 w.params) c) = true := by kernel_rfl
structure Fine (K : Frag) (C fI : Addr) (xs : List Str) : Prop where
  m : makesIn K C = true
  i : findIn K (.ref C) "__init__" = some (some (.ref fI))
  f : typeIn K (.ref fI) = some (.type "function")
  s : ∀ x ∈ xs, SetOk K C x = true
  a : ∀ x ∈ xs, AttrOk K C x = true
theorem fine_of {w : World} {C fI : Addr} {xs : List Str} (hm : (C, fI, xs) ∈ clsTab) : Fine (K0 w.params) C fI xs := by
  have h := List.all_eq_true.mp (cls_tab (w := w)) _ hm
  unfold ClsFine at h
  simp only [Bool.and_eq_true, beq_iff_eq, List.all_eq_true] at h
  exact ⟨h.1.1.1, h.1.1.2, h.1.2, fun x hx => (h.2 x hx).1, fun x hx => (h.2 x hx).2⟩
theorem fine_wild {w : World} : Fine (K0 w.params) 99 89 ["place"] := fine_of (List.mem_of_getElem? (i := 0) rfl)
theorem fine_pvar {w : World} : Fine (K0 w.params) 72 62 ["place", "name"] := fine_of (List.mem_of_getElem? (i := 1) rfl)
theorem fine_lit {w : World} : Fine (K0 w.params) 126 116 ["place", "kind", "value"] := fine_of (List.mem_of_getElem? (i := 2) rfl)
theorem fine_con {w : World} : Fine (K0 w.params) 153 143 ["place", "name", "args"] := fine_of (List.mem_of_getElem? (i := 3) rfl)
theorem fine_tup {w : World} : Fine (K0 w.params) 180 170 ["place", "items"] := fine_of (List.mem_of_getElem? (i := 4) rfl)
theorem fine_lst {w : World} : Fine (K0 w.params) 207 197 ["place", "items"] := fine_of (List.mem_of_getElem? (i := 5) rfl)
theorem fine_as {w : World} : Fine (K0 w.params) 234 224 ["place", "name", "pattern"] := fine_of (List.mem_of_getElem? (i := 6) rfl)
theorem fine_lazy {w : World} : Fine (K0 w.params) 261 251 ["place", "pattern"] := fine_of (List.mem_of_getElem? (i := 7) rfl)
theorem fine_bang {w : World} : Fine (K0 w.params) 288 278 ["place", "pattern"] := fine_of (List.mem_of_getElem? (i := 8) rfl)
theorem fine_constructors {w : World} : Fine (K0 w.params) 362 340 ["cons"] := fine_of (List.mem_of_getElem? (i := 9) rfl)
theorem fine_watcher {w : World} : Fine (K0 w.params) 455 426 ["known"] := fine_of (List.mem_of_getElem? (i := 10) rfl)
theorem fine_coninfo {w : World} : Fine (K0 w.params) 486 483 ["name", "tag", "arity", "stricts", "type_name", "scheme", "siblings", "is_newtype"] := fine_of (List.mem_of_getElem? (i := 11) rfl)
theorem node_meth {w : World} : specialIn (K0 w.params) (.ref 43) "__getattribute__" = some (some (.builtin "type.__getattribute__")) ∧ readsIn (K0 w.params) 43 (.type "type") = true ∧ findCls (K0 w.params) (.ref 43) (.type "type") "__init__" = some (.val (.ref 33)) ∧ keepIn (K0 w.params) (.ref 33) = true :=
  ⟨by kernel_rfl, by kernel_rfl, by kernel_rfl, by kernel_rfl⟩
structure Born (g : Kn) (h : Heap) (x dx C : Addr) : Prop where
  sub : Sub g h
  d : h.get? dx = some (dictOf [] 0)
  i : h.get? x = some (instObj C dx)
  gd : g dx = none
  gi : g x = none
  ne : dx ≠ x
noncomputable def Made (dx x C : Addr) (fs : List (Str × Value)) (_ : Kn) (h : Heap) (r : Value) : Prop := r = .none ∧ ∃ es n, h.get? dx = some (dictOf es n) ∧ h.get? x = some (instObj C dx) ∧ EntsAre es fs

theorem node_init {prog : Program} {w : World} {A : Around} {s : Shared} {g : Kn} {h : Heap} {t : Nat} {x dx C : Addr} {v : Value} (R : Room A 3) (gd : Gd w g) (B : Born g h x dx C) (hS : SetOk (K0 w.params) C "place" = true) :
    codeAny (model prog w) A (.call (.ref 33) ⟨[.ref x, v], []⟩) (CRet [dx, x] g s h (Made dx x C [("place", v)])) (St s h t) := by
  have sub := B.sub
  refine' m_enterC (μ := [(dx, dictOf [] 0), (x, instObj C dx)]) [("place", v), ("self", .ref x)] gd sub ?hm ?nd ?ho ?hcd ?hroom ?hbind ?hloc ?hcell ?hco ?hgen ?hk ?hb
  case hm => intro p hp; simp only [List.mem_cons, List.not_mem_nil, or_false] at hp; rcases hp with rfl | rfl; exact ⟨B.d, B.gd, by simp⟩; exact ⟨B.i, B.gi, by simp⟩
  case nd => simp [B.ne]
  walk_at "enter"
  try clear F
  intro L h₁ t₁ F
  refine' hideF ?_
  intro _ _
  repeat walk_at "m"
  walk_at "kx"; refine' m_setattr F (fs := []) trivial rfl hS (by decide) ?_
  intro h₂ t₂ es n F₂ EA
  repeat walk_at "m"
  have M1 := F₂.mu _ (.head _)
  have M2 := F₂.mu _ (.tail _ (.head _))
  walk_at "kx"; exact ret_ F₂ ⟨rfl, es, n, M1.1, M2.1, EA⟩

theorem born_mu {g : Kn} {h : Heap} {x dx C : Addr} (hd' : h.get? dx = some (dictOf [] 0)) (gd' : g dx = none) (hx' : h.get? x = some (instObj C dx)) (gx' : g x = none) :
    ∀ p ∈ [(dx, dictOf [] 0), (x, instObj C dx)], h.get? p.1 = some p.2 ∧ g p.1 = none ∧ p.1 ∈ [dx, x] := by
  intro p hp
  simp only [List.mem_cons, List.not_mem_nil, or_false] at hp
  rcases hp with rfl | rfl
  · exact ⟨hd', gd', by simp⟩
  · exact ⟨hx', gx', by simp⟩
theorem born_nd {x dx : Addr} {a b : Obj} (ne : dx ≠ x) : ([(dx, a), (x, b)].map (·.1)).Nodup := by simp [ne]
theorem use_node_init {prog : Program} {w : World} {A : Around} {E : Value → Shared → Prop} {s : Shared} {U : List Addr} {g₀ g : Kn} {h₀ h : Heap} {L : Addr} {t : Nat} {l : List (Str × Value)} {x dx C : Addr} {v : Value} {Q : Value → Shared → Prop}
    (F : Fm U w g₀ h₀ L g h l [(dx, dictOf [] 0), (x, instObj C dx)]) (R : Room A 3) (hS : SetOk (K0 w.params) C "place" = true)
    (k : ∀ g' h' t' es n, Fm U w g₀ h₀ L g' h' l [(dx, dictOf es n), (x, instObj C dx)] → EntsAre es [("place", v)] → Q .none (St s h' t')) : wpAny (model prog w) A (call (.ref 33) [.ref x, v]) Q E (St s h t) := by
  have M1 := F.mu _ (.head _)
  have M2 := F.mu _ (.tail _ (.head _))
  have nd := F.nd
  simp only [List.map_cons, List.map_nil, List.nodup_cons, List.mem_cons, List.not_mem_nil, or_false] at nd
  walk_at "kx"; refine m_use (of_code (node_init R F.gd ⟨F.sub, M1.1, M2.1, M1.2.1, M2.2.1, nd.1⟩ hS)) fun _ _ r g' h' t' G o => ?_
  obtain ⟨rfl, es, n, e1, e2, EA⟩ := o
  walk_at "kx"; refine k g' h' t' es n (F.callU G (by simp) (by simp) fun p hp => ?_) EA
  simp only [List.mem_cons, List.not_mem_nil, or_false] at hp
  rcases hp with rfl | rfl
  · exact e1
  · exact e2

theorem mk_wild {prog : Program} {w : World} {A : Around} {s : Shared} {g : Kn} {h : Heap} {t : Nat} (R : Room A 9) (gd : Gd w g) (sub : Sub g h) :
    wpAny (model prog w) A (call (.ref 99) [.none]) (Ret [] g s h (fun g' _ r => ∃ a, r = .ref a ∧ Inst g' a 99 [("place", .none)])) NoE (St s h t) := by
  walk_at "kx"; refine' m_make (k := 8) (fI := 89) R gd sub fine_wild.m fine_wild.i fine_wild.f ?_
  intro A' h₁ x dx R' sub' hd' hx' gd' gx' ne
  refine' m_enterC (μ := [(dx, dictOf [] 0), (x, instObj 99 dx)]) [("place", .none), ("self", .ref x)] gd sub' ?hm ?nd ?ho ?hcd ?hroom ?hbind ?hloc ?hcell ?hco ?hgen ?hk ?hb
  case hm => exact born_mu hd' gd' hx' gx'
  case nd => exact born_nd ne
  walk_at "enter"
  try clear F
  intro L h₁ t₁ F
  refine' hideF ?_
  intro _ _
  repeat walk_at "m"
  walk_at "kx"; refine' m_clsmeth (f := 33) F node_meth.1 node_meth.2.1 node_meth.2.2.1 ?_
  intro t₂
  refine ⟨node_meth.2.2.2, ?_⟩
  repeat walk_at "m"
  walk_at "kx"; refine ⟨F.k, ?_⟩
  walk_at "kx"; refine' use_node_init F (R'.dl (by decide)) (fine_wild.s _ (by repeat constructor)) ?_
  try clear F
  intro g₂ h₂ t₂ es n F EA
  repeat walk_at "m"
  walk_at "kx"; exact ret_ F ⟨rfl, es, n, (F.mu _ (.head _)).1, (F.mu _ (.tail _ (.head _))).1, EA⟩

theorem mk_pvar {prog : Program} {w : World} {A : Around} {s : Shared} {g : Kn} {h : Heap} {t : Nat} {name_ : Value} (R : Room A 9) (gd : Gd w g) (sub : Sub g h) :
    wpAny (model prog w) A (call (.ref 72) [name_, .none]) (Ret [] g s h (fun g' _ r => ∃ a, r = .ref a ∧ Inst g' a 72 [("place", .none), ("name", name_)])) NoE (St s h t) := by
  walk_at "kx"; refine' m_make (k := 8) (fI := 62) R gd sub fine_pvar.m fine_pvar.i fine_pvar.f ?_
  intro A' h₁ x dx R' sub' hd' hx' gd' gx' ne
  refine' m_enterC (μ := [(dx, dictOf [] 0), (x, instObj 72 dx)]) [("place", .none), ("name", name_), ("self", .ref x)] gd sub' ?hm ?nd ?ho ?hcd ?hroom ?hbind ?hloc ?hcell ?hco ?hgen ?hk ?hb
  case hm => exact born_mu hd' gd' hx' gx'
  case nd => exact born_nd ne
  walk_at "enter"
  try clear F
  intro L h₁ t₁ F
  refine' hideF ?_
  intro _ _
  repeat walk_at "m"
  walk_at "kx"; refine' m_clsmeth (f := 33) F node_meth.1 node_meth.2.1 node_meth.2.2.1 ?_
  intro t₂
  refine ⟨node_meth.2.2.2, ?_⟩
  repeat walk_at "m"
  walk_at "kx"; refine ⟨F.k, ?_⟩
  walk_at "kx"; refine' use_node_init F (R'.dl (by decide)) (fine_pvar.s _ (by repeat constructor)) ?_
  try clear F
  intro g₂ h₂ t₂ es n F EA
  repeat walk_at "m"
  walk_at "kx"; refine' m_setattr F EA rfl (fine_pvar.s _ (by repeat constructor)) (Nat.le_of_ble_eq_true rfl) ?_
  try clear F
  intro h₂ t₂ es n F EA
  repeat walk_at "m"
  walk_at "kx"; exact ret_ F ⟨rfl, es, n, (F.mu _ (.head _)).1, (F.mu _ (.tail _ (.head _))).1, EA⟩

theorem mk_lit {prog : Program} {w : World} {A : Around} {s : Shared} {g : Kn} {h : Heap} {t : Nat} {kind_ value_ : Value} (R : Room A 9) (gd : Gd w g) (sub : Sub g h) :
    wpAny (model prog w) A (call (.ref 126) [kind_, value_, .none]) (Ret [] g s h (fun g' _ r => ∃ a, r = .ref a ∧ Inst g' a 126 [("place", .none), ("kind", kind_), ("value", value_)])) NoE (St s h t) := by
  walk_at "kx"; refine' m_make (k := 8) (fI := 116) R gd sub fine_lit.m fine_lit.i fine_lit.f ?_
  intro A' h₁ x dx R' sub' hd' hx' gd' gx' ne
  refine' m_enterC (μ := [(dx, dictOf [] 0), (x, instObj 126 dx)]) [("place", .none), ("value", value_), ("kind", kind_), ("self", .ref x)] gd sub' ?hm ?nd ?ho ?hcd ?hroom ?hbind ?hloc ?hcell ?hco ?hgen ?hk ?hb
  case hm => exact born_mu hd' gd' hx' gx'
  case nd => exact born_nd ne
  walk_at "enter"
  try clear F
  intro L h₁ t₁ F
  refine' hideF ?_
  intro _ _
  repeat walk_at "m"
  walk_at "kx"; refine' m_clsmeth (f := 33) F node_meth.1 node_meth.2.1 node_meth.2.2.1 ?_
  intro t₂
  refine ⟨node_meth.2.2.2, ?_⟩
  repeat walk_at "m"
  walk_at "kx"; refine ⟨F.k, ?_⟩
  walk_at "kx"; refine' use_node_init F (R'.dl (by decide)) (fine_lit.s _ (by repeat constructor)) ?_
  try clear F
  intro g₂ h₂ t₂ es n F EA
  repeat walk_at "m"
  walk_at "kx"; refine' m_setattr F EA rfl (fine_lit.s _ (by repeat constructor)) (Nat.le_of_ble_eq_true rfl) ?_
  try clear F
  intro h₂ t₂ es n F EA
  repeat walk_at "m"
  walk_at "kx"; refine' m_setattr F EA rfl (fine_lit.s _ (by repeat constructor)) (Nat.le_of_ble_eq_true rfl) ?_
  try clear F
  intro h₂ t₂ es n F EA
  repeat walk_at "m"
  walk_at "kx"; exact ret_ F ⟨rfl, es, n, (F.mu _ (.head _)).1, (F.mu _ (.tail _ (.head _))).1, EA⟩

theorem mk_con {prog : Program} {w : World} {A : Around} {s : Shared} {g : Kn} {h : Heap} {t : Nat} {name_ args_ : Value} (R : Room A 9) (gd : Gd w g) (sub : Sub g h) :
    wpAny (model prog w) A (call (.ref 153) [name_, args_, .none]) (Ret [] g s h (fun g' _ r => ∃ a, r = .ref a ∧ Inst g' a 153 [("place", .none), ("name", name_), ("args", args_)])) NoE (St s h t) := by
  walk_at "kx"; refine' m_make (k := 8) (fI := 143) R gd sub fine_con.m fine_con.i fine_con.f ?_
  intro A' h₁ x dx R' sub' hd' hx' gd' gx' ne
  refine' m_enterC (μ := [(dx, dictOf [] 0), (x, instObj 153 dx)]) [("place", .none), ("args", args_), ("name", name_), ("self", .ref x)] gd sub' ?hm ?nd ?ho ?hcd ?hroom ?hbind ?hloc ?hcell ?hco ?hgen ?hk ?hb
  case hm => exact born_mu hd' gd' hx' gx'
  case nd => exact born_nd ne
  walk_at "enter"
  try clear F
  intro L h₁ t₁ F
  refine' hideF ?_
  intro _ _
  repeat walk_at "m"
  walk_at "kx"; refine' m_clsmeth (f := 33) F node_meth.1 node_meth.2.1 node_meth.2.2.1 ?_
  intro t₂
  refine ⟨node_meth.2.2.2, ?_⟩
  repeat walk_at "m"
  walk_at "kx"; refine ⟨F.k, ?_⟩
  walk_at "kx"; refine' use_node_init F (R'.dl (by decide)) (fine_con.s _ (by repeat constructor)) ?_
  try clear F
  intro g₂ h₂ t₂ es n F EA
  repeat walk_at "m"
  walk_at "kx"; refine' m_setattr F EA rfl (fine_con.s _ (by repeat constructor)) (Nat.le_of_ble_eq_true rfl) ?_
  try clear F
  intro h₂ t₂ es n F EA
  repeat walk_at "m"
  walk_at "kx"; refine' m_setattr F EA rfl (fine_con.s _ (by repeat constructor)) (Nat.le_of_ble_eq_true rfl) ?_
  try clear F
  intro h₂ t₂ es n F EA
  repeat walk_at "m"
  walk_at "kx"; exact ret_ F ⟨rfl, es, n, (F.mu _ (.head _)).1, (F.mu _ (.tail _ (.head _))).1, EA⟩

theorem mk_tup {prog : Program} {w : World} {A : Around} {s : Shared} {g : Kn} {h : Heap} {t : Nat} {items_ : Value} (R : Room A 9) (gd : Gd w g) (sub : Sub g h) :
    wpAny (model prog w) A (call (.ref 180) [items_, .none]) (Ret [] g s h (fun g' _ r => ∃ a, r = .ref a ∧ Inst g' a 180 [("place", .none), ("items", items_)])) NoE (St s h t) := by
  walk_at "kx"; refine' m_make (k := 8) (fI := 170) R gd sub fine_tup.m fine_tup.i fine_tup.f ?_
  intro A' h₁ x dx R' sub' hd' hx' gd' gx' ne
  refine' m_enterC (μ := [(dx, dictOf [] 0), (x, instObj 180 dx)]) [("place", .none), ("items", items_), ("self", .ref x)] gd sub' ?hm ?nd ?ho ?hcd ?hroom ?hbind ?hloc ?hcell ?hco ?hgen ?hk ?hb
  case hm => exact born_mu hd' gd' hx' gx'
  case nd => exact born_nd ne
  walk_at "enter"
  try clear F
  intro L h₁ t₁ F
  refine' hideF ?_
  intro _ _
  repeat walk_at "m"
  walk_at "kx"; refine' m_clsmeth (f := 33) F node_meth.1 node_meth.2.1 node_meth.2.2.1 ?_
  intro t₂
  refine ⟨node_meth.2.2.2, ?_⟩
  repeat walk_at "m"
  walk_at "kx"; refine ⟨F.k, ?_⟩
  walk_at "kx"; refine' use_node_init F (R'.dl (by decide)) (fine_tup.s _ (by repeat constructor)) ?_
  try clear F
  intro g₂ h₂ t₂ es n F EA
  repeat walk_at "m"
  walk_at "kx"; refine' m_setattr F EA rfl (fine_tup.s _ (by repeat constructor)) (Nat.le_of_ble_eq_true rfl) ?_
  try clear F
  intro h₂ t₂ es n F EA
  repeat walk_at "m"
  walk_at "kx"; exact ret_ F ⟨rfl, es, n, (F.mu _ (.head _)).1, (F.mu _ (.tail _ (.head _))).1, EA⟩

theorem mk_lst {prog : Program} {w : World} {A : Around} {s : Shared} {g : Kn} {h : Heap} {t : Nat} {items_ : Value} (R : Room A 9) (gd : Gd w g) (sub : Sub g h) :
    wpAny (model prog w) A (call (.ref 207) [items_, .none]) (Ret [] g s h (fun g' _ r => ∃ a, r = .ref a ∧ Inst g' a 207 [("place", .none), ("items", items_)])) NoE (St s h t) := by
  walk_at "kx"; refine' m_make (k := 8) (fI := 197) R gd sub fine_lst.m fine_lst.i fine_lst.f ?_
  intro A' h₁ x dx R' sub' hd' hx' gd' gx' ne
  refine' m_enterC (μ := [(dx, dictOf [] 0), (x, instObj 207 dx)]) [("place", .none), ("items", items_), ("self", .ref x)] gd sub' ?hm ?nd ?ho ?hcd ?hroom ?hbind ?hloc ?hcell ?hco ?hgen ?hk ?hb
  case hm => exact born_mu hd' gd' hx' gx'
  case nd => exact born_nd ne
  walk_at "enter"
  try clear F
  intro L h₁ t₁ F
  refine' hideF ?_
  intro _ _
  repeat walk_at "m"
  walk_at "kx"; refine' m_clsmeth (f := 33) F node_meth.1 node_meth.2.1 node_meth.2.2.1 ?_
  intro t₂
  refine ⟨node_meth.2.2.2, ?_⟩
  repeat walk_at "m"
  walk_at "kx"; refine ⟨F.k, ?_⟩
  walk_at "kx"; refine' use_node_init F (R'.dl (by decide)) (fine_lst.s _ (by repeat constructor)) ?_
  try clear F
  intro g₂ h₂ t₂ es n F EA
  repeat walk_at "m"
  walk_at "kx"; refine' m_setattr F EA rfl (fine_lst.s _ (by repeat constructor)) (Nat.le_of_ble_eq_true rfl) ?_
  try clear F
  intro h₂ t₂ es n F EA
  repeat walk_at "m"
  walk_at "kx"; exact ret_ F ⟨rfl, es, n, (F.mu _ (.head _)).1, (F.mu _ (.tail _ (.head _))).1, EA⟩

theorem mk_as {prog : Program} {w : World} {A : Around} {s : Shared} {g : Kn} {h : Heap} {t : Nat} {name_ pattern_ : Value} (R : Room A 9) (gd : Gd w g) (sub : Sub g h) :
    wpAny (model prog w) A (call (.ref 234) [name_, pattern_, .none]) (Ret [] g s h (fun g' _ r => ∃ a, r = .ref a ∧ Inst g' a 234 [("place", .none), ("name", name_), ("pattern", pattern_)])) NoE (St s h t) := by
  walk_at "kx"; refine' m_make (k := 8) (fI := 224) R gd sub fine_as.m fine_as.i fine_as.f ?_
  intro A' h₁ x dx R' sub' hd' hx' gd' gx' ne
  refine' m_enterC (μ := [(dx, dictOf [] 0), (x, instObj 234 dx)]) [("place", .none), ("pattern", pattern_), ("name", name_), ("self", .ref x)] gd sub' ?hm ?nd ?ho ?hcd ?hroom ?hbind ?hloc ?hcell ?hco ?hgen ?hk ?hb
  case hm => exact born_mu hd' gd' hx' gx'
  case nd => exact born_nd ne
  walk_at "enter"
  try clear F
  intro L h₁ t₁ F
  refine' hideF ?_
  intro _ _
  repeat walk_at "m"
  walk_at "kx"; refine' m_clsmeth (f := 33) F node_meth.1 node_meth.2.1 node_meth.2.2.1 ?_
  intro t₂
  refine ⟨node_meth.2.2.2, ?_⟩
  repeat walk_at "m"
  walk_at "kx"; refine ⟨F.k, ?_⟩
  walk_at "kx"; refine' use_node_init F (R'.dl (by decide)) (fine_as.s _ (by repeat constructor)) ?_
  try clear F
  intro g₂ h₂ t₂ es n F EA
  repeat walk_at "m"
  walk_at "kx"; refine' m_setattr F EA rfl (fine_as.s _ (by repeat constructor)) (Nat.le_of_ble_eq_true rfl) ?_
  try clear F
  intro h₂ t₂ es n F EA
  repeat walk_at "m"
  walk_at "kx"; refine' m_setattr F EA rfl (fine_as.s _ (by repeat constructor)) (Nat.le_of_ble_eq_true rfl) ?_
  try clear F
  intro h₂ t₂ es n F EA
  repeat walk_at "m"
  walk_at "kx"; exact ret_ F ⟨rfl, es, n, (F.mu _ (.head _)).1, (F.mu _ (.tail _ (.head _))).1, EA⟩

theorem mk_lazy {prog : Program} {w : World} {A : Around} {s : Shared} {g : Kn} {h : Heap} {t : Nat} {pattern_ : Value} (R : Room A 9) (gd : Gd w g) (sub : Sub g h) :
    wpAny (model prog w) A (call (.ref 261) [pattern_, .none]) (Ret [] g s h (fun g' _ r => ∃ a, r = .ref a ∧ Inst g' a 261 [("place", .none), ("pattern", pattern_)])) NoE (St s h t) := by
  walk_at "kx"; refine' m_make (k := 8) (fI := 251) R gd sub fine_lazy.m fine_lazy.i fine_lazy.f ?_
  intro A' h₁ x dx R' sub' hd' hx' gd' gx' ne
  refine' m_enterC (μ := [(dx, dictOf [] 0), (x, instObj 261 dx)]) [("place", .none), ("pattern", pattern_), ("self", .ref x)] gd sub' ?hm ?nd ?ho ?hcd ?hroom ?hbind ?hloc ?hcell ?hco ?hgen ?hk ?hb
  case hm => exact born_mu hd' gd' hx' gx'
  case nd => exact born_nd ne
  walk_at "enter"
  try clear F
  intro L h₁ t₁ F
  refine' hideF ?_
  intro _ _
  repeat walk_at "m"
  walk_at "kx"; refine' m_clsmeth (f := 33) F node_meth.1 node_meth.2.1 node_meth.2.2.1 ?_
  intro t₂
  refine ⟨node_meth.2.2.2, ?_⟩
  repeat walk_at "m"
  walk_at "kx"; refine ⟨F.k, ?_⟩
  walk_at "kx"; refine' use_node_init F (R'.dl (by decide)) (fine_lazy.s _ (by repeat constructor)) ?_
  try clear F
  intro g₂ h₂ t₂ es n F EA
  repeat walk_at "m"
  walk_at "kx"; refine' m_setattr F EA rfl (fine_lazy.s _ (by repeat constructor)) (Nat.le_of_ble_eq_true rfl) ?_
  try clear F
  intro h₂ t₂ es n F EA
  repeat walk_at "m"
  walk_at "kx"; exact ret_ F ⟨rfl, es, n, (F.mu _ (.head _)).1, (F.mu _ (.tail _ (.head _))).1, EA⟩

theorem mk_bang {prog : Program} {w : World} {A : Around} {s : Shared} {g : Kn} {h : Heap} {t : Nat} {pattern_ : Value} (R : Room A 9) (gd : Gd w g) (sub : Sub g h) :
    wpAny (model prog w) A (call (.ref 288) [pattern_, .none]) (Ret [] g s h (fun g' _ r => ∃ a, r = .ref a ∧ Inst g' a 288 [("place", .none), ("pattern", pattern_)])) NoE (St s h t) := by
  walk_at "kx"; refine' m_make (k := 8) (fI := 278) R gd sub fine_bang.m fine_bang.i fine_bang.f ?_
  intro A' h₁ x dx R' sub' hd' hx' gd' gx' ne
  refine' m_enterC (μ := [(dx, dictOf [] 0), (x, instObj 288 dx)]) [("place", .none), ("pattern", pattern_), ("self", .ref x)] gd sub' ?hm ?nd ?ho ?hcd ?hroom ?hbind ?hloc ?hcell ?hco ?hgen ?hk ?hb
  case hm => exact born_mu hd' gd' hx' gx'
  case nd => exact born_nd ne
  walk_at "enter"
  try clear F
  intro L h₁ t₁ F
  refine' hideF ?_
  intro _ _
  repeat walk_at "m"
  walk_at "kx"; refine' m_clsmeth (f := 33) F node_meth.1 node_meth.2.1 node_meth.2.2.1 ?_
  intro t₂
  refine ⟨node_meth.2.2.2, ?_⟩
  repeat walk_at "m"
  walk_at "kx"; refine ⟨F.k, ?_⟩
  walk_at "kx"; refine' use_node_init F (R'.dl (by decide)) (fine_bang.s _ (by repeat constructor)) ?_
  try clear F
  intro g₂ h₂ t₂ es n F EA
  repeat walk_at "m"
  walk_at "kx"; refine' m_setattr F EA rfl (fine_bang.s _ (by repeat constructor)) (Nat.le_of_ble_eq_true rfl) ?_
  try clear F
  intro h₂ t₂ es n F EA
  repeat walk_at "m"
  walk_at "kx"; exact ret_ F ⟨rfl, es, n, (F.mu _ (.head _)).1, (F.mu _ (.tail _ (.head _))).1, EA⟩

theorem mk_constructors {prog : Program} {w : World} {A : Around} {s : Shared} {g : Kn} {h : Heap} {t : Nat} {cons_ : Value} (R : Room A 9) (gd : Gd w g) (sub : Sub g h) :
    wpAny (model prog w) A (call (.ref 362) [cons_]) (Ret [] g s h (fun g' _ r => ∃ a, r = .ref a ∧ Inst g' a 362 [("cons", cons_)])) NoE (St s h t) := by
  walk_at "kx"; refine' m_make (k := 8) (fI := 340) R gd sub fine_constructors.m fine_constructors.i fine_constructors.f ?_
  intro A' h₁ x dx R' sub' hd' hx' gd' gx' ne
  refine' m_enterC (μ := [(dx, dictOf [] 0), (x, instObj 362 dx)]) [("cons", cons_), ("self", .ref x)] gd sub' ?hm ?nd ?ho ?hcd ?hroom ?hbind ?hloc ?hcell ?hco ?hgen ?hk ?hb
  case hm => exact born_mu hd' gd' hx' gx'
  case nd => exact born_nd ne
  walk_at "enter"
  try clear F
  intro L h₁ t₁ F
  refine' hideF ?_
  intro _ _
  have EA : EntsAre [] [] := trivial
  repeat walk_at "m"
  walk_at "kx"; refine' m_setattr F EA rfl (fine_constructors.s _ (by repeat constructor)) (Nat.le_of_ble_eq_true rfl) ?_
  try clear F
  intro h₂ t₂ es n F EA
  repeat walk_at "m"
  walk_at "kx"; exact ret_ F ⟨rfl, es, n, (F.mu _ (.head _)).1, (F.mu _ (.tail _ (.head _))).1, EA⟩

theorem mk_watcher {prog : Program} {w : World} {A : Around} {s : Shared} {g : Kn} {h : Heap} {t : Nat} {known_ : Value} (R : Room A 9) (gd : Gd w g) (sub : Sub g h) :
    wpAny (model prog w) A (call (.ref 455) [known_]) (Ret [] g s h (fun g' _ r => ∃ a, r = .ref a ∧ Inst g' a 455 [("known", known_)])) NoE (St s h t) := by
  walk_at "kx"; refine' m_make (k := 8) (fI := 426) R gd sub fine_watcher.m fine_watcher.i fine_watcher.f ?_
  intro A' h₁ x dx R' sub' hd' hx' gd' gx' ne
  refine' m_enterC (μ := [(dx, dictOf [] 0), (x, instObj 455 dx)]) [("known", known_), ("self", .ref x)] gd sub' ?hm ?nd ?ho ?hcd ?hroom ?hbind ?hloc ?hcell ?hco ?hgen ?hk ?hb
  case hm => exact born_mu hd' gd' hx' gx'
  case nd => exact born_nd ne
  walk_at "enter"
  try clear F
  intro L h₁ t₁ F
  refine' hideF ?_
  intro _ _
  have EA : EntsAre [] [] := trivial
  repeat walk_at "m"
  walk_at "kx"; refine' m_setattr F EA rfl (fine_watcher.s _ (by repeat constructor)) (Nat.le_of_ble_eq_true rfl) ?_
  try clear F
  intro h₂ t₂ es n F EA
  repeat walk_at "m"
  walk_at "kx"; exact ret_ F ⟨rfl, es, n, (F.mu _ (.head _)).1, (F.mu _ (.tail _ (.head _))).1, EA⟩

theorem mk_coninfo {prog : Program} {w : World} {A : Around} {s : Shared} {g : Kn} {h : Heap} {t : Nat} {name_ tag_ arity_ stricts_ type_name_ scheme_ siblings_ is_newtype_ : Value} (R : Room A 9) (gd : Gd w g) (sub : Sub g h) :
    wpAny (model prog w) A (call (.ref 486) [name_, tag_, arity_, stricts_, type_name_, scheme_, siblings_, is_newtype_]) (Ret [] g s h (fun g' _ r => ∃ a, r = .ref a ∧ Inst g' a 486 [("name", name_), ("tag", tag_), ("arity", arity_), ("stricts", stricts_), ("type_name", type_name_), ("scheme", scheme_), ("siblings", siblings_), ("is_newtype", is_newtype_)])) NoE (St s h t) := by
  walk_at "kx"; refine' m_make (k := 8) (fI := 483) R gd sub fine_coninfo.m fine_coninfo.i fine_coninfo.f ?_
  intro A' h₁ x dx R' sub' hd' hx' gd' gx' ne
  refine' m_enterC (μ := [(dx, dictOf [] 0), (x, instObj 486 dx)]) [("is_newtype", is_newtype_), ("siblings", siblings_), ("scheme", scheme_), ("type_name", type_name_), ("stricts", stricts_), ("arity", arity_), ("tag", tag_), ("name", name_), ("self", .ref x)] gd sub' ?hm ?nd ?ho ?hcd ?hroom ?hbind ?hloc ?hcell ?hco ?hgen ?hk ?hb
  case hm => exact born_mu hd' gd' hx' gx'
  case nd => exact born_nd ne
  walk_at "enter"
  try clear F
  intro L h₁ t₁ F
  refine' hideF ?_
  intro _ _
  have EA : EntsAre [] [] := trivial
  repeat walk_at "m"
  walk_at "kx"; refine' m_setattr F EA rfl (fine_coninfo.s _ (by repeat constructor)) (Nat.le_of_ble_eq_true rfl) ?_
  try clear F
  intro h₂ t₂ es n F EA
  repeat walk_at "m"
  walk_at "kx"; refine' m_setattr F EA rfl (fine_coninfo.s _ (by repeat constructor)) (Nat.le_of_ble_eq_true rfl) ?_
  try clear F
  intro h₂ t₂ es n F EA
  repeat walk_at "m"
  walk_at "kx"; refine' m_setattr F EA rfl (fine_coninfo.s _ (by repeat constructor)) (Nat.le_of_ble_eq_true rfl) ?_
  try clear F
  intro h₂ t₂ es n F EA
  repeat walk_at "m"
  walk_at "kx"; refine' m_setattr F EA rfl (fine_coninfo.s _ (by repeat constructor)) (Nat.le_of_ble_eq_true rfl) ?_
  try clear F
  intro h₂ t₂ es n F EA
  repeat walk_at "m"
  walk_at "kx"; refine' m_setattr F EA rfl (fine_coninfo.s _ (by repeat constructor)) (Nat.le_of_ble_eq_true rfl) ?_
  try clear F
  intro h₂ t₂ es n F EA
  repeat walk_at "m"
  walk_at "kx"; refine' m_setattr F EA rfl (fine_coninfo.s _ (by repeat constructor)) (Nat.le_of_ble_eq_true rfl) ?_
  try clear F
  intro h₂ t₂ es n F EA
  repeat walk_at "m"
  walk_at "kx"; refine' m_setattr F EA rfl (fine_coninfo.s _ (by repeat constructor)) (Nat.le_of_ble_eq_true rfl) ?_
  try clear F
  intro h₂ t₂ es n F EA
  repeat walk_at "m"
  walk_at "kx"; refine' m_setattr F EA rfl (fine_coninfo.s _ (by repeat constructor)) (Nat.le_of_ble_eq_true rfl) ?_
  try clear F
  intro h₂ t₂ es n F EA
  repeat walk_at "m"
  walk_at "kx"; exact ret_ F ⟨rfl, es, n, (F.mu _ (.head _)).1, (F.mu _ (.tail _ (.head _))).1, EA⟩
/-! names of tuples; what stands for a pattern -/
theorem tuple_name_spec {prog : Program} {w : World} {A : Around} {s : Shared} {g : Kn} {h : Heap} {t : Nat} {tk : Tok} (R : Room A 5) (gd : Gd w g) (sub : Sub g h) :
    wpAny (model prog w) A (call (.ref 298) [.int 2 tk]) (Ret [] g s h (fun _ _ r => ∃ u, r = .str (Cn.name .pr) u)) NoE (St s h t) := by
  refine' m_enter [("many", .int 2 tk)] gd sub ?ho ?hcd ?hroom ?hbind ?hloc ?hcell ?hco ?hgen ?hk ?hb
  walk_at "enter"
  try clear F
  intro L h₁ t₁ F
  refine' hideF ?_
  intro _ _
  repeat walk_at "m"
  walk_at "kx"; refine ⟨fun hb => absurd hb (by decide), fun _ => ?_⟩
  repeat walk_at "m"
  walk_at "kx"; refine' s_mul (by unfold MulOk; decide +kernel) ?_; intro _ _
  repeat walk_at "m"
  walk_at "kx"; refine' s_add (by decide +kernel) ?_; intro _ _
  repeat walk_at "m"
  walk_at "kx"; refine' s_add (by decide +kernel) ?_; intro u _
  walk_at "kx"; exact ret_ F ⟨u, congrArg (Value.str · u) (by decide)⟩

theorem is_tuple_name_spec {prog : Program} {w : World} {A : Around} {s : Shared} {g : Kn} {h : Heap} {t : Nat} {tk : Tok} {c : Cn} (hc : c ≠ .a ∧ c ≠ .b) (R : Room A 5) (gd : Gd w g) (sub : Sub g h) :
    wpAny (model prog w) A (call (.ref 305) [.str c.name tk]) (Ret [] g s h (fun _ _ r => r = .bool (c == .pr))) NoE (St s h t) := by
  refine' m_enter [("name", .str c.name tk)] gd sub ?ho ?hcd ?hroom ?hbind ?hloc ?hcell ?hco ?hgen ?hk ?hb
  walk_at "enter"
  try clear F
  intro L h₁ t₁ F
  refine' hideF ?_
  intro _ _
  repeat walk_at "m"
  walk_at "kx"; refine' s_len (by (generalize c = c; induction c <;> decide)) ?_; intro _ _
  repeat walk_at "m"
  walk_at "kx"; refine ⟨fun hb => ?_, fun hb => ?_⟩
  · have : c = .pr := by (revert hc hb; generalize c = c; induction c <;> intro hc hb <;> first | rfl | exact absurd rfl hc.1 | exact absurd rfl hc.2 | exact absurd hb (by decide))
    subst this
    repeat walk_at "m"
    walk_at "kx"; refine' s_item (c := 40) (by decide) (by decide) (by decide) (by with_unfolding_all rfl) ?_; intro _ _
    repeat walk_at "m"
    walk_at "kx"; refine ⟨fun hb => ?_, fun hb => absurd hb (by decide)⟩
    repeat walk_at "m"
    walk_at "kx"; refine' s_item (c := 44) (by decide) (by decide) (by decide) (by with_unfolding_all rfl) ?_; intro _ _
    repeat walk_at "m"
    walk_at "kx"; exact ret_ F (congrArg Value.bool (by decide))
  · have : (c == .pr) = false := by (revert hb; generalize c = c; induction c <;> intro hb <;> first | rfl | exact absurd hb (by decide))
    walk_at "kx"
    refine ret_ F ?_
    rw [this]; exact congrArg Value.bool hb

noncomputable def AtomsAt (g : Kn) (vs : List Value) (xs : List At) : Prop := vs.length = xs.length ∧ ∀ (i : Nat) (x : Value) (o : At), vs[i]? = some x → xs[i]? = some o → PatAt g x (atomOf o)
theorem AtomsAt.mono {g g' : Kn} {vs : List Value} {xs : List At} (H : AtomsAt g vs xs) (up : Up g g') : AtomsAt g' vs xs := ⟨H.1, fun i x o a b => (H.2 i x o a b).mono up⟩
noncomputable def listP : List At → Pat
  | [] => .con0 .nil
  | x :: r => .con2 .cons (atomOf x) (.lst r)
noncomputable def textP : List Nat → Pat
  | [] => .con0 .nil
  | c :: r => .con2 .cons (.chr c) (.text r)

theorem listed_spec {prog : Program} {w : World} {A : Around} {s : Shared} {g : Kn} {h : Heap} {t : Nat} {v : Value} {vs : List Value} {xs : List At} (R : Room A 12) (gd : Gd w g) (sub : Sub g h)
    (I : IsL g v vs) (H : AtomsAt g vs xs) (hz : vs.length ≤ 2 ^ 20) : wpAny (model prog w) A (call (.ref 312) [v]) (Ret [] g s h (fun g' _ r => PatAt g' r (listP xs))) NoE (St s h t) := by
  refine' m_enter [("items", v)] gd sub ?ho ?hcd ?hroom ?hbind ?hloc ?hcell ?hco ?hgen ?hk ?hb
  walk_at "enter"
  try clear F
  intro L h₁ t₁ F
  refine' hideF ?_
  intro _ _
  repeat walk_at "m"
  walk_at "kx"; refine' m_newlist F (Nat.le_of_ble_eq_true rfl) ?_
  try clear F
  intro a h₂ F ha
  walk_at "kx"; refine' l_eqnil (R.dl (by decide)) (I.list F) ⟨_, rfl, muL F⟩ ?_
  repeat walk_at "m"
  replace F := F.drop
  walk_at "kx"; refine ⟨fun hb => ?_, fun hb => ?_⟩
  · have e1 : vs = [] := by simpa using hb
    subst e1
    have e2 : xs = [] := List.eq_nil_of_length_eq_zero H.1.symm
    subst e2
    repeat walk_at "m"
    walk_at "kx"; refine' m_newlist F (Nat.le_of_ble_eq_true rfl) ?_
    try clear F
    intro b h₃ F hb
    have Fz := F.lay hb
    clear F
    obtain ⟨g₁, up, IL, F⟩ := Fz
    repeat walk_at "m"
    walk_at "kx"; refine ⟨F.k, ?_⟩
    walk_at "kx"; refine m_use (mk_con (R.dl (by decide)) F.gd F.sub) fun _ _ r g₂ h₄ t₄ G o => ?_
    obtain ⟨a', rfl, J⟩ := o
    walk_at "kx"; exact ret_ (F.call G) (.con0 (c := .nil) J (IL.mono G.up))
  · cases vs with
    | nil => exact absurd hb (by decide)
    | cons x r =>
      cases xs with
      | nil => exact absurd H.1 (by simp)
      | cons o rs =>
        repeat walk_at "m"
        walk_at "kx"; refine' l_item F I (by decide) (by decide) rfl (by intro _; with_unfolding_all rfl) ?_
        repeat walk_at "m"
        walk_at "kx"; refine' m_slice (by intro _ _; rfl) ?_
        repeat walk_at "m"
        walk_at "kx"; refine' sl_end F I hz (.int _ _) .none ?_
        try clear F
        intro b h₃ F hb
        rw [show ((1 : Int)) = ((1 : Nat) : Int) from rfl, pick_from] at F
        have Fz := F.lay hb
        clear F
        obtain ⟨g₁, up, IL, F⟩ := Fz
        repeat walk_at "m"
        walk_at "kx"; refine ⟨F.k, ?_⟩
        walk_at "kx"; refine m_use (mk_lst (R.dl (by decide)) F.gd F.sub) fun _ _ r g₂ h₄ t₄ G o => ?_
        obtain ⟨a', rfl, J⟩ := o
        replace F := F.call G
        repeat walk_at "m"
        walk_at "kx"; refine' m_newlist F (Nat.le_of_ble_eq_true rfl) ?_
        try clear F
        intro c h₅ F hc
        have Fz := F.lay hc
        clear F
        obtain ⟨g₃, up3, IL3, F⟩ := Fz
        repeat walk_at "m"
        walk_at "kx"; refine ⟨F.k, ?_⟩
        walk_at "kx"; refine m_use (mk_con (R.dl (by decide)) F.gd F.sub) fun _ _ r' g₄ h₆ t₆ G4 o' => ?_
        obtain ⟨a'', rfl, J4⟩ := o'
        walk_at "kx"; refine ret_ (F.call G4) ?_
        have X : PatAt g x (atomOf o) := H.2 0 x o rfl rfl
        have Y : PatAt g₂ (.ref a') (.lst rs) := by
          refine .lst J (IL.mono G.up) (by simpa using H.1) fun i y z hy hz' => ?_
          exact ((H.2 (i + 1) y z (by simpa using hy) (by simpa using hz')).mono up).mono G.up
        exact .con2 (c := .cons) J4 (IL3.mono G4.up) ((((X.mono up).mono G.up).mono up3).mono G4.up) ((Y.mono up3).mono G4.up)

theorem strOf_nil : strOf [] = "" := by decide
theorem text_nil (cs : List Nat) : (strOf cs == ("" : Str)) = cs.isEmpty := by
  rw [← strOf_nil, strOf_beq]; cases cs <;> simp
theorem lettered_spec {prog : Program} {w : World} {A : Around} {s : Shared} {g : Kn} {h : Heap} {t : Nat} {cs : List Nat} {tk : Tok} (R : Room A 12) (gd : Gd w g) (sub : Sub g h)
    (hz : cs.length ≤ 2 ^ 20) : wpAny (model prog w) A (call (.ref 319) [.str (strOf cs) tk]) (Ret [] g s h (fun g' _ r => PatAt g' r (textP cs))) NoE (St s h t) := by
  refine' m_enter [("text", .str (strOf cs) tk)] gd sub ?ho ?hcd ?hroom ?hbind ?hloc ?hcell ?hco ?hgen ?hk ?hb
  walk_at "enter"
  try clear F
  intro L h₁ t₁ F
  refine' hideF ?_
  intro _ _
  repeat walk_at "m"
  rw [text_nil]
  walk_at "kx"; refine ⟨fun hb => ?_, fun hb => ?_⟩
  · have e1 : cs = [] := by simpa using hb
    subst e1
    repeat walk_at "m"
    walk_at "kx"; refine' m_newlist F (Nat.le_of_ble_eq_true rfl) ?_
    try clear F
    intro b h₃ F hb
    have Fz := F.lay hb
    clear F
    obtain ⟨g₁, up, IL, F⟩ := Fz
    repeat walk_at "m"
    walk_at "kx"; refine ⟨F.k, ?_⟩
    walk_at "kx"; refine m_use (mk_con (R.dl (by decide)) F.gd F.sub) fun _ _ r g₂ h₄ t₄ G o => ?_
    obtain ⟨a', rfl, J⟩ := o
    walk_at "kx"; exact ret_ (F.call G) (.con0 (c := .nil) J (IL.mono G.up))
  · cases cs with
    | nil => exact absurd hb (by decide)
    | cons c r =>
      repeat walk_at "m"
      walk_at "kx"; refine' s_item (c := c) (by decide) (by decide) (by rw [show (strOf (c :: r)).length = r.length + 1 from by show (c :: r).toArray.size = _; simp]; rw [seq_at (by simp) (by decide)]; rfl) (by with_unfolding_all rfl) ?_; intro _ _
      repeat walk_at "m"
      walk_at "kx"; refine ⟨F.k, ?_⟩
      walk_at "kx"; refine m_use (mk_lit (R.dl (by decide)) F.gd F.sub) fun _ _ r1 g₁ h₂ t₂ G1 o1 => ?_
      obtain ⟨a1, rfl, J1⟩ := o1
      replace F := F.call G1
      repeat walk_at "m"
      walk_at "kx"; refine' m_sslice (by intro _ _; rfl) ?_
      repeat walk_at "m"
      walk_at "kx"; refine' ss_end F (by simp at hz; omega) ?_
      try clear F
      intro h₃ tk3 t₃ F
      repeat walk_at "m"
      walk_at "kx"; refine ⟨F.k, ?_⟩
      walk_at "kx"; refine m_use (mk_lit (R.dl (by decide)) F.gd F.sub) fun _ _ r2 g₂ h₄ t₄ G2 o2 => ?_
      obtain ⟨a2, rfl, J2⟩ := o2
      replace F := F.call G2
      repeat walk_at "m"
      walk_at "kx"; refine' m_newlist F (Nat.le_of_ble_eq_true rfl) ?_
      try clear F
      intro c' h₅ F hc
      have Fz := F.lay hc
      clear F
      obtain ⟨g₃, up3, IL3, F⟩ := Fz
      repeat walk_at "m"
      walk_at "kx"; refine ⟨F.k, ?_⟩
      walk_at "kx"; refine m_use (mk_con (R.dl (by decide)) F.gd F.sub) fun _ _ r' g₄ h₆ t₆ G4 o' => ?_
      obtain ⟨a'', rfl, J4⟩ := o'
      walk_at "kx"; refine ret_ (F.call G4) ?_
      exact .con2 (c := .cons) J4 (IL3.mono G4.up) (((PatAt.chr J1).mono G2.up |>.mono up3).mono G4.up) (((PatAt.text J2).mono up3).mono G4.up)

noncomputable def Pat.fine : Pat → Prop
  | .lst xs => xs.length ≤ 1000
  | .text cs => cs.length ≤ 1000
  | .as p => p.fine
  | .bang p => p.fine
  | .con2 _ x y => x.fine ∧ y.fine
  | .tup x y => x.fine ∧ y.fine
  | _ => True
noncomputable def spreadP : Pat → Pat
  | .tup x y => .con2 .pr x y
  | .lst xs => listP xs
  | .text cs => textP cs
  | p => p
noncomputable def strip : Pat → Pat
  | .as p => strip p
  | .bang p => strip p
  | p => p
noncomputable def layers : Pat → Nat
  | .as p => layers p + 1
  | .bang p => layers p + 1
  | _ => 0
noncomputable def lookP (p : Pat) : Pat := match strip p with
  | .pvar => .wild
  | .plazy => .wild
  | q => spreadP q
theorem PatAt.lit2 {g : Kn} {v : Value} {p : Pat} (P : PatAt g v p) (h : p.cls = 126) : ∃ a kt x, v = .ref a ∧ Inst g a 126 [("place", .none), ("kind", .str (kindOf p) kt), ("value", x)] ∧ handedIn x = true ∧ (∀ cs, p = .text cs → ∃ u, x = .str (strOf cs) u) ∧ ((kindOf p == ("text" : Str)) = true → ∃ cs, p = .text cs) := by
  cases P with
  | int I => exact ⟨_, _, _, rfl, I, rfl, fun _ e => (by cases e), fun e => absurd ((Eq.symm e).trans (show (("int" : Str) == ("text" : Str)) = false by decide)) Bool.noConfusion⟩
  | chr I => exact ⟨_, _, _, rfl, I, rfl, fun _ e => (by cases e), fun e => absurd ((Eq.symm e).trans (show (("char" : Str) == ("text" : Str)) = false by decide)) Bool.noConfusion⟩
  | text I => exact ⟨_, _, _, rfl, I, rfl, fun _ e => (by cases e; exact ⟨_, rfl⟩), fun _ => ⟨_, rfl⟩⟩
  | _ => cases h

theorem spread_spec {prog : Program} {w : World} {A : Around} {s : Shared} {g : Kn} {h : Heap} {t : Nat} {v : Value} {p : Pat} (R : Room A 15) (gd : Gd w g) (sub : Sub g h)
    (P : PatAt g v p) (hf : p.fine) : wpAny (model prog w) A (call (.ref 326) [v]) (Ret [] g s h (fun g' _ r => PatAt g' r (spreadP p))) NoE (St s h t) := by
  refine' m_enter [("pattern", v)] gd sub ?ho ?hcd ?hroom ?hbind ?hloc ?hcell ?hco ?hgen ?hk ?hb
  walk_at "enter"
  try clear F
  intro L h₁ t₁ F
  refine' hideF ?_
  intro _ _
  repeat walk_at "m"
  walk_at "kx"; refine' m_isiP F P (by decide) ?_; intro t₂
  repeat walk_at "m"
  walk_at "kx"; refine ⟨fun hb => ?_, fun hb => ?_⟩
  · cases P with
    | tup I J X Y =>
      repeat walk_at "m"
      walk_at "kx"; refine' m_getattr F I rfl (patCls_ok (by decide)) (fine_tup.a _ (by repeat constructor)) ?k ?_
      case k => obtain ⟨b, _, e, _⟩ := J; rw [e]; rfl
      intro t₃
      repeat walk_at "m"
      walk_at "kx"; refine' l_len F J (by simp) ?_; intro _ _
      repeat walk_at "m"
      walk_at "kx"; refine ⟨F.k, ?_⟩
      walk_at "kx"; refine m_use (tuple_name_spec (R.dl (by decide)) F.gd F.sub) fun _ _ r1 g₁ h₂ t₂ G1 o1 => ?_
      obtain ⟨u, rfl⟩ := o1
      replace F := F.call G1
      repeat walk_at "m"
      walk_at "kx"; refine' m_getattr F (I.mono G1.up) rfl (patCls_ok (by decide)) (fine_tup.a _ (by repeat constructor)) ?k ?_
      case k => obtain ⟨b, _, e, _⟩ := J; rw [e]; rfl
      intro t₃
      repeat walk_at "m"
      walk_at "kx"; refine ⟨F.k, ?_⟩
      walk_at "kx"; refine m_use (mk_con (R.dl (by decide)) F.gd F.sub) fun _ _ r2 g₂ h₄ t₄ G2 o2 => ?_
      obtain ⟨a2, rfl, J2⟩ := o2
      walk_at "kx"; exact ret_ (F.call G2) (.con2 (c := .pr) J2 ((J.mono G1.up).mono G2.up) ((X.mono G1.up).mono G2.up) ((Y.mono G1.up).mono G2.up))
    | _ => exact Bool.noConfusion hb
  repeat walk_at "m"
  walk_at "kx"; refine' m_isiP F P (by decide) ?_; intro t₂
  repeat walk_at "m"
  walk_at "kx"; refine ⟨fun hb => ?_, fun hb2 => ?_⟩
  · cases P with
    | lst I J n X =>
      repeat walk_at "m"
      walk_at "kx"; refine' m_getattr F I rfl (patCls_ok (by decide)) (fine_lst.a _ (by repeat constructor)) ?k ?_
      case k => obtain ⟨b, _, e, _⟩ := J; rw [e]; rfl
      intro t₃
      repeat walk_at "m"
      walk_at "kx"; refine ⟨F.k, ?_⟩
      walk_at "kx"; refine m_use (listed_spec (R.dl (by decide)) F.gd F.sub J ⟨n, X⟩ (by have : _ ≤ 1000 := hf; omega)) fun _ _ r1 g₁ h₂ t₂ G1 o1 => ?_
      walk_at "kx"; exact ret_ (F.call G1) o1
    | _ => exact Bool.noConfusion hb
  repeat walk_at "m"
  walk_at "kx"; refine' m_isiP F P (by decide) ?_; intro t₂
  repeat walk_at "m"
  walk_at "kx"; refine ⟨fun hb3 => ?_, fun hb3 => ?_⟩
  · obtain ⟨a, kt, x, rfl, I, hx, tx, kx⟩ := P.lit2 (by simpa using hb3)
    repeat walk_at "m"
    walk_at "kx"; refine' m_getattr F I rfl (patCls_ok (by decide)) (fine_lit.a _ (by repeat constructor)) rfl ?_
    intro t₃
    repeat walk_at "m"
    walk_at "kx"; refine ⟨fun hb4 => ?_, fun hb4 => ?_⟩
    · obtain ⟨cs, rfl⟩ := kx hb4
      obtain ⟨u, rfl⟩ := tx cs rfl
      repeat walk_at "m"
      walk_at "kx"; refine' m_getattr F I rfl (patCls_ok (by decide)) (fine_lit.a _ (by repeat constructor)) rfl ?_
      intro t₄
      repeat walk_at "m"
      walk_at "kx"; refine ⟨F.k, ?_⟩
      walk_at "kx"; refine m_use (lettered_spec (R.dl (by decide)) F.gd F.sub (by have : cs.length ≤ 1000 := hf; omega)) fun _ _ r1 g₁ h₂ t₂ G1 o1 => ?_
      walk_at "kx"; exact ret_ (F.call G1) o1
    · repeat walk_at "m"
      walk_at "kx"; refine ret_ F ?_
      have e : spreadP p = p := by
        (revert hb hb2 hb4; generalize p = p; induction p <;> intro hb hb2 hb4 <;> first | rfl | exact Bool.noConfusion hb | exact Bool.noConfusion hb2 | exact absurd hb4 (by simp [kindOf]))
      rw [e]; exact P
  · walk_at "kx"; refine ⟨fun e => Bool.noConfusion e, fun _ => ?_⟩
    repeat walk_at "m"
    walk_at "kx"; refine ret_ F ?_
    have e : spreadP p = p := by
      (revert hb hb2 hb3; generalize p = p; induction p <;> intro hb hb2 hb3 <;> first | rfl | exact Bool.noConfusion hb | exact Bool.noConfusion hb2 | exact Bool.noConfusion hb3)
    rw [e]; exact P

theorem looked_at_spec {prog : Program} {w : World} {A : Around} {s : Shared} {g : Kn} {h : Heap} {t : Nat} {v : Value} {p : Pat} (R : Room A 18) (gd : Gd w g) (sub : Sub g h)
    (P : PatAt g v p) (hf : p.fine) : wpAny (model prog w) A (call (.ref 373) [v]) (Ret [] g s h (fun g' _ r => PatAt g' r (lookP p))) NoE (St s h t) := by
  refine' m_enter [("pattern", v)] gd sub ?ho ?hcd ?hroom ?hbind ?hloc ?hcell ?hco ?hgen ?hk ?hb
  walk_at "enter"
  try clear F
  intro L h₁ t₁ F
  refine' hideF ?_
  intro _ _
  refine m_while (fun n s' => ∃ h' t' v' p', s' = St s h' t' ∧ Fm [] w g h L g h' [("pattern", v')] [] ∧ PatAt g v' p' ∧ strip p' = strip p ∧ p'.fine ∧ n = layers p') ?_ (layers p) ⟨h₁, t₁, v, p, rfl, F, P, rfl, hf, rfl⟩
  rintro n s' ⟨h', t', v', p', rfl, F, P', hs, hf', rfl⟩
  intro Kp kn kr
  repeat walk_at "m"
  walk_at "kx"; refine' m_newtuple F (Nat.le_of_ble_eq_true rfl) ?_
  try clear F
  intro a h₂ F ha
  repeat walk_at "m"
  walk_at "kx"; refine' m_isiPT F P' (Cs := [234, 288]) (by decide) (F.mu _ (.head _)).1 ?_
  intro t₂
  replace F := F.drop
  repeat walk_at "m"
  walk_at "kx"; refine ⟨fun hb => ?_, fun hb => ?_⟩
  · cases P' with
    | as I X =>
      repeat walk_at "m"
      walk_at "kx"; refine' m_getattr F I rfl (patCls_ok (by decide)) (fine_as.a _ (by repeat constructor)) ?k ?_
      case k => obtain ⟨b, _, e, _⟩ := X.inst; rw [e]; rfl
      intro t₃
      repeat walk_at "m"
      rename Fm _ _ _ _ _ _ _ _ _ => F
      exact kn _ _ (Nat.lt_succ_self _) ⟨_, _, _, _, rfl, F.relook lk_shadow, X, hs, hf', rfl⟩
    | bang I X =>
      repeat walk_at "m"
      walk_at "kx"; refine' m_getattr F I rfl (patCls_ok (by decide)) (fine_bang.a _ (by repeat constructor)) ?k ?_
      case k => obtain ⟨b, _, e, _⟩ := X.inst; rw [e]; rfl
      intro t₃
      repeat walk_at "m"
      rename Fm _ _ _ _ _ _ _ _ _ => F
      exact kn _ _ (Nat.lt_succ_self _) ⟨_, _, _, _, rfl, F.relook lk_shadow, X, hs, hf', rfl⟩
    | _ => exact Bool.noConfusion hb
  · have hp : strip p' = p' := by (revert hb; generalize p' = p'; induction p' <;> intro hb <;> first | rfl | exact Bool.noConfusion hb)
    repeat walk_at "m"
    walk_at "kx"; refine' m_newtuple F (Nat.le_of_ble_eq_true rfl) ?_
    try clear F
    intro a h₂ F ha
    repeat walk_at "m"
    walk_at "kx"; refine' m_isiPT F P' (Cs := [72, 261]) (by decide) (F.mu _ (.head _)).1 ?_
    intro t₃
    replace F := F.drop
    repeat walk_at "m"
    walk_at "kx"; refine ⟨fun hb2 => ?_, fun hb2 => ?_⟩
    · repeat walk_at "m"
      walk_at "kx"; refine ⟨F.k, ?_⟩
      walk_at "kx"; refine m_use (mk_wild (R.dl (by decide)) F.gd F.sub) fun _ _ r1 g₁ h₂ t₂ G1 o1 => ?_
      obtain ⟨a1, rfl, J⟩ := o1
      walk_at "kx"; refine ret_ (F.call G1) ?_
      have e : lookP p = .wild := by
        unfold lookP; rw [← hs, hp]
        (revert hb2; generalize p' = p'; induction p' <;> intro hb2 <;> first | rfl | exact Bool.noConfusion hb2)
      rw [e]; exact .wild J
    · repeat walk_at "m"
      walk_at "kx"; refine ⟨F.k, ?_⟩
      walk_at "kx"; refine m_use (spread_spec (R.dl (by decide)) F.gd F.sub P' hf') fun _ _ r1 g₁ h₂ t₂ G1 o1 => ?_
      walk_at "kx"; refine ret_ (F.call G1) ?_
      have e : lookP p = spreadP p' := by
        unfold lookP; rw [← hs, hp]
        (revert hb2; generalize p' = p'; induction p' <;> intro hb2 <;> first | rfl | exact Bool.noConfusion hb2)
      rw [e]; exact o1
/-! rows -/
noncomputable def Sized (rows : List (List Pat)) : Prop := rows.length ≤ 1000 ∧ ∀ r ∈ rows, r ≠ [] ∧ r.length ≤ 1000 ∧ ∀ p ∈ r, p.fine
noncomputable def anyP (r : List Pat) : List (List Pat) := match r with
  | .wild :: ps => [ps]
  | _ => []
noncomputable def withAnyP (rows : List (List Pat)) : List (List Pat) := rows.flatMap anyP
theorem flatMap_snoc {α β : Type} {f : α → List β} {xs : List α} {i : Nat} {x : α} (e : xs[i]? = some x) : (xs.take (i + 1)).flatMap f = (xs.take i).flatMap f ++ f x := by
  rw [take_snoc e, List.flatMap_append]; simp
theorem row_at {g g' : Kn} {vs : List Value} {rows : List (List Pat)} {i : Nat} {v : Value} (P : All2 (RowAt g) vs rows) (hS : Sized rows) (e : vs[i]? = some v) (up : Up g g') :
    ∃ p ps x xs, rows[i]? = some (p :: ps) ∧ IsL g' v (x :: xs) ∧ PatAt g' x p ∧ All2 (PatAt g') xs ps ∧ ps.length < 1000 ∧ xs.length = ps.length ∧ p.fine := by
  obtain ⟨r, e2, H⟩ := P.get e
  obtain ⟨h1, h2, h3⟩ := hS.2 r (List.mem_of_getElem? e2)
  obtain ⟨ws, J, Q⟩ := H.mono up
  cases Q with
  | nil => exact absurd rfl h1
  | cons a b => exact ⟨_, _, _, _, e2, J, a, b, by simp at h2; omega, b.length, h3 _ (.head _)⟩

theorem with_any_spec {prog : Program} {w : World} {A : Around} {s : Shared} {g : Kn} {h : Heap} {t : Nat} {v : Value} {rows : List (List Pat)} (R : Room A 5) (gd : Gd w g) (sub : Sub g h)
    (H : RowsAt g v rows) (hS : Sized rows) : wpAny (model prog w) A (call (.ref 400) [v]) (Ret [] g s h (fun g' _ r => RowsAt g' r (withAnyP rows))) NoE (St s h t) := by
  refine' m_enter [("rows", v)] gd sub ?ho ?hcd ?hroom ?hbind ?hloc ?hcell ?hco ?hgen ?hk ?hb
  walk_at "enter"
  try clear F
  intro L h₁ t₁ F
  refine' hideF ?_
  intro _ _
  obtain ⟨vs, J, P⟩ := H
  have hl := P.length
  repeat walk_at "m"
  walk_at "kx"; refine' it_list R.hh F J ?_
  try clear F
  intro I o h₂ fp T F It T0 hfp
  walk_at "kx"; refine' comp_val (μm := []) (μr := []) It (by have := hS.1; omega) F T0 hfp ?hcell ?hkind ?hx (fun i g' μ' ys => μ' = [] ∧ All2 (RowAt g') ys (withAnyP (rows.take i))) ⟨rfl, .nil⟩ ?turn ?hJ ?done
  case hcell => decide
  case hkind => exact rfl
  case hx => exact rfl
  case hJ => intro i g' μ' ys h; rw [h.1]
  case turn =>
    try clear F
    intro C D i v g' h' t' μ' ys m o' hi hP up hJ hC F KT KN kt kn
    obtain ⟨rfl, A2⟩ := hJ
    obtain ⟨p, ps, x, xs, e2, K, X, XS, hps, hxs, hpf⟩ := row_at P hS hP up
    refine ifs_one ?_
    repeat walk_at "m"
    walk_at "kx"; refine' l_item F K (by decide) (by simp <;> omega) rfl (by intro _; with_unfolding_all rfl) ?_
    repeat walk_at "m"
    walk_at "kx"; refine' m_isiP F X (by decide) ?_; intro t₂
    repeat walk_at "m"
    walk_at "kx"; refine ⟨fun hb => ?_, fun hb => ?_⟩
    · repeat walk_at "m"
      walk_at "kx"; refine' m_slice (by intro _ _; rfl) ?_
      repeat walk_at "m"
      walk_at "kx"; refine' sl_end F K (by simp; omega) (.int _ _) .none ?_
      try clear F
      intro b h₃ F hb2
      rw [show ((1 : Int)) = ((1 : Nat) : Int) from rfl, pick_from] at F
      have Fz := F.lay hb2
      clear F
      obtain ⟨g₁, up1, IL, F⟩ := Fz
      walk_at "kx"; first | refine kt _ g₁ _ _ ([]) up1 F ⟨rfl, ?_⟩ | refine kn g₁ _ _ ([]) up1 F ⟨rfl, ?_⟩
      have e : withAnyP (rows.take (i + 1)) = withAnyP (rows.take i) ++ [ps] := by
        unfold withAnyP
        rw [flatMap_snoc e2]
        (revert hb; generalize p = p; induction p <;> intro hb <;> first | rfl | exact Bool.noConfusion hb)
      rw [e]
      exact (A2.imp fun _ _ z => z.mono up1).snoc ⟨_, IL, XS.imp fun _ _ z => z.mono up1⟩
    · walk_at "kx"; first | refine kt _ g' _ _ ([]) (fun _ _ e => e) F ⟨rfl, ?_⟩ | refine kn g' _ _ ([]) (fun _ _ e => e) F ⟨rfl, ?_⟩
      have e : withAnyP (rows.take (i + 1)) = withAnyP (rows.take i) := by
        unfold withAnyP
        rw [flatMap_snoc e2]
        (revert hb; generalize p = p; induction p <;> intro hb <;> first | (exact List.append_nil _) | exact Bool.noConfusion hb)
      rw [e]; exact A2
  case done =>
    try clear F
    intro D g' h' t' μ' ys m up hJ hy hD F
    obtain ⟨rfl, A2⟩ := hJ
    have Fz := F.lay hD
    clear F
    obtain ⟨g₁, up1, IL, F⟩ := Fz
    walk_at "kx"; refine ret_ F ⟨ys, IL, ?_⟩
    rw [List.take_of_length_le (by omega)] at A2
    exact A2.imp fun _ _ z => z.mono up1

noncomputable def lineP (r : List Pat) : List Pat := match r with
  | p :: ps => lookP p :: ps
  | [] => []
theorem map_snoc {α β : Type} {f : α → β} {xs : List α} {i : Nat} {x : α} (e : xs[i]? = some x) : (xs.take (i + 1)).map f = (xs.take i).map f ++ [f x] := by
  rw [take_snoc e, List.map_append]; rfl
theorem lines_of_spec {prog : Program} {w : World} {A : Around} {s : Shared} {g : Kn} {h : Heap} {t : Nat} {v : Value} {rows : List (List Pat)} (R : Room A 20) (gd : Gd w g) (sub : Sub g h)
    (H : RowsAt g v rows) (hS : Sized rows) : wpAny (model prog w) A (call (.ref 385) [v]) (Ret [] g s h (fun g' _ r => RowsAt g' r (rows.map lineP))) NoE (St s h t) := by
  refine' m_enter [("rows", v)] gd sub ?ho ?hcd ?hroom ?hbind ?hloc ?hcell ?hco ?hgen ?hk ?hb
  walk_at "enter"
  try clear F
  intro L h₁ t₁ F
  refine' hideF ?_
  intro _ _
  obtain ⟨vs, J, P⟩ := H
  have hl := P.length
  repeat walk_at "m"
  walk_at "kx"; refine' it_list R.hh F J ?_
  try clear F
  intro I o h₂ fp T F It T0 hfp
  walk_at "kx"; refine' comp_val (μm := []) (μr := []) It (by have := hS.1; omega) F T0 hfp ?hcell ?hkind ?hx (fun i g' μ' ys => μ' = [] ∧ All2 (RowAt g') ys ((rows.take i).map lineP)) ⟨rfl, .nil⟩ ?turn ?hJ ?done
  case hcell => decide
  case hkind => exact rfl
  case hx => exact rfl
  case hJ => intro i g' μ' ys h; rw [h.1]
  case turn =>
    try clear F
    intro C D i v g' h' t' μ' ys m o' hi hP up hJ hC F KT KN kt kn
    obtain ⟨rfl, A2⟩ := hJ
    obtain ⟨p, ps, x, xs, e2, K, X, XS, hps, hxs, hpf⟩ := row_at P hS hP up
    refine ifs_nil ⟨fun _ => ?_, fun e => Bool.noConfusion e⟩
    repeat walk_at "m"
    walk_at "kx"; refine' l_item F K (by decide) (by simp <;> omega) rfl (by intro _; with_unfolding_all rfl) ?_
    repeat walk_at "m"
    walk_at "kx"; refine ⟨F.k, ?_⟩
    walk_at "kx"; refine m_use (looked_at_spec (R.dl (by decide)) F.gd F.sub X hpf) fun _ _ r1 g₁ h₃ t₃ G1 o1 => ?_
    replace F := F.call G1
    repeat walk_at "m"
    walk_at "kx"; refine' m_newlist F (Nat.le_of_ble_eq_true rfl) ?_
    try clear F
    intro b h₄ F hb
    repeat walk_at "m"
    walk_at "kx"; refine' m_slice (by intro _ _; rfl) ?_
    repeat walk_at "m"
    walk_at "kx"; refine' sl_end F (K.mono G1.up) (by simp; omega) (.int _ _) .none ?_
    try clear F
    intro c h₅ F hc
    rw [show ((1 : Int)) = ((1 : Nat) : Int) from rfl, pick_from] at F
    have Fz := F.lay hc
    clear F
    obtain ⟨g₂, up2, IL, F⟩ := Fz
    repeat walk_at "m"
    walk_at "kx"; refine' l_copy F IL (by simp; omega) ?_
    try clear F
    intro d h₆ n F hd
    walk_at "kx"; refine' l_add F ⟨_, rfl, ⟨_, (F.mu _ (.tail _ (.head _))).1, rfl, _, rfl⟩⟩ ⟨_, rfl, muL F⟩ (by simp; omega) ?_
    try clear F
    intro e h₇ F he
    have Fz := F.lay he
    clear F
    obtain ⟨g₃, up3, IL3, F⟩ := Fz
    walk_at "kx"; first | refine kt _ g₃ _ _ ([]) (fun a y e => up3 _ _ (up2 _ _ (G1.up _ _ e))) F.drop.drop ⟨rfl, ?_⟩ | refine kn g₃ _ _ ([]) (fun a y e => up3 _ _ (up2 _ _ (G1.up _ _ e))) F.drop.drop ⟨rfl, ?_⟩
    rw [map_snoc e2]
    refine (A2.imp fun _ _ z => ((z.mono G1.up).mono up2).mono up3).snoc ⟨_, IL3, .cons ((o1.mono up2).mono up3) (XS.imp fun _ _ z => ((z.mono G1.up).mono up2).mono up3)⟩
  case done =>
    try clear F
    intro D g' h' t' μ' ys m up hJ hy hD F
    obtain ⟨rfl, A2⟩ := hJ
    have Fz := F.lay hD
    clear F
    obtain ⟨g₁, up1, IL, F⟩ := Fz
    walk_at "kx"; refine ret_ F ⟨ys, IL, ?_⟩
    rw [List.take_of_length_le (by omega)] at A2
    exact A2.imp fun _ _ z => z.mono up1
noncomputable def conP (c : Cn) (n : Nat) (r : List Pat) : List (List Pat) := match r with
  | .wild :: ps => [List.replicate n .wild ++ ps]
  | .con0 d :: ps => if d = c then [ps] else []
  | .con2 d x y :: ps => if d = c then [x :: y :: ps] else []
  | _ => []
noncomputable def withConP (c : Cn) (n : Nat) (rows : List (List Pat)) : List (List Pat) := rows.flatMap (conP c n)
theorem PatAt.con {g : Kn} {v : Value} {p : Pat} (P : PatAt g v p) (h : p.cls = 153) : ∃ a t y zs c qs, v = .ref a ∧ Inst g a 153 [("place", .none), ("name", .str (Cn.name c) t), ("args", y)] ∧ IsL g y zs ∧ All2 (PatAt g) zs qs ∧ qs.length ≤ 2 ∧
    ∀ d n ps, conP d n (p :: ps) = if c = d then [qs ++ ps] else [] := by
  cases P with
  | con0 I J => exact ⟨_, _, _, _, _, [], rfl, I, J, .nil, by simp, fun d n ps => rfl⟩
  | con2 I J X Y => exact ⟨_, _, _, _, _, [_, _], rfl, I, J, .cons X (.cons Y .nil), by simp, fun d n ps => rfl⟩
  | _ => cases h
theorem conP_other {c : Cn} {n : Nat} {p : Pat} {ps : List Pat} (h1 : p.cls ≠ 99) (h2 : p.cls ≠ 153) : conP c n (p :: ps) = [] := by induction p <;> first | rfl | exact absurd rfl h1 | exact absurd rfl h2
theorem IsL.handed {g : Kn} {v : Value} {vs : List Value} (I : IsL g v vs) : handedIn v = true := by obtain ⟨b, _, e, _⟩ := I; rw [e]; rfl

theorem with_con_spec {prog : Program} {w : World} {A : Around} {s : Shared} {g : Kn} {h : Heap} {t : Nat} {v : Value} {rows : List (List Pat)} {c : Cn} {n : Nat} {t1 t2 : Tok} (R : Room A 12) (gd : Gd w g) (sub : Sub g h)
    (H : RowsAt g v rows) (hS : Sized rows) (hn : n ≤ 2) : wpAny (model prog w) A (call (.ref 390) [v, .str c.name t1, .int n t2]) (Ret [] g s h (fun g' _ r => RowsAt g' r (withConP c n rows))) NoE (St s h t) := by
  refine' m_enter [("many", .int n t2), ("name", .str c.name t1), ("rows", v)] gd sub ?ho ?hcd ?hroom ?hbind ?hloc ?hcell ?hco ?hgen ?hk ?hb
  walk_at "enter"
  try clear F
  intro L h₁ t₁ F
  refine' hideF ?_
  intro _ _
  obtain ⟨vs, J, P⟩ := H
  have hl := P.length
  repeat walk_at "m"
  walk_at "kx"; refine' m_newlist F (Nat.le_of_ble_eq_true rfl) ?_
  try clear F
  intro D h₂ F hD
  repeat walk_at "m"
  rename Fm _ _ _ _ _ _ _ _ _ => F
  walk_at "kx"; refine' it_list R.hh F J ?_
  try clear F
  intro I o h₂ fp T F It T0 hfp
  walk_at "kx"; refine' for_run It F T0 hfp ?hx rfl rfl (fun i g' l' μ' => (l' = ([("found", .ref D), ("many", .int n t2), ("name", .str c.name t1), ("rows", v)] : List (Str × Value)) ∨ ∃ u, l' = (("row", u) :: [("found", .ref D), ("many", .int n t2), ("name", .str c.name t1), ("rows", v)] : List (Str × Value))) ∧
    ∃ ys m, μ' = [(D, listO ys m)] ∧ All2 (RowAt g') ys (withConP c n (rows.take i)) ∧ ys.length ≤ i) ⟨.inl rfl, [], 0, rfl, .nil, Nat.le_refl _⟩ ?turn ?done
  case hx => exact rfl
  case turn =>
    try clear F
    intro i v' g' h' t' l' μ' o' hi hP up hJ F Kp kn kr
    obtain ⟨hl', ys, m, rfl, A2, hys⟩ := hJ
    replace F : Fm _ _ _ _ _ _ _ (("row", v') :: [("found", .ref D), ("many", .int n t2), ("name", .str c.name t1), ("rows", v)]) _ := F.relook fun y => by
      rcases hl' with rfl | ⟨u, rfl⟩
      · rfl
      · exact lk_shadow y
    obtain ⟨p, ps, x, xs, e2, K, X, XS, hps, hxs, hpf⟩ := row_at P hS hP up
    have e3 : withConP c n (rows.take (i + 1)) = withConP c n (rows.take i) ++ conP c n (p :: ps) := flatMap_snoc e2
    have hys2 : ys.length ≤ 2 ^ 20 := by have := hS.1; omega
    repeat walk_at "m"
    walk_at "kx"; refine' l_item F K (by decide) (by simp <;> omega) rfl (by intro _; with_unfolding_all rfl) ?_
    repeat walk_at "m"
    walk_at "kx"; refine' m_isiP F X (by decide) ?_; intro t₂
    repeat walk_at "m"
    walk_at "kx"; refine ⟨fun hb => ?_, fun hb => ?_⟩
    · repeat walk_at "m"
      walk_at "kx"; refine' l_appendM F.swap ?_
      refine ⟨_, rfl, ?_⟩
      repeat walk_at "m"
      walk_at "kx"; refine' r_call1 F ?_
      try clear F
      intro r h₃ t₃ a1 a2 a3 F hr
      walk_at "kx"; refine' it_range R.hh F hr (by decide) (by omega) (by omega) ?_
      try clear F
      intro I2 o2 h₄ fp2 T2 F It2 T20 hfp2
      walk_at "kx"; refine' comp_val (μm := []) (μr := _ :: _) It2 (by omega) F T20 hfp2 ?hcell ?hkind ?hx (fun i g' μ' ys => μ' = [] ∧ All2 (PatAt g') ys (List.replicate i .wild)) ⟨rfl, .nil⟩ ?turn2 ?hJ ?done2
      case hcell => decide
      case hkind => exact rfl
      case hx => exact rfl
      case hJ => intro i g' μ' ys h; rw [h.1]
      case turn2 =>
        try clear F
        intro C D' i' v2 g2 h'' t'' μ2 ys2 m2 o'' hi2 hP2 up2 hJ2 hC F KT KN kt kn
        obtain ⟨rfl, B2⟩ := hJ2
        refine ifs_nil ⟨fun _ => ?_, fun e => Bool.noConfusion e⟩
        repeat walk_at "m"
        walk_at "kx"; refine ⟨F.k, ?_⟩
        walk_at "kx"; refine m_use (mk_wild (R.dl (by decide)) F.gd F.sub) fun _ _ r1 g₁ h₅ t₅ G1 o1 => ?_
        obtain ⟨a1, rfl, J1⟩ := o1
        walk_at "kx"; first | refine kt _ g₁ _ _ ([]) G1.up (F.call G1) ⟨rfl, ?_⟩ | refine kn g₁ _ _ ([]) G1.up (F.call G1) ⟨rfl, ?_⟩
        rw [List.replicate_succ']
        exact (B2.imp fun _ _ z => z.mono G1.up).snoc (.wild J1)
      case done2 =>
        try clear F
        intro D' g2 h'' t'' μ2 ys2 m2 up2 hJ2 hy2 hD2 F
        obtain ⟨rfl, B2⟩ := hJ2
        have Fz := F.lay hD2
        clear F
        obtain ⟨g₁, up1, IL, F⟩ := Fz
        repeat walk_at "m"
        walk_at "kx"; refine' m_slice (by intro _ _; rfl) ?_
        repeat walk_at "m"
        walk_at "kx"; refine' sl_end F ((K.mono up2).mono up1) (by simp; omega) (.int _ _) .none ?_
        try clear F
        intro b h₃ F hb2
        rw [show ((1 : Int)) = ((1 : Nat) : Int) from rfl, pick_from] at F
        walk_at "kx"; refine' l_add F ((IL.list F)) ⟨_, rfl, muL F⟩ (by have := B2.length; simp at this ⊢; omega) ?_
        try clear F
        intro e h₇ F he
        replace F := F.swap.drop
        have Fz := F.lay he
        clear F
        obtain ⟨g₃, up3, IL3, F⟩ := Fz
        repeat walk_at "m"
        walk_at "kx"; refine' l_append F.swap hys2 ?_
        try clear F
        intro h₈ F
        repeat walk_at "m"
        walk_at "kx"; refine kn g₃ _ _ _ _ (fun a y e => up3 _ _ (up1 _ _ (up2 _ _ e))) F.swap ⟨.inr ⟨_, rfl⟩, _, _, rfl, ?_, by simp; omega⟩
        rw [e3]
        have e4 : conP c n (p :: ps) = [List.replicate n .wild ++ ps] := by (revert hb; generalize p = p; induction p <;> intro hb <;> first | rfl | exact Bool.noConfusion hb)
        rw [e4]
        refine (A2.imp fun _ _ z => ((z.mono up2).mono up1).mono up3).snoc ⟨_, IL3, ?_⟩
        refine All2.append (B2.imp fun _ _ z => (z.mono up1).mono up3) (XS.imp fun _ _ z => ((z.mono up2).mono up1).mono up3)
    · repeat walk_at "m"
      walk_at "kx"; refine' l_item F K (by decide) (by simp <;> omega) rfl (by intro _; with_unfolding_all rfl) ?_
      repeat walk_at "m"
      walk_at "kx"; refine' m_isiP F X (by decide) ?_; intro t₂
      repeat walk_at "m"
      walk_at "kx"; refine ⟨fun hb2 => ?_, fun hb2 => ?_⟩
      · obtain ⟨a, tk, y, zs, d, qs, rfl, II, Y, B2, hq, hc⟩ := X.con (by simpa using hb2)
        repeat walk_at "m"
        walk_at "kx"; refine' l_item F K (by decide) (by simp <;> omega) rfl (by intro _; with_unfolding_all rfl) ?_
        walk_at "kx"; refine' m_getattr F II rfl (patCls_ok (by decide)) (fine_con.a _ (by repeat constructor)) rfl ?_
        intro t₃
        repeat walk_at "m"
        rw [cn_beq]
        walk_at "kx"; refine ⟨fun hb3 => ?_, fun hb3 => ?_⟩
        · have hd : d = c := by simpa using hb3
          repeat walk_at "m"
          walk_at "kx"; refine' l_appendM F.swap ?_
          refine ⟨_, rfl, ?_⟩
          repeat walk_at "m"
          walk_at "kx"; refine' l_item F K (by decide) (by simp <;> omega) rfl (by intro _; with_unfolding_all rfl) ?_
          walk_at "kx"; refine' m_getattr F II rfl (patCls_ok (by decide)) (fine_con.a _ (by repeat constructor)) Y.handed ?_
          intro t₄
          repeat walk_at "m"
          walk_at "kx"; refine' l_copy F Y (by have := B2.length; omega) ?_
          try clear F
          intro b' h₃ n' F hb'
          have Fz := F.lay hb'
          clear F
          obtain ⟨g₁, up1, IL, F⟩ := Fz
          repeat walk_at "m"
          walk_at "kx"; refine' m_slice (by intro _ _; rfl) ?_
          repeat walk_at "m"
          walk_at "kx"; refine' sl_end F (K.mono up1) (by simp; omega) (.int _ _) .none ?_
          try clear F
          intro b h₃ F hb2
          rw [show ((1 : Int)) = ((1 : Nat) : Int) from rfl, pick_from] at F
          walk_at "kx"; refine' l_add F ((IL.list F)) ⟨_, rfl, muL F⟩ (by have := B2.length; simp at this ⊢; omega) ?_
          try clear F
          intro e h₇ F he
          replace F := F.swap.drop
          have Fz := F.lay he
          clear F
          obtain ⟨g₃, up3, IL3, F⟩ := Fz
          repeat walk_at "m"
          walk_at "kx"; refine' l_append F.swap hys2 ?_
          try clear F
          intro h₈ F
          repeat walk_at "m"
          walk_at "kx"; refine kn g₃ _ _ _ _ (fun a y e => up3 _ _ (up1 _ _ e)) F.swap ⟨.inr ⟨_, rfl⟩, _, _, rfl, ?_, by simp; omega⟩
          rw [e3, hc, if_pos hd]
          refine (A2.imp fun _ _ z => (z.mono up1).mono up3).snoc ⟨_, IL3, ?_⟩
          refine All2.append (B2.imp fun _ _ z => (z.mono up1).mono up3) (XS.imp fun _ _ z => (z.mono up1).mono up3)
        · repeat walk_at "m"
          walk_at "kx"; refine kn g' _ _ _ _ (fun _ _ e => e) F ⟨.inr ⟨_, rfl⟩, ys, m, rfl, ?_, by omega⟩
          rw [e3, hc, if_neg (by simpa using hb3), List.append_nil]; exact A2
      · walk_at "kx"; refine ⟨fun e => Bool.noConfusion e, fun _ => ?_⟩
        repeat walk_at "m"
        walk_at "kx"; refine kn g' _ _ _ _ (fun _ _ e => e) F ⟨.inr ⟨_, rfl⟩, ys, m, rfl, ?_, by omega⟩
        rw [e3, conP_other (by simpa using hb) (by simpa using hb2), List.append_nil]; exact A2
  case done =>
    try clear F
    intro g' h' t' l' μ' up hJ F
    obtain ⟨hl', ys, m, rfl, A2, hys⟩ := hJ
    rw [List.take_of_length_le (by omega)] at A2
    rcases hl' with rfl | ⟨u, rfl⟩
    all_goals
      repeat walk_at "m"
      have Fz := F.lay hD
      clear F
      obtain ⟨g₁, up1, IL, F⟩ := Fz
      walk_at "kx"; exact ret_ F ⟨_, IL, A2.imp fun _ _ z => z.mono up1⟩
/-! functions with cells -/
theorem cellsFrom_mem {x : Str} : ∀ (names : List (Str × NameKind)) (n : Nat) (acc : List (Str × Addr)), ((acc.lookup x).isSome = true ∨ names.lookup x = some .cell) → ((cellsFrom n names acc).lookup x).isSome = true
  | [], n, acc, h => by
    rcases h with h | h
    · exact h
    · cases h
  | (y, k) :: r, n, acc, h => by
    unfold cellsFrom
    by_cases hk : k = .cell
    · rw [if_pos (by simp [hk])]
      refine cellsFrom_mem r _ _ ?_
      rw [List.lookup_cons] at h ⊢
      by_cases hx : x = y
      · subst hx; simp
      · have e : (x == y) = false := by simpa using hx
        rw [e] at h ⊢
        exact h
    · rw [if_neg (by simpa using hk)]
      refine cellsFrom_mem r _ _ ?_
      rw [List.lookup_cons] at h
      by_cases hx : x = y
      · subst hx; rw [beq_self_eq_true] at h
        rcases h with h | h
        · exact .inl h
        · cases h; exact absurd rfl hk
      · have e : (x == y) = false := by simpa using hx
        rw [e] at h
        exact h
theorem bindL_look (kd : Str → Option NameKind) (y : Str) : ∀ (binds : List (Str × Value)) (m : Str → Option Value), bindL kd binds m y = match (binds.filter fun x => decide (kd x.1 = some .local)).reverse.lookup y with | some v => some v | none => m y
  | [], m => rfl
  | (n, v) :: r, m => by
    unfold bindL
    rw [bindL_look kd y r]
    by_cases hk : kd n = some .local
    · rw [if_pos hk, List.filter_cons_of_pos (by simpa using hk), List.reverse_cons]
      generalize (List.filter (fun x => decide (kd x.1 = some NameKind.local)) r).reverse = q
      rw [List.lookup_append]
      cases q.lookup y with
      | some u => rfl
      | none =>
        rw [List.lookup_cons]
        by_cases hy : y = n
        · subst hy; simp
        · have e : (y == n) = false := by simpa using hy
          simp [e, hy]
    · rw [if_neg hk, List.filter_cons_of_neg (by simpa using hk)]
theorem bindC_look (kd : Str → Option NameKind) (y : Str) : ∀ (binds : List (Str × Value)) (m : Str → Option Value), bindC kd binds m y = match (binds.filter fun x => !decide (kd x.1 = some .local)).reverse.lookup y with | some v => some v | none => m y
  | [], m => rfl
  | (n, v) :: r, m => by
    unfold bindC
    rw [bindC_look kd y r]
    by_cases hk : kd n = some .local
    · rw [if_pos hk, List.filter_cons_of_neg (by simpa using hk)]
    · rw [if_neg hk, List.filter_cons_of_pos (by simpa using hk), List.reverse_cons]
      generalize (List.filter (fun x => !decide (kd x.1 = some NameKind.local)) r).reverse = q
      rw [List.lookup_append]
      cases q.lookup y with
      | some u => rfl
      | none =>
        rw [List.lookup_cons]
        by_cases hy : y = n
        · subst hy; simp
        · have e : (y == n) = false := by simpa using hy
          simp [e, hy]
section
variable {prog : Program} {w : World} {A : Around} {E : Value → Shared → Prop} {s : Shared} {env : Env} {U : List Addr} {g₀ g : Kn} {h₀ h : Heap} {L : Addr} {t : Nat} {l : List (Str × Value)} {μ : List (Addr × Obj)}
theorem Fm.addcell {c : Addr} {v : Option Value} (F : Fm U w g₀ h₀ L g h l μ) (X : h.IsCell c v) (lt : L < c) (gc : g c = none) (hm : c ∉ μ.map (·.1)) : ∃ o, o.data = .cell v ∧ Fm U w g₀ h₀ L g h l ((c, o) :: μ) :=
  let ⟨o, e, d⟩ := X
  ⟨o, d, F.addmu e gc (Nat.ne_of_gt lt) (Nat.le_trans F.above (Nat.le_of_lt lt)) hm⟩
theorem m_enterX (l cs : List (Str × Value)) {binds : List (Str × Value)} {Out : Kn → Heap → Value → Prop} {name qual : Str} {params : Arguments} {body : List Stmt} {scope : Scope} {dV kV doc pm cdv ct oc : Value} {an od : Option Addr} {osl : Array (Option Value)} {f : Addr} {vals : List Value}
    (gd : Gd w g) (sub : Sub g h) (hμ : ∀ p ∈ μ, h.get? p.1 = some p.2 ∧ g p.1 = none ∧ p.1 ∈ U) (nd : (μ.map (·.1)).Nodup)
    (ho : (K0 w.params).lookup f = some ⟨oc, od, .func (fnOf name qual params body scope dV kV doc pm an cdv ct), osl⟩) (hcd : codeIn (K0 w.params) cdv qual = true) (hroom : A.depth < recursionLimit)
    (hbind : bindArgs (fnOf name qual params body scope dV kV doc pm an cdv ct) ⟨vals, []⟩ = pure binds)
    (hkind : (binds.all fun x => decide (scope.names.lookup x.1 = some .local) || decide (scope.names.lookup x.1 = some .cell)) = true)
    (hl : (binds.filter fun x => decide (scope.names.lookup x.1 = some .local)).reverse = l) (hcs : (binds.filter fun x => !decide (scope.names.lookup x.1 = some .local)).reverse = cs)
    (hco : scope.isCoroutine = false) (hgen : scope.isGenerator = false) (hk : scope.kind = .function)
    (hb : ∀ L h₁ t₁, Fm U w g h L g h₁ l μ → (∀ n c, (cellsFrom (L + 1) scope.names []).lookup n = some c → h₁.IsCell c (cs.lookup n)) → (∀ c, L < c → g c = none ∧ c ∉ μ.map (·.1)) →
      wpAny (model prog w) (A.deeper (envOfC qual scope L f cdv)) (execs body (envOfC qual scope L f cdv)) (fun fl s' => Ret U g s h Out (match fl with | .ret v => v | _ => .none) s') NoE (St s h₁ t₁)) :
    wpAny (model prog w) A (call (.ref f) vals) (Ret U g s h Out) NoE (St s h t) := by
  have G := gd.at sub
  refine of_code (codeAny_call_cells (s := St s h t) (fd := fnOf name qual params body scope dV kV doc pm an cdv ct) (body := body) (binds := binds) hroom (G.k _ _ ho) rfl G.lim (codeRec_of G.k hcd) rfl hbind rfl (fun x hx => ?_) (fun s₁ X => ?_) hco hgen hk)
  · have q := List.all_eq_true.mp hkind x hx
    simp only [Bool.or_eq_true, decide_eq_true_eq] at q
    rcases q with q | q
    · exact .inl q
    · exact .inr ⟨q, cellsFrom_mem _ _ _ (.inr q)⟩
  · obtain ⟨⟨⟨h₁, t₁, rfl⟩, ns, keep, fr⟩, cell, apart, above⟩ := X
    have none_of : ∀ c, h.objs.size ≤ c → g c = none := fun c hc => by
      cases e : g c with
      | none => rfl
      | some o => exact absurd (Heap.lt_size (sub _ _ e)) (Nat.not_lt.mpr hc)
    have F : Fm U w g h h.objs.size g h₁ l μ := ⟨by
        have e : (fun y => l.lookup y) = bindL (callEnvC (fnOf name qual params body scope dV kV doc pm an cdv ct) h.objs.size f).kindOf binds fun _ => none := by
          funext y
          rw [bindL_look, ← hl]
          show _ = match (List.filter (fun x => decide (scope.names.lookup x.1 = some .local)) binds).reverse.lookup y with | some v => some v | none => none
          cases (List.filter (fun x => decide (scope.names.lookup x.1 = some .local)) binds).reverse.lookup y <;> rfl
        rw [e]; exact ns, gd, fun a o e => keep a o (sub a o e), none_of _ (Nat.le_refl _), Nat.le_refl _, G.lo, fun _ _ e => e, fun a o _ e => keep a o e, fun _ _ => rfl,
      fun p hp => ⟨keep _ _ (hμ p hp).1, (hμ p hp).2.1, Nat.ne_of_lt (Heap.lt_size (hμ p hp).1), .inl (hμ p hp).2.2⟩, nd⟩
    refine wpAny_mono (hb _ h₁ _ F (fun n c e => ?_) fun c hc => ⟨none_of c (Nat.le_of_lt hc), fun q => ?_⟩) (fun fl s' r => r) fun _ _ e => e.elim
    · have z := cell n c e
      rw [bindC_look] at z
      have e2 : (match (List.filter (fun x => !decide ((callEnvC (fnOf name qual params body scope dV kV doc pm an cdv ct) h.objs.size f).kindOf x.1 = some .local)) binds).reverse.lookup n with | some v => some v | none => none) = cs.lookup n := by
        rw [← hcs]
        show (match (List.filter (fun x => !decide (scope.names.lookup x.1 = some .local)) binds).reverse.lookup n with | some v => some v | none => none) = _
        cases (List.filter (fun x => !decide (scope.names.lookup x.1 = some .local)) binds).reverse.lookup n <;> rfl
      exact e2 ▸ z
    · obtain ⟨p, hp, e⟩ := List.mem_map.mp q
      exact absurd (Heap.lt_size (hμ p hp).1) (by rw [e]; exact Nat.not_lt.mpr (Nat.le_of_lt hc))
noncomputable def CellK (g : Kn) (c : Addr) (v : Option Value) : Prop := ∃ o, g c = some o ∧ o.data = .cell v
theorem CellK.mono {g g' : Kn} {c : Addr} {v : Option Value} (X : CellK g c v) (up : Up g g') : CellK g' c v := let ⟨o, a, b⟩ := X; ⟨o, up _ _ a, b⟩
theorem m_cell {x : Str} {pos : Pos} {c : Addr} {v : Value} {Q : Value → Shared → Prop} (F : Fm U w g₀ h₀ L g h l μ) (X : CellK g c (some v)) (hk : env.scope.kind = .function) (hl : env.kindOf x = some .cell) (hc : env.cells.lookup x = some c)
    (hdd : (x == ("__debug__" : Str)) = false) (hQ : Q v (St s h t)) : wpAny (model prog w) A (eval (.Name x pos) env) Q E (St s h t) :=
  let ⟨o, e, d⟩ := X
  wpAny_Name (wpAny_loadName_cell (s := St s h t) hk hl hc ⟨o, F.sub _ _ e, d⟩ hQ) hdd
theorem m_cellM {x : Str} {pos : Pos} {c : Addr} {o : Obj} {v : Value} {Q : Value → Shared → Prop} (F : Fm U w g₀ h₀ L g h l μ) (hm : (c, o) ∈ μ) (d : o.data = .cell (some v)) (hk : env.scope.kind = .function) (hl : env.kindOf x = some .cell) (hc : env.cells.lookup x = some c)
    (hdd : (x == ("__debug__" : Str)) = false) (hQ : Q v (St s h t)) : wpAny (model prog w) A (eval (.Name x pos) env) Q E (St s h t) :=
  wpAny_Name (wpAny_loadName_cell (s := St s h t) hk hl hc ⟨o, (F.mu _ hm).1, d⟩ hQ) hdd
theorem m_storeC {x : Str} {c : Addr} {o : Obj} {v₀ : Option Value} {v : Value} {Q : Unit → Shared → Prop} (F : Fm U w g₀ h₀ L g h l ((c, o) :: μ)) (d : o.data = .cell v₀) (hk : env.scope.kind = .function) (hl : env.kindOf x = some .cell) (hc : env.cells.lookup x = some c)
    (hQ : ∀ h' o', o'.data = .cell (some v) → Fm U w g₀ h₀ L g h' l ((c, o') :: μ) → Q () (St s h' t)) : wpAny (model prog w) A (storeName env x v) Q E (St s h t) :=
  wpAny_storeName_cell (s := St s h t) hk hl hc ⟨o, (F.mu _ (.head _)).1, d⟩ fun h' ⟨o', e, d'⟩ hs => hQ h' o' d' (F.turn hs e)
end
noncomputable def headP (r : List Pat) : Option Cn := match r with
  | .con0 c :: _ => some c
  | .con2 c _ _ :: _ => some c
  | _ => none
noncomputable def headStep (acc : List Cn) (r : List Pat) : List Cn := match headP r with
  | some c => if acc.contains c then acc else acc ++ [c]
  | none => acc
noncomputable def headsP (rows : List (List Pat)) : List Cn := rows.foldl headStep []
theorem foldl_snoc {α β : Type} {f : β → α → β} {a : β} {xs : List α} {i : Nat} {x : α} (e : xs[i]? = some x) : (xs.take (i + 1)).foldl f a = f ((xs.take i).foldl f a) x := by
  rw [take_snoc e, List.foldl_append]; rfl
theorem PatAt.con' {g : Kn} {v : Value} {p : Pat} (P : PatAt g v p) (h : p.cls = 153) : ∃ a t y c, v = .ref a ∧ Inst g a 153 [("place", .none), ("name", .str (Cn.name c) t), ("args", y)] ∧ handedIn y = true ∧ ∀ ps, headP (p :: ps) = some c := by
  cases P with
  | con0 I J => exact ⟨_, _, _, _, rfl, I, J.handed, fun _ => rfl⟩
  | con2 I J X Y => exact ⟨_, _, _, _, rfl, I, J.handed, fun _ => rfl⟩
  | _ => cases h
noncomputable def isName (c : Cn) (y : Value) : Bool := match y with
  | .str x _ => x == c.name
  | _ => false
theorem any_heads {vs : List Value} {cs : List Cn} (H : All2 StrsAt vs cs) (c : Cn) : vs.any (isName c) = cs.contains c := by
  induction H with
  | nil => rfl
  | @cons v d _ _ a _ ih =>
    obtain ⟨t, rfl⟩ := a
    rw [List.any_cons, List.contains_cons, ih]
    congr 1
    show (d.name == c.name) = (c == d)
    rw [cn_beq]; induction d <;> induction c <;> rfl
theorem eq_names {A : Around} {s : Shared} {vs : List Value} {cs : List Cn} (H : All2 StrsAt vs cs) (c : Cn) (u : Tok) : ∀ y, y ∈ vs → SeqAt.EqAt A s y (.str c.name u) (isName c y) := by
  induction H with
  | nil => intro y hy; cases hy
  | cons a _ ih =>
    intro y hy
    rcases List.mem_cons.mp hy with rfl | hy
    · obtain ⟨t, rfl⟩ := a
      exact SeqAt.EqAt.str_str _ _ _ _
    · exact ih y hy

theorem heads_of_spec {prog : Program} {w : World} {A : Around} {s : Shared} {g : Kn} {h : Heap} {t : Nat} {v : Value} {rows : List (List Pat)} (R : Room A 5) (gd : Gd w g) (sub : Sub g h)
    (H : RowsAt g v rows) (hS : Sized rows) : wpAny (model prog w) A (call (.ref 407) [v]) (Ret [] g s h (fun g' _ r => ∃ vs, IsL g' r vs ∧ All2 StrsAt vs (headsP rows))) NoE (St s h t) := by
  refine' m_enter [("rows", v)] gd sub ?ho ?hcd ?hroom ?hbind ?hloc ?hcell ?hco ?hgen ?hk ?hb
  walk_at "enter"
  try clear F
  intro L h₁ t₁ F
  refine' hideF ?_
  intro _ _
  obtain ⟨vs, J, P⟩ := H
  have hl := P.length
  repeat walk_at "m"
  walk_at "kx"; refine' m_newlist F (Nat.le_of_ble_eq_true rfl) ?_
  try clear F
  intro D h₂ F hD
  repeat walk_at "m"
  rename Fm _ _ _ _ _ _ _ _ _ => F
  walk_at "kx"; refine' it_list R.hh F J ?_
  try clear F
  intro I o h₂ fp T F It T0 hfp
  walk_at "kx"; refine' for_run It F T0 hfp ?hx rfl rfl (fun i g' l' μ' => (l' = ([("found", .ref D), ("rows", v)] : List (Str × Value)) ∨ ∃ u, l' = ([("row", u), ("found", .ref D), ("rows", v)] : List (Str × Value))) ∧
    ∃ ys m, μ' = [(D, listO ys m)] ∧ All2 StrsAt ys (headsP (rows.take i)) ∧ ys.length ≤ i) ⟨.inl rfl, [], 0, rfl, .nil, Nat.le_refl _⟩ ?turn ?done
  case hx => exact rfl
  case turn =>
    try clear F
    intro i v' g' h' t' l' μ' o' hi hP up hJ F Kp kn kr
    obtain ⟨hl', ys, m, rfl, A2, hys⟩ := hJ
    replace F : Fm _ _ _ _ _ _ _ (([("row", v'), ("found", .ref D), ("rows", v)] : List (Str × Value))) _ := F.relook fun y => by
      rcases hl' with rfl | ⟨u, rfl⟩
      · rfl
      · exact lk_shadow y
    obtain ⟨p, ps, x, xs, e2, K, X, XS, hps, hxs, hpf⟩ := row_at P hS hP up
    have e3 : headsP (rows.take (i + 1)) = headStep (headsP (rows.take i)) (p :: ps) := foldl_snoc e2
    have hys2 : ys.length ≤ 2 ^ 20 := by have := hS.1; omega
    repeat walk_at "m"
    walk_at "kx"; refine' l_item F K (by decide) (by simp <;> omega) rfl (by intro _; with_unfolding_all rfl) ?_
    repeat walk_at "m"
    walk_at "kx"; refine' m_isiP F X (by decide) ?_; intro t₂
    repeat walk_at "m"
    walk_at "kx"; refine ⟨fun hb2 => ?_, fun hb2 => ?_⟩
    · obtain ⟨a, tk, y, d, rfl, II, hy, hc⟩ := X.con' (by simpa using hb2)
      repeat walk_at "m"
      walk_at "kx"; refine' l_item F K (by decide) (by simp <;> omega) rfl (by intro _; with_unfolding_all rfl) ?_
      walk_at "kx"; refine' m_getattr F II rfl (patCls_ok (by decide)) (fine_con.a _ (by repeat constructor)) rfl ?_
      intro t₃
      repeat walk_at "m"
      walk_at "kx"; refine' l_notin (isName d) ⟨D, rfl, muL F.swap⟩ (eq_names A2 d tk) ?_
      rw [any_heads A2]
      repeat walk_at "m"
      walk_at "kx"; refine ⟨fun hb3 => ?_, fun hb3 => ?_⟩
      · repeat walk_at "m"
        walk_at "kx"; refine' l_appendM F.swap ?_
        refine ⟨_, rfl, ?_⟩
        repeat walk_at "m"
        walk_at "kx"; refine' l_item F K (by decide) (by simp <;> omega) rfl (by intro _; with_unfolding_all rfl) ?_
        walk_at "kx"; refine' m_getattr F II rfl (patCls_ok (by decide)) (fine_con.a _ (by repeat constructor)) rfl ?_
        intro t₃
        repeat walk_at "m"
        walk_at "kx"; refine' l_append F.swap hys2 ?_
        try clear F
        intro h₈ F
        repeat walk_at "m"
        walk_at "kx"; refine kn g' _ _ _ _ (fun a y e => e) F.swap ⟨.inr ⟨_, rfl⟩, _, _, rfl, ?_, by simp; omega⟩
        have e4 : headStep (headsP (rows.take i)) (p :: ps) = headsP (rows.take i) ++ [d] := by
          unfold headStep; rw [hc]; exact if_neg (by intro q; rw [q] at hb3; exact Bool.noConfusion hb3)
        rw [e3, e4]
        exact A2.snoc ⟨tk, rfl⟩
      · repeat walk_at "m"
        walk_at "kx"; refine kn g' _ _ _ _ (fun a y e => e) F ⟨.inr ⟨_, rfl⟩, ys, m, rfl, ?_, by omega⟩
        have e4 : headStep (headsP (rows.take i)) (p :: ps) = headsP (rows.take i) := by
          unfold headStep; rw [hc]; exact if_pos (by simpa using hb3)
        rw [e3, e4]; exact A2
    · walk_at "kx"; refine ⟨fun e => Bool.noConfusion e, fun _ => ?_⟩
      repeat walk_at "m"
      walk_at "kx"; refine kn g' _ _ _ _ (fun a y e => e) F ⟨.inr ⟨_, rfl⟩, ys, m, rfl, ?_, by omega⟩
      have e4 : headStep (headsP (rows.take i)) (p :: ps) = headsP (rows.take i) := by
        have : headP (p :: ps) = none := by (revert hb2; generalize p = p; induction p <;> intro hb2 <;> first | rfl | exact Bool.noConfusion hb2)
        unfold headStep; rw [this]
      rw [e3, e4]; exact A2
  case done =>
    try clear F
    intro g' h' t' l' μ' up hJ F
    obtain ⟨hl', ys, m, rfl, A2, hys⟩ := hJ
    rw [List.take_of_length_le (by omega)] at A2
    rcases hl' with rfl | ⟨u, rfl⟩
    all_goals
      repeat walk_at "m"
      have Fz := F.lay hD
      clear F
      obtain ⟨g₁, up1, IL, F⟩ := Fz
      walk_at "kx"; exact ret_ F ⟨_, IL, A2⟩

noncomputable def litP (q : Pat) (r : List Pat) : List (List Pat) := match r with
  | p :: ps => if p.cls == 99 || isLit p q then [ps] else []
  | [] => []
theorem litP_eq {p q : Pat} {ps : List Pat} : litP q (p :: ps) = if (p.cls == 99 || isLit p q) = true then [ps] else [] := rfl
noncomputable def withLitP (q : Pat) (rows : List (List Pat)) : List (List Pat) := rows.flatMap (litP q)
theorem with_literal_spec {prog : Program} {w : World} {A : Around} {s : Shared} {g : Kn} {h : Heap} {t : Nat} {v x : Value} {q : Pat} {kt : Tok} {rows : List (List Pat)} (R : Room A 8) (gd : Gd w g) (sub : Sub g h)
    (H : RowsAt g v rows) (hS : Sized rows) (V : LitV x q) : wpAny (model prog w) A (call (.ref 395) [v, .str (kindOf q) kt, x]) (Ret [] g s h (fun g' _ r => RowsAt g' r (withLitP q rows))) NoE (St s h t) := by
  refine' m_enterX (μ := []) [("rows", v)] [("value", x), ("kind", .str (kindOf q) kt)] gd sub (by simp) (by simp) ?ho ?hcd ?hroom ?hbind ?hkind ?hl ?hcs ?hco ?hgen ?hk ?hb
  case ho => k_is
  case hcd => k_is
  case hroom => have hR := R.d; omega
  case hbind => exact rfl
  case hkind => exact rfl
  case hl => exact rfl
  case hcs => exact rfl
  case hco => exact rfl
  case hgen => exact rfl
  case hk => exact rfl
  try clear F
  intro L h₁ t₁ F hc hg
  refine' hideF ?_
  intro _ _
  have c1 := hc "kind" (L + 1) rfl
  have c2 := hc "value" (L + 1 + 1) rfl
  have Fz := F.addcell c1 (Nat.lt_succ_self _) (hg _ (Nat.lt_succ_self _)).1 (by simp)
  clear F
  obtain ⟨o1, d1, F⟩ := Fz
  have Fz := F.addcell c2 (Nat.lt_succ_of_lt (Nat.lt_succ_self _)) (hg _ (Nat.lt_succ_of_lt (Nat.lt_succ_self _))).1 (by simp)
  clear F
  obtain ⟨o2, d2, F⟩ := Fz
  have Fz := F.freeze (Nat.le_trans F.above (Nat.le_succ_of_le (Nat.le_succ L)))
  clear F
  obtain ⟨g₁, up1, K1, _, F⟩ := Fz
  have Fz := F.freeze (Nat.le_trans F.above (Nat.le_succ L))
  clear F
  obtain ⟨g₂, up2, K2, _, F⟩ := Fz
  have X1 : CellK g₂ (L + 1) (some (.str (kindOf q) kt)) := ⟨o1, K2, d1⟩
  have X2 : CellK g₂ (L + 1 + 1) (some x) := ⟨o2, up2 _ _ K1, d2⟩
  replace H := (H.mono up1).mono up2
  obtain ⟨vs, J, P⟩ := H
  have hl := P.length
  repeat walk_at "m"
  walk_at "kx"; refine' it_list R.hh F J ?_
  try clear F
  intro I o h₂ fp T F It T0 hfp
  walk_at "kx"; refine' comp_val (μm := []) (μr := []) It (by have := hS.1; omega) F T0 hfp ?hcell ?hkind ?hx (fun i g' μ' ys => μ' = [] ∧ All2 (RowAt g') ys (withLitP q (rows.take i))) ⟨rfl, .nil⟩ ?turn ?hJ ?done
  case hcell => decide
  case hkind => exact rfl
  case hx => exact rfl
  case hJ => intro i g' μ' ys h; rw [h.1]
  case turn =>
    try clear F
    intro C D i v g' h' t' μ' ys m o' hi hP up hJ hC F KT KN kt kn
    obtain ⟨rfl, A2⟩ := hJ
    obtain ⟨p, ps, y, xs, e2, K, X, XS, hps, hxs, hpf⟩ := row_at P hS hP up
    have e3 : withLitP q (rows.take (i + 1)) = withLitP q (rows.take i) ++ litP q (p :: ps) := flatMap_snoc e2
    refine ifs_one ?_
    repeat walk_at "m"
    walk_at "kx"; refine' l_item F K (by decide) (by simp <;> omega) rfl (by intro _; with_unfolding_all rfl) ?_
    repeat walk_at "m"
    walk_at "kx"; refine' m_isiP F X (by decide) ?_; intro t₂
    repeat walk_at "m"
    walk_at "kx"; refine ⟨fun hb => ?_, fun hb => ?_⟩
    · walk_at "kx"; refine ⟨fun _ => ?_, fun e => Bool.noConfusion e⟩
      repeat walk_at "m"
      walk_at "kx"; refine' m_slice (by intro _ _; rfl) ?_
      repeat walk_at "m"
      walk_at "kx"; refine' sl_end F K (by simp; omega) (.int _ _) .none ?_
      try clear F
      intro b h₃ F hb2
      rw [show ((1 : Int)) = ((1 : Nat) : Int) from rfl, pick_from] at F
      have Fz := F.lay hb2
      clear F
      obtain ⟨g₁, up1, IL, F⟩ := Fz
      walk_at "kx"; first | refine kt _ g₁ _ _ ([]) up1 F ⟨rfl, ?_⟩ | refine kn g₁ _ _ ([]) up1 F ⟨rfl, ?_⟩
      rw [e3, show litP q (p :: ps) = [ps] by rw [litP_eq, hb]; rfl]
      exact (A2.imp fun _ _ z => z.mono up1).snoc ⟨_, IL, XS.imp fun _ _ z => z.mono up1⟩
    · repeat walk_at "m"
      walk_at "kx"; refine' l_item F K (by decide) (by simp <;> omega) rfl (by intro _; with_unfolding_all rfl) ?_
      repeat walk_at "m"
      walk_at "kx"; refine' m_cell F (X1.mono up) rfl rfl rfl rfl ?_
      repeat walk_at "m"
      walk_at "kx"; refine' m_cell F (X2.mono up) rfl rfl rfl rfl ?_
      repeat walk_at "m"
      walk_at "kx"; refine ⟨F.k, ?_⟩
      walk_at "kx"; refine m_use (is_literal_spec (R.dl (by decide)) F.gd F.sub X V) fun _ _ r1 g₃ h₃ t₃ G1 o1 => ?_
      subst o1
      replace F := F.call G1
      repeat walk_at "m"
      walk_at "kx"; refine ⟨fun hb2 => ?_, fun hb2 => ?_⟩
      · repeat walk_at "m"
        walk_at "kx"; refine' m_slice (by intro _ _; rfl) ?_
        repeat walk_at "m"
        walk_at "kx"; refine' sl_end F (K.mono G1.up) (by simp; omega) (.int _ _) .none ?_
        try clear F
        intro b h₃ F hb3
        rw [show ((1 : Int)) = ((1 : Nat) : Int) from rfl, pick_from] at F
        have Fz := F.lay hb3
        clear F
        obtain ⟨g₁, up1, IL, F⟩ := Fz
        walk_at "kx"; first | refine kt _ g₁ _ _ ([]) (fun a y e => up1 _ _ (G1.up _ _ e)) F ⟨rfl, ?_⟩ | refine kn g₁ _ _ ([]) (fun a y e => up1 _ _ (G1.up _ _ e)) F ⟨rfl, ?_⟩
        rw [e3, show litP q (p :: ps) = [ps] by rw [litP_eq, hb2, Bool.or_true]; rfl]
        exact (A2.imp fun _ _ z => (z.mono G1.up).mono up1).snoc ⟨_, IL, XS.imp fun _ _ z => (z.mono G1.up).mono up1⟩
      · first | refine kt _ _ _ _ ([]) G1.up F ⟨rfl, ?_⟩ | refine kn _ _ _ ([]) G1.up F ⟨rfl, ?_⟩
        rw [e3, show litP q (p :: ps) = [] by rw [litP_eq, hb, hb2]; rfl, List.append_nil]
        exact A2.imp fun _ _ z => z.mono G1.up
  case done =>
    try clear F
    intro D g' h' t' μ' ys m up hJ hy hD F
    obtain ⟨rfl, A2⟩ := hJ
    have Fz := F.lay hD
    clear F
    obtain ⟨g₁, up1, IL, F⟩ := Fz
    walk_at "kx"; refine ret_ (g₀ := g) F ⟨ys, IL, ?_⟩
    rw [List.take_of_length_le (by omega)] at A2
    exact A2.imp fun _ _ z => z.mono up1
/-! dicts -/
noncomputable def OD {prog : Program} {w : World} {K : Type} [DecidableEq K] (knd : KeyKind prog w K) (o : Obj) (kvs : List (K × Value)) : Prop :=
  ∃ es ep, o.ExactDict ∧ o.data = .dict es ep ∧ KeysOf knd es ∧ Pairs knd es.toList kvs ∧ (kvs.map (·.1)).Nodup
section
variable {prog : Program} {w : World} {A : Around} {E : Value → Shared → Prop} {s : Shared} {env : Env} {U : List Addr} {g₀ g : Kn} {h₀ h : Heap} {L : Addr} {t : Nat} {l : List (Str × Value)} {μ : List (Addr × Obj)}
  {K : Type} [DecidableEq K] {knd : KeyKind prog w K} {o : Obj} {kvs : List (K × Value)} {d : Addr} {k : K} {key : Value}
theorem OD.at (X : OD knd o kvs) (e : h.get? d = some o) : h.DictOf knd d kvs := let ⟨es, ep, r⟩ := X; ⟨o, es, ep, e, r⟩
theorem OD.of (X : h.DictOf knd d kvs) : ∃ o, h.get? d = some o ∧ OD knd o kvs := let ⟨o, es, ep, e, r⟩ := X; ⟨o, e, es, ep, r⟩
theorem sysOk {d : Addr} (h : 549 ≤ d) : (d == sysModules) = false := by
  have : ¬ d = sysModules := fun e => absurd h (by rw [e]; decide)
  simpa using this
theorem d_in {Q : Value → Shared → Prop} (X : h.DictOf knd d kvs) (lo : (d == sysModules) = false) (hk : knd.is k key = true) (hQ : ∀ t', Q (.bool (valueAt kvs k).isSome) (St s h t')) :
    wpAny (model prog w) A (compareOp .In key (.ref d)) Q E (St s h t) := wpAny_in_of (s := St s h t) hk lo X.mapOf (hQ _)
theorem d_notin {Q : Value → Shared → Prop} (X : h.DictOf knd d kvs) (lo : (d == sysModules) = false) (hk : knd.is k key = true) (hQ : ∀ t', Q (.bool (!(valueAt kvs k).isSome)) (St s h t')) :
    wpAny (model prog w) A (compareOp .NotIn key (.ref d)) Q E (St s h t) := wpAny_notIn_of (s := St s h t) hk lo X.mapOf (hQ _)
theorem d_item {value slice : Expr} {v : Value} {Q : Value → Shared → Prop} (X : h.DictOf knd d kvs) (hk : knd.is k key = true) (hv : valueAt kvs k = some v)
    (hs : ∀ a, subscripted slice false (.ref a) key = operate [.ref a, key] (getItem (.ref a) key)) (hQ : ∀ t', Q v (St s h t')) : wpAny (model prog w) A (subscriptTail value slice (.ref d) key) Q E (St s h t) :=
  tail_any (s := St s h t) X.typeIs slot_dict_getitem.lookup (wpAny_getItem_of (s := St s h t) hk X.mapOf hv (hQ _)) (hs d)
theorem d_put {v : Value} {Q : Unit → Shared → Prop} (F : Fm U w g₀ h₀ L g h l ((d, o) :: μ)) (X : OD knd o kvs) (hk : knd.is k key = true) (hz : kvs.length ≤ 2 ^ 20)
    (hQ : ∀ h' o' t', Fm U w g₀ h₀ L g h' l ((d, o') :: μ) → OD knd o' (stored kvs k v) → Q () (St s h' t')) : wpAny (model prog w) A (setItem (.ref d) key v) Q E (St s h t) :=
  wpAny_setItem_pairs (s := St s h t) hk (X.at (F.mu _ (.head _)).1) (fun h' X' hs => by
    obtain ⟨o', e, Y⟩ := OD.of X'
    exact hQ h' o' _ (F.turn hs e) Y) (Nat.le_trans hz (by decide))
theorem d_new {pos : Pos} {Q : Value → Shared → Prop} (F : Fm U w g₀ h₀ L g h l μ) (knd : KeyKind prog w K) (hQ : ∀ a h' o, Fm U w g₀ h₀ L g h' l ((a, o) :: μ) → OD knd o [] → h₀.objs.size ≤ a → Q (.ref a) (St s h' t)) :
    wpAny (model prog w) A (eval (.Dict [] [] pos) env) Q E (St s h t) :=
  wpAny_Dict_empty (s := St s h t) (hQ _ _ _ (F.push _ rfl) ⟨#[], 0, ⟨rfl, rfl, rfl⟩, rfl, fun _ he => by simp at he, Pairs.nil, List.nodup_nil⟩ (Nat.le_trans F.above (Nat.le_of_lt F.lt)))
noncomputable abbrev kPut3 (M : Model) (A : Around) (E : Value → Shared → Prop) (env : Env) (v ov : Value) (rest : List Stmt) (Q : Flow → Shared → Prop) : Value → Shared → Prop := fun iv s => wpAny M A (setItem ov iv v) (kRest M A E env rest Q) E s
noncomputable abbrev kPut2 (M : Model) (A : Around) (E : Value → Shared → Prop) (env : Env) (v : Value) (i : Expr) (rest : List Stmt) (Q : Flow → Shared → Prop) : Value → Shared → Prop := fun ov s => wpAny M A (eval i env) (kPut3 M A E env v ov rest Q) E s
noncomputable abbrev kPut1 (M : Model) (A : Around) (E : Value → Shared → Prop) (env : Env) (o i : Expr) (rest : List Stmt) (Q : Flow → Shared → Prop) : Value → Shared → Prop := fun v s => wpAny M A (eval o env) (kPut2 M A E env v i rest Q) E s
theorem m_putitem {M : Model} {sh : Shared} {o i value : Expr} {pos' pos : Pos} {rest : List Stmt} {Q : Flow → Shared → Prop} (hs : swapsWith value (some (.Subscript o i pos')) pos.line env = pure false)
    (h : wpAny M A (eval value env) (kPut1 M A E env o i rest Q) E sh) : wpAny M A (execs (.Assign [.Subscript o i pos'] value pos :: rest) env) Q E sh :=
  wpAny_execs_cons (wpAny_Assign_Subscript h hs)
theorem it_dict {ov : Obj} {Q : Value → Shared → Prop} (hh : A.handled = none) (F : Fm U w g₀ h₀ L g h l μ) (X : OD knd ov kvs) (e : g d = some ov) (lo : (d == sysModules) = false)
    (k : ∀ I o h' fp T, Fm U w g₀ h₀ L g h' l ((I, o) :: μ) → Itr prog w A I fp kvs.length (fun i x => ∃ k y, kvs[i]? = some (k, y) ∧ knd.is k x = true) T → T 0 h' → (∀ b ∈ fp, b = I ∨ ∃ y, g b = some y) → Q (.ref I) (St s h' t)) :
    wpAny (model prog w) A (pyIter (.ref d)) Q E (St s h t) := by
  obtain ⟨ep, hat⟩ := (X.at (F.sub _ _ e)).dictAt
  have ne : d ≠ h.objs.size := Nat.ne_of_lt (Heap.lt_size (F.sub _ _ e))
  refine wpAny_pyIter_dict (s := St s h t) lo hat ?_
  have F' := F.push { cls := .type "dict_keyiterator", data := .fields #[.ref d, .int 0 0, .int kvs.length 0, .int ep 0] } rfl
  have W := Walks.dictKeys (knd := knd) (A := A) hh h.objs.size d ne kvs ep
  refine k h.objs.size _ _ [h.objs.size, d] _ F' ⟨W, fun i h ⟨⟨o, e, _⟩, _⟩ => ⟨o, e⟩⟩ ⟨⟨_, Heap.get?_push_size _ rfl, rfl, rfl⟩, hat.push _⟩ fun b hb => ?_
  simp only [List.mem_cons, List.not_mem_nil, or_false] at hb
  rcases hb with rfl | rfl
  · exact .inl rfl
  · exact .inr ⟨_, e⟩
theorem ints_of_keys {vs : List Value} {kvs : List (Int × Value)} (hl : vs.length = kvs.length) (hv : ∀ (j : Nat) (v : Value), vs[j]? = some v → ∃ k x, kvs[j]? = some (k, x) ∧ (PySem.intKind prog w).is k v = true) : IntsAre vs (kvs.map (·.1)) := by
  induction vs generalizing kvs with
  | nil => cases kvs with
    | nil => exact .nil
    | cons => cases hl
  | cons v r ih =>
    cases kvs with
    | nil => cases hl
    | cons p q =>
      obtain ⟨k, x, e, hk⟩ := hv 0 v rfl
      simp at e; subst e
      have z : Value.isInt k v = true := hk
      cases v with
      | int n tk =>
        have : n = k := by simpa [Value.isInt] using z
        subst this
        exact .cons _ _ (ih (by simpa using hl) fun j u hu => by simpa using hv (j + 1) u (by simpa using hu))
      | _ => cases z
theorem d_sorted {kvs : List (Int × Value)} {Q : Value → Shared → Prop} (hh : A.handled = none) (F : Fm U w g₀ h₀ L g h l μ) (X : h.DictOf (PySem.intKind prog w) d kvs) (lo : (d == sysModules) = false) (hz : kvs.length < 64)
    (hQ : ∀ a h' t' vs ns n, Fm U w g₀ h₀ L g h' l ((a, listO vs n) :: μ) → h₀.objs.size ≤ a → IntsAre vs ns → ns.Perm (kvs.map (·.1)) → ns.Pairwise (· ≤ ·) → Q (.ref a) (St s h' t')) :
    wpAny (model prog w) A (call (.builtin "sorted") [.ref d]) Q E (St s h t) := by
  obtain ⟨ep, hat⟩ := X.dictAt
  refine call_function_entry kind_sorted plain_sorted entry_sorted (args_sorted1 _) ?_
  unfold Builtin.«sorted»
  refine wpAny_bind (m := checkCount "sorted" 1 1 _) (wpAny_pure ?_)
  refine wpAny_bind (kdu_collect (s := St s h t) (A := A.in1) (kdl_dict (knd := PySem.intKind prog w) (kvs := kvs) (ep := ep) lo) hh hat (Nat.le_trans (Nat.le_of_lt hz) (by decide)) fun h' tk acc hk hacc => ?_)
  have hl : acc.toList.length = kvs.length := by rw [Array.length_toList]; exact hacc.1
  have hI := ints_of_keys (prog := prog) (w := w) hl fun j v e => hacc.2 j v (by rw [← Array.getElem?_toList]; exact e)
  refine wpAny_bind (wpAny_newList ?_ (by rw [hl]; exact Nat.le_trans (Nat.le_of_lt hz) (by decide)))
  have F1 := F.keep hk
  have F2 := F1.push (listO acc.toList 0) rfl
  refine wpAny_bind (wpAny_holding ?_)
  have oD := (F2.mu _ (.head _)).1
  refine wpAny_call_entry slot_list_sort ⟨_, oD, rfl⟩ entry_list_sort (list_sort_tree (n := 0) oD hI (by rw [hl]; exact hz) fun out ns' a1 a2 a3 => ⟨_, rfl, ?_⟩) (args_list_sort _)
  obtain ⟨e1, he1⟩ := sortedHeap_at (vs := acc.toList) (n := 0) (out := out) oD
  have F3 := F2.reTurn (h' := sortedHeap (h'.push (listO acc.toList 0)) h'.objs.size acc.toList out) (o' := listO out.toList e1) (fun b x nb e => by rw [sortedHeap_old nb (Heap.lt_size e)]; exact e) (by rw [he1]; unfold listO seqObj; simp)
  exact wpAny_pure ⟨_, rfl, hQ _ _ _ out.toList ns' e1 F3 (Nat.le_trans F1.above (Nat.le_of_lt F1.lt)) a1 a2 a3⟩
end
/-! what is known of constructors -/
noncomputable def Cn.ar : Cn → Nat
  | .a => 0 | .b => 2 | .pr => 2 | .nil => 0 | .cons => 2
noncomputable def Cn.sibs : Cn → List Cn
  | .a => [.a, .b] | .b => [.a, .b] | .pr => [.pr] | .nil => [.nil, .cons] | .cons => [.nil, .cons]
noncomputable def InfoAt (g : Kn) (v : Value) (ar tag : Int) : Prop := ∃ a x1 x2 x3 x4 x5 t1 t2 t3, v = .ref a ∧ Inst g a 486 [("name", x1), ("tag", .int tag t1), ("arity", .int ar t2), ("stricts", x2), ("type_name", .str "T" t3), ("scheme", x3), ("siblings", x4), ("is_newtype", x5)]
noncomputable def abK (va vb : Value) : List (Str × Value) := [("M.A", va), ("M.B", vb)]
noncomputable def ConsAt (prog : Program) (w : World) (g : Kn) (v : Value) : Prop := ∃ d o va vb, v = .ref d ∧ g d = some o ∧ OD (PySem.strKind prog w) o (abK va vb) ∧ 549 ≤ d ∧ InfoAt g va 0 0 ∧ InfoAt g vb 2 1
noncomputable def KnownAt (prog : Program) (w : World) (g : Kn) (v : Value) : Prop := ∃ a c, v = .ref a ∧ Inst g a 362 [("cons", c)] ∧ ConsAt prog w g c
theorem InfoAt.mono {g g' : Kn} {v : Value} {ar tag : Int} (X : InfoAt g v ar tag) (up : Up g g') : InfoAt g' v ar tag := by
  obtain ⟨a, x1, x2, x3, x4, x5, t1, t2, t3, e, I⟩ := X
  exact ⟨a, x1, x2, x3, x4, x5, t1, t2, t3, e, I.mono up⟩
theorem ConsAt.mono {prog : Program} {w : World} {g g' : Kn} {v : Value} (X : ConsAt prog w g v) (up : Up g g') : ConsAt prog w g' v := by
  obtain ⟨d, o, va, vb, e, a, b, c, x, y⟩ := X
  exact ⟨d, o, va, vb, e, up _ _ a, b, c, x.mono up, y.mono up⟩
theorem KnownAt.mono {prog : Program} {w : World} {g g' : Kn} {v : Value} (X : KnownAt prog w g v) (up : Up g g') : KnownAt prog w g' v := by
  obtain ⟨a, c, e, x, y⟩ := X
  exact ⟨a, c, e, x.mono up, y.mono up⟩
theorem valueAt_ab (va vb : Value) (c : Cn) : valueAt (abK va vb) c.name = match c with | .a => some va | .b => some vb | _ => none := by induction c <;> rfl
noncomputable def biK : List (Str × Value) := [("[]", .int 0 542), (":", .int 2 543), ("()", .int 0 544)]
theorem builtin_at {prog : Program} {w : World} {h : Heap} (K : (K0 w.params).In h) : h.DictOf (PySem.strKind prog w) 291 biK := by
  refine ⟨_, _, _, K 291 _ (by k_is), ⟨rfl, rfl, rfl⟩, rfl, ?_, ?_, by decide⟩
  · intro e he
    simp only [List.mem_toArray, List.mem_cons, List.not_mem_nil, or_false] at he
    rcases he with rfl | rfl | rfl
    · exact ⟨"[]", rfl, by kernel_rfl⟩
    · exact ⟨":", rfl, by kernel_rfl⟩
    · exact ⟨"()", rfl, by kernel_rfl⟩
  · exact .cons rfl rfl (.cons rfl rfl (.cons rfl rfl .nil))
theorem arity_spec {prog : Program} {w : World} {A : Around} {s : Shared} {g : Kn} {h : Heap} {t : Nat} {kv : Value} {c : Cn} {tk : Tok} (R : Room A 10) (gd : Gd w g) (sub : Sub g h)
    (Kn : KnownAt prog w g kv) : wpAny (model prog w) A (call (.ref 347) [kv, .str c.name tk]) (Ret [] g s h (fun _ _ r => ∃ u, r = .int c.ar u)) NoE (St s h t) := by
  refine' m_enter [("name", .str c.name tk), ("self", kv)] gd sub ?ho ?hcd ?hroom ?hbind ?hloc ?hcell ?hco ?hgen ?hk ?hb
  walk_at "enter"
  try clear F
  intro L h₁ t₁ F
  refine' hideF ?_
  intro _ _
  obtain ⟨ka, cv, rfl, KI, d, o, va, vb, rfl, gdd, X, lo, IA, IB⟩ := Kn
  repeat walk_at "m"
  walk_at "kx"; refine' m_getattr F KI rfl (List.all_eq_true.mp clsOk _ (by decide)) (fine_constructors.a _ (by repeat constructor)) rfl ?_
  intro t₂
  walk_at "kx"; refine' d_in (X.at (F.sub _ _ gdd)) (sysOk lo) (k := c.name) (by simp [PySem.strKind, Value.isStrOf]) ?_
  intro t₃
  rw [valueAt_ab]
  repeat walk_at "m"
  walk_at "kx"; refine ⟨fun hb => ?_, fun hb => ?_⟩
  · repeat walk_at "m"
    walk_at "kx"; refine' m_getattr F KI rfl (List.all_eq_true.mp clsOk _ (by decide)) (fine_constructors.a _ (by repeat constructor)) rfl ?_
    intro t₄
    repeat walk_at "m"
    have hv : ∃ v, valueAt (abK va vb) c.name = some v ∧ InfoAt g v c.ar (if c = .a then 0 else 1) := by
      rw [valueAt_ab]
      (revert hb; generalize c = c; induction c <;> intro hb <;> first | exact ⟨_, rfl, IA⟩ | exact ⟨_, rfl, IB⟩ | exact Bool.noConfusion hb)
    obtain ⟨v, hv, a, x1, x2, x3, x4, x5, t1, t2, t3, rfl, I⟩ := hv
    walk_at "kx"; refine' d_item (X.at (F.sub _ _ gdd)) (k := c.name) (by simp [PySem.strKind, Value.isStrOf]) hv (by intro _; with_unfolding_all rfl) ?_
    intro t₅
    walk_at "kx"; refine' m_getattr F I rfl (List.all_eq_true.mp clsOk _ (by decide)) (fine_coninfo.a _ (by repeat constructor)) rfl ?_
    intro t₆
    walk_at "kx"; exact ret_ F ⟨_, rfl⟩
  · have hc : c ≠ .a ∧ c ≠ .b := by (revert hb; generalize c = c; induction c <;> intro hb <;> first | exact Bool.noConfusion hb | exact ⟨by decide, by decide⟩)
    repeat walk_at "m"
    walk_at "kx"; refine ⟨F.k, ?_⟩
    walk_at "kx"; refine m_use (is_tuple_name_spec hc (R.dl (by decide)) F.gd F.sub) fun _ _ r g₁ h₂ t₂ G o => ?_
    subst o
    replace F := F.call G
    repeat walk_at "m"
    walk_at "kx"; refine ⟨fun hb => ?_, fun hb => ?_⟩
    · have : c = .pr := by simpa using hb
      subst this
      repeat walk_at "m"
      walk_at "kx"; refine' s_len (by decide) ?_
      intro _ _
      repeat walk_at "m"
      walk_at "kx"; exact ret_ F ⟨_, rfl⟩
    · repeat walk_at "m"
      have hv : ∃ v u, valueAt biK c.name = some v ∧ v = .int c.ar u := by
        (revert hc hb; generalize c = c; induction c <;> intro hc hb <;> first | exact ⟨_, _, rfl, rfl⟩ | exact absurd rfl hc.1 | exact absurd rfl hc.2 | exact Bool.noConfusion hb)
      obtain ⟨v, u, hv, rfl⟩ := hv
      walk_at "kx"; refine' d_item (builtin_at (prog := prog) F.k) (k := c.name) (by simp [PySem.strKind, Value.isStrOf]) hv (by intro _; with_unfolding_all rfl) ?_
      intro t₅
      walk_at "kx"; exact ret_ F ⟨_, rfl⟩

theorem perm01 {ns : List Int} (p : ns.Perm [0, 1]) (q : ns.Pairwise (· ≤ ·)) : ns = [0, 1] := by
  have hl := p.length_eq
  match ns, hl with
  | [x, y], _ =>
    have hx : x ∈ [(0 : Int), 1] := p.subset (.head _)
    have hy : y ∈ [(0 : Int), 1] := p.subset (.tail _ (.head _))
    have h0 : (0 : Int) ∈ [x, y] := p.symm.subset (.head _)
    have h1 : (1 : Int) ∈ [x, y] := p.symm.subset (.tail _ (.head _))
    have le : x ≤ y := by simpa using q
    simp only [List.mem_cons, List.not_mem_nil, or_false] at hx hy h0 h1
    have e1 : x = 0 := by omega
    have e2 : y = 1 := by omega
    rw [e1, e2]
noncomputable def tagP (p : Int × Value) (q : Int × Cn) : Prop := p.1 = q.1 ∧ StrsAt p.2 q.2
theorem eq_two {A : Around} {s : Shared} {c : Cn} {u1 u2 u3 : Tok} : ∀ y, y ∈ [Value.str "[]" u1, .str ":" u2] → SeqAt.EqAt A s y (.str c.name u3) (isName c y) := by
  intro y hy
  simp only [List.mem_cons, List.not_mem_nil, or_false] at hy
  rcases hy with rfl | rfl <;> exact SeqAt.EqAt.str_str _ _ _ _

theorem siblings_spec {prog : Program} {w : World} {A : Around} {s : Shared} {g : Kn} {h : Heap} {t : Nat} {kv : Value} {c : Cn} {tk : Tok} (R : Room A 10) (gd : Gd w g) (sub : Sub g h)
    (Kn : KnownAt prog w g kv) : wpAny (model prog w) A (call (.ref 359) [kv, .str c.name tk]) (Ret [] g s h (fun g' _ r => ∃ vs, IsL g' r vs ∧ All2 StrsAt vs c.sibs)) NoE (St s h t) := by
  refine' m_enterX (μ := []) [("name", .str c.name tk), ("self", kv)] [] gd sub (by simp) (by simp) ?ho ?hcd ?hroom ?hbind ?hkind ?hl ?hcs ?hco ?hgen ?hk ?hb
  case ho => k_is
  case hcd => k_is
  case hroom => have hR := R.d; omega
  case hbind => exact rfl
  case hkind => exact rfl
  case hl => exact rfl
  case hcs => exact rfl
  case hco => exact rfl
  case hgen => exact rfl
  case hk => exact rfl
  try clear F
  intro L h₁ t₁ F hc hg
  refine' hideF ?_
  intro _ _
  have c1 := hc "found" (L + 1) rfl
  have Fz := F.addcell c1 (Nat.lt_succ_self _) (hg _ (Nat.lt_succ_self _)).1 (by simp)
  clear F
  obtain ⟨o1, d1, F⟩ := Fz
  obtain ⟨ka, cv, rfl, KI, d, o, va, vb, rfl, gdd, X, lo, IA, IB⟩ := Kn
  repeat walk_at "m"
  walk_at "kx"; refine' m_getattr F KI rfl (List.all_eq_true.mp clsOk _ (by decide)) (fine_constructors.a _ (by repeat constructor)) rfl ?_
  intro t₂
  walk_at "kx"; refine' d_notin (X.at (F.sub _ _ gdd)) (sysOk lo) (k := c.name) (by simp [PySem.strKind, Value.isStrOf]) ?_
  intro t₃
  rw [valueAt_ab]
  repeat walk_at "m"
  walk_at "kx"; refine ⟨fun hb => ?_, fun hb => ?_⟩
  · repeat walk_at "m"
    walk_at "kx"; refine' m_newtuple F (Nat.le_of_ble_eq_true rfl) ?_
    try clear F
    intro a h₂ F ha
    walk_at "kx"; refine' t_in (isName c) ⟨a, rfl, ⟨_, (F.mu _ (.head _)).1, rfl, _, rfl⟩⟩ eq_two ?_
    replace F := F.drop
    repeat walk_at "m"
    walk_at "kx"; refine ⟨fun hb2 => ?_, fun hb2 => ?_⟩
    · repeat walk_at "m"
      walk_at "kx"; refine' m_newlist F (Nat.le_of_ble_eq_true rfl) ?_
      try clear F
      intro b h₃ F hb3
      have Fz := F.lay hb3
      clear F
      obtain ⟨g₁, up1, IL, F⟩ := Fz
      walk_at "kx"; refine ret_ F ⟨_, IL, ?_⟩
      have e : c.sibs = [.nil, .cons] := by (revert hb hb2; generalize c = c; induction c <;> intro hb hb2 <;> first | rfl | exact Bool.noConfusion hb | exact absurd hb2 (by decide))
      rw [e]
      exact .cons ⟨_, rfl⟩ (.cons ⟨_, rfl⟩ .nil)
    · repeat walk_at "m"
      walk_at "kx"; refine' m_newlist F (Nat.le_of_ble_eq_true rfl) ?_
      try clear F
      intro b h₃ F hb3
      have Fz := F.lay hb3
      clear F
      obtain ⟨g₁, up1, IL, F⟩ := Fz
      walk_at "kx"; refine ret_ F ⟨_, IL, ?_⟩
      have e : c.sibs = [c] := by (revert hb hb2; generalize c = c; induction c <;> intro hb hb2 <;> first | rfl | exact Bool.noConfusion hb | exact absurd hb2 (by decide))
      rw [e]
      exact .cons ⟨_, rfl⟩ .nil
  · have hcv : ∃ v, valueAt (abK va vb) c.name = some v ∧ ∃ ar tag, InfoAt g v ar tag := by
      rw [valueAt_ab]
      (revert hb; generalize c = c; induction c <;> intro hb <;> first | exact ⟨_, rfl, _, _, IA⟩ | exact ⟨_, rfl, _, _, IB⟩ | exact Bool.noConfusion hb)
    have hcs : c.sibs = [.a, .b] := by (revert hb; generalize c = c; induction c <;> intro hb <;> first | rfl | exact Bool.noConfusion hb)
    obtain ⟨cvv, hcv, ar0, tag0, ac, y1, y2, y3, y4, y5, s1, s2, s3, rfl, IC⟩ := hcv
    repeat walk_at "m"
    walk_at "kx"; refine' d_new F (PySem.intKind prog w) ?_
    try clear F
    intro D h₂ od F XD hD
    walk_at "kx"; refine' m_storeC F.swap d1 rfl rfl rfl ?_
    try clear F
    intro h₃ oc dc F
    have hLL := F.above
    have Fz := F.freeze (Nat.le_trans hLL (Nat.le_succ L))
    clear F
    obtain ⟨g₁, up1, KC, _, F⟩ := Fz
    have XC : CellK g₁ (L + 1) (some (.ref D)) := ⟨oc, KC, dc⟩
    replace KI := KI.mono up1
    replace IA := IA.mono up1
    replace IB := IB.mono up1
    replace IC := IC.mono up1
    have gdd := up1 _ _ gdd
    repeat walk_at "m"
    walk_at "kx"; refine' m_getattr F KI rfl (List.all_eq_true.mp clsOk _ (by decide)) (fine_constructors.a _ (by repeat constructor)) rfl ?_
    intro t₄
    walk_at "kx"; refine' it_dict R.hh F X gdd (sysOk lo) ?_
    try clear F
    intro I o h₂ fp T F It T0 hfp
    walk_at "kx"; refine' for_run It F T0 hfp ?hx rfl rfl (fun i g' l' μ' => (l' = ([("name", .str c.name tk), ("self", .ref ka)] : List (Str × Value)) ∨ ∃ u, l' = ([("other", u), ("name", .str c.name tk), ("self", .ref ka)] : List (Str × Value))) ∧
      ∃ o' ps, μ' = [(D, o')] ∧ OD (PySem.intKind prog w) o' ps ∧ All2 tagP ps (([(0, .a), (1, .b)] : List (Int × Cn)).take i)) ⟨.inl rfl, od, [], rfl, XD, .nil⟩ ?turn ?done
    case hx => exact rfl
    case turn =>
      try clear F
      intro i v' g' h' t' l' μ' o' hi hP up hJ F Kp kn kr
      obtain ⟨hl', o2, ps, rfl, XP, A2⟩ := hJ
      replace F : Fm _ _ _ _ _ _ _ (([("other", v'), ("name", .str c.name tk), ("self", .ref ka)] : List (Str × Value))) _ := F.relook fun y => by
        rcases hl' with rfl | ⟨u, rfl⟩
        · rfl
        · exact lk_shadow y
      obtain ⟨k, y, hk, hs⟩ := hP
      have hi2 : i < 2 := hi
      have hinfo : ∃ c' : Cn, k = c'.name ∧ valueAt (abK va vb) k = some y ∧ (∃ ar, InfoAt g₁ y ar i) ∧ ([(0, .a), (1, .b)] : List (Int × Cn)).take (i + 1) = ([(0, .a), (1, .b)] : List (Int × Cn)).take i ++ [((i : Int), c')] ∧ stored ps (i : Int) v' = ps ++ [((i : Int), v')] := by
        match i, hi2 with
        | 0, _ =>
          simp [abK] at hk
          obtain ⟨rfl, rfl⟩ := hk
          cases A2
          exact ⟨.a, rfl, rfl, ⟨_, IA⟩, rfl, rfl⟩
        | 1, _ =>
          simp [abK] at hk
          obtain ⟨rfl, rfl⟩ := hk
          cases A2 with
          | cons a r =>
            cases r
            refine ⟨.b, rfl, rfl, ⟨_, IB⟩, rfl, ?_⟩
            unfold stored
            rw [if_neg (by simp [a.1])]
      obtain ⟨c', rfl, hval, ⟨ar, ao, x1, x2, x3, x4, x5, q1, q2, q3, rfl, IO⟩, htake, hst⟩ := hinfo
      obtain ⟨u, rfl⟩ := Value.isStrOf_shape hs
      have gdd := up _ _ gdd
      replace KI := KI.mono up
      replace IO := IO.mono up
      replace IC := IC.mono up
      have hps : ps.length ≤ 2 ^ 20 := by have := A2.length; simp at this; omega
      repeat walk_at "m"
      walk_at "kx"; refine' m_getattr F KI rfl (List.all_eq_true.mp clsOk _ (by decide)) (fine_constructors.a _ (by repeat constructor)) rfl ?_
      intro t₅
      repeat walk_at "m"
      walk_at "kx"; refine' d_item (X.at (F.sub _ _ gdd)) (k := c'.name) hs hval (by intro _; with_unfolding_all rfl) ?_
      intro t₆
      walk_at "kx"; refine' m_getattr F IO rfl (List.all_eq_true.mp clsOk _ (by decide)) (fine_coninfo.a _ (by repeat constructor)) rfl ?_
      intro t₇
      repeat walk_at "m"
      walk_at "kx"; refine' m_getattr F KI rfl (List.all_eq_true.mp clsOk _ (by decide)) (fine_constructors.a _ (by repeat constructor)) rfl ?_
      intro t₅
      repeat walk_at "m"
      walk_at "kx"; refine' d_item (X.at (F.sub _ _ gdd)) (k := c.name) (by simp [PySem.strKind, Value.isStrOf]) hcv (by intro _; with_unfolding_all rfl) ?_
      intro t₆
      walk_at "kx"; refine' m_getattr F IC rfl (List.all_eq_true.mp clsOk _ (by decide)) (fine_coninfo.a _ (by repeat constructor)) rfl ?_
      intro t₇
      repeat walk_at "m"
      walk_at "kx"; refine ⟨fun _ => ?_, fun e => absurd e (by decide)⟩
      walk_at "kx"; refine' m_putitem rfl ?_
      repeat walk_at "m"
      walk_at "kx"; refine' m_cell F (XC.mono up) rfl rfl rfl rfl ?_
      repeat walk_at "m"
      walk_at "kx"; refine' m_getattr F KI rfl (List.all_eq_true.mp clsOk _ (by decide)) (fine_constructors.a _ (by repeat constructor)) rfl ?_
      intro t₅
      repeat walk_at "m"
      walk_at "kx"; refine' d_item (X.at (F.sub _ _ gdd)) (k := c'.name) hs hval (by intro _; with_unfolding_all rfl) ?_
      intro t₆
      walk_at "kx"; refine' m_getattr F IO rfl (List.all_eq_true.mp clsOk _ (by decide)) (fine_coninfo.a _ (by repeat constructor)) rfl ?_
      intro t₇
      walk_at "kx"; refine' d_put F.swap XP (k := (i : Int)) (by simp [PySem.intKind, Value.isInt]) hps ?_
      try clear F
      intro h₈ o₈ t₈ F XP
      rw [hst] at XP
      repeat walk_at "m"
      walk_at "kx"; refine kn g' _ _ _ _ (fun _ _ e => e) F.swap ⟨.inr ⟨_, rfl⟩, o₈, _, rfl, XP, ?_⟩
      rw [htake]
      exact A2.snoc ⟨rfl, u, rfl⟩
    case done =>
      try clear F
      intro g' h' t' l' μ' up hJ F
      obtain ⟨hl', o2, ps, rfl, XP, A2⟩ := hJ
      have hk2 : ps.map (·.1) = [0, 1] := by
        cases A2 with
        | cons a r => cases r with
          | cons b r => cases r; simp [a.1, b.1]
      have hps : ps.length < 64 := by have := A2.length; simp at this; omega
      have hval : ∀ i : Nat, i < 2 → ∃ v c', valueAt ps (i : Int) = some v ∧ [Cn.a, .b].take (i + 1) = [Cn.a, .b].take i ++ [c'] ∧ StrsAt v c' := by
        intro i hi
        cases A2 with
        | @cons p1 _ _ _ a r => cases r with
          | @cons p2 _ _ _ b r =>
            cases r
            match i, hi with
            | 0, _ => exact ⟨p1.2, .a, by simp [valueAt, a.1], rfl, a.2⟩
            | 1, _ => exact ⟨p2.2, .b, by simp [valueAt, a.1, b.1], rfl, b.2⟩
      obtain ⟨junk, F⟩ : ∃ junk, Fm _ _ _ _ _ g' h' (("name", .str c.name tk) :: ("self", .ref ka) :: junk) [(D, o2)] := by
        rcases hl' with rfl | ⟨u, rfl⟩
        · exact ⟨[], F⟩
        · exact ⟨[("other", u)], F.relook fun y => lk_tail [("name", .str c.name tk), ("self", .ref ka)] rfl y⟩
      have Fz := F.freeze hD
      clear F
      obtain ⟨g₂, up2, KD, _, F⟩ := Fz
      repeat walk_at "m"
      walk_at "kx"; refine' m_cell F ((XC.mono up).mono up2) rfl rfl rfl rfl ?_
      repeat walk_at "m"
      walk_at "kx"; refine' d_sorted R.hh F (XP.at (F.sub _ _ KD)) (sysOk (Nat.le_trans F.lo hD)) hps ?_
      try clear F
      intro a2 h₅ t₅ vs ns n F ha2 hI hp hq
      rw [hk2] at hp
      have := perm01 hp hq
      subst this
      have Fz := F.lay ha2
      clear F
      obtain ⟨g₃, up3, IL, F⟩ := Fz
      have hvl : vs.length = 2 := by cases hI with | cons _ _ r => cases r with | cons _ _ r => cases r; rfl
      have hvi : ∀ (i : Nat) v, vs[i]? = some v → ∃ t, v = .int i t := by
        intro i v e
        cases hI with
        | cons n1 t1 r => cases r with
          | cons n2 t2 r =>
            cases r
            match i with
            | 0 => simp at e; exact ⟨_, e.symm⟩
            | 1 => simp at e; exact ⟨_, e.symm⟩
            | i + 2 => simp at e
      walk_at "kx"; refine' it_list R.hh F IL ?_
      try clear F
      intro I o h₂ fp T F It T0 hfp
      walk_at "kx"; refine' comp_val (μm := []) (μr := []) It (by omega) F T0 hfp ?hcell ?hkind ?hx (fun i g' μ' ys => μ' = [] ∧ All2 StrsAt ys ([Cn.a, .b].take i)) ⟨rfl, .nil⟩ ?turn ?hJ ?done2
      case hcell => decide
      case hkind => exact rfl
      case hx => exact rfl
      case hJ => intro i g' μ' ys h; rw [h.1]
      case turn =>
        try clear F
        intro C D' i v g4 h' t' μ' ys m o' hi hP up4 hJ hC F KT KN kt kn
        obtain ⟨rfl, B2⟩ := hJ
        obtain ⟨tt, rfl⟩ := hvi i v hP
        obtain ⟨v2, c', hv2, htk, hs2⟩ := hval i (by omega)
        refine ifs_nil ⟨fun _ => ?_, fun e => Bool.noConfusion e⟩
        repeat walk_at "m"
        walk_at "kx"; refine' m_cell F ((((XC.mono up).mono up2).mono up3).mono up4) rfl rfl rfl rfl ?_
        repeat walk_at "m"
        walk_at "kx"; refine' d_item (XP.at (F.sub _ _ (up4 _ _ (up3 _ _ KD)))) (k := (i : Int)) (by simp [PySem.intKind, Value.isInt]) hv2 (by intro _; with_unfolding_all rfl) ?_
        intro t₆
        walk_at "kx"; first | refine kt _ g4 _ _ ([]) (fun _ _ e => e) F ⟨rfl, ?_⟩ | refine kn g4 _ _ ([]) (fun _ _ e => e) F ⟨rfl, ?_⟩
        rw [htk]
        exact B2.snoc hs2
      case done2 =>
        try clear F
        intro D' g4 h' t' μ' ys m up4 hJ hy hD4 F
        obtain ⟨rfl, B2⟩ := hJ
        have Fz := F.lay hD4
        clear F
        obtain ⟨g₅, up5, IL5, F⟩ := Fz
        walk_at "kx"; refine ret_ F ⟨ys, IL5, ?_⟩
        rw [hcs]
        rw [hvl] at B2
        exact B2
noncomputable def litOf (r : List Pat) : List Pat := match r with
  | p :: _ => if p.cls == 126 then [p] else []
  | [] => []
noncomputable def litsOf (rows : List (List Pat)) : List Pat := rows.flatMap litOf
theorem litOf_eq {p : Pat} {ps : List Pat} : litOf (p :: ps) = if (p.cls == 126) = true then [p] else [] := rfl
theorem chr_call {prog : Program} {w : World} {A : Around} {E : Value → Shared → Prop} {s : Shared} {h : Heap} {t : Nat} {c : Nat} {u : Tok} {Q : Value → Shared → Prop} (hc : c ≤ 1000) (hQ : ∀ tk t', Q (.str (strOf [c]) tk) (St s h t')) :
    wpAny (model prog w) A (call (.builtin "chr") [.int (c : Int) u]) Q E (St s h t) :=
  chr_of_range (s := St s h t) (by omega) (by omega) (by
    have e : (⟨#[(c : Int).toNat]⟩ : Str) = strOf [c] := by simp [strOf]
    rw [e]; exact hQ _ _)
noncomputable def eqV (x : Value) (y : Value) : Bool := match x, y with
  | .int i _, .int j _ => j == i
  | .str a _, .str b _ => b == a
  | _, _ => false
theorem any_lits {ws : List Value} {ls : List Pat} (H : All2 LitV ws ls) {x : Value} {q : Pat} (V : LitV x q) : ws.any (eqV x) = true ↔ q ∈ ls := by
  induction H with
  | nil => simp
  | @cons v p _ _ a _ ih =>
    rw [List.any_cons, Bool.or_eq_true, ih, List.mem_cons]
    have : eqV x v = true ↔ q = p := by
      cases V <;> cases a
      · rename_i i _ j _
        show (j == i) = true ↔ Pat.int i = Pat.int j
        rw [beq_iff_eq]
        exact ⟨fun e => by rw [e], fun e => by injection e with e; exact e.symm⟩
      · exact ⟨fun e => Bool.noConfusion e, fun e => by cases e⟩
      · exact ⟨fun e => Bool.noConfusion e, fun e => by cases e⟩
      · rename_i c _ d _
        show (strOf [d] == strOf [c]) = true ↔ Pat.chr c = Pat.chr d
        rw [strOf_beq1, beq_iff_eq]
        exact ⟨fun e => by rw [e], fun e => by injection e with e; exact e.symm⟩
    rw [this]
theorem eq_lits {A : Around} {s : Shared} {ws : List Value} {ls : List Pat} (H : All2 LitV ws ls) {x : Value} {q : Pat} (V : LitV x q) (hk : ∀ p ∈ ls, kindOf p = kindOf q) : ∀ y, y ∈ ws → SeqAt.EqAt A s y x (eqV x y) := by
  induction H with
  | nil => intro y hy; cases hy
  | @cons v p _ _ a _ ih =>
    intro y hy
    rcases List.mem_cons.mp hy with rfl | hy
    · have k := hk p (.head _)
      cases V <;> cases a
      · exact SeqAt.EqAt.int_int _ _ _ _
      · exact absurd k (by show ¬ (("char" : Str) = "int"); decide)
      · exact absurd k (by show ¬ (("int" : Str) = "char"); decide)
      · exact SeqAt.EqAt.str_str _ _ _ _
    · exact ih (fun p hp => hk p (.tail _ hp)) y hy
noncomputable def okLit (isInt : Bool) (p : Pat) : Prop := match isInt, p with
  | true, .int i => i = 0 ∨ i = 1
  | false, .chr c => c = 97 ∨ c = 98
  | _, _ => False
noncomputable def litAt (isInt : Bool) (k : Nat) : Pat := if isInt then .int k else .chr (97 + k)

theorem other_literal_spec {prog : Program} {w : World} {A : Around} {s : Shared} {g : Kn} {h : Heap} {t : Nat} {v : Value} {rows : List (List Pat)} (b : Bool) (R : Room A 12) (gd : Gd w g) (sub : Sub g h)
    (H : RowsAt g v rows) (hS : Sized rows) (hL : ∀ p ∈ litsOf rows, okLit b p) (hne : litsOf rows ≠ []) :
    wpAny (model prog w) A (call (.ref 412) [v]) (Ret [] g s h (fun g' _ r => ∃ k, k ≤ 2 ∧ litAt b k ∉ litsOf rows ∧ PatAt g' r (litAt b k))) NoE (St s h t) := by
  refine' m_enter [("rows", v)] gd sub ?ho ?hcd ?hroom ?hbind ?hloc ?hcell ?hco ?hgen ?hk ?hb
  walk_at "enter"
  try clear F
  intro L h₁ t₁ F
  refine' hideF ?_
  intro _ _
  obtain ⟨vs, J, P⟩ := H
  have hl := P.length
  repeat walk_at "m"
  walk_at "kx"; refine' it_list R.hh F J ?_
  try clear F
  intro I o h₂ fp T F It T0 hfp
  walk_at "kx"; refine' comp_asg (μm := []) (μr := []) It (by have := hS.1; omega) F T0 hfp ?hcell ?hkind ?hx ?hkk rfl ?hy (fun i g' μ' ys => μ' = [] ∧ All2 (PatAt g') ys (litsOf (rows.take i))) ⟨rfl, .nil⟩ ?turn ?hJ ?done
  case hcell => decide
  case hkind => exact rfl
  case hkk => exact rfl
  case hy => exact rfl
  case hx => exact rfl
  case hJ => intro i g' μ' ys h; rw [h.1]
  case turn =>
    try clear F
    intro C D i v g' h' t' μ' ys m o' hi hP up hJ hC F KT KN kt kn
    obtain ⟨rfl, A2⟩ := hJ
    obtain ⟨p, ps, x, xs, e2, K, X, XS, hps, hxs, hpf⟩ := row_at P hS hP up
    have e3 : litsOf (rows.take (i + 1)) = litsOf (rows.take i) ++ litOf (p :: ps) := flatMap_snoc e2
    refine ifs_one ?_
    repeat walk_at "m"
    walk_at "kx"; refine' l_item F K (by decide) (by simp <;> omega) rfl (by intro _; with_unfolding_all rfl) ?_
    repeat walk_at "m"
    walk_at "kx"; refine' m_isiP F X (by decide) ?_; intro t₂
    repeat walk_at "m"
    walk_at "kx"; refine ⟨fun hb => ?_, fun hb => ?_⟩
    · repeat walk_at "m"
      walk_at "kx"; refine' l_item F K (by decide) (by simp <;> omega) rfl (by intro _; with_unfolding_all rfl) ?_
      walk_at "kx"; first | refine kt _ g' _ _ ([]) (fun _ _ e => e) F ⟨rfl, ?_⟩ | refine kn g' _ _ ([]) (fun _ _ e => e) F ⟨rfl, ?_⟩
      rw [e3, litOf_eq, if_pos hb]
      exact A2.snoc X
    · walk_at "kx"; first | refine kt _ g' _ _ ([]) (fun _ _ e => e) F ⟨rfl, ?_⟩ | refine kn g' _ _ ([]) (fun _ _ e => e) F ⟨rfl, ?_⟩
      rw [e3, litOf_eq, if_neg (by rw [hb]; exact Bool.false_ne_true), List.append_nil]
      exact A2
  case done =>
    try clear F
    intro D g' h' t' μ' ys m up hJ hy hD F
    obtain ⟨rfl, A2⟩ := hJ
    have Fz := F.lay hD
    clear F
    obtain ⟨g₁, up1, IL, F⟩ := Fz
    rw [List.take_of_length_le (by omega)] at A2
    replace A2 := A2.imp fun _ _ z => z.mono up1
    have hl2 := A2.length
    have hys : ys.length ≤ 1000 := by have := hS.1; omega
    repeat walk_at "m"
    walk_at "kx"; refine' it_list R.hh F IL ?_
    try clear F
    intro I o h₂ fp T F It T0 hfp
    walk_at "kx"; refine' comp_asg (μm := []) (μr := []) It (by omega) F T0 hfp ?hcell ?hkind ?hx ?hkk rfl ?hy (fun i g' μ' ys => μ' = [] ∧ All2 LitV ys ((litsOf rows).take i)) ⟨rfl, .nil⟩ ?turn2 ?hJ ?done2
    case hcell => decide
    case hkind => exact rfl
    case hkk => exact rfl
    case hy => exact rfl
    case hx => exact rfl
    case hJ => intro i g' μ' ys h; rw [h.1]
    case turn2 =>
      try clear F
      intro C D2 i v g2 h' t' μ' zs m o' hi hP up2 hJ hC F KT KN kt kn
      obtain ⟨rfl, B2⟩ := hJ
      obtain ⟨p, e2, X⟩ := A2.get hP
      replace X := X.mono up2
      have hp := hL p (List.mem_of_getElem? e2)
      have hc : p.cls = 126 := by cases b <;> induction p <;> first | rfl | exact hp.elim
      obtain ⟨a, kt, x, rfl, II, VV⟩ := X.lit hc
      have V : LitV x p := by
        rcases VV with V | ⟨cs, rfl⟩
        · exact V
        · cases b <;> exact hp.elim
      refine ifs_nil ⟨fun _ => ?_, fun e => Bool.noConfusion e⟩
      repeat walk_at "m"
      walk_at "kx"; refine' m_getattr F II rfl (patCls_ok (by decide)) (fine_lit.a _ (by repeat constructor)) (by cases V <;> rfl) ?_
      intro t₄
      walk_at "kx"; first | refine kt _ g2 _ _ ([]) (fun _ _ e => e) F ⟨rfl, ?_⟩ | refine kn g2 _ _ ([]) (fun _ _ e => e) F ⟨rfl, ?_⟩
      rw [take_snoc e2]
      exact B2.snoc V
    case done2 =>
      try clear F
      intro D2 g2 h' t' μ' zs m up2 hJ hy2 hD2 F
      obtain ⟨rfl, B2⟩ := hJ
      have Fz := F.lay hD2
      clear F
      obtain ⟨g₃, up3, IL3, F⟩ := Fz
      rw [List.take_of_length_le (by omega)] at B2
      replace IL := (IL.mono up2).mono up3
      replace A2 := A2.imp fun _ _ z => (z.mono up2).mono up3
      have hcons : ∃ y0 yr l0 lr, ys = y0 :: yr ∧ litsOf rows = l0 :: lr ∧ PatAt g₃ y0 l0 := by
        cases hq : litsOf rows with
        | nil => exact absurd hq hne
        | cons l0 lr =>
          rw [hq] at A2
          cases A2 with
          | cons a r => exact ⟨_, _, _, _, rfl, rfl, a⟩
      obtain ⟨y0, yr, l0, lr, rfl, hq, X0⟩ := hcons
      have hp0 := hL l0 (by rw [hq]; exact .head _)
      have hc0 : l0.cls = 126 := by cases b <;> induction l0 <;> first | rfl | exact hp0.elim
      obtain ⟨a0, kt0, x0, rfl, I0, -⟩ := X0.lit hc0
      repeat walk_at "m"
      rename Fm _ _ _ _ _ _ _ _ _ => F
      walk_at "kx"; refine' l_item F IL (by decide) (by decide) rfl (by intro _; with_unfolding_all rfl) ?_
      walk_at "kx"; refine' m_getattr F I0 rfl (patCls_ok (by decide)) (fine_lit.a _ (by repeat constructor)) rfl ?_
      intro t₄
      repeat walk_at "m"
      have hkind : ∀ k p, p ∈ litsOf rows → kindOf p = kindOf (litAt b k) := by
        intro k p hp
        have := hL p hp
        cases b <;> (revert this; generalize p = p; induction p <;> intro this <;> first | rfl | exact this.elim)
      have hstep : ∀ k, litAt b k ∈ litsOf rows → k + 1 ≤ 2 := by
        intro k hm
        have := hL _ hm
        cases b
        · have : 97 + k = 97 ∨ 97 + k = 98 := this
          omega
        · have : (k : Int) = 0 ∨ (k : Int) = 1 := this
          omega
      walk_at "kx"; refine ⟨fun hb => ?_, fun hb => ?_⟩
      · have : b = true := by
          cases b
          · induction l0 <;> first | exact hp0.elim | exact absurd hb (by show ¬ (("char" : Str) == "int") = true; decide)
          · rfl
        subst this
        refine m_while (fun n s' => ∃ h' t' tk k, s' = St s h' t' ∧ Fm [] w g h L g₃ h' [("number", .int ((k : Nat) : Int) tk), ("values", .ref D2), ("told", .ref D), ("rows", v)] [] ∧ k ≤ 2 ∧ n = 3 - k) ?_ 3 ⟨_, _, _, 0, rfl, by assumption, by decide, rfl⟩
        rintro n s' ⟨h', t', tk, k, rfl, F, hk, rfl⟩
        intro Kp kn kr
        repeat walk_at "m"
        walk_at "kx"; refine' l_in (eqV (.int (k : Int) tk)) (IL3.list F) (eq_lits B2 (LitV.int (i := (k : Int))) (hkind k)) ?_
        repeat walk_at "m"
        walk_at "kx"; refine ⟨fun hb2 => ?_, fun hb2 => ?_⟩
        · have hm := (any_lits B2 (LitV.int (i := (k : Int)))).mp hb2
          have h2 := hstep k hm
          repeat walk_at "m"
          rename Fm _ _ _ _ _ _ _ _ _ => F
          refine kn (3 - (k + 1)) _ (by omega) ⟨_, _, _, k + 1, rfl, F.relook lk_shadow, h2, rfl⟩
        · have hm : ¬ litAt true k ∈ litsOf rows := fun q => by
            have := (any_lits B2 (LitV.int (i := (k : Int)) (t := tk))).mpr q
            rw [this] at hb2; exact Bool.noConfusion hb2
          repeat walk_at "m"
          walk_at "kx"; refine ⟨F.k, ?_⟩
          walk_at "kx"; refine m_use (mk_lit (R.dl (by decide)) F.gd F.sub) fun _ _ r1 g₁ h₂ t₂ G1 o1 => ?_
          obtain ⟨a1, rfl, J1⟩ := o1
          walk_at "kx"; exact ret_ (F.call G1) ⟨k, hk, hm, .int J1⟩
      · have : b = false := by
          cases b
          · rfl
          · induction l0 <;> first | exact hp0.elim | exact absurd hb (by show ¬ (("int" : Str) == "int") = false; decide)
        subst this
        repeat walk_at "m"
        rename Fm _ _ _ _ _ _ _ _ _ => F
        refine m_while (fun n s' => ∃ h' t' tk k, s' = St s h' t' ∧ Fm [] w g h L g₃ h' [("number", .int ((97 + k : Nat) : Int) tk), ("values", .ref D2), ("told", .ref D), ("rows", v)] [] ∧ k ≤ 2 ∧ n = 3 - k) ?_ 3 ⟨_, _, _, 0, rfl, by exact F.relook lk_shadow, by decide, rfl⟩
        rintro n s' ⟨h', t', tk, k, rfl, F, hk, rfl⟩
        intro Kp kn kr
        repeat walk_at "m"
        walk_at "kx"; refine' chr_call (by omega) ?_
        intro tkc _
        repeat walk_at "m"
        walk_at "kx"; refine' l_in (eqV (.str (strOf [97 + k]) tkc)) (IL3.list F) (eq_lits B2 (LitV.chr (c := 97 + k)) (hkind k)) ?_
        repeat walk_at "m"
        walk_at "kx"; refine ⟨fun hb2 => ?_, fun hb2 => ?_⟩
        · have hm := (any_lits B2 (LitV.chr (c := 97 + k))).mp hb2
          have h2 := hstep k hm
          repeat walk_at "m"
          rename Fm _ _ _ _ _ _ _ _ _ => F
          refine kn (3 - (k + 1)) _ (by omega) ⟨_, _, _, k + 1, rfl, F.relook lk_shadow, h2, rfl⟩
        · have hm : ¬ litAt false k ∈ litsOf rows := fun q => by
            have := (any_lits B2 (LitV.chr (c := 97 + k) (t := tkc))).mpr q
            rw [this] at hb2; exact Bool.noConfusion hb2
          repeat walk_at "m"
          walk_at "kx"; refine' chr_call (by omega) ?_
          intro _ _
          repeat walk_at "m"
          walk_at "kx"; refine ⟨F.k, ?_⟩
          walk_at "kx"; refine m_use (mk_lit (R.dl (by decide)) F.gd F.sub) fun _ _ r1 g₁ h₂ t₂ G1 o1 => ?_
          obtain ⟨a1, rfl, J1⟩ := o1
          walk_at "kx"; exact ret_ (F.call G1) ⟨k, hk, hm, .chr J1⟩
/-! the plain law: values, kinds, what fits -/
inductive Val where
  | int (i : Int) | chr (c : Nat) | con0 (c : Cn) | con2 (c : Cn) (x y : Val)
noncomputable def fitAtom : At → Val → Bool
  | .chr c, .chr d => c == d
  | .chr _, _ => false
  | _, _ => true
noncomputable def fitList : List At → Val → Bool
  | [], .con0 .nil => true
  | x :: r, .con2 .cons a b => fitAtom x a && fitList r b
  | _, _ => false
noncomputable def fits : Pat → Val → Bool
  | .wild, _ => true
  | .pvar, _ => true
  | .plazy, _ => true
  | .int i, .int j => i == j
  | .chr c, .chr d => c == d
  | .text cs, v => fitList (cs.map .chr) v
  | .lst xs, v => fitList xs v
  | .con0 c, .con0 d => c == d
  | .con2 c x y, .con2 d a b => c == d && (fits x a && fits y b)
  | .tup x y, .con2 d a b => Cn.pr == d && (fits x a && fits y b)
  | .as p, v => fits p v
  | .bang p, v => fits p v
  | _, _ => false
noncomputable def rowFits : List Pat → List Val → Bool
  | [], [] => true
  | p :: ps, v :: vs => fits p v && rowFits ps vs
  | _, _ => false
theorem fits_atom (o : At) (v : Val) : fits (atomOf o) v = fitAtom o v := by induction o <;> cases v <;> rfl
theorem fits_spread (p : Pat) (v : Val) : fits (spreadP p) v = fits p v := by
  cases p with
  | tup x y => cases v <;> rfl
  | lst xs =>
    cases xs with
    | nil => cases v <;> first | rfl | (rename_i c; induction c <;> rfl)
    | cons x r =>
      cases v with
      | con2 c a b => induction c <;> first | rfl | (show (true && (fits (atomOf x) a && fits (.lst r) b)) = (fitAtom x a && fitList r b); rw [fits_atom]; rfl)
      | _ => rfl
  | text cs =>
    cases cs with
    | nil => cases v <;> first | rfl | (rename_i c; induction c <;> rfl)
    | cons x r =>
      cases v with
      | con2 c a b => induction c <;> first | rfl | (show (true && (fits (.chr x) a && fits (.text r) b)) = (fitAtom (.chr x) a && fitList (r.map .chr) b); cases a <;> rfl)
      | _ => rfl
  | _ => rfl
theorem fits_strip (p : Pat) (v : Val) : fits (strip p) v = fits p v := by
  induction p with
  | as p ih => exact ih
  | bang p ih => exact ih
  | _ => rfl
theorem fits_look (p : Pat) (v : Val) : fits (lookP p) v = fits p v := by
  rw [← fits_strip p]
  unfold lookP
  cases strip p <;> first | rfl | exact fits_spread _ _

inductive Kd where
  | T | P | L | I | C
  deriving DecidableEq
noncomputable def Cn.kd : Cn → Kd
  | .a => .T | .b => .T | .pr => .P | .nil => .L | .cons => .L
/-- a fact of all constructors by trying them -/
noncomputable def Cn.allB (f : Cn → Bool) : Bool := f .a && (f .b && (f .pr && (f .nil && f .cons)))
theorem Cn.of_allB {f : Cn → Bool} (h : Cn.allB f = true) (c : Cn) : f c = true := by
  unfold Cn.allB at h
  rw [Bool.and_eq_true, Bool.and_eq_true, Bool.and_eq_true, Bool.and_eq_true] at h
  cases c
  · exact h.1
  · exact h.2.1
  · exact h.2.2.1
  · exact h.2.2.2.1
  · exact h.2.2.2.2
theorem Cn.ar02 (c : Cn) : c.ar = 0 ∨ c.ar = 2 := by induction c <;> decide
theorem Cn.ar1 (c : Cn) (h : 1 = c.ar) : False := by induction c <;> exact absurd h (by decide)
theorem Cn.ar3 {n : Nat} (c : Cn) (h : n + 3 = c.ar) : False := by rcases c.ar02 with q | q <;> rw [q] at h <;> exact absurd h (by simp)
theorem Cn.kdI (c : Cn) : c.kd ≠ .I := by induction c <;> decide
theorem Cn.kdC (c : Cn) : c.kd ≠ .C := by induction c <;> decide
noncomputable abbrev Col := Kd × Nat
noncomputable def Cn.fld (c : Cn) (d : Nat) : List Col := match c with
  | .b => [(.T, d - 1), (.I, 0)]
  | .pr => [(.T, d - 1), (.C, 0)]
  | .cons => [(.C, 0), (.L, d - 1)]
  | _ => []
theorem Cn.fld_len (c : Cn) (d : Nat) : (c.fld d).length = c.ar := by induction c <;> rfl
inductive WT : Kd → Nat → Pat → Prop
  | wild {k d} : WT k d .wild
  | pvar {k d} : WT k d .pvar
  | plazy {k d} : WT k d .plazy
  | as {k d p} : WT k d p → WT k d (.as p)
  | bang {k d p} : WT k d p → WT k d (.bang p)
  | int {d i} : (i = 0 ∨ i = 1) → WT .I d (.int i)
  | chr {d c} : (c = 97 ∨ c = 98) → WT .C d (.chr c)
  | a {d} : WT .T d (.con0 .a)
  | b {d x y} : WT .T d x → WT .I 0 y → WT .T (d + 1) (.con2 .b x y)
  | pr {d x y} : WT .T d x → WT .C 0 y → WT .P (d + 1) (.con2 .pr x y)
  | tup {d x y} : WT .T d x → WT .C 0 y → WT .P (d + 1) (.tup x y)
  | nil {d} : WT .L d (.con0 .nil)
  | cons {d x y} : WT .C 0 x → WT .L d y → WT .L (d + 1) (.con2 .cons x y)
  | lst {d xs} : xs.length ≤ d → (∀ o ∈ xs, WT .C 0 (atomOf o)) → WT .L d (.lst xs)
  | text {d cs} : cs.length ≤ d → (∀ c ∈ cs, c = 97 ∨ c = 98) → WT .L d (.text cs)
inductive VT : Kd → Nat → Val → Prop
  | int {n i} : (i = 0 ∨ i = 1 ∨ i = 2) → VT .I n (.int i)
  | chr {n c} : (c = 97 ∨ c = 98 ∨ c = 99) → VT .C n (.chr c)
  | a {n} : VT .T n (.con0 .a)
  | b {n x y} : VT .T n x → VT .I 1 y → VT .T (n + 1) (.con2 .b x y)
  | pr {n x y} : VT .T n x → VT .C 1 y → VT .P (n + 1) (.con2 .pr x y)
  | nil {n} : VT .L n (.con0 .nil)
  | cons {n x y} : VT .C 1 x → VT .L n y → VT .L (n + 1) (.con2 .cons x y)
/-- looked at -/
inductive LA : Pat → Prop
  | wild : LA .wild
  | int {i} : LA (.int i)
  | chr {c} : LA (.chr c)
  | con0 {c : Cn} : c.ar = 0 → LA (.con0 c)
  | con2 {c : Cn} {x y} : c.ar = 2 → LA (.con2 c x y)
theorem WT.spread {k : Kd} {d : Nat} {p : Pat} (h : WT k d p) (h1 : strip p = p) : WT k d (lookP p) ∧ LA (lookP p) := by
  unfold lookP
  rw [h1]
  cases h with
  | wild => exact ⟨.wild, .wild⟩
  | pvar => exact ⟨.wild, .wild⟩
  | plazy => exact ⟨.wild, .wild⟩
  | @as _ _ q h => exact absurd (congrArg layers h1) (by
      have : ∀ q : Pat, layers (strip q) = 0 := fun q => by induction q with | as p ih => exact ih | bang p ih => exact ih | _ => rfl
      rw [this]; exact (Nat.succ_ne_zero _).symm)
  | @bang _ _ q h => exact absurd (congrArg layers h1) (by
      have : ∀ q : Pat, layers (strip q) = 0 := fun q => by induction q with | as p ih => exact ih | bang p ih => exact ih | _ => rfl
      rw [this]; exact (Nat.succ_ne_zero _).symm)
  | int h => exact ⟨.int h, .int⟩
  | chr h => exact ⟨.chr h, .chr⟩
  | a => exact ⟨.a, .con0 rfl⟩
  | b x y => exact ⟨.b x y, .con2 rfl⟩
  | pr x y => exact ⟨.pr x y, .con2 rfl⟩
  | tup x y => exact ⟨.pr x y, .con2 rfl⟩
  | nil => exact ⟨.nil, .con0 rfl⟩
  | cons x y => exact ⟨.cons x y, .con2 rfl⟩
  | @lst d xs hl ha =>
    cases xs with
    | nil => exact ⟨.nil, .con0 rfl⟩
    | cons o r =>
      cases d with
      | zero => exact absurd hl (Nat.not_succ_le_zero _)
      | succ d => exact ⟨.cons (ha o (.head _)) (.lst (Nat.le_of_succ_le_succ hl) fun o ho => ha o (.tail _ ho)), .con2 rfl⟩
  | @text d cs hl ha =>
    cases cs with
    | nil => exact ⟨.nil, .con0 rfl⟩
    | cons o r =>
      cases d with
      | zero => exact absurd hl (Nat.not_succ_le_zero _)
      | succ d => exact ⟨.cons (.chr (ha o (.head _))) (.text (Nat.le_of_succ_le_succ hl) fun o ho => ha o (.tail _ ho)), .con2 rfl⟩
theorem WT.look {k : Kd} {d : Nat} {p : Pat} (h : WT k d p) : WT k d (lookP p) ∧ LA (lookP p) := by
  induction p with
  | as p ih => cases h with | as h => exact ih h
  | bang p ih => cases h with | bang h => exact ih h
  | _ => exact h.spread rfl
theorem WT.fine {k : Kd} {d : Nat} {p : Pat} (h : WT k d p) (hd : d ≤ 1000) : p.fine := by
  induction h with
  | as _ ih => exact ih hd
  | bang _ ih => exact ih hd
  | b _ _ i j => exact ⟨i (by omega), j (by omega)⟩
  | pr _ _ i j => exact ⟨i (by omega), j (by omega)⟩
  | tup _ _ i j => exact ⟨i (by omega), j (by omega)⟩
  | cons _ _ i j => exact ⟨i (by omega), j (by omega)⟩
  | lst h _ => exact Nat.le_trans h hd
  | text h _ => exact Nat.le_trans h hd
  | _ => trivial

noncomputable def RT (cols : List Col) (r : List Pat) : Prop := All2 (fun p (c : Col) => WT c.1 c.2 p) r cols
noncomputable def Vec (cols : List Col) (vs : List Val) : Prop := All2 (fun v (c : Col) => VT c.1 (c.2 + 1) v) vs cols
noncomputable def Matched (rows : List (List Pat)) (vs : List Val) : Bool := rows.any fun r => rowFits r vs
noncomputable def mkV (c : Cn) (args : List Val) : Val := match args with
  | [x, y] => .con2 c x y
  | _ => .con0 c
noncomputable def mkP (c : Cn) (args : List Pat) : Pat := match args with
  | [x, y] => .con2 c x y
  | _ => .con0 c
theorem VT.con {k : Kd} {d : Nat} {v : Val} (h : VT k (d + 1) v) (h1 : k ≠ .I) (h2 : k ≠ .C) : ∃ (c : Cn) (args : List Val), v = mkV c args ∧ c.kd = k ∧ args.length = c.ar ∧ (1 ≤ d ∨ c.ar = 0 → Vec (c.fld d) args) := by
  cases h with
  | int => exact absurd rfl h1
  | chr => exact absurd rfl h2
  | a => exact ⟨.a, [], rfl, rfl, rfl, fun _ => .nil⟩
  | b x y => exact ⟨.b, [_, _], rfl, rfl, rfl, fun q => by
      rcases q with q | q
      · obtain ⟨d, rfl⟩ : ∃ e, d = e + 1 := ⟨d - 1, by omega⟩
        exact .cons x (.cons y .nil)
      · cases q⟩
  | pr x y => exact ⟨.pr, [_, _], rfl, rfl, rfl, fun q => by
      rcases q with q | q
      · obtain ⟨d, rfl⟩ : ∃ e, d = e + 1 := ⟨d - 1, by omega⟩
        exact .cons x (.cons y .nil)
      · cases q⟩
  | nil => exact ⟨.nil, [], rfl, rfl, rfl, fun _ => .nil⟩
  | cons x y => exact ⟨.cons, [_, _], rfl, rfl, rfl, fun q => by
      rcases q with q | q
      · obtain ⟨d, rfl⟩ : ∃ e, d = e + 1 := ⟨d - 1, by omega⟩
        exact .cons x (.cons y .nil)
      · cases q⟩
theorem Vec.con {c : Cn} {d : Nat} {args : List Val} (h : Vec (c.fld d) args) (hd : 1 ≤ d ∨ c.ar = 0) : VT c.kd (d + 1) (mkV c args) := by
  cases c with
  | a => cases h; exact .a
  | nil => cases h; exact .nil
  | b =>
    rcases hd with hd | hd
    · obtain ⟨d, rfl⟩ : ∃ e, d = e + 1 := ⟨d - 1, by omega⟩
      cases h with | cons x r => cases r with | cons y r => cases r; exact .b x y
    · cases hd
  | pr =>
    rcases hd with hd | hd
    · obtain ⟨d, rfl⟩ : ∃ e, d = e + 1 := ⟨d - 1, by omega⟩
      cases h with | cons x r => cases r with | cons y r => cases r; exact .pr x y
    · cases hd
  | cons =>
    rcases hd with hd | hd
    · obtain ⟨d, rfl⟩ : ∃ e, d = e + 1 := ⟨d - 1, by omega⟩
      cases h with | cons x r => cases r with | cons y r => cases r; exact .cons x y
    · cases hd
theorem rowFits_wilds : ∀ (n : Nat) (args vs : List Val) (ps : List Pat), args.length = n → rowFits (List.replicate n .wild ++ ps) (args ++ vs) = rowFits ps vs
  | 0, [], _, _, _ => rfl
  | n + 1, a :: r, vs, ps, h => by
    rw [List.replicate_succ]
    show (true && rowFits (List.replicate n .wild ++ ps) (r ++ vs)) = _
    rw [Bool.true_and]
    exact rowFits_wilds n r vs ps (by simpa using h)
theorem fit_con {p : Pat} {ps : List Pat} {c : Cn} {args vs : List Val} (hp : LA p) (ha : args.length = c.ar) : rowFits (p :: ps) (mkV c args :: vs) = (conP c c.ar (p :: ps)).any fun r => rowFits r (args ++ vs) := by
  cases hp with
  | wild =>
    show (true && rowFits ps vs) = ([List.replicate c.ar .wild ++ ps].any fun r => rowFits r (args ++ vs))
    rw [List.any_cons, List.any_nil, rowFits_wilds _ _ _ _ ha]; simp
  | int => 
    show (fits _ _ && _) = false
    match args with
    | [] => rfl
    | [_] => rfl
    | [_, _] => rfl
    | _ :: _ :: _ :: _ => rfl
  | chr =>
    show (fits _ _ && _) = false
    match args with
    | [] => rfl
    | [_] => rfl
    | [_, _] => rfl
    | _ :: _ :: _ :: _ => rfl
  | @con0 e he =>
    show (fits (.con0 e) _ && _) = ((if e = c then [ps] else []).any fun r => rowFits r (args ++ vs))
    by_cases h : e = c
    · subst h
      rw [he] at ha
      have : args = [] := List.eq_nil_of_length_eq_zero ha
      subst this
      rw [if_pos rfl]
      show ((e == e) && rowFits ps vs) = _
      simp
    · rw [if_neg h]
      have e1 : (e == c) = false := by simpa using h
      match args with
      | [] => show ((e == c) && _) = false; rw [e1]; rfl
      | [_] => show ((e == c) && _) = false; rw [e1]; rfl
      | [_, _] => rfl
      | _ :: _ :: _ :: _ => show ((e == c) && _) = false; rw [e1]; rfl
  | @con2 e x y he =>
    show (fits (.con2 e x y) _ && _) = ((if e = c then [x :: y :: ps] else []).any fun r => rowFits r (args ++ vs))
    by_cases h : e = c
    · subst h
      rw [he] at ha
      match args, ha with
      | [a, b], _ =>
        rw [if_pos rfl]
        show (((e == e) && (fits x a && fits y b)) && rowFits ps vs) = ((fits x a && (fits y b && rowFits ps vs)) || false)
        simp [Bool.and_assoc]
    · rw [if_neg h]
      have e1 : (e == c) = false := by simpa using h
      match args with
      | [] => rfl
      | [_] => rfl
      | [_, _] => show (((e == c) && _) && _) = false; rw [e1]; rfl
      | _ :: _ :: _ :: _ => rfl
noncomputable def litVal : Pat → Val
  | .int i => .int i
  | .chr c => .chr c
  | _ => .int 0
theorem fit_lit {p q : Pat} {ps : List Pat} {vs : List Val} (hp : LA p) (hq : (∃ i, q = .int i) ∨ ∃ c, q = .chr c) : rowFits (p :: ps) (litVal q :: vs) = (litP q (p :: ps)).any fun r => rowFits r vs := by
  show (fits p (litVal q) && rowFits ps vs) = ((if (p.cls == 99 || isLit p q) = true then [ps] else []).any fun r => rowFits r vs)
  have e : (p.cls == 99 || isLit p q) = fits p (litVal q) := by
    rcases hq with ⟨i, rfl⟩ | ⟨c, rfl⟩ <;> cases hp <;> rfl
  rw [e]
  cases fits p (litVal q) <;> simp
theorem fit_any {p : Pat} {ps : List Pat} {v : Val} {vs : List Val} (hp : p = .wild ∨ fits p v = false) (h : p = .wild ∨ p.cls ≠ 99) : rowFits (p :: ps) (v :: vs) = (anyP (p :: ps)).any fun r => rowFits r vs := by
  show (fits p v && rowFits ps vs) = _
  rcases hp with rfl | hp
  · show (true && rowFits ps vs) = ((rowFits ps vs) || false); simp
  · rcases h with rfl | h
    · cases hp
    · rw [hp]
      induction p <;> first | rfl | exact absurd rfl h
theorem matched_con {lines : List (List Pat)} {c : Cn} {args vs : List Val} (h : ∀ r ∈ lines, ∃ p ps, r = p :: ps ∧ LA p) (ha : args.length = c.ar) : Matched lines (mkV c args :: vs) = Matched (withConP c c.ar lines) (args ++ vs) := by
  unfold Matched withConP
  rw [List.any_flatMap]
  induction lines with
  | nil => rfl
  | cons r q ih =>
    obtain ⟨p, ps, rfl, hp⟩ := h r (.head _)
    rw [List.any_cons, List.any_cons, fit_con hp ha, ih fun r hr => h r (.tail _ hr)]
theorem matched_lit {lines : List (List Pat)} {q : Pat} {vs : List Val} (h : ∀ r ∈ lines, ∃ p ps, r = p :: ps ∧ LA p) (hq : (∃ i, q = .int i) ∨ ∃ c, q = .chr c) : Matched lines (litVal q :: vs) = Matched (withLitP q lines) vs := by
  unfold Matched withLitP
  rw [List.any_flatMap]
  induction lines with
  | nil => rfl
  | cons r l ih =>
    obtain ⟨p, ps, rfl, hp⟩ := h r (.head _)
    rw [List.any_cons, List.any_cons, fit_lit hp hq, ih fun r hr => h r (.tail _ hr)]
theorem matched_any {lines : List (List Pat)} {v : Val} {vs : List Val} (h : ∀ r ∈ lines, ∃ p ps, r = p :: ps ∧ LA p ∧ (p = .wild ∨ fits p v = false)) : Matched lines (v :: vs) = Matched (withAnyP lines) vs := by
  unfold Matched withAnyP
  rw [List.any_flatMap]
  induction lines with
  | nil => rfl
  | cons r l ih =>
    obtain ⟨p, ps, rfl, hp, hv⟩ := h r (.head _)
    rw [List.any_cons, List.any_cons, fit_any hv (by cases hp <;> first | exact .inl rfl | exact .inr (Nat.ne_of_beq_eq_false rfl)), ih fun r hr => h r (.tail _ hr)]
/-! the plain law: columns, one step -/
inductive KT : Kd → Pat → Prop
  | wild {k} : KT k .wild
  | pvar {k} : KT k .pvar
  | plazy {k} : KT k .plazy
  | as {k p} : KT k p → KT k (.as p)
  | bang {k p} : KT k p → KT k (.bang p)
  | int {i} : KT .I (.int i)
  | chr {c} : KT .C (.chr c)
  | a : KT .T (.con0 .a)
  | b {x y} : KT .T x → KT .I y → KT .T (.con2 .b x y)
  | pr {x y} : KT .T x → KT .C y → KT .P (.con2 .pr x y)
  | tup {x y} : KT .T x → KT .C y → KT .P (.tup x y)
  | nil : KT .L (.con0 .nil)
  | cons {x y} : KT .C x → KT .L y → KT .L (.con2 .cons x y)
  | lst {xs} : KT .L (.lst xs)
  | text {cs} : KT .L (.text cs)
theorem WT.kt {k : Kd} {d : Nat} {p : Pat} (h : WT k d p) : KT k p := by
  induction h with
  | wild => exact .wild
  | pvar => exact .pvar
  | plazy => exact .plazy
  | as _ ih => exact .as ih
  | bang _ ih => exact .bang ih
  | int _ => exact .int
  | chr _ => exact .chr
  | a => exact .a
  | b _ _ i j => exact .b i j
  | pr _ _ i j => exact .pr i j
  | tup _ _ i j => exact .tup i j
  | nil => exact .nil
  | cons _ _ i j => exact .cons i j
  | lst _ _ => exact .lst
  | text _ _ => exact .text
noncomputable def psize : Pat → Nat
  | .as p => psize p + 1
  | .bang p => psize p + 1
  | .con2 _ x y => psize x + psize y + 2
  | .tup x y => psize x + psize y + 2
  | .lst xs => 2 * xs.length + 2
  | .text cs => 2 * cs.length + 3
  | _ => 1
theorem ps_l {a b : Nat} : a < a + b + 2 := Nat.lt_succ_of_le (Nat.le_succ_of_le (Nat.le_add_right a b))
theorem ps_r {a b : Nat} : b < a + b + 2 := Nat.lt_succ_of_le (Nat.le_succ_of_le (Nat.le_add_left b a))
noncomputable def meas (cols : List Col) : Nat := (cols.map fun c => 2 * c.2 + 1).sum
theorem meas_cons (c : Col) (r : List Col) : meas (c :: r) = 2 * c.2 + 1 + meas r := rfl
theorem meas_append (a b : List Col) : meas (a ++ b) = meas a + meas b := by unfold meas; rw [List.map_append, List.sum_append]
theorem meas_len (cols : List Col) : cols.length ≤ meas cols := by
  induction cols with
  | nil => exact Nat.zero_le _
  | cons c r ih => rw [meas_cons, List.length_cons]; omega
theorem meas_fld {c : Cn} {d : Nat} {r : List Col} (hd : 1 ≤ d ∨ c.ar = 0) : meas (c.fld d ++ r) < meas ((c.kd, d) :: r) := by
  rw [meas_append, meas_cons]
  have : meas (c.fld d) ≤ 2 * d := by
    cases c with
    | a => exact Nat.zero_le _
    | nil => exact Nat.zero_le _
    | b => rcases hd with hd | hd; (show 2 * (d - 1) + 1 + (2 * 0 + 1 + 0) ≤ _; omega); exact absurd hd (by decide)
    | pr => rcases hd with hd | hd; (show 2 * (d - 1) + 1 + (2 * 0 + 1 + 0) ≤ _; omega); exact absurd hd (by decide)
    | cons => rcases hd with hd | hd; (show 2 * 0 + 1 + (2 * (d - 1) + 1 + 0) ≤ _; omega); exact absurd hd (by decide)
  show meas (c.fld d) + meas r < 2 * d + 1 + meas r
  omega
noncomputable def Rows (cols : List Col) (rows : List (List Pat)) : Prop := ∀ r ∈ rows, RT cols r
/-- lines: heads looked at -/
noncomputable def Lines (k : Kd) (d : Nat) (rest : List Col) (lines : List (List Pat)) : Prop := ∀ r ∈ lines, ∃ p ps, r = p :: ps ∧ WT k d p ∧ LA p ∧ RT rest ps
theorem Rows.lines {k : Kd} {d : Nat} {rest : List Col} {rows : List (List Pat)} (H : Rows ((k, d) :: rest) rows) : Lines k d rest (rows.map lineP) := by
  intro r hr
  obtain ⟨q, hq, rfl⟩ := List.mem_map.mp hr
  have := H q hq
  cases this with
  | cons a b => exact ⟨_, _, rfl, a.look.1, a.look.2, b⟩
theorem matched_lines (rows : List (List Pat)) (vs : List Val) : Matched (rows.map lineP) vs = Matched rows vs := by
  unfold Matched
  rw [List.any_map]
  congr 1
  funext r
  cases r with
  | nil => rfl
  | cons p ps => cases vs with
    | nil => rfl
    | cons v vs => show (fits (lookP p) v && _) = (fits p v && _); rw [fits_look]
section
variable {k : Kd} {d : Nat} {rest : List Col} {lines : List (List Pat)}
theorem Lines.shape (H : Lines k d rest lines) : ∀ r ∈ lines, ∃ p ps, r = p :: ps ∧ LA p := fun r hr => let ⟨p, ps, e, _, b, _⟩ := H r hr; ⟨p, ps, e, b⟩
theorem Lines.rows (H : Lines k d rest lines) : Rows ((k, d) :: rest) lines := fun r hr => by obtain ⟨p, ps, rfl, a, _, b⟩ := H r hr; exact .cons a b
theorem wilds_rt : ∀ (cs : List Col), RT cs (List.replicate cs.length .wild)
  | [] => .nil
  | _ :: r => .cons .wild (wilds_rt r)
theorem con_rt {c : Cn} {p : Pat} {ps : List Pat} (hk : c.kd = k) (a : WT k d p) (la : LA p) (b : RT rest ps) : ∀ q ∈ conP c c.ar (p :: ps), RT (c.fld d ++ rest) q := by
  subst hk
  intro q hq
  cases la with
  | wild =>
    have : q = List.replicate c.ar .wild ++ ps := List.mem_singleton.mp hq
    subst this
    rw [← c.fld_len d]
    exact (wilds_rt _).append b
  | int => cases hq
  | chr => cases hq
  | @con0 e he =>
    have hq : q ∈ (if e = c then [ps] else []) := hq
    by_cases ee : e = c
    · subst ee
      rw [if_pos rfl] at hq
      rw [List.mem_singleton.mp hq]
      induction e <;> first | exact b | exact absurd he (by decide)
    · rw [if_neg ee] at hq; cases hq
  | @con2 e x y he =>
    have hq : q ∈ (if e = c then [x :: y :: ps] else []) := hq
    by_cases ee : e = c
    · subst ee
      rw [if_pos rfl] at hq
      rw [List.mem_singleton.mp hq]
      revert a
      induction e <;> intro a
      · exact absurd he (by decide)
      · cases a with | b x y => exact .cons x (.cons y b)
      · cases a with | pr x y => exact .cons x (.cons y b)
      · exact absurd he (by decide)
      · cases a with | cons x y => exact .cons x (.cons y b)
    · rw [if_neg ee] at hq; cases hq
theorem Lines.con {c : Cn} (H : Lines k d rest lines) (hk : c.kd = k) : Rows (c.fld d ++ rest) (withConP c c.ar lines) := by
  intro q hq
  obtain ⟨r, hr, hq⟩ := List.mem_flatMap.mp hq
  obtain ⟨p, ps, rfl, a, la, b⟩ := H r hr
  exact con_rt hk a la b q hq
theorem Lines.any (H : Lines k d rest lines) : Rows rest (withAnyP lines) := by
  intro q hq
  obtain ⟨r, hr, hq⟩ := List.mem_flatMap.mp hq
  obtain ⟨p, ps, rfl, a, la, b⟩ := H r hr
  cases la with
  | wild => rw [List.mem_singleton.mp hq]; exact b
  | _ => cases hq
theorem Lines.lit {l : Pat} (H : Lines k d rest lines) : Rows rest (withLitP l lines) := by
  intro q hq
  obtain ⟨r, hr, hq⟩ := List.mem_flatMap.mp hq
  obtain ⟨p, ps, rfl, a, la, b⟩ := H r hr
  rw [litP_eq] at hq
  split at hq
  · rw [List.mem_singleton.mp hq]; exact b
  · cases hq
/-! heads -/
theorem heads_mem (c : Cn) : ∀ (ls : List (List Pat)) (acc : List Cn), c ∈ ls.foldl headStep acc ↔ c ∈ acc ∨ ∃ r ∈ ls, headP r = some c := by
  intro ls
  induction ls with
  | nil => intro acc; simp
  | cons r q ih =>
    intro acc
    rw [List.foldl_cons, ih]
    have e : c ∈ headStep acc r ↔ c ∈ acc ∨ headP r = some c := by
      unfold headStep
      cases h : headP r with
      | none => simp
      | some e =>
        dsimp only
        split
        · rename_i hc
          constructor
          · exact fun z => .inl z
          · rintro (z | z)
            · exact z
            · injection z with z; subst z; simpa using hc
        · rw [List.mem_append, List.mem_singleton]
          constructor
          · rintro (z | z)
            · exact .inl z
            · exact .inr (by rw [z])
          · rintro (z | z)
            · exact .inl z
            · injection z with z; exact .inr z.symm
    rw [e]
    constructor
    · rintro ((z | z) | ⟨x, hx, z⟩)
      · exact .inl z
      · exact .inr ⟨r, .head _, z⟩
      · exact .inr ⟨x, .tail _ hx, z⟩
    · rintro (z | ⟨x, hx, z⟩)
      · exact .inl (.inl z)
      · rcases List.mem_cons.mp hx with rfl | hx
        · exact .inl (.inr z)
        · exact .inr ⟨x, hx, z⟩
theorem heads_nodup : ∀ (ls : List (List Pat)) (acc : List Cn), acc.Nodup → (ls.foldl headStep acc).Nodup := by
  intro ls
  induction ls with
  | nil => intro acc h; exact h
  | cons r q ih =>
    intro acc h
    rw [List.foldl_cons]
    refine ih _ ?_
    unfold headStep
    cases headP r with
    | none => exact h
    | some e =>
      dsimp only
      split
      · exact h
      · rename_i hc
        rw [List.nodup_append]
        refine ⟨h, by simp, fun a ha b hb => ?_⟩
        rw [List.mem_singleton.mp hb]
        intro q
        subst q
        exact hc (by simpa using ha)
theorem Lines.head_kd (H : Lines k d rest lines) {c : Cn} (hc : c ∈ headsP lines) : c.kd = k ∧ (1 ≤ d ∨ c.ar = 0) := by
  rcases (heads_mem c lines []).mp hc with z | ⟨r, hr, z⟩
  · cases z
  · obtain ⟨p, ps, rfl, a, la, b⟩ := H r hr
    cases la with
    | con0 he =>
      have : _ = c := Option.some.inj z
      subst this
      cases a <;> exact ⟨rfl, .inr rfl⟩
    | con2 he =>
      have : _ = c := Option.some.inj z
      subst this
      cases a <;> exact ⟨rfl, .inl (Nat.succ_le_succ (Nat.zero_le _))⟩
    | _ => cases z
theorem Cn.sibs_iff (c d : Cn) : d ∈ c.sibs ↔ d.kd = c.kd := by induction c <;> induction d <;> decide
theorem cn_two {c y : Cn} (h : y.kd = c.kd) (n : c ≠ y) : c.sibs.length = 2 := by
  have t := Cn.of_allB (Cn.of_allB (f := fun c => Cn.allB fun y => !(decide (y.kd = c.kd) && !decide (c = y)) || decide (c.sibs.length = 2)) (by decide) c) y
  simpa [h, n] using t
theorem cn_three {c y z : Cn} (h : y.kd = c.kd) (h2 : z.kd = c.kd) (n : c ≠ y) (n2 : c ≠ z) (n3 : y ≠ z) : False := by
  have t := Cn.of_allB (Cn.of_allB (Cn.of_allB (f := fun c => Cn.allB fun y => Cn.allB fun z => !(decide (y.kd = c.kd) && (decide (z.kd = c.kd) && (!decide (c = y) && (!decide (c = z) && !decide (y = z)))))) (by decide) c) y) z
  simp [h, h2, n, n2, n3] at t
theorem cn_one {c x : Cn} (h : x.kd = c.kd) (l : 1 = c.sibs.length) : x = c := by
  have t := Cn.of_allB (Cn.of_allB (f := fun c => Cn.allB fun x => !(decide (x.kd = c.kd) && decide (1 = c.sibs.length)) || decide (x = c)) (by decide) c) x
  simpa [h, ← l] using t
theorem Lines.complete (H : Lines k d rest lines) {c : Cn} {r : List Cn} (e : headsP lines = c :: r) (hl : (c :: r).length = c.sibs.length) : ∀ x : Cn, x.kd = k → x ∈ headsP lines := by
  intro x hx
  have nd : (headsP lines).Nodup := heads_nodup lines [] List.nodup_nil
  have kd : ∀ y ∈ headsP lines, y.kd = k := fun y hy => (H.head_kd hy).1
  rw [e] at nd kd ⊢
  have kc := kd c (.head _)
  match r, hl with
  | [], hl => rw [← kc] at hx; rw [cn_one hx hl]; exact .head _
  | [y], hl =>
    have ky := kd y (.tail _ (.head _))
    rw [List.nodup_cons] at nd
    have ne : c ≠ y := fun q => nd.1 (by rw [q]; exact .head _)
    rw [← kc] at hx ky
    by_cases q : c = x
    · rw [q]; exact .head _
    · by_cases q2 : y = x
      · rw [q2]; exact .tail _ (.head _)
      · exact (cn_three ky hx ne q q2).elim
  | _ :: _ :: _, hl => induction c <;> exact absurd hl (by simp [Cn.sibs])
theorem Lines.incomplete (H : Lines k d rest lines) {c : Cn} {r : List Cn} (e : headsP lines = c :: r) (hl : (c :: r).length ≠ c.sibs.length) : ∃ x ∈ c.sibs, x ∉ headsP lines := by
  have nd : (headsP lines).Nodup := heads_nodup lines [] List.nodup_nil
  have kd : ∀ y ∈ headsP lines, y.kd = k := fun y hy => (H.head_kd hy).1
  rw [e] at nd kd ⊢
  have kc := kd c (.head _)
  match r, hl with
  | [], hl => induction c <;> first | exact absurd rfl hl | exact ⟨.a, by decide, by decide⟩ | exact ⟨.b, by decide, by decide⟩ | exact ⟨.nil, by decide, by decide⟩ | exact ⟨.cons, by decide, by decide⟩
  | [y], hl =>
    have ky := kd y (.tail _ (.head _))
    rw [List.nodup_cons] at nd
    have ne : c ≠ y := fun q => nd.1 (by rw [q]; exact .head _)
    rw [← kc] at ky
    exact absurd (cn_two ky ne).symm hl
  | y :: z :: q, _ =>
    have ky := kd y (.tail _ (.head _))
    have kz := kd z (.tail _ (.tail _ (.head _)))
    rw [← kc] at ky kz
    simp only [List.nodup_cons, List.mem_cons, not_or] at nd
    have n1 := nd.1.1
    have n2 := nd.1.2.1
    have n3 := nd.2.1.1
    exact (cn_three ky kz n1 n2 n3).elim
theorem headsP_len : ∀ (ls : List (List Pat)) (acc : List Cn), (ls.foldl headStep acc).length ≤ acc.length + ls.length := by
  intro ls
  induction ls with
  | nil => intro acc; exact Nat.le_refl _
  | cons r q ih =>
    intro acc
    rw [List.foldl_cons, List.length_cons]
    refine Nat.le_trans (ih _) ?_
    have : (headStep acc r).length ≤ acc.length + 1 := by
      unfold headStep
      split
      · split
        · exact Nat.le_succ _
        · simp
      · exact Nat.le_succ _
    omega
/-! literals -/
theorem lits_mem {p : Pat} : p ∈ litsOf lines ↔ ∃ ps, (p :: ps) ∈ lines ∧ p.cls = 126 := by
  unfold litsOf
  rw [List.mem_flatMap]
  constructor
  · rintro ⟨r, hr, hp⟩
    cases r with
    | nil => cases hp
    | cons q ps =>
      rw [litOf_eq] at hp
      split at hp
      · rename_i h; rw [List.mem_singleton.mp hp]; exact ⟨ps, hr, by simpa using h⟩
      · cases hp
  · rintro ⟨ps, hr, hc⟩
    exact ⟨_, hr, by rw [litOf_eq, if_pos (by simpa using hc)]; exact .head _⟩
theorem Lines.okLits (H : Lines k d rest lines) : ∀ p ∈ litsOf lines, okLit (k == .I) p ∧ (k = .I ∨ k = .C) := by
  intro p hp
  obtain ⟨ps, hr, hc⟩ := lits_mem.mp hp
  obtain ⟨p', ps', e, a, la, b⟩ := H _ hr
  injection e with e1 e2; subst e1
  cases la with
  | int => cases a with | int h => exact ⟨h, .inl rfl⟩
  | chr => cases a with | chr h => exact ⟨h, .inr rfl⟩
  | _ => cases hc
/-! values that there are -/
theorem vt_a {n : Nat} : VT .T n (.con0 .a) := .a
theorem vt_ex (k : Kd) (d : Nat) : ∃ v, VT k (d + 1) v := by
  cases k with
  | T => exact ⟨_, .a⟩
  | P => exact ⟨_, .pr .a (.chr (.inl rfl))⟩
  | L => exact ⟨_, .nil⟩
  | I => exact ⟨_, .int (.inl rfl)⟩
  | C => exact ⟨_, .chr (.inl rfl)⟩
theorem vt_con (c : Cn) (d : Nat) : ∃ args : List Val, args.length = c.ar ∧ VT c.kd (d + 1) (mkV c args) := by
  cases c with
  | a => exact ⟨[], rfl, .a⟩
  | nil => exact ⟨[], rfl, .nil⟩
  | b => exact ⟨[.con0 .a, .int 0], rfl, .b .a (.int (.inl rfl))⟩
  | pr => exact ⟨[.con0 .a, .chr 97], rfl, .pr .a (.chr (.inl rfl))⟩
  | cons => exact ⟨[.chr 97, .con0 .nil], rfl, .cons (.chr (.inl rfl)) .nil⟩
noncomputable def Val.hd : Val → Option Cn
  | .con0 c => some c
  | .con2 c _ _ => some c
  | _ => none
theorem mkV_hd (c : Cn) (as : List Val) : (mkV c as).hd = some c := by
  match as with
  | [] => rfl
  | [_] => rfl
  | [_, _] => rfl
  | _ :: _ :: _ :: _ => rfl
theorem len2 {α : Type} {l : List α} (h : l.length = 2) : ∃ x y, l = [x, y] := by
  match l, h with
  | [x, y], _ => exact ⟨x, y, rfl⟩
theorem mkV_inj {c e : Cn} {as bs : List Val} (ha : as.length = c.ar) (hb : bs.length = e.ar) (h : mkV c as = mkV e bs) : c = e ∧ as = bs := by
  have e1 : c = e := by
    have q := congrArg Val.hd h
    rw [mkV_hd, mkV_hd] at q
    exact Option.some.inj q
  subst e1
  refine ⟨rfl, ?_⟩
  have hl := ha.trans hb.symm
  have h02 := Cn.ar02 c
  rcases h02 with q | q
  · rw [List.eq_nil_of_length_eq_zero (ha.trans q), List.eq_nil_of_length_eq_zero (hb.trans q)]
  · obtain ⟨x, y, rfl⟩ := len2 (ha.trans q)
    obtain ⟨x', y', rfl⟩ := len2 (hb.trans q)
    injection h with h1 h2 h3
    rw [h2, h3]
theorem matched_any_le {v : Val} {vs : List Val} (H : Lines k d rest lines) (h : Matched (withAnyP lines) vs = true) : Matched lines (v :: vs) = true := by
  unfold Matched at h ⊢
  rw [List.any_eq_true] at h ⊢
  obtain ⟨q, hq, hf⟩ := h
  obtain ⟨r, hr, hq⟩ := List.mem_flatMap.mp hq
  refine ⟨r, hr, ?_⟩
  obtain ⟨p, ps, rfl, a, la, b⟩ := H r hr
  cases la with
  | wild => rw [List.mem_singleton.mp hq] at hf; show (true && _) = true; rw [hf]; rfl
  | _ => cases hq
/-- a pattern for the first column at which the lines' heads other than wild ones all fail -/
noncomputable def Free (k : Kd) (d : Nat) (lines : List (List Pat)) (p : Pat) : Prop :=
  KT k p ∧ (∃ v, VT k (d + 1) v ∧ fits p v = true) ∧ (∀ v, VT k (d + 1) v → fits p v = true → ∀ vs, Matched lines (v :: vs) = Matched (withAnyP lines) vs) ∧ psize p ≤ 4
theorem fits_wilds (c : Cn) {args : List Val} (h : args.length = c.ar) : fits (mkP c (List.replicate c.ar .wild)) (mkV c args) = true := by
  have h2 : args.length = 0 ∨ args.length = 2 := by rw [h]; induction c <;> simp [Cn.ar]
  rcases h2 with q | q
  · have : args = [] := List.eq_nil_of_length_eq_zero q
    subst this
    rw [← h]
    show (c == c) = true; simp
  · match args, q with
    | [x, y], _ => rw [← h]; show (c == c && (true && true)) = true; simp
theorem kt_wilds (c : Cn) : KT c.kd (mkP c (List.replicate c.ar .wild)) := by
  cases c with
  | a => exact .a
  | nil => exact .nil
  | b => exact .b .wild .wild
  | pr => exact .pr .wild .wild
  | cons => exact .cons .wild .wild
theorem VT.kd {n : Nat} {c : Cn} {args : List Val} (h : VT k n (mkV c args)) (ha : args.length = c.ar) : c.kd = k := by
  match args, ha with
  | [], _ => cases h <;> rfl
  | [x, y], _ => cases h <;> rfl
  | [_], ha => exact (Cn.ar1 c ha).elim
  | _ :: _ :: _ :: _, ha => exact (Cn.ar3 c ha).elim
theorem fits_head {c : Cn} {p : Pat} {v : Val} (ps : List Pat) (h : headP (p :: ps) = some c) (hf : fits p v = true) : ∃ args, v = mkV c args := by
  cases p with
  | con0 e =>
    injection h with h; subst h
    cases v with
    | con0 f => exact ⟨[], by rw [eq_of_beq (show (e == f) = true from hf)]; rfl⟩
    | _ => exact Bool.noConfusion (show false = true from hf)
  | con2 e x y =>
    injection h with h; subst h
    cases v with
    | con2 f a b =>
      have hf : (e == f && (fits x a && fits y b)) = true := hf
      rw [Bool.and_eq_true] at hf
      exact ⟨[a, b], by rw [eq_of_beq hf.1]; rfl⟩
    | _ => exact Bool.noConfusion (show false = true from hf)
  | _ => cases h
theorem free_con (H : Lines k d rest lines) {c : Cn} (hk : c.kd = k) (hc : c ∉ headsP lines) : Free k d lines (mkP c (List.replicate c.ar .wild)) := by
  subst hk
  obtain ⟨args, ha, hv⟩ := vt_con c d
  refine ⟨kt_wilds c, ⟨_, hv, fits_wilds c ha⟩, fun v hv hf vs => matched_any fun r hr => ?_, by induction c <;> decide⟩
  obtain ⟨p, ps, rfl, a, la, b⟩ := H r hr
  refine ⟨p, ps, rfl, la, ?_⟩
  have hs : ∃ as, v = mkV c as := by
    have : headP [mkP c (List.replicate c.ar .wild)] = some c := by induction c <;> rfl
    exact fits_head [] this hf
  obtain ⟨as, rfl⟩ := hs
  cases hp : headP (p :: ps) with
  | none =>
    cases la with
    | wild => exact .inl rfl
    | int => revert a; induction c <;> intro a <;> cases a
    | chr => revert a; induction c <;> intro a <;> cases a
    | con0 => cases hp
    | con2 => cases hp
  | some e =>
    refine .inr ?_
    cases hff : fits p (mkV c as) with
    | false => rfl
    | true =>
      obtain ⟨bs, hb⟩ := fits_head ps hp hff
      have e1 : c = e := by
        have q := congrArg Val.hd hb
        rw [mkV_hd, mkV_hd] at q
        exact Option.some.inj q
      subst e1
      exact absurd ((heads_mem c lines []).mpr (.inr ⟨_, hr, hp⟩)) hc
theorem no_heads (hh : headsP lines = []) {r : List Pat} (hr : r ∈ lines) : headP r = none := by
  cases h : headP r with
  | none => rfl
  | some c => exact absurd ((heads_mem c lines []).mpr (.inr ⟨r, hr, h⟩)) (by rw [show lines.foldl headStep [] = headsP lines from rfl, hh]; exact List.not_mem_nil)
theorem free_wild (H : Lines k d rest lines) (hh : headsP lines = []) (hl : litsOf lines = []) : Free k d lines .wild := by
  obtain ⟨v, hv⟩ := vt_ex k d
  refine ⟨.wild, ⟨v, hv, rfl⟩, fun v hv hf vs => matched_any fun r hr => ?_, by decide⟩
  obtain ⟨p, ps, rfl, a, la, b⟩ := H r hr
  refine ⟨p, ps, rfl, la, ?_⟩
  have h1 := no_heads hh hr
  cases la with
  | wild => exact .inl rfl
  | int => exact absurd (lits_mem.mpr ⟨_, hr, rfl⟩) (by rw [hl]; exact List.not_mem_nil)
  | chr => exact absurd (lits_mem.mpr ⟨_, hr, rfl⟩) (by rw [hl]; exact List.not_mem_nil)
  | con0 => cases h1
  | con2 => cases h1
theorem free_lit (H : Lines k d rest lines) (hh : headsP lines = []) (hl : litsOf lines ≠ []) {j : Nat} (hj : j ≤ 2) (hq : litAt (k == .I) j ∉ litsOf lines) : Free k d lines (litAt (k == .I) j) := by
  obtain ⟨p0, hp0⟩ := List.exists_mem_of_ne_nil _ hl
  have hk := (H.okLits p0 hp0).2
  have main : ∀ v, fits (litAt (k == .I) j) v = true → ∀ vs, Matched lines (v :: vs) = Matched (withAnyP lines) vs := by
    intro v hf vs
    refine matched_any fun r hr => ?_
    obtain ⟨p, ps, rfl, a, la, b⟩ := H r hr
    refine ⟨p, ps, rfl, la, ?_⟩
    have h1 := no_heads hh hr
    cases la with
    | wild => exact .inl rfl
    | con0 => cases h1
    | con2 => cases h1
    | @int i =>
      refine .inr ?_
      have hm : Pat.int i ∈ litsOf lines := lits_mem.mpr ⟨_, hr, rfl⟩
      rcases hk with rfl | rfl
      · cases v with
        | int x =>
          have : ((j : Int) == x) = true := hf
          have e := eq_of_beq this
          subst e
          show (i == (j : Int)) = false
          cases q : (i == (j : Int)) with
          | false => rfl
          | true => rw [eq_of_beq q] at hm; exact absurd hm hq
        | _ => rfl
      · cases a
    | @chr i =>
      refine .inr ?_
      have hm : Pat.chr i ∈ litsOf lines := lits_mem.mpr ⟨_, hr, rfl⟩
      rcases hk with rfl | rfl
      · cases a
      · cases v with
        | chr x =>
          have : (97 + j == x) = true := hf
          have e := eq_of_beq this
          subst e
          show (i == 97 + j) = false
          cases q : (i == 97 + j) with
          | false => rfl
          | true => rw [eq_of_beq q] at hm; exact absurd hm hq
        | _ => rfl
  have hj3 : j = 0 ∨ j = 1 ∨ j = 2 := by omega
  rcases hk with rfl | rfl
  · refine ⟨.int, ⟨.int j, .int (by omega), ?_⟩, fun v _ hf vs => main v hf vs, by show 1 ≤ 4; decide⟩
    show ((j : Int) == j) = true; simp
  · refine ⟨.chr, ⟨.chr (97 + j), .chr (by omega), ?_⟩, fun v _ hf vs => main v hf vs, by show 1 ≤ 4; decide⟩
    show (97 + j == 97 + j) = true; simp
end
/-! the plain law: what is told, what is reached -/
noncomputable def AllIn (rows : List (List Pat)) (cols : List Col) : Prop := ∀ vs, Vec cols vs → Matched rows vs = true
noncomputable def Told (rows : List (List Pat)) (cols : List Col) (ps : List Pat) : Prop :=
  All2 (fun p (c : Col) => KT c.1 p) ps cols ∧ (∃ vs, Vec cols vs ∧ rowFits ps vs = true) ∧ (∀ vs, Vec cols vs → rowFits ps vs = true → Matched rows vs = false) ∧ (ps.map psize).sum ≤ 4 * meas cols
noncomputable def Reach (rows : List (List Pat)) (cols : List Col) (row : List Pat) : Prop := ∃ vs, Vec cols vs ∧ rowFits row vs = true ∧ Matched rows vs = false
theorem All2.split {α β : Type} {R : α → β → Prop} {xs : List α} {ys zs : List β} (h : All2 R xs (ys ++ zs)) : All2 R (xs.take ys.length) ys ∧ All2 R (xs.drop ys.length) zs := by
  have a := h.take ys.length
  have b := h.drop ys.length
  rw [List.take_left] at a
  rw [List.drop_left] at b
  exact ⟨a, b⟩
theorem fits_mk {c e : Cn} {ps : List Pat} {args : List Val} (hp : ps.length = c.ar) (ha : args.length = e.ar) : fits (mkP c ps) (mkV e args) = (c == e && rowFits ps args) := by
  match ps, args with
  | [], [] => show (c == e) = (c == e && true); rw [Bool.and_true]
  | [], [_] => exact (Cn.ar1 e ha).elim
  | [], [_, _] => show false = (_ && false); rw [Bool.and_false]
  | [], _ :: _ :: _ :: _ => exact (Cn.ar3 e ha).elim
  | [_], _ => exact (Cn.ar1 c hp).elim
  | [_, _], [] => show false = (_ && false); rw [Bool.and_false]
  | [_, _], [_] => exact (Cn.ar1 e ha).elim
  | [x, y], [a, b] => show (c == e && (fits x a && fits y b)) = (c == e && (fits x a && (fits y b && true))); rw [Bool.and_true]
  | [_, _], _ :: _ :: _ :: _ => exact (Cn.ar3 e ha).elim
  | _ :: _ :: _ :: _, _ => exact (Cn.ar3 c hp).elim
theorem rowFits_append : ∀ {ps qs : List Pat} {as vs : List Val}, ps.length = as.length → rowFits (ps ++ qs) (as ++ vs) = (rowFits ps as && rowFits qs vs)
  | [], qs, [], vs, _ => by show rowFits qs vs = (true && rowFits qs vs); rw [Bool.true_and]
  | p :: ps, qs, a :: as, vs, h => by
    show (fits p a && rowFits (ps ++ qs) (as ++ vs)) = (fits p a && rowFits ps as && rowFits qs vs)
    rw [rowFits_append (by simpa using h), Bool.and_assoc]
  | [], _, _ :: _, _, h => by cases h
  | _ :: _, _, [], _, h => by cases h
section
variable {k : Kd} {d : Nat} {rest : List Col} {lines : List (List Pat)}
theorem def_none (H : Lines k d rest lines) (h : AllIn (withAnyP lines) rest) : AllIn lines ((k, d) :: rest) := by
  intro vs hv
  cases hv with
  | cons a b => exact matched_any_le H (h _ b)
theorem def_some {p : Pat} {ps : List Pat} (Fr : Free k d lines p) (h : Told (withAnyP lines) rest ps) : Told lines ((k, d) :: rest) (p :: ps) := by
  obtain ⟨f1, ⟨v, f2, f3⟩, f4, f5⟩ := Fr
  obtain ⟨h1, ⟨vs, h2, h3⟩, h4, h5⟩ := h
  refine ⟨.cons f1 h1, ⟨v :: vs, .cons f2 h2, ?_⟩, fun ws hw hf => ?_, by rw [List.map_cons, List.sum_cons, meas_cons]; omega⟩
  · show (fits p v && rowFits ps vs) = true
    rw [f3, h3]; rfl
  · cases hw with
    | @cons x _ xs _ a b =>
      have hf : (fits p x && rowFits ps xs) = true := hf
      rw [Bool.and_eq_true] at hf
      rw [f4 x a hf.1]
      exact h4 xs b hf.2
theorem con_none (h1 : k ≠ .I) (h2 : k ≠ .C) (H : Lines k d rest lines) (h : ∀ c : Cn, c.kd = k → (1 ≤ d ∨ c.ar = 0) ∧ AllIn (withConP c c.ar lines) (c.fld d ++ rest)) : AllIn lines ((k, d) :: rest) := by
  intro vs hv
  cases hv with
  | @cons v _ vs _ a b =>
    obtain ⟨c, args, rfl, hk, hl, hf⟩ := VT.con a h1 h2
    obtain ⟨hd, hA⟩ := h c hk
    rw [matched_con H.shape hl]
    exact hA _ ((hf hd).append b)
theorem con_some {c : Cn} {ps : List Pat} (H : Lines c.kd d rest lines) (hd : 1 ≤ d ∨ c.ar = 0) (h : Told (withConP c c.ar lines) (c.fld d ++ rest) ps) : Told lines ((c.kd, d) :: rest) (mkP c (ps.take c.ar) :: ps.drop c.ar) := by
  obtain ⟨h1, ⟨vs, h2, h3⟩, h4, h5⟩ := h
  have hlen := h1.length
  rw [List.length_append, c.fld_len] at hlen
  obtain ⟨k1, k2⟩ := h1.split
  rw [c.fld_len] at k1 k2
  have hp : (ps.take c.ar).length = c.ar := by rw [k1.length, c.fld_len]
  have split : ps = ps.take c.ar ++ ps.drop c.ar := (List.take_append_drop _ _).symm
  have hsum : ((mkP c (ps.take c.ar) :: ps.drop c.ar).map psize).sum ≤ (ps.map psize).sum + 2 := by
    have e : (ps.map psize).sum = ((ps.take c.ar).map psize).sum + ((ps.drop c.ar).map psize).sum := by rw [← List.sum_append, ← List.map_append, List.take_append_drop]
    have e2 : psize (mkP c (ps.take c.ar)) ≤ ((ps.take c.ar).map psize).sum + 2 := by
      generalize ps.take c.ar = qs at hp
      match qs with
      | [] => show 1 ≤ _; omega
      | [x] => exact (Cn.ar1 c hp).elim
      | [x, y] => show psize x + psize y + 2 ≤ psize x + (psize y + 0) + 2; omega
      | _ :: _ :: _ :: _ => exact (Cn.ar3 c hp).elim
    rw [List.map_cons, List.sum_cons]
    omega
  refine ⟨.cons ?_ k2, ?_, ?_, by have := meas_fld (r := rest) hd; omega⟩
  · show KT c.kd _
    generalize ps.take c.ar = qs at k1
    cases c with
    | a => cases k1; exact .a
    | nil => cases k1; exact .nil
    | b => cases k1 with | cons x r => cases r with | cons y r => cases r; exact .b x y
    | pr => cases k1 with | cons x r => cases r with | cons y r => cases r; exact .pr x y
    | cons => cases k1 with | cons x r => cases r with | cons y r => cases r; exact .cons x y
  · obtain ⟨v1, v2⟩ := All2.split h2
    rw [c.fld_len] at v1 v2
    have hv : (vs.take c.ar).length = c.ar := by rw [v1.length, c.fld_len]
    refine ⟨mkV c (vs.take c.ar) :: vs.drop c.ar, .cons (Vec.con v1 hd) v2, ?_⟩
    show (fits (mkP c (ps.take c.ar)) (mkV c (vs.take c.ar)) && rowFits (ps.drop c.ar) (vs.drop c.ar)) = true
    rw [fits_mk hp hv, beq_self_eq_true, Bool.true_and, ← rowFits_append (by rw [hp, hv]), List.take_append_drop, List.take_append_drop]
    exact h3
  · intro ws hw hf
    have n1 := Cn.kdI c
    have n2 := Cn.kdC c
    cases hw with
    | @cons v _ vs _ a b =>
      obtain ⟨e, args, rfl, hk, hl, hF⟩ := VT.con a n1 n2
      have hf : (fits (mkP c (ps.take c.ar)) (mkV e args) && rowFits (ps.drop c.ar) vs) = true := hf
      rw [fits_mk hp hl, Bool.and_eq_true, Bool.and_eq_true] at hf
      have e1 : c = e := eq_of_beq hf.1.1
      subst e1
      rw [matched_con H.shape hl]
      refine h4 _ ((hF hd).append b) ?_
      rw [split, rowFits_append (by rw [hp, hl]), hf.1.2, hf.2]; rfl
/-! reached -/
theorem reach_nil {rows : List (List Pat)} (H : Rows [] rows) : Reach rows [] [] ↔ rows = [] := by
  constructor
  · rintro ⟨vs, a, b, m⟩
    cases a
    cases rows with
    | nil => rfl
    | cons r q =>
      have := H r (.head _)
      cases this
      exact absurd m (Bool.noConfusion : ¬ (true = false))
  · rintro rfl
    exact ⟨[], .nil, rfl, rfl⟩
theorem reach_con {c : Cn} {p : Pat} {ps q : List Pat} (H : Lines c.kd d rest lines) (hd : 1 ≤ d ∨ c.ar = 0) (la : LA p) (hh : headP (p :: ps) = some c) (hq : conP c c.ar (p :: ps) = [q]) :
    Reach lines ((c.kd, d) :: rest) (p :: ps) ↔ Reach (withConP c c.ar lines) (c.fld d ++ rest) q := by
  have n1 := Cn.kdI c
  have n2 := Cn.kdC c
  have fit : ∀ (args vs : List Val), args.length = c.ar → rowFits (p :: ps) (mkV c args :: vs) = rowFits q (args ++ vs) := fun args vs hl => by rw [fit_con la hl, hq]; simp
  constructor
  · rintro ⟨ws, hw, hf, hm⟩
    cases hw with
    | @cons v _ vs _ a b =>
      obtain ⟨e, args, rfl, hk, hl, hF⟩ := VT.con a n1 n2
      have hf' : (fits p (mkV e args) && rowFits ps vs) = true := hf
      rw [Bool.and_eq_true] at hf'
      obtain ⟨as, ee⟩ := fits_head ps hh hf'.1
      have e1 : c = e := by
        have q := congrArg Val.hd ee
        rw [mkV_hd, mkV_hd] at q
        exact (Option.some.inj q).symm
      subst e1
      refine ⟨args ++ vs, (hF hd).append b, ?_, ?_⟩
      · rw [← fit args vs hl]; exact hf
      · rw [← matched_con H.shape hl]; exact hm
  · rintro ⟨ws, hw, hf, hm⟩
    obtain ⟨v1, v2⟩ := All2.split hw
    rw [c.fld_len] at v1 v2
    have hv : (ws.take c.ar).length = c.ar := by rw [v1.length, c.fld_len]
    refine ⟨mkV c (ws.take c.ar) :: ws.drop c.ar, .cons (Vec.con v1 hd) v2, ?_, ?_⟩
    · rw [fit _ _ hv, List.take_append_drop]; exact hf
    · rw [matched_con H.shape hv, List.take_append_drop]; exact hm
theorem reach_wild {c0 : Cn} {ps : List Pat} (H : Lines c0.kd d rest lines) (hc : ∀ x : Cn, x.kd = c0.kd → x ∈ headsP lines) :
    Reach lines ((c0.kd, d) :: rest) (.wild :: ps) ↔ ∃ c ∈ headsP lines, Reach (withConP c c.ar lines) (c.fld d ++ rest) (List.replicate c.ar .wild ++ ps) := by
  have n1 := Cn.kdI c0
  have n2 := Cn.kdC c0
  constructor
  · rintro ⟨ws, hw, hf, hm⟩
    cases hw with
    | @cons v _ vs _ a b =>
      obtain ⟨e, args, rfl, hk, hl, hF⟩ := VT.con a n1 n2
      have hm' := hc e hk
      refine ⟨e, hm', args ++ vs, (hF (H.head_kd hm').2).append b, ?_, ?_⟩
      · rw [rowFits_wilds _ _ _ _ hl]; exact hf
      · rw [← matched_con H.shape hl]; exact hm
  · rintro ⟨c, hcm, ws, hw, hf, hm⟩
    obtain ⟨hk, hd⟩ := H.head_kd hcm
    obtain ⟨v1, v2⟩ := All2.split hw
    rw [c.fld_len] at v1 v2
    have hv : (ws.take c.ar).length = c.ar := by rw [v1.length, c.fld_len]
    refine ⟨mkV c (ws.take c.ar) :: ws.drop c.ar, .cons (by rw [← hk]; exact Vec.con v1 hd) v2, ?_, ?_⟩
    · rw [← List.take_append_drop c.ar ws, rowFits_wilds _ _ _ _ hv] at hf; exact hf
    · rw [matched_con H.shape hv, List.take_append_drop]; exact hm
theorem reach_any {p : Pat} {ps : List Pat} (H : Lines k d rest lines) (Fr : Free k d lines p) : Reach lines ((k, d) :: rest) (.wild :: ps) ↔ Reach (withAnyP lines) rest ps := by
  obtain ⟨f1, ⟨v, f2, f3⟩, f4, _⟩ := Fr
  constructor
  · rintro ⟨ws, hw, hf, hm⟩
    cases hw with
    | @cons x _ xs _ a b =>
      refine ⟨xs, b, hf, ?_⟩
      cases h : Matched (withAnyP lines) xs with
      | false => rfl
      | true => rw [matched_any_le (v := x) H h] at hm; exact hm
  · rintro ⟨ws, hw, hf, hm⟩
    exact ⟨v :: ws, .cons f2 hw, hf, by rw [f4 v f2 f3]; exact hm⟩
theorem fits_lit_eq {q : Pat} (hq : (∃ i, q = .int i) ∨ ∃ c, q = .chr c) {v : Val} (hf : fits q v = true) : v = litVal q := by
  rcases hq with ⟨i, rfl⟩ | ⟨c, rfl⟩
  · cases v with
    | int j => rw [eq_of_beq (show (i == j) = true from hf)]; rfl
    | _ => cases hf
  · cases v with
    | chr j => rw [eq_of_beq (show (c == j) = true from hf)]; rfl
    | _ => cases hf
theorem reach_lit {q : Pat} {ps : List Pat} (H : Lines k d rest lines) (hw : WT k d q) (hq : (∃ i, q = .int i) ∨ ∃ c, q = .chr c) : Reach lines ((k, d) :: rest) (q :: ps) ↔ Reach (withLitP q lines) rest ps := by
  have hv : VT k (d + 1) (litVal q) ∧ fits q (litVal q) = true := by
    rcases hq with ⟨i, rfl⟩ | ⟨c, rfl⟩
    · cases hw with | int h => exact ⟨.int (by omega), by show (i == i) = true; simp⟩
    · cases hw with | chr h => exact ⟨.chr (by omega), by show (c == c) = true; simp⟩
  constructor
  · rintro ⟨ws, hw, hf, hm⟩
    cases hw with
    | @cons x _ xs _ a b =>
      have hf : (fits q x && rowFits ps xs) = true := hf
      rw [Bool.and_eq_true] at hf
      have := fits_lit_eq hq hf.1
      subst this
      exact ⟨xs, b, hf.2, by rw [← matched_lit H.shape hq]; exact hm⟩
  · rintro ⟨ws, hw, hf, hm⟩
    refine ⟨litVal q :: ws, .cons hv.1 hw, ?_, by rw [matched_lit H.shape hq]; exact hm⟩
    show (fits q (litVal q) && rowFits ps ws) = true
    rw [hv.2, hf]; rfl
end
/-! Watcher.not_told -/
noncomputable def WatchAt (prog : Program) (w : World) (g : Kn) (v : Value) : Prop := ∃ a k, v = .ref a ∧ Inst g a 455 [("known", k)] ∧ KnownAt prog w g k
theorem WatchAt.mono {prog : Program} {w : World} {g g' : Kn} {v : Value} (X : WatchAt prog w g v) (up : Up g g') : WatchAt prog w g' v :=
  let ⟨a, k, e, I, K⟩ := X; ⟨a, k, e, I.mono up, K.mono up⟩
theorem KnownAt.handed {prog : Program} {w : World} {g : Kn} {v : Value} (K : KnownAt prog w g v) : handedIn v = true := by obtain ⟨_, _, e, _⟩ := K; rw [e]; rfl
theorem k_siblings {w : World} : findIn (K0 w.params) (.ref 362) "siblings" = some (some (.ref 359)) ∧ typeIn (K0 w.params) (.ref 359) = some (.type "function") ∧ keepIn (K0 w.params) (.ref 359) = true := ⟨by kernel_rfl, by kernel_rfl, by kernel_rfl⟩
theorem k_arity {w : World} : findIn (K0 w.params) (.ref 362) "arity" = some (some (.ref 347)) ∧ typeIn (K0 w.params) (.ref 347) = some (.type "function") ∧ keepIn (K0 w.params) (.ref 347) = true := ⟨by kernel_rfl, by kernel_rfl, by kernel_rfl⟩
theorem PatAt.mk {g : Kn} {a : Addr} {c : Cn} {t : Tok} {v : Value} {xs : List Value} {ps : List Pat} (I : Inst g a 153 [("place", .none), ("name", .str (Cn.name c) t), ("args", v)]) (J : IsL g v xs) (H : All2 (PatAt g) xs ps) (hl : ps.length = c.ar) : PatAt g (.ref a) (mkP c ps) := by
  have h : ps.length = 0 ∨ ps.length = 2 := by rw [hl]; induction c <;> simp [Cn.ar]
  rcases h with h | h
  · have : ps = [] := List.eq_nil_of_length_eq_zero h
    subst this; cases H; exact .con0 I J
  · match ps, h with
    | [x, y], _ => cases H with | cons a r => cases r with | cons b r => cases r; exact .con2 I J a b
section
variable {prog : Program} {w : World} {A : Around} {E : Value → Shared → Prop} {s : Shared} {env : Env} {U : List Addr} {g₀ g : Kn} {h₀ h : Heap} {L : Addr} {t : Nat} {l : List (Str × Value)} {μ : List (Addr × Obj)}
/-- self.known.siblings(..) -/
theorem m_sibs {kv : Value} {pl : Sem Bool} {Q : Value × List Value → Shared → Prop} (F : Fm U w g₀ h₀ L g h l μ) (K : KnownAt prog w g kv) (hQ : Q (.ref 359, [kv]) (St s h t)) : wpAny (model prog w) A (getMethod kv "siblings" pl) Q E (St s h t) := by
  obtain ⟨a, c, rfl, I, _⟩ := K
  exact m_method F I rfl (List.all_eq_true.mp clsOk _ (by decide)) k_siblings.1 k_siblings.2.1 hQ
theorem m_arity {kv : Value} {pl : Sem Bool} {Q : Value × List Value → Shared → Prop} (F : Fm U w g₀ h₀ L g h l μ) (K : KnownAt prog w g kv) (hQ : Q (.ref 347, [kv]) (St s h t)) : wpAny (model prog w) A (getMethod kv "arity" pl) Q E (St s h t) := by
  obtain ⟨a, c, rfl, I, _⟩ := K
  exact m_method F I rfl (List.all_eq_true.mp clsOk _ (by decide)) k_arity.1 k_arity.2.1 hQ
theorem m_known {wv kv : Value} {a : Addr} {expr : Bool} {Q : Value → Shared → Prop} (F : Fm U w g₀ h₀ L g h l μ) (I : Inst g a 455 [("known", kv)]) (K : KnownAt prog w g kv) (hQ : ∀ t', Q kv (St s h t')) : wpAny (model prog w) A (getAttr (.ref a) "known" expr) Q E (St s h t) :=
  m_getattr F I rfl (List.all_eq_true.mp clsOk _ (by decide)) (fine_watcher.a _ (by repeat constructor)) K.handed hQ
end
theorem Cn.ar_le (c : Cn) : c.ar ≤ 2 := by induction c <;> decide

theorem not_told_spec {prog : Program} {w : World} {A : Around} {s : Shared} {g : Kn} {h : Heap} {t : Nat} {wv v hv : Value} {rows : List (List Pat)} {hs : List Value} {heads : List Cn} (b : Bool) (R : Room A 15) (gd : Gd w g) (sub : Sub g h)
    (WA : WatchAt prog w g wv) (H : RowsAt g v rows) (hS : Sized rows) (IH : IsL g hv hs) (HH : All2 StrsAt hs heads) (hz : heads.length ≤ 1000) (hL : ∀ p ∈ litsOf rows, okLit b p) (hne : ∀ c r, heads = c :: r → ∃ d ∈ c.sibs, d ∉ heads) :
    wpAny (model prog w) A (call (.ref 445) [wv, v, hv]) (Ret [] g s h (fun g' _ r => ∃ p, PatAt g' r p ∧
      ((∃ c r d, heads = c :: r ∧ d ∈ c.sibs ∧ d ∉ heads ∧ p = mkP d (List.replicate d.ar .wild)) ∨ (heads = [] ∧ litsOf rows ≠ [] ∧ ∃ k, k ≤ 2 ∧ litAt b k ∉ litsOf rows ∧ p = litAt b k) ∨ (heads = [] ∧ litsOf rows = [] ∧ p = .wild)))) NoE (St s h t) := by
  refine' m_enter [("heads", hv), ("lines", v), ("self", wv)] gd sub ?ho ?hcd ?hroom ?hbind ?hloc ?hcell ?hco ?hgen ?hk ?hb
  walk_at "enter"
  try clear F
  intro L h₁ t₁ F
  refine' hideF ?_
  intro _ _
  obtain ⟨wa, kv, rfl, WI, K⟩ := WA
  repeat walk_at "m"
  walk_at "kx"; refine' m_newlist F (Nat.le_of_ble_eq_true rfl) ?_
  try clear F
  intro a h₂ F ha
  walk_at "kx"; refine' l_nenil (R.dl (by decide)) (IH.list F) ⟨_, rfl, muL F⟩ ?_
  replace F := F.drop
  repeat walk_at "m"
  walk_at "kx"; refine ⟨fun hb => ?_, fun hb => ?_⟩
  · cases HH with
    | nil => exact absurd hb (by decide)
    | @cons hv0 c hsr hr a0 r0 =>
      obtain ⟨tk0, rfl⟩ := a0
      repeat walk_at "m"
      walk_at "kx"; refine' m_known F WI K ?_ <;> try exact .none
      intro t₂
      walk_at "kx"; refine' m_sibs F K ?_
      refine ⟨k_siblings.2.2, ?_⟩
      repeat walk_at "m"
      walk_at "kx"; refine' l_item F IH (by decide) (by decide) rfl (by intro _; with_unfolding_all rfl) ?_
      repeat walk_at "m"
      walk_at "kx"; refine ⟨F.k, ?_⟩
      walk_at "kx"; refine m_use (siblings_spec (R.dl (by decide)) F.gd F.sub K) fun _ _ r1 g₁ h₃ t₃ G1 o1 => ?_
      obtain ⟨ss, IS, HS⟩ := o1
      replace F := F.call G1
      have hl := HS.length
      walk_at "kx"; refine' it_list R.hh F IS ?_
      try clear F
      intro I o h₄ fp T F It T0 hfp
      walk_at "kx"; refine' for_run It F T0 hfp ?hx rfl rfl (fun i g' l' μ' => (l' = ([("heads", hv), ("lines", v), ("self", .ref wa)] : List (Str × Value)) ∨ ∃ u, l' = ([("name", u), ("heads", hv), ("lines", v), ("self", .ref wa)] : List (Str × Value))) ∧
        μ' = [] ∧ ∀ d ∈ c.sibs.take i, d ∈ c :: hr) ⟨.inl rfl, rfl, by simp⟩ ?turn ?done
      case hx => exact rfl
      case turn =>
        try clear F
        intro i v' g' h' t' l' μ' o' hi hP up hJ F Kp kn kr
        obtain ⟨hl', rfl, hJ⟩ := hJ
        replace F : Fm _ _ _ _ _ _ _ (([("name", v'), ("heads", hv), ("lines", v), ("self", .ref wa)] : List (Str × Value))) _ := F.relook fun y => by
          rcases hl' with rfl | ⟨u, rfl⟩
          · rfl
          · exact lk_shadow y
        obtain ⟨d, e2, tkd, rfl⟩ := HS.get hP
        have IH2 := (IH.mono G1.up).mono up
        have HH2 : All2 StrsAt (.str c.name tk0 :: hsr) (c :: hr) := .cons ⟨tk0, rfl⟩ r0
        repeat walk_at "m"
        walk_at "kx"; refine' l_notin (isName d) (IH2.list F) (eq_names HH2 d tkd) ?_
        rw [any_heads HH2]
        repeat walk_at "m"
        walk_at "kx"; refine ⟨fun hb3 => ?_, fun hb3 => ?_⟩
        · have hd : d ∉ c :: hr := by simpa using hb3
          repeat walk_at "m"
          walk_at "kx"; refine' m_known F ((WI.mono G1.up).mono up) ((K.mono G1.up).mono up) ?_ <;> try exact .none
          intro t₅
          walk_at "kx"; refine' m_arity F ((K.mono G1.up).mono up) ?_
          refine ⟨k_arity.2.2, ?_⟩
          repeat walk_at "m"
          walk_at "kx"; refine ⟨F.k, ?_⟩
          walk_at "kx"; refine m_use (arity_spec (R.dl (by decide)) F.gd F.sub ((K.mono G1.up).mono up)) fun _ _ r2 g₂ h₅ t₅ G2 o2 => ?_
          obtain ⟨u2, rfl⟩ := o2
          replace F := F.call G2
          have := Cn.ar_le d
          repeat walk_at "m"
          walk_at "kx"; refine' r_call1 F ?_
          try clear F
          intro r h₃ t₃ a1 a2 a3 F hr
          walk_at "kx"; refine' it_range R.hh F hr (by decide) (by omega) (by omega) ?_
          try clear F
          intro I2 o2 h₄ fp2 T2 F It2 T20 hfp2
          walk_at "kx"; refine' comp_val (μm := []) (μr := _ :: _) It2 (by omega) F T20 hfp2 ?hcell ?hkind ?hx (fun i g' μ' ys => μ' = [] ∧ All2 (PatAt g') ys (List.replicate i .wild)) ⟨rfl, .nil⟩ ?turn2 ?hJ ?done2
          case hcell => decide
          case hkind => exact rfl
          case hx => exact rfl
          case hJ => intro i g' μ' ys h; rw [h.1]
          case turn2 =>
            try clear F
            intro C D' i' v2 g2 h'' t'' μ2 ys2 m2 o'' hi2 hP2 up2 hJ2 hC F KT KN kt kn
            obtain ⟨rfl, B2⟩ := hJ2
            refine ifs_nil ⟨fun _ => ?_, fun e => Bool.noConfusion e⟩
            repeat walk_at "m"
            walk_at "kx"; refine ⟨F.k, ?_⟩
            walk_at "kx"; refine m_use (mk_wild (R.dl (by decide)) F.gd F.sub) fun _ _ r1 g₁ h₅ t₅ G1 o1 => ?_
            obtain ⟨a1, rfl, J1⟩ := o1
            walk_at "kx"; first | refine kt _ g₁ _ _ ([]) G1.up (F.call G1) ⟨rfl, ?_⟩ | refine kn g₁ _ _ ([]) G1.up (F.call G1) ⟨rfl, ?_⟩
            rw [List.replicate_succ']
            exact (B2.imp fun _ _ z => z.mono G1.up).snoc (.wild J1)
          case done2 =>
            try clear F
            intro D' g2 h'' t'' μ2 ys2 m2 up2 hJ2 hy2 hD2 F
            obtain ⟨rfl, B2⟩ := hJ2
            have Fz := F.lay hD2
            clear F
            obtain ⟨g₃, up3, IL, F⟩ := Fz
            repeat walk_at "m"
            walk_at "kx"; refine ⟨F.k, ?_⟩
            walk_at "kx"; refine m_use (mk_con (R.dl (by decide)) F.gd F.sub) fun _ _ r3 g₄ h₅ t₅ G4 o4 => ?_
            obtain ⟨a4, rfl, J4⟩ := o4
            replace F := F.call G4
            rw [show ((d.ar : Int) - 0).toNat = d.ar by omega] at B2
            walk_at "kx"; exact ret_ F ⟨_, PatAt.mk J4 (IL.mono G4.up) (B2.imp fun _ _ z => (z.mono up3).mono G4.up) (by simp), .inl ⟨c, _, d, rfl, List.mem_of_getElem? e2, hd, rfl⟩⟩
        · repeat walk_at "m"
          walk_at "kx"; refine kn g' _ _ _ _ (fun a y e => e) F ⟨.inr ⟨_, rfl⟩, rfl, ?_⟩
          rw [take_snoc e2]
          intro d' hd'
          rcases List.mem_append.mp hd' with q | q
          · exact hJ d' q
          · rw [List.mem_singleton.mp q]; by_cases q2 : d ∈ c :: hr; exact q2; exact absurd hb3 (by simpa using q2)
      case done =>
        try clear F
        intro g' h' t' l' μ' up hJ F
        obtain ⟨hl', rfl, hJ⟩ := hJ
        obtain ⟨d, hd1, hd2⟩ := hne c hr rfl
        rw [List.take_of_length_le (by omega)] at hJ
        exact absurd (hJ d hd1) hd2
  · cases HH with
    | cons _ _ => exact absurd hb (by simp)
    | nil =>
      repeat walk_at "m"
      obtain ⟨vs, J, P⟩ := H
      have hl := P.length
      walk_at "kx"; refine' it_list R.hh F J ?_
      try clear F
      intro I o h₂ fp T F It T0 hfp
      walk_at "kx"; refine' comp_val (μm := []) (μr := []) It (by have := hS.1; omega) F T0 hfp ?hcell ?hkind ?hx (fun i g' μ' ys => μ' = [] ∧ ys.length = (litsOf (rows.take i)).length) ⟨rfl, rfl⟩ ?turn ?hJ ?done
      case hcell => decide
      case hkind => exact rfl
      case hx => exact rfl
      case hJ => intro i g' μ' ys h; rw [h.1]
      case turn =>
        try clear F
        intro C D i v g' h' t' μ' ys m o' hi hP up hJ hC F KT KN kt kn
        obtain ⟨rfl, A2⟩ := hJ
        obtain ⟨p, ps, x, xs, e2, K, X, XS, hps, hxs, hpf⟩ := row_at P hS hP up
        have e3 : litsOf (rows.take (i + 1)) = litsOf (rows.take i) ++ litOf (p :: ps) := flatMap_snoc e2
        refine ifs_one ?_
        repeat walk_at "m"
        walk_at "kx"; refine' l_item F K (by decide) (by simp <;> omega) rfl (by intro _; with_unfolding_all rfl) ?_
        repeat walk_at "m"
        walk_at "kx"; refine' m_isiP F X (by decide) ?_; intro t₂
        repeat walk_at "m"
        walk_at "kx"; refine ⟨fun hb => ?_, fun hb => ?_⟩
        · repeat walk_at "m"
          walk_at "kx"; first | refine kt _ g' _ _ ([]) (fun _ _ e => e) F ⟨rfl, ?_⟩ | refine kn g' _ _ ([]) (fun _ _ e => e) F ⟨rfl, ?_⟩
          rw [e3, litOf_eq, if_pos hb, List.length_append, List.length_append, A2]; rfl
        · walk_at "kx"; first | refine kt _ g' _ _ ([]) (fun _ _ e => e) F ⟨rfl, ?_⟩ | refine kn g' _ _ ([]) (fun _ _ e => e) F ⟨rfl, ?_⟩
          rw [e3, litOf_eq, if_neg (by rw [hb]; exact Bool.false_ne_true), List.append_nil]
          exact A2
      case done =>
        try clear F
        intro D g' h' t' μ' ys m up hJ hy hD F
        obtain ⟨rfl, A2⟩ := hJ
        rw [List.take_of_length_le (by omega)] at A2
        repeat walk_at "m"
        walk_at "kx"; refine' m_newlist F (Nat.le_of_ble_eq_true rfl) ?_
        try clear F
        intro a h₂ F ha
        walk_at "kx"; refine' l_nenil (R.dl (by decide)) ⟨_, rfl, muL F.swap⟩ ⟨_, rfl, muL F⟩ ?_
        replace F := F.drop.drop
        repeat walk_at "m"
        walk_at "kx"; refine ⟨fun hb => ?_, fun hb => ?_⟩
        · have hne2 : litsOf rows ≠ [] := by
            intro q; rw [q] at A2
            have : ys = [] := List.eq_nil_of_length_eq_zero A2
            subst this; exact absurd hb (by decide)
          repeat walk_at "m"
          walk_at "kx"; refine ⟨F.k, ?_⟩
          walk_at "kx"; refine m_use (other_literal_spec b (R.dl (by decide)) F.gd F.sub (RowsAt.mono ⟨vs, J, P⟩ up) hS hL hne2) fun _ _ r1 g₁ h₂ t₂ G1 o1 => ?_
          obtain ⟨k, k1, k2, k3⟩ := o1
          walk_at "kx"; exact ret_ (F.call G1) ⟨_, k3, .inr (.inl ⟨rfl, hne2, k, k1, k2, rfl⟩)⟩
        · have hne2 : litsOf rows = [] := by
            have : ys = [] := by cases ys with | nil => rfl | cons _ _ => exact absurd hb (by simp)
            subst this
            exact List.eq_nil_of_length_eq_zero A2.symm
          repeat walk_at "m"
          walk_at "kx"; refine ⟨F.k, ?_⟩
          walk_at "kx"; refine m_use (mk_wild (R.dl (by decide)) F.gd F.sub) fun _ _ r1 g₁ h₂ t₂ G1 o1 => ?_
          obtain ⟨a1, rfl, J1⟩ := o1
          walk_at "kx"; exact ret_ (F.call G1) ⟨_, .wild J1, .inr (.inr ⟨rfl, hne2, rfl⟩)⟩
/-! Watcher.missing -/
theorem lk_del {x : Str} {u : Value} {r : List (Str × Value)} (pre : List (Str × Value)) (h : (pre.lookup x).isSome = true) (y : Str) : (pre ++ (x, u) :: r).lookup y = (pre ++ r).lookup y := by
  rw [List.lookup_append, List.lookup_append]
  by_cases e : y = x
  · subst e
    cases q : pre.lookup y with
    | none => rw [q] at h; cases h
    | some v => rfl
  · have : (y == x) = false := by simpa using e
    rw [List.lookup_cons, this]
section
variable {prog : Program} {w : World} {A : Around} {E : Value → Shared → Prop} {sh : Shared}
theorem n_is {Q : Value → Shared → Prop} (h : Q (.bool true) sh) : wpAny (model prog w) A (compareOp .Is .none .none) Q E sh := is_none_none h
theorem n_isn {a : Addr} {Q : Value → Shared → Prop} (h : Q (.bool false) sh) : wpAny (model prog w) A (compareOp .Is (.ref a) .none) Q E sh := is_none_ne (by intro x; cases x) h
theorem n_not {Q : Value → Shared → Prop} (h : Q (.bool false) sh) : wpAny (model prog w) A (compareOp .IsNot .none .none) Q E sh := wpAny_isNot_self rfl h
theorem n_notn {a : Addr} {Q : Value → Shared → Prop} (h : Q (.bool true) sh) : wpAny (model prog w) A (compareOp .IsNot (.ref a) .none) Q E sh := isnot_none_ne (by intro x; cases x) h
end
noncomputable def MissOut (rows : List (List Pat)) (cols : List Col) (g : Kn) (r : Value) : Prop := (r = .none ∧ AllIn rows cols) ∨ ∃ ps, RowAt g r ps ∧ Told rows cols ps
theorem MissOut.back {lines rows : List (List Pat)} {cols : List Col} {g : Kn} {r : Value} (H : MissOut lines cols g r) (e : ∀ vs, Matched lines vs = Matched rows vs) : MissOut rows cols g r := by
  rcases H with ⟨a, b⟩ | ⟨ps, a, b, c, d, f⟩
  · exact .inl ⟨a, fun vs hv => (e vs).symm.trans (b vs hv)⟩
  · exact .inr ⟨ps, a, b, c, fun vs hv hf => (e vs).symm.trans (d vs hv hf), f⟩
noncomputable def MissOk (prog : Program) (w : World) (n : Nat) : Prop := ∀ (A : Around) (s : Shared) (g : Kn) (h : Heap) (t : Nat) (wv v : Value) (tk : Tok) (rows : List (List Pat)) (cols : List Col), Room A (40 + 4 * n) → Gd w g → (Sub g h) →
  WatchAt prog w g wv → RowsAt g v rows → Rows cols rows → rows.length ≤ 1000 → meas cols ≤ n → n ≤ 100 →
  wpAny (model prog w) A (call (.ref 433) [wv, v, .int (cols.length : Nat) tk]) (Ret [] g s h (fun g' _ r => MissOut rows cols g' r)) NoE (St s h t)
theorem w_missing {w : World} : findIn (K0 w.params) (.ref 455) "missing" = some (some (.ref 433)) ∧ typeIn (K0 w.params) (.ref 433) = some (.type "function") ∧ keepIn (K0 w.params) (.ref 433) = true := ⟨by kernel_rfl, by kernel_rfl, by kernel_rfl⟩
theorem w_bycon {w : World} : findIn (K0 w.params) (.ref 455) "missing_by_con" = some (some (.ref 440)) ∧ typeIn (K0 w.params) (.ref 440) = some (.type "function") ∧ keepIn (K0 w.params) (.ref 440) = true := ⟨by kernel_rfl, by kernel_rfl, by kernel_rfl⟩
theorem w_nottold {w : World} : findIn (K0 w.params) (.ref 455) "not_told" = some (some (.ref 445)) ∧ typeIn (K0 w.params) (.ref 445) = some (.type "function") ∧ keepIn (K0 w.params) (.ref 445) = true := ⟨by kernel_rfl, by kernel_rfl, by kernel_rfl⟩
theorem w_reached {w : World} : findIn (K0 w.params) (.ref 455) "is_reached" = some (some (.ref 452)) ∧ typeIn (K0 w.params) (.ref 452) = some (.type "function") ∧ keepIn (K0 w.params) (.ref 452) = true := ⟨by kernel_rfl, by kernel_rfl, by kernel_rfl⟩
theorem w_ok {w : World} : ClsOk (K0 w.params) 455 = true := List.all_eq_true.mp clsOk _ (by decide)
theorem flat_len {α β : Type} (f : α → List β) (h : ∀ x, (f x).length ≤ 1) : ∀ xs : List α, (xs.flatMap f).length ≤ xs.length
  | [] => Nat.le_refl _
  | x :: r => by rw [List.flatMap_cons, List.length_append, List.length_cons]; have := h x; have := flat_len f h r; omega
theorem ite_len {α : Type} {c : Prop} [Decidable c] {x : α} : (if c then [x] else []).length ≤ 1 := by
  split
  · exact Nat.le_refl _
  · exact Nat.zero_le _
theorem conP_len (c : Cn) (n : Nat) (r : List Pat) : (conP c n r).length ≤ 1 := by
  cases r with
  | nil => exact Nat.zero_le _
  | cons p ps => cases p <;> first | exact Nat.zero_le _ | exact Nat.le_refl _ | exact ite_len
theorem anyP_len (r : List Pat) : (anyP r).length ≤ 1 := by
  cases r with
  | nil => exact Nat.zero_le _
  | cons p ps => cases p <;> first | exact Nat.zero_le _ | exact Nat.le_refl _
theorem litP_len (q : Pat) (r : List Pat) : (litP q r).length ≤ 1 := by
  cases r with
  | nil => exact Nat.zero_le _
  | cons p ps => rw [litP_eq]; split; exact Nat.le_refl _; exact Nat.zero_le _
theorem meas_mem {c : Col} {cols : List Col} (h : c ∈ cols) : 2 * c.2 + 1 ≤ meas cols := by
  induction cols with
  | nil => cases h
  | cons x r ih =>
    rw [meas_cons]
    rcases List.mem_cons.mp h with rfl | h
    · omega
    · have := ih h; omega
theorem rt_fine {cols : List Col} {r : List Pat} (H : RT cols r) (hm : meas cols ≤ 1000) : ∀ p ∈ r, p.fine := by
  induction H with
  | nil => intro p hp; cases hp
  | @cons x c _ cs a _ ih =>
    intro p hp
    rw [meas_cons] at hm
    rcases List.mem_cons.mp hp with rfl | hp
    · exact a.fine (by omega)
    · exact ih (by omega) p hp
theorem Rows.sized {cols : List Col} {rows : List (List Pat)} (H : Rows cols rows) (hl : rows.length ≤ 1000) (hm : meas cols ≤ 1000) (hne : cols ≠ []) : Sized rows := by
  refine ⟨hl, fun r hr => ?_⟩
  have R := H r hr
  have e := R.length
  refine ⟨fun q => ?_, ?_, rt_fine R hm⟩
  · subst q
    cases R
    exact hne rfl
  · rw [e]; exact Nat.le_trans (meas_len cols) hm
theorem RowsAt.nil {g : Kn} {v : Value} {rows : List (List Pat)} (H : RowsAt g v rows) : ∃ vs, IsL g v vs ∧ vs.isEmpty = rows.isEmpty := by
  obtain ⟨vs, I, P⟩ := H
  exact ⟨vs, I, by cases P <;> rfl⟩

theorem by_con_spec {n : Nat} {prog : Program} {w : World} (ih : MissOk prog w n) {A : Around} {s : Shared} {g : Kn} {h : Heap} {t : Nat} {wv v nv : Value} {tk : Tok} {lines : List (List Pat)} {k : Kd} {d : Nat} {rest : List Col} {ns : List Value} {c0 : Cn}
    (R : Room A (42 + 4 * n)) (gd : Gd w g) (sub : Sub g h) (WA : WatchAt prog w g wv) (H : RowsAt g v lines) (HL : Lines k d rest lines) (hl : lines.length ≤ 1000) (hm : meas ((k, d) :: rest) ≤ n + 1) (hn : n ≤ 100)
    (IN : IsL g nv ns) (HN : All2 StrsAt ns c0.sibs) (hk0 : c0.kd = k) (hd : ∀ c : Cn, c.kd = k → 1 ≤ d ∨ c.ar = 0) :
    wpAny (model prog w) A (call (.ref 440) [wv, v, .int ((rest.length + 1 : Nat) : Int) tk, nv]) (Ret [] g s h (fun g' _ r => MissOut lines ((k, d) :: rest) g' r)) NoE (St s h t) := by
  refine' m_enter [("names", nv), ("many", .int ((rest.length + 1 : Nat) : Int) tk), ("lines", v), ("self", wv)] gd sub ?ho ?hcd ?hroom ?hbind ?hloc ?hcell ?hco ?hgen ?hk ?hb
  walk_at "enter"
  try clear F
  intro L h₁ t₁ F
  refine' hideF ?_
  intro _ _
  have hnl := HN.length
  have hS := HL.rows.sized hl (by omega) (by simp)
  repeat walk_at "m"
  walk_at "kx"; refine' it_list R.hh F IN ?_
  try clear F
  intro I o h₂ fp T F It T0 hfp
  walk_at "kx"; refine' for_run It F T0 hfp ?hx rfl rfl (fun i g' l' μ' => (∃ junk, l' = (("names", nv) :: ("many", .int ((rest.length + 1 : Nat) : Int) tk) :: ("lines", v) :: ("self", wv) :: junk : List (Str × Value))) ∧
    μ' = [] ∧ ∀ c ∈ c0.sibs.take i, AllIn (withConP c c.ar lines) (c.fld d ++ rest)) ⟨⟨[], rfl⟩, rfl, by simp⟩ ?turn ?done
  case hx => exact rfl
  case turn =>
    try clear F
    intro i v' g' h' t' l' μ' o' hi hP up hJ F Kp kn kr
    obtain ⟨⟨junk, rfl⟩, rfl, hJ⟩ := hJ
    obtain ⟨c, e2, tkc, rfl⟩ := HN.get hP
    have hkc : c.kd = k := ((Cn.sibs_iff c0 c).mp (List.mem_of_getElem? e2)).trans hk0
    replace WA := WA.mono up
    replace H := H.mono up
    obtain ⟨wa, kv, rfl, WI, K⟩ := WA
    have hcar := Cn.ar_le c
    repeat walk_at "m"
    walk_at "kx"; refine' m_known F WI K ?_ <;> try exact .none
    intro t₅
    walk_at "kx"; refine' m_arity F K ?_
    refine ⟨k_arity.2.2, ?_⟩
    repeat walk_at "m"
    walk_at "kx"; refine ⟨F.k, ?_⟩
    walk_at "kx"; refine m_use (arity_spec (R.dl (by omega)) F.gd F.sub K) fun _ _ r2 g₂ h₅ t₅ G2 o2 => ?_
    obtain ⟨uu2, rfl⟩ := o2
    replace F := F.call G2
    replace WI := WI.mono G2.up
    replace K := K.mono G2.up
    replace H := H.mono G2.up
    repeat walk_at "m"
    rename Fm _ _ _ _ _ _ _ _ _ => F
    walk_at "kx"; refine' m_method F WI rfl w_ok w_missing.1 w_missing.2.1 ?_
    refine ⟨w_missing.2.2, ?_⟩
    repeat walk_at "m"
    walk_at "kx"; refine ⟨F.k, ?_⟩
    walk_at "kx"; refine m_use (with_con_spec (R.dl (by omega)) F.gd F.sub H hS hcar) fun _ _ r3 g₃ h₆ t₆ G3 o3 => ?_
    replace F := F.call G3
    replace WI := WI.mono G3.up
    replace K := K.mono G3.up
    repeat walk_at "m"
    walk_at "kx"; refine ⟨F.k, ?_⟩
    have em : (((c.ar : Int) + ((rest.length + 1 : Nat) : Int)) - 1) = (((c.fld d ++ rest).length : Nat) : Int) := by rw [List.length_append, c.fld_len]; omega
    rw [em]
    walk_at "kx"; refine m_use (ih _ s g₃ _ _ _ _ _ _ (c.fld d ++ rest) (R.dl (by omega)) F.gd F.sub ⟨wa, kv, rfl, WI, K⟩ o3 (HL.con hkc) (Nat.le_trans (flat_len _ (conP_len c c.ar) lines) hl) (by have := meas_fld (r := rest) (hd c hkc); rw [hkc] at this; omega) hn) fun _ _ r4 g₄ h₇ t₇ G4 o4 => ?_
    replace F := F.call G4
    repeat walk_at "m"
    rename Fm _ _ _ _ _ _ _ _ _ => F
    rcases o4 with ⟨rfl, hA⟩ | ⟨ps, ⟨fs, IF, PF⟩, hT⟩
    · walk_at "kx"; refine' n_not ?_
      repeat walk_at "m"
      walk_at "kx"; refine ⟨fun e => Bool.noConfusion e, fun _ => ?_⟩
      repeat walk_at "m"
      have fin : ∀ c' ∈ c0.sibs.take (i + 1), AllIn (withConP c' c'.ar lines) (c'.fld d ++ rest) := by
        rw [take_snoc e2]
        intro c' hc'
        rcases List.mem_append.mp hc' with q | q
        · exact hJ c' q
        · rw [List.mem_singleton.mp q]; exact hA
      have up' : ∀ a y, g' a = some y → g₄ a = some y := fun a y e => G4.up _ _ (G3.up _ _ (G2.up _ _ e))
      exact kn g₄ _ _ _ _ up' (F.relook (l' := ("names", nv) :: ("many", .int ((rest.length + 1 : Nat) : Int) tk) :: ("lines", v) :: ("self", .ref wa) :: ("found", _) :: ("size", _) :: ("name", _) :: ("names", nv) :: ("many", .int ((rest.length + 1 : Nat) : Int) tk) :: ("lines", v) :: ("self", .ref wa) :: junk) fun y => lk_base (b := [("names", nv), ("many", .int ((rest.length + 1 : Nat) : Int) tk), ("lines", v), ("self", .ref wa)]) (st := [("found", _), ("size", _), ("name", _)]) junk rfl y) ⟨⟨_, rfl⟩, rfl, fin⟩
    · obtain ⟨fa, fn, rfl, gfa⟩ := IF
      walk_at "kx"; refine' n_notn ?_
      repeat walk_at "m"
      walk_at "kx"; refine ⟨fun _ => ?_, fun e => Bool.noConfusion e⟩
      have IF : IsL g₄ (.ref fa) fs := ⟨fa, fn, rfl, gfa⟩
      have hfl : fs.length = c.ar + rest.length := by rw [PF.length, hT.1.length, List.length_append, c.fld_len]
      have hrl : rest.length ≤ 1000 := by have := meas_len rest; rw [meas_cons] at hm; omega
      repeat walk_at "m"
      walk_at "kx"; refine' m_slice (by intro _ _; rfl) ?_
      repeat walk_at "m"
      walk_at "kx"; refine' sl_end F IF (by omega) .none (.int _ _) ?_
      try clear F
      intro b1 h₈ F hb1
      rw [pick_upto] at F
      have Fz := F.lay hb1
      clear F
      obtain ⟨g₅, up5, IL5, F⟩ := Fz
      repeat walk_at "m"
      walk_at "kx"; refine ⟨F.k, ?_⟩
      walk_at "kx"; refine m_use (mk_con (R.dl (by omega)) F.gd F.sub) fun _ _ r6 g₆ h₉ t₉ G6 o6 => ?_
      obtain ⟨a6, rfl, J6⟩ := o6
      replace F := F.call G6
      repeat walk_at "m"
      walk_at "kx"; refine' m_newlist F (Nat.le_of_ble_eq_true rfl) ?_
      try clear F
      intro a7 h₁₀ F ha7
      repeat walk_at "m"
      walk_at "kx"; refine' m_slice (by intro _ _; rfl) ?_
      repeat walk_at "m"
      walk_at "kx"; refine' sl_end F ((IF.mono up5).mono G6.up) (by omega) (.int _ _) .none ?_
      try clear F
      intro b8 h₁₁ F hb8
      rw [pick_from] at F
      walk_at "kx"; refine' l_add F ⟨_, rfl, ⟨_, (F.mu _ (.tail _ (.head _))).1, rfl, _, rfl⟩⟩ ⟨_, rfl, muL F⟩ (by simp; omega) ?_
      try clear F
      intro e9 h₁₂ F he9
      have Fz := F.lay he9
      clear F
      obtain ⟨g₇, up7, IL7, F⟩ := Fz
      have hcl : (ps.take c.ar).length = c.ar := by rw [List.length_take, ← PF.length, hfl]; omega
      walk_at "kx"; refine ret_ F.drop.drop (.inr ⟨_, ⟨_, IL7, ?_⟩, hkc ▸ con_some (hkc.symm ▸ HL) (hd c hkc) hT⟩)
      refine .cons (PatAt.mono (PatAt.mk J6 (IL5.mono G6.up) ((PF.take c.ar).imp fun _ _ z => (z.mono up5).mono G6.up) hcl) up7) ((PF.drop c.ar).imp fun _ _ z => ((z.mono up5).mono G6.up).mono up7)
  case done =>
    try clear F
    intro g' h' t' l' μ' up hJ F
    obtain ⟨⟨junk, rfl⟩, rfl, hJ⟩ := hJ
    rw [List.take_of_length_le (by omega)] at hJ
    repeat walk_at "m"
    walk_at "kx"; refine ret_ F (.inl ⟨rfl, con_none ?_ ?_ HL fun c hc => ⟨hd c hc, hJ c ((Cn.sibs_iff c0 c).mpr (hc.trans hk0.symm))⟩⟩)
    · rw [← hk0]; induction c0 <;> decide
    · rw [← hk0]; induction c0 <;> decide

theorem missing_spec {prog : Program} {w : World} : ∀ n, MissOk prog w n := by
  intro n
  induction n using Nat.strongRecOn with
  | _ n ih =>
    intro A s g h t wv v tk rows cols R gd sub WA H HR hl hm hn
    refine' m_enter [("many", .int (cols.length : Nat) tk), ("rows", v), ("self", wv)] gd sub ?ho ?hcd ?hroom ?hbind ?hloc ?hcell ?hco ?hgen ?hk ?hb
    walk_at "enter"
    try clear F
    intro L h₁ t₁ F
    refine' hideF ?_
    intro _ _
    obtain ⟨wa, kv, rfl, WI, K⟩ := WA
    repeat walk_at "m"
    walk_at "kx"; refine ⟨fun hb => ?_, fun hb => ?_⟩
    · have e1 : cols = [] := by
        have := eq_of_beq hb
        exact List.eq_nil_of_length_eq_zero (by omega)
      subst e1
      obtain ⟨vs, I, ee⟩ := H.nil
      repeat walk_at "m"
      walk_at "kx"; refine' m_newlist F (Nat.le_of_ble_eq_true rfl) ?_
      try clear F
      intro a h₂ F ha
      walk_at "kx"; refine' l_eqnil (R.dl (by omega)) (I.list F) ⟨_, rfl, muL F⟩ ?_
      replace F := F.drop
      rw [ee]
      repeat walk_at "m"
      walk_at "kx"; refine ⟨fun hb => ?_, fun hb => ?_⟩
      · have e2 : rows = [] := by simpa using hb
        subst e2
        repeat walk_at "m"
        walk_at "kx"; refine' m_newlist F (Nat.le_of_ble_eq_true rfl) ?_
        try clear F
        intro a h₂ F ha
        have Fz := F.lay ha
        clear F
        obtain ⟨g₁, up1, IL, F⟩ := Fz
        walk_at "kx"; exact ret_ F (.inr ⟨[], ⟨_, IL, .nil⟩, .nil, ⟨[], .nil, rfl⟩, fun vs _ _ => rfl, Nat.zero_le _⟩)
      · repeat walk_at "m"
        walk_at "kx"; refine ret_ F (.inl ⟨rfl, fun vs hv => ?_⟩)
        cases hv
        cases rows with
        | nil => exact Bool.noConfusion hb
        | cons r q =>
          have := HR r (.head _)
          cases this
          first | rfl | (intro h; cases h) | simp [Matched, rowFits]
    · cases cols with
      | nil => exact absurd hb (by decide)
      | cons col rest =>
      obtain ⟨k, d⟩ := col
      obtain ⟨m, rfl⟩ : ∃ m, n = m + 1 := ⟨n - 1, by rw [meas_cons] at hm; omega⟩
      have ih := ih m (Nat.lt_succ_self m)
      have hS := HR.sized hl (by omega) (by simp)
      have hrm : meas rest ≤ m := by rw [meas_cons] at hm; omega
      repeat walk_at "m"
      walk_at "kx"; refine ⟨F.k, ?_⟩
      walk_at "kx"; refine m_use (lines_of_spec (R.dl (by omega)) F.gd F.sub H hS) fun _ _ r1 g₁ h₂ t₂ G1 H1 => ?_
      replace F := F.call G1
      have HL := HR.lines
      replace WI := WI.mono G1.up
      replace K := K.mono G1.up
      have hl1 : (rows.map lineP).length ≤ 1000 := by rw [List.length_map]; exact hl
      have hS1 := HL.rows.sized hl1 (by omega) (by simp)
      have hml := matched_lines rows
      generalize rows.map lineP = lines at H1 HL hl1 hS1 hml
      repeat walk_at "m"
      rename Fm _ _ _ _ _ _ _ _ _ => F
      walk_at "kx"; refine ⟨F.k, ?_⟩
      walk_at "kx"; refine m_use (heads_of_spec (R.dl (by omega)) F.gd F.sub H1 hS1) fun _ _ r2 g₂ h₃ t₃ G2 H2 => ?_
      replace F := F.call G2
      replace WI := WI.mono G2.up
      replace K := K.mono G2.up
      replace H1 := H1.mono G2.up
      obtain ⟨hs, IH, PH⟩ := H2
      have hhl : (headsP lines).length ≤ 0 + lines.length := headsP_len lines []
      have hpl := PH.length
      repeat ((fail_if_success (with_reducible show wpAny _ _ (PySem.isTrue _ _ _) _ _ _)); walk_at "m")
      rename Fm _ _ _ _ _ _ _ _ _ => F
      refine wpAny_mono (Q := PostG s [] w g h L g₂ [("heads", r2), ("lines", r1), ("many", .int ((((k, d) :: rest).length : Nat) : Int) tk), ("rows", v), ("self", .ref wa)] [] (fun b _ => (b = true → ∃ c r, headsP lines = c :: r ∧ (c :: r).length = c.sibs.length) ∧ (b = false → ∀ c r, headsP lines = c :: r → (c :: r).length ≠ c.sibs.length))) ?_ (fun b s' hz => ?_) (fun _ _ e => e)
      · walk_at "m"
        repeat walk_at "m"
        walk_at "kx"; refine' m_newlist F (Nat.le_of_ble_eq_true rfl) ?_
        try clear F
        intro a h₄ F ha
        walk_at "kx"; refine' l_nenil (R.dl (by omega)) (IH.list F) ⟨_, rfl, muL F⟩ ?_
        replace F := F.drop
        repeat walk_at "m"
        walk_at "kx"; refine ⟨fun hb => ?_, fun hb => ?_⟩
        · have hne : ∃ c r tk' hr, headsP lines = c :: r ∧ hs = .str c.name tk' :: hr := by
            generalize headsP lines = hh at PH
            cases PH with
            | nil => exact absurd hb (by decide)
            | cons a r => obtain ⟨u, rfl⟩ := a; exact ⟨_, _, _, _, rfl, rfl⟩
          obtain ⟨c, r, tk', hr, eh, rfl⟩ := hne
          repeat walk_at "m"
          walk_at "kx"; refine' l_len F IH (by omega) ?_; intro _ _
          repeat walk_at "m"
          walk_at "kx"; refine' m_known F WI K ?_ <;> try exact .none
          intro t₅
          walk_at "kx"; refine' m_sibs F K ?_
          refine ⟨k_siblings.2.2, ?_⟩
          repeat walk_at "m"
          walk_at "kx"; refine' l_item F IH (by decide) (by decide) rfl (by intro _; with_unfolding_all rfl) ?_
          repeat walk_at "m"
          walk_at "kx"; refine ⟨F.k, ?_⟩
          walk_at "kx"; refine m_use (siblings_spec (R.dl (by omega)) F.gd F.sub K) fun _ _ r3 g₃ h₅ t₆ G3 o3 => ?_
          obtain ⟨ss, IS, HS⟩ := o3
          have hsl := HS.length
          replace F := F.call G3
          repeat walk_at "m"
          walk_at "kx"; refine' l_len F IS (by rw [hsl]; induction c <;> decide) ?_; intro _ _
          repeat walk_at "m"
          rw [hsl, hpl, eh]
          walk_at "kx"; refine .mk g₃ _ _ G3.up F ⟨fun e => ⟨c, r, rfl, ?_⟩, fun e c' r' ee => ?_⟩
          · have := eq_of_beq e; omega
          · injection ee with e1 e2; subst e1; subst e2
            intro q; rw [q] at e; simp at e
        · walk_at "kx"; refine .mk g₂ _ _ (fun _ _ e => e) F ⟨fun e => Bool.noConfusion e, fun _ c' r' ee => ?_⟩
          rw [ee] at PH
          cases PH
          exact absurd hb (by simp)
      cases hz with
      | mk g₃ h₄ t₄ up3 F hTF =>
      obtain ⟨hT, hF⟩ := hTF
      replace WI := WI.mono up3
      replace K := K.mono up3
      replace H1 := H1.mono up3
      replace IH := IH.mono up3
      walk_at "kx"; refine ⟨fun hb => ?_, fun hb => ?_⟩
      · obtain ⟨c, r, eh, hcl⟩ := hT hb
        rw [eh] at PH
        have hck := HL.complete eh hcl
        have hkc : c.kd = k := (HL.head_kd (by rw [eh]; exact .head _)).1
        obtain ⟨tk', hr, rfl⟩ : ∃ tk' hr, hs = .str c.name tk' :: hr := by
          cases PH with
          | cons a r => obtain ⟨u, rfl⟩ := a; exact ⟨_, _, rfl⟩
        repeat walk_at "m"
        walk_at "kx"; refine' m_method F WI rfl w_ok w_bycon.1 w_bycon.2.1 ?_
        refine ⟨w_bycon.2.2, ?_⟩
        repeat walk_at "m"
        walk_at "kx"; refine' m_known F WI K ?_ <;> try exact .none
        intro t₅
        walk_at "kx"; refine' m_sibs F K ?_
        refine ⟨k_siblings.2.2, ?_⟩
        repeat walk_at "m"
        walk_at "kx"; refine' l_item F IH (by decide) (by decide) rfl (by intro _; with_unfolding_all rfl) ?_
        repeat walk_at "m"
        walk_at "kx"; refine ⟨F.k, ?_⟩
        walk_at "kx"; refine m_use (siblings_spec (R.dl (by omega)) F.gd F.sub K) fun _ _ r3 g₄ h₅ t₆ G4 o4 => ?_
        obtain ⟨ss, IS, HS⟩ := o4
        replace F := F.call G4
        repeat walk_at "m"
        walk_at "kx"; refine ⟨F.k, ?_⟩
        walk_at "kx"; refine m_use (by_con_spec ih (R.dl (by omega)) F.gd F.sub ⟨wa, kv, rfl, WI.mono G4.up, K.mono G4.up⟩ (H1.mono G4.up) HL hl1 hm (by omega) IS HS hkc fun c' hc' => (HL.head_kd (hck c' hc')).2) fun _ _ r5 g₅ h₇ t₇ G5 o5 => ?_
        walk_at "kx"; exact ret_ (F.call G5) (o5.back hml)
      · have hinc := hF hb
        repeat walk_at "m"
        walk_at "kx"; refine' m_method F WI rfl w_ok w_missing.1 w_missing.2.1 ?_
        refine ⟨w_missing.2.2, ?_⟩
        repeat walk_at "m"
        walk_at "kx"; refine ⟨F.k, ?_⟩
        walk_at "kx"; refine m_use (with_any_spec (R.dl (by omega)) F.gd F.sub H1 hS1) fun _ _ r3 g₄ h₅ t₆ G4 o4 => ?_
        replace F := F.call G4
        replace WI := WI.mono G4.up
        replace K := K.mono G4.up
        replace H1 := H1.mono G4.up
        replace IH := IH.mono G4.up
        repeat walk_at "m"
        walk_at "kx"; refine ⟨F.k, ?_⟩
        rw [show ((((k, d) :: rest).length : Nat) : Int) - 1 = ((rest.length : Nat) : Int) by rw [List.length_cons]; omega]
        walk_at "kx"; refine m_use (ih _ s g₄ _ _ _ _ _ _ rest (R.dl (by omega)) F.gd F.sub ⟨wa, kv, rfl, WI, K⟩ o4 HL.any (Nat.le_trans (flat_len _ anyP_len lines) hl1) hrm (by omega)) fun _ _ r5 g₅ h₇ t₇ G5 o5 => ?_
        replace F := F.call G5
        replace WI := WI.mono G5.up
        replace K := K.mono G5.up
        replace H1 := H1.mono G5.up
        replace IH := IH.mono G5.up
        repeat walk_at "m"
        rename Fm _ _ _ _ _ _ _ _ _ => F
        rcases o5 with ⟨rfl, hA⟩ | ⟨ps, ⟨fs, IF, PF⟩, hT5⟩
        · walk_at "kx"; refine' n_is ?_
          repeat walk_at "m"
          walk_at "kx"; refine ⟨fun _ => ?_, fun e => Bool.noConfusion e⟩
          repeat walk_at "m"
          walk_at "kx"; exact ret_ F (MissOut.back (.inl ⟨rfl, def_none HL hA⟩) hml)
        · obtain ⟨fa, fn, rfl, gfa⟩ := IF
          have IF : IsL g₅ (.ref fa) fs := ⟨fa, fn, rfl, gfa⟩
          walk_at "kx"; refine' n_isn ?_
          repeat walk_at "m"
          walk_at "kx"; refine ⟨fun e => Bool.noConfusion e, fun _ => ?_⟩
          repeat walk_at "m"
          walk_at "kx"; refine' m_method F WI rfl w_ok w_nottold.1 w_nottold.2.1 ?_
          refine ⟨w_nottold.2.2, ?_⟩
          repeat walk_at "m"
          walk_at "kx"; refine ⟨F.k, ?_⟩
          have hfl : fs.length = rest.length := by rw [PF.length, hT5.1.length]
          have hrl : rest.length ≤ 1000 := by have := meas_len rest; omega
          walk_at "kx"; refine m_use (not_told_spec (k == .I) (R.dl (by omega)) F.gd F.sub ⟨wa, kv, rfl, WI, K⟩ H1 hS1 IH PH (by omega) (fun p hp => (HL.okLits p hp).1) fun c r ee => by
            have := HL.incomplete ee (hinc c r ee)
            exact this) fun _ _ r6 g₆ h₈ t₈ G6 o6 => ?_
          obtain ⟨p6, P6, hp6⟩ := o6
          replace F := F.call G6
          have Fr : Free k d lines p6 := by
            rcases hp6 with ⟨c, r, e, eh, h1, h2, rfl⟩ | ⟨eh, hl6, j, hj, hq, rfl⟩ | ⟨eh, hl6, rfl⟩
            · refine free_con HL ?_ h2
              rw [(Cn.sibs_iff c e).mp h1]
              exact (HL.head_kd (by rw [eh]; exact .head _)).1
            · exact free_lit HL eh hl6 hj hq
            · exact free_wild HL eh hl6
          repeat walk_at "m"
          walk_at "kx"; refine' m_newlist F (Nat.le_of_ble_eq_true rfl) ?_
          try clear F
          intro a7 h₁₀ F ha7
          repeat walk_at "m"
          have Fz := F.lay ha7
          clear F
          obtain ⟨g₇, up7, IL7, F⟩ := Fz
          walk_at "kx"; refine' l_add F (IL7.list F) (((IF.mono G6.up).mono up7).list F) (by simp; omega) ?_
          try clear F
          intro e9 h₁₂ F he9
          have Fz := F.lay he9
          clear F
          obtain ⟨g₈, up8, IL8, F⟩ := Fz
          walk_at "kx"; exact ret_ F (MissOut.back (.inr ⟨_, ⟨_, IL8, .cons ((P6.mono up7).mono up8) (PF.imp fun _ _ z => ((z.mono G6.up).mono up7).mono up8)⟩, def_some Fr hT5⟩) hml)
/-! tuples assigned; the order of what changes -/
section
variable {prog : Program} {w : World} {A : Around} {E : Value → Shared → Prop} {s sh : Shared} {env : Env} {U : List Addr} {g₀ g : Kn} {h₀ h h' : Heap} {L : Addr} {t : Nat} {l l' : List (Str × Value)} {μ μ' : List (Addr × Obj)}
theorem Fm.perm (F : Fm U w g₀ h₀ L g h l μ) (p : μ.Perm μ') : Fm U w g₀ h₀ L g h l μ' :=
  { F with
    mu := fun q hq => F.mu q (p.symm.subset hq)
    nd := (p.map (·.1)).nodup F.nd }
theorem Fm.front {a : Addr × Obj} {xs ys : List (Addr × Obj)} (F : Fm U w g₀ h₀ L g h l (xs ++ a :: ys)) : Fm U w g₀ h₀ L g h l (a :: (xs ++ ys)) := F.perm List.perm_middle
theorem Fm.back {a : Addr × Obj} {xs ys : List (Addr × Obj)} (F : Fm U w g₀ h₀ L g h l (a :: (xs ++ ys))) : Fm U w g₀ h₀ L g h l (xs ++ a :: ys) := F.perm List.perm_middle.symm
theorem Fm.dropAt {a : Addr × Obj} {xs ys : List (Addr × Obj)} (F : Fm U w g₀ h₀ L g h l (xs ++ a :: ys)) : Fm U w g₀ h₀ L g h l (xs ++ ys) := F.front.drop
theorem Fm.comm {xs ys : List (Addr × Obj)} (F : Fm U w g₀ h₀ L g h l (xs ++ ys)) : Fm U w g₀ h₀ L g h l (ys ++ xs) := F.perm List.perm_append_comm
theorem Fm.third {a b c : Addr × Obj} (F : Fm U w g₀ h₀ L g h l (a :: b :: c :: μ)) : Fm U w g₀ h₀ L g h l (c :: a :: b :: μ) := F.perm (List.perm_middle (l₁ := [a, b]))
theorem Fm.third' {a b c : Addr × Obj} (F : Fm U w g₀ h₀ L g h l (c :: a :: b :: μ)) : Fm U w g₀ h₀ L g h l (a :: b :: c :: μ) := F.perm (List.perm_middle (l₁ := [a, b])).symm
theorem Fm.layT {a : Addr} {vs : List Value} {n : Nat} (F : Fm U w g₀ h₀ L g h l ((a, { cls := .type "tuple", data := .seq vs.toArray n }) :: μ)) (ha : h₀.objs.size ≤ a) :
    ∃ g', (∀ b x, g b = some x → g' b = some x) ∧ IsT g' (.ref a) vs ∧ Fm U w g₀ h₀ L g' h l μ :=
  let ⟨g', up, e, _, F'⟩ := F.freeze ha; ⟨g', up, ⟨a, n, rfl, e⟩, F'⟩
/-- x, y = a, b written so -/
theorem m_tasg {M : Model} {x y : Str} {elts : List Expr} {k : Nat} {tpos pos : Pos} {value : Expr} {rest : List Stmt} {Q : Flow → Shared → Prop}
    (hs : swapsWithSole [.Tuple elts k tpos] value pos.line env = pure false) (hw : swappedStores [.Tuple elts k tpos] value env = pure (some [x, y]))
    (h : wpAny M A (eval value env) (fun v s₁ => wpAny M A (unpackItems v 2 none) (fun items s₂ => ∃ a b, items = [a, b] ∧
      wpAny M A (storeName env y b) (fun _ s₃ => wpAny M A (storeName env x a) (fun _ s₄ => wpAny M A (execs rest env) Q E s₄) E s₃) E s₂) E s₁) E sh) :
    wpAny M A (execs (.Assign [.Tuple elts k tpos] value pos :: rest) env) Q E sh := by
  refine wpAny_execs_cons (Assign_Tuple_swapped (names := [x, y]) ?_ hs hw)
  refine wpAny_mono h (fun v s₁ h₁ => wpAny_mono h₁ (fun items s₂ h₂ => ?_) fun _ _ e => e) fun _ _ e => e
  obtain ⟨a, b, rfl, h₂⟩ := h₂
  exact assignInOrder_cons (bindName_ (wpAny_mono h₂ (fun _ s₃ h₃ => assignInOrder_cons (bindName_ (wpAny_mono h₃ (fun _ s₄ h₄ => assignInOrder_nil h₄) fun _ _ e => e))) fun _ _ e => e))
theorem unp_mu {tp : Addr} {a b : Value} {n : Nat} {Q : List Value → Shared → Prop} (hh : A.handled = none) (F : Fm U w g₀ h₀ L g h l ((tp, { cls := .type "tuple", data := .seq #[a, b] n }) :: μ))
    (hQ : ∀ h', Fm U w g₀ h₀ L g h' l μ → Q [a, b] (St s h' t)) : wpAny (model prog w) A (unpackItems (.ref tp) 2 none) Q E (St s h t) := by
  have M := (F.mu _ (.head _)).1
  exact unpackItems_tuple (s := St s h t) (items := #[a, b]) hh ⟨_, M, rfl, n, rfl⟩ fun h' hx => hQ h' (F.drop.keep fun b' o e => hx b' o (Nat.ne_of_lt (Heap.lt_size e)) e)
/-- x, y = v, any v -/
theorem m_tget {M : Model} {x y : Str} {px py : Pos} {k : Nat} {tpos pos : Pos} {value : Expr} {rest : List Stmt} {Q : Flow → Shared → Prop}
    (hs : swapsWithSole [.Tuple [.Name x px, .Name y py] k tpos] value pos.line env = pure false) (hw : swappedStores [.Tuple [.Name x px, .Name y py] k tpos] value env = pure none)
    (h : wpAny M A (eval value env) (fun v s₁ => wpAny M A (assign (.Tuple [.Name x px, .Name y py] k tpos) env v) (fun _ s₂ => wpAny M A (execs rest env) Q E s₂) E s₁) E sh) :
    wpAny M A (execs (.Assign [.Tuple [.Name x px, .Name y py] k tpos] value pos :: rest) env) Q E sh := wpAny_execs_cons (Assign_Tuple h hs hw)
theorem as_two {x y : Str} {px py : Pos} {k : Nat} {tpos : Pos} {v a b : Value} {Q : Unit → Shared → Prop} (hh : A.handled = none) (F : Fm U w g₀ h₀ L g h l μ) (T : ∃ tp, v = .ref tp ∧ IsTup h tp #[a, b])
    (hQ : ∀ h', Fm U w g₀ h₀ L g h' l μ → wpAny (model prog w) A (storeName env x a) (fun _ s₃ => wpAny (model prog w) A (storeName env y b) Q E s₃) E (St s h' t)) :
    wpAny (model prog w) A (assign (.Tuple [.Name x px, .Name y py] k tpos) env v) Q E (St s h t) := by
  obtain ⟨tp, rfl, ht⟩ := T
  refine assign_Tuple_tuple (s := St s h t) hh ht rfl rfl fun h' hx => ?_
  have F' : Fm U w g₀ h₀ L g h' l μ := F.keep fun b' o e => hx b' o (Nat.ne_of_lt (Heap.lt_size e)) e
  show wpAny _ A (assignInOrder [assign (.Name x px) env, assign (.Name y py) env] [a, b]) _ _ _
  exact assignInOrder_cons (assign_Name (wpAny_mono (hQ h' F') (fun _ s₃ h₃ => assignInOrder_cons (assign_Name (wpAny_mono h₃ (fun _ s₄ h₄ => assignInOrder_nil h₄) fun _ _ e => e))) fun _ _ e => e))
end
section
variable {M : Model} {prog : Program} {w : World} {A : Around} {E : Value → Shared → Prop} {s sh : Shared} {env : Env} {h : Heap} {t : Nat}
theorem m_boolc {b : Bool} {k : Nat} {pos : Pos} {Q : Value → Shared → Prop} (hQ : Q (.bool b) sh) : wpAny M A (eval (.Constant (.bool b) k pos) env) Q E sh := wpAny_Constant_bool hQ
theorem i_mul {a b : Int} {t' u : Tok} {Q : Value → Shared → Prop} (hm : a.natAbs < 2 ^ 64 ∨ b.natAbs < 2 ^ 64) (hQ : ∀ tk t', Q (.int (a * b) tk) (St s h t')) : wpAny (model prog w) A (binaryOp .Mult (.int a t') (.int b u)) Q E (St s h t) :=
  PyProof.Rows.mul_int (s := St s h t) (hQ _ _) (by rcases hm with q | q; exact .of_left (intBits_le q); exact .of_right (intBits_le q))
theorem i_mod {a b : Int} {t' u : Tok} {Q : Value → Shared → Prop} (hb : b ≠ 0) (hQ : ∀ tk t', Q (.int (a.fmod b) tk) (St s h t')) : wpAny (model prog w) A (binaryOp .Mod (.int a t') (.int b u)) Q E (St s h t) :=
  PyProof.Rows.mod_int' (s := St s h t) hb (hQ _ _)
theorem i_fdiv {a b : Int} {t' u : Tok} {Q : Value → Shared → Prop} (hb : b ≠ 0) (h2 : b.natAbs < 1073741824) (hQ : ∀ tk t', Q (.int (a.fdiv b) tk) (St s h t')) : wpAny (model prog w) A (binaryOp .FloorDiv (.int a t') (.int b u)) Q E (St s h t) :=
  PyProof.Rows.floordiv_int (s := St s h t) hb (hQ _ _) (.inl (PyProof.noPylong_small (by omega)))
theorem i_pow {a n : Int} {t' u : Tok} {Q : Value → Shared → Prop} (hn : 0 ≤ n) (hn2 : n ≤ 1000000) (ha : a.natAbs < 2 ^ 64) (hQ : ∀ tk t', Q (.int (a ^ n.toNat) tk) (St s h t')) : wpAny (model prog w) A (binaryOp .Pow (.int a t') (.int n u)) Q E (St s h t) :=
  PyProof.Rows.pow_int_small (s := St s h t) hn hn2 ha (hQ _ _)
end
/-! Watcher.is_reached -/
noncomputable def ReachOk (prog : Program) (w : World) (n : Nat) : Prop := ∀ (A : Around) (s : Shared) (g : Kn) (h : Heap) (t : Nat) (wv v rv : Value) (rows : List (List Pat)) (row : List Pat) (cols : List Col), Room A (40 + 4 * n) → Gd w g → (Sub g h) →
  WatchAt prog w g wv → RowsAt g v rows → Rows cols rows → rows.length ≤ 1000 → RowAt g rv row → RT cols row → meas cols ≤ n → n ≤ 100 →
  wpAny (model prog w) A (call (.ref 452) [wv, v, rv]) (Ret [] g s h (fun _ _ r => ∃ b : Bool, r = .bool b ∧ (b = true ↔ Reach rows cols row))) NoE (St s h t)
theorem con_row {p : Pat} {ps : List Pat} {c : Cn} (la : LA p) (h : headP (p :: ps) = some c) (n : Nat) : ∃ q, conP c n (p :: ps) = [q] := by
  cases la with
  | con0 _ => injection h with h; subst h; exact ⟨_, if_pos rfl⟩
  | con2 _ => injection h with h; subst h; exact ⟨_, if_pos rfl⟩
  | _ => cases h
theorem RowAt.one {g : Kn} {v rv : Value} {row : List Pat} (I : IsL g v [rv]) (H : RowAt g rv row) : RowsAt g v [row] := ⟨_, I, .cons H .nil⟩
theorem RowsAt.one {g : Kn} {v : Value} {row : List Pat} (H : RowsAt g v [row]) : ∃ rv, IsL g v [rv] ∧ RowAt g rv row := by
  obtain ⟨vs, I, P⟩ := H
  cases P with | cons a r => cases r; exact ⟨_, I, a⟩
theorem Rows.one {cols : List Col} {row : List Pat} (H : RT cols row) : Rows cols [row] := fun r hr => by rw [List.mem_singleton.mp hr]; exact H
theorem reached_spec {prog : Program} {w : World} : ∀ n, ReachOk prog w n := by
  intro n
  induction n using Nat.strongRecOn with
  | _ n ih =>
    intro A s g h t wv v rv rows row cols R gd sub WA H HR hl HW HRW hm hn
    refine' m_enter [("row", rv), ("rows", v), ("self", wv)] gd sub ?ho ?hcd ?hroom ?hbind ?hloc ?hcell ?hco ?hgen ?hk ?hb
    walk_at "enter"
    try clear F
    intro L h₁ t₁ F
    refine' hideF ?_
    intro _ _
    obtain ⟨wa, kv, rfl, WI, K⟩ := WA
    obtain ⟨vs, I, ee⟩ := H.nil
    obtain ⟨ws, IW, PW⟩ := HW
    repeat walk_at "m"
    walk_at "kx"; refine' m_newlist F (Nat.le_of_ble_eq_true rfl) ?_
    try clear F
    intro a h₂ F ha
    walk_at "kx"; refine' l_eqnil (R.dl (by omega)) (IW.list F) ⟨_, rfl, muL F⟩ ?_
    replace F := F.drop
    repeat walk_at "m"
    walk_at "kx"; refine ⟨fun hb => ?_, fun hb => ?_⟩
    · cases PW with
      | cons _ _ => exact absurd hb (by simp)
      | nil =>
        cases HRW
        repeat walk_at "m"
        walk_at "kx"; refine' m_newlist F (Nat.le_of_ble_eq_true rfl) ?_
        try clear F
        intro a h₂ F ha
        walk_at "kx"; refine' l_eqnil (R.dl (by omega)) (I.list F) ⟨_, rfl, muL F⟩ ?_
        replace F := F.drop
        rw [ee]
        walk_at "kx"; refine ret_ F ⟨_, rfl, ?_⟩
        rw [reach_nil HR]
        simp
    · cases PW with
      | nil => exact absurd hb (by decide)
      | @cons x0 p0 xs0 ps0 PA PAS =>
      cases HRW with
      | @cons _ col _ rest a b =>
      obtain ⟨k, d⟩ := col
      obtain ⟨m, rfl⟩ : ∃ m, n = m + 1 := ⟨n - 1, by rw [meas_cons] at hm; omega⟩
      have ih := ih m (Nat.lt_succ_self m)
      have hS := HR.sized hl (by omega) (by simp)
      have hrm : meas rest ≤ m := by rw [meas_cons] at hm; omega
      have HRW : RT ((k, d) :: rest) (p0 :: ps0) := .cons a b
      repeat walk_at "m"
      walk_at "kx"; refine ⟨F.k, ?_⟩
      walk_at "kx"; refine m_use (lines_of_spec (R.dl (by omega)) F.gd F.sub H hS) fun _ _ r1 g₁ h₂ t₂ G1 H1 => ?_
      replace F := F.call G1
      replace WI := WI.mono G1.up
      replace K := K.mono G1.up
      replace IW := IW.mono G1.up
      replace PA := PA.mono G1.up
      replace PAS := PAS.imp fun _ _ z => z.mono G1.up
      have HL := HR.lines
      have hl1 : (rows.map lineP).length ≤ 1000 := by rw [List.length_map]; exact hl
      have hS1 := HL.rows.sized hl1 (by omega) (by simp)
      have hml := matched_lines rows
      generalize rows.map lineP = lines at H1 HL hl1 hS1 hml
      repeat walk_at "m"
      walk_at "kx"; refine' m_newlist F (Nat.le_of_ble_eq_true rfl) ?_
      try clear F
      intro a3 h₃ F ha3
      have Fz := F.lay ha3
      clear F
      obtain ⟨g₂, up2, IL2, F⟩ := Fz
      replace WI := WI.mono up2
      replace K := K.mono up2
      replace H1 := H1.mono up2
      replace IW := IW.mono up2
      replace PA := PA.mono up2
      replace PAS := PAS.imp fun _ _ z => z.mono up2
      repeat walk_at "m"
      walk_at "kx"; refine ⟨F.k, ?_⟩
      walk_at "kx"; refine m_use (lines_of_spec (R.dl (by omega)) F.gd F.sub (RowAt.one IL2 ⟨_, IW, .cons PA PAS⟩) ((Rows.one HRW).sized (by simp) (by omega) (by simp))) fun _ _ r3 g₃ h₄ t₄ G3 H3 => ?_
      obtain ⟨lv, IL3, IV⟩ := H3.one
      replace F := F.call G3
      replace WI := WI.mono G3.up
      replace K := K.mono G3.up
      replace H1 := H1.mono G3.up
      have aw := a.look.1
      have la := a.look.2
      have HRW : RT ((k, d) :: rest) (lineP (p0 :: ps0)) := .cons aw b
      have hrow : ∀ vs, rowFits (lineP (p0 :: ps0)) vs = rowFits (p0 :: ps0) vs := fun vs => by
        cases vs with
        | nil => rfl
        | cons v vs => show (fits (lookP p0) v && _) = (fits p0 v && _); rw [fits_look]
      have fin : ∀ bb : Bool, (bb = true ↔ Reach lines ((k, d) :: rest) (lookP p0 :: ps0)) → (bb = true ↔ Reach rows ((k, d) :: rest) (p0 :: ps0)) := fun bb hb => hb.trans (by
        unfold Reach
        constructor
        · rintro ⟨vs, x1, x2, x3⟩
          exact ⟨vs, x1, by rw [← hrow]; exact x2, by rw [← hml]; exact x3⟩
        · rintro ⟨vs, x1, x2, x3⟩
          exact ⟨vs, x1, by rw [← hrow] at x2; exact x2, by rw [hml]; exact x3⟩)
      have hps : ps0.length ≤ 1000 := by rw [b.length]; have := meas_len rest; omega
      clear hrow hml
      change RowAt g₃ lv (lookP p0 :: ps0) at IV
      change RT ((k, d) :: rest) (lookP p0 :: ps0) at HRW
      generalize lookP p0 = q0 at aw la IV HRW fin
      repeat walk_at "m"
      walk_at "kx"; refine' l_item F IL3 (by decide) (by decide) rfl (by intro _; with_unfolding_all rfl) ?_
      repeat walk_at "m"
      walk_at "kx"; refine' m_newtuple F (Nat.le_of_ble_eq_true rfl) ?_
      try clear F
      intro a4 h₅ F ha4
      walk_at "kx"; refine' unp_mu R.hh F ?_
      try clear F
      intro h₆ F
      refine ⟨_, _, rfl, ?_⟩
      obtain ⟨ls, IL, PL⟩ := IV
      have PL0 := PL
      cases PL with
      | @cons x q xs _ X XS =>
      have hxs := XS.length
      have IV : RowAt g₃ lv (q0 :: ps0) := ⟨_, IL, PL0⟩
      have hS1r := (Rows.one HRW).sized (by simp) (by omega) (by simp)
      repeat walk_at "m"
      rename Fm _ _ _ _ _ _ _ _ _ => F
      walk_at "kx"; refine' l_item F IL (by decide) (by decide) rfl (by intro _; with_unfolding_all rfl) ?_
      repeat walk_at "m"
      rename Fm _ _ _ _ _ _ _ _ _ => F
      walk_at "kx"; refine' m_isiP F X (by decide) ?_; intro t₂
      repeat walk_at "m"
      walk_at "kx"; refine ⟨fun hb => ?_, fun hb => ?_⟩
      · obtain ⟨ca, ct, y, c, rfl, II, hy, hh⟩ := X.con' (by simpa using hb)
        have hh := hh ps0
        have hcar := Cn.ar_le c
        obtain ⟨q, hq⟩ := con_row la hh c.ar
        have hkd : c.kd = k ∧ (1 ≤ d ∨ c.ar = 0) := Lines.head_kd (lines := [q0 :: ps0]) (rest := rest) (fun r hr => by rw [List.mem_singleton.mp hr]; exact ⟨_, _, rfl, aw, la, b⟩) ((heads_mem c [q0 :: ps0] []).mpr (.inr ⟨_, .head _, hh⟩))
        obtain ⟨rfl, hd⟩ := hkd
        have hqt : RT (c.fld d ++ rest) q := con_rt rfl aw la b q (by rw [hq]; exact .head _)
        repeat walk_at "m"
        walk_at "kx"; refine' m_known F WI K ?_ <;> try exact .none
        intro t₅
        walk_at "kx"; refine' m_arity F K ?_
        refine ⟨k_arity.2.2, ?_⟩
        repeat walk_at "m"
        walk_at "kx"; refine' m_getattr F II rfl (patCls_ok (by decide)) (fine_con.a _ (by repeat constructor)) rfl ?_
        intro t₆
        repeat walk_at "m"
        walk_at "kx"; refine ⟨F.k, ?_⟩
        walk_at "kx"; refine m_use (arity_spec (R.dl (by omega)) F.gd F.sub K) fun _ _ r4 g₄ h₇ t₇ G4 o4 => ?_
        obtain ⟨u4, rfl⟩ := o4
        replace F := F.call G4
        replace WI := WI.mono G4.up
        replace K := K.mono G4.up
        replace H1 := H1.mono G4.up
        replace II := II.mono G4.up
        replace IV := IV.mono G4.up
        repeat walk_at "m"
        rename Fm _ _ _ _ _ _ _ _ _ => F
        walk_at "kx"; refine' m_method F WI rfl w_ok w_reached.1 w_reached.2.1 ?_
        refine ⟨w_reached.2.2, ?_⟩
        repeat walk_at "m"
        walk_at "kx"; refine' m_getattr F II rfl (patCls_ok (by decide)) (fine_con.a _ (by repeat constructor)) rfl ?_
        intro t₆
        repeat walk_at "m"
        walk_at "kx"; refine ⟨F.k, ?_⟩
        walk_at "kx"; refine m_use (with_con_spec (R.dl (by omega)) F.gd F.sub H1 hS1 hcar) fun _ _ r5 g₅ h₈ t₈ G5 o5 => ?_
        replace F := F.call G5
        replace WI := WI.mono G5.up
        replace K := K.mono G5.up
        replace II := II.mono G5.up
        replace IV := IV.mono G5.up
        repeat walk_at "m"
        walk_at "kx"; refine' m_newlist F (Nat.le_of_ble_eq_true rfl) ?_
        try clear F
        intro a6 h₉ F ha6
        have Fz := F.lay ha6
        clear F
        obtain ⟨g₆, up6, IL6, F⟩ := Fz
        repeat walk_at "m"
        walk_at "kx"; refine' m_getattr F (II.mono up6) rfl (patCls_ok (by decide)) (fine_con.a _ (by repeat constructor)) rfl ?_
        intro t₆
        repeat walk_at "m"
        walk_at "kx"; refine ⟨F.k, ?_⟩
        walk_at "kx"; refine m_use (with_con_spec (c := c) (n := c.ar) (R.dl (by omega)) F.gd F.sub (RowAt.one IL6 (IV.mono up6)) hS1r hcar) fun _ _ r7 g₇ h₁₀ t₁₀ G7 o7 => ?_
        rw [show withConP c c.ar [q0 :: ps0] = [q] by unfold withConP; rw [List.flatMap_cons, hq]; rfl] at o7
        obtain ⟨qv, IQ, HQ⟩ := o7.one
        replace F := F.call G7
        repeat walk_at "m"
        walk_at "kx"; refine' l_item F IQ (by decide) (by decide) rfl (by intro _; with_unfolding_all rfl) ?_
        repeat walk_at "m"
        walk_at "kx"; refine ⟨F.k, ?_⟩
        walk_at "kx"; refine m_use (ih _ s g₇ _ _ _ _ _ _ _ (c.fld d ++ rest) (R.dl (by omega)) F.gd F.sub ⟨wa, kv, rfl, (WI.mono up6).mono G7.up, (K.mono up6).mono G7.up⟩ ((o5.mono up6).mono G7.up) (HL.con rfl) (Nat.le_trans (flat_len _ (conP_len c c.ar) lines) hl1) HQ hqt (by have := meas_fld (r := rest) hd; omega) (by omega)) fun _ _ r8 g₈ h₁₁ t₁₁ G8 o8 => ?_
        obtain ⟨b8, rfl, h8⟩ := o8
        walk_at "kx"; exact ret_ (F.call G8) ⟨_, rfl, fin b8 (h8.trans (reach_con HL hd la hh hq).symm)⟩
      · repeat walk_at "m"
        walk_at "kx"; refine' m_isiP F X (by decide) ?_; intro t₂
        repeat walk_at "m"
        walk_at "kx"; refine ⟨fun hb2 => ?_, fun hb2 => ?_⟩
        · have hqq : (∃ i, q0 = .int i) ∨ ∃ c, q0 = .chr c := by cases la <;> first | exact .inl ⟨_, rfl⟩ | exact .inr ⟨_, rfl⟩ | exact Bool.noConfusion hb2
          obtain ⟨aa, kt, xv, rfl, II, VV⟩ := X.lit (by simpa using hb2)
          have V : LitV xv q0 := by
            rcases VV with V | ⟨cs, rfl⟩
            · exact V
            · rcases hqq with ⟨_, e⟩ | ⟨_, e⟩ <;> cases e
          repeat walk_at "m"
          walk_at "kx"; refine' m_method F WI rfl w_ok w_reached.1 w_reached.2.1 ?_
          refine ⟨w_reached.2.2, ?_⟩
          repeat walk_at "m"
          walk_at "kx"; refine' m_getattr F II rfl (patCls_ok (by decide)) (fine_lit.a _ (by repeat constructor)) rfl ?_
          intro t₆
          repeat walk_at "m"
          walk_at "kx"; refine' m_getattr F II rfl (patCls_ok (by decide)) (fine_lit.a _ (by repeat constructor)) (by cases V <;> rfl) ?_
          intro t₇
          repeat walk_at "m"
          walk_at "kx"; refine ⟨F.k, ?_⟩
          walk_at "kx"; refine m_use (with_literal_spec (q := q0) (R.dl (by omega)) F.gd F.sub H1 hS1 V) fun _ _ r5 g₅ h₈ t₈ G5 o5 => ?_
          replace F := F.call G5
          repeat walk_at "m"
          walk_at "kx"; refine' m_slice (by intro _ _; rfl) ?_
          repeat walk_at "m"
          walk_at "kx"; refine' sl_end F (IL.mono G5.up) (by simp; omega) (.int _ _) .none ?_
          try clear F
          intro b6 h₉ F hb6
          rw [show ((1 : Int)) = ((1 : Nat) : Int) from rfl, pick_from] at F
          have Fz := F.lay hb6
          clear F
          obtain ⟨g₆, up6, IL6, F⟩ := Fz
          repeat walk_at "m"
          walk_at "kx"; refine ⟨F.k, ?_⟩
          walk_at "kx"; refine m_use (ih _ s g₆ _ _ _ _ _ _ ps0 rest (R.dl (by omega)) F.gd F.sub ⟨wa, kv, rfl, (WI.mono G5.up).mono up6, (K.mono G5.up).mono up6⟩ (o5.mono up6) HL.lit (Nat.le_trans (flat_len _ (litP_len q0) lines) hl1) ⟨_, IL6, XS.imp fun _ _ z => (z.mono G5.up).mono up6⟩ b hrm (by omega)) fun _ _ r8 g₈ h₁₁ t₁₁ G8 o8 => ?_
          obtain ⟨b8, rfl, h8⟩ := o8
          walk_at "kx"; exact ret_ (F.call G8) ⟨_, rfl, fin b8 (h8.trans (reach_lit HL aw hqq).symm)⟩
        · have hw : q0 = .wild := by cases la <;> first | rfl | exact Bool.noConfusion hb | exact Bool.noConfusion hb2
          subst hw
          repeat walk_at "m"
          walk_at "kx"; refine ⟨F.k, ?_⟩
          walk_at "kx"; refine m_use (heads_of_spec (R.dl (by omega)) F.gd F.sub H1 hS1) fun _ _ r4 g₄ h₇ t₇ G4 H4 => ?_
          replace F := F.call G4
          replace WI := WI.mono G4.up
          replace K := K.mono G4.up
          replace H1 := H1.mono G4.up
          replace IL := IL.mono G4.up
          replace IV := IV.mono G4.up
          replace XS := XS.imp fun _ _ z => z.mono G4.up
          obtain ⟨hs, IH, PH⟩ := H4
          have hhl : (headsP lines).length ≤ 0 + lines.length := headsP_len lines []
          have hpl := PH.length
          repeat ((fail_if_success (with_reducible show wpAny _ _ (PySem.isTrue _ _ _) _ _ _)); walk_at "m")
          rename Fm _ _ _ _ _ _ _ _ _ => F
          refine wpAny_mono (Q := PostG s [] w g h L g₄ [("heads", r4), ("first", x), ("lines", r1), ("line", lv), ("row", rv), ("rows", v), ("self", .ref wa)] [] (fun b _ => (b = true → ∃ c r, headsP lines = c :: r ∧ (c :: r).length = c.sibs.length) ∧ (b = false → ∀ c r, headsP lines = c :: r → (c :: r).length ≠ c.sibs.length))) ?_ (fun bz s' hz => ?_) (fun _ _ e => e)
          · walk_at "m"
            repeat walk_at "m"
            walk_at "kx"; refine' m_newlist F (Nat.le_of_ble_eq_true rfl) ?_
            try clear F
            intro a h₄ F ha
            walk_at "kx"; refine' l_nenil (R.dl (by omega)) (IH.list F) ⟨_, rfl, muL F⟩ ?_
            replace F := F.drop
            repeat walk_at "m"
            walk_at "kx"; refine ⟨fun hb => ?_, fun hb => ?_⟩
            · have hne : ∃ c r tk' hr, headsP lines = c :: r ∧ hs = .str c.name tk' :: hr := by
                generalize headsP lines = hh at PH
                cases PH with
                | nil => exact absurd hb (by decide)
                | cons a r => obtain ⟨u, rfl⟩ := a; exact ⟨_, _, _, _, rfl, rfl⟩
              obtain ⟨c, r, tk', hr, eh, rfl⟩ := hne
              repeat walk_at "m"
              walk_at "kx"; refine' l_len F IH (by omega) ?_; intro _ _
              repeat walk_at "m"
              walk_at "kx"; refine' m_known F WI K ?_ <;> try exact .none
              intro t₅
              walk_at "kx"; refine' m_sibs F K ?_
              refine ⟨k_siblings.2.2, ?_⟩
              repeat walk_at "m"
              walk_at "kx"; refine' l_item F IH (by decide) (by decide) rfl (by intro _; with_unfolding_all rfl) ?_
              repeat walk_at "m"
              walk_at "kx"; refine ⟨F.k, ?_⟩
              walk_at "kx"; refine m_use (siblings_spec (R.dl (by omega)) F.gd F.sub K) fun _ _ r3 g₃ h₅ t₆ G3 o3 => ?_
              obtain ⟨ss, IS, HS⟩ := o3
              have hsl := HS.length
              replace F := F.call G3
              repeat walk_at "m"
              walk_at "kx"; refine' l_len F IS (by rw [hsl]; induction c <;> decide) ?_; intro _ _
              repeat walk_at "m"
              rw [hsl, hpl, eh]
              walk_at "kx"; refine .mk g₃ _ _ G3.up F ⟨fun e => ⟨c, r, rfl, ?_⟩, fun e c' r' ee => ?_⟩
              · have := eq_of_beq e; omega
              · injection ee with e1 e2; subst e1; subst e2
                intro q; rw [q] at e; simp at e
            · walk_at "kx"; refine .mk g₄ _ _ (fun _ _ e => e) F ⟨fun e => Bool.noConfusion e, fun _ c' r' ee => ?_⟩
              rw [ee] at PH
              cases PH
              exact absurd hb (by simp)
          cases hz with
          | mk g₅ h₈ t₈ up5 F hTF =>
          obtain ⟨hT, hF⟩ := hTF
          replace WI := WI.mono up5
          replace K := K.mono up5
          replace H1 := H1.mono up5
          replace IH := IH.mono up5
          replace IL := IL.mono up5
          replace IV := IV.mono up5
          replace XS := XS.imp fun _ _ z => z.mono up5
          walk_at "kx"; refine ⟨fun hb => ?_, fun hb => ?_⟩
          · obtain ⟨c0, r0, eh, hcl⟩ := hT hb
            have hck := HL.complete eh hcl
            have hk0 : c0.kd = k := (HL.head_kd (by rw [eh]; exact .head _)).1
            subst hk0
            repeat walk_at "m"
            walk_at "kx"; refine' it_list R.hh F IH ?_
            try clear F
            intro I o h₂ fp T F It T0 hfp
            walk_at "kx"; refine' for_run It F T0 hfp ?hx rfl rfl (fun i g' l' μ' => (∃ junk, l' = (("heads", r4) :: ("first", x) :: ("lines", r1) :: ("line", lv) :: ("row", rv) :: ("rows", v) :: ("self", .ref wa) :: junk : List (Str × Value))) ∧
              μ' = [] ∧ ∀ c ∈ (headsP lines).take i, ¬ Reach (withConP c c.ar lines) (c.fld d ++ rest) (List.replicate c.ar .wild ++ ps0)) ⟨⟨[], rfl⟩, rfl, by simp⟩ ?turn ?done
            case hx => exact rfl
            case turn =>
              try clear F
              intro i v' g' h' t' l' μ' o' hi hP up hJ F Kp kn kr
              obtain ⟨⟨junk, rfl⟩, rfl, hJ⟩ := hJ
              obtain ⟨c, e2, tkc, rfl⟩ := PH.get hP
              obtain ⟨hkc, hd⟩ := HL.head_kd (List.mem_of_getElem? e2)
              replace WI := WI.mono up
              replace K := K.mono up
              replace H1 := H1.mono up
              replace IV := IV.mono up
              have hcar := Cn.ar_le c
              repeat walk_at "m"
              walk_at "kx"; refine' m_known F WI K ?_ <;> try exact .none
              intro t₅
              walk_at "kx"; refine' m_arity F K ?_
              refine ⟨k_arity.2.2, ?_⟩
              repeat walk_at "m"
              walk_at "kx"; refine ⟨F.k, ?_⟩
              walk_at "kx"; refine m_use (arity_spec (R.dl (by omega)) F.gd F.sub K) fun _ _ r2 g₂ h₅ t₅ G2 o2 => ?_
              obtain ⟨uu2, rfl⟩ := o2
              replace F := F.call G2
              replace WI := WI.mono G2.up
              replace K := K.mono G2.up
              replace H1 := H1.mono G2.up
              replace IV := IV.mono G2.up
              repeat walk_at "m"
              rename Fm _ _ _ _ _ _ _ _ _ => F
              walk_at "kx"; refine' m_method F WI rfl w_ok w_reached.1 w_reached.2.1 ?_
              refine ⟨w_reached.2.2, ?_⟩
              repeat walk_at "m"
              walk_at "kx"; refine ⟨F.k, ?_⟩
              walk_at "kx"; refine m_use (with_con_spec (R.dl (by omega)) F.gd F.sub H1 hS1 hcar) fun _ _ r5 g₅ h₈ t₈ G5 o5 => ?_
              replace F := F.call G5
              replace WI := WI.mono G5.up
              replace K := K.mono G5.up
              replace IV := IV.mono G5.up
              repeat walk_at "m"
              walk_at "kx"; refine' m_newlist F (Nat.le_of_ble_eq_true rfl) ?_
              try clear F
              intro a6 h₉ F ha6
              have Fz := F.lay ha6
              clear F
              obtain ⟨g₆, up6, IL6, F⟩ := Fz
              repeat walk_at "m"
              walk_at "kx"; refine ⟨F.k, ?_⟩
              walk_at "kx"; refine m_use (with_con_spec (c := c) (n := c.ar) (R.dl (by omega)) F.gd F.sub (RowAt.one IL6 (IV.mono up6)) hS1r hcar) fun _ _ r7 g₇ h₁₀ t₁₀ G7 o7 => ?_
              rw [show withConP c c.ar [.wild :: ps0] = [List.replicate c.ar .wild ++ ps0] from rfl] at o7
              obtain ⟨qv, IQ, HQ⟩ := o7.one
              replace F := F.call G7
              repeat walk_at "m"
              walk_at "kx"; refine' l_item F IQ (by decide) (by decide) rfl (by intro _; with_unfolding_all rfl) ?_
              repeat walk_at "m"
              walk_at "kx"; refine ⟨F.k, ?_⟩
              walk_at "kx"; refine m_use (ih _ s g₇ _ _ _ _ _ _ _ (c.fld d ++ rest) (R.dl (by omega)) F.gd F.sub ⟨wa, kv, rfl, (WI.mono up6).mono G7.up, (K.mono up6).mono G7.up⟩ ((o5.mono up6).mono G7.up) (HL.con hkc) (Nat.le_trans (flat_len _ (conP_len c c.ar) lines) hl1) HQ (by have := wilds_rt (c.fld d); rw [c.fld_len] at this; exact this.append b) (by have := meas_fld (r := rest) hd; rw [hkc] at this; omega) (by omega)) fun _ _ r8 g₈ h₁₁ t₁₁ G8 o8 => ?_
              obtain ⟨b8, rfl, h8⟩ := o8
              replace F := F.call G8
              repeat walk_at "m"
              walk_at "kx"; refine ⟨fun hb8 => ?_, fun hb8 => ?_⟩
              · repeat walk_at "m"
                walk_at "kx"; exact ret_ (Out := fun _ _ r => ∃ b : Bool, r = .bool b ∧ (b = true ↔ Reach rows ((c0.kd, d) :: rest) (p0 :: ps0))) F ⟨_, rfl, fin true (iff_of_true rfl ((reach_wild HL hck).mpr ⟨c, List.mem_of_getElem? e2, h8.mp hb8⟩))⟩
              · have fin2 : ∀ c' ∈ (headsP lines).take (i + 1), ¬ Reach (withConP c' c'.ar lines) (c'.fld d ++ rest) (List.replicate c'.ar .wild ++ ps0) := by
                  rw [take_snoc e2]
                  intro c' hc'
                  rcases List.mem_append.mp hc' with q | q
                  · exact hJ c' q
                  · rw [List.mem_singleton.mp q]; intro z; rw [h8.mpr z] at hb8; exact Bool.noConfusion hb8
                have up' : ∀ a y, g' a = some y → g₈ a = some y := fun a y e => G8.up _ _ (G7.up _ _ (up6 _ _ (G5.up _ _ (G2.up _ _ e))))
                repeat walk_at "m"
                exact kn g₈ _ _ _ _ up' (F.relook (l' := ("heads", r4) :: ("first", x) :: ("lines", r1) :: ("line", lv) :: ("row", rv) :: ("rows", v) :: ("self", .ref wa) :: ("size", _) :: ("name", _) :: ("heads", r4) :: ("first", x) :: ("lines", r1) :: ("line", lv) :: ("row", rv) :: ("rows", v) :: ("self", .ref wa) :: junk) fun y => lk_base (b := [("heads", r4), ("first", x), ("lines", r1), ("line", lv), ("row", rv), ("rows", v), ("self", .ref wa)]) (st := [("size", _), ("name", _)]) junk rfl y) ⟨⟨_, rfl⟩, rfl, fin2⟩
            case done =>
              try clear F
              intro g' h' t' l' μ' up hJ F
              obtain ⟨⟨junk, rfl⟩, rfl, hJ⟩ := hJ
              rw [List.take_of_length_le (by omega)] at hJ
              have hno : ¬ Reach lines ((c0.kd, d) :: rest) (.wild :: ps0) := fun z => by
                obtain ⟨c, hc, hz⟩ := (reach_wild HL hck).mp z
                exact hJ c hc hz
              repeat walk_at "m"
              walk_at "kx"; exact ret_ (Out := fun _ _ r => ∃ b : Bool, r = .bool b ∧ (b = true ↔ Reach rows ((c0.kd, d) :: rest) (p0 :: ps0))) F ⟨_, rfl, fin false (iff_of_false (by decide) hno)⟩
          · have hinc := hF hb
            have hFr : ∃ p, Free k d lines p := by
              cases hh : headsP lines with
              | cons c r =>
                obtain ⟨e, h1, h2⟩ := HL.incomplete hh (hinc c r hh)
                exact ⟨_, free_con HL (((Cn.sibs_iff c e).mp h1).trans (HL.head_kd (by rw [hh]; exact .head _)).1) h2⟩
              | nil =>
                by_cases hz : litsOf lines = []
                · exact ⟨_, free_wild HL hh hz⟩
                · have : ∃ j, j ≤ 2 ∧ litAt (k == .I) j ∉ litsOf lines := by
                    refine ⟨2, Nat.le_refl _, fun q => ?_⟩
                    have := (HL.okLits _ q).1
                    cases hI : (k == Kd.I) with
                    | true => rw [hI] at this; rcases this with e | e <;> exact absurd e (by decide)
                    | false => rw [hI] at this; rcases this with e | e <;> exact absurd e (by decide)
                  obtain ⟨j, hj, hjn⟩ := this
                  exact ⟨_, free_lit HL hh hz hj hjn⟩
            obtain ⟨pf, Fr⟩ := hFr
            repeat walk_at "m"
            walk_at "kx"; refine' m_method F WI rfl w_ok w_reached.1 w_reached.2.1 ?_
            refine ⟨w_reached.2.2, ?_⟩
            repeat walk_at "m"
            walk_at "kx"; refine ⟨F.k, ?_⟩
            walk_at "kx"; refine m_use (with_any_spec (R.dl (by omega)) F.gd F.sub H1 hS1) fun _ _ r5 g₆ h₉ t₉ G5 o5 => ?_
            replace F := F.call G5
            repeat walk_at "m"
            walk_at "kx"; refine' m_slice (by intro _ _; rfl) ?_
            repeat walk_at "m"
            walk_at "kx"; refine' sl_end F (IL.mono G5.up) (by simp; omega) (.int _ _) .none ?_
            try clear F
            intro b6 h₉ F hb6
            rw [show ((1 : Int)) = ((1 : Nat) : Int) from rfl, pick_from] at F
            have Fz := F.lay hb6
            clear F
            obtain ⟨g₇, up7, IL7, F⟩ := Fz
            repeat walk_at "m"
            walk_at "kx"; refine ⟨F.k, ?_⟩
            walk_at "kx"; refine m_use (ih _ s g₇ _ _ _ _ _ _ ps0 rest (R.dl (by omega)) F.gd F.sub ⟨wa, kv, rfl, (WI.mono G5.up).mono up7, (K.mono G5.up).mono up7⟩ (o5.mono up7) HL.any (Nat.le_trans (flat_len _ anyP_len lines) hl1) ⟨_, IL7, XS.imp fun _ _ z => (z.mono G5.up).mono up7⟩ b hrm (by omega)) fun _ _ r8 g₈ h₁₁ t₁₁ G8 o8 => ?_
            obtain ⟨b8, rfl, h8⟩ := o8
            walk_at "kx"; exact ret_ (F.call G8) ⟨_, rfl, fin b8 (h8.trans (reach_any HL Fr).symm)⟩
/-! unmatched, useless -/
theorem ConsAt.handed {prog : Program} {w : World} {g : Kn} {v : Value} (K : ConsAt prog w g v) : handedIn v = true := by obtain ⟨_, _, _, _, e, _⟩ := K; rw [e]; rfl
theorem unmatched_spec {prog : Program} {w : World} {A : Around} {s : Shared} {g : Kn} {h : Heap} {t : Nat} {v cv : Value} {rows : List (List Pat)} {cols : List Col} (R : Room A 500) (gd : Gd w g) (sub : Sub g h)
    (H : RowsAt g v rows) (HR : Rows cols rows) (hl : rows.length ≤ 1000) (hm : meas cols ≤ 100) (C : ConsAt prog w g cv) :
    wpAny (model prog w) A (call (.ref 464) [v, cv]) (Ret [] g s h (fun g' _ r => (rows = [] ∧ IsL g' r []) ∨ (rows ≠ [] ∧ MissOut rows cols g' r))) NoE (St s h t) := by
  refine' m_enter [("cons", cv), ("rows", v)] gd sub ?ho ?hcd ?hroom ?hbind ?hloc ?hcell ?hco ?hgen ?hk ?hb
  walk_at "enter"
  try clear F
  intro L h₁ t₁ F
  refine' hideF ?_
  intro _ _
  obtain ⟨vs, I, ee⟩ := H.nil
  repeat walk_at "m"
  walk_at "kx"; refine' m_newlist F (Nat.le_of_ble_eq_true rfl) ?_
  try clear F
  intro a h₂ F ha
  walk_at "kx"; refine' l_eqnil (R.dl (by omega)) (I.list F) ⟨_, rfl, muL F⟩ ?_
  replace F := F.drop
  rw [ee]
  repeat walk_at "m"
  walk_at "kx"; refine ⟨fun hb => ?_, fun hb => ?_⟩
  · have e2 : rows = [] := by simpa using hb
    repeat walk_at "m"
    walk_at "kx"; refine' m_newlist F (Nat.le_of_ble_eq_true rfl) ?_
    try clear F
    intro a h₂ F ha
    have Fz := F.lay ha
    clear F
    obtain ⟨g₁, up1, IL, F⟩ := Fz
    walk_at "kx"; exact ret_ F (.inl ⟨e2, IL⟩)
  · have hne : rows ≠ [] := by intro q; rw [q] at hb; exact Bool.noConfusion hb
    repeat walk_at "m"
    walk_at "kx"; refine ⟨F.k, ?_⟩
    walk_at "kx"; refine m_use (mk_constructors (R.dl (by omega)) F.gd F.sub) fun _ _ r1 g₁ h₂ t₂ G1 o1 => ?_
    obtain ⟨a1, rfl, I1⟩ := o1
    replace F := F.call G1
    repeat walk_at "m"
    walk_at "kx"; refine ⟨F.k, ?_⟩
    walk_at "kx"; refine m_use (mk_watcher (R.dl (by omega)) F.gd F.sub) fun _ _ r2 g₂ h₃ t₃ G2 o2 => ?_
    obtain ⟨a2, rfl, I2⟩ := o2
    replace F := F.call G2
    have WA : WatchAt prog w g₂ (.ref a2) := ⟨_, _, rfl, I2, _, _, rfl, I1.mono G2.up, (C.mono G1.up).mono G2.up⟩
    replace H := (H.mono G1.up).mono G2.up
    obtain ⟨ws, J, P⟩ := H
    have hwl := P.length
    repeat walk_at "m"
    walk_at "kx"; refine' m_method F I2 rfl w_ok w_missing.1 w_missing.2.1 ?_
    refine ⟨w_missing.2.2, ?_⟩
    repeat walk_at "m"
    walk_at "kx"; refine' it_list R.hh F J ?_
    try clear F
    intro I o h₄ fp T F It T0 hfp
    walk_at "kx"; refine' comp_val (μm := []) (μr := []) It (by omega) F T0 hfp ?hcell ?hkind ?hx (fun i g' μ' ys => μ' = [] ∧ All2 (RowAt g') ys (rows.take i)) ⟨rfl, .nil⟩ ?turn ?hJ ?done
    case hcell => decide
    case hkind => exact rfl
    case hx => exact rfl
    case hJ => intro i g' μ' ys h; rw [h.1]
    case turn =>
      try clear F
      intro C D i v g' h' t' μ' ys m o' hi hP up hJ hC F KT KN kt kn
      obtain ⟨rfl, A2⟩ := hJ
      obtain ⟨row, e2, HRw⟩ := P.get hP
      have hrl : row.length ≤ 1000 := by rw [(HR row (List.mem_of_getElem? e2)).length]; have := meas_len cols; omega
      obtain ⟨xs, K, Q⟩ := HRw.mono up
      have hxl := Q.length
      refine ifs_nil ⟨fun _ => ?_, fun e => Bool.noConfusion e⟩
      repeat walk_at "m"
      walk_at "kx"; refine' l_copy F K (by omega) ?_
      try clear F
      intro b' h₃ n' F hb'
      have Fz := F.lay hb'
      clear F
      obtain ⟨g₁, up1, IL, F⟩ := Fz
      walk_at "kx"; first | refine kt _ g₁ _ _ ([]) up1 F ⟨rfl, ?_⟩ | refine kn g₁ _ _ ([]) up1 F ⟨rfl, ?_⟩
      rw [take_snoc e2]
      exact (A2.imp fun _ _ z => z.mono up1).snoc ⟨_, IL, Q.imp fun _ _ z => z.mono up1⟩
    case done =>
      try clear F
      intro D g' h' t' μ' ys m up hJ hy hD F
      obtain ⟨rfl, A2⟩ := hJ
      have Fz := F.lay hD
      clear F
      obtain ⟨g₃, up3, IL, F⟩ := Fz
      rw [List.take_of_length_le (by omega)] at A2
      have HN : RowsAt g₃ (.ref D) rows := ⟨_, IL, A2.imp fun _ _ z => z.mono up3⟩
      obtain ⟨row, rs, rfl⟩ : ∃ r q, rows = r :: q := by cases rows with | nil => exact absurd rfl hne | cons r q => exact ⟨_, _, rfl⟩
      have hrow := HR row (.head _)
      have hrl : row.length ≤ 1000 := by rw [hrow.length]; have := meas_len cols; omega
      cases P with
      | @cons wv _ wr _ pa pr =>
      obtain ⟨xs, K, Q⟩ := (pa.mono up).mono up3
      have hxl := Q.length
      repeat walk_at "m"
      walk_at "kx"; refine' l_item F ((J.mono up).mono up3) (by decide) (by decide) rfl (by intro _; with_unfolding_all rfl) ?_
      repeat walk_at "m"
      walk_at "kx"; refine' l_len F K (by omega) ?_; intro tk' _
      repeat walk_at "m"
      walk_at "kx"; refine ⟨F.k, ?_⟩
      rw [hxl, hrow.length]
      walk_at "kx"; refine m_use (missing_spec 100 _ s g₃ _ _ _ _ _ _ cols (R.dl (by omega)) F.gd F.sub ((WA.mono up).mono up3) HN HR hl hm (by omega)) fun _ _ r5 g₅ h₇ t₇ G5 o5 => ?_
      walk_at "kx"; exact ret_ (F.call G5) (.inr ⟨hne, o5⟩)

noncomputable def reachB (rows : List (List Pat)) (cols : List Col) (i : Nat) : Bool := @decide (∃ r, rows[i]? = some r ∧ Reach (rows.take i) cols r) (Classical.propDecidable _)
theorem reachB_iff {rows : List (List Pat)} {cols : List Col} {i : Nat} {r : List Pat} (e : rows[i]? = some r) : reachB rows cols i = true ↔ Reach (rows.take i) cols r := by
  unfold reachB
  rw [@decide_eq_true_iff _ (Classical.propDecidable _)]
  constructor
  · rintro ⟨r', e', z⟩; rw [e] at e'; cases e'; exact z
  · exact fun z => ⟨r, e, z⟩
noncomputable def natInts (l : List Nat) : List Int := l.map fun (i : Nat) => (i : Int)
theorem IntsAre.snoc {vs : List Value} {ns : List Int} (H : IntsAre vs ns) (n : Int) (t : Tok) : IntsAre (vs ++ [.int n t]) (ns ++ [n]) := by
  induction H with
  | nil => exact .cons _ _ .nil
  | cons a b _ ih => exact .cons _ _ ih
theorem range_filter_snoc (p : Nat → Bool) (i : Nat) : (List.range (i + 1)).filter p = (List.range i).filter p ++ (if p i then [i] else []) := by
  rw [List.range_succ, List.filter_append]
  congr 1
  cases h : p i <;> simp [h]

theorem useless_spec {prog : Program} {w : World} {A : Around} {s : Shared} {g : Kn} {h : Heap} {t : Nat} {v cv : Value} {rows : List (List Pat)} {cols : List Col} (R : Room A 500) (gd : Gd w g) (sub : Sub g h)
    (H : RowsAt g v rows) (HR : Rows cols rows) (hl : rows.length ≤ 1000) (hm : meas cols ≤ 100) (C : ConsAt prog w g cv) :
    wpAny (model prog w) A (call (.ref 469) [v, cv]) (Ret [] g s h (fun g' _ r => ∃ vs, IsL g' r vs ∧ IntsAre vs (natInts ((List.range rows.length).filter fun i => !reachB rows cols i)))) NoE (St s h t) := by
  refine' m_enter [("cons", cv), ("rows", v)] gd sub ?ho ?hcd ?hroom ?hbind ?hloc ?hcell ?hco ?hgen ?hk ?hb
  walk_at "enter"
  try clear F
  intro L h₁ t₁ F
  refine' hideF ?_
  intro _ _
  repeat walk_at "m"
  walk_at "kx"; refine ⟨F.k, ?_⟩
  walk_at "kx"; refine m_use (mk_constructors (R.dl (by omega)) F.gd F.sub) fun _ _ r1 g₁ h₂ t₂ G1 o1 => ?_
  obtain ⟨a1, rfl, I1⟩ := o1
  replace F := F.call G1
  repeat walk_at "m"
  walk_at "kx"; refine ⟨F.k, ?_⟩
  walk_at "kx"; refine m_use (mk_watcher (R.dl (by omega)) F.gd F.sub) fun _ _ r2 g₂ h₃ t₃ G2 o2 => ?_
  obtain ⟨a2, rfl, I2⟩ := o2
  replace F := F.call G2
  have WA : WatchAt prog w g₂ (.ref a2) := ⟨_, _, rfl, I2, _, _, rfl, I1.mono G2.up, (C.mono G1.up).mono G2.up⟩
  replace H := (H.mono G1.up).mono G2.up
  obtain ⟨ws, J, P⟩ := H
  have hwl := P.length
  repeat walk_at "m"
  walk_at "kx"; refine' m_newlist F (Nat.le_of_ble_eq_true rfl) ?_
  try clear F
  intro D h₄ F hD
  repeat walk_at "m"
  walk_at "kx"; refine' m_newtuple F (Nat.le_of_ble_eq_true rfl) ?_
  try clear F
  intro a4 h₅ F ha4
  walk_at "kx"; refine' unp_mu R.hh F ?_
  try clear F
  intro h₆ F
  refine ⟨_, _, rfl, ?_⟩
  repeat walk_at "m"
  rename Fm _ _ _ _ _ _ _ _ _ => F
  walk_at "kx"; refine' l_len F J (by omega) ?_; intro tk' _
  repeat walk_at "m"
  walk_at "kx"; refine' r_call1 F ?_
  try clear F
  intro r h₃ t₃ b1 b2 b3 F hr
  walk_at "kx"; refine' it_range R.hh F hr (by decide) (by omega) (by omega) ?_
  try clear F
  intro I o h₇ fp T F It T0 hfp
  have en : (((ws.length : Nat) : Int) - 0).toNat = rows.length := by omega
  rw [en] at It
  walk_at "kx"; refine' for_run It F T0 hfp ?hx rfl rfl (fun i g' l' μ' => (l' = ([("watcher", .ref a2), ("found", .ref D), ("cons", cv), ("rows", v)] : List (Str × Value)) ∨ ∃ u, l' = ([("number", u), ("watcher", .ref a2), ("found", .ref D), ("cons", cv), ("rows", v)] : List (Str × Value))) ∧
    ∃ ys m, μ' = [(D, listO ys m)] ∧ IntsAre ys (natInts ((List.range i).filter fun i => !reachB rows cols i)) ∧ ys.length ≤ i) ⟨.inl rfl, [], 0, rfl, .nil, Nat.le_refl _⟩ ?turn ?done
  case hx => exact rfl
  case turn =>
    try clear F
    intro i v' g' h' t' l' μ' o' hi hP up hJ F Kp kn kr
    obtain ⟨hl', ys, m, rfl, A2, hys⟩ := hJ
    replace F : Fm _ _ _ _ _ _ _ (([("number", v'), ("watcher", .ref a2), ("found", .ref D), ("cons", cv), ("rows", v)] : List (Str × Value))) _ := F.relook fun y => by
      rcases hl' with rfl | ⟨u, rfl⟩
      · rfl
      · exact lk_shadow y
    obtain ⟨tki, rfl⟩ := hP
    rw [Int.zero_add] at F
    obtain ⟨row, hrow⟩ : ∃ r, rows[i]? = some r := ⟨rows[i], List.getElem?_eq_getElem hi⟩
    have hrt := HR row (List.mem_of_getElem? hrow)
    have hrl : row.length ≤ 1000 := by rw [hrt.length]; have := meas_len cols; omega
    obtain ⟨wv, hwv⟩ : ∃ x, ws[i]? = some x := ⟨ws[i]'(by omega), List.getElem?_eq_getElem (by omega)⟩
    have HW : RowAt g₂ wv row := by
      obtain ⟨r', e', z⟩ := P.get hwv
      rw [hrow] at e'; cases e'; exact z
    replace WA := WA.mono up
    obtain ⟨_, kv, e0, WI, K⟩ := WA
    cases e0
    repeat walk_at "m"
    rename Fm _ _ _ _ _ _ _ _ _ => F
    walk_at "kx"; refine' m_method F WI rfl w_ok w_reached.1 w_reached.2.1 ?_
    refine ⟨w_reached.2.2, ?_⟩
    repeat walk_at "m"
    walk_at "kx"; refine' m_slice (by intro _ _; rfl) ?_
    repeat walk_at "m"
    walk_at "kx"; refine' sl_end F (J.mono up) (by omega) .none (.int _ _) ?_
    try clear F
    intro b6 h₉ F hb6
    rw [pick_upto] at F
    have Fz := F.lay hb6
    clear F
    obtain ⟨g₆, up6, IL6, F⟩ := Fz
    walk_at "kx"; refine' it_list R.hh F IL6 ?_
    try clear F
    intro I2 o2 h₁₀ fp2 T2 F It2 T20 hfp2
    walk_at "kx"; refine' comp_val (μm := []) (μr := [_, _]) It2 (by simp; omega) F T20 hfp2 ?hcell ?hkind ?hx (fun j g' μ' ys => μ' = [] ∧ All2 (RowAt g') ys ((rows.take i).take j)) ⟨rfl, .nil⟩ ?turn2 ?hJ ?done2
    case hcell => decide
    case hkind => exact rfl
    case hx => exact rfl
    case hJ => intro i g' μ' ys h; rw [h.1]
    case turn2 =>
      try clear F
      intro C2 D2 j v2 g7 h' t' μ' ys m o' hj hP2 up7 hJ2 hC2 F KT KN kt kn
      obtain ⟨rfl, B2⟩ := hJ2
      obtain ⟨row2, e2, HRw⟩ := (P.take i).get hP2
      have hrl2 : row2.length ≤ 1000 := by rw [(HR row2 (List.mem_of_mem_take (List.mem_of_getElem? e2))).length]; have := meas_len cols; omega
      obtain ⟨xs, K2, Q⟩ := ((HRw.mono up).mono up6).mono up7
      have hxl := Q.length
      refine ifs_nil ⟨fun _ => ?_, fun e => Bool.noConfusion e⟩
      repeat walk_at "m"
      walk_at "kx"; refine' l_copy F K2 (by omega) ?_
      try clear F
      intro b' h₃ n' F hb'
      have Fz := F.lay hb'
      clear F
      obtain ⟨g₁, up1, IL, F⟩ := Fz
      walk_at "kx"; first | refine kt _ g₁ _ _ ([]) up1 F ⟨rfl, ?_⟩ | refine kn g₁ _ _ ([]) up1 F ⟨rfl, ?_⟩
      rw [take_snoc e2]
      exact (B2.imp fun _ _ z => z.mono up1).snoc ⟨_, IL, Q.imp fun _ _ z => z.mono up1⟩
    case done2 =>
      try clear F
      intro D2 g7 h' t' μ' ys2 m2 up7 hJ2 hy2 hD2 F
      obtain ⟨rfl, B2⟩ := hJ2
      have Fz := F.lay hD2
      clear F
      obtain ⟨g₈, up8, IL8, F⟩ := Fz
      rw [List.take_of_length_le (by simp; omega)] at B2
      have HN : RowsAt g₈ (.ref D2) (rows.take i) := ⟨_, IL8, B2.imp fun _ _ z => z.mono up8⟩
      have up68 : ∀ a y, g' a = some y → g₈ a = some y := fun a y e => up8 _ _ (up7 _ _ (up6 _ _ e))
      obtain ⟨xs, KW, QW⟩ := (HW.mono up).mono up68
      have hxl := QW.length
      repeat walk_at "m"
      walk_at "kx"; refine' l_item F ((J.mono up).mono up68) (Int.natCast_nonneg i) (by omega) (by rw [Int.toNat_natCast]; exact hwv) (by intro _; with_unfolding_all rfl) ?_
      repeat walk_at "m"
      walk_at "kx"; refine' l_copy F KW (by omega) ?_
      try clear F
      intro b9 h₁₂ n9 F hb9
      have Fz := F.lay hb9
      clear F
      obtain ⟨g₉, up9, IL9, F⟩ := Fz
      repeat walk_at "m"
      walk_at "kx"; refine ⟨F.k, ?_⟩
      walk_at "kx"; refine m_use (reached_spec 100 _ s g₉ _ _ _ _ _ _ row cols (R.dl (by omega)) F.gd F.sub ⟨a2, kv, rfl, (WI.mono up68).mono up9, (K.mono up68).mono up9⟩ (HN.mono up9) (fun r hr => HR r (List.mem_of_mem_take hr)) (by simp; omega) ⟨_, IL9, QW.imp fun _ _ z => z.mono up9⟩ hrt hm (by omega)) fun _ _ r10 g₁₀ h₁₃ t₁₃ G10 o10 => ?_
      obtain ⟨bb, rfl, hbb⟩ := o10
      replace F := F.call G10
      have ebb : reachB rows cols i = bb := by
        have z := (reachB_iff (cols := cols) hrow).trans hbb.symm
        cases bb with
        | true => exact z.mpr rfl
        | false => cases q : reachB rows cols i with | false => rfl | true => exact absurd (z.mp q) (by decide)
      have upL : ∀ a y, g' a = some y → g₁₀ a = some y := fun a y e => G10.up _ _ (up9 _ _ (up68 _ _ e))
      repeat walk_at "m"
      walk_at "kx"; refine ⟨fun hb => ?_, fun hb => ?_⟩
      · have hb' : bb = false := by simpa using hb
        repeat walk_at "m"
        walk_at "kx"; refine' l_appendM (D := D) (vs := ys) (n := m) F.swap ?_
        refine ⟨_, rfl, ?_⟩
        repeat walk_at "m"
        walk_at "kx"; refine' l_append F.swap (by omega) ?_
        try clear F
        intro h₁₄ F
        repeat walk_at "m"
        walk_at "kx"; refine kn g₁₀ _ _ _ _ upL F.swap ⟨.inr ⟨_, rfl⟩, _, _, rfl, ?_, by simp; omega⟩
        rw [range_filter_snoc, ebb, hb']
        unfold natInts
        rw [List.map_append]
        exact IntsAre.snoc A2 _ _
      · have hb' : bb = true := by simpa using hb
        repeat walk_at "m"
        walk_at "kx"; refine kn g₁₀ _ _ _ _ upL F ⟨.inr ⟨_, rfl⟩, ys, m, rfl, ?_, by omega⟩
        rw [range_filter_snoc, ebb, hb']
        simpa using A2
  case done =>
    try clear F
    intro g' h' t' l' μ' up hJ F
    obtain ⟨hl', ys, m, rfl, A2, hys⟩ := hJ
    rcases hl' with rfl | ⟨u, rfl⟩
    all_goals
      repeat walk_at "m"
      have Fz := F.lay hD
      clear F
      obtain ⟨g₁, up1, IL, F⟩ := Fz
      walk_at "kx"; exact ret_ F ⟨_, IL, A2⟩
/-! more leaves: ints, texts, stores into lists -/
section
variable {M : Model} {prog : Program} {w : World} {A : Around} {E : Value → Shared → Prop} {s sh : Shared} {env : Env} {U : List Addr} {g₀ g g' : Kn} {h₀ h h' : Heap} {L : Addr} {t : Nat} {l l' : List (Str × Value)} {μ μ' : List (Addr × Obj)}
theorem i_max {a b : Int} {t' u : Tok} {Q : Value → Shared → Prop} (hh : A.handled = none) (F : Fm U w g₀ h₀ L g h l μ) (hQ : ∀ h' t' u', Fm U w g₀ h₀ L g h' l μ → Q (.int (max a b) u') (St s h' t')) :
    wpAny (model prog w) A (call (.builtin "max") [.int a t', .int b u]) Q E (St s h t) :=
  max_two_ints (s := St s h t) hh fun h' tk hk => by
    by_cases q : b > a
    · rw [if_pos q]; have := hQ h' tk u (F.keep hk); rw [show max a b = b by omega] at this; exact this
    · rw [if_neg q]; have := hQ h' tk t' (F.keep hk); rw [show max a b = a by omega] at this; exact this
theorem i_min {a b : Int} {t' u : Tok} {Q : Value → Shared → Prop} (hh : A.handled = none) (F : Fm U w g₀ h₀ L g h l μ) (hQ : ∀ h' t' u', Fm U w g₀ h₀ L g h' l μ → Q (.int (min a b) u') (St s h' t')) :
    wpAny (model prog w) A (call (.builtin "min") [.int a t', .int b u]) Q E (St s h t) :=
  min_two_ints (s := St s h t) hh fun h' tk hk => by
    by_cases q : b < a
    · rw [if_pos q]; have := hQ h' tk u (F.keep hk); rw [show min a b = b by omega] at this; exact this
    · rw [if_neg q]; have := hQ h' tk t' (F.keep hk); rw [show min a b = a by omega] at this; exact this
theorem i_int {n : Int} {u : Tok} {Q : Value → Shared → Prop} (h : Q (.int n u) sh) : wpAny (model prog w) A (call (.type "int") [.int n u]) Q E sh := call_int_int h
theorem b_int {b : Bool} {Q : Value → Shared → Prop} (hQ : ∀ tk t', Q (.int (if b then 1 else 0) tk) (St s h t')) : wpAny (model prog w) A (call (.type "int") [.bool b]) Q E (St s h t) := call_int_bool (s := St s h t) (hQ _ _)
theorem s_ne {x y : Str} {t' u : Tok} {Q : Value → Shared → Prop} (h : Q (.bool (x != y)) sh) : wpAny (model prog w) A (compareOp .NotEq (.str x t') (.str y u)) Q E sh := PyProof.Rows.ne_str h
/-- xs[k] of a list that may change -/
theorem x_item {value slice : Expr} {a : Addr} {x : Value} {vs : List Value} {k : Int} {u : Tok} {Q : Value → Shared → Prop} (hl : h.IsList a vs.toArray) (hlo : 0 ≤ k) (hhi : k < 2 ^ 20) (hx : vs[k.toNat]? = some x)
    (hs : ∀ a, subscripted slice false (.ref a) (.int k u) = operate [.ref a, .int k u] (getItem (.ref a) (.int k u))) (hQ : Q x (St s h t)) : wpAny (model prog w) A (subscriptTail value slice (.ref a) (.int k u)) Q E (St s h t) :=
  tail_any (s := St s h t) hl.typeIs slot_list_getitem.lookup (wpAny_getItem_list (s := St s h t) hl hlo (by omega) (by simpa using hx) hQ) (hs a)
noncomputable def LsO (o : Obj) (vs : List Value) : Prop := o.cls = .type "list" ∧ ∃ n, o.data = .seq vs.toArray n
theorem LsO.at {a : Addr} {o : Obj} {vs : List Value} (X : LsO o vs) (F : Fm U w g₀ h₀ L g h l ((a, o) :: μ)) : h.IsList a vs.toArray := ⟨o, (F.mu _ (.head _)).1, X.1, X.2⟩
theorem LsO.of {vs : List Value} {n : Nat} : LsO (listO vs n) vs := ⟨rfl, n, rfl⟩
theorem x_put {a : Addr} {o : Obj} {v : Value} {vs : List Value} {k : Int} {u : Tok} {Q : Unit → Shared → Prop} (F : Fm U w g₀ h₀ L g h l ((a, o) :: μ)) (X : LsO o vs) (hlo : 0 ≤ k) (hhi : k.toNat < vs.length) (hz : vs.length ≤ 2 ^ 20)
    (hQ : ∀ h' o', LsO o' (vs.set k.toNat v) → Fm U w g₀ h₀ L g h' l ((a, o') :: μ) → Q () (St s h' t)) : wpAny (model prog w) A (setItem (.ref a) (.int k u) v) Q E (St s h t) :=
  wpAny_setItem_list (s := St s h t) (X.at F) hlo (by omega) (by simp; omega) fun h' Y hs => by
    obtain ⟨o', e, hc, n', hd⟩ := Y
    exact hQ h' o' ⟨hc, n', by rw [hd]; simp⟩ (F.turn hs e)
theorem it_str {x : Str} {u : Tok} {Q : Value → Shared → Prop} (hh : A.handled = none) (F : Fm U w g₀ h₀ L g h l μ)
    (k : ∀ I o h' fp T, Fm U w g₀ h₀ L g h' l ((I, o) :: μ) → Itr prog w A I fp x.cps.size (SignAt x) T → T 0 h' → (∀ b ∈ fp, b = I ∨ ∃ y, g b = some y) → Q (.ref I) (St s h' t)) :
    wpAny (model prog w) A (pyIter (.str x u)) Q E (St s h t) := by
  cases ha : x.cps.all (· < 128)
  · refine wpAny_pyIter_wide (s := St s h t) ha ?_
    have F' := F.push { cls := .type "str_iterator", data := .fields #[.str x u, .int 0 0] } rfl
    exact k h.objs.size _ _ [h.objs.size] _ F' ⟨Walks.strWide hh h.objs.size x u, fun i h ⟨o, e, _⟩ => ⟨o, e⟩⟩ ⟨_, Heap.get?_push_size _ rfl, rfl, rfl⟩ fun b hb => .inl (by simpa using hb)
  · refine wpAny_pyIter_ascii (s := St s h t) ha ?_
    have F' := F.push { cls := .type "str_ascii_iterator", data := .fields #[.str x u, .int 0 0] } rfl
    exact k h.objs.size _ _ [h.objs.size] _ F' ⟨Walks.strAscii hh h.objs.size x u, fun i h ⟨o, e, _⟩ => ⟨o, e⟩⟩ ⟨_, Heap.get?_push_size _ rfl, rfl, rfl⟩ fun b hb => .inl (by simpa using hb)
/-! pairs walked -/
structure Itr2 (prog : Program) (w : World) (A : Around) (I : Addr) (wr fp : List Addr) (n : Nat) (P : Nat → Value → Value → Prop) (T : Nat → Heap → Prop) : Prop where
  ex : ∃ Pt Mid, WalksU prog w A I fp wr n Pt T Mid ∧ ∀ i vals, Pt i vals → ∃ a b, vals = #[a, b] ∧ P i a b
  live : ∀ i h, T i h → ∀ a ∈ wr, ∃ o, h.get? a = some o
theorem Fm.reMany {is : List (Addr × Obj)} (F : Fm U w g₀ h₀ L g h l (is ++ μ)) (hk : ∀ b x, b ∉ is.map (·.1) → h.get? b = some x → h'.get? b = some x) (live : ∀ a ∈ is.map (·.1), ∃ o, h'.get? a = some o) :
    ∃ is' : List (Addr × Obj), is'.map (·.1) = is.map (·.1) ∧ Fm U w g₀ h₀ L g h' l (is' ++ μ) := by
  have hm : (is.map fun p => (p.1, (h'.get? p.1).getD p.2)).map (·.1) = is.map (·.1) := by rw [List.map_map]; rfl
  refine ⟨is.map fun p => (p.1, (h'.get? p.1).getD p.2), hm, F.re ?_ (is.map (·.1)) (fun b o nb e => hk b o (fun q => nb (.tail _ q)) e) (fun a ha => by rw [List.map_append]; exact List.mem_append.mpr (.inl ha)) (by rw [List.map_append, List.map_append, hm]) fun p hp => ?_⟩
  · obtain ⟨oL, es, ep, hL, r⟩ := F.ns
    refine ⟨oL, es, ep, hk _ _ (fun q => ?_) hL, r⟩
    obtain ⟨p, hp, e⟩ := List.mem_map.mp q
    exact (F.mu p (List.mem_append.mpr (.inl hp))).2.2.1 e
  · rcases List.mem_append.mp hp with hp | hp
    · obtain ⟨q, hq, rfl⟩ := List.mem_map.mp hp
      obtain ⟨o, ho⟩ := live q.1 (List.mem_map_of_mem hq)
      dsimp only
      rw [ho]; rfl
    · refine hk _ _ (fun q => ?_) (F.mu p (List.mem_append.mpr (.inr hp))).1
      have nd := F.nd
      rw [List.map_append, List.nodup_append] at nd
      exact nd.2.2 _ q _ (List.mem_map_of_mem hp) rfl
section
variable {I : Addr} {wr fp : List Addr} {n i : Nat} {P : Nat → Value → Value → Prop} {T : Nat → Heap → Prop} {is : List (Addr × Obj)}
theorem itr2_frame (It : Itr2 prog w A I wr fp n P T) (F : Fm U w g₀ h₀ L g h l (is ++ μ)) (F' : Fm U w g₀ h₀ L g' h' l' (is ++ μ')) (up : ∀ a x, g a = some x → g' a = some x) (hfp : ∀ b ∈ fp, b ∈ is.map (·.1) ∨ ∃ x, g b = some x) (st : T i h) : T i h' := by
  obtain ⟨Pt, Mid, W, _⟩ := It.ex
  refine W.frame i h h' st fun b hb x e => ?_
  rcases hfp b hb with q | ⟨y, hy⟩
  · obtain ⟨p, hp, rfl⟩ := List.mem_map.mp q
    have := (F.mu p (List.mem_append.mpr (.inl hp))).1
    rw [e] at this; cases this
    exact (F'.mu p (List.mem_append.mpr (.inl hp))).1
  · have := F.sub _ _ hy; rw [e] at this; cases this; exact F'.sub _ _ (up _ _ hy)
theorem itr2_next {x y : Str} {px py tpos : Pos} {k : Nat} {N K : Shared → Prop} (It : Itr2 prog w A I wr fp n P T) (hh : A.handled = none) (hm : is.map (·.1) = wr) (F : Fm U w g₀ h₀ L g h l (is ++ μ)) (st : T i h) (hi : i < n)
    (c : ∀ a b h' t' is', P i a b → is'.map (·.1) = wr → T (i + 1) h' → Fm U w g₀ h₀ L g h' l (is' ++ μ) → wpAny (model prog w) A (storeName env x a) (fun _ s₁ => wpAny (model prog w) A (storeName env y b) (fun _ s₂ => K s₂) E s₁) E (St s h' t')) :
    wpAny (model prog w) A (pyNext (.ref I)) (fun r s₁ => match r with
      | none => N s₁
      | some v => wpAny (model prog w) A (letOwnedTupleGo (.Tuple [.Name x px, .Name y py] k tpos) (.ref I) v) (fun _ s₁' => wpAny (model prog w) A (assign (.Tuple [.Name x px, .Name y py] k tpos) env v) (fun _ s₂ => K s₂) E s₁') E s₁) E (St s h t) := by
  obtain ⟨Pt, Mid, W, two⟩ := It.ex
  refine W.item i (St s h t) _ E hi st fun Tp vals h₁ tk hP hT hM hk₁ => ?_
  obtain ⟨a, b, rfl, hab⟩ := two i vals hP
  refine W.go _ _ _ i Tp _ _ _ hM fun h₂ st₂ hk₂ => ?_
  have hT₂ : h₂.IsTuple Tp #[a, b] := let ⟨o, e, r⟩ := hT; ⟨o, hk₂ Tp o (W.apart i Tp h₁ hM) e, r⟩
  refine wpAny_assign_Tuple hh hT₂ rfl rfl fun h₃ hx₃ => ?_
  have old₃ : ∀ b o, h₂.get? b = some o → h₃.get? b = some o := fun b o e => hx₃ b o (Nat.ne_of_lt (Heap.lt_size e)) e
  have st₃ : T (i + 1) h₃ := W.frame _ _ _ st₂ fun b _ o e => old₃ b o e
  obtain ⟨is', hm', F'⟩ := F.reMany (h' := h₃) (fun b o nb e => old₃ b o (hk₂ b o (fun q => nb (by rw [hm]; exact q)) (hk₁ b o (fun q => nb (by rw [hm]; exact q)) e))) fun a ha => It.live _ _ st₃ a (hm ▸ ha)
  show wpAny _ A (assignInOrder [assign (.Name x px) env, assign (.Name y py) env] [a, b]) _ _ _
  exact assignInOrder_cons (wpAny_assign_Name (wpAny_mono (c a b h₃ _ is' hab (hm'.trans hm) st₃ F') (fun _ s₃ h₃ => assignInOrder_cons (wpAny_assign_Name (wpAny_mono h₃ (fun _ s₄ h₄ => assignInOrder_nil h₄) fun _ _ e => e))) fun _ _ e => e))
theorem itr2_done {Q : Option Value → Shared → Prop} (It : Itr2 prog w A I wr fp n P T) (hm : is.map (·.1) = wr) (F : Fm U w g₀ h₀ L g h l (is ++ μ)) (st : T n h)
    (k : ∀ h' t', Fm U w g₀ h₀ L g h' l μ → Q none (St s h' t')) : wpAny (model prog w) A (pyNext (.ref I)) Q E (St s h t) := by
  obtain ⟨Pt, Mid, W, _⟩ := It.ex
  refine W.done (St s h t) Q E st fun h' tk hk => k h' tk ?_
  have nd := F.nd
  rw [List.map_append, List.nodup_append] at nd
  have K : ∀ {xs : List (Addr × Obj)}, (∀ p ∈ xs, p ∈ is ++ μ ∧ p.1 ∉ wr) → (xs.map (·.1)).Nodup → Fm U w g₀ h₀ L g h' l xs := fun {xs} hx hn => by
    obtain ⟨oL, es, ep, hL, r⟩ := F.ns
    have off : ∀ a ∈ wr, g a = none ∧ a ≠ L ∧ (a ∈ U ∨ h₀.objs.size ≤ a) := fun a ha => by
      rw [← hm] at ha
      obtain ⟨p, hp, rfl⟩ := List.mem_map.mp ha
      exact (F.mu p (List.mem_append.mpr (.inl hp))).2
    refine ⟨⟨oL, es, ep, hk _ _ (fun q => (off L q).2.1 rfl) hL, r⟩, F.gd, fun b x e => hk b x (fun q => by rw [(off b q).1] at e; cases e) (F.sub b x e), F.off, F.above, F.lo, F.up, fun b x nn e => hk b x (fun q => ?_) (F.all b x nn e), F.old, fun p hp => ?_, hn⟩
    · rcases (off b q).2.2 with z | z
      · exact nn z
      · exact absurd (Heap.lt_size e) (Nat.not_lt.mpr z)
    · obtain ⟨h1, h2⟩ := hx p hp
      exact ⟨hk _ _ h2 (F.mu p h1).1, (F.mu p h1).2⟩
  exact K (fun p hp => ⟨List.mem_append.mpr (.inr hp), fun q => nd.2.2 _ (hm ▸ q) _ (List.mem_map_of_mem hp) rfl⟩) nd.2.1
noncomputable def ForAt2 (prog : Program) (w : World) (A : Around) (env : Env) (E : Value → Shared → Prop) (target : Expr) (body rest : List Stmt) (Q : Flow → Shared → Prop) (it : Value) (s₂ : Shared) : Prop :=
  codeAny (model prog w) A (.forLoop target it body [] env) (fun r s' => match r with
      | .ok f => (match f with | .next => wpAny (model prog w) A (execs rest env) Q E s' | f => Q f s')
      | .error e => cameBackBy (model prog w) A env E e s') s₂
theorem m_for2 {elts : List Expr} {k : Nat} {tpos pos : Pos} {iter : Expr} {body rest : List Stmt} {Q : Flow → Shared → Prop} (hs : (fun x => foldedSetIterable iter env x) = pure)
    (h : wpAny (model prog w) A (eval iter env) (kIter (model prog w) A E (ForAt2 prog w A env E (.Tuple elts k tpos) body rest Q)) E sh) : wpAny (model prog w) A (execs (.For (.Tuple elts k tpos) iter body [] pos :: rest) env) Q E sh :=
  wpAny_execs_cons (wpAny_For h (congrFun hs))
inductive FRun2 (s : Shared) (U : List Addr) (w : World) (g₀ : Kn) (h₀ : Heap) (L : Addr) (g : Kn) (wr : List Addr) (n : Nat) (T : Nat → Heap → Prop) (J : Nat → Kn → List (Str × Value) → List (Addr × Obj) → Prop) : Nat → Shared → Prop
  | mk (i : Nat) (g' : Kn) (h' : Heap) (t' : Nat) (l' : List (Str × Value)) (μ' is' : List (Addr × Obj)) (hi : i ≤ n) (up : Up g g') (hm : is'.map (·.1) = wr) (F : Fm U w g₀ h₀ L g' h' l' (is' ++ μ')) (hT : T i h') (hJ : J i g' l' μ') : FRun2 s U w g₀ h₀ L g wr n T J (n + 1 - i) (St s h' t')
theorem for_run2 {x y : Str} {px py tpos : Pos} {k : Nat} {body rest : List Stmt} {Q : Flow → Shared → Prop} (It : Itr2 prog w A I wr fp n P T) (hh : A.handled = none) (hm : is.map (·.1) = wr) (F : Fm U w g₀ h₀ L g h l (is ++ μ)) (T0 : T 0 h) (hfp : ∀ b ∈ fp, b ∈ wr ∨ ∃ y, g b = some y)
    (J : Nat → Kn → List (Str × Value) → List (Addr × Obj) → Prop) (J0 : J 0 g l μ)
    (turn : ∀ i a b g' h' t' l' μ' is', i < n → P i a b → Up g g' → J i g' l' μ' → Fm U w g₀ h₀ L g' h' l' (is' ++ μ') →
      ∀ K : Flow → Shared → Prop, (∀ g'' h'' t'' l'' μ'', Up g' g'' → Fm U w g₀ h₀ L g'' h'' l'' (is' ++ μ'') → J (i + 1) g'' l'' μ'' → K .next (St s h'' t'')) → (∀ v s', Q (.ret v) s' → K (.ret v) s') →
      wpAny (model prog w) A (storeName env x a) (kStore (model prog w) A NoE env y b (kRest (model prog w) A NoE env body K)) NoE (St s h' t'))
    (done : ∀ g' h' t' l' μ', Up g g' → J n g' l' μ' → Fm U w g₀ h₀ L g' h' l' μ' → wpAny (model prog w) A (execs rest env) Q E (St s h' t')) :
    ForAt2 prog w A env E (.Tuple [.Name x px, .Name y py] k tpos) body rest Q (.ref I) (St s h t) := by
  unfold ForAt2
  refine codeAny_forLoop_any (FRun2 s U w g₀ h₀ L g wr n T J) ?_ (n + 1) (FRun2.mk 0 g h t l μ is (Nat.zero_le _) (fun _ _ e => e) hm F T0 J0)
  intro k s' hI
  cases hI with
  | mk i g' h' t' l' μ' is' hi up hm' F' T' J' =>
  rcases Nat.lt_or_eq_of_le hi with hlt | rfl
  · refine itr2_next It hh hm' F' T' hlt fun a b h₂ t₂ is₂ hP hm₂ T₂ F₂ => ?_
    refine wpAny_mono (turn i a b g' h₂ t₂ l' μ' is₂ hlt hP up J' F₂ (fun f s₃ => match f with
        | .ret r => Q (.ret r) s₃
        | .next => ∃ m, m < n + 1 - i ∧ FRun2 s U w g₀ h₀ L g wr n T J m s₃
        | _ => False) (fun g'' h'' t'' l'' μ'' up2 F4 J4 => ⟨n + 1 - (i + 1), by omega, .mk (i + 1) g'' h'' t'' l'' μ'' is₂ hlt (fun a y e => up2 _ _ (up _ _ e)) hm₂ F4
          (itr2_frame It F₂ F4 up2 (fun b hb => (hfp b hb).imp (fun q => hm₂ ▸ q) fun ⟨y, e⟩ => ⟨y, up _ _ e⟩) T₂) J4⟩) (fun _ _ x => x)) (fun _ s₃ z => wpAny_mono z (fun _ s₄ z => wpAny_mono z (fun f s₅ z => ?_) fun _ _ e => e.elim) fun _ _ e => e.elim) fun _ _ e => e.elim
    cases f with
    | next => exact z
    | cont => exact z.elim
    | brk => exact z.elim
    | ret r => exact z
  · refine itr2_done It hm' F' T' fun h₂ t₂ F₂ => ?_
    exact wpAny_mono (wpAny_execs_nil (Q := fun f s₃ => f = .next ∧ s₃ = St s h₂ t₂) (E := NoE) ⟨rfl, rfl⟩) (fun f s₃ ⟨a, b⟩ => by subst a; subst b; exact done g' h₂ t₂ l' μ' up J' F₂) fun _ _ e => e.elim
end
end
/-! what is walked in pairs: zip, enumerate, lists of tuples -/
section
variable {prog : Program} {w : World} {A : Around} {E : Value → Shared → Prop} {s sh : Shared} {env : Env} {U : List Addr} {g₀ g g' : Kn} {h₀ h h' : Heap} {L : Addr} {t : Nat} {l l' : List (Str × Value)} {μ μ' : List (Addr × Obj)}
theorem Fm.new (F : Fm U w g₀ h₀ L g h' l μ) {a : Addr} {o : Obj} {n : Nat} (e : h'.get? a = some o) (hn : n ≤ a) (hL : L < n) (gn : ∀ a, n ≤ a → g a = none) (hm : ∀ p ∈ μ, p.1 ≠ a) : Fm U w g₀ h₀ L g h' l ((a, o) :: μ) :=
  F.addmu e (gn a hn) (Nat.ne_of_gt (Nat.lt_of_lt_of_le hL hn)) (Nat.le_trans F.above (Nat.le_trans (Nat.le_of_lt hL) hn)) fun q => by
    obtain ⟨p, hp, e⟩ := List.mem_map.mp q
    exact hm p hp e
theorem Fm.none_from (F : Fm U w g₀ h₀ L g h l μ) : ∀ a, h.objs.size ≤ a → g a = none := fun a ha => by
  cases e : g a with
  | none => rfl
  | some y => exact absurd (Heap.lt_size (F.sub _ _ e)) (Nat.not_lt.mpr ha)
theorem Fm.mu_lt (F : Fm U w g₀ h₀ L g h l μ) : ∀ p ∈ μ, p.1 < h.objs.size := fun p hp => Heap.lt_size (F.mu p hp).1
theorem ad_ne {n : Nat} {a : Addr} (h : a < n) (k : Nat) : @Ne Addr a (n + k : Nat) := Nat.ne_of_lt (Nat.lt_of_lt_of_le h (Nat.le_add_right _ _))
theorem ad_k {n j k : Nat} (h : j ≠ k) : @Ne Addr (n + j : Nat) (n + k : Nat) := fun e => h (Nat.add_left_cancel e)
theorem c_zip {v1 v2 : Value} {xs ys : List Value} {Q : Value → Shared → Prop} (hh : A.handled = none) (F : Fm U w g₀ h₀ L g h l μ) (I1 : IsL g v1 xs) (I2 : IsL g v2 ys)
    (k : ∀ z is h' g' fp T wr, (Up g g') → Fm U w g₀ h₀ L g' h' l (is ++ μ) → is.map (·.1) = wr → (∀ A : Around, A.handled = none → Itr2 prog w A z wr fp (min xs.length ys.length) (fun i a b => xs[i]? = some a ∧ ys[i]? = some b) T) → T 0 h' → (∀ b ∈ fp, b ∈ wr ∨ ∃ y, g' b = some y) →
      (∀ A' t' E' Q', Q' (.ref z) (St s h' t') → wpAny (model prog w) A' (pyIter (.ref z)) Q' E' (St s h' t')) → Q (.ref z) (St s h' t)) : wpAny (model prog w) A (call (.type "zip") [v1, v2]) Q E (St s h t) := by
  obtain ⟨l1, n1, rfl, e1⟩ := I1
  obtain ⟨l2, n2, rfl, e2⟩ := I2
  have L1 := Heap.lt_size (F.sub _ _ e1)
  have L2 := Heap.lt_size (F.sub _ _ e2)
  have hl1 : h.IsList l1 xs.toArray := ⟨_, F.sub _ _ e1, rfl, n1, rfl⟩
  have hl2 : h.IsList l2 ys.toArray := ⟨_, F.sub _ _ e2, rfl, n2, rfl⟩
  refine call_zip_2 (s := St s h t) hl1 hl2 fun h' hz hTI hTO h1 h2 hsz hk => ?_
  change IsZip h' (h.objs.size + 4) (h.objs.size + 2) (h.objs.size + 3) .none at hz
  change IsPair h' (h.objs.size + 2) (.ref h.objs.size) (.ref (h.objs.size + 1)) at hTI
  change IsPair h' (h.objs.size + 3) .none .none at hTO
  have h1' := h1
  have h2' := h2
  obtain ⟨o1, g1, r1⟩ := h1
  obtain ⟨o2, g2, r2⟩ := h2
  have gn := F.none_from
  have lt := F.mu_lt
  have F1 := F.keep hk
  have F2 := F1.new (n := h.objs.size) g2 (Nat.le_add_right _ 1) F.lt gn (fun p hp => ad_ne (lt p hp) 1)
  have F3 := F2.new (n := h.objs.size) g1 (Nat.le_refl _) F.lt gn (fun p hp => by
    rcases List.mem_cons.mp hp with rfl | hp
    · exact ad_k (j := 1) (k := 0) (by decide)
    · exact ad_ne (lt p hp) 0)
  have F4 := F3.new (n := h.objs.size) hTO (Nat.le_add_right _ 3) F.lt gn (fun p hp => by
    rcases List.mem_cons.mp hp with rfl | hp
    · exact ad_k (j := 0) (k := 3) (by decide)
    · rcases List.mem_cons.mp hp with rfl | hp
      · exact ad_k (j := 1) (k := 3) (by decide)
      · exact ad_ne (lt p hp) 3)
  have F5 := F4.new (n := h.objs.size) hz (Nat.le_add_right _ 4) F.lt gn (fun p hp => by
    rcases List.mem_cons.mp hp with rfl | hp
    · exact ad_k (j := 3) (k := 4) (by decide)
    · rcases List.mem_cons.mp hp with rfl | hp
      · exact ad_k (j := 0) (k := 4) (by decide)
      · rcases List.mem_cons.mp hp with rfl | hp
        · exact ad_k (j := 1) (k := 4) (by decide)
        · exact ad_ne (lt p hp) 4)
  have F6 := F5.new (n := h.objs.size) hTI (Nat.le_add_right _ 2) F.lt gn (fun p hp => by
    rcases List.mem_cons.mp hp with rfl | hp
    · exact ad_k (j := 4) (k := 2) (by decide)
    · rcases List.mem_cons.mp hp with rfl | hp
      · exact ad_k (j := 3) (k := 2) (by decide)
      · rcases List.mem_cons.mp hp with rfl | hp
        · exact ad_k (j := 0) (k := 2) (by decide)
        · rcases List.mem_cons.mp hp with rfl | hp
          · exact ad_k (j := 1) (k := 2) (by decide)
          · exact ad_ne (lt p hp) 2)
  obtain ⟨g', up, gTI, _, F7⟩ := F6.freeze (Nat.le_trans F.above (Nat.le_trans (Nat.le_of_lt F.lt) (Nat.le_add_right _ 2)))
  have D : ZipApart (h.objs.size + 4) (h.objs.size + 2) (h.objs.size + 3) h.objs.size (h.objs.size + 1) l1 l2 := ⟨ad_k (by decide), ad_k (by decide), ad_k (j := 0) (k := 4) (by decide), ad_k (by decide), ad_k (by decide), ad_k (j := 2) (k := 0) (by decide), ad_k (by decide),
    ad_k (j := 3) (k := 0) (by decide), ad_k (by decide), ad_k (j := 0) (k := 1) (by decide), ad_ne L1 4, ad_ne L1 3, ad_ne L1 0, ad_ne L1 1, ad_ne L2 4, ad_ne L2 3, ad_ne L2 0, ad_ne L2 1⟩
  have W := fun (A : Around) (hh : A.handled = none) => (WalksT.zip2 (prog := prog) (w := w) (A := A) hh _ _ _ _ _ _ _ D xs.toArray ys.toArray).toU
  have hk1 : h'.IsList l1 xs.toArray := ⟨_, hk _ _ (F.sub _ _ e1), rfl, n1, rfl⟩
  have hk2 : h'.IsList l2 ys.toArray := ⟨_, hk _ _ (F.sub _ _ e2), rfl, n2, rfl⟩
  have sz : min xs.toArray.size ys.toArray.size = min xs.length ys.length := by simp
  rw [sz] at W
  refine k (h.objs.size + 4) [(h.objs.size + 4, _), (h.objs.size + 3, _), (h.objs.size, _), (h.objs.size + 1, _)] h' g' [h.objs.size + 4, h.objs.size + 2, h.objs.size + 3, h.objs.size, h.objs.size + 1, l1, l2] (fun i H => IsZip H (h.objs.size + 4) (h.objs.size + 2) (h.objs.size + 3) .none ∧ IsPair H (h.objs.size + 2) (.ref h.objs.size) (.ref (h.objs.size + 1)) ∧ (∃ a b, IsPair H (h.objs.size + 3) a b) ∧ H.IsListIter h.objs.size l1 i ∧ H.IsListIter (h.objs.size + 1) l2 i ∧ H.IsList l1 xs.toArray ∧ H.IsList l2 ys.toArray) _ up F7 rfl
    (fun A hh => ⟨⟨_, _, W A hh, fun i vals hP => ?_⟩, fun i H st a ha => ?_⟩) ⟨hz, hTI, ⟨_, _, hTO⟩, h1', h2', hk1, hk2⟩ (fun b hb => ?_) (fun A' t' E' Q' q => wpAny_pyIter_zip hz q)
  · obtain ⟨x, y, hx, hy, rfl⟩ := hP
    exact ⟨x, y, rfl, by simpa using hx, by simpa using hy⟩
  · obtain ⟨z1, _, ⟨_, _, z3⟩, ⟨_, z4, _⟩, ⟨_, z5, _⟩, _⟩ := st
    simp only [List.map_cons, List.map_nil, List.mem_cons, List.not_mem_nil, or_false] at ha
    rcases ha with rfl | rfl | rfl | rfl
    · exact ⟨_, z1⟩
    · exact ⟨_, z3⟩
    · exact ⟨_, z4⟩
    · exact ⟨_, z5⟩
  · simp only [List.mem_cons, List.not_mem_nil, or_false] at hb
    rcases hb with rfl | rfl | rfl | rfl | rfl | rfl | rfl
    · exact .inl (by simp)
    · exact .inr ⟨_, gTI⟩
    · exact .inl (by simp)
    · exact .inl (by simp)
    · exact .inl (by simp)
    · exact .inr ⟨_, up _ _ e1⟩
    · exact .inr ⟨_, up _ _ e2⟩
theorem c_enum {v : Value} {xs : List Value} {Q : Value → Shared → Prop} (F : Fm U w g₀ h₀ L g h l μ) (I : IsL g v xs)
    (k : ∀ z is h' fp T wr, Fm U w g₀ h₀ L g h' l (is ++ μ) → is.map (·.1) = wr → (∀ A : Around, A.handled = none → Itr2 prog w A z wr fp xs.length (fun i a b => (∃ t, a = .int i t) ∧ xs[i]? = some b) T) → T 0 h' → (∀ b ∈ fp, b ∈ wr ∨ ∃ y, g b = some y) →
      (∀ A' t' E' Q', Q' (.ref z) (St s h' t') → wpAny (model prog w) A' (pyIter (.ref z)) Q' E' (St s h' t')) → Q (.ref z) (St s h' t)) : wpAny (model prog w) A (call (.type "enumerate") [v]) Q E (St s h t) := by
  obtain ⟨l1, n1, rfl, e1⟩ := I
  have L1 := Heap.lt_size (F.sub _ _ e1)
  have hl1 : h.IsList l1 xs.toArray := ⟨_, F.sub _ _ e1, rfl, n1, rfl⟩
  refine call_enumerate_list (s := St s h t) hl1 fun h' hz h1 hsz hk => ?_
  change IsEnum h' (h.objs.size + 1) h.objs.size 0 .none at hz
  have h1' := h1
  obtain ⟨o1, g1, r1⟩ := h1
  have gn := F.none_from
  have lt := F.mu_lt
  have F1 := F.keep hk
  have F3 := F1.new (n := h.objs.size) g1 (Nat.le_refl _) F.lt gn (fun p hp => ad_ne (lt p hp) 0)
  have F5 := F3.new (n := h.objs.size) hz (Nat.le_add_right _ 1) F.lt gn (fun p hp => by
    rcases List.mem_cons.mp hp with rfl | hp
    · exact ad_k (j := 0) (k := 1) (by decide)
    · exact ad_ne (lt p hp) 1)
  have W := fun (A : Around) (hh : A.handled = none) => (WalksT.enumerate (prog := prog) (w := w) (A := A) hh (h.objs.size + 1) h.objs.size l1 (ad_k (j := 1) (k := 0) (by decide)) (ad_ne L1 1) (ad_ne L1 0) xs.toArray).toU
  have hk1 : h'.IsList l1 xs.toArray := ⟨_, hk _ _ (F.sub _ _ e1), rfl, n1, rfl⟩
  have sz : xs.toArray.size = xs.length := by simp
  rw [sz] at W
  refine k (h.objs.size + 1) [(h.objs.size + 1, _), (h.objs.size, _)] h' [h.objs.size + 1, h.objs.size, l1] (fun i H => (∃ old, IsEnum H (h.objs.size + 1) h.objs.size i old) ∧ H.IsListIter h.objs.size l1 i ∧ H.IsList l1 xs.toArray) _ F5 rfl
    (fun A hh => ⟨⟨_, _, W A hh, fun i vals hP => ?_⟩, fun i H st a ha => ?_⟩) ⟨⟨_, hz⟩, h1', hk1⟩ (fun b hb => ?_) (fun A' t' E' Q' q => wpAny_pyIter_enum hz q)
  · obtain ⟨tt, x, hx, rfl⟩ := hP
    exact ⟨_, x, rfl, ⟨tt, rfl⟩, by simpa using hx⟩
  · obtain ⟨⟨_, z1⟩, ⟨_, z4, _⟩, _⟩ := st
    simp only [List.map_cons, List.map_nil, List.mem_cons, List.not_mem_nil, or_false] at ha
    rcases ha with rfl | rfl
    · exact ⟨_, z1⟩
    · exact ⟨_, z4⟩
  · simp only [List.mem_cons, List.not_mem_nil, or_false] at hb
    rcases hb with rfl | rfl | rfl
    · exact .inl (by simp)
    · exact .inl (by simp)
    · exact .inr ⟨_, e1⟩
theorem it_pairs {v : Value} {vs : List Value} (Ts : Nat → Addr) (va vb : Nat → Value) {Q : Value → Shared → Prop} (hh : A.handled = none) (F : Fm U w g₀ h₀ L g h l μ) (J : IsL g v vs)
    (H : ∀ j, j < vs.length → vs[j]? = some (.ref (Ts j)) ∧ ∃ n, g (Ts j) = some { cls := .type "tuple", data := .seq #[va j, vb j] n })
    (k : ∀ I o h' fp T, Fm U w g₀ h₀ L g h' l ([(I, o)] ++ μ) → Itr2 prog w A I [I] fp vs.length (fun i a b => a = va i ∧ b = vb i) T → T 0 h' → (∀ b ∈ fp, b ∈ [I] ∨ ∃ y, g b = some y) → Q (.ref I) (St s h' t)) :
    wpAny (model prog w) A (pyIter v) Q E (St s h t) := by
  obtain ⟨a, nn, rfl, e⟩ := J
  have hl : h.IsList a vs.toArray := ⟨_, F.sub _ _ e, rfl, nn, rfl⟩
  have ne : a ≠ h.objs.size := Nat.ne_of_lt (Heap.lt_size (F.sub _ _ e))
  refine wpAny_pyIter_list (s := St s h t) hl ?_
  have F' := F.push { cls := .type "list_iterator", data := .fields #[.ref a, .int 0 0] } rfl
  have sz : vs.toArray.size = vs.length := by simp
  have W := WalksU.listOfTuples (prog := prog) (w := w) hh h.objs.size a ne vs.toArray Ts (fun j => #[va j, vb j]) (fun j hj => by rw [sz] at hj; simpa using (H j hj).1) fun j hj => by
    rw [sz] at hj
    obtain ⟨n, en⟩ := (H j hj).2
    exact Nat.ne_of_lt (Heap.lt_size (F.sub _ _ en))
  rw [sz] at W
  refine k h.objs.size _ _ (h.objs.size :: a :: (List.range vs.length).map Ts) (fun j H => H.IsListIter h.objs.size a j ∧ H.IsList a vs.toArray ∧ ∀ k, k < vs.length → H.IsTuple (Ts k) #[va k, vb k]) F' ⟨⟨_, _, by simpa using W, fun i vals hP => ⟨_, _, hP, rfl, rfl⟩⟩, fun i H st a ha => ?_⟩
    ⟨⟨_, Heap.get?_push_size _ rfl, rfl, rfl⟩, hl.push _, fun j hj => ?_⟩ fun b hb => ?_
  · obtain ⟨⟨o, e, _⟩, _⟩ := st
    rw [List.mem_singleton.mp ha]; exact ⟨o, e⟩
  · obtain ⟨n, en⟩ := (H j hj).2
    exact ⟨_, Heap.get?_push_of_some _ (F.sub _ _ en), rfl, n, rfl⟩
  · rcases List.mem_cons.mp hb with rfl | hb
    · exact .inl (by simp)
    · rcases List.mem_cons.mp hb with rfl | hb
      · exact .inr ⟨_, e⟩
      · obtain ⟨j, hj, rfl⟩ := List.mem_map.mp hb
        obtain ⟨n, en⟩ := (H j (List.mem_range.mp hj)).2
        exact .inr ⟨_, en⟩
end
/-! comprehensions of any clauses -/
section
variable {prog : Program} {w : World} {A : Around} {E : Value → Shared → Prop} {s sh : Shared} {env : Env} {U : List Addr} {g₀ g g' : Kn} {h₀ h h' : Heap} {L I : Addr} {t n i : Nat} {l l' : List (Str × Value)} {μ μ' μI μr : List (Addr × Obj)} {o o' : Obj}
noncomputable def CompG (prog : Program) (w : World) (A : Around) (env : Env) (scope : Scope) (cl : List (Str × Addr)) (elt : Expr) (gens : List Comprehension) (pos : Pos) (use : Option (Value → Sem Unit)) (Q : Value → Shared → Prop) (E : Value → Shared → Prop) (it : Value) (s₂ : Shared) : Prop :=
  wpAny (model prog w) A (newList []) (fun acc s₃ => wpAny (model prog w) A (newFunctionEnv scope env.globals cl [] env.qual none .none (some env)) (fun cenv s₄ =>
    codeAny (model prog w) A (.compStart (.ListComp elt gens scope pos) 0 it acc { cenv with scope := relabel scope env }) (compPost (model prog w) A E use Q acc cenv.locals) s₄) E s₃) E s₂
theorem m_compG {elt target iter : Expr} {ifs : List Expr} {gs : List Comprehension} {scope : Scope} {cl : List (Str × Addr)} {pos : Pos} {Q : Value → Shared → Prop}
    (hs : (fun x => foldedSetIterable iter env x) = pure) (hclos : closureFor scope env = pure cl) (hkind : scope.kind = .function) (hnames : decide (∀ x ∈ scope.names, x.2 = .local → scope.names.lookup x.1 = some .local) = true)
    (h : wpAny (model prog w) A (eval iter env) (fun v s₁ => wpAny (model prog w) A (pyIter v) (CompG prog w A env scope cl elt (⟨target, iter, ifs, 0⟩ :: gs) pos none Q E) E s₁) E sh) :
    wpAny (model prog w) A (eval (.ListComp elt (⟨target, iter, ifs, 0⟩ :: gs) scope pos) env) Q E sh := by
  rw [eval_ListComp]; exact wpAny_comprehension_free (use := none) rfl (congrFun hs) hclos hkind (of_decide_eq_true hnames) h
theorem m_assigncompG {elt target iter : Expr} {y : Str} {py : Pos} {ifs : List Expr} {gs : List Comprehension} {scope : Scope} {cl : List (Str × Addr)} {pos spos : Pos} {rest : List Stmt} {Q : Flow → Shared → Prop}
    (hsw : swapsWith (.ListComp elt (⟨target, iter, ifs, 0⟩ :: gs) scope pos) (some (.Name y py)) spos.line env = pure true)
    (hs : (fun x => foldedSetIterable iter env x) = pure) (hclos : closureFor scope env = pure cl) (hkind : scope.kind = .function) (hnames : decide (∀ x ∈ scope.names, x.2 = .local → scope.names.lookup x.1 = some .local) = true)
    (h : wpAny (model prog w) A (eval iter env) (fun v s₁ => wpAny (model prog w) A (pyIter v) (CompG prog w A env scope cl elt (⟨target, iter, ifs, 0⟩ :: gs) pos (some (assign (.Name y py) env)) (fun _ s' => wpAny (model prog w) A (execs rest env) Q E s') E) E s₁) E sh) :
    wpAny (model prog w) A (execs (.Assign [.Name y py] (.ListComp elt (⟨target, iter, ifs, 0⟩ :: gs) scope pos) spos :: rest) env) Q E sh := by
  refine wpAny_execs_cons ?_
  rw [exec_Assign_Name_used _ _ _ _ hsw]
  refine wpAny_bind (wpAny_standAt (wpAny_bind ?_))
  show wpAny _ A (do let _ ← comprehension (.ListComp elt (⟨target, iter, ifs, 0⟩ :: gs) scope pos) scope env _ (newList []) false (eval iter env) (some (assign (.Name y py) env))) _ _ sh
  exact wpAny_bind (wpAny_mono (wpAny_comprehension_free (use := some (assign (.Name y py) env)) rfl (congrFun hs) hclos hkind (of_decide_eq_true hnames) h) (fun _ s' hq => wpAny_pure (wpAny_pure hq)) fun _ _ e => e)

noncomputable def RunTo (s : Shared) (μI : List (Addr × Obj)) (w : World) (g : Kn) (h : Heap) (C D : Addr) (Fin : Kn → List (Addr × Obj) → List Value → Prop) (r : Result) (s' : Shared) : Prop :=
  r = .ok .next ∧ ∃ g' h' t' l' μ' ys m, s' = St s h' t' ∧ Up g g' ∧ Fm (μI.map (·.1)) w g h C g' h' l' ((D, listO ys m) :: μ') ∧ (∀ p ∈ μ', p.1 ∈ μI.map (·.1)) ∧ Fin g' μ' ys
theorem comp_gen {elt target iter : Expr} {ifs : List Expr} {gs : List Comprehension} {scope : Scope} {cl : List (Str × Addr)} {pos : Pos} {use : Option (Value → Sem Unit)} {Q : Value → Shared → Prop}
    (F : Fm U w g₀ h₀ L g h l (μI ++ μr)) (self : ∀ h₁, (∀ b y, h.get? b = some y → h₁.get? b = some y) → ∀ t' E' Q', Q' (.ref I) (St s h₁ t') → wpAny (model prog w) A (pyIter (.ref I)) Q' E' (St s h₁ t'))
    (hcell : ∀ y ∈ scope.names, y.2 ≠ .cell) (hkind : scope.kind = .function) (Fin : Kn → List (Addr × Obj) → List Value → Prop)
    (run : ∀ C D h₁ t₁, h.objs.size ≤ C → (∀ b y, h.get? b = some y → h₁.get? b = some y) → Fm (μI.map (·.1)) w g h C g h₁ [] ((D, listO [] 0) :: μI) →
      codeAny (model prog w) A (.compLoop (.ListComp elt (⟨target, iter, ifs, 0⟩ :: gs) scope pos) 0 (.ref I) (.ref D) (compEnvC scope cl C env)) (RunTo s μI w g h C D Fin) (St s h₁ t₁))
    (done : ∀ C D g' h' t' μ' ys m, Up g g' → Fin g' μ' ys → h₀.objs.size ≤ D → Beside h₀ L C g' ((D, listO ys m) :: (μ' ++ μr)) → (∃ mC, h'.Ns C mC) →
      Fm U w g₀ h₀ L g' h' l ((D, listO ys m) :: (μ' ++ μr)) → compPost (model prog w) A E use Q (.ref D) C (.ok .next) (St s h' t')) :
    CompG prog w A env scope cl elt (⟨target, iter, ifs, 0⟩ :: gs) pos use Q E (.ref I) (St s h t) := by
  unfold CompG
  refine wpAny_newObj_type (wpAny_newFunctionEnv hcell (by intro y hy; simp at hy) (fun h₁ hns₁ hsb₁ => ?_) hkind)
  dsimp only at hns₁ hsb₁ ⊢
  generalize hH2 : h.push { cls := .type "list", dict := none, data := .seq ([] : List Value).toArray } = H2 at hns₁ hsb₁ ⊢
  have hC : H2.objs.size = h.objs.size + 1 := by rw [← hH2, Heap.size_push]
  have old : ∀ b y, h.get? b = some y → h₁.get? b = some y := fun b y e => by
    have lt := Heap.lt_size e
    exact hsb₁.extBut b y (by rw [hC]; exact Nat.ne_of_lt (Nat.lt_succ_of_lt lt)) (Heap.get?_push_of_some _ (hH2 ▸ Heap.get?_push_of_some _ e))
  have gn := F.none_from
  have lt := F.mu_lt
  have nd := F.nd
  rw [List.map_append, List.nodup_append] at nd
  have FI : Fm (μI.map (·.1)) w g h H2.objs.size g h₁ [] ((h.objs.size, listO [] 0) :: μI) := {
    ns := hns₁
    gd := F.gd
    sub := fun a y e => old _ _ (F.sub _ _ e)
    off := gn _ (by rw [hC]; exact Nat.le_succ _)
    above := by rw [hC]; exact Nat.le_succ _
    lo := F.gnd.lo
    up := fun _ _ e => e
    all := fun a y _ e => old _ _ e
    old := fun _ _ => rfl
    mu := fun p hp => by
      rcases List.mem_cons.mp hp with rfl | hp
      · exact ⟨hsb₁.extBut _ _ (by rw [hC]; exact Nat.ne_of_lt (Nat.lt_succ_self _)) (Heap.get?_push_of_some _ (hH2 ▸ Heap.get?_push_size _ rfl)), gn _ (Nat.le_refl _), by rw [hC]; exact Nat.ne_of_lt (Nat.lt_succ_self _), .inr (Nat.le_refl _)⟩
      · have hp' : p ∈ μI ++ μr := List.mem_append.mpr (.inl hp)
        have z := F.mu p hp'
        exact ⟨old _ _ z.1, z.2.1, by rw [hC]; exact Nat.ne_of_lt (Nat.lt_succ_of_lt (lt p hp')), .inl (List.mem_map_of_mem hp)⟩
    nd := by
      rw [List.map_cons, List.nodup_cons]
      refine ⟨fun q => ?_, nd.1⟩
      obtain ⟨p, hp, e⟩ := List.mem_map.mp q
      exact absurd (lt p (List.mem_append.mpr (.inl hp))) (by rw [e]; exact Nat.lt_irrefl _) }
  have loop : ∀ t₁, codeAny (model prog w) A (.compLoop (.ListComp elt (⟨target, iter, ifs, 0⟩ :: gs) scope pos) 0 (.ref I) (.ref h.objs.size) (compEnvC scope cl H2.objs.size env)) (compPost (model prog w) A E use Q (.ref h.objs.size) H2.objs.size) (St s h₁ t₁) := by
    intro t₁
    refine codeAny_mono (run H2.objs.size h.objs.size h₁ t₁ (by rw [hC]; exact Nat.le_succ _) old FI) fun r s' z => ?_
    obtain ⟨rfl, g', h', t', l', μ', ys, m, rfl, up, F', hsub, hfin⟩ := z
    have neC : ∀ p ∈ μI ++ μr, p.1 ≠ H2.objs.size := fun p hp => Nat.ne_of_lt (Nat.lt_of_lt_of_le (lt p hp) (by rw [hC]; exact Nat.le_succ _))
    have inI : ∀ p ∈ μ' ++ μr, p.1 ∈ (μI ++ μr).map (·.1) := fun p hp => by
      rw [List.map_append]
      rcases List.mem_append.mp hp with hp | hp
      · exact List.mem_append.mpr (.inl (hsub p hp))
      · exact List.mem_append.mpr (.inr (List.mem_map_of_mem hp))
    have ndF := F'.nd
    rw [List.map_cons, List.nodup_cons] at ndF
    have ndm : ((μ' ++ μr).map (·.1)).Nodup := by
      rw [List.map_append, List.nodup_append]
      refine ⟨ndF.2, nd.2.1, fun a ha b hb => ?_⟩
      obtain ⟨p, hp, rfl⟩ := List.mem_map.mp ha
      exact nd.2.2 _ (hsub p hp) _ hb
    have B : Beside h₀ L H2.objs.size g' ((h.objs.size, listO ys m) :: (μ' ++ μr)) := by
      refine ⟨F'.off, fun q => ?_, fun q => ?_, Nat.le_trans F.above (Nat.le_trans (Nat.le_of_lt F.lt) (by rw [hC]; exact Nat.le_succ _))⟩
      · exact absurd F.lt (by rw [← q, hC]; exact Nat.not_lt.mpr (Nat.le_succ _))
      · rw [List.map_cons] at q
        rcases List.mem_cons.mp q with q | q
        · rw [hC] at q; exact absurd q (Nat.succ_ne_self _)
        · obtain ⟨p, hp, e⟩ := List.mem_map.mp q
          obtain ⟨p2, hp2, e2⟩ := List.mem_map.mp (inI p hp)
          exact neC p2 hp2 (e2.trans e)
    refine done H2.objs.size h.objs.size g' h' t' μ' ys m up hfin (Nat.le_trans F.above (Nat.le_of_lt F.lt)) B ⟨_, F'.ns⟩ ?_
    have G : Grow (μI.map (·.1)) g h g' h' := F'.grow
    have F2 : Fm U w g₀ h₀ L g' h' l (μ' ++ μr) := by
      refine F.callU2 G (fun a hm => by rw [List.map_append]; exact List.mem_append.mpr (.inl hm)) inI ndm fun p hp => ?_
      rcases List.mem_append.mp hp with hp | hp
      · exact (F'.mu p (.tail _ hp)).1
      · have z := F.mu p (List.mem_append.mpr (.inr hp))
        exact G.all _ _ (fun q => nd.2.2 _ q _ (List.mem_map_of_mem hp) rfl) z.1
    have zD := F'.mu _ (.head _)
    refine F2.addmu zD.1 zD.2.1 (Nat.ne_of_gt F.lt) (Nat.le_trans F.above (Nat.le_of_lt F.lt)) fun q => ?_
    obtain ⟨p, hp, e⟩ := List.mem_map.mp q
    obtain ⟨p2, hp2, e2⟩ := List.mem_map.mp (inI p hp)
    exact absurd (lt p2 hp2) (by rw [e2, e]; exact Nat.lt_irrefl _)
  exact codeAny_compStart_list (loop _) (self h₁ old _ _ _ (loop _))
theorem gen_val {elt target iter : Expr} {ifs : List Expr} {gs : List Comprehension} {scope : Scope} {cl : List (Str × Addr)} {pos : Pos} {Q : Value → Shared → Prop}
    (F : Fm U w g₀ h₀ L g h l (μI ++ μr)) (self : ∀ h₁, (∀ b y, h.get? b = some y → h₁.get? b = some y) → ∀ t' E' Q', Q' (.ref I) (St s h₁ t') → wpAny (model prog w) A (pyIter (.ref I)) Q' E' (St s h₁ t'))
    (hcell : ∀ y ∈ scope.names, y.2 ≠ .cell) (hkind : scope.kind = .function) (Fin : Kn → List (Addr × Obj) → List Value → Prop)
    (run : ∀ C D h₁ t₁, h.objs.size ≤ C → (∀ b y, h.get? b = some y → h₁.get? b = some y) → Fm (μI.map (·.1)) w g h C g h₁ [] ((D, listO [] 0) :: μI) →
      codeAny (model prog w) A (.compLoop (.ListComp elt (⟨target, iter, ifs, 0⟩ :: gs) scope pos) 0 (.ref I) (.ref D) (compEnvC scope cl C env)) (RunTo s μI w g h C D Fin) (St s h₁ t₁))
    (done : ∀ D g' h' t' μ' ys m, Up g g' → Fin g' μ' ys → h₀.objs.size ≤ D → Fm U w g₀ h₀ L g' h' l ((D, listO ys m) :: (μ' ++ μr)) → Q (.ref D) (St s h' t')) :
    CompG prog w A env scope cl elt (⟨target, iter, ifs, 0⟩ :: gs) pos none Q E (.ref I) (St s h t) :=
  comp_gen F self hcell hkind Fin run fun C D g' h' t' μ' ys m up hf hD B ns F' => ⟨ns.choose, ns.choose_spec, fun h'' hs => done D g' h'' t' μ' ys m up hf hD (F'.but B hs)⟩
theorem gen_asg {elt target iter : Expr} {y : Str} {py : Pos} {ifs : List Expr} {gs : List Comprehension} {scope : Scope} {cl : List (Str × Addr)} {pos : Pos} {Q : Value → Shared → Prop}
    (F : Fm U w g₀ h₀ L g h l (μI ++ μr)) (self : ∀ h₁, (∀ b y, h.get? b = some y → h₁.get? b = some y) → ∀ t' E' Q', Q' (.ref I) (St s h₁ t') → wpAny (model prog w) A (pyIter (.ref I)) Q' E' (St s h₁ t'))
    (hcell : ∀ y ∈ scope.names, y.2 ≠ .cell) (hkind : scope.kind = .function) (hk : env.scope.kind = .function) (hL : env.locals = L) (hy : env.kindOf y = some .local) (Fin : Kn → List (Addr × Obj) → List Value → Prop)
    (run : ∀ C D h₁ t₁, h.objs.size ≤ C → (∀ b y, h.get? b = some y → h₁.get? b = some y) → Fm (μI.map (·.1)) w g h C g h₁ [] ((D, listO [] 0) :: μI) →
      codeAny (model prog w) A (.compLoop (.ListComp elt (⟨target, iter, ifs, 0⟩ :: gs) scope pos) 0 (.ref I) (.ref D) (compEnvC scope cl C env)) (RunTo s μI w g h C D Fin) (St s h₁ t₁))
    (done : ∀ D g' h' t' μ' ys m, Up g g' → Fin g' μ' ys → h₀.objs.size ≤ D → Fm U w g₀ h₀ L g' h' ((y, .ref D) :: l) ((D, listO ys m) :: (μ' ++ μr)) → Q .none (St s h' t')) :
    CompG prog w A env scope cl elt (⟨target, iter, ifs, 0⟩ :: gs) pos (some (assign (.Name y py) env)) Q E (.ref I) (St s h t) :=
  comp_gen F self hcell hkind Fin run fun C D g' h' t' μ' ys m up hf hD B ns F' => by
    subst hL
    refine wpAny_assign_Name (wpAny_storeName_local hy (s := St s h' t') F'.ns (fun h1 hn1 hs1 => ?_) (by rw [hk]; rfl))
    obtain ⟨mC, nC⟩ := ns
    exact ⟨mC, nC.sameBut hs1 B.2.1, fun h'' hs => done D g' h'' _ μ' ys m up hf hD ((F'.store hn1 hs1).but B hs)⟩

/-! the run where two names are stored -/
theorem compLoop_testsT {elt iter : Expr} {elts : List Expr} {k : Nat} {tpos : Pos} {ifs : List Expr} {scope : Scope} {pos : Pos} {it acc : Value} {env : Env} {R : Result → Shared → Prop} (I : Nat → Shared → Prop)
    (turn : ∀ n s, I n s → wpAny (model prog w) A (pyNext it) (fun r s₁ => match r with
      | none => R (.ok .next) s₁
      | some v => wpAny (model prog w) A (letOwnedTupleGo (.Tuple elts k tpos) it v) (fun _ s₁' => wpAny (model prog w) A (assign (.Tuple elts k tpos) env v) (fun _ s₂ =>
          wpAny (model prog w) A (forIfs ifs env) (fun ok s₃ =>
            if ok = true then wpAny (model prog w) A (eval elt env) (fun x s₄ =>
              wpAny (model prog w) A (call (.builtin "list.append") [acc, x]) (fun _ s₅ => ∃ m, m < n ∧ I m s₅) NoE s₄) NoE s₃
            else ∃ m, m < n ∧ I m s₃) NoE s₂) NoE s₁') NoE s₁) NoE s)
    (n : Nat) (h : I n sh) :
    codeAny (model prog w) A (.compLoop (.ListComp elt [⟨.Tuple elts k tpos, iter, ifs, 0⟩] scope pos) 0 it acc env) R sh := by
  refine codeAny_loop rfl I (fun n s hI => ?_) n h
  show wpAny _ A ((compTurn (.ListComp elt [⟨.Tuple elts k tpos, iter, ifs, 0⟩] scope pos) 0 it acc env).onRaise (fun x => do noteFrame x env; theTreesLotGoes x)) _ _ s
  refine wpAny_noted ?_
  rw [PySem.compTurn_list]
  refine wpAny_bind (wpAny_standAt (wpAny_bind (wpAny_mono (turn n s hI) (fun r s₁ h₁ => ?_) fun _ _ h' => h'.elim)))
  cases r with
  | none => exact wpAny_pure h₁
  | some v =>
    refine wpAny_bind (wpAny_mono h₁ (fun _ s₁' h₁ => ?_) fun _ _ h' => h'.elim)
    refine wpAny_bind (wpAny_mono h₁ (fun _ s₂ h₂ => wpAny_bind (wpAny_mono h₂ (fun ok s₃ h₃ => ?_) fun _ _ h' => h'.elim)) fun _ _ h' => h'.elim)
    cases ok with
    | false => exact wpAny_pure ⟨rfl, h₃⟩
    | true =>
      exact wpAny_bind (wpAny_bind (wpAny_mono h₃ (fun x s₄ h₄ => wpAny_bind (wpAny_mono h₄ (fun _ s₅ h₅ => wpAny_pure (wpAny_pure ⟨rfl, h₅⟩)) fun _ _ h' => h'.elim)) fun _ _ h' => h'.elim))
inductive CRun2 (s : Shared) (U : List Addr) (w : World) (g₀ : Kn) (h₀ : Heap) (L : Addr) (g : Kn) (D : Addr) (wr : List Addr) (n : Nat) (x y : Str) (T : Nat → Heap → Prop) (J : Nat → Kn → List (Addr × Obj) → List Value → Prop) : Nat → Shared → Prop
  | mk (i : Nat) (g' : Kn) (h' : Heap) (t' : Nat) (l' : List (Str × Value)) (μ' : List (Addr × Obj)) (ys : List Value) (m : Nat) (is' : List (Addr × Obj)) (hi : i ≤ n) (hl : l' = [] ∨ ∃ a b, l' = [(y, b), (x, a)]) (up : Up g g') (hm : is'.map (·.1) = wr) (F : Fm U w g₀ h₀ L g' h' l' ((D, listO ys m) :: (is' ++ μ'))) (hT : T i h') (hJ : J i g' μ' ys) (hy : ys.length ≤ i) : CRun2 s U w g₀ h₀ L g D wr n x y T J (n + 1 - i) (St s h' t')
theorem comp_run2 {elt iter : Expr} {x y : Str} {px py tpos : Pos} {kk : Nat} {ifs : List Expr} {scope : Scope} {pos : Pos} {cenv : Env} {D : Addr} {R : Result → Shared → Prop} {wr fp : List Addr} {P : Nat → Value → Value → Prop} {T : Nat → Heap → Prop} {is : List (Addr × Obj)}
    (It : Itr2 prog w A I wr fp n P T) (hh : A.handled = none) (hm : is.map (·.1) = wr) (hn : n ≤ 2 ^ 20)
    (F : Fm U w g₀ h₀ L g h [] ((D, listO [] 0) :: (is ++ μ))) (T0 : T 0 h) (hfp : ∀ b ∈ fp, b ∈ wr ∨ ∃ y, g b = some y)
    (hx : cenv.kindOf x = some .local) (hy : cenv.kindOf y = some .local) (hL : cenv.locals = L) (hk : cenv.scope.kind = .function)
    (J : Nat → Kn → List (Addr × Obj) → List Value → Prop) (J0 : J 0 g μ [])
    (turn : ∀ i a b g' h' t' μ' ys m is', i < n → P i a b → Up g g' → J i g' μ' ys → Fm U w g₀ h₀ L g' h' [(y, b), (x, a)] ((D, listO ys m) :: (is' ++ μ')) →
      ∀ (KT : Value → Shared → Prop) (KN : Shared → Prop), (∀ r g'' h'' t'' μ'', Up g' g'' → Fm U w g₀ h₀ L g'' h'' [(y, b), (x, a)] ((D, listO ys m) :: (is' ++ μ'')) → J (i + 1) g'' μ'' (ys ++ [r]) → KT r (St s h'' t'')) → (∀ g'' h'' t'' μ'', Up g' g'' → Fm U w g₀ h₀ L g'' h'' [(y, b), (x, a)] ((D, listO ys m) :: (is' ++ μ'')) → J (i + 1) g'' μ'' ys → KN (St s h'' t'')) →
      wpAny (model prog w) A (forIfs ifs cenv) (fun b s₃ => Br b (wpAny (model prog w) A (eval elt cenv) KT NoE s₃) (KN s₃)) NoE (St s h' t'))
    (done : ∀ g' h' t' l' μ' ys m, Up g g' → J n g' μ' ys → ys.length ≤ n → Fm U w g₀ h₀ L g' h' l' ((D, listO ys m) :: μ') → R (.ok .next) (St s h' t')) :
    codeAny (model prog w) A (.compLoop (.ListComp elt [⟨.Tuple [.Name x px, .Name y py] kk tpos, iter, ifs, 0⟩] scope pos) 0 (.ref I) (.ref D) cenv) R (St s h t) := by
  refine compLoop_testsT (CRun2 s U w g₀ h₀ L g D wr n x y T J) ?_ (n + 1) (CRun2.mk 0 g h t [] μ [] 0 is (Nat.zero_le _) (.inl rfl) (fun _ _ e => e) hm F T0 J0 (Nat.le_refl _))
  intro k s' hI
  cases hI with
  | mk i g' h' t' l' μ' ys m is' hi hl' up hm' F' T' J' hys =>
  rcases Nat.lt_or_eq_of_le hi with hlt | rfl
  · refine itr2_next It hh hm' F'.back T' hlt fun a b h₂ t₂ is₂ hP hm₂ T₂ F₂ => ?_
    refine m_store F₂ hk hL hx fun h₃ t₃ F₃ => m_store F₃ hk hL hy fun h₄ t₄ F₄ => ?_
    have T₄ : T (i + 1) h₄ := itr2_frame It F₂ F₄ (fun _ _ e => e) (fun b hb => (hfp b hb).imp (fun q => hm₂ ▸ q) fun ⟨y, e⟩ => ⟨y, up _ _ e⟩) T₂
    have F₅ : Fm U w g₀ h₀ L g' h₄ [(y, b), (x, a)] ((D, listO ys m) :: (is₂ ++ μ')) := by
      refine F₄.front.relook fun z => ?_
      rcases hl' with rfl | ⟨a0, b0, rfl⟩
      · rfl
      · exact ((lk_del [(y, b), (x, a)] (by simp [List.lookup_cons]) z).trans (lk_del [(y, b), (x, a)] (by rw [List.lookup_cons]; split; rfl; simp [List.lookup_cons]) z)).symm
    refine wpAny_mono (turn i a b g' h₄ t₄ μ' ys m is₂ hlt hP up J' F₅ _ _ (fun v g'' h'' t'' μ'' up2 F6 J6 => ?_) (fun g'' h'' t'' μ'' up2 F6 J6 => ?_)) (fun bb s₃ z => Br.ite ⟨fun e => wpAny_mono (z.1 e) (fun _ _ q => q) fun _ _ e => e.elim, z.2⟩) fun _ _ e => e.elim
    · refine wpAny_list_append_plain (s := St s h'' t'') (items := ys.toArray) ⟨m, (F6.mu _ (.head _)).1⟩ (fun h₆ hl₆ hs₆ => ?_) (by simp; exact Nat.le_trans hys (Nat.le_trans hi (Nat.le_trans hn (by decide))))
      obtain ⟨m6, e6⟩ := hl₆
      have F7 : Fm U w g₀ h₀ L g'' h₆ [(y, b), (x, a)] ((D, listO (ys ++ [v]) m6) :: (is₂ ++ μ'')) := F6.turn hs₆ (by rw [e6]; unfold listO; simp)
      exact ⟨n + 1 - (i + 1), by omega, .mk (i + 1) g'' h₆ t'' _ μ'' (ys ++ [v]) m6 is₂ hlt (.inr ⟨a, b, rfl⟩) (fun a y e => up2 _ _ (up _ _ e)) hm₂ F7
        (itr2_frame It F₅.back F7.back up2 (fun b hb => (hfp b hb).imp (fun q => hm₂ ▸ q) fun ⟨y, e⟩ => ⟨y, up _ _ e⟩) T₄) J6 (by rw [List.length_append]; exact Nat.succ_le_succ hys)⟩
    · exact ⟨n + 1 - (i + 1), by omega, .mk (i + 1) g'' h'' t'' _ μ'' ys m is₂ hlt (.inr ⟨a, b, rfl⟩) (fun a y e => up2 _ _ (up _ _ e)) hm₂ F6
        (itr2_frame It F₅.back F6.back up2 (fun b hb => (hfp b hb).imp (fun q => hm₂ ▸ q) fun ⟨y, e⟩ => ⟨y, up _ _ e⟩) T₄) J6 (Nat.le_succ_of_le hys)⟩
  · refine itr2_done It hm' F'.back T' fun h₂ t₂ F₂ => ?_
    exact done g' h₂ t₂ l' μ' ys m up J' hys F₂
end
/-! two clauses -/
section
variable {prog : Program} {w : World} {A : Around} {E : Value → Shared → Prop} {s sh : Shared} {env : Env} {U : List Addr} {g₀ g g' : Kn} {h₀ h h' : Heap} {L I : Addr} {t n i : Nat} {l l' : List (Str × Value)} {μ μ' μI μr : List (Addr × Obj)} {o o' : Obj}
noncomputable def two (x y : Str) (px py : Pos) (it1 it2 : Expr) : List Comprehension := [⟨.Name x px, it1, [], 0⟩, ⟨.Name y py, it2, [], 0⟩]
theorem compTurn_n0 (elt it1 it2 : Expr) (x y : Str) (px py : Pos) (scope : Scope) (pos : Pos) (it acc : Value) (env : Env) :
    compTurn (.ListComp elt (two x y px py it1 it2) scope pos) 0 it acc env = (standAt it1.pos >>= fun _ => pyNext it >>= fun r => match r with
      | none => pure (.done .next)
      | some v => letOwnedTupleGo (.Name x px) it v >>= fun _ => assign (.Name x px) env v >>= fun _ =>
        eval it2 env >>= fun xv => standAt it2.pos >>= fun _ => foldedSetIterable it2 env xv >>= fun xv => holding [xv] (pyIter xv) >>= fun itv => runOwn (.compStart (.ListComp elt (two x y px py it1 it2) scope pos) 1 itv acc env) env >>= fun _ =>
          again (.compLoop (.ListComp elt (two x y px py it1 it2) scope pos) 0 it acc env)) := by rfl
theorem compTurn_n1 (elt it1 it2 : Expr) (x y : Str) (px py : Pos) (scope : Scope) (pos : Pos) (it acc : Value) (env : Env) :
    compTurn (.ListComp elt (two x y px py it1 it2) scope pos) 1 it acc env = (standAt it2.pos >>= fun _ => pyNext it >>= fun r => match r with
      | none => pure (.done .next)
      | some v => letOwnedTupleGo (.Name y py) it v >>= fun _ => assign (.Name y py) env v >>= fun _ =>
        (eval elt env >>= fun x => call (.builtin "list.append") [acc, x] >>= fun _ => pure ()) >>= fun _ =>
          again (.compLoop (.ListComp elt (two x y px py it1 it2) scope pos) 1 it acc env)) := by rfl
theorem nest0 {elt it1 it2 : Expr} {x y : Str} {px py : Pos} {scope : Scope} {pos : Pos} {it acc : Value} {R : Result → Shared → Prop} (I : Nat → Shared → Prop)
    (turn : ∀ n s, I n s → wpAny (model prog w) A (pyNext it) (fun r s₁ => match r with
      | none => R (.ok .next) s₁
      | some v => wpAny (model prog w) A (assign (.Name x px) env v) (fun _ s₂ => wpAny (model prog w) A (eval it2 env) (fun xv s₃ => wpAny (model prog w) A (pyIter xv) (fun itv s₄ =>
          codeAny (model prog w) A (.compStart (.ListComp elt (two x y px py it1 it2) scope pos) 1 itv acc env) (fun r s₅ => r = .ok .next ∧ ∃ m, m < n ∧ I m s₅) s₄) NoE s₃) NoE s₂) NoE s₁) NoE s)
    (n : Nat) (h : I n sh) (hs : ∀ x, foldedSetIterable it2 env x = pure x) :
    codeAny (model prog w) A (.compLoop (.ListComp elt (two x y px py it1 it2) scope pos) 0 it acc env) R sh := by
  refine codeAny_loop rfl I (fun n s hI => ?_) n h
  show wpAny _ A ((compTurn (.ListComp elt (two x y px py it1 it2) scope pos) 0 it acc env).onRaise (fun x => do noteFrame x env; theTreesLotGoes x)) _ _ s
  refine wpAny_noted ?_
  rw [compTurn_n0]
  refine wpAny_bind (wpAny_standAt (wpAny_bind (wpAny_mono (turn n s hI) (fun r s₁ h₁ => ?_) fun _ _ h' => h'.elim)))
  cases r with
  | none => exact wpAny_pure h₁
  | some v =>
    refine wpAny_bind (wpAny_of_eq (show letOwnedTupleGo (.Name x px) it v = pure () from rfl) ?_)
    refine wpAny_bind (wpAny_mono h₁ (fun _ s₂ h₂ => wpAny_bind (wpAny_mono h₂ (fun xv s₃ h₃ => ?_) fun _ _ h' => h'.elim)) fun _ _ h' => h'.elim)
    refine wpAny_bind (wpAny_standAt (wpAny_bind (wpAny_of_eq (hs xv) (wpAny_bind (wpAny_holding (wpAny_mono h₃ (fun itv s₄ h₄ => ?_) fun _ _ h' => h'.elim))))))
    refine wpAny_bind (wpAny_runOwn ?_)
    rw [mark_none]
    refine codeAny_mono h₄ fun r s₅ z => ?_
    obtain ⟨rfl, z⟩ := z
    exact wpAny_pure ⟨rfl, z⟩
theorem nest1 {elt it1 it2 : Expr} {x y : Str} {px py : Pos} {scope : Scope} {pos : Pos} {it acc : Value} {R : Result → Shared → Prop} (I : Nat → Shared → Prop)
    (turn : ∀ n s, I n s → wpAny (model prog w) A (pyNext it) (fun r s₁ => match r with
      | none => R (.ok .next) s₁
      | some v => wpAny (model prog w) A (assign (.Name y py) env v) (fun _ s₂ => wpAny (model prog w) A (eval elt env) (fun x s₃ =>
          wpAny (model prog w) A (call (.builtin "list.append") [acc, x]) (fun _ s₄ => ∃ m, m < n ∧ I m s₄) NoE s₃) NoE s₂) NoE s₁) NoE s)
    (n : Nat) (h : I n sh) :
    codeAny (model prog w) A (.compLoop (.ListComp elt (two x y px py it1 it2) scope pos) 1 it acc env) R sh := by
  refine codeAny_loop rfl I (fun n s hI => ?_) n h
  show wpAny _ A ((compTurn (.ListComp elt (two x y px py it1 it2) scope pos) 1 it acc env).onRaise (fun x => do noteFrame x env; theTreesLotGoes x)) _ _ s
  refine wpAny_noted ?_
  rw [compTurn_n1]
  refine wpAny_bind (wpAny_standAt (wpAny_bind (wpAny_mono (turn n s hI) (fun r s₁ h₁ => ?_) fun _ _ h' => h'.elim)))
  cases r with
  | none => exact wpAny_pure h₁
  | some v =>
    refine wpAny_bind (wpAny_of_eq (show letOwnedTupleGo (.Name y py) it v = pure () from rfl) ?_)
    exact wpAny_bind (wpAny_mono h₁ (fun _ s₂ h₂ => wpAny_bind (wpAny_bind (wpAny_mono h₂ (fun x s₃ h₃ => wpAny_bind (wpAny_mono h₃
      (fun _ s₄ h₄ => wpAny_pure (wpAny_pure ⟨rfl, h₄⟩)) fun _ _ h' => h'.elim)) fun _ _ h' => h'.elim))) fun _ _ h' => h'.elim)
theorem start1 {elt it1 it2 : Expr} {x y : Str} {px py : Pos} {scope : Scope} {pos : Pos} {it acc : Value} {R : Result → Shared → Prop}
    (h0 : codeAny (model prog w) A (.compLoop (.ListComp elt (two x y px py it1 it2) scope pos) 1 it acc env) R sh)
    (h : wpAny (model prog w) A (pyIter it) (fun it' s' => codeAny (model prog w) A (.compLoop (.ListComp elt (two x y px py it1 it2) scope pos) 1 it' acc env) R s') NoE sh) :
    codeAny (model prog w) A (.compStart (.ListComp elt (two x y px py it1 it2) scope pos) 1 it acc env) R sh := by
  refine codeAny_of_tree ?_
  show wpAny _ A ((compStart (.ListComp elt (two x y px py it1 it2) scope pos) 1 it acc env).onRaise (fun x => do noteFrame x env; standAt theWindowsPlace)) _ _ sh
  refine wpAny_notedAt ?_
  unfold compStart
  show wpAny _ _ (ask >>= _) _ _ sh
  refine wpAny_bind (wpAny_askSetting (wpAny_ite ?_))
  split
  · first
      | exact wpAny_bind (wpAny_pure (wpAny_pure (And.intro rfl h0)))
      | exact wpAny_pure (And.intro rfl h0)
  · refine wpAny_bind (wpAny_rule ?_)
    show wpAny _ _ (standAt it2.pos >>= _) _ _ sh
    exact wpAny_bind (wpAny_standAt (wpAny_bind (wpAny_mono h (fun it' s' h' => wpAny_pure (And.intro rfl h')) fun _ _ x => x.elim)))

inductive NRun0 (s : Shared) (U : List Addr) (w : World) (g₀ : Kn) (h₀ : Heap) (L : Addr) (g : Kn) (D I : Addr) (n : Nat) (x y : Str) (T : Nat → Heap → Prop) (J : Nat → Kn → List (Addr × Obj) → List Value → Prop) : Nat → Shared → Prop
  | mk (i : Nat) (g' : Kn) (h' : Heap) (t' : Nat) (l' : List (Str × Value)) (μ' : List (Addr × Obj)) (ys : List Value) (m : Nat) (o' : Obj) (hi : i ≤ n) (hl : l' = [] ∨ (∃ v, l' = [(x, v)]) ∨ ∃ u v, l' = [(y, u), (x, v)]) (up : Up g g') (F : Fm U w g₀ h₀ L g' h' l' ((D, listO ys m) :: (I, o') :: μ')) (hT : T i h') (hJ : J i g' μ' ys) : NRun0 s U w g₀ h₀ L g D I n x y T J (n + 1 - i) (St s h' t')
inductive NRun1 (s : Shared) (U : List Addr) (w : World) (g₀ : Kn) (h₀ : Heap) (L : Addr) (g : Kn) (D I I2 : Addr) (oI : Obj) (n : Nat) (x y : Str) (v : Value) (l : List (Str × Value)) (T : Nat → Heap → Prop) (T1 : Heap → Prop) (K : Nat → Kn → List (Addr × Obj) → List Value → Prop) : Nat → Shared → Prop
  | mk (j : Nat) (g' : Kn) (h' : Heap) (t' : Nat) (l' : List (Str × Value)) (μ' : List (Addr × Obj)) (ys : List Value) (m : Nat) (o' : Obj) (hj : j ≤ n) (hl : l' = (x, v) :: l ∨ ∃ u, l' = [(y, u), (x, v)]) (up : Up g g') (F : Fm U w g₀ h₀ L g' h' l' ((I2, o') :: (D, listO ys m) :: (I, oI) :: μ')) (hT : T j h') (hT1 : T1 h') (hK : K j g' μ' ys) : NRun1 s U w g₀ h₀ L g D I I2 oI n x y v l T T1 K (n + 1 - j) (St s h' t')
theorem comp_nest {elt it1 it2 : Expr} {x y : Str} {px py : Pos} {scope : Scope} {pos : Pos} {cenv : Env} {D : Addr} {R : Result → Shared → Prop} {fp : List Addr} {P : Nat → Value → Prop} {T : Nat → Heap → Prop}
    (It : Itr prog w A I fp n P T) (F : Fm U w g₀ h₀ L g h [] ((D, listO [] 0) :: (I, o) :: μ)) (T0 : T 0 h) (hfp : ∀ b ∈ fp, b = I ∨ ∃ y, g b = some y)
    (hx : cenv.kindOf x = some .local) (hy : cenv.kindOf y = some .local) (hxy : (y == x) = false) (hL : cenv.locals = L) (hk : cenv.scope.kind = .function) (hs : ∀ x, foldedSetIterable it2 cenv x = pure x)
    (J : Nat → Kn → List (Addr × Obj) → List Value → Prop) (K : Nat → Value → Nat → (Nat → Value → Prop) → Nat → Kn → List (Addr × Obj) → List Value → Prop) (J0 : J 0 g μ [])
    (src : ∀ i v g' h' t' l' μ' ys m o', i < n → P i v → Up g g' → J i g' μ' ys → Fm U w g₀ h₀ L g' h' l' ((D, listO ys m) :: (I, o') :: μ') →
      ∀ KI : Value → Shared → Prop, (∀ I2 o2 fp2 n2 P2 T2 g'' h'' t'' μ'', Up g' g'' → Itr prog w A I2 fp2 n2 P2 T2 → T2 0 h'' → (∀ b ∈ fp2, b = I2 ∨ ∃ y, g'' b = some y) → Fm U w g₀ h₀ L g'' h'' l' ((I2, o2) :: (D, listO ys m) :: (I, o') :: μ'') → K i v n2 P2 0 g'' μ'' ys → KI (.ref I2) (St s h'' t'')) →
      wpAny (model prog w) A (eval it2 cenv) (fun xv s₁ => wpAny (model prog w) A (pyIter xv) KI NoE s₁) NoE (St s h' t'))
    (el : ∀ i v n2 P2 j u g' h' t' μ' ys m o' I2 o2, i < n → P i v → j < n2 → P2 j u → Up g g' → K i v n2 P2 j g' μ' ys → Fm U w g₀ h₀ L g' h' [(y, u), (x, v)] ((D, listO ys m) :: (I2, o2) :: (I, o') :: μ') →
      ∀ KT : Value → Shared → Prop, (∀ r g'' h'' t'' μ'', Up g' g'' → Fm U w g₀ h₀ L g'' h'' [(y, u), (x, v)] ((D, listO ys m) :: (I2, o2) :: (I, o') :: μ'') → K i v n2 P2 (j + 1) g'' μ'' (ys ++ [r]) → KT r (St s h'' t'')) → wpAny (model prog w) A (eval elt cenv) KT NoE (St s h' t'))
    (close : ∀ i v n2 P2 g' μ' ys, i < n → K i v n2 P2 n2 g' μ' ys → J (i + 1) g' μ' ys)
    (small : ∀ i v n2 P2 j g' μ' ys, K i v n2 P2 j g' μ' ys → ys.length ≤ 2 ^ 20)
    (done : ∀ g' h' t' l' μ' ys m, Up g g' → J n g' μ' ys → Fm U w g₀ h₀ L g' h' l' ((D, listO ys m) :: μ') → R (.ok .next) (St s h' t')) :
    codeAny (model prog w) A (.compLoop (.ListComp elt (two x y px py it1 it2) scope pos) 0 (.ref I) (.ref D) cenv) R (St s h t) := by
  refine nest0 (NRun0 s U w g₀ h₀ L g D I n x y T J) ?_ (n + 1) (NRun0.mk 0 g h t [] μ [] 0 o (Nat.zero_le _) (.inl rfl) (fun _ _ e => e) F T0 J0) hs
  intro k s' hI
  cases hI with
  | mk i g' h' t' l' μ' ys m o' hi hl' up F' T' J' =>
  rcases Nat.lt_or_eq_of_le hi with hlt | rfl
  · refine itr_next It F'.swap T' hlt fun v h₂ t₂ o₂ hP T₂ F₂ => ?_
    refine wpAny_assign_Name (m_store F₂ hk hL hx fun h₃ t₃ F₃ => ?_)
    have T₃ : T (i + 1) h₃ := itr_frame It F₂ F₃ (fun _ _ e => e) (fun b hb => (hfp b hb).imp id fun ⟨y, e⟩ => ⟨y, up _ _ e⟩) T₂
    refine wpAny_mono (src i v g' h₃ t₃ ((x, v) :: l') μ' ys m o₂ hlt hP up J' F₃.swap _ (fun I2 o2 fp2 n2 P2 T2 g4 h4 t4 μ4 up4 It2 T20 hfp2 F4 K4 => ?_)) (fun xv s₄ z => wpAny_mono z (fun itv s₅ z => z) fun _ _ e => e.elim) fun _ _ e => e.elim
    have T4 : T (i + 1) h4 := itr_frame It F₃ (F4.drop.swap) up4 (fun b hb => (hfp b hb).imp id fun ⟨y, e⟩ => ⟨y, up _ _ e⟩) T₃
    have loop : ∀ t4, codeAny (model prog w) A (.compLoop (.ListComp elt (two x y px py it1 it2) scope pos) 1 (.ref I2) (.ref D) cenv) (fun r s₅ => r = .ok .next ∧ ∃ m, m < n + 1 - i ∧ NRun0 s U w g₀ h₀ L g D I n x y T J m s₅) (St s h4 t4) := by
      intro t4
      refine nest1 (NRun1 s U w g₀ h₀ L g4 D I I2 o₂ n2 x y v l' T2 (T (i + 1)) (K i v n2 P2)) ?_ (n2 + 1) (NRun1.mk 0 g4 h4 t4 ((x, v) :: l') μ4 ys m o2 (Nat.zero_le _) (.inl rfl) (fun _ _ e => e) F4 T20 T4 K4)
      intro k s' hI
      cases hI with
      | mk j g5 h5 t5 l2 μ5 ys m o2' hj hl2 up5 F5 T25 T5 K5 =>
      rcases Nat.lt_or_eq_of_le hj with hjl | rfl
      · refine itr_next It2 F5 T25 hjl fun u h6 t6 o6 hP6 T26 F6 => ?_
        refine wpAny_assign_Name (m_store F6 hk hL hy fun h7 t7 F7 => ?_)
        have T27 : T2 (j + 1) h7 := itr_frame It2 F6 F7 (fun _ _ e => e) (fun b hb => (hfp2 b hb).imp id fun ⟨y, e⟩ => ⟨y, up5 _ _ e⟩) T26
        have upg : ∀ a y, g a = some y → g5 a = some y := fun a y e => up5 _ _ (up4 _ _ (up _ _ e))
        have T7 : T (i + 1) h7 := itr_frame It (F5.drop.swap) (F7.drop.swap) (fun _ _ e => e) (fun b hb => (hfp b hb).imp id fun ⟨y, e⟩ => ⟨y, upg _ _ e⟩) T5
        have F8 : Fm U w g₀ h₀ L g5 h7 [(y, u), (x, v)] ((I2, o6) :: (D, listO ys m) :: (I, o₂) :: μ5) := F7.relook fun zz => by
          rcases hl2 with rfl | ⟨u0, rfl⟩
          · rcases hl' with rfl | ⟨v0, rfl⟩ | ⟨u0, v0, rfl⟩
            · rfl
            · exact (lk_del [(y, u), (x, v)] (by rw [List.lookup_cons]; split; rfl; simp [List.lookup_cons]) zz).symm
            · exact ((lk_del [(y, u), (x, v)] (by simp [List.lookup_cons]) zz).trans (lk_del [(y, u), (x, v)] (by rw [List.lookup_cons]; split; rfl; simp [List.lookup_cons]) zz)).symm
          · exact lk_shadow zz
        refine wpAny_mono (el i v n2 P2 j u g5 h7 t7 μ5 ys m o₂ I2 o6 hlt hP hjl hP6 upg K5 F8.swap _ (fun r g9 h9 t9 μ9 up9 F9 K9 => ?_)) (fun r s₉ z => z) fun _ _ e => e.elim
        have hsm := small _ _ _ _ _ _ _ _ K5
        refine wpAny_list_append_plain (s := St s h9 t9) (items := ys.toArray) ⟨m, (F9.mu _ (.head _)).1⟩ (fun h10 hl10 hs10 => ?_) (by simp; exact Nat.le_trans hsm (by decide))
        obtain ⟨m10, e10⟩ := hl10
        have F10 : Fm U w g₀ h₀ L g9 h10 [(y, u), (x, v)] ((D, listO (ys ++ [r]) m10) :: (I2, o6) :: (I, o₂) :: μ9) := F9.turn hs10 (by rw [e10]; unfold listO; simp)
        exact ⟨n2 + 1 - (j + 1), by omega, .mk (j + 1) g9 h10 t9 _ μ9 (ys ++ [r]) m10 o6 hjl (.inr ⟨u, rfl⟩) (fun a y e => up9 _ _ (up5 _ _ e)) F10.swap
          (itr_frame It2 F8 F10.swap up9 (fun b hb => (hfp2 b hb).imp id fun ⟨y, e⟩ => ⟨y, up5 _ _ e⟩) T27)
          (itr_frame It (F8.drop.swap) (F10.swap.drop.swap) up9 (fun b hb => (hfp b hb).imp id fun ⟨y, e⟩ => ⟨y, upg _ _ e⟩) T7) K9⟩
      · refine itr_done It2 F5 T25 fun h6 t6 F6 => ?_
        have canon : ∃ l3 : List (Str × Value), (l3 = [] ∨ (∃ v, l3 = [(x, v)]) ∨ ∃ u v, l3 = [(y, u), (x, v)]) ∧ ∀ zz, l3.lookup zz = l2.lookup zz := by
          rcases hl2 with rfl | ⟨u0, rfl⟩
          · rcases hl' with rfl | ⟨v0, rfl⟩ | ⟨u0, v0, rfl⟩
            · exact ⟨_, .inr (.inl ⟨_, rfl⟩), fun _ => rfl⟩
            · exact ⟨[(x, v)], .inr (.inl ⟨_, rfl⟩), fun zz => lk_shadow zz⟩
            · exact ⟨[(y, u0), (x, v)], .inr (.inr ⟨_, _, rfl⟩), fun zz => (lk_swap hxy zz).trans (lk_del (x := x) (u := v0) (r := []) [(x, v), (y, u0)] (by simp [List.lookup_cons]) zz).symm⟩
          · exact ⟨_, .inr (.inr ⟨_, _, rfl⟩), fun _ => rfl⟩
        obtain ⟨l3, hl3, e3⟩ := canon
        exact ⟨rfl, n + 1 - (i + 1), by omega, .mk (i + 1) g5 h6 t6 l3 μ5 ys m o₂ hlt hl3 (fun a y e => up5 _ _ (up4 _ _ (up _ _ e))) (F6.relook e3) (itr_frame It (F5.drop.swap) F6.swap (fun _ _ e => e) (fun b hb => (hfp b hb).imp id fun ⟨y, e⟩ => ⟨y, up5 _ _ (up4 _ _ (up _ _ e))⟩) T5) (close _ _ _ _ _ _ _ hlt K5)⟩
    exact start1 (loop _) (It2.W.self 0 _ _ _ T20 (loop _))
  · refine itr_done It F'.swap T' fun h₂ t₂ F₂ => ?_
    exact done g' h₂ t₂ l' μ' ys m up J' F₂
end
section
variable {M : Model} {prog : Program} {w : World} {A : Around} {E : Value → Shared → Prop} {s sh : Shared} {env : Env} {h : Heap} {t : Nat}
noncomputable abbrev kUn (M : Model) (A : Around) (E : Value → Shared → Prop) (op : UnaryOp) (Q : Value → Shared → Prop) : Value → Shared → Prop := fun v s => wpAny M A (unaryOp op v) Q E s
theorem m_unary {x : Expr} {op : UnaryOp} {pos : Pos} {Q : Value → Shared → Prop} (h : wpAny M A (eval x env) (kUn M A E op Q) E sh) : wpAny M A (eval (.UnaryOp op x pos) env) Q E sh := wpAny_UnaryOp h
theorem i_neg {a : Int} {t' : Tok} {Q : Value → Shared → Prop} (hQ : ∀ tk t', Q (.int (-a) tk) (St s h t')) : wpAny (model prog w) A (unaryOp .USub (.int a t')) Q E (St s h t) := PyProof.Rows.neg_int (s := St s h t) (hQ _ _)
end
theorem ints_get {vs : List Value} {ns : List Int} (H : IntsAre vs ns) : ∀ {i : Nat} {v : Value}, vs[i]? = some v → ∃ n t, v = .int n t := by
  induction H with
  | nil => intro i v e; simp at e
  | cons a b _ ih =>
    intro i v e
    cases i with
    | zero => simp at e; exact ⟨_, _, e.symm⟩
    | succ i => exact ih (by simpa using e)
section
variable {M : Model} {prog : Program} {w : World} {A : Around} {E : Value → Shared → Prop} {s sh : Shared} {env : Env} {h : Heap} {t : Nat}
theorem x_if {test : Expr} {body orelse : List Stmt} {pos : Pos} {Q : Flow → Shared → Prop}
    (h : wpAny M A (PySem.isTrue test env (eval test env)) (fun b s₂ => Br b (wpAny M A (execs body env) Q E s₂) (wpAny M A (execs orelse env) Q E s₂)) E sh) : wpAny M A (exec (.If test body orelse pos) env) Q E sh :=
  wpAny_If (wpAny_mono h (fun _ _ x => x.ite) fun _ _ e => e)
theorem s_notin {x y : Str} {t' u : Tok} {Q : Value → Shared → Prop} (h : ∀ b, Q (.bool b) sh) : wpAny (model prog w) A (compareOp .NotIn (.str y u) (.str x t')) Q E sh := PyProof.Rows.notIn_str (h _)
end
/-! _law_take, _law_one, _law_pool -/
noncomputable def SrcO (o : Obj) : Prop := ∃ a b t1 t2, LsO o [.int a t1, .int b t2] ∧ 0 ≤ b ∧ b < 2147483647
noncomputable def SrcAt (g : Kn) (h : Heap) (S : Addr) : Prop := g S = none ∧ ∃ o, h.get? S = some o ∧ SrcO o
theorem fmod_lt {a b : Int} (hb : 0 < b) : 0 ≤ a.fmod b ∧ a.fmod b < b := ⟨Int.fmod_nonneg_of_pos a hb, Int.fmod_lt_of_pos a hb⟩
theorem take_spec {prog : Program} {w : World} {A : Around} {s : Shared} {g : Kn} {h : Heap} {t : Nat} {S : Addr} {top : Int} {tk : Tok} (R : Room A 5) (gd : Gd w g) (sub : Sub g h)
    (HS : SrcAt g h S) (h1 : 1 ≤ top) (h2 : top < 1073741824) :
    wpAny (model prog w) A (call (.ref 514) [.ref S, .int top tk]) (Ret [S] g s h (fun _ h' r => (∃ o, h'.get? S = some o ∧ SrcO o) ∧ ∃ k u, r = .int k u ∧ 0 ≤ k ∧ k < top)) NoE (St s h t) := by
  obtain ⟨gS, o, hS, a, b, t1, t2, X, b0, b1⟩ := HS
  refine' m_enterM (μ := [(S, o)]) [("top", .int top tk), ("source", .ref S)] gd sub (by intro p hp; rw [List.mem_singleton.mp hp]; exact ⟨hS, gS, .head _⟩) (by simp) ?ho ?hcd ?hroom ?hbind ?hloc ?hcell ?hco ?hgen ?hk ?hb
  walk_at "enter"
  try clear F
  intro L h₁ t₁ F
  refine' hideF ?_
  intro _ _
  repeat walk_at "m"
  walk_at "kx"; refine' x_item (X.at F) (by decide) (by decide) rfl (by intro _; with_unfolding_all rfl) ?_
  repeat walk_at "m"
  walk_at "kx"; refine ⟨fun hb => ?_, fun hb => ?_⟩
  · repeat walk_at "m"
    walk_at "kx"; refine' x_item (X.at F) (by decide) (by decide) rfl (by intro _; with_unfolding_all rfl) ?_
    repeat walk_at "m"
    walk_at "kx"; refine' i_mod (by omega) ?_
    intro td t₂
    repeat walk_at "m"
    rename Fm _ _ _ _ _ _ _ _ _ => F
    walk_at "kx"; refine' m_putitem rfl ?_
    repeat walk_at "m"
    walk_at "kx"; refine' x_item (X.at F) (by decide) (by decide) rfl (by intro _; with_unfolding_all rfl) ?_
    repeat walk_at "m"
    walk_at "kx"; refine' i_fdiv (by omega) (by omega) ?_
    intro tq t₃
    repeat walk_at "m"
    walk_at "kx"; refine' x_put F X (by decide) (by simp) (by simp) ?_
    try clear F
    intro h₂ o₂ X₂ F
    repeat walk_at "m"
    walk_at "kx"; exact ret_ F ⟨⟨_, (F.mu _ (.head _)).1, _, _, _, _, X₂, b0, b1⟩, _, _, rfl, fmod_lt (by omega)⟩
  · repeat walk_at "m"
    walk_at "kx"; refine' m_putitem rfl ?_
    repeat walk_at "m"
    walk_at "kx"; refine' x_item (X.at F) (by decide) (by decide) rfl (by intro _; with_unfolding_all rfl) ?_
    repeat walk_at "m"
    walk_at "kx"; refine' i_mul (.inr (by decide)) ?_
    intro _ _
    repeat walk_at "m"
    walk_at "kx"; refine' i_mod (by decide) ?_
    intro tq t₃
    repeat walk_at "m"
    walk_at "kx"; refine' x_put F X (by decide) (by simp) (by simp) ?_
    try clear F
    intro h₂ o₂ X₂ F
    have hb' := fmod_lt (a := b * 39373 + 7) (b := 2147483647) (by decide)
    generalize (b * 39373 + 7).fmod 2147483647 = c at X₂ hb'
    repeat walk_at "m"
    walk_at "kx"; refine' x_item (X₂.at F) (by decide) (by decide) rfl (by intro _; with_unfolding_all rfl) ?_
    repeat walk_at "m"
    walk_at "kx"; refine' x_item (X₂.at F) (by decide) (by decide) rfl (by intro _; with_unfolding_all rfl) ?_
    walk_at "kx"; refine' i_mul (.inl (by omega)) ?_
    intro _ _
    repeat walk_at "m"
    walk_at "kx"; refine' i_mod (by decide) ?_
    intro _ _
    repeat walk_at "m"
    walk_at "kx"; refine' i_fdiv (by decide) (by decide) ?_
    intro _ _
    repeat walk_at "m"
    walk_at "kx"; refine' i_mod (by omega) ?_
    intro _ _
    walk_at "kx"; exact ret_ F ⟨⟨_, (F.mu _ (.head _)).1, _, _, _, _, X₂, hb'.1, hb'.2⟩, _, _, rfl, fmod_lt (by omega)⟩
theorem one_spec {prog : Program} {w : World} {A : Around} {s : Shared} {g : Kn} {h : Heap} {t : Nat} {S : Addr} {v : Value} {xs : List Value} (R : Room A 8) (gd : Gd w g) (sub : Sub g h)
    (HS : SrcAt g h S) (I : IsL g v xs) (h1 : xs ≠ []) (h2 : xs.length ≤ 1000) :
    wpAny (model prog w) A (call (.ref 521) [.ref S, v]) (Ret [S] g s h (fun _ h' r => (∃ o, h'.get? S = some o ∧ SrcO o) ∧ ∃ k : Nat, xs[k]? = some r)) NoE (St s h t) := by
  obtain ⟨gS, o, hS, hO⟩ := HS
  refine' m_enterM (μ := [(S, o)]) [("things", v), ("source", .ref S)] gd sub (by intro p hp; rw [List.mem_singleton.mp hp]; exact ⟨hS, gS, .head _⟩) (by simp) ?ho ?hcd ?hroom ?hbind ?hloc ?hcell ?hco ?hgen ?hk ?hb
  walk_at "enter"
  try clear F
  intro L h₁ t₁ F
  refine' hideF ?_
  intro _ _
  have hl : xs.length ≠ 0 := fun q => h1 (List.eq_nil_of_length_eq_zero q)
  repeat walk_at "m"
  walk_at "kx"; refine' l_len F I (by omega) ?_
  intro tk' _
  repeat walk_at "m"
  walk_at "kx"; refine ⟨F.k, ?_⟩
  walk_at "kx"; refine m_use (take_spec (R.dl (by decide)) F.gd F.sub ⟨gS, o, (F.mu _ (.head _)).1, hO⟩ (by omega) (by omega)) fun _ _ r1 g₁ h₂ t₂ G1 o1 => ?_
  obtain ⟨⟨o', hS', hO'⟩, k, u, rfl, k0, k1⟩ := o1
  replace F := F.callM G1 hS'
  obtain ⟨j, rfl⟩ := Int.eq_ofNat_of_zero_le k0
  have hj : j < xs.length := by omega
  walk_at "kx"; refine' l_item F (I.mono G1.up) k0 (by omega) (x := xs[j]) (by rw [Int.toNat_natCast]; exact List.getElem?_eq_getElem hj) (by intro _; with_unfolding_all rfl) ?_
  walk_at "kx"; exact ret_ F ⟨⟨_, hS', hO'⟩, j, List.getElem?_eq_getElem hj⟩
noncomputable def ScriptAt (g : Kn) (v : Value) (vs : List Value) : Prop := ∃ a o, v = .ref a ∧ g a = some o ∧ LsO o vs
theorem ScriptAt.mono {g g' : Kn} {v : Value} {vs : List Value} (X : ScriptAt g v vs) (up : Up g g') : ScriptAt g' v vs := let ⟨a, o, e, x, y⟩ := X; ⟨a, o, e, up _ _ x, y⟩
theorem pool_spec {prog : Program} {w : World} {A : Around} {s : Shared} {g : Kn} {h : Heap} {t : Nat} {v : Value} {vs : List Value} {ns : List Int} {k : Nat} {tk : Tok} (R : Room A 5) (gd : Gd w g) (sub : Sub g h)
    (I : ScriptAt g v vs) (HI : IntsAre vs ns) (hl : vs.length ≤ 1000) (hk : k ≤ 1000) :
    wpAny (model prog w) A (call (.ref 507) [v, .int (k : Nat) tk]) (Ret [] g s h (fun g' h' r => ∃ S o, r = .ref S ∧ h'.get? S = some o ∧ SrcO o ∧ g' S = none ∧ h.objs.size ≤ S)) NoE (St s h t) := by
  refine' m_enter [("k", .int (k : Nat) tk), ("script", v)] gd sub ?ho ?hcd ?hroom ?hbind ?hloc ?hcell ?hco ?hgen ?hk ?hb
  walk_at "enter"
  try clear F
  intro L h₁ t₁ F
  refine' hideF ?_
  intro _ _
  repeat walk_at "m"
  rename Fm _ _ _ _ _ _ _ _ _ => F
  obtain ⟨sa, so, rfl, gso, hso⟩ := I
  have hlist : ∀ {h : Heap}, h.get? sa = some so → h.IsList sa vs.toArray := fun e => ⟨so, e, hso.1, hso.2⟩
  walk_at "kx"; refine' list_len (hlist (F.sub _ _ gso)) (by omega) ?_
  intro tl _
  repeat walk_at "m"
  walk_at "kx"; refine ⟨fun hb => ?_, fun hb => ?_⟩
  · have hkl : k < vs.length := by have := of_decide_eq_true hb; omega
    obtain ⟨c, tc, hv⟩ := ints_get HI (List.getElem?_eq_getElem hkl)
    repeat walk_at "m"
    walk_at "kx"; refine' x_item (hlist (F.sub _ _ gso)) (Int.natCast_nonneg k) (by omega) (x := .int c tc) (by rw [Int.toNat_natCast, List.getElem?_eq_getElem hkl, hv]) (by intro _; with_unfolding_all rfl) ?_
    repeat walk_at "m"
    rename Fm _ _ _ _ _ _ _ _ _ => F
    walk_at "kx"; refine' i_max R.hh F ?_
    try clear F
    intro h₂ t₂ u₂ F
    repeat walk_at "m"
    rename Fm _ _ _ _ _ _ _ _ _ => F
    walk_at "kx"; refine' i_mod (by decide) ?_
    intro _ _
    repeat walk_at "m"
    walk_at "kx"; refine' i_mul (.inl (by decide)) ?_
    intro _ _
    repeat walk_at "m"
    walk_at "kx"; refine' i_mul (.inr (by omega)) ?_
    intro _ _
    repeat walk_at "m"
    walk_at "kx"; refine' i_mul (.inl (by decide)) ?_
    intro _ _
    repeat walk_at "m"
    walk_at "kx"; refine' i_mul (.inr (by decide)) ?_
    intro _ _
    repeat walk_at "m"
    walk_at "kx"; refine' i_mod (by decide) ?_
    intro _ _
    repeat walk_at "m"
    rename Fm _ _ _ _ _ _ _ _ _ => F
    walk_at "kx"; refine' i_pow (by decide) (by decide) (by decide) ?_
    intro _ _
    repeat walk_at "m"
    walk_at "kx"; refine' i_mul (.inr (by split <;> decide)) ?_
    intro _ _
    repeat walk_at "m"
    walk_at "kx"; refine' m_newlist F (Nat.le_of_ble_eq_true rfl) ?_
    try clear F
    intro D h₉ F hD
    have M := F.mu _ (.head _)
    walk_at "kx"; exact ret_ F ⟨D, _, rfl, M.1, ⟨_, _, _, _, .of, fmod_lt (by decide)⟩, M.2.1, hD⟩
  · repeat walk_at "m"
    rename Fm _ _ _ _ _ _ _ _ _ => F
    walk_at "kx"; refine' i_max R.hh F ?_
    try clear F
    intro h₂ t₂ u₂ F
    repeat walk_at "m"
    rename Fm _ _ _ _ _ _ _ _ _ => F
    walk_at "kx"; refine' i_mod (by decide) ?_
    intro _ _
    repeat walk_at "m"
    walk_at "kx"; refine' i_mul (.inl (by decide)) ?_
    intro _ _
    repeat walk_at "m"
    walk_at "kx"; refine' i_mul (.inr (by omega)) ?_
    intro _ _
    repeat walk_at "m"
    walk_at "kx"; refine' i_mul (.inl (by decide)) ?_
    intro _ _
    repeat walk_at "m"
    walk_at "kx"; refine' i_mul (.inr (by decide)) ?_
    intro _ _
    repeat walk_at "m"
    walk_at "kx"; refine' i_mod (by decide) ?_
    intro _ _
    repeat walk_at "m"
    rename Fm _ _ _ _ _ _ _ _ _ => F
    walk_at "kx"; refine' i_pow (by decide) (by decide) (by decide) ?_
    intro _ _
    repeat walk_at "m"
    walk_at "kx"; refine' i_mul (.inr (by split <;> decide)) ?_
    intro _ _
    repeat walk_at "m"
    walk_at "kx"; refine' m_newlist F (Nat.le_of_ble_eq_true rfl) ?_
    try clear F
    intro D h₉ F hD
    have M := F.mu _ (.head _)
    walk_at "kx"; exact ret_ F ⟨D, _, rfl, M.1, ⟨_, _, _, _, .of, fmod_lt (by decide)⟩, M.2.1, hD⟩
/-! _law_fits, _law_all_fit -/
inductive ValAt (g : Kn) : Value → Val → Prop
  | int {i t} : ValAt g (.int i t) (.int i)
  | chr {c t} : ValAt g (.str (strOf [c]) t) (.chr c)
  | con0 {v x c t} : IsT g v [.str (Cn.name c) t, x] → IsL g x [] → ValAt g v (.con0 c)
  | con2 {v x c t a b p q} : IsT g v [.str (Cn.name c) t, x] → IsL g x [a, b] → ValAt g a p → ValAt g b q → ValAt g v (.con2 c p q)
theorem ValAt.mono {g g' : Kn} {v : Value} {V : Val} (P : ValAt g v V) (up : Up g g') : ValAt g' v V := by
  induction P with
  | int => exact .int
  | chr => exact .chr
  | con0 I J => exact .con0 (I.mono up) (J.mono up)
  | con2 I J _ _ a b => exact .con2 (I.mono up) (J.mono up) a b
noncomputable def FitsOk (prog : Program) (w : World) (n : Nat) : Prop := ∀ (A : Around) (s : Shared) (g : Kn) (h : Heap) (t : Nat) (pv vv : Value) (p : Pat) (V : Val) (k : Kd) (m : Nat), Room A (20 + 4 * n) → Gd w g → (Sub g h) →
  PatAt g pv p → ValAt g vv V → KT k p → VT k m V → psize p ≤ n → n ≤ 1000 → wpAny (model prog w) A (call (.ref 536) [pv, vv]) (Ret [] g s h (fun _ _ r => r = .bool (fits p V))) NoE (St s h t)
noncomputable def Typed (n : Nat) (ps : List Pat) (Vs : List Val) : Prop := All2 (fun p V => ∃ k m, KT k p ∧ VT k m V ∧ psize p ≤ n) ps Vs
theorem all_fit_spec {n : Nat} {prog : Program} {w : World} (hf : FitsOk prog w n) {A : Around} {s : Shared} {g : Kn} {h : Heap} {t : Nat} {pv vv : Value} {vs ws : List Value} {ps : List Pat} {Vs : List Val} (R : Room A (22 + 4 * n)) (hn : n ≤ 1000) (gd : Gd w g) (sub : Sub g h)
    (IP : IsL g pv vs) (HP : All2 (PatAt g) vs ps) (IV : IsL g vv ws) (HV : All2 (ValAt g) ws Vs) (HT : Typed n ps Vs) :
    wpAny (model prog w) A (call (.ref 543) [pv, vv]) (Ret [] g s h (fun _ _ r => r = .bool (rowFits ps Vs))) NoE (St s h t) := by
  refine' m_enter [("values", vv), ("patterns", pv)] gd sub ?ho ?hcd ?hroom ?hbind ?hloc ?hcell ?hco ?hgen ?hk ?hb
  walk_at "enter"
  try clear F
  intro L h₁ t₁ F
  refine' hideF ?_
  intro _ _
  have l1 := HP.length
  have l2 := HV.length
  have l3 := HT.length
  repeat walk_at "m"
  walk_at "kx"; refine' c_zip R.hh F IP IV ?_
  try clear F
  intro z is h₂ g₁ fp T wr up F hm It T0 hfp self
  refine self _ _ _ _ ?_
  walk_at "kx"; refine' for_run2 (It _ R.hh) R.hh hm F T0 hfp (fun i g' l' μ' => (∃ junk, l' = (("values", vv) :: ("patterns", pv) :: junk : List (Str × Value))) ∧
    μ' = [] ∧ rowFits (ps.take i) (Vs.take i) = true) ⟨⟨[], rfl⟩, rfl, rfl⟩ ?turn ?done
  case turn =>
    try clear F
    intro i a b g' h' t' l' μ' is' hi hP up' hJ F Kp kn kr
    obtain ⟨⟨junk, rfl⟩, rfl, hJ⟩ := hJ
    obtain ⟨ha, hb⟩ := hP
    obtain ⟨p, ep, PA⟩ := HP.get ha
    obtain ⟨V, eV, VA⟩ := HV.get hb
    obtain ⟨V', eV', k, m, kt, vt, hps⟩ := HT.get ep
    rw [eV] at eV'; cases eV'
    have e4 : rowFits (ps.take (i + 1)) (Vs.take (i + 1)) = fits p V := by
      rw [take_snoc ep, take_snoc eV, rowFits_append (by simp; omega), hJ]
      show (true && (fits p V && true)) = _
      simp
    repeat walk_at "m"
    rename Fm _ _ _ _ _ _ _ _ _ => F
    walk_at "kx"; refine ⟨F.k, ?_⟩
    walk_at "kx"; refine m_use (hf _ s g' _ _ _ _ p V k m (R.dl (by omega)) F.gd F.sub ((PA.mono up).mono up') ((VA.mono up).mono up') kt vt hps hn) fun _ _ r1 g₂ h₃ t₃ G1 o1 => ?_
    subst o1
    replace F := F.call G1
    repeat walk_at "m"
    walk_at "kx"; refine ⟨fun hb => ?_, fun hb => ?_⟩
    · repeat walk_at "m"
      walk_at "kx"; refine ret_ (Out := fun _ _ r => r = .bool (rowFits ps Vs)) F ?_
      have : rowFits ps Vs = false := by
        rw [← List.take_append_drop (i + 1) ps, ← List.take_append_drop (i + 1) Vs, rowFits_append (by simp; omega), e4]
        have : fits p V = false := by simpa using hb
        rw [this]; rfl
      rw [this]
    · have hf' : fits p V = true := by simpa using hb
      repeat walk_at "m"
      exact kn g₂ _ _ _ _ G1.up (F.relook (l' := ("values", vv) :: ("patterns", pv) :: ("value", _) :: ("pattern", _) :: ("values", vv) :: ("patterns", pv) :: junk) fun y => lk_base (b := [("values", vv), ("patterns", pv)]) (st := [("value", _), ("pattern", _)]) junk rfl y) ⟨⟨_, rfl⟩, rfl, by rw [e4]; exact hf'⟩
  case done =>
    try clear F
    intro g' h' t' l' μ' up' hJ F
    obtain ⟨⟨junk, rfl⟩, rfl, hJ⟩ := hJ
    rw [List.take_of_length_le (by omega), List.take_of_length_le (by omega)] at hJ
    repeat walk_at "m"
    walk_at "kx"; exact ret_ F (by rw [hJ])

theorem IsT.handed {g : Kn} {v : Value} {vs : List Value} (I : IsT g v vs) : handedIn v = true := by obtain ⟨b, _, e, _⟩ := I; rw [e]; rfl
theorem PatAt.handed {g : Kn} {v : Value} {p : Pat} (P : PatAt g v p) : handedIn v = true := by obtain ⟨b, _, e, _⟩ := P.inst; rw [e]; rfl
theorem VT.con' {k : Kd} {m : Nat} {v : Val} (h : VT k m v) (h1 : k ≠ .I) (h2 : k ≠ .C) : (∃ c : Cn, v = .con0 c ∧ c.kd = k ∧ c.ar = 0) ∨ ∃ (c : Cn) (x y : Val) (k1 k2 : Kd) (m1 m2 : Nat), v = .con2 c x y ∧ c.kd = k ∧ c.ar = 2 ∧ VT k1 m1 x ∧ VT k2 m2 y ∧ (c.fld 1).map (·.1) = [k1, k2] := by
  cases h with
  | int => exact absurd rfl h1
  | chr => exact absurd rfl h2
  | a => exact .inl ⟨_, rfl, rfl, rfl⟩
  | b x y => exact .inr ⟨_, _, _, _, _, _, _, rfl, rfl, rfl, x, y, rfl⟩
  | pr x y => exact .inr ⟨_, _, _, _, _, _, _, rfl, rfl, rfl, x, y, rfl⟩
  | nil => exact .inl ⟨_, rfl, rfl, rfl⟩
  | cons x y => exact .inr ⟨_, _, _, _, _, _, _, rfl, rfl, rfl, x, y, rfl⟩
theorem All2.join {α β γ : Type} {R : α → γ → Prop} {S : β → γ → Prop} {xs : List α} {ys : List β} {zs : List γ} (h : All2 R xs zs) (h2 : All2 S ys zs) : All2 (fun x y => ∃ z, R x z ∧ S y z) xs ys := by
  induction h generalizing ys with
  | nil => cases h2; exact .nil
  | cons a _ ih => cases h2 with | cons b r => exact .cons ⟨_, a, b⟩ (ih r)
noncomputable def Cn.kinds (c : Cn) : List Kd := (c.fld 1).map (·.1)
theorem con_view {g : Kn} {pv : Value} {p : Pat} {k : Kd} (P : PatAt g pv p) (h : p.cls = 153) (kt : KT k p) : ∃ (a : Addr) (tk : Tok) (y : Value) (zs : List Value) (c : Cn) (qs : List Pat), pv = .ref a ∧ Inst g a 153 [("place", .none), ("name", .str (Cn.name c) tk), ("args", y)] ∧ IsL g y zs ∧ All2 (PatAt g) zs qs ∧
    p = mkP c qs ∧ c.kd = k ∧ qs.length = c.ar ∧ All2 (fun q kd => KT kd q ∧ psize q + 1 ≤ psize p) qs c.kinds := by
  cases P with
  | con0 I J =>
    cases kt with
    | a => exact ⟨_, _, _, _, .a, [], rfl, I, J, .nil, rfl, rfl, rfl, .nil⟩
    | nil => exact ⟨_, _, _, _, .nil, [], rfl, I, J, .nil, rfl, rfl, rfl, .nil⟩
  | con2 I J X Y =>
    cases kt with
    | b x y => exact ⟨_, _, _, _, .b, [_, _], rfl, I, J, .cons X (.cons Y .nil), rfl, rfl, rfl, .cons ⟨x, ps_l⟩ (.cons ⟨y, ps_r⟩ .nil)⟩
    | pr x y => exact ⟨_, _, _, _, .pr, [_, _], rfl, I, J, .cons X (.cons Y .nil), rfl, rfl, rfl, .cons ⟨x, ps_l⟩ (.cons ⟨y, ps_r⟩ .nil)⟩
    | cons x y => exact ⟨_, _, _, _, .cons, [_, _], rfl, I, J, .cons X (.cons Y .nil), rfl, rfl, rfl, .cons ⟨x, ps_l⟩ (.cons ⟨y, ps_r⟩ .nil)⟩
  | _ => cases h
theorem val_view {g : Kn} {vv : Value} {V : Val} {k : Kd} {m : Nat} (VA : ValAt g vv V) (vt : VT k m V) (h1 : k ≠ .I) (h2 : k ≠ .C) : ∃ (x : Value) (ws : List Value) (d : Cn) (t : Tok) (Ws : List Val), IsT g vv [.str (Cn.name d) t, x] ∧ IsL g x ws ∧ All2 (ValAt g) ws Ws ∧
    V = mkV d Ws ∧ d.kd = k ∧ Ws.length = d.ar ∧ All2 (fun W kd => ∃ m, VT kd m W) Ws d.kinds := by
  cases VA with
  | int => cases vt; exact absurd rfl h1
  | chr => cases vt; exact absurd rfl h2
  | con0 I J =>
    cases vt with
    | a => exact ⟨_, _, .a, _, [], I, J, .nil, rfl, rfl, rfl, .nil⟩
    | nil => exact ⟨_, _, .nil, _, [], I, J, .nil, rfl, rfl, rfl, .nil⟩
  | con2 I J X Y =>
    cases vt with
    | b x y => exact ⟨_, _, .b, _, [_, _], I, J, .cons X (.cons Y .nil), rfl, rfl, rfl, .cons ⟨_, x⟩ (.cons ⟨_, y⟩ .nil)⟩
    | pr x y => exact ⟨_, _, .pr, _, [_, _], I, J, .cons X (.cons Y .nil), rfl, rfl, rfl, .cons ⟨_, x⟩ (.cons ⟨_, y⟩ .nil)⟩
    | cons x y => exact ⟨_, _, .cons, _, [_, _], I, J, .cons X (.cons Y .nil), rfl, rfl, rfl, .cons ⟨_, x⟩ (.cons ⟨_, y⟩ .nil)⟩
theorem fd_main {w : World} {g : Kn} {pv : Value} {p : Pat} {k : Kd} (P : PatAt g pv p) (kt : KT k p) (hb : [234, 288].contains p.cls = true) : ∃ (a : Addr) (q : Pat) (X : Value) (fs : List (Str × Value)), pv = .ref a ∧ (p = .as q ∨ p = .bang q) ∧ Inst g a p.cls fs ∧ fs.lookup ("pattern" : Str) = some X ∧ PatAt g X q ∧ psize p = psize q + 1 ∧ KT k q ∧ AttrOk (K0 w.params) p.cls "pattern" = true := by
  cases P with
  | as I X => cases kt with | as kt => exact ⟨_, _, _, _, rfl, .inl rfl, I, rfl, X, rfl, kt, fine_as.a _ (by repeat constructor)⟩
  | bang I X => cases kt with | bang kt => exact ⟨_, _, _, _, rfl, .inr rfl, I, rfl, X, rfl, kt, fine_bang.a _ (by repeat constructor)⟩
  | _ => exact Bool.noConfusion hb
theorem fd_true {p : Pat} {V : Val} (hb : [72, 99, 261].contains p.cls = true) : fits p V = true := by induction p <;> first | rfl | exact Bool.noConfusion hb
theorem fd_text {g : Kn} {pv : Value} {cs : List Nat} (P : PatAt g pv (.text cs)) : ∃ cs' a kt u, Pat.text cs = .text cs' ∧ pv = .ref a ∧ Inst g a 126 [("place", .none), ("kind", .str "text" kt), ("value", .str (strOf cs') u)] := by
  cases P with
  | text I => exact ⟨_, _, _, _, rfl, rfl, I⟩
theorem fd_l1 {x : Value} {p : Pat} (hx : LitV x p ∨ ∃ cs, p = .text cs) (e : (kindOf p != ("text" : Str)) = true) : LitV x p := by
  rcases hx with hx | ⟨cs, rfl⟩
  · exact hx
  · exact absurd e (by show ¬ (("text" : Str) != "text") = true; decide)
theorem fd_l2 {g : Kn} {pv x : Value} {p : Pat} (P : PatAt g pv p) (hx : LitV x p ∨ ∃ cs, p = .text cs) (e : (kindOf p != ("text" : Str)) = false) : ∃ cs' a kt u, p = .text cs' ∧ pv = .ref a ∧ Inst g a 126 [("place", .none), ("kind", .str "text" kt), ("value", .str (strOf cs') u)] := by
  rcases hx with hx | ⟨cs, rfl⟩
  · cases hx
    · exact absurd e (by show ¬ (("int" : Str) != "text") = false; decide)
    · exact absurd e (by show ¬ (("char" : Str) != "text") = false; decide)
  · exact fd_text P
theorem LitV.handed {x : Value} {p : Pat} (hx : LitV x p) : handedIn x = true := by cases hx <;> rfl
theorem fd_lit {g : Kn} {x vv : Value} {p : Pat} {V : Val} {k : Kd} {m : Nat} (hx : LitV x p) (kt : KT k p) (vt : VT k m V) (VA : ValAt g vv V) :
    (∃ i t j u, x = .int i t ∧ vv = .int j u ∧ fits p V = (i == j)) ∨ (∃ c t d u, x = .str (strOf [c]) t ∧ vv = .str (strOf [d]) u ∧ fits p V = (c == d)) := by
  cases hx with
  | int => cases kt; cases vt; cases VA; exact .inl ⟨_, _, _, _, rfl, rfl, rfl⟩
  | chr => cases kt; cases vt; cases VA; exact .inr ⟨_, _, _, _, rfl, rfl, rfl⟩
theorem kd_n1 (c : Cn) : c.kd ≠ .I := by induction c <;> decide
theorem kd_n2 (c : Cn) : c.kd ≠ .C := by induction c <;> decide
theorem psize_1 (p : Pat) : 1 ≤ psize p := by induction p <;> first | exact Nat.le_refl _ | exact Nat.le_add_left _ _ | (show 1 ≤ _ + 2; omega)
theorem fd_tup {g : Kn} {v : Value} {p : Pat} {k : Kd} (P : PatAt g v p) (kt : KT k p) (h : (p.cls == 180) = true) : ∃ ta tv tx ty p1 p2, v = .ref ta ∧ p = .tup p1 p2 ∧ k = .P ∧ Inst g ta 180 [("place", .none), ("items", tv)] ∧ IsL g tv [tx, ty] ∧ PatAt g tx p1 ∧ PatAt g ty p2 ∧ KT .T p1 ∧ KT .C p2 := by
  cases P with
  | tup I J X Y => cases kt with | tup k1 k2 => exact ⟨_, _, _, _, _, _, rfl, rfl, rfl, I, J, X, Y, k1, k2⟩
  | _ => exact Bool.noConfusion h
theorem kd_pr {d : Cn} (h : d.kd = .P) : d = .pr := by induction d <;> first | rfl | exact absurd h (by decide)
theorem fit_tup {p1 p2 : Pat} {Ws : List Val} (h : Ws.length = 2) : fits (.tup p1 p2) (mkV .pr Ws) = rowFits [p1, p2] Ws := by
  match Ws, h with
  | [a, b], _ => show (Cn.pr == Cn.pr && (fits p1 a && fits p2 b)) = (fits p1 a && (fits p2 b && true)); simp
theorem fd_rest {p : Pat} {k : Kd} (kt : KT k p) (h1 : [234, 288].contains p.cls = false) (h2 : [72, 99, 261].contains p.cls = false) (h4 : (p.cls == 153) = false) (h5 : (p.cls == 180) = false) (hF : p.cls = 126 → ∃ cs, p = .text cs) :
    k = .L ∧ ((p.cls == 126) = false → ∃ xs, p = .lst xs) := by
  cases p with
  | text cs => cases kt; exact ⟨rfl, fun e => Bool.noConfusion e⟩
  | lst xs => cases kt; exact ⟨rfl, fun _ => ⟨_, rfl⟩⟩
  | wild => exact Bool.noConfusion h2
  | pvar => exact Bool.noConfusion h2
  | plazy => exact Bool.noConfusion h2
  | int i => obtain ⟨cs, e⟩ := hF rfl; cases e
  | chr i => obtain ⟨cs, e⟩ := hF rfl; cases e
  | con0 => exact Bool.noConfusion h4
  | con2 => exact Bool.noConfusion h4
  | tup => exact Bool.noConfusion h5
  | as => exact Bool.noConfusion h1
  | bang => exact Bool.noConfusion h1
theorem fd_lst {g : Kn} {v : Value} {xs : List At} (P : PatAt g v (.lst xs)) : ∃ a y vs, v = .ref a ∧ Inst g a 207 [("place", .none), ("items", y)] ∧ IsL g y vs ∧ vs.length = xs.length ∧ ∀ (i : Nat) (x : Value) (o : At), vs[i]? = some x → xs[i]? = some o → PatAt g x (atomOf o) := by
  cases P with
  | lst I J n X => exact ⟨_, _, _, rfl, I, J, n, X⟩
theorem fd_nilv {d : Cn} {Ws : List Val} (h : d.kd = .L) (hl : Ws.length = d.ar) : (d.name == ("[]" : Str)) = fitList [] (mkV d Ws) := by
  cases d with
  | nil => match Ws, hl with | [], _ => decide
  | cons => match Ws, hl with | [_, _], _ => exact (show (Cn.cons.name == ("[]" : Str)) = false by decide)
  | _ => exact absurd h (by decide)
theorem fd_nil {d : Cn} (h : (d.name == ("[]" : Str)) = true) : d = .nil := by induction d <;> first | rfl | exact absurd h (by decide)
theorem fd_cons {d : Cn} (h : (d.name == ("[]" : Str)) = false) (hk : d.kd = .L) : d = .cons := by induction d <;> first | rfl | exact absurd h (by decide) | exact absurd hk (by decide)
theorem All2.two {α β : Type} {R : α → β → Prop} {xs : List α} {a b : β} (h : All2 R xs [a, b]) : ∃ x y, xs = [x, y] ∧ R x a ∧ R y b := by
  cases h with | cons p h => cases h with | cons q h => cases h; exact ⟨_, _, rfl, p, q⟩
theorem All2.both {α β : Type} {R : α → β → Prop} {a b : α} {c d : β} (h : All2 R [a, b] [c, d]) : R a c ∧ R b d := by
  cases h with | cons p h => cases h with | cons q h => exact ⟨p, q⟩
theorem atom_kt (o : At) : KT .C (atomOf o) := by induction o <;> constructor
theorem atom_size (o : At) : psize (atomOf o) = 1 := by induction o <;> rfl
theorem fits_spec {prog : Program} {w : World} : ∀ n, FitsOk prog w n := by
  intro n
  induction n using Nat.strongRecOn with
  | _ n ih =>
    intro A s g h t pv vv p V k m R gd sub P VA kt vt hps hn
    refine' m_enter [("value", vv), ("pattern", pv)] gd sub ?ho ?hcd ?hroom ?hbind ?hloc ?hcell ?hco ?hgen ?hk ?hb
    walk_at "enter"
    try clear F
    intro L h₁ t₁ F
    refine' hideF ?_
    intro _ _
    repeat walk_at "m"
    walk_at "kx"; refine' m_newtuple F (Nat.le_of_ble_eq_true rfl) ?_
    try clear F
    intro a h₂ F ha
    repeat walk_at "m"
    walk_at "kx"; refine' m_isiPT F P (Cs := [234, 288]) (by decide) (F.mu _ (.head _)).1 ?_
    intro t₂
    replace F := F.drop
    repeat walk_at "m"
    walk_at "kx"; refine ⟨fun hb => ?_, fun hb1 => ?_⟩
    · have main := fd_main (w := w) P kt hb
      obtain ⟨a, q, X, fs, rfl, hp, I, hx, PX, hsz, ktq, hA⟩ := main
      have hfit : fits p V = fits q V := by rcases hp with rfl | rfl <;> rfl
      repeat walk_at "m"
      walk_at "kx"; refine' m_getattr F I hx (patCls_ok p.cls_mem) hA PX.handed ?_
      intro t₃
      repeat walk_at "m"
      walk_at "kx"; refine ⟨F.k, ?_⟩
      walk_at "kx"; refine m_use (ih (psize q) (by omega) _ s g _ _ _ _ q V k m (R.dl (by omega)) F.gd F.sub PX VA ktq vt (Nat.le_refl _) (by omega)) fun _ _ r1 g₁ h₂ t₂ G1 o1 => ?_
      walk_at "kx"; exact ret_ (F.call G1) (by rw [hfit]; exact o1)
    repeat walk_at "m"
    walk_at "kx"; refine' m_newtuple F (Nat.le_of_ble_eq_true rfl) ?_
    try clear F
    intro a h₂ F ha
    repeat walk_at "m"
    walk_at "kx"; refine' m_isiPT F P (Cs := [72, 99, 261]) (by decide) (F.mu _ (.head _)).1 ?_
    intro t₂
    replace F := F.drop
    repeat walk_at "m"
    walk_at "kx"; refine ⟨fun hb => ?_, fun hb2 => ?_⟩
    · repeat walk_at "m"
      walk_at "kx"; refine ret_ F ?_
      rw [fd_true hb]
    repeat ((fail_if_success (with_reducible show wpAny _ _ (PySem.isTrue _ _ _) _ _ _)); walk_at "m")
    refine wpAny_mono (Q := PostB s [] w g h L g [("value", vv), ("pattern", pv)] [] fun b => (b = true → ∃ a kt x, pv = .ref a ∧ Inst g a 126 [("place", .none), ("kind", .str (kindOf p) kt), ("value", x)] ∧ LitV x p) ∧ (b = false → p.cls = 126 → ∃ cs a kt u, p = .text cs ∧ pv = .ref a ∧ Inst g a 126 [("place", .none), ("kind", .str "text" kt), ("value", .str (strOf cs) u)])) ?_ (fun bz s' hz => ?_) (fun _ _ e => e)
    · walk_at "m"
      repeat walk_at "m"
      walk_at "kx"; refine' m_isiP F P (by decide) ?_; intro t₂
      repeat walk_at "m"
      walk_at "kx"; refine ⟨fun hb => ?_, fun hb => ?_⟩
      · obtain ⟨a, kt, x, rfl, I, hx⟩ := P.lit (by simpa using hb)
        repeat walk_at "m"
        walk_at "kx"; refine' m_getattr F I rfl (patCls_ok (by decide)) (fine_lit.a _ (by repeat constructor)) rfl ?_
        intro t₃
        repeat walk_at "m"
        walk_at "kx"; refine' s_ne ?_
        repeat walk_at "m"
        exact .mk _ _ F ⟨fun e => ⟨_, _, _, rfl, I, fd_l1 hx e⟩, fun e _ => fd_l2 P hx e⟩
      · exact .mk _ _ F ⟨fun e => Bool.noConfusion e, fun _ e => by rw [e] at hb; exact Bool.noConfusion hb⟩
    cases hz with
    | mk h₃ t₃ F hTF =>
    obtain ⟨hT, hF⟩ := hTF
    walk_at "kx"; refine ⟨fun hb => ?_, fun hb3 => ?_⟩
    · obtain ⟨a, kt', x, rfl, I, hx⟩ := hT hb
      repeat walk_at "m"
      walk_at "kx"; refine' m_getattr F I rfl (patCls_ok (by decide)) (fine_lit.a _ (by repeat constructor)) hx.handed ?_
      intro t₃
      repeat walk_at "m"
      rcases fd_lit hx kt vt VA with ⟨i, ti, j, tj, rfl, rfl, e⟩ | ⟨i, ti, j, tj, rfl, rfl, e⟩
      · repeat walk_at "m"
        walk_at "kx"; exact ret_ F (congrArg Value.bool e.symm)
      · repeat walk_at "m"
        walk_at "kx"; exact ret_ F (congrArg Value.bool ((strOf_beq1 _ _).trans e.symm))
    have hF := hF hb3
    repeat walk_at "m"
    walk_at "kx"; refine' m_isiP F P (by decide) ?_; intro t₂
    repeat walk_at "m"
    walk_at "kx"; refine ⟨fun hb => ?_, fun hb4 => ?_⟩
    · obtain ⟨pa, ptk, y, zs, c, qs, rfl, II, Y, B2, ep, hck, hql, hqs⟩ := con_view P (by simpa using hb) kt
      have n1 : k ≠ .I := hck ▸ kd_n1 c
      have n2 : k ≠ .C := hck ▸ kd_n2 c
      obtain ⟨x, ws, d, vtk, Ws, IT, IX, HW, eV, hdk, hWl, hWs⟩ := val_view VA vt n1 n2
      have hfit : fits p V = (c == d && rowFits qs Ws) := by rw [ep, eV, fits_mk hql hWl]
      have hn1 : 1 ≤ n := by have : 1 ≤ psize p := psize_1 p; omega
      repeat walk_at "m"
      walk_at "kx"; refine' m_getattr F II rfl (patCls_ok (by decide)) (fine_con.a _ (by repeat constructor)) rfl ?_
      intro t₃
      repeat walk_at "m"
      walk_at "kx"; refine' t_item F IT (by decide) (by decide) rfl (by intro _; with_unfolding_all rfl) ?_
      repeat walk_at "m"
      rw [cn_beq]
      walk_at "kx"; refine ⟨fun hb => ?_, fun hb => ?_⟩
      · have hcd : c = d := eq_of_beq hb
        subst hcd
        repeat walk_at "m"
        walk_at "kx"; refine' m_getattr F II rfl (patCls_ok (by decide)) (fine_con.a _ (by repeat constructor)) Y.handed ?_
        intro t₄
        repeat walk_at "m"
        walk_at "kx"; refine' t_item F IT (by decide) (by decide) rfl (by intro _; with_unfolding_all rfl) ?_
        repeat walk_at "m"
        walk_at "kx"; refine ⟨F.k, ?_⟩
        walk_at "kx"; refine m_use (all_fit_spec (ih (n - 1) (by omega)) (R.dl (by omega)) (by omega) F.gd F.sub Y B2 IX HW ((hqs.join hWs).imp fun q W ⟨kd, ⟨a1, a2⟩, m', a3⟩ => ⟨kd, m', a1, a3, by omega⟩)) fun _ _ r1 g₁ h₂ t₂ G1 o1 => ?_
        walk_at "kx"; refine ret_ (F.call G1) ?_
        rw [hfit, beq_self_eq_true, Bool.true_and]; exact o1
      · walk_at "kx"; refine ret_ F ?_
        rw [hfit, hb]; rfl
    repeat walk_at "m"
    walk_at "kx"; refine' m_isiP F P (by decide) ?_; intro t₂
    repeat walk_at "m"
    walk_at "kx"; refine ⟨fun hb => ?_, fun hb5 => ?_⟩
    · obtain ⟨ta, tv, tx, ty, p1, p2, rfl, ep, ek, I, J, X, Y, k1, k2⟩ := fd_tup P kt hb
      · obtain ⟨x, ws, d, vtk, Ws, IT, IX, HW, eV, hdk, hWl, hWs⟩ := val_view VA vt (by rw [ek]; decide) (by rw [ek]; decide)
        have hd : d = .pr := kd_pr (hdk.trans ek)
        subst hd
        have hfit : fits p V = rowFits [p1, p2] Ws := by rw [ep, eV]; exact fit_tup hWl
        have hps : psize p1 + psize p2 + 2 ≤ n := by rw [ep] at hps; exact hps
        repeat walk_at "m"
        walk_at "kx"; refine' m_getattr F I rfl (patCls_ok (by decide)) (fine_tup.a _ (by repeat constructor)) J.handed ?_
        intro t₄
        repeat walk_at "m"
        walk_at "kx"; refine' t_item F IT (by decide) (by decide) rfl (by intro _; with_unfolding_all rfl) ?_
        repeat walk_at "m"
        walk_at "kx"; refine ⟨F.k, ?_⟩
        have hqs : All2 (fun q kd => KT kd q ∧ psize q + 1 ≤ n) [p1, p2] Cn.pr.kinds := .cons ⟨k1, by omega⟩ (.cons ⟨k2, by omega⟩ .nil)
        walk_at "kx"; refine m_use (all_fit_spec (ih (n - 1) (by omega)) (R.dl (by omega)) (by omega) F.gd F.sub J (.cons X (.cons Y .nil)) IX HW ((hqs.join hWs).imp fun q W ⟨kd, ⟨a1, a2⟩, m', a3⟩ => ⟨kd, m', a1, a3, by omega⟩)) fun _ _ r1 g₁ h₂ t₂ G1 o1 => ?_
        walk_at "kx"; refine ret_ (F.call G1) ?_
        rw [hfit]; exact o1
    have hrest := fd_rest kt hb1 hb2 hb4 hb5 fun e => let ⟨cs, _, _, _, e, _⟩ := hF e; ⟨cs, e⟩
    have hk : k = .L := hrest.1
    subst hk
    repeat ((fail_if_success (with_reducible show wpAny _ _ (eval (Expr.IfExp _ _ _ _) _) _ _ _)); walk_at "m")
    refine wpAny_mono (Q := PostG s [] w g h L g [("value", vv), ("pattern", pv)] [] fun v g' => ∃ vs ats, IsL g' v vs ∧ AtomsAt g' vs ats ∧ fits p V = fitList ats V ∧ 2 * ats.length + 2 ≤ n) ?_ (fun bz s' hz => ?_) (fun _ _ e => e)
    · walk_at "m"
      repeat walk_at "m"
      walk_at "kx"; refine' m_isiP F P (by decide) ?_; intro t₂
      repeat walk_at "m"
      walk_at "kx"; refine ⟨fun hb => ?_, fun hb6 => ?_⟩
      · obtain ⟨cs, a, kt', u, rfl, rfl, I⟩ := hF (by simpa using hb)
        have hps : 2 * cs.length + 3 ≤ n := hps
        repeat walk_at "m"
        walk_at "kx"; refine' m_getattr F I rfl (patCls_ok (by decide)) (fine_lit.a _ (by repeat constructor)) rfl ?_
        intro t₄
        walk_at "kx"; refine' it_str R.hh F ?_
        try clear F
        intro I o h₂ fp T F It T0 hfp
        walk_at "kx"; refine' comp_val (μm := []) (μr := []) It (by show cs.toArray.size ≤ _; simp; omega) F T0 hfp ?hcell ?hkind ?hx (fun i g' μ' ys => μ' = [] ∧ All2 (fun y c => PatAt g' y (.chr c)) ys (cs.take i)) ⟨rfl, .nil⟩ ?turn ?hJ ?done
        case hcell => decide
        case hkind => exact rfl
        case hx => exact rfl
        case hJ => intro i g' μ' ys h; rw [h.1]
        case turn =>
          try clear F
          intro C D i v g' h' t' μ' ys m o' hi hP up hJ hC F KT KN kt kn
          obtain ⟨rfl, A2⟩ := hJ
          obtain ⟨c, u', e2, rfl⟩ := hP
          have e2 : cs[i]? = some c := by
            have : cs.toArray[i]? = some c := e2
            simpa using this
          refine ifs_nil ⟨fun _ => ?_, fun e => Bool.noConfusion e⟩
          repeat walk_at "m"
          walk_at "kx"; refine ⟨F.k, ?_⟩
          walk_at "kx"; refine m_use (mk_lit (R.dl (by omega)) F.gd F.sub) fun _ _ r1 g₁ h₃ t₃ G1 o1 => ?_
          obtain ⟨a1, rfl, J1⟩ := o1
          walk_at "kx"; first | refine kt _ g₁ _ _ ([]) G1.up (F.call G1) ⟨rfl, ?_⟩ | refine kn g₁ _ _ ([]) G1.up (F.call G1) ⟨rfl, ?_⟩
          rw [take_snoc e2]
          exact (A2.imp fun _ _ z => z.mono G1.up).snoc (.chr J1)
        case done =>
          try clear F
          intro D g' h' t' μ' ys m up hJ hy hD F
          obtain ⟨rfl, A2⟩ := hJ
          have Fz := F.lay hD
          clear F
          obtain ⟨g₁, up1, IL, F⟩ := Fz
          rw [List.take_of_length_le (by show cs.length ≤ cs.toArray.size; simp)] at A2
          walk_at "kx"; refine .mk g₁ _ _ (fun a y e => up1 _ _ (up _ _ e)) F ⟨ys, cs.map .chr, IL, ⟨by rw [A2.length, List.length_map], fun i x o hx ho => ?_⟩, rfl, by rw [List.length_map]; omega⟩
          obtain ⟨c, hc, z⟩ := A2.get hx
          rw [List.getElem?_map, hc] at ho
          cases ho
          exact z.mono up1
      · obtain ⟨xs, rfl⟩ := hrest.2 hb6
        obtain ⟨la, ly, lvs, rfl, I, J, hl2, HX⟩ := fd_lst P
        repeat walk_at "m"
        walk_at "kx"; refine' m_getattr F I rfl (patCls_ok (by decide)) (fine_lst.a _ (by repeat constructor)) J.handed ?_
        intro t₄
        walk_at "kx"; exact .mk g _ _ (fun _ _ e => e) F ⟨_, xs, J, ⟨hl2, HX⟩, rfl, hps⟩
    cases hz with
    | mk g₁ h₄ t₄ up1 F hz =>
    obtain ⟨vs, ats, IL, HA, hfit, hsz⟩ := hz
    skip
    obtain ⟨x, ws, d, vtk, Ws, IT, IX, HW, eV, hdk, hWl, hWs⟩ := val_view (VA.mono up1) vt (by decide) (by decide)
    have hal := HA.1
    repeat walk_at "m"
    rename Fm _ _ _ _ _ _ _ _ _ => F
    walk_at "kx"; refine' m_newlist F (Nat.le_of_ble_eq_true rfl) ?_
    try clear F
    intro a h₅ F ha
    walk_at "kx"; refine' l_eqnil (R.dl (by omega)) (IL.list F) ⟨_, rfl, muL F⟩ ?_
    replace F := F.drop
    repeat walk_at "m"
    walk_at "kx"; refine ⟨fun hb => ?_, fun hb => ?_⟩
    · have e1 : vs = [] := by simpa using hb
      subst e1
      have e2 : ats = [] := List.eq_nil_of_length_eq_zero hal.symm
      subst e2
      walk_at "kx"; refine ⟨fun _ => ?_, fun e => Bool.noConfusion e⟩
      repeat walk_at "m"
      walk_at "kx"; refine' m_newlist F (Nat.le_of_ble_eq_true rfl) ?_
      try clear F
      intro a h₅ F ha
      walk_at "kx"; refine' l_eqnil (R.dl (by omega)) (IL.list F) ⟨_, rfl, muL F⟩ ?_
      replace F := F.drop
      repeat walk_at "m"
      walk_at "kx"; refine ⟨fun _ => ?_, fun e => Bool.noConfusion e⟩
      repeat walk_at "m"
      walk_at "kx"; refine' t_item F IT (by decide) (by decide) rfl (by intro _; with_unfolding_all rfl) ?_
      repeat walk_at "m"
      walk_at "kx"; refine ret_ F ?_
      rw [hfit, eV]
      exact congrArg Value.bool (fd_nilv hdk hWl)
    · cases vs with
      | nil => exact absurd hb (by decide)
      | cons v0 vr =>
      cases ats with
      | nil => exact absurd hal (by simp)
      | cons at0 ar =>
      repeat walk_at "m"
      walk_at "kx"; refine' t_item F IT (by decide) (by decide) rfl (by intro _; with_unfolding_all rfl) ?_
      repeat walk_at "m"
      walk_at "kx"; refine ⟨fun hb7 => ?_, fun hb7 => ?_⟩
      · have hd : d = .nil := fd_nil hb7
        subst hd
        repeat walk_at "m"
        walk_at "kx"; refine' m_newlist F (Nat.le_of_ble_eq_true rfl) ?_
        try clear F
        intro a h₅ F ha
        walk_at "kx"; refine' l_eqnil (R.dl (by omega)) (IL.list F) ⟨_, rfl, muL F⟩ ?_
        replace F := F.drop
        repeat walk_at "m"
        walk_at "kx"; refine ⟨fun e => Bool.noConfusion e, fun _ => ?_⟩
        walk_at "kx"; refine ret_ F ?_
        rw [hfit, eV]
        match Ws, hWl with | [], _ => rfl
      · have hd : d = .cons := fd_cons hb7 hdk
        subst hd
        match Ws, hWl with
        | [W0, W1], _ =>
        obtain ⟨w0, w1, rfl, q0, q1⟩ := HW.two
        obtain ⟨t0, t1⟩ := hWs.both
        obtain ⟨m0, t0⟩ := t0
        obtain ⟨m1, t1⟩ := t1
        skip
        have hsz : 2 * (ar.length + 1) + 2 ≤ n := hsz
        have hrl : vr.length = ar.length := by simpa using hal
        repeat walk_at "m"
        walk_at "kx"; refine' l_item F IL (by decide) (by decide) rfl (by intro _; with_unfolding_all rfl) ?_
        repeat walk_at "m"
        walk_at "kx"; refine' t_item F IT (by decide) (by decide) rfl (by intro _; with_unfolding_all rfl) ?_
        repeat walk_at "m"
        walk_at "kx"; refine' l_item F IX (by decide) (by decide) rfl (by intro _; with_unfolding_all rfl) ?_
        repeat walk_at "m"
        walk_at "kx"; refine ⟨F.k, ?_⟩
        have KA : KT .C (atomOf at0) := atom_kt at0
        have SA : psize (atomOf at0) = 1 := atom_size at0
        walk_at "kx"; refine m_use (ih 1 (by omega) _ s g₁ _ _ _ _ (atomOf at0) W0 .C m0 (R.dl (by omega)) F.gd F.sub (HA.2 0 v0 at0 rfl rfl) q0 KA t0 (by omega) (by omega)) fun _ _ r1 g₂ h₆ t₆ G1 o1 => ?_
        subst o1
        replace F := F.call G1
        repeat walk_at "m"
        have efit : fitList (at0 :: ar) (mkV .cons [W0, W1]) = (fits (atomOf at0) W0 && fitList ar W1) := by rw [fits_atom]; rfl
        skip
        walk_at "kx"; refine ⟨fun hb8 => ?_, fun hb8 => ?_⟩
        · repeat walk_at "m"
          walk_at "kx"; refine' m_slice (by intro _ _; rfl) ?_
          repeat walk_at "m"
          walk_at "kx"; refine' sl_end F (IL.mono G1.up) (by simp; omega) (.int _ _) .none ?_
          try clear F
          intro b h₇ F hb9
          rw [show ((1 : Int)) = ((1 : Nat) : Int) from rfl, pick_from] at F
          have Fz := F.lay hb9
          clear F
          obtain ⟨g₃, up3, IL3, F⟩ := Fz
          repeat walk_at "m"
          walk_at "kx"; refine ⟨F.k, ?_⟩
          walk_at "kx"; refine m_use (mk_lst (R.dl (by omega)) F.gd F.sub) fun _ _ r2 g₄ h₈ t₈ G2 o2 => ?_
          obtain ⟨a2, rfl, J2⟩ := o2
          replace F := F.call G2
          repeat walk_at "m"
          have up14 : Up g₁ g₄ := fun a o e => G2.up _ _ (up3 _ _ (G1.up _ _ e))
          walk_at "kx"; refine' t_item F (IT.mono up14) (by decide) (by decide) rfl (by intro _; with_unfolding_all rfl) ?_
          repeat walk_at "m"
          walk_at "kx"; refine' l_item F (IX.mono up14) (by decide) (by decide) rfl (by intro _; with_unfolding_all rfl) ?_
          repeat walk_at "m"
          walk_at "kx"; refine ⟨F.k, ?_⟩
          have PL : PatAt g₄ (.ref a2) (.lst ar) := .lst J2 (IL3.mono G2.up) (by simpa using hrl) fun i y z hy hz => ((HA.2 (i + 1) y z (by simpa using hy) (by simpa using hz)).mono up14)
          walk_at "kx"; refine m_use (ih (2 * ar.length + 2) (by omega) _ s g₄ _ _ _ _ (.lst ar) W1 .L m1 (R.dl (by omega)) F.gd F.sub PL (q1.mono up14) .lst t1 (Nat.le_refl _) (by omega)) fun _ _ r3 g₅ h₉ t₉ G3 o3 => ?_
          walk_at "kx"; refine ret_ (F.call G3) ?_
          rw [hfit, eV, efit, hb8, Bool.true_and]; exact o3
        · walk_at "kx"; refine ret_ F ?_
          rw [hfit, eV, efit, hb8]; rfl
/-! _law_values -/
noncomputable def Kd.name : Kd → Str
  | .T => "T" | .P => "P" | .L => "L" | .I => "I" | .C => "C"
noncomputable def Kd.code : Kd → Nat
  | .T => 84 | .P => 80 | .L => 76 | .I => 73 | .C => 67
def Kd.adr : Kd → Addr
  | .T => 494 | .P => 496 | _ => 499
noncomputable def Kd.tab : Kd → List Cn
  | .T => [.a, .b] | .P => [.pr] | .L => [.nil, .cons] | _ => []
def Cn.adr : Cn → Addr
  | .a => 492 | .b => 493 | .pr => 495 | .nil => 497 | .cons => 498
noncomputable def Cn.flds : Cn → Str
  | .a => "" | .b => "TI" | .pr => "TC" | .nil => "" | .cons => "CL"
noncomputable def Cn.tk1 : Cn → Nat
  | .a => 829 | .b => 831 | .pr => 834 | .nil => 837 | .cons => 839
noncomputable def Cn.tk2 : Cn → Nat
  | .a => 830 | .b => 832 | .pr => 835 | .nil => 838 | .cons => 840
theorem Kd.code_name (k : Kd) : strOf [k.code] = k.name := by induction k <;> decide
theorem Gd.kk {w : World} {g : Kn} {a : Addr} {o : Obj} (G : Gd w g) (e : (K0 w.params).lookup a = some o) : g a = some o := let ⟨hB, x, y⟩ := G; y _ _ (x.k _ _ e)
theorem tup_at {w : World} {g : Kn} (G : Gd w g) (c : Cn) : g c.adr = some { cls := .type "tuple", data := .seq #[.str c.name c.tk1, .str c.flds c.tk2] 0 } := by induction c <;> exact G.kk (by k_is)
theorem tab_at {w : World} {g : Kn} (G : Gd w g) {k : Kd} (h : k.tab ≠ []) : IsL g (.ref k.adr) (k.tab.map fun c => .ref c.adr) := by
  (revert h; generalize k = k; induction k <;> intro h <;> first | exact absurd rfl h | exact ⟨_, 0, rfl, G.kk (by k_is)⟩)
noncomputable def kiK : List (Str × Value) := [("T", .ref 494), ("P", .ref 496), ("L", .ref 499)]
theorem kinds_at {prog : Program} {w : World} {h : Heap} (K : (K0 w.params).In h) : h.DictOf (PySem.strKind prog w) 491 kiK := by
  refine ⟨_, _, _, K 491 _ (by k_is), ⟨rfl, rfl, rfl⟩, rfl, ?_, ?_, by decide⟩
  · intro e he
    simp only [List.mem_toArray, List.mem_cons, List.not_mem_nil, or_false] at he
    rcases he with rfl | rfl | rfl
    · exact ⟨"T", rfl, by kernel_rfl⟩
    · exact ⟨"P", rfl, by kernel_rfl⟩
    · exact ⟨"L", rfl, by kernel_rfl⟩
  · exact .cons rfl rfl (.cons rfl rfl (.cons rfl rfl .nil))
theorem kinds_val {k : Kd} (h : k.tab ≠ []) : valueAt kiK k.name = some (.ref k.adr) := by induction k <;> first | exact absurd rfl h | rfl
/-- values by a constructor -/
noncomputable def VTc (c : Cn) (n : Nat) (V : Val) : Prop := (c.ar = 0 ∧ V = .con0 c) ∨ (c.ar = 2 ∧ ∃ m x y k1 k2, n = m + 1 ∧ c.kinds = [k1, k2] ∧ V = .con2 c x y ∧ VT k1 m x ∧ VT k2 m y)
theorem vt_I {n m : Nat} {V : Val} (h : VT .I n V) : VT .I m V := by cases h with | int h => exact .int h
theorem vt_C {n m : Nat} {V : Val} (h : VT .C n V) : VT .C m V := by cases h with | chr h => exact .chr h
theorem vt_tab {k : Kd} (h : k.tab ≠ []) {n : Nat} {V : Val} : VT k n V ↔ ∃ c ∈ k.tab, VTc c n V := by
  constructor
  · intro v
    cases v with
    | int => exact absurd rfl h
    | chr => exact absurd rfl h
    | a => exact ⟨.a, .head _, .inl ⟨rfl, rfl⟩⟩
    | b x y => exact ⟨.b, .tail _ (.head _), .inr ⟨rfl, _, _, _, _, _, rfl, rfl, rfl, x, vt_I y⟩⟩
    | pr x y => exact ⟨.pr, .head _, .inr ⟨rfl, _, _, _, _, _, rfl, rfl, rfl, x, vt_C y⟩⟩
    | nil => exact ⟨.nil, .head _, .inl ⟨rfl, rfl⟩⟩
    | cons x y => exact ⟨.cons, .tail _ (.head _), .inr ⟨rfl, _, _, _, _, _, rfl, rfl, rfl, vt_C x, y⟩⟩
  · rintro ⟨c, hc, hv⟩
    cases k with
    | I => exact absurd rfl h
    | C => exact absurd rfl h
    | T =>
      simp only [Kd.tab, List.mem_cons, List.not_mem_nil, or_false] at hc
      rcases hc with rfl | rfl
      · rcases hv with ⟨_, rfl⟩ | ⟨e, _⟩
        · exact .a
        · cases e
      · rcases hv with ⟨e, _⟩ | ⟨_, m, x, y, k1, k2, rfl, e, rfl, vx, vy⟩
        · cases e
        · cases e; exact .b vx (vt_I vy)
    | P =>
      simp only [Kd.tab, List.mem_cons, List.not_mem_nil, or_false] at hc
      subst hc
      rcases hv with ⟨e, _⟩ | ⟨_, m, x, y, k1, k2, rfl, e, rfl, vx, vy⟩
      · cases e
      · cases e; exact .pr vx (vt_C vy)
    | L =>
      simp only [Kd.tab, List.mem_cons, List.not_mem_nil, or_false] at hc
      rcases hc with rfl | rfl
      · rcases hv with ⟨_, rfl⟩ | ⟨e, _⟩
        · exact .nil
        · cases e
      · rcases hv with ⟨e, _⟩ | ⟨_, m, x, y, k1, k2, rfl, e, rfl, vx, vy⟩
        · cases e
        · cases e; exact .cons (vt_C vx) vy
theorem flds_at {c : Cn} (h : c.ar = 2) : ∃ k1 k2 : Kd, c.kinds = [k1, k2] ∧ (seqIndex? 0 c.flds.length).bind (c.flds.cps[·]?) = some k1.code ∧ (seqIndex? 1 c.flds.length).bind (c.flds.cps[·]?) = some k2.code ∧ ((k1 = .C ∧ k2 = .L) ∨ (k1 = .T ∧ (k2 = .I ∨ k2 = .C))) ∧ (c.flds == ("" : Str)) = false := by
  cases c with
  | a => cases h
  | nil => cases h
  | b => exact ⟨.T, .I, rfl, by decide, by decide, .inr ⟨rfl, .inl rfl⟩, by decide⟩
  | pr => exact ⟨.T, .C, rfl, by decide, by decide, .inr ⟨rfl, .inr rfl⟩, by decide⟩
  | cons => exact ⟨.C, .L, rfl, by decide, by decide, .inl ⟨rfl, rfl⟩, by decide⟩
noncomputable def pairsOf (c : Cn) (A B : List Val) : List Val := A.flatMap fun a => B.map fun b => .con2 c a b
theorem pairs_len (c : Cn) (A B : List Val) : (pairsOf c A B).length = A.length * B.length := by
  unfold pairsOf
  induction A with
  | nil => simp
  | cons a r ih => rw [List.flatMap_cons, List.length_append, List.length_map, ih, List.length_cons]; rw [Nat.add_mul]; omega
theorem mem_pairs {c : Cn} {A B : List Val} {V : Val} : V ∈ pairsOf c A B ↔ ∃ a ∈ A, ∃ b ∈ B, V = .con2 c a b := by
  unfold pairsOf
  rw [List.mem_flatMap]
  constructor
  · rintro ⟨a, ha, hb⟩
    obtain ⟨b, hb', rfl⟩ := List.mem_map.mp hb
    exact ⟨a, ha, b, hb', rfl⟩
  · rintro ⟨a, ha, b, hb, rfl⟩
    exact ⟨a, ha, List.mem_map.mpr ⟨b, hb, rfl⟩⟩
noncomputable def ValsOk (prog : Program) (w : World) (n : Nat) : Prop := ∀ (A : Around) (s : Shared) (g : Kn) (h : Heap) (t : Nat) (k : Kd) (tk td : Tok), Room A (20 + 4 * n) → Gd w g → (Sub g h) →
  wpAny (model prog w) A (call (.ref 531) [.str k.name tk, .int (n : Nat) td]) (Ret [] g s h (fun g' _ r => ∃ vs Vs, IsL g' r vs ∧ All2 (ValAt g') vs Vs ∧ (∀ V, V ∈ Vs ↔ VT k n V) ∧ Vs.length ≤ 8 ^ (n + 1) ∧ (k = .I ∨ k = .C → Vs.length = 3))) NoE (St s h t)
inductive VJ (h : Heap) (L : Addr) (n : Nat) (k : Kd) (tk td : Tok) (i : Nat) (g' : Kn) (l' : List (Str × Value)) : List (Addr × Obj) → Prop
  | mk (D : Addr) (ys : List Value) (m : Nat) (o1 o2 : Obj) (v1 v2 : Option Value) (Vs : List Val) (d1 : o1.data = .cell v1) (d2 : o2.data = .cell v2) (hD : h.objs.size ≤ D) (HV : All2 (ValAt g') ys Vs)
    (hmem : ∀ V, V ∈ Vs ↔ ∃ c ∈ k.tab.take i, VTc c n V) (hlen : Vs.length ≤ i * (3 * 8 ^ n))
    (hl : l' = ([("found", .ref D), ("deep", .int (n : Nat) td), ("kind", .str k.name tk)] : List (Str × Value)) ∨ (∃ u, l' = ([("fields", u), ("found", .ref D), ("deep", .int (n : Nat) td), ("kind", .str k.name tk)] : List (Str × Value))) ∨
        (i = k.tab.length ∧ ∃ u v x, l' = ([("found", .ref D), ("firsts", u), ("fields", v), ("found", x), ("deep", .int (n : Nat) td), ("kind", .str k.name tk)] : List (Str × Value)))) :
    VJ h L n k tk td i g' l' [(D, listO ys m), (L + 1 + 1, o2), (L + 1, o1)]
inductive VK (μ0 : List (Addr × Obj)) (c : Cn) (W1 W2 : List Val) (n1 i j : Nat) (g' : Kn) (zs : List Value) (ws2 : List Value) : Nat → (Nat → Value → Prop) → List (Addr × Obj) → Prop
  | mk (a : Val) (hi : i < n1) (ea : W1[i]? = some a) (HZ : All2 (ValAt g') zs (pairsOf c (W1.take i) W2 ++ (W2.take j).map fun b => .con2 c a b)) : VK μ0 c W1 W2 n1 i j g' zs ws2 ws2.length (fun j x => ws2[j]? = some x) μ0
theorem vals_spec {prog : Program} {w : World} : ∀ n, n ≤ 5 → ValsOk prog w n := by
  intro n
  induction n using Nat.strongRecOn with
  | _ n ih =>
    intro hn5 A s g h t k tk td R gd sub
    refine' m_enterX (μ := []) [("deep", .int (n : Nat) td), ("kind", .str k.name tk)] [] gd sub (by simp) (by simp) ?ho ?hcd ?hroom ?hbind ?hkind ?hl ?hcs ?hco ?hgen ?hk ?hb
    case ho => k_is
    case hcd => k_is
    case hroom => have hR := R.d; omega
    case hbind => exact rfl
    case hkind => exact rfl
    case hl => exact rfl
    case hcs => exact rfl
    case hco => exact rfl
    case hgen => exact rfl
    case hk => exact rfl
    try clear F
    intro L h₁ t₁ F hc hg
    refine' hideF ?_
    intro _ _
    have c1 := hc "con" (L + 1) rfl
    have c2 := hc "seconds" (L + 1 + 1) rfl
    have Fz := F.addcell c1 (Nat.lt_succ_self _) (hg _ (Nat.lt_succ_self _)).1 (by simp)
    clear F
    obtain ⟨o1, d1, F⟩ := Fz
    have Fz := F.addcell c2 (Nat.lt_succ_of_lt (Nat.lt_succ_self _)) (hg _ (Nat.lt_succ_of_lt (Nat.lt_succ_self _))).1 (by simp)
    clear F
    obtain ⟨o2, d2, F⟩ := Fz
    repeat walk_at "m"
    have p8 : 8 ≤ 8 ^ (n + 1) := by rw [Nat.pow_succ]; have : 0 < 8 ^ n := Nat.pow_pos (by decide); omega
    walk_at "kx"; refine ⟨fun hb => ?_, fun hb => ?_⟩
    · have hk : k = .I := by (revert hb; generalize k = k; induction k <;> intro hb <;> first | rfl | exact absurd hb (by decide))
      subst hk
      repeat walk_at "m"
      walk_at "kx"; refine' m_newlist F (Nat.le_of_ble_eq_true rfl) ?_
      try clear F
      intro a h₂ F ha
      have Fz := F.lay ha
      clear F
      obtain ⟨g₁, up1, IL, F⟩ := Fz
      walk_at "kx"; refine ret_ F ⟨_, [.int 0, .int 1, .int 2], IL, .cons .int (.cons .int (.cons .int .nil)), fun V => ?_, by simp; omega, fun _ => rfl⟩
      constructor
      · intro hV
        simp only [List.mem_cons, List.not_mem_nil, or_false] at hV
        rcases hV with rfl | rfl | rfl <;> exact .int (by omega)
      · intro hV
        cases hV with
        | int h => rcases h with rfl | rfl | rfl <;> simp
    repeat walk_at "m"
    walk_at "kx"; refine ⟨fun hb => ?_, fun hb2 => ?_⟩
    · have hk : k = .C := by (revert hb; generalize k = k; induction k <;> intro hb <;> first | rfl | exact absurd hb (by decide))
      subst hk
      repeat walk_at "m"
      walk_at "kx"; refine' m_newlist F (Nat.le_of_ble_eq_true rfl) ?_
      try clear F
      intro a h₂ F ha
      have Fz := F.lay ha
      clear F
      obtain ⟨g₁, up1, IL, F⟩ := Fz
      walk_at "kx"; refine ret_ F ⟨_, [.chr 97, .chr 98, .chr 99], IL, .cons .chr (.cons .chr (.cons .chr .nil)), fun V => ?_, by simp; omega, fun _ => rfl⟩
      constructor
      · intro hV
        simp only [List.mem_cons, List.not_mem_nil, or_false] at hV
        rcases hV with rfl | rfl | rfl <;> exact .chr (by omega)
      · intro hV
        cases hV with
        | chr h => rcases h with rfl | rfl | rfl <;> simp
    have hkt : k.tab ≠ [] := by (revert hb hb2; generalize k = k; induction k <;> intro hb hb2 <;> first | (intro q; cases q; done) | exact absurd hb (by decide) | exact absurd hb2 (by decide))
    repeat walk_at "m"
    walk_at "kx"; refine' m_newlist F (Nat.le_of_ble_eq_true rfl) ?_
    try clear F
    intro D h₂ F hD
    repeat walk_at "m"
    rename Fm _ _ _ _ _ _ _ _ _ => F
    walk_at "kx"; refine' d_item (kinds_at (prog := prog) F.k) (k := k.name) (by simp [PySem.strKind, Value.isStrOf]) (kinds_val hkt) (by intro _; with_unfolding_all rfl) ?_
    intro t₃
    have htab : ∀ (j : Nat) (c : Cn), k.tab[j]? = some c → c.ar = 2 → j + 1 = k.tab.length := by
      intro j c e h2
      cases k with
      | T => match j, e with
        | 0, e => cases e; cases h2
        | 1, e => rfl
        | j + 2, e => cases e
      | P => match j, e with
        | 0, e => rfl
        | j + 1, e => cases e
      | L => match j, e with
        | 0, e => cases e; cases h2
        | 1, e => rfl
        | j + 2, e => cases e
      | I => cases e
      | C => cases e
    have hl2 : k.tab.length ≤ 2 := by (generalize k = k; induction k <;> decide)
    walk_at "kx"; refine' it_pairs (fun j => match k.tab[j]? with | some c => c.adr | none => 0) (fun j => match k.tab[j]? with | some c => .str c.name c.tk1 | none => .none) (fun j => match k.tab[j]? with | some c => .str c.flds c.tk2 | none => .none) R.hh F (tab_at F.gd hkt) ?hH ?_
    case hH =>
      intro j hj
      rw [List.length_map] at hj
      have ej : k.tab[j]? = some k.tab[j] := List.getElem?_eq_getElem hj
      rw [List.getElem?_map, ej]
      exact ⟨rfl, 0, tup_at F.gd _⟩
    try clear F
    intro I o h₄ fp T F It T0 hfp
    rw [List.length_map] at It
    have base0 : True := trivial
    walk_at "kx"; refine' for_run2 It R.hh (is := [(I, o)]) rfl F T0 hfp (VJ h L n k tk td)
      (.mk D [] 0 o1 o2 _ _ [] d1 d2 hD .nil (fun V => by simp) (by simp) (.inl rfl)) ?turn ?done
    case turn =>
      try clear F
      intro i a b g' h' t' l' μ' is' hi hP up hJ F Kp kn kr
      cases hJ with
      | mk D ys m o1 o2 v1 v2 Vs d1 d2 hD HV hmem hlen hl' =>
      have ei : k.tab[i]? = some k.tab[i] := List.getElem?_eq_getElem hi
      generalize hc0 : k.tab[i] = c at ei
      obtain ⟨rfl, rfl⟩ := hP
      rw [ei]
      replace F : Fm _ _ _ _ _ _ _ _ ((D, listO ys m) :: (L + 1 + 1, o2) :: (L + 1, o1) :: is') := F.comm
      have hyl := HV.length
      have small : Vs.length ≤ 2 ^ 18 := by
        have : 8 ^ n ≤ 8 ^ 5 := Nat.pow_le_pow_right (by decide) hn5
        have h1 : i * (3 * 8 ^ n) ≤ 2 * (3 * 8 ^ 5) := Nat.mul_le_mul (by omega) (by omega)
        have : (2 * (3 * 8 ^ 5) : Nat) ≤ 2 ^ 18 := by decide
        omega
      walk_at "kx"; refine' m_storeC F.third d1 rfl rfl rfl ?_
      try clear F
      intro h₅ o₅ d₅ F
      repeat walk_at "m"
      rename Fm _ _ _ _ _ _ _ _ _ => F
      replace F : Fm _ _ _ _ _ _ _ (([("fields", .str c.flds c.tk2), ("found", .ref D), ("deep", .int (n : Nat) td), ("kind", .str k.name tk)] : List (Str × Value))) ((D, listO ys m) :: (L + 1 + 1, o2) :: (L + 1, o₅) :: is') := F.third'.relook fun y => by
        rcases hl' with rfl | ⟨u, rfl⟩ | ⟨e, _⟩
        · rfl
        · exact lk_shadow y
        · exact absurd hi (by omega)
      have hmem' : ∀ (V : Val), (∃ c' ∈ k.tab.take (i + 1), VTc c' n V) ↔ (V ∈ Vs ∨ VTc c n V) := by
        intro V
        rw [take_snoc ei]
        constructor
        · rintro ⟨c', hc', hv⟩
          rcases List.mem_append.mp hc' with q | q
          · exact .inl ((hmem V).mpr ⟨c', q, hv⟩)
          · rw [List.mem_singleton.mp q] at hv; exact .inr hv
        · rintro (hv | hv)
          · obtain ⟨c', q, hv⟩ := (hmem V).mp hv
            exact ⟨c', List.mem_append.mpr (.inl q), hv⟩
          · exact ⟨c, List.mem_append.mpr (.inr (.head _)), hv⟩
      have hmu : ∀ {x y z : Addr × Obj} {r : List (Addr × Obj)}, z ∈ x :: y :: z :: r := .tail _ (.tail _ (.head _))
      walk_at "kx"; refine ⟨fun hb => ?_, fun hb => ?_⟩
      · have hc0 : c.ar = 0 := by (revert hb; generalize c = c; induction c <;> intro hb <;> first | rfl | exact absurd hb (by decide))
        repeat walk_at "m"
        walk_at "kx"; refine' l_appendM F ?_
        refine ⟨_, rfl, ?_⟩
        repeat walk_at "m"
        walk_at "kx"; refine' m_cellM F hmu d₅ rfl rfl rfl rfl ?_
        repeat walk_at "m"
        walk_at "kx"; refine' m_newlist F (Nat.le_of_ble_eq_true rfl) ?_
        try clear F
        intro a1 h₆ F ha1
        have Fz := F.lay ha1
        clear F
        obtain ⟨g₁, up1, IL1, F⟩ := Fz
        repeat walk_at "m"
        walk_at "kx"; refine' m_newtuple F (Nat.le_of_ble_eq_true rfl) ?_
        try clear F
        intro a2 h₇ F ha2
        have Fz := F.layT ha2
        clear F
        obtain ⟨g₂, up2, IT2, F⟩ := Fz
        repeat walk_at "m"
        walk_at "kx"; refine' l_append F (by omega) ?_
        try clear F
        intro h₈ F
        repeat walk_at "m"
        walk_at "kx"; refine kn g₂ _ _ _ _ (fun a y e => up2 _ _ (up1 _ _ e)) (F.comm (xs := [_, _, _])) (.mk D _ _ _ _ _ _ (Vs ++ [.con0 c]) d₅ d2 hD ?_ (fun V => ?_) ?_ (.inr (.inl ⟨_, rfl⟩)))
        · exact (HV.imp fun _ _ z => (z.mono up1).mono up2).snoc (.con0 IT2 (IL1.mono up2))
        · rw [hmem' V, List.mem_append, List.mem_singleton]
          constructor
          · rintro (q | q)
            · exact .inl q
            · exact .inr (.inl ⟨hc0, q⟩)
          · rintro (q | ⟨_, q⟩ | ⟨q, _⟩)
            · exact .inl q
            · exact .inr q
            · rw [hc0] at q; cases q
        · rw [List.length_append, Nat.add_mul]
          have : 0 < 8 ^ n := Nat.pow_pos (by decide)
          simp; omega
      · have hc2 : c.ar = 2 := by (revert hb; generalize c = c; induction c <;> intro hb <;> first | rfl | exact absurd hb (by decide))
        obtain ⟨k1, k2, ek, f0, f1, hkk, _⟩ := flds_at hc2
        have hlast := htab i c ei hc2
        repeat walk_at "m"
        walk_at "kx"; refine ⟨fun hb2 => ?_, fun hb2 => ?_⟩
        · obtain ⟨m', rfl⟩ : ∃ m', n = m' + 1 := ⟨n - 1, by have := of_decide_eq_true hb2; omega⟩
          have em : (((m' + 1 : Nat) : Int) - 1) = ((m' : Nat) : Int) := by omega
          repeat walk_at "m"
          walk_at "kx"; refine' s_item (by decide) (by decide) f0 (by with_unfolding_all rfl) ?_
          intro _ _
          rw [Kd.code_name]
          repeat walk_at "m"
          rw [em]
          walk_at "kx"; refine ⟨F.k, ?_⟩
          walk_at "kx"; refine m_use (ih m' (by omega) (by omega) _ s g' _ _ k1 _ _ (R.dl (by omega)) F.gd F.sub) fun _ _ r1 g₁ h₆ t₆ G1 o1 => ?_
          obtain ⟨ws1, W1, IL1, HW1, hm1, hlen1, h31⟩ := o1
          replace F := F.call G1
          repeat walk_at "m"
          walk_at "kx"; refine' s_item (by decide) (by decide) f1 (by with_unfolding_all rfl) ?_
          intro _ _
          rw [Kd.code_name]
          repeat walk_at "m"
          rw [em]
          walk_at "kx"; refine ⟨F.k, ?_⟩
          walk_at "kx"; refine m_use (ih m' (by omega) (by omega) _ s g₁ _ _ k2 _ _ (R.dl (by omega)) F.gd F.sub) fun _ _ r2 g₂ h₇ t₇ G2 o2' => ?_
          obtain ⟨ws2, W2, IL2, HW2, hm2, hlen2, h32⟩ := o2'
          replace F := F.call G2
          replace HW1 := HW1.imp fun _ _ z => ValAt.mono z G2.up
          replace IL1 := IL1.mono G2.up
          have hwl1 := HW1.length
          have hwl2 := HW2.length
          have hprod : W1.length * W2.length ≤ 3 * 8 ^ (m' + 1) := by
            rcases hkk with ⟨rfl, rfl⟩ | ⟨rfl, rfl | rfl⟩
            · rw [h31 (.inr rfl)]; exact Nat.mul_le_mul (Nat.le_refl _) hlen2
            · rw [h32 (.inl rfl), Nat.mul_comm]; exact Nat.mul_le_mul (Nat.le_refl _) hlen1
            · rw [h32 (.inr rfl), Nat.mul_comm]; exact Nat.mul_le_mul (Nat.le_refl _) hlen1
          have hp18 : 3 * 8 ^ (m' + 1) ≤ 2 ^ 18 := by
            have : 8 ^ (m' + 1) ≤ 8 ^ 5 := Nat.pow_le_pow_right (by decide) hn5
            have : (3 * 8 ^ 5 : Nat) ≤ 2 ^ 18 := by decide
            omega
          repeat walk_at "m"
          walk_at "kx"; refine' m_newtuple F (Nat.le_of_ble_eq_true rfl) ?_
          try clear F
          intro a4 h₈ F ha4
          walk_at "kx"; refine' as_two R.hh F ⟨_, rfl, ⟨_, (F.mu _ (.head _)).1, rfl, _, rfl⟩⟩ ?_
          try clear F
          intro h₉ F
          replace F := F.drop
          walk_at "m"
          rename Fm _ _ _ _ _ _ _ _ _ => F
          walk_at "kx"; refine' m_storeC F.swap d2 rfl rfl rfl ?_
          try clear F
          intro h₁₀ o₁₀ d₁₀ F
          replace F := F.swap
          repeat walk_at "m"
          walk_at "kx"; refine' it_list R.hh F IL1 ?_
          try clear F
          intro I2 oI h₁₁ fp2 T2 F It2 T20 hfp2
          replace F : Fm _ _ _ _ _ _ _ _ ([(I2, oI), (L + 1 + 1, o₁₀), (L + 1, o₅)] ++ ((D, listO ys m) :: is')) := F.perm (.cons _ (List.perm_middle (l₁ := [_, _])).symm)
          walk_at "kx"; refine' gen_val F (fun h₁ old t' E' Q' q => It2.W.self 0 _ _ _ (It2.W.frame 0 _ _ T20 fun b _ y e => old b y e) q) ?hcell ?hkind (fun g' μ' zs => μ' = [(L + 1 + 1, o₁₀), (L + 1, o₅)] ∧ All2 (ValAt g') zs (pairsOf c W1 W2)) ?run ?done2
          case hcell => decide
          case hkind => exact rfl
          case run =>
            intro C D' h₁' t₁' hC old FI
            walk_at "kx"; refine' comp_nest It2 FI (It2.W.frame 0 _ _ T20 fun b _ y e => old b y e) hfp2 (lookup_relabel_local rfl) (lookup_relabel_local rfl) (by decide) rfl rfl (fun _ => rfl)
              (fun i g' μ' zs => μ' = [(L + 1 + 1, o₁₀), (L + 1, o₅)] ∧ All2 (ValAt g') zs (pairsOf c (W1.take i) W2))
              (fun i v n2 P2 j g' μ' zs => VK [(L + 1 + 1, o₁₀), (L + 1, o₅)] c W1 W2 ws1.length i j g' zs ws2 n2 P2 μ')
              ⟨rfl, .nil⟩ ?src ?el ?close ?small ?fin
            case src =>
              try clear F
              intro i v g' h' t' l' μ' zs m o' hi hP up hJ F KI ki
              obtain ⟨rfl, HZ⟩ := hJ
              walk_at "kx"; refine' m_cellM F (.tail _ (.tail _ (.head _))) d₁₀ rfl rfl rfl rfl ?_
              walk_at "kx"; refine' it_list R.hh F (IL2.mono up) ?_
              try clear F
              intro I3 o3 h₃ fp3 T3 F It3 T30 hfp3
              obtain ⟨a, ea, _⟩ := HW1.get hP
              exact ki I3 o3 fp3 _ _ T3 g' _ _ _ (fun _ _ e => e) It3 T30 hfp3 F (.mk a hi ea (by simpa using HZ))
            case el =>
              try clear F
              intro i v n2 P2 j u g' h' t' μ' zs m o' I3 o3 hi hP hj hP2 up hK F KT kt
              cases hK with
              | mk a _ ea HZ =>
              obtain ⟨a', ea', VA⟩ := HW1.get hP
              rw [ea] at ea'; cases ea'
              obtain ⟨b, eb, VB⟩ := HW2.get hP2
              repeat walk_at "m"
              walk_at "kx"; refine' m_cellM F (.tail _ (.tail _ (.tail _ (.tail _ (.head _))))) d₅ rfl rfl rfl rfl ?_
              repeat walk_at "m"
              walk_at "kx"; refine' m_newlist F (Nat.le_of_ble_eq_true rfl) ?_
              try clear F
              intro a1 h₆ F ha1
              have Fz := F.lay ha1
              clear F
              obtain ⟨g₁, up1, IL1, F⟩ := Fz
              repeat walk_at "m"
              walk_at "kx"; refine' m_newtuple F (Nat.le_of_ble_eq_true rfl) ?_
              try clear F
              intro a2 h₇ F ha2
              have Fz := F.layT ha2
              clear F
              obtain ⟨g₂, up2, IT2, F⟩ := Fz
              walk_at "kx"; refine kt _ g₂ _ _ _ (fun a y e => up2 _ _ (up1 _ _ e)) F (.mk a hi ea ?_)
              rw [map_snoc eb, ← List.append_assoc]
              exact (HZ.imp fun _ _ z => (z.mono up1).mono up2).snoc (.con2 IT2 (IL1.mono up2) (((VA.mono up).mono up1).mono up2) (((VB.mono up).mono up1).mono up2))
            case close =>
              intro i v n2 P2 g' μ' zs hi hK
              cases hK with
              | mk a _ ea HZ =>
              refine ⟨rfl, ?_⟩
              unfold pairsOf at HZ ⊢
              rw [flatMap_snoc ea]
              rw [show W2.take ws2.length = W2 from List.take_of_length_le (by omega)] at HZ
              exact HZ
            case small =>
              intro i v n2 P2 j g' μ' zs hK
              cases hK with
              | mk a hi ea HZ =>
              have e := HZ.length
              rw [List.length_append, pairs_len, List.length_map, List.length_take, List.length_take] at e
              have h1 : min i W1.length * W2.length + W2.length ≤ W1.length * W2.length := by
                have : (min i W1.length + 1) * W2.length ≤ W1.length * W2.length := Nat.mul_le_mul (by omega) (Nat.le_refl _)
                rw [Nat.add_mul] at this; omega
              omega
            case fin =>
              try clear F
              intro g' h' t' l' μ' zs m up hJ F
              obtain ⟨rfl, HZ⟩ := hJ
              rw [List.take_of_length_le (by omega)] at HZ
              exact ⟨rfl, g', h', t', l', _, zs, m, rfl, up, F, fun p hp => by
                simp only [List.map_cons, List.map_nil]
                simp only [List.mem_cons, List.not_mem_nil, or_false] at hp
                rcases hp with rfl | rfl <;> simp, rfl, HZ⟩
          case done2 =>
            try clear F
            intro D2 g₃ h₁₂ t₁₂ μ' zs m2 up3 hfin hD2 F
            obtain ⟨rfl, HZ⟩ := hfin
            have hzl := HZ.length
            rw [pairs_len] at hzl
            replace F : Fm _ _ _ _ _ _ _ _ ((D, listO ys m) :: (D2, listO zs m2) :: (L + 1 + 1, o₁₀) :: (L + 1, o₅) :: is') := F.perm (List.perm_middle (l₁ := [_, _, _]))
            walk_at "kx"; refine' l_add F ⟨_, rfl, muL F⟩ ⟨_, rfl, muL F.swap⟩ (by omega) ?_
            try clear F
            intro D3 h₁₃ F hD3
            repeat walk_at "m"
            rename Fm _ _ _ _ _ _ _ _ _ => F
            replace F : Fm _ _ _ _ _ _ _ _ ((D3, listO (ys ++ zs) 0) :: (L + 1 + 1, o₁₀) :: (L + 1, o₅) :: is') := F.swap.drop.swap.drop
            walk_at "kx"; refine kn g₃ _ _ _ _ (fun a y e => up3 _ _ (G2.up _ _ (G1.up _ _ e))) (F.comm (xs := [_, _, _])) (.mk D3 _ _ _ _ _ _ (Vs ++ pairsOf c W1 W2) d₅ d₁₀ hD3 ?_ (fun V => ?_) ?_ (.inr (.inr ⟨hlast, _, _, _, rfl⟩)))
            · exact All2.append (HV.imp fun _ _ z => ((z.mono G1.up).mono G2.up).mono up3) HZ
            · rw [hmem' V, List.mem_append, mem_pairs]
              constructor
              · rintro (q | ⟨a, ha, b, hb, rfl⟩)
                · exact .inl q
                · exact .inr (.inr ⟨hc2, m', a, b, k1, k2, rfl, ek, rfl, (hm1 a).mp ha, (hm2 b).mp hb⟩)
              · rintro (q | ⟨q, _⟩ | ⟨_, m'', a, b, k1', k2', e1, e2, rfl, va, vb⟩)
                · exact .inl q
                · rw [hc2] at q; cases q
                · cases e1
                  rw [ek] at e2; cases e2
                  exact .inr ⟨a, (hm1 a).mpr va, b, (hm2 b).mpr vb, rfl⟩
            · rw [List.length_append, pairs_len, Nat.add_mul]; omega
        · have hn0 : n = 0 := by have := of_decide_eq_false hb2; omega
          repeat walk_at "m"
          walk_at "kx"; refine kn g' _ _ _ _ (fun a y e => e) (F.comm (xs := [_, _, _])) (.mk D _ _ _ _ _ _ Vs d₅ d2 hD HV (fun V => ?_) ?_ (.inr (.inl ⟨_, rfl⟩)))
          · rw [hmem' V]
            constructor
            · exact .inl
            · rintro (q | ⟨q, _⟩ | ⟨_, m', _, _, _, _, q, _⟩)
              · exact q
              · rw [hc2] at q; cases q
              · rw [hn0] at q; cases q
          · rw [Nat.add_mul]; omega
    case done =>
      try clear F
      intro g' h' t' l' μ' up hJ F
      cases hJ with
      | mk D ys m o1 o2 v1 v2 Vs d1 d2 hD HV hmem hlen hl' =>
      rw [List.take_of_length_le (Nat.le_refl _)] at hmem
      have fin : ∀ V, V ∈ Vs ↔ VT k n V := fun V => (hmem V).trans (vt_tab hkt).symm
      have hB : Vs.length ≤ 8 ^ (n + 1) := by
        rw [Nat.pow_succ]
        have h1 : k.tab.length * (3 * 8 ^ n) ≤ 2 * (3 * 8 ^ n) := Nat.mul_le_mul (by omega) (Nat.le_refl _)
        omega
      have hIC : k = .I ∨ k = .C → Vs.length = 3 := by rintro (rfl | rfl) <;> exact absurd rfl hkt
      rcases hl' with rfl | ⟨u, rfl⟩ | ⟨_, u, v, x, rfl⟩
      all_goals
        repeat walk_at "m"
        have Fz := F.lay hD
        clear F
        obtain ⟨g₁, up1, IL, F⟩ := Fz
        walk_at "kx"; exact ret_ F ⟨_, Vs, IL, HV.imp fun _ _ z => z.mono up1, fin, hB, hIC⟩
/-! a slice of a list just written -/
section
variable {prog : Program} {w : World} {A : Around} {E : Value → Shared → Prop} {s sh : Shared} {env : Env}
theorem m_sliceT {value : Expr} {lower upper : Option Expr} {p pos : Pos} {Q : Value → Shared → Prop}
    (hv : wpAny (model prog w) A (eval value env) (fun o s₁ => wpAny (model prog w) A (evalPart lower env) (fun vl s₂ => wpAny (model prog w) A (evalPart upper env) (fun vu s₃ => SlGoal o vl vu Q s₃) E s₂) E s₁) E sh) :
    wpAny (model prog w) A (eval (.Subscript value (.Slice lower upper none p) pos) env) Q E sh := by
  have h : wpAny (model prog w) A (eval value env) (fun o s₁ => wpAny (model prog w) A (eval (.Slice lower upper none p) env) (fun i s₂ => s₂.TypeIs o "list" ∧ wpAny (model prog w) A (getItem o i) Q E s₂) E s₁) E sh := by
    refine wpAny_mono hv (fun o s₁ h₁ => wpAny_Slice (wpAny_mono h₁ (fun vl s₂ h₂ => wpAny_mono h₂ (fun vu s₃ h₃ => ?_) fun _ _ e => e) fun _ _ e => e)) fun _ _ e => e
    obtain ⟨l, items, lo, hi, rfl, hl, hsz, pl, pu, hQ⟩ := h₃
    rw [evalPart_none]
    refine wpAny_pure ⟨(hl.push _).typeIs, wpAny_getItem_list_slice (hl.push _) (Heap.IsSliceOf.new ..) pl pu .none (by simp) ?_ hsz⟩
    rw [Heap.size_push]
    exact hQ
  rw [eval_Subscript]
  refine wpAny_bind (wpAny_mono h (fun o s₁ h₁ => wpAny_bind (wpAny_holding (wpAny_mono h₁ (fun i s₂ h₂ => wpAny_bind (wpAny_standAt ?_)) fun _ _ x => x)))
    fun _ _ x => x)
  have fin : wpAny (model prog w) A (operate [i, o] (getItem o i)) (fun r s₃ => wpAny (model prog w) A (letTemporaryGo value o r >>= fun _ => pure r) Q E s₃) E s₂ :=
    wpAny_operating (wpAny_mono h₂.2 (fun r s₃ h₃ => wpAny_bind (wpAny_letTemporaryGo (wpAny_pure h₃))) fun _ _ x => x)
  first
    | (refine wpAny_bind ?_
       rw [getitemInPython_of_ne h₂.1.not_modules]
       refine wpAny_bind (wpAny_specialOf h₂.1 list_getitem_lookup ?_)
       first
         | exact wpAny_pure (wpAny_bind fin)
         | exact wpAny_bind (wpAny_pure (wpAny_bind fin))
         | exact wpAny_bind fin)
    | (refine wpAny_bind (wpAny_specialOf h₂.1 list_getitem_lookup ?_)
       first
         | exact wpAny_pure (wpAny_bind fin)
         | exact wpAny_bind (wpAny_pure (wpAny_bind fin))
         | exact wpAny_bind fin)
end
/-! _law_pattern -/
noncomputable def depOf (k : Kd) (deep room : Nat) : Nat := match k with
  | .T => deep | .P => max 1 deep | .L => room | _ => 0
theorem depOf_le (k : Kd) (d room : Nat) : depOf k d room ≤ depOf k (d + 1) room := by cases k <;> first | exact Nat.le_refl _ | exact Nat.le_succ d | (show max 1 d ≤ max 1 (d + 1); omega)
noncomputable def psB (k : Kd) (deep : Nat) : Nat := if deep = 0 then (if k = .P then 4 else 1) else 10 * 4 ^ deep
theorem WT.up {k : Kd} {d : Nat} {p : Pat} (h : WT k d p) : ∀ {e : Nat}, d ≤ e → WT k e p := by
  induction h with
  | wild => intro e _; exact .wild
  | pvar => intro e _; exact .pvar
  | plazy => intro e _; exact .plazy
  | as _ ih => intro e h; exact .as (ih h)
  | bang _ ih => intro e h; exact .bang (ih h)
  | int h => intro e _; exact .int h
  | chr h => intro e _; exact .chr h
  | a => intro e _; exact .a
  | b _ y i _ => intro e h; obtain ⟨f, rfl⟩ : ∃ f, e = f + 1 := ⟨e - 1, by omega⟩; exact .b (i (by omega)) y
  | pr _ y i _ => intro e h; obtain ⟨f, rfl⟩ : ∃ f, e = f + 1 := ⟨e - 1, by omega⟩; exact .pr (i (by omega)) y
  | tup _ y i _ => intro e h; obtain ⟨f, rfl⟩ : ∃ f, e = f + 1 := ⟨e - 1, by omega⟩; exact .tup (i (by omega)) y
  | nil => intro e _; exact .nil
  | cons x _ _ j => intro e h; obtain ⟨f, rfl⟩ : ∃ f, e = f + 1 := ⟨e - 1, by omega⟩; exact .cons x (j (by omega))
  | lst h a => intro e h2; exact .lst (Nat.le_trans h h2) a
  | text h a => intro e h2; exact .text (Nat.le_trans h h2) a
noncomputable def PatOut (S : Addr) (k : Kd) (deep room : Nat) (g : Kn) (h : Heap) (r : Value) : Prop := (∃ o, h.get? S = some o ∧ SrcO o) ∧ ∃ p, PatAt g r p ∧ WT k (depOf k deep room) p ∧ psize p ≤ psB k deep
noncomputable def PattOk (prog : Program) (w : World) (n : Nat) : Prop := ∀ (A : Around) (s : Shared) (g : Kn) (h : Heap) (t : Nat) (S : Addr) (k : Kd) (deep room : Nat) (tk td tr : Tok), Room A (20 + 4 * n) → Gd w g → (Sub g h) → SrcAt g h S →
  deep ≤ 5 → room ≤ 5 → 2 * deep + (if k = .P then 1 else 0) ≤ n →
  wpAny (model prog w) A (call (.ref 526) [.ref S, .str k.name tk, .int (deep : Nat) td, .int (room : Nat) tr]) (Ret [S] g s h (PatOut S k deep room)) NoE (St s h t)
theorem atom_of {p : Pat} (h : WT .C 0 p) (hs : psize p ≤ 1) : ∃ a, p = atomOf a := by
  cases h with
  | wild => exact ⟨.wild, rfl⟩
  | pvar => exact ⟨.pvar, rfl⟩
  | plazy => exact ⟨.plazy, rfl⟩
  | chr h => exact ⟨.chr _, rfl⟩
  | @as _ _ q h => exact absurd hs (by show ¬ psize q + 1 ≤ 1; have : 1 ≤ psize q := psize_1 q; omega)
  | @bang _ _ q h => exact absurd hs (by show ¬ psize q + 1 ≤ 1; have : 1 ≤ psize q := psize_1 q; omega)
theorem psB_pos (k : Kd) (d : Nat) : 1 ≤ psB k d := by
  unfold psB
  split
  · split <;> decide
  · have : 0 < 4 ^ d := Nat.pow_pos (by decide); omega
theorem psB_step (k : Kd) (d : Nat) : psB k d + 1 ≤ psB k (d + 1) ∧ 10 * 4 ^ (d + 1) = psB k (d + 1) ∧ psB k d ≤ 10 * 4 ^ d := by
  have h1 : 0 < 4 ^ d := Nat.pow_pos (by decide)
  have h2 : psB k (d + 1) = 10 * 4 ^ (d + 1) := if_neg (Nat.succ_ne_zero d)
  have h3 : psB k d ≤ 10 * 4 ^ d := by
    unfold psB
    split
    · rename_i e; subst e; split <;> decide
    · exact Nat.le_refl _
  rw [h2]
  exact ⟨by rw [Nat.pow_succ]; omega, rfl, h3⟩
noncomputable def SubOk (deep room : Nat) (p : Pat) (kd : Kd) : Prop := WT kd (depOf kd (deep - 1) (room - 1)) p ∧ psize p ≤ psB kd (deep - 1)
theorem flds_sign {c : Cn} {i : Nat} {cp : Nat} (h : c.flds.cps[i]? = some cp) : ∃ kd : Kd, c.kinds[i]? = some kd ∧ cp = kd.code ∧ kd ≠ .P := by
  cases c with
  | a => match i, h with
    | 0, h => cases h
    | i + 1, h => cases h
  | nil => match i, h with
    | 0, h => cases h
    | i + 1, h => cases h
  | b => match i, h with
    | 0, h => exact ⟨.T, rfl, (Option.some.inj h).symm, by decide⟩
    | 1, h => exact ⟨.I, rfl, (Option.some.inj h).symm, by decide⟩
    | i + 2, h => cases h
  | pr => match i, h with
    | 0, h => exact ⟨.T, rfl, (Option.some.inj h).symm, by decide⟩
    | 1, h => exact ⟨.C, rfl, (Option.some.inj h).symm, by decide⟩
    | i + 2, h => cases h
  | cons => match i, h with
    | 0, h => exact ⟨.C, rfl, (Option.some.inj h).symm, by decide⟩
    | 1, h => exact ⟨.L, rfl, (Option.some.inj h).symm, by decide⟩
    | i + 2, h => cases h
theorem flds_len (c : Cn) : c.flds.cps.size = c.kinds.length := by induction c <;> decide
theorem psB2 {k k1 k2 : Kd} {deep : Nat} {x y : Pat} (h1 : psize x ≤ psB k1 (deep - 1)) (h2 : psize y ≤ psB k2 (deep - 1)) (n1 : k1 ≠ .P) (n2 : k2 ≠ .P) (hd : k = .P ∨ 0 < deep) : psize x + psize y + 2 ≤ psB k deep := by
  rcases Nat.eq_zero_or_pos deep with rfl | hp
  · have e1 : psB k1 0 = 1 := by unfold psB; rw [if_pos rfl, if_neg n1]
    have e2 : psB k2 0 = 1 := by unfold psB; rw [if_pos rfl, if_neg n2]
    rcases hd with rfl | hd
    · rw [Nat.zero_sub, e1] at h1
      rw [Nat.zero_sub, e2] at h2
      show _ ≤ 4
      omega
    · exact absurd hd (Nat.lt_irrefl _)
  · obtain ⟨d, rfl⟩ : ∃ d, deep = d + 1 := ⟨deep - 1, by omega⟩
    have a := (psB_step k1 d).2.2
    have b := (psB_step k2 d).2.2
    have e := (psB_step k d).2.1
    have h3 : 0 < 4 ^ d := Nat.pow_pos (by decide)
    simp only [Nat.add_sub_cancel] at h1 h2
    rw [← e, Nat.pow_succ]
    omega
theorem wt_con {k : Kd} {c : Cn} {deep room : Nat} {xs : List Pat} (hc : c ∈ k.tab) (H : All2 (SubOk deep room) xs c.kinds) (hd : c.ar = 2 → (k = .P ∨ 0 < deep) ∧ (k = .L → 0 < room)) :
    WT k (depOf k deep room) (mkP c xs) ∧ psize (mkP c xs) ≤ psB k deep ∧ xs.length = c.ar ∧ (k = .P → ∃ x y, xs = [x, y] ∧ WT .P (depOf .P deep room) (.tup x y) ∧ psize (.tup x y) ≤ psB .P deep) := by
  have hl : xs.length = c.ar := by rw [H.length]; show ((c.fld 1).map _).length = _; rw [List.length_map, c.fld_len]
  cases k with
  | I => cases hc
  | C => cases hc
  | T =>
    simp only [Kd.tab, List.mem_cons, List.not_mem_nil, or_false] at hc
    rcases hc with rfl | rfl
    · cases H; exact ⟨.a, psB_pos _ _, hl, fun e => by cases e⟩
    · have hd := hd rfl
      cases H with
      | cons a r => cases r with
        | cons b r =>
          cases r
          obtain ⟨d, rfl⟩ : ∃ d, deep = d + 1 := ⟨deep - 1, by rcases hd.1 with q | q; cases q; omega⟩
          exact ⟨.b a.1 b.1, psB2 a.2 b.2 (by decide) (by decide) hd.1, hl, fun e => by cases e⟩
  | P =>
    simp only [Kd.tab, List.mem_cons, List.not_mem_nil, or_false] at hc
    subst hc
    cases H with
    | cons a r => cases r with
      | cons b r =>
        cases r
        have e : depOf .P deep room = (deep - 1) + 1 := by show max 1 deep = _; omega
        exact ⟨by rw [e]; exact .pr a.1 b.1, psB2 a.2 b.2 (by decide) (by decide) (.inl rfl), hl, fun _ => ⟨_, _, rfl, by rw [e]; exact .tup a.1 b.1, psB2 a.2 b.2 (by decide) (by decide) (.inl rfl)⟩⟩
  | L =>
    simp only [Kd.tab, List.mem_cons, List.not_mem_nil, or_false] at hc
    rcases hc with rfl | rfl
    · cases H; exact ⟨.nil, psB_pos _ _, hl, fun e => by cases e⟩
    · have hd := hd rfl
      have hr := hd.2 rfl
      cases H with
      | cons a r => cases r with
        | cons b r =>
          cases r
          have e : depOf .L deep room = (room - 1) + 1 := by show room = _; omega
          exact ⟨by rw [e]; exact .cons a.1 b.1, psB2 a.2 b.2 (by decide) (by decide) hd.1, hl, fun e => by cases e⟩
inductive PostP {α : Type} (S : Addr) (R : List α → Prop) : List (Addr × Obj) → Prop
  | mk (o : Obj) (xs : List α) (hO : SrcO o) (HR : R xs) : PostP S R [(S, o)]
inductive PostW (s : Shared) (w : World) (g : Kn) (h : Heap) (L S : Addr) (g₃ : Kn) (l : List (Str × Value)) (deep : Nat) : Value → Shared → Prop
  | mk (g' : Kn) (h' : Heap) (t' : Nat) (o' : Obj) (wy : Nat) (u : Tok) (up : Up g₃ g') (hw : deep = 0 → wy < 3) (hO : SrcO o') (F : Fm [S] w g h L g' h' l [(S, o')]) : PostW s w g h L S g₃ l deep (.int (wy : Nat) u) (St s h' t')
inductive PostC (s : Shared) (w : World) (g : Kn) (h : Heap) (L : Addr) (g₅ : Kn) (S : Addr) (o₂ : Obj) (l : List (Str × Value)) (k : Kd) (deep room : Nat) : Flow → Shared → Prop
  | mk (c' : Cn) (h' : Heap) (t' : Nat) (F : Fm [S] w g h L g₅ h' (("fields", .str c'.flds c'.tk2) :: ("con", .str c'.name c'.tk1) :: l) [(S, o₂)]) (hm : c' ∈ k.tab) (hc : c'.ar = 2 → (k = .P ∨ 0 < deep) ∧ (k = .L → 0 < room)) : PostC s w g h L g₅ S o₂ l k deep room .next (St s h' t')
inductive PostS (s : Shared) (w : World) (g : Kn) (h : Heap) (L S : Addr) (g₁ : Kn) (l : List (Str × Value)) (P : Bool → Prop) (b : Bool) : Shared → Prop
  | mk (g' : Kn) (h' : Heap) (t' : Nat) (o' : Obj) (up : Up g₁ g') (hO : SrcO o') (F : Fm [S] w g h L g' h' l [(S, o')]) (hP : P b) : PostS s w g h L S g₁ l P b (St s h' t')
theorem pattern_spec {prog : Program} {w : World} : ∀ n, PattOk prog w n := by
  intro n
  induction n using Nat.strongRecOn with
  | _ n ih =>
    intro A s g h t S k deep room tk td tr R gd sub HS hd5 hr5 hn
    obtain ⟨gS, o, hS, hO⟩ := HS
    refine' m_enterX (μ := [(S, o)]) [("kind", .str k.name tk)] [("room", .int (room : Nat) tr), ("deep", .int (deep : Nat) td), ("source", .ref S)] gd sub (by intro p hp; rw [List.mem_singleton.mp hp]; exact ⟨hS, gS, .head _⟩) (by simp) ?ho ?hcd ?hroom ?hbind ?hkind ?hl ?hcs ?hco ?hgen ?hk ?hb
    case ho => k_is
    case hcd => k_is
    case hroom => have hR := R.d; omega
    case hbind => exact rfl
    case hkind => exact rfl
    case hl => exact rfl
    case hcs => exact rfl
    case hco => exact rfl
    case hgen => exact rfl
    case hk => exact rfl
    try clear F
    intro L h₁ t₁ F hc hg
    refine' hideF ?_
    intro _ _
    have c1 := hc "source" (L + 1) rfl
    have c2 := hc "deep" (L + 1 + 1) rfl
    have c3 := hc "room" (L + 1 + 1 + 1) rfl
    have hg1 := hg _ (Nat.lt_succ_self L)
    have hg2 := hg _ (Nat.lt_succ_of_lt (Nat.lt_succ_self L))
    have hg3 := hg _ (Nat.lt_succ_of_lt (Nat.lt_succ_of_lt (Nat.lt_succ_self L)))
    have Fz := F.addcell c1 (Nat.lt_succ_self _) hg1.1 hg1.2
    clear F
    obtain ⟨o1, d1, F⟩ := Fz
    have Fz := F.freeze (Nat.le_trans F.above (Nat.le_succ L))
    clear F
    obtain ⟨g₁, up1, K1, kp1, F⟩ := Fz
    have Fz := F.addcell c2 (Nat.lt_succ_of_lt (Nat.lt_succ_self _)) (by rw [kp1 _ (Nat.succ_ne_self _)]; exact hg2.1) hg2.2
    clear F
    obtain ⟨o2, d2, F⟩ := Fz
    have Fz := F.freeze (Nat.le_trans F.above (Nat.le_succ_of_le (Nat.le_succ L)))
    clear F
    obtain ⟨g₂, up2, K2, kp2, F⟩ := Fz
    have Fz := F.addcell c3 (Nat.lt_succ_of_lt (Nat.lt_succ_of_lt (Nat.lt_succ_self _))) (by rw [kp2 _ (Nat.succ_ne_self _), kp1 _ (Nat.ne_of_gt (Nat.lt_succ_of_lt (Nat.lt_succ_self _)))]; exact hg3.1) hg3.2
    clear F
    obtain ⟨o3, d3, F⟩ := Fz
    have Fz := F.freeze (Nat.le_trans F.above (Nat.le_succ_of_le (Nat.le_succ_of_le (Nat.le_succ L))))
    clear F
    obtain ⟨g₃, up3, K3, kp3, F⟩ := Fz
    have X1 : CellK g₃ (L + 1) (some (.ref S)) := ⟨o1, up3 _ _ (up2 _ _ K1), d1⟩
    have X2 : CellK g₃ (L + 1 + 1) (some (.int (deep : Nat) td)) := ⟨o2, up3 _ _ K2, d2⟩
    have X3 : CellK g₃ (L + 1 + 1 + 1) (some (.int (room : Nat) tr)) := ⟨o3, K3, d3⟩
    repeat ((fail_if_success (with_reducible show wpAny _ _ (eval (Expr.IfExp _ _ _ _) _) _ _ _)); walk_at "M")
    refine wpAny_mono (Q := PostW s w g h L S g₃ [("kind", .str k.name tk)] deep) ?_ (fun v s' hz => ?_) (fun _ _ e => e)
    · walk_at "M"
      repeat walk_at "M"
      walk_at "kx"; refine ⟨fun hb => ?_, fun hb => ?_⟩
      all_goals
        repeat walk_at "M"
        walk_at "kx"; refine ⟨F.k, ?_⟩
        walk_at "kx"; refine m_use (take_spec (R.dl (by omega)) F.gd F.sub ⟨(F.mu _ (.head _)).2.1, o, (F.mu _ (.head _)).1, hO⟩ (by decide) (by decide)) fun _ _ r1 g₄ h₅ t₅ G1 o1 => ?_
        obtain ⟨⟨o', hS', hO'⟩, kk, u, rfl, k0, k1⟩ := o1
        obtain ⟨j, rfl⟩ := Int.eq_ofNat_of_zero_le k0
        walk_at "kx"; refine .mk g₄ _ _ o' j u G1.up (fun e => ?_) hO' (F.callM G1 hS')
        first | (exact absurd (of_decide_eq_true hb) (by omega)) | omega
    cases hz with
    | mk g₄ h₄ t₄ o' wy uw up4 hw0 hO' F =>
    replace X1 := X1.mono up4
    replace X2 := X2.mono up4
    replace X3 := X3.mono up4
    clear hO hS c1 c2 c3 hg1 hg2 hg3 d1 d2 d3 K1 K2 K3 kp1 kp2 kp3 hc hg
    walk_at "kx"; walk_at "M"
    rename Fm _ _ _ _ _ _ _ _ _ => F
    repeat ((fail_if_success (with_reducible show wpAny _ _ (PySem.isTrue _ _ _) _ _ _)); walk_at "M")
    refine wpAny_mono (Q := PostB s [S] w g h L g₄ [("way", .int (wy : Nat) uw), ("kind", .str k.name tk)] [(S, o')] (fun b => True)) ?_ (fun b s' hz => ?_) (fun _ _ e => e)
    · walk_at "M"
      repeat walk_at "M"
      walk_at "kx"; refine ⟨fun hb => ?_, fun hb => .mk _ _ F trivial⟩
      repeat walk_at "M"
      walk_at "kx"; refine ⟨fun hb => .mk _ _ F trivial, fun hb => ?_⟩
      repeat walk_at "M"
      walk_at "kx"; refine' s_notin fun b => ?_
      repeat walk_at "M"
      exact .mk _ _ F trivial
    cases hz with
    | mk h₅ t₅ F _ =>
    have hdep0 : psize Pat.wild ≤ psB k deep := psB_pos k deep
    walk_at "kx"; refine ⟨fun _ => ?_, fun _ => ?_⟩
    · repeat walk_at "M"
      walk_at "kx"; refine ⟨F.k, ?_⟩
      walk_at "kx"; refine m_use (mk_wild (R.dl (by omega)) F.gd F.sub) fun _ _ r1 g₅ h₆ t₆ G1 o1 => ?_
      obtain ⟨a1, rfl, J1⟩ := o1
      replace F := F.call G1
      repeat walk_at "M"
      walk_at "kx"; refine ⟨F.k, ?_⟩
      walk_at "kx"; refine m_use (mk_pvar (R.dl (by omega)) F.gd F.sub) fun _ _ r2 g₆ h₇ t₇ G2 o2 => ?_
      obtain ⟨a2, rfl, J2⟩ := o2
      replace F := F.call G2
      repeat walk_at "M"
      walk_at "kx"; refine ⟨F.k, ?_⟩
      walk_at "kx"; refine m_use (mk_wild (R.dl (by omega)) F.gd F.sub) fun _ _ r3 g₇ h₈ t₈ G3 o3 => ?_
      obtain ⟨a3, rfl, J3⟩ := o3
      replace F := F.call G3
      repeat walk_at "M"
      walk_at "kx"; refine ⟨F.k, ?_⟩
      walk_at "kx"; refine m_use (mk_lazy (R.dl (by omega)) F.gd F.sub) fun _ _ r4 g₈ h₉ t₉ G4 o4 => ?_
      obtain ⟨a4, rfl, J4⟩ := o4
      replace F := F.call G4
      repeat walk_at "M"
      walk_at "kx"; refine' m_newlist F (Nat.le_of_ble_eq_true rfl) ?_
      try clear F
      intro a5 h₁₀ F ha5
      have Fz := F.lay ha5
      clear F
      obtain ⟨g₉, up9, IL9, F⟩ := Fz
      repeat walk_at "M"
      walk_at "kx"; refine ⟨F.k, ?_⟩
      walk_at "kx"; refine m_use (one_spec (R.dl (by omega)) F.gd F.sub ⟨(F.mu _ (.head _)).2.1, o', (F.mu _ (.head _)).1, hO'⟩ IL9 (by simp) (by simp)) fun _ _ r6 g₁₀ h₁₁ t₁₁ G6 o6 => ?_
      obtain ⟨⟨o₂, hS₂, hO₂⟩, j, hj⟩ := o6
      replace F := F.callM G6 hS₂
      have P1 : PatAt g₁₀ (.ref a1) .wild := ((PatAt.wild J1).mono G2.up).mono G3.up |>.mono G4.up |>.mono up9 |>.mono G6.up
      have P2 : PatAt g₁₀ (.ref a2) .pvar := ((PatAt.pvar J2).mono G3.up).mono G4.up |>.mono up9 |>.mono G6.up
      have P4 : PatAt g₁₀ (.ref a4) .plazy := ((PatAt.plazy J4).mono up9).mono G6.up
      have hS' := (F.mu _ (.head _)).1
      have hm : r6 ∈ [Value.ref a1, Value.ref a2, Value.ref a4] := List.mem_of_getElem? hj
      simp only [List.mem_cons, List.not_mem_nil, or_false] at hm
      rcases hm with rfl | rfl | rfl
      · walk_at "kx"; exact ret_ (Out := PatOut S k deep room) F ⟨⟨_, hS', hO₂⟩, _, P1, .wild, hdep0⟩
      · walk_at "kx"; exact ret_ (Out := PatOut S k deep room) F ⟨⟨_, hS', hO₂⟩, _, P2, .pvar, hdep0⟩
      · walk_at "kx"; exact ret_ (Out := PatOut S k deep room) F ⟨⟨_, hS', hO₂⟩, _, P4, .plazy, hdep0⟩
    repeat ((fail_if_success (with_reducible show wpAny _ _ (PySem.isTrue _ _ _) _ _ _)); walk_at "M")
    refine wpAny_mono (Q := PostB s [S] w g h L g₄ [("way", .int (wy : Nat) uw), ("kind", .str k.name tk)] [(S, o')] (fun b => (b = true → 0 < deep))) ?_ (fun b s' hz => ?_) (fun _ _ e => e)
    · walk_at "M"
      repeat walk_at "M"
      walk_at "kx"; refine ⟨fun hb => ?_, fun hb => .mk _ _ F (fun e => Bool.noConfusion e)⟩
      repeat walk_at "M"
      exact .mk _ _ F (fun e => by have := of_decide_eq_true e; omega)
    cases hz with
    | mk h₆ t₆ F hT =>
    walk_at "kx"; refine ⟨fun hb => ?_, fun _ => ?_⟩
    · have hT := hT hb
      obtain ⟨d, rfl⟩ : ∃ d, deep = d + 1 := ⟨deep - 1, by omega⟩
      repeat walk_at "M"
      rw [show (((d + 1 : Nat) : Int) - 1) = ((d : Nat) : Int) by omega]
      walk_at "kx"; refine ⟨F.k, ?_⟩
      walk_at "kx"; refine m_use (ih (2 * d + (if k = .P then 1 else 0)) (by omega) _ s g₄ _ _ S k d room _ _ _ (R.dl (by omega)) F.gd F.sub ⟨(F.mu _ (.head _)).2.1, o', (F.mu _ (.head _)).1, hO'⟩ (by omega) hr5 (Nat.le_refl _)) fun _ _ r1 g₅ h₇ t₇ G1 o1 => ?_
      obtain ⟨⟨o₂, hS₂, hO₂⟩, p, PP, hWT, hsz⟩ := o1
      replace F := F.callM G1 hS₂
      repeat walk_at "M"
      walk_at "kx"; refine ⟨F.k, ?_⟩
      walk_at "kx"; refine m_use (mk_as (R.dl (by omega)) F.gd F.sub) fun _ _ r2 g₆ h₈ t₈ G2 o2 => ?_
      obtain ⟨a2, rfl, J2⟩ := o2
      replace F := F.call G2
      walk_at "kx"; exact ret_ (Out := PatOut S k (d + 1) room) F ⟨⟨_, (F.mu _ (.head _)).1, hO₂⟩, _, .as J2 (PP.mono G2.up), .as (hWT.up (depOf_le _ _ _)), by show psize p + 1 ≤ _; have := (psB_step k d).1; omega⟩
    repeat walk_at "M"
    walk_at "kx"; refine ⟨fun hb => ?_, fun hb3 => ?_⟩
    · have hw3 : wy = 3 := by have := eq_of_beq hb; omega
      obtain ⟨d, rfl⟩ : ∃ d, deep = d + 1 := ⟨deep - 1, by omega⟩
      repeat walk_at "M"
      rw [show (((d + 1 : Nat) : Int) - 1) = ((d : Nat) : Int) by omega]
      walk_at "kx"; refine ⟨F.k, ?_⟩
      walk_at "kx"; refine m_use (ih (2 * d + (if k = .P then 1 else 0)) (by omega) _ s g₄ _ _ S k d room _ _ _ (R.dl (by omega)) F.gd F.sub ⟨(F.mu _ (.head _)).2.1, o', (F.mu _ (.head _)).1, hO'⟩ (by omega) hr5 (Nat.le_refl _)) fun _ _ r1 g₅ h₇ t₇ G1 o1 => ?_
      obtain ⟨⟨o₂, hS₂, hO₂⟩, p, PP, hWT, hsz⟩ := o1
      replace F := F.callM G1 hS₂
      repeat walk_at "M"
      walk_at "kx"; refine ⟨F.k, ?_⟩
      walk_at "kx"; refine m_use (mk_bang (R.dl (by omega)) F.gd F.sub) fun _ _ r2 g₆ h₈ t₈ G2 o2 => ?_
      obtain ⟨a2, rfl, J2⟩ := o2
      replace F := F.call G2
      walk_at "kx"; exact ret_ (Out := PatOut S k (d + 1) room) F ⟨⟨_, (F.mu _ (.head _)).1, hO₂⟩, _, .bang J2 (PP.mono G2.up), .bang (hWT.up (depOf_le _ _ _)), by show psize p + 1 ≤ _; have := (psB_step k d).1; omega⟩
    repeat walk_at "M"
    walk_at "kx"; refine ⟨fun hb => ?_, fun hbI => ?_⟩
    · have hk : k = .I := by (revert hb; generalize k = k; induction k <;> intro hb <;> first | rfl | exact absurd hb (by decide))
      subst hk
      repeat walk_at "M"
      walk_at "kx"; refine ⟨F.k, ?_⟩
      walk_at "kx"; refine m_use (take_spec (R.dl (by omega)) F.gd F.sub ⟨(F.mu _ (.head _)).2.1, o', (F.mu _ (.head _)).1, hO'⟩ (by decide) (by decide)) fun _ _ r1 g₅ h₇ t₇ G1 o1 => ?_
      obtain ⟨⟨o₂, hS₂, hO₂⟩, kk, u, rfl, k0, k1⟩ := o1
      replace F := F.callM G1 hS₂
      repeat walk_at "M"
      walk_at "kx"; refine ⟨F.k, ?_⟩
      walk_at "kx"; refine m_use (mk_lit (R.dl (by omega)) F.gd F.sub) fun _ _ r2 g₆ h₈ t₈ G2 o2 => ?_
      obtain ⟨a2, rfl, J2⟩ := o2
      replace F := F.call G2
      walk_at "kx"; exact ret_ (Out := PatOut S .I deep room) F ⟨⟨_, (F.mu _ (.head _)).1, hO₂⟩, _, .int J2, .int (by omega), hdep0⟩
    repeat walk_at "M"
    walk_at "kx"; refine ⟨fun hb => ?_, fun hbC => ?_⟩
    · have hk : k = .C := by (revert hb; generalize k = k; induction k <;> intro hb <;> first | rfl | exact absurd hb (by decide))
      subst hk
      repeat walk_at "M"
      walk_at "kx"; refine ⟨F.k, ?_⟩
      walk_at "kx"; refine m_use (take_spec (R.dl (by omega)) F.gd F.sub ⟨(F.mu _ (.head _)).2.1, o', (F.mu _ (.head _)).1, hO'⟩ (by decide) (by decide)) fun _ _ r1 g₅ h₇ t₇ G1 o1 => ?_
      obtain ⟨⟨o₂, hS₂, hO₂⟩, kk, u, rfl, k0, k1⟩ := o1
      replace F := F.callM G1 hS₂
      obtain ⟨j, rfl⟩ := Int.eq_ofNat_of_zero_le k0
      have hj : j = 0 ∨ j = 1 := by omega
      walk_at "kx"; refine' s_item (c := 97 + j) k0 (by omega) (by rcases hj with rfl | rfl <;> decide) (by with_unfolding_all rfl) ?_
      intro _ _
      repeat walk_at "M"
      walk_at "kx"; refine ⟨F.k, ?_⟩
      walk_at "kx"; refine m_use (mk_lit (R.dl (by omega)) F.gd F.sub) fun _ _ r2 g₆ h₈ t₈ G2 o2 => ?_
      obtain ⟨a2, rfl, J2⟩ := o2
      replace F := F.call G2
      walk_at "kx"; exact ret_ (Out := PatOut S .C deep room) F ⟨⟨_, (F.mu _ (.head _)).1, hO₂⟩, _, .chr J2, .chr (by omega), hdep0⟩
    have hkt : k.tab ≠ [] := by (revert hbI hbC; generalize k = k; induction k <;> intro hbI hbC <;> first | (intro q; cases q; done) | exact absurd hbI (by decide) | exact absurd hbC (by decide))
    repeat ((fail_if_success (with_reducible show wpAny _ _ (PySem.isTrue _ _ _) _ _ _)); walk_at "M")
    refine wpAny_mono (Q := PostB s [S] w g h L g₄ [("way", .int (wy : Nat) uw), ("kind", .str k.name tk)] [(S, o')] (fun b => (b = true → 0 < deep ∧ k = .L))) ?_ (fun b s' hz => ?_) (fun _ _ e => e)
    · walk_at "M"
      repeat walk_at "M"
      walk_at "kx"; refine ⟨fun hb => ?_, fun hb => .mk _ _ F (fun e => Bool.noConfusion e)⟩
      repeat walk_at "M"
      refine .mk _ _ F (fun e => ⟨?_, by (revert hb; generalize k = k; induction k <;> intro hb <;> first | rfl | exact absurd hb (by decide))⟩)
      have := eq_of_beq e
      omega
    cases hz with
    | mk h₇ t₇ F hT4 =>
    walk_at "kx"; refine ⟨fun hb => ?_, fun _ => ?_⟩
    · obtain ⟨hpos, rfl⟩ := hT4 hb
      repeat walk_at "M"
      walk_at "kx"; refine ⟨F.k, ?_⟩
      rw [show (((room : Nat) : Int) + 1) = ((room + 1 : Nat) : Int) by omega]
      walk_at "kx"; refine m_use (take_spec (R.dl (by omega)) F.gd F.sub ⟨(F.mu _ (.head _)).2.1, o', (F.mu _ (.head _)).1, hO'⟩ (by omega) (by omega)) fun _ _ r1 g₅ h₇ t₇ G1 o1 => ?_
      obtain ⟨⟨o₂, hS₂, hO₂⟩, kk, u, rfl, k0, k1⟩ := o1
      replace F := F.callM G1 hS₂
      obtain ⟨j, rfl⟩ := Int.eq_ofNat_of_zero_le k0
      replace X1 := X1.mono G1.up
      repeat walk_at "M"
      walk_at "kx"; refine' r_call1 F ?_
      try clear F
      intro r h₃ t₃ b1 b2 b3 F hr
      walk_at "kx"; refine' it_range R.hh F hr (by decide) (by omega) (by omega) ?_
      try clear F
      intro I oI h₈ fp T F It T0 hfp
      rw [show (((j : Nat) : Int) - 0).toNat = j by omega] at It
      walk_at "kx"; refine' comp_val (μm := [(S, o₂)]) (μr := []) It (by omega) F T0 hfp ?hcell ?hkind ?hx (fun i g' μ' ys => PostP S (fun xs => ys.length = i ∧ xs.length = i ∧ All2 (fun y x => PatAt g' y (atomOf x) ∧ WT .C 0 (atomOf x)) ys xs) μ') (.mk o₂ [] hO₂ ⟨rfl, rfl, .nil⟩) ?turn ?hJ ?done
      case hcell => decide
      case hkind => exact rfl
      case hx => exact rfl
      case hJ => intro i g' μ' ys h; cases h; rfl
      case turn =>
        try clear F
        intro C D i v g' h' t' μ' ys m o5 hi hP up hJ hC F KT KN kt kn
        cases hJ with
        | mk o6 xs hO6 hJ =>
        obtain ⟨hyl, hxl, HA⟩ := hJ
        replace X1 := X1.mono up
        refine ifs_nil ⟨fun _ => ?_, fun e => Bool.noConfusion e⟩
        repeat walk_at "M"
        replace F := F.third
        walk_at "kx"; refine ⟨F.k, ?_⟩
        walk_at "kx"; refine m_use (ih 0 (by omega) _ s g' _ _ S .C 0 0 _ _ _ (R.dl (by omega)) F.gd F.sub ⟨(F.mu _ (.head _)).2.1, o6, (F.mu _ (.head _)).1, hO6⟩ (by decide) (by decide) (by decide)) fun _ _ r2 g₆ h₉ t₉ G2 o2 => ?_
        obtain ⟨⟨o7, hS7, hO7⟩, p, PP, hWT, hsz⟩ := o2
        obtain ⟨x, rfl⟩ := atom_of hWT hsz
        replace F := (F.callM G2 hS7).third'
        walk_at "kx"; first | exact kt _ g₆ _ _ _ G2.up F (.mk o7 (xs ++ [x]) hO7 ⟨by simp [hyl], by simp [hxl], (HA.imp fun _ _ z => ⟨z.1.mono G2.up, z.2⟩).snoc ⟨PP, hWT⟩⟩) | exact kn g₆ _ _ _ G2.up F (.mk o7 (xs ++ [x]) hO7 ⟨by simp [hyl], by simp [hxl], (HA.imp fun _ _ z => ⟨z.1.mono G2.up, z.2⟩).snoc ⟨PP, hWT⟩⟩)
      case done =>
        try clear F
        intro D g' h' t' μ' ys m up hJ hy hD F
        cases hJ with
        | mk o6 xs hO6 hJ =>
        obtain ⟨hyl, hxl, HA⟩ := hJ
        have Fz := F.lay hD
        clear F
        obtain ⟨g₇, up7, IL, F⟩ := Fz
        repeat walk_at "M"
        walk_at "kx"; refine ⟨F.k, ?_⟩
        walk_at "kx"; refine m_use (mk_lst (R.dl (by omega)) F.gd F.sub) fun _ _ r3 g₈ h₁₀ t₁₀ G3 o3 => ?_
        obtain ⟨a3, rfl, J3⟩ := o3
        replace F := F.call G3
        walk_at "kx"; refine ret_ (Out := PatOut S .L deep room) F ⟨⟨_, (F.mu _ (.head _)).1, hO6⟩, .lst xs, .lst J3 (IL.mono G3.up) (by omega) fun i y x hy hx => ?_, .lst (by show xs.length ≤ room; omega) fun x hx => ?_, ?_⟩
        · obtain ⟨x', e', z⟩ := HA.get hy
          rw [hx] at e'; cases e'
          exact (z.1.mono up7).mono G3.up
        · obtain ⟨i, hi⟩ := List.getElem?_of_mem hx
          obtain ⟨hlt, _⟩ := List.getElem?_eq_some_iff.mp hi
          have hlt' : i < ys.length := by omega
          obtain ⟨x', e', z⟩ := HA.get (List.getElem?_eq_getElem hlt')
          rw [hi] at e'; cases e'
          exact z.2
        · show 2 * xs.length + 2 ≤ _
          unfold psB
          rw [if_neg (by omega)]
          have : 4 ^ 1 ≤ 4 ^ deep := Nat.pow_le_pow_right (by decide) hpos
          omega
    repeat ((fail_if_success (with_reducible show wpAny _ _ (PySem.isTrue _ _ _) _ _ _)); walk_at "M")
    refine wpAny_mono (Q := PostB s [S] w g h L g₄ [("way", .int (wy : Nat) uw), ("kind", .str k.name tk)] [(S, o')] (fun b => (b = true → 0 < deep ∧ k = .L))) ?_ (fun b s' hz => ?_) (fun _ _ e => e)
    · walk_at "M"
      repeat walk_at "M"
      walk_at "kx"; refine ⟨fun hb => ?_, fun hb => .mk _ _ F (fun e => Bool.noConfusion e)⟩
      repeat walk_at "M"
      refine .mk _ _ F (fun e => ⟨?_, by (revert hb; generalize k = k; induction k <;> intro hb <;> first | rfl | exact absurd hb (by decide))⟩)
      have := eq_of_beq e
      omega
    cases hz with
    | mk h₈ t₈ F hT5 =>
    walk_at "kx"; refine ⟨fun hb => ?_, fun _ => ?_⟩
    · obtain ⟨hpos, rfl⟩ := hT5 hb
      repeat walk_at "M"
      walk_at "kx"; refine' m_sliceT ?_
      repeat walk_at "M"
      walk_at "kx"; refine' m_newlist F (Nat.le_of_ble_eq_true rfl) ?_
      try clear F
      intro a5 h₉ F ha5
      have Fz := F.lay ha5
      clear F
      obtain ⟨g₅, up5, IL5, F⟩ := Fz
      replace X1 := X1.mono up5
      replace X3 := X3.mono up5
      repeat walk_at "M"
      rw [show (((room : Nat) : Int) + 1) = ((room + 1 : Nat) : Int) by omega]
      walk_at "kx"; refine' sl_end F IL5 (by simp) .none (.int _ _) ?_
      try clear F
      intro b6 h₁₀ F hb6
      rw [pick_upto] at F
      have Fz := F.lay hb6
      clear F
      obtain ⟨g₆, up6, IL6, F⟩ := Fz
      repeat walk_at "M"
      walk_at "kx"; refine ⟨F.k, ?_⟩
      walk_at "kx"; refine m_use (one_spec (R.dl (by omega)) F.gd F.sub ⟨(F.mu _ (.head _)).2.1, o', (F.mu _ (.head _)).1, hO'⟩ IL6 (by simp) (by simp; omega)) fun _ _ r6 g₇ h₁₁ t₁₁ G6 o6 => ?_
      obtain ⟨⟨o₂, hS₂, hO₂⟩, j, hj⟩ := o6
      replace F := F.callM G6 hS₂
      have htx : ∃ (cs : List Nat) (u : Tok), r6 = .str (strOf cs) u ∧ cs.length ≤ room ∧ cs.length ≤ 2 ∧ ∀ c ∈ cs, c = 97 ∨ c = 98 := by
        rw [List.getElem?_take] at hj
        split at hj
        · rename_i hjl
          match j, hj with
          | 0, hj => cases hj; exact ⟨[], _, rfl, Nat.zero_le _, by decide, by decide⟩
          | 1, hj => cases hj; exact ⟨[97], _, rfl, by simp; omega, by decide, by decide⟩
          | 2, hj => cases hj; exact ⟨[97, 98], _, rfl, by simp; omega, by decide, by decide⟩
          | j + 3, hj => simp at hj
        · cases hj
      obtain ⟨cs, u, rfl, hc1, hc2, hcs⟩ := htx
      repeat walk_at "M"
      walk_at "kx"; refine ⟨F.k, ?_⟩
      walk_at "kx"; refine m_use (mk_lit (R.dl (by omega)) F.gd F.sub) fun _ _ r2 g₈ h₁₂ t₁₂ G2 o2 => ?_
      obtain ⟨a2, rfl, J2⟩ := o2
      replace F := F.call G2
      walk_at "kx"; refine ret_ (Out := PatOut S .L deep room) F ⟨⟨_, (F.mu _ (.head _)).1, hO₂⟩, .text cs, .text J2, .text hc1 hcs, ?_⟩
      show 2 * cs.length + 3 ≤ _
      unfold psB
      rw [if_neg (by omega)]
      have : 4 ^ 1 ≤ 4 ^ deep := Nat.pow_le_pow_right (by decide) hpos
      omega
    repeat walk_at "M"
    walk_at "kx"; refine' d_item (kinds_at (prog := prog) F.k) (k := k.name) (by simp [PySem.strKind, Value.isStrOf]) (kinds_val hkt) (by intro _; with_unfolding_all rfl) ?_
    intro t₉
    repeat walk_at "M"
    walk_at "kx"; refine ⟨F.k, ?_⟩
    have hl2 : k.tab.length ≤ 2 := by (generalize k = k; induction k <;> decide)
    walk_at "kx"; refine m_use (one_spec (R.dl (by omega)) F.gd F.sub ⟨(F.mu _ (.head _)).2.1, o', (F.mu _ (.head _)).1, hO'⟩ (tab_at F.gd hkt) (fun q => hkt (List.map_eq_nil_iff.mp q)) (by rw [List.length_map]; omega)) fun _ _ r6 g₅ h₁₁ t₁₁ G6 o6 => ?_
    obtain ⟨⟨o₂, hS₂, hO₂⟩, j, hj⟩ := o6
    replace F := F.callM G6 hS₂
    replace X1 := X1.mono G6.up
    replace X2 := X2.mono G6.up
    replace X3 := X3.mono G6.up
    have hcj : ∃ c ∈ k.tab, r6 = .ref c.adr := by
      obtain ⟨c, hc, rfl⟩ := List.mem_map.mp (List.mem_of_getElem? hj)
      exact ⟨c, hc, rfl⟩
    obtain ⟨c, hcm, rfl⟩ := hcj
    walk_at "kx"; refine' as_two R.hh F ⟨_, rfl, ⟨_, F.sub _ _ (tup_at F.gd c), rfl, _, rfl⟩⟩ ?_
    try clear F
    intro h₁₂ F
    walk_at "M"
    walk_at "kx"; walk_at "M"
    rename Fm _ _ _ _ _ _ _ _ _ => F
    refine m_cons (wpAny_mono (Q := PostC s w g h L g₅ S o₂ [("way", .int (wy : Nat) uw), ("kind", .str k.name tk)] k deep room) ?_ (fun f s' hz => ?_) (fun _ _ e => e))
    · refine x_if ?_
      refine wpAny_mono (Q := PostB s [S] w g h L g₅ [("fields", .str c.flds c.tk2), ("con", .str c.name c.tk1), ("way", .int (wy : Nat) uw), ("kind", .str k.name tk)] [(S, o₂)] (fun b => (b = false → (k = .P ∨ 0 < deep) ∧ (k = .L → 0 < room)))) ?_ (fun b s' hz => ?_) (fun _ _ e => e)
      · walk_at "M"
        repeat walk_at "M"
        walk_at "kx"; refine ⟨fun hb => ?_, fun hb => ?_⟩
        · have hd0 : deep = 0 := by have := eq_of_beq hb; omega
          repeat walk_at "M"
          walk_at "kx"; refine' s_ne ?_
          repeat walk_at "M"
          walk_at "kx"; refine ⟨fun hb2 => .mk _ _ F (fun e => Bool.noConfusion e), fun hb2 => ?_⟩
          have hkP : k = .P := by (revert hb2; generalize k = k; induction k <;> intro hb2 <;> first | rfl | exact absurd hb2 (by decide))
          subst hkP
          repeat walk_at "M"
          walk_at "kx"; refine ⟨fun e => absurd e (by decide), fun _ => .mk _ _ F (fun _ => ⟨.inl rfl, fun e => by cases e⟩)⟩
        · have hd0 : 0 < deep := by
            rcases Nat.eq_zero_or_pos deep with rfl | q
            · exact absurd hb (by decide)
            · exact q
          walk_at "kx"; refine ⟨fun e => Bool.noConfusion e, fun _ => ?_⟩
          repeat walk_at "M"
          walk_at "kx"; refine ⟨fun hb2 => ?_, fun hb2 => .mk _ _ F (fun _ => ⟨.inr hd0, fun e => by subst e; exact absurd hb2 (by decide)⟩)⟩
          repeat walk_at "M"
          refine .mk _ _ F (fun e => ⟨.inr hd0, fun _ => ?_⟩)
          rcases Nat.eq_zero_or_pos room with rfl | q
          · exact absurd e (by decide)
          · exact q
      · cases hz with
        | mk h' t' F hcond =>
        walk_at "kx"; refine ⟨fun hb => ?_, fun hb => ?_⟩
        · have h0 : ∃ c0, k.tab[0]? = some c0 ∧ c0 ∈ k.tab ∧ (c0.ar = 2 → k = .P) := by
            cases k with
            | T => exact ⟨.a, rfl, .head _, fun e => by cases e⟩
            | P => exact ⟨.pr, rfl, .head _, fun _ => rfl⟩
            | L => exact ⟨.nil, rfl, .head _, fun e => by cases e⟩
            | I => exact absurd rfl hkt
            | C => exact absurd rfl hkt
          obtain ⟨c0, e0, hm0, ha0⟩ := h0
          repeat walk_at "M"
          walk_at "kx"; refine' d_item (kinds_at (prog := prog) F.k) (k := k.name) (by simp [PySem.strKind, Value.isStrOf]) (kinds_val hkt) (by intro _; with_unfolding_all rfl) ?_
          intro t₉
          repeat walk_at "M"
          walk_at "kx"; refine' l_item F (tab_at F.gd hkt) (by decide) (by decide) (x := .ref c0.adr) (by show (k.tab.map _)[0]? = _; rw [List.getElem?_map, e0]; rfl) (by intro _; with_unfolding_all rfl) ?_
          walk_at "kx"; refine' as_two R.hh F ⟨_, rfl, ⟨_, F.sub _ _ (tup_at F.gd c0), rfl, _, rfl⟩⟩ ?_
          try clear F
          intro h₁₂ F
          repeat walk_at "M"
          rename Fm _ _ _ _ _ _ _ _ _ => F
          exact .mk c0 _ _ (F.relook (l' := [("fields", .str c0.flds c0.tk2), ("con", .str c0.name c0.tk1), ("way", .int (wy : Nat) uw), ("kind", .str k.name tk)]) fun y => ((lk_del [("fields", _), ("con", _)] rfl y).trans (lk_del [("fields", _), ("con", _)] rfl y)).symm) hm0 (fun e => ⟨.inl (ha0 e), fun q => by have := ha0 e; rw [q] at this; cases this⟩)
        · repeat walk_at "M"
          exact .mk c _ _ F hcm (fun _ => hcond hb)
    cases hz with
    | mk c' h₁₃ t₁₃ F hcm' hcond =>
    clear hcm
    repeat walk_at "M"
    walk_at "kx"; refine' it_str R.hh F ?_
    try clear F
    intro I oI h₁₄ fp T F It T0 hfp
    rw [flds_len] at It
    have hkl : c'.kinds.length ≤ 2 := by (generalize c' = c'; induction c' <;> decide)
    have hmax : ∀ (d : Nat), max (0 : Int) (((d : Nat) : Int) - 1) = ((d - 1 : Nat) : Int) := fun d => by omega
    walk_at "kx"; refine' comp_asg (μm := [(S, o₂)]) (μr := []) It (by omega) F T0 hfp ?hcell ?hkind ?hx ?hkk rfl ?hy (fun i g' μ' ys => PostP S (fun xs => All2 (PatAt g') ys xs ∧ All2 (SubOk deep room) xs (c'.kinds.take i)) μ') (.mk o₂ [] hO₂ ⟨.nil, .nil⟩) ?turn ?hJ ?done
    case hcell => decide
    case hkind => exact rfl
    case hkk => exact rfl
    case hy => exact rfl
    case hx => exact rfl
    case hJ => intro i g' μ' ys h; cases h; rfl
    case turn =>
      try clear F
      intro C D i v g' h' t' μ' ys m o5 hi hP up hJ hC F KT KN kt kn
      cases hJ with
      | mk o6 xs hO6 hJ =>
      obtain ⟨HX, HS⟩ := hJ
      obtain ⟨cp, u, ecp, rfl⟩ := hP
      obtain ⟨kd, ekd, rfl, hkd⟩ := flds_sign ecp
      replace X1 := X1.mono up
      replace X2 := X2.mono up
      replace X3 := X3.mono up
      have hcond := hcond (by have := c'.fld_len 1; have e : c'.kinds.length = c'.ar := by show ((c'.fld 1).map _).length = _; rw [List.length_map]; exact this
                              (revert hi; generalize c' = c'; induction c' <;> intro hi <;> first | rfl | (exact absurd hi (Nat.not_lt_zero _))))
      have ekn : (⟨#[kd.code]⟩ : Str) = kd.name := kd.code_name
      rw [ekn] at F kt
      refine ifs_nil ⟨fun _ => ?_, fun e => Bool.noConfusion e⟩
      repeat walk_at "M"
      walk_at "kx"; refine' i_max R.hh F ?_
      try clear F
      intro h₁₅ t₁₅ u₁₅ F
      rw [hmax]
      repeat walk_at "M"
      walk_at "kx"; refine' i_max R.hh F ?_
      try clear F
      intro h₁₆ t₁₆ u₁₆ F
      rw [hmax]
      repeat walk_at "M"
      replace F := F.third
      walk_at "kx"; refine ⟨F.k, ?_⟩
      walk_at "kx"; refine m_use (ih (2 * (deep - 1)) (by rcases hcond.1 with q | q; (rw [if_pos q] at hn; omega); omega) _ s g' _ _ S kd (deep - 1) (room - 1) _ _ _ (R.dl (by rcases hcond.1 with q | q; (rw [if_pos q] at hn; omega); omega)) F.gd F.sub ⟨(F.mu _ (.head _)).2.1, o6, (F.mu _ (.head _)).1, hO6⟩ (by omega) (by omega) (by rw [if_neg hkd]; omega)) fun _ _ r2 g₆ h₉ t₉ G2 o2 => ?_
      obtain ⟨⟨o7, hS7, hO7⟩, p, PP, hWT, hsz⟩ := o2
      replace F := (F.callM G2 hS7).third'
      walk_at "kx"; first | refine kt _ g₆ _ _ _ G2.up F (.mk o7 (xs ++ [p]) hO7 ⟨(HX.imp fun _ _ z => z.mono G2.up).snoc PP, ?_⟩) | refine kn g₆ _ _ _ G2.up F (.mk o7 (xs ++ [p]) hO7 ⟨(HX.imp fun _ _ z => z.mono G2.up).snoc PP, ?_⟩)
      rw [take_snoc ekd]
      exact HS.snoc ⟨hWT, hsz⟩
    case done =>
      try clear F
      intro D g' h' t' μ' ys m up hJ hy hD F
      cases hJ with
      | mk o6 xs hO6 hJ =>
      obtain ⟨HX, HS⟩ := hJ
      have Fz := F.lay hD
      clear F
      obtain ⟨g₇, up7, IL, F⟩ := Fz
      rw [List.take_of_length_le (Nat.le_refl _)] at HS
      replace HX := HX.imp fun _ _ z => z.mono up7
      obtain ⟨w1, w2, w3, w4⟩ := wt_con hcm' HS hcond
      replace X1 := (X1.mono up).mono up7
      repeat ((fail_if_success (with_reducible show wpAny _ _ (PySem.isTrue _ _ _) _ _ _)); walk_at "M")
      refine wpAny_mono (Q := PostS s w g h L S g₇ [("args", .ref D), ("fields", .str c'.flds c'.tk2), ("con", .str c'.name c'.tk1), ("way", .int (wy : Nat) uw), ("kind", .str k.name tk)] (fun b => b = true → k = .P)) ?_ (fun b s' hz => ?_) (fun _ _ e => e)
      · walk_at "M"
        repeat walk_at "M"
        walk_at "kx"; refine ⟨fun hb => ?_, fun hb => .mk _ _ _ o6 (fun _ _ e => e) hO6 F (fun e => Bool.noConfusion e)⟩
        have hkP : k = .P := by (revert hb; generalize k = k; induction k <;> intro hb <;> first | rfl | exact absurd hb (by decide))
        repeat walk_at "M"
        walk_at "kx"; refine ⟨F.k, ?_⟩
        walk_at "kx"; refine m_use (take_spec (R.dl (by omega)) F.gd F.sub ⟨(F.mu _ (.head _)).2.1, o6, (F.mu _ (.head _)).1, hO6⟩ (by decide) (by decide)) fun _ _ r1 g₈ h₅ t₅ G1 o1 => ?_
        obtain ⟨⟨o7, hS7, hO7⟩, kk, u, rfl, k0, k1⟩ := o1
        replace F := F.callM G1 hS7
        repeat walk_at "M"
        walk_at "kx"; exact .mk g₈ _ _ o7 G1.up hO7 F (fun _ => hkP)
      cases hz with
      | mk g₈ h₁₇ t₁₇ o7 up8 hO7 F8 hP =>
      replace IL := IL.mono up8
      replace HX := HX.imp fun _ _ z => PatAt.mono z up8
      walk_at "kx"; refine ⟨fun hb => ?_, fun hb => ?_⟩
      · obtain ⟨x, y, rfl, w5, w6⟩ := w4 (hP hb)
        have hkP := hP hb
        subst hkP
        cases HX with
        | cons a r => cases r with
          | cons b r =>
            cases r
            replace F := F8
            repeat walk_at "M"
            walk_at "kx"; refine ⟨F.k, ?_⟩
            walk_at "kx"; refine m_use (mk_tup (R.dl (by omega)) F.gd F.sub) fun _ _ r2 g₉ h₁₈ t₁₈ G2 o2 => ?_
            obtain ⟨a2, rfl, J2⟩ := o2
            replace F := F.call G2
            walk_at "kx"; exact ret_ (Out := PatOut S .P deep room) F ⟨⟨_, (F.mu _ (.head _)).1, hO7⟩, _, .tup J2 (IL.mono G2.up) (a.mono G2.up) (b.mono G2.up), w5, w6⟩
      · replace F := F8
        repeat walk_at "M"
        walk_at "kx"; refine ⟨F.k, ?_⟩
        walk_at "kx"; refine m_use (mk_con (R.dl (by omega)) F.gd F.sub) fun _ _ r2 g₉ h₁₈ t₁₈ G2 o2 => ?_
        obtain ⟨a2, rfl, J2⟩ := o2
        replace F := F.call G2
        walk_at "kx"; exact ret_ (Out := PatOut S k deep room) F ⟨⟨_, (F.mu _ (.head _)).1, hO7⟩, _, PatAt.mk J2 (IL.mono G2.up) (HX.imp fun _ _ z => z.mono G2.up) w3, w1, w2⟩
/-! for the law's own frame -/
section
variable {prog : Program} {w : World} {A : Around} {E : Value → Shared → Prop} {s sh : Shared} {env : Env} {U : List Addr} {g₀ g g' : Kn} {h₀ h h' : Heap} {L I : Addr} {t n i : Nat} {l l' : List (Str × Value)} {μ μ' : List (Addr × Obj)} {o o' : Obj}
  {fp : List Addr} {P : Nat → Value → Prop} {T : Nat → Heap → Prop}
theorem lk_cons {x : Str} {v : Value} {r r' : List (Str × Value)} {y : Str} (h : r.lookup y = r'.lookup y) : ((x, v) :: r).lookup y = ((x, v) :: r').lookup y := by
  rw [List.lookup_cons, List.lookup_cons, h]
/-- a loop whose name is stored by the user -/
theorem for_runS {x : Str} {px : Pos} {body rest : List Stmt} {Q : Flow → Shared → Prop} (It : Itr prog w A I fp n P T) (F : Fm U w g₀ h₀ L g h l ((I, o) :: μ)) (T0 : T 0 h) (hfp : ∀ b ∈ fp, b = I ∨ ∃ y, g b = some y)
    (J : Nat → Kn → List (Str × Value) → List (Addr × Obj) → Prop) (J0 : J 0 g l μ)
    (turn : ∀ i v g' h' t' l' μ' o', i < n → P i v → Up g g' → J i g' l' μ' → Fm U w g₀ h₀ L g' h' l' ((I, o') :: μ') →
      ∀ K : Flow → Shared → Prop, (∀ g'' h'' t'' l'' μ'', Up g' g'' → Fm U w g₀ h₀ L g'' h'' l'' ((I, o') :: μ'') → J (i + 1) g'' l'' μ'' → K .next (St s h'' t'')) → (∀ v s', Q (.ret v) s' → K (.ret v) s') →
      wpAny (model prog w) A (storeName env x v) (kRest (model prog w) A NoE env body K) NoE (St s h' t'))
    (done : ∀ g' h' t' l' μ', Up g g' → J n g' l' μ' → Fm U w g₀ h₀ L g' h' l' μ' → wpAny (model prog w) A (execs rest env) Q E (St s h' t')) :
    codeAny (model prog w) A (.forLoop (.Name x px) (.ref I) body [] env) (fun r s' => match r with
      | .ok f => (match f with | .next => wpAny (model prog w) A (execs rest env) Q E s' | f => Q f s')
      | .error e => cameBackBy (model prog w) A env E e s') (St s h t) := by
  refine codeAny_forLoop (FRun s U w g₀ h₀ L g I n T J) ?_ (n + 1) (FRun.mk 0 g h t l μ o (Nat.zero_le _) (fun _ _ e => e) F T0 J0)
  intro k s' hI
  cases hI with
  | mk i g' h' t' l' μ' o' hi up F' T' J' =>
  rcases Nat.lt_or_eq_of_le hi with hlt | rfl
  · refine itr_next It F' T' hlt fun v h₂ t₂ o₂ hP T₂ F₂ => ?_
    refine wpAny_assign_Name (wpAny_mono (turn i v g' h₂ t₂ l' μ' o₂ hlt hP up J' F₂ (fun f s₃ => match f with
        | .ret r => Q (.ret r) s₃
        | .next => ∃ m, m < n + 1 - i ∧ FRun s U w g₀ h₀ L g I n T J m s₃
        | _ => False) (fun g'' h'' t'' l'' μ'' up2 F4 J4 => ⟨n + 1 - (i + 1), by omega, .mk (i + 1) g'' h'' t'' l'' μ'' o₂ hlt (fun a y e => up2 _ _ (up _ _ e)) F4
          (itr_frame It F₂ F4 up2 (fun b hb => (hfp b hb).imp id fun ⟨y, e⟩ => ⟨y, up _ _ e⟩) T₂) J4⟩) (fun _ _ x => x)) (fun _ s₃ z => wpAny_mono z (fun f s₄ z => ?_) fun _ _ e => e.elim) fun _ _ e => e.elim)
    cases f with
    | next => exact z
    | cont => exact z.elim
    | brk => exact z.elim
    | ret r => exact z
  · refine itr_done It F' T' fun h₂ t₂ F₂ => ?_
    exact wpAny_mono (wpAny_execs_nil (Q := fun f s₃ => f = .next ∧ s₃ = St s h₂ t₂) (E := NoE) ⟨rfl, rfl⟩) (fun f s₃ ⟨a, b⟩ => by subst a; subst b; exact done g' h₂ t₂ l' μ' up J' F₂) fun _ _ e => e.elim
end
section
variable {U : List Addr} {w : World} {g₀ g : Kn} {h₀ h : Heap} {L : Addr} {l : List (Str × Value)} {μ : List (Addr × Obj)}
theorem pull_perm {α : Type} : ∀ (l : List α) (k : Nat) (h : k < l.length), l.Perm (l[k] :: l.eraseIdx k)
  | _ :: _, 0, _ => List.Perm.refl _
  | a :: l, k + 1, h => ((pull_perm l k (Nat.lt_of_succ_lt_succ h)).cons a).trans (List.Perm.swap _ _ _)
theorem Fm.pull (F : Fm U w g₀ h₀ L g h l μ) (k : Nat) (hk : k < μ.length) : Fm U w g₀ h₀ L g h l (μ[k] :: μ.eraseIdx k) := F.perm (pull_perm μ k hk)
/-- a fresh object that the call left to be changed -/
theorem Fm.fresh {g' : Kn} {h' : Heap} {S : Addr} {o : Obj} (F : Fm U w g₀ h₀ L g h l μ) (G : Grow [] g h g' h') (e : h'.get? S = some o) (gS : g' S = none) (hS : h.objs.size ≤ S) : Fm U w g₀ h₀ L g' h' l ((S, o) :: μ) :=
  (F.call G).addmu e gS (Nat.ne_of_gt (Nat.lt_of_lt_of_le F.lt hS)) (Nat.le_trans F.above (Nat.le_trans (Nat.le_of_lt F.lt) hS)) fun q => by
    obtain ⟨p, hp, e⟩ := List.mem_map.mp q
    exact absurd (F.mu_lt p hp) (by rw [e]; exact Nat.not_lt.mpr hS)
end
noncomputable def lotsK : List (List Kd) := [[.T], [.L], [.I], [.C], [.P], [.I, .I], [.T, .I], [.C, .L]]
noncomputable def kstr (ks : List Kd) : Str := strOf (ks.map Kd.code)
noncomputable def dpOf (ks : List Kd) : Nat := if ks.length = 1 then 2 else 1
noncomputable def colsOf (ks : List Kd) : List Col := ks.map fun k => (k, depOf k (dpOf ks) (dpOf ks))
/-! the law's loop, in plain lists -/
theorem valueAt_stored {K : Type} [DecidableEq K] (kvs : List (K × Value)) (k j : K) (v : Value) : (valueAt (stored kvs k v) j).isSome = (decide (j = k) || (valueAt kvs j).isSome) := by
  have key : ∀ (l : List (K × Value)) (j : K), (valueAt l j).isSome = decide (∃ p ∈ l, p.1 = j) := by
    intro l j
    unfold valueAt
    rw [Option.isSome_map, Bool.eq_iff_iff, List.find?_isSome, decide_eq_true_iff]
    exact ⟨fun ⟨p, hp, e⟩ => ⟨p, hp, by simpa using e⟩, fun ⟨p, hp, e⟩ => ⟨p, hp, by simpa using e⟩⟩
  rw [key, key, Bool.eq_iff_iff, Bool.or_eq_true, decide_eq_true_iff, decide_eq_true_iff, decide_eq_true_iff]
  unfold stored
  split
  · rename_i h
    constructor
    · rintro ⟨p, hp, e⟩
      obtain ⟨q, hq, rfl⟩ := List.mem_map.mp hp
      by_cases hqk : q.1 = k
      · rw [if_pos hqk] at e; exact .inl (e.symm.trans hqk)
      · rw [if_neg hqk] at e; exact .inr ⟨q, hq, e⟩
    · rintro (e | ⟨q, hq, e⟩)
      · obtain ⟨q, hq, hk⟩ := List.any_eq_true.mp h
        have hk : q.1 = k := by simpa using hk
        exact ⟨_, List.mem_map.mpr ⟨q, hq, rfl⟩, by rw [if_pos hk]; exact hk.trans e.symm⟩
      · by_cases hqk : q.1 = k
        · exact ⟨_, List.mem_map.mpr ⟨q, hq, rfl⟩, by rw [if_pos hqk]; exact e⟩
        · exact ⟨_, List.mem_map.mpr ⟨q, hq, rfl⟩, by rw [if_neg hqk]; exact e⟩
  · constructor
    · rintro ⟨p, hp, e⟩
      rcases List.mem_append.mp hp with q | q
      · exact .inr ⟨p, q, e⟩
      · rw [List.mem_singleton.mp q] at e; exact .inl e.symm
    · rintro (e | ⟨q, hq, e⟩)
      · exact ⟨_, List.mem_append.mpr (.inr (.head _)), e.symm⟩
      · exact ⟨q, List.mem_append.mpr (.inl hq), e⟩
noncomputable def fitsAt (rs : List (List Pat)) (lot : List Val) (j : Nat) : Bool := match rs[j]? with
  | some r => rowFits r lot
  | none => false
noncomputable def takersOf (rs : List (List Pat)) (lot : List Val) : List Nat := (List.range rs.length).filter (fitsAt rs lot)
noncomputable def FirstOf (rs : List (List Pat)) (lot : List Val) (n : Nat) : Prop := fitsAt rs lot n = true ∧ Matched (rs.take n) lot = false
noncomputable def exB (td : Option (List Pat)) (lot : List Val) : Bool := match td with
  | none => false
  | some ps => rowFits ps lot
theorem filter_first (p : Nat → Bool) : ∀ (n f : Nat) (r : List Nat), (List.range n).filter p = f :: r → p f = true ∧ f < n ∧ ∀ j, j < f → p j = false := by
  intro n
  induction n with
  | zero => intro f r h; cases h
  | succ n ih =>
    intro f r h
    rw [range_filter_snoc] at h
    cases e : (List.range n).filter p with
    | nil =>
      rw [e] at h
      have hno : ∀ j, j < n → p j = false := fun j hj => by
        cases q : p j with
        | false => rfl
        | true => exact absurd (List.mem_filter.mpr ⟨List.mem_range.mpr hj, q⟩) (by rw [e]; exact List.not_mem_nil)
      by_cases q : p n = true
      · rw [if_pos q] at h; injection h with h1 h2; subst h1
        exact ⟨q, Nat.lt_succ_self _, hno⟩
      · rw [if_neg q] at h; cases h
    | cons f' r' =>
      rw [e] at h
      injection h with h1 h2
      subst h1
      obtain ⟨a, b, c⟩ := ih _ _ e
      exact ⟨a, Nat.lt_succ_of_lt b, c⟩
theorem matched_take {rs : List (List Pat)} {lot : List Val} {n : Nat} : Matched (rs.take n) lot = false ↔ ∀ j, j < n → fitsAt rs lot j = false := by
  unfold Matched
  rw [List.any_eq_false]
  constructor
  · intro h j hj
    unfold fitsAt
    cases e : rs[j]? with
    | none => rfl
    | some r =>
      have hm : r ∈ rs.take n := List.mem_of_getElem? (i := j) (by rw [List.getElem?_take, if_pos hj, e])
      simpa using h r hm
  · intro h r hr
    obtain ⟨j, hj⟩ := List.getElem?_of_mem hr
    rw [List.getElem?_take] at hj
    split at hj
    · rename_i hjn
      have := h j hjn
      unfold fitsAt at this
      rw [hj] at this
      simpa using this
    · cases hj
theorem matched_all {rs : List (List Pat)} {lot : List Val} : Matched rs lot = false ↔ ∀ j, j < rs.length → fitsAt rs lot j = false := by
  have := matched_take (rs := rs) (lot := lot) (n := rs.length)
  rwa [List.take_of_length_le (Nat.le_refl _)] at this
theorem takers_nil {rs : List (List Pat)} {lot : List Val} : takersOf rs lot = [] ↔ Matched rs lot = false := by
  rw [matched_all]
  unfold takersOf
  rw [List.filter_eq_nil_iff]
  constructor
  · intro h j hj; simpa using h j (List.mem_range.mpr hj)
  · intro h j hj; rw [h j (List.mem_range.mp hj)]; decide
theorem takers_first {rs : List (List Pat)} {lot : List Val} {f : Nat} {r : List Nat} (h : takersOf rs lot = f :: r) : f < rs.length ∧ ∀ n, FirstOf rs lot n ↔ n = f := by
  obtain ⟨a, b, c⟩ := filter_first _ _ _ _ h
  refine ⟨b, fun n => ?_⟩
  constructor
  · rintro ⟨h1, h2⟩
    rw [matched_take] at h2
    rcases Nat.lt_trichotomy n f with q | q | q
    · rw [c n q] at h1; cases h1
    · exact q
    · rw [h2 f q] at a; cases a
  · rintro rfl
    exact ⟨a, matched_take.mpr c⟩
theorem first_none {rs : List (List Pat)} {lot : List Val} (h : takersOf rs lot = []) (n : Nat) : ¬ FirstOf rs lot n := by
  rintro ⟨h1, _⟩
  rw [takers_nil, matched_all] at h
  by_cases q : n < rs.length
  · rw [h n q] at h1; cases h1
  · unfold fitsAt at h1
    rw [List.getElem?_eq_none (Nat.not_lt.mp q)] at h1
    cases h1
theorem reach_first {rs : List (List Pat)} {cols : List Col} {lots : List (List Val)} (hl : ∀ lot, lot ∈ lots ↔ Vec cols lot) {n : Nat} (hn : n < rs.length) : reachB rs cols n = true ↔ ∃ lot ∈ lots, FirstOf rs lot n := by
  have e : rs[n]? = some rs[n] := List.getElem?_eq_getElem hn
  rw [reachB_iff e]
  unfold Reach FirstOf fitsAt
  rw [e]
  constructor
  · rintro ⟨vs, a, b, c⟩; exact ⟨vs, (hl vs).mpr a, b, c⟩
  · rintro ⟨lot, a, b, c⟩; exact ⟨lot, (hl lot).mp a, b, c⟩
theorem lots_meas {ks : List Kd} (h : ks ∈ lotsK) : meas (colsOf ks) ≤ 10 := by
  simp only [lotsK, List.mem_cons, List.not_mem_nil, or_false] at h
  rcases h with rfl | rfl | rfl | rfl | rfl | rfl | rfl | rfl <;> decide
noncomputable def RowsOk (ks : List Kd) (rs : List (List Pat)) : Prop := Rows (colsOf ks) rs ∧ ∀ r ∈ rs, ∀ p ∈ r, psize p ≤ 160
theorem fm_range {α : Type} : ∀ (l : List α), (List.range l.length).filterMap (fun i => l[i]?) = l
  | [] => rfl
  | a :: l => by
    rw [List.length_cons, List.range_succ_eq_map, List.filterMap_cons]
    show a :: _ = _
    congr 1
    rw [List.filterMap_map]
    exact fm_range l
theorem ord_perm {α : Type} (l : List α) (is : List Nat) (h : is.isPerm (List.range l.length) = true) : l.Perm (is.filterMap (fun i => l[i]?)) := by
  have := (List.isPerm_iff.mp h).filterMap (fun i => l[i]?)
  rw [fm_range] at this
  exact this.symm
theorem Fm.ord {U : List Addr} {w : World} {g₀ g : Kn} {h₀ h : Heap} {L : Addr} {l : List (Str × Value)} {μ : List (Addr × Obj)} (F : Fm U w g₀ h₀ L g h l μ) (is : List Nat) (p : is.isPerm (List.range μ.length) = true) :
    Fm U w g₀ h₀ L g h l (is.filterMap (fun i => μ[i]?)) := F.perm (ord_perm μ is p)
theorem all2_and {α β : Type} {R : α → β → Prop} {Q : α → Prop} {xs : List α} {ys : List β} (h : All2 R xs ys) (q : ∀ x ∈ xs, Q x) : All2 (fun x y => R x y ∧ Q x) xs ys := by
  induction h with
  | nil => exact .nil
  | cons a _ ih => exact .cons ⟨a, q _ (.head _)⟩ (ih fun x hx => q x (.tail _ hx))
theorem sum_mem {n : Nat} {l : List Nat} (h : n ∈ l) : n ≤ l.sum := by
  induction l with
  | nil => cases h
  | cons a r ih =>
    rw [List.sum_cons]
    rcases List.mem_cons.mp h with rfl | h
    · omega
    · have := ih h; omega
theorem typed_row {ks : List Kd} {rs : List (List Pat)} {r : List Pat} {lot : List Val} (h : RowsOk ks rs) (hr : r ∈ rs) (hv : Vec (colsOf ks) lot) : Typed 160 r lot :=
  ((all2_and (h.1 r hr) (h.2 r hr)).join hv).imp fun p V ⟨c, ⟨a, b⟩, d⟩ => ⟨c.1, c.2 + 1, a.kt, d, b⟩
theorem typed_told {ks : List Kd} {rs : List (List Pat)} {ps : List Pat} {lot : List Val} (h : Told rs (colsOf ks) ps) (hm : meas (colsOf ks) ≤ 10) (hv : Vec (colsOf ks) lot) : Typed 160 ps lot := by
  obtain ⟨a, _, _, d⟩ := h
  have b : ∀ p ∈ ps, psize p ≤ 160 := fun p hp => by have := sum_mem (List.mem_map_of_mem (f := psize) hp); omega
  exact ((all2_and a b).join hv).imp fun p V ⟨c, ⟨x, y⟩, z⟩ => ⟨c.1, c.2 + 1, x, z, y⟩

theorem Fm.mid {U : List Addr} {w : World} {g₀ g : Kn} {h₀ h : Heap} {L : Addr} {l : List (Str × Value)} {a : Addr × Obj} {xs ys : List (Addr × Obj)} (F : Fm U w g₀ h₀ L g h l (xs ++ a :: ys)) : Fm U w g₀ h₀ L g h l ((xs ++ [a]) ++ ys) := by rw [List.append_assoc]; exact F
theorem ints_at {vs : List Value} {ns : List Int} (H : IntsAre vs ns) : ∀ (i : Nat) (h : i < vs.length), ∃ n t, vs[i] = .int n t ∧ ns[i]? = some n := by
  induction H with
  | nil => intro i h; cases h
  | cons n t _ ih =>
    intro i h
    cases i with
    | zero => exact ⟨n, t, rfl, rfl⟩
    | succ i => obtain ⟨m, u, a, b⟩ := ih i (by simpa using h); exact ⟨m, u, by simpa using a, by simpa using b⟩
theorem ints_ne {prog : Program} {w : World} {A : Around} {E : Value → Shared → Prop} {s : Shared} {h : Heap} {t : Nat} {v₁ v₂ : Value} {xs ys : List Value} {ns : List Int} {Q : Value → Shared → Prop} (R : Room A 1) (h1 : ∃ a, v₁ = .ref a ∧ h.IsList a xs.toArray) (h2 : ∃ b, v₂ = .ref b ∧ h.IsList b ys.toArray) (H1 : IntsAre xs ns) (H2 : IntsAre ys ns) (hQ : Q (.bool false) (St s h t)) :
    wpAny (model prog w) A (compareOp .NotEq v₁ v₂) Q E (St s h t) := by
  obtain ⟨a, rfl, ha⟩ := h1
  obtain ⟨b, rfl, hb⟩ := h2
  have hu : A.units < cLine := by have := R.u; omega
  have l1 := IntsAre.length H1
  have l2 := IntsAre.length H2
  refine SeqAt.RcNeAt.lists (s := St s h t) (e := fun _ => true) ha hb (by simp; omega) hu (fun j h1 h2 => ?_) prog w E Q ?_
  · obtain ⟨n, t1, e1, e2⟩ := ints_at H1 j (by simpa using h1)
    obtain ⟨n', t2, e3, e4⟩ := ints_at H2 j (by simpa using h2)
    rw [e2] at e4; cases e4
    have z := SeqAt.EqAt.int_int (A := A.in1) (s := St s h t) n t1 n t2
    rw [beq_self_eq_true] at z
    have q1 : xs.toArray[j] = .int n t1 := by simpa using e1
    have q2 : ys.toArray[j] = .int n t2 := by simpa using e3
    rw [q1, q2]
    exact z
  · have : (!(List.range xs.toArray.size).all fun _ => true) = false := by simp
    rw [this]; exact hQ
theorem two_get {α : Type} {a b x : α} : ∀ {i : Nat}, [a, b][i]? = some x → (i = 0 ∧ x = a) ∨ (i = 1 ∧ x = b)
  | 0, h => .inl ⟨rfl, (Option.some.inj h).symm⟩
  | 1, h => .inr ⟨rfl, (Option.some.inj h).symm⟩
/-! law: the constructors' table -/
theorem kinds_T {w : World} {g : Kn} (G : Gd w g) : IsL g (.ref 494) [.ref 492, .ref 493] := tab_at G (k := .T) (by decide)
noncomputable def TabAt (i : Nat) (g : Kn) (ps : List (Str × Value)) : Prop := match i with
  | 0 => ps = []
  | 1 => ∃ va, ps = ([("M.A", va)] : List (Str × Value)) ∧ InfoAt g va 0 0
  | _ => ∃ va vb, ps = abK va vb ∧ InfoAt g va 0 0 ∧ InfoAt g vb 2 1
inductive Cells (L : Addr) : List (Addr × Obj) → Prop
  | mk (o1 o2 o3 o4 o5 : Obj) (v1 v2 v3 v4 v5 : Option Value) (d1 : o1.data = .cell v1) (d2 : o2.data = .cell v2) (d3 : o3.data = .cell v3) (d4 : o4.data = .cell v4) (d5 : o5.data = .cell v5) : Cells L [(L + 5, o5), (L + 4, o4), (L + 3, o3), (L + 2, o2), (L + 1, o1)]
noncomputable def lotsV : List Value := [.str "T" 845, .str "L" 846, .str "I" 847, .str "C" 848, .str "P" 849, .str "II" 850, .str "TI" 851, .str "CL" 852]
theorem lots_at {w : World} {g : Kn} (G : Gd w g) : IsL g (.ref 500) lotsV := ⟨_, 0, rfl, G.kk (by k_is)⟩
theorem lots_get {k : Nat} {r : Value} (h : lotsV[k]? = some r) : ∃ ks u, ks ∈ lotsK ∧ r = .str (kstr ks) u := by
  match k, h with
  | 0, h => cases h; exact ⟨[.T], _, List.mem_of_getElem? (i := 0) rfl, congrArg (Value.str · _) (by decide)⟩
  | 1, h => cases h; exact ⟨[.L], _, List.mem_of_getElem? (i := 1) rfl, congrArg (Value.str · _) (by decide)⟩
  | 2, h => cases h; exact ⟨[.I], _, List.mem_of_getElem? (i := 2) rfl, congrArg (Value.str · _) (by decide)⟩
  | 3, h => cases h; exact ⟨[.C], _, List.mem_of_getElem? (i := 3) rfl, congrArg (Value.str · _) (by decide)⟩
  | 4, h => cases h; exact ⟨[.P], _, List.mem_of_getElem? (i := 4) rfl, congrArg (Value.str · _) (by decide)⟩
  | 5, h => cases h; exact ⟨[.I, .I], _, List.mem_of_getElem? (i := 5) rfl, congrArg (Value.str · _) (by decide)⟩
  | 6, h => cases h; exact ⟨[.T, .I], _, List.mem_of_getElem? (i := 6) rfl, congrArg (Value.str · _) (by decide)⟩
  | 7, h => cases h; exact ⟨[.C, .L], _, List.mem_of_getElem? (i := 7) rfl, congrArg (Value.str · _) (by decide)⟩
  | k + 8, h => cases (show (none : Option Value) = some r from h)
theorem lotsK_len {ks : List Kd} (h : ks ∈ lotsK) : ks.length = 1 ∨ ks.length = 2 := by
  have e := List.all_eq_true.mp (show (lotsK.all fun ks => ks.length == 1 || ks.length == 2) = true from rfl) ks h
  simpa using e
theorem kstr_len (ks : List Kd) : (kstr ks).length = ks.length := by show (ks.map Kd.code).toArray.size = _; simp
theorem kstr_at {ks : List Kd} {i : Nat} {c : Nat} (h : (kstr ks).cps[i]? = some c) : ∃ k, ks[i]? = some k ∧ c = k.code := by
  have : (ks.map Kd.code).toArray[i]? = some c := h
  simp only [List.getElem?_toArray, List.getElem?_map] at this
  cases e : ks[i]? with
  | none => rw [e] at this; cases this
  | some k => rw [e] at this; exact ⟨k, rfl, (Option.some.inj this).symm⟩
theorem cols_get {ks : List Kd} {i : Nat} {k : Kd} (h : ks[i]? = some k) : (colsOf ks)[i]? = some (k, depOf k (dpOf ks) (dpOf ks)) := by unfold colsOf; rw [List.getElem?_map, h]; rfl
theorem psB_160 (k : Kd) {d : Nat} (h : d ≤ 2) : psB k d ≤ 160 := by
  unfold psB
  split
  · split <;> decide
  · have : 4 ^ d ≤ 4 ^ 2 := Nat.pow_le_pow_right (by decide) h; omega
theorem dp_le (ks : List Kd) : 1 ≤ dpOf ks ∧ dpOf ks ≤ 2 := by unfold dpOf; split <;> omega
theorem rows_nil (ks : List Kd) : RowsOk ks [] := ⟨fun r hr => (by cases hr), fun r hr => (by cases hr)⟩
noncomputable def LotAt (g : Kn) (v : Value) (lot : List Val) : Prop := ∃ xs, IsL g v xs ∧ All2 (ValAt g) xs lot
theorem LotAt.mono {g g' : Kn} {v : Value} {lot : List Val} (X : LotAt g v lot) (up : Up g g') : LotAt g' v lot := let ⟨xs, I, H⟩ := X; ⟨xs, I.mono up, H.imp fun _ _ z => z.mono up⟩
theorem vt_dep {k : Kd} {dp : Nat} {v : Val} (h : 1 ≤ dp) : VT k (depOf k dp dp + 1) v ↔ VT k (dp + 1) v := by
  cases k with
  | T => exact Iff.rfl
  | L => exact Iff.rfl
  | P => rw [show depOf .P dp dp = dp from by show max 1 dp = dp; omega]
  | I => exact ⟨vt_I, vt_I⟩
  | C => exact ⟨vt_C, vt_C⟩
theorem vec1 {k : Kd} {lot : List Val} : Vec (colsOf [k]) lot ↔ ∃ v, VT k 3 v ∧ lot = [v] := by
  constructor
  · intro h
    cases h with | cons a r => cases r; exact ⟨_, (vt_dep (dp := 2) (by decide)).mp a, rfl⟩
  · rintro ⟨v, hv, rfl⟩
    exact .cons ((vt_dep (dp := 2) (by decide)).mpr hv) .nil
theorem vec2 {k k' : Kd} {lot : List Val} : Vec (colsOf [k, k']) lot ↔ ∃ v v', VT k 2 v ∧ VT k' 2 v' ∧ lot = [v, v'] := by
  constructor
  · intro h
    cases h with
    | cons a r => cases r with
      | cons b r => cases r; exact ⟨_, _, (vt_dep (dp := 1) (by decide)).mp a, (vt_dep (dp := 1) (by decide)).mp b, rfl⟩
  · rintro ⟨v, v', hv, hv', rfl⟩
    exact .cons ((vt_dep (dp := 1) (by decide)).mpr hv) (.cons ((vt_dep (dp := 1) (by decide)).mpr hv') .nil)
theorem kstr_item {ks : List Kd} {i : Nat} {k : Kd} (h : ks[i]? = some k) : (seqIndex? (i : Int) (kstr ks).length).bind ((kstr ks).cps[·]?) = some k.code := by
  have hl : i < ks.length := (List.getElem?_eq_some_iff.mp h).1
  rw [seq_at (by rw [kstr_len, Int.toNat_natCast]; exact hl) (Int.natCast_nonneg i), Int.toNat_natCast]
  show (ks.map Kd.code).toArray[i]? = _
  simp [h]
/-! what holds between the turns of the law's loops -/
inductive LJA (prog : Program) (w : World) (D : Addr) (sv : Value) (cells : List (Addr × Obj)) (i : Nat) (g' : Kn) : List (Str × Value) → List (Addr × Obj) → Prop
  | mk (o : Obj) (ps junk : List (Str × Value)) (XP : OD (PySem.strKind prog w) o ps) (HT : TabAt i g' ps) : LJA prog w D sv cells i g' (("cons", .ref D) :: ("script", sv) :: junk) ((D, o) :: cells)
inductive LJB (L D : Addr) (sv : Value) : List (Str × Value) → List (Addr × Obj) → Prop
  | mk (junk : List (Str × Value)) (μ : List (Addr × Obj)) (HC : Cells L μ) : LJB L D sv (("cons", .ref D) :: ("script", sv) :: junk) μ
inductive LJR (S : Addr) (μ0 : List (Addr × Obj)) (ks : List Kd) (i : Nat) (g' : Kn) (ys : List Value) : List (Addr × Obj) → Prop
  | mk (o : Obj) (rs : List (List Pat)) (hS : SrcO o) (hy : ys.length = i) (H : All2 (RowAt g') ys rs) (RO : RowsOk ks rs) : LJR S μ0 ks i g' ys ((S, o) :: μ0)
inductive LJP (S : Addr) (μ0 : List (Addr × Obj)) (ks : List Kd) (i : Nat) (g' : Kn) (ys : List Value) : List (Addr × Obj) → Prop
  | mk (o : Obj) (ps : List Pat) (hS : SrcO o) (HP : All2 (PatAt g') ys ps) (HW : All2 (fun p (c : Col) => WT c.1 c.2 p ∧ psize p ≤ 160) ps ((colsOf ks).take i)) : LJP S μ0 ks i g' ys ((S, o) :: μ0)
inductive LQL (s : Shared) (w : World) (g : Kn) (h : Heap) (L : Addr) (g₉ : Kn) (bl : List (Str × Value)) (μ0 : List (Addr × Obj)) (ks : List Kd) : Flow → Shared → Prop
  | mk (g' : Kn) (h' : Heap) (t' : Nat) (lv : Value) (ws : List Value) (lots : List (List Val)) (up : Up g₉ g') (F : Fm [] w g h L g' h' (("lots", lv) :: bl) μ0) (IL : IsL g' lv ws) (HL : All2 (LotAt g') ws lots) (hm : ∀ lot, lot ∈ lots ↔ Vec (colsOf ks) lot) (hl : lots.length ≤ 2 ^ 18) :
    LQL s w g h L g₉ bl μ0 ks .next (St s h' t')
inductive LFin (μ0 : List (Addr × Obj)) (R : List Val → Prop) (n : Nat) (g' : Kn) (zs : List Value) : List (Addr × Obj) → Prop
  | mk (lots : List (List Val)) (HL : All2 (LotAt g') zs lots) (hm : ∀ lot, lot ∈ lots ↔ R lot) (hl : lots.length ≤ n) : LFin μ0 R n g' zs μ0
inductive LKN (μ0 : List (Addr × Obj)) (V0 : List Val) (k1 : Kd) (i j : Nat) (g' : Kn) (zs : List Value) : Nat → (Nat → Value → Prop) → List (Addr × Obj) → Prop
  | mk (ws2 : List Value) (W : List Val) (a : Val) (lots : List (List Val)) (hi : i < 512) (hj : j ≤ 512) (HW : All2 (ValAt g') ws2 W) (hmw : ∀ V, V ∈ W ↔ VT k1 2 V) (hlw : W.length ≤ 512) (ea : V0[i]? = some a) (HL : All2 (LotAt g') zs lots)
    (hml : ∀ lot, lot ∈ lots ↔ (∃ a' ∈ V0.take i, ∃ b, VT k1 2 b ∧ lot = [a', b]) ∨ ∃ b ∈ W.take j, lot = [a, b]) (hll : lots.length ≤ i * 512 + j) : LKN μ0 V0 k1 i j g' zs ws2.length (fun j x => ws2[j]? = some x) μ0
inductive LJX (prog : Program) (w : World) (L Df I2 D2 D : Addr) (o1 o2 o3 o5 o' : Obj) (tv lv ik sv : Value) (rs : List (List Pat)) (lots : List (List Val)) (td : Option (List Pat)) (j : Nat) : List (Str × Value) → List (Addr × Obj) → Prop
  | mk (o o4 : Obj) (v4 : Option Value) (kvs : List (Int × Value)) (e : Int) (te : Tok) (junk2 : List (Str × Value)) (d4 : o4.data = .cell v4) (XF : OD (PySem.intKind prog w) o kvs) (hkl : kvs.length ≤ j)
    (hkeys : ∀ n : Nat, n < rs.length → ((valueAt kvs (n : Int)).isSome = true ↔ ∃ lot ∈ lots.take j, FirstOf rs lot n)) (he0 : 0 ≤ e) (hex : (∃ lot ∈ lots.take j, exB td lot = true) → 0 < e) :
    LJX prog w L Df I2 D2 D o1 o2 o3 o5 o' tv lv ik sv rs lots td j (("examples", .int e te) :: ("told", tv) :: ("lots", lv) :: ("rows", .ref D2) :: ("k", ik) :: ("cons", .ref D) :: ("script", sv) :: junk2) [(L + 5, o5), (Df, o), (L + 3, o3), (L + 2, o2), (L + 1, o1), (I2, o'), (L + 4, o4)]
inductive LQK (prog : Program) (s : Shared) (w : World) (g : Kn) (h : Heap) (L : Addr) (g₁₃ : Kn) (l : List (Str × Value)) (Df : Addr) (μ0 : List (Addr × Obj)) (rs : List (List Pat)) (lot : List Val) (kvs : List (Int × Value)) (j : Nat) : Flow → Shared → Prop
  | mk (h' : Heap) (t' : Nat) (odf' : Obj) (kvs' : List (Int × Value)) (F : Fm [] w g h L g₁₃ h' l ((Df, odf') :: μ0)) (XF : OD (PySem.intKind prog w) odf' kvs') (hkl : kvs'.length ≤ j + 1)
    (hk : ∀ n : Nat, n < rs.length → ((valueAt kvs' (n : Int)).isSome = true ↔ (valueAt kvs (n : Int)).isSome = true ∨ FirstOf rs lot n)) : LQK prog s w g h L g₁₃ l Df μ0 rs lot kvs j .next (St s h' t')
inductive LQE (s : Shared) (w : World) (g : Kn) (h : Heap) (L : Addr) (g₁₃ : Kn) (l : List (Str × Value)) (μ0 : List (Addr × Obj)) (b : Bool) : Value → Shared → Prop
  | mk (g' : Kn) (h' : Heap) (t' : Nat) (up : Up g₁₃ g') (F : Fm [] w g h L g' h' l μ0) : LQE s w g h L g₁₃ l μ0 b (.bool b) (St s h' t')
inductive LQF (s : Shared) (w : World) (g : Kn) (h : Heap) (L : Addr) (g₁₄ : Kn) (l : List (Str × Value)) (μ0 : List (Addr × Obj)) : Bool → Shared → Prop
  | mk (b : Bool) (e : b = false) (h' : Heap) (t' : Nat) (F : Fm [] w g h L g₁₄ h' l μ0) : LQF s w g h L g₁₄ l μ0 b (St s h' t')
theorem law_spec {prog : Program} {w : World} {A : Around} {s : Shared} {g : Kn} {h : Heap} {t : Nat} {sv : Value} {vs : List Value} {ns : List Int} (R : Room A 690) (gd : Gd w g) (sub : Sub g h)
    (I : ScriptAt g sv vs) (HI : IntsAre vs ns) (hl : vs.length ≤ 1000) :
    wpAny (model prog w) A (call (.ref 548) [sv]) (Ret [] g s h (fun _ _ r => r = .bool true)) NoE (St s h t) := by
  refine' m_enterX (μ := []) [("script", sv)] [] gd sub (by simp) (by simp) ?ho ?hcd ?hroom ?hbind ?hkind ?hl ?hcs ?hco ?hgen ?hk ?hb
  case ho => k_is
  case hcd => k_is
  case hroom => have hR := R.d; omega
  case hbind => exact rfl
  case hkind => exact rfl
  case hl => exact rfl
  case hcs => exact rfl
  case hco => exact rfl
  case hgen => exact rfl
  case hk => exact rfl
  try clear F
  intro L h₁ t₁ F hc hg
  refine' hideF ?_
  intro _ _
  have c1 := hc "source" (L + 1) rfl
  have c2 := hc "kinds" (L + 2) rfl
  have c3 := hc "deep" (L + 3) rfl
  have c4 := hc "lot" (L + 4) rfl
  have c5 := hc "firsts" (L + 5) rfl
  have hgk : ∀ k : Nat, L < L + (k + 1) := fun k => Nat.lt_add_of_pos_right (Nat.succ_pos k)
  have hne : ∀ (i j : Nat), i ≠ j → @Ne Addr (L + i : Nat) (L + j : Nat) := fun i j h => ad_k h
  have Fz := F.addcell c1 (hgk 0) (hg _ (hgk 0)).1 (by simp)
  clear F
  obtain ⟨o1, d1, F⟩ := Fz
  have Fz := F.addcell c2 (hgk 1) (hg _ (hgk 1)).1 (by simpa using hne 2 1 (by decide))
  clear F
  obtain ⟨o2, d2, F⟩ := Fz
  have Fz := F.addcell c3 (hgk 2) (hg _ (hgk 2)).1 (by simpa using ⟨hne 3 2 (by decide), hne 3 1 (by decide)⟩)
  clear F
  obtain ⟨o3, d3, F⟩ := Fz
  have Fz := F.addcell c4 (hgk 3) (hg _ (hgk 3)).1 (by simpa using ⟨hne 4 3 (by decide), hne 4 2 (by decide), hne 4 1 (by decide)⟩)
  clear F
  obtain ⟨o4, d4, F⟩ := Fz
  have Fz := F.addcell c5 (hgk 4) (hg _ (hgk 4)).1 (by simpa using ⟨hne 5 4 (by decide), hne 5 3 (by decide), hne 5 2 (by decide), hne 5 1 (by decide)⟩)
  clear F
  obtain ⟨o5, d5, F⟩ := Fz
  repeat walk_at "M"
  have HC : Cells L [(L + 5, o5), (L + 4, o4), (L + 3, o3), (L + 2, o2), (L + 1, o1)] := .mk _ _ _ _ _ _ _ _ _ _ d1 d2 d3 d4 d5
  generalize [(L + 5, o5), (L + 4, o4), (L + 3, o3), (L + 2, o2), (L + 1, o1)] = cells at F HC
  clear d1 d2 d3 d4 d5 c1 c2 c3 c4 c5 hc hg hgk
  walk_at "kx"; refine' d_new F (PySem.strKind prog w) ?_
  try clear F
  intro D h₂ od F XD hD
  repeat walk_at "M"
  rename Fm _ _ _ _ _ _ _ _ _ => F
  walk_at "kx"; refine' d_item (kinds_at (prog := prog) F.k) (k := Kd.T.name) (by rfl) (kinds_val (k := .T) (by decide)) (by intro _; with_unfolding_all rfl) ?_
  intro t₃
  repeat walk_at "M"
  walk_at "kx"; refine' c_enum F (kinds_T F.gd) ?_
  try clear F
  intro z is h₃ fp T wr F hm It T0 hfp self
  refine self _ _ _ _ ?_
  walk_at "kx"; refine' for_run2 (It _ R.hh) R.hh hm F T0 hfp (LJA prog w D sv cells) (.mk od [] [] XD rfl) ?turn ?done
  case turn =>
    try clear F
    intro i a b g' h' t' l' μ' is' hi hP up hJ F Kp kn kr
    cases hJ with
    | mk o ps junk XP HT =>
    obtain ⟨⟨ta, rfl⟩, hb⟩ := hP
    have hcb : ∃ c : Cn, b = .ref c.adr ∧ ((i = 0 ∧ c = .a) ∨ (i = 1 ∧ c = .b)) := by
      exact (two_get hb).elim (fun q => ⟨.a, q.2, .inl ⟨q.1, rfl⟩⟩) fun q => ⟨.b, q.2, .inr ⟨q.1, rfl⟩⟩
    obtain ⟨c, rfl, hic⟩ := hcb
    replace F : Fm _ _ _ _ _ _ _ (("cons", .ref D) :: ("script", sv) :: junk) ((D, o) :: (cells ++ is')) := F.comm
    repeat walk_at "M"
    rename Fm _ _ _ _ _ _ _ _ _ => F
    have IT : ∀ {g : Kn}, Gd w g → IsT g (.ref c.adr) [.str c.name c.tk1, .str c.flds c.tk2] := fun G => ⟨_, 0, rfl, tup_at G c⟩
    walk_at "kx"; refine' m_putitem rfl ?_
    repeat walk_at "M"
    walk_at "kx"; refine' t_item F (IT F.gd) (by decide) (by decide) rfl (by intro _; with_unfolding_all rfl) ?_
    repeat walk_at "M"
    walk_at "kx"; refine' t_item F (IT F.gd) (by decide) (by decide) rfl (by intro _; with_unfolding_all rfl) ?_
    repeat walk_at "M"
    have hfl : c.flds.length = c.ar := by (generalize c = c; induction c <;> decide)
    walk_at "kx"; refine' s_len (by rw [hfl]; exact Nat.le_trans (Cn.ar_le c) (by decide)) ?_
    intro tl tl'
    repeat walk_at "M"
    walk_at "kx"; refine' m_newlist F (Nat.le_of_ble_eq_true rfl) ?_
    try clear F
    intro a1 h₄ F ha1
    have Fz := F.lay ha1
    clear F
    obtain ⟨g₁, up1, IL1, F⟩ := Fz
    repeat walk_at "M"
    walk_at "kx"; refine ⟨F.k, ?_⟩
    walk_at "kx"; refine m_use (mk_coninfo (R.dl (by omega)) F.gd F.sub) fun _ _ r1 g₂ h₅ t₅ G1 o1 => ?_
    obtain ⟨ai, rfl, II⟩ := o1
    replace F := F.call G1
    repeat walk_at "M"
    walk_at "kx"; refine' t_item F (IT F.gd) (by decide) (by decide) rfl (by intro _; with_unfolding_all rfl) ?_
    walk_at "kx"; refine' d_put F XP (k := c.name) (by simp [PySem.strKind, Value.isStrOf]) (by
      rcases hic with ⟨rfl, rfl⟩ | ⟨rfl, rfl⟩
      · rw [show ps = [] from HT]; simp
      · obtain ⟨va, e, _⟩ := HT; rw [e]; simp) ?_
    try clear F
    intro h₈ o₈ t₈ F XP
    repeat walk_at "M"
    have INF : InfoAt g₂ (.ref ai) c.ar i := ⟨_, _, _, _, _, _, _, _, _, rfl, by rw [← hfl]; exact II⟩
    replace F := F.comm (xs := (D, o₈) :: cells)
    walk_at "kx"; refine kn g₂ _ _ _ _ (fun a y e => G1.up _ _ (up1 _ _ e)) (F.relook (l' := ("cons", .ref D) :: ("script", sv) :: ("pair", .ref c.adr) :: ("tag", .int i ta) :: ("cons", .ref D) :: ("script", sv) :: junk) fun y => lk_base (b := [("cons", .ref D), ("script", sv)]) (st := [("pair", .ref c.adr), ("tag", .int i ta)]) junk rfl y) (.mk o₈ _ _ XP ?_)
    rcases hic with ⟨rfl, rfl⟩ | ⟨rfl, rfl⟩
    · rw [show ps = [] from HT]
      exact ⟨_, rfl, INF⟩
    · obtain ⟨va, e, IA⟩ := HT
      subst e
      exact ⟨va, _, rfl, (IA.mono up1).mono G1.up, INF⟩
  case done =>
    try clear F
    intro g' h' t' l' μ' up hJ F
    cases hJ with
    | mk o ps junk XP HT =>
    obtain ⟨va, vb, rfl, IA, IB⟩ : ∃ va vb, ps = abK va vb ∧ InfoAt g' va 0 0 ∧ InfoAt g' vb 2 1 := HT
    have Fz := F.freeze hD
    clear F
    obtain ⟨g₁, up1, gD, _, F⟩ := Fz
    have CO : ConsAt prog w g₁ (.ref D) := ⟨D, o, va, vb, rfl, gD, XP, Nat.le_trans F.lo hD, IA.mono up1, IB.mono up1⟩
    replace I := (I.mono (fun a y e => F.up a y e) : ScriptAt g₁ sv vs)
    clear XP XD gD IA IB
    change Fm _ _ _ _ _ _ _ (("cons", .ref D) :: ("script", sv) :: junk) _ at F
    obtain ⟨sa, so, rfl, gso, hso⟩ := id I
    repeat walk_at "M"
    walk_at "kx"; refine' list_len (⟨so, F.sub _ _ gso, hso.1, hso.2⟩) (by omega) ?_
    intro tl tl'
    repeat walk_at "M"
    walk_at "kx"; refine' i_min R.hh F ?_
    try clear F
    intro h₃ t₃ u₃ F
    repeat walk_at "M"
    walk_at "kx"; refine' i_max R.hh F ?_
    try clear F
    intro h₄ t₄ u₄ F
    repeat walk_at "M"
    walk_at "kx"; refine' r_call1 F ?_
    try clear F
    intro r h₅ t₅ b1 b2 b3 F hr
    walk_at "kx"; refine' it_range R.hh F hr (by decide) (by omega) (by omega) ?_
    try clear F
    intro I2 oI h₆ fp2 T2 F It2 T20 hfp2
    walk_at "kx"; refine' for_run It2 F T20 hfp2 ?hx rfl rfl (fun _ _ => LJB L D (.ref sa)) (.mk _ _ HC) ?turn ?done
    case hx => exact rfl
    case turn =>
      clear It2 T20 hfp2 HC self hfp T0 It
      try clear F
      intro i kv g' h' t' l' μ' o' hi hP up hJ F Kp kn kr
      cases hJ with
      | mk junk μ' HC =>
      cases HC with
      | mk o1 o2 o3 o4 o5 v1 v2 v3 v4 v5 d1 d2 d3 d4 d5 =>
      obtain ⟨tki, rfl⟩ := hP
      rw [Int.zero_add] at F
      replace CO := CO.mono up
      replace I := I.mono up
      clear gso
      repeat walk_at "M"
      walk_at "kx"; refine ⟨F.k, ?_⟩
      walk_at "kx"; refine m_use (pool_spec (R.dl (by omega)) F.gd F.sub I HI hl (by omega)) fun _ _ r1 g₂ h₂ t₂ G1 o6 => ?_
      obtain ⟨S, so', rfl, hS, hSO, gS, hSs⟩ := o6
      replace F := F.fresh G1 hS gS hSs
      replace CO := CO.mono G1.up
      replace I := I.mono G1.up
      replace F : Fm _ _ _ _ _ _ _ _ ((L + 1, o1) :: (S, so') :: (I2, o') :: (L + 5, o5) :: (L + 4, o4) :: (L + 3, o3) :: (L + 2, o2) :: []) := F.pull 6 (Nat.le_of_ble_eq_true rfl)
      walk_at "kx"; refine' m_storeC F d1 rfl rfl rfl ?_
      try clear F
      intro h₃ o1 d1 F
      repeat walk_at "M"
      walk_at "kx"; refine' m_cellM F (.head _) d1 rfl rfl rfl rfl ?_
      repeat walk_at "M"
      walk_at "kx"; refine ⟨F.k, ?_⟩
      replace F : Fm _ _ _ _ _ _ _ _ ((S, so') :: (L + 1, o1) :: (I2, o') :: (L + 5, o5) :: (L + 4, o4) :: (L + 3, o3) :: (L + 2, o2) :: []) := F.swap
      walk_at "kx"; refine m_use (one_spec (R.dl (by omega)) F.gd F.sub ⟨(F.mu _ (.head _)).2.1, so', (F.mu _ (.head _)).1, hSO⟩ (lots_at F.gd) (by decide) (by decide)) fun _ _ r6 g₃ h₄ t₄ G2 o6 => ?_
      obtain ⟨⟨so', hS, hSO⟩, kk, hkk⟩ := o6
      replace F := F.callM G2 hS
      replace CO := CO.mono G2.up
      replace I := I.mono G2.up
      obtain ⟨ks, ku, hks, rfl⟩ := lots_get hkk
      have hksl := lotsK_len hks
      replace F : Fm _ _ _ _ _ _ _ _ ((L + 2, o2) :: (S, so') :: (L + 1, o1) :: (I2, o') :: (L + 5, o5) :: (L + 4, o4) :: (L + 3, o3) :: []) := F.pull 6 (Nat.le_of_ble_eq_true rfl)
      walk_at "kx"; refine' m_storeC F d2 rfl rfl rfl ?_
      try clear F
      intro h₅ o2 d2 F
      repeat ((fail_if_success (with_reducible show wpAny _ _ (eval (Expr.IfExp _ _ _ _) _) _ _ _)); walk_at "M")
      refine wpAny_mono (Q := fun v s' => ∃ (t' : Nat) (u : Tok), s' = St s h₅ t' ∧ v = .int (dpOf ks : Nat) u) ?_ (fun v s' hz => ?_) (fun _ _ e => e)
      · walk_at "M"
        repeat walk_at "M"
        walk_at "kx"; refine' m_cellM F (.head _) d2 rfl rfl rfl rfl ?_
        repeat walk_at "M"
        walk_at "kx"; refine' s_len (by rw [kstr_len]; omega) ?_
        intro _ _
        rw [kstr_len]
        repeat walk_at "M"
        walk_at "kx"; refine ⟨fun hb => ?_, fun hb => ?_⟩
        · have e1 : ks.length = 1 := by have := eq_of_beq hb; omega
          repeat walk_at "M"
          rw [show dpOf ks = 2 from if_pos e1]
          exact ⟨_, _, rfl, rfl⟩
        · have e1 : ks.length ≠ 1 := by intro q; rw [q] at hb; exact absurd hb (by decide)
          repeat walk_at "M"
          rw [show dpOf ks = 1 from if_neg e1]
          exact ⟨_, _, rfl, rfl⟩
      obtain ⟨t₅, ud, rfl, rfl⟩ := hz
      have hdp := dp_le ks
      replace F : Fm _ _ _ _ _ _ _ _ ((L + 3, o3) :: (L + 2, o2) :: (S, so') :: (L + 1, o1) :: (I2, o') :: (L + 5, o5) :: (L + 4, o4) :: []) := F.pull 6 (Nat.le_of_ble_eq_true rfl)
      walk_at "kx"; refine' m_storeC F d3 rfl rfl rfl ?_
      try clear F
      intro h₆ o3 d3 F
      replace F : Fm _ _ _ _ _ _ _ _ ((S, so') :: (L + 3, o3) :: (L + 2, o2) :: (L + 1, o1) :: (I2, o') :: (L + 5, o5) :: (L + 4, o4) :: []) := F.pull 2 (Nat.le_of_ble_eq_true rfl)
      repeat walk_at "M"
      walk_at "kx"; refine' m_cellM F (.tail _ (.tail _ (.tail _ (.head _)))) d1 rfl rfl rfl rfl ?_
      repeat walk_at "M"
      walk_at "kx"; refine ⟨F.k, ?_⟩
      walk_at "kx"; refine m_use (take_spec (R.dl (by omega)) F.gd F.sub ⟨(F.mu _ (.head _)).2.1, so', (F.mu _ (.head _)).1, hSO⟩ (by decide) (by decide)) fun _ _ r7 g₄ h₇ t₇ G3 o7 => ?_
      obtain ⟨⟨so', hS, hSO⟩, kk3, u3, rfl, k30, k31⟩ := o7
      replace F := F.callM G3 hS
      replace CO := CO.mono G3.up
      replace I := I.mono G3.up
      obtain ⟨n3, rfl⟩ := Int.eq_ofNat_of_zero_le k30
      repeat walk_at "M"
      rw [show ((1 : Int) + ((n3 : Nat) : Int)) = ((n3 + 1 : Nat) : Int) by omega]
      walk_at "kx"; refine' r_call1 F ?_
      try clear F
      intro r h₈ t₈ b1 b2 b3 F hr
      walk_at "kx"; refine' it_range R.hh F hr (by decide) (by omega) (by omega) ?_
      try clear F
      intro I3 oI3 h₉ fp3 T3 F It3 T30 hfp3
      rw [show (((n3 + 1 : Nat) : Int) - 0).toNat = n3 + 1 by omega] at It3
      walk_at "kx"; refine' comp_asg (μm := [(S, so'), (L + 3, o3), (L + 2, o2), (L + 1, o1)]) (μr := [(I2, o'), (L + 5, o5), (L + 4, o4)]) It3 (by omega) F T30 hfp3 ?hcell ?hkind ?hx ?hkk rfl ?hy
        (fun i g' μ' ys => LJR S [(L + 3, o3), (L + 2, o2), (L + 1, o1)] ks i g' ys μ') (.mk so' [] hSO rfl .nil (rows_nil ks)) ?turnR ?hJ ?doneR
      case hcell => decide
      case hkind => exact rfl
      case hkk => exact rfl
      case hy => exact rfl
      case hx => exact rfl
      case hJ => intro i g' μ' ys h; cases h; rfl
      case turnR =>
        try clear F
        intro C D2 i v g' h' t' μ' ys m oo hi hP up hJ hC F KT KN kt kn
        cases hJ with
        | mk so' rs hSO hyl HRS hRO =>
        refine ifs_nil ⟨fun _ => ?_, fun e => Bool.noConfusion e⟩
        repeat walk_at "M"
        walk_at "kx"; refine' m_cellM F (.tail _ (.tail _ (.tail _ (.tail _ (.head _))))) d2 rfl rfl rfl rfl ?_
        walk_at "kx"; refine' it_str R.hh F ?_
        try clear F
        intro I4 o4' h₁₀ fp4 T4 F It4 T40 hfp4
        have esz : (kstr ks).cps.size = ks.length := kstr_len ks
        rw [esz] at It4
        replace F : Fm _ _ _ _ _ _ _ _ ((I4, o4') :: ([(S, so'), (L + 3, o3), (L + 2, o2), (L + 1, o1)] ++ [(D2, listO ys m), (I3, oo)])) := F.perm (.cons _ (List.perm_append_comm (l₁ := [_, _])))
        walk_at "kx"; refine' comp_val (μm := [(S, so'), (L + 3, o3), (L + 2, o2), (L + 1, o1)]) (μr := [(D2, listO ys m), (I3, oo)]) It4 (by omega) F T40 hfp4 ?hcell ?hkind ?hx
          (fun i g' μ' ys => LJP S [(L + 3, o3), (L + 2, o2), (L + 1, o1)] ks i g' ys μ') (.mk so' [] hSO .nil .nil) ?turnP ?hJ ?doneP
        case hcell => decide
        case hkind => exact rfl
        case hx => exact rfl
        case hJ => intro i g' μ' ys h; cases h; rfl
        case turnP =>
          try clear F
          intro C2 D3 j v2 g'' h'' t'' μ'' zs m2 oo2 hj hP2 up2 hJ2 hC2 F KT KN kt kn
          cases hJ2 with
          | mk so' ps hSO HPS HWT =>
          obtain ⟨cp, u4, ecp, rfl⟩ := hP2
          obtain ⟨kd, ekd, rfl⟩ := kstr_at ecp
          have ekn : (⟨#[kd.code]⟩ : Str) = kd.name := kd.code_name
          rw [ekn] at F kt
          refine ifs_nil ⟨fun _ => ?_, fun e => Bool.noConfusion e⟩
          repeat walk_at "M"
          walk_at "kx"; refine' m_cellM F (.tail _ (.tail _ (.tail _ (.tail _ (.tail _ (.head _)))))) d1 rfl rfl rfl rfl ?_
          repeat walk_at "M"
          walk_at "kx"; refine' m_cellM F (.tail _ (.tail _ (.tail _ (.head _)))) d3 rfl rfl rfl rfl ?_
          repeat walk_at "M"
          walk_at "kx"; refine' m_cellM F (.tail _ (.tail _ (.tail _ (.head _)))) d3 rfl rfl rfl rfl ?_
          repeat walk_at "M"
          replace F := F.third
          walk_at "kx"; refine ⟨F.k, ?_⟩
          walk_at "kx"; refine m_use (pattern_spec 20 _ s g'' _ _ S kd (dpOf ks) (dpOf ks) _ _ _ (R.dl (by omega)) F.gd F.sub ⟨(F.mu _ (.head _)).2.1, so', (F.mu _ (.head _)).1, hSO⟩ (by omega) (by omega) (by split <;> omega)) fun _ _ r2 g₆ h₉ t₉ G2 o2 => ?_
          obtain ⟨⟨o7, hS7, hO7⟩, p, PP, hWT, hsz⟩ := o2
          replace F := (F.callM G2 hS7).third'
          walk_at "kx"; first | refine kt _ g₆ _ _ _ G2.up F (.mk o7 (ps ++ [p]) hO7 ((HPS.imp fun _ _ z => z.mono G2.up).snoc PP) ?_) | refine kn g₆ _ _ _ G2.up F (.mk o7 (ps ++ [p]) hO7 ((HPS.imp fun _ _ z => z.mono G2.up).snoc PP) ?_)
          rw [take_snoc (cols_get ekd)]
          exact HWT.snoc ⟨hWT, Nat.le_trans hsz (psB_160 kd hdp.2)⟩
        case doneP =>
          try clear F
          intro D3 g'' h'' t'' μ'' zs m2 up2 hJ2 hy2 hD2 F
          cases hJ2 with
          | mk so' ps hSO HPS HWT =>
          have Fz := F.lay hD2
          clear F
          obtain ⟨g₆, up6, IL6, F⟩ := Fz
          have ecl : (colsOf ks).length = ks.length := List.length_map ..
          rw [List.take_of_length_le (by omega)] at HWT
          replace F : Fm _ _ _ _ _ _ _ _ ([(D2, listO ys m), (I3, oo)] ++ [(S, so'), (L + 3, o3), (L + 2, o2), (L + 1, o1)]) := F.comm (xs := [(S, so'), (L + 3, o3), (L + 2, o2), (L + 1, o1)])
          walk_at "kx"; first | refine kt _ g₆ _ _ _ (fun a y e => up6 _ _ (up2 _ _ e)) F (.mk so' (rs ++ [ps]) hSO (by simp [hyl]) ((HRS.imp fun _ _ z => (z.mono up2).mono up6).snoc ⟨zs, IL6, HPS.imp fun _ _ z => z.mono up6⟩) ⟨fun r hr => ?_, fun r hr p hp => ?_⟩) | refine kn g₆ _ _ _ (fun a y e => up6 _ _ (up2 _ _ e)) F (.mk so' (rs ++ [ps]) hSO (by simp [hyl]) ((HRS.imp fun _ _ z => (z.mono up2).mono up6).snoc ⟨zs, IL6, HPS.imp fun _ _ z => z.mono up6⟩) ⟨fun r hr => ?_, fun r hr p hp => ?_⟩)
          · rcases List.mem_append.mp hr with q | q
            · exact hRO.1 r q
            · rw [List.mem_singleton.mp q]; exact HWT.imp fun _ _ z => z.1
          · rcases List.mem_append.mp hr with q | q
            · exact hRO.2 r q p hp
            · rw [List.mem_singleton.mp q] at hp
              obtain ⟨ii, hii⟩ := List.getElem?_of_mem hp
              obtain ⟨_, _, z⟩ := HWT.get hii
              exact z.2
      case doneR =>
        try clear F
        intro D2 g₅ h₁₀ t₁₀ μ' ys m up5 hJ hy hD2 F
        cases hJ with
        | mk so' rs hSO hyl HRS hRO =>
        have hrl := HRS.length
        have Fz := F.lay hD2
        clear F
        obtain ⟨g₆, up6, IL6, F⟩ := Fz
        have HR : RowsAt g₆ (.ref D2) rs := ⟨ys, IL6, HRS.imp fun _ _ z => z.mono up6⟩
        replace CO := (CO.mono up5).mono up6
        replace I := (I.mono up5).mono up6
        have upT : ∀ a y, g' a = some y → g₆ a = some y := fun a y e => up6 _ _ (up5 _ _ (G3.up _ _ (G2.up _ _ (G1.up _ _ e))))
        clear It3 T30 hfp3 HRS hr up5 up6 hkk
        replace F : Fm _ _ _ _ _ _ _ _ ((L + 3, o3) :: (L + 2, o2) :: (L + 1, o1) :: (I2, o') :: (L + 5, o5) :: (L + 4, o4) :: []) := F.drop
        obtain ⟨k0, kr, hk0⟩ : ∃ k0 kr, ks = k0 :: kr := by
          cases ks with
          | nil => simp at hksl
          | cons a b => exact ⟨a, b, rfl⟩
        have ek0 : ks[0]? = some k0 := by rw [hk0]; rfl
        repeat walk_at "M"
        walk_at "kx"; refine' m_cellM F (.tail _ (.head _)) d2 rfl rfl rfl rfl ?_
        repeat walk_at "M"
        walk_at "kx"; refine' s_item (by decide) (by decide) (kstr_item ek0) (by with_unfolding_all rfl) ?_
        intro _ _
        rw [Kd.code_name]
        repeat walk_at "M"
        walk_at "kx"; refine' m_cellM F (.head _) d3 rfl rfl rfl rfl ?_
        repeat walk_at "M"
        rw [show (((dpOf ks : Nat) : Int) + 1) = ((dpOf ks + 1 : Nat) : Int) by omega]
        walk_at "kx"; refine ⟨F.k, ?_⟩
        walk_at "kx"; refine m_use (vals_spec (dpOf ks + 1) (by omega) _ s g₆ _ _ k0 _ _ (R.dl (by omega)) F.gd F.sub) fun _ _ r8 g₇ h₁₁ t₁₁ G4 o8 => ?_
        obtain ⟨ws0, V0, IL0, HV0, hm0, hlen0, _⟩ := o8
        replace F := F.call G4
        replace CO := CO.mono G4.up
        replace I := I.mono G4.up
        replace HR := HR.mono G4.up
        have hwl0 := HV0.length
        have h83 : 8 ^ (dpOf ks + 1 + 1) ≤ 8 ^ 4 := Nat.pow_le_pow_right (by decide) (by omega)
        walk_at "kx"; refine' it_list R.hh F IL0 ?_
        try clear F
        intro I5 o5' h₁₂ fp5 T5 F It5 T50 hfp5
        walk_at "kx"; refine' comp_asg (μm := []) (μr := (L + 3, o3) :: (L + 2, o2) :: (L + 1, o1) :: (I2, o') :: (L + 5, o5) :: (L + 4, o4) :: []) It5 (by omega) F T50 hfp5 ?hcell ?hkind ?hx ?hkk rfl ?hy
          (fun i g' μ' ys => μ' = [] ∧ All2 (LotAt g') ys ((V0.take i).map fun v => [v])) ⟨rfl, .nil⟩ ?turnV ?hJ ?doneV
        case hcell => decide
        case hkind => exact rfl
        case hkk => exact rfl
        case hy => exact rfl
        case hx => exact rfl
        case hJ => intro i g' μ' ys h; rw [h.1]
        case turnV =>
          try clear F
          intro C D3 i v g' h' t' μ' ys m oo hi hP up hJ hC F KT KN kt kn
          obtain ⟨rfl, HL⟩ := hJ
          obtain ⟨V, eV, VA⟩ := HV0.get hP
          refine ifs_nil ⟨fun _ => ?_, fun e => Bool.noConfusion e⟩
          repeat walk_at "M"
          walk_at "kx"; refine' m_newlist F (Nat.le_of_ble_eq_true rfl) ?_
          try clear F
          intro a1 h₁₃ F ha1
          have Fz := F.lay ha1
          clear F
          obtain ⟨g₈, up8, IL8, F⟩ := Fz
          walk_at "kx"; first | refine kt _ g₈ _ _ ([]) up8 F ⟨rfl, ?_⟩ | refine kn g₈ _ _ ([]) up8 F ⟨rfl, ?_⟩
          rw [map_snoc eV]
          exact (HL.imp fun _ _ z => z.mono up8).snoc ⟨_, IL8, .cons ((VA.mono up).mono up8) .nil⟩
        case doneV =>
          try clear F
          intro D3 g₈ h₁₃ t₁₃ μ' ys1 m up8 hJ hy hD3 F
          obtain ⟨rfl, HL1⟩ := hJ
          rw [List.take_of_length_le (by omega)] at HL1
          have Fz := F.lay hD3
          clear F
          obtain ⟨g₉, up9, IL9, F⟩ := Fz
          replace HL1 := HL1.imp fun _ _ z => LotAt.mono z up9
          have hl1 := HL1.length
          rw [List.length_map] at hl1
          replace HR := (HR.mono up8).mono up9
          replace CO := (CO.mono up8).mono up9
          replace I := (I.mono up8).mono up9
          replace F : Fm _ _ _ _ _ _ _ _ ((L + 3, o3) :: (L + 2, o2) :: (L + 1, o1) :: (I2, o') :: (L + 5, o5) :: (L + 4, o4) :: []) := F
          refine m_cons (wpAny_mono (Q := LQL s w g h L g₉ (("rows", .ref D2) :: ("k", .int ((i : Nat) : Int) tki) :: ("cons", .ref D) :: ("script", .ref sa) :: junk) ((L + 3, o3) :: (L + 2, o2) :: (L + 1, o1) :: (I2, o') :: (L + 5, o5) :: (L + 4, o4) :: []) ks) ?_ (fun f s' hz => ?_) (fun _ _ e => e))
          · refine x_if ?_
            repeat walk_at "M"
            walk_at "kx"; refine' m_cellM F (.tail _ (.head _)) d2 rfl rfl rfl rfl ?_
            repeat walk_at "M"
            walk_at "kx"; refine' s_len (by rw [kstr_len]; omega) ?_
            intro _ _
            rw [kstr_len]
            repeat walk_at "M"
            walk_at "kx"; refine ⟨fun hb => ?_, fun hb => ?_⟩
            · have e2 : ks.length = 2 := by have := eq_of_beq hb; omega
              obtain ⟨k1, rfl⟩ : ∃ k1, kr = [k1] := by
                rw [hk0] at e2
                exact List.length_eq_one_iff.mp (Nat.succ.inj e2)
              have hd1 : dpOf ks = 1 := if_neg (by omega)
              repeat walk_at "M"
              have h512 : V0.length ≤ 512 := by rw [hd1] at hlen0; exact hlen0
              walk_at "kx"; refine' it_list R.hh F IL9 ?_
              try clear F
              intro I6 o6' h₁₄ fp6 T6 F It6 T60 hfp6
              rw [show ys1.length = V0.length by omega] at It6
              walk_at "kx"; refine' gen_asg (μI := [(I6, o6'), (L + 3, o3), (L + 2, o2)]) (μr := [(L + 1, o1), (I2, o'), (L + 5, o5), (L + 4, o4)]) F (fun h₁ old t' E' Q' q => It6.W.self 0 _ _ _ (It6.W.frame 0 _ _ T60 fun b _ y e => old b y e) q) ?hcell ?hkind ?hkk rfl ?hy
                (fun g' μ' zs => LFin [(L + 3, o3), (L + 2, o2)] (Vec (colsOf ks)) (2 ^ 18) g' zs μ') ?run ?done3
              case hcell => decide
              case hkind => exact rfl
              case hkk => exact rfl
              case hy => exact rfl
              case run =>
                intro C D' h₁' t₁' hC old FI
                walk_at "kx"; refine' comp_nest It6 FI (It6.W.frame 0 _ _ T60 fun b _ y e => old b y e) hfp6 (lookup_relabel_local rfl) (lookup_relabel_local rfl) (by decide) rfl rfl (fun _ => rfl)
                  (fun i g' μ' zs => LFin [(L + 3, o3), (L + 2, o2)] (fun lot => ∃ a ∈ V0.take i, ∃ b, VT k1 2 b ∧ lot = [a, b]) (i * 512) g' zs μ')
                  (fun i v n2 P2 j g' μ' zs => LKN [(L + 3, o3), (L + 2, o2)] V0 k1 i j g' zs n2 P2 μ')
                  (.mk [] .nil (fun lot => by simp) (by simp)) ?src ?el ?close ?small ?fin
                case src =>
                  try clear F
                  intro i v g' h' t' l' μ' zs m oo hi hP up hJ F KI ki
                  cases hJ with
                  | mk lots HL hml hll =>
                  have ek1 : ks[1]? = some k1 := by rw [hk0]; rfl
                  repeat walk_at "M"
                  walk_at "kx"; refine' m_cellM F (.tail _ (.tail _ (.tail _ (.head _)))) d2 rfl rfl rfl rfl ?_
                  repeat walk_at "M"
                  walk_at "kx"; refine' s_item (by decide) (by decide) (kstr_item ek1) (by with_unfolding_all rfl) ?_
                  intro _ _
                  rw [Kd.code_name]
                  repeat walk_at "M"
                  walk_at "kx"; refine' m_cellM F (.tail _ (.tail _ (.head _))) d3 rfl rfl rfl rfl ?_
                  repeat walk_at "M"
                  rw [show (((dpOf ks : Nat) : Int) + 1) = ((dpOf ks + 1 : Nat) : Int) by omega]
                  walk_at "kx"; refine ⟨F.k, ?_⟩
                  walk_at "kx"; refine m_use (vals_spec (dpOf ks + 1) (by omega) _ s g' _ _ k1 _ _ (R.dl (by omega)) F.gd F.sub) fun _ _ r8 g₃ h₁₁ t₁₁ G4 o8 => ?_
                  obtain ⟨ws2, W, IL2, HW, hmw, hlw, _⟩ := o8
                  rw [hd1] at hmw hlw
                  replace F := F.call G4
                  walk_at "kx"; refine' it_list R.hh F IL2 ?_
                  try clear F
                  intro I7 o7' h₁₅ fp7 T7 F It7 T70 hfp7
                  have hi' : i < V0.length := hi
                  exact ki I7 o7' fp7 _ _ T7 g₃ _ _ _ G4.up It7 T70 hfp7 F (.mk ws2 W _ lots (by omega) (by omega) HW hmw hlw (List.getElem?_eq_getElem hi') (HL.imp fun _ _ z => z.mono G4.up) (fun lot => by rw [hml lot]; simp) hll)
                case el =>
                  try clear F
                  intro i v n2 P2 j u g' h' t' μ' zs m oo I7 o7' hi hP hj hP2 up hK F KT kt
                  cases hK with
                  | mk ws2 W a lots hi5 hj5 HW hmw hlw ea HL hml hll =>
                  obtain ⟨lot0, elot, xs0, ILx, HLx⟩ := HL1.get hP
                  rw [List.getElem?_map, ea] at elot
                  cases elot
                  obtain ⟨b, eb, VB⟩ := HW.get hP2
                  have hWl := HW.length
                  repeat walk_at "M"
                  walk_at "kx"; refine' m_newlist F (Nat.le_of_ble_eq_true rfl) ?_
                  try clear F
                  intro a1 h₁₆ F ha1
                  have Fz := F.lay ha1
                  clear F
                  obtain ⟨g₃, up3, IL3, F⟩ := Fz
                  have hx1 := HLx.length
                  walk_at "kx"; refine' l_add F (((ILx.mono up).mono up3).list F) (IL3.list F) (by simp at hx1; simp; omega) ?_
                  try clear F
                  intro a2 h₁₇ F ha2
                  have Fz := F.lay ha2
                  clear F
                  obtain ⟨g₄, up4, IL4, F⟩ := Fz
                  walk_at "kx"; refine kt _ g₄ _ _ _ (fun a y e => up4 _ _ (up3 _ _ e)) F (.mk ws2 W a (lots ++ [[a, b]]) hi5 (by omega) (HW.imp fun _ _ z => (z.mono up3).mono up4) hmw hlw ea ?_ (fun lot => ?_) (by simp; omega))
                  · refine (HL.imp fun _ _ z => (z.mono up3).mono up4).snoc ⟨_, IL4, ?_⟩
                    exact All2.append (HLx.imp fun _ _ z => ((z.mono up).mono up3).mono up4) (.cons ((VB.mono up3).mono up4) .nil)
                  · rw [List.mem_append, List.mem_singleton, hml lot, take_snoc eb]
                    constructor
                    · rintro ((q | ⟨b', hb', e⟩) | e)
                      · exact .inl q
                      · exact .inr ⟨b', List.mem_append.mpr (.inl hb'), e⟩
                      · exact .inr ⟨b, List.mem_append.mpr (.inr (.head _)), e⟩
                    · rintro (q | ⟨b', hb', e⟩)
                      · exact .inl (.inl q)
                      · rcases List.mem_append.mp hb' with q | q
                        · exact .inl (.inr ⟨b', q, e⟩)
                        · rw [List.mem_singleton.mp q] at e; exact .inr e
                case close =>
                  intro i v n2 P2 g' μ' zs hi hK
                  cases hK with
                  | mk ws2 W a lots hi5 hj5 HW hmw hlw ea HL hml hll =>
                  have hWl := HW.length
                  rw [show W.take ws2.length = W from List.take_of_length_le (by omega)] at hml
                  refine .mk lots HL (fun lot => ?_) (by omega)
                  rw [hml lot, take_snoc ea]
                  constructor
                  · rintro (⟨a', ha', b, hb, e⟩ | ⟨b, hb, e⟩)
                    · exact ⟨a', List.mem_append.mpr (.inl ha'), b, hb, e⟩
                    · exact ⟨a, List.mem_append.mpr (.inr (.head _)), b, (hmw b).mp hb, e⟩
                  · rintro ⟨a', ha', b, hb, e⟩
                    rcases List.mem_append.mp ha' with q | q
                    · exact .inl ⟨a', q, b, hb, e⟩
                    · rw [List.mem_singleton.mp q] at e; exact .inr ⟨b, (hmw b).mpr hb, e⟩
                case small =>
                  intro i v n2 P2 j g' μ' zs hK
                  cases hK with
                  | mk ws2 W a lots hi5 hj5 HW hmw hlw ea HL hml hll => rw [HL.length]; omega
                case fin =>
                  try clear F
                  intro g' h' t' l' μ' zs m up hJ F
                  cases hJ with
                  | mk lots HL hml hll =>
                  rw [List.take_of_length_le (Nat.le_refl _)] at hml
                  refine ⟨rfl, g', h', t', l', _, zs, m, rfl, up, F, fun p hp => ?_, .mk lots HL (fun lot => ?_) (by omega)⟩
                  · simp only [List.map_cons, List.map_nil]
                    simp only [List.mem_cons, List.not_mem_nil, or_false] at hp
                    rcases hp with rfl | rfl <;> simp
                  · rw [hml lot, hk0, vec2]
                    rw [hd1] at hm0
                    constructor
                    · rintro ⟨a, ha, b, hb, e⟩; exact ⟨a, b, (hm0 a).mp ha, hb, e⟩
                    · rintro ⟨a, b, ha, hb, e⟩; exact ⟨a, (hm0 a).mpr ha, b, hb, e⟩
              case done3 =>
                try clear F
                intro D4 g₁₀ h₁₅ t₁₅ μ' zs m2 up10 hfin hD4 F
                cases hfin with
                | mk lots HL hml hll =>
                have Fz := F.lay hD4
                clear F
                obtain ⟨g₁₁, up11, IL11, F⟩ := Fz
                repeat walk_at "M"
                exact .mk g₁₁ _ _ _ _ lots (fun a y e => up11 _ _ (up10 _ _ e)) (F.relook lk_shadow) IL11 (HL.imp fun _ _ z => z.mono up11) hml hll
            · have e1 : ks.length = 1 := by
                rcases hksl with q | q
                · exact q
                · rw [q] at hb; exact absurd hb (by decide)
              obtain rfl : kr = [] := by
                rw [hk0] at e1
                exact List.eq_nil_of_length_eq_zero (by simpa using e1)
              have hd1 : dpOf ks = 2 := if_pos e1
              repeat walk_at "M"
              refine .mk g₉ _ _ _ _ _ (fun _ _ e => e) F IL9 HL1 (fun lot => ?_) (by rw [List.length_map]; omega)
              rw [List.mem_map, hk0, vec1]
              rw [hd1] at hm0
              exact ⟨fun ⟨v, hv, e⟩ => ⟨v, (hm0 v).mp hv, e.symm⟩, fun ⟨v, hv, e⟩ => ⟨v, (hm0 v).mpr hv, e.symm⟩⟩
          cases hz with
          | mk g₁₀ h₁₄ t₁₄ lv lws lots up10 F ILL HLL hmL hlL =>
          replace HR := HR.mono up10
          replace CO := CO.mono up10
          replace I := I.mono up10
          replace upT : ∀ a y, g' a = some y → g₁₀ a = some y := fun a y e => up10 _ _ (up9 _ _ (up8 _ _ (G4.up _ _ (upT _ _ e))))
          clear HL1 IL9 HV0 IL0 hm0 hl1 hlen0 It5 T50 hfp5 up10 up9 up8
          have hlwl := HLL.length
          have hms := lots_meas hks
          repeat walk_at "M"
          walk_at "kx"; refine' d_new F (PySem.intKind prog w) ?_
          try clear F
          intro Df h₁₅ odf F XF hDf
          repeat walk_at "M"
          walk_at "kx"; refine' m_newtuple F (Nat.le_of_ble_eq_true rfl) ?_
          try clear F
          intro atp h₁₆ F hatp
          walk_at "kx"; refine' as_two R.hh F ⟨_, rfl, ⟨_, (F.mu _ (.head _)).1, rfl, _, rfl⟩⟩ ?_
          try clear F
          intro h₁₇ F
          replace F : Fm _ _ _ _ _ _ _ _ ((L + 5, o5) :: (Df, odf) :: (L + 3, o3) :: (L + 2, o2) :: (L + 1, o1) :: (I2, o') :: (L + 4, o4) :: []) := F.drop.pull 5 (Nat.le_of_ble_eq_true rfl)
          walk_at "kx"; refine' m_storeC F d5 rfl rfl rfl ?_
          try clear F
          intro h₁₈ o5 d5 F
          repeat walk_at "M"
          rename Fm _ _ _ _ _ _ _ _ _ => F
          walk_at "kx"; refine ⟨F.k, ?_⟩
          walk_at "kx"; refine m_use (unmatched_spec (R.dl (by omega)) F.gd F.sub HR hRO.1 (by omega) (by omega) CO) fun _ _ tv g₁₁ h₁₉ t₁₉ G5 o9 => ?_
          replace F := F.call G5
          replace HR := HR.mono G5.up
          replace CO := CO.mono G5.up
          replace I := I.mono G5.up
          replace ILL := ILL.mono G5.up
          replace HLL := HLL.imp fun _ _ z => LotAt.mono z G5.up
          replace upT : ∀ a y, g' a = some y → g₁₁ a = some y := fun a y e => G5.up _ _ (upT _ _ e)
          have hne : rs ≠ [] := by intro q; have q := congrArg List.length q; rw [List.length_nil] at q; omega
          have hto : MissOut rs (colsOf ks) g₁₁ tv := by
            rcases o9 with ⟨e, _⟩ | ⟨_, z⟩
            · exact absurd e hne
            · exact z
          obtain ⟨td, htd1, htd2⟩ : ∃ td : Option (List Pat), (td = none → tv = .none ∧ AllIn rs (colsOf ks)) ∧ (∀ ps, td = some ps → RowAt g₁₁ tv ps ∧ Told rs (colsOf ks) ps) := by
            rcases hto with ⟨a, b⟩ | ⟨ps, a, b⟩
            · exact ⟨none, (fun _ => ⟨a, b⟩), (fun ps e => (by cases e))⟩
            · exact ⟨some ps, (fun e => (by cases e)), fun ps' e => (by cases e; exact ⟨a, b⟩)⟩
          clear hto o9
          repeat walk_at "M"
          rename Fm _ _ _ _ _ _ _ _ _ => F
          replace F : Fm _ _ _ _ _ _ _ (("examples", .int 0 _) :: ("told", tv) :: ("lots", lv) :: ("rows", .ref D2) :: ("k", .int ((i : Nat) : Int) tki) :: ("cons", .ref D) :: ("script", .ref sa) :: junk) _ := F.relook fun y => lk_swap (by decide) y
          walk_at "kx"; refine' it_list R.hh F ILL ?_
          try clear F
          intro I8 o8' h₂₀ fp8 T8 F It8 T80 hfp8
          walk_at "kx"; refine' for_runS It8 F T80 hfp8 (fun j _ => LJX prog w L Df I2 D2 D o1 o2 o3 o5 o' tv lv (.int ((i : Nat) : Int) tki) (.ref sa) rs lots td j)
            (.mk odf o4 _ [] 0 _ junk d4 XF (Nat.le_refl _) (fun n _ => by simp [valueAt]) (Int.le_refl _) fun ⟨_, h, _⟩ => (by simp at h)) ?turnL ?doneL
          case turnL =>
            try clear F
            intro j wv g' h' t' l' μ' oi hj hP upj hJ F Kp kn kr
            cases hJ with
            | mk odf o4 v4 kvs e te junk2 d4 XF hkl hkeys he0 hex =>
            obtain ⟨lot, elot, LA⟩ := HLL.get hP
            have hvec : Vec (colsOf ks) lot := (hmL lot).mp (List.mem_of_getElem? elot)
            replace HR := HR.mono upj
            replace LA := LA.mono upj
            obtain ⟨rws, IRW, HRW⟩ := HR
            have hrwl := HRW.length
            obtain ⟨lxs, ILX, HLX⟩ := LA
            replace F : Fm _ _ _ _ _ _ _ _ ((L + 4, o4) :: (I8, oi) :: (L + 5, o5) :: (Df, odf) :: (L + 3, o3) :: (L + 2, o2) :: (L + 1, o1) :: (I2, o') :: []) := F.pull 7 (Nat.le_of_ble_eq_true rfl)
            walk_at "kx"; refine' m_storeC F d4 rfl rfl rfl ?_
            try clear F
            intro h₂₁ o4 d4 F
            repeat walk_at "M"
            walk_at "kx"; refine' c_enum F IRW ?_
            try clear F
            intro z is h₂₂ fp9 T9 wr9 F hm9 It9 T90 hfp9 self9
            refine self9 _ _ _ _ ?_
            replace F := F.mid (a := (L + 4, o4))
            walk_at "kx"; refine' gen_asg (μI := is ++ [(L + 4, o4)]) (μr := [(I8, oi), (L + 5, o5), (Df, odf), (L + 3, o3), (L + 2, o2), (L + 1, o1), (I2, o')]) F (fun h₁ old t' E' Q' q => ?_) ?hcell ?hkind ?hkk rfl ?hy
              (fun g' μ' zs => μ' = [(L + 4, o4)] ∧ IntsAre zs (natInts (takersOf rs lot))) ?run ?done4
            · have key : ∀ A' : Around, A'.handled = none → wpAny (model prog w) A' (pyIter (.ref z)) Q' E' (St s h₁ t') := fun A' hA' => by
                obtain ⟨Pt, Mid, W9, _⟩ := (It9 A' hA').ex
                exact W9.self 0 _ _ _ (W9.frame 0 _ _ T90 fun b _ y e => old b y e) q
              exact key _ R.hh
            case hcell => decide
            case hkind => exact rfl
            case hkk => exact rfl
            case hy => exact rfl
            case run =>
              intro C D' h₁' t₁' hC old FI
              obtain ⟨Pt, Mid, W9, two9⟩ := (It9 _ R.hh).ex
              walk_at "kx"; refine' comp_run2 (is := is) (μ := [(L + 4, o4)]) (It9 _ R.hh) R.hh hm9 (by omega) FI (W9.frame 0 _ _ T90 fun b _ y e => old b y e) hfp9 (lookup_relabel_local rfl) (lookup_relabel_local rfl) rfl rfl
                (fun i g' μ' zs => μ' = [(L + 4, o4)] ∧ IntsAre zs (natInts ((List.range i).filter (fitsAt rs lot)))) ⟨rfl, .nil⟩ ?turn5 ?done5
              case turn5 =>
                try clear F
                intro i2 a b g2 h2 t2 μ2 zs m2 is2 hi2 hP2 up2 hJ2 F KT KN kt kn
                obtain ⟨rfl, HZ⟩ := hJ2
                obtain ⟨⟨ta, rfl⟩, hb⟩ := hP2
                obtain ⟨r, er, pxs, IPX, HPX⟩ := HRW.get hb
                have efit : fitsAt rs lot i2 = rowFits r lot := by unfold fitsAt; rw [er]
                refine ifs_one ?_
                repeat walk_at "M"
                walk_at "kx"; refine' m_cellM F (.tail _ (List.mem_append.mpr (.inr (.head _)))) d4 rfl rfl rfl rfl ?_
                repeat walk_at "M"
                walk_at "kx"; refine ⟨F.k, ?_⟩
                walk_at "kx"; refine m_use (all_fit_spec (fits_spec 160) (R.dl (by omega)) (by decide) F.gd F.sub (IPX.mono up2) (HPX.imp fun _ _ z => z.mono up2) (ILX.mono up2) (HLX.imp fun _ _ z => ValAt.mono z up2) (typed_row hRO (List.mem_of_getElem? er) hvec)) fun _ _ r9 g3 h3 t3 G9 o9 => ?_
                subst o9
                replace F := F.call G9
                repeat walk_at "M"
                walk_at "kx"; refine ⟨fun hb2 => ?_, fun hb2 => ?_⟩
                · repeat walk_at "M"
                  walk_at "kx"; first | refine kt _ g3 _ _ _ G9.up F ⟨rfl, ?_⟩ | refine kn g3 _ _ _ G9.up F ⟨rfl, ?_⟩
                  rw [range_filter_snoc, efit, hb2]
                  unfold natInts
                  rw [List.map_append]
                  exact IntsAre.snoc HZ _ _
                · walk_at "kx"; first | refine kt _ g3 _ _ _ G9.up F ⟨rfl, ?_⟩ | refine kn g3 _ _ _ G9.up F ⟨rfl, ?_⟩
                  rw [range_filter_snoc, efit, hb2]
                  simpa using HZ
              case done5 =>
                try clear F
                intro g2 h2 t2 l2 μ2 zs m2 up2 hJ2 hz2 F
                obtain ⟨rfl, HZ⟩ := hJ2
                rw [hrwl] at HZ
                exact ⟨rfl, g2, h2, t2, l2, _, zs, m2, rfl, up2, F, fun p hp => by rw [List.mem_singleton.mp hp, List.map_append]; exact List.mem_append.mpr (.inr (.head _)), rfl, HZ⟩
            case done4 =>
              try clear F
              intro D4 g₁₂ h₂₃ t₂₃ μ' zs m4 up12 hfin hD4 F
              obtain ⟨rfl, HT⟩ := hfin
              have Fz := F.lay hD4
              clear F
              obtain ⟨g₁₃, up13, ILT, F⟩ := Fz
              have up23 : ∀ a y, g' a = some y → g₁₃ a = some y := fun a y e => up13 _ _ (up12 _ _ e)
              replace ILX := ILX.mono up23
              replace HLX := HLX.imp fun _ _ z => ValAt.mono z up23
              clear It9 T90 hfp9 self9 hm9 up12 up13
              replace F : Fm _ _ _ _ _ _ _ _ ((Df, odf) :: (L + 4, o4) :: (I8, oi) :: (L + 5, o5) :: (L + 3, o3) :: (L + 2, o2) :: (L + 1, o1) :: (I2, o') :: []) := F.ord [3, 0, 1, 2, 4, 5, 6, 7] rfl
              refine m_cons (wpAny_mono (Q := LQK prog s w g h L g₁₃ (("takers_here", .ref D4) :: ("examples", .int e te) :: ("told", tv) :: ("lots", lv) :: ("rows", .ref D2) :: ("k", .int ((i : Nat) : Int) tki) :: ("cons", .ref D) :: ("script", .ref sa) :: junk2) Df ((L + 4, o4) :: (I8, oi) :: (L + 5, o5) :: (L + 3, o3) :: (L + 2, o2) :: (L + 1, o1) :: (I2, o') :: []) rs lot kvs j) ?_ (fun f s' hz => ?_) (fun _ _ e => e))
              · refine x_if ?_
                repeat walk_at "M"
                walk_at "kx"; refine' m_newlist F (Nat.le_of_ble_eq_true rfl) ?_
                try clear F
                intro a1 h₂₄ F ha1
                walk_at "kx"; refine' l_nenil (R.dl (by omega)) (ILT.list F) ⟨_, rfl, muL F⟩ ?_
                replace F := F.drop
                repeat walk_at "M"
                walk_at "kx"; refine ⟨fun hb => ?_, fun hb => ?_⟩
                · obtain ⟨f, tr, tf, zr, eT, ez⟩ : ∃ (f : Nat) (tr : List Nat) (tf : Tok) (zr : List Value), takersOf rs lot = f :: tr ∧ zs = .int (f : Int) tf :: zr := by
                    cases e : takersOf rs lot with
                    | nil => rw [e] at HT; cases HT; exact absurd hb (by decide)
                    | cons f tr => rw [e] at HT; cases HT; exact ⟨f, tr, _, _, rfl, rfl⟩
                  obtain ⟨hf1, hf2⟩ := takers_first eT
                  repeat walk_at "M"
                  walk_at "kx"; refine' m_putitem rfl ?_
                  repeat walk_at "M"
                  walk_at "kx"; refine' m_cellM F (.tail _ (.tail _ (.tail _ (.head _)))) d5 rfl rfl rfl rfl ?_
                  repeat walk_at "M"
                  walk_at "kx"; refine' l_item F ILT (by decide) (by decide) (by rw [ez]; rfl) (by intro _; with_unfolding_all rfl) ?_
                  walk_at "kx"; refine' d_put F XF (k := (f : Int)) (by simp [PySem.intKind, Value.isInt]) (by omega) ?_
                  try clear F
                  intro h₂₅ odf' t₂₅ F XF'
                  repeat walk_at "M"
                  refine .mk _ _ odf' _ F XF' (Nat.le_trans (stored_length_le _ _ _) (by omega)) (fun n hn => ?_)
                  rw [valueAt_stored, Bool.or_eq_true, decide_eq_true_iff, hf2 n]
                  constructor
                  · rintro (q | q)
                    · exact .inr (by omega)
                    · exact .inl q
                  · rintro (q | q)
                    · exact .inr q
                    · exact .inl (by omega)
                · have eT : takersOf rs lot = [] := by
                    cases e : takersOf rs lot with
                    | nil => rfl
                    | cons f tr => rw [e] at HT; cases HT; exact absurd hb (by simp)
                  repeat walk_at "M"
                  exact .mk _ _ odf kvs F XF (by omega) (fun n hn => ⟨.inl, fun q => q.resolve_right (first_none eT n)⟩)
              cases hz with
              | mk h₂₄ t₂₄ odf' kvs' F XF' hkl' hkeys' =>
              clear XF
              have htm : zs.isEmpty = true ↔ Matched rs lot = false := by
                rw [← takers_nil]
                cases e : takersOf rs lot with
                | nil => rw [e] at HT; cases HT; simp
                | cons f tr => rw [e] at HT; cases HT; simp
              have hTM : ∀ ps, td = some ps → rowFits ps lot = true → Matched rs lot = false := fun ps e hf => (htd2 ps e).2.2.2.1 lot hvec hf
              have hexB : zs.isEmpty = false → exB td lot = false := fun hb => by
                cases q : exB td lot with
                | false => rfl
                | true =>
                  cases td with
                  | none => exact Bool.noConfusion q
                  | some ps => rw [htm.mpr (hTM ps rfl q)] at hb; exact Bool.noConfusion hb
              with_reducible refine' m_assign ?k1 ?_
              (case k1 => kernel_rfl)
              intro _ _
              refine wpAny_mono (Q := LQE s w g h L g₁₃ (("takers_here", .ref D4) :: ("examples", .int e te) :: ("told", tv) :: ("lots", lv) :: ("rows", .ref D2) :: ("k", .int ((i : Nat) : Int) tki) :: ("cons", .ref D) :: ("script", .ref sa) :: junk2) ((Df, odf') :: ((L + 4, o4) :: (I8, oi) :: (L + 5, o5) :: (L + 3, o3) :: (L + 2, o2) :: (L + 1, o1) :: (I2, o') :: [])) (exB td lot)) ?_ (fun v s' hz => ?_) (fun _ _ e => e)
              · repeat ((fail_if_success (with_reducible show wpAny _ _ (PySem.isTrue _ _ _) _ _ _)); walk_at "M")
                cases td with
                | none =>
                  obtain ⟨rfl, _⟩ := htd1 rfl
                  walk_at "kx"; refine' n_not ?_
                  repeat ((fail_if_success (with_reducible show wpAny _ _ (PySem.isTrue _ _ _) _ _ _)); walk_at "M")
                  walk_at "kx"; refine ⟨fun e => Bool.noConfusion e, fun _ => ?_⟩
                  exact .mk _ _ _ (fun _ _ e => e) F
                | some ps =>
                  obtain ⟨⟨tvs, ITV, PTV⟩, HTD⟩ := htd2 ps rfl
                  obtain ⟨ta, tn, rfl, gta⟩ := id ITV
                  walk_at "kx"; refine' n_notn ?_
                  repeat ((fail_if_success (with_reducible show wpAny _ _ (PySem.isTrue _ _ _) _ _ _)); walk_at "M")
                  walk_at "kx"; refine ⟨fun _ => ?_, fun e => Bool.noConfusion e⟩
                  repeat ((fail_if_success (with_reducible show wpAny _ _ (PySem.isTrue _ _ _) _ _ _)); walk_at "M")
                  walk_at "kx"; refine' m_cellM F (.tail _ (.head _)) d4 rfl rfl rfl rfl ?_
                  repeat ((fail_if_success (with_reducible show wpAny _ _ (PySem.isTrue _ _ _) _ _ _)); walk_at "M")
                  walk_at "kx"; refine ⟨F.k, ?_⟩
                  walk_at "kx"; refine m_use (all_fit_spec (fits_spec 160) (R.dl (by omega)) (by decide) F.gd F.sub ((ITV.mono upj).mono up23) (PTV.imp fun _ _ z => (z.mono upj).mono up23) ILX HLX (typed_told HTD hms hvec)) fun _ _ r9 g3 h3 t3 G9 o9 => ?_
                  subst o9
                  replace F := F.call G9
                  repeat ((fail_if_success (with_reducible show wpAny _ _ (PySem.isTrue _ _ _) _ _ _)); walk_at "M")
                  exact .mk _ _ _ G9.up F
              cases hz with
              | mk g₁₄ h₂₅ t₂₅ up14 F =>
              repeat ((fail_if_success (with_reducible show wpAny _ _ (PySem.isTrue _ _ _) _ _ _)); walk_at "M")
              rename Fm _ _ _ _ _ _ _ _ _ => F
              refine wpAny_mono (Q := LQF s w g h L g₁₄ (("is_example", .bool (exB td lot)) :: ("takers_here", .ref D4) :: ("examples", .int e te) :: ("told", tv) :: ("lots", lv) :: ("rows", .ref D2) :: ("k", .int ((i : Nat) : Int) tki) :: ("cons", .ref D) :: ("script", .ref sa) :: junk2) ((Df, odf') :: ((L + 4, o4) :: (I8, oi) :: (L + 5, o5) :: (L + 3, o3) :: (L + 2, o2) :: (L + 1, o1) :: (I2, o') :: []))) ?_ (fun b s' hz => ?_) (fun _ _ e => e)
              · repeat walk_at "M"
                walk_at "kx"; refine' m_newlist F (Nat.le_of_ble_eq_true rfl) ?_
                try clear F
                intro a1 h₂₆ F ha1
                walk_at "kx"; refine' l_eqnil (R.dl (by omega)) ((ILT.mono up14).list F) ⟨_, rfl, muL F⟩ ?_
                replace F := F.drop
                repeat walk_at "M"
                walk_at "kx"; refine ⟨fun hb => ?_, fun hb => ?_⟩
                · have hM := htm.mp hb
                  obtain ⟨ps, rfl⟩ : ∃ ps, td = some ps := by
                    cases td with
                    | none => exact absurd ((htd1 rfl).2 lot hvec) (by rw [hM]; decide)
                    | some ps => exact ⟨ps, rfl⟩
                  obtain ⟨⟨tvs, ITV, PTV⟩, HTD⟩ := htd2 ps rfl
                  obtain ⟨ta, tn, rfl, gta⟩ := ITV
                  repeat walk_at "M"
                  walk_at "kx"; refine' n_isn ?_
                  repeat walk_at "M"
                  walk_at "kx"; refine ⟨fun e => Bool.noConfusion e, fun _ => ?_⟩
                  repeat walk_at "M"
                  walk_at "kx"; refine' m_newlist F (Nat.le_of_ble_eq_true rfl) ?_
                  try clear F
                  intro a2 h₂₇ F ha2
                  walk_at "kx"; refine' l_nenil (R.dl (by omega)) ((ILT.mono up14).list F) ⟨_, rfl, muL F⟩ ?_
                  replace F := F.drop
                  repeat walk_at "M"
                  walk_at "kx"; refine ⟨fun hb2 => absurd hb2 (by rw [hb]; decide), fun _ => ?_⟩
                  exact .mk _ rfl _ _ F
                · walk_at "kx"; refine ⟨fun e => Bool.noConfusion e, fun _ => ?_⟩
                  repeat walk_at "M"
                  walk_at "kx"; refine' m_newlist F (Nat.le_of_ble_eq_true rfl) ?_
                  try clear F
                  intro a2 h₂₇ F ha2
                  walk_at "kx"; refine' l_nenil (R.dl (by omega)) ((ILT.mono up14).list F) ⟨_, rfl, muL F⟩ ?_
                  replace F := F.drop
                  repeat walk_at "M"
                  walk_at "kx"; refine ⟨fun _ => ?_, fun hb2 => absurd hb2 (by rw [hb]; decide)⟩
                  repeat walk_at "M"
                  exact .mk _ (hexB hb) _ _ F
              cases hz with
              | mk hbf h₂₆ t₂₆ F =>
              subst hbf
              walk_at "kx"; refine ⟨fun e => Bool.noConfusion e, fun _ => ?_⟩
              repeat walk_at "M"
              rename Fm _ _ _ _ _ _ _ _ _ => F
              have up24 : ∀ a y, g' a = some y → g₁₄ a = some y := fun a y e => up14 _ _ (up23 _ _ e)
              replace F : Fm _ _ _ _ _ _ _ _ ((I8, oi) :: (L + 5, o5) :: (Df, odf') :: (L + 3, o3) :: (L + 2, o2) :: (L + 1, o1) :: (I2, o') :: (L + 4, o4) :: []) := F.ord [2, 3, 0, 4, 5, 6, 7, 1] rfl
              walk_at "kx"; refine kn g₁₄ _ _ _ _ up24 (F.relook fun y => lk_cons (lk_base (b := [("told", tv), ("lots", lv), ("rows", .ref D2), ("k", .int ((i : Nat) : Int) tki), ("cons", .ref D), ("script", .ref sa)]) (st := [("is_example", .bool (exB td lot)), ("takers_here", .ref D4), ("examples", .int e te)]) junk2 rfl y)) (.mk odf' o4 _ kvs' _ _ _ d4 XF' hkl' (fun n hn => ?_) ?_ ?_)
              · rw [hkeys' n hn, hkeys n hn, take_snoc elot]
                constructor
                · rintro (⟨x, hx, y⟩ | y)
                  · exact ⟨x, List.mem_append.mpr (.inl hx), y⟩
                  · exact ⟨lot, List.mem_append.mpr (.inr (.head _)), y⟩
                · rintro ⟨x, hx, y⟩
                  rcases List.mem_append.mp hx with q | q
                  · exact .inl ⟨x, q, y⟩
                  · rw [List.mem_singleton.mp q] at y; exact .inr y
              · split <;> omega
              · rintro ⟨x, hx, y⟩
                rw [take_snoc elot] at hx
                rcases List.mem_append.mp hx with q | q
                · have := hex ⟨x, q, y⟩
                  split <;> omega
                · rw [List.mem_singleton.mp q] at y
                  rw [y]
                  show 0 < e + 1
                  omega
          case doneL =>
            try clear F
            intro g' h' t' l' μ' upl hJ F
            cases hJ with
            | mk odf o4 v4 kvs e te junk2 d4 XF hkl hkeys he0 hex =>
            rw [List.take_of_length_le (by omega)] at hkeys hex
            replace HR := HR.mono upl
            replace CO := CO.mono upl
            have hlo9 := F.lo
            repeat ((fail_if_success (with_reducible show wpAny _ _ (PySem.isTrue _ _ _) _ _ _)); walk_at "M")
            refine wpAny_mono (Q := fun b s' => b = false ∧ ∃ (t' : Nat), s' = St s h' t') ?_ (fun b s' hz => ?_) (fun _ _ e => e)
            · cases td with
              | none =>
                obtain ⟨rfl, _⟩ := htd1 rfl
                repeat walk_at "M"
                walk_at "kx"; refine' n_not ?_
                repeat walk_at "M"
                walk_at "kx"; refine ⟨fun e => Bool.noConfusion e, fun _ => ?_⟩
                exact ⟨rfl, _, rfl⟩
              | some ps =>
                obtain ⟨⟨tvs, ITV, PTV⟩, HTD⟩ := htd2 ps rfl
                obtain ⟨ta, tn, rfl, gta⟩ := ITV
                obtain ⟨_, ⟨vs', hv1, hv2⟩, _⟩ := HTD
                have he1 : 0 < e := hex ⟨vs', (hmL vs').mpr hv1, hv2⟩
                repeat walk_at "M"
                walk_at "kx"; refine' n_notn ?_
                repeat walk_at "M"
                walk_at "kx"; refine ⟨fun _ => ?_, fun e => Bool.noConfusion e⟩
                repeat walk_at "M"
                exact ⟨by simp; omega, _, rfl⟩
            obtain ⟨rfl, t₂₁, rfl⟩ := hz
            walk_at "kx"; refine ⟨fun e => Bool.noConfusion e, fun _ => ?_⟩
            replace F : Fm _ _ _ _ _ _ _ _ ((Df, odf) :: (L + 5, o5) :: (L + 3, o3) :: (L + 2, o2) :: (L + 1, o1) :: (I2, o') :: (L + 4, o4) :: []) := F.ord [1, 0, 2, 3, 4, 5, 6] rfl
            have Fz := F.freeze hDf
            clear F
            obtain ⟨g₁₂, up12, gDf, _, F⟩ := Fz
            replace HR := HR.mono up12
            replace CO := CO.mono up12
            repeat walk_at "M"
            walk_at "kx"; refine ⟨F.k, ?_⟩
            walk_at "kx"; refine m_use (useless_spec (R.dl (by omega)) F.gd F.sub HR hRO.1 (by omega) (by omega) CO) fun _ _ uv g₁₃ h₂₁ t₂₁ G6 o6 => ?_
            obtain ⟨us, IU, HU⟩ := o6
            replace F := F.call G6
            repeat walk_at "M"
            obtain ⟨rws, IRW, HRW⟩ := HR.mono G6.up
            have hrwl := HRW.length
            walk_at "kx"; refine' l_len F IRW (by omega) ?_
            intro _ _
            repeat walk_at "M"
            walk_at "kx"; refine' r_call1 F ?_
            try clear F
            intro r h₂₂ t₂₂ b1 b2 b3 F hr
            walk_at "kx"; refine' it_range R.hh F hr (by decide) (by omega) (by omega) ?_
            try clear F
            intro I9 o9' h₂₃ fp9 T9 F It9 T90 hfp9
            rw [show (((rws.length : Nat) : Int) - 0).toNat = rs.length by omega] at It9
            walk_at "kx"; refine' comp_val (μm := [(L + 5, o5)]) (μr := [(L + 3, o3), (L + 2, o2), (L + 1, o1), (I2, o'), (L + 4, o4)]) It9 (by omega) F T90 hfp9 ?hcell ?hkind ?hx
              (fun i g' μ' ys => μ' = [(L + 5, o5)] ∧ IntsAre ys (natInts ((List.range i).filter fun n => !(valueAt kvs (n : Int)).isSome)) ∧ ys.length ≤ i) ⟨rfl, .nil, Nat.le_refl _⟩ ?turnU ?hJ ?doneU
            case hcell => decide
            case hkind => exact rfl
            case hx => exact rfl
            case hJ => intro i g' μ' ys h; rw [h.1]
            case turnU =>
              try clear F
              intro C D3 i2 v g' h' t' μ' ys m oo hi hP up hJ hC F KT KN kt kn
              obtain ⟨rfl, HU2, hyl2⟩ := hJ
              obtain ⟨tki2, rfl⟩ := hP
              rw [Int.zero_add] at F kt kn
              refine ifs_one ?_
              repeat walk_at "M"
              walk_at "kx"; refine' m_cellM F (.tail _ (.tail _ (.head _))) d5 rfl rfl rfl rfl ?_
              walk_at "kx"; refine' d_notin (OD.at XF (F.sub _ _ (up _ _ (G6.up _ _ gDf)))) (sysOk (Nat.le_trans hlo9 hDf)) (k := ((i2 : Nat) : Int)) (by simp [PySem.intKind, Value.isInt]) ?_
              intro t₂₅
              repeat walk_at "M"
              walk_at "kx"; refine ⟨fun hb => ?_, fun hb => ?_⟩
              · repeat walk_at "M"
                walk_at "kx"; first | refine kt _ g' _ _ _ (fun _ _ e => e) F ⟨rfl, ?_, by simp; omega⟩ | refine kn g' _ _ _ (fun _ _ e => e) F ⟨rfl, ?_, by simp; omega⟩
                rw [range_filter_snoc, hb]
                unfold natInts
                rw [List.map_append]
                exact IntsAre.snoc HU2 _ _
              · walk_at "kx"; first | refine kt _ g' _ _ _ (fun _ _ e => e) F ⟨rfl, ?_, by omega⟩ | refine kn g' _ _ _ (fun _ _ e => e) F ⟨rfl, ?_, by omega⟩
                rw [range_filter_snoc, hb]
                simpa using HU2
            case doneU =>
              try clear F
              intro D3 g₁₄ h₂₄ t₂₄ μ' zs m up14 hJ hy hD3 F
              obtain ⟨rfl, HZ, _⟩ := hJ
              have ekey : natInts ((List.range rs.length).filter fun n => !(valueAt kvs (n : Int)).isSome) = natInts ((List.range rs.length).filter fun i => !reachB rs (colsOf ks) i) := by
                congr 1
                apply List.filter_congr
                intro n hn
                have hn := List.mem_range.mp hn
                have z := (hkeys n hn).trans (reach_first hmL hn).symm
                congr 1
                exact Bool.eq_iff_iff.mpr z
              rw [ekey] at HZ
              walk_at "kx"; refine' ints_ne (R.dl (by omega)) ((IU.mono up14).list F) ⟨D3, rfl, muL F⟩ HU HZ ?_
              repeat walk_at "M"
              walk_at "kx"; refine ⟨fun e => Bool.noConfusion e, fun _ => ?_⟩
              repeat walk_at "M"
              replace F : Fm _ _ _ _ _ _ _ _ ((I2, o') :: (L + 5, o5) :: (L + 4, o4) :: (L + 3, o3) :: (L + 2, o2) :: (L + 1, o1) :: []) := F.drop.ord [4, 0, 5, 1, 2, 3] rfl
              walk_at "kx"; refine kn g₁₄ _ _ _ _ (fun a y e => up14 _ _ (G6.up _ _ (up12 _ _ (upl _ _ (upT _ _ e))))) (F.relook (l' := ("cons", .ref D) :: ("script", .ref sa) :: ("examples", .int e te) :: ("told", tv) :: ("lots", lv) :: ("rows", .ref D2) :: ("k", .int ((i : Nat) : Int) tki) :: ("cons", .ref D) :: ("script", .ref sa) :: junk2) (fun y => lk_base (b := [("cons", .ref D), ("script", .ref sa)]) (st := [("examples", .int e te), ("told", tv), ("lots", lv), ("rows", .ref D2), ("k", .int ((i : Nat) : Int) tki)]) junk2 rfl y)) (.mk _ _ (.mk _ _ _ _ _ _ _ _ _ _ d1 d2 d3 d4 d5))
    case done =>
      try clear F
      intro g' h' t' l' μ' up hJ F
      cases hJ with
      | mk junk μ' HC =>
      cases HC with
      | mk o1 o2 o3 o4 o5 v1 v2 v3 v4 v5 d1 d2 d3 d4 d5 =>
      replace CO := CO.mono up
      repeat walk_at "M"
      walk_at "kx"; refine' m_newlist F (Nat.le_of_ble_eq_true rfl) ?_
      try clear F
      intro a1 h₇ F ha1
      have Fz := F.lay ha1
      clear F
      obtain ⟨g₂, up2, IL2, F⟩ := Fz
      repeat walk_at "M"
      walk_at "kx"; refine ⟨F.k, ?_⟩
      walk_at "kx"; refine m_use (unmatched_spec (rows := []) (cols := []) (R.dl (by omega)) F.gd F.sub ⟨[], IL2, .nil⟩ (fun r hr => (by cases hr)) (by simp) (by decide) (CO.mono up2)) fun _ _ r1 g₃ h₈ t₈ G1 x1 => ?_
      have IR : IsL g₃ r1 [] := by
        rcases x1 with ⟨_, z⟩ | ⟨e, _⟩
        · exact z
        · exact absurd rfl e
      replace F := F.call G1
      replace CO := (CO.mono up2).mono G1.up
      repeat walk_at "M"
      walk_at "kx"; refine' m_newlist F (Nat.le_of_ble_eq_true rfl) ?_
      try clear F
      intro a2 h₉ F ha2
      walk_at "kx"; refine' l_eqnil (R.dl (by omega)) (IR.list F) ⟨_, rfl, muL F⟩ ?_
      replace F := F.drop
      repeat walk_at "M"
      walk_at "kx"; refine ⟨fun _ => ?_, fun e => absurd e (by decide)⟩
      repeat walk_at "M"
      walk_at "kx"; refine' m_newlist F (Nat.le_of_ble_eq_true rfl) ?_
      try clear F
      intro a3 h₁₀ F ha3
      have Fz := F.lay ha3
      clear F
      obtain ⟨g₄, up4, IL4, F⟩ := Fz
      repeat walk_at "M"
      walk_at "kx"; refine ⟨F.k, ?_⟩
      walk_at "kx"; refine m_use (useless_spec (rows := []) (cols := []) (R.dl (by omega)) F.gd F.sub ⟨[], IL4, .nil⟩ (fun r hr => (by cases hr)) (by simp) (by decide) (CO.mono up4)) fun _ _ r2 g₅ h₁₁ t₁₁ G2 x2 => ?_
      obtain ⟨us, IU, HU⟩ := x2
      obtain rfl : us = [] := List.eq_nil_of_length_eq_zero (IntsAre.length HU)
      replace F := F.call G2
      repeat walk_at "M"
      walk_at "kx"; refine' m_newlist F (Nat.le_of_ble_eq_true rfl) ?_
      try clear F
      intro a4 h₁₂ F ha4
      walk_at "kx"; refine' l_eqnil (R.dl (by omega)) (IU.list F) ⟨_, rfl, muL F⟩ ?_
      replace F := F.drop
      repeat walk_at "M"
      walk_at "kx"; exact ret_ F rfl
end Mine
theorem Mine.top.tw10001883323181062329 : True := trivial
theorem Mine.top.tw10005945817407372193 : True := trivial
theorem Mine.top.tw10006222313960134694 : True := trivial
theorem Mine.top.tw10008474027749305400 : True := trivial
theorem Mine.top.tw10079171474624433434 : True := trivial
theorem Mine.top.tw1016984595167383106 : True := trivial
theorem Mine.top.tw10187264123177260123 : True := trivial
theorem Mine.top.tw10194810499950245846 : True := trivial
theorem Mine.top.tw10195997230039290492 : True := trivial
theorem Mine.top.tw10361075674979980167 : True := trivial
theorem Mine.top.tw10399464001100048223 : True := trivial
theorem Mine.top.tw10404823597219466188 : True := trivial
theorem Mine.top.tw104434173382791472 : True := trivial
theorem Mine.top.tw10448899703829047738 : True := trivial
theorem Mine.top.tw1047907039808853306 : True := trivial
theorem Mine.top.tw105208000716104510 : True := trivial
theorem Mine.top.tw10548783162686979305 : True := trivial
theorem Mine.top.tw10567129059001840431 : True := trivial
theorem Mine.top.tw10574840078274726829 : True := trivial
theorem Mine.top.tw10579768621468169598 : True := trivial
theorem Mine.top.tw10617020205504526918 : True := trivial
theorem Mine.top.tw10646770195290465048 : True := trivial
theorem Mine.top.tw10648311167861321448 : True := trivial
theorem Mine.top.tw10657950659306570408 : True := trivial
theorem Mine.top.tw1068965626710143233 : True := trivial
theorem Mine.top.tw10694878333477680388 : True := trivial
theorem Mine.top.tw10773188271377071773 : True := trivial
theorem Mine.top.tw10783980745131425670 : True := trivial
theorem Mine.top.tw10797620697341660853 : True := trivial
theorem Mine.top.tw10801874191123338550 : True := trivial
theorem Mine.top.tw1088946173253831356 : True := trivial
theorem Mine.top.tw10915162052029792233 : True := trivial
theorem Mine.top.tw10936122117785486979 : True := trivial
theorem Mine.top.tw10956490626425055710 : True := trivial
theorem Mine.top.tw10962730384373954536 : True := trivial
theorem Mine.top.tw10987319290404115282 : True := trivial
theorem Mine.top.tw10996937224433265937 : True := trivial
theorem Mine.top.tw11071450960392396080 : True := trivial
theorem Mine.top.tw1108800333578037850 : True := trivial
theorem Mine.top.tw11116745826364501430 : True := trivial
theorem Mine.top.tw1112988674713690477 : True := trivial
theorem Mine.top.tw11133666699803404755 : True := trivial
theorem Mine.top.tw11141966352661209427 : True := trivial
theorem Mine.top.tw11199532085631943738 : True := trivial
theorem Mine.top.tw1123975283337734383 : True := trivial
theorem Mine.top.tw11240886729373846589 : True := trivial
theorem Mine.top.tw1124271682379634556 : True := trivial
theorem Mine.top.tw11279390925490393535 : True := trivial
theorem Mine.top.tw11334350811105764591 : True := trivial
theorem Mine.top.tw11334415319851112604 : True := trivial
theorem Mine.top.tw1139600151236580504 : True := trivial
theorem Mine.top.tw1142415686869020238 : True := trivial
theorem Mine.top.tw11430207588045935325 : True := trivial
theorem Mine.top.tw11443710868159068359 : True := trivial
theorem Mine.top.tw11457754044182789617 : True := trivial
theorem Mine.top.tw11459358961799972967 : True := trivial
theorem Mine.top.tw11487705115161347191 : True := trivial
theorem Mine.top.tw1149218181149386328 : True := trivial
theorem Mine.top.tw11520865232209809239 : True := trivial
theorem Mine.top.tw11542710104232473196 : True := trivial
theorem Mine.top.tw11582926029173025856 : True := trivial
theorem Mine.top.tw11625887292572007197 : True := trivial
theorem Mine.top.tw11760055953109336660 : True := trivial
theorem Mine.top.tw11762496359356365647 : True := trivial
theorem Mine.top.tw11845233108574324481 : True := trivial
theorem Mine.top.tw11960245374511038805 : True := trivial
theorem Mine.top.tw12080426169559351053 : True := trivial
theorem Mine.top.tw12094960947251128927 : True := trivial
theorem Mine.top.tw12105128591322288922 : True := trivial
theorem Mine.top.tw1212798325632107971 : True := trivial
theorem Mine.top.tw12166907935582030026 : True := trivial
theorem Mine.top.tw12209182163369298222 : True := trivial
theorem Mine.top.tw12317137736924338119 : True := trivial
theorem Mine.top.tw12372526006091541652 : True := trivial
theorem Mine.top.tw12376051458212225564 : True := trivial
theorem Mine.top.tw12385144161495827662 : True := trivial
theorem Mine.top.tw12415523145999629524 : True := trivial
theorem Mine.top.tw12420483659475016413 : True := trivial
theorem Mine.top.tw12425085872883035938 : True := trivial
theorem Mine.top.tw12427389293880184781 : True := trivial
theorem Mine.top.tw1245559373397905713 : True := trivial
theorem Mine.top.tw12483720753089274532 : True := trivial
theorem Mine.top.tw12535971307161669396 : True := trivial
theorem Mine.top.tw12540527436937284434 : True := trivial
theorem Mine.top.tw12545222027267286695 : True := trivial
theorem Mine.top.tw12622177474791663080 : True := trivial
theorem Mine.top.tw12718909917080609646 : True := trivial
theorem Mine.top.tw1275901062530889299 : True := trivial
theorem Mine.top.tw12764151676501842404 : True := trivial
theorem Mine.top.tw12787338502077490372 : True := trivial
theorem Mine.top.tw12819366960792805191 : True := trivial
theorem Mine.top.tw1284575025550258836 : True := trivial
theorem Mine.top.tw1291508964198565346 : True := trivial
theorem Mine.top.tw12958502747184954254 : True := trivial
theorem Mine.top.tw13001836021917841797 : True := trivial
theorem Mine.top.tw13012589842206080548 : True := trivial
theorem Mine.top.tw13068111086705522682 : True := trivial
theorem Mine.top.tw13090165191389475591 : True := trivial
theorem Mine.top.tw13091174067606910046 : True := trivial
theorem Mine.top.tw13134186033006778460 : True := trivial
theorem Mine.top.tw13160728816969591200 : True := trivial
theorem Mine.top.tw13177472732611162249 : True := trivial
theorem Mine.top.tw1321871150748368714 : True := trivial
theorem Mine.top.tw13264354339760550358 : True := trivial
theorem Mine.top.tw13307591127769906961 : True := trivial
theorem Mine.top.tw13318506193475082254 : True := trivial
theorem Mine.top.tw13326734554550294991 : True := trivial
theorem Mine.top.tw13359135706311490777 : True := trivial
theorem Mine.top.tw13370750898655102155 : True := trivial
theorem Mine.top.tw13420762306968818387 : True := trivial
theorem Mine.top.tw13501252493785611398 : True := trivial
theorem Mine.top.tw13510920462097384806 : True := trivial
theorem Mine.top.tw13706816188851595723 : True := trivial
theorem Mine.top.tw13710211086531791108 : True := trivial
theorem Mine.top.tw13799840507378627052 : True := trivial
theorem Mine.top.tw13802547742096326172 : True := trivial
theorem Mine.top.tw13822267516522204269 : True := trivial
theorem Mine.top.tw13889484949932952446 : True := trivial
theorem Mine.top.tw13896958669275611876 : True := trivial
theorem Mine.top.tw13928562000808390012 : True := trivial
theorem Mine.top.tw13965722123679751433 : True := trivial
theorem Mine.top.tw13968125046926948103 : True := trivial
theorem Mine.top.tw13983857475226248213 : True := trivial
theorem Mine.top.tw13994475860397038760 : True := trivial
theorem Mine.top.tw14142502885225118848 : True := trivial
theorem Mine.top.tw14145802354927516647 : True := trivial
theorem Mine.top.tw14168018189251442112 : True := trivial
theorem Mine.top.tw14282377253939248939 : True := trivial
theorem Mine.top.tw14349089067433371257 : True := trivial
theorem Mine.top.tw14356001151084014486 : True := trivial
theorem Mine.top.tw14371913498598963198 : True := trivial
theorem Mine.top.tw14372152842798730730 : True := trivial
theorem Mine.top.tw14399976873020721970 : True := trivial
theorem Mine.top.tw14402358008270493973 : True := trivial
theorem Mine.top.tw14453841093610474573 : True := trivial
theorem Mine.top.tw14459580976405569124 : True := trivial
theorem Mine.top.tw14537839394382259888 : True := trivial
theorem Mine.top.tw14597223018079223185 : True := trivial
theorem Mine.top.tw14608685727046917156 : True := trivial
theorem Mine.top.tw14611434983143301774 : True := trivial
theorem Mine.top.tw14615657086365298920 : True := trivial
theorem Mine.top.tw14618977250098765655 : True := trivial
theorem Mine.top.tw14657780768301432306 : True := trivial
theorem Mine.top.tw146815374380898660 : True := trivial
theorem Mine.top.tw14697636140705633519 : True := trivial
theorem Mine.top.tw14724332232928298890 : True := trivial
theorem Mine.top.tw14789260269991461300 : True := trivial
theorem Mine.top.tw14796646475526232899 : True := trivial
theorem Mine.top.tw14823308797102314842 : True := trivial
theorem Mine.top.tw14826035006057030972 : True := trivial
theorem Mine.top.tw1483126911874232274 : True := trivial
theorem Mine.top.tw1485072716484762690 : True := trivial
theorem Mine.top.tw14901070454687303710 : True := trivial
theorem Mine.top.tw14917401599646851644 : True := trivial
theorem Mine.top.tw1492452104121835379 : True := trivial
theorem Mine.top.tw14973946283569452937 : True := trivial
theorem Mine.top.tw15058813355848621054 : True := trivial
theorem Mine.top.tw15076617406783677078 : True := trivial
theorem Mine.top.tw15092371282622821202 : True := trivial
theorem Mine.top.tw15095372191486117680 : True := trivial
theorem Mine.top.tw15131181735567767105 : True := trivial
theorem Mine.top.tw1516213087968936877 : True := trivial
theorem Mine.top.tw15169761463676818070 : True := trivial
theorem Mine.top.tw15229573370884232203 : True := trivial
theorem Mine.top.tw15240379268576122478 : True := trivial
theorem Mine.top.tw15254643099363442306 : True := trivial
theorem Mine.top.tw15286249088069653756 : True := trivial
theorem Mine.top.tw15349318334595610263 : True := trivial
theorem Mine.top.tw15361541807878343388 : True := trivial
theorem Mine.top.tw15362295582089109014 : True := trivial
theorem Mine.top.tw15499459402589274338 : True := trivial
theorem Mine.top.tw15503665604740900718 : True := trivial
theorem Mine.top.tw15569959144833144457 : True := trivial
theorem Mine.top.tw15646934709686841381 : True := trivial
theorem Mine.top.tw15722756333993289495 : True := trivial
theorem Mine.top.tw15740088241188596515 : True := trivial
theorem Mine.top.tw15860264024139754761 : True := trivial
theorem Mine.top.tw15874363893724204672 : True := trivial
theorem Mine.top.tw15877122091014420850 : True := trivial
theorem Mine.top.tw15878805988109762761 : True := trivial
theorem Mine.top.tw15918733279669447828 : True := trivial
theorem Mine.top.tw15976228082101565994 : True := trivial
theorem Mine.top.tw15985961358823992270 : True := trivial
theorem Mine.top.tw16004416686337608138 : True := trivial
theorem Mine.top.tw1601500998369573665 : True := trivial
theorem Mine.top.tw16050417384331286980 : True := trivial
theorem Mine.top.tw16054190913257422852 : True := trivial
theorem Mine.top.tw16058212318047004132 : True := trivial
theorem Mine.top.tw16123964013534891561 : True := trivial
theorem Mine.top.tw16155163154822807229 : True := trivial
theorem Mine.top.tw1617357707322924660 : True := trivial
theorem Mine.top.tw16174758807025615021 : True := trivial
theorem Mine.top.tw16196420915677631385 : True := trivial
theorem Mine.top.tw16273406610938067001 : True := trivial
theorem Mine.top.tw16325430554902658873 : True := trivial
theorem Mine.top.tw16352630495959832749 : True := trivial
theorem Mine.top.tw16415559393655328363 : True := trivial
theorem Mine.top.tw16420938139371093754 : True := trivial
theorem Mine.top.tw16439428074185983240 : True := trivial
theorem Mine.top.tw16453443671601555132 : True := trivial
theorem Mine.top.tw16550210197400561554 : True := trivial
theorem Mine.top.tw1655259298481077034 : True := trivial
theorem Mine.top.tw16597617366809209970 : True := trivial
theorem Mine.top.tw16666122058527598403 : True := trivial
theorem Mine.top.tw16713831800681072344 : True := trivial
theorem Mine.top.tw16719718919923625709 : True := trivial
theorem Mine.top.tw16759092144687519636 : True := trivial
theorem Mine.top.tw1676862907878916244 : True := trivial
theorem Mine.top.tw16782997733028217545 : True := trivial
theorem Mine.top.tw16795567611416646642 : True := trivial
theorem Mine.top.tw16800595933775061595 : True := trivial
theorem Mine.top.tw16821654228018055803 : True := trivial
theorem Mine.top.tw16840627104734473223 : True := trivial
theorem Mine.top.tw16878204669230926818 : True := trivial
theorem Mine.top.tw1697544655201012999 : True := trivial
theorem Mine.top.tw16975562568813534335 : True := trivial
theorem Mine.top.tw17022078359063049780 : True := trivial
theorem Mine.top.tw17046948494117081484 : True := trivial
theorem Mine.top.tw1706793611546318481 : True := trivial
theorem Mine.top.tw17089494485692210459 : True := trivial
theorem Mine.top.tw17103177528636943170 : True := trivial
theorem Mine.top.tw17103585973383926153 : True := trivial
theorem Mine.top.tw17219337458794519322 : True := trivial
theorem Mine.top.tw17244936779566465919 : True := trivial
theorem Mine.top.tw17302914690377659996 : True := trivial
theorem Mine.top.tw17315540178315561739 : True := trivial
theorem Mine.top.tw1732150942055357024 : True := trivial
theorem Mine.top.tw17346259052997144950 : True := trivial
theorem Mine.top.tw1736530178072539846 : True := trivial
theorem Mine.top.tw17428532607074087071 : True := trivial
theorem Mine.top.tw17469865338272021226 : True := trivial
theorem Mine.top.tw17479665133089594572 : True := trivial
theorem Mine.top.tw17486766287000646611 : True := trivial
theorem Mine.top.tw17492772389151264855 : True := trivial
theorem Mine.top.tw17542608870123051758 : True := trivial
theorem Mine.top.tw1754339480302792767 : True := trivial
theorem Mine.top.tw17555251805378815213 : True := trivial
theorem Mine.top.tw17565814175750979855 : True := trivial
theorem Mine.top.tw17620759639134147866 : True := trivial
theorem Mine.top.tw17781115878593249900 : True := trivial
theorem Mine.top.tw17795014544551873601 : True := trivial
theorem Mine.top.tw17810072253543177317 : True := trivial
theorem Mine.top.tw17886615442053742456 : True := trivial
theorem Mine.top.tw17953984050398360512 : True := trivial
theorem Mine.top.tw18008055252877512497 : True := trivial
theorem Mine.top.tw18034075008235765660 : True := trivial
theorem Mine.top.tw18085771088847121727 : True := trivial
theorem Mine.top.tw1814787853859245837 : True := trivial
theorem Mine.top.tw18164388396756303480 : True := trivial
theorem Mine.top.tw18177719399980262173 : True := trivial
theorem Mine.top.tw18186074749648716422 : True := trivial
theorem Mine.top.tw18194552166560175392 : True := trivial
theorem Mine.top.tw18237780215024852062 : True := trivial
theorem Mine.top.tw18245740138792012028 : True := trivial
theorem Mine.top.tw18289109515434150305 : True := trivial
theorem Mine.top.tw1833847959688406909 : True := trivial
theorem Mine.top.tw18367679650794681301 : True := trivial
theorem Mine.top.tw1843344800811705456 : True := trivial
theorem Mine.top.tw1869187583165140508 : True := trivial
theorem Mine.top.tw1886144042066472794 : True := trivial
theorem Mine.top.tw1971433849790844608 : True := trivial
theorem Mine.top.tw1988063486488863061 : True := trivial
theorem Mine.top.tw2057334267981633021 : True := trivial
theorem Mine.top.tw2126296398998916975 : True := trivial
theorem Mine.top.tw2145171640123136144 : True := trivial
theorem Mine.top.tw216529984938456764 : True := trivial
theorem Mine.top.tw2220570432770164149 : True := trivial
theorem Mine.top.tw2249405535684624136 : True := trivial
theorem Mine.top.tw2265517523759736501 : True := trivial
theorem Mine.top.tw2267912224990424062 : True := trivial
theorem Mine.top.tw2287823674025257028 : True := trivial
theorem Mine.top.tw2329457986368946861 : True := trivial
theorem Mine.top.tw2369445192022557226 : True := trivial
theorem Mine.top.tw2405475915293451298 : True := trivial
theorem Mine.top.tw2417791160451022400 : True := trivial
theorem Mine.top.tw2443449257678562572 : True := trivial
theorem Mine.top.tw2462062305354472974 : True := trivial
theorem Mine.top.tw2464713573024523455 : True := trivial
theorem Mine.top.tw2506305409684761478 : True := trivial
theorem Mine.top.tw2514443458684651071 : True := trivial
theorem Mine.top.tw2544169868661182894 : True := trivial
theorem Mine.top.tw2581206410525282061 : True := trivial
theorem Mine.top.tw2617719716777270872 : True := trivial
theorem Mine.top.tw2665807947273092163 : True := trivial
theorem Mine.top.tw2686433634493928565 : True := trivial
theorem Mine.top.tw2722852734226103192 : True := trivial
theorem Mine.top.tw2731995056826638727 : True := trivial
theorem Mine.top.tw2732273902793177162 : True := trivial
theorem Mine.top.tw2741389259953327712 : True := trivial
theorem Mine.top.tw2758071753971750899 : True := trivial
theorem Mine.top.tw2782073688633401757 : True := trivial
theorem Mine.top.tw2812155379371279736 : True := trivial
theorem Mine.top.tw2822501910515967889 : True := trivial
theorem Mine.top.tw283044589724301 : True := trivial
theorem Mine.top.tw2835187731363253809 : True := trivial
theorem Mine.top.tw2847958352784047137 : True := trivial
theorem Mine.top.tw2878843996050045342 : True := trivial
theorem Mine.top.tw2907113945770861938 : True := trivial
theorem Mine.top.tw297971269722091814 : True := trivial
theorem Mine.top.tw2985252069258134486 : True := trivial
theorem Mine.top.tw2988451766255067171 : True := trivial
theorem Mine.top.tw3002795768020413707 : True := trivial
theorem Mine.top.tw3195968871104189447 : True := trivial
theorem Mine.top.tw3207569582813703071 : True := trivial
theorem Mine.top.tw3217022616335106338 : True := trivial
theorem Mine.top.tw3254097082911018636 : True := trivial
theorem Mine.top.tw3261557481417251176 : True := trivial
theorem Mine.top.tw3337584539547039419 : True := trivial
theorem Mine.top.tw3378803678994701225 : True := trivial
theorem Mine.top.tw339143206060000330 : True := trivial
theorem Mine.top.tw3422688185749166683 : True := trivial
theorem Mine.top.tw342308947776675178 : True := trivial
theorem Mine.top.tw3474246075231452896 : True := trivial
theorem Mine.top.tw3479634599624807885 : True := trivial
theorem Mine.top.tw3484022092364678248 : True := trivial
theorem Mine.top.tw352232786441526191 : True := trivial
theorem Mine.top.tw3584897518013459382 : True := trivial
theorem Mine.top.tw3696473221133414273 : True := trivial
theorem Mine.top.tw370947364307004932 : True := trivial
theorem Mine.top.tw3730354652608582461 : True := trivial
theorem Mine.top.tw3739144386018749749 : True := trivial
theorem Mine.top.tw3776753064480771068 : True := trivial
theorem Mine.top.tw381845443943030031 : True := trivial
theorem Mine.top.tw3855276242980373810 : True := trivial
theorem Mine.top.tw3871027444623705763 : True := trivial
theorem Mine.top.tw390997316461189296 : True := trivial
theorem Mine.top.tw3969286963782609292 : True := trivial
theorem Mine.top.tw3995942328266245912 : True := trivial
theorem Mine.top.tw4047667213573674445 : True := trivial
theorem Mine.top.tw4058662728301269685 : True := trivial
theorem Mine.top.tw4076138812419527698 : True := trivial
theorem Mine.top.tw4134505453457115739 : True := trivial
theorem Mine.top.tw4159251561096739476 : True := trivial
theorem Mine.top.tw4166218997396506358 : True := trivial
theorem Mine.top.tw4177254973167742082 : True := trivial
theorem Mine.top.tw4186445540838780016 : True := trivial
theorem Mine.top.tw4205137553216949640 : True := trivial
theorem Mine.top.tw4213018616267185653 : True := trivial
theorem Mine.top.tw427420600052151026 : True := trivial
theorem Mine.top.tw4299629679881509495 : True := trivial
theorem Mine.top.tw4321519831107876412 : True := trivial
theorem Mine.top.tw4383139521930768336 : True := trivial
theorem Mine.top.tw4392038535549328194 : True := trivial
theorem Mine.top.tw4498253355057717688 : True := trivial
theorem Mine.top.tw4551080515912023512 : True := trivial
theorem Mine.top.tw4555866861457887817 : True := trivial
theorem Mine.top.tw4571971715460732019 : True := trivial
theorem Mine.top.tw4597200072644226624 : True := trivial
theorem Mine.top.tw4656485037274611717 : True := trivial
theorem Mine.top.tw4671429814451907529 : True := trivial
theorem Mine.top.tw4699463449715708850 : True := trivial
theorem Mine.top.tw4713442408853163898 : True := trivial
theorem Mine.top.tw4736427724481360342 : True := trivial
theorem Mine.top.tw4755264550707404760 : True := trivial
theorem Mine.top.tw4784893810139332661 : True := trivial
theorem Mine.top.tw4828031223510198475 : True := trivial
theorem Mine.top.tw4835499133494076262 : True := trivial
theorem Mine.top.tw4916261283513009128 : True := trivial
theorem Mine.top.tw4940147422707163885 : True := trivial
theorem Mine.top.tw501154541418245514 : True := trivial
theorem Mine.top.tw5058314954733539658 : True := trivial
theorem Mine.top.tw5088376156974544275 : True := trivial
theorem Mine.top.tw5105846836358774362 : True := trivial
theorem Mine.top.tw5118827330378232414 : True := trivial
theorem Mine.top.tw5187335452993679001 : True := trivial
theorem Mine.top.tw5225153198818245361 : True := trivial
theorem Mine.top.tw5244899138074338376 : True := trivial
theorem Mine.top.tw5245862010334584759 : True := trivial
theorem Mine.top.tw5278709424875269971 : True := trivial
theorem Mine.top.tw5303079699428457377 : True := trivial
theorem Mine.top.tw5398424786039705171 : True := trivial
theorem Mine.top.tw5411213471307467458 : True := trivial
theorem Mine.top.tw5476889619067714990 : True := trivial
theorem Mine.top.tw5507162329139097715 : True := trivial
theorem Mine.top.tw5523086135645875356 : True := trivial
theorem Mine.top.tw5581607755468803823 : True := trivial
theorem Mine.top.tw5667650583090716360 : True := trivial
theorem Mine.top.tw5702910450625016506 : True := trivial
theorem Mine.top.tw575894324575664597 : True := trivial
theorem Mine.top.tw5839659824258004927 : True := trivial
theorem Mine.top.tw5860347150701562758 : True := trivial
theorem Mine.top.tw5868845118606482295 : True := trivial
theorem Mine.top.tw5889316905344633881 : True := trivial
theorem Mine.top.tw5938664839603501006 : True := trivial
theorem Mine.top.tw5969682004907312646 : True := trivial
theorem Mine.top.tw6042063481754889096 : True := trivial
theorem Mine.top.tw6124053682588569230 : True := trivial
theorem Mine.top.tw6127594578889010139 : True := trivial
theorem Mine.top.tw6176384092110617959 : True := trivial
theorem Mine.top.tw6187478851450931391 : True := trivial
theorem Mine.top.tw6189502492464219833 : True := trivial
theorem Mine.top.tw6240723676877644813 : True := trivial
theorem Mine.top.tw6265701101103706036 : True := trivial
theorem Mine.top.tw6292954644110606532 : True := trivial
theorem Mine.top.tw6333448901615975916 : True := trivial
theorem Mine.top.tw6370870915552960936 : True := trivial
theorem Mine.top.tw6410608677101946591 : True := trivial
theorem Mine.top.tw6430265229019958763 : True := trivial
theorem Mine.top.tw6431110157172167083 : True := trivial
theorem Mine.top.tw6473336682457920079 : True := trivial
theorem Mine.top.tw6491118196486620199 : True := trivial
theorem Mine.top.tw649594095290182367 : True := trivial
theorem Mine.top.tw6520327441239513222 : True := trivial
theorem Mine.top.tw6572447435987645144 : True := trivial
theorem Mine.top.tw6624316729101989866 : True := trivial
theorem Mine.top.tw6662652255960138227 : True := trivial
theorem Mine.top.tw6664487174759623829 : True := trivial
theorem Mine.top.tw6674990990233134667 : True := trivial
theorem Mine.top.tw672699306608606093 : True := trivial
theorem Mine.top.tw6746510453823603384 : True := trivial
theorem Mine.top.tw6749217079512962374 : True := trivial
theorem Mine.top.tw6756868429301003459 : True := trivial
theorem Mine.top.tw6812286434817487243 : True := trivial
theorem Mine.top.tw681777741448182936 : True := trivial
theorem Mine.top.tw6859976401760118174 : True := trivial
theorem Mine.top.tw6883741973766446791 : True := trivial
theorem Mine.top.tw6885214360128481674 : True := trivial
theorem Mine.top.tw6898770573198911631 : True := trivial
theorem Mine.top.tw6906291655842520137 : True := trivial
theorem Mine.top.tw6919701780365589675 : True := trivial
theorem Mine.top.tw6935040760599045222 : True := trivial
theorem Mine.top.tw6973401727384321114 : True := trivial
theorem Mine.top.tw7008692893051332821 : True := trivial
theorem Mine.top.tw705360758644809490 : True := trivial
theorem Mine.top.tw708234853630380328 : True := trivial
theorem Mine.top.tw7198060816514059695 : True := trivial
theorem Mine.top.tw7204493036743257322 : True := trivial
theorem Mine.top.tw72247145696351765 : True := trivial
theorem Mine.top.tw7250933059871147345 : True := trivial
theorem Mine.top.tw7260941619817147077 : True := trivial
theorem Mine.top.tw7297446738713254254 : True := trivial
theorem Mine.top.tw7313339093194340965 : True := trivial
theorem Mine.top.tw7325726471975496349 : True := trivial
theorem Mine.top.tw7381879191629600215 : True := trivial
theorem Mine.top.tw7386116660499605909 : True := trivial
theorem Mine.top.tw7399620327199909405 : True := trivial
theorem Mine.top.tw7414872774492366064 : True := trivial
theorem Mine.top.tw7429413206186439793 : True := trivial
theorem Mine.top.tw7557910624720293991 : True := trivial
theorem Mine.top.tw7600245330811189008 : True := trivial
theorem Mine.top.tw76412952228603488 : True := trivial
theorem Mine.top.tw7671549972530922468 : True := trivial
theorem Mine.top.tw7673058066778466091 : True := trivial
theorem Mine.top.tw7740461459972228597 : True := trivial
theorem Mine.top.tw7743179893348639699 : True := trivial
theorem Mine.top.tw775762912060472103 : True := trivial
theorem Mine.top.tw7830913209206220567 : True := trivial
theorem Mine.top.tw7847352863974893604 : True := trivial
theorem Mine.top.tw7896837427191650641 : True := trivial
theorem Mine.top.tw795583310449317561 : True := trivial
theorem Mine.top.tw7990429038631628895 : True := trivial
theorem Mine.top.tw8025738503920905074 : True := trivial
theorem Mine.top.tw8043003576528973991 : True := trivial
theorem Mine.top.tw8139039716903228087 : True := trivial
theorem Mine.top.tw8140125068956082859 : True := trivial
theorem Mine.top.tw814325599930780420 : True := trivial
theorem Mine.top.tw8143265674769528471 : True := trivial
theorem Mine.top.tw8148004212497801138 : True := trivial
theorem Mine.top.tw8184561461823581802 : True := trivial
theorem Mine.top.tw8204474986945543665 : True := trivial
theorem Mine.top.tw8212240652046128837 : True := trivial
theorem Mine.top.tw8237333600419904120 : True := trivial
theorem Mine.top.tw8265311939077410998 : True := trivial
theorem Mine.top.tw8281120267493503204 : True := trivial
theorem Mine.top.tw8311017846404947139 : True := trivial
theorem Mine.top.tw8321918168302905379 : True := trivial
theorem Mine.top.tw8345894832289464959 : True := trivial
theorem Mine.top.tw8363718466572441477 : True := trivial
theorem Mine.top.tw8369368087495890639 : True := trivial
theorem Mine.top.tw8410488445778877200 : True := trivial
theorem Mine.top.tw84136930442132756 : True := trivial
theorem Mine.top.tw8435561252592420358 : True := trivial
theorem Mine.top.tw8443935842833279946 : True := trivial
theorem Mine.top.tw8472579005086612782 : True := trivial
theorem Mine.top.tw8507776931139520737 : True := trivial
theorem Mine.top.tw8523463495250067690 : True := trivial
theorem Mine.top.tw8538268897159353584 : True := trivial
theorem Mine.top.tw8560541052185303311 : True := trivial
theorem Mine.top.tw860223938195835975 : True := trivial
theorem Mine.top.tw8640399195822439974 : True := trivial
theorem Mine.top.tw864819663365544661 : True := trivial
theorem Mine.top.tw8657480035899644758 : True := trivial
theorem Mine.top.tw8689318265317240412 : True := trivial
theorem Mine.top.tw8694864300669457046 : True := trivial
theorem Mine.top.tw8729362747519067210 : True := trivial
theorem Mine.top.tw877433047237710547 : True := trivial
theorem Mine.top.tw8810280945414196856 : True := trivial
theorem Mine.top.tw8813761850579938390 : True := trivial
theorem Mine.top.tw8874702517807110003 : True := trivial
theorem Mine.top.tw887695700811335699 : True := trivial
theorem Mine.top.tw8892184565913893157 : True := trivial
theorem Mine.top.tw8973803690348224638 : True := trivial
theorem Mine.top.tw9059672392935016618 : True := trivial
theorem Mine.top.tw9059832203979395877 : True := trivial
theorem Mine.top.tw9063741608606530840 : True := trivial
theorem Mine.top.tw9068506458530023791 : True := trivial
theorem Mine.top.tw908825868028484722 : True := trivial
theorem Mine.top.tw9152664641465651067 : True := trivial
theorem Mine.top.tw9165953624949470791 : True := trivial
theorem Mine.top.tw9166809390415177425 : True := trivial
theorem Mine.top.tw9195894827357321740 : True := trivial
theorem Mine.top.tw9227057690007400460 : True := trivial
theorem Mine.top.tw9227541089923242437 : True := trivial
theorem Mine.top.tw9233335307524088747 : True := trivial
theorem Mine.top.tw9233715247699887402 : True := trivial
theorem Mine.top.tw9259421805112917234 : True := trivial
theorem Mine.top.tw9305691244287143441 : True := trivial
theorem Mine.top.tw9335426496214029073 : True := trivial
theorem Mine.top.tw9361663168868926718 : True := trivial
theorem Mine.top.tw9366391650621772374 : True := trivial
theorem Mine.top.tw9378254376102152143 : True := trivial
theorem Mine.top.tw9382581127745807760 : True := trivial
theorem Mine.top.tw9437893007894698314 : True := trivial
theorem Mine.top.tw9442318146202087700 : True := trivial
theorem Mine.top.tw9474576662836816922 : True := trivial
theorem Mine.top.tw9503340733035011235 : True := trivial
theorem Mine.top.tw956942650209027819 : True := trivial
theorem Mine.top.tw9589608677651300831 : True := trivial
theorem Mine.top.tw9614876229902214918 : True := trivial
theorem Mine.top.tw9631074621892390191 : True := trivial
theorem Mine.top.tw9685272918333002393 : True := trivial
theorem Mine.top.tw9739860059890490050 : True := trivial
theorem Mine.top.tw9759319705405543751 : True := trivial
theorem Mine.top.tw9768079942903668216 : True := trivial
theorem Mine.top.tw9778709835246160473 : True := trivial
theorem Mine.top.tw9800703332001039478 : True := trivial
theorem Mine.top.tw9843447840031818808 : True := trivial
theorem Mine.top.tw9851269098105209369 : True := trivial
theorem Mine.top.tw987869383939708018 : True := trivial
theorem Mine.top.tw9913501989792142831 : True := trivial
theorem Mine.top.tw9951221954081769418 : True := trivial
theorem Mine.top.tw9953747333497923681 : True := trivial
theorem Mine.top.tw995497684801637723 : True := trivial
theorem Mine.top.tw9961057766049560675 : True := trivial
theorem Mine.top.tw9962302188120564619 : True := trivial
set_option Elab.async true
theorem Mine.top : PySem.Challenge.rw_np0233_01.Holds := by
  w_on; o_law; (o_head (kHook Mine.K0 Mine.K0as (fun _ => by kernel_rfl))); (case hw => w_witness2)
  k_fill
  intro w s₀ s₁ mg mb G Y fa o pm cd doc dV kV ho hd hcd hD hmg hg args vals as hpre hlay hrd hwl hlo
  have KX := kIn_of Y
  refine Ground.open G ?_
  intro T B D TE TW
  have e548 := mg_of KX T.g (show nsIn (Mine.K0 w.params) mainGlobals "law" = some (some (.ref 548)) by k_is)
  have ef : fa = 548 := by
    have q := hmg.symm.trans e548
    injection q with q
    injection q
  subst ef
  have Gd1 : Mine.Gd w (fun a => s₁.heap.get? a) := ⟨s₁.heap, ⟨KX, ⟨mg, T.g⟩, ⟨mb, T.b, T.builtins⟩, T.nolimit⟩, fun _ _ e => e⟩
  clear T B D TE TW G Y hd hcd hD e548 hmg KX
  wrow_args hpre hlay hrd hwl hlo
  rename Heap.IsList _ _ _ => hL
  rename IntsAre _ _ => hI
  rename ¬ _ < _ => hcond
  obtain ⟨o1, g1, c1, n1, d1⟩ := hL
  have hlen := IntsAre.length hI
  refine wpAny_mono (Mine.law_spec (A := callerA) (s := s₁) (h := s₁.heap) (t := s₁.toks) ⟨rfl, by decide, by decide⟩ Gd1 (fun _ _ e => e) ⟨_, o1, rfl, g1, c1, n1, d1⟩ hI (by omega)) (fun v s' hz => ?_) (fun _ _ e => False.elim e)
  obtain ⟨g', h', t', rfl, GR, rfl⟩ := hz
  refine GoodW.toG ⟨.inl ⟨_, .bool true, [], rfl, fun _ => rfl, .bool true, ?post, fun _ => ⟨.nil, fun _ ha => nomatch ha⟩⟩, fun b o e => GR.all b o (by simp) e, rfl, hg⟩
  first
  | (decide; done)
  | kernel_rfl
  | wrow_post
theorem PySem.Challenge.cw_np0233_01_holds : PySem.Challenge.rw_np0233_01.Holds :=
  Mine.top
