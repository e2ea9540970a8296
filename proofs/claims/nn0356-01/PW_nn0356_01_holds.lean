import PyProof.Rows.All
import Wide.All
import OpenK.AllK
import Wide.FinOn
import Lean
import PySem.Challenge.RW_nn0356_01
open PySem PySem.W PySem.Calls PyProof.Rows
set_option Elab.async false
set_option maxRecDepth 100000
set_option maxHeartbeats 8000000
set_option linter.unusedVariables false
set_option linter.unusedSimpArgs false
namespace Mine
/-! the head: the text's own statements by their place, the heap that the top leaves, the view -/
def pick {α : Type} {x : α} (y : α) (_ : x = y) : α := y
noncomputable def stAt (i : Nat) : Stmt := (Challenge.pw_nn0356_01.main.body).getD i default
noncomputable def s0 : Stmt := pick (x := stAt 0) _ (by conv => lhs; whnf)
noncomputable def s2 : Stmt := pick (x := stAt 2) _ (by conv => lhs; whnf)
noncomputable def s3 : Stmt := pick (x := stAt 3) _ (by conv => lhs; whnf)
noncomputable def s4 : Stmt := pick (x := stAt 4) _ (by conv => lhs; whnf)
noncomputable def s5 : Stmt := pick (x := stAt 5) _ (by conv => lhs; whnf)
noncomputable def s6 : Stmt := pick (x := stAt 6) _ (by conv => lhs; whnf)
noncomputable def s8 : Stmt := pick (x := stAt 8) _ (by conv => lhs; whnf)
noncomputable def s9 : Stmt := pick (x := stAt 9) _ (by conv => lhs; whnf)
noncomputable def s10 : Stmt := pick (x := stAt 10) _ (by conv => lhs; whnf)
noncomputable def s12 : Stmt := pick (x := stAt 12) _ (by conv => lhs; whnf)
noncomputable def s13 : Stmt := pick (x := stAt 13) _ (by conv => lhs; whnf)
noncomputable def s14 : Stmt := pick (x := stAt 14) _ (by conv => lhs; whnf)
noncomputable def s15 : Stmt := pick (x := stAt 15) _ (by conv => lhs; whnf)
noncomputable def s17 : Stmt := pick (x := stAt 17) _ (by conv => lhs; whnf)
noncomputable def s19 : Stmt := pick (x := stAt 19) _ (by conv => lhs; whnf)
noncomputable def s20 : Stmt := pick (x := stAt 20) _ (by conv => lhs; whnf)
noncomputable def s21 : Stmt := pick (x := stAt 21) _ (by conv => lhs; whnf)
noncomputable def s22 : Stmt := pick (x := stAt 22) _ (by conv => lhs; whnf)
noncomputable def s23 : Stmt := pick (x := stAt 23) _ (by conv => lhs; whnf)
noncomputable def s24 : Stmt := pick (x := stAt 24) _ (by conv => lhs; whnf)
noncomputable def s25 : Stmt := pick (x := stAt 25) _ (by conv => lhs; whnf)
noncomputable def s26 : Stmt := pick (x := stAt 26) _ (by conv => lhs; whnf)
noncomputable def s27 : Stmt := pick (x := stAt 27) _ (by conv => lhs; whnf)
noncomputable def s28 : Stmt := pick (x := stAt 28) _ (by conv => lhs; whnf)
noncomputable def s29 : Stmt := pick (x := stAt 29) _ (by conv => lhs; whnf)
noncomputable def s30 : Stmt := pick (x := stAt 30) _ (by conv => lhs; whnf)
noncomputable def s31 : Stmt := pick (x := stAt 31) _ (by conv => lhs; whnf)
noncomputable def s32 : Stmt := pick (x := stAt 32) _ (by conv => lhs; whnf)
noncomputable def s33 : Stmt := pick (x := stAt 33) _ (by conv => lhs; whnf)
noncomputable def s34 : Stmt := pick (x := stAt 34) _ (by conv => lhs; whnf)
noncomputable def s35 : Stmt := pick (x := stAt 35) _ (by conv => lhs; whnf)
noncomputable def s36 : Stmt := pick (x := stAt 36) _ (by conv => lhs; whnf)
noncomputable def stIn (s : Stmt) (j : Nat) : Stmt := match s with
  | .ClassDef _ _ _ b _ _ _ _ _ _ _ => b.getD j default
  | _ => default
noncomputable def mkF (s : Stmt) (q : Str) (g : Addr) (cl : List (Str × Addr)) (df kw dc md : Value) (an : Option Addr) (cd ct : Value) (bi : Addr) (c : Value) (dd : Option Addr) (sl : Array (Option Value)) : Obj := match s with
  | .FunctionDef n ps b _ _ _ sc _ _ _ => ⟨c, dd, .func { name := n, qualname := q, params := ps, body := .stmts b, scope := sc, globals := g, closure := cl, defaults := df, kwdefaults := kw, doc := dc, pyModule := md, annotations := an, code := cd, closureTuple := ct, builtins := bi }, sl⟩
  | _ => default
abbrev de (P : Params) (n : String) (t : Tok) (v : Value) : DictEntry := { hash := PyData.keyHash P (Str.ofString n), key := .str (Str.ofString n) t, val := v }
noncomputable def o21 : Obj := pick (x := mkF s0 (Str.ofString "_wall") 3 [] .none .none .none (.str (Str.ofString "__main__") 164) none (.ref 20) .none 0 (.type "function") none #[]) _ (by conv => lhs; whnf)
noncomputable def o35 : Obj := pick (x := mkF (stIn s2 0) (Str.ofString "Position.__init__") 3 [] .none .none .none (.str (Str.ofString "grammarmill.source") 194) none (.ref 34) .none 0 (.type "function") none #[]) _ (by conv => lhs; whnf)
noncomputable def o42 : Obj := pick (x := mkF (stIn s2 1) (Str.ofString "Position.told") 3 [] .none .none .none (.str (Str.ofString "grammarmill.source") 194) none (.ref 41) .none 0 (.type "function") none #[]) _ (by conv => lhs; whnf)
noncomputable def o64 : Obj := pick (x := mkF (stIn s3 0) (Str.ofString "Token.__init__") 3 [] (.ref 57) .none .none (.str (Str.ofString "grammarmill.source") 194) none (.ref 63) .none 0 (.type "function") none #[]) _ (by conv => lhs; whnf)
noncomputable def o71 : Obj := pick (x := mkF (stIn s3 1) (Str.ofString "Token.told") 3 [] .none .none .none (.str (Str.ofString "grammarmill.source") 194) none (.ref 70) .none 0 (.type "function") none #[]) _ (by conv => lhs; whnf)
noncomputable def o78 : Obj := pick (x := mkF (stIn s3 2) (Str.ofString "Token.is_end") 3 [] .none .none .none (.str (Str.ofString "grammarmill.source") 194) none (.ref 77) .none 0 (.type "function") none #[]) _ (by conv => lhs; whnf)
noncomputable def o92 : Obj := pick (x := mkF s4 (Str.ofString "hex_escape") 3 [] .none .none .none (.str (Str.ofString "grammarmill.source") 194) none (.ref 91) .none 0 (.type "function") none #[]) _ (by conv => lhs; whnf)
noncomputable def o99 : Obj := pick (x := mkF s5 (Str.ofString "escaped_sign") 3 [] .none .none .none (.str (Str.ofString "grammarmill.source") 194) none (.ref 98) .none 0 (.type "function") none #[]) _ (by conv => lhs; whnf)
noncomputable def o104 : Obj := pick (x := mkF s6 (Str.ofString "escaped") 3 [] .none .none .none (.str (Str.ofString "grammarmill.source") 194) none (.ref 103) .none 0 (.type "function") none #[]) _ (by conv => lhs; whnf)
noncomputable def o118 : Obj := pick (x := mkF (stIn s8 0) (Str.ofString "Tree.__init__") 3 [] .none .none .none (.str (Str.ofString "grammarmill.nodes") 308) none (.ref 117) .none 0 (.type "function") none #[]) _ (by conv => lhs; whnf)
noncomputable def o125 : Obj := pick (x := mkF (stIn s8 1) (Str.ofString "Tree.is_leaf") 3 [] .none .none .none (.str (Str.ofString "grammarmill.nodes") 308) none (.ref 124) .none 0 (.type "function") none #[]) _ (by conv => lhs; whnf)
noncomputable def o132 : Obj := pick (x := mkF (stIn s8 2) (Str.ofString "Tree.head") 3 [] .none .none .none (.str (Str.ofString "grammarmill.nodes") 308) none (.ref 131) .none 0 (.type "function") none #[]) _ (by conv => lhs; whnf)
noncomputable def o139 : Obj := pick (x := mkF (stIn s8 3) (Str.ofString "Tree.told") 3 [] .none .none .none (.str (Str.ofString "grammarmill.nodes") 308) none (.ref 138) .none 0 (.type "function") none #[]) _ (by conv => lhs; whnf)
noncomputable def o144 : Obj := pick (x := mkF (stIn s8 4) (Str.ofString "Tree.leaves") 3 [] .none .none .none (.str (Str.ofString "grammarmill.nodes") 308) none (.ref 143) .none 0 (.type "function") none #[]) _ (by conv => lhs; whnf)
noncomputable def o151 : Obj := pick (x := mkF (stIn s8 5) (Str.ofString "Tree.reductions") 3 [] .none .none .none (.str (Str.ofString "grammarmill.nodes") 308) none (.ref 150) .none 0 (.type "function") none #[]) _ (by conv => lhs; whnf)
noncomputable def o158 : Obj := pick (x := mkF (stIn s8 6) (Str.ofString "Tree.height") 3 [] .none .none .none (.str (Str.ofString "grammarmill.nodes") 308) none (.ref 157) .none 0 (.type "function") none #[]) _ (by conv => lhs; whnf)
noncomputable def o165 : Obj := pick (x := mkF (stIn s8 7) (Str.ofString "Tree.show") 3 [] .none .none .none (.str (Str.ofString "grammarmill.nodes") 308) none (.ref 164) .none 0 (.type "function") none #[]) _ (by conv => lhs; whnf)
noncomputable def o186 : Obj := pick (x := mkF (stIn s9 0) (Str.ofString "Leaf.__init__") 3 [] .none .none .none (.str (Str.ofString "grammarmill.nodes") 308) none (.ref 185) .none 0 (.type "function") none #[]) _ (by conv => lhs; whnf)
noncomputable def o193 : Obj := pick (x := mkF (stIn s9 1) (Str.ofString "Leaf.is_leaf") 3 [] .none .none .none (.str (Str.ofString "grammarmill.nodes") 308) none (.ref 192) .none 0 (.type "function") none #[]) _ (by conv => lhs; whnf)
noncomputable def o200 : Obj := pick (x := mkF (stIn s9 2) (Str.ofString "Leaf.head") 3 [] .none .none .none (.str (Str.ofString "grammarmill.nodes") 308) none (.ref 199) .none 0 (.type "function") none #[]) _ (by conv => lhs; whnf)
noncomputable def o212 : Obj := pick (x := mkF s10 (Str.ofString "postorder") 3 [] .none .none .none (.str (Str.ofString "grammarmill.nodes") 308) none (.ref 211) .none 0 (.type "function") none #[]) _ (by conv => lhs; whnf)
noncomputable def o217 : Obj := pick (x := mkF s12 (Str.ofString "show_value") 3 [] .none .none .none (.str (Str.ofString "grammarmill.desk") 447) none (.ref 216) .none 0 (.type "function") none #[]) _ (by conv => lhs; whnf)
noncomputable def o224 : Obj := pick (x := mkF s13 (Str.ofString "show_leaf") 3 [] .none .none .none (.str (Str.ofString "grammarmill.desk") 447) none (.ref 223) .none 0 (.type "function") none #[]) _ (by conv => lhs; whnf)
noncomputable def o229 : Obj := pick (x := mkF s14 (Str.ofString "show_tree") 3 [] .none .none .none (.str (Str.ofString "grammarmill.desk") 447) none (.ref 228) .none 0 (.type "function") none #[]) _ (by conv => lhs; whnf)
noncomputable def o236 : Obj := pick (x := mkF s15 (Str.ofString "show_fault") 3 [] .none .none .none (.str (Str.ofString "grammarmill.desk") 447) none (.ref 235) .none 0 (.type "function") none #[]) _ (by conv => lhs; whnf)
noncomputable def o251 : Obj := pick (x := mkF (stIn s17 0) (Str.ofString "Fault.__init__") 3 [] (.ref 244) .none .none (.str (Str.ofString "grammarmill.driver") 482) none (.ref 250) .none 0 (.type "function") none #[]) _ (by conv => lhs; whnf)
noncomputable def o258 : Obj := pick (x := mkF (stIn s17 1) (Str.ofString "Fault.told") 3 [] .none .none .none (.str (Str.ofString "grammarmill.driver") 482) none (.ref 257) .none 0 (.type "function") none #[]) _ (by conv => lhs; whnf)
noncomputable def o265 : Obj := pick (x := mkF (stIn s17 2) (Str.ofString "Fault.message") 3 [] .none .none .none (.str (Str.ofString "grammarmill.driver") 482) none (.ref 264) .none 0 (.type "function") none #[]) _ (by conv => lhs; whnf)
noncomputable def o277 : Obj := pick (x := mkF s19 (Str.ofString "_law_box") 3 [] .none .none .none (.str (Str.ofString "law_nn0356_01") 535) none (.ref 276) .none 0 (.type "function") none #[]) _ (by conv => lhs; whnf)
noncomputable def o284 : Obj := pick (x := mkF s20 (Str.ofString "_law_draw") 3 [] .none .none .none (.str (Str.ofString "law_nn0356_01") 535) none (.ref 283) .none 0 (.type "function") none #[]) _ (by conv => lhs; whnf)
noncomputable def o293 : Obj := pick (x := mkF s24 (Str.ofString "_law_sign") 3 [] .none .none .none (.str (Str.ofString "law_nn0356_01") 535) none (.ref 292) .none 0 (.type "function") none #[]) _ (by conv => lhs; whnf)
noncomputable def o298 : Obj := pick (x := mkF s25 (Str.ofString "_law_text") 3 [] .none .none .none (.str (Str.ofString "law_nn0356_01") 535) none (.ref 297) .none 0 (.type "function") none #[]) _ (by conv => lhs; whnf)
noncomputable def o303 : Obj := pick (x := mkF s26 (Str.ofString "_law_value") 3 [] .none .none .none (.str (Str.ofString "law_nn0356_01") 535) none (.ref 302) .none 0 (.type "function") none #[]) _ (by conv => lhs; whnf)
noncomputable def o308 : Obj := pick (x := mkF s27 (Str.ofString "_law_plain") 3 [] .none .none .none (.str (Str.ofString "law_nn0356_01") 535) none (.ref 307) .none 0 (.type "function") none #[]) _ (by conv => lhs; whnf)
noncomputable def o315 : Obj := pick (x := mkF s28 (Str.ofString "_law_escaped") 3 [] .none .none .none (.str (Str.ofString "law_nn0356_01") 535) none (.ref 314) .none 0 (.type "function") none #[]) _ (by conv => lhs; whnf)
noncomputable def o320 : Obj := pick (x := mkF s29 (Str.ofString "_law_shown") 3 [] .none .none .none (.str (Str.ofString "law_nn0356_01") 535) none (.ref 319) .none 0 (.type "function") none #[]) _ (by conv => lhs; whnf)
noncomputable def o327 : Obj := pick (x := mkF s30 (Str.ofString "_law_read") 3 [] .none .none .none (.str (Str.ofString "law_nn0356_01") 535) none (.ref 326) .none 0 (.type "function") none #[]) _ (by conv => lhs; whnf)
noncomputable def o332 : Obj := pick (x := mkF s31 (Str.ofString "_law_node") 3 [] .none .none .none (.str (Str.ofString "law_nn0356_01") 535) none (.ref 331) .none 0 (.type "function") none #[]) _ (by conv => lhs; whnf)
noncomputable def o337 : Obj := pick (x := mkF s32 (Str.ofString "_law_tree") 3 [] .none .none .none (.str (Str.ofString "law_nn0356_01") 535) none (.ref 336) .none 0 (.type "function") none #[]) _ (by conv => lhs; whnf)
noncomputable def o344 : Obj := pick (x := mkF s33 (Str.ofString "_law_leaf") 3 [] .none .none .none (.str (Str.ofString "law_nn0356_01") 535) none (.ref 343) .none 0 (.type "function") none #[]) _ (by conv => lhs; whnf)
noncomputable def o349 : Obj := pick (x := mkF s34 (Str.ofString "_law_page") 3 [] .none .none .none (.str (Str.ofString "law_nn0356_01") 535) none (.ref 348) .none 0 (.type "function") none #[]) _ (by conv => lhs; whnf)
noncomputable def o354 : Obj := pick (x := mkF s35 (Str.ofString "_law_fault") 3 [] .none .none .none (.str (Str.ofString "law_nn0356_01") 535) none (.ref 353) .none 0 (.type "function") none #[]) _ (by conv => lhs; whnf)
noncomputable def o361 : Obj := pick (x := mkF s36 (Str.ofString "law") 3 [] .none .none .none (.str (Str.ofString "law_nn0356_01") 535) none (.ref 360) .none 0 (.type "function") none #[]) _ (by conv => lhs; whnf)
noncomputable def Kx : Params → Frag := fun P =>
  (nat_lit 2, (⟨.none, none, .dict #[] 0, #[]⟩ : Obj)) ::
  (nat_lit 3, (⟨(.type "dict"), none, .dict #[de P "__name__" 165 (.str (Str.ofString "law_nn0356_01") 535), de P "__doc__" 166 .none, de P "__package__" 167 .none, de P "__loader__" 168 (.builtin "__main__.__loader__#opaque"), de P "__spec__" 169 .none, de P "__annotations__" 170 (.ref 6), de P "__builtins__" 171 (.ref 4), de P "__file__" 173 (.str (Str.ofString "/claim/cut.py") 172), de P "__cached__" 174 .none, de P "_wall" 193 (.ref 21), de P "Position" 235 (.ref 45), de P "Token" 284 (.ref 81), de P "hex_escape" 292 (.ref 92), de P "escaped_sign" 301 (.ref 99), de P "escaped" 307 (.ref 104), de P "Tree" 393 (.ref 168), de P "Leaf" 435 (.ref 203), de P "postorder" 446 (.ref 212), de P "show_value" 454 (.ref 217), de P "show_leaf" 461 (.ref 224), de P "show_tree" 467 (.ref 229), de P "show_fault" 481 (.ref 236), de P "Fault" 534 (.ref 268), de P "_law_box" 542 (.ref 277), de P "_law_draw" 552 (.ref 284), de P "_law_hex" 554 (.str (Str.ofString "0123456789abcdef") 553), de P "_law_kinds" 560 (.ref 285), de P "_law_names" 567 (.ref 286), de P "_law_sign" 575 (.ref 293), de P "_law_text" 581 (.ref 298), de P "_law_value" 587 (.ref 303), de P "_law_plain" 593 (.ref 308), de P "_law_escaped" 604 (.ref 315), de P "_law_shown" 610 (.ref 320), de P "_law_read" 622 (.ref 327), de P "_law_node" 628 (.ref 332), de P "_law_tree" 634 (.ref 337), de P "_law_leaf" 642 (.ref 344), de P "_law_page" 648 (.ref 349), de P "_law_fault" 654 (.ref 354), de P "law" 667 (.ref 361)] 41, #[]⟩ : Obj)) ::
  (nat_lit 15, (⟨(.type "tuple"), none, .seq #[] 0, #[]⟩ : Obj)) ::
  (nat_lit 17, (⟨(.type "tuple"), none, .seq #[(.str (Str.ofString "k") 190)] 0, #[]⟩ : Obj)) ::
  (nat_lit 18, (⟨(.type "tuple"), none, .seq #[] 0, #[]⟩ : Obj)) ::
  (nat_lit 20, (⟨(.type "code"), none, .fields #[(.str (Str.ofString "_wall") 187), (.str (Str.ofString "_wall") 188), (.str (Str.ofString "/claim/cut.py") 189), (.int 1 0), (.int 1 0), (.int 0 0), (.int 0 0), (.int 3 0), (.ref 15), (.bool true), (.int 181 0), (.ref 16), .none, (.ref 17), (.ref 18), (.ref 19), (.int 191 0), (.int 1 0), (.str (Str.ofString "/claim/cut.py") 192)], #[]⟩ : Obj)) ::
  (nat_lit 21, o21) ::
  (nat_lit 29, (⟨(.type "tuple"), none, .seq #[] 0, #[]⟩ : Obj)) ::
  (nat_lit 31, (⟨(.type "tuple"), none, .seq #[(.str (Str.ofString "self") 211), (.str (Str.ofString "offset") 212), (.str (Str.ofString "line") 213), (.str (Str.ofString "column") 214)] 0, #[]⟩ : Obj)) ::
  (nat_lit 32, (⟨(.type "tuple"), none, .seq #[] 0, #[]⟩ : Obj)) ::
  (nat_lit 34, (⟨(.type "code"), none, .fields #[(.str (Str.ofString "__init__") 208), (.str (Str.ofString "Position.__init__") 209), (.str (Str.ofString "/claim/cut.py") 210), (.int 7 0), (.int 4 0), (.int 0 0), (.int 0 0), (.int 3 0), (.ref 29), (.bool true), (.int 181 0), (.ref 30), .none, (.ref 31), (.ref 32), (.ref 33), (.int 215 0), (.int 7 0), (.str (Str.ofString "/claim/cut.py") 216)], #[]⟩ : Obj)) ::
  (nat_lit 35, o35) ::
  (nat_lit 36, (⟨(.type "tuple"), none, .seq #[] 0, #[]⟩ : Obj)) ::
  (nat_lit 38, (⟨(.type "tuple"), none, .seq #[(.str (Str.ofString "self") 221)] 0, #[]⟩ : Obj)) ::
  (nat_lit 39, (⟨(.type "tuple"), none, .seq #[] 0, #[]⟩ : Obj)) ::
  (nat_lit 41, (⟨(.type "code"), none, .fields #[(.str (Str.ofString "told") 218), (.str (Str.ofString "Position.told") 219), (.str (Str.ofString "/claim/cut.py") 220), (.int 12 0), (.int 1 0), (.int 0 0), (.int 0 0), (.int 3 0), (.ref 36), (.bool true), (.int 181 0), (.ref 37), .none, (.ref 38), (.ref 39), (.ref 40), (.int 222 0), (.int 12 0), (.str (Str.ofString "/claim/cut.py") 223)], #[]⟩ : Obj)) ::
  (nat_lit 42, o42) ::
  (nat_lit 43, (⟨(.type "tuple"), none, .seq #[(.str (Str.ofString "column") 225), (.str (Str.ofString "line") 226), (.str (Str.ofString "offset") 227)] 0, #[]⟩ : Obj)) ::
  (nat_lit 44, (⟨(.type "dict"), none, .dict #[de P "__module__" 203 (.str (Str.ofString "grammarmill.source") 194), de P "__firstlineno__" 207 (.int 5 206), de P "__init__" 217 (.ref 35), de P "told" 224 (.ref 42), de P "__static_attributes__" 228 (.ref 43), de P "__dict__" 230 (.ref 46), de P "__weakref__" 232 (.ref 47), de P "__doc__" 233 .none] 4, #[]⟩ : Obj)) ::
  (nat_lit 45, (⟨(.type "type"), none, .cls { name := (Str.ofString "Position"), bases := [(.type "object")], mro := [(.ref 45), (.type "object")], ns := 44, qualname := (Str.ofString "Position"), hasDict := true, slotNames := [], subclasses := [], abstract := false, collection := none, hasDel := false }, #[none, none, some (.str (Str.ofString "Position") 196), some (.str (Str.ofString "Position") 204), some (.builtin "object.__new__"), some (.bool true)]⟩ : Obj)) ::
  (nat_lit 46, (⟨(.type "getset_descriptor"), none, .fields #[(.str (Str.ofString "__dict__") 229), (.ref 45), (.builtin "function.__dict__"), (.builtin "function.__dict__#set")], #[]⟩ : Obj)) ::
  (nat_lit 47, (⟨(.type "getset_descriptor"), none, .fields #[(.str (Str.ofString "__weakref__") 231), (.ref 45), (.builtin "ExceptionGroup.__weakref__"), .none], #[]⟩ : Obj)) ::
  (nat_lit 57, (⟨(.type "tuple"), none, .seq #[.none] 0, #[]⟩ : Obj)) ::
  (nat_lit 58, (⟨(.type "tuple"), none, .seq #[] 0, #[]⟩ : Obj)) ::
  (nat_lit 60, (⟨(.type "tuple"), none, .seq #[(.str (Str.ofString "self") 251), (.str (Str.ofString "kind") 252), (.str (Str.ofString "text") 253), (.str (Str.ofString "at") 254), (.str (Str.ofString "worth") 255)] 0, #[]⟩ : Obj)) ::
  (nat_lit 61, (⟨(.type "tuple"), none, .seq #[] 0, #[]⟩ : Obj)) ::
  (nat_lit 63, (⟨(.type "code"), none, .fields #[(.str (Str.ofString "__init__") 248), (.str (Str.ofString "Token.__init__") 249), (.str (Str.ofString "/claim/cut.py") 250), (.int 16 0), (.int 5 0), (.int 0 0), (.int 0 0), (.int 3 0), (.ref 58), (.bool true), (.int 181 0), (.ref 59), .none, (.ref 60), (.ref 61), (.ref 62), (.int 256 0), (.int 16 0), (.str (Str.ofString "/claim/cut.py") 257)], #[]⟩ : Obj)) ::
  (nat_lit 64, o64) ::
  (nat_lit 65, (⟨(.type "tuple"), none, .seq #[] 0, #[]⟩ : Obj)) ::
  (nat_lit 67, (⟨(.type "tuple"), none, .seq #[(.str (Str.ofString "self") 262)] 0, #[]⟩ : Obj)) ::
  (nat_lit 68, (⟨(.type "tuple"), none, .seq #[] 0, #[]⟩ : Obj)) ::
  (nat_lit 70, (⟨(.type "code"), none, .fields #[(.str (Str.ofString "told") 259), (.str (Str.ofString "Token.told") 260), (.str (Str.ofString "/claim/cut.py") 261), (.int 22 0), (.int 1 0), (.int 0 0), (.int 0 0), (.int 3 0), (.ref 65), (.bool true), (.int 181 0), (.ref 66), .none, (.ref 67), (.ref 68), (.ref 69), (.int 263 0), (.int 22 0), (.str (Str.ofString "/claim/cut.py") 264)], #[]⟩ : Obj)) ::
  (nat_lit 71, o71) ::
  (nat_lit 72, (⟨(.type "tuple"), none, .seq #[] 0, #[]⟩ : Obj)) ::
  (nat_lit 74, (⟨(.type "tuple"), none, .seq #[(.str (Str.ofString "self") 269)] 0, #[]⟩ : Obj)) ::
  (nat_lit 75, (⟨(.type "tuple"), none, .seq #[] 0, #[]⟩ : Obj)) ::
  (nat_lit 77, (⟨(.type "code"), none, .fields #[(.str (Str.ofString "is_end") 266), (.str (Str.ofString "Token.is_end") 267), (.str (Str.ofString "/claim/cut.py") 268), (.int 25 0), (.int 1 0), (.int 0 0), (.int 0 0), (.int 3 0), (.ref 72), (.bool true), (.int 181 0), (.ref 73), .none, (.ref 74), (.ref 75), (.ref 76), (.int 270 0), (.int 25 0), (.str (Str.ofString "/claim/cut.py") 271)], #[]⟩ : Obj)) ::
  (nat_lit 78, o78) ::
  (nat_lit 79, (⟨(.type "tuple"), none, .seq #[(.str (Str.ofString "at") 273), (.str (Str.ofString "kind") 274), (.str (Str.ofString "text") 275), (.str (Str.ofString "worth") 276)] 0, #[]⟩ : Obj)) ::
  (nat_lit 80, (⟨(.type "dict"), none, .dict #[de P "__module__" 243 (.str (Str.ofString "grammarmill.source") 194), de P "__firstlineno__" 247 (.int 14 246), de P "__init__" 258 (.ref 64), de P "told" 265 (.ref 71), de P "is_end" 272 (.ref 78), de P "__static_attributes__" 277 (.ref 79), de P "__dict__" 279 (.ref 82), de P "__weakref__" 281 (.ref 83), de P "__doc__" 282 .none] 4, #[]⟩ : Obj)) ::
  (nat_lit 81, (⟨(.type "type"), none, .cls { name := (Str.ofString "Token"), bases := [(.type "object")], mro := [(.ref 81), (.type "object")], ns := 80, qualname := (Str.ofString "Token"), hasDict := true, slotNames := [], subclasses := [], abstract := false, collection := none, hasDel := false }, #[none, none, some (.str (Str.ofString "Token") 236), some (.str (Str.ofString "Token") 244), some (.builtin "object.__new__"), some (.bool true)]⟩ : Obj)) ::
  (nat_lit 82, (⟨(.type "getset_descriptor"), none, .fields #[(.str (Str.ofString "__dict__") 278), (.ref 81), (.builtin "function.__dict__"), (.builtin "function.__dict__#set")], #[]⟩ : Obj)) ::
  (nat_lit 83, (⟨(.type "getset_descriptor"), none, .fields #[(.str (Str.ofString "__weakref__") 280), (.ref 81), (.builtin "ExceptionGroup.__weakref__"), .none], #[]⟩ : Obj)) ::
  (nat_lit 86, (⟨(.type "tuple"), none, .seq #[] 0, #[]⟩ : Obj)) ::
  (nat_lit 88, (⟨(.type "tuple"), none, .seq #[(.str (Str.ofString "code") 288), (.str (Str.ofString "figures") 289)] 0, #[]⟩ : Obj)) ::
  (nat_lit 89, (⟨(.type "tuple"), none, .seq #[] 0, #[]⟩ : Obj)) ::
  (nat_lit 91, (⟨(.type "code"), none, .fields #[(.str (Str.ofString "hex_escape") 285), (.str (Str.ofString "hex_escape") 286), (.str (Str.ofString "/claim/cut.py") 287), (.int 27 0), (.int 1 0), (.int 0 0), (.int 0 0), (.int 3 0), (.ref 86), (.bool true), (.int 181 0), (.ref 87), .none, (.ref 88), (.ref 89), (.ref 90), (.int 290 0), (.int 27 0), (.str (Str.ofString "/claim/cut.py") 291)], #[]⟩ : Obj)) ::
  (nat_lit 92, o92) ::
  (nat_lit 93, (⟨(.type "tuple"), none, .seq #[] 0, #[]⟩ : Obj)) ::
  (nat_lit 95, (⟨(.type "tuple"), none, .seq #[(.str (Str.ofString "sign") 296), (.str (Str.ofString "marks") 297), (.str (Str.ofString "code") 298)] 0, #[]⟩ : Obj)) ::
  (nat_lit 96, (⟨(.type "tuple"), none, .seq #[] 0, #[]⟩ : Obj)) ::
  (nat_lit 98, (⟨(.type "code"), none, .fields #[(.str (Str.ofString "escaped_sign") 293), (.str (Str.ofString "escaped_sign") 294), (.str (Str.ofString "/claim/cut.py") 295), (.int 30 0), (.int 2 0), (.int 0 0), (.int 0 0), (.int 3 0), (.ref 93), (.bool true), (.int 181 0), (.ref 94), .none, (.ref 95), (.ref 96), (.ref 97), (.int 299 0), (.int 30 0), (.str (Str.ofString "/claim/cut.py") 300)], #[]⟩ : Obj)) ::
  (nat_lit 99, o99) ::
  (nat_lit 100, (⟨(.type "tuple"), none, .seq #[] 0, #[]⟩ : Obj)) ::
  (nat_lit 103, (⟨(.type "code"), none, .fields #[(.str (Str.ofString "escaped") 302), (.str (Str.ofString "escaped") 303), (.str (Str.ofString "/claim/cut.py") 304), (.int 41 0), (.int 2 0), (.int 0 0), (.int 0 0), (.int 3 0), (.ref 100), (.bool true), (.int 181 0), (.ref 101), .none, .none, .none, (.ref 102), (.int 305 0), (.int 41 0), (.str (Str.ofString "/claim/cut.py") 306)], #[]⟩ : Obj)) ::
  (nat_lit 104, o104) ::
  (nat_lit 112, (⟨(.type "tuple"), none, .seq #[] 0, #[]⟩ : Obj)) ::
  (nat_lit 114, (⟨(.type "tuple"), none, .seq #[(.str (Str.ofString "self") 325), (.str (Str.ofString "name") 326), (.str (Str.ofString "rule") 327), (.str (Str.ofString "children") 328)] 0, #[]⟩ : Obj)) ::
  (nat_lit 115, (⟨(.type "tuple"), none, .seq #[] 0, #[]⟩ : Obj)) ::
  (nat_lit 117, (⟨(.type "code"), none, .fields #[(.str (Str.ofString "__init__") 322), (.str (Str.ofString "Tree.__init__") 323), (.str (Str.ofString "/claim/cut.py") 324), (.int 46 0), (.int 4 0), (.int 0 0), (.int 0 0), (.int 3 0), (.ref 112), (.bool true), (.int 181 0), (.ref 113), .none, (.ref 114), (.ref 115), (.ref 116), (.int 329 0), (.int 46 0), (.str (Str.ofString "/claim/cut.py") 330)], #[]⟩ : Obj)) ::
  (nat_lit 118, o118) ::
  (nat_lit 119, (⟨(.type "tuple"), none, .seq #[] 0, #[]⟩ : Obj)) ::
  (nat_lit 121, (⟨(.type "tuple"), none, .seq #[(.str (Str.ofString "self") 335)] 0, #[]⟩ : Obj)) ::
  (nat_lit 122, (⟨(.type "tuple"), none, .seq #[] 0, #[]⟩ : Obj)) ::
  (nat_lit 124, (⟨(.type "code"), none, .fields #[(.str (Str.ofString "is_leaf") 332), (.str (Str.ofString "Tree.is_leaf") 333), (.str (Str.ofString "/claim/cut.py") 334), (.int 51 0), (.int 1 0), (.int 0 0), (.int 0 0), (.int 3 0), (.ref 119), (.bool true), (.int 181 0), (.ref 120), .none, (.ref 121), (.ref 122), (.ref 123), (.int 336 0), (.int 51 0), (.str (Str.ofString "/claim/cut.py") 337)], #[]⟩ : Obj)) ::
  (nat_lit 125, o125) ::
  (nat_lit 126, (⟨(.type "tuple"), none, .seq #[] 0, #[]⟩ : Obj)) ::
  (nat_lit 128, (⟨(.type "tuple"), none, .seq #[(.str (Str.ofString "self") 342)] 0, #[]⟩ : Obj)) ::
  (nat_lit 129, (⟨(.type "tuple"), none, .seq #[] 0, #[]⟩ : Obj)) ::
  (nat_lit 131, (⟨(.type "code"), none, .fields #[(.str (Str.ofString "head") 339), (.str (Str.ofString "Tree.head") 340), (.str (Str.ofString "/claim/cut.py") 341), (.int 54 0), (.int 1 0), (.int 0 0), (.int 0 0), (.int 3 0), (.ref 126), (.bool true), (.int 181 0), (.ref 127), .none, (.ref 128), (.ref 129), (.ref 130), (.int 343 0), (.int 54 0), (.str (Str.ofString "/claim/cut.py") 344)], #[]⟩ : Obj)) ::
  (nat_lit 132, o132) ::
  (nat_lit 133, (⟨(.type "tuple"), none, .seq #[] 0, #[]⟩ : Obj)) ::
  (nat_lit 135, (⟨(.type "tuple"), none, .seq #[(.str (Str.ofString "self") 349), (.str (Str.ofString "done") 350), (.str (Str.ofString "node") 351), (.str (Str.ofString "start") 352)] 0, #[]⟩ : Obj)) ::
  (nat_lit 136, (⟨(.type "tuple"), none, .seq #[] 0, #[]⟩ : Obj)) ::
  (nat_lit 138, (⟨(.type "code"), none, .fields #[(.str (Str.ofString "told") 346), (.str (Str.ofString "Tree.told") 347), (.str (Str.ofString "/claim/cut.py") 348), (.int 57 0), (.int 1 0), (.int 0 0), (.int 0 0), (.int 3 0), (.ref 133), (.bool true), (.int 181 0), (.ref 134), .none, (.ref 135), (.ref 136), (.ref 137), (.int 353 0), (.int 57 0), (.str (Str.ofString "/claim/cut.py") 354)], #[]⟩ : Obj)) ::
  (nat_lit 139, o139) ::
  (nat_lit 140, (⟨(.type "tuple"), none, .seq #[] 0, #[]⟩ : Obj)) ::
  (nat_lit 143, (⟨(.type "code"), none, .fields #[(.str (Str.ofString "leaves") 356), (.str (Str.ofString "Tree.leaves") 357), (.str (Str.ofString "/claim/cut.py") 358), (.int 67 0), (.int 1 0), (.int 0 0), (.int 0 0), (.int 3 0), (.ref 140), (.bool true), (.int 181 0), (.ref 141), .none, .none, .none, (.ref 142), (.int 359 0), (.int 67 0), (.str (Str.ofString "/claim/cut.py") 360)], #[]⟩ : Obj)) ::
  (nat_lit 144, o144) ::
  (nat_lit 145, (⟨(.type "tuple"), none, .seq #[] 0, #[]⟩ : Obj)) ::
  (nat_lit 147, (⟨(.type "tuple"), none, .seq #[(.str (Str.ofString "self") 365)] 0, #[]⟩ : Obj)) ::
  (nat_lit 148, (⟨(.type "tuple"), none, .seq #[] 0, #[]⟩ : Obj)) ::
  (nat_lit 150, (⟨(.type "code"), none, .fields #[(.str (Str.ofString "reductions") 362), (.str (Str.ofString "Tree.reductions") 363), (.str (Str.ofString "/claim/cut.py") 364), (.int 70 0), (.int 1 0), (.int 0 0), (.int 0 0), (.int 3 0), (.ref 145), (.bool true), (.int 181 0), (.ref 146), .none, (.ref 147), (.ref 148), (.ref 149), (.int 366 0), (.int 70 0), (.str (Str.ofString "/claim/cut.py") 367)], #[]⟩ : Obj)) ::
  (nat_lit 151, o151) ::
  (nat_lit 152, (⟨(.type "tuple"), none, .seq #[] 0, #[]⟩ : Obj)) ::
  (nat_lit 154, (⟨(.type "tuple"), none, .seq #[(.str (Str.ofString "self") 372)] 0, #[]⟩ : Obj)) ::
  (nat_lit 155, (⟨(.type "tuple"), none, .seq #[] 0, #[]⟩ : Obj)) ::
  (nat_lit 157, (⟨(.type "code"), none, .fields #[(.str (Str.ofString "height") 369), (.str (Str.ofString "Tree.height") 370), (.str (Str.ofString "/claim/cut.py") 371), (.int 73 0), (.int 1 0), (.int 0 0), (.int 0 0), (.int 3 0), (.ref 152), (.bool true), (.int 181 0), (.ref 153), .none, (.ref 154), (.ref 155), (.ref 156), (.int 373 0), (.int 73 0), (.str (Str.ofString "/claim/cut.py") 374)], #[]⟩ : Obj)) ::
  (nat_lit 158, o158) ::
  (nat_lit 159, (⟨(.type "tuple"), none, .seq #[] 0, #[]⟩ : Obj)) ::
  (nat_lit 161, (⟨(.type "tuple"), none, .seq #[(.str (Str.ofString "self") 379)] 0, #[]⟩ : Obj)) ::
  (nat_lit 162, (⟨(.type "tuple"), none, .seq #[] 0, #[]⟩ : Obj)) ::
  (nat_lit 164, (⟨(.type "code"), none, .fields #[(.str (Str.ofString "show") 376), (.str (Str.ofString "Tree.show") 377), (.str (Str.ofString "/claim/cut.py") 378), (.int 76 0), (.int 1 0), (.int 0 0), (.int 0 0), (.int 3 0), (.ref 159), (.bool true), (.int 181 0), (.ref 160), .none, (.ref 161), (.ref 162), (.ref 163), (.int 380 0), (.int 76 0), (.str (Str.ofString "/claim/cut.py") 381)], #[]⟩ : Obj)) ::
  (nat_lit 165, o165) ::
  (nat_lit 166, (⟨(.type "tuple"), none, .seq #[(.str (Str.ofString "children") 383), (.str (Str.ofString "name") 384), (.str (Str.ofString "rule") 385)] 0, #[]⟩ : Obj)) ::
  (nat_lit 167, (⟨(.type "dict"), none, .dict #[de P "__module__" 317 (.str (Str.ofString "grammarmill.nodes") 308), de P "__firstlineno__" 321 (.int 44 320), de P "__init__" 331 (.ref 118), de P "is_leaf" 338 (.ref 125), de P "head" 345 (.ref 132), de P "told" 355 (.ref 139), de P "leaves" 361 (.ref 144), de P "reductions" 368 (.ref 151), de P "height" 375 (.ref 158), de P "show" 382 (.ref 165), de P "__static_attributes__" 386 (.ref 166), de P "__dict__" 388 (.ref 169), de P "__weakref__" 390 (.ref 170), de P "__doc__" 391 .none] 4, #[]⟩ : Obj)) ::
  (nat_lit 168, (⟨(.type "type"), none, .cls { name := (Str.ofString "Tree"), bases := [(.type "object")], mro := [(.ref 168), (.type "object")], ns := 167, qualname := (Str.ofString "Tree"), hasDict := true, slotNames := [], subclasses := [(.ref 203)], abstract := false, collection := none, hasDel := false }, #[none, none, some (.str (Str.ofString "Tree") 310), some (.str (Str.ofString "Tree") 318), some (.builtin "object.__new__"), some (.bool true)]⟩ : Obj)) ::
  (nat_lit 169, (⟨(.type "getset_descriptor"), none, .fields #[(.str (Str.ofString "__dict__") 387), (.ref 168), (.builtin "function.__dict__"), (.builtin "function.__dict__#set")], #[]⟩ : Obj)) ::
  (nat_lit 170, (⟨(.type "getset_descriptor"), none, .fields #[(.str (Str.ofString "__weakref__") 389), (.ref 168), (.builtin "ExceptionGroup.__weakref__"), .none], #[]⟩ : Obj)) ::
  (nat_lit 173, (⟨(.type "tuple"), none, .seq #[(.ref 168)] 0, #[]⟩ : Obj)) ::
  (nat_lit 180, (⟨(.type "tuple"), none, .seq #[] 0, #[]⟩ : Obj)) ::
  (nat_lit 182, (⟨(.type "tuple"), none, .seq #[(.str (Str.ofString "self") 409), (.str (Str.ofString "token") 410)] 0, #[]⟩ : Obj)) ::
  (nat_lit 183, (⟨(.type "tuple"), none, .seq #[] 0, #[]⟩ : Obj)) ::
  (nat_lit 185, (⟨(.type "code"), none, .fields #[(.str (Str.ofString "__init__") 406), (.str (Str.ofString "Leaf.__init__") 407), (.str (Str.ofString "/claim/cut.py") 408), (.int 80 0), (.int 2 0), (.int 0 0), (.int 0 0), (.int 3 0), (.ref 180), (.bool true), (.int 181 0), (.ref 181), .none, (.ref 182), (.ref 183), (.ref 184), (.int 411 0), (.int 80 0), (.str (Str.ofString "/claim/cut.py") 412)], #[]⟩ : Obj)) ::
  (nat_lit 186, o186) ::
  (nat_lit 187, (⟨(.type "tuple"), none, .seq #[] 0, #[]⟩ : Obj)) ::
  (nat_lit 189, (⟨(.type "tuple"), none, .seq #[(.str (Str.ofString "self") 417)] 0, #[]⟩ : Obj)) ::
  (nat_lit 190, (⟨(.type "tuple"), none, .seq #[] 0, #[]⟩ : Obj)) ::
  (nat_lit 192, (⟨(.type "code"), none, .fields #[(.str (Str.ofString "is_leaf") 414), (.str (Str.ofString "Leaf.is_leaf") 415), (.str (Str.ofString "/claim/cut.py") 416), (.int 86 0), (.int 1 0), (.int 0 0), (.int 0 0), (.int 3 0), (.ref 187), (.bool true), (.int 181 0), (.ref 188), .none, (.ref 189), (.ref 190), (.ref 191), (.int 418 0), (.int 86 0), (.str (Str.ofString "/claim/cut.py") 419)], #[]⟩ : Obj)) ::
  (nat_lit 193, o193) ::
  (nat_lit 194, (⟨(.type "tuple"), none, .seq #[] 0, #[]⟩ : Obj)) ::
  (nat_lit 196, (⟨(.type "tuple"), none, .seq #[(.str (Str.ofString "self") 424)] 0, #[]⟩ : Obj)) ::
  (nat_lit 197, (⟨(.type "tuple"), none, .seq #[] 0, #[]⟩ : Obj)) ::
  (nat_lit 199, (⟨(.type "code"), none, .fields #[(.str (Str.ofString "head") 421), (.str (Str.ofString "Leaf.head") 422), (.str (Str.ofString "/claim/cut.py") 423), (.int 89 0), (.int 1 0), (.int 0 0), (.int 0 0), (.int 3 0), (.ref 194), (.bool true), (.int 181 0), (.ref 195), .none, (.ref 196), (.ref 197), (.ref 198), (.int 425 0), (.int 89 0), (.str (Str.ofString "/claim/cut.py") 426)], #[]⟩ : Obj)) ::
  (nat_lit 200, o200) ::
  (nat_lit 201, (⟨(.type "tuple"), none, .seq #[(.str (Str.ofString "children") 428), (.str (Str.ofString "name") 429), (.str (Str.ofString "rule") 430), (.str (Str.ofString "token") 431)] 0, #[]⟩ : Obj)) ::
  (nat_lit 202, (⟨(.type "dict"), none, .dict #[de P "__module__" 401 (.str (Str.ofString "grammarmill.nodes") 308), de P "__firstlineno__" 405 (.int 78 404), de P "__init__" 413 (.ref 186), de P "is_leaf" 420 (.ref 193), de P "head" 427 (.ref 200), de P "__static_attributes__" 432 (.ref 201), de P "__doc__" 433 .none] 2, #[]⟩ : Obj)) ::
  (nat_lit 203, (⟨(.type "type"), none, .cls { name := (Str.ofString "Leaf"), bases := [(.ref 168)], mro := [(.ref 203), (.ref 168), (.type "object")], ns := 202, qualname := (Str.ofString "Leaf"), hasDict := true, slotNames := [], subclasses := [], abstract := false, collection := none, hasDel := false }, #[some (.ref 173), none, some (.str (Str.ofString "Leaf") 394), some (.str (Str.ofString "Leaf") 402), some (.builtin "object.__new__"), some (.bool true)]⟩ : Obj)) ::
  (nat_lit 206, (⟨(.type "tuple"), none, .seq #[] 0, #[]⟩ : Obj)) ::
  (nat_lit 208, (⟨(.type "tuple"), none, .seq #[(.str (Str.ofString "tree") 439), (.str (Str.ofString "found") 440), (.str (Str.ofString "line") 441), (.str (Str.ofString "node") 442), (.str (Str.ofString "child") 443)] 0, #[]⟩ : Obj)) ::
  (nat_lit 209, (⟨(.type "tuple"), none, .seq #[] 0, #[]⟩ : Obj)) ::
  (nat_lit 211, (⟨(.type "code"), none, .fields #[(.str (Str.ofString "postorder") 436), (.str (Str.ofString "postorder") 437), (.str (Str.ofString "/claim/cut.py") 438), (.int 91 0), (.int 1 0), (.int 0 0), (.int 0 0), (.int 3 0), (.ref 206), (.bool true), (.int 181 0), (.ref 207), .none, (.ref 208), (.ref 209), (.ref 210), (.int 444 0), (.int 91 0), (.str (Str.ofString "/claim/cut.py") 445)], #[]⟩ : Obj)) ::
  (nat_lit 212, o212) ::
  (nat_lit 213, (⟨(.type "tuple"), none, .seq #[] 0, #[]⟩ : Obj)) ::
  (nat_lit 216, (⟨(.type "code"), none, .fields #[(.str (Str.ofString "show_value") 449), (.str (Str.ofString "show_value") 450), (.str (Str.ofString "/claim/cut.py") 451), (.int 101 0), (.int 1 0), (.int 0 0), (.int 0 0), (.int 3 0), (.ref 213), (.bool true), (.int 181 0), (.ref 214), .none, .none, .none, (.ref 215), (.int 452 0), (.int 101 0), (.str (Str.ofString "/claim/cut.py") 453)], #[]⟩ : Obj)) ::
  (nat_lit 217, o217) ::
  (nat_lit 218, (⟨(.type "tuple"), none, .seq #[] 0, #[]⟩ : Obj)) ::
  (nat_lit 220, (⟨(.type "tuple"), none, .seq #[(.str (Str.ofString "token") 458)] 0, #[]⟩ : Obj)) ::
  (nat_lit 221, (⟨(.type "tuple"), none, .seq #[] 0, #[]⟩ : Obj)) ::
  (nat_lit 223, (⟨(.type "code"), none, .fields #[(.str (Str.ofString "show_leaf") 455), (.str (Str.ofString "show_leaf") 456), (.str (Str.ofString "/claim/cut.py") 457), (.int 109 0), (.int 1 0), (.int 0 0), (.int 0 0), (.int 3 0), (.ref 218), (.bool true), (.int 181 0), (.ref 219), .none, (.ref 220), (.ref 221), (.ref 222), (.int 459 0), (.int 109 0), (.str (Str.ofString "/claim/cut.py") 460)], #[]⟩ : Obj)) ::
  (nat_lit 224, o224) ::
  (nat_lit 225, (⟨(.type "tuple"), none, .seq #[] 0, #[]⟩ : Obj)) ::
  (nat_lit 228, (⟨(.type "code"), none, .fields #[(.str (Str.ofString "show_tree") 462), (.str (Str.ofString "show_tree") 463), (.str (Str.ofString "/claim/cut.py") 464), (.int 113 0), (.int 1 0), (.int 0 0), (.int 0 0), (.int 3 0), (.ref 225), (.bool true), (.int 181 0), (.ref 226), .none, .none, .none, (.ref 227), (.int 465 0), (.int 113 0), (.str (Str.ofString "/claim/cut.py") 466)], #[]⟩ : Obj)) ::
  (nat_lit 229, o229) ::
  (nat_lit 230, (⟨(.type "tuple"), none, .seq #[] 0, #[]⟩ : Obj)) ::
  (nat_lit 232, (⟨(.type "tuple"), none, .seq #[(.str (Str.ofString "fault") 471), (.str (Str.ofString "kind") 472), (.str (Str.ofString "state") 473), (.str (Str.ofString "expected") 474), (.str (Str.ofString "place") 475), (.str (Str.ofString "line") 476), (.str (Str.ofString "column") 477), (.str (Str.ofString "row") 478)] 0, #[]⟩ : Obj)) ::
  (nat_lit 233, (⟨(.type "tuple"), none, .seq #[] 0, #[]⟩ : Obj)) ::
  (nat_lit 235, (⟨(.type "code"), none, .fields #[(.str (Str.ofString "show_fault") 468), (.str (Str.ofString "show_fault") 469), (.str (Str.ofString "/claim/cut.py") 470), (.int 117 0), (.int 1 0), (.int 0 0), (.int 0 0), (.int 3 0), (.ref 230), (.bool true), (.int 181 0), (.ref 231), .none, (.ref 232), (.ref 233), (.ref 234), (.int 479 0), (.int 117 0), (.str (Str.ofString "/claim/cut.py") 480)], #[]⟩ : Obj)) ::
  (nat_lit 236, o236) ::
  (nat_lit 244, (⟨(.type "tuple"), none, .seq #[(.int (-1) 497)] 0, #[]⟩ : Obj)) ::
  (nat_lit 245, (⟨(.type "tuple"), none, .seq #[] 0, #[]⟩ : Obj)) ::
  (nat_lit 247, (⟨(.type "tuple"), none, .seq #[(.str (Str.ofString "self") 501), (.str (Str.ofString "token") 502), (.str (Str.ofString "state") 503), (.str (Str.ofString "expected") 504), (.str (Str.ofString "index") 505)] 0, #[]⟩ : Obj)) ::
  (nat_lit 248, (⟨(.type "tuple"), none, .seq #[] 0, #[]⟩ : Obj)) ::
  (nat_lit 250, (⟨(.type "code"), none, .fields #[(.str (Str.ofString "__init__") 498), (.str (Str.ofString "Fault.__init__") 499), (.str (Str.ofString "/claim/cut.py") 500), (.int 128 0), (.int 5 0), (.int 0 0), (.int 0 0), (.int 3 0), (.ref 245), (.bool true), (.int 181 0), (.ref 246), .none, (.ref 247), (.ref 248), (.ref 249), (.int 506 0), (.int 128 0), (.str (Str.ofString "/claim/cut.py") 507)], #[]⟩ : Obj)) ::
  (nat_lit 251, o251) ::
  (nat_lit 252, (⟨(.type "tuple"), none, .seq #[] 0, #[]⟩ : Obj)) ::
  (nat_lit 254, (⟨(.type "tuple"), none, .seq #[(.str (Str.ofString "self") 512)] 0, #[]⟩ : Obj)) ::
  (nat_lit 255, (⟨(.type "tuple"), none, .seq #[] 0, #[]⟩ : Obj)) ::
  (nat_lit 257, (⟨(.type "code"), none, .fields #[(.str (Str.ofString "told") 509), (.str (Str.ofString "Fault.told") 510), (.str (Str.ofString "/claim/cut.py") 511), (.int 134 0), (.int 1 0), (.int 0 0), (.int 0 0), (.int 3 0), (.ref 252), (.bool true), (.int 181 0), (.ref 253), .none, (.ref 254), (.ref 255), (.ref 256), (.int 513 0), (.int 134 0), (.str (Str.ofString "/claim/cut.py") 514)], #[]⟩ : Obj)) ::
  (nat_lit 258, o258) ::
  (nat_lit 259, (⟨(.type "tuple"), none, .seq #[] 0, #[]⟩ : Obj)) ::
  (nat_lit 261, (⟨(.type "tuple"), none, .seq #[(.str (Str.ofString "self") 519)] 0, #[]⟩ : Obj)) ::
  (nat_lit 262, (⟨(.type "tuple"), none, .seq #[] 0, #[]⟩ : Obj)) ::
  (nat_lit 264, (⟨(.type "code"), none, .fields #[(.str (Str.ofString "message") 516), (.str (Str.ofString "Fault.message") 517), (.str (Str.ofString "/claim/cut.py") 518), (.int 137 0), (.int 1 0), (.int 0 0), (.int 0 0), (.int 3 0), (.ref 259), (.bool true), (.int 181 0), (.ref 260), .none, (.ref 261), (.ref 262), (.ref 263), (.int 520 0), (.int 137 0), (.str (Str.ofString "/claim/cut.py") 521)], #[]⟩ : Obj)) ::
  (nat_lit 265, o265) ::
  (nat_lit 266, (⟨(.type "tuple"), none, .seq #[(.str (Str.ofString "expected") 523), (.str (Str.ofString "index") 524), (.str (Str.ofString "state") 525), (.str (Str.ofString "token") 526)] 0, #[]⟩ : Obj)) ::
  (nat_lit 267, (⟨(.type "dict"), none, .dict #[de P "__module__" 491 (.str (Str.ofString "grammarmill.driver") 482), de P "__firstlineno__" 495 (.int 126 494), de P "__init__" 508 (.ref 251), de P "told" 515 (.ref 258), de P "message" 522 (.ref 265), de P "__static_attributes__" 527 (.ref 266), de P "__dict__" 529 (.ref 269), de P "__weakref__" 531 (.ref 270), de P "__doc__" 532 .none] 4, #[]⟩ : Obj)) ::
  (nat_lit 268, (⟨(.type "type"), none, .cls { name := (Str.ofString "Fault"), bases := [(.type "object")], mro := [(.ref 268), (.type "object")], ns := 267, qualname := (Str.ofString "Fault"), hasDict := true, slotNames := [], subclasses := [], abstract := false, collection := none, hasDel := false }, #[none, none, some (.str (Str.ofString "Fault") 484), some (.str (Str.ofString "Fault") 492), some (.builtin "object.__new__"), some (.bool true)]⟩ : Obj)) ::
  (nat_lit 269, (⟨(.type "getset_descriptor"), none, .fields #[(.str (Str.ofString "__dict__") 528), (.ref 268), (.builtin "function.__dict__"), (.builtin "function.__dict__#set")], #[]⟩ : Obj)) ::
  (nat_lit 270, (⟨(.type "getset_descriptor"), none, .fields #[(.str (Str.ofString "__weakref__") 530), (.ref 268), (.builtin "ExceptionGroup.__weakref__"), .none], #[]⟩ : Obj)) ::
  (nat_lit 273, (⟨(.type "tuple"), none, .seq #[] 0, #[]⟩ : Obj)) ::
  (nat_lit 276, (⟨(.type "code"), none, .fields #[(.str (Str.ofString "_law_box") 537), (.str (Str.ofString "_law_box") 538), (.str (Str.ofString "/claim/cut.py") 539), (.int 140 0), (.int 1 0), (.int 0 0), (.int 0 0), (.int 3 0), (.ref 273), (.bool true), (.int 181 0), (.ref 274), .none, .none, .none, (.ref 275), (.int 540 0), (.int 140 0), (.str (Str.ofString "/claim/cut.py") 541)], #[]⟩ : Obj)) ::
  (nat_lit 277, o277) ::
  (nat_lit 278, (⟨(.type "tuple"), none, .seq #[] 0, #[]⟩ : Obj)) ::
  (nat_lit 280, (⟨(.type "tuple"), none, .seq #[(.str (Str.ofString "box") 546), (.str (Str.ofString "limit") 547), (.str (Str.ofString "place") 548), (.str (Str.ofString "digit") 549)] 0, #[]⟩ : Obj)) ::
  (nat_lit 281, (⟨(.type "tuple"), none, .seq #[] 0, #[]⟩ : Obj)) ::
  (nat_lit 283, (⟨(.type "code"), none, .fields #[(.str (Str.ofString "_law_draw") 543), (.str (Str.ofString "_law_draw") 544), (.str (Str.ofString "/claim/cut.py") 545), (.int 149 0), (.int 2 0), (.int 0 0), (.int 0 0), (.int 3 0), (.ref 278), (.bool true), (.int 181 0), (.ref 279), .none, (.ref 280), (.ref 281), (.ref 282), (.int 550 0), (.int 149 0), (.str (Str.ofString "/claim/cut.py") 551)], #[]⟩ : Obj)) ::
  (nat_lit 284, o284) ::
  (nat_lit 285, (⟨(.type "list"), none, .seq #[(.str (Str.ofString "N") 555), (.str (Str.ofString "'+'") 556), (.str (Str.ofString "'\\n'") 557), (.str (Str.ofString "error") 558), (.str (Str.ofString "' '") 559)] 0, #[]⟩ : Obj)) ::
  (nat_lit 286, (⟨(.type "list"), none, .seq #[(.str (Str.ofString "$end") 561), (.str (Str.ofString "N") 562), (.str (Str.ofString "'+'") 563), (.str (Str.ofString "'\\''") 564), (.str (Str.ofString "name") 565), (.str (Str.ofString "C") 566)] 0, #[]⟩ : Obj)) ::
  (nat_lit 287, (⟨(.type "tuple"), none, .seq #[] 0, #[]⟩ : Obj)) ::
  (nat_lit 289, (⟨(.type "tuple"), none, .seq #[(.str (Str.ofString "box") 571), (.str (Str.ofString "way") 572)] 0, #[]⟩ : Obj)) ::
  (nat_lit 290, (⟨(.type "tuple"), none, .seq #[] 0, #[]⟩ : Obj)) ::
  (nat_lit 292, (⟨(.type "code"), none, .fields #[(.str (Str.ofString "_law_sign") 568), (.str (Str.ofString "_law_sign") 569), (.str (Str.ofString "/claim/cut.py") 570), (.int 163 0), (.int 1 0), (.int 0 0), (.int 0 0), (.int 3 0), (.ref 287), (.bool true), (.int 181 0), (.ref 288), .none, (.ref 289), (.ref 290), (.ref 291), (.int 573 0), (.int 163 0), (.str (Str.ofString "/claim/cut.py") 574)], #[]⟩ : Obj)) ::
  (nat_lit 293, o293) ::
  (nat_lit 294, (⟨(.type "tuple"), none, .seq #[] 0, #[]⟩ : Obj)) ::
  (nat_lit 297, (⟨(.type "code"), none, .fields #[(.str (Str.ofString "_law_text") 576), (.str (Str.ofString "_law_text") 577), (.str (Str.ofString "/claim/cut.py") 578), (.int 172 0), (.int 1 0), (.int 0 0), (.int 0 0), (.int 3 0), (.ref 294), (.bool true), (.int 181 0), (.ref 295), .none, .none, .none, (.ref 296), (.int 579 0), (.int 172 0), (.str (Str.ofString "/claim/cut.py") 580)], #[]⟩ : Obj)) ::
  (nat_lit 298, o298) ::
  (nat_lit 299, (⟨(.type "tuple"), none, .seq #[] 0, #[]⟩ : Obj)) ::
  (nat_lit 302, (⟨(.type "code"), none, .fields #[(.str (Str.ofString "_law_value") 582), (.str (Str.ofString "_law_value") 583), (.str (Str.ofString "/claim/cut.py") 584), (.int 174 0), (.int 2 0), (.int 0 0), (.int 0 0), (.int 3 0), (.ref 299), (.bool true), (.int 181 0), (.ref 300), .none, .none, .none, (.ref 301), (.int 585 0), (.int 174 0), (.str (Str.ofString "/claim/cut.py") 586)], #[]⟩ : Obj)) ::
  (nat_lit 303, o303) ::
  (nat_lit 304, (⟨(.type "tuple"), none, .seq #[] 0, #[]⟩ : Obj)) ::
  (nat_lit 307, (⟨(.type "code"), none, .fields #[(.str (Str.ofString "_law_plain") 588), (.str (Str.ofString "_law_plain") 589), (.str (Str.ofString "/claim/cut.py") 590), (.int 185 0), (.int 1 0), (.int 0 0), (.int 0 0), (.int 3 0), (.ref 304), (.bool true), (.int 181 0), (.ref 305), .none, .none, .none, (.ref 306), (.int 591 0), (.int 185 0), (.str (Str.ofString "/claim/cut.py") 592)], #[]⟩ : Obj)) ::
  (nat_lit 308, o308) ::
  (nat_lit 309, (⟨(.type "tuple"), none, .seq #[] 0, #[]⟩ : Obj)) ::
  (nat_lit 311, (⟨(.type "tuple"), none, .seq #[(.str (Str.ofString "text") 597), (.str (Str.ofString "marks") 598), (.str (Str.ofString "signs") 599), (.str (Str.ofString "sign") 600), (.str (Str.ofString "code") 601)] 0, #[]⟩ : Obj)) ::
  (nat_lit 312, (⟨(.type "tuple"), none, .seq #[] 0, #[]⟩ : Obj)) ::
  (nat_lit 314, (⟨(.type "code"), none, .fields #[(.str (Str.ofString "_law_escaped") 594), (.str (Str.ofString "_law_escaped") 595), (.str (Str.ofString "/claim/cut.py") 596), (.int 189 0), (.int 2 0), (.int 0 0), (.int 0 0), (.int 3 0), (.ref 309), (.bool true), (.int 181 0), (.ref 310), .none, (.ref 311), (.ref 312), (.ref 313), (.int 602 0), (.int 189 0), (.str (Str.ofString "/claim/cut.py") 603)], #[]⟩ : Obj)) ::
  (nat_lit 315, o315) ::
  (nat_lit 316, (⟨(.type "tuple"), none, .seq #[] 0, #[]⟩ : Obj)) ::
  (nat_lit 319, (⟨(.type "code"), none, .fields #[(.str (Str.ofString "_law_shown") 605), (.str (Str.ofString "_law_shown") 606), (.str (Str.ofString "/claim/cut.py") 607), (.int 204 0), (.int 1 0), (.int 0 0), (.int 0 0), (.int 3 0), (.ref 316), (.bool true), (.int 181 0), (.ref 317), .none, .none, .none, (.ref 318), (.int 608 0), (.int 204 0), (.str (Str.ofString "/claim/cut.py") 609)], #[]⟩ : Obj)) ::
  (nat_lit 320, o320) ::
  (nat_lit 321, (⟨(.type "tuple"), none, .seq #[] 0, #[]⟩ : Obj)) ::
  (nat_lit 323, (⟨(.type "tuple"), none, .seq #[(.str (Str.ofString "text") 614), (.str (Str.ofString "at") 615), (.str (Str.ofString "signs") 616), (.str (Str.ofString "parts") 617), (.str (Str.ofString "part") 618), (.str (Str.ofString "end") 619)] 0, #[]⟩ : Obj)) ::
  (nat_lit 324, (⟨(.type "tuple"), none, .seq #[] 0, #[]⟩ : Obj)) ::
  (nat_lit 326, (⟨(.type "code"), none, .fields #[(.str (Str.ofString "_law_read") 611), (.str (Str.ofString "_law_read") 612), (.str (Str.ofString "/claim/cut.py") 613), (.int 212 0), (.int 2 0), (.int 0 0), (.int 0 0), (.int 3 0), (.ref 321), (.bool true), (.int 181 0), (.ref 322), .none, (.ref 323), (.ref 324), (.ref 325), (.int 620 0), (.int 212 0), (.str (Str.ofString "/claim/cut.py") 621)], #[]⟩ : Obj)) ::
  (nat_lit 327, o327) ::
  (nat_lit 328, (⟨(.type "tuple"), none, .seq #[] 0, #[]⟩ : Obj)) ::
  (nat_lit 331, (⟨(.type "code"), none, .fields #[(.str (Str.ofString "_law_node") 623), (.str (Str.ofString "_law_node") 624), (.str (Str.ofString "/claim/cut.py") 625), (.int 242 0), (.int 2 0), (.int 0 0), (.int 0 0), (.int 3 0), (.ref 328), (.bool true), (.int 181 0), (.ref 329), .none, .none, .none, (.ref 330), (.int 626 0), (.int 242 0), (.str (Str.ofString "/claim/cut.py") 627)], #[]⟩ : Obj)) ::
  (nat_lit 332, o332) ::
  (nat_lit 333, (⟨(.type "tuple"), none, .seq #[] 0, #[]⟩ : Obj)) ::
  (nat_lit 336, (⟨(.type "code"), none, .fields #[(.str (Str.ofString "_law_tree") 629), (.str (Str.ofString "_law_tree") 630), (.str (Str.ofString "/claim/cut.py") 631), (.int 248 0), (.int 1 0), (.int 0 0), (.int 0 0), (.int 3 0), (.ref 333), (.bool true), (.int 181 0), (.ref 334), .none, .none, .none, (.ref 335), (.int 632 0), (.int 248 0), (.str (Str.ofString "/claim/cut.py") 633)], #[]⟩ : Obj)) ::
  (nat_lit 337, o337) ::
  (nat_lit 338, (⟨(.type "tuple"), none, .seq #[] 0, #[]⟩ : Obj)) ::
  (nat_lit 340, (⟨(.type "tuple"), none, .seq #[(.str (Str.ofString "kind") 638), (.str (Str.ofString "text") 639)] 0, #[]⟩ : Obj)) ::
  (nat_lit 341, (⟨(.type "tuple"), none, .seq #[] 0, #[]⟩ : Obj)) ::
  (nat_lit 343, (⟨(.type "code"), none, .fields #[(.str (Str.ofString "_law_leaf") 635), (.str (Str.ofString "_law_leaf") 636), (.str (Str.ofString "/claim/cut.py") 637), (.int 253 0), (.int 2 0), (.int 0 0), (.int 0 0), (.int 3 0), (.ref 338), (.bool true), (.int 181 0), (.ref 339), .none, (.ref 340), (.ref 341), (.ref 342), (.int 640 0), (.int 253 0), (.str (Str.ofString "/claim/cut.py") 641)], #[]⟩ : Obj)) ::
  (nat_lit 344, o344) ::
  (nat_lit 345, (⟨(.type "tuple"), none, .seq #[] 0, #[]⟩ : Obj)) ::
  (nat_lit 348, (⟨(.type "code"), none, .fields #[(.str (Str.ofString "_law_page") 643), (.str (Str.ofString "_law_page") 644), (.str (Str.ofString "/claim/cut.py") 645), (.int 257 0), (.int 1 0), (.int 0 0), (.int 0 0), (.int 3 0), (.ref 345), (.bool true), (.int 181 0), (.ref 346), .none, .none, .none, (.ref 347), (.int 646 0), (.int 257 0), (.str (Str.ofString "/claim/cut.py") 647)], #[]⟩ : Obj)) ::
  (nat_lit 349, o349) ::
  (nat_lit 350, (⟨(.type "tuple"), none, .seq #[] 0, #[]⟩ : Obj)) ::
  (nat_lit 353, (⟨(.type "code"), none, .fields #[(.str (Str.ofString "_law_fault") 649), (.str (Str.ofString "_law_fault") 650), (.str (Str.ofString "/claim/cut.py") 651), (.int 262 0), (.int 1 0), (.int 0 0), (.int 0 0), (.int 3 0), (.ref 350), (.bool true), (.int 181 0), (.ref 351), .none, .none, .none, (.ref 352), (.int 652 0), (.int 262 0), (.str (Str.ofString "/claim/cut.py") 653)], #[]⟩ : Obj)) ::
  (nat_lit 354, o354) ::
  (nat_lit 355, (⟨(.type "tuple"), none, .seq #[] 0, #[]⟩ : Obj)) ::
  (nat_lit 357, (⟨(.type "tuple"), none, .seq #[(.str (Str.ofString "script") 658), (.str (Str.ofString "box") 659), (.str (Str.ofString "value") 660), (.str (Str.ofString "shown") 661), (.str (Str.ofString "node") 662), (.str (Str.ofString "kind") 663), (.str (Str.ofString "text") 664)] 0, #[]⟩ : Obj)) ::
  (nat_lit 358, (⟨(.type "tuple"), none, .seq #[] 0, #[]⟩ : Obj)) ::
  (nat_lit 360, (⟨(.type "code"), none, .fields #[(.str (Str.ofString "law") 655), (.str (Str.ofString "law") 656), (.str (Str.ofString "/claim/cut.py") 657), (.int 276 0), (.int 1 0), (.int 0 0), (.int 0 0), (.int 3 0), (.ref 355), (.bool true), (.int 181 0), (.ref 356), .none, (.ref 357), (.ref 358), (.ref 359), (.int 665 0), (.int 276 0), (.str (Str.ofString "/claim/cut.py") 666)], #[]⟩ : Obj)) ::
  (nat_lit 361, o361) :: []
def asL : List Addr := [2, 3, 15, 17, 18, 20, 21, 29, 31, 32, 34, 35, 36, 38, 39, 41, 42, 43, 44, 45, 46, 47, 57, 58, 60, 61, 63, 64, 65, 67, 68, 70, 71, 72, 74, 75, 77, 78, 79, 80, 81, 82, 83, 86, 88, 89, 91, 92, 93, 95, 96, 98, 99, 100, 103, 104, 112, 114, 115, 117, 118, 119, 121, 122, 124, 125, 126, 128, 129, 131, 132, 133, 135, 136, 138, 139, 140, 143, 144, 145, 147, 148, 150, 151, 152, 154, 155, 157, 158, 159, 161, 162, 164, 165, 166, 167, 168, 169, 170, 173, 180, 182, 183, 185, 186, 187, 189, 190, 192, 193, 194, 196, 197, 199, 200, 201, 202, 203, 206, 208, 209, 211, 212, 213, 216, 217, 218, 220, 221, 223, 224, 225, 228, 229, 230, 232, 233, 235, 236, 244, 245, 247, 248, 250, 251, 252, 254, 255, 257, 258, 259, 261, 262, 264, 265, 266, 267, 268, 269, 270, 273, 276, 277, 278, 280, 281, 283, 284, 285, 286, 287, 289, 290, 292, 293, 294, 297, 298, 299, 302, 303, 304, 307, 308, 309, 311, 312, 314, 315, 316, 319, 320, 321, 323, 324, 326, 327, 328, 331, 332, 333, 336, 337, 338, 340, 341, 343, 344, 345, 348, 349, 350, 353, 354, 355, 357, 358, 360, 361]
theorem asE : ∀ P, asL = (Kx P).map (·.1) := fun _ => by kernel_rfl
noncomputable def Vx : Program := { Challenge.pw_nn0356_01 with main := { Challenge.pw_nn0356_01.main with body := [s0, s2, s3, s4, s5, s6, s8, s9, s10, s12, s13, s14, s15, s17, s19, s20, s21, s22, s23, s24, s25, s26, s27, s28, s29, s30, s31, s32, s33, s34, s35, s36] } }
noncomputable abbrev RWR : RowW := Challenge.rw_nn0356_01.row.toRowW
noncomputable abbrev HK : Hook := kHook Kx asL asE
/-! the top in pieces: the states between groups of its statements -/
noncomputable def b11n0 : Obj := ⟨(.type "tuple"), none, .seq #[] 0, #[]⟩
noncomputable def b12n0 : Obj := ⟨.none, none, .fields #[], #[]⟩
noncomputable def b13n0 : Obj := ⟨(.type "code"), none, .fields #[(.str (Str.ofString "<module>") 182), (.str (Str.ofString "<module>") 183), (.str (Str.ofString "/claim/cut.py") 184), (.int 1 0), (.int 0 0), (.int 0 0), (.int 0 0), (.int 0 0), (.ref 11), (.bool false), (.int 181 0), (.ref 12), .none, .none, .none, .none, (.int 185 0), (.int 1 0), (.str (Str.ofString "/claim/cut.py") 186)], #[]⟩
noncomputable def b14n0 : Obj := ⟨(.type "frame"), none, .plain, #[some (.ref 13), some (.ref 3), some (.ref 3), none, some (.str (Str.ofString "__main__") 164), none, some (.ref 0)]⟩
noncomputable def b3n0 (P : Params) : Obj := ⟨(.type "dict"), none, .dict #[de P "__name__" 165 (.str (Str.ofString "grammarmill.source") 194), de P "__doc__" 166 .none, de P "__package__" 167 .none, de P "__loader__" 168 (.builtin "__main__.__loader__#opaque"), de P "__spec__" 169 .none, de P "__annotations__" 170 (.ref 6), de P "__builtins__" 171 (.ref 4), de P "__file__" 173 (.str (Str.ofString "/claim/cut.py") 172), de P "__cached__" 174 .none, de P "_wall" 193 (.ref 21), de P "Position" 235 (.ref 45)] 11, #[]⟩
noncomputable def b12n1 : Obj := ⟨.none, none, .fields #[(.int 1 0), (.int 0 0), (.ref 20), (.int 5 0), (.int 0 0), (.ref 27)], #[]⟩
noncomputable def b15n0 : Obj := ⟨(.type "tuple"), none, .seq #[] 0, #[]⟩
noncomputable def b16n0 : Obj := ⟨.none, none, .fields #[], #[]⟩
noncomputable def b17n0 : Obj := ⟨(.type "tuple"), none, .seq #[(.str (Str.ofString "k") 190)] 0, #[]⟩
noncomputable def b18n0 : Obj := ⟨(.type "tuple"), none, .seq #[] 0, #[]⟩
noncomputable def o19 : Obj := pick (x := mkF s0 (Str.ofString "_wall") 0 [] .none .none .none .none none .none .none 0 .none none #[]) _ (by conv => lhs; whnf)
noncomputable def b20n0 : Obj := ⟨(.type "code"), none, .fields #[(.str (Str.ofString "_wall") 187), (.str (Str.ofString "_wall") 188), (.str (Str.ofString "/claim/cut.py") 189), (.int 1 0), (.int 1 0), (.int 0 0), (.int 0 0), (.int 3 0), (.ref 15), (.bool true), (.int 181 0), (.ref 16), .none, (.ref 17), (.ref 18), (.ref 19), (.int 191 0), (.int 1 0), (.str (Str.ofString "/claim/cut.py") 192)], #[]⟩
noncomputable def b22n0 : Obj := ⟨(.type "tuple"), none, .seq #[] 0, #[]⟩
noncomputable def b23n0 : Obj := ⟨(.type "builtin_function_or_method"), none, .fields #[(.builtin "type.__prepare__"), (.type "type")], #[]⟩
noncomputable def b24n0 (P : Params) : Obj := ⟨(.type "dict"), none, .dict #[de P "__module__" 203 (.str (Str.ofString "grammarmill.source") 194), de P "__qualname__" 205 (.str (Str.ofString "Position") 204), de P "__firstlineno__" 207 (.int 5 206), de P "__init__" 217 (.ref 35), de P "told" 224 (.ref 42), de P "__static_attributes__" 228 (.ref 43)] 6, #[]⟩
noncomputable def b25n0 : Obj := ⟨(.type "tuple"), none, .seq #[] 0, #[]⟩
noncomputable def b26n0 : Obj := ⟨.none, none, .fields #[(.int 7 0), (.int 4 0), (.ref 34), (.int 12 0), (.int 4 0), (.ref 41)], #[]⟩
noncomputable def b27n0 : Obj := ⟨(.type "code"), none, .fields #[(.str (Str.ofString "Position") 198), (.str (Str.ofString "Position") 199), (.str (Str.ofString "/claim/cut.py") 200), (.int 5 0), (.int 0 0), (.int 0 0), (.int 0 0), (.int 0 0), (.ref 25), (.bool false), (.int 181 0), (.ref 26), .none, .none, .none, .none, (.int 201 0), (.int 5 0), (.str (Str.ofString "/claim/cut.py") 202)], #[]⟩
noncomputable def b28n0 : Obj := ⟨(.type "frame"), none, .plain, #[some (.ref 27), some (.ref 3), some (.ref 24), none, some (.str (Str.ofString "grammarmill.source") 194), none, some (.ref 0)]⟩
noncomputable def b29n0 : Obj := ⟨(.type "tuple"), none, .seq #[] 0, #[]⟩
noncomputable def b30n0 : Obj := ⟨.none, none, .fields #[], #[]⟩
noncomputable def b31n0 : Obj := ⟨(.type "tuple"), none, .seq #[(.str (Str.ofString "self") 211), (.str (Str.ofString "offset") 212), (.str (Str.ofString "line") 213), (.str (Str.ofString "column") 214)] 0, #[]⟩
noncomputable def b32n0 : Obj := ⟨(.type "tuple"), none, .seq #[] 0, #[]⟩
noncomputable def o33 : Obj := pick (x := mkF (stIn s2 0) (Str.ofString "Position.__init__") 0 [] .none .none .none .none none .none .none 0 .none none #[]) _ (by conv => lhs; whnf)
noncomputable def b34n0 : Obj := ⟨(.type "code"), none, .fields #[(.str (Str.ofString "__init__") 208), (.str (Str.ofString "Position.__init__") 209), (.str (Str.ofString "/claim/cut.py") 210), (.int 7 0), (.int 4 0), (.int 0 0), (.int 0 0), (.int 3 0), (.ref 29), (.bool true), (.int 181 0), (.ref 30), .none, (.ref 31), (.ref 32), (.ref 33), (.int 215 0), (.int 7 0), (.str (Str.ofString "/claim/cut.py") 216)], #[]⟩
noncomputable def b36n0 : Obj := ⟨(.type "tuple"), none, .seq #[] 0, #[]⟩
noncomputable def b37n0 : Obj := ⟨.none, none, .fields #[], #[]⟩
noncomputable def b38n0 : Obj := ⟨(.type "tuple"), none, .seq #[(.str (Str.ofString "self") 221)] 0, #[]⟩
noncomputable def b39n0 : Obj := ⟨(.type "tuple"), none, .seq #[] 0, #[]⟩
noncomputable def o40 : Obj := pick (x := mkF (stIn s2 1) (Str.ofString "Position.told") 0 [] .none .none .none .none none .none .none 0 .none none #[]) _ (by conv => lhs; whnf)
noncomputable def b41n0 : Obj := ⟨(.type "code"), none, .fields #[(.str (Str.ofString "told") 218), (.str (Str.ofString "Position.told") 219), (.str (Str.ofString "/claim/cut.py") 220), (.int 12 0), (.int 1 0), (.int 0 0), (.int 0 0), (.int 3 0), (.ref 36), (.bool true), (.int 181 0), (.ref 37), .none, (.ref 38), (.ref 39), (.ref 40), (.int 222 0), (.int 12 0), (.str (Str.ofString "/claim/cut.py") 223)], #[]⟩
noncomputable def b43n0 : Obj := ⟨(.type "tuple"), none, .seq #[(.str (Str.ofString "column") 225), (.str (Str.ofString "line") 226), (.str (Str.ofString "offset") 227)] 0, #[]⟩
noncomputable def b44n0 (P : Params) : Obj := ⟨(.type "dict"), none, .dict #[de P "__module__" 203 (.str (Str.ofString "grammarmill.source") 194), de P "__firstlineno__" 207 (.int 5 206), de P "__init__" 217 (.ref 35), de P "told" 224 (.ref 42), de P "__static_attributes__" 228 (.ref 43), de P "__dict__" 230 (.ref 46), de P "__weakref__" 232 (.ref 47), de P "__doc__" 233 .none] 4, #[]⟩
noncomputable def b45n0 : Obj := ⟨(.type "type"), none, .cls { name := (Str.ofString "Position"), bases := [(.type "object")], mro := [(.ref 45), (.type "object")], ns := 44, qualname := (Str.ofString "Position"), hasDict := true, slotNames := [], subclasses := [], abstract := false, collection := none, hasDel := false }, #[none, none, some (.str (Str.ofString "Position") 196), some (.str (Str.ofString "Position") 204), some (.builtin "object.__new__"), some (.bool true)]⟩
noncomputable def b46n0 : Obj := ⟨(.type "getset_descriptor"), none, .fields #[(.str (Str.ofString "__dict__") 229), (.ref 45), (.builtin "function.__dict__"), (.builtin "function.__dict__#set")], #[]⟩
noncomputable def b47n0 : Obj := ⟨(.type "getset_descriptor"), none, .fields #[(.str (Str.ofString "__weakref__") 231), (.ref 45), (.builtin "ExceptionGroup.__weakref__"), .none], #[]⟩
noncomputable def b48n0 : Obj := ⟨(.type "super"), none, .fields #[(.ref 45), (.ref 45), (.ref 45)], #[]⟩
noncomputable def b49n0 : Obj := ⟨(.type "builtin_function_or_method"), none, .fields #[(.builtin "object.__init_subclass__"), (.ref 45)], #[]⟩
noncomputable def b3n1 (P : Params) : Obj := ⟨(.type "dict"), none, .dict #[de P "__name__" 165 (.str (Str.ofString "grammarmill.nodes") 308), de P "__doc__" 166 .none, de P "__package__" 167 .none, de P "__loader__" 168 (.builtin "__main__.__loader__#opaque"), de P "__spec__" 169 .none, de P "__annotations__" 170 (.ref 6), de P "__builtins__" 171 (.ref 4), de P "__file__" 173 (.str (Str.ofString "/claim/cut.py") 172), de P "__cached__" 174 .none, de P "_wall" 193 (.ref 21), de P "Position" 235 (.ref 45), de P "Token" 284 (.ref 81), de P "hex_escape" 292 (.ref 92), de P "escaped_sign" 301 (.ref 99), de P "escaped" 307 (.ref 104)] 15, #[]⟩
noncomputable def b12n2 : Obj := ⟨.none, none, .fields #[(.int 1 0), (.int 0 0), (.ref 20), (.int 5 0), (.int 0 0), (.ref 27), (.int 14 0), (.int 0 0), (.ref 55), (.int 27 0), (.int 0 0), (.ref 91), (.int 30 0), (.int 0 0), (.ref 98), (.int 41 0), (.int 0 0), (.ref 103)], #[]⟩
noncomputable def b50n0 : Obj := ⟨(.type "tuple"), none, .seq #[] 0, #[]⟩
noncomputable def b51n0 : Obj := ⟨(.type "builtin_function_or_method"), none, .fields #[(.builtin "type.__prepare__"), (.type "type")], #[]⟩
noncomputable def b52n0 (P : Params) : Obj := ⟨(.type "dict"), none, .dict #[de P "__module__" 243 (.str (Str.ofString "grammarmill.source") 194), de P "__qualname__" 245 (.str (Str.ofString "Token") 244), de P "__firstlineno__" 247 (.int 14 246), de P "__init__" 258 (.ref 64), de P "told" 265 (.ref 71), de P "is_end" 272 (.ref 78), de P "__static_attributes__" 277 (.ref 79)] 7, #[]⟩
noncomputable def b53n0 : Obj := ⟨(.type "tuple"), none, .seq #[] 0, #[]⟩
noncomputable def b54n0 : Obj := ⟨.none, none, .fields #[(.int 16 0), (.int 4 0), (.ref 63), (.int 22 0), (.int 4 0), (.ref 70), (.int 25 0), (.int 4 0), (.ref 77)], #[]⟩
noncomputable def b55n0 : Obj := ⟨(.type "code"), none, .fields #[(.str (Str.ofString "Token") 238), (.str (Str.ofString "Token") 239), (.str (Str.ofString "/claim/cut.py") 240), (.int 14 0), (.int 0 0), (.int 0 0), (.int 0 0), (.int 0 0), (.ref 53), (.bool false), (.int 181 0), (.ref 54), .none, .none, .none, .none, (.int 241 0), (.int 14 0), (.str (Str.ofString "/claim/cut.py") 242)], #[]⟩
noncomputable def b56n0 : Obj := ⟨(.type "frame"), none, .plain, #[some (.ref 55), some (.ref 3), some (.ref 52), none, some (.str (Str.ofString "grammarmill.source") 194), none, some (.ref 0)]⟩
noncomputable def b57n0 : Obj := ⟨(.type "tuple"), none, .seq #[.none] 0, #[]⟩
noncomputable def b58n0 : Obj := ⟨(.type "tuple"), none, .seq #[] 0, #[]⟩
noncomputable def b59n0 : Obj := ⟨.none, none, .fields #[], #[]⟩
noncomputable def b60n0 : Obj := ⟨(.type "tuple"), none, .seq #[(.str (Str.ofString "self") 251), (.str (Str.ofString "kind") 252), (.str (Str.ofString "text") 253), (.str (Str.ofString "at") 254), (.str (Str.ofString "worth") 255)] 0, #[]⟩
noncomputable def b61n0 : Obj := ⟨(.type "tuple"), none, .seq #[] 0, #[]⟩
noncomputable def o62 : Obj := pick (x := mkF (stIn s3 0) (Str.ofString "Token.__init__") 0 [] .none .none .none .none none .none .none 0 .none none #[]) _ (by conv => lhs; whnf)
noncomputable def b63n0 : Obj := ⟨(.type "code"), none, .fields #[(.str (Str.ofString "__init__") 248), (.str (Str.ofString "Token.__init__") 249), (.str (Str.ofString "/claim/cut.py") 250), (.int 16 0), (.int 5 0), (.int 0 0), (.int 0 0), (.int 3 0), (.ref 58), (.bool true), (.int 181 0), (.ref 59), .none, (.ref 60), (.ref 61), (.ref 62), (.int 256 0), (.int 16 0), (.str (Str.ofString "/claim/cut.py") 257)], #[]⟩
noncomputable def b65n0 : Obj := ⟨(.type "tuple"), none, .seq #[] 0, #[]⟩
noncomputable def b66n0 : Obj := ⟨.none, none, .fields #[], #[]⟩
noncomputable def b67n0 : Obj := ⟨(.type "tuple"), none, .seq #[(.str (Str.ofString "self") 262)] 0, #[]⟩
noncomputable def b68n0 : Obj := ⟨(.type "tuple"), none, .seq #[] 0, #[]⟩
noncomputable def o69 : Obj := pick (x := mkF (stIn s3 1) (Str.ofString "Token.told") 0 [] .none .none .none .none none .none .none 0 .none none #[]) _ (by conv => lhs; whnf)
noncomputable def b70n0 : Obj := ⟨(.type "code"), none, .fields #[(.str (Str.ofString "told") 259), (.str (Str.ofString "Token.told") 260), (.str (Str.ofString "/claim/cut.py") 261), (.int 22 0), (.int 1 0), (.int 0 0), (.int 0 0), (.int 3 0), (.ref 65), (.bool true), (.int 181 0), (.ref 66), .none, (.ref 67), (.ref 68), (.ref 69), (.int 263 0), (.int 22 0), (.str (Str.ofString "/claim/cut.py") 264)], #[]⟩
noncomputable def b72n0 : Obj := ⟨(.type "tuple"), none, .seq #[] 0, #[]⟩
noncomputable def b73n0 : Obj := ⟨.none, none, .fields #[], #[]⟩
noncomputable def b74n0 : Obj := ⟨(.type "tuple"), none, .seq #[(.str (Str.ofString "self") 269)] 0, #[]⟩
noncomputable def b75n0 : Obj := ⟨(.type "tuple"), none, .seq #[] 0, #[]⟩
noncomputable def o76 : Obj := pick (x := mkF (stIn s3 2) (Str.ofString "Token.is_end") 0 [] .none .none .none .none none .none .none 0 .none none #[]) _ (by conv => lhs; whnf)
noncomputable def b77n0 : Obj := ⟨(.type "code"), none, .fields #[(.str (Str.ofString "is_end") 266), (.str (Str.ofString "Token.is_end") 267), (.str (Str.ofString "/claim/cut.py") 268), (.int 25 0), (.int 1 0), (.int 0 0), (.int 0 0), (.int 3 0), (.ref 72), (.bool true), (.int 181 0), (.ref 73), .none, (.ref 74), (.ref 75), (.ref 76), (.int 270 0), (.int 25 0), (.str (Str.ofString "/claim/cut.py") 271)], #[]⟩
noncomputable def b79n0 : Obj := ⟨(.type "tuple"), none, .seq #[(.str (Str.ofString "at") 273), (.str (Str.ofString "kind") 274), (.str (Str.ofString "text") 275), (.str (Str.ofString "worth") 276)] 0, #[]⟩
noncomputable def b80n0 (P : Params) : Obj := ⟨(.type "dict"), none, .dict #[de P "__module__" 243 (.str (Str.ofString "grammarmill.source") 194), de P "__firstlineno__" 247 (.int 14 246), de P "__init__" 258 (.ref 64), de P "told" 265 (.ref 71), de P "is_end" 272 (.ref 78), de P "__static_attributes__" 277 (.ref 79), de P "__dict__" 279 (.ref 82), de P "__weakref__" 281 (.ref 83), de P "__doc__" 282 .none] 4, #[]⟩
noncomputable def b81n0 : Obj := ⟨(.type "type"), none, .cls { name := (Str.ofString "Token"), bases := [(.type "object")], mro := [(.ref 81), (.type "object")], ns := 80, qualname := (Str.ofString "Token"), hasDict := true, slotNames := [], subclasses := [], abstract := false, collection := none, hasDel := false }, #[none, none, some (.str (Str.ofString "Token") 236), some (.str (Str.ofString "Token") 244), some (.builtin "object.__new__"), some (.bool true)]⟩
noncomputable def b82n0 : Obj := ⟨(.type "getset_descriptor"), none, .fields #[(.str (Str.ofString "__dict__") 278), (.ref 81), (.builtin "function.__dict__"), (.builtin "function.__dict__#set")], #[]⟩
noncomputable def b83n0 : Obj := ⟨(.type "getset_descriptor"), none, .fields #[(.str (Str.ofString "__weakref__") 280), (.ref 81), (.builtin "ExceptionGroup.__weakref__"), .none], #[]⟩
noncomputable def b84n0 : Obj := ⟨(.type "super"), none, .fields #[(.ref 81), (.ref 81), (.ref 81)], #[]⟩
noncomputable def b85n0 : Obj := ⟨(.type "builtin_function_or_method"), none, .fields #[(.builtin "object.__init_subclass__"), (.ref 81)], #[]⟩
noncomputable def b86n0 : Obj := ⟨(.type "tuple"), none, .seq #[] 0, #[]⟩
noncomputable def b87n0 : Obj := ⟨.none, none, .fields #[], #[]⟩
noncomputable def b88n0 : Obj := ⟨(.type "tuple"), none, .seq #[(.str (Str.ofString "code") 288), (.str (Str.ofString "figures") 289)] 0, #[]⟩
noncomputable def b89n0 : Obj := ⟨(.type "tuple"), none, .seq #[] 0, #[]⟩
noncomputable def o90 : Obj := pick (x := mkF s4 (Str.ofString "hex_escape") 0 [] .none .none .none .none none .none .none 0 .none none #[]) _ (by conv => lhs; whnf)
noncomputable def b91n0 : Obj := ⟨(.type "code"), none, .fields #[(.str (Str.ofString "hex_escape") 285), (.str (Str.ofString "hex_escape") 286), (.str (Str.ofString "/claim/cut.py") 287), (.int 27 0), (.int 1 0), (.int 0 0), (.int 0 0), (.int 3 0), (.ref 86), (.bool true), (.int 181 0), (.ref 87), .none, (.ref 88), (.ref 89), (.ref 90), (.int 290 0), (.int 27 0), (.str (Str.ofString "/claim/cut.py") 291)], #[]⟩
noncomputable def b93n0 : Obj := ⟨(.type "tuple"), none, .seq #[] 0, #[]⟩
noncomputable def b94n0 : Obj := ⟨.none, none, .fields #[], #[]⟩
noncomputable def b95n0 : Obj := ⟨(.type "tuple"), none, .seq #[(.str (Str.ofString "sign") 296), (.str (Str.ofString "marks") 297), (.str (Str.ofString "code") 298)] 0, #[]⟩
noncomputable def b96n0 : Obj := ⟨(.type "tuple"), none, .seq #[] 0, #[]⟩
noncomputable def o97 : Obj := pick (x := mkF s5 (Str.ofString "escaped_sign") 0 [] .none .none .none .none none .none .none 0 .none none #[]) _ (by conv => lhs; whnf)
noncomputable def b98n0 : Obj := ⟨(.type "code"), none, .fields #[(.str (Str.ofString "escaped_sign") 293), (.str (Str.ofString "escaped_sign") 294), (.str (Str.ofString "/claim/cut.py") 295), (.int 30 0), (.int 2 0), (.int 0 0), (.int 0 0), (.int 3 0), (.ref 93), (.bool true), (.int 181 0), (.ref 94), .none, (.ref 95), (.ref 96), (.ref 97), (.int 299 0), (.int 30 0), (.str (Str.ofString "/claim/cut.py") 300)], #[]⟩
noncomputable def b100n0 : Obj := ⟨(.type "tuple"), none, .seq #[] 0, #[]⟩
noncomputable def b101n0 : Obj := ⟨.none, none, .fields #[], #[]⟩
noncomputable def o102 : Obj := pick (x := mkF s6 (Str.ofString "escaped") 0 [] .none .none .none .none none .none .none 0 .none none #[]) _ (by conv => lhs; whnf)
noncomputable def b103n0 : Obj := ⟨(.type "code"), none, .fields #[(.str (Str.ofString "escaped") 302), (.str (Str.ofString "escaped") 303), (.str (Str.ofString "/claim/cut.py") 304), (.int 41 0), (.int 2 0), (.int 0 0), (.int 0 0), (.int 3 0), (.ref 100), (.bool true), (.int 181 0), (.ref 101), .none, .none, .none, (.ref 102), (.int 305 0), (.int 41 0), (.str (Str.ofString "/claim/cut.py") 306)], #[]⟩
noncomputable def b3n2 (P : Params) : Obj := ⟨(.type "dict"), none, .dict #[de P "__name__" 165 (.str (Str.ofString "grammarmill.nodes") 308), de P "__doc__" 166 .none, de P "__package__" 167 .none, de P "__loader__" 168 (.builtin "__main__.__loader__#opaque"), de P "__spec__" 169 .none, de P "__annotations__" 170 (.ref 6), de P "__builtins__" 171 (.ref 4), de P "__file__" 173 (.str (Str.ofString "/claim/cut.py") 172), de P "__cached__" 174 .none, de P "_wall" 193 (.ref 21), de P "Position" 235 (.ref 45), de P "Token" 284 (.ref 81), de P "hex_escape" 292 (.ref 92), de P "escaped_sign" 301 (.ref 99), de P "escaped" 307 (.ref 104), de P "Tree" 393 (.ref 168)] 16, #[]⟩
noncomputable def b12n3 : Obj := ⟨.none, none, .fields #[(.int 1 0), (.int 0 0), (.ref 20), (.int 5 0), (.int 0 0), (.ref 27), (.int 14 0), (.int 0 0), (.ref 55), (.int 27 0), (.int 0 0), (.ref 91), (.int 30 0), (.int 0 0), (.ref 98), (.int 41 0), (.int 0 0), (.ref 103), (.int 44 0), (.int 0 0), (.ref 110)], #[]⟩
noncomputable def b105n0 : Obj := ⟨(.type "tuple"), none, .seq #[] 0, #[]⟩
noncomputable def b106n0 : Obj := ⟨(.type "builtin_function_or_method"), none, .fields #[(.builtin "type.__prepare__"), (.type "type")], #[]⟩
noncomputable def b107n0 (P : Params) : Obj := ⟨(.type "dict"), none, .dict #[de P "__module__" 317 (.str (Str.ofString "grammarmill.nodes") 308), de P "__qualname__" 319 (.str (Str.ofString "Tree") 318), de P "__firstlineno__" 321 (.int 44 320), de P "__init__" 331 (.ref 118), de P "is_leaf" 338 (.ref 125), de P "head" 345 (.ref 132), de P "told" 355 (.ref 139), de P "leaves" 361 (.ref 144), de P "reductions" 368 (.ref 151), de P "height" 375 (.ref 158), de P "show" 382 (.ref 165), de P "__static_attributes__" 386 (.ref 166)] 12, #[]⟩
noncomputable def b108n0 : Obj := ⟨(.type "tuple"), none, .seq #[] 0, #[]⟩
noncomputable def b109n0 : Obj := ⟨.none, none, .fields #[(.int 46 0), (.int 4 0), (.ref 117), (.int 51 0), (.int 4 0), (.ref 124), (.int 54 0), (.int 4 0), (.ref 131), (.int 57 0), (.int 4 0), (.ref 138), (.int 67 0), (.int 4 0), (.ref 143), (.int 70 0), (.int 4 0), (.ref 150), (.int 73 0), (.int 4 0), (.ref 157), (.int 76 0), (.int 4 0), (.ref 164)], #[]⟩
noncomputable def b110n0 : Obj := ⟨(.type "code"), none, .fields #[(.str (Str.ofString "Tree") 312), (.str (Str.ofString "Tree") 313), (.str (Str.ofString "/claim/cut.py") 314), (.int 44 0), (.int 0 0), (.int 0 0), (.int 0 0), (.int 0 0), (.ref 108), (.bool false), (.int 181 0), (.ref 109), .none, .none, .none, .none, (.int 315 0), (.int 44 0), (.str (Str.ofString "/claim/cut.py") 316)], #[]⟩
noncomputable def b111n0 : Obj := ⟨(.type "frame"), none, .plain, #[some (.ref 110), some (.ref 3), some (.ref 107), none, some (.str (Str.ofString "grammarmill.nodes") 308), none, some (.ref 0)]⟩
noncomputable def b112n0 : Obj := ⟨(.type "tuple"), none, .seq #[] 0, #[]⟩
noncomputable def b113n0 : Obj := ⟨.none, none, .fields #[], #[]⟩
noncomputable def b114n0 : Obj := ⟨(.type "tuple"), none, .seq #[(.str (Str.ofString "self") 325), (.str (Str.ofString "name") 326), (.str (Str.ofString "rule") 327), (.str (Str.ofString "children") 328)] 0, #[]⟩
noncomputable def b115n0 : Obj := ⟨(.type "tuple"), none, .seq #[] 0, #[]⟩
noncomputable def o116 : Obj := pick (x := mkF (stIn s8 0) (Str.ofString "Tree.__init__") 0 [] .none .none .none .none none .none .none 0 .none none #[]) _ (by conv => lhs; whnf)
noncomputable def b117n0 : Obj := ⟨(.type "code"), none, .fields #[(.str (Str.ofString "__init__") 322), (.str (Str.ofString "Tree.__init__") 323), (.str (Str.ofString "/claim/cut.py") 324), (.int 46 0), (.int 4 0), (.int 0 0), (.int 0 0), (.int 3 0), (.ref 112), (.bool true), (.int 181 0), (.ref 113), .none, (.ref 114), (.ref 115), (.ref 116), (.int 329 0), (.int 46 0), (.str (Str.ofString "/claim/cut.py") 330)], #[]⟩
noncomputable def b119n0 : Obj := ⟨(.type "tuple"), none, .seq #[] 0, #[]⟩
noncomputable def b120n0 : Obj := ⟨.none, none, .fields #[], #[]⟩
noncomputable def b121n0 : Obj := ⟨(.type "tuple"), none, .seq #[(.str (Str.ofString "self") 335)] 0, #[]⟩
noncomputable def b122n0 : Obj := ⟨(.type "tuple"), none, .seq #[] 0, #[]⟩
noncomputable def o123 : Obj := pick (x := mkF (stIn s8 1) (Str.ofString "Tree.is_leaf") 0 [] .none .none .none .none none .none .none 0 .none none #[]) _ (by conv => lhs; whnf)
noncomputable def b124n0 : Obj := ⟨(.type "code"), none, .fields #[(.str (Str.ofString "is_leaf") 332), (.str (Str.ofString "Tree.is_leaf") 333), (.str (Str.ofString "/claim/cut.py") 334), (.int 51 0), (.int 1 0), (.int 0 0), (.int 0 0), (.int 3 0), (.ref 119), (.bool true), (.int 181 0), (.ref 120), .none, (.ref 121), (.ref 122), (.ref 123), (.int 336 0), (.int 51 0), (.str (Str.ofString "/claim/cut.py") 337)], #[]⟩
noncomputable def b126n0 : Obj := ⟨(.type "tuple"), none, .seq #[] 0, #[]⟩
noncomputable def b127n0 : Obj := ⟨.none, none, .fields #[], #[]⟩
noncomputable def b128n0 : Obj := ⟨(.type "tuple"), none, .seq #[(.str (Str.ofString "self") 342)] 0, #[]⟩
noncomputable def b129n0 : Obj := ⟨(.type "tuple"), none, .seq #[] 0, #[]⟩
noncomputable def o130 : Obj := pick (x := mkF (stIn s8 2) (Str.ofString "Tree.head") 0 [] .none .none .none .none none .none .none 0 .none none #[]) _ (by conv => lhs; whnf)
noncomputable def b131n0 : Obj := ⟨(.type "code"), none, .fields #[(.str (Str.ofString "head") 339), (.str (Str.ofString "Tree.head") 340), (.str (Str.ofString "/claim/cut.py") 341), (.int 54 0), (.int 1 0), (.int 0 0), (.int 0 0), (.int 3 0), (.ref 126), (.bool true), (.int 181 0), (.ref 127), .none, (.ref 128), (.ref 129), (.ref 130), (.int 343 0), (.int 54 0), (.str (Str.ofString "/claim/cut.py") 344)], #[]⟩
noncomputable def b133n0 : Obj := ⟨(.type "tuple"), none, .seq #[] 0, #[]⟩
noncomputable def b134n0 : Obj := ⟨.none, none, .fields #[], #[]⟩
noncomputable def b135n0 : Obj := ⟨(.type "tuple"), none, .seq #[(.str (Str.ofString "self") 349), (.str (Str.ofString "done") 350), (.str (Str.ofString "node") 351), (.str (Str.ofString "start") 352)] 0, #[]⟩
noncomputable def b136n0 : Obj := ⟨(.type "tuple"), none, .seq #[] 0, #[]⟩
noncomputable def o137 : Obj := pick (x := mkF (stIn s8 3) (Str.ofString "Tree.told") 0 [] .none .none .none .none none .none .none 0 .none none #[]) _ (by conv => lhs; whnf)
noncomputable def b138n0 : Obj := ⟨(.type "code"), none, .fields #[(.str (Str.ofString "told") 346), (.str (Str.ofString "Tree.told") 347), (.str (Str.ofString "/claim/cut.py") 348), (.int 57 0), (.int 1 0), (.int 0 0), (.int 0 0), (.int 3 0), (.ref 133), (.bool true), (.int 181 0), (.ref 134), .none, (.ref 135), (.ref 136), (.ref 137), (.int 353 0), (.int 57 0), (.str (Str.ofString "/claim/cut.py") 354)], #[]⟩
noncomputable def b140n0 : Obj := ⟨(.type "tuple"), none, .seq #[] 0, #[]⟩
noncomputable def b141n0 : Obj := ⟨.none, none, .fields #[], #[]⟩
noncomputable def o142 : Obj := pick (x := mkF (stIn s8 4) (Str.ofString "Tree.leaves") 0 [] .none .none .none .none none .none .none 0 .none none #[]) _ (by conv => lhs; whnf)
noncomputable def b143n0 : Obj := ⟨(.type "code"), none, .fields #[(.str (Str.ofString "leaves") 356), (.str (Str.ofString "Tree.leaves") 357), (.str (Str.ofString "/claim/cut.py") 358), (.int 67 0), (.int 1 0), (.int 0 0), (.int 0 0), (.int 3 0), (.ref 140), (.bool true), (.int 181 0), (.ref 141), .none, .none, .none, (.ref 142), (.int 359 0), (.int 67 0), (.str (Str.ofString "/claim/cut.py") 360)], #[]⟩
noncomputable def b145n0 : Obj := ⟨(.type "tuple"), none, .seq #[] 0, #[]⟩
noncomputable def b146n0 : Obj := ⟨.none, none, .fields #[], #[]⟩
noncomputable def b147n0 : Obj := ⟨(.type "tuple"), none, .seq #[(.str (Str.ofString "self") 365)] 0, #[]⟩
noncomputable def b148n0 : Obj := ⟨(.type "tuple"), none, .seq #[] 0, #[]⟩
noncomputable def o149 : Obj := pick (x := mkF (stIn s8 5) (Str.ofString "Tree.reductions") 0 [] .none .none .none .none none .none .none 0 .none none #[]) _ (by conv => lhs; whnf)
noncomputable def b150n0 : Obj := ⟨(.type "code"), none, .fields #[(.str (Str.ofString "reductions") 362), (.str (Str.ofString "Tree.reductions") 363), (.str (Str.ofString "/claim/cut.py") 364), (.int 70 0), (.int 1 0), (.int 0 0), (.int 0 0), (.int 3 0), (.ref 145), (.bool true), (.int 181 0), (.ref 146), .none, (.ref 147), (.ref 148), (.ref 149), (.int 366 0), (.int 70 0), (.str (Str.ofString "/claim/cut.py") 367)], #[]⟩
noncomputable def b152n0 : Obj := ⟨(.type "tuple"), none, .seq #[] 0, #[]⟩
noncomputable def b153n0 : Obj := ⟨.none, none, .fields #[], #[]⟩
noncomputable def b154n0 : Obj := ⟨(.type "tuple"), none, .seq #[(.str (Str.ofString "self") 372)] 0, #[]⟩
noncomputable def b155n0 : Obj := ⟨(.type "tuple"), none, .seq #[] 0, #[]⟩
noncomputable def o156 : Obj := pick (x := mkF (stIn s8 6) (Str.ofString "Tree.height") 0 [] .none .none .none .none none .none .none 0 .none none #[]) _ (by conv => lhs; whnf)
noncomputable def b157n0 : Obj := ⟨(.type "code"), none, .fields #[(.str (Str.ofString "height") 369), (.str (Str.ofString "Tree.height") 370), (.str (Str.ofString "/claim/cut.py") 371), (.int 73 0), (.int 1 0), (.int 0 0), (.int 0 0), (.int 3 0), (.ref 152), (.bool true), (.int 181 0), (.ref 153), .none, (.ref 154), (.ref 155), (.ref 156), (.int 373 0), (.int 73 0), (.str (Str.ofString "/claim/cut.py") 374)], #[]⟩
noncomputable def b159n0 : Obj := ⟨(.type "tuple"), none, .seq #[] 0, #[]⟩
noncomputable def b160n0 : Obj := ⟨.none, none, .fields #[], #[]⟩
noncomputable def b161n0 : Obj := ⟨(.type "tuple"), none, .seq #[(.str (Str.ofString "self") 379)] 0, #[]⟩
noncomputable def b162n0 : Obj := ⟨(.type "tuple"), none, .seq #[] 0, #[]⟩
noncomputable def o163 : Obj := pick (x := mkF (stIn s8 7) (Str.ofString "Tree.show") 0 [] .none .none .none .none none .none .none 0 .none none #[]) _ (by conv => lhs; whnf)
noncomputable def b164n0 : Obj := ⟨(.type "code"), none, .fields #[(.str (Str.ofString "show") 376), (.str (Str.ofString "Tree.show") 377), (.str (Str.ofString "/claim/cut.py") 378), (.int 76 0), (.int 1 0), (.int 0 0), (.int 0 0), (.int 3 0), (.ref 159), (.bool true), (.int 181 0), (.ref 160), .none, (.ref 161), (.ref 162), (.ref 163), (.int 380 0), (.int 76 0), (.str (Str.ofString "/claim/cut.py") 381)], #[]⟩
noncomputable def b166n0 : Obj := ⟨(.type "tuple"), none, .seq #[(.str (Str.ofString "children") 383), (.str (Str.ofString "name") 384), (.str (Str.ofString "rule") 385)] 0, #[]⟩
noncomputable def b167n0 (P : Params) : Obj := ⟨(.type "dict"), none, .dict #[de P "__module__" 317 (.str (Str.ofString "grammarmill.nodes") 308), de P "__firstlineno__" 321 (.int 44 320), de P "__init__" 331 (.ref 118), de P "is_leaf" 338 (.ref 125), de P "head" 345 (.ref 132), de P "told" 355 (.ref 139), de P "leaves" 361 (.ref 144), de P "reductions" 368 (.ref 151), de P "height" 375 (.ref 158), de P "show" 382 (.ref 165), de P "__static_attributes__" 386 (.ref 166), de P "__dict__" 388 (.ref 169), de P "__weakref__" 390 (.ref 170), de P "__doc__" 391 .none] 4, #[]⟩
noncomputable def b168n0 : Obj := ⟨(.type "type"), none, .cls { name := (Str.ofString "Tree"), bases := [(.type "object")], mro := [(.ref 168), (.type "object")], ns := 167, qualname := (Str.ofString "Tree"), hasDict := true, slotNames := [], subclasses := [], abstract := false, collection := none, hasDel := false }, #[none, none, some (.str (Str.ofString "Tree") 310), some (.str (Str.ofString "Tree") 318), some (.builtin "object.__new__"), some (.bool true)]⟩
noncomputable def b169n0 : Obj := ⟨(.type "getset_descriptor"), none, .fields #[(.str (Str.ofString "__dict__") 387), (.ref 168), (.builtin "function.__dict__"), (.builtin "function.__dict__#set")], #[]⟩
noncomputable def b170n0 : Obj := ⟨(.type "getset_descriptor"), none, .fields #[(.str (Str.ofString "__weakref__") 389), (.ref 168), (.builtin "ExceptionGroup.__weakref__"), .none], #[]⟩
noncomputable def b171n0 : Obj := ⟨(.type "super"), none, .fields #[(.ref 168), (.ref 168), (.ref 168)], #[]⟩
noncomputable def b172n0 : Obj := ⟨(.type "builtin_function_or_method"), none, .fields #[(.builtin "object.__init_subclass__"), (.ref 168)], #[]⟩
noncomputable def b3n3 (P : Params) : Obj := ⟨(.type "dict"), none, .dict #[de P "__name__" 165 (.str (Str.ofString "grammarmill.driver") 482), de P "__doc__" 166 .none, de P "__package__" 167 .none, de P "__loader__" 168 (.builtin "__main__.__loader__#opaque"), de P "__spec__" 169 .none, de P "__annotations__" 170 (.ref 6), de P "__builtins__" 171 (.ref 4), de P "__file__" 173 (.str (Str.ofString "/claim/cut.py") 172), de P "__cached__" 174 .none, de P "_wall" 193 (.ref 21), de P "Position" 235 (.ref 45), de P "Token" 284 (.ref 81), de P "hex_escape" 292 (.ref 92), de P "escaped_sign" 301 (.ref 99), de P "escaped" 307 (.ref 104), de P "Tree" 393 (.ref 168), de P "Leaf" 435 (.ref 203), de P "postorder" 446 (.ref 212), de P "show_value" 454 (.ref 217), de P "show_leaf" 461 (.ref 224), de P "show_tree" 467 (.ref 229), de P "show_fault" 481 (.ref 236)] 22, #[]⟩
noncomputable def b12n4 : Obj := ⟨.none, none, .fields #[(.int 1 0), (.int 0 0), (.ref 20), (.int 5 0), (.int 0 0), (.ref 27), (.int 14 0), (.int 0 0), (.ref 55), (.int 27 0), (.int 0 0), (.ref 91), (.int 30 0), (.int 0 0), (.ref 98), (.int 41 0), (.int 0 0), (.ref 103), (.int 44 0), (.int 0 0), (.ref 110), (.int 78 0), (.int 0 0), (.ref 178), (.int 91 0), (.int 0 0), (.ref 211), (.int 101 0), (.int 0 0), (.ref 216), (.int 109 0), (.int 0 0), (.ref 223), (.int 113 0), (.int 0 0), (.ref 228), (.int 117 0), (.int 0 0), (.ref 235)], #[]⟩
noncomputable def b168n1 : Obj := ⟨(.type "type"), none, .cls { name := (Str.ofString "Tree"), bases := [(.type "object")], mro := [(.ref 168), (.type "object")], ns := 167, qualname := (Str.ofString "Tree"), hasDict := true, slotNames := [], subclasses := [(.ref 203)], abstract := false, collection := none, hasDel := false }, #[none, none, some (.str (Str.ofString "Tree") 310), some (.str (Str.ofString "Tree") 318), some (.builtin "object.__new__"), some (.bool true)]⟩
noncomputable def b173n0 : Obj := ⟨(.type "tuple"), none, .seq #[(.ref 168)] 0, #[]⟩
noncomputable def b174n0 : Obj := ⟨(.type "builtin_function_or_method"), none, .fields #[(.builtin "type.__prepare__"), (.type "type")], #[]⟩
noncomputable def b175n0 (P : Params) : Obj := ⟨(.type "dict"), none, .dict #[de P "__module__" 401 (.str (Str.ofString "grammarmill.nodes") 308), de P "__qualname__" 403 (.str (Str.ofString "Leaf") 402), de P "__firstlineno__" 405 (.int 78 404), de P "__init__" 413 (.ref 186), de P "is_leaf" 420 (.ref 193), de P "head" 427 (.ref 200), de P "__static_attributes__" 432 (.ref 201)] 7, #[]⟩
noncomputable def b176n0 : Obj := ⟨(.type "tuple"), none, .seq #[] 0, #[]⟩
noncomputable def b177n0 : Obj := ⟨.none, none, .fields #[(.int 80 0), (.int 4 0), (.ref 185), (.int 86 0), (.int 4 0), (.ref 192), (.int 89 0), (.int 4 0), (.ref 199)], #[]⟩
noncomputable def b178n0 : Obj := ⟨(.type "code"), none, .fields #[(.str (Str.ofString "Leaf") 396), (.str (Str.ofString "Leaf") 397), (.str (Str.ofString "/claim/cut.py") 398), (.int 78 0), (.int 0 0), (.int 0 0), (.int 0 0), (.int 0 0), (.ref 176), (.bool false), (.int 181 0), (.ref 177), .none, .none, .none, .none, (.int 399 0), (.int 78 0), (.str (Str.ofString "/claim/cut.py") 400)], #[]⟩
noncomputable def b179n0 : Obj := ⟨(.type "frame"), none, .plain, #[some (.ref 178), some (.ref 3), some (.ref 175), none, some (.str (Str.ofString "grammarmill.nodes") 308), none, some (.ref 0)]⟩
noncomputable def b180n0 : Obj := ⟨(.type "tuple"), none, .seq #[] 0, #[]⟩
noncomputable def b181n0 : Obj := ⟨.none, none, .fields #[], #[]⟩
noncomputable def b182n0 : Obj := ⟨(.type "tuple"), none, .seq #[(.str (Str.ofString "self") 409), (.str (Str.ofString "token") 410)] 0, #[]⟩
noncomputable def b183n0 : Obj := ⟨(.type "tuple"), none, .seq #[] 0, #[]⟩
noncomputable def o184 : Obj := pick (x := mkF (stIn s9 0) (Str.ofString "Leaf.__init__") 0 [] .none .none .none .none none .none .none 0 .none none #[]) _ (by conv => lhs; whnf)
noncomputable def b185n0 : Obj := ⟨(.type "code"), none, .fields #[(.str (Str.ofString "__init__") 406), (.str (Str.ofString "Leaf.__init__") 407), (.str (Str.ofString "/claim/cut.py") 408), (.int 80 0), (.int 2 0), (.int 0 0), (.int 0 0), (.int 3 0), (.ref 180), (.bool true), (.int 181 0), (.ref 181), .none, (.ref 182), (.ref 183), (.ref 184), (.int 411 0), (.int 80 0), (.str (Str.ofString "/claim/cut.py") 412)], #[]⟩
noncomputable def b187n0 : Obj := ⟨(.type "tuple"), none, .seq #[] 0, #[]⟩
noncomputable def b188n0 : Obj := ⟨.none, none, .fields #[], #[]⟩
noncomputable def b189n0 : Obj := ⟨(.type "tuple"), none, .seq #[(.str (Str.ofString "self") 417)] 0, #[]⟩
noncomputable def b190n0 : Obj := ⟨(.type "tuple"), none, .seq #[] 0, #[]⟩
noncomputable def o191 : Obj := pick (x := mkF (stIn s9 1) (Str.ofString "Leaf.is_leaf") 0 [] .none .none .none .none none .none .none 0 .none none #[]) _ (by conv => lhs; whnf)
noncomputable def b192n0 : Obj := ⟨(.type "code"), none, .fields #[(.str (Str.ofString "is_leaf") 414), (.str (Str.ofString "Leaf.is_leaf") 415), (.str (Str.ofString "/claim/cut.py") 416), (.int 86 0), (.int 1 0), (.int 0 0), (.int 0 0), (.int 3 0), (.ref 187), (.bool true), (.int 181 0), (.ref 188), .none, (.ref 189), (.ref 190), (.ref 191), (.int 418 0), (.int 86 0), (.str (Str.ofString "/claim/cut.py") 419)], #[]⟩
noncomputable def b194n0 : Obj := ⟨(.type "tuple"), none, .seq #[] 0, #[]⟩
noncomputable def b195n0 : Obj := ⟨.none, none, .fields #[], #[]⟩
noncomputable def b196n0 : Obj := ⟨(.type "tuple"), none, .seq #[(.str (Str.ofString "self") 424)] 0, #[]⟩
noncomputable def b197n0 : Obj := ⟨(.type "tuple"), none, .seq #[] 0, #[]⟩
noncomputable def o198 : Obj := pick (x := mkF (stIn s9 2) (Str.ofString "Leaf.head") 0 [] .none .none .none .none none .none .none 0 .none none #[]) _ (by conv => lhs; whnf)
noncomputable def b199n0 : Obj := ⟨(.type "code"), none, .fields #[(.str (Str.ofString "head") 421), (.str (Str.ofString "Leaf.head") 422), (.str (Str.ofString "/claim/cut.py") 423), (.int 89 0), (.int 1 0), (.int 0 0), (.int 0 0), (.int 3 0), (.ref 194), (.bool true), (.int 181 0), (.ref 195), .none, (.ref 196), (.ref 197), (.ref 198), (.int 425 0), (.int 89 0), (.str (Str.ofString "/claim/cut.py") 426)], #[]⟩
noncomputable def b201n0 : Obj := ⟨(.type "tuple"), none, .seq #[(.str (Str.ofString "children") 428), (.str (Str.ofString "name") 429), (.str (Str.ofString "rule") 430), (.str (Str.ofString "token") 431)] 0, #[]⟩
noncomputable def b202n0 (P : Params) : Obj := ⟨(.type "dict"), none, .dict #[de P "__module__" 401 (.str (Str.ofString "grammarmill.nodes") 308), de P "__firstlineno__" 405 (.int 78 404), de P "__init__" 413 (.ref 186), de P "is_leaf" 420 (.ref 193), de P "head" 427 (.ref 200), de P "__static_attributes__" 432 (.ref 201), de P "__doc__" 433 .none] 2, #[]⟩
noncomputable def b203n0 : Obj := ⟨(.type "type"), none, .cls { name := (Str.ofString "Leaf"), bases := [(.ref 168)], mro := [(.ref 203), (.ref 168), (.type "object")], ns := 202, qualname := (Str.ofString "Leaf"), hasDict := true, slotNames := [], subclasses := [], abstract := false, collection := none, hasDel := false }, #[some (.ref 173), none, some (.str (Str.ofString "Leaf") 394), some (.str (Str.ofString "Leaf") 402), some (.builtin "object.__new__"), some (.bool true)]⟩
noncomputable def b204n0 : Obj := ⟨(.type "super"), none, .fields #[(.ref 203), (.ref 203), (.ref 203)], #[]⟩
noncomputable def b205n0 : Obj := ⟨(.type "builtin_function_or_method"), none, .fields #[(.builtin "object.__init_subclass__"), (.ref 203)], #[]⟩
noncomputable def b206n0 : Obj := ⟨(.type "tuple"), none, .seq #[] 0, #[]⟩
noncomputable def b207n0 : Obj := ⟨.none, none, .fields #[], #[]⟩
noncomputable def b208n0 : Obj := ⟨(.type "tuple"), none, .seq #[(.str (Str.ofString "tree") 439), (.str (Str.ofString "found") 440), (.str (Str.ofString "line") 441), (.str (Str.ofString "node") 442), (.str (Str.ofString "child") 443)] 0, #[]⟩
noncomputable def b209n0 : Obj := ⟨(.type "tuple"), none, .seq #[] 0, #[]⟩
noncomputable def o210 : Obj := pick (x := mkF s10 (Str.ofString "postorder") 0 [] .none .none .none .none none .none .none 0 .none none #[]) _ (by conv => lhs; whnf)
noncomputable def b211n0 : Obj := ⟨(.type "code"), none, .fields #[(.str (Str.ofString "postorder") 436), (.str (Str.ofString "postorder") 437), (.str (Str.ofString "/claim/cut.py") 438), (.int 91 0), (.int 1 0), (.int 0 0), (.int 0 0), (.int 3 0), (.ref 206), (.bool true), (.int 181 0), (.ref 207), .none, (.ref 208), (.ref 209), (.ref 210), (.int 444 0), (.int 91 0), (.str (Str.ofString "/claim/cut.py") 445)], #[]⟩
noncomputable def b213n0 : Obj := ⟨(.type "tuple"), none, .seq #[] 0, #[]⟩
noncomputable def b214n0 : Obj := ⟨.none, none, .fields #[], #[]⟩
noncomputable def o215 : Obj := pick (x := mkF s12 (Str.ofString "show_value") 0 [] .none .none .none .none none .none .none 0 .none none #[]) _ (by conv => lhs; whnf)
noncomputable def b216n0 : Obj := ⟨(.type "code"), none, .fields #[(.str (Str.ofString "show_value") 449), (.str (Str.ofString "show_value") 450), (.str (Str.ofString "/claim/cut.py") 451), (.int 101 0), (.int 1 0), (.int 0 0), (.int 0 0), (.int 3 0), (.ref 213), (.bool true), (.int 181 0), (.ref 214), .none, .none, .none, (.ref 215), (.int 452 0), (.int 101 0), (.str (Str.ofString "/claim/cut.py") 453)], #[]⟩
noncomputable def b218n0 : Obj := ⟨(.type "tuple"), none, .seq #[] 0, #[]⟩
noncomputable def b219n0 : Obj := ⟨.none, none, .fields #[], #[]⟩
noncomputable def b220n0 : Obj := ⟨(.type "tuple"), none, .seq #[(.str (Str.ofString "token") 458)] 0, #[]⟩
noncomputable def b221n0 : Obj := ⟨(.type "tuple"), none, .seq #[] 0, #[]⟩
noncomputable def o222 : Obj := pick (x := mkF s13 (Str.ofString "show_leaf") 0 [] .none .none .none .none none .none .none 0 .none none #[]) _ (by conv => lhs; whnf)
noncomputable def b223n0 : Obj := ⟨(.type "code"), none, .fields #[(.str (Str.ofString "show_leaf") 455), (.str (Str.ofString "show_leaf") 456), (.str (Str.ofString "/claim/cut.py") 457), (.int 109 0), (.int 1 0), (.int 0 0), (.int 0 0), (.int 3 0), (.ref 218), (.bool true), (.int 181 0), (.ref 219), .none, (.ref 220), (.ref 221), (.ref 222), (.int 459 0), (.int 109 0), (.str (Str.ofString "/claim/cut.py") 460)], #[]⟩
noncomputable def b225n0 : Obj := ⟨(.type "tuple"), none, .seq #[] 0, #[]⟩
noncomputable def b226n0 : Obj := ⟨.none, none, .fields #[], #[]⟩
noncomputable def o227 : Obj := pick (x := mkF s14 (Str.ofString "show_tree") 0 [] .none .none .none .none none .none .none 0 .none none #[]) _ (by conv => lhs; whnf)
noncomputable def b228n0 : Obj := ⟨(.type "code"), none, .fields #[(.str (Str.ofString "show_tree") 462), (.str (Str.ofString "show_tree") 463), (.str (Str.ofString "/claim/cut.py") 464), (.int 113 0), (.int 1 0), (.int 0 0), (.int 0 0), (.int 3 0), (.ref 225), (.bool true), (.int 181 0), (.ref 226), .none, .none, .none, (.ref 227), (.int 465 0), (.int 113 0), (.str (Str.ofString "/claim/cut.py") 466)], #[]⟩
noncomputable def b230n0 : Obj := ⟨(.type "tuple"), none, .seq #[] 0, #[]⟩
noncomputable def b231n0 : Obj := ⟨.none, none, .fields #[], #[]⟩
noncomputable def b232n0 : Obj := ⟨(.type "tuple"), none, .seq #[(.str (Str.ofString "fault") 471), (.str (Str.ofString "kind") 472), (.str (Str.ofString "state") 473), (.str (Str.ofString "expected") 474), (.str (Str.ofString "place") 475), (.str (Str.ofString "line") 476), (.str (Str.ofString "column") 477), (.str (Str.ofString "row") 478)] 0, #[]⟩
noncomputable def b233n0 : Obj := ⟨(.type "tuple"), none, .seq #[] 0, #[]⟩
noncomputable def o234 : Obj := pick (x := mkF s15 (Str.ofString "show_fault") 0 [] .none .none .none .none none .none .none 0 .none none #[]) _ (by conv => lhs; whnf)
noncomputable def b235n0 : Obj := ⟨(.type "code"), none, .fields #[(.str (Str.ofString "show_fault") 468), (.str (Str.ofString "show_fault") 469), (.str (Str.ofString "/claim/cut.py") 470), (.int 117 0), (.int 1 0), (.int 0 0), (.int 0 0), (.int 3 0), (.ref 230), (.bool true), (.int 181 0), (.ref 231), .none, (.ref 232), (.ref 233), (.ref 234), (.int 479 0), (.int 117 0), (.str (Str.ofString "/claim/cut.py") 480)], #[]⟩
noncomputable def b3n4 (P : Params) : Obj := ⟨(.type "dict"), none, .dict #[de P "__name__" 165 (.str (Str.ofString "law_nn0356_01") 535), de P "__doc__" 166 .none, de P "__package__" 167 .none, de P "__loader__" 168 (.builtin "__main__.__loader__#opaque"), de P "__spec__" 169 .none, de P "__annotations__" 170 (.ref 6), de P "__builtins__" 171 (.ref 4), de P "__file__" 173 (.str (Str.ofString "/claim/cut.py") 172), de P "__cached__" 174 .none, de P "_wall" 193 (.ref 21), de P "Position" 235 (.ref 45), de P "Token" 284 (.ref 81), de P "hex_escape" 292 (.ref 92), de P "escaped_sign" 301 (.ref 99), de P "escaped" 307 (.ref 104), de P "Tree" 393 (.ref 168), de P "Leaf" 435 (.ref 203), de P "postorder" 446 (.ref 212), de P "show_value" 454 (.ref 217), de P "show_leaf" 461 (.ref 224), de P "show_tree" 467 (.ref 229), de P "show_fault" 481 (.ref 236), de P "Fault" 534 (.ref 268), de P "_law_box" 542 (.ref 277), de P "_law_draw" 552 (.ref 284), de P "_law_hex" 554 (.str (Str.ofString "0123456789abcdef") 553), de P "_law_kinds" 560 (.ref 285), de P "_law_names" 567 (.ref 286)] 28, #[]⟩
noncomputable def b12n5 : Obj := ⟨.none, none, .fields #[(.int 1 0), (.int 0 0), (.ref 20), (.int 5 0), (.int 0 0), (.ref 27), (.int 14 0), (.int 0 0), (.ref 55), (.int 27 0), (.int 0 0), (.ref 91), (.int 30 0), (.int 0 0), (.ref 98), (.int 41 0), (.int 0 0), (.ref 103), (.int 44 0), (.int 0 0), (.ref 110), (.int 78 0), (.int 0 0), (.ref 178), (.int 91 0), (.int 0 0), (.ref 211), (.int 101 0), (.int 0 0), (.ref 216), (.int 109 0), (.int 0 0), (.ref 223), (.int 113 0), (.int 0 0), (.ref 228), (.int 117 0), (.int 0 0), (.ref 235), (.int 126 0), (.int 0 0), (.ref 242), (.int 140 0), (.int 0 0), (.ref 276), (.int 149 0), (.int 0 0), (.ref 283)], #[]⟩
noncomputable def b237n0 : Obj := ⟨(.type "tuple"), none, .seq #[] 0, #[]⟩
noncomputable def b238n0 : Obj := ⟨(.type "builtin_function_or_method"), none, .fields #[(.builtin "type.__prepare__"), (.type "type")], #[]⟩
noncomputable def b239n0 (P : Params) : Obj := ⟨(.type "dict"), none, .dict #[de P "__module__" 491 (.str (Str.ofString "grammarmill.driver") 482), de P "__qualname__" 493 (.str (Str.ofString "Fault") 492), de P "__firstlineno__" 495 (.int 126 494), de P "__init__" 508 (.ref 251), de P "told" 515 (.ref 258), de P "message" 522 (.ref 265), de P "__static_attributes__" 527 (.ref 266)] 7, #[]⟩
noncomputable def b240n0 : Obj := ⟨(.type "tuple"), none, .seq #[] 0, #[]⟩
noncomputable def b241n0 : Obj := ⟨.none, none, .fields #[(.int 128 0), (.int 4 0), (.ref 250), (.int 134 0), (.int 4 0), (.ref 257), (.int 137 0), (.int 4 0), (.ref 264)], #[]⟩
noncomputable def b242n0 : Obj := ⟨(.type "code"), none, .fields #[(.str (Str.ofString "Fault") 486), (.str (Str.ofString "Fault") 487), (.str (Str.ofString "/claim/cut.py") 488), (.int 126 0), (.int 0 0), (.int 0 0), (.int 0 0), (.int 0 0), (.ref 240), (.bool false), (.int 181 0), (.ref 241), .none, .none, .none, .none, (.int 489 0), (.int 126 0), (.str (Str.ofString "/claim/cut.py") 490)], #[]⟩
noncomputable def b243n0 : Obj := ⟨(.type "frame"), none, .plain, #[some (.ref 242), some (.ref 3), some (.ref 239), none, some (.str (Str.ofString "grammarmill.driver") 482), none, some (.ref 0)]⟩
noncomputable def b244n0 : Obj := ⟨(.type "tuple"), none, .seq #[(.int (-1) 497)] 0, #[]⟩
noncomputable def b245n0 : Obj := ⟨(.type "tuple"), none, .seq #[] 0, #[]⟩
noncomputable def b246n0 : Obj := ⟨.none, none, .fields #[], #[]⟩
noncomputable def b247n0 : Obj := ⟨(.type "tuple"), none, .seq #[(.str (Str.ofString "self") 501), (.str (Str.ofString "token") 502), (.str (Str.ofString "state") 503), (.str (Str.ofString "expected") 504), (.str (Str.ofString "index") 505)] 0, #[]⟩
noncomputable def b248n0 : Obj := ⟨(.type "tuple"), none, .seq #[] 0, #[]⟩
noncomputable def o249 : Obj := pick (x := mkF (stIn s17 0) (Str.ofString "Fault.__init__") 0 [] .none .none .none .none none .none .none 0 .none none #[]) _ (by conv => lhs; whnf)
noncomputable def b250n0 : Obj := ⟨(.type "code"), none, .fields #[(.str (Str.ofString "__init__") 498), (.str (Str.ofString "Fault.__init__") 499), (.str (Str.ofString "/claim/cut.py") 500), (.int 128 0), (.int 5 0), (.int 0 0), (.int 0 0), (.int 3 0), (.ref 245), (.bool true), (.int 181 0), (.ref 246), .none, (.ref 247), (.ref 248), (.ref 249), (.int 506 0), (.int 128 0), (.str (Str.ofString "/claim/cut.py") 507)], #[]⟩
noncomputable def b252n0 : Obj := ⟨(.type "tuple"), none, .seq #[] 0, #[]⟩
noncomputable def b253n0 : Obj := ⟨.none, none, .fields #[], #[]⟩
noncomputable def b254n0 : Obj := ⟨(.type "tuple"), none, .seq #[(.str (Str.ofString "self") 512)] 0, #[]⟩
noncomputable def b255n0 : Obj := ⟨(.type "tuple"), none, .seq #[] 0, #[]⟩
noncomputable def o256 : Obj := pick (x := mkF (stIn s17 1) (Str.ofString "Fault.told") 0 [] .none .none .none .none none .none .none 0 .none none #[]) _ (by conv => lhs; whnf)
noncomputable def b257n0 : Obj := ⟨(.type "code"), none, .fields #[(.str (Str.ofString "told") 509), (.str (Str.ofString "Fault.told") 510), (.str (Str.ofString "/claim/cut.py") 511), (.int 134 0), (.int 1 0), (.int 0 0), (.int 0 0), (.int 3 0), (.ref 252), (.bool true), (.int 181 0), (.ref 253), .none, (.ref 254), (.ref 255), (.ref 256), (.int 513 0), (.int 134 0), (.str (Str.ofString "/claim/cut.py") 514)], #[]⟩
noncomputable def b259n0 : Obj := ⟨(.type "tuple"), none, .seq #[] 0, #[]⟩
noncomputable def b260n0 : Obj := ⟨.none, none, .fields #[], #[]⟩
noncomputable def b261n0 : Obj := ⟨(.type "tuple"), none, .seq #[(.str (Str.ofString "self") 519)] 0, #[]⟩
noncomputable def b262n0 : Obj := ⟨(.type "tuple"), none, .seq #[] 0, #[]⟩
noncomputable def o263 : Obj := pick (x := mkF (stIn s17 2) (Str.ofString "Fault.message") 0 [] .none .none .none .none none .none .none 0 .none none #[]) _ (by conv => lhs; whnf)
noncomputable def b264n0 : Obj := ⟨(.type "code"), none, .fields #[(.str (Str.ofString "message") 516), (.str (Str.ofString "Fault.message") 517), (.str (Str.ofString "/claim/cut.py") 518), (.int 137 0), (.int 1 0), (.int 0 0), (.int 0 0), (.int 3 0), (.ref 259), (.bool true), (.int 181 0), (.ref 260), .none, (.ref 261), (.ref 262), (.ref 263), (.int 520 0), (.int 137 0), (.str (Str.ofString "/claim/cut.py") 521)], #[]⟩
noncomputable def b266n0 : Obj := ⟨(.type "tuple"), none, .seq #[(.str (Str.ofString "expected") 523), (.str (Str.ofString "index") 524), (.str (Str.ofString "state") 525), (.str (Str.ofString "token") 526)] 0, #[]⟩
noncomputable def b267n0 (P : Params) : Obj := ⟨(.type "dict"), none, .dict #[de P "__module__" 491 (.str (Str.ofString "grammarmill.driver") 482), de P "__firstlineno__" 495 (.int 126 494), de P "__init__" 508 (.ref 251), de P "told" 515 (.ref 258), de P "message" 522 (.ref 265), de P "__static_attributes__" 527 (.ref 266), de P "__dict__" 529 (.ref 269), de P "__weakref__" 531 (.ref 270), de P "__doc__" 532 .none] 4, #[]⟩
noncomputable def b268n0 : Obj := ⟨(.type "type"), none, .cls { name := (Str.ofString "Fault"), bases := [(.type "object")], mro := [(.ref 268), (.type "object")], ns := 267, qualname := (Str.ofString "Fault"), hasDict := true, slotNames := [], subclasses := [], abstract := false, collection := none, hasDel := false }, #[none, none, some (.str (Str.ofString "Fault") 484), some (.str (Str.ofString "Fault") 492), some (.builtin "object.__new__"), some (.bool true)]⟩
noncomputable def b269n0 : Obj := ⟨(.type "getset_descriptor"), none, .fields #[(.str (Str.ofString "__dict__") 528), (.ref 268), (.builtin "function.__dict__"), (.builtin "function.__dict__#set")], #[]⟩
noncomputable def b270n0 : Obj := ⟨(.type "getset_descriptor"), none, .fields #[(.str (Str.ofString "__weakref__") 530), (.ref 268), (.builtin "ExceptionGroup.__weakref__"), .none], #[]⟩
noncomputable def b271n0 : Obj := ⟨(.type "super"), none, .fields #[(.ref 268), (.ref 268), (.ref 268)], #[]⟩
noncomputable def b272n0 : Obj := ⟨(.type "builtin_function_or_method"), none, .fields #[(.builtin "object.__init_subclass__"), (.ref 268)], #[]⟩
noncomputable def b273n0 : Obj := ⟨(.type "tuple"), none, .seq #[] 0, #[]⟩
noncomputable def b274n0 : Obj := ⟨.none, none, .fields #[], #[]⟩
noncomputable def o275 : Obj := pick (x := mkF s19 (Str.ofString "_law_box") 0 [] .none .none .none .none none .none .none 0 .none none #[]) _ (by conv => lhs; whnf)
noncomputable def b276n0 : Obj := ⟨(.type "code"), none, .fields #[(.str (Str.ofString "_law_box") 537), (.str (Str.ofString "_law_box") 538), (.str (Str.ofString "/claim/cut.py") 539), (.int 140 0), (.int 1 0), (.int 0 0), (.int 0 0), (.int 3 0), (.ref 273), (.bool true), (.int 181 0), (.ref 274), .none, .none, .none, (.ref 275), (.int 540 0), (.int 140 0), (.str (Str.ofString "/claim/cut.py") 541)], #[]⟩
noncomputable def b278n0 : Obj := ⟨(.type "tuple"), none, .seq #[] 0, #[]⟩
noncomputable def b279n0 : Obj := ⟨.none, none, .fields #[], #[]⟩
noncomputable def b280n0 : Obj := ⟨(.type "tuple"), none, .seq #[(.str (Str.ofString "box") 546), (.str (Str.ofString "limit") 547), (.str (Str.ofString "place") 548), (.str (Str.ofString "digit") 549)] 0, #[]⟩
noncomputable def b281n0 : Obj := ⟨(.type "tuple"), none, .seq #[] 0, #[]⟩
noncomputable def o282 : Obj := pick (x := mkF s20 (Str.ofString "_law_draw") 0 [] .none .none .none .none none .none .none 0 .none none #[]) _ (by conv => lhs; whnf)
noncomputable def b283n0 : Obj := ⟨(.type "code"), none, .fields #[(.str (Str.ofString "_law_draw") 543), (.str (Str.ofString "_law_draw") 544), (.str (Str.ofString "/claim/cut.py") 545), (.int 149 0), (.int 2 0), (.int 0 0), (.int 0 0), (.int 3 0), (.ref 278), (.bool true), (.int 181 0), (.ref 279), .none, (.ref 280), (.ref 281), (.ref 282), (.int 550 0), (.int 149 0), (.str (Str.ofString "/claim/cut.py") 551)], #[]⟩
noncomputable def b285n0 : Obj := ⟨(.type "list"), none, .seq #[(.str (Str.ofString "N") 555), (.str (Str.ofString "'+'") 556), (.str (Str.ofString "'\\n'") 557), (.str (Str.ofString "error") 558), (.str (Str.ofString "' '") 559)] 0, #[]⟩
noncomputable def b286n0 : Obj := ⟨(.type "list"), none, .seq #[(.str (Str.ofString "$end") 561), (.str (Str.ofString "N") 562), (.str (Str.ofString "'+'") 563), (.str (Str.ofString "'\\''") 564), (.str (Str.ofString "name") 565), (.str (Str.ofString "C") 566)] 0, #[]⟩
noncomputable def b3n5 (P : Params) : Obj := ⟨(.type "dict"), none, .dict #[de P "__name__" 165 (.str (Str.ofString "law_nn0356_01") 535), de P "__doc__" 166 .none, de P "__package__" 167 .none, de P "__loader__" 168 (.builtin "__main__.__loader__#opaque"), de P "__spec__" 169 .none, de P "__annotations__" 170 (.ref 6), de P "__builtins__" 171 (.ref 4), de P "__file__" 173 (.str (Str.ofString "/claim/cut.py") 172), de P "__cached__" 174 .none, de P "_wall" 193 (.ref 21), de P "Position" 235 (.ref 45), de P "Token" 284 (.ref 81), de P "hex_escape" 292 (.ref 92), de P "escaped_sign" 301 (.ref 99), de P "escaped" 307 (.ref 104), de P "Tree" 393 (.ref 168), de P "Leaf" 435 (.ref 203), de P "postorder" 446 (.ref 212), de P "show_value" 454 (.ref 217), de P "show_leaf" 461 (.ref 224), de P "show_tree" 467 (.ref 229), de P "show_fault" 481 (.ref 236), de P "Fault" 534 (.ref 268), de P "_law_box" 542 (.ref 277), de P "_law_draw" 552 (.ref 284), de P "_law_hex" 554 (.str (Str.ofString "0123456789abcdef") 553), de P "_law_kinds" 560 (.ref 285), de P "_law_names" 567 (.ref 286), de P "_law_sign" 575 (.ref 293), de P "_law_text" 581 (.ref 298), de P "_law_value" 587 (.ref 303), de P "_law_plain" 593 (.ref 308), de P "_law_escaped" 604 (.ref 315), de P "_law_shown" 610 (.ref 320), de P "_law_read" 622 (.ref 327), de P "_law_node" 628 (.ref 332), de P "_law_tree" 634 (.ref 337), de P "_law_leaf" 642 (.ref 344), de P "_law_page" 648 (.ref 349), de P "_law_fault" 654 (.ref 354), de P "law" 667 (.ref 361)] 41, #[]⟩
noncomputable def b12n6 : Obj := ⟨.none, none, .fields #[(.int 1 0), (.int 0 0), (.ref 20), (.int 5 0), (.int 0 0), (.ref 27), (.int 14 0), (.int 0 0), (.ref 55), (.int 27 0), (.int 0 0), (.ref 91), (.int 30 0), (.int 0 0), (.ref 98), (.int 41 0), (.int 0 0), (.ref 103), (.int 44 0), (.int 0 0), (.ref 110), (.int 78 0), (.int 0 0), (.ref 178), (.int 91 0), (.int 0 0), (.ref 211), (.int 101 0), (.int 0 0), (.ref 216), (.int 109 0), (.int 0 0), (.ref 223), (.int 113 0), (.int 0 0), (.ref 228), (.int 117 0), (.int 0 0), (.ref 235), (.int 126 0), (.int 0 0), (.ref 242), (.int 140 0), (.int 0 0), (.ref 276), (.int 149 0), (.int 0 0), (.ref 283), (.int 163 0), (.int 0 0), (.ref 292), (.int 172 0), (.int 0 0), (.ref 297), (.int 174 0), (.int 0 0), (.ref 302), (.int 185 0), (.int 0 0), (.ref 307), (.int 189 0), (.int 0 0), (.ref 314), (.int 204 0), (.int 0 0), (.ref 319), (.int 212 0), (.int 0 0), (.ref 326), (.int 242 0), (.int 0 0), (.ref 331), (.int 248 0), (.int 0 0), (.ref 336), (.int 253 0), (.int 0 0), (.ref 343), (.int 257 0), (.int 0 0), (.ref 348), (.int 262 0), (.int 0 0), (.ref 353), (.int 276 0), (.int 0 0), (.ref 360)], #[]⟩
noncomputable def b287n0 : Obj := ⟨(.type "tuple"), none, .seq #[] 0, #[]⟩
noncomputable def b288n0 : Obj := ⟨.none, none, .fields #[], #[]⟩
noncomputable def b289n0 : Obj := ⟨(.type "tuple"), none, .seq #[(.str (Str.ofString "box") 571), (.str (Str.ofString "way") 572)] 0, #[]⟩
noncomputable def b290n0 : Obj := ⟨(.type "tuple"), none, .seq #[] 0, #[]⟩
noncomputable def o291 : Obj := pick (x := mkF s24 (Str.ofString "_law_sign") 0 [] .none .none .none .none none .none .none 0 .none none #[]) _ (by conv => lhs; whnf)
noncomputable def b292n0 : Obj := ⟨(.type "code"), none, .fields #[(.str (Str.ofString "_law_sign") 568), (.str (Str.ofString "_law_sign") 569), (.str (Str.ofString "/claim/cut.py") 570), (.int 163 0), (.int 1 0), (.int 0 0), (.int 0 0), (.int 3 0), (.ref 287), (.bool true), (.int 181 0), (.ref 288), .none, (.ref 289), (.ref 290), (.ref 291), (.int 573 0), (.int 163 0), (.str (Str.ofString "/claim/cut.py") 574)], #[]⟩
noncomputable def b294n0 : Obj := ⟨(.type "tuple"), none, .seq #[] 0, #[]⟩
noncomputable def b295n0 : Obj := ⟨.none, none, .fields #[], #[]⟩
noncomputable def o296 : Obj := pick (x := mkF s25 (Str.ofString "_law_text") 0 [] .none .none .none .none none .none .none 0 .none none #[]) _ (by conv => lhs; whnf)
noncomputable def b297n0 : Obj := ⟨(.type "code"), none, .fields #[(.str (Str.ofString "_law_text") 576), (.str (Str.ofString "_law_text") 577), (.str (Str.ofString "/claim/cut.py") 578), (.int 172 0), (.int 1 0), (.int 0 0), (.int 0 0), (.int 3 0), (.ref 294), (.bool true), (.int 181 0), (.ref 295), .none, .none, .none, (.ref 296), (.int 579 0), (.int 172 0), (.str (Str.ofString "/claim/cut.py") 580)], #[]⟩
noncomputable def b299n0 : Obj := ⟨(.type "tuple"), none, .seq #[] 0, #[]⟩
noncomputable def b300n0 : Obj := ⟨.none, none, .fields #[], #[]⟩
noncomputable def o301 : Obj := pick (x := mkF s26 (Str.ofString "_law_value") 0 [] .none .none .none .none none .none .none 0 .none none #[]) _ (by conv => lhs; whnf)
noncomputable def b302n0 : Obj := ⟨(.type "code"), none, .fields #[(.str (Str.ofString "_law_value") 582), (.str (Str.ofString "_law_value") 583), (.str (Str.ofString "/claim/cut.py") 584), (.int 174 0), (.int 2 0), (.int 0 0), (.int 0 0), (.int 3 0), (.ref 299), (.bool true), (.int 181 0), (.ref 300), .none, .none, .none, (.ref 301), (.int 585 0), (.int 174 0), (.str (Str.ofString "/claim/cut.py") 586)], #[]⟩
noncomputable def b304n0 : Obj := ⟨(.type "tuple"), none, .seq #[] 0, #[]⟩
noncomputable def b305n0 : Obj := ⟨.none, none, .fields #[], #[]⟩
noncomputable def o306 : Obj := pick (x := mkF s27 (Str.ofString "_law_plain") 0 [] .none .none .none .none none .none .none 0 .none none #[]) _ (by conv => lhs; whnf)
noncomputable def b307n0 : Obj := ⟨(.type "code"), none, .fields #[(.str (Str.ofString "_law_plain") 588), (.str (Str.ofString "_law_plain") 589), (.str (Str.ofString "/claim/cut.py") 590), (.int 185 0), (.int 1 0), (.int 0 0), (.int 0 0), (.int 3 0), (.ref 304), (.bool true), (.int 181 0), (.ref 305), .none, .none, .none, (.ref 306), (.int 591 0), (.int 185 0), (.str (Str.ofString "/claim/cut.py") 592)], #[]⟩
noncomputable def b309n0 : Obj := ⟨(.type "tuple"), none, .seq #[] 0, #[]⟩
noncomputable def b310n0 : Obj := ⟨.none, none, .fields #[], #[]⟩
noncomputable def b311n0 : Obj := ⟨(.type "tuple"), none, .seq #[(.str (Str.ofString "text") 597), (.str (Str.ofString "marks") 598), (.str (Str.ofString "signs") 599), (.str (Str.ofString "sign") 600), (.str (Str.ofString "code") 601)] 0, #[]⟩
noncomputable def b312n0 : Obj := ⟨(.type "tuple"), none, .seq #[] 0, #[]⟩
noncomputable def o313 : Obj := pick (x := mkF s28 (Str.ofString "_law_escaped") 0 [] .none .none .none .none none .none .none 0 .none none #[]) _ (by conv => lhs; whnf)
noncomputable def b314n0 : Obj := ⟨(.type "code"), none, .fields #[(.str (Str.ofString "_law_escaped") 594), (.str (Str.ofString "_law_escaped") 595), (.str (Str.ofString "/claim/cut.py") 596), (.int 189 0), (.int 2 0), (.int 0 0), (.int 0 0), (.int 3 0), (.ref 309), (.bool true), (.int 181 0), (.ref 310), .none, (.ref 311), (.ref 312), (.ref 313), (.int 602 0), (.int 189 0), (.str (Str.ofString "/claim/cut.py") 603)], #[]⟩
noncomputable def b316n0 : Obj := ⟨(.type "tuple"), none, .seq #[] 0, #[]⟩
noncomputable def b317n0 : Obj := ⟨.none, none, .fields #[], #[]⟩
noncomputable def o318 : Obj := pick (x := mkF s29 (Str.ofString "_law_shown") 0 [] .none .none .none .none none .none .none 0 .none none #[]) _ (by conv => lhs; whnf)
noncomputable def b319n0 : Obj := ⟨(.type "code"), none, .fields #[(.str (Str.ofString "_law_shown") 605), (.str (Str.ofString "_law_shown") 606), (.str (Str.ofString "/claim/cut.py") 607), (.int 204 0), (.int 1 0), (.int 0 0), (.int 0 0), (.int 3 0), (.ref 316), (.bool true), (.int 181 0), (.ref 317), .none, .none, .none, (.ref 318), (.int 608 0), (.int 204 0), (.str (Str.ofString "/claim/cut.py") 609)], #[]⟩
noncomputable def b321n0 : Obj := ⟨(.type "tuple"), none, .seq #[] 0, #[]⟩
noncomputable def b322n0 : Obj := ⟨.none, none, .fields #[], #[]⟩
noncomputable def b323n0 : Obj := ⟨(.type "tuple"), none, .seq #[(.str (Str.ofString "text") 614), (.str (Str.ofString "at") 615), (.str (Str.ofString "signs") 616), (.str (Str.ofString "parts") 617), (.str (Str.ofString "part") 618), (.str (Str.ofString "end") 619)] 0, #[]⟩
noncomputable def b324n0 : Obj := ⟨(.type "tuple"), none, .seq #[] 0, #[]⟩
noncomputable def o325 : Obj := pick (x := mkF s30 (Str.ofString "_law_read") 0 [] .none .none .none .none none .none .none 0 .none none #[]) _ (by conv => lhs; whnf)
noncomputable def b326n0 : Obj := ⟨(.type "code"), none, .fields #[(.str (Str.ofString "_law_read") 611), (.str (Str.ofString "_law_read") 612), (.str (Str.ofString "/claim/cut.py") 613), (.int 212 0), (.int 2 0), (.int 0 0), (.int 0 0), (.int 3 0), (.ref 321), (.bool true), (.int 181 0), (.ref 322), .none, (.ref 323), (.ref 324), (.ref 325), (.int 620 0), (.int 212 0), (.str (Str.ofString "/claim/cut.py") 621)], #[]⟩
noncomputable def b328n0 : Obj := ⟨(.type "tuple"), none, .seq #[] 0, #[]⟩
noncomputable def b329n0 : Obj := ⟨.none, none, .fields #[], #[]⟩
noncomputable def o330 : Obj := pick (x := mkF s31 (Str.ofString "_law_node") 0 [] .none .none .none .none none .none .none 0 .none none #[]) _ (by conv => lhs; whnf)
noncomputable def b331n0 : Obj := ⟨(.type "code"), none, .fields #[(.str (Str.ofString "_law_node") 623), (.str (Str.ofString "_law_node") 624), (.str (Str.ofString "/claim/cut.py") 625), (.int 242 0), (.int 2 0), (.int 0 0), (.int 0 0), (.int 3 0), (.ref 328), (.bool true), (.int 181 0), (.ref 329), .none, .none, .none, (.ref 330), (.int 626 0), (.int 242 0), (.str (Str.ofString "/claim/cut.py") 627)], #[]⟩
noncomputable def b333n0 : Obj := ⟨(.type "tuple"), none, .seq #[] 0, #[]⟩
noncomputable def b334n0 : Obj := ⟨.none, none, .fields #[], #[]⟩
noncomputable def o335 : Obj := pick (x := mkF s32 (Str.ofString "_law_tree") 0 [] .none .none .none .none none .none .none 0 .none none #[]) _ (by conv => lhs; whnf)
noncomputable def b336n0 : Obj := ⟨(.type "code"), none, .fields #[(.str (Str.ofString "_law_tree") 629), (.str (Str.ofString "_law_tree") 630), (.str (Str.ofString "/claim/cut.py") 631), (.int 248 0), (.int 1 0), (.int 0 0), (.int 0 0), (.int 3 0), (.ref 333), (.bool true), (.int 181 0), (.ref 334), .none, .none, .none, (.ref 335), (.int 632 0), (.int 248 0), (.str (Str.ofString "/claim/cut.py") 633)], #[]⟩
noncomputable def b338n0 : Obj := ⟨(.type "tuple"), none, .seq #[] 0, #[]⟩
noncomputable def b339n0 : Obj := ⟨.none, none, .fields #[], #[]⟩
noncomputable def b340n0 : Obj := ⟨(.type "tuple"), none, .seq #[(.str (Str.ofString "kind") 638), (.str (Str.ofString "text") 639)] 0, #[]⟩
noncomputable def b341n0 : Obj := ⟨(.type "tuple"), none, .seq #[] 0, #[]⟩
noncomputable def o342 : Obj := pick (x := mkF s33 (Str.ofString "_law_leaf") 0 [] .none .none .none .none none .none .none 0 .none none #[]) _ (by conv => lhs; whnf)
noncomputable def b343n0 : Obj := ⟨(.type "code"), none, .fields #[(.str (Str.ofString "_law_leaf") 635), (.str (Str.ofString "_law_leaf") 636), (.str (Str.ofString "/claim/cut.py") 637), (.int 253 0), (.int 2 0), (.int 0 0), (.int 0 0), (.int 3 0), (.ref 338), (.bool true), (.int 181 0), (.ref 339), .none, (.ref 340), (.ref 341), (.ref 342), (.int 640 0), (.int 253 0), (.str (Str.ofString "/claim/cut.py") 641)], #[]⟩
noncomputable def b345n0 : Obj := ⟨(.type "tuple"), none, .seq #[] 0, #[]⟩
noncomputable def b346n0 : Obj := ⟨.none, none, .fields #[], #[]⟩
noncomputable def o347 : Obj := pick (x := mkF s34 (Str.ofString "_law_page") 0 [] .none .none .none .none none .none .none 0 .none none #[]) _ (by conv => lhs; whnf)
noncomputable def b348n0 : Obj := ⟨(.type "code"), none, .fields #[(.str (Str.ofString "_law_page") 643), (.str (Str.ofString "_law_page") 644), (.str (Str.ofString "/claim/cut.py") 645), (.int 257 0), (.int 1 0), (.int 0 0), (.int 0 0), (.int 3 0), (.ref 345), (.bool true), (.int 181 0), (.ref 346), .none, .none, .none, (.ref 347), (.int 646 0), (.int 257 0), (.str (Str.ofString "/claim/cut.py") 647)], #[]⟩
noncomputable def b350n0 : Obj := ⟨(.type "tuple"), none, .seq #[] 0, #[]⟩
noncomputable def b351n0 : Obj := ⟨.none, none, .fields #[], #[]⟩
noncomputable def o352 : Obj := pick (x := mkF s35 (Str.ofString "_law_fault") 0 [] .none .none .none .none none .none .none 0 .none none #[]) _ (by conv => lhs; whnf)
noncomputable def b353n0 : Obj := ⟨(.type "code"), none, .fields #[(.str (Str.ofString "_law_fault") 649), (.str (Str.ofString "_law_fault") 650), (.str (Str.ofString "/claim/cut.py") 651), (.int 262 0), (.int 1 0), (.int 0 0), (.int 0 0), (.int 3 0), (.ref 350), (.bool true), (.int 181 0), (.ref 351), .none, .none, .none, (.ref 352), (.int 652 0), (.int 262 0), (.str (Str.ofString "/claim/cut.py") 653)], #[]⟩
noncomputable def b355n0 : Obj := ⟨(.type "tuple"), none, .seq #[] 0, #[]⟩
noncomputable def b356n0 : Obj := ⟨.none, none, .fields #[], #[]⟩
noncomputable def b357n0 : Obj := ⟨(.type "tuple"), none, .seq #[(.str (Str.ofString "script") 658), (.str (Str.ofString "box") 659), (.str (Str.ofString "value") 660), (.str (Str.ofString "shown") 661), (.str (Str.ofString "node") 662), (.str (Str.ofString "kind") 663), (.str (Str.ofString "text") 664)] 0, #[]⟩
noncomputable def b358n0 : Obj := ⟨(.type "tuple"), none, .seq #[] 0, #[]⟩
noncomputable def o359 : Obj := pick (x := mkF s36 (Str.ofString "law") 0 [] .none .none .none .none none .none .none 0 .none none #[]) _ (by conv => lhs; whnf)
noncomputable def b360n0 : Obj := ⟨(.type "code"), none, .fields #[(.str (Str.ofString "law") 655), (.str (Str.ofString "law") 656), (.str (Str.ofString "/claim/cut.py") 657), (.int 276 0), (.int 1 0), (.int 0 0), (.int 0 0), (.int 3 0), (.ref 355), (.bool true), (.int 181 0), (.ref 356), .none, (.ref 357), (.ref 358), (.ref 359), (.int 665 0), (.int 276 0), (.str (Str.ofString "/claim/cut.py") 666)], #[]⟩
noncomputable def t0 (P : Params) : BT := (.node (boot_o_0 P) (.node (boot_o_1 P) (.node (boot_o_3 P) (.node (boot_o_7 P) .nil .nil) (.node b11n0 .nil .nil)) (.node (boot_o_5 P) (.node (boot_o_9 P) .nil .nil) (.node b13n0 .nil .nil))) (.node (boot_o_2 P) (.node (boot_o_4 P) (.node (boot_o_8 P) .nil .nil) (.node b12n0 .nil .nil)) (.node (boot_o_6 P) (.node (boot_o_10 P) .nil .nil) (.node b14n0 .nil .nil))))
noncomputable abbrev S0 (w : World) (os : OsState) : SharedT := ⟨t0 w.params, nat_lit 15, {}, Array.mk [], {}, nat_lit 187, os⟩
noncomputable def t1 (P : Params) : BT := (.node (boot_o_0 P) (.node (boot_o_1 P) (.node (b3n0 P) (.node (boot_o_7 P) (.node b15n0 (.node b31n0 .nil .nil) (.node b47n0 .nil .nil)) (.node b23n0 (.node b39n0 .nil .nil) .nil)) (.node b11n0 (.node o19 (.node o35 .nil .nil) .nil) (.node b27n0 (.node b43n0 .nil .nil) .nil))) (.node (boot_o_5 P) (.node (boot_o_9 P) (.node b17n0 (.node o33 .nil .nil) (.node b49n0 .nil .nil)) (.node b25n0 (.node b41n0 .nil .nil) .nil)) (.node b13n0 (.node o21 (.node b37n0 .nil .nil) .nil) (.node b29n0 (.node b45n0 .nil .nil) .nil)))) (.node (boot_o_2 P) (.node (boot_o_4 P) (.node (boot_o_8 P) (.node b16n0 (.node b32n0 .nil .nil) (.node b48n0 .nil .nil)) (.node (b24n0 P) (.node o40 .nil .nil) .nil)) (.node b12n1 (.node b20n0 (.node b36n0 .nil .nil) .nil) (.node b28n0 (.node (b44n0 P) .nil .nil) .nil))) (.node (boot_o_6 P) (.node (boot_o_10 P) (.node b18n0 (.node b34n0 .nil .nil) .nil) (.node b26n0 (.node o42 .nil .nil) .nil)) (.node b14n0 (.node b22n0 (.node b38n0 .nil .nil) .nil) (.node b30n0 (.node b46n0 .nil .nil) .nil)))))
noncomputable abbrev S1 (w : World) (os : OsState) : SharedT := ⟨t1 w.params, nat_lit 50, {}, Array.mk [], {}, nat_lit 236, os⟩
noncomputable def t2 (P : Params) : BT := (.node (boot_o_0 P) (.node (boot_o_1 P) (.node (b3n1 P) (.node (boot_o_7 P) (.node b15n0 (.node b31n0 (.node b63n0 .nil .nil) (.node b95n0 .nil .nil)) (.node b47n0 (.node b79n0 .nil .nil) .nil)) (.node b23n0 (.node b39n0 (.node o71 .nil .nil) (.node b103n0 .nil .nil)) (.node b55n0 (.node b87n0 .nil .nil) .nil))) (.node b11n0 (.node o19 (.node o35 (.node b67n0 .nil .nil) (.node o99 .nil .nil)) (.node b51n0 (.node b83n0 .nil .nil) .nil)) (.node b27n0 (.node b43n0 (.node b75n0 .nil .nil) .nil) (.node b59n0 (.node b91n0 .nil .nil) .nil)))) (.node (boot_o_5 P) (.node (boot_o_9 P) (.node b17n0 (.node o33 (.node b65n0 .nil .nil) (.node o97 .nil .nil)) (.node b49n0 (.node b81n0 .nil .nil) .nil)) (.node b25n0 (.node b41n0 (.node b73n0 .nil .nil) .nil) (.node b57n0 (.node b89n0 .nil .nil) .nil))) (.node b13n0 (.node o21 (.node b37n0 (.node o69 .nil .nil) (.node b101n0 .nil .nil)) (.node b53n0 (.node b85n0 .nil .nil) .nil)) (.node b29n0 (.node b45n0 (.node b77n0 .nil .nil) .nil) (.node b61n0 (.node b93n0 .nil .nil) .nil))))) (.node (boot_o_2 P) (.node (boot_o_4 P) (.node (boot_o_8 P) (.node b16n0 (.node b32n0 (.node o64 .nil .nil) (.node b96n0 .nil .nil)) (.node b48n0 (.node (b80n0 P) .nil .nil) .nil)) (.node (b24n0 P) (.node o40 (.node b72n0 .nil .nil) (.node o104 .nil .nil)) (.node b56n0 (.node b88n0 .nil .nil) .nil))) (.node b12n2 (.node b20n0 (.node b36n0 (.node b68n0 .nil .nil) (.node b100n0 .nil .nil)) (.node (b52n0 P) (.node b84n0 .nil .nil) .nil)) (.node b28n0 (.node (b44n0 P) (.node o76 .nil .nil) .nil) (.node b60n0 (.node o92 .nil .nil) .nil)))) (.node (boot_o_6 P) (.node (boot_o_10 P) (.node b18n0 (.node b34n0 (.node b66n0 .nil .nil) (.node b98n0 .nil .nil)) (.node b50n0 (.node b82n0 .nil .nil) .nil)) (.node b26n0 (.node o42 (.node b74n0 .nil .nil) .nil) (.node b58n0 (.node o90 .nil .nil) .nil))) (.node b14n0 (.node b22n0 (.node b38n0 (.node b70n0 .nil .nil) (.node o102 .nil .nil)) (.node b54n0 (.node b86n0 .nil .nil) .nil)) (.node b30n0 (.node b46n0 (.node o78 .nil .nil) .nil) (.node o62 (.node b94n0 .nil .nil) .nil))))))
noncomputable abbrev S2 (w : World) (os : OsState) : SharedT := ⟨t2 w.params, nat_lit 105, {}, Array.mk [], {}, nat_lit 310, os⟩
noncomputable def t3 (P : Params) : BT := (.node (boot_o_0 P) (.node (boot_o_1 P) (.node (b3n2 P) (.node (boot_o_7 P) (.node b15n0 (.node b31n0 (.node b63n0 (.node b127n0 .nil .nil) .nil) (.node b95n0 (.node b159n0 .nil .nil) .nil)) (.node b47n0 (.node b79n0 (.node b143n0 .nil .nil) .nil) (.node b111n0 .nil .nil))) (.node b23n0 (.node b39n0 (.node o71 (.node b135n0 .nil .nil) .nil) (.node b103n0 (.node (b167n0 P) .nil .nil) .nil)) (.node b55n0 (.node b87n0 (.node o151 .nil .nil) .nil) (.node b119n0 .nil .nil)))) (.node b11n0 (.node o19 (.node o35 (.node b67n0 (.node b131n0 .nil .nil) .nil) (.node o99 (.node o163 .nil .nil) .nil)) (.node b51n0 (.node b83n0 (.node b147n0 .nil .nil) .nil) (.node b115n0 .nil .nil))) (.node b27n0 (.node b43n0 (.node b75n0 (.node o139 .nil .nil) .nil) (.node (b107n0 P) (.node b171n0 .nil .nil) .nil)) (.node b59n0 (.node b91n0 (.node b155n0 .nil .nil) .nil) (.node o123 .nil .nil))))) (.node (boot_o_5 P) (.node (boot_o_9 P) (.node b17n0 (.node o33 (.node b65n0 (.node b129n0 .nil .nil) .nil) (.node o97 (.node b161n0 .nil .nil) .nil)) (.node b49n0 (.node b81n0 (.node b145n0 .nil .nil) .nil) (.node b113n0 .nil .nil))) (.node b25n0 (.node b41n0 (.node b73n0 (.node o137 .nil .nil) .nil) (.node b105n0 (.node b169n0 .nil .nil) .nil)) (.node b57n0 (.node b89n0 (.node b153n0 .nil .nil) .nil) (.node b121n0 .nil .nil)))) (.node b13n0 (.node o21 (.node b37n0 (.node o69 (.node b133n0 .nil .nil) .nil) (.node b101n0 (.node o165 .nil .nil) .nil)) (.node b53n0 (.node b85n0 (.node o149 .nil .nil) .nil) (.node b117n0 .nil .nil))) (.node b29n0 (.node b45n0 (.node b77n0 (.node b141n0 .nil .nil) .nil) (.node b109n0 .nil .nil)) (.node b61n0 (.node b93n0 (.node b157n0 .nil .nil) .nil) (.node o125 .nil .nil)))))) (.node (boot_o_2 P) (.node (boot_o_4 P) (.node (boot_o_8 P) (.node b16n0 (.node b32n0 (.node o64 (.node b128n0 .nil .nil) .nil) (.node b96n0 (.node b160n0 .nil .nil) .nil)) (.node b48n0 (.node (b80n0 P) (.node o144 .nil .nil) .nil) (.node b112n0 .nil .nil))) (.node (b24n0 P) (.node o40 (.node b72n0 (.node b136n0 .nil .nil) .nil) (.node o104 (.node b168n0 .nil .nil) .nil)) (.node b56n0 (.node b88n0 (.node b152n0 .nil .nil) .nil) (.node b120n0 .nil .nil)))) (.node b12n3 (.node b20n0 (.node b36n0 (.node b68n0 (.node o132 .nil .nil) .nil) (.node b100n0 (.node b164n0 .nil .nil) .nil)) (.node (b52n0 P) (.node b84n0 (.node b148n0 .nil .nil) .nil) (.node o116 .nil .nil))) (.node b28n0 (.node (b44n0 P) (.node o76 (.node b140n0 .nil .nil) .nil) (.node b108n0 (.node b172n0 .nil .nil) .nil)) (.node b60n0 (.node o92 (.node o156 .nil .nil) .nil) (.node b124n0 .nil .nil))))) (.node (boot_o_6 P) (.node (boot_o_10 P) (.node b18n0 (.node b34n0 (.node b66n0 (.node o130 .nil .nil) .nil) (.node b98n0 (.node b162n0 .nil .nil) .nil)) (.node b50n0 (.node b82n0 (.node b146n0 .nil .nil) .nil) (.node b114n0 .nil .nil))) (.node b26n0 (.node o42 (.node b74n0 (.node b138n0 .nil .nil) .nil) (.node b106n0 (.node b170n0 .nil .nil) .nil)) (.node b58n0 (.node o90 (.node b154n0 .nil .nil) .nil) (.node b122n0 .nil .nil)))) (.node b14n0 (.node b22n0 (.node b38n0 (.node b70n0 (.node b134n0 .nil .nil) .nil) (.node o102 (.node b166n0 .nil .nil) .nil)) (.node b54n0 (.node b86n0 (.node b150n0 .nil .nil) .nil) (.node o118 .nil .nil))) (.node b30n0 (.node b46n0 (.node o78 (.node o142 .nil .nil) .nil) (.node b110n0 .nil .nil)) (.node o62 (.node b94n0 (.node o158 .nil .nil) .nil) (.node b126n0 .nil .nil)))))))
noncomputable abbrev S3 (w : World) (os : OsState) : SharedT := ⟨t3 w.params, nat_lit 173, {}, Array.mk [], {}, nat_lit 394, os⟩
noncomputable def t4 (P : Params) : BT := (.node (boot_o_0 P) (.node (boot_o_1 P) (.node (b3n3 P) (.node (boot_o_7 P) (.node b15n0 (.node b31n0 (.node b63n0 (.node b127n0 .nil .nil) (.node o191 .nil .nil)) (.node b95n0 (.node b159n0 .nil .nil) (.node b223n0 .nil .nil))) (.node b47n0 (.node b79n0 (.node b143n0 .nil .nil) (.node b207n0 .nil .nil)) (.node b111n0 (.node (b175n0 P) .nil .nil) .nil))) (.node b23n0 (.node b39n0 (.node o71 (.node b135n0 .nil .nil) (.node b199n0 .nil .nil)) (.node b103n0 (.node (b167n0 P) .nil .nil) (.node b231n0 .nil .nil))) (.node b55n0 (.node b87n0 (.node o151 .nil .nil) (.node o215 .nil .nil)) (.node b119n0 (.node b183n0 .nil .nil) .nil)))) (.node b11n0 (.node o19 (.node o35 (.node b67n0 (.node b131n0 .nil .nil) (.node b195n0 .nil .nil)) (.node o99 (.node o163 .nil .nil) (.node o227 .nil .nil))) (.node b51n0 (.node b83n0 (.node b147n0 .nil .nil) (.node b211n0 .nil .nil)) (.node b115n0 (.node b179n0 .nil .nil) .nil))) (.node b27n0 (.node b43n0 (.node b75n0 (.node o139 .nil .nil) (.node b203n0 .nil .nil)) (.node (b107n0 P) (.node b171n0 .nil .nil) (.node b235n0 .nil .nil))) (.node b59n0 (.node b91n0 (.node b155n0 .nil .nil) (.node b219n0 .nil .nil)) (.node o123 (.node b187n0 .nil .nil) .nil))))) (.node (boot_o_5 P) (.node (boot_o_9 P) (.node b17n0 (.node o33 (.node b65n0 (.node b129n0 .nil .nil) (.node o193 .nil .nil)) (.node o97 (.node b161n0 .nil .nil) (.node b225n0 .nil .nil))) (.node b49n0 (.node b81n0 (.node b145n0 .nil .nil) (.node b209n0 .nil .nil)) (.node b113n0 (.node b177n0 .nil .nil) .nil))) (.node b25n0 (.node b41n0 (.node b73n0 (.node o137 .nil .nil) (.node b201n0 .nil .nil)) (.node b105n0 (.node b169n0 .nil .nil) (.node b233n0 .nil .nil))) (.node b57n0 (.node b89n0 (.node b153n0 .nil .nil) (.node o217 .nil .nil)) (.node b121n0 (.node b185n0 .nil .nil) .nil)))) (.node b13n0 (.node o21 (.node b37n0 (.node o69 (.node b133n0 .nil .nil) (.node b197n0 .nil .nil)) (.node b101n0 (.node o165 .nil .nil) (.node o229 .nil .nil))) (.node b53n0 (.node b85n0 (.node o149 .nil .nil) (.node b213n0 .nil .nil)) (.node b117n0 (.node b181n0 .nil .nil) .nil))) (.node b29n0 (.node b45n0 (.node b77n0 (.node b141n0 .nil .nil) (.node b205n0 .nil .nil)) (.node b109n0 (.node b173n0 .nil .nil) .nil)) (.node b61n0 (.node b93n0 (.node b157n0 .nil .nil) (.node b221n0 .nil .nil)) (.node o125 (.node b189n0 .nil .nil) .nil)))))) (.node (boot_o_2 P) (.node (boot_o_4 P) (.node (boot_o_8 P) (.node b16n0 (.node b32n0 (.node o64 (.node b128n0 .nil .nil) (.node b192n0 .nil .nil)) (.node b96n0 (.node b160n0 .nil .nil) (.node o224 .nil .nil))) (.node b48n0 (.node (b80n0 P) (.node o144 .nil .nil) (.node b208n0 .nil .nil)) (.node b112n0 (.node b176n0 .nil .nil) .nil))) (.node (b24n0 P) (.node o40 (.node b72n0 (.node b136n0 .nil .nil) (.node o200 .nil .nil)) (.node o104 (.node b168n1 .nil .nil) (.node b232n0 .nil .nil))) (.node b56n0 (.node b88n0 (.node b152n0 .nil .nil) (.node b216n0 .nil .nil)) (.node b120n0 (.node o184 .nil .nil) .nil)))) (.node b12n4 (.node b20n0 (.node b36n0 (.node b68n0 (.node o132 .nil .nil) (.node b196n0 .nil .nil)) (.node b100n0 (.node b164n0 .nil .nil) (.node b228n0 .nil .nil))) (.node (b52n0 P) (.node b84n0 (.node b148n0 .nil .nil) (.node o212 .nil .nil)) (.node o116 (.node b180n0 .nil .nil) .nil))) (.node b28n0 (.node (b44n0 P) (.node o76 (.node b140n0 .nil .nil) (.node b204n0 .nil .nil)) (.node b108n0 (.node b172n0 .nil .nil) (.node o236 .nil .nil))) (.node b60n0 (.node o92 (.node o156 .nil .nil) (.node b220n0 .nil .nil)) (.node b124n0 (.node b188n0 .nil .nil) .nil))))) (.node (boot_o_6 P) (.node (boot_o_10 P) (.node b18n0 (.node b34n0 (.node b66n0 (.node o130 .nil .nil) (.node b194n0 .nil .nil)) (.node b98n0 (.node b162n0 .nil .nil) (.node b226n0 .nil .nil))) (.node b50n0 (.node b82n0 (.node b146n0 .nil .nil) (.node o210 .nil .nil)) (.node b114n0 (.node b178n0 .nil .nil) .nil))) (.node b26n0 (.node o42 (.node b74n0 (.node b138n0 .nil .nil) (.node (b202n0 P) .nil .nil)) (.node b106n0 (.node b170n0 .nil .nil) (.node o234 .nil .nil))) (.node b58n0 (.node o90 (.node b154n0 .nil .nil) (.node b218n0 .nil .nil)) (.node b122n0 (.node o186 .nil .nil) .nil)))) (.node b14n0 (.node b22n0 (.node b38n0 (.node b70n0 (.node b134n0 .nil .nil) (.node o198 .nil .nil)) (.node o102 (.node b166n0 .nil .nil) (.node b230n0 .nil .nil))) (.node b54n0 (.node b86n0 (.node b150n0 .nil .nil) (.node b214n0 .nil .nil)) (.node o118 (.node b182n0 .nil .nil) .nil))) (.node b30n0 (.node b46n0 (.node o78 (.node o142 .nil .nil) (.node b206n0 .nil .nil)) (.node b110n0 (.node b174n0 .nil .nil) .nil)) (.node o62 (.node b94n0 (.node o158 .nil .nil) (.node o222 .nil .nil)) (.node b126n0 (.node b190n0 .nil .nil) .nil)))))))
noncomputable abbrev S4 (w : World) (os : OsState) : SharedT := ⟨t4 w.params, nat_lit 237, {}, Array.mk [], {}, nat_lit 484, os⟩
noncomputable def t5 (P : Params) : BT := (.node (boot_o_0 P) (.node (boot_o_1 P) (.node (b3n4 P) (.node (boot_o_7 P) (.node b15n0 (.node b31n0 (.node b63n0 (.node b127n0 (.node b255n0 .nil .nil) .nil) (.node o191 .nil .nil)) (.node b95n0 (.node b159n0 .nil .nil) (.node b223n0 .nil .nil))) (.node b47n0 (.node b79n0 (.node b143n0 (.node b271n0 .nil .nil) .nil) (.node b207n0 .nil .nil)) (.node b111n0 (.node (b175n0 P) .nil .nil) (.node (b239n0 P) .nil .nil)))) (.node b23n0 (.node b39n0 (.node o71 (.node b135n0 (.node o263 .nil .nil) .nil) (.node b199n0 .nil .nil)) (.node b103n0 (.node (b167n0 P) .nil .nil) (.node b231n0 .nil .nil))) (.node b55n0 (.node b87n0 (.node o151 (.node b279n0 .nil .nil) .nil) (.node o215 .nil .nil)) (.node b119n0 (.node b183n0 .nil .nil) (.node b247n0 .nil .nil))))) (.node b11n0 (.node o19 (.node o35 (.node b67n0 (.node b131n0 (.node b259n0 .nil .nil) .nil) (.node b195n0 .nil .nil)) (.node o99 (.node o163 .nil .nil) (.node o227 .nil .nil))) (.node b51n0 (.node b83n0 (.node b147n0 (.node o275 .nil .nil) .nil) (.node b211n0 .nil .nil)) (.node b115n0 (.node b179n0 .nil .nil) (.node b243n0 .nil .nil)))) (.node b27n0 (.node b43n0 (.node b75n0 (.node o139 (.node (b267n0 P) .nil .nil) .nil) (.node b203n0 .nil .nil)) (.node (b107n0 P) (.node b171n0 .nil .nil) (.node b235n0 .nil .nil))) (.node b59n0 (.node b91n0 (.node b155n0 (.node b283n0 .nil .nil) .nil) (.node b219n0 .nil .nil)) (.node o123 (.node b187n0 .nil .nil) (.node o251 .nil .nil)))))) (.node (boot_o_5 P) (.node (boot_o_9 P) (.node b17n0 (.node o33 (.node b65n0 (.node b129n0 (.node b257n0 .nil .nil) .nil) (.node o193 .nil .nil)) (.node o97 (.node b161n0 .nil .nil) (.node b225n0 .nil .nil))) (.node b49n0 (.node b81n0 (.node b145n0 (.node b273n0 .nil .nil) .nil) (.node b209n0 .nil .nil)) (.node b113n0 (.node b177n0 .nil .nil) (.node b241n0 .nil .nil)))) (.node b25n0 (.node b41n0 (.node b73n0 (.node o137 (.node o265 .nil .nil) .nil) (.node b201n0 .nil .nil)) (.node b105n0 (.node b169n0 .nil .nil) (.node b233n0 .nil .nil))) (.node b57n0 (.node b89n0 (.node b153n0 (.node b281n0 .nil .nil) .nil) (.node o217 .nil .nil)) (.node b121n0 (.node b185n0 .nil .nil) (.node o249 .nil .nil))))) (.node b13n0 (.node o21 (.node b37n0 (.node o69 (.node b133n0 (.node b261n0 .nil .nil) .nil) (.node b197n0 .nil .nil)) (.node b101n0 (.node o165 .nil .nil) (.node o229 .nil .nil))) (.node b53n0 (.node b85n0 (.node o149 (.node o277 .nil .nil) .nil) (.node b213n0 .nil .nil)) (.node b117n0 (.node b181n0 .nil .nil) (.node b245n0 .nil .nil)))) (.node b29n0 (.node b45n0 (.node b77n0 (.node b141n0 (.node b269n0 .nil .nil) .nil) (.node b205n0 .nil .nil)) (.node b109n0 (.node b173n0 .nil .nil) (.node b237n0 .nil .nil))) (.node b61n0 (.node b93n0 (.node b157n0 (.node b285n0 .nil .nil) .nil) (.node b221n0 .nil .nil)) (.node o125 (.node b189n0 .nil .nil) (.node b253n0 .nil .nil))))))) (.node (boot_o_2 P) (.node (boot_o_4 P) (.node (boot_o_8 P) (.node b16n0 (.node b32n0 (.node o64 (.node b128n0 (.node o256 .nil .nil) .nil) (.node b192n0 .nil .nil)) (.node b96n0 (.node b160n0 .nil .nil) (.node o224 .nil .nil))) (.node b48n0 (.node (b80n0 P) (.node o144 (.node b272n0 .nil .nil) .nil) (.node b208n0 .nil .nil)) (.node b112n0 (.node b176n0 .nil .nil) (.node b240n0 .nil .nil)))) (.node (b24n0 P) (.node o40 (.node b72n0 (.node b136n0 (.node b264n0 .nil .nil) .nil) (.node o200 .nil .nil)) (.node o104 (.node b168n1 .nil .nil) (.node b232n0 .nil .nil))) (.node b56n0 (.node b88n0 (.node b152n0 (.node b280n0 .nil .nil) .nil) (.node b216n0 .nil .nil)) (.node b120n0 (.node o184 .nil .nil) (.node b248n0 .nil .nil))))) (.node b12n5 (.node b20n0 (.node b36n0 (.node b68n0 (.node o132 (.node b260n0 .nil .nil) .nil) (.node b196n0 .nil .nil)) (.node b100n0 (.node b164n0 .nil .nil) (.node b228n0 .nil .nil))) (.node (b52n0 P) (.node b84n0 (.node b148n0 (.node b276n0 .nil .nil) .nil) (.node o212 .nil .nil)) (.node o116 (.node b180n0 .nil .nil) (.node b244n0 .nil .nil)))) (.node b28n0 (.node (b44n0 P) (.node o76 (.node b140n0 (.node b268n0 .nil .nil) .nil) (.node b204n0 .nil .nil)) (.node b108n0 (.node b172n0 .nil .nil) (.node o236 .nil .nil))) (.node b60n0 (.node o92 (.node o156 (.node o284 .nil .nil) .nil) (.node b220n0 .nil .nil)) (.node b124n0 (.node b188n0 .nil .nil) (.node b252n0 .nil .nil)))))) (.node (boot_o_6 P) (.node (boot_o_10 P) (.node b18n0 (.node b34n0 (.node b66n0 (.node o130 (.node o258 .nil .nil) .nil) (.node b194n0 .nil .nil)) (.node b98n0 (.node b162n0 .nil .nil) (.node b226n0 .nil .nil))) (.node b50n0 (.node b82n0 (.node b146n0 (.node b274n0 .nil .nil) .nil) (.node o210 .nil .nil)) (.node b114n0 (.node b178n0 .nil .nil) (.node b242n0 .nil .nil)))) (.node b26n0 (.node o42 (.node b74n0 (.node b138n0 (.node b266n0 .nil .nil) .nil) (.node (b202n0 P) .nil .nil)) (.node b106n0 (.node b170n0 .nil .nil) (.node o234 .nil .nil))) (.node b58n0 (.node o90 (.node b154n0 (.node o282 .nil .nil) .nil) (.node b218n0 .nil .nil)) (.node b122n0 (.node o186 .nil .nil) (.node b250n0 .nil .nil))))) (.node b14n0 (.node b22n0 (.node b38n0 (.node b70n0 (.node b134n0 (.node b262n0 .nil .nil) .nil) (.node o198 .nil .nil)) (.node o102 (.node b166n0 .nil .nil) (.node b230n0 .nil .nil))) (.node b54n0 (.node b86n0 (.node b150n0 (.node b278n0 .nil .nil) .nil) (.node b214n0 .nil .nil)) (.node o118 (.node b182n0 .nil .nil) (.node b246n0 .nil .nil)))) (.node b30n0 (.node b46n0 (.node o78 (.node o142 (.node b270n0 .nil .nil) .nil) (.node b206n0 .nil .nil)) (.node b110n0 (.node b174n0 .nil .nil) (.node b238n0 .nil .nil))) (.node o62 (.node b94n0 (.node o158 (.node b286n0 .nil .nil) .nil) (.node o222 .nil .nil)) (.node b126n0 (.node b190n0 .nil .nil) (.node b254n0 .nil .nil))))))))
noncomputable abbrev S5 (w : World) (os : OsState) : SharedT := ⟨t5 w.params, nat_lit 287, {}, Array.mk [], {}, nat_lit 568, os⟩
noncomputable def t6 (P : Params) : BT := (.node (boot_o_0 P) (.node (boot_o_1 P) (.node (b3n5 P) (.node (boot_o_7 P) (.node b15n0 (.node b31n0 (.node b63n0 (.node b127n0 (.node b255n0 .nil .nil) .nil) (.node o191 (.node b319n0 .nil .nil) .nil)) (.node b95n0 (.node b159n0 (.node b287n0 .nil .nil) .nil) (.node b223n0 (.node b351n0 .nil .nil) .nil))) (.node b47n0 (.node b79n0 (.node b143n0 (.node b271n0 .nil .nil) .nil) (.node b207n0 (.node o335 .nil .nil) .nil)) (.node b111n0 (.node (b175n0 P) (.node o303 .nil .nil) .nil) (.node (b239n0 P) .nil .nil)))) (.node b23n0 (.node b39n0 (.node o71 (.node b135n0 (.node o263 .nil .nil) .nil) (.node b199n0 (.node o327 .nil .nil) .nil)) (.node b103n0 (.node (b167n0 P) (.node b295n0 .nil .nil) .nil) (.node b231n0 (.node o359 .nil .nil) .nil))) (.node b55n0 (.node b87n0 (.node o151 (.node b279n0 .nil .nil) .nil) (.node o215 (.node b343n0 .nil .nil) .nil)) (.node b119n0 (.node b183n0 (.node b311n0 .nil .nil) .nil) (.node b247n0 .nil .nil))))) (.node b11n0 (.node o19 (.node o35 (.node b67n0 (.node b131n0 (.node b259n0 .nil .nil) .nil) (.node b195n0 (.node b323n0 .nil .nil) .nil)) (.node o99 (.node o163 (.node o291 .nil .nil) .nil) (.node o227 (.node b355n0 .nil .nil) .nil))) (.node b51n0 (.node b83n0 (.node b147n0 (.node o275 .nil .nil) .nil) (.node b211n0 (.node b339n0 .nil .nil) .nil)) (.node b115n0 (.node b179n0 (.node b307n0 .nil .nil) .nil) (.node b243n0 .nil .nil)))) (.node b27n0 (.node b43n0 (.node b75n0 (.node o139 (.node (b267n0 P) .nil .nil) .nil) (.node b203n0 (.node b331n0 .nil .nil) .nil)) (.node (b107n0 P) (.node b171n0 (.node b299n0 .nil .nil) .nil) (.node b235n0 .nil .nil))) (.node b59n0 (.node b91n0 (.node b155n0 (.node b283n0 .nil .nil) .nil) (.node b219n0 (.node o347 .nil .nil) .nil)) (.node o123 (.node b187n0 (.node o315 .nil .nil) .nil) (.node o251 .nil .nil)))))) (.node (boot_o_5 P) (.node (boot_o_9 P) (.node b17n0 (.node o33 (.node b65n0 (.node b129n0 (.node b257n0 .nil .nil) .nil) (.node o193 (.node b321n0 .nil .nil) .nil)) (.node o97 (.node b161n0 (.node b289n0 .nil .nil) .nil) (.node b225n0 (.node b353n0 .nil .nil) .nil))) (.node b49n0 (.node b81n0 (.node b145n0 (.node b273n0 .nil .nil) .nil) (.node b209n0 (.node o337 .nil .nil) .nil)) (.node b113n0 (.node b177n0 (.node b305n0 .nil .nil) .nil) (.node b241n0 .nil .nil)))) (.node b25n0 (.node b41n0 (.node b73n0 (.node o137 (.node o265 .nil .nil) .nil) (.node b201n0 (.node b329n0 .nil .nil) .nil)) (.node b105n0 (.node b169n0 (.node b297n0 .nil .nil) .nil) (.node b233n0 (.node o361 .nil .nil) .nil))) (.node b57n0 (.node b89n0 (.node b153n0 (.node b281n0 .nil .nil) .nil) (.node o217 (.node b345n0 .nil .nil) .nil)) (.node b121n0 (.node b185n0 (.node o313 .nil .nil) .nil) (.node o249 .nil .nil))))) (.node b13n0 (.node o21 (.node b37n0 (.node o69 (.node b133n0 (.node b261n0 .nil .nil) .nil) (.node b197n0 (.node o325 .nil .nil) .nil)) (.node b101n0 (.node o165 (.node o293 .nil .nil) .nil) (.node o229 (.node b357n0 .nil .nil) .nil))) (.node b53n0 (.node b85n0 (.node o149 (.node o277 .nil .nil) .nil) (.node b213n0 (.node b341n0 .nil .nil) .nil)) (.node b117n0 (.node b181n0 (.node b309n0 .nil .nil) .nil) (.node b245n0 .nil .nil)))) (.node b29n0 (.node b45n0 (.node b77n0 (.node b141n0 (.node b269n0 .nil .nil) .nil) (.node b205n0 (.node b333n0 .nil .nil) .nil)) (.node b109n0 (.node b173n0 (.node o301 .nil .nil) .nil) (.node b237n0 .nil .nil))) (.node b61n0 (.node b93n0 (.node b157n0 (.node b285n0 .nil .nil) .nil) (.node b221n0 (.node o349 .nil .nil) .nil)) (.node o125 (.node b189n0 (.node b317n0 .nil .nil) .nil) (.node b253n0 .nil .nil))))))) (.node (boot_o_2 P) (.node (boot_o_4 P) (.node (boot_o_8 P) (.node b16n0 (.node b32n0 (.node o64 (.node b128n0 (.node o256 .nil .nil) .nil) (.node b192n0 (.node o320 .nil .nil) .nil)) (.node b96n0 (.node b160n0 (.node b288n0 .nil .nil) .nil) (.node o224 (.node o352 .nil .nil) .nil))) (.node b48n0 (.node (b80n0 P) (.node o144 (.node b272n0 .nil .nil) .nil) (.node b208n0 (.node b336n0 .nil .nil) .nil)) (.node b112n0 (.node b176n0 (.node b304n0 .nil .nil) .nil) (.node b240n0 .nil .nil)))) (.node (b24n0 P) (.node o40 (.node b72n0 (.node b136n0 (.node b264n0 .nil .nil) .nil) (.node o200 (.node b328n0 .nil .nil) .nil)) (.node o104 (.node b168n1 (.node o296 .nil .nil) .nil) (.node b232n0 (.node b360n0 .nil .nil) .nil))) (.node b56n0 (.node b88n0 (.node b152n0 (.node b280n0 .nil .nil) .nil) (.node b216n0 (.node o344 .nil .nil) .nil)) (.node b120n0 (.node o184 (.node b312n0 .nil .nil) .nil) (.node b248n0 .nil .nil))))) (.node b12n6 (.node b20n0 (.node b36n0 (.node b68n0 (.node o132 (.node b260n0 .nil .nil) .nil) (.node b196n0 (.node b324n0 .nil .nil) .nil)) (.node b100n0 (.node b164n0 (.node b292n0 .nil .nil) .nil) (.node b228n0 (.node b356n0 .nil .nil) .nil))) (.node (b52n0 P) (.node b84n0 (.node b148n0 (.node b276n0 .nil .nil) .nil) (.node o212 (.node b340n0 .nil .nil) .nil)) (.node o116 (.node b180n0 (.node o308 .nil .nil) .nil) (.node b244n0 .nil .nil)))) (.node b28n0 (.node (b44n0 P) (.node o76 (.node b140n0 (.node b268n0 .nil .nil) .nil) (.node b204n0 (.node o332 .nil .nil) .nil)) (.node b108n0 (.node b172n0 (.node b300n0 .nil .nil) .nil) (.node o236 .nil .nil))) (.node b60n0 (.node o92 (.node o156 (.node o284 .nil .nil) .nil) (.node b220n0 (.node b348n0 .nil .nil) .nil)) (.node b124n0 (.node b188n0 (.node b316n0 .nil .nil) .nil) (.node b252n0 .nil .nil)))))) (.node (boot_o_6 P) (.node (boot_o_10 P) (.node b18n0 (.node b34n0 (.node b66n0 (.node o130 (.node o258 .nil .nil) .nil) (.node b194n0 (.node b322n0 .nil .nil) .nil)) (.node b98n0 (.node b162n0 (.node b290n0 .nil .nil) .nil) (.node b226n0 (.node o354 .nil .nil) .nil))) (.node b50n0 (.node b82n0 (.node b146n0 (.node b274n0 .nil .nil) .nil) (.node o210 (.node b338n0 .nil .nil) .nil)) (.node b114n0 (.node b178n0 (.node o306 .nil .nil) .nil) (.node b242n0 .nil .nil)))) (.node b26n0 (.node o42 (.node b74n0 (.node b138n0 (.node b266n0 .nil .nil) .nil) (.node (b202n0 P) (.node o330 .nil .nil) .nil)) (.node b106n0 (.node b170n0 (.node o298 .nil .nil) .nil) (.node o234 .nil .nil))) (.node b58n0 (.node o90 (.node b154n0 (.node o282 .nil .nil) .nil) (.node b218n0 (.node b346n0 .nil .nil) .nil)) (.node b122n0 (.node o186 (.node b314n0 .nil .nil) .nil) (.node b250n0 .nil .nil))))) (.node b14n0 (.node b22n0 (.node b38n0 (.node b70n0 (.node b134n0 (.node b262n0 .nil .nil) .nil) (.node o198 (.node b326n0 .nil .nil) .nil)) (.node o102 (.node b166n0 (.node b294n0 .nil .nil) .nil) (.node b230n0 (.node b358n0 .nil .nil) .nil))) (.node b54n0 (.node b86n0 (.node b150n0 (.node b278n0 .nil .nil) .nil) (.node b214n0 (.node o342 .nil .nil) .nil)) (.node o118 (.node b182n0 (.node b310n0 .nil .nil) .nil) (.node b246n0 .nil .nil)))) (.node b30n0 (.node b46n0 (.node o78 (.node o142 (.node b270n0 .nil .nil) .nil) (.node b206n0 (.node b334n0 .nil .nil) .nil)) (.node b110n0 (.node b174n0 (.node b302n0 .nil .nil) .nil) (.node b238n0 .nil .nil))) (.node o62 (.node b94n0 (.node o158 (.node b286n0 .nil .nil) .nil) (.node o222 (.node b350n0 .nil .nil) .nil)) (.node b126n0 (.node b190n0 (.node o318 .nil .nil) .nil) (.node b254n0 .nil .nil))))))))
noncomputable abbrev S6 (w : World) (os : OsState) : SharedT := ⟨t6 w.params, nat_lit 362, {}, Array.mk [], {}, nat_lit 668, os⟩
noncomputable def H1L (P : Params) : List Obj := (boot_o_0 P) ::
  (boot_o_1 P) ::
  (boot_o_2 P) ::
  (b3n5 P) ::
  (boot_o_4 P) ::
  (boot_o_5 P) ::
  (boot_o_6 P) ::
  (boot_o_7 P) ::
  (boot_o_8 P) ::
  (boot_o_9 P) ::
  (boot_o_10 P) ::
  b11n0 ::
  b12n6 ::
  b13n0 ::
  b14n0 ::
  b15n0 ::
  b16n0 ::
  b17n0 ::
  b18n0 ::
  o19 ::
  b20n0 ::
  o21 ::
  b22n0 ::
  b23n0 ::
  (b24n0 P) ::
  b25n0 ::
  b26n0 ::
  b27n0 ::
  b28n0 ::
  b29n0 ::
  b30n0 ::
  b31n0 ::
  b32n0 ::
  o33 ::
  b34n0 ::
  o35 ::
  b36n0 ::
  b37n0 ::
  b38n0 ::
  b39n0 ::
  o40 ::
  b41n0 ::
  o42 ::
  b43n0 ::
  (b44n0 P) ::
  b45n0 ::
  b46n0 ::
  b47n0 ::
  b48n0 ::
  b49n0 ::
  b50n0 ::
  b51n0 ::
  (b52n0 P) ::
  b53n0 ::
  b54n0 ::
  b55n0 ::
  b56n0 ::
  b57n0 ::
  b58n0 ::
  b59n0 ::
  b60n0 ::
  b61n0 ::
  o62 ::
  b63n0 ::
  o64 ::
  b65n0 ::
  b66n0 ::
  b67n0 ::
  b68n0 ::
  o69 ::
  b70n0 ::
  o71 ::
  b72n0 ::
  b73n0 ::
  b74n0 ::
  b75n0 ::
  o76 ::
  b77n0 ::
  o78 ::
  b79n0 ::
  (b80n0 P) ::
  b81n0 ::
  b82n0 ::
  b83n0 ::
  b84n0 ::
  b85n0 ::
  b86n0 ::
  b87n0 ::
  b88n0 ::
  b89n0 ::
  o90 ::
  b91n0 ::
  o92 ::
  b93n0 ::
  b94n0 ::
  b95n0 ::
  b96n0 ::
  o97 ::
  b98n0 ::
  o99 ::
  b100n0 ::
  b101n0 ::
  o102 ::
  b103n0 ::
  o104 ::
  b105n0 ::
  b106n0 ::
  (b107n0 P) ::
  b108n0 ::
  b109n0 ::
  b110n0 ::
  b111n0 ::
  b112n0 ::
  b113n0 ::
  b114n0 ::
  b115n0 ::
  o116 ::
  b117n0 ::
  o118 ::
  b119n0 ::
  b120n0 ::
  b121n0 ::
  b122n0 ::
  o123 ::
  b124n0 ::
  o125 ::
  b126n0 ::
  b127n0 ::
  b128n0 ::
  b129n0 ::
  o130 ::
  b131n0 ::
  o132 ::
  b133n0 ::
  b134n0 ::
  b135n0 ::
  b136n0 ::
  o137 ::
  b138n0 ::
  o139 ::
  b140n0 ::
  b141n0 ::
  o142 ::
  b143n0 ::
  o144 ::
  b145n0 ::
  b146n0 ::
  b147n0 ::
  b148n0 ::
  o149 ::
  b150n0 ::
  o151 ::
  b152n0 ::
  b153n0 ::
  b154n0 ::
  b155n0 ::
  o156 ::
  b157n0 ::
  o158 ::
  b159n0 ::
  b160n0 ::
  b161n0 ::
  b162n0 ::
  o163 ::
  b164n0 ::
  o165 ::
  b166n0 ::
  (b167n0 P) ::
  b168n1 ::
  b169n0 ::
  b170n0 ::
  b171n0 ::
  b172n0 ::
  b173n0 ::
  b174n0 ::
  (b175n0 P) ::
  b176n0 ::
  b177n0 ::
  b178n0 ::
  b179n0 ::
  b180n0 ::
  b181n0 ::
  b182n0 ::
  b183n0 ::
  o184 ::
  b185n0 ::
  o186 ::
  b187n0 ::
  b188n0 ::
  b189n0 ::
  b190n0 ::
  o191 ::
  b192n0 ::
  o193 ::
  b194n0 ::
  b195n0 ::
  b196n0 ::
  b197n0 ::
  o198 ::
  b199n0 ::
  o200 ::
  b201n0 ::
  (b202n0 P) ::
  b203n0 ::
  b204n0 ::
  b205n0 ::
  b206n0 ::
  b207n0 ::
  b208n0 ::
  b209n0 ::
  o210 ::
  b211n0 ::
  o212 ::
  b213n0 ::
  b214n0 ::
  o215 ::
  b216n0 ::
  o217 ::
  b218n0 ::
  b219n0 ::
  b220n0 ::
  b221n0 ::
  o222 ::
  b223n0 ::
  o224 ::
  b225n0 ::
  b226n0 ::
  o227 ::
  b228n0 ::
  o229 ::
  b230n0 ::
  b231n0 ::
  b232n0 ::
  b233n0 ::
  o234 ::
  b235n0 ::
  o236 ::
  b237n0 ::
  b238n0 ::
  (b239n0 P) ::
  b240n0 ::
  b241n0 ::
  b242n0 ::
  b243n0 ::
  b244n0 ::
  b245n0 ::
  b246n0 ::
  b247n0 ::
  b248n0 ::
  o249 ::
  b250n0 ::
  o251 ::
  b252n0 ::
  b253n0 ::
  b254n0 ::
  b255n0 ::
  o256 ::
  b257n0 ::
  o258 ::
  b259n0 ::
  b260n0 ::
  b261n0 ::
  b262n0 ::
  o263 ::
  b264n0 ::
  o265 ::
  b266n0 ::
  (b267n0 P) ::
  b268n0 ::
  b269n0 ::
  b270n0 ::
  b271n0 ::
  b272n0 ::
  b273n0 ::
  b274n0 ::
  o275 ::
  b276n0 ::
  o277 ::
  b278n0 ::
  b279n0 ::
  b280n0 ::
  b281n0 ::
  o282 ::
  b283n0 ::
  o284 ::
  b285n0 ::
  b286n0 ::
  b287n0 ::
  b288n0 ::
  b289n0 ::
  b290n0 ::
  o291 ::
  b292n0 ::
  o293 ::
  b294n0 ::
  b295n0 ::
  o296 ::
  b297n0 ::
  o298 ::
  b299n0 ::
  b300n0 ::
  o301 ::
  b302n0 ::
  o303 ::
  b304n0 ::
  b305n0 ::
  o306 ::
  b307n0 ::
  o308 ::
  b309n0 ::
  b310n0 ::
  b311n0 ::
  b312n0 ::
  o313 ::
  b314n0 ::
  o315 ::
  b316n0 ::
  b317n0 ::
  o318 ::
  b319n0 ::
  o320 ::
  b321n0 ::
  b322n0 ::
  b323n0 ::
  b324n0 ::
  o325 ::
  b326n0 ::
  o327 ::
  b328n0 ::
  b329n0 ::
  o330 ::
  b331n0 ::
  o332 ::
  b333n0 ::
  b334n0 ::
  o335 ::
  b336n0 ::
  o337 ::
  b338n0 ::
  b339n0 ::
  b340n0 ::
  b341n0 ::
  o342 ::
  b343n0 ::
  o344 ::
  b345n0 ::
  b346n0 ::
  o347 ::
  b348n0 ::
  o349 ::
  b350n0 ::
  b351n0 ::
  o352 ::
  b353n0 ::
  o354 ::
  b355n0 ::
  b356n0 ::
  b357n0 ::
  b358n0 ::
  o359 ::
  b360n0 ::
  o361 :: []
noncomputable abbrev H1 (P : Params) : Heap := ⟨Array.mk (H1L P), {}⟩
noncomputable abbrev PG : Program := Challenge.pw_nn0356_01
noncomputable def EV : Env := { scope := PG.main.scope, locals := mainNs, globals := mainNs, cells := [], code := .ref 13, frame := some 14 }
noncomputable abbrev BL : List Stmt := behindTheImports PG
noncomputable abbrev CE : Code := .body BL EV
abbrev z0 : Pos := { line := 0, col := 0, endLine := 0, endCol := 0 }
abbrev q0 : Pos := { line := 0, col := 0, endLine := 0, endCol := 0 }
abbrev q1 : Pos := { line := 5, col := 0, endLine := 13, endCol := 39 }
abbrev q2 : Pos := { line := 43, col := 0, endLine := 43, endCol := 8 }
abbrev q3 : Pos := { line := 44, col := 0, endLine := 77, endCol := 16 }
abbrev q4 : Pos := { line := 125, col := 0, endLine := 125, endCol := 8 }
abbrev q5 : Pos := { line := 162, col := 0, endLine := 162, endCol := 10 }
abbrev q6 : Pos := { line := 276, col := 0, endLine := 289, endCol := 26 }
noncomputable abbrev g0 : List Stmt := (BL.drop 0).take 3
noncomputable abbrev g1 : List Stmt := (BL.drop 3).take 5
noncomputable abbrev g2 : List Stmt := (BL.drop 8).take 1
noncomputable abbrev g3 : List Stmt := (BL.drop 9).take 8
noncomputable abbrev g4 : List Stmt := (BL.drop 17).take 7
noncomputable abbrev g5 : List Stmt := (BL.drop 24).take 13
abbrev AN : Option Value := some (.ref 6)
theorem pq0 (w : World) : (fun os => PySem.W.Fast.tw10110043849684766642 PySem.W.Fast.tw14364793385576792824 PG w (nat_lit 11) AN (nat_lit 1) (nat_lit 296) (S0 w os) (piecesOf g0 EV CE q0 [topFrame z0])) = fun os => some (Flow.next, S1 w os, CE, q1) := by kernel_rfl
theorem pc0 (w : World) (os : OsState) : segRun treeTable PG w (nat_lit 11) AN (nat_lit 1) (nat_lit 296) (S0 w os).abs (piecesOf g0 EV CE q0 [topFrame z0]) = some (Flow.next, (S1 w os).abs, CE, q1) := segRun_of (by rw [PySem.W.Fast.te10110043849684766642, PySem.W.Fast.te14364793385576792824]; exact congrFun (pq0 w) os)
theorem pq1 (w : World) : (fun os => PySem.W.Fast.tw10110043849684766642 PySem.W.Fast.tw14364793385576792824 PG w (nat_lit 11) AN (nat_lit 1) (nat_lit 388) (S1 w os) (piecesOf g1 EV CE q1 [topFrame z0])) = fun os => some (Flow.next, S2 w os, CE, q2) := by kernel_rfl
theorem pc1 (w : World) (os : OsState) : segRun treeTable PG w (nat_lit 11) AN (nat_lit 1) (nat_lit 388) (S1 w os).abs (piecesOf g1 EV CE q1 [topFrame z0]) = some (Flow.next, (S2 w os).abs, CE, q2) := segRun_of (by rw [PySem.W.Fast.te10110043849684766642, PySem.W.Fast.te14364793385576792824]; exact congrFun (pq1 w) os)
theorem pq2 (w : World) : (fun os => PySem.W.Fast.tw10110043849684766642 PySem.W.Fast.tw14364793385576792824 PG w (nat_lit 11) AN (nat_lit 1) (nat_lit 444) (S2 w os) (piecesOf g2 EV CE q2 [topFrame z0])) = fun os => some (Flow.next, S3 w os, CE, q3) := by kernel_rfl
theorem pc2 (w : World) (os : OsState) : segRun treeTable PG w (nat_lit 11) AN (nat_lit 1) (nat_lit 444) (S2 w os).abs (piecesOf g2 EV CE q2 [topFrame z0]) = some (Flow.next, (S3 w os).abs, CE, q3) := segRun_of (by rw [PySem.W.Fast.te10110043849684766642, PySem.W.Fast.te14364793385576792824]; exact congrFun (pq2 w) os)
theorem pq3 (w : World) : (fun os => PySem.W.Fast.tw10110043849684766642 PySem.W.Fast.tw14364793385576792824 PG w (nat_lit 11) AN (nat_lit 1) (nat_lit 479) (S3 w os) (piecesOf g3 EV CE q3 [topFrame z0])) = fun os => some (Flow.next, S4 w os, CE, q4) := by kernel_rfl
theorem pc3 (w : World) (os : OsState) : segRun treeTable PG w (nat_lit 11) AN (nat_lit 1) (nat_lit 479) (S3 w os).abs (piecesOf g3 EV CE q3 [topFrame z0]) = some (Flow.next, (S4 w os).abs, CE, q4) := segRun_of (by rw [PySem.W.Fast.te10110043849684766642, PySem.W.Fast.te14364793385576792824]; exact congrFun (pq3 w) os)
theorem pq4 (w : World) : (fun os => PySem.W.Fast.tw10110043849684766642 PySem.W.Fast.tw14364793385576792824 PG w (nat_lit 11) AN (nat_lit 1) (nat_lit 405) (S4 w os) (piecesOf g4 EV CE q4 [topFrame z0])) = fun os => some (Flow.next, S5 w os, CE, q5) := by kernel_rfl
theorem pc4 (w : World) (os : OsState) : segRun treeTable PG w (nat_lit 11) AN (nat_lit 1) (nat_lit 405) (S4 w os).abs (piecesOf g4 EV CE q4 [topFrame z0]) = some (Flow.next, (S5 w os).abs, CE, q5) := segRun_of (by rw [PySem.W.Fast.te10110043849684766642, PySem.W.Fast.te14364793385576792824]; exact congrFun (pq4 w) os)
theorem pq5 (w : World) : (fun os => PySem.W.Fast.tw10110043849684766642 PySem.W.Fast.tw14364793385576792824 PG w (nat_lit 11) AN (nat_lit 1) (nat_lit 371) (S5 w os) (piecesOf g5 EV CE q5 [topFrame z0])) = fun os => some (Flow.next, S6 w os, CE, q6) := by kernel_rfl
theorem pc5 (w : World) (os : OsState) : segRun treeTable PG w (nat_lit 11) AN (nat_lit 1) (nat_lit 371) (S5 w os).abs (piecesOf g5 EV CE q5 [topFrame z0]) = some (Flow.next, (S6 w os).abs, CE, q6) := segRun_of (by rw [PySem.W.Fast.te10110043849684766642, PySem.W.Fast.te14364793385576792824]; exact congrFun (pq5 w) os)
theorem ppre (w : World) : (fun os => topGo treeTable PG w (nat_lit 11) AN (nat_lit 12) ⟨boot_heap w.params, Array.mk [], boot_drawn, boot_toks, os⟩ (topStub PG)) = fun os => some ((S0 w os).abs, ⟨denote treeTable CE, CE, z0, [topFrame z0]⟩) := by kernel_rfl
theorem pblk (w : World) : (fun os => segRun treeTable PG w (nat_lit 11) AN (nat_lit 1) (nat_lit 1) (S0 w os).abs (blockOf BL EV CE z0 [topFrame z0])) = fun os => some (Flow.next, (S0 w os).abs, CE, q0) := by kernel_rfl
theorem pfin (w : World) : (fun os => topRun treeTable PG w (nat_lit 11) AN (nat_lit 2) (S6 w os).abs ⟨doneF .next, CE, q6, [topFrame z0]⟩) = fun os => some ⟨H1 w.params, Array.mk [], {}, nat_lit 668, os⟩ := by kernel_rfl
theorem bodyE : g0 ++ (g1 ++ (g2 ++ (g3 ++ (g4 ++ (g5 ++ []))))) = BL := by kernel_rfl
noncomputable abbrev MM : Nat := ((nat_lit 12) + ((nat_lit 1) + ((nat_lit 296) + ((nat_lit 388) + ((nat_lit 444) + ((nat_lit 479) + ((nat_lit 405) + ((nat_lit 371) + (nat_lit 2)))))))))
theorem prun (w : World) (os : OsState) : topRun treeTable PG w (nat_lit 11) AN MM ⟨boot_heap w.params, Array.mk [], boot_drawn, boot_toks, os⟩ (topStub PG) = some ⟨H1 w.params, Array.mk [], {}, nat_lit 668, os⟩ := by
  refine go_top (congrFun (ppre w) os) (piece_block (congrFun (pblk w) os) ?_)
  have h := piece_app (pc0 w os) (piece_app (pc1 w os) (piece_app (pc2 w os) (piece_app (pc3 w os) (piece_app (pc4 w os) (piece_app (pc5 w os) (piece_nil (congrFun (pfin w) os)))))))
  rw [bodyE] at h
  exact h
theorem popen : ∀ w : World, (fencedOpening treeTable PG w 4880).map (fun s => (s.heap, s.gens, s.drawn, s.toks)) = some (boot_heap w.params, Array.mk [], boot_drawn, boot_toks) := boot_open (by kernel_rfl) (by kernel_rfl) (fun s => by kernel_rfl)
theorem psize (w : World) : ((boot_heap w.params).isNs mainGlobals && (Array.mk [] : Array GenState).size == 0, (boot_heap w.params).objs.size, (boot_heap w.params).nsMap mainGlobals "__annotations__") = (true, nat_lit 11, AN) := by kernel_rfl
noncomputable abbrev Z1 (w : World) (os : OsState) : Shared := ⟨H1 w.params, Array.mk [], {}, nat_lit 668, os⟩
noncomputable abbrev LZ : List Str := [Str.ofString "_law_kinds", Str.ofString "_law_names"]
noncomputable abbrev MD : List Str := importedModules PG.main.body
noncomputable abbrev XT : Shared → Bool := fun s => xlAt Vx [] s && recOk (RowW.records RWR) s
theorem and_t {a b : Bool} (x : a = true) (y : b = true) : (a && b) = true := by rw [x, y]; rfl
theorem lk_st (w : World) : staticsOk MD (boot_heap w.params) (H1 w.params) = true := by kernel_rfl
theorem lk_nb (w : World) : namesBound PG (H1 w.params) = true := by kernel_rfl
theorem lk_lk (w : World) : laidKept (boot_heap w.params) (H1 w.params) = true := by kernel_rfl
theorem lk_seen (w : World) (os : OsState) : seen ((recsOf Vx).map (·.name)) (ownsOf Vx) [] { Z1 w os with gens := #[] } = expectedOf Vx := by kernel_rfl
theorem lk_blt (w : World) : (H1 w.params).bltView = bltViewBooted := by kernel_rfl
theorem lk_keys (w : World) : (H1 w.params).keysOk (looseW Vx LZ) ((recsOf Vx).map (·.name)) ((litsOf Vx).map (·.1)) ((clssOf Vx (looseW Vx LZ)).map (·.name)) = true := by kernel_rfl
theorem lk_acc (w : World) : (H1 w.params).accountedOkI MD = true := by kernel_rfl
theorem lk_tb (w : World) : tablesOk Vx (H1 w.params) = true := by kernel_rfl
theorem lk_xt (w : World) (os : OsState) : XT (Z1 w os) = true := by kernel_rfl
theorem lk_obs (w : World) (os : OsState) : Hook.obs HK (Z1 w os) = Hook.val HK w := by kernel_rfl
theorem lk_tabs (w : World) (os : OsState) : tabsOk Vx (Z1 w os) = true := by kernel_rfl
theorem lk_pin (w : World) (os : OsState) : pinSeenD Vx (drecsOf Vx) (Z1 w os) = pinGoodD (drecsOf Vx) := by kernel_rfl
theorem lk_plE (w : World) (os : OsState) : plainSeenE Vx (looseW Vx LZ) (Z1 w os) = plainGoodE Vx (looseW Vx LZ) := by kernel_rfl
theorem lk_plD (w : World) (os : OsState) : plainSeenD Vx LZ (Z1 w os) = plainGoodD Vx LZ := by kernel_rfl
theorem lk_wide (w : World) (os : OsState) : wideSeen Vx (Z1 w os) = wideGood Vx := by kernel_rfl
theorem lk_cls (w : World) (os : OsState) : clsSeenW Vx LZ (Z1 w os) = clsGoodW Vx LZ := by kernel_rfl
theorem lk_open (w : World) (os : OsState) : openSeen Vx LZ MD XT true (Z1 w os) = openGood Vx LZ := by
  unfold openSeen openGood
  exact looks_pair (lk_seen w os) (looks_pair (lk_blt w) (looks_pair (and_t (and_t (and_t (and_t (and_t (and_t (lk_keys w) (lk_acc w)) (by kernel_rfl)) (by kernel_rfl)) (lk_tb w)) (lk_xt w os)) (by kernel_rfl))
    (looks_pair (lk_tabs w os) (looks_pair (lk_pin w os) (looks_pair (lk_plE w os) (looks_pair (lk_plD w os) (looks_pair (lk_wide w os) (lk_cls w os))))))))
theorem left : LeftO Challenge.rw_nn0356_01.row.prog Vx [Str.ofString "_law_kinds", Str.ofString "_law_names"] (fun s => xlAt Vx [] s && recOk (RowW.records RWR) s) (Hook.obs HK) (Hook.val HK) 4880 :=
  LeftO.of_pieces (p := PG) (M := MM) popen psize prun (by kernel_rfl) (fun w => funext fun os => looks_pair (and_t (and_t (and_t (lk_st w) (lk_nb w)) (by kernel_rfl)) (lk_lk w)) (looks_pair (lk_open w os) (lk_obs w os)))
theorem wellL : OpenLaw.wellSaid Challenge.rw_nn0356_01 = true := by
  unfold OpenLaw.wellSaid OpenRow.wellSaid OpenRow.partSaid looksOpen
  repeat' (with_reducible refine look_both ?_ ?_)
  all_goals decide +kernel
theorem tabW : Challenge.rw_nn0356_01.row.prog.tablesWhole = true := by decide +kernel
theorem fill : Challenge.rw_nn0356_01 = Challenge.rw_nn0356_01 ∧ Kx = Kx := by
  k_fill
  exact ⟨rfl, rfl⟩
open PySem.NumText
noncomputable abbrev PR : Program := Challenge.pw_nn0356_01
noncomputable abbrev VW : Program := Vx
noncomputable abbrev LS : List Str := looseW Vx [Str.ofString "_law_kinds", Str.ofString "_law_names"]
abbrev AA (dp un : Nat) : Around := { handled := none, depth := dp, frames := none, guards := none, units := un }

theorem ite_f {x y : Prop} (h : y) : if false = true then x else y := by rw [if_neg Bool.false_ne_true]; exact h
theorem ite_t {x y : Prop} (h : x) : if true = true then x else y := by rw [if_pos rfl]; exact h
local macro_rules | `(tactic| walk_at "callWith") => `(tactic| ((with_reducible show wpAny _ _ (callWith _ (Value.builtin _) (_ :: _) (backTo _ (starEach (_ :: _) _)) []) _ _ _); k_dflt (refine callWith_method1 ?_)))
local macro_rules | `(tactic| walk_at "callWith ref") => `(tactic| ((with_reducible show wpAny _ _ (callWith _ (Value.ref _) _ (backTo _ (starEach [] _)) []) _ _ _); k_dflt (refine' callWith_K0 ?k1 ?k2 ?_; (case k1 => k_in); (case k2 => k_is); k_whole)))
local macro_rules | `(tactic| walk_at "ite") => `(tactic| with_reducible first | refine ite_f ?_ | refine ite_t ?_)
structure Ok (w : World) (h : Heap) (mean : ExcName → Option Value) (mg mb : Str → Option Value) : Prop where
  X : (Kx w.params).In h
  T : Top VW LS mean mg mb h
theorem Ok.keeps {w : World} {h h' : Heap} {mean mg mb} (x : Ok w h mean mg mb) (k : ∀ b o, h.get? b = some o → h'.get? b = some o) : Ok w h' mean mg mb := ⟨x.X.keeps k, x.T.keeps k⟩

noncomputable def Ext (h h' : Heap) : Prop := ∀ b o, h.get? b = some o → h'.get? b = some o
noncomputable def ExtB (bx : Addr) (h h' : Heap) : Prop := ∀ b o, b ≠ bx → h.get? b = some o → h'.get? b = some o
noncomputable def Fresh (h h' : Heap) (tl : List (Addr × Obj)) : Prop := ∀ p ∈ tl, h'.get? p.1 = some p.2 ∧ h.get? p.1 = none
noncomputable def Holds (h : Heap) (tl : List (Addr × Obj)) : Prop := ∀ p ∈ tl, h.get? p.1 = some p.2
theorem Holds.keeps {h h' : Heap} {tl} (x : Holds h tl) (k : Ext h h') : Holds h' tl := fun p hp => k _ _ (x p hp)
theorem Ext.refl (h : Heap) : Ext h h := fun _ _ e => e
theorem Ext.trans {a b c : Heap} (x : Ext a b) (y : Ext b c) : Ext a c := fun p o e => y p o (x p o e)

section
variable {h₀ h h' : Heap} {L : Addr} {m : Str → Option Value} {news tl : List (Addr × Obj)}
theorem news_ext (F : Fr h₀ L h m) (N : News h₀ L h news) (k : Ext h h') (T : Fresh h h' tl) : News h₀ L h' (tl ++ news) := fun p hp => by
  rcases List.mem_append.mp hp with q | q
  · refine ⟨(T p q).1, fun e => ?_, ?_⟩
    · obtain ⟨o, _, _, ho, _⟩ := F.ns
      have := (T p q).2; rw [e, ho] at this; cases this
    · cases e : h₀.get? p.1 with
      | none => rfl
      | some o => have := F.keep _ _ e; rw [(T p q).2] at this; cases this
  · exact ⟨k _ _ (N p q).1, (N p q).2⟩
theorem news_sub (N : News h₀ L h news) (hs : ∀ p ∈ tl, p ∈ news) : News h₀ L h tl := fun p hp => N p (hs p hp)
end

section
variable {prog : Program} {w : World} {K : Frag} {dp un : Nat} {s : Shared} {Q : Value → Shared → Prop} {E : Value → Shared → Prop}
  {name qual : Str} {params : Arguments} {body : List Stmt} {scope : Scope} {dV kV doc pm cdv ct oc : Value} {an od : Option Addr} {osl : Array (Option Value)} {f : Addr}

noncomputable def Ret (Q : Value → Shared → Prop) (fl : Flow) (s' : Shared) : Prop := Q (match fl with | .ret v => v | _ => .none) s'

theorem enter (binds : List (Str × Value)) {pos : List Value} {kw : List (Str × Value)} (g : Heap) (hg : Ext g s.heap) (hz : g.objs.size = s.heap.objs.size) (X : K.In s.heap) (hlim : s.heap.NoLimit)
    (ho : K.lookup f = some ⟨oc, od, .func (fnOf name qual params body scope dV kV doc pm an cdv ct), osl⟩) (hcd : codeIn K cdv qual = true) (hroom : dp < recursionLimit)
    (hbind : BindsTo s (fnOf name qual params body scope dV kV doc pm an cdv ct) ⟨pos, kw⟩ binds) (hloc : ∀ y ∈ binds, scope.names.lookup y.1 = some .local)
    (h : ∀ L h₁, Fr g L h₁ (fun y => binds.reverse.lookup y) → Ext s.heap h₁ → s.heap.objs.size = L →
      wpAny (model prog w) (AA (dp + 1) (un + 3)) (execs body (envOf qual scope L f cdv)) (Ret Q) (fun _ _ => False)
        { s with heap := h₁, toks := s.toks + binds.length })
    (hcell : ∀ x ∈ scope.names, x.2 ≠ .cell := by decide) (hco : scope.isCoroutine = false := by rfl) (hgen : scope.isGenerator = false := by rfl) (hk : scope.kind = .function := by rfl) :
    wpAny (model prog w) (AA dp un) (call (.ref f) pos kw) Q E s := by
  refine wpAny_call ?_
  refine codeAny_call_def (fd := fnOf name qual params body scope dV kV doc pm an cdv ct) (body := body) (binds := binds) hroom (X _ _ ho) rfl hlim (codeRec_of X hcd) rfl hbind hcell hloc (fun h₁ hns hk₁ => ?_) hco hgen hk
  exact wpAny_mono (h _ h₁ ⟨hns, fun b o e => hk₁ b o (hg b o e), Nat.le_of_eq hz⟩ hk₁ rfl) (fun _ _ x => x) (fun _ _ x => x.elim)

theorem enterC (binds : List (Str × Value)) {pos : List Value} {kw : List (Str × Value)} (g : Heap) (hg : Ext g s.heap) (hz : g.objs.size = s.heap.objs.size) (X : K.In s.heap) (hlim : s.heap.NoLimit)
    (ho : K.lookup f = some ⟨oc, od, .func (fnOf name qual params body scope dV kV doc pm an cdv ct), osl⟩) (hcd : codeIn K cdv qual = true) (hroom : dp < recursionLimit)
    (hbind : BindsTo s (fnOf name qual params body scope dV kV doc pm an cdv ct) ⟨pos, kw⟩ binds)
    (hkind : (binds.all fun y => scope.names.lookup y.1 == some .local || scope.names.lookup y.1 == some .cell) = true)
    (hnd : ((cellsFrom 0 scope.names []).map (·.1)).Nodup)
    (h : ∀ L h₁ tk cells, Fr g L h₁ (bindL (envOfC qual scope L f cdv).kindOf binds fun _ => none) → Ext s.heap h₁ → s.heap.objs.size = L →
      CellsAre (bindC (envOfC qual scope L f cdv).kindOf binds fun _ => none) (cellsFrom (L + 1) scope.names []) cells → News s.heap L h₁ cells →
      wpAny (model prog w) (AA (dp + 1) (un + 3)) (execs body (envOfC qual scope L f cdv)) (Ret Q) (fun _ _ => False)
        { s with heap := h₁, toks := tk })
    (hco : scope.isCoroutine = false := by rfl) (hgen : scope.isGenerator = false := by rfl) (hk : scope.kind = .function := by rfl) :
    wpAny (model prog w) (AA dp un) (call (.ref f) pos kw) Q E s := by
  refine wpAny_call ?_
  refine codeAny_call_function hroom (X _ _ ho) rfl hco hgen rfl (codeRec_of X hcd) (hbind _ _ _ _ ?_)
  refine wpAny_newFunctionEnv_cells hk (kindsX hkind _) fun env' he s' x => ?_
  subst he
  refine ⟨hlim.keeps x.toInCall.keep, codeAny_func ?_⟩
  obtain ⟨h₁, tk, rfl, _⟩ := x.done
  have hk₁ := x.toInCall.keep
  obtain ⟨cells, NC, Y⟩ := Cl.news (h₀ := s.heap) (Nat.le_refl _) fun n c hm => ⟨x.cell n c (lookup_of_mem_nodup (cellsFrom_names scope.names 0 (s.heap.objs.size + 1) [] [] rfl ▸ hnd) hm), x.above n c hm⟩
  exact wpAny_mono (h _ h₁ tk cells ⟨x.toInCall.ns, fun b o e => hk₁ b o (hg b o e), Nat.le_of_eq hz⟩ hk₁ rfl Y NC) (fun _ _ x => x) (fun _ _ x => x.elim)
end

/-! comprehensions -/
section
open LCg
variable {prog : Program} {w : World} {A : Around} {E : Value → Shared → Prop} {s : Shared} {h₀ : Heap} {L : Addr} {m : Str → Option Value} {env : Env}

theorem rest_inv {elt : Expr} {x : Str} {scope : Scope} {cl : List (Str × Addr)} {P : Nat → Value → Prop} {Fin : List Value → List (Addr × Obj) → Prop} {n : Nat}
    (J : Nat → List Value → List (Addr × Obj) → Prop)
    (turn : ∀ i v ys news I oI C oC D m₂ h tk (E' : Value → Shared → Prop), i < n → P i v → J i ys news → NsObj oC m₂ → m₂ x = some v → Fr h₀ L h m →
      News h₀ L h ((I, oI) :: (C, oC) :: (D, lst ys) :: news) → Off3 I C D news → ((@Ne Nat I C) ∧ (@Ne Nat I D) ∧ (@Ne Nat C D)) →
      wpAny (model prog w) A (eval elt (compEnvC scope cl C env)) (CompEnd h₀ L m { s with heap := h, toks := tk } I oI C oC D (lst ys) (fun _ => True) (fun y news' => J (i + 1) (ys ++ [y]) news')) E' { s with heap := h, toks := tk })
    (fin : ∀ ys news, J n ys news → Fin ys news) : ∀ (k i : Nat) (ys : List Value) (news : List (Addr × Obj)), i + k = n → J i ys news →
      CompRest prog w A h₀ L m env elt x scope cl s (fun _ => True) P Fin k i ys news := by
  intro k
  induction k with
  | zero => intro i ys news hi hJ; obtain rfl : i = n := by omega
            exact CompRest.zero (fin _ _ hJ)
  | succ k ih =>
    intro i ys news hi hJ
    refine CompRest.succ fun v I oI C oC D m₂ h tk E' hv hC hx F N off ne => ?_
    refine wpAny_mono (turn i v ys news I oI C oC D m₂ h tk E' (by omega) hv hJ hC hx F N off ne) (fun y s₂ hq => ?_) fun _ _ e => e
    obtain ⟨h', tk', nw, e, F', N', off', hS, hJ'⟩ := hq
    exact ⟨h', tk', nw, e, F', N', off', hS, ih (i + 1) _ _ (by omega) hJ'⟩

/-- what a comprehension walks: a list, a tuple or a text of the base, a range -/
inductive Src (h₀ h : Heap) : Value → Nat → (Nat → Value → Prop) → Prop
  | lst {a : Addr} {items : Array Value} : h₀.IsList a items → Src h₀ h (.ref a) items.size (fun i v => items[i]? = some v)
  | tup {a : Addr} {items : Array Value} : h₀.IsTuple a items → Src h₀ h (.ref a) items.size (fun i v => items[i]? = some v)
  | str {x : Str} {t : Tok} : Src h₀ h (.str x t) x.cps.size (SignAt x)
  | range {r : Addr} {a b : Int} {t u v : Tok} {n : Nat} : IsRange h r a b 1 t u v → Builtin.Range.small a b 1 = true → Builtin.Range.rangeSize a b 1 = ((n : Nat) : Int) →
      Src h₀ h (.ref r) n (fun i v => ∃ t, v = .int (a + (i : Int)) t)

theorem comp {elt iter : Expr} {x : Str} {px : Pos} {scope : Scope} {cl : List (Str × Addr)} {pos : Pos} {Q : Value → Shared → Prop} (J : Nat → List Value → List (Addr × Obj) → Prop)
    (F₀ : Fr h₀ L s.heap m) (hh : A.handled = none)
    (h : wpAny (model prog w) A (eval iter env) (fun xv s₁ => ∃ n P news₁, Fr h₀ L s₁.heap m ∧ News h₀ L s₁.heap news₁ ∧ Src h₀ s₁.heap xv n P ∧ n ≤ sizeLine ∧ J 0 [] news₁ ∧
      (∀ i v ys news I oI C oC D m₂ h tk (E' : Value → Shared → Prop), i < n → P i v → J i ys news → NsObj oC m₂ → m₂ x = some v → Fr h₀ L h m →
        News h₀ L h ((I, oI) :: (C, oC) :: (D, lst ys) :: news) → Off3 I C D news → ((@Ne Nat I C) ∧ (@Ne Nat I D) ∧ (@Ne Nat C D)) →
        wpAny (model prog w) A (eval elt (compEnvC scope cl C env)) (CompEnd h₀ L m { s₁ with heap := h, toks := tk } I oI C oC D (lst ys) (fun _ => True) (fun y news' => J (i + 1) (ys ++ [y]) news')) E' { s₁ with heap := h, toks := tk }) ∧
      (∀ D ys news h tk, J n ys news → Fr h₀ L h m → News h₀ L h ((D, lst ys) :: news) → Off1 D news → Q (.ref D) { s₁ with heap := h, toks := tk })) E s)
    (hclos : closureFor scope env = pure cl) (hcell : ∀ y ∈ scope.names, y.2 ≠ .cell) (hkind : scope.kind = .function)
    (hnames : ∀ y ∈ scope.names, y.2 = .local → scope.names.lookup y.1 = some .local) (hx : scope.names.lookup x = some .local)
    (hs : ∀ x, foldedSetIterable iter env x = pure x := by intro _; rfl) :
    wpAny (model prog w) A (eval (.ListComp elt [⟨.Name x px, iter, [], 0⟩] scope pos) env) Q E s := by
  rw [eval_ListComp]
  refine wpAny_comprehension_free (use := none) rfl hs hclos hkind hnames (wpAny_mono h (fun xv s₁ h₁ => ?_) fun _ _ e => e)
  obtain ⟨n, P, news₁, F, N, S, hsz, J0, turn, fin⟩ := h₁
  have ends : ∀ (s₂ : Shared) (D C : Addr) (h : Heap) (tk : Nat) (m' : Str → Option Value) (ys : List Value) (news' : List (Addr × Obj)), (∃ g, s₂ = { s₁ with heap := g }) → Fr h₀ L h m → News h₀ L h ((D, lst ys) :: news') → Off1 D news' → h.Ns C m' → h₀.get? C = none → h₀.get? D = none → C ≠ L → D ≠ L → C ≠ D → (∀ p ∈ news', p.1 ≠ C) → J n ys news' →
      compPost (model prog w) A E none Q (.ref D) C (.ok .next) { s₂ with heap := h, toks := tk } := by
    rintro s₂ D C h tk m' ys news' ⟨g, rfl⟩ F' N' o1 hn hC₀ hD₀ hCL hDL hCD offC hJ
    refine ⟨m', hn, fun h'' hs'' => fin D ys news' h'' tk hJ (F'.change hs'' hCL hC₀) (fun p hp => ?_) o1⟩
    refine ⟨hs''.extBut _ _ ?_ (N' p hp).1, (N' p hp).2⟩
    rcases List.mem_cons.mp hp with rfl | hp
    · exact Ne.symm hCD
    · exact offC p hp
  have rst : ∀ g, CompRest prog w A h₀ L m env elt x scope cl { s₁ with heap := g } (fun _ => True) P (J n) n 0 [] news₁ := fun g =>
    rest_inv (s := { s₁ with heap := g }) J (fun i v ys news I oI C oC D m₂ h tk E' hi hv hJ hC hx F N off ne => turn i v ys news I oI C oC D m₂ h tk E' hi hv hJ hC hx F N off ne) (fun _ _ q => q) n 0 [] news₁ (Nat.zero_add n) J0
  have newest : ∀ (o : Obj), s₁.heap.objs.size < (s₁.heap.push o).objs.size := fun o => by rw [Heap.size_push]; exact Nat.lt_succ_self _
  cases S with
  | @lst ax items hl0 =>
    have hl := hl0.at fun o e => F.keep _ o e
    have hlt : ax < s₁.heap.objs.size := by obtain ⟨_, e, _⟩ := hl; exact Heap.lt_size e
    refine wpAny_pyIter_list hl ?_
    have up : ∀ b o, s₁.heap.get? b = some o → (s₁.heap.push { cls := .type "list_iterator", data := .fields #[.ref ax, .int 0 0] }).get? b = some o := fun b o e => Heap.get?_push_of_some _ e
    refine block_U (W := Walks.list hh s₁.heap.objs.size ax (Nat.ne_of_lt hlt) items) hsz (fun i h st => by obtain ⟨o, e, _⟩ := st.1; exact ⟨o, e⟩) (S := fun _ => True)
      (fun i h h' o nw st e e' k N _ => ⟨by obtain ⟨o', q, r⟩ := st.1; rw [e] at q; cases q; exact ⟨o, e', r⟩, hl0.at fun o e => k _ o e⟩) hcell hkind hx ⟨⟨_, Heap.get?_push_size _ rfl, rfl, rfl⟩, hl.push _⟩ (fun b hb => ?_)
      (F.keeps up) (N.grown up) (Nat.ne_of_lt F.ns.lt) (next_is_new F) (fun p hp => Nat.ne_of_lt (Heap.lt_size (N p hp).1)) trivial (rst _) (fun D C h tk m' ys news' a b c d e f g i j k l => ends _ D C h tk m' ys news' ⟨_, rfl⟩ a b c d e f g i j k l)
    rcases List.mem_cons.mp hb with rfl | hb
    · exact newest _
    · rw [List.mem_singleton.mp hb]; exact Nat.lt_trans hlt (newest _)
  | @tup ax items hl0 =>
    have hl := hl0.at fun o e => F.keep _ o e
    have hlt : ax < s₁.heap.objs.size := by obtain ⟨_, e, _⟩ := hl; exact Heap.lt_size e
    refine wpAny_pyIter_tuple hl ?_
    have up : ∀ b o, s₁.heap.get? b = some o → (s₁.heap.push { cls := .type "tuple_iterator", data := .fields #[.ref ax, .int 0 0] }).get? b = some o := fun b o e => Heap.get?_push_of_some _ e
    refine block_U (W := Walks.tuple hh s₁.heap.objs.size ax (Nat.ne_of_lt hlt) items) hsz (fun i h st => by obtain ⟨o, e, _⟩ := st.1; exact ⟨o, e⟩) (S := fun _ => True)
      (fun i h h' o nw st e e' k N _ => ⟨by obtain ⟨o', q, r⟩ := st.1; rw [e] at q; cases q; exact ⟨o, e', r⟩, hl0.at fun o e => k _ o e⟩) hcell hkind hx ⟨⟨_, Heap.get?_push_size _ rfl, rfl, rfl⟩, hl.at fun o e => up _ _ e⟩ (fun b hb => ?_)
      (F.keeps up) (N.grown up) (Nat.ne_of_lt F.ns.lt) (next_is_new F) (fun p hp => Nat.ne_of_lt (Heap.lt_size (N p hp).1)) trivial (rst _) (fun D C h tk m' ys news' a b c d e f g i j k l => ends _ D C h tk m' ys news' ⟨_, rfl⟩ a b c d e f g i j k l)
    rcases List.mem_cons.mp hb with rfl | hb
    · exact newest _
    · rw [List.mem_singleton.mp hb]; exact Nat.lt_trans hlt (newest _)
  | @str x t =>
    have one : ∀ (ty : String) (o : Obj), (∀ I, Walks prog w A I [I] [I] x.cps.size (SignAt x) (fun i h => h.IsStrIter I ty x t i)) → (s₁.heap.push o).IsStrIter s₁.heap.objs.size ty x t 0 →
        wpAny (model prog w) A (newList []) (fun acc s₃ => wpAny (model prog w) A (newFunctionEnv scope env.globals cl [] env.qual none .none (some env)) (fun cenv s₄ =>
          codeAny (model prog w) A (.compStart (.ListComp elt [⟨.Name _ px, iter, [], 0⟩] scope pos) 0 (.ref s₁.heap.objs.size) acc { cenv with scope := relabel scope env }) (compPost (model prog w) A E none Q acc cenv.locals) s₄) E s₃) E { s₁ with heap := s₁.heap.push o } := fun ty o W st => by
      have up : ∀ b o', s₁.heap.get? b = some o' → (s₁.heap.push o).get? b = some o' := fun b o e => Heap.get?_push_of_some _ e
      exact block_U (W := W _) hsz (fun i h st => by obtain ⟨o, e, _⟩ := st; exact ⟨o, e⟩) (S := fun _ => True)
        (fun i h h' o nw st e e' k N _ => by obtain ⟨o', q, r⟩ := st; rw [e] at q; cases q; exact ⟨o, e', r⟩) hcell hkind hx st (fun b hb => by rw [List.mem_singleton.mp hb]; exact newest _)
        (F.keeps up) (N.grown up) (Nat.ne_of_lt F.ns.lt) (next_is_new F) (fun p hp => Nat.ne_of_lt (Heap.lt_size (N p hp).1)) trivial (rst _) (fun D C h tk m' ys news' a b c d e f g i j k l => ends _ D C h tk m' ys news' ⟨_, rfl⟩ a b c d e f g i j k l)
    cases ha : x.cps.all (· < 128)
    · exact wpAny_pyIter_wide ha (one _ _ (fun I => Walks.strWide hh I x t) ⟨_, Heap.get?_push_size _ rfl, rfl, rfl⟩)
    · exact wpAny_pyIter_ascii ha (one _ _ (fun I => Walks.strAscii hh I x t) ⟨_, Heap.get?_push_size _ rfl, rfl, rfl⟩)
  | @range r a b t u v n hr hsm hn =>
    refine wpAny_pyIter_range hr hsm ?_
    refine block_U (W := range_walks hh a n) hsz (fun i h st => ⟨_, st⟩) (S := fun _ => True) range_st hcell hkind hx (by show IsRangeIter _ _ _ _ _; rw [hn]; simpa using Heap.get?_push_size _ rfl) (fun b hb => by rw [List.mem_singleton.mp hb]; exact newest _)
      (F.keeps fun _ _ e => Heap.get?_push_of_some _ e) (N.grown fun _ _ e => Heap.get?_push_of_some _ e) (Nat.ne_of_lt F.ns.lt) (next_is_new F) (fun p hp => Nat.ne_of_lt (Heap.lt_size (N p hp).1)) trivial (rst _)
      (fun D C h tk m' ys news' a b c d e f g i j k l => ends _ D C h tk m' ys news' ⟨_, rfl⟩ a b c d e f g i j k l)
end
section
variable {prog : Program} {w : World} {A : Around} {E : Value → Shared → Prop} {s : Shared} {h₀ : Heap} {env : Env}

noncomputable def ForEnd (h₀ : Heap) (L : Addr) (I : Addr) (oI : Obj) (s₁ : Shared) (J : (Str → Option Value) → List (Addr × Obj) → Prop) (f : Flow) (s₂ : Shared) : Prop :=
  f = .next ∧ ∃ h' tk m₂ news₂, s₂ = { s₁ with heap := h', toks := tk } ∧ Fr h₀ L h' m₂ ∧ News h₀ L h' ((I, oI) :: news₂) ∧ (∀ p ∈ news₂, p.1 ≠ I) ∧ J m₂ news₂

theorem loopAt {x : Str} {body : List Stmt} {Q : Flow → Shared → Prop} {I : Addr} {fp : List Addr} {n : Nat} {P : Nat → Value → Prop} {St : Nat → Heap → Prop} {m : Str → Option Value} {news : List (Addr × Obj)} {s₂ : Shared}
    (J : Nat → (Str → Option Value) → List (Addr × Obj) → Prop)
    (W : Walks prog w A I fp [I] n P St) (hI : I ∈ fp) (hLf : env.locals ∉ fp) (hI₀ : h₀.get? I = none) (hfp : ∀ b ∈ fp, b ≠ I → h₀.get? b ≠ none) (hIo : ∀ i h, St i h → ∃ o, h.get? I = some o)
    (hnw : ∀ p ∈ news, p.1 ≠ I) (hst : St 0 s₂.heap) (F : Fr h₀ env.locals s₂.heap m) (N : News h₀ env.locals s₂.heap news) (h0 : J 0 m news)
    (turn : ∀ i v m₁ news₁ I oI h tk, i < n → P i v → J i m₁ news₁ → (∀ p ∈ news₁, p.1 ≠ I) → Fr h₀ env.locals h (fun y => if y = x then some v else m₁ y) → News h₀ env.locals h ((I, oI) :: news₁) →
      wpAny (model prog w) A (execs body env) (ForEnd h₀ env.locals I oI { s₂ with heap := h, toks := tk } (J (i + 1))) E { s₂ with heap := h, toks := tk })
    (fin : ∀ h tk m' news', Fr h₀ env.locals h m' → News h₀ env.locals h news' → J n m' news' → Q .next { s₂ with heap := h, toks := tk }) :
    LoopAtV prog w A h₀ env x body Q E (.ref I) s₂ := by
  refine ⟨I, fp, [I], n, P, St, m, news, J, rfl, W, hLf, fun b hb => by rw [List.mem_singleton.mp hb]; exact hI₀, fun p hp => by simpa using hnw p hp, hst, F, N, h0, ?_, fun h' tk m' news' F' N' _ hJ => fin h' tk m' news' F' N' hJ⟩
  rintro i v m₁ news₁ s₁ own ⟨h, tk, rfl⟩ hi hP hJ hn₁ ho1 ho2 ho3 hst' F' N'
  obtain ⟨oI, hoI⟩ := hIo _ _ hst'
  have hown : (I, oI) ∈ own := ho3 I hI hI₀ _ hoI
  have hall : ∀ p ∈ own, p = (I, oI) := fun p hp => by
    have hpI : p.1 = I := Classical.byContradiction fun hne => hfp _ (ho1 p hp) hne (N' p (List.mem_append_left _ hp)).2.2
    have := ho2 p hp
    rw [hpI, hoI] at this
    obtain ⟨a, o⟩ := p
    cases hpI; cases this; rfl
  refine wpAny_mono (turn i v m₁ news₁ I oI h tk hi hP hJ (fun p hp => by simpa using hn₁ p hp) F' (fun p hp => N' p ?_)) (fun f s₃ h₃ => ?_) fun _ _ e => e
  · rcases List.mem_cons.mp hp with rfl | hp
    · exact List.mem_append_left _ hown
    · exact List.mem_append_right _ hp
  · obtain ⟨rfl, h', tk', m₂, news₂, rfl, F₂, N₂, a₂, J₂⟩ := h₃
    refine LoopStepV.next ⟨rfl, h', tk', m₂, news₂, rfl, F₂, fun p hp => ?_, fun p hp => by simpa using a₂ p hp, J₂⟩
    rcases List.mem_append.mp hp with hp | hp
    · rw [hall p hp]; exact N₂ _ (.head _)
    · exact N₂ p (.tail _ hp)

theorem forS {x : Str} {px pos : Pos} {iter : Expr} {body : List Stmt} {Q : Flow → Shared → Prop} (h₀ : Heap) (J : Nat → (Str → Option Value) → List (Addr × Obj) → Prop) (hh : A.handled = none)
    (h : wpAny (model prog w) A (eval iter env) (fun xv s₁ => ∃ n P m news₁, Fr h₀ env.locals s₁.heap m ∧ News h₀ env.locals s₁.heap news₁ ∧ Src h₀ s₁.heap xv n P ∧ J 0 m news₁ ∧
      (∀ i v m₁ news I oI h tk, i < n → P i v → J i m₁ news → (∀ p ∈ news, p.1 ≠ I) → Fr h₀ env.locals h (fun y => if y = x then some v else m₁ y) → News h₀ env.locals h ((I, oI) :: news) →
        wpAny (model prog w) A (execs body env) (ForEnd h₀ env.locals I oI { s₁ with heap := h, toks := tk } (J (i + 1))) E { s₁ with heap := h, toks := tk }) ∧
      (∀ h tk m' news', Fr h₀ env.locals h m' → News h₀ env.locals h news' → J n m' news' → Q .next { s₁ with heap := h, toks := tk })) E s)
    (hx : env.kindOf x = some .local) (hp : (env.scope.kind == .class || (env.scope.kind == .module && env.locals != env.globals)) = false)
    (hs : ∀ x, foldedSetIterable iter env x = pure x := by intro _; rfl)
    (hE : PassesOwn (model prog w) A env E := by passes_own) :
    wpAny (model prog w) A (exec (.For (.Name x px) iter body [] pos) env) Q E s := by
  refine For_invV h₀ hx hp (wpAny_mono h (fun xv s₁ h₁ => ?_) fun _ _ e => e) hs hE
  obtain ⟨n, P, m, news₁, F, N, S, J0, turn, fin⟩ := h₁
  have newest : ∀ (o : Obj), s₁.heap.objs.size < (s₁.heap.push o).objs.size := fun o => by rw [Heap.size_push]; exact Nat.lt_succ_self _
  have up : ∀ o b o', s₁.heap.get? b = some o' → (s₁.heap.push o).get? b = some o' := fun o b o' e => Heap.get?_push_of_some _ e
  have hnw : ∀ p ∈ news₁, p.1 ≠ s₁.heap.objs.size := fun p hp => Nat.ne_of_lt (Heap.lt_size (N p hp).1)
  have hL : env.locals ≠ s₁.heap.objs.size := Nat.ne_of_lt F.ns.lt
  cases S with
  | @lst ax items hl0 =>
    have hl := hl0.at fun o e => F.keep _ o e
    have hlt : ax < s₁.heap.objs.size := by obtain ⟨_, e, _⟩ := hl; exact Heap.lt_size e
    obtain ⟨oa, ea, _⟩ := hl0
    have hLa : env.locals ≠ ax := fun q => by have := Heap.get?_none_of_le F.above; rw [q, ea] at this; cases this
    refine wpAny_pyIter_list hl (loopAt J (Walks.list hh s₁.heap.objs.size ax (Nat.ne_of_lt hlt) items) (by simp) (by simp [hL, hLa]) (next_is_new F) (fun b hb hne => ?_) (fun i h st => by obtain ⟨o, e, _⟩ := st.1; exact ⟨o, e⟩) hnw
      ⟨⟨_, Heap.get?_push_size _ rfl, rfl, rfl⟩, hl.push _⟩ (F.keeps (up _)) (N.grown (up _)) J0 turn fin)
    simp [hne] at hb; rw [hb, ea]; simp
  | @tup ax items hl0 =>
    have hl := hl0.at fun o e => F.keep _ o e
    have hlt : ax < s₁.heap.objs.size := by obtain ⟨_, e, _⟩ := hl; exact Heap.lt_size e
    obtain ⟨oa, ea, _⟩ := hl0
    have hLa : env.locals ≠ ax := fun q => by have := Heap.get?_none_of_le F.above; rw [q, ea] at this; cases this
    refine wpAny_pyIter_tuple hl (loopAt J (Walks.tuple hh s₁.heap.objs.size ax (Nat.ne_of_lt hlt) items) (by simp) (by simp [hL, hLa]) (next_is_new F) (fun b hb hne => ?_) (fun i h st => by obtain ⟨o, e, _⟩ := st.1; exact ⟨o, e⟩) hnw
      ⟨⟨_, Heap.get?_push_size _ rfl, rfl, rfl⟩, hl.at fun o e => up _ _ _ e⟩ (F.keeps (up _)) (N.grown (up _)) J0 turn fin)
    simp [hne] at hb; rw [hb, ea]; simp
  | @str x t =>
    cases ha : x.cps.all (· < 128)
    · exact wpAny_pyIter_wide ha (loopAt J (Walks.strWide hh _ x t) (by simp) (by simp [hL]) (next_is_new F) (fun b hb hne => by simp [hne] at hb) (fun i h st => by obtain ⟨o, e, _⟩ := st; exact ⟨o, e⟩) hnw
        ⟨_, Heap.get?_push_size _ rfl, rfl, rfl⟩ (F.keeps (up _)) (N.grown (up _)) J0 turn fin)
    · exact wpAny_pyIter_ascii ha (loopAt J (Walks.strAscii hh _ x t) (by simp) (by simp [hL]) (next_is_new F) (fun b hb hne => by simp [hne] at hb) (fun i h st => by obtain ⟨o, e, _⟩ := st; exact ⟨o, e⟩) hnw
        ⟨_, Heap.get?_push_size _ rfl, rfl, rfl⟩ (F.keeps (up _)) (N.grown (up _)) J0 turn fin)
  | @range r a b t u v n hr hsm hn =>
    exact wpAny_pyIter_range hr hsm (loopAt J (LCg.range_walks hh a n) (by simp) (by simp [hL]) (next_is_new F) (fun b hb hne => by simp [hne] at hb) (fun i h st => ⟨_, st⟩) hnw
      (by show IsRangeIter _ _ _ _ _; rw [hn]; simpa using Heap.get?_push_size _ rfl) (F.keeps (up _)) (N.grown (up _)) J0 turn fin)
end
/-! the box: a list of four that the draws change -/
structure Bx (H : Heap) (bx c : Addr) (vs : List Value) (ns : List Int) : Prop where
  nb : H.get? bx = none
  cl : H.IsList c vs.toArray
  ia : IntsAre vs ns
  len : vs.length ≤ 48
noncomputable def BoxO (c : Addr) (n : Nat) (o : Obj) : Prop := ∃ (g st pl : Int) (t1 t2 t3 : Tok) (k : Nat), o = W.listOf [Value.ref c, .int g t1, .int st t2, .int pl t3].toArray k ∧ 0 ≤ g ∧ 0 ≤ st ∧ st < 2147483647 ∧ 0 ≤ pl ∧ pl ≤ n
structure BoxAt (H h : Heap) (bx c : Addr) (n : Nat) : Prop where
  st : Ext H h
  at_ : ∃ o, h.get? bx = some o ∧ BoxO c n o
theorem ext_hide {H h : Heap} {bx : Addr} (st : Ext H h) (nb : H.get? bx = none) : Ext H (h.hide bx) := fun b o e => by
  rw [Heap.hide_ne h (fun q => by rw [q, nb] at e; cases e)]; exact st b o e
theorem hide_ext {h h₁ : Heap} {bx : Addr} (k : Ext h h₁) : Ext (h.hide bx) h₁ := fun b o e => k b o (Heap.of_hide e)
section
variable {H h h' g : Heap} {L bx c : Addr} {m : Str → Option Value} {news : List (Addr × Obj)} {o : Obj} {n : Nat}
/-- at the entry of a def: the box stands in the ledger -/
theorem box_in {s : Heap} (B : BoxAt H s bx c n) (F : Fr (s.hide bx) L h m) (k : Ext s h) (hL : s.objs.size = L) : ∃ o, News (s.hide bx) L h [(bx, o)] ∧ BoxO c n o := by
  obtain ⟨o, e, b⟩ := B.at_
  refine ⟨o, fun p hp => ?_, b⟩
  rw [List.mem_singleton.mp hp]
  exact ⟨k _ _ e, fun q => absurd (Heap.lt_size e) (by rw [hL, ← q]; exact Nat.lt_irrefl _), Heap.hide_self _ _⟩
theorem box_at (st : Ext H g) (F : Fr g L h m) (N : News g L h news) (hm : (bx, o) ∈ news) (b : BoxO c n o) : BoxAt H h bx c n := ⟨st.trans F.keep, o, N.get hm, b⟩
theorem box_back {n' : Nat} (F : Fr g L h m) (N : News g L h ((bx, o) :: news)) (ne : ∀ p ∈ news, p.1 ≠ bx) (e : ExtB bx h h') (B : BoxAt H h' bx c n') :
    Fr g L h' m ∧ ∃ o', News g L h' ((bx, o') :: news) ∧ BoxO c n' o' := by
  obtain ⟨o', e', b'⟩ := B.at_
  have hb := N (bx, o) (.head _)
  refine ⟨⟨F.ns.at' fun o e' => e _ _ (Ne.symm hb.2.1) e', fun b o q => e b o (fun z => by have := hb.2.2; rw [← z, q] at this; cases this) (F.keep b o q), F.above⟩, o', fun p hp => ?_, b'⟩
  rcases List.mem_cons.mp hp with rfl | hp
  · exact ⟨e', hb.2⟩
  · exact ⟨e _ _ (ne p hp) (N p (.tail _ hp)).1, (N p (.tail _ hp)).2⟩
theorem extB_of {s : Heap} (F : Fr (s.hide bx) L h m) : ExtB bx s h := fun b o ne e => F.keep b o (by rw [Heap.hide_ne s ne]; exact e)
end
abbrev S (l : List Nat) : Str := ⟨l.toArray⟩
noncomputable def hexd (d : Nat) : Nat := if d < 10 then 48 + d else 87 + d
noncomputable def hexL (c : Nat) : List Nat := [92, 120, hexd (c / 16), hexd (c % 16)]
noncomputable def escSign (m c : Nat) : List Nat :=
  if c = 10 then [92, 110] else if c = 9 then [92, 116] else if c = m ∨ c = 92 then [92, c] else if c < 32 ∨ (126 < c ∧ c < 256) then hexL c else [c]
theorem hexS_all : ∀ c : Fin 256, Str.ofString "\\x" ++ Txt.item (Str.ofString "0123456789abcdef") (((c.val : Nat) : Int).fdiv 16) ++ Txt.item (Str.ofString "0123456789abcdef") (((c.val : Nat) : Int).fmod 16) = S (hexL c.val) := by decide +kernel
theorem hexS_eq (c : Nat) (hc : c < 256) : Str.ofString "\\x" ++ Txt.item (Str.ofString "0123456789abcdef") ((c : Int).fdiv 16) ++ Txt.item (Str.ofString "0123456789abcdef") ((c : Int).fmod 16) = S (hexL c) := hexS_all ⟨c, hc⟩
theorem sgn_eq (c d : Nat) : ((⟨#[c]⟩ : Str) == ⟨#[d]⟩) = decide (c = d) := by
  by_cases h : c = d
  · subst h; simp
  · rw [decide_eq_false h, beq_eq_false_iff_ne]; intro e; exact h (by simpa using e)
theorem lit_n : Str.ofString "\n" = ⟨#[10]⟩ := by decide +kernel
theorem lit_t : Str.ofString "\t" = ⟨#[9]⟩ := by decide +kernel
theorem lit_b : Str.ofString "\\" = ⟨#[92]⟩ := by decide +kernel
theorem lit_bn : Str.ofString "\\n" = ⟨#[92, 110]⟩ := by decide +kernel
theorem lit_bt : Str.ofString "\\t" = ⟨#[92, 116]⟩ := by decide +kernel
theorem app_S (a b : List Nat) : (⟨a.toArray⟩ : Str) ++ (⟨b.toArray⟩ : Str) = S (a ++ b) := by
  show PySem.Str.mk _ = _
  simp [S]
theorem occ1 (m c : Nat) : (Builtin.Str.occurrences ⟨#[m]⟩ ⟨#[c]⟩ 0 (⟨#[m]⟩ : Str).length 1).isEmpty = !decide (c = m) := by
  have := StrLaws.found_one ⟨#[m]⟩ c
  rw [← Bool.not_not (List.isEmpty _), this]; simp
theorem hex {w : World} {dp un : Nat} {s : Shared} {Q E : Value → Shared → Prop} {mean mg mb} (O : Ok w s.heap mean mg mb) (hd : dp + 1 < recursionLimit)
  (c : Nat) (t : Tok) (hc : c < 256) 
  (ret : ∀ h' tk' t', Ext s.heap h' → Q (.str (S (hexL c)) t') { s with heap := h', toks := tk' }) :
  wpAny (model PR w) (AA dp un) (call (.ref 92) [.int c t]) Q E s := by
  obtain ⟨X, T⟩ := O
  have hc0 : (0 : Int) ≤ c := by omega
  have hc1 : (c : Int) < 256 := by omega
  refine enter [("code", .int c t)] s.heap (Ext.refl _) rfl X T.nolimit (by k_is) (by k_is) (by omega) (BindsTo.of_eq rfl) (locs rfl) (fun L h₁ F k hL => ?_)
  have N : News s.heap L h₁ [] := News.nil
  repeat' (first | walk1 | (dsimp only; walk1))
  dsimp only [Ret]
  rw [hexS_eq c hc]
  exact ret _ _ _ (Fr.keep (by assumption))
theorem esign {w : World} {dp un : Nat} {s : Shared} {Q E : Value → Shared → Prop} {mean mg mb} (O : Ok w s.heap mean mg mb) (hd : dp + 2 < recursionLimit)
  (c m : Nat) (t u : Tok) 
  (ret : ∀ h' tk' t', Ext s.heap h' → Q (.str (S (escSign m c)) t') { s with heap := h', toks := tk' }) :
  wpAny (model PR w) (AA dp un) (call (.ref 99) [.str ⟨#[c]⟩ t, .str ⟨#[m]⟩ u]) Q E s := by
  obtain ⟨X, T⟩ := O
  have ret' : ∀ x h' tk' t', x = S (escSign m c) → Ext s.heap h' → Q (.str x t') { s with heap := h', toks := tk' } := fun x h' tk' t' e k => e ▸ ret h' tk' t' k
  clear ret
  refine enter [("sign", .str ⟨#[c]⟩ t), ("marks", .str ⟨#[m]⟩ u)] s.heap (Ext.refl _) rfl X T.nolimit (by k_is) (by k_is) (by omega) (BindsTo.of_eq rfl) (locs rfl) (fun L h₁ F k hL => ?_)
  have N : News s.heap L h₁ [] := News.nil
  repeat' (first | walk1 | (dsimp only; walk1))
  all_goals (try dsimp only [Ret])
  all_goals first
    | (refine ret' _ _ _ _ ?_ (Fr.keep (by assumption)))
    | (refine hex ⟨X.keeps (Fr.keep (by assumption)), T.keeps (Fr.keep (by assumption))⟩ (by omega) c _ (by omega) (fun h' tk' t' k' => ?_); dsimp only [Ret]; refine ret' _ _ _ _ ?_ (Ext.trans (Fr.keep (by assumption)) k'))
  all_goals (simp only [lit_n, lit_t, lit_b, lit_bn, lit_bt, sgn_eq, occ1, decide_eq_true_eq, decide_eq_false_iff_not, Bool.not_eq_true', Bool.not_eq_false'] at *)
  all_goals (first | refine congrArg S ?_ | refine (app_S [92] [c]).trans (congrArg S ?_) | refine (rfl : _ = S [92, 110]).trans (congrArg S ?_) | refine (rfl : _ = S [92, 116]).trans (congrArg S ?_) | refine (rfl : _ = S [c]).trans (congrArg S ?_))
  all_goals (unfold escSign; (repeat' split) <;> first | rfl | omega)
noncomputable def escT (m : Nat) (cs : List Nat) : List Nat := cs.flatMap (escSign m)
noncomputable def joinL (sep : List Nat) : List (List Nat) → List Nat
  | [] => []
  | a :: r => a ++ r.flatMap fun p => sep ++ p
theorem glued_aux (sep : List Nat) : ∀ (r : List (List Nat)) (acc : Array Nat), (r.map S).foldl (fun a p => a ++ (S sep).cps ++ p.cps) acc = (acc.toList ++ r.flatMap fun p => sep ++ p).toArray
  | [], acc => by simp
  | a :: r, acc => by
    rw [List.map_cons, List.foldl_cons, glued_aux sep r, List.flatMap_cons]
    simp [S]
theorem join_S (sep : List Nat) (l : List (List Nat)) : Txt.join (S sep) (l.map S) = S (joinL sep l) := by
  cases l with
  | nil => rfl
  | cons a r =>
    show PySem.Str.mk ((((a :: r).map S).drop 1).foldl (fun a p => a ++ (S sep).cps ++ p.cps) (((a :: r).map S).headD Str.empty).cps) = _
    rw [List.map_cons, List.drop_one, List.tail_cons, glued_aux sep r]
    simp [joinL, S]
theorem joinL_nil (l : List (List Nat)) : joinL [] l = l.flatten := by
  cases l with
  | nil => rfl
  | cons a r => simp [joinL, List.flatMap]
theorem escSign_len (m c : Nat) : (escSign m c).length ≤ 4 := by unfold escSign hexL; (repeat' split) <;> simp
theorem sum_len_le {α : Type} (f : α → List Nat) (B : Nat) (l : List α) (h : ∀ a ∈ l, (f a).length ≤ B) : ((l.map fun a => S (f a)).map (·.length)).sum ≤ l.length * B := by
  induction l with
  | nil => simp
  | cons a r ih =>
    have h1 := h a (List.mem_cons_self ..)
    have h2 := ih fun b hb => h b (List.mem_cons_of_mem _ hb)
    have e : (S (f a)).length = (f a).length := by show (f a).toArray.size = _; simp
    simp only [List.map_cons, List.sum_cons, List.length_cons, e, Nat.succ_mul]
    omega
theorem escd {w : World} {dp un : Nat} {s : Shared} {Q E : Value → Shared → Prop} {mean mg mb} (O : Ok w s.heap mean mg mb) (hd : dp + 3 < recursionLimit)
  (x : Str) (m : Nat) (t u : Tok) (hx : x.cps.size ≤ 100000)
  (ret : ∀ h' tk' t', Ext s.heap h' → Q (.str (S (escT m x.cps.toList)) t') { s with heap := h', toks := tk' }) :
  wpAny (model PR w) (AA dp un) (call (.ref 104) [.str x t, .str ⟨#[m]⟩ u]) Q E s := by
  obtain ⟨X, T⟩ := O
  refine enterC [("text", .str x t), ("end", .str ⟨#[m]⟩ u)] s.heap (Ext.refl _) rfl X T.nolimit (by k_is) (by k_is) (by omega) (BindsTo.of_eq rfl) (by rfl) (by decide +kernel) (fun L h₁ tk cells F k hL Y N => ?_)
  obtain ⟨oc, rfl, d1⟩ := CellsAre.one (n := Str.ofString "end") (c := L + 1) Y
  clear Y
  have d1 : oc.data = .cell (some (.str ⟨#[m]⟩ u)) := d1
  (repeat' (first | ((fail_if_success (with_reducible show wpAny _ _ (eval (Expr.ListComp _ _ _ _) _) _ _ _)); (fail_if_success (with_reducible show Exists _)); (fail_if_success (with_reducible show LCg.CompEnd _ _ _ _ _ _ _ _ _ _ _ _ _ _)); first | walk1 | (dsimp only; walk1))))
  refine comp (h₀ := s.heap) (L := L) (fun i ys news => news = [(L + 1, oc)] ∧ StrsAre ys ((x.cps.toList.take i).map fun c => S (escSign m c))) F rfl ?_ (by with_unfolding_all rfl) (by decide) (by rfl) (by decide) (by rfl)
  (repeat' (first | ((fail_if_success (with_reducible show wpAny _ _ (eval (Expr.ListComp _ _ _ _) _) _ _ _)); (fail_if_success (with_reducible show Exists _)); (fail_if_success (with_reducible show LCg.CompEnd _ _ _ _ _ _ _ _ _ _ _ _ _ _)); first | walk1 | (dsimp only; walk1))))
  refine ⟨_, _, _, F, N, .str, by rw [PySem.sizeLine_eq]; omega, ⟨rfl, .nil⟩, ?_, ?_⟩
  · rintro i v ys news I oI C oC D m₂ h tk E' hi ⟨c, t', hc, rfl⟩ ⟨rfl, hys⟩ hC hx F N off ne
    (repeat' (first | ((fail_if_success (with_reducible show wpAny _ _ (eval (Expr.ListComp _ _ _ _) _) _ _ _)); (fail_if_success (with_reducible show Exists _)); (fail_if_success (with_reducible show LCg.CompEnd _ _ _ _ _ _ _ _ _ _ _ _ _ _)); first | walk1 | (dsimp only; walk1))))
    refine esign ⟨X.keeps F.keep, T.keeps F.keep⟩ (by omega) c m _ _ (fun h' tk' t'' e => ?_)
    k_unfold
    refine ⟨h', tk', [(L + 1, oc)], rfl, F.keeps e, N.grown e, off, trivial, rfl, ?_⟩
    rw [List.take_add_one, List.map_append, Array.getElem?_toList, hc]
    exact kct_snoc hys
  · rintro D ys news h tk ⟨rfl, hys⟩ F N off
    have hys : StrsAre ys (x.cps.toList.map fun c => S (escSign m c)) := by rw [← Array.length_toList, List.take_length] at hys; exact hys
    (repeat' (first | ((fail_if_success (with_reducible show wpAny _ _ (eval (Expr.ListComp _ _ _ _) _) _ _ _)); (fail_if_success (with_reducible show Exists _)); (fail_if_success (with_reducible show LCg.CompEnd _ _ _ _ _ _ _ _ _ _ _ _ _ _)); first | walk1 | (dsimp only; walk1))))
    refine join_list (ys := x.cps.toList.map fun c => S (escSign m c)) (N.isList (.head _)) hys ?_ (fun t' tk' => ?_)
    · have h1 := sum_len_le (escSign m) 4 x.cps.toList fun c _ => escSign_len m c
      rw [List.length_map, show (Str.ofString "").length = 0 from rfl, Nat.mul_zero, Nat.add_zero]
      rw [Array.length_toList] at h1
      exact Nat.le_trans h1 (by omega)
    · dsimp only [Ret]
      have e : Txt.join (Str.ofString "") (x.cps.toList.map fun c => S (escSign m c)) = S (escT m x.cps.toList) := by
        have := join_S [] (x.cps.toList.map (escSign m))
        rw [List.map_map, joinL_nil] at this
        exact this
      rw [e]
      exact ret _ _ _ F.keep
section
variable {prog : Program} {w : World} {A : Around} {E : Value → Shared → Prop} {s : Shared} {Q : Value → Shared → Prop} {a tp : Addr}
theorem isi_tup (hx : s.TypeIs (.ref a) "tuple") (ht : s.heap.get? tp = some { cls := .type "tuple", data := .seq [Value.type "tuple", Value.type "list"].toArray }) (h : ∀ tk, Q (.bool true) { s with toks := tk }) :
    wpAny (model prog w) A (call (.builtin "isinstance") [.ref a, .ref tp]) Q E s := IsiPair.tupleOfB (vs := [true, false]) (by pv_isi_answers) hx ht rfl h
theorem isi_lst (hx : s.TypeIs (.ref a) "list") (ht : s.heap.get? tp = some { cls := .type "tuple", data := .seq [Value.type "tuple", Value.type "list"].toArray }) (h : ∀ tk, Q (.bool true) { s with toks := tk }) :
    wpAny (model prog w) A (call (.builtin "isinstance") [.ref a, .ref tp]) Q E s := IsiPair.tupleOfB (vs := [false, true]) (by pv_isi_answers) hx ht rfl h
theorem log_small {i : Int} (h : i.natAbs < 10 ^ 24) : i.natAbs.log2 < 1920 := by
  by_cases h0 : i.natAbs = 0
  · rw [h0]; decide
  · exact (Nat.log2_lt h0).mpr (Nat.lt_trans h (by decide))
end
mutual
noncomputable def showL : Dat → List Nat
  | .none => [110, 111, 110, 101]
  | .bool _ => []
  | .bytes _ => []
  | .int i => (Str.ofString (toString i)).cps.toList
  | .str x => [34] ++ escT 34 x.cps.toList ++ [34]
  | .tuple ds => [91] ++ joinL [44, 32] (showLs ds) ++ [93]
  | .list ds => [91] ++ joinL [44, 32] (showLs ds) ++ [93]
noncomputable def showLs : List Dat → List (List Nat)
  | [] => []
  | d :: r => showL d :: showLs r
end
mutual
/-- the values that the law draws, to a height -/
noncomputable def okD : Nat → Dat → Prop
  | _, .none => True
  | _, .bool _ => False
  | _, .bytes _ => False
  | _, .int i => i.natAbs < 10 ^ 24
  | _, .str x => x.cps.size ≤ 4 ∧ ∀ c ∈ x.cps.toList, c < 256 ∨ c = 955
  | 0, .tuple _ => False
  | 0, .list _ => False
  | n + 1, .tuple ds => ds.length ≤ 3 ∧ okDs n ds
  | n + 1, .list ds => ds.length ≤ 3 ∧ okDs n ds
noncomputable def okDs : Nat → List Dat → Prop
  | _, [] => True
  | n, d :: r => okD n d ∧ okDs n r
end
noncomputable def SpecV (f : Addr) (out : Dat → List Nat) (n : Nat) (d : Dat) : Prop := ∀ {w : World} {dp un : Nat} {s : Shared} {Q E : Value → Shared → Prop} {mean mg mb} {τ : List (Addr × Obj)} {v : Value} (O : Ok w s.heap mean mg mb) (H : Holds s.heap τ) (R : DatIn τ v d) (hn : n ≤ 3) (hd : dp + n + 5 < recursionLimit) (hu : un + 4 * n + 50 < cLine)
  (ret : ∀ h' tk' t', Ext s.heap h' → Q (.str (S (out d)) t') { s with heap := h', toks := tk' }),
  wpAny (model PR w) (AA dp un) (call (.ref f) [v]) Q E s
theorem showLs_eq : ∀ ds : List Dat, showLs ds = ds.map showL
  | [] => rfl
  | d :: r => by rw [showLs, showLs_eq r, List.map_cons]
theorem okDs_get : ∀ {n : Nat} {ds : List Dat}, okDs n ds → ∀ {i : Nat} (hi : i < ds.length), okD n (ds[i]'hi)
  | n, d :: r, h, 0, _ => h.1
  | n, d :: r, h, i + 1, hi => okDs_get h.2 (Nat.lt_of_succ_lt_succ hi)
theorem dat_at {τ : List (Addr × Obj)} {vs : List Value} {ds : List Dat} (h : DatAll τ vs ds) {i : Nat} {v : Value} (hi : i < vs.length) (hv : vs[i]? = some v) : ∃ hd : i < ds.length, DatIn τ v (ds[i]'hd) := by
  have hl : i < ds.length := by rw [← h.length]; exact hi
  obtain ⟨v', e, r⟩ := h.get hl
  rw [hv] at e; cases e
  exact ⟨hl, r⟩
theorem strs_snoc {α : Type} {ys : List Value} {f : α → List Nat} {ds : List α} {i : Nat} (hi : i < ds.length) {t : Tok} (h : StrsAre ys ((ds.take i).map fun d => S (f d))) :
    StrsAre (ys ++ [.str (S (f (ds[i]'hi))) t]) ((ds.take (i + 1)).map fun d => S (f d)) := by
  rw [List.take_add_one, List.map_append, List.getElem?_eq_getElem hi]
  exact kct_snoc h
noncomputable def lenB : Nat → Nat
  | 0 => 30
  | n + 1 => 3 * lenB n + 10
theorem escT_len (m : Nat) (cs : List Nat) : (escT m cs).length ≤ 4 * cs.length := by
  induction cs with
  | nil => simp [escT]
  | cons c r ih => simp only [escT, List.flatMap_cons, List.length_append, List.length_cons] at ih ⊢; have := escSign_len m c; omega
theorem lenB_30 : ∀ n, 30 ≤ lenB n
  | 0 => Nat.le_refl _
  | n + 1 => by have := lenB_30 n; simp only [lenB]; omega
theorem flat_len {sep : List Nat} {B : Nat} (hs : sep.length ≤ 2) : ∀ (l : List (List Nat)), (∀ x ∈ l, x.length ≤ B) → (l.flatMap fun p => sep ++ p).length ≤ l.length * (B + 2)
  | [], _ => by simp
  | a :: r, h => by
    have h1 := h a (List.mem_cons_self ..)
    have h2 := flat_len hs r fun x hx => h x (List.mem_cons_of_mem _ hx)
    simp only [List.flatMap_cons, List.length_append, List.length_cons, Nat.succ_mul]; omega
theorem joinL_len {sep : List Nat} {B : Nat} (hs : sep.length ≤ 2) (l : List (List Nat)) (h : ∀ x ∈ l, x.length ≤ B) : (joinL sep l).length ≤ l.length * (B + 2) := by
  cases l with
  | nil => simp [joinL]
  | cons a r =>
    have h1 := h a (List.mem_cons_self ..)
    have h2 := flat_len hs r fun x hx => h x (List.mem_cons_of_mem _ hx)
    simp only [joinL, List.length_append, List.length_cons, Nat.succ_mul]; omega
theorem int_text_len {i : Int} (h : i.natAbs < 10 ^ 24) : (Str.ofString (toString i)).cps.toList.length ≤ 25 := by
  have h1 := PySem.int_text_length_le10 (k := 24) (by decide) h
  have h2 := PySem.ofString_length (toString i)
  have h3 : (Str.ofString (toString i)).cps.toList.length = (Str.ofString (toString i)).length := Array.length_toList
  omega
mutual
theorem showL_len : ∀ (n : Nat) (d : Dat), okD n d → (showL d).length ≤ lenB n
  | n, .none, _ => by have := lenB_30 n; simp only [showL, List.length_cons, List.length_nil]; omega
  | n, .int i, h => by have := lenB_30 n; have := int_text_len h; simp only [showL]; omega
  | n, .str x, h => by
    have := lenB_30 n; have h1 := h.1; have h2 := escT_len 34 x.cps.toList
    have hz : x.cps.toList.length = x.cps.size := Array.length_toList
    simp only [showL, List.length_append, List.length_cons, List.length_nil]; omega
  | n + 1, .tuple ds, h => by
    have h2 := joinL_len (sep := [44, 32]) (B := lenB n) (by decide) (showLs ds) (showLs_len n ds h.2)
    have h3 : (showLs ds).length = ds.length := by rw [showLs_eq]; exact List.length_map _
    have h4 : ds.length * (lenB n + 2) ≤ 3 * (lenB n + 2) := Nat.mul_le_mul_right _ h.1
    rw [h3] at h2
    simp only [showL, List.length_append, List.length_cons, List.length_nil, lenB]; omega
  | n + 1, .list ds, h => by
    have h2 := joinL_len (sep := [44, 32]) (B := lenB n) (by decide) (showLs ds) (showLs_len n ds h.2)
    have h3 : (showLs ds).length = ds.length := by rw [showLs_eq]; exact List.length_map _
    have h4 : ds.length * (lenB n + 2) ≤ 3 * (lenB n + 2) := Nat.mul_le_mul_right _ h.1
    rw [h3] at h2
    simp only [showL, List.length_append, List.length_cons, List.length_nil, lenB]; omega
theorem showLs_len : ∀ (n : Nat) (ds : List Dat), okDs n ds → ∀ x ∈ showLs ds, x.length ≤ lenB n
  | n, [], _, _, h => nomatch h
  | n, d :: r, h, x, hx => by
    rw [showLs] at hx
    rcases List.mem_cons.mp hx with rfl | hx
    · exact showL_len n d h.1
    · exact showLs_len n r h.2 x hx
end
theorem okDs_mem : ∀ {n : Nat} {ds : List Dat}, okDs n ds → ∀ d ∈ ds, okD n d
  | n, d :: r, h, x, hx => by
    rcases List.mem_cons.mp hx with rfl | hx
    · exact h.1
    · exact okDs_mem h.2 x hx
theorem lenB_3 {n : Nat} (h : n ≤ 3) : lenB n ≤ 940 := by
  have : n = 0 ∨ n = 1 ∨ n = 2 ∨ n = 3 := by omega
  rcases this with rfl | rfl | rfl | rfl <;> decide
theorem len_S (l : List Nat) : (S l).length = l.length := by show l.toArray.size = _; simp
theorem join_shown (ds : List Dat) : Txt.join (Str.ofString ", ") (ds.map fun d => S (showL d)) = S (joinL [44, 32] (showLs ds)) := by
  have := join_S [44, 32] (showLs ds)
  rw [showLs_eq, List.map_map] at this
  rw [showLs_eq]
  exact this
theorem joinL_shown_len {n : Nat} {ds : List Dat} (h : okDs n ds) (hds : ds.length ≤ 3) (hn : n ≤ 3) : (joinL [44, 32] (showLs ds)).length ≤ 3000 := by
  have h1 := lenB_3 hn
  have h2 := joinL_len (sep := [44, 32]) (B := lenB n) (by decide) (showLs ds) (showLs_len n ds h)
  have h3 : (showLs ds).length = ds.length := by rw [showLs_eq]; exact List.length_map _
  have h4 : ds.length * (lenB n + 2) ≤ 3 * (lenB n + 2) := Nat.mul_le_mul_right _ hds
  rw [h3] at h2
  omega
theorem join_ok {n : Nat} {ds : List Dat} (h : okDs n ds) (hds : ds.length ≤ 3) (hn : n ≤ 3) : ((ds.map fun d => S (showL d)).map (·.length)).sum + (ds.map fun d => S (showL d)).length * (Str.ofString ", ").length ≤ 16777216 := by
  have h1 := lenB_3 hn
  have h2 := sum_len_le showL (lenB n) ds fun d hd => showL_len n d (okDs_mem h d hd)
  have h3 : ds.length * lenB n ≤ 3 * 940 := Nat.mul_le_mul hds h1
  rw [List.length_map, show (Str.ofString ", ").length = 2 from by decide +kernel]
  omega
theorem str_int_S (i : Int) : Str.ofString (toString i) = S (showL (.int i)) := by
  show _ = PySem.Str.mk (Str.ofString (toString i)).cps.toList.toArray
  rw [Array.toArray_toList]
theorem show_str_S (x : Str) : Str.ofString "\"" ++ S (escT 34 x.cps.toList) ++ Str.ofString "\"" = S (showL (.str x)) := by
  rw [show Str.ofString "\"" = S [34] from by decide +kernel, app_S, app_S]; rfl
theorem show_seq_S (l : List Nat) : Str.ofString "[" ++ S l ++ Str.ofString "]" = S ([91] ++ l ++ [93]) := by
  rw [show Str.ofString "[" = S [91] from by decide +kernel, show Str.ofString "]" = S [93] from by decide +kernel, app_S, app_S]
theorem showV_step (n : Nat) (ih : ∀ m, n = m + 1 → ∀ d, okD m d → SpecV 217 showL m d) : ∀ (d : Dat), okD n d → SpecV 217 showL n d := by
  intro d hok w dp un s Q E mean mg mb τ v O H R hn hd hu ret
  obtain ⟨X, T⟩ := O
  have ret' : ∀ x h' tk' t', x = S (showL d) → Ext s.heap h' → Q (.str x t') { s with heap := h', toks := tk' } := fun x h' tk' t' e k => e ▸ ret h' tk' t' k
  clear ret
  refine enter [("value", v)] s.heap (Ext.refl _) rfl X T.nolimit (by k_is) (by k_is) (by omega) (BindsTo.of_eq rfl) (locs rfl) (fun L h₁ F k hL => ?_)
  have N : News s.heap L h₁ [] := News.nil
  cases R with
  | none =>
    (repeat' (first | ((fail_if_success (with_reducible show wpAny _ _ (eval (Expr.ListComp _ _ _ _) _) _ _ _)); (fail_if_success (with_reducible show Exists _)); (fail_if_success (with_reducible show LCg.CompEnd _ _ _ _ _ _ _ _ _ _ _ _ _ _)); first | with_reducible (((with_reducible show wpAny _ _ (call (Value.type "str") [Value.int _ _]) _ _ _); refine PySem.P.str_of_int (by assumption) ?_)) | walk1 | (((with_reducible show wpAny _ _ (call (Value.builtin "isinstance") [Value.ref _, Value.ref _]) _ _ _); first | refine isi_tup (Heap.IsTuple.typeIs (Heap.IsTuple.at (by assumption) (fun o e => Fr.keep (by assumption) _ o e))) (News.get (by assumption) (.head _)) ?_ | refine isi_lst (Heap.IsList.typeIs (Heap.IsList.at (by assumption) (fun o e => Fr.keep (by assumption) _ o e))) (News.get (by assumption) (.head _)) ?_; intro _)) | (dsimp only; walk1))))
    all_goals (try dsimp only [Ret])
    exact ret' _ _ _ _ (by decide +kernel) F.keep
  | bool b => exact hok.elim
  | bytes b t => exact hok.elim
  | int i t =>
    have hlog := log_small hok
    (repeat' (first | ((fail_if_success (with_reducible show wpAny _ _ (eval (Expr.ListComp _ _ _ _) _) _ _ _)); (fail_if_success (with_reducible show Exists _)); (fail_if_success (with_reducible show LCg.CompEnd _ _ _ _ _ _ _ _ _ _ _ _ _ _)); first | with_reducible (((with_reducible show wpAny _ _ (call (Value.type "str") [Value.int _ _]) _ _ _); refine PySem.P.str_of_int (by assumption) ?_)) | walk1 | (((with_reducible show wpAny _ _ (call (Value.builtin "isinstance") [Value.ref _, Value.ref _]) _ _ _); first | refine isi_tup (Heap.IsTuple.typeIs (Heap.IsTuple.at (by assumption) (fun o e => Fr.keep (by assumption) _ o e))) (News.get (by assumption) (.head _)) ?_ | refine isi_lst (Heap.IsList.typeIs (Heap.IsList.at (by assumption) (fun o e => Fr.keep (by assumption) _ o e))) (News.get (by assumption) (.head _)) ?_; intro _)) | (dsimp only; walk1))))
    all_goals (try dsimp only [Ret])
    exact ret' _ _ _ _ (str_int_S i) (Fr.keep (by assumption))
  | str x t =>
    (repeat' (first | ((fail_if_success (with_reducible show wpAny _ _ (eval (Expr.ListComp _ _ _ _) _) _ _ _)); (fail_if_success (with_reducible show Exists _)); (fail_if_success (with_reducible show LCg.CompEnd _ _ _ _ _ _ _ _ _ _ _ _ _ _)); first | with_reducible (((with_reducible show wpAny _ _ (call (Value.type "str") [Value.int _ _]) _ _ _); refine PySem.P.str_of_int (by assumption) ?_)) | walk1 | (((with_reducible show wpAny _ _ (call (Value.builtin "isinstance") [Value.ref _, Value.ref _]) _ _ _); first | refine isi_tup (Heap.IsTuple.typeIs (Heap.IsTuple.at (by assumption) (fun o e => Fr.keep (by assumption) _ o e))) (News.get (by assumption) (.head _)) ?_ | refine isi_lst (Heap.IsList.typeIs (Heap.IsList.at (by assumption) (fun o e => Fr.keep (by assumption) _ o e))) (News.get (by assumption) (.head _)) ?_; intro _)) | (dsimp only; walk1))))
    refine escd ⟨X.keeps F.keep, T.keeps F.keep⟩ (by omega) x 34 _ _ (by have := hok.1; omega) (fun h' tk' t'' e => ?_)
    have F := F.keeps e
    have N := N.grown e
    have hlz : (S (escT 34 x.cps.toList)).length ≤ 16 := by have h1 := escT_len 34 x.cps.toList; have h2 := hok.1; have hz : x.cps.toList.length = x.cps.size := Array.length_toList; rw [len_S]; omega
    (repeat' (first | ((fail_if_success (with_reducible show wpAny _ _ (eval (Expr.ListComp _ _ _ _) _) _ _ _)); (fail_if_success (with_reducible show Exists _)); (fail_if_success (with_reducible show LCg.CompEnd _ _ _ _ _ _ _ _ _ _ _ _ _ _)); first | with_reducible (((with_reducible show wpAny _ _ (call (Value.type "str") [Value.int _ _]) _ _ _); refine PySem.P.str_of_int (by assumption) ?_)) | walk1 | (((with_reducible show wpAny _ _ (call (Value.builtin "isinstance") [Value.ref _, Value.ref _]) _ _ _); first | refine isi_tup (Heap.IsTuple.typeIs (Heap.IsTuple.at (by assumption) (fun o e => Fr.keep (by assumption) _ o e))) (News.get (by assumption) (.head _)) ?_ | refine isi_lst (Heap.IsList.typeIs (Heap.IsList.at (by assumption) (fun o e => Fr.keep (by assumption) _ o e))) (News.get (by assumption) (.head _)) ?_; intro _)) | (dsimp only; walk1))))
    all_goals (try dsimp only [Ret])
    exact ret' _ _ _ _ (show_str_S x) F.keep
  | @tuple a vs nn ds hm hr =>
    have ht : s.heap.IsTuple a vs.toArray := ⟨_, H _ hm, rfl, _, rfl⟩
    cases n with | zero => exact hok.elim | succ n => ?_
    obtain ⟨hds, hok⟩ := hok
    (repeat' (first | ((fail_if_success (with_reducible show wpAny _ _ (eval (Expr.ListComp _ _ _ _) _) _ _ _)); (fail_if_success (with_reducible show Exists _)); (fail_if_success (with_reducible show LCg.CompEnd _ _ _ _ _ _ _ _ _ _ _ _ _ _)); first | with_reducible (((with_reducible show wpAny _ _ (call (Value.type "str") [Value.int _ _]) _ _ _); refine PySem.P.str_of_int (by assumption) ?_)) | walk1 | (((with_reducible show wpAny _ _ (call (Value.builtin "isinstance") [Value.ref _, Value.ref _]) _ _ _); first | refine isi_tup (Heap.IsTuple.typeIs (Heap.IsTuple.at (by assumption) (fun o e => Fr.keep (by assumption) _ o e))) (News.get (by assumption) (.head _)) ?_ | refine isi_lst (Heap.IsList.typeIs (Heap.IsList.at (by assumption) (fun o e => Fr.keep (by assumption) _ o e))) (News.get (by assumption) (.head _)) ?_; intro _)) | (dsimp only; walk1))))
    refine comp (h₀ := s.heap) (L := L) (fun i ys news => StrsAre ys ((ds.take i).map fun d => S (showL d))) (by assumption) rfl ?_ (by with_unfolding_all rfl) (by decide) (by rfl) (by decide) (by rfl)
    first | with_reducible (((with_reducible show wpAny _ _ (call (Value.type "str") [Value.int _ _]) _ _ _); refine PySem.P.str_of_int (by assumption) ?_)) | walk1 | (((with_reducible show wpAny _ _ (call (Value.builtin "isinstance") [Value.ref _, Value.ref _]) _ _ _); first | refine isi_tup (Heap.IsTuple.typeIs (Heap.IsTuple.at (by assumption) (fun o e => Fr.keep (by assumption) _ o e))) (News.get (by assumption) (.head _)) ?_ | refine isi_lst (Heap.IsList.typeIs (Heap.IsList.at (by assumption) (fun o e => Fr.keep (by assumption) _ o e))) (News.get (by assumption) (.head _)) ?_; intro _))
    have hlen := hr.length
    refine ⟨_, _, [], (by assumption), News.nil, .tup ht, (by rw [PySem.sizeLine_eq, List.size_toArray]; omega), .nil, ?_, ?_⟩
    · rintro i v ys news I oI C oC D m₂ h tk E' hi hv hys hC hx F N off ne
      obtain ⟨hi', R'⟩ := dat_at hr (by simpa using hi) (by simpa using hv)
      (repeat' (first | ((fail_if_success (with_reducible show wpAny _ _ (eval (Expr.ListComp _ _ _ _) _) _ _ _)); (fail_if_success (with_reducible show Exists _)); (fail_if_success (with_reducible show LCg.CompEnd _ _ _ _ _ _ _ _ _ _ _ _ _ _)); first | with_reducible (((with_reducible show wpAny _ _ (call (Value.type "str") [Value.int _ _]) _ _ _); refine PySem.P.str_of_int (by assumption) ?_)) | walk1 | (((with_reducible show wpAny _ _ (call (Value.builtin "isinstance") [Value.ref _, Value.ref _]) _ _ _); first | refine isi_tup (Heap.IsTuple.typeIs (Heap.IsTuple.at (by assumption) (fun o e => Fr.keep (by assumption) _ o e))) (News.get (by assumption) (.head _)) ?_ | refine isi_lst (Heap.IsList.typeIs (Heap.IsList.at (by assumption) (fun o e => Fr.keep (by assumption) _ o e))) (News.get (by assumption) (.head _)) ?_; intro _)) | (dsimp only; walk1))))
      refine ih n rfl _ (okDs_get hok hi') ⟨X.keeps F.keep, T.keeps F.keep⟩ (H.keeps F.keep) R' (by omega) (by omega) (by omega) (fun h' tk' t'' e => ?_)
      k_unfold
      exact ⟨h', tk', _, rfl, F.keeps e, N.grown e, off, trivial, strs_snoc hi' hys⟩
    · rintro D ys news h tk hys F N off
      have hys : StrsAre ys (ds.map fun d => S (showL d)) := by rw [List.size_toArray, hlen, List.take_length] at hys; exact hys
      (repeat' (first | ((fail_if_success (with_reducible show wpAny _ _ (eval (Expr.ListComp _ _ _ _) _) _ _ _)); (fail_if_success (with_reducible show Exists _)); (fail_if_success (with_reducible show LCg.CompEnd _ _ _ _ _ _ _ _ _ _ _ _ _ _)); first | with_reducible (((with_reducible show wpAny _ _ (call (Value.type "str") [Value.int _ _]) _ _ _); refine PySem.P.str_of_int (by assumption) ?_)) | walk1 | (((with_reducible show wpAny _ _ (call (Value.builtin "isinstance") [Value.ref _, Value.ref _]) _ _ _); first | refine isi_tup (Heap.IsTuple.typeIs (Heap.IsTuple.at (by assumption) (fun o e => Fr.keep (by assumption) _ o e))) (News.get (by assumption) (.head _)) ?_ | refine isi_lst (Heap.IsList.typeIs (Heap.IsList.at (by assumption) (fun o e => Fr.keep (by assumption) _ o e))) (News.get (by assumption) (.head _)) ?_; intro _)) | (dsimp only; walk1))))
      refine join_list (N.isList (.head _)) hys (join_ok hok hds (by omega)) (fun t' tk' => ?_)
      rw [join_shown]
      have hlj : (S (joinL [44, 32] (showLs ds))).length ≤ 3000 := by rw [len_S]; exact joinL_shown_len hok hds (by omega)
      (repeat' (first | ((fail_if_success (with_reducible show wpAny _ _ (eval (Expr.ListComp _ _ _ _) _) _ _ _)); (fail_if_success (with_reducible show Exists _)); (fail_if_success (with_reducible show LCg.CompEnd _ _ _ _ _ _ _ _ _ _ _ _ _ _)); first | with_reducible (((with_reducible show wpAny _ _ (call (Value.type "str") [Value.int _ _]) _ _ _); refine PySem.P.str_of_int (by assumption) ?_)) | walk1 | (((with_reducible show wpAny _ _ (call (Value.builtin "isinstance") [Value.ref _, Value.ref _]) _ _ _); first | refine isi_tup (Heap.IsTuple.typeIs (Heap.IsTuple.at (by assumption) (fun o e => Fr.keep (by assumption) _ o e))) (News.get (by assumption) (.head _)) ?_ | refine isi_lst (Heap.IsList.typeIs (Heap.IsList.at (by assumption) (fun o e => Fr.keep (by assumption) _ o e))) (News.get (by assumption) (.head _)) ?_; intro _)) | (dsimp only; walk1))))
      all_goals (try dsimp only [Ret])
      exact ret' _ _ _ _ (show_seq_S _) F.keep
  | @list a vs nn ds hm hr =>
    have ht : s.heap.IsList a vs.toArray := ⟨_, H _ hm, rfl, _, rfl⟩
    cases n with | zero => exact hok.elim | succ n => ?_
    obtain ⟨hds, hok⟩ := hok
    (repeat' (first | ((fail_if_success (with_reducible show wpAny _ _ (eval (Expr.ListComp _ _ _ _) _) _ _ _)); (fail_if_success (with_reducible show Exists _)); (fail_if_success (with_reducible show LCg.CompEnd _ _ _ _ _ _ _ _ _ _ _ _ _ _)); first | with_reducible (((with_reducible show wpAny _ _ (call (Value.type "str") [Value.int _ _]) _ _ _); refine PySem.P.str_of_int (by assumption) ?_)) | walk1 | (((with_reducible show wpAny _ _ (call (Value.builtin "isinstance") [Value.ref _, Value.ref _]) _ _ _); first | refine isi_tup (Heap.IsTuple.typeIs (Heap.IsTuple.at (by assumption) (fun o e => Fr.keep (by assumption) _ o e))) (News.get (by assumption) (.head _)) ?_ | refine isi_lst (Heap.IsList.typeIs (Heap.IsList.at (by assumption) (fun o e => Fr.keep (by assumption) _ o e))) (News.get (by assumption) (.head _)) ?_; intro _)) | (dsimp only; walk1))))
    refine comp (h₀ := s.heap) (L := L) (fun i ys news => StrsAre ys ((ds.take i).map fun d => S (showL d))) (by assumption) rfl ?_ (by with_unfolding_all rfl) (by decide) (by rfl) (by decide) (by rfl)
    first | with_reducible (((with_reducible show wpAny _ _ (call (Value.type "str") [Value.int _ _]) _ _ _); refine PySem.P.str_of_int (by assumption) ?_)) | walk1 | (((with_reducible show wpAny _ _ (call (Value.builtin "isinstance") [Value.ref _, Value.ref _]) _ _ _); first | refine isi_tup (Heap.IsTuple.typeIs (Heap.IsTuple.at (by assumption) (fun o e => Fr.keep (by assumption) _ o e))) (News.get (by assumption) (.head _)) ?_ | refine isi_lst (Heap.IsList.typeIs (Heap.IsList.at (by assumption) (fun o e => Fr.keep (by assumption) _ o e))) (News.get (by assumption) (.head _)) ?_; intro _))
    have hlen := hr.length
    refine ⟨_, _, [], (by assumption), News.nil, .lst ht, (by rw [PySem.sizeLine_eq, List.size_toArray]; omega), .nil, ?_, ?_⟩
    · rintro i v ys news I oI C oC D m₂ h tk E' hi hv hys hC hx F N off ne
      obtain ⟨hi', R'⟩ := dat_at hr (by simpa using hi) (by simpa using hv)
      (repeat' (first | ((fail_if_success (with_reducible show wpAny _ _ (eval (Expr.ListComp _ _ _ _) _) _ _ _)); (fail_if_success (with_reducible show Exists _)); (fail_if_success (with_reducible show LCg.CompEnd _ _ _ _ _ _ _ _ _ _ _ _ _ _)); first | with_reducible (((with_reducible show wpAny _ _ (call (Value.type "str") [Value.int _ _]) _ _ _); refine PySem.P.str_of_int (by assumption) ?_)) | walk1 | (((with_reducible show wpAny _ _ (call (Value.builtin "isinstance") [Value.ref _, Value.ref _]) _ _ _); first | refine isi_tup (Heap.IsTuple.typeIs (Heap.IsTuple.at (by assumption) (fun o e => Fr.keep (by assumption) _ o e))) (News.get (by assumption) (.head _)) ?_ | refine isi_lst (Heap.IsList.typeIs (Heap.IsList.at (by assumption) (fun o e => Fr.keep (by assumption) _ o e))) (News.get (by assumption) (.head _)) ?_; intro _)) | (dsimp only; walk1))))
      refine ih n rfl _ (okDs_get hok hi') ⟨X.keeps F.keep, T.keeps F.keep⟩ (H.keeps F.keep) R' (by omega) (by omega) (by omega) (fun h' tk' t'' e => ?_)
      k_unfold
      exact ⟨h', tk', _, rfl, F.keeps e, N.grown e, off, trivial, strs_snoc hi' hys⟩
    · rintro D ys news h tk hys F N off
      have hys : StrsAre ys (ds.map fun d => S (showL d)) := by rw [List.size_toArray, hlen, List.take_length] at hys; exact hys
      (repeat' (first | ((fail_if_success (with_reducible show wpAny _ _ (eval (Expr.ListComp _ _ _ _) _) _ _ _)); (fail_if_success (with_reducible show Exists _)); (fail_if_success (with_reducible show LCg.CompEnd _ _ _ _ _ _ _ _ _ _ _ _ _ _)); first | with_reducible (((with_reducible show wpAny _ _ (call (Value.type "str") [Value.int _ _]) _ _ _); refine PySem.P.str_of_int (by assumption) ?_)) | walk1 | (((with_reducible show wpAny _ _ (call (Value.builtin "isinstance") [Value.ref _, Value.ref _]) _ _ _); first | refine isi_tup (Heap.IsTuple.typeIs (Heap.IsTuple.at (by assumption) (fun o e => Fr.keep (by assumption) _ o e))) (News.get (by assumption) (.head _)) ?_ | refine isi_lst (Heap.IsList.typeIs (Heap.IsList.at (by assumption) (fun o e => Fr.keep (by assumption) _ o e))) (News.get (by assumption) (.head _)) ?_; intro _)) | (dsimp only; walk1))))
      refine join_list (N.isList (.head _)) hys (join_ok hok hds (by omega)) (fun t' tk' => ?_)
      rw [join_shown]
      have hlj : (S (joinL [44, 32] (showLs ds))).length ≤ 3000 := by rw [len_S]; exact joinL_shown_len hok hds (by omega)
      (repeat' (first | ((fail_if_success (with_reducible show wpAny _ _ (eval (Expr.ListComp _ _ _ _) _) _ _ _)); (fail_if_success (with_reducible show Exists _)); (fail_if_success (with_reducible show LCg.CompEnd _ _ _ _ _ _ _ _ _ _ _ _ _ _)); first | with_reducible (((with_reducible show wpAny _ _ (call (Value.type "str") [Value.int _ _]) _ _ _); refine PySem.P.str_of_int (by assumption) ?_)) | walk1 | (((with_reducible show wpAny _ _ (call (Value.builtin "isinstance") [Value.ref _, Value.ref _]) _ _ _); first | refine isi_tup (Heap.IsTuple.typeIs (Heap.IsTuple.at (by assumption) (fun o e => Fr.keep (by assumption) _ o e))) (News.get (by assumption) (.head _)) ?_ | refine isi_lst (Heap.IsList.typeIs (Heap.IsList.at (by assumption) (fun o e => Fr.keep (by assumption) _ o e))) (News.get (by assumption) (.head _)) ?_; intro _)) | (dsimp only; walk1))))
      all_goals (try dsimp only [Ret])
      exact ret' _ _ _ _ (show_seq_S _) F.keep
theorem showV : ∀ (n : Nat) (d : Dat), okD n d → SpecV 217 showL n d := by
  intro n
  induction n with
  | zero => exact showV_step 0 (fun m h => nomatch h)
  | succ n ih => exact showV_step (n + 1) (fun m h => by cases h; exact ih)
theorem strs_len {ys : List Value} {zs : List Str} (h : StrsAre ys zs) : ys.length = zs.length := by
  induction h with
  | nil => rfl
  | cons _ _ _ ih => rw [List.length_cons, List.length_cons, ih]
theorem push_S (ys : List Value) (v : Value) : ys.toArray.push v = (ys ++ [v]).toArray := by simp
noncomputable def mEsc (base : Str → Option Value) (D : Addr) (cv sv : Option Value) : Str → Option Value := fun y => if y = Str.ofString "code" then cv else if y = Str.ofString "sign" then sv else if y = Str.ofString "signs" then some (.ref D) else base y
theorem mEsc_set (base : Str → Option Value) (D : Addr) (cv sv a b : Option Value) : (fun y => if y = Str.ofString "code" then a else if y = Str.ofString "sign" then b else mEsc base D cv sv y) = mEsc base D a b := by
  funext y; unfold mEsc
  split
  · rfl
  · split
    · rfl
    · rfl
theorem esc_join_ok (m : Nat) (x : Str) (hx : x.cps.size ≤ 100000) : ((x.cps.toList.map fun c => S (escSign m c)).map (·.length)).sum + (x.cps.toList.map fun c => S (escSign m c)).length * (Str.ofString "").length ≤ 16777216 := by
  have h1 := sum_len_le (escSign m) 4 x.cps.toList fun c _ => escSign_len m c
  rw [List.length_map, show (Str.ofString "").length = 0 from rfl, Nat.mul_zero, Nat.add_zero]
  rw [Array.length_toList] at h1
  exact Nat.le_trans h1 (by omega)
theorem esc_join (m : Nat) (x : Str) : Txt.join (Str.ofString "") (x.cps.toList.map fun c => S (escSign m c)) = S (escT m x.cps.toList) := by
  have := join_S [] (x.cps.toList.map (escSign m))
  rw [List.map_map, joinL_nil] at this
  exact this
theorem lawEsc {w : World} {dp un : Nat} {s : Shared} {Q E : Value → Shared → Prop} {mean mg mb} (O : Ok w s.heap mean mg mb) (hd : dp + 3 < recursionLimit)
  (x : Str) (m : Nat) (t u : Tok) (hx : x.cps.size ≤ 100000)
  (ret : ∀ h' tk' t', Ext s.heap h' → Q (.str (S (escT m x.cps.toList)) t') { s with heap := h', toks := tk' }) :
  wpAny (model PR w) (AA dp un) (call (.ref 315) [.str x t, .str ⟨#[m]⟩ u]) Q E s := by
  obtain ⟨X, T⟩ := O
  refine enter [("text", .str x t), ("marks", .str ⟨#[m]⟩ u)] s.heap (Ext.refl _) rfl X T.nolimit (by k_is) (by k_is) (by omega) (BindsTo.of_eq rfl) (locs rfl) (fun L h₁ F k hL => ?_)
  have N : News s.heap L h₁ [] := News.nil
  (repeat' (first | ((fail_if_success (with_reducible show wpAny _ _ (eval (Expr.ListComp _ _ _ _) _) _ _ _)); (fail_if_success (with_reducible show wpAny _ _ (exec (Stmt.For _ _ _ _ _) _) _ _ _)); (fail_if_success (with_reducible show wpAny _ _ (exec (Stmt.While _ _ _ _) _) _ _ _)); (fail_if_success (with_reducible show Exists _)); (fail_if_success (with_reducible show LCg.CompEnd _ _ _ _ _ _ _ _ _ _ _ _ _ _)); (fail_if_success (with_reducible show ForEnd _ _ _ _ _ _ _ _)); first | walk1 | (dsimp only; walk1))))
  refine forS s.heap (fun i m' news => ∃ D cv sv ys nn, m' = mEsc (fun y => List.lookup y [(Str.ofString "text", Value.str x t), (Str.ofString "marks", Value.str { cps := #[m] } u)].reverse) D cv sv ∧ news = [(D, W.listOf ys.toArray nn)] ∧ StrsAre ys ((x.cps.toList.take i).map fun c => S (escSign m c))) rfl ?_ (by rfl) (by rfl)
  walk1
  refine ⟨_, _, _, _, (by assumption), (by assumption), .str, ⟨_, none, none, [], 0, ?_, rfl, .nil⟩, ?_, ?_⟩
  · funext y; unfold mEsc
    by_cases h1 : y = Str.ofString "code"
    · subst h1; rfl
    · by_cases h2 : y = Str.ofString "sign"
      · subst h2; rfl
      · rw [if_neg h1, if_neg h2]
  · rintro i v m₁ news I oI h tk hi ⟨c, u', hc, rfl⟩ ⟨D, cv, sv, ys, nn, rfl, rfl, hys⟩ hne F N
    have hID : @Ne Nat I D := fun e => hne _ (.head _) e.symm
    have hyl : ys.toArray.size ≤ sizeLine := by
      have := strs_len hys
      rw [List.length_map, List.length_take] at this
      rw [PySem.sizeLine_eq, List.size_toArray]; omega
    have fin : ∀ (y : Str) (t9 : Tok) (cv' sv' : Option Value) (h9 : Heap) (tk9 : Nat) (s9 : Shared), y = S (escSign m c) → Fr s.heap L h9 (fun y => if y = Str.ofString "code" then cv' else if y = Str.ofString "sign" then sv' else mEsc (fun y => List.lookup y [(Str.ofString "text", Value.str x t), (Str.ofString "marks", Value.str { cps := #[m] } u)].reverse) D cv sv y) →
        News s.heap L h9 [(I, oI), (D, W.listOf (ys.toArray.push (.str y t9)) (nn + 1))] → ForEnd s.heap L I oI s9 (fun m' news => ∃ D cv sv ys nn, m' = mEsc (fun y => List.lookup y [(Str.ofString "text", Value.str x t), (Str.ofString "marks", Value.str { cps := #[m] } u)].reverse) D cv sv ∧ news = [(D, W.listOf ys.toArray nn)] ∧ StrsAre ys ((x.cps.toList.take (i + 1)).map fun c => S (escSign m c))) .next { s9 with heap := h9, toks := tk9 } := by
      intro y t9 cv' sv' h9 tk9 s9 hy F9 N9
      rw [mEsc_set] at F9
      rw [push_S] at N9
      refine ⟨rfl, h9, tk9, _, _, rfl, F9, N9, fun p hp => ?_, D, cv', sv', ys ++ [.str y t9], nn + 1, rfl, rfl, ?_⟩
      · rw [List.mem_singleton.mp hp]; exact Ne.symm hID
      · rw [List.take_add_one, List.map_append, Array.getElem?_toList, hc, hy]
        exact kct_snoc hys
    (repeat' (first | ((fail_if_success (with_reducible show wpAny _ _ (eval (Expr.ListComp _ _ _ _) _) _ _ _)); (fail_if_success (with_reducible show wpAny _ _ (exec (Stmt.For _ _ _ _ _) _) _ _ _)); (fail_if_success (with_reducible show wpAny _ _ (exec (Stmt.While _ _ _ _) _) _ _ _)); (fail_if_success (with_reducible show Exists _)); (fail_if_success (with_reducible show LCg.CompEnd _ _ _ _ _ _ _ _ _ _ _ _ _ _)); (fail_if_success (with_reducible show ForEnd _ _ _ _ _ _ _ _)); first | walk1 | (dsimp only; walk1))))
    all_goals refine fin _ _ _ _ _ _ _ ?_ (by assumption) (by assumption)
    all_goals (clear fin)
    all_goals (try rw [hexS_eq c (by omega)])
    all_goals (simp only [lit_n, lit_t, lit_b, lit_bn, lit_bt, sgn_eq, decide_eq_true_eq, decide_eq_false_iff_not] at *)
    all_goals (first | refine congrArg S ?_ | refine (app_S [92] [c]).trans (congrArg S ?_) | refine (rfl : _ = S [92, 110]).trans (congrArg S ?_) | refine (rfl : _ = S [92, 116]).trans (congrArg S ?_) | refine (rfl : _ = S [c]).trans (congrArg S ?_))
    all_goals (unfold escSign; (repeat' split) <;> first | rfl | omega)
  · rintro h tk m' news' F N ⟨D, cv, sv, ys, nn, rfl, rfl, hys⟩
    have hys : StrsAre ys (x.cps.toList.map fun c => S (escSign m c)) := by rw [← Array.length_toList, List.take_length] at hys; exact hys
    (repeat' (first | ((fail_if_success (with_reducible show wpAny _ _ (eval (Expr.ListComp _ _ _ _) _) _ _ _)); (fail_if_success (with_reducible show wpAny _ _ (exec (Stmt.For _ _ _ _ _) _) _ _ _)); (fail_if_success (with_reducible show wpAny _ _ (exec (Stmt.While _ _ _ _) _) _ _ _)); (fail_if_success (with_reducible show Exists _)); (fail_if_success (with_reducible show LCg.CompEnd _ _ _ _ _ _ _ _ _ _ _ _ _ _)); (fail_if_success (with_reducible show ForEnd _ _ _ _ _ _ _ _)); first | walk1 | (dsimp only; walk1))))
    refine join_list (ys := x.cps.toList.map fun c => S (escSign m c)) (N.isList (.head _)) hys ?_ (fun t' tk' => ?_)
    · exact esc_join_ok m x hx
    · dsimp only [Ret]
      rw [esc_join m x]
      exact ret _ _ _ F.keep
theorem shownV_step (n : Nat) (ih : ∀ m, n = m + 1 → ∀ d, okD m d → SpecV 320 showL m d) : ∀ (d : Dat), okD n d → SpecV 320 showL n d := by
  intro d hok w dp un s Q E mean mg mb τ v O H R hn hd hu ret
  obtain ⟨X, T⟩ := O
  have ret' : ∀ x h' tk' t', x = S (showL d) → Ext s.heap h' → Q (.str x t') { s with heap := h', toks := tk' } := fun x h' tk' t' e k => e ▸ ret h' tk' t' k
  clear ret
  refine enter [("value", v)] s.heap (Ext.refl _) rfl X T.nolimit (by k_is) (by k_is) (by omega) (BindsTo.of_eq rfl) (locs rfl) (fun L h₁ F k hL => ?_)
  have N : News s.heap L h₁ [] := News.nil
  cases R with
  | none =>
    (repeat' (first | ((fail_if_success (with_reducible show wpAny _ _ (eval (Expr.ListComp _ _ _ _) _) _ _ _)); (fail_if_success (with_reducible show wpAny _ _ (exec (Stmt.For _ _ _ _ _) _) _ _ _)); (fail_if_success (with_reducible show wpAny _ _ (exec (Stmt.While _ _ _ _) _) _ _ _)); (fail_if_success (with_reducible show Exists _)); (fail_if_success (with_reducible show LCg.CompEnd _ _ _ _ _ _ _ _ _ _ _ _ _ _)); (fail_if_success (with_reducible show ForEnd _ _ _ _ _ _ _ _)); first | with_reducible (((with_reducible show wpAny _ _ (call (Value.type "str") [Value.int _ _]) _ _ _); refine PySem.P.str_of_int (by assumption) ?_)) | walk1 | (dsimp only; walk1))))
    all_goals (try dsimp only [Ret])
    exact ret' _ _ _ _ (by decide +kernel) F.keep
  | bool b => exact hok.elim
  | bytes b t => exact hok.elim
  | int i t =>
    have hlog := log_small hok
    (repeat' (first | ((fail_if_success (with_reducible show wpAny _ _ (eval (Expr.ListComp _ _ _ _) _) _ _ _)); (fail_if_success (with_reducible show wpAny _ _ (exec (Stmt.For _ _ _ _ _) _) _ _ _)); (fail_if_success (with_reducible show wpAny _ _ (exec (Stmt.While _ _ _ _) _) _ _ _)); (fail_if_success (with_reducible show Exists _)); (fail_if_success (with_reducible show LCg.CompEnd _ _ _ _ _ _ _ _ _ _ _ _ _ _)); (fail_if_success (with_reducible show ForEnd _ _ _ _ _ _ _ _)); first | with_reducible (((with_reducible show wpAny _ _ (call (Value.type "str") [Value.int _ _]) _ _ _); refine PySem.P.str_of_int (by assumption) ?_)) | walk1 | (dsimp only; walk1))))
    all_goals (try dsimp only [Ret])
    exact ret' _ _ _ _ (str_int_S i) (Fr.keep (by assumption))
  | str x t =>
    (repeat' (first | ((fail_if_success (with_reducible show wpAny _ _ (eval (Expr.ListComp _ _ _ _) _) _ _ _)); (fail_if_success (with_reducible show wpAny _ _ (exec (Stmt.For _ _ _ _ _) _) _ _ _)); (fail_if_success (with_reducible show wpAny _ _ (exec (Stmt.While _ _ _ _) _) _ _ _)); (fail_if_success (with_reducible show Exists _)); (fail_if_success (with_reducible show LCg.CompEnd _ _ _ _ _ _ _ _ _ _ _ _ _ _)); (fail_if_success (with_reducible show ForEnd _ _ _ _ _ _ _ _)); first | with_reducible (((with_reducible show wpAny _ _ (call (Value.type "str") [Value.int _ _]) _ _ _); refine PySem.P.str_of_int (by assumption) ?_)) | walk1 | (dsimp only; walk1))))
    refine lawEsc ⟨X.keeps F.keep, T.keeps F.keep⟩ (by omega) x 34 _ _ (by have := hok.1; omega) (fun h' tk' t'' e => ?_)
    have F := F.keeps e
    have N := N.grown e
    have hlz : (S (escT 34 x.cps.toList)).length ≤ 16 := by have h1 := escT_len 34 x.cps.toList; have h2 := hok.1; have hz : x.cps.toList.length = x.cps.size := Array.length_toList; rw [len_S]; omega
    (repeat' (first | ((fail_if_success (with_reducible show wpAny _ _ (eval (Expr.ListComp _ _ _ _) _) _ _ _)); (fail_if_success (with_reducible show wpAny _ _ (exec (Stmt.For _ _ _ _ _) _) _ _ _)); (fail_if_success (with_reducible show wpAny _ _ (exec (Stmt.While _ _ _ _) _) _ _ _)); (fail_if_success (with_reducible show Exists _)); (fail_if_success (with_reducible show LCg.CompEnd _ _ _ _ _ _ _ _ _ _ _ _ _ _)); (fail_if_success (with_reducible show ForEnd _ _ _ _ _ _ _ _)); first | with_reducible (((with_reducible show wpAny _ _ (call (Value.type "str") [Value.int _ _]) _ _ _); refine PySem.P.str_of_int (by assumption) ?_)) | walk1 | (dsimp only; walk1))))
    all_goals (try dsimp only [Ret])
    exact ret' _ _ _ _ (show_str_S x) F.keep
  | @tuple a vs nn ds hm hr =>
    have ht : s.heap.IsTuple a vs.toArray := ⟨_, H _ hm, rfl, _, rfl⟩
    cases n with | zero => exact hok.elim | succ n => ?_
    obtain ⟨hds, hok⟩ := hok
    (repeat' (first | ((fail_if_success (with_reducible show wpAny _ _ (eval (Expr.ListComp _ _ _ _) _) _ _ _)); (fail_if_success (with_reducible show wpAny _ _ (exec (Stmt.For _ _ _ _ _) _) _ _ _)); (fail_if_success (with_reducible show wpAny _ _ (exec (Stmt.While _ _ _ _) _) _ _ _)); (fail_if_success (with_reducible show Exists _)); (fail_if_success (with_reducible show LCg.CompEnd _ _ _ _ _ _ _ _ _ _ _ _ _ _)); (fail_if_success (with_reducible show ForEnd _ _ _ _ _ _ _ _)); first | with_reducible (((with_reducible show wpAny _ _ (call (Value.type "str") [Value.int _ _]) _ _ _); refine PySem.P.str_of_int (by assumption) ?_)) | walk1 | (dsimp only; walk1))))
    refine comp (h₀ := s.heap) (L := L) (fun i ys news => StrsAre ys ((ds.take i).map fun d => S (showL d))) (by assumption) rfl ?_ (by with_unfolding_all rfl) (by decide) (by rfl) (by decide) (by rfl)
    first | with_reducible (((with_reducible show wpAny _ _ (call (Value.type "str") [Value.int _ _]) _ _ _); refine PySem.P.str_of_int (by assumption) ?_)) | walk1
    have hlen := hr.length
    refine ⟨_, _, [], (by assumption), News.nil, .tup ht, (by rw [PySem.sizeLine_eq, List.size_toArray]; omega), .nil, ?_, ?_⟩
    · rintro i v ys news I oI C oC D m₂ h tk E' hi hv hys hC hx F N off ne
      obtain ⟨hi', R'⟩ := dat_at hr (by simpa using hi) (by simpa using hv)
      (repeat' (first | ((fail_if_success (with_reducible show wpAny _ _ (eval (Expr.ListComp _ _ _ _) _) _ _ _)); (fail_if_success (with_reducible show wpAny _ _ (exec (Stmt.For _ _ _ _ _) _) _ _ _)); (fail_if_success (with_reducible show wpAny _ _ (exec (Stmt.While _ _ _ _) _) _ _ _)); (fail_if_success (with_reducible show Exists _)); (fail_if_success (with_reducible show LCg.CompEnd _ _ _ _ _ _ _ _ _ _ _ _ _ _)); (fail_if_success (with_reducible show ForEnd _ _ _ _ _ _ _ _)); first | with_reducible (((with_reducible show wpAny _ _ (call (Value.type "str") [Value.int _ _]) _ _ _); refine PySem.P.str_of_int (by assumption) ?_)) | walk1 | (dsimp only; walk1))))
      refine ih n rfl _ (okDs_get hok hi') ⟨X.keeps F.keep, T.keeps F.keep⟩ (H.keeps F.keep) R' (by omega) (by omega) (by omega) (fun h' tk' t'' e => ?_)
      k_unfold
      exact ⟨h', tk', _, rfl, F.keeps e, N.grown e, off, trivial, strs_snoc hi' hys⟩
    · rintro D ys news h tk hys F N off
      have hys : StrsAre ys (ds.map fun d => S (showL d)) := by rw [List.size_toArray, hlen, List.take_length] at hys; exact hys
      (repeat' (first | ((fail_if_success (with_reducible show wpAny _ _ (eval (Expr.ListComp _ _ _ _) _) _ _ _)); (fail_if_success (with_reducible show wpAny _ _ (exec (Stmt.For _ _ _ _ _) _) _ _ _)); (fail_if_success (with_reducible show wpAny _ _ (exec (Stmt.While _ _ _ _) _) _ _ _)); (fail_if_success (with_reducible show Exists _)); (fail_if_success (with_reducible show LCg.CompEnd _ _ _ _ _ _ _ _ _ _ _ _ _ _)); (fail_if_success (with_reducible show ForEnd _ _ _ _ _ _ _ _)); first | with_reducible (((with_reducible show wpAny _ _ (call (Value.type "str") [Value.int _ _]) _ _ _); refine PySem.P.str_of_int (by assumption) ?_)) | walk1 | (dsimp only; walk1))))
      refine join_list (N.isList (.head _)) hys (join_ok hok hds (by omega)) (fun t' tk' => ?_)
      rw [join_shown]
      have hlj : (S (joinL [44, 32] (showLs ds))).length ≤ 3000 := by rw [len_S]; exact joinL_shown_len hok hds (by omega)
      (repeat' (first | ((fail_if_success (with_reducible show wpAny _ _ (eval (Expr.ListComp _ _ _ _) _) _ _ _)); (fail_if_success (with_reducible show wpAny _ _ (exec (Stmt.For _ _ _ _ _) _) _ _ _)); (fail_if_success (with_reducible show wpAny _ _ (exec (Stmt.While _ _ _ _) _) _ _ _)); (fail_if_success (with_reducible show Exists _)); (fail_if_success (with_reducible show LCg.CompEnd _ _ _ _ _ _ _ _ _ _ _ _ _ _)); (fail_if_success (with_reducible show ForEnd _ _ _ _ _ _ _ _)); first | with_reducible (((with_reducible show wpAny _ _ (call (Value.type "str") [Value.int _ _]) _ _ _); refine PySem.P.str_of_int (by assumption) ?_)) | walk1 | (dsimp only; walk1))))
      all_goals (try dsimp only [Ret])
      exact ret' _ _ _ _ (show_seq_S _) F.keep
  | @list a vs nn ds hm hr =>
    have ht : s.heap.IsList a vs.toArray := ⟨_, H _ hm, rfl, _, rfl⟩
    cases n with | zero => exact hok.elim | succ n => ?_
    obtain ⟨hds, hok⟩ := hok
    (repeat' (first | ((fail_if_success (with_reducible show wpAny _ _ (eval (Expr.ListComp _ _ _ _) _) _ _ _)); (fail_if_success (with_reducible show wpAny _ _ (exec (Stmt.For _ _ _ _ _) _) _ _ _)); (fail_if_success (with_reducible show wpAny _ _ (exec (Stmt.While _ _ _ _) _) _ _ _)); (fail_if_success (with_reducible show Exists _)); (fail_if_success (with_reducible show LCg.CompEnd _ _ _ _ _ _ _ _ _ _ _ _ _ _)); (fail_if_success (with_reducible show ForEnd _ _ _ _ _ _ _ _)); first | with_reducible (((with_reducible show wpAny _ _ (call (Value.type "str") [Value.int _ _]) _ _ _); refine PySem.P.str_of_int (by assumption) ?_)) | walk1 | (dsimp only; walk1))))
    refine comp (h₀ := s.heap) (L := L) (fun i ys news => StrsAre ys ((ds.take i).map fun d => S (showL d))) (by assumption) rfl ?_ (by with_unfolding_all rfl) (by decide) (by rfl) (by decide) (by rfl)
    first | with_reducible (((with_reducible show wpAny _ _ (call (Value.type "str") [Value.int _ _]) _ _ _); refine PySem.P.str_of_int (by assumption) ?_)) | walk1
    have hlen := hr.length
    refine ⟨_, _, [], (by assumption), News.nil, .lst ht, (by rw [PySem.sizeLine_eq, List.size_toArray]; omega), .nil, ?_, ?_⟩
    · rintro i v ys news I oI C oC D m₂ h tk E' hi hv hys hC hx F N off ne
      obtain ⟨hi', R'⟩ := dat_at hr (by simpa using hi) (by simpa using hv)
      (repeat' (first | ((fail_if_success (with_reducible show wpAny _ _ (eval (Expr.ListComp _ _ _ _) _) _ _ _)); (fail_if_success (with_reducible show wpAny _ _ (exec (Stmt.For _ _ _ _ _) _) _ _ _)); (fail_if_success (with_reducible show wpAny _ _ (exec (Stmt.While _ _ _ _) _) _ _ _)); (fail_if_success (with_reducible show Exists _)); (fail_if_success (with_reducible show LCg.CompEnd _ _ _ _ _ _ _ _ _ _ _ _ _ _)); (fail_if_success (with_reducible show ForEnd _ _ _ _ _ _ _ _)); first | with_reducible (((with_reducible show wpAny _ _ (call (Value.type "str") [Value.int _ _]) _ _ _); refine PySem.P.str_of_int (by assumption) ?_)) | walk1 | (dsimp only; walk1))))
      refine ih n rfl _ (okDs_get hok hi') ⟨X.keeps F.keep, T.keeps F.keep⟩ (H.keeps F.keep) R' (by omega) (by omega) (by omega) (fun h' tk' t'' e => ?_)
      k_unfold
      exact ⟨h', tk', _, rfl, F.keeps e, N.grown e, off, trivial, strs_snoc hi' hys⟩
    · rintro D ys news h tk hys F N off
      have hys : StrsAre ys (ds.map fun d => S (showL d)) := by rw [List.size_toArray, hlen, List.take_length] at hys; exact hys
      (repeat' (first | ((fail_if_success (with_reducible show wpAny _ _ (eval (Expr.ListComp _ _ _ _) _) _ _ _)); (fail_if_success (with_reducible show wpAny _ _ (exec (Stmt.For _ _ _ _ _) _) _ _ _)); (fail_if_success (with_reducible show wpAny _ _ (exec (Stmt.While _ _ _ _) _) _ _ _)); (fail_if_success (with_reducible show Exists _)); (fail_if_success (with_reducible show LCg.CompEnd _ _ _ _ _ _ _ _ _ _ _ _ _ _)); (fail_if_success (with_reducible show ForEnd _ _ _ _ _ _ _ _)); first | with_reducible (((with_reducible show wpAny _ _ (call (Value.type "str") [Value.int _ _]) _ _ _); refine PySem.P.str_of_int (by assumption) ?_)) | walk1 | (dsimp only; walk1))))
      refine join_list (N.isList (.head _)) hys (join_ok hok hds (by omega)) (fun t' tk' => ?_)
      rw [join_shown]
      have hlj : (S (joinL [44, 32] (showLs ds))).length ≤ 3000 := by rw [len_S]; exact joinL_shown_len hok hds (by omega)
      (repeat' (first | ((fail_if_success (with_reducible show wpAny _ _ (eval (Expr.ListComp _ _ _ _) _) _ _ _)); (fail_if_success (with_reducible show wpAny _ _ (exec (Stmt.For _ _ _ _ _) _) _ _ _)); (fail_if_success (with_reducible show wpAny _ _ (exec (Stmt.While _ _ _ _) _) _ _ _)); (fail_if_success (with_reducible show Exists _)); (fail_if_success (with_reducible show LCg.CompEnd _ _ _ _ _ _ _ _ _ _ _ _ _ _)); (fail_if_success (with_reducible show ForEnd _ _ _ _ _ _ _ _)); first | with_reducible (((with_reducible show wpAny _ _ (call (Value.type "str") [Value.int _ _]) _ _ _); refine PySem.P.str_of_int (by assumption) ?_)) | walk1 | (dsimp only; walk1))))
      all_goals (try dsimp only [Ret])
      exact ret' _ _ _ _ (show_seq_S _) F.keep
theorem shownV : ∀ (n : Nat) (d : Dat), okD n d → SpecV 320 showL n d := by
  intro n
  induction n with
  | zero => exact shownV_step 0 (fun m h => nomatch h)
  | succ n ih => exact shownV_step (n + 1) (fun m h => by cases h; exact ih)
mutual
noncomputable def plainD : Dat → Dat
  | .none => .none
  | .bool b => .bool b
  | .bytes b => .bytes b
  | .int i => .int i
  | .str x => .str x
  | .tuple ds => .tuple (plainDs ds)
  | .list ds => .tuple (plainDs ds)
noncomputable def plainDs : List Dat → List Dat
  | [] => []
  | d :: r => plainD d :: plainDs r
end
theorem plainDs_eq : ∀ ds : List Dat, plainDs ds = ds.map plainD
  | [] => rfl
  | d :: r => by rw [plainDs, plainDs_eq r, List.map_cons]
noncomputable def SpecD (f : Addr) (out : Dat → Dat) (n : Nat) (d : Dat) : Prop := ∀ {w : World} {dp un : Nat} {s : Shared} {Q E : Value → Shared → Prop} {mean mg mb} {τ : List (Addr × Obj)} {v : Value} (O : Ok w s.heap mean mg mb) (H : Holds s.heap τ) (R : DatIn τ v d) (hn : n ≤ 3) (hd : dp + n + 5 < recursionLimit) (hu : un + 4 * n + 50 < cLine)
  (ret : ∀ h' tk' r tl, Ext s.heap h' → Fresh s.heap h' tl → DatIn tl r (out d) → Q r { s with heap := h', toks := tk' }),
  wpAny (model PR w) (AA dp un) (call (.ref f) [v]) Q E s
open LCg in
theorem compEnd_fresh {h₀ h h' : Heap} {L I C D : Addr} {m : Str → Option Value} {s₁ : Shared} {oI oC oD : Obj} {rest : Value → List (Addr × Obj) → Prop} {y : Value} {tk : Nat} {news tl : List (Addr × Obj)}
    (F : Fr h₀ L h m) (N : News h₀ L h ((I, oI) :: (C, oC) :: (D, oD) :: news)) (e : Ext h h') (T : Fresh h h' tl) (off : Off3 I C D news) (r : rest y (tl ++ news)) :
    CompEnd h₀ L m s₁ I oI C oC D oD (fun _ => True) rest y { s₁ with heap := h', toks := tk } := by
  have N' := news_ext F N e T
  refine ⟨h', tk, tl ++ news, rfl, F.keeps e, fun p hp => N' p ?_, Off3.of fun p hp => ?_, trivial, r⟩
  · simp only [List.mem_cons, List.mem_append] at hp ⊢
    rcases hp with h | h | h | h | h <;> simp [h]
  · rcases List.mem_append.mp hp with hp | hp
    · have ne : ∀ a o, (a, o) ∈ (I, oI) :: (C, oC) :: (D, oD) :: news → p.1 ≠ a := fun a o hm q => by
        have h1 := (T p hp).2; have h2 := (N _ hm).1
        rw [q] at h1; rw [h1] at h2; cases h2
      exact ⟨ne I oI (by simp), ne C oC (by simp), ne D oD (by simp)⟩
    · exact off.mem p hp
theorem dat_snoc {α : Type} {τ tl : List (Addr × Obj)} {ys : List Value} {f : α → Dat} {ds : List α} {i : Nat} (hi : i < ds.length) {r : Value} (h : DatAll τ ys ((ds.take i).map f)) (R : DatIn tl r (f (ds[i]'hi))) :
    DatAll (tl ++ τ) (ys ++ [r]) ((ds.take (i + 1)).map f) := by
  rw [List.take_add_one, List.map_append, List.getElem?_eq_getElem hi]
  exact DatAll.append (h.mono fun p hp => List.mem_append_right _ hp) (DatAll.one (R.mono fun p hp => List.mem_append_left _ hp))
theorem fresh_of {h₀ h : Heap} {L : Addr} {news : List (Addr × Obj)} (N : News h₀ L h news) : Fresh h₀ h news := fun p hp => ⟨(N p hp).1, (N p hp).2.2⟩
theorem plainV_step (n : Nat) (ih : ∀ m, n = m + 1 → ∀ d, okD m d → SpecD 308 plainD m d) : ∀ (d : Dat), okD n d → SpecD 308 plainD n d := by
  intro d hok w dp un s Q E mean mg mb τ v O H R hn hd hu ret
  obtain ⟨X, T⟩ := O
  refine enter [("value", v)] s.heap (Ext.refl _) rfl X T.nolimit (by k_is) (by k_is) (by omega) (BindsTo.of_eq rfl) (locs rfl) (fun L h₁ F k hL => ?_)
  have N : News s.heap L h₁ [] := News.nil
  cases R with
  | none =>
    (repeat' (first | ((fail_if_success (with_reducible show wpAny _ _ (eval (Expr.ListComp _ _ _ _) _) _ _ _)); (fail_if_success (with_reducible show wpAny _ _ (exec (Stmt.For _ _ _ _ _) _) _ _ _)); (fail_if_success (with_reducible show wpAny _ _ (exec (Stmt.While _ _ _ _) _) _ _ _)); (fail_if_success (with_reducible show Exists _)); (fail_if_success (with_reducible show LCg.CompEnd _ _ _ _ _ _ _ _ _ _ _ _ _ _)); (fail_if_success (with_reducible show ForEnd _ _ _ _ _ _ _ _)); first | with_reducible (((with_reducible show wpAny _ _ (call (Value.type "str") [Value.int _ _]) _ _ _); refine PySem.P.str_of_int (by assumption) ?_)) | walk1 | (((with_reducible show wpAny _ _ (call (Value.builtin "isinstance") [Value.ref _, Value.ref _]) _ _ _); first | refine isi_tup (Heap.IsTuple.typeIs (Heap.IsTuple.at (by assumption) (fun o e => Fr.keep (by assumption) _ o e))) (News.get (by assumption) (.head _)) ?_ | refine isi_lst (Heap.IsList.typeIs (Heap.IsList.at (by assumption) (fun o e => Fr.keep (by assumption) _ o e))) (News.get (by assumption) (.head _)) ?_; intro _)) | (dsimp only; walk1))))
    all_goals (try dsimp only [Ret])
    exact ret _ _ _ [] (Fr.keep (by assumption)) (fun _ h => nomatch h) .none
  | bool b => exact hok.elim
  | bytes b t => exact hok.elim
  | int i t =>
    (repeat' (first | ((fail_if_success (with_reducible show wpAny _ _ (eval (Expr.ListComp _ _ _ _) _) _ _ _)); (fail_if_success (with_reducible show wpAny _ _ (exec (Stmt.For _ _ _ _ _) _) _ _ _)); (fail_if_success (with_reducible show wpAny _ _ (exec (Stmt.While _ _ _ _) _) _ _ _)); (fail_if_success (with_reducible show Exists _)); (fail_if_success (with_reducible show LCg.CompEnd _ _ _ _ _ _ _ _ _ _ _ _ _ _)); (fail_if_success (with_reducible show ForEnd _ _ _ _ _ _ _ _)); first | with_reducible (((with_reducible show wpAny _ _ (call (Value.type "str") [Value.int _ _]) _ _ _); refine PySem.P.str_of_int (by assumption) ?_)) | walk1 | (((with_reducible show wpAny _ _ (call (Value.builtin "isinstance") [Value.ref _, Value.ref _]) _ _ _); first | refine isi_tup (Heap.IsTuple.typeIs (Heap.IsTuple.at (by assumption) (fun o e => Fr.keep (by assumption) _ o e))) (News.get (by assumption) (.head _)) ?_ | refine isi_lst (Heap.IsList.typeIs (Heap.IsList.at (by assumption) (fun o e => Fr.keep (by assumption) _ o e))) (News.get (by assumption) (.head _)) ?_; intro _)) | (dsimp only; walk1))))
    all_goals (try dsimp only [Ret])
    exact ret _ _ _ [] (Fr.keep (by assumption)) (fun _ h => nomatch h) (.int _ _)
  | str x t =>
    (repeat' (first | ((fail_if_success (with_reducible show wpAny _ _ (eval (Expr.ListComp _ _ _ _) _) _ _ _)); (fail_if_success (with_reducible show wpAny _ _ (exec (Stmt.For _ _ _ _ _) _) _ _ _)); (fail_if_success (with_reducible show wpAny _ _ (exec (Stmt.While _ _ _ _) _) _ _ _)); (fail_if_success (with_reducible show Exists _)); (fail_if_success (with_reducible show LCg.CompEnd _ _ _ _ _ _ _ _ _ _ _ _ _ _)); (fail_if_success (with_reducible show ForEnd _ _ _ _ _ _ _ _)); first | with_reducible (((with_reducible show wpAny _ _ (call (Value.type "str") [Value.int _ _]) _ _ _); refine PySem.P.str_of_int (by assumption) ?_)) | walk1 | (((with_reducible show wpAny _ _ (call (Value.builtin "isinstance") [Value.ref _, Value.ref _]) _ _ _); first | refine isi_tup (Heap.IsTuple.typeIs (Heap.IsTuple.at (by assumption) (fun o e => Fr.keep (by assumption) _ o e))) (News.get (by assumption) (.head _)) ?_ | refine isi_lst (Heap.IsList.typeIs (Heap.IsList.at (by assumption) (fun o e => Fr.keep (by assumption) _ o e))) (News.get (by assumption) (.head _)) ?_; intro _)) | (dsimp only; walk1))))
    all_goals (try dsimp only [Ret])
    exact ret _ _ _ [] (Fr.keep (by assumption)) (fun _ h => nomatch h) (.str _ _)
  | @tuple a vs nn ds hm hr =>
    have ht : s.heap.IsTuple a vs.toArray := ⟨_, H _ hm, rfl, _, rfl⟩
    cases n with | zero => exact hok.elim | succ n => ?_
    obtain ⟨hds, hok⟩ := hok
    (repeat' (first | ((fail_if_success (with_reducible show wpAny _ _ (eval (Expr.ListComp _ _ _ _) _) _ _ _)); (fail_if_success (with_reducible show wpAny _ _ (exec (Stmt.For _ _ _ _ _) _) _ _ _)); (fail_if_success (with_reducible show wpAny _ _ (exec (Stmt.While _ _ _ _) _) _ _ _)); (fail_if_success (with_reducible show Exists _)); (fail_if_success (with_reducible show LCg.CompEnd _ _ _ _ _ _ _ _ _ _ _ _ _ _)); (fail_if_success (with_reducible show ForEnd _ _ _ _ _ _ _ _)); first | with_reducible (((with_reducible show wpAny _ _ (call (Value.type "str") [Value.int _ _]) _ _ _); refine PySem.P.str_of_int (by assumption) ?_)) | walk1 | (((with_reducible show wpAny _ _ (call (Value.builtin "isinstance") [Value.ref _, Value.ref _]) _ _ _); first | refine isi_tup (Heap.IsTuple.typeIs (Heap.IsTuple.at (by assumption) (fun o e => Fr.keep (by assumption) _ o e))) (News.get (by assumption) (.head _)) ?_ | refine isi_lst (Heap.IsList.typeIs (Heap.IsList.at (by assumption) (fun o e => Fr.keep (by assumption) _ o e))) (News.get (by assumption) (.head _)) ?_; intro _)) | (dsimp only; walk1))))
    refine comp (h₀ := s.heap) (L := L) (fun i ys news => DatAll news ys ((ds.take i).map plainD)) (by assumption) rfl ?_ (by with_unfolding_all rfl) (by decide) (by rfl) (by decide) (by rfl)
    first | with_reducible (((with_reducible show wpAny _ _ (call (Value.type "str") [Value.int _ _]) _ _ _); refine PySem.P.str_of_int (by assumption) ?_)) | walk1 | (((with_reducible show wpAny _ _ (call (Value.builtin "isinstance") [Value.ref _, Value.ref _]) _ _ _); first | refine isi_tup (Heap.IsTuple.typeIs (Heap.IsTuple.at (by assumption) (fun o e => Fr.keep (by assumption) _ o e))) (News.get (by assumption) (.head _)) ?_ | refine isi_lst (Heap.IsList.typeIs (Heap.IsList.at (by assumption) (fun o e => Fr.keep (by assumption) _ o e))) (News.get (by assumption) (.head _)) ?_; intro _))
    have hlen := hr.length
    refine ⟨_, _, [], (by assumption), News.nil, .tup ht, (by rw [PySem.sizeLine_eq, List.size_toArray]; omega), .nil, ?_, ?_⟩
    · rintro i v ys news I oI C oC D m₂ h tk E' hi hv hys hC hx F N off ne
      obtain ⟨hi', R'⟩ := dat_at hr (by simpa using hi) (by simpa using hv)
      (repeat' (first | ((fail_if_success (with_reducible show wpAny _ _ (eval (Expr.ListComp _ _ _ _) _) _ _ _)); (fail_if_success (with_reducible show wpAny _ _ (exec (Stmt.For _ _ _ _ _) _) _ _ _)); (fail_if_success (with_reducible show wpAny _ _ (exec (Stmt.While _ _ _ _) _) _ _ _)); (fail_if_success (with_reducible show Exists _)); (fail_if_success (with_reducible show LCg.CompEnd _ _ _ _ _ _ _ _ _ _ _ _ _ _)); (fail_if_success (with_reducible show ForEnd _ _ _ _ _ _ _ _)); first | with_reducible (((with_reducible show wpAny _ _ (call (Value.type "str") [Value.int _ _]) _ _ _); refine PySem.P.str_of_int (by assumption) ?_)) | walk1 | (((with_reducible show wpAny _ _ (call (Value.builtin "isinstance") [Value.ref _, Value.ref _]) _ _ _); first | refine isi_tup (Heap.IsTuple.typeIs (Heap.IsTuple.at (by assumption) (fun o e => Fr.keep (by assumption) _ o e))) (News.get (by assumption) (.head _)) ?_ | refine isi_lst (Heap.IsList.typeIs (Heap.IsList.at (by assumption) (fun o e => Fr.keep (by assumption) _ o e))) (News.get (by assumption) (.head _)) ?_; intro _)) | (dsimp only; walk1))))
      refine ih n rfl _ (okDs_get hok hi') ⟨X.keeps F.keep, T.keeps F.keep⟩ (H.keeps F.keep) R' (by omega) (by omega) (by omega) (fun h' tk' r tl e T' R'' => ?_)
      k_unfold
      exact compEnd_fresh F N e T' off (dat_snoc hi' hys R'')
    · rintro D ys news h tk hys F N off
      have hys : DatAll news ys (plainDs ds) := by rw [List.size_toArray, hlen, List.take_length, ← plainDs_eq] at hys; exact hys
      (repeat' (first | ((fail_if_success (with_reducible show wpAny _ _ (eval (Expr.ListComp _ _ _ _) _) _ _ _)); (fail_if_success (with_reducible show wpAny _ _ (exec (Stmt.For _ _ _ _ _) _) _ _ _)); (fail_if_success (with_reducible show wpAny _ _ (exec (Stmt.While _ _ _ _) _) _ _ _)); (fail_if_success (with_reducible show Exists _)); (fail_if_success (with_reducible show LCg.CompEnd _ _ _ _ _ _ _ _ _ _ _ _ _ _)); (fail_if_success (with_reducible show ForEnd _ _ _ _ _ _ _ _)); first | with_reducible (((with_reducible show wpAny _ _ (call (Value.type "str") [Value.int _ _]) _ _ _); refine PySem.P.str_of_int (by assumption) ?_)) | walk1 | (((with_reducible show wpAny _ _ (call (Value.builtin "isinstance") [Value.ref _, Value.ref _]) _ _ _); first | refine isi_tup (Heap.IsTuple.typeIs (Heap.IsTuple.at (by assumption) (fun o e => Fr.keep (by assumption) _ o e))) (News.get (by assumption) (.head _)) ?_ | refine isi_lst (Heap.IsList.typeIs (Heap.IsList.at (by assumption) (fun o e => Fr.keep (by assumption) _ o e))) (News.get (by assumption) (.head _)) ?_; intro _)) | (dsimp only; walk1))))
      have hyl := hys.length
      rw [plainDs_eq, List.length_map] at hyl
      refine tuple_ofL F N (N.isList (.head _)) (fun D' h' F' N' e' => ?_) (by rw [PySem.sizeLine_eq]; omega)
      dsimp only [Ret]
      exact ret _ _ _ _ F'.keep (fresh_of N') (.tuple (.head _) (hys.mono fun p hp => .tail _ (.tail _ hp)))
  | @list a vs nn ds hm hr =>
    have ht : s.heap.IsList a vs.toArray := ⟨_, H _ hm, rfl, _, rfl⟩
    cases n with | zero => exact hok.elim | succ n => ?_
    obtain ⟨hds, hok⟩ := hok
    (repeat' (first | ((fail_if_success (with_reducible show wpAny _ _ (eval (Expr.ListComp _ _ _ _) _) _ _ _)); (fail_if_success (with_reducible show wpAny _ _ (exec (Stmt.For _ _ _ _ _) _) _ _ _)); (fail_if_success (with_reducible show wpAny _ _ (exec (Stmt.While _ _ _ _) _) _ _ _)); (fail_if_success (with_reducible show Exists _)); (fail_if_success (with_reducible show LCg.CompEnd _ _ _ _ _ _ _ _ _ _ _ _ _ _)); (fail_if_success (with_reducible show ForEnd _ _ _ _ _ _ _ _)); first | with_reducible (((with_reducible show wpAny _ _ (call (Value.type "str") [Value.int _ _]) _ _ _); refine PySem.P.str_of_int (by assumption) ?_)) | walk1 | (((with_reducible show wpAny _ _ (call (Value.builtin "isinstance") [Value.ref _, Value.ref _]) _ _ _); first | refine isi_tup (Heap.IsTuple.typeIs (Heap.IsTuple.at (by assumption) (fun o e => Fr.keep (by assumption) _ o e))) (News.get (by assumption) (.head _)) ?_ | refine isi_lst (Heap.IsList.typeIs (Heap.IsList.at (by assumption) (fun o e => Fr.keep (by assumption) _ o e))) (News.get (by assumption) (.head _)) ?_; intro _)) | (dsimp only; walk1))))
    refine comp (h₀ := s.heap) (L := L) (fun i ys news => DatAll news ys ((ds.take i).map plainD)) (by assumption) rfl ?_ (by with_unfolding_all rfl) (by decide) (by rfl) (by decide) (by rfl)
    first | with_reducible (((with_reducible show wpAny _ _ (call (Value.type "str") [Value.int _ _]) _ _ _); refine PySem.P.str_of_int (by assumption) ?_)) | walk1 | (((with_reducible show wpAny _ _ (call (Value.builtin "isinstance") [Value.ref _, Value.ref _]) _ _ _); first | refine isi_tup (Heap.IsTuple.typeIs (Heap.IsTuple.at (by assumption) (fun o e => Fr.keep (by assumption) _ o e))) (News.get (by assumption) (.head _)) ?_ | refine isi_lst (Heap.IsList.typeIs (Heap.IsList.at (by assumption) (fun o e => Fr.keep (by assumption) _ o e))) (News.get (by assumption) (.head _)) ?_; intro _))
    have hlen := hr.length
    refine ⟨_, _, [], (by assumption), News.nil, .lst ht, (by rw [PySem.sizeLine_eq, List.size_toArray]; omega), .nil, ?_, ?_⟩
    · rintro i v ys news I oI C oC D m₂ h tk E' hi hv hys hC hx F N off ne
      obtain ⟨hi', R'⟩ := dat_at hr (by simpa using hi) (by simpa using hv)
      (repeat' (first | ((fail_if_success (with_reducible show wpAny _ _ (eval (Expr.ListComp _ _ _ _) _) _ _ _)); (fail_if_success (with_reducible show wpAny _ _ (exec (Stmt.For _ _ _ _ _) _) _ _ _)); (fail_if_success (with_reducible show wpAny _ _ (exec (Stmt.While _ _ _ _) _) _ _ _)); (fail_if_success (with_reducible show Exists _)); (fail_if_success (with_reducible show LCg.CompEnd _ _ _ _ _ _ _ _ _ _ _ _ _ _)); (fail_if_success (with_reducible show ForEnd _ _ _ _ _ _ _ _)); first | with_reducible (((with_reducible show wpAny _ _ (call (Value.type "str") [Value.int _ _]) _ _ _); refine PySem.P.str_of_int (by assumption) ?_)) | walk1 | (((with_reducible show wpAny _ _ (call (Value.builtin "isinstance") [Value.ref _, Value.ref _]) _ _ _); first | refine isi_tup (Heap.IsTuple.typeIs (Heap.IsTuple.at (by assumption) (fun o e => Fr.keep (by assumption) _ o e))) (News.get (by assumption) (.head _)) ?_ | refine isi_lst (Heap.IsList.typeIs (Heap.IsList.at (by assumption) (fun o e => Fr.keep (by assumption) _ o e))) (News.get (by assumption) (.head _)) ?_; intro _)) | (dsimp only; walk1))))
      refine ih n rfl _ (okDs_get hok hi') ⟨X.keeps F.keep, T.keeps F.keep⟩ (H.keeps F.keep) R' (by omega) (by omega) (by omega) (fun h' tk' r tl e T' R'' => ?_)
      k_unfold
      exact compEnd_fresh F N e T' off (dat_snoc hi' hys R'')
    · rintro D ys news h tk hys F N off
      have hys : DatAll news ys (plainDs ds) := by rw [List.size_toArray, hlen, List.take_length, ← plainDs_eq] at hys; exact hys
      (repeat' (first | ((fail_if_success (with_reducible show wpAny _ _ (eval (Expr.ListComp _ _ _ _) _) _ _ _)); (fail_if_success (with_reducible show wpAny _ _ (exec (Stmt.For _ _ _ _ _) _) _ _ _)); (fail_if_success (with_reducible show wpAny _ _ (exec (Stmt.While _ _ _ _) _) _ _ _)); (fail_if_success (with_reducible show Exists _)); (fail_if_success (with_reducible show LCg.CompEnd _ _ _ _ _ _ _ _ _ _ _ _ _ _)); (fail_if_success (with_reducible show ForEnd _ _ _ _ _ _ _ _)); first | with_reducible (((with_reducible show wpAny _ _ (call (Value.type "str") [Value.int _ _]) _ _ _); refine PySem.P.str_of_int (by assumption) ?_)) | walk1 | (((with_reducible show wpAny _ _ (call (Value.builtin "isinstance") [Value.ref _, Value.ref _]) _ _ _); first | refine isi_tup (Heap.IsTuple.typeIs (Heap.IsTuple.at (by assumption) (fun o e => Fr.keep (by assumption) _ o e))) (News.get (by assumption) (.head _)) ?_ | refine isi_lst (Heap.IsList.typeIs (Heap.IsList.at (by assumption) (fun o e => Fr.keep (by assumption) _ o e))) (News.get (by assumption) (.head _)) ?_; intro _)) | (dsimp only; walk1))))
      have hyl := hys.length
      rw [plainDs_eq, List.length_map] at hyl
      refine tuple_ofL F N (N.isList (.head _)) (fun D' h' F' N' e' => ?_) (by rw [PySem.sizeLine_eq]; omega)
      dsimp only [Ret]
      exact ret _ _ _ _ F'.keep (fresh_of N') (.tuple (.head _) (hys.mono fun p hp => .tail _ (.tail _ hp)))
theorem plainV : ∀ (n : Nat) (d : Dat), okD n d → SpecD 308 plainD n d := by
  intro n
  induction n with
  | zero => exact plainV_step 0 (fun m h => nomatch h)
  | succ n ih => exact plainV_step (n + 1) (fun m h => by cases h; exact ih)
theorem draw {w : World} {dp un : Nat} {s : Shared} {Q E : Value → Shared → Prop} {mean mg mb} {H : Heap} {bx c : Addr} {vs : List Value} {ns : List Int} {n : Nat} (O : Ok w H mean mg mb) (Y : Bx H bx c vs ns) (B : BoxAt H s.heap bx c n)
  (hd : dp + 1 < recursionLimit) (hn : n ≤ 100000) (lim : Int) (t : Tok) (hl : 1 ≤ lim) (hl2 : lim ≤ 1000)
  (ret : ∀ h' tk' r t', ExtB bx s.heap h' → BoxAt H h' bx c (n + 1) → 0 ≤ r → r < lim → Q (.int r t') { s with heap := h', toks := tk' }) :
  wpAny (model PR w) (AA dp un) (call (.ref 284) [.ref bx, .int lim t]) Q E s := by
  have st := ext_hide B.st Y.nb
  obtain ⟨X, T⟩ := O.keeps st
  have hcl : (s.heap.hide bx).IsList c vs.toArray := Y.cl.at fun o e => st _ o e
  have hia := Y.ia
  have hvl : ((vs.toArray.size : Nat) : Int) < 2 ^ 63 := by have := Y.len; rw [List.size_toArray]; omega
  refine enter [("box", .ref bx), ("limit", .int lim t)] (s.heap.hide bx) (hide_ext (Ext.refl _)) (Heap.hide_size _ _) (X.keeps (hide_ext (Ext.refl _))) (T.keeps (hide_ext (Ext.refl _))).nolimit (by k_is) (by k_is) (by omega) (BindsTo.of_eq rfl) (locs rfl) (fun L h₁ F k hL => ?_)
  obtain ⟨o, N, g, q, pl, t1, t2, t3, kk, rfl, hg, hq, hq2, hp, hp2⟩ := box_in B F k hL
  clear k
  have hm : ∀ x : Int, 0 ≤ x.fmod lim ∧ x.fmod lim < lim := fun x => ⟨Int.fmod_nonneg_of_pos x (by omega), Int.fmod_lt_of_pos x (by omega)⟩
  have hm2 : ∀ x : Int, 0 ≤ x.fmod 2147483647 ∧ x.fmod 2147483647 < 2147483647 := fun x => ⟨Int.fmod_nonneg_of_pos x (by decide), Int.fmod_lt_of_pos x (by decide)⟩
  have hfd : 0 ≤ g.fdiv lim := Int.fdiv_nonneg hg (by omega)
  generalize hG : s.heap.hide bx = G at *
  (repeat' (first | ((fail_if_success (with_reducible show wpAny _ _ (eval (Expr.ListComp _ _ _ _) _) _ _ _)); (fail_if_success (with_reducible show wpAny _ _ (exec (Stmt.For _ _ _ _ _) _) _ _ _)); (fail_if_success (with_reducible show wpAny _ _ (exec (Stmt.While _ _ _ _) _) _ _ _)); (fail_if_success (with_reducible show Exists _)); (fail_if_success (with_reducible show LCg.CompEnd _ _ _ _ _ _ _ _ _ _ _ _ _ _)); (fail_if_success (with_reducible show ForEnd _ _ _ _ _ _ _ _)); first | with_reducible (((with_reducible show wpAny _ _ (call (Value.builtin "len") [Value.ref _]) _ _ _); refine PySem.call_len_list (Heap.IsList.at (by assumption) (fun o e => Fr.keep (by assumption) _ o e)) (by assumption) ?_)) | walk1 | (dsimp only; walk1))))
  all_goals (try dsimp only [Ret])
  all_goals (rename Fr _ _ _ _ => F9; rename News _ _ _ _ => N9; subst hG)
  · exact ret _ _ _ _ (extB_of F9) ⟨st.trans F9.keep, _, N9.get (.head _), _, _, _, _, _, _, _, rfl, hfd, hq, hq2, by omega, by omega⟩ (hm _).1 (hm _).2
  · exact ret _ _ _ _ (extB_of F9) ⟨st.trans F9.keep, _, N9.get (.head _), _, _, _, _, _, _, _, rfl, hg, (hm2 _).1, (hm2 _).2, by omega, by omega⟩ (hm _).1 (hm _).2
  · exact ret _ _ _ _ (extB_of F9) ⟨st.trans F9.keep, _, N9.get (.head _), _, _, _, _, _, _, _, rfl, hg, (hm2 _).1, (hm2 _).2, by omega, by omega⟩ (hm _).1 (hm _).2
theorem item_ab : ∀ r : Int, 0 ≤ r → r < 4 → ∃ cc, Txt.item (Str.ofString "ab 1") r = ⟨#[cc]⟩ ∧ (cc < 256 ∨ cc = 955) := by
  intro r h0 h1
  have : r = 0 ∨ r = 1 ∨ r = 2 ∨ r = 3 := by omega
  rcases this with rfl | rfl | rfl | rfl
  · exact ⟨97, by decide +kernel, by decide⟩
  · exact ⟨98, by decide +kernel, by decide⟩
  · exact ⟨32, by decide +kernel, by decide⟩
  · exact ⟨49, by decide +kernel, by decide⟩
theorem item_sg : ∀ r : Int, 0 ≤ r → r < 8 → ∃ cc, Txt.item (Str.ofString "\"\\'\n\t,]x") r = ⟨#[cc]⟩ ∧ (cc < 256 ∨ cc = 955) := by
  intro r h0 h1
  have : r = 0 ∨ r = 1 ∨ r = 2 ∨ r = 3 ∨ r = 4 ∨ r = 5 ∨ r = 6 ∨ r = 7 := by omega
  rcases this with rfl | rfl | rfl | rfl | rfl | rfl | rfl | rfl
  · exact ⟨34, by decide +kernel, by decide⟩
  · exact ⟨92, by decide +kernel, by decide⟩
  · exact ⟨39, by decide +kernel, by decide⟩
  · exact ⟨10, by decide +kernel, by decide⟩
  · exact ⟨9, by decide +kernel, by decide⟩
  · exact ⟨44, by decide +kernel, by decide⟩
  · exact ⟨93, by decide +kernel, by decide⟩
  · exact ⟨120, by decide +kernel, by decide⟩
theorem sign {w : World} {dp un : Nat} {s : Shared} {Q E : Value → Shared → Prop} {mean mg mb} {H : Heap} {bx c : Addr} {vs : List Value} {ns : List Int} {n : Nat} (O : Ok w H mean mg mb) (Y : Bx H bx c vs ns) (B : BoxAt H s.heap bx c n)
  (hd : dp + 2 < recursionLimit) (hn : n ≤ 90000)
  (ret : ∀ h' tk' cc t' n', ExtB bx s.heap h' → BoxAt H h' bx c n' → n' ≤ n + 3 → (cc < 256 ∨ cc = 955) → Q (.str ⟨#[cc]⟩ t') { s with heap := h', toks := tk' }) :
  wpAny (model PR w) (AA dp un) (call (.ref 293) [.ref bx]) Q E s := by
  have st := ext_hide B.st Y.nb
  obtain ⟨X, T⟩ := O.keeps st
  refine enter [("box", .ref bx)] (s.heap.hide bx) (hide_ext (Ext.refl _)) (Heap.hide_size _ _) (X.keeps (hide_ext (Ext.refl _))) (T.keeps (hide_ext (Ext.refl _))).nolimit (by k_is) (by k_is) (by omega) (BindsTo.of_eq rfl) (locs rfl) (fun L h₁ F k hL => ?_)
  obtain ⟨o, N, hb⟩ := box_in B F k hL
  clear k
  generalize hG : s.heap.hide bx = G at *
  have fin : ∀ x h' tk' t' n' o' m', Fr G L h' m' → News G L h' [(bx, o')] → BoxO c n' o' → n' ≤ n + 3 → (∃ cc, x = ⟨#[cc]⟩ ∧ (cc < 256 ∨ cc = 955)) → Q (.str x t') { s with heap := h', toks := tk' } := by
    rintro x h' tk' t' n' o' m' F N b hn' ⟨cc, rfl, hc⟩
    subst hG
    exact ret _ _ _ _ _ (extB_of F) ⟨st.trans F.keep, _, N.get (.head _), b⟩ hn' hc
  clear ret
  (repeat' (first | ((fail_if_success (with_reducible show wpAny _ _ (eval (Expr.ListComp _ _ _ _) _) _ _ _)); (fail_if_success (with_reducible show wpAny _ _ (exec (Stmt.For _ _ _ _ _) _) _ _ _)); (fail_if_success (with_reducible show wpAny _ _ (exec (Stmt.While _ _ _ _) _) _ _ _)); (fail_if_success (with_reducible show Exists _)); (fail_if_success (with_reducible show LCg.CompEnd _ _ _ _ _ _ _ _ _ _ _ _ _ _)); (fail_if_success (with_reducible show ForEnd _ _ _ _ _ _ _ _)); first | walk1 | (((with_reducible show wpAny _ _ (call (Value.ref 284) [_, Value.int _ _]) _ _ _); refine draw (by assumption) (by assumption) (box_at (by assumption) (by assumption) (by assumption) (.head _) (by assumption)) (by omega) (by omega) _ _ (by decide) (by decide) ?_; intro zqh9 zqtk9 zqr9 zqt9 zqe9 zqB9 zqhr9 zqhq9; have zqR9 := box_back (by assumption) (by assumption) (by first | assumption | exact List.forall_mem_nil _) zqe9 zqB9; refine And.elim (fun F9 zqR9 => ?_) zqR9; refine Exists.elim zqR9 (fun o9 zqR9 => And.elim (fun N9 b9 => ?_) zqR9); clear zqe9 zqB9)) | (dsimp only; walk1))))
  all_goals (try dsimp only [Ret])
  all_goals (rename BoxO _ _ _ => b99; refine fin _ _ _ _ _ _ _ (by assumption) (by assumption) b99 (by omega) ?_)
  · exact item_ab _ (by assumption) (by assumption)
  · exact item_sg _ (by assumption) (by assumption)
  · exact ⟨_, rfl, by omega⟩
  · exact ⟨_, rfl, by omega⟩
  · exact ⟨955, rfl, .inr rfl⟩
theorem news_base {G s h : Heap} {L : Addr} {news : List (Addr × Obj)} (N : News s L h news) (hg : Ext G s) : News G L h news := fun p hp => ⟨(N p hp).1, (N p hp).2.1, by
  cases e : G.get? p.1 with
  | none => rfl
  | some o => have := hg _ _ e; rw [(N p hp).2.2] at this; cases this⟩
/-- the entry of a def with cells: the box stands ahead of the cells -/
theorem box_inC {s h : Heap} {L bx c : Addr} {m : Str → Option Value} {H : Heap} {n : Nat} {cells : List (Addr × Obj)} (B : BoxAt H s bx c n) (F : Fr (s.hide bx) L h m) (k : Ext s h) (hL : s.objs.size = L) (N : News s L h cells) :
    ∃ o, News (s.hide bx) L h ((bx, o) :: cells) ∧ BoxO c n o ∧ ∀ p ∈ cells, p.1 ≠ bx := by
  obtain ⟨o, N1, b⟩ := box_in B F k hL
  have N2 := news_base N (G := s.hide bx) fun b o e => Heap.of_hide e
  refine ⟨o, fun p hp => ?_, b, fun p hp q => ?_⟩
  · rcases List.mem_cons.mp hp with rfl | hp
    · exact N1 _ (.head _)
    · exact N2 p hp
  · obtain ⟨o', e, _⟩ := B.at_
    have := (N p hp).2.2; rw [q, e] at this; cases this
open LCg in
theorem compEnd_box {G H h h' : Heap} {L I C D bx c : Addr} {m : Str → Option Value} {s₁ : Shared} {oI oC oD o : Obj} {rest : Value → List (Addr × Obj) → Prop} {y : Value} {tk n' : Nat} {news tl : List (Addr × Obj)} (news₂ : List (Addr × Obj)) (hsub : ∀ p ∈ news₂, p ∈ tl ++ news)
    (F : Fr G L h m) (N : News G L h ((I, oI) :: (C, oC) :: (D, oD) :: (bx, o) :: news)) (off : Off3 I C D ((bx, o) :: news)) (hne : ∀ p ∈ news, p.1 ≠ bx) (e : ExtB bx h h') (B : BoxAt H h' bx c n') (T : Fresh h h' tl)
    (r : ∀ o', BoxO c n' o' → rest y ((bx, o') :: news₂)) :
    CompEnd G L m s₁ I oI C oC D oD (fun _ => True) rest y { s₁ with heap := h', toks := tk } := by
  have o3 := off.mem
  have N2 : News G L h ((bx, o) :: (I, oI) :: (C, oC) :: (D, oD) :: news) := news_sub N fun p hp => by
    simp only [List.mem_cons] at hp ⊢; rcases hp with h | h | h | h | h <;> simp [h]
  obtain ⟨F', o', N', b'⟩ := box_back F N2 (fun p hp => by
    have hb := o3 _ (.head _)
    rcases List.mem_cons.mp hp with rfl | hp
    · exact Ne.symm hb.1
    · rcases List.mem_cons.mp hp with rfl | hp
      · exact Ne.symm hb.2.1
      · rcases List.mem_cons.mp hp with rfl | hp
        · exact Ne.symm hb.2.2
        · exact hne p hp) e B
  have known : ∀ a ob, (a, ob) ∈ (I, oI) :: (C, oC) :: (D, oD) :: (bx, o) :: news → ∀ p ∈ tl, p.1 ≠ a := fun a ob hm p hp q => by
    have h1 := (T p hp).2; rw [q, (N _ hm).1] at h1; cases h1
  have NT : News G L h' tl := fun p hp => by
    refine ⟨(T p hp).1, fun q => ?_, ?_⟩
    · obtain ⟨oL, _, _, ho, _⟩ := F.ns
      have h1 := (T p hp).2; rw [q, ho] at h1; cases h1
    · cases q : G.get? p.1 with
      | none => rfl
      | some ob => have h1 := F.keep _ _ q; rw [(T p hp).2] at h1; cases h1
  refine ⟨h', tk, (bx, o') :: news₂, rfl, F', fun p hp => ?_, Off3.of fun p hp => ?_, trivial, r o' b'⟩
  · simp only [List.mem_cons] at hp
    rcases hp with h | h | h | h | h
    · exact N' p (by simp [h])
    · exact N' p (by simp [h])
    · exact N' p (by simp [h])
    · exact N' p (by simp [h])
    · rcases List.mem_append.mp (hsub p h) with h | h
      · exact NT p h
      · exact N' p (by simp [h])
  · rcases List.mem_cons.mp hp with rfl | hp
    · exact o3 (bx, o) (.head _)
    · rcases List.mem_append.mp (hsub p hp) with hp | hp
      · exact ⟨known I oI (by simp) p hp, known C oC (by simp) p hp, known D oD (by simp) p hp⟩
      · exact o3 p (.tail _ hp)
theorem strs_code {ys : List Value} {zs : List Nat} {z : Nat} {t : Tok} (h : StrsAre ys (zs.map fun z => S [z])) : StrsAre (ys ++ [.str ⟨#[z]⟩ t]) ((zs ++ [z]).map fun z => S [z]) := by
  rw [List.map_append]; exact kct_snoc h
theorem join_codes (zs : List Nat) : Txt.join (Str.ofString "") (zs.map fun z => S [z]) = S zs := by
  have := join_S [] (zs.map fun z => [z])
  rw [List.map_map, joinL_nil] at this
  refine this.trans (congrArg S ?_)
  clear this
  induction zs with
  | nil => rfl
  | cons z r ih => rw [List.map_cons, List.flatten_cons, ih]; rfl
theorem codes_ok (zs : List Nat) (h : zs.length ≤ 4) : ((zs.map fun z => S [z]).map (·.length)).sum + (zs.map fun z => S [z]).length * (Str.ofString "").length ≤ 16777216 := by
  have h1 := sum_len_le (fun z => [z]) 1 zs fun c _ => Nat.le_refl _
  rw [List.length_map, show (Str.ofString "").length = 0 from rfl]
  omega
theorem text {w : World} {dp un : Nat} {s : Shared} {Q E : Value → Shared → Prop} {mean mg mb} {H : Heap} {bx c : Addr} {vs : List Value} {ns : List Int} {n : Nat} (O : Ok w H mean mg mb) (Y : Bx H bx c vs ns) (B : BoxAt H s.heap bx c n)
  (hd : dp + 3 < recursionLimit) (hn : n ≤ 80000)
  (ret : ∀ h' tk' x t' n', ExtB bx s.heap h' → BoxAt H h' bx c n' → n' ≤ n + 13 → x.cps.size ≤ 4 → (∀ c ∈ x.cps.toList, c < 256 ∨ c = 955) → Q (.str x t') { s with heap := h', toks := tk' }) :
  wpAny (model PR w) (AA dp un) (call (.ref 298) [.ref bx]) Q E s := by
  have st := ext_hide B.st Y.nb
  obtain ⟨X, T⟩ := O.keeps st
  refine enterC [("box", .ref bx)] (s.heap.hide bx) (hide_ext (Ext.refl _)) (Heap.hide_size _ _) (X.keeps (hide_ext (Ext.refl _))) (T.keeps (hide_ext (Ext.refl _))).nolimit (by k_is) (by k_is) (by omega) (BindsTo.of_eq rfl) (by rfl) (by decide +kernel) (fun L h₁ tk cells F k hL Y' N => ?_)
  obtain ⟨oc, rfl, d1⟩ := CellsAre.one (n := Str.ofString "box") (c := L + 1) Y'
  clear Y'
  have d1 : oc.data = .cell (some (.ref bx)) := d1
  obtain ⟨o, N, hb, hne⟩ := box_inC B F k hL N
  clear k
  generalize hG : s.heap.hide bx = G at *
  (repeat' (first | ((fail_if_success (with_reducible show wpAny _ _ (eval (Expr.ListComp _ _ _ _) _) _ _ _)); (fail_if_success (with_reducible show wpAny _ _ (exec (Stmt.For _ _ _ _ _) _) _ _ _)); (fail_if_success (with_reducible show wpAny _ _ (exec (Stmt.While _ _ _ _) _) _ _ _)); (fail_if_success (with_reducible show Exists _)); (fail_if_success (with_reducible show LCg.CompEnd _ _ _ _ _ _ _ _ _ _ _ _ _ _)); (fail_if_success (with_reducible show ForEnd _ _ _ _ _ _ _ _)); first | walk1 | (((with_reducible show wpAny _ _ (call (Value.ref 284) [_, Value.int _ _]) _ _ _); refine draw (by assumption) (by assumption) (box_at (by assumption) (by assumption) (by assumption) (.head _) (by assumption)) (by omega) (by omega) _ _ (by decide) (by decide) ?_; intro zqh9 zqtk9 zqr9 zqt9 zqe9 zqB9 zqhr9 zqhq9; obtain ⟨zqF9, zqo9, zqN9, zqb9⟩ := box_back (by assumption) (by assumption) (by first | assumption | exact List.forall_mem_nil _) zqe9 zqB9; clear zqe9 zqB9; (try k_sweep))) | (dsimp only; walk1))))
  refine comp (h₀ := G) (L := L) (fun i ys news => ∃ (o' : Obj) (n' : Nat) (zs : List Nat), news = [(bx, o'), (L + 1, oc)] ∧ BoxO c n' o' ∧ n' ≤ n + 1 + 3 * i ∧ zs.length = i ∧ (∀ z ∈ zs, z < 256 ∨ z = 955) ∧ StrsAre ys (zs.map fun z => S [z])) (by assumption) rfl ?_ (by with_unfolding_all rfl) (by decide) (by rfl) (by decide) (by rfl)
  (repeat' (first | ((fail_if_success (with_reducible show wpAny _ _ (eval (Expr.ListComp _ _ _ _) _) _ _ _)); (fail_if_success (with_reducible show wpAny _ _ (exec (Stmt.For _ _ _ _ _) _) _ _ _)); (fail_if_success (with_reducible show wpAny _ _ (exec (Stmt.While _ _ _ _) _) _ _ _)); (fail_if_success (with_reducible show Exists _)); (fail_if_success (with_reducible show LCg.CompEnd _ _ _ _ _ _ _ _ _ _ _ _ _ _)); (fail_if_success (with_reducible show ForEnd _ _ _ _ _ _ _ _)); first | walk1 | (((with_reducible show wpAny _ _ (call (Value.ref 284) [_, Value.int _ _]) _ _ _); refine draw (by assumption) (by assumption) (box_at (by assumption) (by assumption) (by assumption) (.head _) (by assumption)) (by omega) (by omega) _ _ (by decide) (by decide) ?_; intro zqh9 zqtk9 zqr9 zqt9 zqe9 zqB9 zqhr9 zqhq9; obtain ⟨zqF9, zqo9, zqN9, zqb9⟩ := box_back (by assumption) (by assumption) (by first | assumption | exact List.forall_mem_nil _) zqe9 zqB9; clear zqe9 zqB9; (try k_sweep))) | (dsimp only; walk1))))
  refine ⟨_, _, _, by assumption, by assumption, .range (by assumption) (small_one (by decide) (by decide) (by omega) (by omega)) (rangeSize_nat _ _), by rw [PySem.sizeLine_eq]; omega, ⟨_, n + 1, [], rfl, by assumption, by omega, rfl, (fun _ h => nomatch h), .nil⟩, ?_, ?_⟩
  · rintro i v ys news I oI C oC D m₂ h tk E' hi ⟨t', rfl⟩ ⟨o', n', zs, rfl, hb', hn', hz, hzs, hys⟩ hC hx F N off ne
    (repeat' (first | ((fail_if_success (with_reducible show wpAny _ _ (eval (Expr.ListComp _ _ _ _) _) _ _ _)); (fail_if_success (with_reducible show wpAny _ _ (exec (Stmt.For _ _ _ _ _) _) _ _ _)); (fail_if_success (with_reducible show wpAny _ _ (exec (Stmt.While _ _ _ _) _) _ _ _)); (fail_if_success (with_reducible show Exists _)); (fail_if_success (with_reducible show LCg.CompEnd _ _ _ _ _ _ _ _ _ _ _ _ _ _)); (fail_if_success (with_reducible show ForEnd _ _ _ _ _ _ _ _)); first | walk1 | (((with_reducible show wpAny _ _ (call (Value.ref 284) [_, Value.int _ _]) _ _ _); refine draw (by assumption) (by assumption) (box_at (by assumption) (by assumption) (by assumption) (.head _) (by assumption)) (by omega) (by omega) _ _ (by decide) (by decide) ?_; intro zqh9 zqtk9 zqr9 zqt9 zqe9 zqB9 zqhr9 zqhq9; obtain ⟨zqF9, zqo9, zqN9, zqb9⟩ := box_back (by assumption) (by assumption) (by first | assumption | exact List.forall_mem_nil _) zqe9 zqB9; clear zqe9 zqB9; (try k_sweep))) | (dsimp only; walk1))))
    refine sign O Y (box_at st F N (.tail _ (.tail _ (.tail _ (.head _)))) hb') (by omega) (by omega) (fun h' tk' cc t' n'' e B' hn'' hcc => ?_)
    k_unfold
    refine compEnd_box (tl := []) _ (fun _ h => h) F N off hne e B' (fun _ h => nomatch h) (fun o9 b9 => ⟨o9, n'', zs ++ [cc], rfl, b9, by omega, by rw [List.length_append, hz]; rfl, fun z hz => ?_, strs_code hys⟩)
    rcases List.mem_append.mp hz with hz | hz
    · exact hzs z hz
    · rw [List.mem_singleton.mp hz]; exact hcc
  · rintro D ys news h tk ⟨o', n', zs, rfl, hb', hn', hz, hzs, hys⟩ F N off
    (repeat' (first | ((fail_if_success (with_reducible show wpAny _ _ (eval (Expr.ListComp _ _ _ _) _) _ _ _)); (fail_if_success (with_reducible show wpAny _ _ (exec (Stmt.For _ _ _ _ _) _) _ _ _)); (fail_if_success (with_reducible show wpAny _ _ (exec (Stmt.While _ _ _ _) _) _ _ _)); (fail_if_success (with_reducible show Exists _)); (fail_if_success (with_reducible show LCg.CompEnd _ _ _ _ _ _ _ _ _ _ _ _ _ _)); (fail_if_success (with_reducible show ForEnd _ _ _ _ _ _ _ _)); first | walk1 | (((with_reducible show wpAny _ _ (call (Value.ref 284) [_, Value.int _ _]) _ _ _); refine draw (by assumption) (by assumption) (box_at (by assumption) (by assumption) (by assumption) (.head _) (by assumption)) (by omega) (by omega) _ _ (by decide) (by decide) ?_; intro zqh9 zqtk9 zqr9 zqt9 zqe9 zqB9 zqhr9 zqhq9; obtain ⟨zqF9, zqo9, zqN9, zqb9⟩ := box_back (by assumption) (by assumption) (by first | assumption | exact List.forall_mem_nil _) zqe9 zqB9; clear zqe9 zqB9; (try k_sweep))) | (dsimp only; walk1))))
    refine join_list (N.isList (.head _)) hys (codes_ok zs (by omega)) (fun t' tk' => ?_)
    dsimp only [Ret]
    rw [join_codes]
    subst hG
    exact ret _ _ _ _ _ (extB_of F) ⟨st.trans F.keep, _, N.get (.tail _ (.head _)), hb'⟩ (by omega) (by show zs.toArray.size ≤ 4; rw [List.size_toArray]; omega) hzs
theorem draw' {w : World} {dp un : Nat} {h : Heap} {gs : Array GenState} {dr : Drawn} {tk : Nat} {os : OsState} {Q E : Value → Shared → Prop} {mean mg mb} {H : Heap} {bx c : Addr} {vs : List Value} {ns : List Int} {n : Nat} (O : Ok w H mean mg mb) (Y : Bx H bx c vs ns) (B : BoxAt H h bx c n)
  (hd : dp + 1 < recursionLimit) (hn : n ≤ 100000) (lim : Int) (t : Tok) (hl : 1 ≤ lim) (hl2 : lim ≤ 1000)
  (ret : ∀ h' tk' r t', ExtB bx h h' → BoxAt H h' bx c (n + 1) → 0 ≤ r → r < lim → Q (.int r t') ⟨h', gs, dr, tk', os⟩) :
  wpAny (model PR w) (AA dp un) (call (.ref 284) [.ref bx, .int lim t]) Q E ⟨h, gs, dr, tk, os⟩ := draw O Y B hd hn lim t hl hl2 ret
theorem text' {w : World} {dp un : Nat} {h : Heap} {gs : Array GenState} {dr : Drawn} {tk : Nat} {os : OsState} {Q E : Value → Shared → Prop} {mean mg mb} {H : Heap} {bx c : Addr} {vs : List Value} {ns : List Int} {n : Nat} (O : Ok w H mean mg mb) (Y : Bx H bx c vs ns) (B : BoxAt H h bx c n)
  (hd : dp + 3 < recursionLimit) (hn : n ≤ 80000)
  (ret : ∀ h' tk' x t' n', ExtB bx h h' → BoxAt H h' bx c n' → n' ≤ n + 13 → x.cps.size ≤ 4 → (∀ c ∈ x.cps.toList, c < 256 ∨ c = 955) → Q (.str x t') ⟨h', gs, dr, tk', os⟩) :
  wpAny (model PR w) (AA dp un) (call (.ref 298) [.ref bx]) Q E ⟨h, gs, dr, tk, os⟩ := text O Y B hd hn ret
theorem ifConst {M : Model} {A : Around} {E : Value → Shared → Prop} {s : Shared} {env : Env} {test : Expr} {x y : Int} {k1 k2 : _} {p1 p2 pos : Pos} {Q : Value → Shared → Prop}
    (h : wpAny M A (isTrue test env (eval test env)) (fun b s₂ => ∀ lim : Int, (lim = x ∨ lim = y) ∧ (b = false → lim = y) → Q (.int lim s₂.toks) { s₂ with toks := s₂.toks + 1 }) E s) :
    wpAny M A (eval (.IfExp test (.Constant (.int x) k1 p1) (.Constant (.int y) k2 p2) pos) env) Q E s := by
  refine wpAny_IfExp (wpAny_mono h (fun b s₂ hb => ?_) fun _ _ e => e)
  cases b
  · exact wpAny_Constant_int (hb y ⟨.inr rfl, fun _ => rfl⟩)
  · exact wpAny_Constant_int (hb x ⟨.inl rfl, fun e => nomatch e⟩)
noncomputable def costV : Nat → Nat
  | 0 => 14
  | k + 1 => 2 + 3 * costV k
theorem costV_14 : ∀ k, 14 ≤ costV k
  | 0 => Nat.le_refl _
  | k + 1 => by have := costV_14 k; simp only [costV]; omega
noncomputable def SpecValue (k : Nat) : Prop := ∀ {w : World} {dp un : Nat} {h : Heap} {gs : Array GenState} {dr : Drawn} {tk : Nat} {os : OsState} {Q E : Value → Shared → Prop} {mean mg mb} {H : Heap} {bx c : Addr} {vs : List Value} {ns : List Int} {n : Nat} {i : Int} {t : Tok} (O : Ok w H mean mg mb) (Y : Bx H bx c vs ns) (B : BoxAt H h bx c n)
  (hi : i = k) (hk : k ≤ 3) (hd : dp + k + 5 < recursionLimit) (hn : n + costV k ≤ 70000)
  (ret : ∀ h' tk' r tl d n', ExtB bx h h' → BoxAt H h' bx c n' → n' ≤ n + costV k → Fresh h h' tl → DatIn tl r d → okD k d → Q r ⟨h', gs, dr, tk', os⟩),
  wpAny (model PR w) (AA dp un) (call (.ref 303) [.ref bx, .int i t]) Q E ⟨h, gs, dr, tk, os⟩
theorem dat_snoc2 {tl tls : List (Addr × Obj)} {ys : List Value} {ds : List Dat} {r : Value} {d : Dat} (h : DatAll tls ys ds) (R : DatIn tl r d) : DatAll (tl ++ tls) (ys ++ [r]) (ds ++ [d]) :=
  DatAll.append (h.mono fun p hp => List.mem_append_right _ hp) (DatAll.one (R.mono fun p hp => List.mem_append_left _ hp))
theorem okDs_snoc : ∀ {m : Nat} {ds : List Dat} {d : Dat}, okDs m ds → okD m d → okDs m (ds ++ [d])
  | m, [], d, _, h => ⟨h, trivial⟩
  | m, e :: r, d, h, h' => ⟨h.1, okDs_snoc h.2 h'⟩
theorem fresh_hide {s h : Heap} {L bx : Addr} {news : List (Addr × Obj)} (N : News (s.hide bx) L h news) (ne : ∀ p ∈ news, p.1 ≠ bx) : Fresh s h news := fun p hp => ⟨(N p hp).1, by rw [← Heap.hide_ne s (ne p hp)]; exact (N p hp).2.2⟩
theorem h20 : (10 : Int) ^ Int.toNat 20 = 100000000000000000000 := by decide +kernel
theorem value_step (k : Nat) (ih : ∀ m, k = m + 1 → SpecValue m) : SpecValue k := by
  intro w dp un h gs dr tk os Q E mean mg mb H bx c vs ns n i t O Y B hi hk hd hn ret
  generalize hs : (⟨h, gs, dr, tk, os⟩ : Shared) = s
  obtain rfl : h = s.heap := by rw [← hs]
  have ret : ∀ h' tk' r tl d n', ExtB bx s.heap h' → BoxAt H h' bx c n' → n' ≤ n + costV k → Fresh s.heap h' tl → DatIn tl r d → okD k d → Q r { s with heap := h', toks := tk' } := by rw [← hs]; exact ret
  clear hs
  have st := ext_hide B.st Y.nb
  obtain ⟨X, T⟩ := O.keeps st
  have hc14 := costV_14 k
  refine enterC [("box", .ref bx), ("deep", .int i t)] (s.heap.hide bx) (hide_ext (Ext.refl _)) (Heap.hide_size _ _) (X.keeps (hide_ext (Ext.refl _))) (T.keeps (hide_ext (Ext.refl _))).nolimit (by k_is) (by k_is) (by omega) (BindsTo.of_eq rfl) (by rfl) (by decide +kernel) (fun L h₁ tk cells F kk hL Y' N => ?_)
  obtain ⟨oc, od, rfl, d1, d2⟩ := CellsAre.two (n := Str.ofString "deep") (c := L + 2) (n' := Str.ofString "box") (c' := L + 1) Y'
  clear Y'
  have d1 : oc.data = .cell (some (.int i t)) := d1
  have d2 : od.data = .cell (some (.ref bx)) := d2
  obtain ⟨o, N, hb, hne⟩ := box_inC B F kk hL N
  clear kk
  generalize hG : s.heap.hide bx = G at *
  have fin0 : ∀ r h' tk' d n' o' m', Fr G L h' m' → News G L h' [(bx, o'), (L + 2, oc), (L + 1, od)] → BoxO c n' o' → n' ≤ n + costV k → DatIn [] r d → okD k d → Q r { s with heap := h', toks := tk' } := by
    intro r h' tk' d n' o' m' F N b hn' R hok
    subst hG
    exact ret _ _ _ [] _ _ (extB_of F) ⟨st.trans F.keep, _, N.get (.head _), b⟩ hn' (fun _ h => nomatch h) R hok
  (repeat' (first | ((fail_if_success (with_reducible show wpAny _ _ (eval (Expr.ListComp _ _ _ _) _) _ _ _)); (fail_if_success (with_reducible show wpAny _ _ (exec (Stmt.For _ _ _ _ _) _) _ _ _)); (fail_if_success (with_reducible show wpAny _ _ (exec (Stmt.While _ _ _ _) _) _ _ _)); (fail_if_success (with_reducible show Exists _)); (fail_if_success (with_reducible show LCg.CompEnd _ _ _ _ _ _ _ _ _ _ _ _ _ _)); (fail_if_success (with_reducible show ForEnd _ _ _ _ _ _ _ _)); (fail_if_success (with_reducible show wpAny _ _ (exec (Stmt.Assign _ (Expr.ListComp _ _ _ _) _) _) _ _ _)); (fail_if_success (with_reducible show LCg.CompSrc _ _ _ _ _ _ _ _ _ _ _ _ _ _)); first | with_reducible (((with_reducible show ∀ zqlim : Int, (_ ∨ _) ∧ _ → _); intro zqlim zqhlim; obtain ⟨zqhlim1, zqhlim2⟩ := zqhlim)) | with_reducible (((with_reducible show wpAny _ _ (eval (Expr.IfExp _ (Expr.Constant (Const.int _) _ _) (Expr.Constant (Const.int _) _ _) _) _) _ _ _); refine ifConst ?_)) | walk1 | (((with_reducible show wpAny _ _ (call (Value.ref 298) [_]) _ _ _); refine text' (by assumption) (by assumption) (box_at (by assumption) (by assumption) (by assumption) (.head _) (by assumption)) (by omega) (by omega) ?_; intro zqh9 zqtk9 zqx9 zqt9 zqn9 zqe9 zqB9 zqhn9 zqhx9 zqhc9; obtain ⟨zqF9, zqo9, zqN9, zqb9⟩ := box_back (by assumption) (by assumption) (by first | assumption | exact List.forall_mem_nil _) zqe9 zqB9; clear zqe9 zqB9; (try k_sweep))) | (((with_reducible show wpAny _ _ (call (Value.ref 284) [_, Value.int _ _]) _ _ _); refine draw' (by assumption) (by assumption) (box_at (by assumption) (by assumption) (by assumption) (.head _) (by assumption)) (by omega) (by omega) _ _ (by first | decide | omega) (by first | decide | omega) ?_; intro zqh9 zqtk9 zqr9 zqt9 zqe9 zqB9 zqhr9 zqhq9; obtain ⟨zqF9, zqo9, zqN9, zqb9⟩ := box_back (by assumption) (by assumption) (by first | assumption | exact List.forall_mem_nil _) zqe9 zqB9; clear zqe9 zqB9; (try k_sweep))) | (dsimp only; walk1))))
  all_goals (try dsimp only [Ret])
  · rename BoxO _ _ _ => b99; exact fin0 _ _ _ .none _ _ _ (by assumption) (by assumption) b99 (by omega) .none trivial
  · rename BoxO _ _ _ => b99; exact fin0 _ _ _ (.int _) _ _ _ (by assumption) (by assumption) b99 (by omega) (.int _ _) (by show Int.natAbs _ < 10 ^ 24; omega)
  · rename BoxO _ _ _ => b99; exact fin0 _ _ _ (.int _) _ _ _ (by assumption) (by assumption) b99 (by omega) (.int _ _) (by show Int.natAbs _ < 10 ^ 24; omega)
  · rename BoxO _ _ _ => b99; exact fin0 _ _ _ (.int _) _ _ _ (by assumption) (by assumption) b99 (by omega) (.int _ _) (by show Int.natAbs _ < 10 ^ 24; rw [h20]; omega)
  · rename BoxO _ _ _ => b99; exact fin0 _ _ _ (.int _) _ _ _ (by assumption) (by assumption) b99 (by omega) (.int _ _) (by show Int.natAbs _ < 10 ^ 24; rw [h20]; omega)
  · rename BoxO _ _ _ => b99; exact fin0 _ _ _ (.str _) _ _ _ (by assumption) (by assumption) b99 (by omega) (.str _ _) ⟨by assumption, by assumption⟩
  · rename (decide _ = false → _) => hl2
    have hi0 : 0 < i := Classical.byContradiction fun h => by have := hl2 (decide_eq_false h); omega
    obtain ⟨m, rfl⟩ : ∃ m, k = m + 1 := ⟨k - 1, by omega⟩
    clear fin0
    rename BoxO _ _ _ => b99
    refine LCg.Assign_ListComp_U (F₀ := by assumption) (by rfl) (by with_unfolding_all rfl) (by with_unfolding_all rfl) (by decide) (by rfl) (by decide) (by rfl) (by rfl) (by rfl) ?_
    (repeat' (first | ((fail_if_success (with_reducible show wpAny _ _ (eval (Expr.ListComp _ _ _ _) _) _ _ _)); (fail_if_success (with_reducible show wpAny _ _ (exec (Stmt.For _ _ _ _ _) _) _ _ _)); (fail_if_success (with_reducible show wpAny _ _ (exec (Stmt.While _ _ _ _) _) _ _ _)); (fail_if_success (with_reducible show Exists _)); (fail_if_success (with_reducible show LCg.CompEnd _ _ _ _ _ _ _ _ _ _ _ _ _ _)); (fail_if_success (with_reducible show ForEnd _ _ _ _ _ _ _ _)); (fail_if_success (with_reducible show wpAny _ _ (exec (Stmt.Assign _ (Expr.ListComp _ _ _ _) _) _) _ _ _)); (fail_if_success (with_reducible show LCg.CompSrc _ _ _ _ _ _ _ _ _ _ _ _ _ _)); first | with_reducible (((with_reducible show ∀ zqlim : Int, (_ ∨ _) ∧ _ → _); intro zqlim zqhlim; obtain ⟨zqhlim1, zqhlim2⟩ := zqhlim)) | with_reducible (((with_reducible show wpAny _ _ (eval (Expr.IfExp _ (Expr.Constant (Const.int _) _ _) (Expr.Constant (Const.int _) _ _) _) _) _ _ _); refine ifConst ?_)) | walk1 | (((with_reducible show wpAny _ _ (call (Value.ref 298) [_]) _ _ _); refine text' (by assumption) (by assumption) (box_at (by assumption) (by assumption) (by assumption) (.head _) (by assumption)) (by omega) (by omega) ?_; intro zqh9 zqtk9 zqx9 zqt9 zqn9 zqe9 zqB9 zqhn9 zqhx9 zqhc9; obtain ⟨zqF9, zqo9, zqN9, zqb9⟩ := box_back (by assumption) (by assumption) (by first | assumption | exact List.forall_mem_nil _) zqe9 zqB9; clear zqe9 zqB9; (try k_sweep))) | (((with_reducible show wpAny _ _ (call (Value.ref 284) [_, Value.int _ _]) _ _ _); refine draw' (by assumption) (by assumption) (box_at (by assumption) (by assumption) (by assumption) (.head _) (by assumption)) (by omega) (by omega) _ _ (by first | decide | omega) (by first | decide | omega) ?_; intro zqh9 zqtk9 zqr9 zqt9 zqe9 zqB9 zqhr9 zqhq9; obtain ⟨zqF9, zqo9, zqN9, zqb9⟩ := box_back (by assumption) (by assumption) (by first | assumption | exact List.forall_mem_nil _) zqe9 zqB9; clear zqe9 zqB9; (try k_sweep))) | (dsimp only; walk1))))
    have hcm : costV (m + 1) = 2 + 3 * costV m := rfl
    refine LCg.CompSrc.range rfl (by assumption) (by assumption) (by assumption) (small_one (by decide) (by decide) (by omega) (by omega)) (rangeSize_nat _ _) (by rw [PySem.sizeLine_eq]; omega) (fun g => rest_inv (fun i ys news => ∃ (o' : Obj) (n' : Nat) (tls : List (Addr × Obj)) (ds : List Dat), news = (bx, o') :: (L + 2, oc) :: (L + 1, od) :: tls ∧ BoxO c n' o' ∧ n' ≤ n + 2 + costV m * i ∧ ds.length = i ∧ okDs m ds ∧ DatAll tls ys ds ∧ ∀ p ∈ tls, p.1 ≠ bx) ?_ ?_ _ 0 [] _ (Nat.zero_add _) ⟨_, n + 2, [], [], rfl, by assumption, by omega, rfl, trivial, .nil, (fun _ h => nomatch h)⟩)
    · rintro j v ys news I oI C oC D m₂ h tk E' hj ⟨t', rfl⟩ ⟨o', n', tls, ds, rfl, hb', hn', hds, hok, hys, htl⟩ hC hx F N off ne
      have hj2 : costV m * j ≤ costV m * 2 := Nat.mul_le_mul_left _ (by omega)
      (repeat' (first | ((fail_if_success (with_reducible show wpAny _ _ (eval (Expr.ListComp _ _ _ _) _) _ _ _)); (fail_if_success (with_reducible show wpAny _ _ (exec (Stmt.For _ _ _ _ _) _) _ _ _)); (fail_if_success (with_reducible show wpAny _ _ (exec (Stmt.While _ _ _ _) _) _ _ _)); (fail_if_success (with_reducible show Exists _)); (fail_if_success (with_reducible show LCg.CompEnd _ _ _ _ _ _ _ _ _ _ _ _ _ _)); (fail_if_success (with_reducible show ForEnd _ _ _ _ _ _ _ _)); (fail_if_success (with_reducible show wpAny _ _ (exec (Stmt.Assign _ (Expr.ListComp _ _ _ _) _) _) _ _ _)); (fail_if_success (with_reducible show LCg.CompSrc _ _ _ _ _ _ _ _ _ _ _ _ _ _)); first | with_reducible (((with_reducible show ∀ zqlim : Int, (_ ∨ _) ∧ _ → _); intro zqlim zqhlim; obtain ⟨zqhlim1, zqhlim2⟩ := zqhlim)) | with_reducible (((with_reducible show wpAny _ _ (eval (Expr.IfExp _ (Expr.Constant (Const.int _) _ _) (Expr.Constant (Const.int _) _ _) _) _) _ _ _); refine ifConst ?_)) | walk1 | (((with_reducible show wpAny _ _ (call (Value.ref 298) [_]) _ _ _); refine text' (by assumption) (by assumption) (box_at (by assumption) (by assumption) (by assumption) (.head _) (by assumption)) (by omega) (by omega) ?_; intro zqh9 zqtk9 zqx9 zqt9 zqn9 zqe9 zqB9 zqhn9 zqhx9 zqhc9; obtain ⟨zqF9, zqo9, zqN9, zqb9⟩ := box_back (by assumption) (by assumption) (by first | assumption | exact List.forall_mem_nil _) zqe9 zqB9; clear zqe9 zqB9; (try k_sweep))) | (((with_reducible show wpAny _ _ (call (Value.ref 284) [_, Value.int _ _]) _ _ _); refine draw' (by assumption) (by assumption) (box_at (by assumption) (by assumption) (by assumption) (.head _) (by assumption)) (by omega) (by omega) _ _ (by first | decide | omega) (by first | decide | omega) ?_; intro zqh9 zqtk9 zqr9 zqt9 zqe9 zqB9 zqhr9 zqhq9; obtain ⟨zqF9, zqo9, zqN9, zqb9⟩ := box_back (by assumption) (by assumption) (by first | assumption | exact List.forall_mem_nil _) zqe9 zqB9; clear zqe9 zqB9; (try k_sweep))) | (dsimp only; walk1))))
      refine ih m rfl O Y (box_at st F N (.tail _ (.tail _ (.tail _ (.head _)))) hb') (by omega) (by omega) (by omega) (by omega) (fun h' tk' r tl d n'' e B' hn'' T' R' hokd => ?_)
      k_unfold
      refine compEnd_box ((L + 2, oc) :: (L + 1, od) :: (tl ++ tls)) (fun p hp => ?_) F N off (fun p hp => ?_) e B' T' (fun o9 b9 => ⟨o9, n'', tl ++ tls, ds ++ [d], rfl, b9, ?_, by rw [List.length_append, hds]; rfl, okDs_snoc hok hokd, dat_snoc2 hys R', fun p hp => ?_⟩)
      · simp only [List.mem_cons, List.mem_append] at hp ⊢; rcases hp with h | h | h | h <;> simp [h]
      · rcases List.mem_cons.mp hp with h | hp
        · exact hne p (by simp [h])
        · rcases List.mem_cons.mp hp with h | hp
          · exact hne p (by simp [h])
          · exact htl p hp
      · rw [Nat.mul_succ]; omega
      · rcases List.mem_append.mp hp with hp | hp
        · intro q
          have h1 := (T' p hp).2
          rw [q, N.get (.tail _ (.tail _ (.tail _ (.head _))))] at h1; cases h1
        · exact htl p hp
    · rintro ys news ⟨o', n', tls, ds, rfl, hb', hn', hds, hok, hys, htl⟩
      intro D h tk F N off
      have hyl := hys.length
      have h3 : ds.length ≤ 3 := by rw [hds]; omega
      rw [← hds] at hn'
      have hn3 := Nat.mul_le_mul_left (costV m) h3
      (repeat' (first | ((fail_if_success (with_reducible show wpAny _ _ (eval (Expr.ListComp _ _ _ _) _) _ _ _)); (fail_if_success (with_reducible show wpAny _ _ (exec (Stmt.For _ _ _ _ _) _) _ _ _)); (fail_if_success (with_reducible show wpAny _ _ (exec (Stmt.While _ _ _ _) _) _ _ _)); (fail_if_success (with_reducible show Exists _)); (fail_if_success (with_reducible show LCg.CompEnd _ _ _ _ _ _ _ _ _ _ _ _ _ _)); (fail_if_success (with_reducible show ForEnd _ _ _ _ _ _ _ _)); (fail_if_success (with_reducible show wpAny _ _ (exec (Stmt.Assign _ (Expr.ListComp _ _ _ _) _) _) _ _ _)); (fail_if_success (with_reducible show LCg.CompSrc _ _ _ _ _ _ _ _ _ _ _ _ _ _)); first | with_reducible (((with_reducible show ∀ zqlim : Int, (_ ∨ _) ∧ _ → _); intro zqlim zqhlim; obtain ⟨zqhlim1, zqhlim2⟩ := zqhlim)) | with_reducible (((with_reducible show wpAny _ _ (eval (Expr.IfExp _ (Expr.Constant (Const.int _) _ _) (Expr.Constant (Const.int _) _ _) _) _) _ _ _); refine ifConst ?_)) | walk1 | (((with_reducible show wpAny _ _ (call (Value.ref 298) [_]) _ _ _); refine text' (by assumption) (by assumption) (box_at (by assumption) (by assumption) (by assumption) (.head _) (by assumption)) (by omega) (by omega) ?_; intro zqh9 zqtk9 zqx9 zqt9 zqn9 zqe9 zqB9 zqhn9 zqhx9 zqhc9; obtain ⟨zqF9, zqo9, zqN9, zqb9⟩ := box_back (by assumption) (by assumption) (by first | assumption | exact List.forall_mem_nil _) zqe9 zqB9; clear zqe9 zqB9; (try k_sweep))) | (((with_reducible show wpAny _ _ (call (Value.ref 284) [_, Value.int _ _]) _ _ _); refine draw' (by assumption) (by assumption) (box_at (by assumption) (by assumption) (by assumption) (.head _) (by assumption)) (by omega) (by omega) _ _ (by first | decide | omega) (by first | decide | omega) ?_; intro zqh9 zqtk9 zqr9 zqt9 zqe9 zqB9 zqhr9 zqhq9; obtain ⟨zqF9, zqo9, zqN9, zqb9⟩ := box_back (by assumption) (by assumption) (by first | assumption | exact List.forall_mem_nil _) zqe9 zqB9; clear zqe9 zqB9; (try k_sweep))) | (dsimp only; walk1))))
      all_goals (try dsimp only [Ret])
      · rename_i D2 h2 F2 N2 k2
        have hD2 : D2 ≠ bx := fun q => by
          have e1 := (N2 _ (.head _)).1
          have e2 := (N2 (bx, o') (by simp)).1
          obtain ⟨_, _, _, _, _, _, _, rfl, _⟩ := hb'
          dsimp only at e1 e2
          rw [q, e2] at e1
          have e3 : (Value.type "list") = Value.type "tuple" := congrArg Obj.cls (Option.some.inj e1)
          simp at e3
        have N3 : News G L h2 ((D2, { cls := .type "tuple", data := .seq ys.toArray }) :: tls) := news_sub N2 fun p hp => by
          rcases List.mem_cons.mp hp with rfl | hp <;> simp [*]
        subst hG
        exact ret _ _ _ _ (.tuple ds) n' (extB_of F2) ⟨st.trans F2.keep, o', N2.get (by simp), hb'⟩ (by omega) (fresh_hide N3 fun p hp => (List.mem_cons.mp hp).elim (fun e => e ▸ hD2) (htl p)) (.tuple (.head _) (hys.mono fun p hp => .tail _ hp)) ⟨h3, hok⟩
      · have hD2 : D ≠ bx := Ne.symm off.1
        have N3 : News G L h ((D, LCg.lst ys) :: tls) := news_sub N fun p hp => by
          rcases List.mem_cons.mp hp with rfl | hp <;> simp [*]
        subst hG
        exact ret _ _ _ _ (.list ds) n' (extB_of F) ⟨st.trans F.keep, o', N.get (by simp), hb'⟩ (by omega) (fresh_hide N3 fun p hp => (List.mem_cons.mp hp).elim (fun e => e ▸ hD2) (htl p)) (.list (.head _) (hys.mono fun p hp => .tail _ hp)) ⟨h3, hok⟩
theorem valueV : ∀ k : Nat, SpecValue k := by
  intro k
  induction k with
  | zero => exact value_step 0 (fun m h => nomatch h)
  | succ k ih => exact value_step (k + 1) (fun m h => by cases h; exact ih)
/-! an item of a made list of texts at a drawn place -/
section
variable {prog : Program} {w : World} {A : Around} {E : Value → Shared → Prop} {s : Shared} {Q : Value → Shared → Prop}
theorem pick_str {value slice : Expr} {a : Addr} {vs : List Value} {r : Int} {u : Tok} (P : Str → Prop) (hl : s.heap.IsList a vs.toArray) (h0 : 0 ≤ r) (h1 : r < vs.length) (hz : vs.length ≤ 100) (hP : ∀ v ∈ vs, ∃ x t, v = .str x t ∧ P x)
    (h : ∀ x t, P x → Q (.str x t) s)
    (hs : subscripted slice false (.ref a) (.int r u) = operate [.ref a, .int r u] (getItem (.ref a) (.int r u)) := by with_unfolding_all rfl) :
    wpAny (model prog w) A (subscriptTail value slice (.ref a) (.int r u)) Q E s := by
  have hr : r.toNat < vs.length := by omega
  obtain ⟨x, t, e, hx⟩ := hP _ (List.getElem_mem hr)
  exact tail_any hl.typeIs slot_list_getitem.lookup (wpAny_getItem_list hl h0 (by omega) (by simp [List.getElem?_eq_getElem hr, e]) (h x t hx)) hs
end
theorem box_back2 {H h h' g : Heap} {L bx c : Addr} {m : Str → Option Value} {news : List (Addr × Obj)} {o : Obj} {q : Addr × Obj} {n' : Nat} (F : Fr g L h m) (N : News g L h (q :: (bx, o) :: news)) (hq : q.1 ≠ bx) (ne : ∀ p ∈ news, p.1 ≠ bx) (e : ExtB bx h h') (B : BoxAt H h' bx c n') :
    Fr g L h' m ∧ ∃ o', News g L h' ((bx, o') :: q :: news) ∧ BoxO c n' o' ∧ ∀ p ∈ q :: news, p.1 ≠ bx :=
  have ne' : ∀ p ∈ q :: news, p.1 ≠ bx := fun p hp => (List.mem_cons.mp hp).elim (fun e => e ▸ hq) (ne p)
  have ⟨F', o', N', b'⟩ := box_back F (news_sub N fun p hp => by simp only [List.mem_cons] at hp ⊢; exact hp.elim (fun h => .inr (.inl h)) (fun hp => hp.elim .inl (fun h => .inr (.inr h)))) ne' e B
  ⟨F', o', N', b', ne'⟩
theorem news_drop2 {g h : Heap} {L : Addr} {p q : Addr × Obj} {news : List (Addr × Obj)} (N : News g L h (p :: q :: news)) : News g L h (p :: news) :=
  news_sub N fun x hx => by simp only [List.mem_cons] at hx ⊢; exact hx.elim .inl (fun h => .inr (.inr h))
inductive Nd where
  | leaf (k t : Str)
  | tree (nm : Str) (ch : List Nd)
mutual
noncomputable def datN : Nd → Dat
  | .leaf k t => .tuple [.str k, .str t, .none]
  | .tree nm ch => .tuple [.str nm, .str (Str.ofString ""), .list (datNs ch)]
noncomputable def datNs : List Nd → List Dat
  | [] => []
  | d :: r => datN d :: datNs r
end
mutual
noncomputable def okN : Nat → Nd → Prop
  | _, .leaf k t => k.length ≤ 5 ∧ t.length ≤ 5
  | 0, .tree _ _ => False
  | n + 1, .tree nm ch => nm.length ≤ 5 ∧ ch.length ≤ 3 ∧ okNs n ch
noncomputable def okNs : Nat → List Nd → Prop
  | _, [] => True
  | n, d :: r => okN n d ∧ okNs n r
end
noncomputable def costN : Nat → Nat
  | 0 => 16
  | k + 1 => 3 + 3 * costN k
theorem costN_16 : ∀ k, 16 ≤ costN k
  | 0 => Nat.le_refl _
  | k + 1 => by have := costN_16 k; simp only [costN]; omega
theorem datNs_snoc : ∀ (ch : List Nd) (d : Nd), datNs (ch ++ [d]) = datNs ch ++ [datN d]
  | [], d => rfl
  | e :: r, d => by rw [List.cons_append, datNs, datNs_snoc r d, datNs, List.cons_append]
theorem datNs_len : ∀ (ch : List Nd), (datNs ch).length = ch.length
  | [] => rfl
  | e :: r => by rw [datNs, List.length_cons, datNs_len r, List.length_cons]
theorem okNs_snoc : ∀ {m : Nat} {ds : List Nd} {d : Nd}, okNs m ds → okN m d → okNs m (ds ++ [d])
  | m, [], d, _, h => ⟨h, trivial⟩
  | m, e :: r, d, h, h' => ⟨h.1, okNs_snoc h.2 h'⟩
noncomputable def SpecNode (k : Nat) : Prop := ∀ {w : World} {dp un : Nat} {h : Heap} {gs : Array GenState} {dr : Drawn} {tk : Nat} {os : OsState} {Q E : Value → Shared → Prop} {mean mg mb} {H : Heap} {bx c : Addr} {vs : List Value} {ns : List Int} {n : Nat} {i : Int} {t : Tok} (O : Ok w H mean mg mb) (Y : Bx H bx c vs ns) (B : BoxAt H h bx c n)
  (hi : i = k) (hk : k ≤ 3) (hd : dp + k + 5 < recursionLimit) (hn : n + costN k ≤ 70000)
  (ret : ∀ h' tk' r tl d n', ExtB bx h h' → BoxAt H h' bx c n' → n' ≤ n + costN k → Fresh h h' tl → DatIn tl r (datN d) → okN k d → Q r ⟨h', gs, dr, tk', os⟩),
  wpAny (model PR w) (AA dp un) (call (.ref 332) [.ref bx, .int i t]) Q E ⟨h, gs, dr, tk, os⟩
theorem node_step (k : Nat) (ih : ∀ m, k = m + 1 → SpecNode m) : SpecNode k := by
  intro w dp un h gs dr tk os Q E mean mg mb H bx c vs ns n i t O Y B hi hk hd hn ret
  generalize hs : (⟨h, gs, dr, tk, os⟩ : Shared) = s
  obtain rfl : h = s.heap := by rw [← hs]
  have ret : ∀ h' tk' r tl d n', ExtB bx s.heap h' → BoxAt H h' bx c n' → n' ≤ n + costN k → Fresh s.heap h' tl → DatIn tl r (datN d) → okN k d → Q r { s with heap := h', toks := tk' } := by rw [← hs]; exact ret
  clear hs
  have st := ext_hide B.st Y.nb
  obtain ⟨X, T⟩ := O.keeps st
  have hc14 := costN_16 k
  refine enterC [("box", .ref bx), ("deep", .int i t)] (s.heap.hide bx) (hide_ext (Ext.refl _)) (Heap.hide_size _ _) (X.keeps (hide_ext (Ext.refl _))) (T.keeps (hide_ext (Ext.refl _))).nolimit (by k_is) (by k_is) (by omega) (BindsTo.of_eq rfl) (by rfl) (by decide +kernel) (fun L h₁ tk cells F kk hL Y' N => ?_)
  obtain ⟨oc, od, rfl, d1, d2⟩ := CellsAre.two (n := Str.ofString "deep") (c := L + 2) (n' := Str.ofString "box") (c' := L + 1) Y'
  clear Y'
  have d1 : oc.data = .cell (some (.int i t)) := d1
  have d2 : od.data = .cell (some (.ref bx)) := d2
  obtain ⟨o, N, hb, hne⟩ := box_inC B F kk hL N
  clear kk
  generalize hG : s.heap.hide bx = G at *
  have fin : ∀ (D : Addr) (h' : Heap) (m : Str → Option Value) (x y : Str) (t1 t2 : Tok) (o' : Obj) (n' : Nat) (rest : List (Addr × Obj)) (tk' : Nat), Fr G L h' m → News G L h' ((D, { cls := .type "tuple", data := .seq #[.str x t1, .str y t2, .none] }) :: rest) → (bx, o') ∈ rest → @LT.lt Nat _ bx D → BoxO c n' o' → n' ≤ n + costN k → x.length ≤ 5 → y.length ≤ 5 → Ret Q (Flow.ret (.ref D)) { s with heap := h', toks := tk' } := by
    intro D h' m x y t1 t2 o' n' rest tk' F N mb lt hb' hn' hx hy
    have N3 : News G L h' [(D, { cls := .type "tuple", data := .seq #[.str x t1, .str y t2, .none] })] := news_sub N fun p hp => by rw [List.mem_singleton.mp hp]; exact .head _
    subst hG
    exact ret _ _ _ _ (.leaf x y) n' (extB_of F) ⟨st.trans F.keep, o', N.get (.tail _ mb), hb'⟩ hn' (fresh_hide N3 fun p hp => by rw [List.mem_singleton.mp hp]; exact Nat.ne_of_gt lt) (.tuple (.head _) (.cons (.str _ _) (.cons (.str _ _) (.cons .none .nil)))) ⟨hx, hy⟩
  (repeat' (first | ((fail_if_success (with_reducible show wpAny _ _ (eval (Expr.ListComp _ _ _ _) _) _ _ _)); (fail_if_success (with_reducible show wpAny _ _ (exec (Stmt.For _ _ _ _ _) _) _ _ _)); (fail_if_success (with_reducible show wpAny _ _ (exec (Stmt.While _ _ _ _) _) _ _ _)); (fail_if_success (with_reducible show Exists _)); (fail_if_success (with_reducible show LCg.CompEnd _ _ _ _ _ _ _ _ _ _ _ _ _ _)); (fail_if_success (with_reducible show ForEnd _ _ _ _ _ _ _ _)); (fail_if_success (with_reducible show wpAny _ _ (exec (Stmt.Assign _ (Expr.ListComp _ _ _ _) _) _) _ _ _)); (fail_if_success (with_reducible show LCg.CompSrc _ _ _ _ _ _ _ _ _ _ _ _ _ _)); first | with_reducible (((with_reducible show wpAny _ _ (subscriptTail _ _ (Value.ref _) (Value.int _ _)) _ _ _); refine pick_str (fun x => x.length ≤ 5) (by first | exact News.isList (by assumption) (.tail _ (.head _)) | exact lstK (Frag.In.keeps (by assumption) (Fr.keep (by assumption))) (by k_is)) (by assumption) (by first | assumption | (simp only [List.length_cons, List.length_nil]; omega)) (by decide) (by (repeat' (first | exact List.forall_mem_nil _ | refine List.forall_mem_cons.mpr ⟨⟨_, _, rfl, ?_⟩, ?_⟩)) <;> ((try dsimp only); first | decide +kernel | omega)) ?_; intro zqx9 zqt9 zqhx9; (try dsimp only at zqhx9))) | walk1 | (((with_reducible show wpAny _ _ (call (Value.ref 284) [_, Value.int _ _]) _ _ _); refine draw' (by assumption) (by assumption) (box_at (by assumption) (by assumption) (by assumption) (.tail _ (.head _)) (by assumption)) (by omega) (by omega) _ _ (by first | decide | omega) (by first | decide | omega) ?_; intro zqh9 zqtk9 zqr9 zqt9 zqe9 zqB9 zqhr9 zqhq9; obtain ⟨zqF9, zqo9, zqN9, zqb9, zqm9⟩ := box_back2 (by assumption) (by assumption) (by first | assumption | (refine Nat.ne_of_gt ?_; dsimp only; omega)) (by first | assumption | exact List.forall_mem_nil _) zqe9 zqB9; clear zqe9 zqB9; (try k_sweep))) | (((with_reducible show wpAny _ _ (call (Value.ref 298) [_]) _ _ _); refine text' (by assumption) (by assumption) (box_at (by assumption) (by assumption) (by assumption) (.head _) (by assumption)) (by omega) (by omega) ?_; intro zqh9 zqtk9 zqx9 zqt9 zqn9 zqe9 zqB9 zqhn9 zqhx9 zqhc9; (have zqhx8 : PySem.Str.length zqx9 ≤ 4 := zqhx9); obtain ⟨zqF9, zqo9, zqN9, zqb9⟩ := box_back (by assumption) (by assumption) (by first | assumption | exact List.forall_mem_nil _) zqe9 zqB9; clear zqe9 zqB9; (try k_sweep))) | (((with_reducible show wpAny _ _ (call (Value.ref 284) [_, Value.int _ _]) _ _ _); refine draw' (by assumption) (by assumption) (box_at (by assumption) (by assumption) (by assumption) (.head _) (by assumption)) (by omega) (by omega) _ _ (by first | decide | omega) (by first | decide | omega) ?_; intro zqh9 zqtk9 zqr9 zqt9 zqe9 zqB9 zqhr9 zqhq9; obtain ⟨zqF9, zqo9, zqN9, zqb9⟩ := box_back (by assumption) (by assumption) (by first | assumption | exact List.forall_mem_nil _) zqe9 zqB9; clear zqe9 zqB9; (try k_sweep))) | (dsimp only; walk1))))
  iterate 8
    · rename BoxO _ _ _ => b99
      rename News _ _ _ _ => N99
      exact fin _ _ _ _ _ _ _ _ _ _ _ (by assumption) N99 (.head _) (by omega) b99 (by omega) (by assumption) (by first | assumption | omega | decide +kernel)
  all_goals
    rename BoxO _ _ _ => b99
    rename News _ _ _ _ => N99
    rename Fr _ _ _ _ => F99
    obtain ⟨m, rfl⟩ : ∃ m, k = m + 1 := ⟨k - 1, by omega⟩
    obtain ⟨g9, hg9⟩ : ∃ g, g = s.heap := ⟨_, rfl⟩
    have N0 := news_drop2 N99
    clear N99 fin
    k_sweep
    have hcm : costN (m + 1) = 3 + 3 * costN m := rfl
    refine comp (h₀ := G) (L := L) (fun i ys news => ∃ (o' : Obj) (n' : Nat) (tls : List (Addr × Obj)) (ds : List Nd), news = (bx, o') :: (L + 2, oc) :: (L + 1, od) :: tls ∧ BoxO c n' o' ∧ n' ≤ n + 3 + costN m * i ∧ ds.length = i ∧ okNs m ds ∧ DatAll tls ys (datNs ds) ∧ ∀ p ∈ tls, p.1 ≠ bx) F99 rfl ?_ (by with_unfolding_all rfl) (by decide) (by rfl) (by decide) (by rfl)
    (repeat' (first | ((fail_if_success (with_reducible show wpAny _ _ (eval (Expr.ListComp _ _ _ _) _) _ _ _)); (fail_if_success (with_reducible show wpAny _ _ (exec (Stmt.For _ _ _ _ _) _) _ _ _)); (fail_if_success (with_reducible show wpAny _ _ (exec (Stmt.While _ _ _ _) _) _ _ _)); (fail_if_success (with_reducible show Exists _)); (fail_if_success (with_reducible show LCg.CompEnd _ _ _ _ _ _ _ _ _ _ _ _ _ _)); (fail_if_success (with_reducible show ForEnd _ _ _ _ _ _ _ _)); (fail_if_success (with_reducible show wpAny _ _ (exec (Stmt.Assign _ (Expr.ListComp _ _ _ _) _) _) _ _ _)); (fail_if_success (with_reducible show LCg.CompSrc _ _ _ _ _ _ _ _ _ _ _ _ _ _)); first | with_reducible (((with_reducible show wpAny _ _ (subscriptTail _ _ (Value.ref _) (Value.int _ _)) _ _ _); refine pick_str (fun x => x.length ≤ 5) (by first | exact News.isList (by assumption) (.tail _ (.head _)) | exact lstK (Frag.In.keeps (by assumption) (Fr.keep (by assumption))) (by k_is)) (by assumption) (by first | assumption | (simp only [List.length_cons, List.length_nil]; omega)) (by decide) (by (repeat' (first | exact List.forall_mem_nil _ | refine List.forall_mem_cons.mpr ⟨⟨_, _, rfl, ?_⟩, ?_⟩)) <;> ((try dsimp only); first | decide +kernel | omega)) ?_; intro zqx9 zqt9 zqhx9; (try dsimp only at zqhx9))) | walk1 | (((with_reducible show wpAny _ _ (call (Value.ref 284) [_, Value.int _ _]) _ _ _); refine draw' (by assumption) (by assumption) (box_at (by assumption) (by assumption) (by assumption) (.tail _ (.head _)) (by assumption)) (by omega) (by omega) _ _ (by first | decide | omega) (by first | decide | omega) ?_; intro zqh9 zqtk9 zqr9 zqt9 zqe9 zqB9 zqhr9 zqhq9; obtain ⟨zqF9, zqo9, zqN9, zqb9, zqm9⟩ := box_back2 (by assumption) (by assumption) (by first | assumption | (refine Nat.ne_of_gt ?_; dsimp only; omega)) (by first | assumption | exact List.forall_mem_nil _) zqe9 zqB9; clear zqe9 zqB9; (try k_sweep))) | (((with_reducible show wpAny _ _ (call (Value.ref 298) [_]) _ _ _); refine text' (by assumption) (by assumption) (box_at (by assumption) (by assumption) (by assumption) (.head _) (by assumption)) (by omega) (by omega) ?_; intro zqh9 zqtk9 zqx9 zqt9 zqn9 zqe9 zqB9 zqhn9 zqhx9 zqhc9; (have zqhx8 : PySem.Str.length zqx9 ≤ 4 := zqhx9); obtain ⟨zqF9, zqo9, zqN9, zqb9⟩ := box_back (by assumption) (by assumption) (by first | assumption | exact List.forall_mem_nil _) zqe9 zqB9; clear zqe9 zqB9; (try k_sweep))) | (((with_reducible show wpAny _ _ (call (Value.ref 284) [_, Value.int _ _]) _ _ _); refine draw' (by assumption) (by assumption) (box_at (by assumption) (by assumption) (by assumption) (.head _) (by assumption)) (by omega) (by omega) _ _ (by first | decide | omega) (by first | decide | omega) ?_; intro zqh9 zqtk9 zqr9 zqt9 zqe9 zqB9 zqhr9 zqhq9; obtain ⟨zqF9, zqo9, zqN9, zqb9⟩ := box_back (by assumption) (by assumption) (by first | assumption | exact List.forall_mem_nil _) zqe9 zqB9; clear zqe9 zqB9; (try k_sweep))) | (dsimp only; walk1))))
    refine ⟨_, _, _, by assumption, by assumption, .range (by assumption) (small_one (by decide) (by decide) (by omega) (by omega)) (rangeSize_nat _ _), by rw [PySem.sizeLine_eq]; omega, ⟨_, n + 3, [], [], rfl, by assumption, by omega, rfl, trivial, .nil, List.forall_mem_nil _⟩, ?_, ?_⟩
    · rintro j v ys news I oI C oC D m₂ h tk E' hj ⟨t', rfl⟩ ⟨o', n', tls, ds, rfl, hb', hn', hds, hok, hys, htl⟩ hC hx F N off ne
      have hj2 : costN m * j ≤ costN m * 2 := Nat.mul_le_mul_left _ (by omega)
      (repeat' (first | ((fail_if_success (with_reducible show wpAny _ _ (eval (Expr.ListComp _ _ _ _) _) _ _ _)); (fail_if_success (with_reducible show wpAny _ _ (exec (Stmt.For _ _ _ _ _) _) _ _ _)); (fail_if_success (with_reducible show wpAny _ _ (exec (Stmt.While _ _ _ _) _) _ _ _)); (fail_if_success (with_reducible show Exists _)); (fail_if_success (with_reducible show LCg.CompEnd _ _ _ _ _ _ _ _ _ _ _ _ _ _)); (fail_if_success (with_reducible show ForEnd _ _ _ _ _ _ _ _)); (fail_if_success (with_reducible show wpAny _ _ (exec (Stmt.Assign _ (Expr.ListComp _ _ _ _) _) _) _ _ _)); (fail_if_success (with_reducible show LCg.CompSrc _ _ _ _ _ _ _ _ _ _ _ _ _ _)); first | with_reducible (((with_reducible show wpAny _ _ (subscriptTail _ _ (Value.ref _) (Value.int _ _)) _ _ _); refine pick_str (fun x => x.length ≤ 5) (by first | exact News.isList (by assumption) (.tail _ (.head _)) | exact lstK (Frag.In.keeps (by assumption) (Fr.keep (by assumption))) (by k_is)) (by assumption) (by first | assumption | (simp only [List.length_cons, List.length_nil]; omega)) (by decide) (by (repeat' (first | exact List.forall_mem_nil _ | refine List.forall_mem_cons.mpr ⟨⟨_, _, rfl, ?_⟩, ?_⟩)) <;> ((try dsimp only); first | decide +kernel | omega)) ?_; intro zqx9 zqt9 zqhx9; (try dsimp only at zqhx9))) | walk1 | (((with_reducible show wpAny _ _ (call (Value.ref 284) [_, Value.int _ _]) _ _ _); refine draw' (by assumption) (by assumption) (box_at (by assumption) (by assumption) (by assumption) (.tail _ (.head _)) (by assumption)) (by omega) (by omega) _ _ (by first | decide | omega) (by first | decide | omega) ?_; intro zqh9 zqtk9 zqr9 zqt9 zqe9 zqB9 zqhr9 zqhq9; obtain ⟨zqF9, zqo9, zqN9, zqb9, zqm9⟩ := box_back2 (by assumption) (by assumption) (by first | assumption | (refine Nat.ne_of_gt ?_; dsimp only; omega)) (by first | assumption | exact List.forall_mem_nil _) zqe9 zqB9; clear zqe9 zqB9; (try k_sweep))) | (((with_reducible show wpAny _ _ (call (Value.ref 298) [_]) _ _ _); refine text' (by assumption) (by assumption) (box_at (by assumption) (by assumption) (by assumption) (.head _) (by assumption)) (by omega) (by omega) ?_; intro zqh9 zqtk9 zqx9 zqt9 zqn9 zqe9 zqB9 zqhn9 zqhx9 zqhc9; (have zqhx8 : PySem.Str.length zqx9 ≤ 4 := zqhx9); obtain ⟨zqF9, zqo9, zqN9, zqb9⟩ := box_back (by assumption) (by assumption) (by first | assumption | exact List.forall_mem_nil _) zqe9 zqB9; clear zqe9 zqB9; (try k_sweep))) | (((with_reducible show wpAny _ _ (call (Value.ref 284) [_, Value.int _ _]) _ _ _); refine draw' (by assumption) (by assumption) (box_at (by assumption) (by assumption) (by assumption) (.head _) (by assumption)) (by omega) (by omega) _ _ (by first | decide | omega) (by first | decide | omega) ?_; intro zqh9 zqtk9 zqr9 zqt9 zqe9 zqB9 zqhr9 zqhq9; obtain ⟨zqF9, zqo9, zqN9, zqb9⟩ := box_back (by assumption) (by assumption) (by first | assumption | exact List.forall_mem_nil _) zqe9 zqB9; clear zqe9 zqB9; (try k_sweep))) | (dsimp only; walk1))))
      refine ih m rfl O Y (box_at st F N (.tail _ (.tail _ (.tail _ (.head _)))) hb') (by omega) (by omega) (by omega) (by omega) (fun h' tk' r tl d n'' e B' hn'' T' R' hokd => ?_)
      k_unfold
      refine compEnd_box ((L + 2, oc) :: (L + 1, od) :: (tl ++ tls)) (fun p hp => ?_) F N off (fun p hp => ?_) e B' T' (fun o9 b9 => ⟨o9, n'', tl ++ tls, ds ++ [d], rfl, b9, ?_, by rw [List.length_append, hds]; rfl, okNs_snoc hok hokd, by rw [datNs_snoc]; exact dat_snoc2 hys R', fun p hp => ?_⟩)
      · simp only [List.mem_cons, List.mem_append] at hp ⊢; rcases hp with h | h | h | h <;> simp [h]
      · rcases List.mem_cons.mp hp with h | hp
        · exact hne p (by simp [h])
        · rcases List.mem_cons.mp hp with h | hp
          · exact hne p (by simp [h])
          · exact htl p hp
      · rw [Nat.mul_succ]; omega
      · rcases List.mem_append.mp hp with hp | hp
        · intro q
          have h1 := (T' p hp).2
          rw [q, N.get (.tail _ (.tail _ (.tail _ (.head _))))] at h1; cases h1
        · exact htl p hp
    · rintro D ys news h tk ⟨o', n', tls, ds, rfl, hb', hn', hds, hok, hys, htl⟩ F N off
      have hyl := hys.length
      have h3 : ds.length ≤ 3 := by rw [hds]; omega
      rw [← hds] at hn'
      have hn3 := Nat.mul_le_mul_left (costN m) h3
      (repeat' (first | ((fail_if_success (with_reducible show wpAny _ _ (eval (Expr.ListComp _ _ _ _) _) _ _ _)); (fail_if_success (with_reducible show wpAny _ _ (exec (Stmt.For _ _ _ _ _) _) _ _ _)); (fail_if_success (with_reducible show wpAny _ _ (exec (Stmt.While _ _ _ _) _) _ _ _)); (fail_if_success (with_reducible show Exists _)); (fail_if_success (with_reducible show LCg.CompEnd _ _ _ _ _ _ _ _ _ _ _ _ _ _)); (fail_if_success (with_reducible show ForEnd _ _ _ _ _ _ _ _)); (fail_if_success (with_reducible show wpAny _ _ (exec (Stmt.Assign _ (Expr.ListComp _ _ _ _) _) _) _ _ _)); (fail_if_success (with_reducible show LCg.CompSrc _ _ _ _ _ _ _ _ _ _ _ _ _ _)); first | with_reducible (((with_reducible show wpAny _ _ (subscriptTail _ _ (Value.ref _) (Value.int _ _)) _ _ _); refine pick_str (fun x => x.length ≤ 5) (by first | exact News.isList (by assumption) (.tail _ (.head _)) | exact lstK (Frag.In.keeps (by assumption) (Fr.keep (by assumption))) (by k_is)) (by assumption) (by first | assumption | (simp only [List.length_cons, List.length_nil]; omega)) (by decide) (by (repeat' (first | exact List.forall_mem_nil _ | refine List.forall_mem_cons.mpr ⟨⟨_, _, rfl, ?_⟩, ?_⟩)) <;> ((try dsimp only); first | decide +kernel | omega)) ?_; intro zqx9 zqt9 zqhx9; (try dsimp only at zqhx9))) | walk1 | (((with_reducible show wpAny _ _ (call (Value.ref 284) [_, Value.int _ _]) _ _ _); refine draw' (by assumption) (by assumption) (box_at (by assumption) (by assumption) (by assumption) (.tail _ (.head _)) (by assumption)) (by omega) (by omega) _ _ (by first | decide | omega) (by first | decide | omega) ?_; intro zqh9 zqtk9 zqr9 zqt9 zqe9 zqB9 zqhr9 zqhq9; obtain ⟨zqF9, zqo9, zqN9, zqb9, zqm9⟩ := box_back2 (by assumption) (by assumption) (by first | assumption | (refine Nat.ne_of_gt ?_; dsimp only; omega)) (by first | assumption | exact List.forall_mem_nil _) zqe9 zqB9; clear zqe9 zqB9; (try k_sweep))) | (((with_reducible show wpAny _ _ (call (Value.ref 298) [_]) _ _ _); refine text' (by assumption) (by assumption) (box_at (by assumption) (by assumption) (by assumption) (.head _) (by assumption)) (by omega) (by omega) ?_; intro zqh9 zqtk9 zqx9 zqt9 zqn9 zqe9 zqB9 zqhn9 zqhx9 zqhc9; (have zqhx8 : PySem.Str.length zqx9 ≤ 4 := zqhx9); obtain ⟨zqF9, zqo9, zqN9, zqb9⟩ := box_back (by assumption) (by assumption) (by first | assumption | exact List.forall_mem_nil _) zqe9 zqB9; clear zqe9 zqB9; (try k_sweep))) | (((with_reducible show wpAny _ _ (call (Value.ref 284) [_, Value.int _ _]) _ _ _); refine draw' (by assumption) (by assumption) (box_at (by assumption) (by assumption) (by assumption) (.head _) (by assumption)) (by omega) (by omega) _ _ (by first | decide | omega) (by first | decide | omega) ?_; intro zqh9 zqtk9 zqr9 zqt9 zqe9 zqB9 zqhr9 zqhq9; obtain ⟨zqF9, zqo9, zqN9, zqb9⟩ := box_back (by assumption) (by assumption) (by first | assumption | exact List.forall_mem_nil _) zqe9 zqB9; clear zqe9 zqB9; (try k_sweep))) | (dsimp only; walk1))))
      rename_i D2 h2 F2 N2 l2
      have hD2 : D2 ≠ bx := Nat.ne_of_gt l2.2.1
      have hD : D ≠ bx := Ne.symm off.1
      have N3 : News G L h2 ((D2, _) :: (D, LCg.lst ys) :: tls) := news_sub N2 fun p hp => by
        rcases List.mem_cons.mp hp with rfl | hp
        · exact .head _
        · rcases List.mem_cons.mp hp with rfl | hp
          · exact .tail _ (.head _)
          · exact .tail _ (.tail _ (.tail _ (.tail _ (.tail _ hp))))
      subst hG
      exact ret _ _ _ _ (.tree _ ds) n' (extB_of F2) ⟨st.trans F2.keep, o', N2.get (.tail _ (.tail _ (.head _))), hb'⟩ (by omega) (fresh_hide N3 fun p hp => by
        rcases List.mem_cons.mp hp with rfl | hp
        · exact hD2
        · rcases List.mem_cons.mp hp with rfl | hp
          · exact hD
          · exact htl p hp) (.tuple (.head _) (.cons (.str _ _) (.cons (.str _ _) (.cons (.list (.tail _ (.head _)) (hys.mono fun p hp => .tail _ (.tail _ hp))) .nil)))) ⟨by decide +kernel, h3, hok⟩
theorem nodeV : ∀ k : Nat, SpecNode k := by
  intro k
  induction k with
  | zero => exact node_step 0 (fun m h => nomatch h)
  | succ k ih => exact node_step (k + 1) (fun m h => by cases h; exact ih)
section
variable {prog : Program} {w : World} {K : Frag} {dp un : Nat} {s : Shared} {Q : Value → Shared → Prop} {E : Value → Shared → Prop}
  {name qual : Str} {params : Arguments} {body : List Stmt} {scope : Scope} {dV kV doc pm cdv ct oc : Value} {an od : Option Addr} {osl : Array (Option Value)} {f C : Addr}
theorem under_make (dp un : Nat) (C : Addr) (pos : List Value) (kw : List (Str × Value)) : ∃ u, (AA dp un).under (Code.builtin "type.__call__" ⟨.ref C :: pos, kw⟩) = AA (dp + 1) u := by
  refine ⟨un + (Code.builtin "type.__call__" ⟨.ref C :: pos, kw⟩).cUnits, ?_⟩
  unfold Around.under
  rw [pushEnvs_eq, pushGuards_eq]
  rfl
noncomputable def RetI (x : Addr) (Q : Value → Shared → Prop) (fl : Flow) (s' : Shared) : Prop := (match fl with | .ret v => v | _ => .none) = .none ∧ Q (.ref x) s'
theorem enterI (binds : Addr → List (Str × Value)) {pos : List Value} {kw : List (Str × Value)} (X : K.In s.heap) (hlim : s.heap.NoLimit)
    (hm : makesIn K C = true) (hi : findIn K (.ref C) "__init__" = some (some (.ref f))) (hf : isFn K (.ref f) = true)
    (ho : K.lookup f = some ⟨oc, od, .func (fnOf name qual params body scope dV kV doc pm an cdv ct), osl⟩) (hcd : codeIn K cdv qual = true) (hroom : dp + 1 < recursionLimit)
    (hbind : ∀ h' x, K.In h' → BindsTo { s with heap := h' } (fnOf name qual params body scope dV kV doc pm an cdv ct) ⟨.ref x :: pos, kw⟩ (binds x)) (hloc : ∀ x, ∀ y ∈ binds x, scope.names.lookup y.1 = some .local)
    (h : ∀ x dx L h₁ g un', Ext s.heap g → s.heap.get? x = none → s.heap.get? dx = none → Fr g L h₁ (fun y => (binds x).reverse.lookup y) → News g L h₁ [(x, instObj C dx), (dx, dictOf [] 0)] → @LT.lt Nat _ dx x → @LE.le Nat _ s.heap.objs.size dx →
      wpAny (model prog w) (AA (dp + 1 + 1) un') (execs body (envOf qual scope L f cdv)) (RetI x Q) (fun _ _ => False)
        { s with heap := h₁, toks := s.toks + (binds x).length })
    (hcell : ∀ x ∈ scope.names, x.2 ≠ .cell := by decide) (hco : scope.isCoroutine = false := by rfl) (hgen : scope.isGenerator = false := by rfl) (hk : scope.kind = .function := by rfl) :
    wpAny (model prog w) (AA dp un) (call (.ref C) pos kw) Q E s := by
  refine wpAny_call ?_
  obtain ⟨hh, gs, d, t, os⟩ := s
  refine make_core (makes_of X hm) (looks_findIn X hi) (fun self => bind_fn X self (beq_iff_eq.mp hf)) (.inl rfl) ?_
  have k : Ext hh ((hh.push emptyDict).push (instObj C hh.objs.size)) := fun b o e => Heap.get?_push_of_some _ (Heap.get?_push_of_some _ e)
  have hx : ((hh.push emptyDict).push (instObj C hh.objs.size)).get? (hh.objs.size + 1) = some (instObj C hh.objs.size) := by heap_get
  have hd : ((hh.push emptyDict).push (instObj C hh.objs.size)).get? hh.objs.size = some emptyDict := by heap_get
  have n1 : hh.get? (hh.objs.size + 1) = none := by
    cases e : hh.get? (hh.objs.size + 1) with
    | none => rfl
    | some o => exact absurd (Heap.lt_size e) (Nat.not_lt.mpr (Nat.le_succ _))
  have n2 : hh.get? hh.objs.size = none := by
    cases e : hh.get? hh.objs.size with
    | none => rfl
    | some o => exact absurd (Heap.lt_size e) (Nat.lt_irrefl _)
  have hz : ((hh.push emptyDict).push (instObj C hh.objs.size)).objs.size = hh.objs.size + 2 := by rw [Heap.size_push, Heap.size_push]
  generalize (hh.push emptyDict).push (instObj C hh.objs.size) = h2 at k hx hd hz ⊢
  have X2 := X.keeps k
  obtain ⟨u2, hA⟩ : ∃ u, (AA dp un).under (Code.builtin "type.__call__" ⟨.ref C :: pos, kw⟩) = AA (dp + 1) u := under_make dp un C pos kw
  rw [hA]
  refine codeAny_call_def (fd := fnOf name qual params body scope dV kV doc pm an cdv ct) (body := body) (binds := binds (hh.objs.size + 1)) hroom (X2 _ _ ho) rfl (show h2.NoLimit from Heap.NoLimit.keeps hlim k) (codeRec_of X2 hcd) rfl (hbind h2 _ X2) hcell (hloc _) (fun h₁ hns hk₁ => ?_) hco hgen hk
  have kg : Ext hh (PyProof.Rows.under h2 (hh.objs.size + 1) hh.objs.size) := fun b o e => by
    rw [Heap.hide_ne _ (fun q => by rw [q, n2] at e; cases e), Heap.hide_ne _ (fun q => by rw [q, n1] at e; cases e)]; exact k b o e
  refine wpAny_mono (h (hh.objs.size + 1) hh.objs.size _ h₁ (PyProof.Rows.under h2 (hh.objs.size + 1) hh.objs.size) _ kg n1 n2 ⟨hns, fun b o e => hk₁ b o (of_under e), Nat.le_of_eq (under_size _ _ _)⟩ (fun p hp => ?_) (Nat.lt_succ_self _) (Nat.le_refl _)) (fun fl s' z => ?_) (fun _ _ x => x.elim)
  · simp only [List.mem_cons, List.not_mem_nil, or_false] at hp
    rcases hp with rfl | rfl
    · exact ⟨hk₁ _ _ hx, Nat.ne_of_lt (show hh.objs.size + 1 < h2.objs.size by omega), under_x _ (Nat.ne_of_lt (Nat.lt_succ_self _))⟩
    · exact ⟨hk₁ _ _ hd, Nat.ne_of_lt (show hh.objs.size < h2.objs.size by omega), under_dx _ _ _⟩
  · obtain ⟨z1, z2⟩ := z
    exact ⟨z1, z2⟩
end
theorem fresh2 {h g h' : Heap} {L x dx : Addr} {o o' : Obj} (N : News g L h' [(x, o), (dx, o')]) (n1 : h.get? x = none) (n2 : h.get? dx = none) : Fresh h h' [(x, o), (dx, o')] := fun p hp => by
  simp only [List.mem_cons, List.not_mem_nil, or_false] at hp
  rcases hp with rfl | rfl
  · exact ⟨(N _ (.head _)).1, n1⟩
  · exact ⟨(N _ (.tail _ (.head _))).1, n2⟩
theorem fresh3 {h g h' : Heap} {L x dx D : Addr} {o o' o2 : Obj} (N : News g L h' [(D, o2), (x, o), (dx, o')]) (k : Ext h g) (n1 : h.get? x = none) (n2 : h.get? dx = none) : Fresh h h' [(D, o2), (x, o), (dx, o')] := fun p hp => by
  simp only [List.mem_cons, List.not_mem_nil, or_false] at hp
  rcases hp with rfl | rfl | rfl
  · refine ⟨(N _ (.head _)).1, ?_⟩
    cases e : h.get? D with
    | none => rfl
    | some o => have := (N _ (.head _)).2.2; rw [k _ _ e] at this; cases this
  · exact ⟨(N _ (.tail _ (.head _))).1, n1⟩
  · exact ⟨(N _ (.tail _ (.tail _ (.head _)))).1, n2⟩
theorem fresh2m {h g h' : Heap} {L x dx : Addr} {o o' : Obj} {news : List (Addr × Obj)} (N : News g L h' news) (m1 : (x, o) ∈ news) (m2 : (dx, o') ∈ news) (n1 : h.get? x = none) (n2 : h.get? dx = none) : Fresh h h' [(x, o), (dx, o')] := fun p hp => by
  simp only [List.mem_cons, List.not_mem_nil, or_false] at hp
  rcases hp with rfl | rfl
  · exact ⟨N.get m1, n1⟩
  · exact ⟨N.get m2, n2⟩
noncomputable def en (w : World) (n : String) (t : Tok) (v : Value) : DictEntry := { hash := PyData.keyHash w.params (Str.ofString n), key := .str (Str.ofString n) t, val := v }
noncomputable def TokAt (w : World) (tl : List (Addr × Obj)) (x : Addr) (k t : Str) (at' : Value) : Prop := ∃ dx t1 t2 t3 t4 tk tt W, (x, instObj 81 dx) ∈ tl ∧ (dx, dictOf [en w "kind" t1 (.str k tk), en w "text" t2 (.str t tt), en w "at" t3 at', en w "worth" t4 W] 4) ∈ tl
noncomputable def PosAt (w : World) (tl : List (Addr × Obj)) (x : Addr) (b c : Int) : Prop := ∃ dx t1 t2 t3 a ta tb tc, (x, instObj 45 dx) ∈ tl ∧ (dx, dictOf [en w "offset" t1 (.int a ta), en w "line" t2 (.int b tb), en w "column" t3 (.int c tc)] 3) ∈ tl
noncomputable def LeafAt (w : World) (tl : List (Addr × Obj)) (y x : Addr) (k : Str) : Prop := ∃ dx t1 t2 t3 t4 tk t5 l, (y, instObj 203 dx) ∈ tl ∧ (dx, dictOf [en w "name" t1 (.str k tk), en w "rule" t2 (.int 0 t5), en w "children" t3 (.ref l), en w "token" t4 (.ref x)] 4) ∈ tl
noncomputable def NodeAt (w : World) (tl : List (Addr × Obj)) (y l : Addr) (k : Str) : Prop := ∃ dx t1 t2 t3 tk t5, (y, instObj 168 dx) ∈ tl ∧ (dx, dictOf [en w "name" t1 (.str k tk), en w "rule" t2 (.int 1 t5), en w "children" t3 (.ref l)] 3) ∈ tl
noncomputable def FaultAt (w : World) (tl : List (Addr × Obj)) (y x l : Addr) : Prop := ∃ dx t1 t2 t3 t4 t5 t6, (y, instObj 268 dx) ∈ tl ∧ (dx, dictOf [en w "token" t1 (.ref x), en w "state" t2 (.int 3 t5), en w "expected" t3 (.ref l), en w "index" t4 (.int 2 t6)] 4) ∈ tl
theorem news_swap {g h : Heap} {L : Addr} {a b c d : Addr × Obj} {r : List (Addr × Obj)} (N : News g L h (a :: b :: c :: d :: r)) : News g L h (c :: d :: a :: b :: r) :=
  news_sub N fun x hx => by simp only [List.mem_cons] at hx ⊢; rcases hx with h | h | h | h | h <;> simp [h]
theorem fr_under {g h : Heap} {L a b : Addr} {m : Str → Option Value} (F : Fr g L h m) : Fr (PyProof.Rows.under g a b) L h m :=
  ⟨F.ns, fun p o e => F.keep p o (of_under e), by rw [under_size]; exact F.above⟩
theorem news_under {g h : Heap} {L a b : Addr} {oa ob : Obj} {m : Str → Option Value} {news : List (Addr × Obj)} (F : Fr g L h m) (N : News g L h news) (ea : g.get? a = some oa) (eb : g.get? b = some ob) (hab : a ≠ b) :
    News (PyProof.Rows.under g a b) L h ((a, oa) :: (b, ob) :: news) := fun p hp => by
  have lt : ∀ {c o}, g.get? c = some o → c ≠ L := fun e q => absurd (Heap.lt_size e) (by rw [q]; exact Nat.not_lt.mpr F.above)
  have hid : ∀ c, g.get? c = none → (PyProof.Rows.under g a b).get? c = none := fun c e => by
    cases e' : (PyProof.Rows.under g a b).get? c with
    | none => rfl
    | some o => rw [of_under e'] at e; cases e
  rcases List.mem_cons.mp hp with rfl | hp
  · exact ⟨F.keep _ _ ea, lt ea, under_x _ (Ne.symm hab)⟩
  · rcases List.mem_cons.mp hp with rfl | hp
    · exact ⟨F.keep _ _ eb, lt eb, under_dx _ _ _⟩
    · exact ⟨(N p hp).1, (N p hp).2.1, hid _ (N p hp).2.2⟩
theorem ext_under {H g : Heap} {a b : Addr} (st : Ext H g) (na : H.get? a = none) (nb : H.get? b = none) : Ext H (PyProof.Rows.under g a b) := ext_hide (ext_hide st na) nb
theorem under_back {g h : Heap} {L a b : Addr} {oa ob : Obj} {m : Str → Option Value} {news : List (Addr × Obj)} (F : Fr (PyProof.Rows.under g a b) L h m) (N : News (PyProof.Rows.under g a b) L h news) (ea : g.get? a = some oa) (eb : g.get? b = some ob) (ha : (a, oa) ∈ news) (hb : (b, ob) ∈ news) : Ext g h := fun p o e => by
  by_cases q : p = a
  · subst q; rw [ea] at e; cases e; exact N.get ha
  · by_cases q2 : p = b
    · subst q2; rw [eb] at e; cases e; exact N.get hb
    · exact F.keep p o (by rw [Heap.hide_ne _ q2, Heap.hide_ne _ q]; exact e)
theorem mkTok {w : World} {dp un : Nat} {h : Heap} {gs : Array GenState} {dr : Drawn} {tk : Nat} {os : OsState} {Q E : Value → Shared → Prop} {mean mg mb} (O : Ok w h mean mg mb) (k t : Str) (t1 t2 : Tok) (a : Value) (hd : dp + 2 < recursionLimit)
  (ret : ∀ h' tk' x tl, Ext h h' → Fresh h h' tl → TokAt w tl x k t a → Q (.ref x) ⟨h', gs, dr, tk', os⟩) :
  wpAny (model PR w) (AA dp un) (call (.ref 81) [.str k t1, .str t t2, a]) Q E ⟨h, gs, dr, tk, os⟩ := by
  generalize hs : (⟨h, gs, dr, tk, os⟩ : Shared) = s
  obtain ⟨rfl, rfl, rfl, rfl, rfl⟩ : h = s.heap ∧ gs = s.gens ∧ dr = s.drawn ∧ tk = s.toks ∧ os = s.os := by subst hs; exact ⟨rfl, rfl, rfl, rfl, rfl⟩
  clear hs
  obtain ⟨X, T⟩ := O
  refine enterI (fun x => [("self", .ref x), ("kind", .str k t1), ("text", .str t t2), ("at", a), ("worth", .none)]) X T.nolimit (by k_is) (by k_is) (by k_is) (by k_is) (by k_is) (by omega) (fun h' _ X' => by exact binds_K (s := { s with heap := h' }) X' rfl (by k_is) rfl rfl rfl) (fun _ => locs rfl) (fun x dx L h₁ G un' kg n1 n2 F N lt le => ?_)
  obtain ⟨X, T⟩ := Ok.keeps ⟨X, T⟩ kg
  (repeat' (first | ((fail_if_success (with_reducible show wpAny _ _ (eval (Expr.ListComp _ _ _ _) _) _ _ _)); (fail_if_success (with_reducible show wpAny _ _ (exec (Stmt.For _ _ _ _ _) _) _ _ _)); (fail_if_success (with_reducible show wpAny _ _ (exec (Stmt.While _ _ _ _) _) _ _ _)); (fail_if_success (with_reducible show Exists _)); (fail_if_success (with_reducible show LCg.CompEnd _ _ _ _ _ _ _ _ _ _ _ _ _ _)); (fail_if_success (with_reducible show ForEnd _ _ _ _ _ _ _ _)); (fail_if_success (with_reducible show wpAny _ _ (exec (Stmt.Assign _ (Expr.ListComp _ _ _ _) _) _) _ _ _)); (fail_if_success (with_reducible show LCg.CompSrc _ _ _ _ _ _ _ _ _ _ _ _ _ _)); first | walk1 | (dsimp only; walk1))))
  rename News _ _ _ _ => N9
  rename Fr _ _ _ _ => F9
  exact ⟨rfl, ret _ _ _ [_, _] (fun b o e => F9.keep b o (kg b o e)) (fresh2 N9 n1 n2) ⟨dx, _, _, _, _, _, _, _, .head _, .tail _ (.head _)⟩⟩
theorem mkPos {w : World} {dp un : Nat} {h : Heap} {gs : Array GenState} {dr : Drawn} {tk : Nat} {os : OsState} {Q E : Value → Shared → Prop} {mean mg mb} (O : Ok w h mean mg mb) (a b c : Int) (ta tb tc : Tok) (hd : dp + 2 < recursionLimit)
  (ret : ∀ h' tk' x tl, Ext h h' → Fresh h h' tl → PosAt w tl x b c → Q (.ref x) ⟨h', gs, dr, tk', os⟩) :
  wpAny (model PR w) (AA dp un) (call (.ref 45) [.int a ta, .int b tb, .int c tc]) Q E ⟨h, gs, dr, tk, os⟩ := by
  generalize hs : (⟨h, gs, dr, tk, os⟩ : Shared) = s
  obtain ⟨rfl, rfl, rfl, rfl, rfl⟩ : h = s.heap ∧ gs = s.gens ∧ dr = s.drawn ∧ tk = s.toks ∧ os = s.os := by subst hs; exact ⟨rfl, rfl, rfl, rfl, rfl⟩
  clear hs
  obtain ⟨X, T⟩ := O
  refine enterI (fun x => [("self", .ref x), ("offset", .int a ta), ("line", .int b tb), ("column", .int c tc)]) X T.nolimit (by k_is) (by k_is) (by k_is) (by k_is) (by k_is) (by omega) (fun _ _ _ => BindsTo.of_eq rfl) (fun _ => locs rfl) (fun x dx L h₁ G un' kg n1 n2 F N lt le => ?_)
  obtain ⟨X, T⟩ := Ok.keeps ⟨X, T⟩ kg
  (repeat' (first | ((fail_if_success (with_reducible show wpAny _ _ (eval (Expr.ListComp _ _ _ _) _) _ _ _)); (fail_if_success (with_reducible show wpAny _ _ (exec (Stmt.For _ _ _ _ _) _) _ _ _)); (fail_if_success (with_reducible show wpAny _ _ (exec (Stmt.While _ _ _ _) _) _ _ _)); (fail_if_success (with_reducible show Exists _)); (fail_if_success (with_reducible show LCg.CompEnd _ _ _ _ _ _ _ _ _ _ _ _ _ _)); (fail_if_success (with_reducible show ForEnd _ _ _ _ _ _ _ _)); (fail_if_success (with_reducible show wpAny _ _ (exec (Stmt.Assign _ (Expr.ListComp _ _ _ _) _) _) _ _ _)); (fail_if_success (with_reducible show LCg.CompSrc _ _ _ _ _ _ _ _ _ _ _ _ _ _)); first | walk1 | (dsimp only; walk1))))
  rename News _ _ _ _ => N9
  rename Fr _ _ _ _ => F9
  exact ⟨rfl, ret _ _ _ [_, _] (fun b o e => F9.keep b o (kg b o e)) (fresh2 N9 n1 n2) ⟨dx, _, _, _, _, _, _, _, .head _, .tail _ (.head _)⟩⟩
theorem mkFault {w : World} {dp un : Nat} {h : Heap} {gs : Array GenState} {dr : Drawn} {tk : Nat} {os : OsState} {Q E : Value → Shared → Prop} {mean mg mb} (O : Ok w h mean mg mb) (a b : Addr) (ta tb : Tok) (hd : dp + 2 < recursionLimit)
  (ret : ∀ h' tk' x tl, Ext h h' → Fresh h h' tl → FaultAt w tl x a b → Q (.ref x) ⟨h', gs, dr, tk', os⟩) :
  wpAny (model PR w) (AA dp un) (call (.ref 268) [.ref a, .int 3 ta, .ref b, .int 2 tb]) Q E ⟨h, gs, dr, tk, os⟩ := by
  generalize hs : (⟨h, gs, dr, tk, os⟩ : Shared) = s
  obtain ⟨rfl, rfl, rfl, rfl, rfl⟩ : h = s.heap ∧ gs = s.gens ∧ dr = s.drawn ∧ tk = s.toks ∧ os = s.os := by subst hs; exact ⟨rfl, rfl, rfl, rfl, rfl⟩
  clear hs
  obtain ⟨X, T⟩ := O
  refine enterI (fun x => [("self", .ref x), ("token", .ref a), ("state", .int 3 ta), ("expected", .ref b), ("index", .int 2 tb)]) X T.nolimit (by k_is) (by k_is) (by k_is) (by k_is) (by k_is) (by omega) (fun h' _ X' => by exact binds_K (s := { s with heap := h' }) X' rfl (by k_is) rfl rfl rfl) (fun _ => locs rfl) (fun x dx L h₁ G un' kg n1 n2 F N lt le => ?_)
  obtain ⟨X, T⟩ := Ok.keeps ⟨X, T⟩ kg
  (repeat' (first | ((fail_if_success (with_reducible show wpAny _ _ (eval (Expr.ListComp _ _ _ _) _) _ _ _)); (fail_if_success (with_reducible show wpAny _ _ (exec (Stmt.For _ _ _ _ _) _) _ _ _)); (fail_if_success (with_reducible show wpAny _ _ (exec (Stmt.While _ _ _ _) _) _ _ _)); (fail_if_success (with_reducible show Exists _)); (fail_if_success (with_reducible show LCg.CompEnd _ _ _ _ _ _ _ _ _ _ _ _ _ _)); (fail_if_success (with_reducible show ForEnd _ _ _ _ _ _ _ _)); (fail_if_success (with_reducible show wpAny _ _ (exec (Stmt.Assign _ (Expr.ListComp _ _ _ _) _) _) _ _ _)); (fail_if_success (with_reducible show LCg.CompSrc _ _ _ _ _ _ _ _ _ _ _ _ _ _)); first | walk1 | (dsimp only; walk1))))
  rename News _ _ _ _ => N9
  rename Fr _ _ _ _ => F9
  exact ⟨rfl, ret _ _ _ [_, _] (fun b o e => F9.keep b o (kg b o e)) (fresh2 N9 n1 n2) ⟨dx, _, _, _, _, _, _, .head _, .tail _ (.head _)⟩⟩
theorem mkNode {w : World} {dp un : Nat} {h : Heap} {gs : Array GenState} {dr : Drawn} {tk : Nat} {os : OsState} {Q E : Value → Shared → Prop} {mean mg mb} (O : Ok w h mean mg mb) (k : Str) (l : Addr) (ys : List Value) (ta tb : Tok) (hl : h.IsList l ys.toArray) (hz : ys.length ≤ 100) (hd : dp + 2 < recursionLimit)
  (ret : ∀ h' tk' x l' tl, Ext h h' → Fresh h h' tl → NodeAt w tl x l' k → (∃ c, (l', W.listOf ys.toArray c) ∈ tl) → Q (.ref x) ⟨h', gs, dr, tk', os⟩) :
  wpAny (model PR w) (AA dp un) (call (.ref 168) [.str k ta, .int 1 tb, .ref l]) Q E ⟨h, gs, dr, tk, os⟩ := by
  generalize hs : (⟨h, gs, dr, tk, os⟩ : Shared) = s
  obtain ⟨rfl, rfl, rfl, rfl, rfl⟩ : h = s.heap ∧ gs = s.gens ∧ dr = s.drawn ∧ tk = s.toks ∧ os = s.os := by subst hs; exact ⟨rfl, rfl, rfl, rfl, rfl⟩
  clear hs
  obtain ⟨X, T⟩ := O
  refine enterI (fun x => [("self", .ref x), ("name", .str k ta), ("rule", .int 1 tb), ("children", .ref l)]) X T.nolimit (by k_is) (by k_is) (by k_is) (by k_is) (by k_is) (by omega) (fun _ _ _ => BindsTo.of_eq rfl) (fun _ => locs rfl) (fun x dx L h₁ G un' kg n1 n2 F N lt le => ?_)
  obtain ⟨X, T⟩ := Ok.keeps ⟨X, T⟩ kg
  have hlG : G.IsList l ys.toArray := let ⟨o, ho, r⟩ := hl; ⟨o, kg l o ho, r⟩
  (repeat' (first | ((fail_if_success (with_reducible show wpAny _ _ (eval (Expr.ListComp _ _ _ _) _) _ _ _)); (fail_if_success (with_reducible show wpAny _ _ (exec (Stmt.For _ _ _ _ _) _) _ _ _)); (fail_if_success (with_reducible show wpAny _ _ (exec (Stmt.While _ _ _ _) _) _ _ _)); (fail_if_success (with_reducible show Exists _)); (fail_if_success (with_reducible show LCg.CompEnd _ _ _ _ _ _ _ _ _ _ _ _ _ _)); (fail_if_success (with_reducible show ForEnd _ _ _ _ _ _ _ _)); (fail_if_success (with_reducible show wpAny _ _ (exec (Stmt.Assign _ (Expr.ListComp _ _ _ _) _) _) _ _ _)); (fail_if_success (with_reducible show LCg.CompSrc _ _ _ _ _ _ _ _ _ _ _ _ _ _)); first | walk1 | (dsimp only; walk1))))
  rename News _ _ _ _ => N9
  rename Fr _ _ _ _ => F9
  exact ⟨rfl, ret _ _ _ _ [_, _, _] (fun b o e => F9.keep b o (kg b o e)) (fresh3 N9 kg n1 n2) ⟨dx, _, _, _, _, _, .tail _ (.head _), .tail _ (.tail _ (.head _))⟩ ⟨_, .head _⟩⟩
theorem mkLeaf {w : World} {dp un : Nat} {h : Heap} {gs : Array GenState} {dr : Drawn} {tk : Nat} {os : OsState} {Q E : Value → Shared → Prop} {mean mg mb} {H : Heap} {tl₀ : List (Addr × Obj)} {k t : Str} {tok : Addr} (O : Ok w H mean mg mb) (st : Ext H h) (T₀ : Fresh H h tl₀) (V : TokAt w tl₀ tok k t .none) (hd : dp + 2 < recursionLimit)
  (ret : ∀ h' tk' x tl, Ext h h' → Fresh h h' tl → LeafAt w tl x tok k → Q (.ref x) ⟨h', gs, dr, tk', os⟩) :
  wpAny (model PR w) (AA dp un) (call (.ref 203) [.ref tok]) Q E ⟨h, gs, dr, tk, os⟩ := by
  generalize hs : (⟨h, gs, dr, tk, os⟩ : Shared) = s
  obtain ⟨rfl, rfl, rfl, rfl, rfl⟩ : h = s.heap ∧ gs = s.gens ∧ dr = s.drawn ∧ tk = s.toks ∧ os = s.os := by subst hs; exact ⟨rfl, rfl, rfl, rfl, rfl⟩
  clear hs
  obtain ⟨X, T⟩ := O.keeps st
  obtain ⟨dt, u1, u2, u3, u4, uk, ut, W, v1, v2⟩ := V
  refine enterI (fun x => [("self", .ref x), ("token", .ref tok)]) X T.nolimit (by k_is) (by k_is) (by k_is) (by k_is) (by k_is) (by omega) (fun _ _ _ => BindsTo.of_eq rfl) (fun _ => locs rfl) (fun x dx L h₁ G un' kg n1 n2 F N lt le => ?_)
  have e1 := (T₀ _ v1).1
  have e2 := (T₀ _ v2).1
  have hne : tok ≠ dt := fun q => by rw [q] at e1; dsimp only at e1 e2; rw [e2] at e1; cases e1
  have lt1 : @LT.lt Nat _ tok dx := Nat.lt_of_lt_of_le (Heap.lt_size e1) le
  have lt2 : @LT.lt Nat _ dt dx := Nat.lt_of_lt_of_le (Heap.lt_size e2) le
  have N' := news_under F N (kg _ _ e1) (kg _ _ e2) hne
  replace F := fr_under (a := tok) (b := dt) F
  clear N
  have N := news_swap N'
  clear N'
  obtain ⟨X, T⟩ := Ok.keeps O (ext_under (st.trans kg) (T₀ _ v1).2 (T₀ _ v2).2)
  simp only [en] at N
  generalize hG : PyProof.Rows.under G tok dt = G2 at *
  k_sweep
  (repeat' (first | ((fail_if_success (with_reducible show wpAny _ _ (eval (Expr.ListComp _ _ _ _) _) _ _ _)); (fail_if_success (with_reducible show wpAny _ _ (exec (Stmt.For _ _ _ _ _) _) _ _ _)); (fail_if_success (with_reducible show wpAny _ _ (exec (Stmt.While _ _ _ _) _) _ _ _)); (fail_if_success (with_reducible show Exists _)); (fail_if_success (with_reducible show LCg.CompEnd _ _ _ _ _ _ _ _ _ _ _ _ _ _)); (fail_if_success (with_reducible show ForEnd _ _ _ _ _ _ _ _)); (fail_if_success (with_reducible show wpAny _ _ (exec (Stmt.Assign _ (Expr.ListComp _ _ _ _) _) _) _ _ _)); (fail_if_success (with_reducible show LCg.CompSrc _ _ _ _ _ _ _ _ _ _ _ _ _ _)); first | walk1 | (dsimp only; walk1))))
  rename News _ _ _ _ => N9
  rename Fr _ _ _ _ => F9
  subst hG
  have k9 : Ext G _ := under_back F9 N9 (kg _ _ e1) (kg _ _ e2) (.tail _ (.tail _ (.tail _ (.head _)))) (.tail _ (.tail _ (.tail _ (.tail _ (.head _)))))
  exact ⟨rfl, ret _ _ _ [_, _] (kg.trans k9) (fresh2m N9 (.tail _ (.head _)) (.tail _ (.tail _ (.head _))) n1 n2) ⟨dx, _, _, _, _, _, _, _, .head _, .tail _ (.head _)⟩⟩
mutual
noncomputable def TreeAt (w : World) (tl : List (Addr × Obj)) : Value → Nd → Prop
  | v, .leaf k t => ∃ y x, v = .ref y ∧ LeafAt w tl y x k ∧ TokAt w tl x k t .none
  | v, .tree k ds => ∃ y l ys, v = .ref y ∧ NodeAt w tl y l k ∧ (∃ c, (l, W.listOf (List.toArray ys) c) ∈ tl) ∧ TreeAll w tl ys ds
noncomputable def TreeAll (w : World) (tl : List (Addr × Obj)) : List Value → List Nd → Prop
  | [], [] => True
  | v :: vs, d :: ds => TreeAt w tl v d ∧ TreeAll w tl vs ds
  | [], _ :: _ => False
  | _ :: _, [] => False
end
section
variable {w : World} {tl tl' : List (Addr × Obj)}
theorem TokAt.mono {x k t a} (h : TokAt w tl x k t a) (k' : ∀ p ∈ tl, p ∈ tl') : TokAt w tl' x k t a := by
  obtain ⟨dx, t1, t2, t3, t4, tk, tt, W, a, b⟩ := h; exact ⟨dx, t1, t2, t3, t4, tk, tt, W, k' _ a, k' _ b⟩
theorem LeafAt.mono {y x k} (h : LeafAt w tl y x k) (k' : ∀ p ∈ tl, p ∈ tl') : LeafAt w tl' y x k := by
  obtain ⟨dx, t1, t2, t3, t4, tk, t5, l, a, b⟩ := h; exact ⟨dx, t1, t2, t3, t4, tk, t5, l, k' _ a, k' _ b⟩
theorem NodeAt.mono {y l k} (h : NodeAt w tl y l k) (k' : ∀ p ∈ tl, p ∈ tl') : NodeAt w tl' y l k := by
  obtain ⟨dx, t1, t2, t3, tk, t5, a, b⟩ := h; exact ⟨dx, t1, t2, t3, tk, t5, k' _ a, k' _ b⟩
mutual
theorem TreeAt.mono (k' : ∀ p ∈ tl, p ∈ tl') : ∀ (d : Nd) (v : Value), TreeAt w tl v d → TreeAt w tl' v d
  | .leaf k t, v, ⟨y, x, e, a, b⟩ => ⟨y, x, e, a.mono k', b.mono k'⟩
  | .tree k ds, v, ⟨y, l, ys, e, a, ⟨c, b⟩, h⟩ => ⟨y, l, ys, e, a.mono k', ⟨c, k' _ b⟩, TreeAll.mono k' ds ys h⟩
theorem TreeAll.mono (k' : ∀ p ∈ tl, p ∈ tl') : ∀ (ds : List Nd) (vs : List Value), TreeAll w tl vs ds → TreeAll w tl' vs ds
  | [], [], _ => trivial
  | d :: ds, v :: vs, ⟨a, b⟩ => ⟨TreeAt.mono k' d v a, TreeAll.mono k' ds vs b⟩
  | [], _ :: _, h => h.elim
  | _ :: _, [], h => h.elim
end
theorem TreeAll.length : ∀ {ds : List Nd} {vs : List Value}, TreeAll w tl vs ds → vs.length = ds.length
  | [], [], _ => rfl
  | d :: ds, v :: vs, h => by rw [List.length_cons, List.length_cons, TreeAll.length h.2]
  | [], _ :: _, h => h.elim
  | _ :: _, [], h => h.elim
theorem TreeAll.get : ∀ {ds : List Nd} {vs : List Value}, TreeAll w tl vs ds → ∀ {i : Nat} {v : Value} (hi : i < vs.length), vs[i]? = some v → ∃ hd : i < ds.length, TreeAt w tl v (ds[i]'hd)
  | [], [], _, i, v, hi, _ => absurd hi (Nat.not_lt_zero _)
  | d :: ds, v :: vs, h, 0, u, hi, e => ⟨Nat.zero_lt_succ _, by cases e; exact h.1⟩
  | d :: ds, v :: vs, h, i + 1, u, hi, e => by
    obtain ⟨hd, r⟩ := TreeAll.get h.2 (i := i) (Nat.lt_of_succ_lt_succ hi) (by simpa using e)
    exact ⟨Nat.succ_lt_succ hd, r⟩
  | [], _ :: _, h, _, _, _, _ => h.elim
  | _ :: _, [], h, _, _, _, _ => h.elim
theorem TreeAll.snoc : ∀ {ds : List Nd} {vs : List Value} {d : Nd} {v : Value}, TreeAll w tl vs ds → TreeAt w tl v d → TreeAll w tl (vs ++ [v]) (ds ++ [d])
  | [], [], d, v, _, h => ⟨h, trivial⟩
  | e :: ds, u :: vs, d, v, h, h' => ⟨h.1, TreeAll.snoc h.2 h'⟩
  | [], _ :: _, _, _, h, _ => h.elim
  | _ :: _, [], _, _, h, _ => h.elim
theorem tree_snoc {tl₂ : List (Addr × Obj)} {ys : List Value} {ds : List Nd} {i : Nat} (hi : i < ds.length) {r : Value} (h : TreeAll w tl ys (ds.take i)) (R : TreeAt w tl₂ r (ds[i]'hi)) :
    TreeAll w (tl₂ ++ tl) (ys ++ [r]) (ds.take (i + 1)) := by
  rw [List.take_add_one, List.getElem?_eq_getElem hi]
  exact TreeAll.snoc (TreeAll.mono (fun p hp => List.mem_append_right _ hp) _ _ h) (TreeAt.mono (fun p hp => List.mem_append_left _ hp) _ _ R)
end
theorem okNs_get : ∀ {n : Nat} {ds : List Nd}, okNs n ds → ∀ {i : Nat} (hi : i < ds.length), okN n (ds[i]'hi)
  | n, d :: r, h, 0, _ => h.1
  | n, d :: r, h, i + 1, hi => okNs_get h.2 (Nat.lt_of_succ_lt_succ hi)
theorem datNs_get : ∀ {ds : List Nd} {i : Nat} (hi : i < (datNs ds).length) (hi' : i < ds.length), (datNs ds)[i]'hi = datN (ds[i]'hi')
  | d :: r, 0, _, _ => rfl
  | d :: r, i + 1, hi, hi' => datNs_get (ds := r) (i := i) (Nat.lt_of_succ_lt_succ hi) (Nat.lt_of_succ_lt_succ hi')
theorem both_ext {g h h' : Heap} {L : Addr} {m : Str → Option Value} {news tl : List (Addr × Obj)} (F : Fr g L h m) (N : News g L h news) (e : Ext h h') (T : Fresh h h' tl) : Fr g L h' m ∧ News g L h' (news ++ tl) :=
  ⟨F.keeps e, news_sub (news_ext F N e T) fun p hp => by simp only [List.mem_append] at hp ⊢; exact hp.symm⟩
noncomputable def SpecTree (n : Nat) (d : Nd) : Prop := ∀ {w : World} {dp un : Nat} {h : Heap} {gs : Array GenState} {dr : Drawn} {tk : Nat} {os : OsState} {Q E : Value → Shared → Prop} {mean mg mb} {τ : List (Addr × Obj)} {v : Value} (O : Ok w h mean mg mb) (H : Holds h τ) (R : DatIn τ v (datN d)) (hn : n ≤ 3) (hd : dp + n + 6 < recursionLimit)
  (ret : ∀ h' tk' r tl, Ext h h' → Fresh h h' tl → TreeAt w tl r d → Q r ⟨h', gs, dr, tk', os⟩),
  wpAny (model PR w) (AA dp un) (call (.ref 337) [v]) Q E ⟨h, gs, dr, tk, os⟩
theorem tree_step (n : Nat) (ih : ∀ m, n = m + 1 → ∀ d, okN m d → SpecTree m d) : ∀ (d : Nd), okN n d → SpecTree n d := by
  intro d hok w dp un h gs dr tk os Q E mean mg mb τ v O H R hn hd ret
  generalize hs : (⟨h, gs, dr, tk, os⟩ : Shared) = s
  obtain ⟨rfl, rfl, rfl, rfl, rfl⟩ : h = s.heap ∧ gs = s.gens ∧ dr = s.drawn ∧ tk = s.toks ∧ os = s.os := by subst hs; exact ⟨rfl, rfl, rfl, rfl, rfl⟩
  clear hs
  obtain ⟨X, T⟩ := O
  refine enter [("node", v)] s.heap (Ext.refl _) rfl X T.nolimit (by k_is) (by k_is) (by omega) (BindsTo.of_eq rfl) (locs rfl) (fun L h₁ F k hL => ?_)
  have N : News s.heap L h₁ [] := News.nil
  cases d with
  | leaf kk tt =>
    cases R with | @tuple a vs nn ds hm hr => ?_
    cases hr with | cons r1 hr => ?_
    cases hr with | cons r2 hr => ?_
    cases hr with | cons r3 hr => ?_
    cases hr
    cases r1; cases r2; cases r3
    have ht : Heap.IsTuple s.heap a (List.toArray _) := ⟨_, H _ hm, rfl, _, rfl⟩
    (repeat' (first | ((fail_if_success (with_reducible show wpAny _ _ (eval (Expr.ListComp _ _ _ _) _) _ _ _)); (fail_if_success (with_reducible show wpAny _ _ (exec (Stmt.For _ _ _ _ _) _) _ _ _)); (fail_if_success (with_reducible show wpAny _ _ (exec (Stmt.While _ _ _ _) _) _ _ _)); (fail_if_success (with_reducible show Exists _)); (fail_if_success (with_reducible show LCg.CompEnd _ _ _ _ _ _ _ _ _ _ _ _ _ _)); (fail_if_success (with_reducible show ForEnd _ _ _ _ _ _ _ _)); (fail_if_success (with_reducible show wpAny _ _ (exec (Stmt.Assign _ (Expr.ListComp _ _ _ _) _) _) _ _ _)); (fail_if_success (with_reducible show LCg.CompSrc _ _ _ _ _ _ _ _ _ _ _ _ _ _)); first | with_reducible (((with_reducible show wpAny _ _ (call (Value.ref 81) [Value.str _ _, Value.str _ _, _]) _ _ _); refine mkTok ⟨Frag.In.keeps (by assumption) (Fr.keep (by assumption)), Top.keeps (by assumption) (Fr.keep (by assumption))⟩ _ _ _ _ _ (by omega) ?_; intro zqh9 zqtk9 zqx9 zqtl9 zqe9 zqT9 zqV9; obtain ⟨zqF9, zqN9⟩ := both_ext (by assumption) (by assumption) zqe9 zqT9; (try simp only [List.cons_append, List.nil_append] at zqN9); k_sweep)) | walk1 | (dsimp only; walk1))))
    refine mkLeaf (H := s.heap) (tl₀ := ‹List (Addr × Obj)›) ⟨X, T⟩ (Fr.keep (by assumption)) (fresh_of (by assumption)) (by assumption) (by omega) ?_
    intro h2 tk2 y2 tl2 e2 T2 V2
    rename Fr _ _ _ _ => F9
    rename News _ _ _ _ => N9
    rename TokAt _ _ _ _ _ _ => V9
    obtain ⟨F3, N3⟩ := both_ext F9 N9 e2 T2
    dsimp only [Ret]
    exact ret _ _ _ _ F3.keep (fresh_of N3) ⟨y2, _, rfl, V2.mono (fun p hp => List.mem_append_right _ hp), V9.mono (fun p hp => List.mem_append_left _ hp)⟩
  | tree nm es =>
    cases R with | @tuple a vs nn ds hm hr => ?_
    cases hr with | cons r1 hr => ?_
    cases hr with | cons r2 hr => ?_
    cases hr with | cons r3 hr => ?_
    cases hr
    cases r1; cases r2
    cases r3 with | @list al vs nl ds hml hr => ?_
    have ht : Heap.IsTuple s.heap a (List.toArray _) := ⟨_, H _ hm, rfl, _, rfl⟩
    have hl : Heap.IsList s.heap al vs.toArray := ⟨_, H _ hml, rfl, _, rfl⟩
    cases n with | zero => exact hok.elim | succ n => ?_
    obtain ⟨hnm, hds, hok⟩ := hok
    (repeat' (first | ((fail_if_success (with_reducible show wpAny _ _ (eval (Expr.ListComp _ _ _ _) _) _ _ _)); (fail_if_success (with_reducible show wpAny _ _ (exec (Stmt.For _ _ _ _ _) _) _ _ _)); (fail_if_success (with_reducible show wpAny _ _ (exec (Stmt.While _ _ _ _) _) _ _ _)); (fail_if_success (with_reducible show Exists _)); (fail_if_success (with_reducible show LCg.CompEnd _ _ _ _ _ _ _ _ _ _ _ _ _ _)); (fail_if_success (with_reducible show ForEnd _ _ _ _ _ _ _ _)); (fail_if_success (with_reducible show wpAny _ _ (exec (Stmt.Assign _ (Expr.ListComp _ _ _ _) _) _) _ _ _)); (fail_if_success (with_reducible show LCg.CompSrc _ _ _ _ _ _ _ _ _ _ _ _ _ _)); first | with_reducible (((with_reducible show wpAny _ _ (call (Value.ref 81) [Value.str _ _, Value.str _ _, _]) _ _ _); refine mkTok ⟨Frag.In.keeps (by assumption) (Fr.keep (by assumption)), Top.keeps (by assumption) (Fr.keep (by assumption))⟩ _ _ _ _ _ (by omega) ?_; intro zqh9 zqtk9 zqx9 zqtl9 zqe9 zqT9 zqV9; obtain ⟨zqF9, zqN9⟩ := both_ext (by assumption) (by assumption) zqe9 zqT9; (try simp only [List.cons_append, List.nil_append] at zqN9); k_sweep)) | walk1 | (dsimp only; walk1))))
    refine comp (h₀ := s.heap) (L := L) (fun i ys news => TreeAll w news ys (es.take i)) (by assumption) rfl ?_ (by with_unfolding_all rfl) (by decide) (by rfl) (by decide) (by rfl)
    first | with_reducible (((with_reducible show wpAny _ _ (call (Value.ref 81) [Value.str _ _, Value.str _ _, _]) _ _ _); refine mkTok ⟨Frag.In.keeps (by assumption) (Fr.keep (by assumption)), Top.keeps (by assumption) (Fr.keep (by assumption))⟩ _ _ _ _ _ (by omega) ?_; intro zqh9 zqtk9 zqx9 zqtl9 zqe9 zqT9 zqV9; obtain ⟨zqF9, zqN9⟩ := both_ext (by assumption) (by assumption) zqe9 zqT9; (try simp only [List.cons_append, List.nil_append] at zqN9); k_sweep)) | walk1
    have hlen := hr.length
    rw [datNs_len] at hlen
    refine ⟨_, _, [], (by assumption), News.nil, .lst hl, (by rw [PySem.sizeLine_eq, List.size_toArray]; omega), trivial, ?_, ?_⟩
    · rintro i v ys news I oI C oC D m₂ h tk E' hi hv hys hC hx F N off ne
      obtain ⟨hi', R'⟩ := dat_at hr (by simpa using hi) (by simpa using hv)
      have hi2 : i < es.length := by rw [datNs_len] at hi'; exact hi'
      rw [datNs_get hi' hi2] at R'
      (repeat' (first | ((fail_if_success (with_reducible show wpAny _ _ (eval (Expr.ListComp _ _ _ _) _) _ _ _)); (fail_if_success (with_reducible show wpAny _ _ (exec (Stmt.For _ _ _ _ _) _) _ _ _)); (fail_if_success (with_reducible show wpAny _ _ (exec (Stmt.While _ _ _ _) _) _ _ _)); (fail_if_success (with_reducible show Exists _)); (fail_if_success (with_reducible show LCg.CompEnd _ _ _ _ _ _ _ _ _ _ _ _ _ _)); (fail_if_success (with_reducible show ForEnd _ _ _ _ _ _ _ _)); (fail_if_success (with_reducible show wpAny _ _ (exec (Stmt.Assign _ (Expr.ListComp _ _ _ _) _) _) _ _ _)); (fail_if_success (with_reducible show LCg.CompSrc _ _ _ _ _ _ _ _ _ _ _ _ _ _)); first | with_reducible (((with_reducible show wpAny _ _ (call (Value.ref 81) [Value.str _ _, Value.str _ _, _]) _ _ _); refine mkTok ⟨Frag.In.keeps (by assumption) (Fr.keep (by assumption)), Top.keeps (by assumption) (Fr.keep (by assumption))⟩ _ _ _ _ _ (by omega) ?_; intro zqh9 zqtk9 zqx9 zqtl9 zqe9 zqT9 zqV9; obtain ⟨zqF9, zqN9⟩ := both_ext (by assumption) (by assumption) zqe9 zqT9; (try simp only [List.cons_append, List.nil_append] at zqN9); k_sweep)) | walk1 | (dsimp only; walk1))))
      refine ih n rfl _ (okNs_get hok hi2) ⟨X.keeps F.keep, T.keeps F.keep⟩ (H.keeps F.keep) R' (by omega) (by omega) (fun h' tk' r tl e T' R'' => ?_)
      k_unfold
      exact compEnd_fresh F N e T' off (tree_snoc hi2 hys R'')
    · rintro D ys news h tk hys F N off
      have hys : TreeAll w news ys es := by rw [List.size_toArray, hlen, List.take_length] at hys; exact hys
      (repeat' (first | ((fail_if_success (with_reducible show wpAny _ _ (eval (Expr.ListComp _ _ _ _) _) _ _ _)); (fail_if_success (with_reducible show wpAny _ _ (exec (Stmt.For _ _ _ _ _) _) _ _ _)); (fail_if_success (with_reducible show wpAny _ _ (exec (Stmt.While _ _ _ _) _) _ _ _)); (fail_if_success (with_reducible show Exists _)); (fail_if_success (with_reducible show LCg.CompEnd _ _ _ _ _ _ _ _ _ _ _ _ _ _)); (fail_if_success (with_reducible show ForEnd _ _ _ _ _ _ _ _)); (fail_if_success (with_reducible show wpAny _ _ (exec (Stmt.Assign _ (Expr.ListComp _ _ _ _) _) _) _ _ _)); (fail_if_success (with_reducible show LCg.CompSrc _ _ _ _ _ _ _ _ _ _ _ _ _ _)); first | with_reducible (((with_reducible show wpAny _ _ (call (Value.ref 81) [Value.str _ _, Value.str _ _, _]) _ _ _); refine mkTok ⟨Frag.In.keeps (by assumption) (Fr.keep (by assumption)), Top.keeps (by assumption) (Fr.keep (by assumption))⟩ _ _ _ _ _ (by omega) ?_; intro zqh9 zqtk9 zqx9 zqtl9 zqe9 zqT9 zqV9; obtain ⟨zqF9, zqN9⟩ := both_ext (by assumption) (by assumption) zqe9 zqT9; (try simp only [List.cons_append, List.nil_append] at zqN9); k_sweep)) | walk1 | (dsimp only; walk1))))
      have hyl := hys.length
      refine mkNode ⟨X.keeps F.keep, T.keeps F.keep⟩ nm D ys _ _ (N.isList (.head _)) (by omega) (by omega) (fun h' tk' x l' tl e T' V' m' => ?_)
      obtain ⟨F3, N3⟩ := both_ext F N e T'
      dsimp only [Ret]
      obtain ⟨c, m'⟩ := m'
      exact ret _ _ _ _ F3.keep (fresh_of N3) ⟨x, l', ys, rfl, V'.mono (fun p hp => List.mem_append_right _ hp), ⟨c, List.mem_append_right _ m'⟩, TreeAll.mono (fun p hp => List.mem_append_left _ (.tail _ hp)) _ _ hys⟩
theorem treeV : ∀ (n : Nat) (d : Nd), okN n d → SpecTree n d := by
  intro n
  induction n with
  | zero => exact tree_step 0 (fun m h => nomatch h)
  | succ n ih => exact tree_step (n + 1) (fun m h => by cases h; exact ih)
theorem news_in {g h : Heap} {L a b : Addr} {oa ob : Obj} (k : Ext g h) (hL : g.objs.size = L) (ea : g.get? a = some oa) (eb : g.get? b = some ob) (hab : a ≠ b) : News (PyProof.Rows.under g a b) L h [(a, oa), (b, ob)] := fun p hp => by
  have lt : ∀ {c o}, g.get? c = some o → c ≠ L := fun e q => absurd (Heap.lt_size e) (by rw [q, hL]; exact Nat.lt_irrefl _)
  simp only [List.mem_cons, List.not_mem_nil, or_false] at hp
  rcases hp with rfl | rfl
  · exact ⟨k _ _ ea, lt ea, under_x _ (Ne.symm hab)⟩
  · exact ⟨k _ _ eb, lt eb, under_dx _ _ _⟩
theorem inst_ne {h : Heap} {a b C dx : Addr} {es : List DictEntry} {n : Nat} (e1 : h.get? a = some (instObj C dx)) (e2 : h.get? b = some (dictOf es n)) : a ≠ b := fun q => by
  rw [q, e2] at e1; cases e1
noncomputable def leafT (k t : Str) : List Nat := if k = t ∨ k = S (39 :: t.cps.toList ++ [39]) then k.cps.toList else k.cps.toList ++ (61 :: escT 32 t.cps.toList)
theorem str_S (x : Str) : x = S x.cps.toList := by cases x; simp
theorem quoted_S (t : Str) : Str.ofString "'" ++ t ++ Str.ofString "'" = S (39 :: t.cps.toList ++ [39]) := by
  rw [str_S t, show Str.ofString "'" = S [39] by decide +kernel]; simp only [app_S]; try simp
theorem eq_S (k t : Str) : k ++ Str.ofString "=" ++ S (escT 32 t.cps.toList) = S (k.cps.toList ++ (61 :: escT 32 t.cps.toList)) := by
  conv => lhs; rw [str_S k, show Str.ofString "=" = S [61] by decide +kernel]
  simp only [app_S]; simp
theorem ne_of_beqF {a b : Str} (h : (a == b) = false) : ¬ a = b := fun q => by rw [q, beq_self_eq_true] at h; cases h
theorem leaf1 {k t : Str} (h : k = t ∨ k = Str.ofString "'" ++ t ++ Str.ofString "'") : k = S (leafT k t) := by
  rw [quoted_S] at h; unfold leafT; rw [if_pos h]
theorem leaf2 {k t : Str} (h : ¬ k = t) (h' : ¬ k = Str.ofString "'" ++ t ++ Str.ofString "'") : k ++ Str.ofString "=" ++ S (escT 32 t.cps.toList) = S (leafT k t) := by
  rw [quoted_S] at h'; unfold leafT; rw [if_neg (fun q => q.elim h h')]; exact eq_S k t
theorem showLeaf {w : World} {dp un : Nat} {h : Heap} {gs : Array GenState} {dr : Drawn} {tk : Nat} {os : OsState} {Q E : Value → Shared → Prop} {mean mg mb} {H : Heap} {tl₀ : List (Addr × Obj)} {k t : Str} {tok : Addr} {a : Value} (O : Ok w H mean mg mb) (st : Ext H h) (T₀ : Fresh H h tl₀) (V : TokAt w tl₀ tok k t a) (hd : dp + 5 < recursionLimit) (hk : k.length ≤ 5) (ht : t.length ≤ 5)
  (ret : ∀ h' tk' t', Ext h h' → Q (.str (S (leafT k t)) t') ⟨h', gs, dr, tk', os⟩) :
  wpAny (model PR w) (AA dp un) (call (.ref 224) [.ref tok]) Q E ⟨h, gs, dr, tk, os⟩ := by
  generalize hs : (⟨h, gs, dr, tk, os⟩ : Shared) = s
  obtain ⟨rfl, rfl, rfl, rfl, rfl⟩ : h = s.heap ∧ gs = s.gens ∧ dr = s.drawn ∧ tk = s.toks ∧ os = s.os := by subst hs; exact ⟨rfl, rfl, rfl, rfl, rfl⟩
  clear hs
  obtain ⟨X, T⟩ := O.keeps st
  obtain ⟨dt, u1, u2, u3, u4, uk, ut, W, v1, v2⟩ := V
  have e1 := (T₀ _ v1).1
  have e2 := (T₀ _ v2).1
  have hne : tok ≠ dt := inst_ne e1 e2
  refine enter [("token", .ref tok)] (PyProof.Rows.under s.heap tok dt) (fun b o e => of_under e) (under_size _ _ _) X T.nolimit (by k_is) (by k_is) (by omega) (BindsTo.of_eq rfl) (locs rfl) (fun L h₁ F kx hL => ?_)
  have N := news_in kx hL e1 e2 hne
  obtain ⟨X, T⟩ := Ok.keeps O (ext_under st (T₀ _ v1).2 (T₀ _ v2).2)
  simp only [en] at N e2
  have ret' : ∀ x h' tk' t', x = S (leafT k t) → Ext s.heap h' → Q (.str x t') { s with heap := h', toks := tk' } := fun x h' tk' t' e k => e ▸ ret h' tk' t' k
  clear ret
  generalize hG : PyProof.Rows.under s.heap tok dt = G at *
  (repeat' (first | ((fail_if_success (with_reducible show wpAny _ _ (eval (Expr.ListComp _ _ _ _) _) _ _ _)); (fail_if_success (with_reducible show wpAny _ _ (exec (Stmt.For _ _ _ _ _) _) _ _ _)); (fail_if_success (with_reducible show wpAny _ _ (exec (Stmt.While _ _ _ _) _) _ _ _)); (fail_if_success (with_reducible show Exists _)); (fail_if_success (with_reducible show LCg.CompEnd _ _ _ _ _ _ _ _ _ _ _ _ _ _)); (fail_if_success (with_reducible show ForEnd _ _ _ _ _ _ _ _)); (fail_if_success (with_reducible show wpAny _ _ (exec (Stmt.Assign _ (Expr.ListComp _ _ _ _) _) _) _ _ _)); (fail_if_success (with_reducible show LCg.CompSrc _ _ _ _ _ _ _ _ _ _ _ _ _ _)); first | walk1 | (dsimp only; walk1))))
  · dsimp only [Ret]
    exact ret' _ _ _ _ (leaf1 (.inl (eq_of_beq (by assumption)))) kx
  · dsimp only [Ret]
    exact ret' _ _ _ _ (leaf1 (.inr (eq_of_beq (by assumption)))) kx
  · refine escd ⟨X.keeps F.keep, T.keeps F.keep⟩ (by omega) t 32 _ _ (by have h5 : t.cps.size ≤ 5 := ht; omega) (fun h' tk' t'' e => ?_)
    have F := F.keeps e
    have N := N.grown e
    have hlz : (S (escT 32 t.cps.toList)).length ≤ 20 := by have h1 := escT_len 32 t.cps.toList; have h2 : t.cps.size ≤ 5 := ht; have hz : t.cps.toList.length = t.cps.size := Array.length_toList; rw [len_S]; omega
    (repeat' (first | ((fail_if_success (with_reducible show wpAny _ _ (eval (Expr.ListComp _ _ _ _) _) _ _ _)); (fail_if_success (with_reducible show wpAny _ _ (exec (Stmt.For _ _ _ _ _) _) _ _ _)); (fail_if_success (with_reducible show wpAny _ _ (exec (Stmt.While _ _ _ _) _) _ _ _)); (fail_if_success (with_reducible show Exists _)); (fail_if_success (with_reducible show LCg.CompEnd _ _ _ _ _ _ _ _ _ _ _ _ _ _)); (fail_if_success (with_reducible show ForEnd _ _ _ _ _ _ _ _)); (fail_if_success (with_reducible show wpAny _ _ (exec (Stmt.Assign _ (Expr.ListComp _ _ _ _) _) _) _ _ _)); (fail_if_success (with_reducible show LCg.CompSrc _ _ _ _ _ _ _ _ _ _ _ _ _ _)); first | walk1 | (dsimp only; walk1))))
    dsimp only [Ret]
    subst hG
    exact ret' _ _ _ _ (leaf2 (ne_of_beqF (by assumption)) (ne_of_beqF (by assumption))) (under_back F N e1 e2 (.head _) (.tail _ (.head _)))
theorem lawLeaf {w : World} {dp un : Nat} {h : Heap} {gs : Array GenState} {dr : Drawn} {tk : Nat} {os : OsState} {Q E : Value → Shared → Prop} {mean mg mb} {k t : Str} {t1 t2 : Tok} (O : Ok w h mean mg mb) (hd : dp + 5 < recursionLimit) (hk : k.length ≤ 5) (ht : t.length ≤ 5)
  (ret : ∀ h' tk' t', Ext h h' → Q (.str (S (leafT k t)) t') ⟨h', gs, dr, tk', os⟩) :
  wpAny (model PR w) (AA dp un) (call (.ref 344) [.str k t1, .str t t2]) Q E ⟨h, gs, dr, tk, os⟩ := by
  generalize hs : (⟨h, gs, dr, tk, os⟩ : Shared) = s
  obtain ⟨rfl, rfl, rfl, rfl, rfl⟩ : h = s.heap ∧ gs = s.gens ∧ dr = s.drawn ∧ tk = s.toks ∧ os = s.os := by subst hs; exact ⟨rfl, rfl, rfl, rfl, rfl⟩
  clear hs
  obtain ⟨X, T⟩ := O
  refine enter [("kind", .str k t1), ("text", .str t t2)] s.heap (Ext.refl _) rfl X T.nolimit (by k_is) (by k_is) (by omega) (BindsTo.of_eq rfl) (locs rfl) (fun L h₁ F kx hL => ?_)
  have N : News s.heap L h₁ [] := News.nil
  have ret' : ∀ x h' tk' t', x = S (leafT k t) → Ext s.heap h' → Q (.str x t') { s with heap := h', toks := tk' } := fun x h' tk' t' e k => e ▸ ret h' tk' t' k
  clear ret
  (repeat' (first | ((fail_if_success (with_reducible show wpAny _ _ (eval (Expr.ListComp _ _ _ _) _) _ _ _)); (fail_if_success (with_reducible show wpAny _ _ (exec (Stmt.For _ _ _ _ _) _) _ _ _)); (fail_if_success (with_reducible show wpAny _ _ (exec (Stmt.While _ _ _ _) _) _ _ _)); (fail_if_success (with_reducible show Exists _)); (fail_if_success (with_reducible show LCg.CompEnd _ _ _ _ _ _ _ _ _ _ _ _ _ _)); (fail_if_success (with_reducible show ForEnd _ _ _ _ _ _ _ _)); (fail_if_success (with_reducible show wpAny _ _ (exec (Stmt.Assign _ (Expr.ListComp _ _ _ _) _) _) _ _ _)); (fail_if_success (with_reducible show LCg.CompSrc _ _ _ _ _ _ _ _ _ _ _ _ _ _)); first | walk1 | (dsimp only; walk1))))
  · dsimp only [Ret]
    exact ret' _ _ _ _ (leaf1 (.inl (eq_of_beq (a := t) (by assumption)).symm)) kx
  · dsimp only [Ret]
    exact ret' _ _ _ _ (leaf1 (.inr (eq_of_beq (by assumption)))) kx
  · refine lawEsc ⟨X.keeps F.keep, T.keeps F.keep⟩ (by omega) t 32 _ _ (by have h5 : t.cps.size ≤ 5 := ht; omega) (fun h' tk' t'' e => ?_)
    have F := F.keeps e
    have N := N.grown e
    have hlz : (S (escT 32 t.cps.toList)).length ≤ 20 := by have h1 := escT_len 32 t.cps.toList; have h2 : t.cps.size ≤ 5 := ht; have hz : t.cps.toList.length = t.cps.size := Array.length_toList; rw [len_S]; omega
    (repeat' (first | ((fail_if_success (with_reducible show wpAny _ _ (eval (Expr.ListComp _ _ _ _) _) _ _ _)); (fail_if_success (with_reducible show wpAny _ _ (exec (Stmt.For _ _ _ _ _) _) _ _ _)); (fail_if_success (with_reducible show wpAny _ _ (exec (Stmt.While _ _ _ _) _) _ _ _)); (fail_if_success (with_reducible show Exists _)); (fail_if_success (with_reducible show LCg.CompEnd _ _ _ _ _ _ _ _ _ _ _ _ _ _)); (fail_if_success (with_reducible show ForEnd _ _ _ _ _ _ _ _)); (fail_if_success (with_reducible show wpAny _ _ (exec (Stmt.Assign _ (Expr.ListComp _ _ _ _) _) _) _ _ _)); (fail_if_success (with_reducible show LCg.CompSrc _ _ _ _ _ _ _ _ _ _ _ _ _ _)); first | walk1 | (dsimp only; walk1))))
    dsimp only [Ret]
    exact ret' _ _ _ _ (leaf2 (Ne.symm (ne_of_beqF (by assumption))) (ne_of_beqF (by assumption))) F.keep
mutual
noncomputable def pageT : Nd → List Nat
  | .leaf k t => leafT k t
  | .tree k ds => [40] ++ joinL [32] (k.cps.toList :: pageTs ds) ++ [41]
noncomputable def pageTs : List Nd → List (List Nat)
  | [] => []
  | d :: r => pageT d :: pageTs r
end
theorem pageTs_eq : ∀ ds : List Nd, pageTs ds = ds.map pageT
  | [] => rfl
  | d :: r => by rw [pageTs, pageTs_eq r, List.map_cons]
theorem okNs_mem : ∀ {n : Nat} {ds : List Nd}, okNs n ds → ∀ d ∈ ds, okN n d
  | n, [], _, d, h => nomatch h
  | n, e :: r, h, d, hd => (List.mem_cons.mp hd).elim (fun q => q ▸ h.1) (okNs_mem h.2 d)
noncomputable def lenP : Nat → Nat
  | 0 => 26
  | n + 1 => 7 + 3 * (lenP n + 2)
theorem lenP_26 : ∀ n, 26 ≤ lenP n
  | 0 => Nat.le_refl _
  | n + 1 => by have := lenP_26 n; unfold lenP; omega
theorem leafT_len {k t : Str} (hk : k.length ≤ 5) (ht : t.length ≤ 5) : (leafT k t).length ≤ 26 := by
  have h1 : k.cps.toList.length ≤ 5 := by rw [Array.length_toList]; exact hk
  have h2 := escT_len 32 t.cps.toList
  have h3 : t.cps.toList.length ≤ 5 := by rw [Array.length_toList]; exact ht
  unfold leafT
  split
  · omega
  · rw [List.length_append, List.length_cons]; omega
theorem page_in {k : Str} {l : List (List Nat)} {B : Nat} (hk : k.length ≤ 5) (hl : l.length ≤ 3) (h : ∀ x ∈ l, x.length ≤ B) : (joinL [32] (k.cps.toList :: l)).length ≤ 5 + 3 * (B + 2) := by
  have h1 : k.cps.toList.length ≤ 5 := by rw [Array.length_toList]; exact hk
  have h2 := flat_len (sep := [32]) (by decide) l h
  have h3 : l.length * (B + 2) ≤ 3 * (B + 2) := Nat.mul_le_mul_right _ hl
  unfold joinL
  rw [List.length_append]; omega
theorem pageT_len : ∀ (n : Nat) (d : Nd), okN n d → (pageT d).length ≤ lenP n
  | n, .leaf k t, h => by
    have h1 : k.length ≤ 5 ∧ t.length ≤ 5 := by cases n <;> exact h
    unfold pageT
    exact Nat.le_trans (leafT_len h1.1 h1.2) (lenP_26 n)
  | 0, .tree k ds, h => h.elim
  | n + 1, .tree k ds, h => by
    have h2 := page_in (l := pageTs ds) (B := lenP n) h.1 (by rw [pageTs_eq, List.length_map]; exact h.2.1) (fun x hx => by
      rw [pageTs_eq] at hx
      obtain ⟨d, hd, rfl⟩ := List.mem_map.mp hx
      exact pageT_len n d (okNs_mem h.2.2 d hd))
    unfold pageT lenP
    rw [List.length_append, List.length_append, List.length_singleton, List.length_singleton]; omega
theorem lenP_3 {n : Nat} (h : n ≤ 3) : lenP n ≤ 1000 := by
  match n, h with
  | 0, _ => decide
  | 1, _ => decide
  | 2, _ => decide
  | 3, _ => decide
theorem page_sum (f : Nd → List Nat) (B : Nat) {n : Nat} {ds : List Nd} (hz : ds.length ≤ 4) (hB : B ≤ 1004) (h : ∀ d ∈ ds, (f d).length ≤ B) (x : Str) (hx : x.length ≤ 5) (sep : Str) (hs : sep.length ≤ 1) : ((x :: ds.map fun d => S (f d)).map (·.length)).sum + (x :: ds.map fun d => S (f d)).length * sep.length ≤ 16777216 := by
  have h1 := sum_len_le f B ds h
  have h2 : ds.length * B ≤ 4 * 1004 := Nat.mul_le_mul hz hB
  have h3 : (ds.length + 1) * sep.length ≤ 5 * 1 := Nat.mul_le_mul (by omega) hs
  rw [List.map_cons, List.sum_cons, List.length_cons, List.length_map]
  omega
theorem page_sum0 (f : Nd → List Nat) (B : Nat) {ds : List Nd} (hz : ds.length ≤ 4) (hB : B ≤ 1004) (h : ∀ d ∈ ds, (f d).length ≤ B) (sep : Str) (hs : sep.length ≤ 1) : ((ds.map fun d => S (f d)).map (·.length)).sum + (ds.map fun d => S (f d)).length * sep.length ≤ 16777216 := by
  have h1 := sum_len_le f B ds h
  have h2 : ds.length * B ≤ 4 * 1004 := Nat.mul_le_mul hz hB
  have h3 : ds.length * sep.length ≤ 4 * 1 := Nat.mul_le_mul hz hs
  rw [List.length_map]
  omega
theorem page_join (es : List Nd) : Txt.join (Str.ofString "") (es.map fun d => S (32 :: pageT d)) = S ((pageTs es).flatMap fun p => [32] ++ p) := by
  rw [show Str.ofString "" = S [] by decide +kernel, show (es.map fun d => S (32 :: pageT d)) = ((pageTs es).map fun p => [32] ++ p).map S by rw [pageTs_eq, List.map_map, List.map_map]; rfl, join_S, joinL_nil]; rfl
theorem page_flat {es : List Nd} (hds : es.length ≤ 3) (h : ∀ d ∈ es, (pageT d).length ≤ 1000) : ((pageTs es).flatMap fun p => [32] ++ p).length ≤ 3010 := by
  have h2 := flat_len (sep := [32]) (by decide) (pageTs es) (B := 1000) (fun x hx => by
    rw [pageTs_eq] at hx
    obtain ⟨d, hd, rfl⟩ := List.mem_map.mp hx
    exact h d hd)
  rw [pageTs_eq, List.length_map] at h2
  rw [pageTs_eq]
  have h3 : es.length * (1000 + 2) ≤ 3 * (1000 + 2) := Nat.mul_le_mul_right _ hds
  omega
theorem sp_S (l : List Nat) : Str.ofString " " ++ S l = S (32 :: l) := by
  rw [show Str.ofString " " = S [32] by decide +kernel]; simp only [app_S]; simp
theorem page_S (nm : Str) (es : List Nd) : Str.ofString "(" ++ nm ++ S ((pageTs es).flatMap fun p => [32] ++ p) ++ Str.ofString ")" = S (pageT (.tree nm es)) := by
  conv => lhs; rw [str_S nm, show Str.ofString "(" = S [40] by decide +kernel, show Str.ofString ")" = S [41] by decide +kernel]
  simp only [app_S, pageT, joinL]; simp
noncomputable def SpecPage (n : Nat) (d : Nd) : Prop := ∀ {w : World} {dp un : Nat} {h : Heap} {gs : Array GenState} {dr : Drawn} {tk : Nat} {os : OsState} {Q E : Value → Shared → Prop} {mean mg mb} {τ : List (Addr × Obj)} {v : Value} (O : Ok w h mean mg mb) (H : Holds h τ) (R : DatIn τ v (datN d)) (hn : n ≤ 3) (hd : dp + n + 6 < recursionLimit)
  (ret : ∀ h' tk' t', Ext h h' → Q (.str (S (pageT d)) t') ⟨h', gs, dr, tk', os⟩),
  wpAny (model PR w) (AA dp un) (call (.ref 349) [v]) Q E ⟨h, gs, dr, tk, os⟩
theorem page_step (n : Nat) (ih : ∀ m, n = m + 1 → ∀ d, okN m d → SpecPage m d) : ∀ (d : Nd), okN n d → SpecPage n d := by
  intro d hok w dp un h gs dr tk os Q E mean mg mb τ v O H R hn hd ret
  generalize hs : (⟨h, gs, dr, tk, os⟩ : Shared) = s
  obtain ⟨rfl, rfl, rfl, rfl, rfl⟩ : h = s.heap ∧ gs = s.gens ∧ dr = s.drawn ∧ tk = s.toks ∧ os = s.os := by subst hs; exact ⟨rfl, rfl, rfl, rfl, rfl⟩
  clear hs
  obtain ⟨X, T⟩ := O
  refine enter [("node", v)] s.heap (Ext.refl _) rfl X T.nolimit (by k_is) (by k_is) (by omega) (BindsTo.of_eq rfl) (locs rfl) (fun L h₁ F k hL => ?_)
  have N : News s.heap L h₁ [] := News.nil
  have ret' : ∀ x h' tk' t', x = S (pageT d) → Ext s.heap h' → Q (.str x t') { s with heap := h', toks := tk' } := fun x h' tk' t' e k => e ▸ ret h' tk' t' k
  clear ret
  cases d with
  | leaf kk tt =>
    have h1 : kk.length ≤ 5 ∧ tt.length ≤ 5 := by cases n <;> exact hok
    cases R with | @tuple a vs nn ds hm hr => ?_
    cases hr with | cons r1 hr => ?_
    cases hr with | cons r2 hr => ?_
    cases hr with | cons r3 hr => ?_
    cases hr
    cases r1; cases r2; cases r3
    have ht : Heap.IsTuple s.heap a (List.toArray _) := ⟨_, H _ hm, rfl, _, rfl⟩
    (repeat' (first | ((fail_if_success (with_reducible show wpAny _ _ (eval (Expr.ListComp _ _ _ _) _) _ _ _)); (fail_if_success (with_reducible show wpAny _ _ (exec (Stmt.For _ _ _ _ _) _) _ _ _)); (fail_if_success (with_reducible show wpAny _ _ (exec (Stmt.While _ _ _ _) _) _ _ _)); (fail_if_success (with_reducible show Exists _)); (fail_if_success (with_reducible show LCg.CompEnd _ _ _ _ _ _ _ _ _ _ _ _ _ _)); (fail_if_success (with_reducible show ForEnd _ _ _ _ _ _ _ _)); (fail_if_success (with_reducible show wpAny _ _ (exec (Stmt.Assign _ (Expr.ListComp _ _ _ _) _) _) _ _ _)); (fail_if_success (with_reducible show LCg.CompSrc _ _ _ _ _ _ _ _ _ _ _ _ _ _)); first | walk1 | (dsimp only; walk1))))
    rename Fr _ _ _ _ => F9
    refine lawLeaf ⟨X.keeps F9.keep, T.keeps F9.keep⟩ (by omega) h1.1 h1.2 (fun h' tk' t' e => ?_)
    dsimp only [Ret]
    exact ret' _ _ _ _ rfl (Ext.trans F9.keep e)
  | tree nm es =>
    cases R with | @tuple a vs nn ds hm hr => ?_
    cases hr with | cons r1 hr => ?_
    cases hr with | cons r2 hr => ?_
    cases hr with | cons r3 hr => ?_
    cases hr
    cases r1; cases r2
    cases r3 with | @list al vs nl ds hml hr => ?_
    have ht : Heap.IsTuple s.heap a (List.toArray _) := ⟨_, H _ hm, rfl, _, rfl⟩
    have hl : Heap.IsList s.heap al vs.toArray := ⟨_, H _ hml, rfl, _, rfl⟩
    cases n with | zero => exact hok.elim | succ n => ?_
    obtain ⟨hnm, hds, hok⟩ := hok
    (repeat' (first | ((fail_if_success (with_reducible show wpAny _ _ (eval (Expr.ListComp _ _ _ _) _) _ _ _)); (fail_if_success (with_reducible show wpAny _ _ (exec (Stmt.For _ _ _ _ _) _) _ _ _)); (fail_if_success (with_reducible show wpAny _ _ (exec (Stmt.While _ _ _ _) _) _ _ _)); (fail_if_success (with_reducible show Exists _)); (fail_if_success (with_reducible show LCg.CompEnd _ _ _ _ _ _ _ _ _ _ _ _ _ _)); (fail_if_success (with_reducible show ForEnd _ _ _ _ _ _ _ _)); (fail_if_success (with_reducible show wpAny _ _ (exec (Stmt.Assign _ (Expr.ListComp _ _ _ _) _) _) _ _ _)); (fail_if_success (with_reducible show LCg.CompSrc _ _ _ _ _ _ _ _ _ _ _ _ _ _)); first | walk1 | (dsimp only; walk1))))
    refine comp (h₀ := s.heap) (L := L) (fun i ys news => news = [] ∧ StrsAre ys ((es.take i).map fun d => S (32 :: pageT d))) (by assumption) rfl ?_ (by with_unfolding_all rfl) (by decide) (by rfl) (by decide) (by rfl)
    walk1
    have hlen := hr.length
    rw [datNs_len] at hlen
    refine ⟨_, _, [], (by assumption), News.nil, .lst hl, (by rw [PySem.sizeLine_eq, List.size_toArray]; omega), ⟨rfl, .nil⟩, ?_, ?_⟩
    · rintro i v ys news I oI C oC D m₂ h tk E' hi hv ⟨rfl, hys⟩ hC hx F N off ne
      obtain ⟨hi', R'⟩ := dat_at hr (by simpa using hi) (by simpa using hv)
      have hi2 : i < es.length := by rw [datNs_len] at hi'; exact hi'
      rw [datNs_get hi' hi2] at R'
      have hz := Nat.le_trans (pageT_len n _ (okNs_get hok hi2)) (lenP_3 (n := n) (by omega))
      rw [← len_S] at hz
      (repeat' (first | ((fail_if_success (with_reducible show wpAny _ _ (eval (Expr.ListComp _ _ _ _) _) _ _ _)); (fail_if_success (with_reducible show wpAny _ _ (exec (Stmt.For _ _ _ _ _) _) _ _ _)); (fail_if_success (with_reducible show wpAny _ _ (exec (Stmt.While _ _ _ _) _) _ _ _)); (fail_if_success (with_reducible show Exists _)); (fail_if_success (with_reducible show LCg.CompEnd _ _ _ _ _ _ _ _ _ _ _ _ _ _)); (fail_if_success (with_reducible show ForEnd _ _ _ _ _ _ _ _)); (fail_if_success (with_reducible show wpAny _ _ (exec (Stmt.Assign _ (Expr.ListComp _ _ _ _) _) _) _ _ _)); (fail_if_success (with_reducible show LCg.CompSrc _ _ _ _ _ _ _ _ _ _ _ _ _ _)); first | walk1 | (dsimp only; walk1))))
      refine ih n rfl _ (okNs_get hok hi2) ⟨X.keeps F.keep, T.keeps F.keep⟩ (H.keeps F.keep) R' (by omega) (by omega) (fun h' tk' t'' e => ?_)
      have F := F.keeps e
      have N := N.grown e
      (repeat' (first | ((fail_if_success (with_reducible show wpAny _ _ (eval (Expr.ListComp _ _ _ _) _) _ _ _)); (fail_if_success (with_reducible show wpAny _ _ (exec (Stmt.For _ _ _ _ _) _) _ _ _)); (fail_if_success (with_reducible show wpAny _ _ (exec (Stmt.While _ _ _ _) _) _ _ _)); (fail_if_success (with_reducible show Exists _)); (fail_if_success (with_reducible show LCg.CompEnd _ _ _ _ _ _ _ _ _ _ _ _ _ _)); (fail_if_success (with_reducible show ForEnd _ _ _ _ _ _ _ _)); (fail_if_success (with_reducible show wpAny _ _ (exec (Stmt.Assign _ (Expr.ListComp _ _ _ _) _) _) _ _ _)); (fail_if_success (with_reducible show LCg.CompSrc _ _ _ _ _ _ _ _ _ _ _ _ _ _)); first | walk1 | (dsimp only; walk1))))
      k_unfold
      rw [sp_S]
      exact ⟨_, _, _, rfl, F, N, off, trivial, rfl, strs_snoc (f := fun d => 32 :: pageT d) hi2 hys⟩
    · rintro D ys news h tk ⟨rfl, hys⟩ F N off
      have hys : StrsAre ys (es.map fun d => S (32 :: pageT d)) := by rw [List.size_toArray, hlen, List.take_length] at hys; exact hys
      (repeat' (first | ((fail_if_success (with_reducible show wpAny _ _ (eval (Expr.ListComp _ _ _ _) _) _ _ _)); (fail_if_success (with_reducible show wpAny _ _ (exec (Stmt.For _ _ _ _ _) _) _ _ _)); (fail_if_success (with_reducible show wpAny _ _ (exec (Stmt.While _ _ _ _) _) _ _ _)); (fail_if_success (with_reducible show Exists _)); (fail_if_success (with_reducible show LCg.CompEnd _ _ _ _ _ _ _ _ _ _ _ _ _ _)); (fail_if_success (with_reducible show ForEnd _ _ _ _ _ _ _ _)); (fail_if_success (with_reducible show wpAny _ _ (exec (Stmt.Assign _ (Expr.ListComp _ _ _ _) _) _) _ _ _)); (fail_if_success (with_reducible show LCg.CompSrc _ _ _ _ _ _ _ _ _ _ _ _ _ _)); first | walk1 | (dsimp only; walk1))))
      have hB : ∀ d ∈ es, (pageT d).length ≤ 1000 := fun d hd => Nat.le_trans (pageT_len n d (okNs_mem hok d hd)) (lenP_3 (n := n) (by omega))
      refine join_list (N.isList (.head _)) hys (page_sum0 (fun d => 32 :: pageT d) 1004 (by omega) (by omega) (fun d hd => by have := hB d hd; rw [List.length_cons]; omega) _ (by decide)) (fun t' tk' => ?_)
      rw [page_join]
      have hlj : (S ((pageTs es).flatMap fun p => [32] ++ p)).length ≤ 3010 := by rw [len_S]; exact page_flat hds hB
      (repeat' (first | ((fail_if_success (with_reducible show wpAny _ _ (eval (Expr.ListComp _ _ _ _) _) _ _ _)); (fail_if_success (with_reducible show wpAny _ _ (exec (Stmt.For _ _ _ _ _) _) _ _ _)); (fail_if_success (with_reducible show wpAny _ _ (exec (Stmt.While _ _ _ _) _) _ _ _)); (fail_if_success (with_reducible show Exists _)); (fail_if_success (with_reducible show LCg.CompEnd _ _ _ _ _ _ _ _ _ _ _ _ _ _)); (fail_if_success (with_reducible show ForEnd _ _ _ _ _ _ _ _)); (fail_if_success (with_reducible show wpAny _ _ (exec (Stmt.Assign _ (Expr.ListComp _ _ _ _) _) _) _ _ _)); (fail_if_success (with_reducible show LCg.CompSrc _ _ _ _ _ _ _ _ _ _ _ _ _ _)); first | walk1 | (dsimp only; walk1))))
      dsimp only [Ret]
      exact ret' _ _ _ _ (page_S nm es) F.keep
theorem pageV : ∀ (n : Nat) (d : Nd), okN n d → SpecPage n d := by
  intro n
  induction n with
  | zero => exact page_step 0 (fun m h => nomatch h)
  | succ n ih => exact page_step (n + 1) (fun m h => by cases h; exact ih)
theorem Fresh.keeps {h h' h2 : Heap} {tl : List (Addr × Obj)} (T : Fresh h h' tl) (e : Ext h' h2) : Fresh h h2 tl := fun p hp => ⟨e _ _ (T p hp).1, (T p hp).2⟩
theorem list_under {g : Heap} {a b l C dx : Addr} {es : List DictEntry} {n c : Nat} {items : Array Value} (e : g.get? l = some (W.listOf items c)) (ea : g.get? a = some (instObj C dx)) (eb : g.get? b = some (dictOf es n)) : (PyProof.Rows.under g a b).IsList l items := by
  have n1 : l ≠ a := fun q => by rw [q, ea] at e; simp at e
  have n2 : l ≠ b := fun q => by rw [q, eb] at e; simp at e
  exact ⟨_, by rw [Heap.hide_ne _ n2, Heap.hide_ne _ n1]; exact e, rfl, _, rfl⟩
theorem show_join (nm : Str) (es : List Nd) : Txt.join (Str.ofString " ") (nm :: es.map fun d => S (pageT d)) = S (joinL [32] (nm.cps.toList :: pageTs es)) := by
  rw [← join_S, show Str.ofString " " = S [32] by decide +kernel, pageTs_eq, List.map_cons, List.map_map]; rfl
theorem show_S (nm : Str) (es : List Nd) : Str.ofString "(" ++ S (joinL [32] (nm.cps.toList :: pageTs es)) ++ Str.ofString ")" = S (pageT (.tree nm es)) := by
  rw [show Str.ofString "(" = S [40] by decide +kernel, show Str.ofString ")" = S [41] by decide +kernel]
  simp only [app_S, pageT]
noncomputable def SpecShow (n : Nat) (d : Nd) : Prop := ∀ {w : World} {dp un : Nat} {h : Heap} {gs : Array GenState} {dr : Drawn} {tk : Nat} {os : OsState} {Q E : Value → Shared → Prop} {mean mg mb} {H : Heap} {τ : List (Addr × Obj)} {v : Value} (O : Ok w H mean mg mb) (st : Ext H h) (T₀ : Fresh H h τ) (R : TreeAt w τ v d) (hn : n ≤ 3) (hd : dp + n + 6 < recursionLimit)
  (ret : ∀ h' tk' t', Ext h h' → Q (.str (S (pageT d)) t') ⟨h', gs, dr, tk', os⟩),
  wpAny (model PR w) (AA dp un) (call (.ref 229) [v]) Q E ⟨h, gs, dr, tk, os⟩
theorem show_step (n : Nat) (ih : ∀ m, n = m + 1 → ∀ d, okN m d → SpecShow m d) : ∀ (d : Nd), okN n d → SpecShow n d := by
  intro d hok w dp un h gs dr tk os Q E mean mg mb H τ v O st T₀ R hn hd ret
  generalize hs : (⟨h, gs, dr, tk, os⟩ : Shared) = s
  obtain ⟨rfl, rfl, rfl, rfl, rfl⟩ : h = s.heap ∧ gs = s.gens ∧ dr = s.drawn ∧ tk = s.toks ∧ os = s.os := by subst hs; exact ⟨rfl, rfl, rfl, rfl, rfl⟩
  clear hs
  obtain ⟨X, T⟩ := O.keeps st
  have ret' : ∀ x h' tk' t', x = S (pageT d) → Ext s.heap h' → Q (.str x t') { s with heap := h', toks := tk' } := fun x h' tk' t' e k => e ▸ ret h' tk' t' k
  clear ret
  cases d with
  | leaf kk tt =>
    have h1 : kk.length ≤ 5 ∧ tt.length ≤ 5 := by cases n <;> exact hok
    unfold TreeAt at R
    obtain ⟨y, x, rfl, ⟨dy, t1, t2, t3, t4, t6, t5, l, v1, v2⟩, V⟩ := R
    have e1 := (T₀ _ v1).1
    have e2 := (T₀ _ v2).1
    have hne : y ≠ dy := inst_ne e1 e2
    refine enter [("tree", .ref y)] (PyProof.Rows.under s.heap y dy) (fun b o e => of_under e) (under_size _ _ _) X T.nolimit (by k_is) (by k_is) (by omega) (BindsTo.of_eq rfl) (locs rfl) (fun L h₁ F kx hL => ?_)
    have N := news_in kx hL e1 e2 hne
    obtain ⟨X, T⟩ := Ok.keeps O (ext_under st (T₀ _ v1).2 (T₀ _ v2).2)
    simp only [en] at N e2
    generalize hG : PyProof.Rows.under s.heap y dy = G at *
    (repeat' (first | ((fail_if_success (with_reducible show wpAny _ _ (eval (Expr.ListComp _ _ _ _) _) _ _ _)); (fail_if_success (with_reducible show wpAny _ _ (exec (Stmt.For _ _ _ _ _) _) _ _ _)); (fail_if_success (with_reducible show wpAny _ _ (exec (Stmt.While _ _ _ _) _) _ _ _)); (fail_if_success (with_reducible show Exists _)); (fail_if_success (with_reducible show LCg.CompEnd _ _ _ _ _ _ _ _ _ _ _ _ _ _)); (fail_if_success (with_reducible show ForEnd _ _ _ _ _ _ _ _)); (fail_if_success (with_reducible show wpAny _ _ (exec (Stmt.Assign _ (Expr.ListComp _ _ _ _) _) _) _ _ _)); (fail_if_success (with_reducible show LCg.CompSrc _ _ _ _ _ _ _ _ _ _ _ _ _ _)); first | walk1 | (dsimp only; walk1))))
    subst hG
    have k1 := under_back F N e1 e2 (.head _) (.tail _ (.head _))
    refine showLeaf O (st.trans k1) (T₀.keeps k1) V (by omega) h1.1 h1.2 (fun h' tk' t' e => ?_)
    dsimp only [Ret]
    exact ret' _ _ _ _ rfl (k1.trans e)
  | tree nm es =>
    unfold TreeAt at R
    obtain ⟨y, l, ys, rfl, ⟨dy, t1, t2, t3, t6, t5, v1, v2⟩, ⟨c, v3⟩, R⟩ := R
    have e1 := (T₀ _ v1).1
    have e2 := (T₀ _ v2).1
    have hl := list_under (T₀ _ v3).1 e1 e2
    have hne : y ≠ dy := inst_ne e1 e2
    refine enter [("tree", .ref y)] (PyProof.Rows.under s.heap y dy) (fun b o e => of_under e) (under_size _ _ _) X T.nolimit (by k_is) (by k_is) (by omega) (BindsTo.of_eq rfl) (locs rfl) (fun L h₁ F kx hL => ?_)
    have N := news_in kx hL e1 e2 hne
    obtain ⟨X, T⟩ := Ok.keeps O (ext_under st (T₀ _ v1).2 (T₀ _ v2).2)
    simp only [en] at N e2
    generalize hG : PyProof.Rows.under s.heap y dy = G at *
    cases n with | zero => exact hok.elim | succ n => ?_
    obtain ⟨hnm, hds, hok⟩ := hok
    (repeat' (first | ((fail_if_success (with_reducible show wpAny _ _ (eval (Expr.ListComp _ _ _ _) _) _ _ _)); (fail_if_success (with_reducible show wpAny _ _ (exec (Stmt.For _ _ _ _ _) _) _ _ _)); (fail_if_success (with_reducible show wpAny _ _ (exec (Stmt.While _ _ _ _) _) _ _ _)); (fail_if_success (with_reducible show Exists _)); (fail_if_success (with_reducible show LCg.CompEnd _ _ _ _ _ _ _ _ _ _ _ _ _ _)); (fail_if_success (with_reducible show ForEnd _ _ _ _ _ _ _ _)); (fail_if_success (with_reducible show wpAny _ _ (exec (Stmt.Assign _ (Expr.ListComp _ _ _ _) _) _) _ _ _)); (fail_if_success (with_reducible show LCg.CompSrc _ _ _ _ _ _ _ _ _ _ _ _ _ _)); first | walk1 | (dsimp only; walk1))))
    rename News _ _ _ _ => N9
    rename Fr _ _ _ _ => F9
    obtain ⟨R0, hR0, N8⟩ : ∃ R, R = _ ∧ News G L _ R := ⟨_, rfl, N9⟩
    refine comp (h₀ := G) (L := L) (fun i ys news => news = R0 ∧ StrsAre ys ((es.take i).map fun d => S (pageT d))) F9 rfl ?_ (by with_unfolding_all rfl) (by decide) (by rfl) (by decide) (by rfl)
    have hlen := R.length
    clear N8
    (repeat' (first | ((fail_if_success (with_reducible show wpAny _ _ (eval (Expr.ListComp _ _ _ _) _) _ _ _)); (fail_if_success (with_reducible show wpAny _ _ (exec (Stmt.For _ _ _ _ _) _) _ _ _)); (fail_if_success (with_reducible show wpAny _ _ (exec (Stmt.While _ _ _ _) _) _ _ _)); (fail_if_success (with_reducible show Exists _)); (fail_if_success (with_reducible show LCg.CompEnd _ _ _ _ _ _ _ _ _ _ _ _ _ _)); (fail_if_success (with_reducible show ForEnd _ _ _ _ _ _ _ _)); (fail_if_success (with_reducible show wpAny _ _ (exec (Stmt.Assign _ (Expr.ListComp _ _ _ _) _) _) _ _ _)); (fail_if_success (with_reducible show LCg.CompSrc _ _ _ _ _ _ _ _ _ _ _ _ _ _)); first | walk1 | (dsimp only; walk1))))
    refine ⟨_, _, R0, F9, (by rw [hR0]; exact N9), .lst hl, (by rw [PySem.sizeLine_eq, List.size_toArray]; omega), ⟨rfl, .nil⟩, ?_, ?_⟩
    · rintro i v zs news I oI C oC D m₂ h tk E' hi hv ⟨rfl, hys⟩ hC hx F N off ne
      obtain ⟨hi2, R'⟩ := TreeAll.get R (by simpa using hi) (by simpa using hv)
      (repeat' (first | ((fail_if_success (with_reducible show wpAny _ _ (eval (Expr.ListComp _ _ _ _) _) _ _ _)); (fail_if_success (with_reducible show wpAny _ _ (exec (Stmt.For _ _ _ _ _) _) _ _ _)); (fail_if_success (with_reducible show wpAny _ _ (exec (Stmt.While _ _ _ _) _) _ _ _)); (fail_if_success (with_reducible show Exists _)); (fail_if_success (with_reducible show LCg.CompEnd _ _ _ _ _ _ _ _ _ _ _ _ _ _)); (fail_if_success (with_reducible show ForEnd _ _ _ _ _ _ _ _)); (fail_if_success (with_reducible show wpAny _ _ (exec (Stmt.Assign _ (Expr.ListComp _ _ _ _) _) _) _ _ _)); (fail_if_success (with_reducible show LCg.CompSrc _ _ _ _ _ _ _ _ _ _ _ _ _ _)); first | walk1 | (dsimp only; walk1))))
      have N2 := N
      rw [hR0] at N2
      have k1 : Ext s.heap h := by subst hG; exact under_back F N2 e1 e2 (.tail _ (.tail _ (.tail _ (.tail _ (.head _))))) (.tail _ (.tail _ (.tail _ (.tail _ (.tail _ (.head _))))))
      refine ih n rfl _ (okNs_get hok hi2) O (st.trans k1) (T₀.keeps k1) R' (by omega) (by omega) (fun h' tk' t'' e => ?_)
      have F := F.keeps e
      have N := N.grown e
      (try k_unfold)
      exact ⟨_, _, _, rfl, F, N, off, trivial, rfl, strs_snoc (f := fun d => pageT d) hi2 hys⟩
    · rintro D zs news h tk ⟨rfl, hys⟩ F N off
      have hys : StrsAre zs (es.map fun d => S (pageT d)) := by rw [List.size_toArray, hlen, List.take_length] at hys; exact hys
      clear N9 F9
      subst hR0
      (repeat' (first | ((fail_if_success (with_reducible show wpAny _ _ (eval (Expr.ListComp _ _ _ _) _) _ _ _)); (fail_if_success (with_reducible show wpAny _ _ (exec (Stmt.For _ _ _ _ _) _) _ _ _)); (fail_if_success (with_reducible show wpAny _ _ (exec (Stmt.While _ _ _ _) _) _ _ _)); (fail_if_success (with_reducible show Exists _)); (fail_if_success (with_reducible show LCg.CompEnd _ _ _ _ _ _ _ _ _ _ _ _ _ _)); (fail_if_success (with_reducible show ForEnd _ _ _ _ _ _ _ _)); (fail_if_success (with_reducible show wpAny _ _ (exec (Stmt.Assign _ (Expr.ListComp _ _ _ _) _) _) _ _ _)); (fail_if_success (with_reducible show LCg.CompSrc _ _ _ _ _ _ _ _ _ _ _ _ _ _)); first | walk1 | (dsimp only; walk1))))
      have hzl := strs_len hys
      rw [List.length_map] at hzl
      refine add_lists (vs := [_]) F N (N.isList (.tail _ (.head _))) (N.isList (.head _)) (fun h' F' N' => ?_) (by rw [PySem.sizeLine_eq, List.length_singleton]; omega)
      (repeat' (first | ((fail_if_success (with_reducible show wpAny _ _ (eval (Expr.ListComp _ _ _ _) _) _ _ _)); (fail_if_success (with_reducible show wpAny _ _ (exec (Stmt.For _ _ _ _ _) _) _ _ _)); (fail_if_success (with_reducible show wpAny _ _ (exec (Stmt.While _ _ _ _) _) _ _ _)); (fail_if_success (with_reducible show Exists _)); (fail_if_success (with_reducible show LCg.CompEnd _ _ _ _ _ _ _ _ _ _ _ _ _ _)); (fail_if_success (with_reducible show ForEnd _ _ _ _ _ _ _ _)); (fail_if_success (with_reducible show wpAny _ _ (exec (Stmt.Assign _ (Expr.ListComp _ _ _ _) _) _) _ _ _)); (fail_if_success (with_reducible show LCg.CompSrc _ _ _ _ _ _ _ _ _ _ _ _ _ _)); first | walk1 | (dsimp only; walk1))))
      have hB : ∀ d ∈ es, (pageT d).length ≤ 1000 := fun d hd => Nat.le_trans (pageT_len n d (okNs_mem hok d hd)) (lenP_3 (n := n) (by omega))
      refine join_list (N'.isList (.head _)) (StrsAre.cons _ _ hys) (page_sum (n := n) (fun d => pageT d) 1000 (by omega) (by omega) hB nm hnm _ (by decide)) (fun t' tk' => ?_)
      rw [show_join]
      have hlj : (S (joinL [32] (nm.cps.toList :: pageTs es))).length ≤ 3020 := by
        rw [len_S]
        exact Nat.le_trans (page_in (l := pageTs es) (B := 1000) hnm (by rw [pageTs_eq, List.length_map]; exact hds) (fun x hx => by
          rw [pageTs_eq] at hx
          obtain ⟨d, hd, rfl⟩ := List.mem_map.mp hx
          exact hB d hd)) (by decide)
      (repeat' (first | ((fail_if_success (with_reducible show wpAny _ _ (eval (Expr.ListComp _ _ _ _) _) _ _ _)); (fail_if_success (with_reducible show wpAny _ _ (exec (Stmt.For _ _ _ _ _) _) _ _ _)); (fail_if_success (with_reducible show wpAny _ _ (exec (Stmt.While _ _ _ _) _) _ _ _)); (fail_if_success (with_reducible show Exists _)); (fail_if_success (with_reducible show LCg.CompEnd _ _ _ _ _ _ _ _ _ _ _ _ _ _)); (fail_if_success (with_reducible show ForEnd _ _ _ _ _ _ _ _)); (fail_if_success (with_reducible show wpAny _ _ (exec (Stmt.Assign _ (Expr.ListComp _ _ _ _) _) _) _ _ _)); (fail_if_success (with_reducible show LCg.CompSrc _ _ _ _ _ _ _ _ _ _ _ _ _ _)); first | walk1 | (dsimp only; walk1))))
      dsimp only [Ret]
      subst hG
      exact ret' _ _ _ _ (show_S nm es) (under_back F' N' e1 e2 (.tail _ (.tail _ (.tail _ (.head _)))) (.tail _ (.tail _ (.tail _ (.tail _ (.head _))))))
theorem showTree : ∀ (n : Nat) (d : Nd), okN n d → SpecShow n d := by
  intro n
  induction n with
  | zero => exact show_step 0 (fun m h => nomatch h)
  | succ n ih => exact show_step (n + 1) (fun m h => by cases h; exact ih)
theorem get_under {g : Heap} {a b c : Addr} {o : Obj} (e : g.get? c = some o) (n1 : c ≠ a) (n2 : c ≠ b) : (PyProof.Rows.under g a b).get? c = some o := by
  rw [Heap.hide_ne _ n2, Heap.hide_ne _ n1]; exact e
theorem none_under {g : Heap} {a b c : Addr} (e : (PyProof.Rows.under g a b).get? c = none) (n1 : c ≠ a) (n2 : c ≠ b) : g.get? c = none := by
  rw [Heap.hide_ne _ n2, Heap.hide_ne _ n1] at e; exact e
theorem under_ext {g h : Heap} {a b : Addr} {oa ob : Obj} (k : Ext (PyProof.Rows.under g a b) h) (ea : g.get? a = some oa) (eb : g.get? b = some ob) (ha : h.get? a = some oa) (hb : h.get? b = some ob) : Ext g h := fun p o e => by
  by_cases q : p = a
  · subst q; rw [ea] at e; cases e; exact ha
  · by_cases q2 : p = b
    · subst q2; rw [eb] at e; cases e; exact hb
    · exact k p o (by rw [Heap.hide_ne _ q2, Heap.hide_ne _ q]; exact e)
theorem dict_ne {h : Heap} {w : World} {a b : Addr} {n n' : String} {t t' : Tok} {v v' : Value} {r r' : List DictEntry} {c c' : Nat} (e1 : h.get? a = some (dictOf (en w n t v :: r) c)) (e2 : h.get? b = some (dictOf (en w n' t' v' :: r') c')) (hn : Str.ofString n ≠ Str.ofString n') : a ≠ b := fun q => by
  rw [q, e2] at e1
  have e3 := Option.some.inj e1
  simp [en] at e3
  exact hn e3.1.1.2.1.1.symm
theorem cls_ne {h : Heap} {a b C C' dx dy : Addr} (e1 : h.get? a = some (instObj C dx)) (e2 : h.get? b = some (instObj C' dy)) (hn : C ≠ C') : a ≠ b := fun q => by
  rw [q, e2] at e1
  have e3 := Option.some.inj e1
  simp at e3
  exact hn e3.1.symm
theorem posTold {w : World} {dp un : Nat} {h : Heap} {gs : Array GenState} {dr : Drawn} {tk : Nat} {os : OsState} {Q E : Value → Shared → Prop} {mean mg mb} {H : Heap} {tl₀ : List (Addr × Obj)} {b c : Int} {x : Addr} (O : Ok w H mean mg mb) (st : Ext H h) (T₀ : Fresh H h tl₀) (V : PosAt w tl₀ x b c) (hd : dp + 2 < recursionLimit)
  (ret : ∀ h' tk' r tb tc, Ext h h' → Fresh h h' [(r, { cls := .type "tuple", data := .seq #[.int b tb, .int c tc] })] → Q (.ref r) ⟨h', gs, dr, tk', os⟩) :
  wpAny (model PR w) (AA dp un) (call (.ref 42) [.ref x]) Q E ⟨h, gs, dr, tk, os⟩ := by
  generalize hs : (⟨h, gs, dr, tk, os⟩ : Shared) = s
  obtain ⟨rfl, rfl, rfl, rfl, rfl⟩ : h = s.heap ∧ gs = s.gens ∧ dr = s.drawn ∧ tk = s.toks ∧ os = s.os := by subst hs; exact ⟨rfl, rfl, rfl, rfl, rfl⟩
  clear hs
  obtain ⟨X, T⟩ := O.keeps st
  obtain ⟨dx, t1, t2, t3, a, ta, tb, tc, v1, v2⟩ := V
  have e1 := (T₀ _ v1).1
  have e2 := (T₀ _ v2).1
  have hne : x ≠ dx := inst_ne e1 e2
  refine enter [("self", .ref x)] (PyProof.Rows.under s.heap x dx) (fun b o e => of_under e) (under_size _ _ _) X T.nolimit (by k_is) (by k_is) (by omega) (BindsTo.of_eq rfl) (locs rfl) (fun L h₁ F kx hL => ?_)
  have N := news_in kx hL e1 e2 hne
  obtain ⟨X, T⟩ := Ok.keeps O (ext_under st (T₀ _ v1).2 (T₀ _ v2).2)
  simp only [en] at N e2
  generalize hG : PyProof.Rows.under s.heap x dx = G at *
  (repeat' (first | ((fail_if_success (with_reducible show wpAny _ _ (eval (Expr.ListComp _ _ _ _) _) _ _ _)); (fail_if_success (with_reducible show wpAny _ _ (exec (Stmt.For _ _ _ _ _) _) _ _ _)); (fail_if_success (with_reducible show wpAny _ _ (exec (Stmt.While _ _ _ _) _) _ _ _)); (fail_if_success (with_reducible show Exists _)); (fail_if_success (with_reducible show LCg.CompEnd _ _ _ _ _ _ _ _ _ _ _ _ _ _)); (fail_if_success (with_reducible show ForEnd _ _ _ _ _ _ _ _)); (fail_if_success (with_reducible show wpAny _ _ (exec (Stmt.Assign _ (Expr.ListComp _ _ _ _) _) _) _ _ _)); (fail_if_success (with_reducible show LCg.CompSrc _ _ _ _ _ _ _ _ _ _ _ _ _ _)); first | with_reducible (((with_reducible show wpAny _ _ (call (Value.builtin "len") [Value.ref _]) _ _ _); refine len_strsA (News.isList (by assumption) (by k_mem)) (by assumption) (by omega) ?_)) | with_reducible (((with_reducible show wpAny _ _ (call (Value.type "str") [Value.int _ _]) _ _ _); refine PySem.P.str_of_int (by assumption) ?_)) | walk1 | (dsimp only; walk1))))
  rename News _ _ _ _ => N9
  rename Fr _ _ _ _ => F9
  subst hG
  have k1 := under_back F9 N9 e1 e2 (.tail _ (.head _)) (.tail _ (.tail _ (.head _)))
  dsimp only [Ret]
  exact ret _ _ _ _ _ k1 (fun p hp => by
    rw [List.mem_singleton.mp hp]
    refine ⟨(N9 _ (.head _)).1, ?_⟩
    rename_i D' _ _ _ l1
    exact none_under (N9 _ (.head _)).2.2 (Nat.ne_of_gt l1.1) (Nat.ne_of_gt l1.2))
theorem faultTold {w : World} {dp un : Nat} {h : Heap} {gs : Array GenState} {dr : Drawn} {tk : Nat} {os : OsState} {Q E : Value → Shared → Prop} {mean mg mb} {H : Heap} {tl₀ : List (Addr × Obj)} {k t : Str} {x y l : Addr} {at' : Value} {items : List Value} {c0 : Nat} (O : Ok w H mean mg mb) (st : Ext H h) (T₀ : Fresh H h tl₀) (V : FaultAt w tl₀ y x l) (V' : TokAt w tl₀ x k t at') (hl : (l, W.listOf items.toArray c0) ∈ tl₀) (hz : items.length ≤ 100) (hd : dp + 2 < recursionLimit)
  (ret : ∀ h' tk' r l' t1 t2 c', Ext h h' → Fresh h h' [(r, { cls := .type "tuple", data := .seq #[.str k t1, .int 3 t2, .ref l'] }), (l', W.listOf items.toArray c')] → Q (.ref r) ⟨h', gs, dr, tk', os⟩) :
  wpAny (model PR w) (AA dp un) (call (.ref 258) [.ref y]) Q E ⟨h, gs, dr, tk, os⟩ := by
  generalize hs : (⟨h, gs, dr, tk, os⟩ : Shared) = s
  obtain ⟨rfl, rfl, rfl, rfl, rfl⟩ : h = s.heap ∧ gs = s.gens ∧ dr = s.drawn ∧ tk = s.toks ∧ os = s.os := by subst hs; exact ⟨rfl, rfl, rfl, rfl, rfl⟩
  clear hs
  obtain ⟨X, T⟩ := O.keeps st
  obtain ⟨dy, t1, t2, t3, t4, t5, t6, v1, v2⟩ := V
  obtain ⟨dx, u1, u2, u3, u4, uk, ut, W, v3, v4⟩ := V'
  have e1 := (T₀ _ v1).1
  have e2 := (T₀ _ v2).1
  have e3 := (T₀ _ v3).1
  have e4 := (T₀ _ v4).1
  have hne : y ≠ dy := inst_ne e1 e2
  have hne2 : x ≠ dx := inst_ne e3 e4
  have n1 : x ≠ y := cls_ne e3 e1 (by decide)
  have n2 : x ≠ dy := inst_ne e3 e2
  have n3 : dx ≠ y := Ne.symm (inst_ne e1 e4)
  have n4 : dx ≠ dy := dict_ne e4 e2 (by decide +kernel)
  refine enter [("self", .ref y)] s.heap (Ext.refl _) rfl X T.nolimit (by k_is) (by k_is) (by omega) (BindsTo.of_eq rfl) (locs rfl) (fun L h₁ F kx hL => ?_)
  have N := news_under F (News.nil (h₀ := s.heap) (L := L)) e1 e2 hne
  replace F := fr_under (a := y) (b := dy) F
  have N := news_under F N (get_under e3 n1 n2) (get_under e4 n3 n4) hne2
  replace F := fr_under (a := x) (b := dx) F
  have hlG : (PyProof.Rows.under (PyProof.Rows.under s.heap y dy) x dx).IsList l items.toArray := by
    obtain ⟨o, ho, r⟩ := list_under (T₀ _ hl).1 e1 e2
    have q1 : l ≠ x := fun q => by have := (T₀ _ hl).1; dsimp only at this e3; rw [q, e3] at this; simp at this
    have q2 : l ≠ dx := fun q => by have := (T₀ _ hl).1; dsimp only at this e4; rw [q, e4] at this; simp at this
    exact ⟨o, get_under ho q1 q2, r⟩
  obtain ⟨X, T⟩ := Ok.keeps O (ext_under (ext_under st (T₀ _ v1).2 (T₀ _ v2).2) (T₀ _ v3).2 (T₀ _ v4).2)
  simp only [en] at N e2 e4
  generalize hG1 : PyProof.Rows.under s.heap y dy = G1 at *
  generalize hG : PyProof.Rows.under G1 x dx = G at *
  k_sweep
  (repeat' (first | ((fail_if_success (with_reducible show wpAny _ _ (eval (Expr.ListComp _ _ _ _) _) _ _ _)); (fail_if_success (with_reducible show wpAny _ _ (exec (Stmt.For _ _ _ _ _) _) _ _ _)); (fail_if_success (with_reducible show wpAny _ _ (exec (Stmt.While _ _ _ _) _) _ _ _)); (fail_if_success (with_reducible show Exists _)); (fail_if_success (with_reducible show LCg.CompEnd _ _ _ _ _ _ _ _ _ _ _ _ _ _)); (fail_if_success (with_reducible show ForEnd _ _ _ _ _ _ _ _)); (fail_if_success (with_reducible show wpAny _ _ (exec (Stmt.Assign _ (Expr.ListComp _ _ _ _) _) _) _ _ _)); (fail_if_success (with_reducible show LCg.CompSrc _ _ _ _ _ _ _ _ _ _ _ _ _ _)); first | with_reducible (((with_reducible show wpAny _ _ (call (Value.builtin "len") [Value.ref _]) _ _ _); refine len_strsA (News.isList (by assumption) (by k_mem)) (by assumption) (by omega) ?_)) | with_reducible (((with_reducible show wpAny _ _ (call (Value.type "str") [Value.int _ _]) _ _ _); refine PySem.P.str_of_int (by assumption) ?_)) | walk1 | (dsimp only; walk1))))
  rename News _ _ _ _ => N9
  rename Fr _ _ _ _ => F9
  subst hG hG1
  have k2 := under_ext F9.keep (get_under e3 n1 n2) (get_under e4 n3 n4) (N9.get (.tail _ (.tail _ (.head _)))) (N9.get (.tail _ (.tail _ (.tail _ (.head _)))))
  have k1 := under_ext k2 e1 e2 (N9.get (.tail _ (.tail _ (.tail _ (.tail _ (.head _)))))) (N9.get (.tail _ (.tail _ (.tail _ (.tail _ (.tail _ (.head _)))))))
  dsimp only [Ret]
  exact ret _ _ _ _ _ _ _ k1 (fun p hp => by
    simp only [List.mem_cons, List.not_mem_nil, or_false] at hp
    rcases hp with rfl | rfl
    · exact ⟨(N9 _ (.head _)).1, none_under (none_under (N9 _ (.head _)).2.2 (Nat.ne_of_gt (by omega)) (Nat.ne_of_gt (by omega))) (Nat.ne_of_gt (by omega)) (Nat.ne_of_gt (by omega))⟩
    · exact ⟨(N9 _ (.tail _ (.head _))).1, none_under (none_under (N9 _ (.tail _ (.head _))).2.2 (Nat.ne_of_gt (by omega)) (Nat.ne_of_gt (by omega))) (Nat.ne_of_gt (by omega)) (Nat.ne_of_gt (by omega))⟩)
noncomputable def placeS : Option (Int × Int) → Str
  | none => Str.ofString "0.0"
  | some (a, b) => Str.ofString (toString a) ++ Str.ofString "." ++ Str.ofString (toString b)
noncomputable def faultB (pos : Option (Int × Int)) (k : Str) : Str := placeS pos ++ Str.ofString ": syntax error, unexpected " ++ (if k = Str.ofString "$end" then Str.ofString "end of text" else Str.ofString "token " ++ k)
noncomputable def faultS (pos : Option (Int × Int)) (k : Str) (zs : List Str) : Str := if 0 < zs.length ∧ zs.length ≤ 4 then faultB pos k ++ Str.ofString ", expecting " ++ Txt.join (Str.ofString " or ") zs else faultB pos k
theorem faultS_on {pos k} {zs : List Str} {b : Str} (h0 : 0 < (zs.length : Int)) (h4 : (zs.length : Int) ≤ 4) (e : b = faultB pos k) : b ++ Str.ofString ", expecting " ++ Txt.join (Str.ofString " or ") zs = faultS pos k zs := by
  unfold faultS; rw [if_pos ⟨by omega, by omega⟩, e]
theorem faultS_off1 {pos k} {zs : List Str} {b : Str} (h0 : ¬ 0 < (zs.length : Int)) (e : b = faultB pos k) : b = faultS pos k zs := by
  unfold faultS; rw [if_neg (fun q => h0 (by omega)), e]
theorem faultS_off2 {pos k} {zs : List Str} {b : Str} (h0 : ¬ (zs.length : Int) ≤ 4) (e : b = faultB pos k) : b = faultS pos k zs := by
  unfold faultS; rw [if_neg (fun q => h0 (by omega)), e]
theorem faultB_end {pos k} (hk : (k == Str.ofString "$end") = true) : placeS pos ++ Str.ofString ": syntax error, unexpected " ++ Str.ofString "end of text" = faultB pos k := by
  unfold faultB; rw [if_pos (eq_of_beq hk)]
theorem faultB_tok {pos k} (hk : (k == Str.ofString "$end") = false) : placeS pos ++ Str.ofString ": syntax error, unexpected " ++ (Str.ofString "token " ++ k) = faultB pos k := by
  unfold faultB; rw [if_neg (ne_of_beqF hk)]
theorem faultB_end0 {k} (hk : (k == Str.ofString "$end") = true) : Str.ofString "0.0: syntax error, unexpected end of text" = faultB none k := by
  rw [← faultB_end hk]; decide +kernel
theorem faultB_tok0 {k} (hk : (k == Str.ofString "$end") = false) : Str.ofString "0.0: syntax error, unexpected " ++ (Str.ofString "token " ++ k) = faultB none k := by
  rw [← faultB_tok hk, show placeS none ++ Str.ofString ": syntax error, unexpected " = Str.ofString "0.0: syntax error, unexpected " by decide +kernel]
theorem sum5 {zs : List Str} (hz : zs.length ≤ 100) (h : ∀ z ∈ zs, z.length ≤ 5) : (zs.map (·.length)).sum ≤ zs.length * 5 := by
  clear hz
  induction zs with
  | nil => simp
  | cons a r ih =>
    have h1 := h a (.head _)
    have h2 := ih (fun z hz => h z (.tail _ hz))
    rw [List.map_cons, List.sum_cons, List.length_cons, Nat.succ_mul]; omega
theorem or_ok {zs : List Str} (hz : zs.length ≤ 100) (h : ∀ z ∈ zs, z.length ≤ 5) : (zs.map (·.length)).sum + zs.length * (Str.ofString " or ").length ≤ 16777216 := by
  have h1 := sum5 hz h
  rw [show (Str.ofString " or ").length = 4 by decide +kernel]; omega
theorem fault_end0 {k} {zs : List Str} (hk : (k == Str.ofString "$end") = true) (h0 : 0 < (zs.length : Int)) (h4 : (zs.length : Int) ≤ 4) : Str.ofString "0.0: syntax error, unexpected end of text, expecting " ++ Txt.join (Str.ofString " or ") zs = faultS none k zs := by
  rw [← faultS_on h0 h4 (faultB_end0 hk), show Str.ofString "0.0: syntax error, unexpected end of text" ++ Str.ofString ", expecting " = Str.ofString "0.0: syntax error, unexpected end of text, expecting " by decide +kernel]
theorem or_S (zs : List Str) : Txt.join (Str.ofString " or ") zs = S (joinL [32, 111, 114, 32] (zs.map (·.cps.toList))) := by
  rw [← join_S, List.map_map, show Str.ofString " or " = S [32, 111, 114, 32] by decide +kernel]
  congr 1
  exact (List.map_id zs).symm
theorem or_len {zs : List Str} (hz : zs.length ≤ 100) (h : ∀ z ∈ zs, z.length ≤ 5) : (Txt.join (Str.ofString " or ") zs).length ≤ 1000 := by
  rw [or_S, len_S]
  have key : ∀ l : List Str, (∀ z ∈ l, z.length ≤ 5) → ((l.map (·.cps.toList)).flatMap fun p => [32, 111, 114, 32] ++ p).length ≤ l.length * 9 := by
    intro l
    induction l with
    | nil => intro _; simp
    | cons a r ih =>
      intro h
      have h1 : a.cps.toList.length ≤ 5 := by rw [Array.length_toList]; exact h a (.head _)
      have h2 := ih (fun z hz => h z (.tail _ hz))
      simp only [List.map_cons, List.flatMap_cons, List.length_append, List.length_cons, List.length_nil] at h2 ⊢; omega
  cases zs with
  | nil => simp [joinL]
  | cons a r =>
    have h1 : a.cps.toList.length ≤ 5 := by rw [Array.length_toList]; exact h a (.head _)
    have h2 := key r (fun z hz => h z (.tail _ hz))
    rw [List.map_cons, joinL, List.length_append]
    rw [List.length_cons] at hz
    omega
noncomputable def PlaceAt (w : World) (tl : List (Addr × Obj)) (a : Value) : Option (Int × Int) → Prop
  | none => a = .none
  | some (b, c) => ∃ p, a = .ref p ∧ PosAt w tl p b c
theorem showFault0 {w : World} {dp un : Nat} {h : Heap} {gs : Array GenState} {dr : Drawn} {tk : Nat} {os : OsState} {Q E : Value → Shared → Prop} {mean mg mb} {H : Heap} {tl₀ : List (Addr × Obj)} {k t : Str} {x y l : Addr} {at' : Value} {items : List Value} {zs : List Str} {c0 : Nat} (O : Ok w H mean mg mb) (st : Ext H h) (T₀ : Fresh H h tl₀) (V : FaultAt w tl₀ y x l) (V' : TokAt w tl₀ x k t at') (hp : PlaceAt w tl₀ at' none) (hl : (l, W.listOf items.toArray c0) ∈ tl₀) (hz : items.length ≤ 100) (hi : StrsAre items zs) (hk : k.length ≤ 5) (hzs : ∀ z ∈ zs, z.length ≤ 5) (hd : dp + 5 < recursionLimit)
  (ret : ∀ h' tk' t', Ext h h' → Q (.str (faultS none k zs) t') ⟨h', gs, dr, tk', os⟩) :
  wpAny (model PR w) (AA dp un) (call (.ref 236) [.ref y]) Q E ⟨h, gs, dr, tk, os⟩ := by
  generalize hs : (⟨h, gs, dr, tk, os⟩ : Shared) = s
  obtain ⟨rfl, rfl, rfl, rfl, rfl⟩ : h = s.heap ∧ gs = s.gens ∧ dr = s.drawn ∧ tk = s.toks ∧ os = s.os := by subst hs; exact ⟨rfl, rfl, rfl, rfl, rfl⟩
  clear hs
  obtain ⟨X, T⟩ := O.keeps st
  obtain ⟨dy, t1, t2, t3, t4, t5, t6, v1, v2⟩ := id V
  obtain ⟨dx, u1, u2, u3, u4, uk, ut, W, v3, v4⟩ := id V'
  have e1 := (T₀ _ v1).1
  have e2 := (T₀ _ v2).1
  have e3 := (T₀ _ v3).1
  have e4 := (T₀ _ v4).1
  have hne : y ≠ dy := inst_ne e1 e2
  have hne2 : x ≠ dx := inst_ne e3 e4
  have n1 : x ≠ y := cls_ne e3 e1 (by decide)
  have n2 : x ≠ dy := inst_ne e3 e2
  have n3 : dx ≠ y := Ne.symm (inst_ne e1 e4)
  have n4 : dx ≠ dy := dict_ne e4 e2 (by decide +kernel)
  refine enter [("fault", .ref y)] s.heap (Ext.refl _) rfl X T.nolimit (by k_is) (by k_is) (by omega) (BindsTo.of_eq rfl) (locs rfl) (fun L h₁ F kx hL => ?_)
  have N := news_under F (News.nil (h₀ := s.heap) (L := L)) e1 e2 hne
  replace F := fr_under (a := y) (b := dy) F
  have N := news_under F N (get_under e3 n1 n2) (get_under e4 n3 n4) hne2
  replace F := fr_under (a := x) (b := dx) F
  obtain ⟨X, T⟩ := Ok.keeps O (ext_under (ext_under st (T₀ _ v1).2 (T₀ _ v2).2) (T₀ _ v3).2 (T₀ _ v4).2)
  have back : ∀ {h'}, Ext (PyProof.Rows.under (PyProof.Rows.under s.heap y dy) x dx) h' → h'.get? x = _ → h'.get? dx = _ → h'.get? y = _ → h'.get? dy = _ → Ext s.heap h' := fun k q1 q2 q3 q4 => under_ext (under_ext k (get_under e3 n1 n2) (get_under e4 n3 n4) q1 q2) e1 e2 q3 q4
  simp only [en] at N e2 e4 back
  have hzl := strs_len hi
  have hl0 : Str.ofString (toString (0 : Int)) = Str.ofString "0" := rfl
  have ret' : ∀ x h' tk' t', x = faultS none k zs → Ext s.heap h' → Q (.str x t') { s with heap := h', toks := tk' } := fun x h' tk' t' e k => e ▸ ret h' tk' t' k
  clear ret
  cases hp
  generalize hG : PyProof.Rows.under (PyProof.Rows.under s.heap y dy) x dx = G at *
  k_sweep
  (repeat' (first | ((fail_if_success (with_reducible show wpAny _ _ (eval (Expr.ListComp _ _ _ _) _) _ _ _)); (fail_if_success (with_reducible show wpAny _ _ (exec (Stmt.For _ _ _ _ _) _) _ _ _)); (fail_if_success (with_reducible show wpAny _ _ (exec (Stmt.While _ _ _ _) _) _ _ _)); (fail_if_success (with_reducible show Exists _)); (fail_if_success (with_reducible show LCg.CompEnd _ _ _ _ _ _ _ _ _ _ _ _ _ _)); (fail_if_success (with_reducible show ForEnd _ _ _ _ _ _ _ _)); (fail_if_success (with_reducible show wpAny _ _ (exec (Stmt.Assign _ (Expr.ListComp _ _ _ _) _) _) _ _ _)); (fail_if_success (with_reducible show LCg.CompSrc _ _ _ _ _ _ _ _ _ _ _ _ _ _)); first | with_reducible (((with_reducible show wpAny _ _ (call (Value.type "str") [Value.int _ _]) _ _ _); refine PySem.P.str_of_int (by assumption) ?_)) | walk1 | (((with_reducible show wpAny _ _ (call (Value.builtin "len") [Value.ref _]) _ _ _); refine len_strsA (News.isList (by assumption) (by k_mem)) (by assumption) (by omega) ?_)) | (dsimp only; walk1))))
  refine faultTold O (st.trans (back (Fr.keep (by assumption)) (News.get (by assumption) (.head _)) (News.get (by assumption) (.tail _ (.head _))) (News.get (by assumption) (.tail _ (.tail _ (.head _)))) (News.get (by assumption) (.tail _ (.tail _ (.tail _ (.head _))))))) (T₀.keeps (back (Fr.keep (by assumption)) (News.get (by assumption) (.head _)) (News.get (by assumption) (.tail _ (.head _))) (News.get (by assumption) (.tail _ (.tail _ (.head _)))) (News.get (by assumption) (.tail _ (.tail _ (.tail _ (.head _))))))) V V' hl hz (by omega) ?_
  intro h2 tk2 r l2 s1 s2 c2 E2 T2
  obtain ⟨F2, N2⟩ := both_ext F N E2 T2
  simp only [List.cons_append, List.nil_append] at N2
  clear N F
  (repeat' (first | ((fail_if_success (with_reducible show wpAny _ _ (eval (Expr.ListComp _ _ _ _) _) _ _ _)); (fail_if_success (with_reducible show wpAny _ _ (exec (Stmt.For _ _ _ _ _) _) _ _ _)); (fail_if_success (with_reducible show wpAny _ _ (exec (Stmt.While _ _ _ _) _) _ _ _)); (fail_if_success (with_reducible show Exists _)); (fail_if_success (with_reducible show LCg.CompEnd _ _ _ _ _ _ _ _ _ _ _ _ _ _)); (fail_if_success (with_reducible show ForEnd _ _ _ _ _ _ _ _)); (fail_if_success (with_reducible show wpAny _ _ (exec (Stmt.Assign _ (Expr.ListComp _ _ _ _) _) _) _ _ _)); (fail_if_success (with_reducible show LCg.CompSrc _ _ _ _ _ _ _ _ _ _ _ _ _ _)); first | with_reducible (((with_reducible show wpAny _ _ (call (Value.type "str") [Value.int _ _]) _ _ _); refine PySem.P.str_of_int (by assumption) ?_)) | walk1 | (((with_reducible show wpAny _ _ (call (Value.builtin "len") [Value.ref _]) _ _ _); refine len_strsA (News.isList (by assumption) (by k_mem)) (by assumption) (by omega) ?_)) | (dsimp only; walk1))))
  · refine join_list (News.isList (by assumption) (by k_mem)) hi (or_ok (by omega) hzs) (fun t' tk' => ?_)
    have hjl : (Txt.join (Str.ofString " or ") zs).length ≤ 1000 := or_len (by omega) hzs
    (repeat' (first | ((fail_if_success (with_reducible show wpAny _ _ (eval (Expr.ListComp _ _ _ _) _) _ _ _)); (fail_if_success (with_reducible show wpAny _ _ (exec (Stmt.For _ _ _ _ _) _) _ _ _)); (fail_if_success (with_reducible show wpAny _ _ (exec (Stmt.While _ _ _ _) _) _ _ _)); (fail_if_success (with_reducible show Exists _)); (fail_if_success (with_reducible show LCg.CompEnd _ _ _ _ _ _ _ _ _ _ _ _ _ _)); (fail_if_success (with_reducible show ForEnd _ _ _ _ _ _ _ _)); (fail_if_success (with_reducible show wpAny _ _ (exec (Stmt.Assign _ (Expr.ListComp _ _ _ _) _) _) _ _ _)); (fail_if_success (with_reducible show LCg.CompSrc _ _ _ _ _ _ _ _ _ _ _ _ _ _)); first | with_reducible (((with_reducible show wpAny _ _ (call (Value.type "str") [Value.int _ _]) _ _ _); refine PySem.P.str_of_int (by assumption) ?_)) | walk1 | (((with_reducible show wpAny _ _ (call (Value.builtin "len") [Value.ref _]) _ _ _); refine len_strsA (News.isList (by assumption) (by k_mem)) (by assumption) (by omega) ?_)) | (dsimp only; walk1))))
    dsimp only [Ret]
    exact ret' _ _ _ _ (fault_end0 (by assumption) (by assumption) (by assumption)) (back (Fr.keep (by assumption)) (News.get (by assumption) (.tail _ (.head _))) (News.get (by assumption) (.tail _ (.tail _ (.head _)))) (News.get (by assumption) (.tail _ (.tail _ (.tail _ (.head _))))) (News.get (by assumption) (.tail _ (.tail _ (.tail _ (.tail _ (.head _)))))))
  · dsimp only [Ret]
    exact ret' _ _ _ _ (faultS_off2 (by assumption) (faultB_end0 (by assumption))) (back (Fr.keep (by assumption)) (News.get (by assumption) (.tail _ (.head _))) (News.get (by assumption) (.tail _ (.tail _ (.head _)))) (News.get (by assumption) (.tail _ (.tail _ (.tail _ (.head _))))) (News.get (by assumption) (.tail _ (.tail _ (.tail _ (.tail _ (.head _)))))))
  · dsimp only [Ret]
    exact ret' _ _ _ _ (faultS_off1 (by assumption) (faultB_end0 (by assumption))) (back (Fr.keep (by assumption)) (News.get (by assumption) (.tail _ (.head _))) (News.get (by assumption) (.tail _ (.tail _ (.head _)))) (News.get (by assumption) (.tail _ (.tail _ (.tail _ (.head _))))) (News.get (by assumption) (.tail _ (.tail _ (.tail _ (.tail _ (.head _)))))))
  · refine join_list (News.isList (by assumption) (by k_mem)) hi (or_ok (by omega) hzs) (fun t' tk' => ?_)
    have hjl : (Txt.join (Str.ofString " or ") zs).length ≤ 1000 := or_len (by omega) hzs
    (repeat' (first | ((fail_if_success (with_reducible show wpAny _ _ (eval (Expr.ListComp _ _ _ _) _) _ _ _)); (fail_if_success (with_reducible show wpAny _ _ (exec (Stmt.For _ _ _ _ _) _) _ _ _)); (fail_if_success (with_reducible show wpAny _ _ (exec (Stmt.While _ _ _ _) _) _ _ _)); (fail_if_success (with_reducible show Exists _)); (fail_if_success (with_reducible show LCg.CompEnd _ _ _ _ _ _ _ _ _ _ _ _ _ _)); (fail_if_success (with_reducible show ForEnd _ _ _ _ _ _ _ _)); (fail_if_success (with_reducible show wpAny _ _ (exec (Stmt.Assign _ (Expr.ListComp _ _ _ _) _) _) _ _ _)); (fail_if_success (with_reducible show LCg.CompSrc _ _ _ _ _ _ _ _ _ _ _ _ _ _)); first | with_reducible (((with_reducible show wpAny _ _ (call (Value.type "str") [Value.int _ _]) _ _ _); refine PySem.P.str_of_int (by assumption) ?_)) | walk1 | (((with_reducible show wpAny _ _ (call (Value.builtin "len") [Value.ref _]) _ _ _); refine len_strsA (News.isList (by assumption) (by k_mem)) (by assumption) (by omega) ?_)) | (dsimp only; walk1))))
    dsimp only [Ret]
    exact ret' _ _ _ _ (faultS_on (by assumption) (by assumption) (faultB_tok0 (by assumption))) (back (Fr.keep (by assumption)) (News.get (by assumption) (.tail _ (.head _))) (News.get (by assumption) (.tail _ (.tail _ (.head _)))) (News.get (by assumption) (.tail _ (.tail _ (.tail _ (.head _))))) (News.get (by assumption) (.tail _ (.tail _ (.tail _ (.tail _ (.head _)))))))
  · dsimp only [Ret]
    exact ret' _ _ _ _ (faultS_off2 (by assumption) (faultB_tok0 (by assumption))) (back (Fr.keep (by assumption)) (News.get (by assumption) (.tail _ (.head _))) (News.get (by assumption) (.tail _ (.tail _ (.head _)))) (News.get (by assumption) (.tail _ (.tail _ (.tail _ (.head _))))) (News.get (by assumption) (.tail _ (.tail _ (.tail _ (.tail _ (.head _)))))))
  · dsimp only [Ret]
    exact ret' _ _ _ _ (faultS_off1 (by assumption) (faultB_tok0 (by assumption))) (back (Fr.keep (by assumption)) (News.get (by assumption) (.tail _ (.head _))) (News.get (by assumption) (.tail _ (.tail _ (.head _)))) (News.get (by assumption) (.tail _ (.tail _ (.tail _ (.head _))))) (News.get (by assumption) (.tail _ (.tail _ (.tail _ (.tail _ (.head _)))))))
theorem faultB_of {b c : Int} {k u v : Str} (h : placeS (some (b, c)) ++ u ++ v = faultB (some (b, c)) k) : Str.ofString (toString b) ++ Str.ofString "." ++ Str.ofString (toString c) ++ u ++ v = faultB (some (b, c)) k := by rw [placeS] at h; exact h
theorem faultE1 {b c : Int} {k : Str} {zs : List Str} (h0 : 0 < (zs.length : Int)) (h4 : (zs.length : Int) ≤ 4) (hk : (k == Str.ofString "$end") = true) : Str.ofString (toString b) ++ Str.ofString "." ++ Str.ofString (toString c) ++ Str.ofString ": syntax error, unexpected " ++ Str.ofString "end of text" ++ Str.ofString ", expecting " ++ Txt.join (Str.ofString " or ") zs = faultS (some (b, c)) k zs := faultS_on h0 h4 (faultB_of (faultB_end hk))
theorem faultE2 {b c : Int} {k : Str} {zs : List Str} (h4 : ¬ (zs.length : Int) ≤ 4) (hk : (k == Str.ofString "$end") = true) : Str.ofString (toString b) ++ Str.ofString "." ++ Str.ofString (toString c) ++ Str.ofString ": syntax error, unexpected " ++ Str.ofString "end of text" = faultS (some (b, c)) k zs := faultS_off2 h4 (faultB_of (faultB_end hk))
theorem faultE3 {b c : Int} {k : Str} {zs : List Str} (h0 : ¬ 0 < (zs.length : Int)) (hk : (k == Str.ofString "$end") = true) : Str.ofString (toString b) ++ Str.ofString "." ++ Str.ofString (toString c) ++ Str.ofString ": syntax error, unexpected " ++ Str.ofString "end of text" = faultS (some (b, c)) k zs := faultS_off1 h0 (faultB_of (faultB_end hk))
theorem faultT1 {b c : Int} {k : Str} {zs : List Str} (h0 : 0 < (zs.length : Int)) (h4 : (zs.length : Int) ≤ 4) (hk : (k == Str.ofString "$end") = false) : Str.ofString (toString b) ++ Str.ofString "." ++ Str.ofString (toString c) ++ Str.ofString ": syntax error, unexpected " ++ (Str.ofString "token " ++ k) ++ Str.ofString ", expecting " ++ Txt.join (Str.ofString " or ") zs = faultS (some (b, c)) k zs := faultS_on h0 h4 (faultB_of (faultB_tok hk))
theorem faultT2 {b c : Int} {k : Str} {zs : List Str} (h4 : ¬ (zs.length : Int) ≤ 4) (hk : (k == Str.ofString "$end") = false) : Str.ofString (toString b) ++ Str.ofString "." ++ Str.ofString (toString c) ++ Str.ofString ": syntax error, unexpected " ++ (Str.ofString "token " ++ k) = faultS (some (b, c)) k zs := faultS_off2 h4 (faultB_of (faultB_tok hk))
theorem faultT3 {b c : Int} {k : Str} {zs : List Str} (h0 : ¬ 0 < (zs.length : Int)) (hk : (k == Str.ofString "$end") = false) : Str.ofString (toString b) ++ Str.ofString "." ++ Str.ofString (toString c) ++ Str.ofString ": syntax error, unexpected " ++ (Str.ofString "token " ++ k) = faultS (some (b, c)) k zs := faultS_off1 h0 (faultB_of (faultB_tok hk))
theorem showFault1 {w : World} {dp un : Nat} {h : Heap} {gs : Array GenState} {dr : Drawn} {tk : Nat} {os : OsState} {Q E : Value → Shared → Prop} {mean mg mb} {H : Heap} {tl₀ : List (Addr × Obj)} {k t : Str} {x y l : Addr} {at' : Value} {items : List Value} {zs : List Str} {c0 : Nat} {b c : Int} (O : Ok w H mean mg mb) (st : Ext H h) (T₀ : Fresh H h tl₀) (V : FaultAt w tl₀ y x l) (V' : TokAt w tl₀ x k t at') (hp : PlaceAt w tl₀ at' (some (b, c))) (hl : (l, W.listOf items.toArray c0) ∈ tl₀) (hz : items.length ≤ 100) (hi : StrsAre items zs) (hk : k.length ≤ 5) (hzs : ∀ z ∈ zs, z.length ≤ 5) (hb1 : b.natAbs < 10 ^ 24) (hc1 : c.natAbs < 10 ^ 24) (hd : dp + 5 < recursionLimit)
  (ret : ∀ h' tk' t', Ext h h' → Q (.str (faultS (some (b, c)) k zs) t') ⟨h', gs, dr, tk', os⟩) :
  wpAny (model PR w) (AA dp un) (call (.ref 236) [.ref y]) Q E ⟨h, gs, dr, tk, os⟩ := by
  generalize hs : (⟨h, gs, dr, tk, os⟩ : Shared) = s
  obtain ⟨rfl, rfl, rfl, rfl, rfl⟩ : h = s.heap ∧ gs = s.gens ∧ dr = s.drawn ∧ tk = s.toks ∧ os = s.os := by subst hs; exact ⟨rfl, rfl, rfl, rfl, rfl⟩
  clear hs
  obtain ⟨X, T⟩ := O.keeps st
  obtain ⟨dy, t1, t2, t3, t4, t5, t6, v1, v2⟩ := id V
  obtain ⟨dx, u1, u2, u3, u4, uk, ut, W, v3, v4⟩ := id V'
  have e1 := (T₀ _ v1).1
  have e2 := (T₀ _ v2).1
  have e3 := (T₀ _ v3).1
  have e4 := (T₀ _ v4).1
  have hne : y ≠ dy := inst_ne e1 e2
  have hne2 : x ≠ dx := inst_ne e3 e4
  have n1 : x ≠ y := cls_ne e3 e1 (by decide)
  have n2 : x ≠ dy := inst_ne e3 e2
  have n3 : dx ≠ y := Ne.symm (inst_ne e1 e4)
  have n4 : dx ≠ dy := dict_ne e4 e2 (by decide +kernel)
  refine enter [("fault", .ref y)] s.heap (Ext.refl _) rfl X T.nolimit (by k_is) (by k_is) (by omega) (BindsTo.of_eq rfl) (locs rfl) (fun L h₁ F kx hL => ?_)
  have N := news_under F (News.nil (h₀ := s.heap) (L := L)) e1 e2 hne
  replace F := fr_under (a := y) (b := dy) F
  have N := news_under F N (get_under e3 n1 n2) (get_under e4 n3 n4) hne2
  replace F := fr_under (a := x) (b := dx) F
  obtain ⟨X, T⟩ := Ok.keeps O (ext_under (ext_under st (T₀ _ v1).2 (T₀ _ v2).2) (T₀ _ v3).2 (T₀ _ v4).2)
  have back : ∀ {h'}, Ext (PyProof.Rows.under (PyProof.Rows.under s.heap y dy) x dx) h' → h'.get? x = _ → h'.get? dx = _ → h'.get? y = _ → h'.get? dy = _ → Ext s.heap h' := fun k q1 q2 q3 q4 => under_ext (under_ext k (get_under e3 n1 n2) (get_under e4 n3 n4) q1 q2) e1 e2 q3 q4
  simp only [en] at N e2 e4 back
  have hzl := strs_len hi
  have hl0 : Str.ofString (toString (0 : Int)) = Str.ofString "0" := rfl
  have ret' : ∀ x h' tk' t', x = faultS (some (b, c)) k zs → Ext s.heap h' → Q (.str x t') { s with heap := h', toks := tk' } := fun x h' tk' t' e k => e ▸ ret h' tk' t' k
  clear ret
  obtain ⟨p, rfl, VP⟩ := hp
  have hlb := log_small hb1
  have hlc := log_small hc1
  have hsb : (Str.ofString (toString b)).length ≤ 25 := by have := int_text_len hb1; rw [Array.length_toList] at this; exact this
  have hsc : (Str.ofString (toString c)).length ≤ 25 := by have := int_text_len hc1; rw [Array.length_toList] at this; exact this
  obtain ⟨dq, p1, p2, p3, pa, pta, ptb, ptc, v5, v6⟩ := id VP
  have e5 := (T₀ _ v5).1
  have e6 := (T₀ _ v6).1
  have hne3 : p ≠ dq := inst_ne e5 e6
  simp only [en] at e6
  have m1 : p ≠ y := cls_ne e5 e1 (by decide)
  have m2 : p ≠ dy := inst_ne e5 e2
  have m3 : dq ≠ y := Ne.symm (inst_ne e1 e6)
  have m4 : dq ≠ dy := dict_ne (w := w) (n := "offset") (n' := "token") e6 e2 (by decide +kernel)
  have m5 : p ≠ x := cls_ne e5 e3 (by decide)
  have m6 : p ≠ dx := inst_ne e5 e4
  have m7 : dq ≠ x := Ne.symm (inst_ne e3 e6)
  have m8 : dq ≠ dx := dict_ne (w := w) (n := "offset") (n' := "kind") e6 e4 (by decide +kernel)
  have N := news_under F N (get_under (get_under e5 m1 m2) m5 m6) (get_under (get_under e6 m3 m4) m7 m8) hne3
  replace F := fr_under (a := p) (b := dq) F
  obtain ⟨X, T⟩ := Ok.keeps O (ext_under (ext_under (ext_under st (T₀ _ v1).2 (T₀ _ v2).2) (T₀ _ v3).2 (T₀ _ v4).2) (T₀ _ v5).2 (T₀ _ v6).2)
  have back3 : ∀ {h'}, Ext (PyProof.Rows.under (PyProof.Rows.under (PyProof.Rows.under s.heap y dy) x dx) p dq) h' → h'.get? p = _ → h'.get? dq = _ → h'.get? x = _ → h'.get? dx = _ → h'.get? y = _ → h'.get? dy = _ → Ext s.heap h' := fun k q5 q6 q1 q2 q3 q4 => back (under_ext k (get_under (get_under e5 m1 m2) m5 m6) (get_under (get_under e6 m3 m4) m7 m8) q5 q6) q1 q2 q3 q4
  clear back
  generalize hG : PyProof.Rows.under (PyProof.Rows.under (PyProof.Rows.under s.heap y dy) x dx) p dq = G at *
  k_sweep
  (repeat' (first | ((fail_if_success (with_reducible show wpAny _ _ (eval (Expr.ListComp _ _ _ _) _) _ _ _)); (fail_if_success (with_reducible show wpAny _ _ (exec (Stmt.For _ _ _ _ _) _) _ _ _)); (fail_if_success (with_reducible show wpAny _ _ (exec (Stmt.While _ _ _ _) _) _ _ _)); (fail_if_success (with_reducible show Exists _)); (fail_if_success (with_reducible show LCg.CompEnd _ _ _ _ _ _ _ _ _ _ _ _ _ _)); (fail_if_success (with_reducible show ForEnd _ _ _ _ _ _ _ _)); (fail_if_success (with_reducible show wpAny _ _ (exec (Stmt.Assign _ (Expr.ListComp _ _ _ _) _) _) _ _ _)); (fail_if_success (with_reducible show LCg.CompSrc _ _ _ _ _ _ _ _ _ _ _ _ _ _)); first | with_reducible (((with_reducible show wpAny _ _ (call (Value.builtin "len") [Value.ref _]) _ _ _); k_dflt (refine len_strsA (News.isList (by assumption) (by k_mem)) (by assumption) (by omega) ?_))) | with_reducible (((with_reducible show wpAny _ _ (call (Value.type "str") [Value.int _ _]) _ _ _); refine PySem.P.str_of_int (by assumption) ?_)) | walk1 | (dsimp only; walk1))))
  have k0 : Ext s.heap h₁ := (back3 (Fr.keep (by assumption)) (News.get (by assumption) (.head _)) (News.get (by assumption) (.tail _ (.head _))) (News.get (by assumption) (.tail _ (.tail _ (.head _)))) (News.get (by assumption) (.tail _ (.tail _ (.tail _ (.head _))))) (News.get (by assumption) (.tail _ (.tail _ (.tail _ (.tail _ (.head _)))))) (News.get (by assumption) (.tail _ (.tail _ (.tail _ (.tail _ (.tail _ (.head _))))))))
  (try dsimp only)
  refine faultTold O (st.trans k0) (T₀.keeps k0) V V' hl hz (by omega) ?_
  intro h2 tk2 r l2 s1 s2 c2 E2 T2
  obtain ⟨F2, N2⟩ := both_ext F N E2 T2
  simp only [List.cons_append, List.nil_append] at N2
  clear N F
  (repeat' (first | ((fail_if_success (with_reducible show wpAny _ _ (eval (Expr.ListComp _ _ _ _) _) _ _ _)); (fail_if_success (with_reducible show wpAny _ _ (exec (Stmt.For _ _ _ _ _) _) _ _ _)); (fail_if_success (with_reducible show wpAny _ _ (exec (Stmt.While _ _ _ _) _) _ _ _)); (fail_if_success (with_reducible show Exists _)); (fail_if_success (with_reducible show LCg.CompEnd _ _ _ _ _ _ _ _ _ _ _ _ _ _)); (fail_if_success (with_reducible show ForEnd _ _ _ _ _ _ _ _)); (fail_if_success (with_reducible show wpAny _ _ (exec (Stmt.Assign _ (Expr.ListComp _ _ _ _) _) _) _ _ _)); (fail_if_success (with_reducible show LCg.CompSrc _ _ _ _ _ _ _ _ _ _ _ _ _ _)); first | with_reducible (((with_reducible show wpAny _ _ (call (Value.builtin "len") [Value.ref _]) _ _ _); k_dflt (refine len_strsA (News.isList (by assumption) (by k_mem)) (by assumption) (by omega) ?_))) | with_reducible (((with_reducible show wpAny _ _ (call (Value.type "str") [Value.int _ _]) _ _ _); refine PySem.P.str_of_int (by assumption) ?_)) | walk1 | (dsimp only; walk1))))
  all_goals
    rename News _ _ _ _ => N5
    rename Fr _ _ _ _ => F5
    have k5 := back3 F5.keep (N5.get (.head _)) (N5.get (.tail _ (.head _))) (N5.get (.tail _ (.tail _ (.head _)))) (N5.get (.tail _ (.tail _ (.tail _ (.head _))))) (N5.get (.tail _ (.tail _ (.tail _ (.tail _ (.head _)))))) (N5.get (.tail _ (.tail _ (.tail _ (.tail _ (.tail _ (.head _)))))))
    (try dsimp only)
    (try dsimp only at k5)
    refine posTold O (st.trans k5) (T₀.keeps k5) VP (by omega) ?_
    intro h6 tk6 r6 tb6 tc6 E6 T6
    obtain ⟨F6, N6⟩ := both_ext F5 N5 E6 T6
    simp only [List.cons_append, List.nil_append] at N6
    clear N5 F5
    (repeat' (first | ((fail_if_success (with_reducible show wpAny _ _ (eval (Expr.ListComp _ _ _ _) _) _ _ _)); (fail_if_success (with_reducible show wpAny _ _ (exec (Stmt.For _ _ _ _ _) _) _ _ _)); (fail_if_success (with_reducible show wpAny _ _ (exec (Stmt.While _ _ _ _) _) _ _ _)); (fail_if_success (with_reducible show Exists _)); (fail_if_success (with_reducible show LCg.CompEnd _ _ _ _ _ _ _ _ _ _ _ _ _ _)); (fail_if_success (with_reducible show ForEnd _ _ _ _ _ _ _ _)); (fail_if_success (with_reducible show wpAny _ _ (exec (Stmt.Assign _ (Expr.ListComp _ _ _ _) _) _) _ _ _)); (fail_if_success (with_reducible show LCg.CompSrc _ _ _ _ _ _ _ _ _ _ _ _ _ _)); first | with_reducible (((with_reducible show wpAny _ _ (call (Value.builtin "len") [Value.ref _]) _ _ _); k_dflt (refine len_strsA (News.isList (by assumption) (by k_mem)) (by assumption) (by omega) ?_))) | with_reducible (((with_reducible show wpAny _ _ (call (Value.type "str") [Value.int _ _]) _ _ _); refine PySem.P.str_of_int (by assumption) ?_)) | walk1 | (dsimp only; walk1))))
  · refine join_list (News.isList (by assumption) (by k_mem)) hi (or_ok (by omega) hzs) (fun t' tk' => ?_)
    have hjl : (Txt.join (Str.ofString " or ") zs).length ≤ 1000 := or_len (by omega) hzs
    (repeat' (first | ((fail_if_success (with_reducible show wpAny _ _ (eval (Expr.ListComp _ _ _ _) _) _ _ _)); (fail_if_success (with_reducible show wpAny _ _ (exec (Stmt.For _ _ _ _ _) _) _ _ _)); (fail_if_success (with_reducible show wpAny _ _ (exec (Stmt.While _ _ _ _) _) _ _ _)); (fail_if_success (with_reducible show Exists _)); (fail_if_success (with_reducible show LCg.CompEnd _ _ _ _ _ _ _ _ _ _ _ _ _ _)); (fail_if_success (with_reducible show ForEnd _ _ _ _ _ _ _ _)); (fail_if_success (with_reducible show wpAny _ _ (exec (Stmt.Assign _ (Expr.ListComp _ _ _ _) _) _) _ _ _)); (fail_if_success (with_reducible show LCg.CompSrc _ _ _ _ _ _ _ _ _ _ _ _ _ _)); first | with_reducible (((with_reducible show wpAny _ _ (call (Value.builtin "len") [Value.ref _]) _ _ _); k_dflt (refine len_strsA (News.isList (by assumption) (by k_mem)) (by assumption) (by omega) ?_))) | with_reducible (((with_reducible show wpAny _ _ (call (Value.type "str") [Value.int _ _]) _ _ _); refine PySem.P.str_of_int (by assumption) ?_)) | walk1 | (dsimp only; walk1))))
    dsimp only [Ret]
    exact ret' _ _ _ _ (faultE1 (by assumption) (by assumption) (by assumption)) (back3 (Fr.keep (by assumption)) (News.get (by assumption) (.head _)) (News.get (by assumption) (.tail _ (.head _))) (News.get (by assumption) (.tail _ (.tail _ (.head _)))) (News.get (by assumption) (.tail _ (.tail _ (.tail _ (.head _))))) (News.get (by assumption) (.tail _ (.tail _ (.tail _ (.tail _ (.head _)))))) (News.get (by assumption) (.tail _ (.tail _ (.tail _ (.tail _ (.tail _ (.head _))))))))
  · dsimp only [Ret]
    exact ret' _ _ _ _ (faultE2 (by assumption) (by assumption)) (back3 (Fr.keep (by assumption)) (News.get (by assumption) (.head _)) (News.get (by assumption) (.tail _ (.head _))) (News.get (by assumption) (.tail _ (.tail _ (.head _)))) (News.get (by assumption) (.tail _ (.tail _ (.tail _ (.head _))))) (News.get (by assumption) (.tail _ (.tail _ (.tail _ (.tail _ (.head _)))))) (News.get (by assumption) (.tail _ (.tail _ (.tail _ (.tail _ (.tail _ (.head _))))))))
  · dsimp only [Ret]
    exact ret' _ _ _ _ (faultE3 (by assumption) (by assumption)) (back3 (Fr.keep (by assumption)) (News.get (by assumption) (.head _)) (News.get (by assumption) (.tail _ (.head _))) (News.get (by assumption) (.tail _ (.tail _ (.head _)))) (News.get (by assumption) (.tail _ (.tail _ (.tail _ (.head _))))) (News.get (by assumption) (.tail _ (.tail _ (.tail _ (.tail _ (.head _)))))) (News.get (by assumption) (.tail _ (.tail _ (.tail _ (.tail _ (.tail _ (.head _))))))))
  · refine join_list (News.isList (by assumption) (by k_mem)) hi (or_ok (by omega) hzs) (fun t' tk' => ?_)
    have hjl : (Txt.join (Str.ofString " or ") zs).length ≤ 1000 := or_len (by omega) hzs
    (repeat' (first | ((fail_if_success (with_reducible show wpAny _ _ (eval (Expr.ListComp _ _ _ _) _) _ _ _)); (fail_if_success (with_reducible show wpAny _ _ (exec (Stmt.For _ _ _ _ _) _) _ _ _)); (fail_if_success (with_reducible show wpAny _ _ (exec (Stmt.While _ _ _ _) _) _ _ _)); (fail_if_success (with_reducible show Exists _)); (fail_if_success (with_reducible show LCg.CompEnd _ _ _ _ _ _ _ _ _ _ _ _ _ _)); (fail_if_success (with_reducible show ForEnd _ _ _ _ _ _ _ _)); (fail_if_success (with_reducible show wpAny _ _ (exec (Stmt.Assign _ (Expr.ListComp _ _ _ _) _) _) _ _ _)); (fail_if_success (with_reducible show LCg.CompSrc _ _ _ _ _ _ _ _ _ _ _ _ _ _)); first | with_reducible (((with_reducible show wpAny _ _ (call (Value.builtin "len") [Value.ref _]) _ _ _); k_dflt (refine len_strsA (News.isList (by assumption) (by k_mem)) (by assumption) (by omega) ?_))) | with_reducible (((with_reducible show wpAny _ _ (call (Value.type "str") [Value.int _ _]) _ _ _); refine PySem.P.str_of_int (by assumption) ?_)) | walk1 | (dsimp only; walk1))))
    dsimp only [Ret]
    exact ret' _ _ _ _ (faultT1 (by assumption) (by assumption) (by assumption)) (back3 (Fr.keep (by assumption)) (News.get (by assumption) (.head _)) (News.get (by assumption) (.tail _ (.head _))) (News.get (by assumption) (.tail _ (.tail _ (.head _)))) (News.get (by assumption) (.tail _ (.tail _ (.tail _ (.head _))))) (News.get (by assumption) (.tail _ (.tail _ (.tail _ (.tail _ (.head _)))))) (News.get (by assumption) (.tail _ (.tail _ (.tail _ (.tail _ (.tail _ (.head _))))))))
  · dsimp only [Ret]
    exact ret' _ _ _ _ (faultT2 (by assumption) (by assumption)) (back3 (Fr.keep (by assumption)) (News.get (by assumption) (.head _)) (News.get (by assumption) (.tail _ (.head _))) (News.get (by assumption) (.tail _ (.tail _ (.head _)))) (News.get (by assumption) (.tail _ (.tail _ (.tail _ (.head _))))) (News.get (by assumption) (.tail _ (.tail _ (.tail _ (.tail _ (.head _)))))) (News.get (by assumption) (.tail _ (.tail _ (.tail _ (.tail _ (.tail _ (.head _))))))))
  · dsimp only [Ret]
    exact ret' _ _ _ _ (faultT3 (by assumption) (by assumption)) (back3 (Fr.keep (by assumption)) (News.get (by assumption) (.head _)) (News.get (by assumption) (.tail _ (.head _))) (News.get (by assumption) (.tail _ (.tail _ (.head _)))) (News.get (by assumption) (.tail _ (.tail _ (.tail _ (.head _))))) (News.get (by assumption) (.tail _ (.tail _ (.tail _ (.tail _ (.head _)))))) (News.get (by assumption) (.tail _ (.tail _ (.tail _ (.tail _ (.tail _ (.head _))))))))
theorem fresh_two {g h : Heap} {L : Addr} {a b : Addr × Obj} {r : List (Addr × Obj)} (N : News g L h (a :: b :: r)) : Fresh g h [a, b] := fun p hp => by
  simp only [List.mem_cons, List.not_mem_nil, or_false] at hp
  rcases hp with rfl | rfl
  · exact ⟨(N _ (.head _)).1, (N _ (.head _)).2.2⟩
  · exact ⟨(N _ (.tail _ (.head _))).1, (N _ (.tail _ (.head _))).2.2⟩
theorem fold_in (l : List Int) : ∀ a : Int, 0 ≤ a → a < 2147483647 → 0 ≤ l.foldl (fun a n => (a * 48271 + n.fmod 2147483647 + 12345).fmod 2147483647) a ∧ l.foldl (fun a n => (a * 48271 + n.fmod 2147483647 + 12345).fmod 2147483647) a < 2147483647 := by
  induction l with
  | nil => intro a h0 h1; exact ⟨h0, h1⟩
  | cons n r ih => intro a _ _; exact ih _ (Int.fmod_nonneg_of_pos _ (by decide)) (Int.fmod_lt_of_pos _ (by decide))
theorem lawBox {w : World} {dp un : Nat} {h : Heap} {gs : Array GenState} {dr : Drawn} {tk : Nat} {os : OsState} {Q E : Value → Shared → Prop} {mean mg mb} {a : Addr} {vs : List Value} {ns : List Int} (O : Ok w h mean mg mb) (hl : h.IsList a vs.toArray) (hi : IntsAre vs ns) (hz : ns.length ≤ 63) (hd : dp + 3 < recursionLimit)
  (ret : ∀ h' tk' bx c vs' ns' o k, Ext h h' → Fresh h h' [(bx, o), (c, W.listOf (List.toArray vs') k)] → BoxO c 0 o → IntsAre vs' ns' → vs'.length ≤ 48 → Q (.ref bx) ⟨h', gs, dr, tk', os⟩) :
  wpAny (model PR w) (AA dp un) (call (.ref 277) [.ref a]) Q E ⟨h, gs, dr, tk, os⟩ := by
  generalize hs : (⟨h, gs, dr, tk, os⟩ : Shared) = s
  obtain ⟨rfl, rfl, rfl, rfl, rfl⟩ : h = s.heap ∧ gs = s.gens ∧ dr = s.drawn ∧ tk = s.toks ∧ os = s.os := by subst hs; exact ⟨rfl, rfl, rfl, rfl, rfl⟩
  clear hs
  obtain ⟨X, T⟩ := O
  refine enter [("script", .ref a)] s.heap (Ext.refl _) rfl X T.nolimit (by k_is) (by k_is) (by omega) (BindsTo.of_eq rfl) (locs rfl) (fun L h₁ F k hL => ?_)
  have N : News s.heap L h₁ [] := News.nil
  repeat' (first | (k_unfold; (try dsimp only)) | walk1 | (dsimp only; walk1))
  all_goals
    rename News _ _ _ _ => N9
    rename Fr _ _ _ _ => F9
    rename IntsAre _ _ => I9
    have hk9 := I9.length
    rw [List.length_map, List.length_take] at hk9
    dsimp only [Ret]
    refine ret _ _ _ _ _ _ _ _ F9.keep (fresh_two N9) ⟨_, _, _, _, _, _, _, rfl, ?_, (fold_in _ _ (by decide) (by decide)).1, (fold_in _ _ (by decide) (by decide)).2, by decide, by decide⟩ I9 (by omega)
  · exact Int.fmod_nonneg_of_pos _ (by decide +kernel)
  · decide
  · decide
/-- the sign at a place of a text -/
noncomputable def Rd (x : Str) (i : Int) (c : Nat) : Prop := 0 ≤ i ∧ x.cps.toList[i.toNat]? = some c
theorem Rd.item {x : Str} {i : Int} {c : Nat} (h : Rd x i c) : Txt.item x i = ⟨#[c]⟩ := item_meets h.1 (by simpa using h.2)
theorem Rd.lt {x : Str} {i : Int} {c : Nat} (h : Rd x i c) : i < x.length := by
  have h1 := h.1
  obtain ⟨h2, _⟩ := List.getElem?_eq_some_iff.mp h.2
  have h3 : x.cps.toList.length = x.length := Array.length_toList
  omega
theorem rd0 {x : Str} {pre r : List Nat} {a : Nat} (h : x.cps.toList = pre ++ a :: r) : Rd x ((pre.length : Nat) : Int) a := ⟨by omega, by simp [h]⟩
theorem rd1 {x : Str} {pre r : List Nat} {a b : Nat} (h : x.cps.toList = pre ++ a :: b :: r) : Rd x ((pre.length : Nat) + 1 : Int) b :=
  ⟨by omega, by rw [h, show ((pre.length : Nat) + 1 : Int).toNat = pre.length + 1 by omega, List.getElem?_append_right (by omega)]; simp⟩
theorem rd2 {x : Str} {pre r : List Nat} {a b c : Nat} (h : x.cps.toList = pre ++ a :: b :: c :: r) : Rd x ((pre.length : Nat) + 2 : Int) c :=
  ⟨by omega, by rw [h, show ((pre.length : Nat) + 2 : Int).toNat = pre.length + 2 by omega, List.getElem?_append_right (by omega)]; simp⟩
theorem rd3 {x : Str} {pre r : List Nat} {a b c d : Nat} (h : x.cps.toList = pre ++ a :: b :: c :: d :: r) : Rd x ((pre.length : Nat) + 3 : Int) d :=
  ⟨by omega, by rw [h, show ((pre.length : Nat) + 3 : Int).toNat = pre.length + 3 by omega, List.getElem?_append_right (by omega)]; simp⟩
theorem slice_clip {i j : Int} {n : Nat} (hj : (n : Int) ≤ j) : Builtin.Str.strSliceIndices (some i) (some j) 1 n = Builtin.Str.strSliceIndices (some i) (some (n : Int)) 1 n := by
  unfold Builtin.Str.strSliceIndices
  have h1 : ¬ j < 0 := by omega
  have h2 : ¬ ((n : Int) < 0) := by omega
  have h3 : min j (n : Int) = n := by omega
  simp [h1, h2, h3]
theorem slice_any {x : Str} {i j : Int} (h0 : 0 ≤ i) (h1 : i ≤ x.length) (hij : i ≤ j) : Txt.slice x (some i) (some j) = S ((x.cps.toList.drop i.toNat).take (j - i).toNat) := by
  have hl : x.cps.toList.length = x.length := Array.length_toList
  by_cases hj : j ≤ x.length
  · exact eq_of_beq (slice_closes ⟨h0, hij, by omega⟩)
  · have e : Txt.slice x (some i) (some j) = Txt.slice x (some i) (some (x.length : Int)) := by
      unfold Txt.slice
      rw [slice_clip (by omega : (x.length : Int) ≤ j)]
    rw [e, eq_of_beq (slice_closes (x := x) (i := i) (j := x.length) ⟨h0, h1, by omega⟩)]
    have e2 : List.take ((x.length : Int) - i).toNat (x.cps.toList.drop i.toNat) = List.take (j - i).toNat (x.cps.toList.drop i.toNat) := by
      rw [List.take_of_length_le (by rw [List.length_drop]; omega), List.take_of_length_le (by rw [List.length_drop]; omega)]
    rw [e2]
theorem slice_at {x : Str} {pre r : List Nat} (h : x.cps.toList = pre ++ r) (k : Nat) : Txt.slice x (some ((pre.length : Nat) : Int)) (some ((pre.length : Nat) + (k : Nat) : Int)) = S (r.take k) := by
  have hl : x.cps.toList.length = x.length := Array.length_toList
  have h2 := congrArg List.length h
  rw [List.length_append] at h2
  rw [slice_any (by omega) (by omega) (by omega), h]
  simp
  congr 1
  omega
theorem lit_none : Str.ofString "none" = S [110, 111, 110, 101] := by decide +kernel
theorem lit_sep : Str.ofString ", " = S [44, 32] := by decide +kernel
theorem S_inj {a b : List Nat} (h : S a = S b) : a = b := by simpa [S] using h
theorem none_yes {x : Str} {pre r : List Nat} (h : x.cps.toList = pre ++ 110 :: 111 :: 110 :: 101 :: r) : (Txt.slice x (some ((pre.length : Nat) : Int)) (some ((pre.length : Nat) + 4 : Int)) == Str.ofString "none") = true := by
  rw [show ((pre.length : Nat) + 4 : Int) = (pre.length : Nat) + ((4 : Nat) : Int) by rfl, slice_at h 4, lit_none]
  exact beq_iff_eq.mpr rfl
theorem none_no {x : Str} {pre r : List Nat} {c : Nat} (h : x.cps.toList = pre ++ c :: r) (hc : c ≠ 110) : (Txt.slice x (some ((pre.length : Nat) : Int)) (some ((pre.length : Nat) + 4 : Int)) == Str.ofString "none") = false := by
  rw [show ((pre.length : Nat) + 4 : Int) = (pre.length : Nat) + ((4 : Nat) : Int) by rfl, slice_at h 4, lit_none, beq_eq_false_iff_ne]
  intro e
  have := S_inj e
  simp at this
  exact hc this.1
theorem sep_yes {x : Str} {pre r : List Nat} (h : x.cps.toList = pre ++ 44 :: 32 :: r) : (Txt.slice x (some ((pre.length : Nat) : Int)) (some ((pre.length : Nat) + 2 : Int)) == Str.ofString ", ") = true := by
  rw [show ((pre.length : Nat) + 2 : Int) = (pre.length : Nat) + ((2 : Nat) : Int) by rfl, slice_at h 2, lit_sep]
  exact beq_iff_eq.mpr rfl
theorem sep_no {x : Str} {pre r : List Nat} {c : Nat} (h : x.cps.toList = pre ++ c :: r) (hc : c ≠ 44) : (Txt.slice x (some ((pre.length : Nat) : Int)) (some ((pre.length : Nat) + 2 : Int)) == Str.ofString ", ") = false := by
  rw [show ((pre.length : Nat) + 2 : Int) = (pre.length : Nat) + ((2 : Nat) : Int) by rfl, slice_at h 2, lit_sep, beq_eq_false_iff_ne]
  intro e
  have := S_inj e
  simp at this
  exact hc this.1
theorem hexd_index : ∀ d : Fin 16, Builtin.Str.occurrences (Str.ofString "0123456789abcdef") ⟨#[hexd d.val]⟩ 0 (Str.ofString "0123456789abcdef").length 1 = [d.val] := by decide +kernel
theorem digs_in (c : Nat) : Txt.contains (Str.ofString "0123456789") ⟨#[c]⟩ = decide (48 ≤ c ∧ c ≤ 57) := by
  refine (StrLaws.found_one _ c).trans ?_
  rw [show (Str.ofString "0123456789").cps.toList = [48, 49, 50, 51, 52, 53, 54, 55, 56, 57] by decide +kernel]
  rw [decide_eq_decide]
  simp only [List.mem_cons, List.not_mem_nil, or_false]
  omega
theorem digs_of (m : Nat) : AllDigits ((Nat.toDigits 10 m).map Char.toNat) ∧ (Nat.toDigits 10 m).map Char.toNat ≠ [] := by
  refine ⟨fun c hc => ?_, fun e => ?_⟩
  · obtain ⟨ch, hch, e⟩ := List.mem_map.mp hc
    rw [← e]
    exact digit_range (Nat.isDigit_of_mem_toDigits (by decide) (by decide) hch)
  · have h := toDigits_len_ge 10 m
    rw [List.map_eq_nil_iff.mp e] at h
    exact absurd h (by decide)
theorem int_form (i : Int) (h : i.natAbs < 10 ^ 24) : ∃ c ds, showL (.int i) = c :: ds ∧ (c = 45 ∨ (48 ≤ c ∧ c ≤ 57)) ∧ AllDigits ds ∧ PySem.intText? (S (c :: ds)) = some i ∧ ds.length ≤ 25 := by
  have hl := int_text_len h
  cases i with
  | ofNat m =>
    have e : showL (.int (Int.ofNat m)) = (Nat.toDigits 10 m).map Char.toNat := KIN.signs_num m
    have e' : (Str.ofString (toString (Int.ofNat m))).cps.toList = (Nat.toDigits 10 m).map Char.toNat := KIN.signs_num m
    rw [e'] at hl
    obtain ⟨h1, h2⟩ := digs_of m
    have hv := KIN.val_back m
    rw [e]
    generalize (Nat.toDigits 10 m).map Char.toNat = l at *
    cases l with
    | nil => exact absurd rfl h2
    | cons c ds =>
      refine ⟨c, ds, rfl, .inr h1.head, h1.tail, ?_, by rw [List.length_cons] at hl; omega⟩
      have := intText_digits (x := S (c :: ds)) h1 (by simp) (by rw [len_S]; omega)
      rw [this]
      exact congrArg (fun k : Nat => some (k : Int)) hv
  | negSucc m =>
    have e : (Str.ofString (toString (Int.negSucc m))).cps.toList = 45 :: (Nat.toDigits 10 (m + 1)).map Char.toNat := by
      rw [signs_ofString]
      show ("-" ++ Nat.repr (m + 1)).toList.map Char.toNat = _
      rw [String.toList_append, List.map_append, Nat.toList_repr]
      rfl
    have e' : showL (.int (Int.negSucc m)) = 45 :: (Nat.toDigits 10 (m + 1)).map Char.toNat := e
    rw [e, List.length_cons] at hl
    obtain ⟨h1, h2⟩ := digs_of (m + 1)
    have hv := KIN.val_back (m + 1)
    rw [e']
    generalize (Nat.toDigits 10 (m + 1)).map Char.toNat = l at *
    refine ⟨45, l, rfl, .inl rfl, h1, ?_, by omega⟩
    rw [intText_neg (x := S (45 :: l)) (cs := l) rfl h1 h2 (by rw [len_S, List.length_cons]; omega), hv]
    rfl
theorem show_head {n : Nat} {d : Dat} (h : okD n d) : ∃ c r, showL d = c :: r ∧ c ≠ 93 ∧ c ≠ 44 := by
  cases d with
  | none => exact ⟨_, _, rfl, by decide, by decide⟩
  | bool b => exact absurd h (by cases n <;> exact id)
  | bytes b => exact absurd h (by cases n <;> exact id)
  | int i =>
    obtain ⟨c, ds, e, hc, _⟩ := int_form i (by cases n <;> exact h)
    exact ⟨c, ds, e, by omega, by omega⟩
  | str x => exact ⟨_, _, rfl, by decide, by decide⟩
  | tuple ds => exact ⟨_, _, rfl, by decide, by decide⟩
  | list ds => exact ⟨_, _, rfl, by decide, by decide⟩
/-- what stands between the brackets from a place on -/
noncomputable def bodyL (ds : List Dat) : List Nat := joinL [44, 32] (showLs ds)
theorem body_one (d : Dat) : bodyL [d] = showL d := by simp [bodyL, showLs, joinL]
theorem body_more (d e : Dat) (r : List Dat) : bodyL (d :: e :: r) = showL d ++ 44 :: 32 :: bodyL (e :: r) := by simp [bodyL, showLs, joinL, List.flatMap_cons]
noncomputable def stops (l : List Nat) : Prop := l = [] ∨ ∃ c r, l = c :: r ∧ (c = 44 ∨ c = 93)
theorem body_head {n : Nat} {d : Dat} {r : List Dat} (h : okD n d) : ∃ c l, bodyL (d :: r) = c :: l ∧ c ≠ 93 := by
  obtain ⟨c, l, e, h1, _⟩ := show_head h
  cases r with
  | nil => exact ⟨c, l, by rw [body_one, e], h1⟩
  | cons e' r => exact ⟨c, l ++ 44 :: 32 :: bodyL (e' :: r), by rw [body_more, e, List.cons_append], h1⟩
section
variable {prog : Program} {w : World} {A : Around} {E : Value → Shared → Prop} {s : Shared} {Q : Value → Shared → Prop}
theorem item_rd {value slice : Expr} {x : Str} {t u : Tok} {i : Int} {c : Nat} (hc : Rd x i c) (hz : x.length ≤ 100000) (h : Q (.str ⟨#[c]⟩ s.toks) { s with toks := s.toks + 1 })
    (hs : subscripted slice false (.str x t) (.int i u) = operate [.str x t, .int i u] (getItem (.str x t) (.int i u)) := by with_unfolding_all rfl)
    (ht : ∀ r, letTemporaryGo value (.str x t) r = pure () := by intro _; with_unfolding_all rfl) :
    wpAny (model prog w) A (subscriptTail value slice (.str x t) (.int i u)) Q E s :=
  have h0 := hc.1
  have h1 := hc.lt
  item_str (fitsSsize_of (N := 9223372036854775808) (by omega) (by omega) (Int.le_refl _)) (by omega) (by omega) (fun _ => by rw [hc.item]; exact h) hs ht
end
noncomputable def SpecRead (n : Nat) (d : Dat) : Prop := ∀ {w : World} {dp un : Nat} {h : Heap} {gs : Array GenState} {dr : Drawn} {tk : Nat} {os : OsState} {Q E : Value → Shared → Prop} {mean mg mb} {x : Str} {pre post : List Nat} {i : Int} {t u : Tok} (O : Ok w h mean mg mb) (hx : x.cps.toList = pre ++ (showL d ++ post)) (hp : stops post) (hi : i = (pre.length : Nat)) (hz : x.length ≤ 100000) (hn : n ≤ 3) (hd : dp + n + 5 < recursionLimit) (hu : un + 4 * n + 50 < cLine)
  (ret : ∀ h' tk' r v tl t', Ext h h' → Fresh h h' ((r, { cls := .type "tuple", data := .seq #[v, .int ((pre.length : Nat) + ((showL d).length : Nat)) t'] }) :: tl) → DatIn tl v (plainD d) → Q (.ref r) ⟨h', gs, dr, tk', os⟩),
  wpAny (model PR w) (AA dp un) (call (.ref 327) [.str x t, .int i u]) Q E ⟨h, gs, dr, tk, os⟩
theorem while_next {h₀ h' : Heap} {L : Addr} {s : Shared} {J : Nat → (Str → Option Value) → List (Addr × Obj) → Prop} {Q : Flow → Shared → Prop} {n n' tk : Nat} {m₂ : Str → Option Value} {news₂ : List (Addr × Obj)}
    (F : Fr h₀ L h' m₂) (N : News h₀ L h' news₂) (hn : n' < n) (hJ : J n' m₂ news₂) : WhileStep2 h₀ L s J Q n .next { s with heap := h', toks := tk } := ⟨h', tk, m₂, news₂, n', rfl, F, N, hn, hJ⟩
theorem q_no {c k : Nat} {l : Str} (hl : l = ⟨#[k]⟩) (h : c ≠ k) : ((⟨#[c]⟩ : Str) == l) = false := by rw [hl, sgn_eq]; exact decide_eq_false h
theorem q_yes {c k : Nat} {l : Str} (hl : l = ⟨#[k]⟩) (h : c = k) : ((⟨#[c]⟩ : Str) == l) = true := by rw [hl, sgn_eq]; exact decide_eq_true h
theorem lit_q : Str.ofString "\"" = ⟨#[34]⟩ := by decide +kernel
theorem lit_o : Str.ofString "[" = ⟨#[91]⟩ := by decide +kernel
theorem lit_c : Str.ofString "]" = ⟨#[93]⟩ := by decide +kernel
theorem lit_x : Str.ofString "x" = ⟨#[120]⟩ := by decide +kernel
noncomputable def mEnd (base : Str → Option Value) (v : Value) : Str → Option Value := fun y => if y = Str.ofString "end" then some v else base y
theorem mEnd_set (base : Str → Option Value) (v a : Value) : (fun y => if y = Str.ofString "end" then some a else mEnd base v y) = fun y => if y = Str.ofString "end" then some a else base y := by
  funext y; unfold mEnd; split <;> rfl
theorem digs_out {c : Nat} (h : ¬ (48 ≤ c ∧ c ≤ 57)) : (Builtin.Str.occurrences (Str.ofString "0123456789") ⟨#[c]⟩ 0 (Str.ofString "0123456789").length 1).isEmpty = true := by
  have := digs_in c
  rw [decide_eq_false h] at this
  simpa [Txt.contains] using this
theorem digs_inn {c : Nat} (h : 48 ≤ c ∧ c ≤ 57) : (Builtin.Str.occurrences (Str.ofString "0123456789") ⟨#[c]⟩ 0 (Str.ofString "0123456789").length 1).isEmpty = false := by
  have := digs_in c
  rw [decide_eq_true h] at this
  simpa [Txt.contains] using this
theorem read_int {i : Int} {n : Nat} (hok : i.natAbs < 10 ^ 24) : SpecRead n (.int i) := by
  intro w dp un h gs dr tk os Q E mean mg mb x pre post i t u O hx hp hi hz hn hd hu ret
  generalize hs : (⟨h, gs, dr, tk, os⟩ : Shared) = s
  obtain ⟨rfl, rfl, rfl, rfl, rfl⟩ : h = s.heap ∧ gs = s.gens ∧ dr = s.drawn ∧ tk = s.toks ∧ os = s.os := by subst hs; exact ⟨rfl, rfl, rfl, rfl, rfl⟩
  clear hs
  subst hi
  obtain ⟨X, T⟩ := O
  refine enter [("text", .str x t), ("at", .int (pre.length : Nat) u)] s.heap (Ext.refl _) rfl X T.nolimit (by k_is) (by k_is) (by omega) (BindsTo.of_eq rfl) (locs rfl) (fun L h₁ F k hL => ?_)
  have N : News s.heap L h₁ [] := News.nil
  have hlx : x.cps.toList.length = x.length := Array.length_toList
  obtain ⟨c, ds, e, hc, hds, hti, hdl⟩ := int_form _ hok
  rw [e, List.cons_append] at hx
  have ret' : ∀ h' tk' r v tl t' j, j = (((pre ++ c :: ds).length : Nat) : Int) → Ext s.heap h' → Fresh s.heap h' ((r, { cls := .type "tuple", data := .seq #[v, .int j t'] }) :: tl) → DatIn tl v (.int i) → Q (.ref r) { s with heap := h', toks := tk' } := fun h' tk' r v tl t' j hj k T D => ret h' tk' r v tl t' k (by rw [e, ← Int.natCast_add, ← List.length_append, ← hj]; exact T) D
  clear ret
  have e1 := none_no hx (by omega)
  have hr := rd0 hx
  have e2 := q_no (c := c) lit_q (by omega)
  have e3 := q_no (c := c) lit_o (by omega)
  (repeat' (first | ((fail_if_success (with_reducible show wpAny _ _ (eval (Expr.ListComp _ _ _ _) _) _ _ _)); (fail_if_success (with_reducible show wpAny _ _ (exec (Stmt.For _ _ _ _ _) _) _ _ _)); (fail_if_success (with_reducible show wpAny _ _ (exec (Stmt.While _ _ _ _) _) _ _ _)); (fail_if_success (with_reducible show Exists _)); (fail_if_success (with_reducible show LCg.CompEnd _ _ _ _ _ _ _ _ _ _ _ _ _ _)); (fail_if_success (with_reducible show ForEnd _ _ _ _ _ _ _ _)); (fail_if_success (with_reducible show wpAny _ _ (exec (Stmt.Assign _ (Expr.ListComp _ _ _ _) _) _) _ _ _)); (fail_if_success (with_reducible show LCg.CompSrc _ _ _ _ _ _ _ _ _ _ _ _ _ _)); first | with_reducible (((with_reducible show wpAny _ _ (call (Value.type "int") [Value.str _ _]) _ _ _); refine KIN.call_text (by assumption) (by assumption) ?_)) | with_reducible ((with_reducible show wpAny _ _ (subscriptTail (Expr.Name _ _) (Expr.BinOp _ _ _ _) (Value.str _ _) (Value.int _ _)) _ _ _); (refine item_rd (by assumption) (by assumption) ?_)) | with_reducible ((with_reducible show wpAny _ _ (subscriptTail (Expr.Name _ _) (Expr.Name _ _) (Value.str _ _) (Value.int _ _)) _ _ _); (refine item_rd (by assumption) (by assumption) ?_)) | walk1 | (dsimp only; walk1))))
  rename Fr _ _ _ _ => F1
  rename News _ _ _ _ => N1
  refine While_inv2 (h₀ := s.heap) (L := L) (n₀ := ds.length) (fun k m' news => ∃ done rest j t', ds = done ++ rest ∧ k = rest.length ∧ j = (((pre ++ c :: done).length : Nat) : Int) ∧ m' = mEnd (fun y => List.lookup y [(Str.ofString "text", Value.str x t), (Str.ofString "at", Value.int (pre.length : Nat) u)].reverse) (.int j t') ∧ news = []) F1 N1 ⟨[], ds, _, _, rfl, rfl, ?_, rfl, rfl⟩ ?_
  · rw [List.length_append]; rfl
  clear F1 N1
  rintro k m₁ news₁ h9 tk9 F9 N9 ⟨done, rest, j, t', hdr, rfl, rfl, rfl, rfl⟩
  dsimp only
  have hl2 := congrArg List.length hx
  rw [hlx, List.length_append, List.length_cons, List.length_append] at hl2
  have hl4 : (pre ++ c :: done).length = pre.length + done.length + 1 := by rw [List.length_append, List.length_cons]; omega
  cases rest with
  | nil =>
    rw [List.append_nil] at hdr
    subst hdr
    have hsl : Txt.slice x (some ((pre.length : Nat) : Int)) (some (((pre ++ c :: ds).length : Nat) : Int)) = S (c :: ds) := by
      rw [show (((pre ++ c :: ds).length : Nat) : Int) = (pre.length : Nat) + (((c :: ds).length : Nat) : Int) by rw [List.length_append]; rfl, slice_at hx]
      simp
    have hti2 : PySem.intText? (Txt.slice x (some ((pre.length : Nat) : Int)) (some (((pre ++ c :: ds).length : Nat) : Int))) = some i := by rw [hsl]; exact hti
    have htl : (Txt.slice x (some ((pre.length : Nat) : Int)) (some (((pre ++ c :: ds).length : Nat) : Int))).length ≤ 640 := by rw [hsl, len_S, List.length_cons]; omega
    clear hsl
    rcases hp with rfl | ⟨c', r', rfl, hc'⟩
    · have hl3 : x.length = (pre ++ c :: ds).length := by rw [List.length_nil] at hl2; omega
      (repeat' (first | ((fail_if_success (with_reducible show wpAny _ _ (eval (Expr.ListComp _ _ _ _) _) _ _ _)); (fail_if_success (with_reducible show wpAny _ _ (exec (Stmt.For _ _ _ _ _) _) _ _ _)); (fail_if_success (with_reducible show wpAny _ _ (exec (Stmt.While _ _ _ _) _) _ _ _)); (fail_if_success (with_reducible show Exists _)); (fail_if_success (with_reducible show LCg.CompEnd _ _ _ _ _ _ _ _ _ _ _ _ _ _)); (fail_if_success (with_reducible show ForEnd _ _ _ _ _ _ _ _)); (fail_if_success (with_reducible show wpAny _ _ (exec (Stmt.Assign _ (Expr.ListComp _ _ _ _) _) _) _ _ _)); (fail_if_success (with_reducible show LCg.CompSrc _ _ _ _ _ _ _ _ _ _ _ _ _ _)); first | with_reducible (((with_reducible show wpAny _ _ (call (Value.type "int") [Value.str _ _]) _ _ _); refine KIN.call_text (by assumption) (by assumption) ?_)) | with_reducible ((with_reducible show wpAny _ _ (subscriptTail (Expr.Name _ _) (Expr.BinOp _ _ _ _) (Value.str _ _) (Value.int _ _)) _ _ _); (refine item_rd (by assumption) (by assumption) ?_)) | with_reducible ((with_reducible show wpAny _ _ (subscriptTail (Expr.Name _ _) (Expr.Name _ _) (Value.str _ _) (Value.int _ _)) _ _ _); (refine item_rd (by assumption) (by assumption) ?_)) | walk1 | (dsimp only; walk1))))
      dsimp only [Ret]
      exact ret' _ _ _ _ [] _ _ rfl (Fr.keep (by assumption)) (fresh_of (by assumption)) (.int _ _)
    · have hr2 := rd0 (x := x) (pre := pre ++ c :: ds) (a := c') (r := r') (by rw [hx]; simp)
      have hl3 : (pre ++ c :: ds).length < x.length := by rw [List.length_cons] at hl2; omega
      have ho := digs_out (c := c') (by omega)
      (repeat' (first | ((fail_if_success (with_reducible show wpAny _ _ (eval (Expr.ListComp _ _ _ _) _) _ _ _)); (fail_if_success (with_reducible show wpAny _ _ (exec (Stmt.For _ _ _ _ _) _) _ _ _)); (fail_if_success (with_reducible show wpAny _ _ (exec (Stmt.While _ _ _ _) _) _ _ _)); (fail_if_success (with_reducible show Exists _)); (fail_if_success (with_reducible show LCg.CompEnd _ _ _ _ _ _ _ _ _ _ _ _ _ _)); (fail_if_success (with_reducible show ForEnd _ _ _ _ _ _ _ _)); (fail_if_success (with_reducible show wpAny _ _ (exec (Stmt.Assign _ (Expr.ListComp _ _ _ _) _) _) _ _ _)); (fail_if_success (with_reducible show LCg.CompSrc _ _ _ _ _ _ _ _ _ _ _ _ _ _)); first | with_reducible (((with_reducible show wpAny _ _ (call (Value.type "int") [Value.str _ _]) _ _ _); refine KIN.call_text (by assumption) (by assumption) ?_)) | with_reducible ((with_reducible show wpAny _ _ (subscriptTail (Expr.Name _ _) (Expr.BinOp _ _ _ _) (Value.str _ _) (Value.int _ _)) _ _ _); (refine item_rd (by assumption) (by assumption) ?_)) | with_reducible ((with_reducible show wpAny _ _ (subscriptTail (Expr.Name _ _) (Expr.Name _ _) (Value.str _ _) (Value.int _ _)) _ _ _); (refine item_rd (by assumption) (by assumption) ?_)) | walk1 | (dsimp only; walk1))))
      dsimp only [Ret]
      exact ret' _ _ _ _ [] _ _ rfl (Fr.keep (by assumption)) (fresh_of (by assumption)) (.int _ _)
  | cons c' rest =>
    have hr2 := rd0 (x := x) (pre := pre ++ c :: done) (a := c') (r := rest ++ post) (by rw [hx, hdr]; simp)
    have hl3 : (pre ++ c :: done).length < x.length := by rw [hdr, List.length_append, List.length_cons] at hl2; omega
    have ho := digs_inn (c := c') (hds c' (by rw [hdr]; simp))
    (repeat' (first | ((fail_if_success (with_reducible show wpAny _ _ (eval (Expr.ListComp _ _ _ _) _) _ _ _)); (fail_if_success (with_reducible show wpAny _ _ (exec (Stmt.For _ _ _ _ _) _) _ _ _)); (fail_if_success (with_reducible show wpAny _ _ (exec (Stmt.While _ _ _ _) _) _ _ _)); (fail_if_success (with_reducible show Exists _)); (fail_if_success (with_reducible show LCg.CompEnd _ _ _ _ _ _ _ _ _ _ _ _ _ _)); (fail_if_success (with_reducible show ForEnd _ _ _ _ _ _ _ _)); (fail_if_success (with_reducible show wpAny _ _ (exec (Stmt.Assign _ (Expr.ListComp _ _ _ _) _) _) _ _ _)); (fail_if_success (with_reducible show LCg.CompSrc _ _ _ _ _ _ _ _ _ _ _ _ _ _)); first | with_reducible (((with_reducible show wpAny _ _ (call (Value.type "int") [Value.str _ _]) _ _ _); refine KIN.call_text (by assumption) (by assumption) ?_)) | with_reducible ((with_reducible show wpAny _ _ (subscriptTail (Expr.Name _ _) (Expr.BinOp _ _ _ _) (Value.str _ _) (Value.int _ _)) _ _ _); (refine item_rd (by assumption) (by assumption) ?_)) | with_reducible ((with_reducible show wpAny _ _ (subscriptTail (Expr.Name _ _) (Expr.Name _ _) (Value.str _ _) (Value.int _ _)) _ _ _); (refine item_rd (by assumption) (by assumption) ?_)) | walk1 | (dsimp only; walk1))))
    rename Fr _ _ _ _ => F8
    rename News _ _ _ _ => N8
    rw [mEnd_set] at F8
    exact while_next F8 N8 (Nat.lt_succ_self _) ⟨done ++ [c'], rest, _, _, by rw [hdr]; simp, rfl, by simp; omega, rfl, rfl⟩
noncomputable def mAt (base : Str → Option Value) (D : Addr) (v : Value) : Str → Option Value := fun y => if y = Str.ofString "at" then some v else if y = Str.ofString "signs" then some (.ref D) else base y
theorem mAt_set (base : Str → Option Value) (D : Addr) (v a : Value) : (fun y => if y = Str.ofString "at" then some a else mAt base D v y) = mAt base D a := by
  funext y; unfold mAt; split <;> rfl
theorem lit_bs : Str.ofString "\\" = ⟨#[92]⟩ := by decide +kernel
theorem hexd_cases (d : Nat) (h : d < 16) : (48 ≤ hexd d ∧ hexd d ≤ 57) ∨ (97 ≤ hexd d ∧ hexd d ≤ 102) := by unfold hexd; split <;> omega
section
variable {prog : Program} {w : World} {A : Around} {E : Value → Shared → Prop} {s : Shared} {Q : Value → Shared → Prop}
theorem idx_hex {d : Nat} {t u : Tok} (hd : d < 16) (h : Q (.int (d : Nat) s.toks) { s with toks := s.toks + 1 }) : wpAny (model prog w) A (call (.builtin "str.index") [.str (Str.ofString "0123456789abcdef") t, .str ⟨#[hexd d]⟩ u]) Q E s :=
  SC.index (hexd_index ⟨d, hd⟩) h
end
theorem n_yes {c k : Nat} {l : Str} (hl : l = ⟨#[k]⟩) (h : c ≠ k) : ((⟨#[c]⟩ : Str) != l) = true := by rw [bne, q_no hl h]; rfl
noncomputable def JS (z : Str) (pre : List Nat) (base : Str → Option Value) : Nat → (Str → Option Value) → List (Addr × Obj) → Prop := fun k m' news => ∃ done rest j t' D ys nn, z.cps.toList = done ++ rest ∧ k = rest.length ∧ j = (((pre ++ 34 :: escT 34 done).length : Nat) : Int) ∧ m' = mAt base D (.int j t') ∧ news = [(D, W.listOf (List.toArray ys) nn)] ∧ StrsAre ys (done.map fun c => S [c])
theorem js_step {z : Str} {pre done rest p : List Nat} {c' : Nat} {base : Str → Option Value} {h₀ h' : Heap} {L D : Addr} {s : Shared} {Q : Flow → Shared → Prop} {tk nn : Nat} {news' : List (Addr × Obj)} {ys : List Value} {i0 : Value} {v : Int} {t1 t2 : Tok} {y : Str} {k : Nat}
    (F : Fr h₀ L h' (fun y => if y = Str.ofString "at" then some (.int v t1) else mAt base D i0 y)) (N : News h₀ L h' news') (hm : (D, W.listOf (ys.toArray.push (.str y t2)) (nn + 1)) ∈ news') (hdr : z.cps.toList = done ++ c' :: rest) (hys : StrsAre ys (done.map fun c => S [c])) (hk : k = rest.length + 1) (hp : pre ++ 34 :: escT 34 done = p)
    (hy : y = ⟨#[c']⟩) (hv : v = (p.length : Nat) + ((escSign 34 c').length : Nat)) : WhileStep2 h₀ L s (JS z pre base) Q k .next { s with heap := h', toks := tk } := by
  rw [mAt_set] at F
  rw [push_S, hy] at hm
  refine while_next F (fun p hp => by rw [List.mem_singleton.mp hp]; exact N _ hm) (by omega) ⟨done ++ [c'], rest, v, t1, D, ys ++ [.str ⟨#[c']⟩ t2], nn + 1, by rw [hdr]; simp, rfl, ?_, rfl, rfl, strs_code hys⟩
  rw [hv, ← hp]
  simp only [escT, List.flatMap_append, List.flatMap_cons, List.flatMap_nil, List.append_nil, List.length_append, List.length_cons]
  omega
theorem read_str {z : Str} {n : Nat} (hok : z.cps.size ≤ 4 ∧ ∀ c ∈ z.cps.toList, c < 256 ∨ c = 955) : SpecRead n (.str z) := by
  intro w dp un h gs dr tk os Q E mean mg mb x pre post i t u O hx hp hi hz hn hd hu ret
  generalize hs : (⟨h, gs, dr, tk, os⟩ : Shared) = s
  obtain ⟨rfl, rfl, rfl, rfl, rfl⟩ : h = s.heap ∧ gs = s.gens ∧ dr = s.drawn ∧ tk = s.toks ∧ os = s.os := by subst hs; exact ⟨rfl, rfl, rfl, rfl, rfl⟩
  clear hs
  subst hi
  obtain ⟨X, T⟩ := O
  refine enter [("text", .str x t), ("at", .int (pre.length : Nat) u)] s.heap (Ext.refl _) rfl X T.nolimit (by k_is) (by k_is) (by omega) (BindsTo.of_eq rfl) (locs rfl) (fun L h₁ F k hL => ?_)
  have N : News s.heap L h₁ [] := News.nil
  have ret' : ∀ h' tk' r v tl t' j, j = ((pre.length + (escT 34 z.cps.toList).length + 2 : Nat) : Int) → Ext s.heap h' → Fresh s.heap h' ((r, { cls := .type "tuple", data := .seq #[v, .int j t'] }) :: tl) → DatIn tl v (.str z) → Q (.ref r) { s with heap := h', toks := tk' } := fun h' tk' r v tl t' j hj k T D => ret h' tk' r v tl t' k (by
    have e : ((pre.length : Nat) : Int) + ((showL (.str z)).length : Nat) = j := by rw [hj]; simp only [showL, List.length_append, List.length_cons, List.length_nil]; omega
    rw [e]; exact T) D
  clear ret
  have hlx : x.cps.toList.length = x.length := Array.length_toList
  have hx : x.cps.toList = pre ++ 34 :: (escT 34 z.cps.toList ++ 34 :: post) := by rw [hx]; simp [showL]
  have e1 := none_no hx (by omega)
  have hr := rd0 hx
  have e2 := q_yes (c := 34) lit_q rfl
  (repeat' (first | ((fail_if_success (with_reducible show wpAny _ _ (eval (Expr.ListComp _ _ _ _) _) _ _ _)); (fail_if_success (with_reducible show wpAny _ _ (exec (Stmt.For _ _ _ _ _) _) _ _ _)); (fail_if_success (with_reducible show wpAny _ _ (exec (Stmt.While _ _ _ _) _) _ _ _)); (fail_if_success (with_reducible show Exists _)); (fail_if_success (with_reducible show LCg.CompEnd _ _ _ _ _ _ _ _ _ _ _ _ _ _)); (fail_if_success (with_reducible show ForEnd _ _ _ _ _ _ _ _)); (fail_if_success (with_reducible show wpAny _ _ (exec (Stmt.Assign _ (Expr.ListComp _ _ _ _) _) _) _ _ _)); (fail_if_success (with_reducible show LCg.CompSrc _ _ _ _ _ _ _ _ _ _ _ _ _ _)); first | with_reducible ((with_reducible show wpAny _ _ (call (Value.builtin "str.index") _) _ _ _); (refine idx_hex (by omega) ?_)) | with_reducible ((with_reducible show wpAny _ _ (subscriptTail (Expr.Name _ _) (Expr.BinOp _ _ _ _) (Value.str _ _) (Value.int _ _)) _ _ _); (refine item_rd (by assumption) (by assumption) ?_)) | with_reducible ((with_reducible show wpAny _ _ (subscriptTail (Expr.Name _ _) (Expr.Name _ _) (Value.str _ _) (Value.int _ _)) _ _ _); (refine item_rd (by assumption) (by assumption) ?_)) | walk1 | (dsimp only; walk1))))
  rename Fr _ _ _ _ => F1
  rename News _ _ _ _ => N1
  refine While_inv2 (h₀ := s.heap) (L := L) (n₀ := z.cps.toList.length) (JS z pre (fun y => List.lookup y [(Str.ofString "text", Value.str x t), (Str.ofString "at", Value.int (pre.length : Nat) u)].reverse)) F1 N1 ⟨[], z.cps.toList, _, _, _, [], 0, rfl, rfl, ?_, rfl, rfl, .nil⟩ ?_
  · rw [List.length_append]; rfl
  clear F1 N1
  rintro k m₁ news₁ h9 tk9 F9 N9 ⟨done, rest, j, t', D, ys, nn, hdr, rfl, rfl, rfl, rfl, hys⟩
  dsimp only
  have hdl : done.length ≤ 4 := by
    have h2 := congrArg List.length hdr
    have h3 : z.cps.toList.length = z.cps.size := Array.length_toList
    have h4 := hok.1
    rw [List.length_append] at h2; omega
  have hyl : ys.toArray.size ≤ sizeLine := by
    have h1 := strs_len hys
    rw [List.length_map] at h1
    rw [PySem.sizeLine_eq, List.size_toArray]; omega
  cases rest with
  | nil =>
    rw [List.append_nil] at hdr
    have hr2 := rd0 (x := x) (pre := pre ++ 34 :: escT 34 done) (a := 34) (r := post) (by rw [hx, hdr]; simp)
    have f0 := q_yes (c := 34) lit_q rfl
    have hlen : (pre ++ 34 :: escT 34 done).length + 1 = pre.length + (escT 34 z.cps.toList).length + 2 := by rw [hdr]; simp only [List.length_append, List.length_cons]; omega
    (repeat' (first | ((fail_if_success (with_reducible show wpAny _ _ (eval (Expr.ListComp _ _ _ _) _) _ _ _)); (fail_if_success (with_reducible show wpAny _ _ (exec (Stmt.For _ _ _ _ _) _) _ _ _)); (fail_if_success (with_reducible show wpAny _ _ (exec (Stmt.While _ _ _ _) _) _ _ _)); (fail_if_success (with_reducible show Exists _)); (fail_if_success (with_reducible show LCg.CompEnd _ _ _ _ _ _ _ _ _ _ _ _ _ _)); (fail_if_success (with_reducible show ForEnd _ _ _ _ _ _ _ _)); (fail_if_success (with_reducible show wpAny _ _ (exec (Stmt.Assign _ (Expr.ListComp _ _ _ _) _) _) _ _ _)); (fail_if_success (with_reducible show LCg.CompSrc _ _ _ _ _ _ _ _ _ _ _ _ _ _)); first | with_reducible ((with_reducible show wpAny _ _ (call (Value.builtin "str.index") _) _ _ _); (refine idx_hex (by omega) ?_)) | with_reducible ((with_reducible show wpAny _ _ (subscriptTail (Expr.Name _ _) (Expr.BinOp _ _ _ _) (Value.str _ _) (Value.int _ _)) _ _ _); (refine item_rd (by assumption) (by assumption) ?_)) | with_reducible ((with_reducible show wpAny _ _ (subscriptTail (Expr.Name _ _) (Expr.Name _ _) (Value.str _ _) (Value.int _ _)) _ _ _); (refine item_rd (by assumption) (by assumption) ?_)) | walk1 | (dsimp only; walk1))))
    refine join_list (N9.isList (.head _)) hys (codes_ok done hdl) (fun t' tk' => ?_)
    rw [join_codes, ← hdr, ← str_S z]
    (repeat' (first | ((fail_if_success (with_reducible show wpAny _ _ (eval (Expr.ListComp _ _ _ _) _) _ _ _)); (fail_if_success (with_reducible show wpAny _ _ (exec (Stmt.For _ _ _ _ _) _) _ _ _)); (fail_if_success (with_reducible show wpAny _ _ (exec (Stmt.While _ _ _ _) _) _ _ _)); (fail_if_success (with_reducible show Exists _)); (fail_if_success (with_reducible show LCg.CompEnd _ _ _ _ _ _ _ _ _ _ _ _ _ _)); (fail_if_success (with_reducible show ForEnd _ _ _ _ _ _ _ _)); (fail_if_success (with_reducible show wpAny _ _ (exec (Stmt.Assign _ (Expr.ListComp _ _ _ _) _) _) _ _ _)); (fail_if_success (with_reducible show LCg.CompSrc _ _ _ _ _ _ _ _ _ _ _ _ _ _)); first | with_reducible ((with_reducible show wpAny _ _ (call (Value.builtin "str.index") _) _ _ _); (refine idx_hex (by omega) ?_)) | with_reducible ((with_reducible show wpAny _ _ (subscriptTail (Expr.Name _ _) (Expr.BinOp _ _ _ _) (Value.str _ _) (Value.int _ _)) _ _ _); (refine item_rd (by assumption) (by assumption) ?_)) | with_reducible ((with_reducible show wpAny _ _ (subscriptTail (Expr.Name _ _) (Expr.Name _ _) (Value.str _ _) (Value.int _ _)) _ _ _); (refine item_rd (by assumption) (by assumption) ?_)) | walk1 | (dsimp only; walk1))))
    dsimp only [Ret]
    rename News _ _ _ _ => N8
    rename Fr _ _ _ _ => F8
    refine ret' _ _ _ _ _ _ _ ?_ F8.keep (fresh_of N8) (.str _ _)
    omega
  | cons c' rest =>
    have hc' := hok.2 c' (by rw [hdr]; simp)
    have hx2 : x.cps.toList = (pre ++ 34 :: escT 34 done) ++ (escSign 34 c' ++ (escT 34 rest ++ 34 :: post)) := by rw [hx, hdr]; simp [escT]
    clear hx
    generalize hp2 : pre ++ 34 :: escT 34 done = p at *
    by_cases h10 : c' = 10
    · subst h10
      have hx3 : x.cps.toList = p ++ 92 :: 110 :: (escT 34 rest ++ 34 :: post) := hx2
      have r0 := rd0 hx3
      have r1 := rd1 hx3
      have f0 := q_no (c := 92) lit_q (by decide)
      have f1 := q_yes (c := 92) lit_bs rfl
      have f2 := q_no (c := 110) lit_x (by decide)
      (repeat' (first | ((fail_if_success (with_reducible show wpAny _ _ (eval (Expr.ListComp _ _ _ _) _) _ _ _)); (fail_if_success (with_reducible show wpAny _ _ (exec (Stmt.For _ _ _ _ _) _) _ _ _)); (fail_if_success (with_reducible show wpAny _ _ (exec (Stmt.While _ _ _ _) _) _ _ _)); (fail_if_success (with_reducible show LCg.CompEnd _ _ _ _ _ _ _ _ _ _ _ _ _ _)); (fail_if_success (with_reducible show ForEnd _ _ _ _ _ _ _ _)); (fail_if_success (with_reducible show wpAny _ _ (exec (Stmt.Assign _ (Expr.ListComp _ _ _ _) _) _) _ _ _)); (fail_if_success (with_reducible show LCg.CompSrc _ _ _ _ _ _ _ _ _ _ _ _ _ _)); first | with_reducible ((with_reducible show wpAny _ _ (call (Value.builtin "str.index") _) _ _ _); (refine idx_hex (by omega) ?_)) | with_reducible ((with_reducible show wpAny _ _ (subscriptTail (Expr.Name _ _) (Expr.BinOp _ _ _ _) (Value.str _ _) (Value.int _ _)) _ _ _); (refine item_rd (by assumption) (by assumption) ?_)) | with_reducible ((with_reducible show wpAny _ _ (subscriptTail (Expr.Name _ _) (Expr.Name _ _) (Value.str _ _) (Value.int _ _)) _ _ _); (refine item_rd (by assumption) (by assumption) ?_)) | walk1 | (dsimp only; walk1))))
      exact js_step (by assumption) (by assumption) (by k_mem) hdr hys rfl hp2 lit_n rfl
    by_cases h9' : c' = 9
    · subst h9'
      have hx3 : x.cps.toList = p ++ 92 :: 116 :: (escT 34 rest ++ 34 :: post) := hx2
      have r0 := rd0 hx3
      have r1 := rd1 hx3
      have f0 := q_no (c := 92) lit_q (by decide)
      have f1 := q_yes (c := 92) lit_bs rfl
      have f2 := q_no (c := 116) lit_x (by decide)
      (repeat' (first | ((fail_if_success (with_reducible show wpAny _ _ (eval (Expr.ListComp _ _ _ _) _) _ _ _)); (fail_if_success (with_reducible show wpAny _ _ (exec (Stmt.For _ _ _ _ _) _) _ _ _)); (fail_if_success (with_reducible show wpAny _ _ (exec (Stmt.While _ _ _ _) _) _ _ _)); (fail_if_success (with_reducible show LCg.CompEnd _ _ _ _ _ _ _ _ _ _ _ _ _ _)); (fail_if_success (with_reducible show ForEnd _ _ _ _ _ _ _ _)); (fail_if_success (with_reducible show wpAny _ _ (exec (Stmt.Assign _ (Expr.ListComp _ _ _ _) _) _) _ _ _)); (fail_if_success (with_reducible show LCg.CompSrc _ _ _ _ _ _ _ _ _ _ _ _ _ _)); first | with_reducible ((with_reducible show wpAny _ _ (call (Value.builtin "str.index") _) _ _ _); (refine idx_hex (by omega) ?_)) | with_reducible ((with_reducible show wpAny _ _ (subscriptTail (Expr.Name _ _) (Expr.BinOp _ _ _ _) (Value.str _ _) (Value.int _ _)) _ _ _); (refine item_rd (by assumption) (by assumption) ?_)) | with_reducible ((with_reducible show wpAny _ _ (subscriptTail (Expr.Name _ _) (Expr.Name _ _) (Value.str _ _) (Value.int _ _)) _ _ _); (refine item_rd (by assumption) (by assumption) ?_)) | walk1 | (dsimp only; walk1))))
      exact js_step (by assumption) (by assumption) (by k_mem) hdr hys rfl hp2 lit_t rfl
    by_cases h34 : c' = 34
    · subst h34
      have hx3 : x.cps.toList = p ++ 92 :: 34 :: (escT 34 rest ++ 34 :: post) := hx2
      have r0 := rd0 hx3
      have r1 := rd1 hx3
      have f0 := q_no (c := 92) lit_q (by decide)
      have f1 := q_yes (c := 92) lit_bs rfl
      have f2 := q_no (c := 34) lit_x (by decide)
      (repeat' (first | ((fail_if_success (with_reducible show wpAny _ _ (eval (Expr.ListComp _ _ _ _) _) _ _ _)); (fail_if_success (with_reducible show wpAny _ _ (exec (Stmt.For _ _ _ _ _) _) _ _ _)); (fail_if_success (with_reducible show wpAny _ _ (exec (Stmt.While _ _ _ _) _) _ _ _)); (fail_if_success (with_reducible show LCg.CompEnd _ _ _ _ _ _ _ _ _ _ _ _ _ _)); (fail_if_success (with_reducible show ForEnd _ _ _ _ _ _ _ _)); (fail_if_success (with_reducible show wpAny _ _ (exec (Stmt.Assign _ (Expr.ListComp _ _ _ _) _) _) _ _ _)); (fail_if_success (with_reducible show LCg.CompSrc _ _ _ _ _ _ _ _ _ _ _ _ _ _)); first | with_reducible ((with_reducible show wpAny _ _ (call (Value.builtin "str.index") _) _ _ _); (refine idx_hex (by omega) ?_)) | with_reducible ((with_reducible show wpAny _ _ (subscriptTail (Expr.Name _ _) (Expr.BinOp _ _ _ _) (Value.str _ _) (Value.int _ _)) _ _ _); (refine item_rd (by assumption) (by assumption) ?_)) | with_reducible ((with_reducible show wpAny _ _ (subscriptTail (Expr.Name _ _) (Expr.Name _ _) (Value.str _ _) (Value.int _ _)) _ _ _); (refine item_rd (by assumption) (by assumption) ?_)) | walk1 | (dsimp only; walk1))))
      exact js_step (by assumption) (by assumption) (by k_mem) hdr hys rfl hp2 rfl rfl
    by_cases h92 : c' = 92
    · subst h92
      have hx3 : x.cps.toList = p ++ 92 :: 92 :: (escT 34 rest ++ 34 :: post) := hx2
      have r0 := rd0 hx3
      have r1 := rd1 hx3
      have f0 := q_no (c := 92) lit_q (by decide)
      have f1 := q_yes (c := 92) lit_bs rfl
      have f2 := q_no (c := 92) lit_x (by decide)
      (repeat' (first | ((fail_if_success (with_reducible show wpAny _ _ (eval (Expr.ListComp _ _ _ _) _) _ _ _)); (fail_if_success (with_reducible show wpAny _ _ (exec (Stmt.For _ _ _ _ _) _) _ _ _)); (fail_if_success (with_reducible show wpAny _ _ (exec (Stmt.While _ _ _ _) _) _ _ _)); (fail_if_success (with_reducible show LCg.CompEnd _ _ _ _ _ _ _ _ _ _ _ _ _ _)); (fail_if_success (with_reducible show ForEnd _ _ _ _ _ _ _ _)); (fail_if_success (with_reducible show wpAny _ _ (exec (Stmt.Assign _ (Expr.ListComp _ _ _ _) _) _) _ _ _)); (fail_if_success (with_reducible show LCg.CompSrc _ _ _ _ _ _ _ _ _ _ _ _ _ _)); first | with_reducible ((with_reducible show wpAny _ _ (call (Value.builtin "str.index") _) _ _ _); (refine idx_hex (by omega) ?_)) | with_reducible ((with_reducible show wpAny _ _ (subscriptTail (Expr.Name _ _) (Expr.BinOp _ _ _ _) (Value.str _ _) (Value.int _ _)) _ _ _); (refine item_rd (by assumption) (by assumption) ?_)) | with_reducible ((with_reducible show wpAny _ _ (subscriptTail (Expr.Name _ _) (Expr.Name _ _) (Value.str _ _) (Value.int _ _)) _ _ _); (refine item_rd (by assumption) (by assumption) ?_)) | walk1 | (dsimp only; walk1))))
      exact js_step (by assumption) (by assumption) (by k_mem) hdr hys rfl hp2 rfl rfl
    by_cases hh : c' < 32 ∨ (126 < c' ∧ c' < 256)
    · have he : escSign 34 c' = [92, 120, hexd (c' / 16), hexd (c' % 16)] := by unfold escSign; rw [if_neg h10, if_neg h9', if_neg (by omega), if_pos hh]; rfl
      have hx3 : x.cps.toList = p ++ 92 :: 120 :: hexd (c' / 16) :: hexd (c' % 16) :: (escT 34 rest ++ 34 :: post) := by rw [hx2, he]; rfl
      have r0 := rd0 hx3
      have r1 := rd1 hx3
      have r2 := rd2 hx3
      have r3 := rd3 hx3
      have f0 := q_no (c := 92) lit_q (by decide)
      have f1 := q_yes (c := 92) lit_bs rfl
      have f2 := q_yes (c := 120) lit_x rfl
      (repeat' (first | ((fail_if_success (with_reducible show wpAny _ _ (eval (Expr.ListComp _ _ _ _) _) _ _ _)); (fail_if_success (with_reducible show wpAny _ _ (exec (Stmt.For _ _ _ _ _) _) _ _ _)); (fail_if_success (with_reducible show wpAny _ _ (exec (Stmt.While _ _ _ _) _) _ _ _)); (fail_if_success (with_reducible show LCg.CompEnd _ _ _ _ _ _ _ _ _ _ _ _ _ _)); (fail_if_success (with_reducible show ForEnd _ _ _ _ _ _ _ _)); (fail_if_success (with_reducible show wpAny _ _ (exec (Stmt.Assign _ (Expr.ListComp _ _ _ _) _) _) _ _ _)); (fail_if_success (with_reducible show LCg.CompSrc _ _ _ _ _ _ _ _ _ _ _ _ _ _)); first | with_reducible ((with_reducible show wpAny _ _ (call (Value.builtin "str.index") _) _ _ _); (refine idx_hex (by omega) ?_)) | with_reducible ((with_reducible show wpAny _ _ (subscriptTail (Expr.Name _ _) (Expr.BinOp _ _ _ _) (Value.str _ _) (Value.int _ _)) _ _ _); (refine item_rd (by assumption) (by assumption) ?_)) | with_reducible ((with_reducible show wpAny _ _ (subscriptTail (Expr.Name _ _) (Expr.Name _ _) (Value.str _ _) (Value.int _ _)) _ _ _); (refine item_rd (by assumption) (by assumption) ?_)) | walk1 | (dsimp only; walk1))))
      refine js_step (by assumption) (by assumption) (by k_mem) hdr hys rfl hp2 (congrArg (fun k : Nat => (⟨#[k]⟩ : Str)) (by omega)) (by rw [he]; rfl)
    · have he : escSign 34 c' = [c'] := by unfold escSign; rw [if_neg h10, if_neg h9', if_neg (by omega), if_neg hh]
      have hx3 : x.cps.toList = p ++ c' :: (escT 34 rest ++ 34 :: post) := by rw [hx2, he]; rfl
      have r0 := rd0 hx3
      have f0 := q_no (c := c') lit_q h34
      have f1 := q_no (c := c') lit_bs h92
      have g0 := n_yes (c := c') lit_q h34
      have g1 := n_yes (c := c') lit_bs h92
      (repeat' (first | ((fail_if_success (with_reducible show wpAny _ _ (eval (Expr.ListComp _ _ _ _) _) _ _ _)); (fail_if_success (with_reducible show wpAny _ _ (exec (Stmt.For _ _ _ _ _) _) _ _ _)); (fail_if_success (with_reducible show wpAny _ _ (exec (Stmt.While _ _ _ _) _) _ _ _)); (fail_if_success (with_reducible show LCg.CompEnd _ _ _ _ _ _ _ _ _ _ _ _ _ _)); (fail_if_success (with_reducible show ForEnd _ _ _ _ _ _ _ _)); (fail_if_success (with_reducible show wpAny _ _ (exec (Stmt.Assign _ (Expr.ListComp _ _ _ _) _) _) _ _ _)); (fail_if_success (with_reducible show LCg.CompSrc _ _ _ _ _ _ _ _ _ _ _ _ _ _)); first | with_reducible ((with_reducible show wpAny _ _ (call (Value.builtin "str.index") _) _ _ _); (refine idx_hex (by omega) ?_)) | with_reducible ((with_reducible show wpAny _ _ (subscriptTail (Expr.Name _ _) (Expr.BinOp _ _ _ _) (Value.str _ _) (Value.int _ _)) _ _ _); (refine item_rd (by assumption) (by assumption) ?_)) | with_reducible ((with_reducible show wpAny _ _ (subscriptTail (Expr.Name _ _) (Expr.Name _ _) (Value.str _ _) (Value.int _ _)) _ _ _); (refine item_rd (by assumption) (by assumption) ?_)) | walk1 | (dsimp only; walk1))))
      exact js_step (by assumption) (by assumption) (by k_mem) hdr hys rfl hp2 rfl (by rw [he]; rfl)
noncomputable def mSeq (base : Str → Option Value) (D : Addr) (v : Value) (pv : Option Value) : Str → Option Value := fun y => if y = Str.ofString "at" then some v else if y = Str.ofString "part" then pv else if y = Str.ofString "parts" then some (.ref D) else base y
theorem mSeq0 (a b v : Value) (D : Addr) : (fun y => if y = Str.ofString "at" then some v else if y = Str.ofString "parts" then some (.ref D) else List.lookup y [(Str.ofString "text", a), (Str.ofString "at", b)].reverse) = mSeq (fun y => List.lookup y [(Str.ofString "text", a), (Str.ofString "at", b)].reverse) D v none := by
  funext y; unfold mSeq
  split
  · rfl
  · split
    · rename_i h1 h2; subst h2; rfl
    · split
      · rename_i h1 h2 h3; subst h3; rfl
      · rfl
theorem n_yes' {c k : Nat} {l : Str} (hl : l = ⟨#[k]⟩) (h : c ≠ k) : ((⟨#[c]⟩ : Str) != l) = true := by rw [bne, q_no hl h]; rfl
noncomputable def JQ (ds : List Dat) (x : Str) (post : List Nat) (base : Str → Option Value) : Nat → (Str → Option Value) → List (Addr × Obj) → Prop := fun k m' news => ∃ done rest p j t' D ys nn tls pv, ds = done ++ rest ∧ k = rest.length ∧ x.cps.toList = p ++ (bodyL rest ++ 93 :: post) ∧ j = ((List.length p : Nat) : Int) ∧ m' = mSeq base D (.int j t') pv ∧ news = (D, W.listOf (List.toArray ys) nn) :: tls ∧ DatAll tls ys (done.map plainD) ∧ ∀ q ∈ tls, q.1 ≠ D
theorem jq_step {ds done rest : List Dat} {c' : Dat} {x : Str} {post p' : List Nat} {base m' : Str → Option Value} {h₀ h' : Heap} {L D : Addr} {s : Shared} {Q : Flow → Shared → Prop} {tk nn k : Nat} {news' tl tls : List (Addr × Obj)} {ys : List Value} {v : Int} {t1 : Tok} {r : Value}
    (F : Fr h₀ L h' m') (hm : m' = mSeq base D (.int v t1) (some r)) (N : News h₀ L h' news') (hmem : (D, W.listOf (ys.toArray.push r) (nn + 1)) ∈ news') (hsub : ∀ q ∈ tl ++ tls, q ∈ news') (hne : ∀ q ∈ tl ++ tls, q.1 ≠ D)
    (hdr : ds = done ++ c' :: rest) (hys : DatAll tls ys (done.map plainD)) (hR : DatIn tl r (plainD c')) (hk : k = rest.length + 1) (hx : x.cps.toList = p' ++ (bodyL rest ++ 93 :: post)) (hv : v = (p'.length : Nat)) :
    WhileStep2 h₀ L s (JQ ds x post base) Q k .next { s with heap := h', toks := tk } := by
  rw [hm] at F
  rw [push_S] at hmem
  refine while_next F (fun q hq => ?_) (by omega) ⟨done ++ [c'], rest, p', v, t1, D, ys ++ [r], nn + 1, tl ++ tls, some r, by rw [hdr]; simp, rfl, hx, hv, rfl, rfl, ?_, hne⟩
  · rcases List.mem_cons.mp hq with rfl | hq
    · exact N _ hmem
    · exact N _ (hsub q hq)
  · rw [List.map_append]; exact dat_snoc2 hys hR
theorem mSeq1 (base : Str → Option Value) (D : Addr) (a b : Value) (v1 : Value) (pv : Option Value) : (fun y => if y = Str.ofString "at" then some a else if y = Str.ofString "part" then some v1 else mSeq base D b pv y) = mSeq base D a (some v1) := by
  funext y; unfold mSeq; (repeat' split) <;> first | rfl | contradiction
theorem read_none {n : Nat} : SpecRead n .none := by
  intro w dp un h gs dr tk os Q E mean mg mb x pre post i t u O hx hp hi hz hn hd hu ret
  generalize hs : (⟨h, gs, dr, tk, os⟩ : Shared) = s
  obtain ⟨rfl, rfl, rfl, rfl, rfl⟩ : h = s.heap ∧ gs = s.gens ∧ dr = s.drawn ∧ tk = s.toks ∧ os = s.os := by subst hs; exact ⟨rfl, rfl, rfl, rfl, rfl⟩
  clear hs
  subst hi
  obtain ⟨X, T⟩ := O
  refine enter [("text", .str x t), ("at", .int (pre.length : Nat) u)] s.heap (Ext.refl _) rfl X T.nolimit (by k_is) (by k_is) (by omega) (BindsTo.of_eq rfl) (locs rfl) (fun L h₁ F k hL => ?_)
  have N : News s.heap L h₁ [] := News.nil
  have e1 := none_yes (r := post) hx
  (repeat' (first | ((fail_if_success (with_reducible show wpAny _ _ (eval (Expr.ListComp _ _ _ _) _) _ _ _)); (fail_if_success (with_reducible show wpAny _ _ (exec (Stmt.For _ _ _ _ _) _) _ _ _)); (fail_if_success (with_reducible show wpAny _ _ (exec (Stmt.While _ _ _ _) _) _ _ _)); (fail_if_success (with_reducible show Exists _)); (fail_if_success (with_reducible show LCg.CompEnd _ _ _ _ _ _ _ _ _ _ _ _ _ _)); (fail_if_success (with_reducible show ForEnd _ _ _ _ _ _ _ _)); (fail_if_success (with_reducible show wpAny _ _ (exec (Stmt.Assign _ (Expr.ListComp _ _ _ _) _) _) _ _ _)); (fail_if_success (with_reducible show LCg.CompSrc _ _ _ _ _ _ _ _ _ _ _ _ _ _)); first | with_reducible (((with_reducible show wpAny _ _ (call (Value.builtin _) [Value.ref _, _]) _ _ _); refine append_K (by assumption) (by assumption) (Upd.head (by assumption)) ?_ (by assumption); intro zqh' zqF' zqN')) | with_reducible ((with_reducible show wpAny _ _ (subscriptTail (Expr.Name _ _) (Expr.BinOp _ _ _ _) (Value.str _ _) (Value.int _ _)) _ _ _); (refine item_rd (by assumption) (by assumption) ?_)) | with_reducible ((with_reducible show wpAny _ _ (subscriptTail (Expr.Name _ _) (Expr.Name _ _) (Value.str _ _) (Value.int _ _)) _ _ _); (refine item_rd (by assumption) (by assumption) ?_)) | walk1 | (dsimp only; walk1))))
  rename News _ _ _ _ => N8
  rename Fr _ _ _ _ => F8
  dsimp only [Ret]
  exact ret _ _ _ _ [] _ F8.keep (fresh_of N8) .none
theorem read_seq {ds : List Dat} {d : Dat} {n : Nat} (ih : ∀ d, okD n d → SpecRead n d) (hlen : ds.length ≤ 3) (hok : okDs n ds) (hd : showL d = [91] ++ bodyL ds ++ [93]) (hpd : plainD d = .tuple (plainDs ds)) : SpecRead (n + 1) d := by
  intro w dp un h gs dr tk os Q E mean mg mb x pre post i t u O hx hp hi hz hn hd' hu ret
  generalize hs : (⟨h, gs, dr, tk, os⟩ : Shared) = s
  obtain ⟨rfl, rfl, rfl, rfl, rfl⟩ : h = s.heap ∧ gs = s.gens ∧ dr = s.drawn ∧ tk = s.toks ∧ os = s.os := by subst hs; exact ⟨rfl, rfl, rfl, rfl, rfl⟩
  clear hs
  subst hi
  obtain ⟨X, T⟩ := O
  refine enter [("text", .str x t), ("at", .int (pre.length : Nat) u)] s.heap (Ext.refl _) rfl X T.nolimit (by k_is) (by k_is) (by omega) (BindsTo.of_eq rfl) (locs rfl) (fun L h₁ F k hL => ?_)
  have N : News s.heap L h₁ [] := News.nil
  have hlx : x.cps.toList.length = x.length := Array.length_toList
  have hx : x.cps.toList = pre ++ 91 :: (bodyL ds ++ 93 :: post) := by rw [hx, hd]; simp
  have ret' : ∀ h' tk' r v tl t' j, j = ((pre.length + (bodyL ds).length + 2 : Nat) : Int) → Ext s.heap h' → Fresh s.heap h' ((r, { cls := .type "tuple", data := .seq #[v, .int j t'] }) :: tl) → DatIn tl v (.tuple (plainDs ds)) → Q (.ref r) { s with heap := h', toks := tk' } := fun h' tk' r v tl t' j hj k T D => ret h' tk' r v tl t' k (by
    have e : ((pre.length : Nat) : Int) + ((showL d).length : Nat) = j := by rw [hj, hd]; simp only [List.length_append, List.length_cons, List.length_nil]; omega
    rw [e]; exact T) (by rw [hpd]; exact D)
  clear ret
  have e1 := none_no hx (by omega)
  have hr := rd0 hx
  have e2 := q_no (c := 91) lit_q (by decide)
  have e3 := q_yes (c := 91) lit_o rfl
  (repeat' (first | ((fail_if_success (with_reducible show wpAny _ _ (eval (Expr.ListComp _ _ _ _) _) _ _ _)); (fail_if_success (with_reducible show wpAny _ _ (exec (Stmt.For _ _ _ _ _) _) _ _ _)); (fail_if_success (with_reducible show wpAny _ _ (exec (Stmt.While _ _ _ _) _) _ _ _)); (fail_if_success (with_reducible show Exists _)); (fail_if_success (with_reducible show LCg.CompEnd _ _ _ _ _ _ _ _ _ _ _ _ _ _)); (fail_if_success (with_reducible show ForEnd _ _ _ _ _ _ _ _)); (fail_if_success (with_reducible show wpAny _ _ (exec (Stmt.Assign _ (Expr.ListComp _ _ _ _) _) _) _ _ _)); (fail_if_success (with_reducible show LCg.CompSrc _ _ _ _ _ _ _ _ _ _ _ _ _ _)); first | with_reducible (((with_reducible show wpAny _ _ (call (Value.builtin _) [Value.ref _, _]) _ _ _); refine append_K (by assumption) (by assumption) (Upd.head (by assumption)) ?_ (by assumption); intro zqh' zqF' zqN')) | with_reducible ((with_reducible show wpAny _ _ (subscriptTail (Expr.Name _ _) (Expr.BinOp _ _ _ _) (Value.str _ _) (Value.int _ _)) _ _ _); (refine item_rd (by assumption) (by assumption) ?_)) | with_reducible ((with_reducible show wpAny _ _ (subscriptTail (Expr.Name _ _) (Expr.Name _ _) (Value.str _ _) (Value.int _ _)) _ _ _); (refine item_rd (by assumption) (by assumption) ?_)) | walk1 | (dsimp only; walk1))))
  rename Fr _ _ _ _ => F1
  rename News _ _ _ _ => N1
  rw [mSeq0] at F1
  refine While_inv2 (h₀ := s.heap) (L := L) (n₀ := ds.length) (JQ ds x post (fun y => List.lookup y [(Str.ofString "text", Value.str x t), (Str.ofString "at", Value.int (pre.length : Nat) u)].reverse)) F1 N1 ⟨[], ds, pre ++ [91], _, _, _, [], 0, [], none, rfl, rfl, by rw [hx]; simp, ?_, rfl, rfl, .nil, List.forall_mem_nil _⟩ ?_
  · rw [List.length_append]; rfl
  clear F1 N1
  rintro k m₁ news₁ h9 tk9 F9 N9 ⟨done, rest, p, j, t', D, ys, nn, tls, pv, hdr, rfl, hx2, rfl, rfl, rfl, hys, htl⟩
  dsimp only
  have hdl : done.length ≤ 3 := by
    have h2 := congrArg List.length hdr
    rw [List.length_append] at h2; omega
  have hyn : ys.length = done.length := by have := hys.length; rw [List.length_map] at this; exact this
  have hyl : ys.toArray.size ≤ sizeLine := by rw [PySem.sizeLine_eq, List.size_toArray]; omega
  cases rest with
  | nil =>
    have hx3 : x.cps.toList = p ++ 93 :: post := by rw [hx2]; rfl
    have hr2 := rd0 hx3
    have f0 := q_yes (c := 93) lit_c rfl
    (repeat' (first | ((fail_if_success (with_reducible show wpAny _ _ (eval (Expr.ListComp _ _ _ _) _) _ _ _)); (fail_if_success (with_reducible show wpAny _ _ (exec (Stmt.For _ _ _ _ _) _) _ _ _)); (fail_if_success (with_reducible show wpAny _ _ (exec (Stmt.While _ _ _ _) _) _ _ _)); (fail_if_success (with_reducible show Exists _)); (fail_if_success (with_reducible show LCg.CompEnd _ _ _ _ _ _ _ _ _ _ _ _ _ _)); (fail_if_success (with_reducible show ForEnd _ _ _ _ _ _ _ _)); (fail_if_success (with_reducible show wpAny _ _ (exec (Stmt.Assign _ (Expr.ListComp _ _ _ _) _) _) _ _ _)); (fail_if_success (with_reducible show LCg.CompSrc _ _ _ _ _ _ _ _ _ _ _ _ _ _)); first | with_reducible (((with_reducible show wpAny _ _ (call (Value.builtin _) [Value.ref _, _]) _ _ _); refine append_K (by assumption) (by assumption) (Upd.head (by assumption)) ?_ (by assumption); intro zqh' zqF' zqN')) | with_reducible ((with_reducible show wpAny _ _ (subscriptTail (Expr.Name _ _) (Expr.BinOp _ _ _ _) (Value.str _ _) (Value.int _ _)) _ _ _); (refine item_rd (by assumption) (by assumption) ?_)) | with_reducible ((with_reducible show wpAny _ _ (subscriptTail (Expr.Name _ _) (Expr.Name _ _) (Value.str _ _) (Value.int _ _)) _ _ _); (refine item_rd (by assumption) (by assumption) ?_)) | walk1 | (dsimp only; walk1))))
    rename News _ _ _ _ => N8
    rename Fr _ _ _ _ => F8
    dsimp only [Ret]
    have q1 := congrArg List.length hx
    have q2 := congrArg List.length hx3
    simp only [List.length_append, List.length_cons] at q1 q2
    rw [List.append_nil] at hdr
    refine ret' _ _ _ _ _ _ _ ?_ F8.keep (fresh_of N8) (.tuple (.head _) ?_)
    · omega
    · rw [plainDs_eq, hdr]; exact hys.mono fun q hq => .tail _ (.tail _ hq)
  | cons c' rest =>
    have hokc : okD n c' := okDs_mem hok c' (by rw [hdr]; simp)
    obtain ⟨c, l, hb, hc93⟩ := body_head (r := rest) hokc
    have hx3 : x.cps.toList = p ++ c :: (l ++ 93 :: post) := by rw [hx2, hb]; rfl
    have hr2 := rd0 hx3
    have f0 := q_no (c := c) lit_c hc93
    have g0 := n_yes' (c := c) lit_c hc93
    have hq : ∃ q, x.cps.toList = p ++ (showL c' ++ q) ∧ stops q ∧ (rest = [] ∧ q = 93 :: post ∨ ∃ e r, rest = e :: r ∧ q = 44 :: 32 :: (bodyL (e :: r) ++ 93 :: post)) := by
      cases rest with
      | nil => exact ⟨_, by rw [hx2, body_one], .inr ⟨_, _, rfl, .inr rfl⟩, .inl ⟨rfl, rfl⟩⟩
      | cons e r => exact ⟨44 :: 32 :: (bodyL (e :: r) ++ 93 :: post), by rw [hx2, body_more]; simp, .inr ⟨_, _, rfl, .inl rfl⟩, .inr ⟨e, r, rfl, rfl⟩⟩
    obtain ⟨q, hx4, hst, hq⟩ := hq
    (repeat' (first | ((fail_if_success (with_reducible show wpAny _ _ (eval (Expr.ListComp _ _ _ _) _) _ _ _)); (fail_if_success (with_reducible show wpAny _ _ (exec (Stmt.For _ _ _ _ _) _) _ _ _)); (fail_if_success (with_reducible show wpAny _ _ (exec (Stmt.While _ _ _ _) _) _ _ _)); (fail_if_success (with_reducible show Exists _)); (fail_if_success (with_reducible show LCg.CompEnd _ _ _ _ _ _ _ _ _ _ _ _ _ _)); (fail_if_success (with_reducible show ForEnd _ _ _ _ _ _ _ _)); (fail_if_success (with_reducible show wpAny _ _ (exec (Stmt.Assign _ (Expr.ListComp _ _ _ _) _) _) _ _ _)); (fail_if_success (with_reducible show LCg.CompSrc _ _ _ _ _ _ _ _ _ _ _ _ _ _)); first | with_reducible (((with_reducible show wpAny _ _ (call (Value.builtin _) [Value.ref _, _]) _ _ _); refine append_K (by assumption) (by assumption) (Upd.head (by assumption)) ?_ (by assumption); intro zqh' zqF' zqN')) | with_reducible ((with_reducible show wpAny _ _ (subscriptTail (Expr.Name _ _) (Expr.BinOp _ _ _ _) (Value.str _ _) (Value.int _ _)) _ _ _); (refine item_rd (by assumption) (by assumption) ?_)) | with_reducible ((with_reducible show wpAny _ _ (subscriptTail (Expr.Name _ _) (Expr.Name _ _) (Value.str _ _) (Value.int _ _)) _ _ _); (refine item_rd (by assumption) (by assumption) ?_)) | walk1 | (dsimp only; walk1))))
    refine ih c' hokc ⟨X.keeps F9.keep, T.keeps F9.keep⟩ hx4 hst rfl hz (by omega) (by omega) (by omega) (fun h' tk' r v tl t1 e T' D' => ?_)
    have N2 : News s.heap L h' ((D, W.listOf ys.toArray nn) :: (r, { cls := .type "tuple", data := .seq #[v, .int ((p.length : Nat) + ((showL c').length : Nat)) t1] }) :: (tl ++ tls)) := news_sub (news_ext F9 N9 e T') fun q hq => by
      simp only [List.mem_cons, List.mem_append] at hq ⊢; rcases hq with h | h | h | h <;> simp [h]
    have F2 := F9.keeps e
    have hne : ∀ q ∈ ((r, { cls := .type "tuple", data := .seq #[v, .int ((p.length : Nat) + ((showL c').length : Nat)) t1] }) : Addr × Obj) :: (tl ++ tls), q.1 ≠ D := fun q hq w => by
      have hD := (N9 _ (.head _)).1
      have hf : q ∈ (r, { cls := .type "tuple", data := .seq #[v, .int ((p.length : Nat) + ((showL c').length : Nat)) t1] }) :: tl → False := fun hm => by
        have := (T' q hm).2; rw [w, hD] at this; cases this
      rcases List.mem_cons.mp hq with h | h
      · exact hf (h ▸ .head _)
      · rcases List.mem_append.mp h with h | h
        · exact hf (.tail _ h)
        · exact htl q h w
    have hc5 : x.cps.toList = (p ++ showL c') ++ q := by rw [hx4]; simp
    have hpl : (((p ++ showL c').length : Nat) : Int) = (p.length : Nat) + ((showL c').length : Nat) := by rw [List.length_append]; omega
    clear F9 N9
    rcases hq with ⟨hr0, rfl⟩ | ⟨e', r', hr0, rfl⟩
    · have fs := sep_no hc5 (by decide)
      rw [hpl] at fs
      (repeat' (first | ((fail_if_success (with_reducible show wpAny _ _ (eval (Expr.ListComp _ _ _ _) _) _ _ _)); (fail_if_success (with_reducible show wpAny _ _ (exec (Stmt.For _ _ _ _ _) _) _ _ _)); (fail_if_success (with_reducible show wpAny _ _ (exec (Stmt.While _ _ _ _) _) _ _ _)); (fail_if_success (with_reducible show Exists _)); (fail_if_success (with_reducible show LCg.CompEnd _ _ _ _ _ _ _ _ _ _ _ _ _ _)); (fail_if_success (with_reducible show ForEnd _ _ _ _ _ _ _ _)); (fail_if_success (with_reducible show wpAny _ _ (exec (Stmt.Assign _ (Expr.ListComp _ _ _ _) _) _) _ _ _)); (fail_if_success (with_reducible show LCg.CompSrc _ _ _ _ _ _ _ _ _ _ _ _ _ _)); first | with_reducible (((with_reducible show wpAny _ _ (call (Value.builtin _) [Value.ref _, _]) _ _ _); refine append_K (by assumption) (by assumption) (Upd.head (by assumption)) ?_ (by assumption); intro zqh' zqF' zqN')) | with_reducible ((with_reducible show wpAny _ _ (subscriptTail (Expr.Name _ _) (Expr.BinOp _ _ _ _) (Value.str _ _) (Value.int _ _)) _ _ _); (refine item_rd (by assumption) (by assumption) ?_)) | with_reducible ((with_reducible show wpAny _ _ (subscriptTail (Expr.Name _ _) (Expr.Name _ _) (Value.str _ _) (Value.int _ _)) _ _ _); (refine item_rd (by assumption) (by assumption) ?_)) | walk1 | (dsimp only; walk1))))
      rename News _ _ _ _ => N8
      rename Fr _ _ _ _ => F8
      exact jq_step F8 (by funext y; unfold mSeq; (repeat' split) <;> first | rfl | contradiction) N8 (.head _) (fun q hq => .tail _ (.tail _ hq)) (fun q hq => hne q (.tail _ hq)) hdr hys D' rfl (by rw [hr0]; exact hc5) (by rw [List.length_append]; omega)
    · have fs := sep_yes hc5
      rw [hpl] at fs
      (repeat' (first | ((fail_if_success (with_reducible show wpAny _ _ (eval (Expr.ListComp _ _ _ _) _) _ _ _)); (fail_if_success (with_reducible show wpAny _ _ (exec (Stmt.For _ _ _ _ _) _) _ _ _)); (fail_if_success (with_reducible show wpAny _ _ (exec (Stmt.While _ _ _ _) _) _ _ _)); (fail_if_success (with_reducible show Exists _)); (fail_if_success (with_reducible show LCg.CompEnd _ _ _ _ _ _ _ _ _ _ _ _ _ _)); (fail_if_success (with_reducible show ForEnd _ _ _ _ _ _ _ _)); (fail_if_success (with_reducible show wpAny _ _ (exec (Stmt.Assign _ (Expr.ListComp _ _ _ _) _) _) _ _ _)); (fail_if_success (with_reducible show LCg.CompSrc _ _ _ _ _ _ _ _ _ _ _ _ _ _)); first | with_reducible (((with_reducible show wpAny _ _ (call (Value.builtin _) [Value.ref _, _]) _ _ _); refine append_K (by assumption) (by assumption) (Upd.head (by assumption)) ?_ (by assumption); intro zqh' zqF' zqN')) | with_reducible ((with_reducible show wpAny _ _ (subscriptTail (Expr.Name _ _) (Expr.BinOp _ _ _ _) (Value.str _ _) (Value.int _ _)) _ _ _); (refine item_rd (by assumption) (by assumption) ?_)) | with_reducible ((with_reducible show wpAny _ _ (subscriptTail (Expr.Name _ _) (Expr.Name _ _) (Value.str _ _) (Value.int _ _)) _ _ _); (refine item_rd (by assumption) (by assumption) ?_)) | walk1 | (dsimp only; walk1))))
      rename News _ _ _ _ => N8
      rename Fr _ _ _ _ => F8
      exact jq_step (p' := p ++ showL c' ++ [44, 32]) F8 (by funext y; unfold mSeq; (repeat' split) <;> first | rfl | contradiction) N8 (.head _) (fun q hq => .tail _ (.tail _ hq)) (fun q hq => hne q (.tail _ hq)) hdr hys D' rfl (by rw [hr0, hc5]; simp) (by simp only [List.length_append, List.length_cons, List.length_nil]; omega)
theorem readV : ∀ (n : Nat) (d : Dat), okD n d → SpecRead n d := by
  intro n
  induction n with
  | zero =>
    intro d h
    cases d with
    | none => exact read_none
    | int i => exact read_int h
    | str z => exact read_str h
    | bool b => exact absurd h id
    | bytes b => exact absurd h id
    | tuple ds => exact absurd h id
    | list ds => exact absurd h id
  | succ n ih =>
    intro d h
    cases d with
    | none => exact read_none
    | int i => exact read_int h
    | str z => exact read_str h
    | bool b => exact absurd h id
    | bytes b => exact absurd h id
    | tuple ds => exact read_seq ih h.1 h.2 rfl (by rw [plainD])
    | list ds => exact read_seq ih h.1 h.2 rfl (by rw [plainD])
theorem fm6 (x : Int) : 0 ≤ x.fmod 6 ∧ x.fmod 6 < 6 := ⟨Int.fmod_nonneg_of_pos x (by decide), Int.fmod_lt_of_pos x (by decide)⟩
theorem fresh_ne {g h h' : Heap} {L bx : Addr} {o : Obj} {news tl : List (Addr × Obj)} (N : News g L h news) (hm : (bx, o) ∈ news) (T : Fresh h h' tl) : ∀ p ∈ tl, p.1 ≠ bx := fun p hp q => by
  have h1 := (T p hp).2; rw [q, (N _ hm).1] at h1; cases h1
noncomputable def mF (m0 : Str → Option Value) (kv av dv : Value) (lv cv : Option Value) : Str → Option Value := fun y => if y = Str.ofString "due" then some dv else if y = Str.ofString "place" then some av else if y = Str.ofString "column" then cv else if y = Str.ofString "line" then lv else if y = Str.ofString "kind" then some kv else m0 y
theorem mF0 {m0 : Str → Option Value} (kv av dv : Value) (h1 : m0 (Str.ofString "line") = none) (h2 : m0 (Str.ofString "column") = none) : (fun y => if y = Str.ofString "due" then some dv else if y = Str.ofString "place" then some av else if y = Str.ofString "kind" then some kv else m0 y) = mF m0 kv av dv none none := by
  funext y; unfold mF
  by_cases e1 : y = Str.ofString "column"
  · subst e1; exact h2
  · by_cases e2 : y = Str.ofString "line"
    · subst e2; exact h1
    · rw [if_neg e1, if_neg e2]
theorem mF1 {m0 : Str → Option Value} (kv av dv d1 a1 c1 l1 : Value) (lv cv : Option Value) : (fun y => if y = Str.ofString "due" then some d1 else if y = Str.ofString "place" then some a1 else if y = Str.ofString "column" then some c1 else if y = Str.ofString "line" then some l1 else mF m0 kv av dv lv cv y) = mF m0 kv a1 d1 (some l1) (some c1) := by
  funext y; unfold mF; (repeat' split) <;> first | rfl | contradiction
noncomputable def posOk : Option (Int × Int) → Prop
  | none => True
  | some (b, c) => b.natAbs < 10 ^ 24 ∧ c.natAbs < 10 ^ 24
theorem place_len {pos : Option (Int × Int)} (h : posOk pos) : (placeS pos).length ≤ 60 := by
  cases pos with
  | none => decide +kernel
  | some p =>
    obtain ⟨b, c⟩ := p
    have h1 := int_text_len h.1
    have h2 := int_text_len h.2
    show (Str.ofString (toString b) ++ Str.ofString "." ++ Str.ofString (toString c)).length ≤ 60
    rw [Array.length_toList] at h1 h2
    have e1 := size_cat (Str.ofString (toString b)) (Str.ofString ".")
    have e2 := size_cat (Str.ofString (toString b) ++ Str.ofString ".") (Str.ofString (toString c))
    have e3 : (Str.ofString ".").length = 1 := by decide +kernel
    rw [e2, e1, e3]
    show (Str.ofString (toString b)).cps.size + 1 + (Str.ofString (toString c)).cps.size ≤ 60
    omega
noncomputable def JF (w : World) (s : Shared) (G : Heap) (L bx c : Addr) (oc : Obj) (n : Nat) (m0 : Str → Option Value) (kv : Value) : Flow → Shared → Prop := fun f s' => f = .next ∧ ∃ (pos : Option (Int × Int)) (h' : Heap) (tk' : Nat) (o' : Obj) (n' : Nat) (tlp : List (Addr × Obj)) (av : Value) (t1 : Tok) (lv cv : Option Value) (d : Str),
  s' = { s with heap := h', toks := tk' } ∧ Fr G L h' (mF m0 kv av (.str d t1) lv cv) ∧ d = placeS pos ∧ News G L h' ((bx, o') :: (L + 1, oc) :: tlp) ∧ BoxO c n' o' ∧ n' ≤ n + 5 ∧ PlaceAt w tlp av pos ∧ posOk pos ∧ ∀ p ∈ tlp, p.1 ≠ bx
theorem news_drop_2nd {g h : Heap} {L : Addr} {p q : Addr × Obj} {news : List (Addr × Obj)} (N : News g L h (p :: q :: news)) : News g L h (p :: news) := news_drop2 N
noncomputable def kindT (k : Str) : Str := if k = Str.ofString "$end" then Str.ofString "end of text" else Str.ofString "token " ++ k
theorem kindT_end {k : Str} (h : (k == Str.ofString "$end") = true) : kindT k = Str.ofString "end of text" := if_pos (eq_of_beq h)
theorem kindT_tok {k : Str} (h : (k == Str.ofString "$end") = false) : kindT k = Str.ofString "token " ++ k := if_neg (ne_of_beqF h)
theorem kindT_len {k : Str} (h : k.length ≤ 5) : (kindT k).length ≤ 12 := by
  unfold kindT; split
  · decide +kernel
  · rw [size_cat, show (Str.ofString "token ").length = 6 by decide +kernel]; omega
noncomputable def JD (s : Shared) (G : Heap) (L D : Addr) (oc oD : Obj) (tlp : List (Addr × Obj)) (m1 : Str → Option Value) (d : Str) : Flow → Shared → Prop := fun f s' => f = .next ∧ ∃ (h' : Heap) (tk' : Nat) (t' : Tok),
  s' = { s with heap := h', toks := tk' } ∧ Fr G L h' (fun y => if y = Str.ofString "due" then some (.str d t') else if y = Str.ofString "names" then some (.ref D) else m1 y) ∧ News G L h' ((D, oD) :: (L + 1, oc) :: tlp)
theorem any_yes {zs : List Str} (h : 1 ≤ zs.length ∧ zs.length ≤ 4) : ([1, 2, 3, 4].any fun x : Int => x == (zs.length : Nat)) = true := by
  simp only [List.any_cons, List.any_nil, Bool.or_eq_true, beq_iff_eq, Bool.or_false]; omega
theorem any_no {zs : List Str} (h : ¬ (1 ≤ zs.length ∧ zs.length ≤ 4)) : ([1, 2, 3, 4].any fun x : Int => x == (zs.length : Nat)) = false := by
  simp only [List.any_cons, List.any_nil, Bool.or_eq_false_iff, beq_eq_false_iff_ne, Bool.or_false]; omega
theorem join_or {zs : List Str} (h : 1 ≤ zs.length) : Txt.join (Str.ofString " or ") zs = zs.getD (Int.toNat 0) Str.empty ++ Txt.join (Str.ofString "") ((zs.drop 1).map fun z => Str.ofString " or " ++ z) := by
  cases zs with
  | nil => exact absurd h (by decide)
  | cons z r =>
    have e0 : ∀ z : Str, Str.ofString " or " ++ z = S ([32, 111, 114, 32] ++ z.cps.toList) := fun z => by
      conv => lhs; rw [str_S z, show Str.ofString " or " = S [32, 111, 114, 32] by decide +kernel]
      rw [app_S]
    have e1 : ((z :: r).drop 1).map (fun z => Str.ofString " or " ++ z) = ((r.map (·.cps.toList)).map fun p => [32, 111, 114, 32] ++ p).map S := by
      rw [List.map_map, List.map_map]
      exact List.map_congr_left fun z _ => e0 z
    rw [or_S, e1, show Str.ofString "" = S [] by decide +kernel, join_S, joinL_nil, List.map_cons, joinL]
    show _ = z ++ _
    conv => rhs; rw [str_S z]
    rw [app_S, List.flatMap]
theorem faultS_yes {pos : Option (Int × Int)} {k dd : Str} {zs : List Str} (h : 1 ≤ zs.length ∧ zs.length ≤ 4) (hd : dd = placeS pos) : dd ++ Str.ofString ": syntax error, unexpected " ++ kindT k ++ Str.ofString ", expecting " ++ zs.getD (Int.toNat 0) Str.empty ++ Txt.join (Str.ofString "") ((zs.drop 1).map fun z => Str.ofString " or " ++ z) = faultS pos k zs := by
  rw [hd, faultS, if_pos ⟨by omega, h.2⟩, join_or h.1, Str.append_assoc]; rfl
theorem faultS_no {pos : Option (Int × Int)} {k dd : Str} {zs : List Str} (h : ¬ (1 ≤ zs.length ∧ zs.length ≤ 4)) (hd : dd = placeS pos) : dd ++ Str.ofString ": syntax error, unexpected " ++ kindT k = faultS pos k zs := by
  rw [hd, faultS, if_neg (fun q => h ⟨by omega, q.2⟩)]; rfl
section
open LCg
variable {prog : Program} {w : World} {A : Around} {E : Value → Shared → Prop} {s : Shared} {h₀ : Heap} {L : Addr} {m : Str → Option Value} {env : Env}
theorem rest_invS {elt : Expr} {x : Str} {scope : Scope} {cl : List (Str × Addr)} {P : Nat → Value → Prop} {Fin : List Value → List (Addr × Obj) → Prop} {n : Nat} {SS : List (Addr × Obj) → Prop}
    (J : Nat → List Value → List (Addr × Obj) → Prop)
    (turn : ∀ i v ys news I oI C oC D m₂ h tk (E' : Value → Shared → Prop), i < n → P i v → J i ys news → NsObj oC m₂ → m₂ x = some v → Fr h₀ L h m →
      News h₀ L h ((I, oI) :: (C, oC) :: (D, lst ys) :: news) → Off3 I C D news → ((@Ne Nat I C) ∧ (@Ne Nat I D) ∧ (@Ne Nat C D)) →
      wpAny (model prog w) A (eval elt (compEnvC scope cl C env)) (CompEnd h₀ L m { s with heap := h, toks := tk } I oI C oC D (lst ys) SS (fun y news' => J (i + 1) (ys ++ [y]) news')) E' { s with heap := h, toks := tk })
    (fin : ∀ ys news, J n ys news → Fin ys news) : ∀ (k i : Nat) (ys : List Value) (news : List (Addr × Obj)), i + k = n → J i ys news →
      CompRest prog w A h₀ L m env elt x scope cl s SS P Fin k i ys news := by
  intro k
  induction k with
  | zero => intro i ys news hi hJ; obtain rfl : i = n := by omega
            exact CompRest.zero (fin _ _ hJ)
  | succ k ih =>
    intro i ys news hi hJ
    refine CompRest.succ fun v I oI C oC D m₂ h tk E' hv hC hx F N off ne => ?_
    refine wpAny_mono (turn i v ys news I oI C oC D m₂ h tk E' (by omega) hv hJ hC hx F N off ne) (fun y s₂ hq => ?_) fun _ _ e => e
    obtain ⟨h', tk', nw, e, F', N', off', hS, hJ'⟩ := hq
    exact ⟨h', tk', nw, e, F', N', off', hS, ih (i + 1) _ _ (by omega) hJ'⟩
end
theorem or_tail_len {zs : List Str} (h1 : 1 ≤ zs.length) (hz : zs.length ≤ 100) (h : ∀ z ∈ zs, PySem.Str.length z ≤ 5) : (Txt.join (Str.ofString "") ((zs.drop 1).map fun z => Str.ofString " or " ++ z)).length ≤ 1000 := by
  have := or_len hz h
  rw [join_or h1, size_cat] at this
  omega
theorem or_tail_ok {zs : List Str} (hz : zs.length ≤ 100) (h : ∀ z ∈ zs, PySem.Str.length z ≤ 5) : ((((zs.drop 1).map fun z => Str.ofString " or " ++ z)).map (·.length)).sum + ((zs.drop 1).map fun z => Str.ofString " or " ++ z).length * (Str.ofString "").length ≤ 16777216 := by
  have key : ∀ l : List Str, (∀ z ∈ l, PySem.Str.length z ≤ 5) → ((l.map fun z => Str.ofString " or " ++ z).map (·.length)).sum ≤ l.length * 9 := by
    intro l
    induction l with
    | nil => intro _; simp
    | cons a r ih =>
      intro h
      have h1 := h a (.head _)
      have h2 := ih (fun z hz => h z (.tail _ hz))
      have h3 : (Str.ofString " or ").length = 4 := by decide +kernel
      rw [List.map_cons, List.map_cons, List.sum_cons, List.length_cons, size_cat, h3]
      omega
  have h1 := key (zs.drop 1) fun z hz' => h z (List.mem_of_mem_drop hz')
  rw [show (Str.ofString "").length = 0 from rfl, Nat.mul_zero]
  rw [List.length_drop] at h1
  omega
theorem dup_due (a b : Option Value) (c : Str → Option Value) : (fun y => if y = Str.ofString "due" then a else if y = Str.ofString "due" then b else c y) = fun y => if y = Str.ofString "due" then a else c y := by
  funext y; split <;> rfl
theorem PosAt.mono {w : World} {tl tl' : List (Addr × Obj)} {x b c} (h : PosAt w tl x b c) (k' : ∀ p ∈ tl, p ∈ tl') : PosAt w tl' x b c := by
  obtain ⟨dx, t1, t2, t3, a, ta, tb, tc, v1, v2⟩ := h; exact ⟨dx, t1, t2, t3, a, ta, tb, tc, k' _ v1, k' _ v2⟩
theorem PlaceAt.mono {w : World} {tl tl' : List (Addr × Obj)} {a : Value} : ∀ {pos}, PlaceAt w tl a pos → (∀ p ∈ tl, p ∈ tl') → PlaceAt w tl' a pos
  | none, h, _ => h
  | some (b, c), ⟨p, e, h⟩, k' => ⟨p, e, h.mono k'⟩
theorem FaultAt.mono {w : World} {tl tl' : List (Addr × Obj)} {y x l} (h : FaultAt w tl y x l) (k' : ∀ p ∈ tl, p ∈ tl') : FaultAt w tl' y x l := by
  obtain ⟨dx, t1, t2, t3, t4, t5, t6, v1, v2⟩ := h; exact ⟨dx, t1, t2, t3, t4, t5, t6, k' _ v1, k' _ v2⟩
theorem showFaultP {w : World} {dp un : Nat} {h : Heap} {gs : Array GenState} {dr : Drawn} {tk : Nat} {os : OsState} {Q E : Value → Shared → Prop} {mean mg mb} {H : Heap} {tl₀ : List (Addr × Obj)} {k t : Str} {x y l : Addr} {at' : Value} {items : List Value} {zs : List Str} {c0 : Nat} {pos : Option (Int × Int)} (O : Ok w H mean mg mb) (st : Ext H h) (T₀ : Fresh H h tl₀) (V : FaultAt w tl₀ y x l) (V' : TokAt w tl₀ x k t at') (hp : PlaceAt w tl₀ at' pos) (hl : (l, W.listOf items.toArray c0) ∈ tl₀) (hz : items.length ≤ 100) (hi : StrsAre items zs) (hk : k.length ≤ 5) (hzs : ∀ z ∈ zs, PySem.Str.length z ≤ 5) (hpos : posOk pos) (hd : dp + 5 < recursionLimit)
  (ret : ∀ h' tk' t', Ext h h' → Q (.str (faultS pos k zs) t') ⟨h', gs, dr, tk', os⟩) :
  wpAny (model PR w) (AA dp un) (call (.ref 236) [.ref y]) Q E ⟨h, gs, dr, tk, os⟩ := by
  cases pos with
  | none => exact showFault0 O st T₀ V V' hp hl hz hi hk hzs hd ret
  | some p => obtain ⟨b, c⟩ := p; exact showFault1 O st T₀ V V' hp hl hz hi hk hzs hpos.1 hpos.2 hd ret
theorem lawFault {w : World} {dp un : Nat} {h : Heap} {gs : Array GenState} {dr : Drawn} {tk : Nat} {os : OsState} {Q E : Value → Shared → Prop} {mean mg mb} {H : Heap} {bx c : Addr} {vs : List Value} {ns : List Int} {n : Nat} (O : Ok w H mean mg mb) (Y : Bx H bx c vs ns) (B : BoxAt H h bx c n)
  (hd : dp + 10 < recursionLimit) (hn : n ≤ 60000)
  (ret : ∀ h' tk', ExtB bx h h' → Q (.bool true) ⟨h', gs, dr, tk', os⟩) :
  wpAny (model PR w) (AA dp un) (call (.ref 354) [.ref bx]) Q E ⟨h, gs, dr, tk, os⟩ := by
  generalize hs : (⟨h, gs, dr, tk, os⟩ : Shared) = s
  obtain ⟨rfl, rfl, rfl, rfl, rfl⟩ : h = s.heap ∧ gs = s.gens ∧ dr = s.drawn ∧ tk = s.toks ∧ os = s.os := by subst hs; exact ⟨rfl, rfl, rfl, rfl, rfl⟩
  clear hs
  have st := ext_hide B.st Y.nb
  obtain ⟨X, T⟩ := O.keeps st
  refine enterC [("box", .ref bx)] (s.heap.hide bx) (hide_ext (Ext.refl _)) (Heap.hide_size _ _) (X.keeps (hide_ext (Ext.refl _))) (T.keeps (hide_ext (Ext.refl _))).nolimit (by k_is) (by k_is) (by omega) (BindsTo.of_eq rfl) (by rfl) (by decide +kernel) (fun L h₁ tk cells F k hL Y' N => ?_)
  obtain ⟨oc, rfl, d1⟩ := CellsAre.one (n := Str.ofString "box") (c := L + 1) Y'
  clear Y'
  have d1 : oc.data = .cell (some (.ref bx)) := d1
  obtain ⟨o, N, hb, hne⟩ := box_inC B F k hL N
  clear k
  obtain ⟨m0, hm1, hm2, F⟩ : ∃ m0, m0 (Str.ofString "line") = none ∧ m0 (Str.ofString "column") = none ∧ Fr (s.heap.hide bx) L h₁ m0 := ⟨_, by rfl, by rfl, F⟩
  generalize hG : s.heap.hide bx = G at *
  (repeat' (first | ((fail_if_success (with_reducible show wpAny _ _ (eval (Expr.ListComp _ _ _ _) _) _ _ _)); (fail_if_success (with_reducible show wpAny _ _ (exec (Stmt.For _ _ _ _ _) _) _ _ _)); (fail_if_success (with_reducible show wpAny _ _ (exec (Stmt.While _ _ _ _) _) _ _ _)); (fail_if_success (with_reducible show Exists _)); (fail_if_success (with_reducible show LCg.CompEnd _ _ _ _ _ _ _ _ _ _ _ _ _ _)); (fail_if_success (with_reducible show ForEnd _ _ _ _ _ _ _ _)); (fail_if_success (with_reducible show wpAny _ _ (exec (Stmt.Assign _ (Expr.ListComp _ _ _ _) _) _) _ _ _)); (fail_if_success (with_reducible show LCg.CompSrc _ _ _ _ _ _ _ _ _ _ _ _ _ _)); first | with_reducible ((with_reducible show wpAny _ _ (subscriptTail (Expr.Name _ _) (Expr.Constant _ _ _) (Value.ref _) (Value.int _ _)) _ _ _); k_dflt (refine item_strsA (News.isList (by assumption) (.tail _ (.head _))) (by assumption) (by decide) (by assumption) (by decide) ?_)) | with_reducible (((with_reducible show wpAny _ _ (call (Value.builtin "len") [Value.ref _]) _ _ _); k_dflt (refine len_strsA (News.isList (by assumption) (.head _)) (by assumption) (by omega) ?_))) | with_reducible (((with_reducible show wpAny _ _ (call (Value.type "str") [Value.int _ _]) _ _ _); refine PySem.P.str_of_int (log_small (by omega)) ?_)) | with_reducible (((with_reducible show wpAny _ _ (subscriptTail _ _ (Value.ref _) (Value.int _ _)) _ _ _); k_dflt (refine pick_str (fun x => x.length ≤ 5) (by first | exact News.isList (by assumption) (.tail _ (.head _)) | exact lstK (Frag.In.keeps (by assumption) (Fr.keep (by assumption))) (by k_is)) (by first | assumption | exact (fm6 _).1) (by first | assumption | (simp only [List.length_cons, List.length_nil]; first | omega | exact (fm6 _).2)) (by simp only [List.length_cons, List.length_nil]; omega) (by (repeat' (first | exact List.forall_mem_nil _ | refine List.forall_mem_cons.mpr ⟨⟨_, _, rfl, ?_⟩, ?_⟩)) <;> ((try dsimp only); first | decide +kernel | omega)) ?_); intro zqx9 zqt9 zqhx9; (try dsimp only at zqhx9))) | walk1 | (((with_reducible show wpAny _ _ (call (Value.ref 45) [Value.int _ _, Value.int _ _, Value.int _ _]) _ _ _); refine mkPos ⟨Frag.In.keeps (by assumption) (Fr.keep (by assumption)), Top.keeps (by assumption) (Fr.keep (by assumption))⟩ _ _ _ _ _ _ (by omega) ?_; intro zqh9 zqtk9 zqx9 zqtl9 zqe9 zqT9 zqV9; (have zqM9 := fresh_ne (by assumption) (.head _) zqT9); obtain ⟨zqF9, zqN9⟩ := both_ext (by assumption) (by assumption) zqe9 zqT9; (try simp only [List.cons_append, List.nil_append] at zqN9); k_sweep)) | (((with_reducible show wpAny _ _ (call (Value.ref 284) [_, Value.int _ _]) _ _ _); refine draw' (by assumption) (by assumption) (box_at (by assumption) (by assumption) (by assumption) (.tail _ (.head _)) (by assumption)) (by omega) (by omega) _ _ (by first | decide | omega) (by first | decide | omega) ?_; intro zqh9 zqtk9 zqr9 zqt9 zqe9 zqB9 zqhr9 zqhq9; obtain ⟨zqF9, zqo9, zqN9, zqb9, zqm9⟩ := box_back2 (by assumption) (by assumption) (by first | assumption | (refine Nat.ne_of_gt ?_; dsimp only; omega)) (by first | assumption | exact List.forall_mem_nil _) zqe9 zqB9; clear zqe9 zqB9; (try k_sweep))) | (((with_reducible show wpAny _ _ (call (Value.ref 298) [_]) _ _ _); refine text' (by assumption) (by assumption) (box_at (by assumption) (by assumption) (by assumption) (.head _) (by assumption)) (by omega) (by omega) ?_; intro zqh9 zqtk9 zqx9 zqt9 zqn9 zqe9 zqB9 zqhn9 zqhx9 zqhc9; (have zqhx8 : PySem.Str.length zqx9 ≤ 4 := zqhx9); obtain ⟨zqF9, zqo9, zqN9, zqb9⟩ := box_back (by assumption) (by assumption) (by first | assumption | exact List.forall_mem_nil _) zqe9 zqB9; clear zqe9 zqB9; (try k_sweep))) | (((with_reducible show wpAny _ _ (call (Value.ref 284) [_, Value.int _ _]) _ _ _); refine draw' (by assumption) (by assumption) (box_at (by assumption) (by assumption) (by assumption) (.head _) (by assumption)) (by omega) (by omega) _ _ (by first | decide | omega) (by first | decide | omega) ?_; intro zqh9 zqtk9 zqr9 zqt9 zqe9 zqB9 zqhr9 zqhq9; obtain ⟨zqF9, zqo9, zqN9, zqb9⟩ := box_back (by assumption) (by assumption) (by first | assumption | exact List.forall_mem_nil _) zqe9 zqB9; clear zqe9 zqB9; (try k_sweep))) | (dsimp only; walk1))))
  rename News _ _ _ _ => N1
  rename Fr _ _ _ _ => F1
  have hb1 := Heap.lt_size (N1 (bx, o) (by simp)).1
  have hb2 := Heap.lt_size (N1 (L + 1, oc) (by simp)).1
  refine add_lists (vs := [_]) F1 N1 (N1.isList (.head _)) (lstK (X.keeps F1.keep) (by k_is)) (fun h2 F2 N2 => ?_) (by rw [PySem.sizeLine_eq]; simp only [List.length_cons, List.length_nil]; omega)
  dsimp only at F2 N2 hb1 hb2 ⊢
  replace N2 := news_drop2 N2
  clear N1 F1
  simp only [List.cons_append, List.nil_append] at N2
  (repeat' (first | ((fail_if_success (with_reducible show wpAny _ _ (eval (Expr.ListComp _ _ _ _) _) _ _ _)); (fail_if_success (with_reducible show wpAny _ _ (exec (Stmt.For _ _ _ _ _) _) _ _ _)); (fail_if_success (with_reducible show wpAny _ _ (exec (Stmt.While _ _ _ _) _) _ _ _)); (fail_if_success (with_reducible show Exists _)); (fail_if_success (with_reducible show wpAny _ _ (exec (Stmt.If _ _ _ _) _) _ _ _)); (fail_if_success (with_reducible show LCg.CompEnd _ _ _ _ _ _ _ _ _ _ _ _ _ _)); (fail_if_success (with_reducible show ForEnd _ _ _ _ _ _ _ _)); (fail_if_success (with_reducible show wpAny _ _ (exec (Stmt.Assign _ (Expr.ListComp _ _ _ _) _) _) _ _ _)); (fail_if_success (with_reducible show LCg.CompSrc _ _ _ _ _ _ _ _ _ _ _ _ _ _)); first | with_reducible ((with_reducible show wpAny _ _ (subscriptTail (Expr.Name _ _) (Expr.Constant _ _ _) (Value.ref _) (Value.int _ _)) _ _ _); k_dflt (refine item_strsA (News.isList (by assumption) (.tail _ (.head _))) (by assumption) (by decide) (by assumption) (by decide) ?_)) | with_reducible (((with_reducible show wpAny _ _ (call (Value.builtin "len") [Value.ref _]) _ _ _); k_dflt (refine len_strsA (News.isList (by assumption) (.head _)) (by assumption) (by omega) ?_))) | with_reducible (((with_reducible show wpAny _ _ (call (Value.type "str") [Value.int _ _]) _ _ _); refine PySem.P.str_of_int (log_small (by omega)) ?_)) | with_reducible (((with_reducible show wpAny _ _ (subscriptTail _ _ (Value.ref _) (Value.int _ _)) _ _ _); k_dflt (refine pick_str (fun x => x.length ≤ 5) (by first | exact News.isList (by assumption) (.tail _ (.head _)) | exact lstK (Frag.In.keeps (by assumption) (Fr.keep (by assumption))) (by k_is)) (by first | assumption | exact (fm6 _).1) (by first | assumption | (simp only [List.length_cons, List.length_nil]; first | omega | exact (fm6 _).2)) (by simp only [List.length_cons, List.length_nil]; omega) (by (repeat' (first | exact List.forall_mem_nil _ | refine List.forall_mem_cons.mpr ⟨⟨_, _, rfl, ?_⟩, ?_⟩)) <;> ((try dsimp only); first | decide +kernel | omega)) ?_); intro zqx9 zqt9 zqhx9; (try dsimp only at zqhx9))) | walk1 | (((with_reducible show wpAny _ _ (call (Value.ref 45) [Value.int _ _, Value.int _ _, Value.int _ _]) _ _ _); refine mkPos ⟨Frag.In.keeps (by assumption) (Fr.keep (by assumption)), Top.keeps (by assumption) (Fr.keep (by assumption))⟩ _ _ _ _ _ _ (by omega) ?_; intro zqh9 zqtk9 zqx9 zqtl9 zqe9 zqT9 zqV9; (have zqM9 := fresh_ne (by assumption) (.head _) zqT9); obtain ⟨zqF9, zqN9⟩ := both_ext (by assumption) (by assumption) zqe9 zqT9; (try simp only [List.cons_append, List.nil_append] at zqN9); k_sweep)) | (((with_reducible show wpAny _ _ (call (Value.ref 284) [_, Value.int _ _]) _ _ _); refine draw' (by assumption) (by assumption) (box_at (by assumption) (by assumption) (by assumption) (.tail _ (.head _)) (by assumption)) (by omega) (by omega) _ _ (by first | decide | omega) (by first | decide | omega) ?_; intro zqh9 zqtk9 zqr9 zqt9 zqe9 zqB9 zqhr9 zqhq9; obtain ⟨zqF9, zqo9, zqN9, zqb9, zqm9⟩ := box_back2 (by assumption) (by assumption) (by first | assumption | (refine Nat.ne_of_gt ?_; dsimp only; omega)) (by first | assumption | exact List.forall_mem_nil _) zqe9 zqB9; clear zqe9 zqB9; (try k_sweep))) | (((with_reducible show wpAny _ _ (call (Value.ref 298) [_]) _ _ _); refine text' (by assumption) (by assumption) (box_at (by assumption) (by assumption) (by assumption) (.head _) (by assumption)) (by omega) (by omega) ?_; intro zqh9 zqtk9 zqx9 zqt9 zqn9 zqe9 zqB9 zqhn9 zqhx9 zqhc9; (have zqhx8 : PySem.Str.length zqx9 ≤ 4 := zqhx9); obtain ⟨zqF9, zqo9, zqN9, zqb9⟩ := box_back (by assumption) (by assumption) (by first | assumption | exact List.forall_mem_nil _) zqe9 zqB9; clear zqe9 zqB9; (try k_sweep))) | (((with_reducible show wpAny _ _ (call (Value.ref 284) [_, Value.int _ _]) _ _ _); refine draw' (by assumption) (by assumption) (box_at (by assumption) (by assumption) (by assumption) (.head _) (by assumption)) (by omega) (by omega) _ _ (by first | decide | omega) (by first | decide | omega) ?_; intro zqh9 zqtk9 zqr9 zqt9 zqe9 zqB9 zqhr9 zqhq9; obtain ⟨zqF9, zqo9, zqN9, zqb9⟩ := box_back (by assumption) (by assumption) (by first | assumption | exact List.forall_mem_nil _) zqe9 zqB9; clear zqe9 zqB9; (try k_sweep))) | (dsimp only; walk1))))
  rename News _ _ _ _ => N3
  rename Fr _ _ _ _ => F3
  rename BoxO _ _ _ => b3
  rename PySem.Str.length _ ≤ 5 => hk5
  have N4 := news_drop_2nd N3
  clear N3
  k_sweep
  rw [mF0 _ _ _ hm1 hm2] at F3
  obtain ⟨kk, kt, dt, hk5, F3⟩ : ∃ kk kt dt, PySem.Str.length kk ≤ 5 ∧ Fr G L _ (mF m0 (.str kk kt) .none (.str (Str.ofString "0.0") dt) none none) := ⟨_, _, _, hk5, F3⟩
  refine wpAny_mono (Q := JF w s G L bx c oc n m0 (.str kk kt)) ?_ (fun f s2 hj => ?_) (fun _ _ e => e)
  · (repeat' (first | ((fail_if_success (with_reducible show wpAny _ _ (eval (Expr.ListComp _ _ _ _) _) _ _ _)); (fail_if_success (with_reducible show wpAny _ _ (exec (Stmt.For _ _ _ _ _) _) _ _ _)); (fail_if_success (with_reducible show wpAny _ _ (exec (Stmt.While _ _ _ _) _) _ _ _)); (fail_if_success (with_reducible show Exists _)); (fail_if_success (with_reducible show LCg.CompEnd _ _ _ _ _ _ _ _ _ _ _ _ _ _)); (fail_if_success (with_reducible show ForEnd _ _ _ _ _ _ _ _)); (fail_if_success (with_reducible show wpAny _ _ (exec (Stmt.Assign _ (Expr.ListComp _ _ _ _) _) _) _ _ _)); (fail_if_success (with_reducible show LCg.CompSrc _ _ _ _ _ _ _ _ _ _ _ _ _ _)); first | with_reducible ((with_reducible show wpAny _ _ (subscriptTail (Expr.Name _ _) (Expr.Constant _ _ _) (Value.ref _) (Value.int _ _)) _ _ _); k_dflt (refine item_strsA (News.isList (by assumption) (.tail _ (.head _))) (by assumption) (by decide) (by assumption) (by decide) ?_)) | with_reducible (((with_reducible show wpAny _ _ (call (Value.builtin "len") [Value.ref _]) _ _ _); k_dflt (refine len_strsA (News.isList (by assumption) (.head _)) (by assumption) (by omega) ?_))) | with_reducible (((with_reducible show wpAny _ _ (call (Value.type "str") [Value.int _ _]) _ _ _); refine PySem.P.str_of_int (log_small (by omega)) ?_)) | with_reducible (((with_reducible show wpAny _ _ (subscriptTail _ _ (Value.ref _) (Value.int _ _)) _ _ _); k_dflt (refine pick_str (fun x => x.length ≤ 5) (by first | exact News.isList (by assumption) (.tail _ (.head _)) | exact lstK (Frag.In.keeps (by assumption) (Fr.keep (by assumption))) (by k_is)) (by first | assumption | exact (fm6 _).1) (by first | assumption | (simp only [List.length_cons, List.length_nil]; first | omega | exact (fm6 _).2)) (by simp only [List.length_cons, List.length_nil]; omega) (by (repeat' (first | exact List.forall_mem_nil _ | refine List.forall_mem_cons.mpr ⟨⟨_, _, rfl, ?_⟩, ?_⟩)) <;> ((try dsimp only); first | decide +kernel | omega)) ?_); intro zqx9 zqt9 zqhx9; (try dsimp only at zqhx9))) | walk1 | (((with_reducible show wpAny _ _ (call (Value.ref 45) [Value.int _ _, Value.int _ _, Value.int _ _]) _ _ _); refine mkPos ⟨Frag.In.keeps (by assumption) (Fr.keep (by assumption)), Top.keeps (by assumption) (Fr.keep (by assumption))⟩ _ _ _ _ _ _ (by omega) ?_; intro zqh9 zqtk9 zqx9 zqtl9 zqe9 zqT9 zqV9; (have zqM9 := fresh_ne (by assumption) (.head _) zqT9); obtain ⟨zqF9, zqN9⟩ := both_ext (by assumption) (by assumption) zqe9 zqT9; (try simp only [List.cons_append, List.nil_append] at zqN9); k_sweep)) | (((with_reducible show wpAny _ _ (call (Value.ref 284) [_, Value.int _ _]) _ _ _); refine draw' (by assumption) (by assumption) (box_at (by assumption) (by assumption) (by assumption) (.tail _ (.head _)) (by assumption)) (by omega) (by omega) _ _ (by first | decide | omega) (by first | decide | omega) ?_; intro zqh9 zqtk9 zqr9 zqt9 zqe9 zqB9 zqhr9 zqhq9; obtain ⟨zqF9, zqo9, zqN9, zqb9, zqm9⟩ := box_back2 (by assumption) (by assumption) (by first | assumption | (refine Nat.ne_of_gt ?_; dsimp only; omega)) (by first | assumption | exact List.forall_mem_nil _) zqe9 zqB9; clear zqe9 zqB9; (try k_sweep))) | (((with_reducible show wpAny _ _ (call (Value.ref 298) [_]) _ _ _); refine text' (by assumption) (by assumption) (box_at (by assumption) (by assumption) (by assumption) (.head _) (by assumption)) (by omega) (by omega) ?_; intro zqh9 zqtk9 zqx9 zqt9 zqn9 zqe9 zqB9 zqhn9 zqhx9 zqhc9; (have zqhx8 : PySem.Str.length zqx9 ≤ 4 := zqhx9); obtain ⟨zqF9, zqo9, zqN9, zqb9⟩ := box_back (by assumption) (by assumption) (by first | assumption | exact List.forall_mem_nil _) zqe9 zqB9; clear zqe9 zqB9; (try k_sweep))) | (((with_reducible show wpAny _ _ (call (Value.ref 284) [_, Value.int _ _]) _ _ _); refine draw' (by assumption) (by assumption) (box_at (by assumption) (by assumption) (by assumption) (.head _) (by assumption)) (by omega) (by omega) _ _ (by first | decide | omega) (by first | decide | omega) ?_; intro zqh9 zqtk9 zqr9 zqt9 zqe9 zqB9 zqhr9 zqhq9; obtain ⟨zqF9, zqo9, zqN9, zqb9⟩ := box_back (by assumption) (by assumption) (by first | assumption | exact List.forall_mem_nil _) zqe9 zqB9; clear zqe9 zqB9; (try k_sweep))) | (dsimp only; walk1))))
    · rename News _ _ _ _ => N5
      rename Fr _ _ _ _ => F5
      rename BoxO _ _ _ => b5
      rename PosAt _ _ _ _ _ => V5
      rename ∀ p ∈ _, _ ≠ bx => hn5
      rw [mF1] at F5
      refine ⟨rfl, some (_, _), _, _, _, _, _, _, _, _, _, _, rfl, F5, ?_, N5, b5, by omega, ⟨_, rfl, V5⟩, ⟨?_, ?_⟩, hn5⟩
      · rfl
      · omega
      · omega
    · rename News _ _ _ _ => N5
      rename Fr _ _ _ _ => F5
      rename BoxO _ _ _ => b5
      exact ⟨rfl, none, _, _, _, _, [], _, _, _, _, _, rfl, F5, rfl, N5, b5, by omega, rfl, trivial, List.forall_mem_nil _⟩
  clear F3 N4 b3
  obtain ⟨rfl, pos, h5, tk5, o5, n5, tlp, av, t5, lv, cv, dd, rfl, F5, hdd, N5, b5, hn5, VP, hpos, hne5⟩ := hj
  have hdl : dd.length ≤ 60 := by rw [hdd]; exact place_len hpos
  have hne6 : ∀ p ∈ (L + 1, oc) :: tlp, p.1 ≠ bx := fun p hp => (List.mem_cons.mp hp).elim (fun e => e ▸ hne _ (.head _)) (hne5 p)
  dsimp only
  (repeat' (first | ((fail_if_success (with_reducible show wpAny _ _ (eval (Expr.ListComp _ _ _ _) _) _ _ _)); (fail_if_success (with_reducible show wpAny _ _ (exec (Stmt.For _ _ _ _ _) _) _ _ _)); (fail_if_success (with_reducible show wpAny _ _ (exec (Stmt.While _ _ _ _) _) _ _ _)); (fail_if_success (with_reducible show Exists _)); (fail_if_success (with_reducible show LCg.CompEnd _ _ _ _ _ _ _ _ _ _ _ _ _ _)); (fail_if_success (with_reducible show ForEnd _ _ _ _ _ _ _ _)); (fail_if_success (with_reducible show wpAny _ _ (exec (Stmt.Assign _ (Expr.ListComp _ _ _ _) _) _) _ _ _)); (fail_if_success (with_reducible show LCg.CompSrc _ _ _ _ _ _ _ _ _ _ _ _ _ _)); first | with_reducible ((with_reducible show wpAny _ _ (subscriptTail (Expr.Name _ _) (Expr.Constant _ _ _) (Value.ref _) (Value.int _ _)) _ _ _); k_dflt (refine item_strsA (News.isList (by assumption) (.tail _ (.head _))) (by assumption) (by decide) (by assumption) (by decide) ?_)) | with_reducible (((with_reducible show wpAny _ _ (call (Value.builtin "len") [Value.ref _]) _ _ _); k_dflt (refine len_strsA (News.isList (by assumption) (.head _)) (by assumption) (by omega) ?_))) | with_reducible (((with_reducible show wpAny _ _ (call (Value.type "str") [Value.int _ _]) _ _ _); refine PySem.P.str_of_int (log_small (by omega)) ?_)) | with_reducible (((with_reducible show wpAny _ _ (subscriptTail _ _ (Value.ref _) (Value.int _ _)) _ _ _); k_dflt (refine pick_str (fun x => x.length ≤ 5) (by first | exact News.isList (by assumption) (.tail _ (.head _)) | exact lstK (Frag.In.keeps (by assumption) (Fr.keep (by assumption))) (by k_is)) (by first | assumption | exact (fm6 _).1) (by first | assumption | (simp only [List.length_cons, List.length_nil]; first | omega | exact (fm6 _).2)) (by simp only [List.length_cons, List.length_nil]; omega) (by (repeat' (first | exact List.forall_mem_nil _ | refine List.forall_mem_cons.mpr ⟨⟨_, _, rfl, ?_⟩, ?_⟩)) <;> ((try dsimp only); first | decide +kernel | omega)) ?_); intro zqx9 zqt9 zqhx9; (try dsimp only at zqhx9))) | walk1 | (((with_reducible show wpAny _ _ (call (Value.ref 45) [Value.int _ _, Value.int _ _, Value.int _ _]) _ _ _); refine mkPos ⟨Frag.In.keeps (by assumption) (Fr.keep (by assumption)), Top.keeps (by assumption) (Fr.keep (by assumption))⟩ _ _ _ _ _ _ (by omega) ?_; intro zqh9 zqtk9 zqx9 zqtl9 zqe9 zqT9 zqV9; (have zqM9 := fresh_ne (by assumption) (.head _) zqT9); obtain ⟨zqF9, zqN9⟩ := both_ext (by assumption) (by assumption) zqe9 zqT9; (try simp only [List.cons_append, List.nil_append] at zqN9); k_sweep)) | (((with_reducible show wpAny _ _ (call (Value.ref 284) [_, Value.int _ _]) _ _ _); refine draw' (by assumption) (by assumption) (box_at (by assumption) (by assumption) (by assumption) (.tail _ (.head _)) (by assumption)) (by omega) (by omega) _ _ (by first | decide | omega) (by first | decide | omega) ?_; intro zqh9 zqtk9 zqr9 zqt9 zqe9 zqB9 zqhr9 zqhq9; obtain ⟨zqF9, zqo9, zqN9, zqb9, zqm9⟩ := box_back2 (by assumption) (by assumption) (by first | assumption | (refine Nat.ne_of_gt ?_; dsimp only; omega)) (by first | assumption | exact List.forall_mem_nil _) zqe9 zqB9; clear zqe9 zqB9; (try k_sweep))) | (((with_reducible show wpAny _ _ (call (Value.ref 298) [_]) _ _ _); refine text' (by assumption) (by assumption) (box_at (by assumption) (by assumption) (by assumption) (.head _) (by assumption)) (by omega) (by omega) ?_; intro zqh9 zqtk9 zqx9 zqt9 zqn9 zqe9 zqB9 zqhn9 zqhx9 zqhc9; (have zqhx8 : PySem.Str.length zqx9 ≤ 4 := zqhx9); obtain ⟨zqF9, zqo9, zqN9, zqb9⟩ := box_back (by assumption) (by assumption) (by first | assumption | exact List.forall_mem_nil _) zqe9 zqB9; clear zqe9 zqB9; (try k_sweep))) | (((with_reducible show wpAny _ _ (call (Value.ref 284) [_, Value.int _ _]) _ _ _); refine draw' (by assumption) (by assumption) (box_at (by assumption) (by assumption) (by assumption) (.head _) (by assumption)) (by omega) (by omega) _ _ (by first | decide | omega) (by first | decide | omega) ?_; intro zqh9 zqtk9 zqr9 zqt9 zqe9 zqB9 zqhr9 zqhq9; obtain ⟨zqF9, zqo9, zqN9, zqb9⟩ := box_back (by assumption) (by assumption) (by first | assumption | exact List.forall_mem_nil _) zqe9 zqB9; clear zqe9 zqB9; (try k_sweep))) | (dsimp only; walk1))))
  refine LCg.Assign_ListComp_U (F₀ := F5) (by rfl) (by with_unfolding_all rfl) (by with_unfolding_all rfl) (by decide) (by rfl) (by decide) (by rfl) (by rfl) (by rfl) ?_
  (repeat' (first | ((fail_if_success (with_reducible show wpAny _ _ (eval (Expr.ListComp _ _ _ _) _) _ _ _)); (fail_if_success (with_reducible show wpAny _ _ (exec (Stmt.For _ _ _ _ _) _) _ _ _)); (fail_if_success (with_reducible show wpAny _ _ (exec (Stmt.While _ _ _ _) _) _ _ _)); (fail_if_success (with_reducible show Exists _)); (fail_if_success (with_reducible show LCg.CompEnd _ _ _ _ _ _ _ _ _ _ _ _ _ _)); (fail_if_success (with_reducible show ForEnd _ _ _ _ _ _ _ _)); (fail_if_success (with_reducible show wpAny _ _ (exec (Stmt.Assign _ (Expr.ListComp _ _ _ _) _) _) _ _ _)); (fail_if_success (with_reducible show LCg.CompSrc _ _ _ _ _ _ _ _ _ _ _ _ _ _)); first | with_reducible ((with_reducible show wpAny _ _ (subscriptTail (Expr.Name _ _) (Expr.Constant _ _ _) (Value.ref _) (Value.int _ _)) _ _ _); k_dflt (refine item_strsA (News.isList (by assumption) (.tail _ (.head _))) (by assumption) (by decide) (by assumption) (by decide) ?_)) | with_reducible (((with_reducible show wpAny _ _ (call (Value.builtin "len") [Value.ref _]) _ _ _); k_dflt (refine len_strsA (News.isList (by assumption) (.head _)) (by assumption) (by omega) ?_))) | with_reducible (((with_reducible show wpAny _ _ (call (Value.type "str") [Value.int _ _]) _ _ _); refine PySem.P.str_of_int (log_small (by omega)) ?_)) | with_reducible (((with_reducible show wpAny _ _ (subscriptTail _ _ (Value.ref _) (Value.int _ _)) _ _ _); k_dflt (refine pick_str (fun x => x.length ≤ 5) (by first | exact News.isList (by assumption) (.tail _ (.head _)) | exact lstK (Frag.In.keeps (by assumption) (Fr.keep (by assumption))) (by k_is)) (by first | assumption | exact (fm6 _).1) (by first | assumption | (simp only [List.length_cons, List.length_nil]; first | omega | exact (fm6 _).2)) (by simp only [List.length_cons, List.length_nil]; omega) (by (repeat' (first | exact List.forall_mem_nil _ | refine List.forall_mem_cons.mpr ⟨⟨_, _, rfl, ?_⟩, ?_⟩)) <;> ((try dsimp only); first | decide +kernel | omega)) ?_); intro zqx9 zqt9 zqhx9; (try dsimp only at zqhx9))) | walk1 | (((with_reducible show wpAny _ _ (call (Value.ref 45) [Value.int _ _, Value.int _ _, Value.int _ _]) _ _ _); refine mkPos ⟨Frag.In.keeps (by assumption) (Fr.keep (by assumption)), Top.keeps (by assumption) (Fr.keep (by assumption))⟩ _ _ _ _ _ _ (by omega) ?_; intro zqh9 zqtk9 zqx9 zqtl9 zqe9 zqT9 zqV9; (have zqM9 := fresh_ne (by assumption) (.head _) zqT9); obtain ⟨zqF9, zqN9⟩ := both_ext (by assumption) (by assumption) zqe9 zqT9; (try simp only [List.cons_append, List.nil_append] at zqN9); k_sweep)) | (((with_reducible show wpAny _ _ (call (Value.ref 284) [_, Value.int _ _]) _ _ _); refine draw' (by assumption) (by assumption) (box_at (by assumption) (by assumption) (by assumption) (.tail _ (.head _)) (by assumption)) (by omega) (by omega) _ _ (by first | decide | omega) (by first | decide | omega) ?_; intro zqh9 zqtk9 zqr9 zqt9 zqe9 zqB9 zqhr9 zqhq9; obtain ⟨zqF9, zqo9, zqN9, zqb9, zqm9⟩ := box_back2 (by assumption) (by assumption) (by first | assumption | (refine Nat.ne_of_gt ?_; dsimp only; omega)) (by first | assumption | exact List.forall_mem_nil _) zqe9 zqB9; clear zqe9 zqB9; (try k_sweep))) | (((with_reducible show wpAny _ _ (call (Value.ref 298) [_]) _ _ _); refine text' (by assumption) (by assumption) (box_at (by assumption) (by assumption) (by assumption) (.head _) (by assumption)) (by omega) (by omega) ?_; intro zqh9 zqtk9 zqx9 zqt9 zqn9 zqe9 zqB9 zqhn9 zqhx9 zqhc9; (have zqhx8 : PySem.Str.length zqx9 ≤ 4 := zqhx9); obtain ⟨zqF9, zqo9, zqN9, zqb9⟩ := box_back (by assumption) (by assumption) (by first | assumption | exact List.forall_mem_nil _) zqe9 zqB9; clear zqe9 zqB9; (try k_sweep))) | (((with_reducible show wpAny _ _ (call (Value.ref 284) [_, Value.int _ _]) _ _ _); refine draw' (by assumption) (by assumption) (box_at (by assumption) (by assumption) (by assumption) (.head _) (by assumption)) (by omega) (by omega) _ _ (by first | decide | omega) (by first | decide | omega) ?_; intro zqh9 zqtk9 zqr9 zqt9 zqe9 zqB9 zqhr9 zqhq9; obtain ⟨zqF9, zqo9, zqN9, zqb9⟩ := box_back (by assumption) (by assumption) (by first | assumption | exact List.forall_mem_nil _) zqe9 zqB9; clear zqe9 zqB9; (try k_sweep))) | (dsimp only; walk1))))
  refine LCg.CompSrc.range rfl (by assumption) (by assumption) (by assumption) (small_one (by decide) (by decide) (by omega) (by omega)) (rangeSize_nat _ _) (by rw [PySem.sizeLine_eq]; omega) (fun g => rest_inv (fun i ys news => ∃ (o' : Obj) (n' : Nat) (zs : List Str), news = (bx, o') :: (L + 1, oc) :: tlp ∧ BoxO c n' o' ∧ n' ≤ n + 6 + i ∧ zs.length = i ∧ StrsAre ys zs ∧ ∀ z ∈ zs, PySem.Str.length z ≤ 5) ?_ ?_ _ 0 [] _ (Nat.zero_add _) ⟨_, n5 + 1, [], rfl, by assumption, by omega, rfl, .nil, List.forall_mem_nil _⟩)
  · rintro j v ys news I oI C oC D m₂ h tk E' hj ⟨t', rfl⟩ ⟨o', n', zs, rfl, hb', hn', hz, hys, hzs⟩ hC hx F N off ne
    have o3 := off.mem
    have N2 : News G L h ((bx, o') :: (I, oI) :: (C, oC) :: (D, LCg.lst ys) :: (L + 1, oc) :: tlp) := news_sub N fun p hp => by
      simp only [List.mem_cons] at hp ⊢; rcases hp with h | h | h | h | h | h <;> simp [h]
    have hneC : ∀ p ∈ (I, oI) :: (C, oC) :: (D, LCg.lst ys) :: (L + 1, oc) :: tlp, p.1 ≠ bx := fun p hp => by
      have hb := o3 _ (.head _)
      rcases List.mem_cons.mp hp with rfl | hp
      · exact Ne.symm hb.1
      · rcases List.mem_cons.mp hp with rfl | hp
        · exact Ne.symm hb.2.1
        · rcases List.mem_cons.mp hp with rfl | hp
          · exact Ne.symm hb.2.2
          · exact hne6 p hp
    clear N
    (repeat' (first | ((fail_if_success (with_reducible show wpAny _ _ (eval (Expr.ListComp _ _ _ _) _) _ _ _)); (fail_if_success (with_reducible show wpAny _ _ (exec (Stmt.For _ _ _ _ _) _) _ _ _)); (fail_if_success (with_reducible show wpAny _ _ (exec (Stmt.While _ _ _ _) _) _ _ _)); (fail_if_success (with_reducible show Exists _)); (fail_if_success (with_reducible show LCg.CompEnd _ _ _ _ _ _ _ _ _ _ _ _ _ _)); (fail_if_success (with_reducible show ForEnd _ _ _ _ _ _ _ _)); (fail_if_success (with_reducible show wpAny _ _ (exec (Stmt.Assign _ (Expr.ListComp _ _ _ _) _) _) _ _ _)); (fail_if_success (with_reducible show LCg.CompSrc _ _ _ _ _ _ _ _ _ _ _ _ _ _)); first | with_reducible ((with_reducible show wpAny _ _ (subscriptTail (Expr.Name _ _) (Expr.Constant _ _ _) (Value.ref _) (Value.int _ _)) _ _ _); k_dflt (refine item_strsA (News.isList (by assumption) (.tail _ (.head _))) (by assumption) (by decide) (by assumption) (by decide) ?_)) | with_reducible (((with_reducible show wpAny _ _ (call (Value.builtin "len") [Value.ref _]) _ _ _); k_dflt (refine len_strsA (News.isList (by assumption) (.head _)) (by assumption) (by omega) ?_))) | with_reducible (((with_reducible show wpAny _ _ (call (Value.type "str") [Value.int _ _]) _ _ _); refine PySem.P.str_of_int (log_small (by omega)) ?_)) | with_reducible (((with_reducible show wpAny _ _ (subscriptTail _ _ (Value.ref _) (Value.int _ _)) _ _ _); k_dflt (refine pick_str (fun x => x.length ≤ 5) (by first | exact News.isList (by assumption) (.tail _ (.head _)) | exact lstK (Frag.In.keeps (by assumption) (Fr.keep (by assumption))) (by k_is)) (by first | assumption | exact (fm6 _).1) (by first | assumption | (simp only [List.length_cons, List.length_nil]; first | omega | exact (fm6 _).2)) (by simp only [List.length_cons, List.length_nil]; omega) (by (repeat' (first | exact List.forall_mem_nil _ | refine List.forall_mem_cons.mpr ⟨⟨_, _, rfl, ?_⟩, ?_⟩)) <;> ((try dsimp only); first | decide +kernel | omega)) ?_); intro zqx9 zqt9 zqhx9; (try dsimp only at zqhx9))) | walk1 | (((with_reducible show wpAny _ _ (call (Value.ref 45) [Value.int _ _, Value.int _ _, Value.int _ _]) _ _ _); refine mkPos ⟨Frag.In.keeps (by assumption) (Fr.keep (by assumption)), Top.keeps (by assumption) (Fr.keep (by assumption))⟩ _ _ _ _ _ _ (by omega) ?_; intro zqh9 zqtk9 zqx9 zqtl9 zqe9 zqT9 zqV9; (have zqM9 := fresh_ne (by assumption) (.head _) zqT9); obtain ⟨zqF9, zqN9⟩ := both_ext (by assumption) (by assumption) zqe9 zqT9; (try simp only [List.cons_append, List.nil_append] at zqN9); k_sweep)) | (((with_reducible show wpAny _ _ (call (Value.ref 284) [_, Value.int _ _]) _ _ _); refine draw' (by assumption) (by assumption) (box_at (by assumption) (by assumption) (by assumption) (.tail _ (.head _)) (by assumption)) (by omega) (by omega) _ _ (by first | decide | omega) (by first | decide | omega) ?_; intro zqh9 zqtk9 zqr9 zqt9 zqe9 zqB9 zqhr9 zqhq9; obtain ⟨zqF9, zqo9, zqN9, zqb9, zqm9⟩ := box_back2 (by assumption) (by assumption) (by first | assumption | (refine Nat.ne_of_gt ?_; dsimp only; omega)) (by first | assumption | exact List.forall_mem_nil _) zqe9 zqB9; clear zqe9 zqB9; (try k_sweep))) | (((with_reducible show wpAny _ _ (call (Value.ref 298) [_]) _ _ _); refine text' (by assumption) (by assumption) (box_at (by assumption) (by assumption) (by assumption) (.head _) (by assumption)) (by omega) (by omega) ?_; intro zqh9 zqtk9 zqx9 zqt9 zqn9 zqe9 zqB9 zqhn9 zqhx9 zqhc9; (have zqhx8 : PySem.Str.length zqx9 ≤ 4 := zqhx9); obtain ⟨zqF9, zqo9, zqN9, zqb9⟩ := box_back (by assumption) (by assumption) (by first | assumption | exact List.forall_mem_nil _) zqe9 zqB9; clear zqe9 zqB9; (try k_sweep))) | (((with_reducible show wpAny _ _ (call (Value.ref 284) [_, Value.int _ _]) _ _ _); refine draw' (by assumption) (by assumption) (box_at (by assumption) (by assumption) (by assumption) (.head _) (by assumption)) (by omega) (by omega) _ _ (by first | decide | omega) (by first | decide | omega) ?_; intro zqh9 zqtk9 zqr9 zqt9 zqe9 zqB9 zqhr9 zqhq9; obtain ⟨zqF9, zqo9, zqN9, zqb9⟩ := box_back (by assumption) (by assumption) (by first | assumption | exact List.forall_mem_nil _) zqe9 zqB9; clear zqe9 zqB9; (try k_sweep))) | (dsimp only; walk1))))
    k_unfold
    refine ⟨_, _, (bx, _) :: (L + 1, oc) :: tlp, rfl, by assumption, ?_, ?_, trivial, _, n' + 1, zs ++ [_], rfl, by assumption, by omega, by rw [List.length_append, hz]; rfl, kct_snoc hys, fun z hz' => ?_⟩
    · rename News _ _ _ _ => N9
      exact news_sub N9 fun p hp => by
        simp only [List.mem_cons] at hp ⊢; rcases hp with h | h | h | h | h | h <;> simp [h]
    · exact LCg.Off3.of fun p hp => by
        rcases List.mem_cons.mp hp with rfl | hp
        · exact o3 (bx, o') (.head _)
        · exact o3 p (.tail _ hp)
    · rcases List.mem_append.mp hz' with hz' | hz'
      · exact hzs z hz'
      · rw [List.mem_singleton.mp hz']; assumption
  · rintro ys news ⟨o', n', zs, rfl, hb', hn', hz, hys, hzs⟩
    intro D h tk F N off
    have hzl : zs.length ≤ 6 := by omega
    clear hz hb' hn'
    (repeat' (first | ((fail_if_success (with_reducible show wpAny _ _ (eval (Expr.ListComp _ _ _ _) _) _ _ _)); (fail_if_success (with_reducible show wpAny _ _ (exec (Stmt.For _ _ _ _ _) _) _ _ _)); (fail_if_success (with_reducible show wpAny _ _ (exec (Stmt.While _ _ _ _) _) _ _ _)); (fail_if_success (with_reducible show Exists _)); (fail_if_success (with_reducible show wpAny _ _ (eval (Expr.IfExp _ _ _ _) _) _ _ _)); (fail_if_success (with_reducible show LCg.CompEnd _ _ _ _ _ _ _ _ _ _ _ _ _ _)); (fail_if_success (with_reducible show ForEnd _ _ _ _ _ _ _ _)); (fail_if_success (with_reducible show wpAny _ _ (exec (Stmt.Assign _ (Expr.ListComp _ _ _ _) _) _) _ _ _)); (fail_if_success (with_reducible show LCg.CompSrc _ _ _ _ _ _ _ _ _ _ _ _ _ _)); first | with_reducible ((with_reducible show wpAny _ _ (subscriptTail (Expr.Name _ _) (Expr.Constant _ _ _) (Value.ref _) (Value.int _ _)) _ _ _); k_dflt (refine item_strsA (News.isList (by assumption) (.tail _ (.head _))) (by assumption) (by decide) (by assumption) (by decide) ?_)) | with_reducible (((with_reducible show wpAny _ _ (call (Value.builtin "len") [Value.ref _]) _ _ _); k_dflt (refine len_strsA (News.isList (by assumption) (.head _)) (by assumption) (by omega) ?_))) | with_reducible (((with_reducible show wpAny _ _ (call (Value.type "str") [Value.int _ _]) _ _ _); refine PySem.P.str_of_int (log_small (by omega)) ?_)) | with_reducible (((with_reducible show wpAny _ _ (subscriptTail _ _ (Value.ref _) (Value.int _ _)) _ _ _); k_dflt (refine pick_str (fun x => x.length ≤ 5) (by first | exact News.isList (by assumption) (.tail _ (.head _)) | exact lstK (Frag.In.keeps (by assumption) (Fr.keep (by assumption))) (by k_is)) (by first | assumption | exact (fm6 _).1) (by first | assumption | (simp only [List.length_cons, List.length_nil]; first | omega | exact (fm6 _).2)) (by simp only [List.length_cons, List.length_nil]; omega) (by (repeat' (first | exact List.forall_mem_nil _ | refine List.forall_mem_cons.mpr ⟨⟨_, _, rfl, ?_⟩, ?_⟩)) <;> ((try dsimp only); first | decide +kernel | omega)) ?_); intro zqx9 zqt9 zqhx9; (try dsimp only at zqhx9))) | walk1 | (((with_reducible show wpAny _ _ (call (Value.ref 45) [Value.int _ _, Value.int _ _, Value.int _ _]) _ _ _); refine mkPos ⟨Frag.In.keeps (by assumption) (Fr.keep (by assumption)), Top.keeps (by assumption) (Fr.keep (by assumption))⟩ _ _ _ _ _ _ (by omega) ?_; intro zqh9 zqtk9 zqx9 zqtl9 zqe9 zqT9 zqV9; (have zqM9 := fresh_ne (by assumption) (.head _) zqT9); obtain ⟨zqF9, zqN9⟩ := both_ext (by assumption) (by assumption) zqe9 zqT9; (try simp only [List.cons_append, List.nil_append] at zqN9); k_sweep)) | (((with_reducible show wpAny _ _ (call (Value.ref 284) [_, Value.int _ _]) _ _ _); refine draw' (by assumption) (by assumption) (box_at (by assumption) (by assumption) (by assumption) (.tail _ (.head _)) (by assumption)) (by omega) (by omega) _ _ (by first | decide | omega) (by first | decide | omega) ?_; intro zqh9 zqtk9 zqr9 zqt9 zqe9 zqB9 zqhr9 zqhq9; obtain ⟨zqF9, zqo9, zqN9, zqb9, zqm9⟩ := box_back2 (by assumption) (by assumption) (by first | assumption | (refine Nat.ne_of_gt ?_; dsimp only; omega)) (by first | assumption | exact List.forall_mem_nil _) zqe9 zqB9; clear zqe9 zqB9; (try k_sweep))) | (((with_reducible show wpAny _ _ (call (Value.ref 298) [_]) _ _ _); refine text' (by assumption) (by assumption) (box_at (by assumption) (by assumption) (by assumption) (.head _) (by assumption)) (by omega) (by omega) ?_; intro zqh9 zqtk9 zqx9 zqt9 zqn9 zqe9 zqB9 zqhn9 zqhx9 zqhc9; (have zqhx8 : PySem.Str.length zqx9 ≤ 4 := zqhx9); obtain ⟨zqF9, zqo9, zqN9, zqb9⟩ := box_back (by assumption) (by assumption) (by first | assumption | exact List.forall_mem_nil _) zqe9 zqB9; clear zqe9 zqB9; (try k_sweep))) | (((with_reducible show wpAny _ _ (call (Value.ref 284) [_, Value.int _ _]) _ _ _); refine draw' (by assumption) (by assumption) (box_at (by assumption) (by assumption) (by assumption) (.head _) (by assumption)) (by omega) (by omega) _ _ (by first | decide | omega) (by first | decide | omega) ?_; intro zqh9 zqtk9 zqr9 zqt9 zqe9 zqB9 zqhr9 zqhq9; obtain ⟨zqF9, zqo9, zqN9, zqb9⟩ := box_back (by assumption) (by assumption) (by first | assumption | exact List.forall_mem_nil _) zqe9 zqB9; clear zqe9 zqB9; (try k_sweep))) | (dsimp only; walk1))))
    refine wpAny_mono (Q := fun v s2 => ∃ t' tk', v = .str (kindT kk) t' ∧ s2 = ⟨h, s.gens, s.drawn, tk', s.os⟩) ?_ (fun v s2 hv => ?_) (fun _ _ e => e)
    · (repeat' (first | ((fail_if_success (with_reducible show wpAny _ _ (eval (Expr.ListComp _ _ _ _) _) _ _ _)); (fail_if_success (with_reducible show wpAny _ _ (exec (Stmt.For _ _ _ _ _) _) _ _ _)); (fail_if_success (with_reducible show wpAny _ _ (exec (Stmt.While _ _ _ _) _) _ _ _)); (fail_if_success (with_reducible show Exists _)); (fail_if_success (with_reducible show LCg.CompEnd _ _ _ _ _ _ _ _ _ _ _ _ _ _)); (fail_if_success (with_reducible show ForEnd _ _ _ _ _ _ _ _)); (fail_if_success (with_reducible show wpAny _ _ (exec (Stmt.Assign _ (Expr.ListComp _ _ _ _) _) _) _ _ _)); (fail_if_success (with_reducible show LCg.CompSrc _ _ _ _ _ _ _ _ _ _ _ _ _ _)); first | with_reducible ((with_reducible show wpAny _ _ (subscriptTail (Expr.Name _ _) (Expr.Constant _ _ _) (Value.ref _) (Value.int _ _)) _ _ _); k_dflt (refine item_strsA (News.isList (by assumption) (.tail _ (.head _))) (by assumption) (by decide) (by assumption) (by decide) ?_)) | with_reducible (((with_reducible show wpAny _ _ (call (Value.builtin "len") [Value.ref _]) _ _ _); k_dflt (refine len_strsA (News.isList (by assumption) (.head _)) (by assumption) (by omega) ?_))) | with_reducible (((with_reducible show wpAny _ _ (call (Value.type "str") [Value.int _ _]) _ _ _); refine PySem.P.str_of_int (log_small (by omega)) ?_)) | with_reducible (((with_reducible show wpAny _ _ (subscriptTail _ _ (Value.ref _) (Value.int _ _)) _ _ _); k_dflt (refine pick_str (fun x => x.length ≤ 5) (by first | exact News.isList (by assumption) (.tail _ (.head _)) | exact lstK (Frag.In.keeps (by assumption) (Fr.keep (by assumption))) (by k_is)) (by first | assumption | exact (fm6 _).1) (by first | assumption | (simp only [List.length_cons, List.length_nil]; first | omega | exact (fm6 _).2)) (by simp only [List.length_cons, List.length_nil]; omega) (by (repeat' (first | exact List.forall_mem_nil _ | refine List.forall_mem_cons.mpr ⟨⟨_, _, rfl, ?_⟩, ?_⟩)) <;> ((try dsimp only); first | decide +kernel | omega)) ?_); intro zqx9 zqt9 zqhx9; (try dsimp only at zqhx9))) | walk1 | (((with_reducible show wpAny _ _ (call (Value.ref 45) [Value.int _ _, Value.int _ _, Value.int _ _]) _ _ _); refine mkPos ⟨Frag.In.keeps (by assumption) (Fr.keep (by assumption)), Top.keeps (by assumption) (Fr.keep (by assumption))⟩ _ _ _ _ _ _ (by omega) ?_; intro zqh9 zqtk9 zqx9 zqtl9 zqe9 zqT9 zqV9; (have zqM9 := fresh_ne (by assumption) (.head _) zqT9); obtain ⟨zqF9, zqN9⟩ := both_ext (by assumption) (by assumption) zqe9 zqT9; (try simp only [List.cons_append, List.nil_append] at zqN9); k_sweep)) | (((with_reducible show wpAny _ _ (call (Value.ref 284) [_, Value.int _ _]) _ _ _); refine draw' (by assumption) (by assumption) (box_at (by assumption) (by assumption) (by assumption) (.tail _ (.head _)) (by assumption)) (by omega) (by omega) _ _ (by first | decide | omega) (by first | decide | omega) ?_; intro zqh9 zqtk9 zqr9 zqt9 zqe9 zqB9 zqhr9 zqhq9; obtain ⟨zqF9, zqo9, zqN9, zqb9, zqm9⟩ := box_back2 (by assumption) (by assumption) (by first | assumption | (refine Nat.ne_of_gt ?_; dsimp only; omega)) (by first | assumption | exact List.forall_mem_nil _) zqe9 zqB9; clear zqe9 zqB9; (try k_sweep))) | (((with_reducible show wpAny _ _ (call (Value.ref 298) [_]) _ _ _); refine text' (by assumption) (by assumption) (box_at (by assumption) (by assumption) (by assumption) (.head _) (by assumption)) (by omega) (by omega) ?_; intro zqh9 zqtk9 zqx9 zqt9 zqn9 zqe9 zqB9 zqhn9 zqhx9 zqhc9; (have zqhx8 : PySem.Str.length zqx9 ≤ 4 := zqhx9); obtain ⟨zqF9, zqo9, zqN9, zqb9⟩ := box_back (by assumption) (by assumption) (by first | assumption | exact List.forall_mem_nil _) zqe9 zqB9; clear zqe9 zqB9; (try k_sweep))) | (((with_reducible show wpAny _ _ (call (Value.ref 284) [_, Value.int _ _]) _ _ _); refine draw' (by assumption) (by assumption) (box_at (by assumption) (by assumption) (by assumption) (.head _) (by assumption)) (by omega) (by omega) _ _ (by first | decide | omega) (by first | decide | omega) ?_; intro zqh9 zqtk9 zqr9 zqt9 zqe9 zqB9 zqhr9 zqhq9; obtain ⟨zqF9, zqo9, zqN9, zqb9⟩ := box_back (by assumption) (by assumption) (by first | assumption | exact List.forall_mem_nil _) zqe9 zqB9; clear zqe9 zqB9; (try k_sweep))) | (dsimp only; walk1))))
      · exact ⟨_, _, by rw [kindT_end (by assumption)], rfl⟩
      · exact ⟨_, _, by rw [kindT_tok (by assumption)], rfl⟩
    obtain ⟨t6, tk6, rfl, rfl⟩ := hv
    have hkl : PySem.Str.length (kindT kk) ≤ 12 := kindT_len hk5
    have hz0 : PySem.Str.length (zs.getD (Int.toNat 0) Str.empty) ≤ 5 := by
      cases zs with
      | nil => decide +kernel
      | cons z r => exact hzs z (.head _)
    (repeat' (first | ((fail_if_success (with_reducible show wpAny _ _ (eval (Expr.ListComp _ _ _ _) _) _ _ _)); (fail_if_success (with_reducible show wpAny _ _ (exec (Stmt.For _ _ _ _ _) _) _ _ _)); (fail_if_success (with_reducible show wpAny _ _ (exec (Stmt.While _ _ _ _) _) _ _ _)); (fail_if_success (with_reducible show Exists _)); (fail_if_success (with_reducible show wpAny _ _ (exec (Stmt.If _ _ _ _) _) _ _ _)); (fail_if_success (with_reducible show LCg.CompEnd _ _ _ _ _ _ _ _ _ _ _ _ _ _)); (fail_if_success (with_reducible show ForEnd _ _ _ _ _ _ _ _)); (fail_if_success (with_reducible show wpAny _ _ (exec (Stmt.Assign _ (Expr.ListComp _ _ _ _) _) _) _ _ _)); (fail_if_success (with_reducible show LCg.CompSrc _ _ _ _ _ _ _ _ _ _ _ _ _ _)); first | with_reducible ((with_reducible show wpAny _ _ (subscriptTail (Expr.Name _ _) (Expr.Constant _ _ _) (Value.ref _) (Value.int _ _)) _ _ _); k_dflt (refine item_strsA (News.isList (by assumption) (.tail _ (.head _))) (by assumption) (by decide) (by assumption) (by decide) ?_)) | with_reducible (((with_reducible show wpAny _ _ (call (Value.builtin "len") [Value.ref _]) _ _ _); k_dflt (refine len_strsA (News.isList (by assumption) (.head _)) (by assumption) (by omega) ?_))) | with_reducible (((with_reducible show wpAny _ _ (call (Value.type "str") [Value.int _ _]) _ _ _); refine PySem.P.str_of_int (log_small (by omega)) ?_)) | with_reducible (((with_reducible show wpAny _ _ (subscriptTail _ _ (Value.ref _) (Value.int _ _)) _ _ _); k_dflt (refine pick_str (fun x => x.length ≤ 5) (by first | exact News.isList (by assumption) (.tail _ (.head _)) | exact lstK (Frag.In.keeps (by assumption) (Fr.keep (by assumption))) (by k_is)) (by first | assumption | exact (fm6 _).1) (by first | assumption | (simp only [List.length_cons, List.length_nil]; first | omega | exact (fm6 _).2)) (by simp only [List.length_cons, List.length_nil]; omega) (by (repeat' (first | exact List.forall_mem_nil _ | refine List.forall_mem_cons.mpr ⟨⟨_, _, rfl, ?_⟩, ?_⟩)) <;> ((try dsimp only); first | decide +kernel | omega)) ?_); intro zqx9 zqt9 zqhx9; (try dsimp only at zqhx9))) | walk1 | (((with_reducible show wpAny _ _ (call (Value.ref 45) [Value.int _ _, Value.int _ _, Value.int _ _]) _ _ _); refine mkPos ⟨Frag.In.keeps (by assumption) (Fr.keep (by assumption)), Top.keeps (by assumption) (Fr.keep (by assumption))⟩ _ _ _ _ _ _ (by omega) ?_; intro zqh9 zqtk9 zqx9 zqtl9 zqe9 zqT9 zqV9; (have zqM9 := fresh_ne (by assumption) (.head _) zqT9); obtain ⟨zqF9, zqN9⟩ := both_ext (by assumption) (by assumption) zqe9 zqT9; (try simp only [List.cons_append, List.nil_append] at zqN9); k_sweep)) | (((with_reducible show wpAny _ _ (call (Value.ref 284) [_, Value.int _ _]) _ _ _); refine draw' (by assumption) (by assumption) (box_at (by assumption) (by assumption) (by assumption) (.tail _ (.head _)) (by assumption)) (by omega) (by omega) _ _ (by first | decide | omega) (by first | decide | omega) ?_; intro zqh9 zqtk9 zqr9 zqt9 zqe9 zqB9 zqhr9 zqhq9; obtain ⟨zqF9, zqo9, zqN9, zqb9, zqm9⟩ := box_back2 (by assumption) (by assumption) (by first | assumption | (refine Nat.ne_of_gt ?_; dsimp only; omega)) (by first | assumption | exact List.forall_mem_nil _) zqe9 zqB9; clear zqe9 zqB9; (try k_sweep))) | (((with_reducible show wpAny _ _ (call (Value.ref 298) [_]) _ _ _); refine text' (by assumption) (by assumption) (box_at (by assumption) (by assumption) (by assumption) (.head _) (by assumption)) (by omega) (by omega) ?_; intro zqh9 zqtk9 zqx9 zqt9 zqn9 zqe9 zqB9 zqhn9 zqhx9 zqhc9; (have zqhx8 : PySem.Str.length zqx9 ≤ 4 := zqhx9); obtain ⟨zqF9, zqo9, zqN9, zqb9⟩ := box_back (by assumption) (by assumption) (by first | assumption | exact List.forall_mem_nil _) zqe9 zqB9; clear zqe9 zqB9; (try k_sweep))) | (((with_reducible show wpAny _ _ (call (Value.ref 284) [_, Value.int _ _]) _ _ _); refine draw' (by assumption) (by assumption) (box_at (by assumption) (by assumption) (by assumption) (.head _) (by assumption)) (by omega) (by omega) _ _ (by first | decide | omega) (by first | decide | omega) ?_; intro zqh9 zqtk9 zqr9 zqt9 zqe9 zqB9 zqhr9 zqhq9; obtain ⟨zqF9, zqo9, zqN9, zqb9⟩ := box_back (by assumption) (by assumption) (by first | assumption | exact List.forall_mem_nil _) zqe9 zqB9; clear zqe9 zqB9; (try k_sweep))) | (dsimp only; walk1))))
    refine wpAny_mono (Q := JD s G L D oc (LCg.lst ys) tlp (mF m0 (.str kk kt) av (.str dd t5) lv cv) (faultS pos kk zs)) ?_ (fun f s2 hj => ?_) (fun _ _ e => e)
    · by_cases h14 : 1 ≤ zs.length ∧ zs.length ≤ 4
      · have ha := any_yes h14
        have hz1 : (0 : Int) < zs.length := by omega
        have hz2 := faultS_yes (pos := pos) (k := kk) h14 hdd
        (repeat' (first | ((fail_if_success (with_reducible show wpAny _ _ (eval (Expr.ListComp _ _ _ _) _) _ _ _)); (fail_if_success (with_reducible show wpAny _ _ (exec (Stmt.For _ _ _ _ _) _) _ _ _)); (fail_if_success (with_reducible show wpAny _ _ (exec (Stmt.While _ _ _ _) _) _ _ _)); (fail_if_success (with_reducible show Exists _)); (fail_if_success (with_reducible show LCg.CompEnd _ _ _ _ _ _ _ _ _ _ _ _ _ _)); (fail_if_success (with_reducible show ForEnd _ _ _ _ _ _ _ _)); (fail_if_success (with_reducible show wpAny _ _ (exec (Stmt.Assign _ (Expr.ListComp _ _ _ _) _) _) _ _ _)); (fail_if_success (with_reducible show LCg.CompSrc _ _ _ _ _ _ _ _ _ _ _ _ _ _)); first | with_reducible ((with_reducible show wpAny _ _ (subscriptTail (Expr.Name _ _) (Expr.Constant _ _ _) (Value.ref _) (Value.int _ _)) _ _ _); k_dflt (refine item_strsA (News.isList (by assumption) (.tail _ (.head _))) (by assumption) (by decide) (by assumption) (by decide) ?_)) | with_reducible (((with_reducible show wpAny _ _ (call (Value.builtin "len") [Value.ref _]) _ _ _); k_dflt (refine len_strsA (News.isList (by assumption) (.head _)) (by assumption) (by omega) ?_))) | with_reducible (((with_reducible show wpAny _ _ (call (Value.type "str") [Value.int _ _]) _ _ _); refine PySem.P.str_of_int (log_small (by omega)) ?_)) | with_reducible (((with_reducible show wpAny _ _ (subscriptTail _ _ (Value.ref _) (Value.int _ _)) _ _ _); k_dflt (refine pick_str (fun x => x.length ≤ 5) (by first | exact News.isList (by assumption) (.tail _ (.head _)) | exact lstK (Frag.In.keeps (by assumption) (Fr.keep (by assumption))) (by k_is)) (by first | assumption | exact (fm6 _).1) (by first | assumption | (simp only [List.length_cons, List.length_nil]; first | omega | exact (fm6 _).2)) (by simp only [List.length_cons, List.length_nil]; omega) (by (repeat' (first | exact List.forall_mem_nil _ | refine List.forall_mem_cons.mpr ⟨⟨_, _, rfl, ?_⟩, ?_⟩)) <;> ((try dsimp only); first | decide +kernel | omega)) ?_); intro zqx9 zqt9 zqhx9; (try dsimp only at zqhx9))) | walk1 | (((with_reducible show wpAny _ _ (call (Value.ref 45) [Value.int _ _, Value.int _ _, Value.int _ _]) _ _ _); refine mkPos ⟨Frag.In.keeps (by assumption) (Fr.keep (by assumption)), Top.keeps (by assumption) (Fr.keep (by assumption))⟩ _ _ _ _ _ _ (by omega) ?_; intro zqh9 zqtk9 zqx9 zqtl9 zqe9 zqT9 zqV9; (have zqM9 := fresh_ne (by assumption) (.head _) zqT9); obtain ⟨zqF9, zqN9⟩ := both_ext (by assumption) (by assumption) zqe9 zqT9; (try simp only [List.cons_append, List.nil_append] at zqN9); k_sweep)) | (((with_reducible show wpAny _ _ (call (Value.ref 284) [_, Value.int _ _]) _ _ _); refine draw' (by assumption) (by assumption) (box_at (by assumption) (by assumption) (by assumption) (.tail _ (.head _)) (by assumption)) (by omega) (by omega) _ _ (by first | decide | omega) (by first | decide | omega) ?_; intro zqh9 zqtk9 zqr9 zqt9 zqe9 zqB9 zqhr9 zqhq9; obtain ⟨zqF9, zqo9, zqN9, zqb9, zqm9⟩ := box_back2 (by assumption) (by assumption) (by first | assumption | (refine Nat.ne_of_gt ?_; dsimp only; omega)) (by first | assumption | exact List.forall_mem_nil _) zqe9 zqB9; clear zqe9 zqB9; (try k_sweep))) | (((with_reducible show wpAny _ _ (call (Value.ref 298) [_]) _ _ _); refine text' (by assumption) (by assumption) (box_at (by assumption) (by assumption) (by assumption) (.head _) (by assumption)) (by omega) (by omega) ?_; intro zqh9 zqtk9 zqx9 zqt9 zqn9 zqe9 zqB9 zqhn9 zqhx9 zqhc9; (have zqhx8 : PySem.Str.length zqx9 ≤ 4 := zqhx9); obtain ⟨zqF9, zqo9, zqN9, zqb9⟩ := box_back (by assumption) (by assumption) (by first | assumption | exact List.forall_mem_nil _) zqe9 zqB9; clear zqe9 zqB9; (try k_sweep))) | (((with_reducible show wpAny _ _ (call (Value.ref 284) [_, Value.int _ _]) _ _ _); refine draw' (by assumption) (by assumption) (box_at (by assumption) (by assumption) (by assumption) (.head _) (by assumption)) (by omega) (by omega) _ _ (by first | decide | omega) (by first | decide | omega) ?_; intro zqh9 zqtk9 zqr9 zqt9 zqe9 zqB9 zqhr9 zqhq9; obtain ⟨zqF9, zqo9, zqN9, zqb9⟩ := box_back (by assumption) (by assumption) (by first | assumption | exact List.forall_mem_nil _) zqe9 zqB9; clear zqe9 zqB9; (try k_sweep))) | (dsimp only; walk1))))
        rename Fr _ _ _ _ => F7
        rename News _ _ _ _ => N7
        refine LCg.ListComp_U (F₀ := F7) (by with_unfolding_all rfl) (by decide) (by rfl) (by decide) (by rfl) ?_
        (repeat' (first | ((fail_if_success (with_reducible show wpAny _ _ (eval (Expr.ListComp _ _ _ _) _) _ _ _)); (fail_if_success (with_reducible show wpAny _ _ (exec (Stmt.For _ _ _ _ _) _) _ _ _)); (fail_if_success (with_reducible show wpAny _ _ (exec (Stmt.While _ _ _ _) _) _ _ _)); (fail_if_success (with_reducible show Exists _)); (fail_if_success (with_reducible show wpAny _ _ (subscriptTail _ _ _ _) _ _ _)); (fail_if_success (with_reducible show LCg.CompEnd _ _ _ _ _ _ _ _ _ _ _ _ _ _)); (fail_if_success (with_reducible show ForEnd _ _ _ _ _ _ _ _)); (fail_if_success (with_reducible show wpAny _ _ (exec (Stmt.Assign _ (Expr.ListComp _ _ _ _) _) _) _ _ _)); (fail_if_success (with_reducible show LCg.CompSrc _ _ _ _ _ _ _ _ _ _ _ _ _ _)); first | with_reducible ((with_reducible show wpAny _ _ (subscriptTail (Expr.Name _ _) (Expr.Constant _ _ _) (Value.ref _) (Value.int _ _)) _ _ _); k_dflt (refine item_strsA (News.isList (by assumption) (.tail _ (.head _))) (by assumption) (by decide) (by assumption) (by decide) ?_)) | with_reducible (((with_reducible show wpAny _ _ (call (Value.builtin "len") [Value.ref _]) _ _ _); k_dflt (refine len_strsA (News.isList (by assumption) (.head _)) (by assumption) (by omega) ?_))) | with_reducible (((with_reducible show wpAny _ _ (call (Value.type "str") [Value.int _ _]) _ _ _); refine PySem.P.str_of_int (log_small (by omega)) ?_)) | with_reducible (((with_reducible show wpAny _ _ (subscriptTail _ _ (Value.ref _) (Value.int _ _)) _ _ _); k_dflt (refine pick_str (fun x => x.length ≤ 5) (by first | exact News.isList (by assumption) (.tail _ (.head _)) | exact lstK (Frag.In.keeps (by assumption) (Fr.keep (by assumption))) (by k_is)) (by first | assumption | exact (fm6 _).1) (by first | assumption | (simp only [List.length_cons, List.length_nil]; first | omega | exact (fm6 _).2)) (by simp only [List.length_cons, List.length_nil]; omega) (by (repeat' (first | exact List.forall_mem_nil _ | refine List.forall_mem_cons.mpr ⟨⟨_, _, rfl, ?_⟩, ?_⟩)) <;> ((try dsimp only); first | decide +kernel | omega)) ?_); intro zqx9 zqt9 zqhx9; (try dsimp only at zqhx9))) | walk1 | (((with_reducible show wpAny _ _ (call (Value.ref 45) [Value.int _ _, Value.int _ _, Value.int _ _]) _ _ _); refine mkPos ⟨Frag.In.keeps (by assumption) (Fr.keep (by assumption)), Top.keeps (by assumption) (Fr.keep (by assumption))⟩ _ _ _ _ _ _ (by omega) ?_; intro zqh9 zqtk9 zqx9 zqtl9 zqe9 zqT9 zqV9; (have zqM9 := fresh_ne (by assumption) (.head _) zqT9); obtain ⟨zqF9, zqN9⟩ := both_ext (by assumption) (by assumption) zqe9 zqT9; (try simp only [List.cons_append, List.nil_append] at zqN9); k_sweep)) | (((with_reducible show wpAny _ _ (call (Value.ref 284) [_, Value.int _ _]) _ _ _); refine draw' (by assumption) (by assumption) (box_at (by assumption) (by assumption) (by assumption) (.tail _ (.head _)) (by assumption)) (by omega) (by omega) _ _ (by first | decide | omega) (by first | decide | omega) ?_; intro zqh9 zqtk9 zqr9 zqt9 zqe9 zqB9 zqhr9 zqhq9; obtain ⟨zqF9, zqo9, zqN9, zqb9, zqm9⟩ := box_back2 (by assumption) (by assumption) (by first | assumption | (refine Nat.ne_of_gt ?_; dsimp only; omega)) (by first | assumption | exact List.forall_mem_nil _) zqe9 zqB9; clear zqe9 zqB9; (try k_sweep))) | (((with_reducible show wpAny _ _ (call (Value.ref 298) [_]) _ _ _); refine text' (by assumption) (by assumption) (box_at (by assumption) (by assumption) (by assumption) (.head _) (by assumption)) (by omega) (by omega) ?_; intro zqh9 zqtk9 zqx9 zqt9 zqn9 zqe9 zqB9 zqhn9 zqhx9 zqhc9; (have zqhx8 : PySem.Str.length zqx9 ≤ 4 := zqhx9); obtain ⟨zqF9, zqo9, zqN9, zqb9⟩ := box_back (by assumption) (by assumption) (by first | assumption | exact List.forall_mem_nil _) zqe9 zqB9; clear zqe9 zqB9; (try k_sweep))) | (((with_reducible show wpAny _ _ (call (Value.ref 284) [_, Value.int _ _]) _ _ _); refine draw' (by assumption) (by assumption) (box_at (by assumption) (by assumption) (by assumption) (.head _) (by assumption)) (by omega) (by omega) _ _ (by first | decide | omega) (by first | decide | omega) ?_; intro zqh9 zqtk9 zqr9 zqt9 zqe9 zqB9 zqhr9 zqhq9; obtain ⟨zqF9, zqo9, zqN9, zqb9⟩ := box_back (by assumption) (by assumption) (by first | assumption | exact List.forall_mem_nil _) zqe9 zqB9; clear zqe9 zqB9; (try k_sweep))) | (dsimp only; walk1))))
        rename Fr _ _ _ _ => F8
        rename News _ _ _ _ => N8
        have hyl8 : ys.toArray.size ≤ sizeLine := by have := strs_len hys; rw [PySem.sizeLine_eq, List.size_toArray]; omega
        refine slice_list F8 N8 (N8.isList (.tail _ (.head _))) (.int _ _) .none (fun h9 F9 N9 => ?_) (hsz := hyl8)
        rw [show ((1 : Int)) = ((1 : Nat) : Int) by rfl, slicePick_from'] at N9
        have hys1 := StrsAre.drop' hys 1
        have hz8 := strs_len hys1
        obtain ⟨R0, hR0⟩ : ∃ R : List (Addr × Obj), R = _ := ⟨_, rfl⟩
        refine LCg.CompSrc.ledger (its := (ys.drop 1).toArray) (k := 0) (news := R0) rfl F9 (by rw [hR0]; exact N9) (by rw [hR0]; exact .head _) (by rw [PySem.sizeLine_eq, List.size_toArray, hz8, List.length_drop]; omega) (fun g => rest_invS (fun i vs' news => news = R0 ∧ StrsAre vs' (((zs.drop 1).take i).map fun z => Str.ofString " or " ++ z)) ?_ ?_ _ 0 [] _ (Nat.zero_add _) ⟨rfl, .nil⟩)
        · rintro i v vs' news I oI C oC D8 m₂ h tk E' hi hv ⟨rfl, hvs⟩ hC hx F N off ne
          obtain ⟨z, tz, rfl, hz9⟩ := StrsAre.item hys1 i v (by simpa using hv)
          have hz5 : PySem.Str.length z ≤ 5 := hzs z (List.mem_of_mem_drop (List.mem_of_getElem? hz9))
          (repeat' (first | ((fail_if_success (with_reducible show wpAny _ _ (eval (Expr.ListComp _ _ _ _) _) _ _ _)); (fail_if_success (with_reducible show wpAny _ _ (exec (Stmt.For _ _ _ _ _) _) _ _ _)); (fail_if_success (with_reducible show wpAny _ _ (exec (Stmt.While _ _ _ _) _) _ _ _)); (fail_if_success (with_reducible show Exists _)); (fail_if_success (with_reducible show LCg.CompEnd _ _ _ _ _ _ _ _ _ _ _ _ _ _)); (fail_if_success (with_reducible show ForEnd _ _ _ _ _ _ _ _)); (fail_if_success (with_reducible show wpAny _ _ (exec (Stmt.Assign _ (Expr.ListComp _ _ _ _) _) _) _ _ _)); (fail_if_success (with_reducible show LCg.CompSrc _ _ _ _ _ _ _ _ _ _ _ _ _ _)); first | with_reducible ((with_reducible show wpAny _ _ (subscriptTail (Expr.Name _ _) (Expr.Constant _ _ _) (Value.ref _) (Value.int _ _)) _ _ _); k_dflt (refine item_strsA (News.isList (by assumption) (.tail _ (.head _))) (by assumption) (by decide) (by assumption) (by decide) ?_)) | with_reducible (((with_reducible show wpAny _ _ (call (Value.builtin "len") [Value.ref _]) _ _ _); k_dflt (refine len_strsA (News.isList (by assumption) (.head _)) (by assumption) (by omega) ?_))) | with_reducible (((with_reducible show wpAny _ _ (call (Value.type "str") [Value.int _ _]) _ _ _); refine PySem.P.str_of_int (log_small (by omega)) ?_)) | with_reducible (((with_reducible show wpAny _ _ (subscriptTail _ _ (Value.ref _) (Value.int _ _)) _ _ _); k_dflt (refine pick_str (fun x => x.length ≤ 5) (by first | exact News.isList (by assumption) (.tail _ (.head _)) | exact lstK (Frag.In.keeps (by assumption) (Fr.keep (by assumption))) (by k_is)) (by first | assumption | exact (fm6 _).1) (by first | assumption | (simp only [List.length_cons, List.length_nil]; first | omega | exact (fm6 _).2)) (by simp only [List.length_cons, List.length_nil]; omega) (by (repeat' (first | exact List.forall_mem_nil _ | refine List.forall_mem_cons.mpr ⟨⟨_, _, rfl, ?_⟩, ?_⟩)) <;> ((try dsimp only); first | decide +kernel | omega)) ?_); intro zqx9 zqt9 zqhx9; (try dsimp only at zqhx9))) | walk1 | (((with_reducible show wpAny _ _ (call (Value.ref 45) [Value.int _ _, Value.int _ _, Value.int _ _]) _ _ _); refine mkPos ⟨Frag.In.keeps (by assumption) (Fr.keep (by assumption)), Top.keeps (by assumption) (Fr.keep (by assumption))⟩ _ _ _ _ _ _ (by omega) ?_; intro zqh9 zqtk9 zqx9 zqtl9 zqe9 zqT9 zqV9; (have zqM9 := fresh_ne (by assumption) (.head _) zqT9); obtain ⟨zqF9, zqN9⟩ := both_ext (by assumption) (by assumption) zqe9 zqT9; (try simp only [List.cons_append, List.nil_append] at zqN9); k_sweep)) | (((with_reducible show wpAny _ _ (call (Value.ref 284) [_, Value.int _ _]) _ _ _); refine draw' (by assumption) (by assumption) (box_at (by assumption) (by assumption) (by assumption) (.tail _ (.head _)) (by assumption)) (by omega) (by omega) _ _ (by first | decide | omega) (by first | decide | omega) ?_; intro zqh9 zqtk9 zqr9 zqt9 zqe9 zqB9 zqhr9 zqhq9; obtain ⟨zqF9, zqo9, zqN9, zqb9, zqm9⟩ := box_back2 (by assumption) (by assumption) (by first | assumption | (refine Nat.ne_of_gt ?_; dsimp only; omega)) (by first | assumption | exact List.forall_mem_nil _) zqe9 zqB9; clear zqe9 zqB9; (try k_sweep))) | (((with_reducible show wpAny _ _ (call (Value.ref 298) [_]) _ _ _); refine text' (by assumption) (by assumption) (box_at (by assumption) (by assumption) (by assumption) (.head _) (by assumption)) (by omega) (by omega) ?_; intro zqh9 zqtk9 zqx9 zqt9 zqn9 zqe9 zqB9 zqhn9 zqhx9 zqhc9; (have zqhx8 : PySem.Str.length zqx9 ≤ 4 := zqhx9); obtain ⟨zqF9, zqo9, zqN9, zqb9⟩ := box_back (by assumption) (by assumption) (by first | assumption | exact List.forall_mem_nil _) zqe9 zqB9; clear zqe9 zqB9; (try k_sweep))) | (((with_reducible show wpAny _ _ (call (Value.ref 284) [_, Value.int _ _]) _ _ _); refine draw' (by assumption) (by assumption) (box_at (by assumption) (by assumption) (by assumption) (.head _) (by assumption)) (by omega) (by omega) _ _ (by first | decide | omega) (by first | decide | omega) ?_; intro zqh9 zqtk9 zqr9 zqt9 zqe9 zqB9 zqhr9 zqhq9; obtain ⟨zqF9, zqo9, zqN9, zqb9⟩ := box_back (by assumption) (by assumption) (by first | assumption | exact List.forall_mem_nil _) zqe9 zqB9; clear zqe9 zqB9; (try k_sweep))) | (dsimp only; walk1))))
          refine ⟨_, _, news, rfl, F, N, off, .inr ⟨_, by rw [hR0]; exact .head _, rfl, _, rfl⟩, rfl, ?_⟩
          rw [List.take_add_one, hz9, List.map_append]
          exact kct_snoc hvs
        · rintro vs' news ⟨rfl, hvs⟩
          intro D8 h tk F N off
          have hvs : StrsAre vs' ((zs.drop 1).map fun z => Str.ofString " or " ++ z) := by rw [List.take_of_length_le (by rw [List.size_toArray, hz8]; exact Nat.le_refl _)] at hvs; exact hvs
          have hjl := or_tail_len h14.1 (by omega) hzs
          (repeat' (first | ((fail_if_success (with_reducible show wpAny _ _ (eval (Expr.ListComp _ _ _ _) _) _ _ _)); (fail_if_success (with_reducible show wpAny _ _ (exec (Stmt.For _ _ _ _ _) _) _ _ _)); (fail_if_success (with_reducible show wpAny _ _ (exec (Stmt.While _ _ _ _) _) _ _ _)); (fail_if_success (with_reducible show Exists _)); (fail_if_success (with_reducible show LCg.CompEnd _ _ _ _ _ _ _ _ _ _ _ _ _ _)); (fail_if_success (with_reducible show ForEnd _ _ _ _ _ _ _ _)); (fail_if_success (with_reducible show wpAny _ _ (exec (Stmt.Assign _ (Expr.ListComp _ _ _ _) _) _) _ _ _)); (fail_if_success (with_reducible show LCg.CompSrc _ _ _ _ _ _ _ _ _ _ _ _ _ _)); first | with_reducible ((with_reducible show wpAny _ _ (subscriptTail (Expr.Name _ _) (Expr.Constant _ _ _) (Value.ref _) (Value.int _ _)) _ _ _); k_dflt (refine item_strsA (News.isList (by assumption) (.tail _ (.head _))) (by assumption) (by decide) (by assumption) (by decide) ?_)) | with_reducible (((with_reducible show wpAny _ _ (call (Value.builtin "len") [Value.ref _]) _ _ _); k_dflt (refine len_strsA (News.isList (by assumption) (.head _)) (by assumption) (by omega) ?_))) | with_reducible (((with_reducible show wpAny _ _ (call (Value.type "str") [Value.int _ _]) _ _ _); refine PySem.P.str_of_int (log_small (by omega)) ?_)) | with_reducible (((with_reducible show wpAny _ _ (subscriptTail _ _ (Value.ref _) (Value.int _ _)) _ _ _); k_dflt (refine pick_str (fun x => x.length ≤ 5) (by first | exact News.isList (by assumption) (.tail _ (.head _)) | exact lstK (Frag.In.keeps (by assumption) (Fr.keep (by assumption))) (by k_is)) (by first | assumption | exact (fm6 _).1) (by first | assumption | (simp only [List.length_cons, List.length_nil]; first | omega | exact (fm6 _).2)) (by simp only [List.length_cons, List.length_nil]; omega) (by (repeat' (first | exact List.forall_mem_nil _ | refine List.forall_mem_cons.mpr ⟨⟨_, _, rfl, ?_⟩, ?_⟩)) <;> ((try dsimp only); first | decide +kernel | omega)) ?_); intro zqx9 zqt9 zqhx9; (try dsimp only at zqhx9))) | walk1 | (((with_reducible show wpAny _ _ (call (Value.ref 45) [Value.int _ _, Value.int _ _, Value.int _ _]) _ _ _); refine mkPos ⟨Frag.In.keeps (by assumption) (Fr.keep (by assumption)), Top.keeps (by assumption) (Fr.keep (by assumption))⟩ _ _ _ _ _ _ (by omega) ?_; intro zqh9 zqtk9 zqx9 zqtl9 zqe9 zqT9 zqV9; (have zqM9 := fresh_ne (by assumption) (.head _) zqT9); obtain ⟨zqF9, zqN9⟩ := both_ext (by assumption) (by assumption) zqe9 zqT9; (try simp only [List.cons_append, List.nil_append] at zqN9); k_sweep)) | (((with_reducible show wpAny _ _ (call (Value.ref 284) [_, Value.int _ _]) _ _ _); refine draw' (by assumption) (by assumption) (box_at (by assumption) (by assumption) (by assumption) (.tail _ (.head _)) (by assumption)) (by omega) (by omega) _ _ (by first | decide | omega) (by first | decide | omega) ?_; intro zqh9 zqtk9 zqr9 zqt9 zqe9 zqB9 zqhr9 zqhq9; obtain ⟨zqF9, zqo9, zqN9, zqb9, zqm9⟩ := box_back2 (by assumption) (by assumption) (by first | assumption | (refine Nat.ne_of_gt ?_; dsimp only; omega)) (by first | assumption | exact List.forall_mem_nil _) zqe9 zqB9; clear zqe9 zqB9; (try k_sweep))) | (((with_reducible show wpAny _ _ (call (Value.ref 298) [_]) _ _ _); refine text' (by assumption) (by assumption) (box_at (by assumption) (by assumption) (by assumption) (.head _) (by assumption)) (by omega) (by omega) ?_; intro zqh9 zqtk9 zqx9 zqt9 zqn9 zqe9 zqB9 zqhn9 zqhx9 zqhc9; (have zqhx8 : PySem.Str.length zqx9 ≤ 4 := zqhx9); obtain ⟨zqF9, zqo9, zqN9, zqb9⟩ := box_back (by assumption) (by assumption) (by first | assumption | exact List.forall_mem_nil _) zqe9 zqB9; clear zqe9 zqB9; (try k_sweep))) | (((with_reducible show wpAny _ _ (call (Value.ref 284) [_, Value.int _ _]) _ _ _); refine draw' (by assumption) (by assumption) (box_at (by assumption) (by assumption) (by assumption) (.head _) (by assumption)) (by omega) (by omega) _ _ (by first | decide | omega) (by first | decide | omega) ?_; intro zqh9 zqtk9 zqr9 zqt9 zqe9 zqB9 zqhr9 zqhq9; obtain ⟨zqF9, zqo9, zqN9, zqb9⟩ := box_back (by assumption) (by assumption) (by first | assumption | exact List.forall_mem_nil _) zqe9 zqB9; clear zqe9 zqB9; (try k_sweep))) | (dsimp only; walk1))))
          refine join_list (N.isList (.head _)) hvs (or_tail_ok (by omega) hzs) (fun t' tk' => ?_)
          (repeat' (first | ((fail_if_success (with_reducible show wpAny _ _ (eval (Expr.ListComp _ _ _ _) _) _ _ _)); (fail_if_success (with_reducible show wpAny _ _ (exec (Stmt.For _ _ _ _ _) _) _ _ _)); (fail_if_success (with_reducible show wpAny _ _ (exec (Stmt.While _ _ _ _) _) _ _ _)); (fail_if_success (with_reducible show Exists _)); (fail_if_success (with_reducible show LCg.CompEnd _ _ _ _ _ _ _ _ _ _ _ _ _ _)); (fail_if_success (with_reducible show ForEnd _ _ _ _ _ _ _ _)); (fail_if_success (with_reducible show wpAny _ _ (exec (Stmt.Assign _ (Expr.ListComp _ _ _ _) _) _) _ _ _)); (fail_if_success (with_reducible show LCg.CompSrc _ _ _ _ _ _ _ _ _ _ _ _ _ _)); first | with_reducible ((with_reducible show wpAny _ _ (subscriptTail (Expr.Name _ _) (Expr.Constant _ _ _) (Value.ref _) (Value.int _ _)) _ _ _); k_dflt (refine item_strsA (News.isList (by assumption) (.tail _ (.head _))) (by assumption) (by decide) (by assumption) (by decide) ?_)) | with_reducible (((with_reducible show wpAny _ _ (call (Value.builtin "len") [Value.ref _]) _ _ _); k_dflt (refine len_strsA (News.isList (by assumption) (.head _)) (by assumption) (by omega) ?_))) | with_reducible (((with_reducible show wpAny _ _ (call (Value.type "str") [Value.int _ _]) _ _ _); refine PySem.P.str_of_int (log_small (by omega)) ?_)) | with_reducible (((with_reducible show wpAny _ _ (subscriptTail _ _ (Value.ref _) (Value.int _ _)) _ _ _); k_dflt (refine pick_str (fun x => x.length ≤ 5) (by first | exact News.isList (by assumption) (.tail _ (.head _)) | exact lstK (Frag.In.keeps (by assumption) (Fr.keep (by assumption))) (by k_is)) (by first | assumption | exact (fm6 _).1) (by first | assumption | (simp only [List.length_cons, List.length_nil]; first | omega | exact (fm6 _).2)) (by simp only [List.length_cons, List.length_nil]; omega) (by (repeat' (first | exact List.forall_mem_nil _ | refine List.forall_mem_cons.mpr ⟨⟨_, _, rfl, ?_⟩, ?_⟩)) <;> ((try dsimp only); first | decide +kernel | omega)) ?_); intro zqx9 zqt9 zqhx9; (try dsimp only at zqhx9))) | walk1 | (((with_reducible show wpAny _ _ (call (Value.ref 45) [Value.int _ _, Value.int _ _, Value.int _ _]) _ _ _); refine mkPos ⟨Frag.In.keeps (by assumption) (Fr.keep (by assumption)), Top.keeps (by assumption) (Fr.keep (by assumption))⟩ _ _ _ _ _ _ (by omega) ?_; intro zqh9 zqtk9 zqx9 zqtl9 zqe9 zqT9 zqV9; (have zqM9 := fresh_ne (by assumption) (.head _) zqT9); obtain ⟨zqF9, zqN9⟩ := both_ext (by assumption) (by assumption) zqe9 zqT9; (try simp only [List.cons_append, List.nil_append] at zqN9); k_sweep)) | (((with_reducible show wpAny _ _ (call (Value.ref 284) [_, Value.int _ _]) _ _ _); refine draw' (by assumption) (by assumption) (box_at (by assumption) (by assumption) (by assumption) (.tail _ (.head _)) (by assumption)) (by omega) (by omega) _ _ (by first | decide | omega) (by first | decide | omega) ?_; intro zqh9 zqtk9 zqr9 zqt9 zqe9 zqB9 zqhr9 zqhq9; obtain ⟨zqF9, zqo9, zqN9, zqb9, zqm9⟩ := box_back2 (by assumption) (by assumption) (by first | assumption | (refine Nat.ne_of_gt ?_; dsimp only; omega)) (by first | assumption | exact List.forall_mem_nil _) zqe9 zqB9; clear zqe9 zqB9; (try k_sweep))) | (((with_reducible show wpAny _ _ (call (Value.ref 298) [_]) _ _ _); refine text' (by assumption) (by assumption) (box_at (by assumption) (by assumption) (by assumption) (.head _) (by assumption)) (by omega) (by omega) ?_; intro zqh9 zqtk9 zqx9 zqt9 zqn9 zqe9 zqB9 zqhn9 zqhx9 zqhc9; (have zqhx8 : PySem.Str.length zqx9 ≤ 4 := zqhx9); obtain ⟨zqF9, zqo9, zqN9, zqb9⟩ := box_back (by assumption) (by assumption) (by first | assumption | exact List.forall_mem_nil _) zqe9 zqB9; clear zqe9 zqB9; (try k_sweep))) | (((with_reducible show wpAny _ _ (call (Value.ref 284) [_, Value.int _ _]) _ _ _); refine draw' (by assumption) (by assumption) (box_at (by assumption) (by assumption) (by assumption) (.head _) (by assumption)) (by omega) (by omega) _ _ (by first | decide | omega) (by first | decide | omega) ?_; intro zqh9 zqtk9 zqr9 zqt9 zqe9 zqB9 zqhr9 zqhq9; obtain ⟨zqF9, zqo9, zqN9, zqb9⟩ := box_back (by assumption) (by assumption) (by first | assumption | exact List.forall_mem_nil _) zqe9 zqB9; clear zqe9 zqB9; (try k_sweep))) | (dsimp only; walk1))))
          rename Fr _ _ _ _ => F7
          rename News _ _ _ _ => N7
          subst hR0
          rw [dup_due] at F7
          refine ⟨rfl, _, _, _, rfl, by rw [← hz2]; exact F7, news_sub N7 fun p hp => ?_⟩
          simp only [List.mem_cons] at hp ⊢; rcases hp with h | h | h <;> simp [h]
      · have ha := any_no h14
        have hz2 := faultS_no (pos := pos) (k := kk) h14 hdd
        (repeat' (first | ((fail_if_success (with_reducible show wpAny _ _ (eval (Expr.ListComp _ _ _ _) _) _ _ _)); (fail_if_success (with_reducible show wpAny _ _ (exec (Stmt.For _ _ _ _ _) _) _ _ _)); (fail_if_success (with_reducible show wpAny _ _ (exec (Stmt.While _ _ _ _) _) _ _ _)); (fail_if_success (with_reducible show Exists _)); (fail_if_success (with_reducible show LCg.CompEnd _ _ _ _ _ _ _ _ _ _ _ _ _ _)); (fail_if_success (with_reducible show ForEnd _ _ _ _ _ _ _ _)); (fail_if_success (with_reducible show wpAny _ _ (exec (Stmt.Assign _ (Expr.ListComp _ _ _ _) _) _) _ _ _)); (fail_if_success (with_reducible show LCg.CompSrc _ _ _ _ _ _ _ _ _ _ _ _ _ _)); first | with_reducible ((with_reducible show wpAny _ _ (subscriptTail (Expr.Name _ _) (Expr.Constant _ _ _) (Value.ref _) (Value.int _ _)) _ _ _); k_dflt (refine item_strsA (News.isList (by assumption) (.tail _ (.head _))) (by assumption) (by decide) (by assumption) (by decide) ?_)) | with_reducible (((with_reducible show wpAny _ _ (call (Value.builtin "len") [Value.ref _]) _ _ _); k_dflt (refine len_strsA (News.isList (by assumption) (.head _)) (by assumption) (by omega) ?_))) | with_reducible (((with_reducible show wpAny _ _ (call (Value.type "str") [Value.int _ _]) _ _ _); refine PySem.P.str_of_int (log_small (by omega)) ?_)) | with_reducible (((with_reducible show wpAny _ _ (subscriptTail _ _ (Value.ref _) (Value.int _ _)) _ _ _); k_dflt (refine pick_str (fun x => x.length ≤ 5) (by first | exact News.isList (by assumption) (.tail _ (.head _)) | exact lstK (Frag.In.keeps (by assumption) (Fr.keep (by assumption))) (by k_is)) (by first | assumption | exact (fm6 _).1) (by first | assumption | (simp only [List.length_cons, List.length_nil]; first | omega | exact (fm6 _).2)) (by simp only [List.length_cons, List.length_nil]; omega) (by (repeat' (first | exact List.forall_mem_nil _ | refine List.forall_mem_cons.mpr ⟨⟨_, _, rfl, ?_⟩, ?_⟩)) <;> ((try dsimp only); first | decide +kernel | omega)) ?_); intro zqx9 zqt9 zqhx9; (try dsimp only at zqhx9))) | walk1 | (((with_reducible show wpAny _ _ (call (Value.ref 45) [Value.int _ _, Value.int _ _, Value.int _ _]) _ _ _); refine mkPos ⟨Frag.In.keeps (by assumption) (Fr.keep (by assumption)), Top.keeps (by assumption) (Fr.keep (by assumption))⟩ _ _ _ _ _ _ (by omega) ?_; intro zqh9 zqtk9 zqx9 zqtl9 zqe9 zqT9 zqV9; (have zqM9 := fresh_ne (by assumption) (.head _) zqT9); obtain ⟨zqF9, zqN9⟩ := both_ext (by assumption) (by assumption) zqe9 zqT9; (try simp only [List.cons_append, List.nil_append] at zqN9); k_sweep)) | (((with_reducible show wpAny _ _ (call (Value.ref 284) [_, Value.int _ _]) _ _ _); refine draw' (by assumption) (by assumption) (box_at (by assumption) (by assumption) (by assumption) (.tail _ (.head _)) (by assumption)) (by omega) (by omega) _ _ (by first | decide | omega) (by first | decide | omega) ?_; intro zqh9 zqtk9 zqr9 zqt9 zqe9 zqB9 zqhr9 zqhq9; obtain ⟨zqF9, zqo9, zqN9, zqb9, zqm9⟩ := box_back2 (by assumption) (by assumption) (by first | assumption | (refine Nat.ne_of_gt ?_; dsimp only; omega)) (by first | assumption | exact List.forall_mem_nil _) zqe9 zqB9; clear zqe9 zqB9; (try k_sweep))) | (((with_reducible show wpAny _ _ (call (Value.ref 298) [_]) _ _ _); refine text' (by assumption) (by assumption) (box_at (by assumption) (by assumption) (by assumption) (.head _) (by assumption)) (by omega) (by omega) ?_; intro zqh9 zqtk9 zqx9 zqt9 zqn9 zqe9 zqB9 zqhn9 zqhx9 zqhc9; (have zqhx8 : PySem.Str.length zqx9 ≤ 4 := zqhx9); obtain ⟨zqF9, zqo9, zqN9, zqb9⟩ := box_back (by assumption) (by assumption) (by first | assumption | exact List.forall_mem_nil _) zqe9 zqB9; clear zqe9 zqB9; (try k_sweep))) | (((with_reducible show wpAny _ _ (call (Value.ref 284) [_, Value.int _ _]) _ _ _); refine draw' (by assumption) (by assumption) (box_at (by assumption) (by assumption) (by assumption) (.head _) (by assumption)) (by omega) (by omega) _ _ (by first | decide | omega) (by first | decide | omega) ?_; intro zqh9 zqtk9 zqr9 zqt9 zqe9 zqB9 zqhr9 zqhq9; obtain ⟨zqF9, zqo9, zqN9, zqb9⟩ := box_back (by assumption) (by assumption) (by first | assumption | exact List.forall_mem_nil _) zqe9 zqB9; clear zqe9 zqB9; (try k_sweep))) | (dsimp only; walk1))))
        rename Fr _ _ _ _ => F7
        rename News _ _ _ _ => N7
        refine ⟨rfl, _, _, _, rfl, by rw [← hz2]; exact F7, news_sub N7 fun p hp => ?_⟩
        simp only [List.mem_cons] at hp ⊢; rcases hp with h | h | h <;> simp [h]
    · obtain ⟨rfl, h8, tk8, t8, rfl, F8, N8⟩ := hj
      dsimp only
      (repeat' (first | ((fail_if_success (with_reducible show wpAny _ _ (eval (Expr.ListComp _ _ _ _) _) _ _ _)); (fail_if_success (with_reducible show wpAny _ _ (exec (Stmt.For _ _ _ _ _) _) _ _ _)); (fail_if_success (with_reducible show wpAny _ _ (exec (Stmt.While _ _ _ _) _) _ _ _)); (fail_if_success (with_reducible show Exists _)); (fail_if_success (with_reducible show LCg.CompEnd _ _ _ _ _ _ _ _ _ _ _ _ _ _)); (fail_if_success (with_reducible show ForEnd _ _ _ _ _ _ _ _)); (fail_if_success (with_reducible show wpAny _ _ (exec (Stmt.Assign _ (Expr.ListComp _ _ _ _) _) _) _ _ _)); (fail_if_success (with_reducible show LCg.CompSrc _ _ _ _ _ _ _ _ _ _ _ _ _ _)); first | with_reducible ((with_reducible show wpAny _ _ (subscriptTail (Expr.Name _ _) (Expr.Constant _ _ _) (Value.ref _) (Value.int _ _)) _ _ _); k_dflt (refine item_strsA (News.isList (by assumption) (.tail _ (.head _))) (by assumption) (by decide) (by assumption) (by decide) ?_)) | with_reducible (((with_reducible show wpAny _ _ (call (Value.builtin "len") [Value.ref _]) _ _ _); k_dflt (refine len_strsA (News.isList (by assumption) (.head _)) (by assumption) (by omega) ?_))) | with_reducible (((with_reducible show wpAny _ _ (call (Value.type "str") [Value.int _ _]) _ _ _); refine PySem.P.str_of_int (log_small (by omega)) ?_)) | with_reducible (((with_reducible show wpAny _ _ (subscriptTail _ _ (Value.ref _) (Value.int _ _)) _ _ _); k_dflt (refine pick_str (fun x => x.length ≤ 5) (by first | exact News.isList (by assumption) (.tail _ (.head _)) | exact lstK (Frag.In.keeps (by assumption) (Fr.keep (by assumption))) (by k_is)) (by first | assumption | exact (fm6 _).1) (by first | assumption | (simp only [List.length_cons, List.length_nil]; first | omega | exact (fm6 _).2)) (by simp only [List.length_cons, List.length_nil]; omega) (by (repeat' (first | exact List.forall_mem_nil _ | refine List.forall_mem_cons.mpr ⟨⟨_, _, rfl, ?_⟩, ?_⟩)) <;> ((try dsimp only); first | decide +kernel | omega)) ?_); intro zqx9 zqt9 zqhx9; (try dsimp only at zqhx9))) | walk1 | (((with_reducible show wpAny _ _ (call (Value.ref 45) [Value.int _ _, Value.int _ _, Value.int _ _]) _ _ _); refine mkPos ⟨Frag.In.keeps (by assumption) (Fr.keep (by assumption)), Top.keeps (by assumption) (Fr.keep (by assumption))⟩ _ _ _ _ _ _ (by omega) ?_; intro zqh9 zqtk9 zqx9 zqtl9 zqe9 zqT9 zqV9; (have zqM9 := fresh_ne (by assumption) (.head _) zqT9); obtain ⟨zqF9, zqN9⟩ := both_ext (by assumption) (by assumption) zqe9 zqT9; (try simp only [List.cons_append, List.nil_append] at zqN9); k_sweep)) | (((with_reducible show wpAny _ _ (call (Value.ref 284) [_, Value.int _ _]) _ _ _); refine draw' (by assumption) (by assumption) (box_at (by assumption) (by assumption) (by assumption) (.tail _ (.head _)) (by assumption)) (by omega) (by omega) _ _ (by first | decide | omega) (by first | decide | omega) ?_; intro zqh9 zqtk9 zqr9 zqt9 zqe9 zqB9 zqhr9 zqhq9; obtain ⟨zqF9, zqo9, zqN9, zqb9, zqm9⟩ := box_back2 (by assumption) (by assumption) (by first | assumption | (refine Nat.ne_of_gt ?_; dsimp only; omega)) (by first | assumption | exact List.forall_mem_nil _) zqe9 zqB9; clear zqe9 zqB9; (try k_sweep))) | (((with_reducible show wpAny _ _ (call (Value.ref 298) [_]) _ _ _); refine text' (by assumption) (by assumption) (box_at (by assumption) (by assumption) (by assumption) (.head _) (by assumption)) (by omega) (by omega) ?_; intro zqh9 zqtk9 zqx9 zqt9 zqn9 zqe9 zqB9 zqhn9 zqhx9 zqhc9; (have zqhx8 : PySem.Str.length zqx9 ≤ 4 := zqhx9); obtain ⟨zqF9, zqo9, zqN9, zqb9⟩ := box_back (by assumption) (by assumption) (by first | assumption | exact List.forall_mem_nil _) zqe9 zqB9; clear zqe9 zqB9; (try k_sweep))) | (((with_reducible show wpAny _ _ (call (Value.ref 284) [_, Value.int _ _]) _ _ _); refine draw' (by assumption) (by assumption) (box_at (by assumption) (by assumption) (by assumption) (.head _) (by assumption)) (by omega) (by omega) _ _ (by first | decide | omega) (by first | decide | omega) ?_; intro zqh9 zqtk9 zqr9 zqt9 zqe9 zqB9 zqhr9 zqhq9; obtain ⟨zqF9, zqo9, zqN9, zqb9⟩ := box_back (by assumption) (by assumption) (by first | assumption | exact List.forall_mem_nil _) zqe9 zqB9; clear zqe9 zqB9; (try k_sweep))) | (dsimp only; walk1))))
      refine mkTok ⟨X.keeps F8.keep, T.keeps F8.keep⟩ kk kk _ _ av (by omega) (fun h9 tk9 xt tlt e9 T9 VT => ?_)
      obtain ⟨F9, N9⟩ := both_ext F8 N8 e9 T9
      simp only [List.cons_append] at N9
      clear F8 N8
      (repeat' (first | ((fail_if_success (with_reducible show wpAny _ _ (eval (Expr.ListComp _ _ _ _) _) _ _ _)); (fail_if_success (with_reducible show wpAny _ _ (exec (Stmt.For _ _ _ _ _) _) _ _ _)); (fail_if_success (with_reducible show wpAny _ _ (exec (Stmt.While _ _ _ _) _) _ _ _)); (fail_if_success (with_reducible show Exists _)); (fail_if_success (with_reducible show LCg.CompEnd _ _ _ _ _ _ _ _ _ _ _ _ _ _)); (fail_if_success (with_reducible show ForEnd _ _ _ _ _ _ _ _)); (fail_if_success (with_reducible show wpAny _ _ (exec (Stmt.Assign _ (Expr.ListComp _ _ _ _) _) _) _ _ _)); (fail_if_success (with_reducible show LCg.CompSrc _ _ _ _ _ _ _ _ _ _ _ _ _ _)); first | with_reducible ((with_reducible show wpAny _ _ (subscriptTail (Expr.Name _ _) (Expr.Constant _ _ _) (Value.ref _) (Value.int _ _)) _ _ _); k_dflt (refine item_strsA (News.isList (by assumption) (.tail _ (.head _))) (by assumption) (by decide) (by assumption) (by decide) ?_)) | with_reducible (((with_reducible show wpAny _ _ (call (Value.builtin "len") [Value.ref _]) _ _ _); k_dflt (refine len_strsA (News.isList (by assumption) (.head _)) (by assumption) (by omega) ?_))) | with_reducible (((with_reducible show wpAny _ _ (call (Value.type "str") [Value.int _ _]) _ _ _); refine PySem.P.str_of_int (log_small (by omega)) ?_)) | with_reducible (((with_reducible show wpAny _ _ (subscriptTail _ _ (Value.ref _) (Value.int _ _)) _ _ _); k_dflt (refine pick_str (fun x => x.length ≤ 5) (by first | exact News.isList (by assumption) (.tail _ (.head _)) | exact lstK (Frag.In.keeps (by assumption) (Fr.keep (by assumption))) (by k_is)) (by first | assumption | exact (fm6 _).1) (by first | assumption | (simp only [List.length_cons, List.length_nil]; first | omega | exact (fm6 _).2)) (by simp only [List.length_cons, List.length_nil]; omega) (by (repeat' (first | exact List.forall_mem_nil _ | refine List.forall_mem_cons.mpr ⟨⟨_, _, rfl, ?_⟩, ?_⟩)) <;> ((try dsimp only); first | decide +kernel | omega)) ?_); intro zqx9 zqt9 zqhx9; (try dsimp only at zqhx9))) | walk1 | (((with_reducible show wpAny _ _ (call (Value.ref 45) [Value.int _ _, Value.int _ _, Value.int _ _]) _ _ _); refine mkPos ⟨Frag.In.keeps (by assumption) (Fr.keep (by assumption)), Top.keeps (by assumption) (Fr.keep (by assumption))⟩ _ _ _ _ _ _ (by omega) ?_; intro zqh9 zqtk9 zqx9 zqtl9 zqe9 zqT9 zqV9; (have zqM9 := fresh_ne (by assumption) (.head _) zqT9); obtain ⟨zqF9, zqN9⟩ := both_ext (by assumption) (by assumption) zqe9 zqT9; (try simp only [List.cons_append, List.nil_append] at zqN9); k_sweep)) | (((with_reducible show wpAny _ _ (call (Value.ref 284) [_, Value.int _ _]) _ _ _); refine draw' (by assumption) (by assumption) (box_at (by assumption) (by assumption) (by assumption) (.tail _ (.head _)) (by assumption)) (by omega) (by omega) _ _ (by first | decide | omega) (by first | decide | omega) ?_; intro zqh9 zqtk9 zqr9 zqt9 zqe9 zqB9 zqhr9 zqhq9; obtain ⟨zqF9, zqo9, zqN9, zqb9, zqm9⟩ := box_back2 (by assumption) (by assumption) (by first | assumption | (refine Nat.ne_of_gt ?_; dsimp only; omega)) (by first | assumption | exact List.forall_mem_nil _) zqe9 zqB9; clear zqe9 zqB9; (try k_sweep))) | (((with_reducible show wpAny _ _ (call (Value.ref 298) [_]) _ _ _); refine text' (by assumption) (by assumption) (box_at (by assumption) (by assumption) (by assumption) (.head _) (by assumption)) (by omega) (by omega) ?_; intro zqh9 zqtk9 zqx9 zqt9 zqn9 zqe9 zqB9 zqhn9 zqhx9 zqhc9; (have zqhx8 : PySem.Str.length zqx9 ≤ 4 := zqhx9); obtain ⟨zqF9, zqo9, zqN9, zqb9⟩ := box_back (by assumption) (by assumption) (by first | assumption | exact List.forall_mem_nil _) zqe9 zqB9; clear zqe9 zqB9; (try k_sweep))) | (((with_reducible show wpAny _ _ (call (Value.ref 284) [_, Value.int _ _]) _ _ _); refine draw' (by assumption) (by assumption) (box_at (by assumption) (by assumption) (by assumption) (.head _) (by assumption)) (by omega) (by omega) _ _ (by first | decide | omega) (by first | decide | omega) ?_; intro zqh9 zqtk9 zqr9 zqt9 zqe9 zqB9 zqhr9 zqhq9; obtain ⟨zqF9, zqo9, zqN9, zqb9⟩ := box_back (by assumption) (by assumption) (by first | assumption | exact List.forall_mem_nil _) zqe9 zqB9; clear zqe9 zqB9; (try k_sweep))) | (dsimp only; walk1))))
      rename Fr _ _ _ _ => F10
      rename News _ _ _ _ => N10
      refine mkFault ⟨X.keeps F10.keep, T.keeps F10.keep⟩ xt _ _ _ (by omega) (fun h11 tk11 xf tlf e11 T11 VF => ?_)
      obtain ⟨F11, N11⟩ := both_ext F10 N10 e11 T11
      simp only [List.cons_append] at N11
      clear F10 N10
      (repeat' (first | ((fail_if_success (with_reducible show wpAny _ _ (eval (Expr.ListComp _ _ _ _) _) _ _ _)); (fail_if_success (with_reducible show wpAny _ _ (exec (Stmt.For _ _ _ _ _) _) _ _ _)); (fail_if_success (with_reducible show wpAny _ _ (exec (Stmt.While _ _ _ _) _) _ _ _)); (fail_if_success (with_reducible show Exists _)); (fail_if_success (with_reducible show LCg.CompEnd _ _ _ _ _ _ _ _ _ _ _ _ _ _)); (fail_if_success (with_reducible show ForEnd _ _ _ _ _ _ _ _)); (fail_if_success (with_reducible show wpAny _ _ (exec (Stmt.Assign _ (Expr.ListComp _ _ _ _) _) _) _ _ _)); (fail_if_success (with_reducible show LCg.CompSrc _ _ _ _ _ _ _ _ _ _ _ _ _ _)); first | with_reducible ((with_reducible show wpAny _ _ (subscriptTail (Expr.Name _ _) (Expr.Constant _ _ _) (Value.ref _) (Value.int _ _)) _ _ _); k_dflt (refine item_strsA (News.isList (by assumption) (.tail _ (.head _))) (by assumption) (by decide) (by assumption) (by decide) ?_)) | with_reducible (((with_reducible show wpAny _ _ (call (Value.builtin "len") [Value.ref _]) _ _ _); k_dflt (refine len_strsA (News.isList (by assumption) (.head _)) (by assumption) (by omega) ?_))) | with_reducible (((with_reducible show wpAny _ _ (call (Value.type "str") [Value.int _ _]) _ _ _); refine PySem.P.str_of_int (log_small (by omega)) ?_)) | with_reducible (((with_reducible show wpAny _ _ (subscriptTail _ _ (Value.ref _) (Value.int _ _)) _ _ _); k_dflt (refine pick_str (fun x => x.length ≤ 5) (by first | exact News.isList (by assumption) (.tail _ (.head _)) | exact lstK (Frag.In.keeps (by assumption) (Fr.keep (by assumption))) (by k_is)) (by first | assumption | exact (fm6 _).1) (by first | assumption | (simp only [List.length_cons, List.length_nil]; first | omega | exact (fm6 _).2)) (by simp only [List.length_cons, List.length_nil]; omega) (by (repeat' (first | exact List.forall_mem_nil _ | refine List.forall_mem_cons.mpr ⟨⟨_, _, rfl, ?_⟩, ?_⟩)) <;> ((try dsimp only); first | decide +kernel | omega)) ?_); intro zqx9 zqt9 zqhx9; (try dsimp only at zqhx9))) | walk1 | (((with_reducible show wpAny _ _ (call (Value.ref 45) [Value.int _ _, Value.int _ _, Value.int _ _]) _ _ _); refine mkPos ⟨Frag.In.keeps (by assumption) (Fr.keep (by assumption)), Top.keeps (by assumption) (Fr.keep (by assumption))⟩ _ _ _ _ _ _ (by omega) ?_; intro zqh9 zqtk9 zqx9 zqtl9 zqe9 zqT9 zqV9; (have zqM9 := fresh_ne (by assumption) (.head _) zqT9); obtain ⟨zqF9, zqN9⟩ := both_ext (by assumption) (by assumption) zqe9 zqT9; (try simp only [List.cons_append, List.nil_append] at zqN9); k_sweep)) | (((with_reducible show wpAny _ _ (call (Value.ref 284) [_, Value.int _ _]) _ _ _); refine draw' (by assumption) (by assumption) (box_at (by assumption) (by assumption) (by assumption) (.tail _ (.head _)) (by assumption)) (by omega) (by omega) _ _ (by first | decide | omega) (by first | decide | omega) ?_; intro zqh9 zqtk9 zqr9 zqt9 zqe9 zqB9 zqhr9 zqhq9; obtain ⟨zqF9, zqo9, zqN9, zqb9, zqm9⟩ := box_back2 (by assumption) (by assumption) (by first | assumption | (refine Nat.ne_of_gt ?_; dsimp only; omega)) (by first | assumption | exact List.forall_mem_nil _) zqe9 zqB9; clear zqe9 zqB9; (try k_sweep))) | (((with_reducible show wpAny _ _ (call (Value.ref 298) [_]) _ _ _); refine text' (by assumption) (by assumption) (box_at (by assumption) (by assumption) (by assumption) (.head _) (by assumption)) (by omega) (by omega) ?_; intro zqh9 zqtk9 zqx9 zqt9 zqn9 zqe9 zqB9 zqhn9 zqhx9 zqhc9; (have zqhx8 : PySem.Str.length zqx9 ≤ 4 := zqhx9); obtain ⟨zqF9, zqo9, zqN9, zqb9⟩ := box_back (by assumption) (by assumption) (by first | assumption | exact List.forall_mem_nil _) zqe9 zqB9; clear zqe9 zqB9; (try k_sweep))) | (((with_reducible show wpAny _ _ (call (Value.ref 284) [_, Value.int _ _]) _ _ _); refine draw' (by assumption) (by assumption) (box_at (by assumption) (by assumption) (by assumption) (.head _) (by assumption)) (by omega) (by omega) _ _ (by first | decide | omega) (by first | decide | omega) ?_; intro zqh9 zqtk9 zqr9 zqt9 zqe9 zqB9 zqhr9 zqhq9; obtain ⟨zqF9, zqo9, zqN9, zqb9⟩ := box_back (by assumption) (by assumption) (by first | assumption | exact List.forall_mem_nil _) zqe9 zqB9; clear zqe9 zqB9; (try k_sweep))) | (dsimp only; walk1))))
      refine showFaultP (pos := pos) ⟨X, T⟩ F11.keep (fresh_of N11) (VF.mono ?_) (VT.mono ?_) (VP.mono ?_) (.head _) (by have := strs_len hys; omega) hys hk5 hzs hpos (by omega) (fun h12 tk12 t12 e12 => ?_)
      · intro p hp; simp [hp]
      · intro p hp; simp [hp]
      · intro p hp; simp [hp]
      have F12 := F11.keeps e12
      have N12 := N11.grown e12
      clear F11 N11
      (repeat' (first | ((fail_if_success (with_reducible show wpAny _ _ (eval (Expr.ListComp _ _ _ _) _) _ _ _)); (fail_if_success (with_reducible show wpAny _ _ (exec (Stmt.For _ _ _ _ _) _) _ _ _)); (fail_if_success (with_reducible show wpAny _ _ (exec (Stmt.While _ _ _ _) _) _ _ _)); (fail_if_success (with_reducible show Exists _)); (fail_if_success (with_reducible show LCg.CompEnd _ _ _ _ _ _ _ _ _ _ _ _ _ _)); (fail_if_success (with_reducible show ForEnd _ _ _ _ _ _ _ _)); (fail_if_success (with_reducible show wpAny _ _ (exec (Stmt.Assign _ (Expr.ListComp _ _ _ _) _) _) _ _ _)); (fail_if_success (with_reducible show LCg.CompSrc _ _ _ _ _ _ _ _ _ _ _ _ _ _)); first | with_reducible ((with_reducible show wpAny _ _ (subscriptTail (Expr.Name _ _) (Expr.Constant _ _ _) (Value.ref _) (Value.int _ _)) _ _ _); k_dflt (refine item_strsA (News.isList (by assumption) (.tail _ (.head _))) (by assumption) (by decide) (by assumption) (by decide) ?_)) | with_reducible (((with_reducible show wpAny _ _ (call (Value.builtin "len") [Value.ref _]) _ _ _); k_dflt (refine len_strsA (News.isList (by assumption) (.head _)) (by assumption) (by omega) ?_))) | with_reducible (((with_reducible show wpAny _ _ (call (Value.type "str") [Value.int _ _]) _ _ _); refine PySem.P.str_of_int (log_small (by omega)) ?_)) | with_reducible (((with_reducible show wpAny _ _ (subscriptTail _ _ (Value.ref _) (Value.int _ _)) _ _ _); k_dflt (refine pick_str (fun x => x.length ≤ 5) (by first | exact News.isList (by assumption) (.tail _ (.head _)) | exact lstK (Frag.In.keeps (by assumption) (Fr.keep (by assumption))) (by k_is)) (by first | assumption | exact (fm6 _).1) (by first | assumption | (simp only [List.length_cons, List.length_nil]; first | omega | exact (fm6 _).2)) (by simp only [List.length_cons, List.length_nil]; omega) (by (repeat' (first | exact List.forall_mem_nil _ | refine List.forall_mem_cons.mpr ⟨⟨_, _, rfl, ?_⟩, ?_⟩)) <;> ((try dsimp only); first | decide +kernel | omega)) ?_); intro zqx9 zqt9 zqhx9; (try dsimp only at zqhx9))) | walk1 | (((with_reducible show wpAny _ _ (call (Value.ref 45) [Value.int _ _, Value.int _ _, Value.int _ _]) _ _ _); refine mkPos ⟨Frag.In.keeps (by assumption) (Fr.keep (by assumption)), Top.keeps (by assumption) (Fr.keep (by assumption))⟩ _ _ _ _ _ _ (by omega) ?_; intro zqh9 zqtk9 zqx9 zqtl9 zqe9 zqT9 zqV9; (have zqM9 := fresh_ne (by assumption) (.head _) zqT9); obtain ⟨zqF9, zqN9⟩ := both_ext (by assumption) (by assumption) zqe9 zqT9; (try simp only [List.cons_append, List.nil_append] at zqN9); k_sweep)) | (((with_reducible show wpAny _ _ (call (Value.ref 284) [_, Value.int _ _]) _ _ _); refine draw' (by assumption) (by assumption) (box_at (by assumption) (by assumption) (by assumption) (.tail _ (.head _)) (by assumption)) (by omega) (by omega) _ _ (by first | decide | omega) (by first | decide | omega) ?_; intro zqh9 zqtk9 zqr9 zqt9 zqe9 zqB9 zqhr9 zqhq9; obtain ⟨zqF9, zqo9, zqN9, zqb9, zqm9⟩ := box_back2 (by assumption) (by assumption) (by first | assumption | (refine Nat.ne_of_gt ?_; dsimp only; omega)) (by first | assumption | exact List.forall_mem_nil _) zqe9 zqB9; clear zqe9 zqB9; (try k_sweep))) | (((with_reducible show wpAny _ _ (call (Value.ref 298) [_]) _ _ _); refine text' (by assumption) (by assumption) (box_at (by assumption) (by assumption) (by assumption) (.head _) (by assumption)) (by omega) (by omega) ?_; intro zqh9 zqtk9 zqx9 zqt9 zqn9 zqe9 zqB9 zqhn9 zqhx9 zqhc9; (have zqhx8 : PySem.Str.length zqx9 ≤ 4 := zqhx9); obtain ⟨zqF9, zqo9, zqN9, zqb9⟩ := box_back (by assumption) (by assumption) (by first | assumption | exact List.forall_mem_nil _) zqe9 zqB9; clear zqe9 zqB9; (try k_sweep))) | (((with_reducible show wpAny _ _ (call (Value.ref 284) [_, Value.int _ _]) _ _ _); refine draw' (by assumption) (by assumption) (box_at (by assumption) (by assumption) (by assumption) (.head _) (by assumption)) (by omega) (by omega) _ _ (by first | decide | omega) (by first | decide | omega) ?_; intro zqh9 zqtk9 zqr9 zqt9 zqe9 zqB9 zqhr9 zqhq9; obtain ⟨zqF9, zqo9, zqN9, zqb9⟩ := box_back (by assumption) (by assumption) (by first | assumption | exact List.forall_mem_nil _) zqe9 zqB9; clear zqe9 zqB9; (try k_sweep))) | (dsimp only; walk1))))
      dsimp only [Ret]
      rw [beq_self_eq_true]
      rename Fr _ _ _ _ => F13
      subst hG
      exact ret _ _ (extB_of F13)
/-! the law: frames known, the cells beside the box, equal data -/
theorem any_frames {α : Type} {M : Model} {A : Around} {t : Sem α} {Q : α → Shared → Prop} {E : Value → Shared → Prop} {s : Shared} {dp un : Nat} (hA : A.handled = none) (h1 : A.depth = dp) (h2 : A.units = un)
    (h : wpAny M (AA dp un) t Q E s) : wpAny M A t Q E s := fun Γ p hΓ => h Γ p ⟨hΓ.1.trans hA, h1 ▸ hΓ.2.1, fun _ q => (nomatch q), fun _ q => (nomatch q), h2 ▸ hΓ.2.2.2.2⟩
noncomputable def frd : Obj := { cls := .none, data := .freed }
theorem push_frd (G : Heap) (b : Addr) : (G.push frd).get? b = G.get? b := by
  obtain ⟨objs, l⟩ := G
  show Heap.get? ⟨objs.push frd, l⟩ b = _
  unfold Heap.get?
  by_cases hb : b = objs.size
  · subst hb; simp [frd]
  · by_cases hlt : b < objs.size
    · rw [Array.getElem?_push, if_neg hb]
    · rw [Array.getElem?_push, if_neg hb]
theorem pad_to (k : Nat) : ∀ G : Heap, ∃ P : Heap, P.objs.size = G.objs.size + k ∧ ∀ b, P.get? b = G.get? b := by
  induction k with
  | zero => intro G; exact ⟨G, rfl, fun _ => rfl⟩
  | succ k ih =>
    intro G
    obtain ⟨P, h1, h2⟩ := ih (G.push frd)
    exact ⟨P, by rw [h1, Heap.size_push]; omega, fun b => by rw [h2, push_frd]⟩
theorem add_one (G : Heap) (c : Addr) (items : Array Value) (k : Nat) (hn : G.get? c = none) : ∃ H : Heap, Ext G H ∧ H.get? c = some (W.listOf items k) ∧ ∀ b o, H.get? b = some o → G.get? b = some o ∨ (b, o) = (c, W.listOf items k) := by
  obtain ⟨P, h1, h2⟩ := pad_to (c + 1) G
  have hc : c < P.objs.size := by rw [h1]; exact Nat.lt_of_lt_of_le (Nat.lt_succ_self c) (Nat.le_add_left _ _)
  have hs : (P.update c fun _ => W.listOf items k).get? c = some (W.listOf items k) := by
    obtain ⟨objs, l⟩ := P
    show Heap.get? ⟨objs.modify c _, l⟩ c = _
    unfold Heap.get?
    have hs : c < (objs.modify c fun _ => W.listOf items k).size := by simpa using hc
    rw [Array.getElem?_eq_getElem hs, Array.getElem_modify_self]
  refine ⟨P.update c fun _ => W.listOf items k, fun b o e => ?_, hs, fun b o e => ?_⟩
  · rw [Heap.get?_update_ne _ _ _ _ (fun q => by rw [q, hn] at e; cases e), h2]; exact e
  · by_cases hb : b = c
    · subst hb; rw [hs] at e; cases e; exact .inr rfl
    · rw [Heap.get?_update_ne _ _ _ _ hb, h2] at e; exact .inl e
section
variable {H G h : Heap} {L bx c : Addr} {m : Str → Option Value} {news : List (Addr × Obj)} {o : Obj} {n : Nat} {p : Addr × Obj}
/-- what the draws ask for stands in the base but for the one list -/
noncomputable def HG (H G : Heap) (p : Addr × Obj) : Prop := ∀ b o, H.get? b = some o → G.get? b = some o ∨ (b, o) = p
theorem ext_HG (hH : HG H G p) (F : Fr G L h m) (N : News G L h news) (hc : p ∈ news) : Ext H h := fun b o e => by
  rcases hH b o e with e | e
  · exact F.keep b o e
  · exact (N (b, o) (e ▸ hc)).1
theorem box_atL (hH : HG H G p) (F : Fr G L h m) (N : News G L h news) (hc : p ∈ news) (hm : (bx, o) ∈ news) (b : BoxO c n o) : BoxAt H h bx c n := ⟨ext_HG hH F N hc, o, N.get hm, b⟩
end
theorem kqd_str {x : Str} (h : ∀ c ∈ x.cps.toList, c < 256 ∨ c = 955) : PyData.strOk x = true := by
  unfold PyData.strOk
  rw [Array.all_eq_true_iff_forall_mem]
  intro c hc
  have := h c (Array.mem_toList_iff.mpr hc)
  exact decide_eq_true (by omega)
theorem kqd_plain : ∀ (n m : Nat) (d : Dat), n ≤ m → okD n d → kqdOk m (plainD d) = true
  | n, m, .none, _, _ => by cases m <;> rfl
  | n, m, .int i, _, _ => by cases m <;> rfl
  | n, m, .bool b, _, h => absurd h (by cases n <;> exact id)
  | n, m, .bytes b, _, h => absurd h (by cases n <;> exact id)
  | n, m, .str x, _, h => by
    have h1 : x.cps.size ≤ 4 ∧ ∀ c ∈ x.cps.toList, c < 256 ∨ c = 955 := by cases n <;> exact h
    cases m <;> exact kqd_str h1.2
  | 0, m, .tuple ds, _, h => absurd h id
  | 0, m, .list ds, _, h => absurd h id
  | n + 1, 0, d, h, _ => absurd h (by omega)
  | n + 1, m + 1, .tuple ds, h, ho => by
    have key : ∀ l : List Dat, okDs n l → (plainDs l).all (kqdOk m) = true := by
      intro l
      induction l with
      | nil => intro _; rfl
      | cons a r ih => intro hl; rw [plainDs, List.all_cons, kqd_plain n m a (by omega) hl.1, ih hl.2]; rfl
    exact key ds ho.2
  | n + 1, m + 1, .list ds, h, ho => by
    have key : ∀ l : List Dat, okDs n l → (plainDs l).all (kqdOk m) = true := by
      intro l
      induction l with
      | nil => intro _; rfl
      | cons a r ih => intro hl; rw [plainDs, List.all_cons, kqd_plain n m a (by omega) hl.1, ih hl.2]; rfl
    exact key ds ho.2
section
variable {prog : Program} {w : World} {A : Around} {E : Value → Shared → Prop} {s : Shared} {h₀ : Heap} {L : Addr} {news : List (Addr × Obj)} {Q : Value → Shared → Prop} {a b : Value} {D : Dat}
theorem ne_same (N : News h₀ L s.heap news) (Da : DatIn news a D) (Db : DatIn news b D) (ok : kqdOk 8 D = true) (hu : A.units + 64 < cLine) (h : Q (.bool false) s) : wpAny (model prog w) A (compareOp .NotEq a b) Q E s := by
  obtain ⟨as, ra⟩ := kqd_in N 8 Da ok
  obtain ⟨bs, rb⟩ := kqd_in N 8 Db ok
  have l := kqd_lay 8 D ok
  have hs : SeqAt.shaped (kqdP D) = true := by unfold SeqAt.shaped; rw [l.1, Bool.true_and]; exact decide_eq_true (Nat.le_trans l.2 (by decide))
  refine ne_dataH ra rb hs hs hu ?_
  rw [SeqAt.eqv_refl _ l.1]
  exact h
end
theorem leaf_ne {w : World} {tl : List (Addr × Obj)} {x : Addr} {k t : Str} {a : Value} (V : TokAt w tl x k t a) : (S (leafT k t) != S (leafT k t)) = false := by rw [bne, beq_self_eq_true]; rfl
theorem news_new {g h h' : Heap} {L : Addr} {m : Str → Option Value} {tl : List (Addr × Obj)} (F : Fr g L h m) (T : Fresh h h' tl) : News g L h' tl := fun p hp => by
  refine ⟨(T p hp).1, fun q => ?_, ?_⟩
  · obtain ⟨o, _, _, ho, _⟩ := F.ns
    have := (T p hp).2; rw [q, ho] at this; cases this
  · cases e : g.get? p.1 with
    | none => rfl
    | some o => have := F.keep _ _ e; rw [(T p hp).2] at this; cases this
theorem box_new {H h h' g : Heap} {L bx c : Addr} {m : Str → Option Value} {q : Addr × Obj} {o : Obj} {n' : Nat} {tl : List (Addr × Obj)} (F : Fr g L h m) (N : News g L h [(bx, o), q]) (ne : q.1 ≠ bx) (e : ExtB bx h h') (B : BoxAt H h' bx c n') (T : Fresh h h' tl) :
    Fr g L h' m ∧ ∃ o', News g L h' ((bx, o') :: q :: tl) ∧ BoxO c n' o' ∧ ∀ p ∈ q :: tl, p.1 ≠ bx := by
  obtain ⟨F', o', N', b'⟩ := box_back F N (fun p hp => List.mem_singleton.mp hp ▸ ne) e B
  have NT := news_new F T
  refine ⟨F', o', fun p hp => ?_, b', fun p hp => ?_⟩
  · rcases List.mem_cons.mp hp with rfl | hp
    · exact N' _ (.head _)
    · rcases List.mem_cons.mp hp with rfl | hp
      · exact N' _ (.tail _ (.head _))
      · exact NT p hp
  · rcases List.mem_cons.mp hp with rfl | hp
    · exact ne
    · exact fresh_ne N (.head _) T p hp
theorem news_app {g h : Heap} {L : Addr} {a b : List (Addr × Obj)} (N : News g L h a) (M : News g L h b) : News g L h (a ++ b) := fun p hp => (List.mem_append.mp hp).elim (N p) (M p)
theorem holds_of {g h : Heap} {L : Addr} {news tl : List (Addr × Obj)} (N : News g L h news) (hs : ∀ p ∈ tl, p ∈ news) : Holds h tl := fun p hp => (N p (hs p hp)).1
theorem box_ne {c : Addr} {n : Nat} {o : Obj} {vs : List Value} {ns : List Int} {k : Nat} (b : BoxO c n o) (hi : IntsAre vs ns) : o ≠ W.listOf vs.toArray k := fun q => by
  obtain ⟨g, st, pl, t1, t2, t3, k', rfl, _⟩ := b
  have h1 : (List.toArray [Value.ref c, .int g t1, .int st t2, .int pl t3]) = vs.toArray := by
    have := congrArg Obj.data q
    simp only [W.listOf] at this
    injection this
  have h2 := congrArg Array.toList h1
  simp only at h2
  rw [← h2] at hi
  cases hi
theorem holds : Challenge.rw_nn0356_01.Holds := by
  refine holds_law wellL fun said => ?_
  refine holds_open (q := Vx) (loose := [Str.ofString "_law_kinds", Str.ofString "_law_names"]) (Xt := fun s => xlAt Vx [] s && recOk (RowW.records RWR) s) (XP := XL Vx []) (Yf := Hook.obs HK) (Ya := Hook.val HK) (YP := Hook.says HK) (N := 4880) left (Hook.of HK) (Hook.keeps HK) (fun s e => xl_of s (Bool.and_eq_true_iff.mp e).1) XL.keeps (by rfl) (by rfl) (by rfl) (fun s e => recFacts_of (Bool.and_eq_true_iff.mp e).2) (by rfl) (by assumption) (by decide +kernel) ⟨rfl, rfl, rfl, rfl, rfl, tabW⟩ ?hw ?hc
  case hw => w_witness2
  k_go0
  rename Frag.In _ _ => KX
  rename Top _ _ _ _ _ _ => T
  rename Heap.IsList _ _ _ => hl
  rename IntsAre _ _ => hi
  rename Fr _ _ _ _ => F
  rename News _ _ _ _ => N
  rename ¬ _ < _ => hz
  rename Below _ _ _ _ => K0
  clear K0
  obtain ⟨dp, hdp⟩ : ∃ d, d = 1 + claimMargin + 1 := ⟨_, rfl⟩
  obtain ⟨un, hun⟩ : ∃ u : Nat, u = 7 := ⟨_, rfl⟩
  refine any_frames (dp := dp) (un := un) rfl (by rw [hdp]; rfl) (by rw [hun]; rfl) ?_
  have hroom : dp + 30 < recursionLimit := by rw [hdp]; decide
  have hcl : un + 200 < cLine := by rw [hun]; decide
  clear hdp hun
  rename World => w
  show wpAny (model PR w) (AA dp un) _ _ _ _
  k_fold
  rename Shared => s1
  try (rename Ground _ _ _ _ _ _ _ _ _ => g9; clear g9)
  try (rename Hook.says _ _ _ => g9; clear g9)
  try (rename Glob _ _ _ _ _ _ _ _ => g9; clear g9)
  try (rename Tables _ _ _ _ => g9; clear g9)
  try (rename TopE _ _ _ _ => g9; clear g9)
  try (rename TopW _ _ _ => g9; clear g9)
  try (rename BMod _ _ _ _ _ => g9; clear g9)
  try (rename Flt.MathXP _ _ _ => g9; clear g9)
  try (rename LooseAre _ _ _ => g9; clear g9)
  try (rename Heap.CodeRec _ _ _ => g9; clear g9)
  try (rename Well _ _ _ _ => g9; clear g9)
  try (rename ReadsAll _ _ _ _ => g9; clear g9)
  try (rename Reads _ _ _ _ => g9; clear g9)
  try (rename ReadsAllW _ _ _ _ _ _ => g9; clear g9)
  have O0 : Ok w s1.heap _ _ _ := ⟨KX, T⟩
  (repeat' (first | ((fail_if_success (with_reducible show wpAny _ _ (eval (Expr.ListComp _ _ _ _) _) _ _ _)); (fail_if_success (with_reducible show wpAny _ _ (exec (Stmt.For _ _ _ _ _) _) _ _ _)); (fail_if_success (with_reducible show wpAny _ _ (exec (Stmt.While _ _ _ _) _) _ _ _)); (fail_if_success (with_reducible show Exists _)); (fail_if_success (with_reducible show LCg.CompEnd _ _ _ _ _ _ _ _ _ _ _ _ _ _)); (fail_if_success (with_reducible show ForEnd _ _ _ _ _ _ _ _)); (fail_if_success (with_reducible show wpAny _ _ (exec (Stmt.Assign _ (Expr.ListComp _ _ _ _) _) _) _ _ _)); (fail_if_success (with_reducible show LCg.CompSrc _ _ _ _ _ _ _ _ _ _ _ _ _ _)); first | with_reducible (((with_reducible show wpAny _ _ (subscriptTail _ _ (Value.ref _) (Value.int _ _)) _ _ _); k_dflt (refine pick_str (fun x => x.length ≤ 5) (by first | exact News.isList (by assumption) (.tail _ (.head _)) | exact lstK (Frag.In.keeps (by assumption) (Fr.keep (by assumption))) (by k_is)) (by first | assumption | exact (fm6 _).1) (by first | assumption | (simp only [List.length_cons, List.length_nil]; first | omega | exact (fm6 _).2)) (by simp only [List.length_cons, List.length_nil]; omega) (by (repeat' (first | exact List.forall_mem_nil _ | refine List.forall_mem_cons.mpr ⟨⟨_, _, rfl, ?_⟩, ?_⟩)) <;> ((try dsimp only); first | decide +kernel | omega)) ?_); intro zqx9 zqt9 zqhx9; (try dsimp only at zqhx9))) | walk1 | (((with_reducible show wpAny _ _ (call (Value.ref 298) [_]) _ _ _); refine text' (by assumption) (by assumption) (box_atL (by assumption) (by assumption) (by assumption) (.tail _ (.head _)) (.head _) (by assumption)) (by omega) (by omega) ?_; intro zqh9 zqtk9 zqx9 zqt9 zqn9 zqe9 zqB9 zqhn9 zqhx9 zqhc9; (have zqhx8 : PySem.Str.length zqx9 ≤ 4 := zqhx9); obtain ⟨zqF9, zqo9, zqN9, zqb9⟩ := box_back (by assumption) (by assumption) (by assumption) zqe9 zqB9; clear zqe9 zqB9; (try k_sweep))) | (((with_reducible show wpAny _ _ (call (Value.ref 284) [_, Value.int _ _]) _ _ _); refine draw' (by assumption) (by assumption) (box_atL (by assumption) (by assumption) (by assumption) (.tail _ (.head _)) (.head _) (by assumption)) (by omega) (by omega) _ _ (by decide) (by decide) ?_; intro zqh9 zqtk9 zqr9 zqt9 zqe9 zqB9 zqhr9 zqhq9; obtain ⟨zqF9, zqo9, zqN9, zqb9⟩ := box_back (by assumption) (by assumption) (by assumption) zqe9 zqB9; clear zqe9 zqB9; (try k_sweep))) | (((with_reducible show wpAny _ _ (call (Value.ref 284) [_, Value.int _ _]) _ _ _); refine draw' (by assumption) (by assumption) (box_atL (by assumption) (by assumption) (by assumption) (.tail _ (.tail _ (.head _))) (.tail _ (.head _)) (by assumption)) (by omega) (by omega) _ _ (by decide) (by decide) ?_; intro zqh9 zqtk9 zqr9 zqt9 zqe9 zqB9 zqhr9 zqhq9; obtain ⟨zqF9, zqo9, zqN9, zqb9, zqm9⟩ := box_back2 (by assumption) (by assumption) (by first | assumption | (refine Nat.ne_of_gt ?_; dsimp only; omega)) (by assumption) zqe9 zqB9; clear zqe9 zqB9; (try k_sweep))) | (dsimp only; walk1))))
  refine lawBox ⟨KX.keeps F.keep, T.keeps F.keep⟩ (hl.at fun o e => F.keep _ o e) hi (by omega) (by omega) (fun h1 tk1 bx c vs' ns' o k1 e1 T1 b1 hi1 hlen1 => ?_)
  have F1 := F.keeps e1
  have N1 := news_new F T1
  have hbc : c ≠ bx := fun q => by
    have q1 := N1.get (.head _)
    have q2 := N1.get (.tail _ (.head _))
    rw [q, q1] at q2
    exact box_ne b1 hi1 (Option.some.inj q2)
  obtain ⟨H, hH1, hH2, hH3⟩ := add_one s1.heap c vs'.toArray k1 (N1 _ (.tail _ (.head _))).2.2
  have hHG : HG H s1.heap (c, W.listOf vs'.toArray k1) := hH3
  have OH := O0.keeps hH1
  have Y : Bx H bx c vs' ns' := ⟨by
    cases q : H.get? bx with
    | none => rfl
    | some ob =>
      rcases hH3 _ _ q with q | q
      · have := (N1 _ (.head _)).2.2; dsimp only at this; rw [q] at this; cases this
      · exact absurd (congrArg Prod.fst q).symm hbc, ⟨_, hH2, rfl, _, rfl⟩, hi1, hlen1⟩
  clear F N T1 e1 hH1 hH2 hH3
  (repeat' (first | ((fail_if_success (with_reducible show wpAny _ _ (eval (Expr.ListComp _ _ _ _) _) _ _ _)); (fail_if_success (with_reducible show wpAny _ _ (exec (Stmt.For _ _ _ _ _) _) _ _ _)); (fail_if_success (with_reducible show wpAny _ _ (exec (Stmt.While _ _ _ _) _) _ _ _)); (fail_if_success (with_reducible show Exists _)); (fail_if_success (with_reducible show LCg.CompEnd _ _ _ _ _ _ _ _ _ _ _ _ _ _)); (fail_if_success (with_reducible show ForEnd _ _ _ _ _ _ _ _)); (fail_if_success (with_reducible show wpAny _ _ (exec (Stmt.Assign _ (Expr.ListComp _ _ _ _) _) _) _ _ _)); (fail_if_success (with_reducible show LCg.CompSrc _ _ _ _ _ _ _ _ _ _ _ _ _ _)); first | with_reducible (((with_reducible show wpAny _ _ (subscriptTail _ _ (Value.ref _) (Value.int _ _)) _ _ _); k_dflt (refine pick_str (fun x => x.length ≤ 5) (by first | exact News.isList (by assumption) (.tail _ (.head _)) | exact lstK (Frag.In.keeps (by assumption) (Fr.keep (by assumption))) (by k_is)) (by first | assumption | exact (fm6 _).1) (by first | assumption | (simp only [List.length_cons, List.length_nil]; first | omega | exact (fm6 _).2)) (by simp only [List.length_cons, List.length_nil]; omega) (by (repeat' (first | exact List.forall_mem_nil _ | refine List.forall_mem_cons.mpr ⟨⟨_, _, rfl, ?_⟩, ?_⟩)) <;> ((try dsimp only); first | decide +kernel | omega)) ?_); intro zqx9 zqt9 zqhx9; (try dsimp only at zqhx9))) | walk1 | (((with_reducible show wpAny _ _ (call (Value.ref 298) [_]) _ _ _); refine text' (by assumption) (by assumption) (box_atL (by assumption) (by assumption) (by assumption) (.tail _ (.head _)) (.head _) (by assumption)) (by omega) (by omega) ?_; intro zqh9 zqtk9 zqx9 zqt9 zqn9 zqe9 zqB9 zqhn9 zqhx9 zqhc9; (have zqhx8 : PySem.Str.length zqx9 ≤ 4 := zqhx9); obtain ⟨zqF9, zqo9, zqN9, zqb9⟩ := box_back (by assumption) (by assumption) (by assumption) zqe9 zqB9; clear zqe9 zqB9; (try k_sweep))) | (((with_reducible show wpAny _ _ (call (Value.ref 284) [_, Value.int _ _]) _ _ _); refine draw' (by assumption) (by assumption) (box_atL (by assumption) (by assumption) (by assumption) (.tail _ (.head _)) (.head _) (by assumption)) (by omega) (by omega) _ _ (by decide) (by decide) ?_; intro zqh9 zqtk9 zqr9 zqt9 zqe9 zqB9 zqhr9 zqhq9; obtain ⟨zqF9, zqo9, zqN9, zqb9⟩ := box_back (by assumption) (by assumption) (by assumption) zqe9 zqB9; clear zqe9 zqB9; (try k_sweep))) | (((with_reducible show wpAny _ _ (call (Value.ref 284) [_, Value.int _ _]) _ _ _); refine draw' (by assumption) (by assumption) (box_atL (by assumption) (by assumption) (by assumption) (.tail _ (.tail _ (.head _))) (.tail _ (.head _)) (by assumption)) (by omega) (by omega) _ _ (by decide) (by decide) ?_; intro zqh9 zqtk9 zqr9 zqt9 zqe9 zqB9 zqhr9 zqhq9; obtain ⟨zqF9, zqo9, zqN9, zqb9, zqm9⟩ := box_back2 (by assumption) (by assumption) (by first | assumption | (refine Nat.ne_of_gt ?_; dsimp only; omega)) (by assumption) zqe9 zqB9; clear zqe9 zqB9; (try k_sweep))) | (dsimp only; walk1))))
  rename Fr _ _ _ _ => F2
  rename News _ _ _ _ => N2
  refine valueV 3 OH Y (box_atL hHG F2 N2 (.tail _ (.head _)) (.head _) b1) rfl (by decide) (by omega) (by decide) (fun h2 tk2 v tl d n2 e2 B2 hn2 T2 D2 hok => ?_)
  obtain ⟨F3, o2, N3, b2, ne2⟩ := box_new F2 N2 hbc e2 B2 T2
  clear e2 B2 T2 F2 N2 b1
  (repeat' (first | ((fail_if_success (with_reducible show wpAny _ _ (eval (Expr.ListComp _ _ _ _) _) _ _ _)); (fail_if_success (with_reducible show wpAny _ _ (exec (Stmt.For _ _ _ _ _) _) _ _ _)); (fail_if_success (with_reducible show wpAny _ _ (exec (Stmt.While _ _ _ _) _) _ _ _)); (fail_if_success (with_reducible show Exists _)); (fail_if_success (with_reducible show LCg.CompEnd _ _ _ _ _ _ _ _ _ _ _ _ _ _)); (fail_if_success (with_reducible show ForEnd _ _ _ _ _ _ _ _)); (fail_if_success (with_reducible show wpAny _ _ (exec (Stmt.Assign _ (Expr.ListComp _ _ _ _) _) _) _ _ _)); (fail_if_success (with_reducible show LCg.CompSrc _ _ _ _ _ _ _ _ _ _ _ _ _ _)); first | with_reducible (((with_reducible show wpAny _ _ (subscriptTail _ _ (Value.ref _) (Value.int _ _)) _ _ _); k_dflt (refine pick_str (fun x => x.length ≤ 5) (by first | exact News.isList (by assumption) (.tail _ (.head _)) | exact lstK (Frag.In.keeps (by assumption) (Fr.keep (by assumption))) (by k_is)) (by first | assumption | exact (fm6 _).1) (by first | assumption | (simp only [List.length_cons, List.length_nil]; first | omega | exact (fm6 _).2)) (by simp only [List.length_cons, List.length_nil]; omega) (by (repeat' (first | exact List.forall_mem_nil _ | refine List.forall_mem_cons.mpr ⟨⟨_, _, rfl, ?_⟩, ?_⟩)) <;> ((try dsimp only); first | decide +kernel | omega)) ?_); intro zqx9 zqt9 zqhx9; (try dsimp only at zqhx9))) | walk1 | (((with_reducible show wpAny _ _ (call (Value.ref 298) [_]) _ _ _); refine text' (by assumption) (by assumption) (box_atL (by assumption) (by assumption) (by assumption) (.tail _ (.head _)) (.head _) (by assumption)) (by omega) (by omega) ?_; intro zqh9 zqtk9 zqx9 zqt9 zqn9 zqe9 zqB9 zqhn9 zqhx9 zqhc9; (have zqhx8 : PySem.Str.length zqx9 ≤ 4 := zqhx9); obtain ⟨zqF9, zqo9, zqN9, zqb9⟩ := box_back (by assumption) (by assumption) (by assumption) zqe9 zqB9; clear zqe9 zqB9; (try k_sweep))) | (((with_reducible show wpAny _ _ (call (Value.ref 284) [_, Value.int _ _]) _ _ _); refine draw' (by assumption) (by assumption) (box_atL (by assumption) (by assumption) (by assumption) (.tail _ (.head _)) (.head _) (by assumption)) (by omega) (by omega) _ _ (by decide) (by decide) ?_; intro zqh9 zqtk9 zqr9 zqt9 zqe9 zqB9 zqhr9 zqhq9; obtain ⟨zqF9, zqo9, zqN9, zqb9⟩ := box_back (by assumption) (by assumption) (by assumption) zqe9 zqB9; clear zqe9 zqB9; (try k_sweep))) | (((with_reducible show wpAny _ _ (call (Value.ref 284) [_, Value.int _ _]) _ _ _); refine draw' (by assumption) (by assumption) (box_atL (by assumption) (by assumption) (by assumption) (.tail _ (.tail _ (.head _))) (.tail _ (.head _)) (by assumption)) (by omega) (by omega) _ _ (by decide) (by decide) ?_; intro zqh9 zqtk9 zqr9 zqt9 zqe9 zqB9 zqhr9 zqhq9; obtain ⟨zqF9, zqo9, zqN9, zqb9, zqm9⟩ := box_back2 (by assumption) (by assumption) (by first | assumption | (refine Nat.ne_of_gt ?_; dsimp only; omega)) (by assumption) zqe9 zqB9; clear zqe9 zqB9; (try k_sweep))) | (dsimp only; walk1))))
  rename Fr _ _ _ _ => F4
  rename News _ _ _ _ => N4
  refine showV 3 d hok ⟨KX.keeps F4.keep, T.keeps F4.keep⟩ (holds_of N4 fun p hp => .tail _ (.tail _ hp)) D2 (by decide) (by omega) (by omega) (fun h3 tk3 t3 e3 => ?_)
  have F5 := F4.keeps e3
  have N5 := N4.grown e3
  clear F4 N4 e3
  have hsl : (S (showL d)).length ≤ 940 := by rw [len_S]; exact Nat.le_trans (showL_len 3 d hok) (lenB_3 (by decide))
  have hs0 : (S (showL d) != S (showL d)) = false := by rw [bne, beq_self_eq_true]; rfl
  (repeat' (first | ((fail_if_success (with_reducible show wpAny _ _ (eval (Expr.ListComp _ _ _ _) _) _ _ _)); (fail_if_success (with_reducible show wpAny _ _ (exec (Stmt.For _ _ _ _ _) _) _ _ _)); (fail_if_success (with_reducible show wpAny _ _ (exec (Stmt.While _ _ _ _) _) _ _ _)); (fail_if_success (with_reducible show Exists _)); (fail_if_success (with_reducible show LCg.CompEnd _ _ _ _ _ _ _ _ _ _ _ _ _ _)); (fail_if_success (with_reducible show ForEnd _ _ _ _ _ _ _ _)); (fail_if_success (with_reducible show wpAny _ _ (exec (Stmt.Assign _ (Expr.ListComp _ _ _ _) _) _) _ _ _)); (fail_if_success (with_reducible show LCg.CompSrc _ _ _ _ _ _ _ _ _ _ _ _ _ _)); first | with_reducible (((with_reducible show wpAny _ _ (subscriptTail _ _ (Value.ref _) (Value.int _ _)) _ _ _); k_dflt (refine pick_str (fun x => x.length ≤ 5) (by first | exact News.isList (by assumption) (.tail _ (.head _)) | exact lstK (Frag.In.keeps (by assumption) (Fr.keep (by assumption))) (by k_is)) (by first | assumption | exact (fm6 _).1) (by first | assumption | (simp only [List.length_cons, List.length_nil]; first | omega | exact (fm6 _).2)) (by simp only [List.length_cons, List.length_nil]; omega) (by (repeat' (first | exact List.forall_mem_nil _ | refine List.forall_mem_cons.mpr ⟨⟨_, _, rfl, ?_⟩, ?_⟩)) <;> ((try dsimp only); first | decide +kernel | omega)) ?_); intro zqx9 zqt9 zqhx9; (try dsimp only at zqhx9))) | walk1 | (((with_reducible show wpAny _ _ (call (Value.ref 298) [_]) _ _ _); refine text' (by assumption) (by assumption) (box_atL (by assumption) (by assumption) (by assumption) (.tail _ (.head _)) (.head _) (by assumption)) (by omega) (by omega) ?_; intro zqh9 zqtk9 zqx9 zqt9 zqn9 zqe9 zqB9 zqhn9 zqhx9 zqhc9; (have zqhx8 : PySem.Str.length zqx9 ≤ 4 := zqhx9); obtain ⟨zqF9, zqo9, zqN9, zqb9⟩ := box_back (by assumption) (by assumption) (by assumption) zqe9 zqB9; clear zqe9 zqB9; (try k_sweep))) | (((with_reducible show wpAny _ _ (call (Value.ref 284) [_, Value.int _ _]) _ _ _); refine draw' (by assumption) (by assumption) (box_atL (by assumption) (by assumption) (by assumption) (.tail _ (.head _)) (.head _) (by assumption)) (by omega) (by omega) _ _ (by decide) (by decide) ?_; intro zqh9 zqtk9 zqr9 zqt9 zqe9 zqB9 zqhr9 zqhq9; obtain ⟨zqF9, zqo9, zqN9, zqb9⟩ := box_back (by assumption) (by assumption) (by assumption) zqe9 zqB9; clear zqe9 zqB9; (try k_sweep))) | (((with_reducible show wpAny _ _ (call (Value.ref 284) [_, Value.int _ _]) _ _ _); refine draw' (by assumption) (by assumption) (box_atL (by assumption) (by assumption) (by assumption) (.tail _ (.tail _ (.head _))) (.tail _ (.head _)) (by assumption)) (by omega) (by omega) _ _ (by decide) (by decide) ?_; intro zqh9 zqtk9 zqr9 zqt9 zqe9 zqB9 zqhr9 zqhq9; obtain ⟨zqF9, zqo9, zqN9, zqb9, zqm9⟩ := box_back2 (by assumption) (by assumption) (by first | assumption | (refine Nat.ne_of_gt ?_; dsimp only; omega)) (by assumption) zqe9 zqB9; clear zqe9 zqB9; (try k_sweep))) | (dsimp only; walk1))))
  rename Fr _ _ _ _ => F6
  rename News _ _ _ _ => N6
  refine shownV 3 d hok ⟨KX.keeps F6.keep, T.keeps F6.keep⟩ (holds_of N6 fun p hp => .tail _ (.tail _ hp)) D2 (by decide) (by omega) (by omega) (fun h4 tk4 t4 e4 => ?_)
  have F7 := F6.keeps e4
  have N7 := N6.grown e4
  clear F6 N6 e4
  (repeat' (first | ((fail_if_success (with_reducible show wpAny _ _ (eval (Expr.ListComp _ _ _ _) _) _ _ _)); (fail_if_success (with_reducible show wpAny _ _ (exec (Stmt.For _ _ _ _ _) _) _ _ _)); (fail_if_success (with_reducible show wpAny _ _ (exec (Stmt.While _ _ _ _) _) _ _ _)); (fail_if_success (with_reducible show Exists _)); (fail_if_success (with_reducible show LCg.CompEnd _ _ _ _ _ _ _ _ _ _ _ _ _ _)); (fail_if_success (with_reducible show ForEnd _ _ _ _ _ _ _ _)); (fail_if_success (with_reducible show wpAny _ _ (exec (Stmt.Assign _ (Expr.ListComp _ _ _ _) _) _) _ _ _)); (fail_if_success (with_reducible show LCg.CompSrc _ _ _ _ _ _ _ _ _ _ _ _ _ _)); first | with_reducible (((with_reducible show wpAny _ _ (subscriptTail _ _ (Value.ref _) (Value.int _ _)) _ _ _); k_dflt (refine pick_str (fun x => x.length ≤ 5) (by first | exact News.isList (by assumption) (.tail _ (.head _)) | exact lstK (Frag.In.keeps (by assumption) (Fr.keep (by assumption))) (by k_is)) (by first | assumption | exact (fm6 _).1) (by first | assumption | (simp only [List.length_cons, List.length_nil]; first | omega | exact (fm6 _).2)) (by simp only [List.length_cons, List.length_nil]; omega) (by (repeat' (first | exact List.forall_mem_nil _ | refine List.forall_mem_cons.mpr ⟨⟨_, _, rfl, ?_⟩, ?_⟩)) <;> ((try dsimp only); first | decide +kernel | omega)) ?_); intro zqx9 zqt9 zqhx9; (try dsimp only at zqhx9))) | walk1 | (((with_reducible show wpAny _ _ (call (Value.ref 298) [_]) _ _ _); refine text' (by assumption) (by assumption) (box_atL (by assumption) (by assumption) (by assumption) (.tail _ (.head _)) (.head _) (by assumption)) (by omega) (by omega) ?_; intro zqh9 zqtk9 zqx9 zqt9 zqn9 zqe9 zqB9 zqhn9 zqhx9 zqhc9; (have zqhx8 : PySem.Str.length zqx9 ≤ 4 := zqhx9); obtain ⟨zqF9, zqo9, zqN9, zqb9⟩ := box_back (by assumption) (by assumption) (by assumption) zqe9 zqB9; clear zqe9 zqB9; (try k_sweep))) | (((with_reducible show wpAny _ _ (call (Value.ref 284) [_, Value.int _ _]) _ _ _); refine draw' (by assumption) (by assumption) (box_atL (by assumption) (by assumption) (by assumption) (.tail _ (.head _)) (.head _) (by assumption)) (by omega) (by omega) _ _ (by decide) (by decide) ?_; intro zqh9 zqtk9 zqr9 zqt9 zqe9 zqB9 zqhr9 zqhq9; obtain ⟨zqF9, zqo9, zqN9, zqb9⟩ := box_back (by assumption) (by assumption) (by assumption) zqe9 zqB9; clear zqe9 zqB9; (try k_sweep))) | (((with_reducible show wpAny _ _ (call (Value.ref 284) [_, Value.int _ _]) _ _ _); refine draw' (by assumption) (by assumption) (box_atL (by assumption) (by assumption) (by assumption) (.tail _ (.tail _ (.head _))) (.tail _ (.head _)) (by assumption)) (by omega) (by omega) _ _ (by decide) (by decide) ?_; intro zqh9 zqtk9 zqr9 zqt9 zqe9 zqB9 zqhr9 zqhq9; obtain ⟨zqF9, zqo9, zqN9, zqb9, zqm9⟩ := box_back2 (by assumption) (by assumption) (by first | assumption | (refine Nat.ne_of_gt ?_; dsimp only; omega)) (by assumption) zqe9 zqB9; clear zqe9 zqB9; (try k_sweep))) | (dsimp only; walk1))))
  rename Fr _ _ _ _ => F8
  rename News _ _ _ _ => N8
  refine readV 3 d hok (pre := []) (post := []) ⟨KX.keeps F8.keep, T.keeps F8.keep⟩ (by show (showL d).toArray.toList = _; simp) (.inl rfl) rfl (by omega) (by decide) (by omega) (by omega) (fun h5 tk5 r5 v5 tl5 t5 e5 T5 D5 => ?_)
  have N9 := news_new F8 T5
  have N10 := N8.grown e5
  have F9 := F8.keeps e5
  have N11 : News s1.heap s1.heap.objs.size h5 ((r5, { cls := .type "tuple", data := .seq #[v5, .int ((([] : List Nat).length : Nat) + ((showL d).length : Nat)) t5] }) :: (bx, o2) :: (c, W.listOf vs'.toArray k1) :: (tl ++ tl5)) := fun p hp => by
    rcases List.mem_cons.mp hp with rfl | hp
    · exact N9 _ (.head _)
    · rcases List.mem_cons.mp hp with rfl | hp
      · exact N10 _ (.head _)
      · rcases List.mem_cons.mp hp with rfl | hp
        · exact N10 _ (.tail _ (.head _))
        · rcases List.mem_append.mp hp with hp | hp
          · exact N10 _ (.tail _ (.tail _ hp))
          · exact N9 _ (.tail _ hp)
  clear F8 N8 N9 N10 e5 T5
  (repeat' (first | ((fail_if_success (with_reducible show wpAny _ _ (eval (Expr.ListComp _ _ _ _) _) _ _ _)); (fail_if_success (with_reducible show wpAny _ _ (exec (Stmt.For _ _ _ _ _) _) _ _ _)); (fail_if_success (with_reducible show wpAny _ _ (exec (Stmt.While _ _ _ _) _) _ _ _)); (fail_if_success (with_reducible show Exists _)); (fail_if_success (with_reducible show LCg.CompEnd _ _ _ _ _ _ _ _ _ _ _ _ _ _)); (fail_if_success (with_reducible show ForEnd _ _ _ _ _ _ _ _)); (fail_if_success (with_reducible show wpAny _ _ (exec (Stmt.Assign _ (Expr.ListComp _ _ _ _) _) _) _ _ _)); (fail_if_success (with_reducible show LCg.CompSrc _ _ _ _ _ _ _ _ _ _ _ _ _ _)); first | with_reducible (((with_reducible show wpAny _ _ (subscriptTail _ _ (Value.ref _) (Value.int _ _)) _ _ _); k_dflt (refine pick_str (fun x => x.length ≤ 5) (by first | exact News.isList (by assumption) (.tail _ (.head _)) | exact lstK (Frag.In.keeps (by assumption) (Fr.keep (by assumption))) (by k_is)) (by first | assumption | exact (fm6 _).1) (by first | assumption | (simp only [List.length_cons, List.length_nil]; first | omega | exact (fm6 _).2)) (by simp only [List.length_cons, List.length_nil]; omega) (by (repeat' (first | exact List.forall_mem_nil _ | refine List.forall_mem_cons.mpr ⟨⟨_, _, rfl, ?_⟩, ?_⟩)) <;> ((try dsimp only); first | decide +kernel | omega)) ?_); intro zqx9 zqt9 zqhx9; (try dsimp only at zqhx9))) | walk1 | (((with_reducible show wpAny _ _ (call (Value.ref 298) [_]) _ _ _); refine text' (by assumption) (by assumption) (box_atL (by assumption) (by assumption) (by assumption) (.tail _ (.head _)) (.head _) (by assumption)) (by omega) (by omega) ?_; intro zqh9 zqtk9 zqx9 zqt9 zqn9 zqe9 zqB9 zqhn9 zqhx9 zqhc9; (have zqhx8 : PySem.Str.length zqx9 ≤ 4 := zqhx9); obtain ⟨zqF9, zqo9, zqN9, zqb9⟩ := box_back (by assumption) (by assumption) (by assumption) zqe9 zqB9; clear zqe9 zqB9; (try k_sweep))) | (((with_reducible show wpAny _ _ (call (Value.ref 284) [_, Value.int _ _]) _ _ _); refine draw' (by assumption) (by assumption) (box_atL (by assumption) (by assumption) (by assumption) (.tail _ (.head _)) (.head _) (by assumption)) (by omega) (by omega) _ _ (by decide) (by decide) ?_; intro zqh9 zqtk9 zqr9 zqt9 zqe9 zqB9 zqhr9 zqhq9; obtain ⟨zqF9, zqo9, zqN9, zqb9⟩ := box_back (by assumption) (by assumption) (by assumption) zqe9 zqB9; clear zqe9 zqB9; (try k_sweep))) | (((with_reducible show wpAny _ _ (call (Value.ref 284) [_, Value.int _ _]) _ _ _); refine draw' (by assumption) (by assumption) (box_atL (by assumption) (by assumption) (by assumption) (.tail _ (.tail _ (.head _))) (.tail _ (.head _)) (by assumption)) (by omega) (by omega) _ _ (by decide) (by decide) ?_; intro zqh9 zqtk9 zqr9 zqt9 zqe9 zqB9 zqhr9 zqhq9; obtain ⟨zqF9, zqo9, zqN9, zqb9, zqm9⟩ := box_back2 (by assumption) (by assumption) (by first | assumption | (refine Nat.ne_of_gt ?_; dsimp only; omega)) (by assumption) zqe9 zqB9; clear zqe9 zqB9; (try k_sweep))) | (dsimp only; walk1))))
  rename Fr _ _ _ _ => F12
  rename News _ _ _ _ => N12
  refine plainV 3 d hok ⟨KX.keeps F12.keep, T.keeps F12.keep⟩ (holds_of N12 fun p hp => .tail _ (.tail _ (.tail _ (List.mem_append_left _ hp)))) D2 (by decide) (by omega) (by omega) (fun h6 tk6 r6 tl6 e6 T6 D6 => ?_)
  have N13 := news_new F12 T6
  have N14 := N12.grown e6
  have F13 := F12.keeps e6
  have N15 := news_app N14 N13
  simp only [List.cons_append] at N15
  clear F12 N12 N13 N14 e6 T6
  rw [show tl ++ tl5 ++ tl6 = tl ++ (tl5 ++ tl6) by rw [List.append_assoc]] at N15
  (repeat' (first | ((fail_if_success (with_reducible show wpAny _ _ (eval (Expr.ListComp _ _ _ _) _) _ _ _)); (fail_if_success (with_reducible show wpAny _ _ (exec (Stmt.For _ _ _ _ _) _) _ _ _)); (fail_if_success (with_reducible show wpAny _ _ (exec (Stmt.While _ _ _ _) _) _ _ _)); (fail_if_success (with_reducible show Exists _)); (fail_if_success (with_reducible show wpAny _ _ (compareOp CmpOp.NotEq (Value.ref _) (Value.ref _)) _ _ _)); (fail_if_success (with_reducible show LCg.CompEnd _ _ _ _ _ _ _ _ _ _ _ _ _ _)); (fail_if_success (with_reducible show ForEnd _ _ _ _ _ _ _ _)); (fail_if_success (with_reducible show wpAny _ _ (exec (Stmt.Assign _ (Expr.ListComp _ _ _ _) _) _) _ _ _)); (fail_if_success (with_reducible show LCg.CompSrc _ _ _ _ _ _ _ _ _ _ _ _ _ _)); first | with_reducible (((with_reducible show wpAny _ _ (subscriptTail _ _ (Value.ref _) (Value.int _ _)) _ _ _); k_dflt (refine pick_str (fun x => x.length ≤ 5) (by first | exact News.isList (by assumption) (.tail _ (.head _)) | exact lstK (Frag.In.keeps (by assumption) (Fr.keep (by assumption))) (by k_is)) (by first | assumption | exact (fm6 _).1) (by first | assumption | (simp only [List.length_cons, List.length_nil]; first | omega | exact (fm6 _).2)) (by simp only [List.length_cons, List.length_nil]; omega) (by (repeat' (first | exact List.forall_mem_nil _ | refine List.forall_mem_cons.mpr ⟨⟨_, _, rfl, ?_⟩, ?_⟩)) <;> ((try dsimp only); first | decide +kernel | omega)) ?_); intro zqx9 zqt9 zqhx9; (try dsimp only at zqhx9))) | walk1 | (((with_reducible show wpAny _ _ (call (Value.ref 298) [_]) _ _ _); refine text' (by assumption) (by assumption) (box_atL (by assumption) (by assumption) (by assumption) (.tail _ (.head _)) (.head _) (by assumption)) (by omega) (by omega) ?_; intro zqh9 zqtk9 zqx9 zqt9 zqn9 zqe9 zqB9 zqhn9 zqhx9 zqhc9; (have zqhx8 : PySem.Str.length zqx9 ≤ 4 := zqhx9); obtain ⟨zqF9, zqo9, zqN9, zqb9⟩ := box_back (by assumption) (by assumption) (by assumption) zqe9 zqB9; clear zqe9 zqB9; (try k_sweep))) | (((with_reducible show wpAny _ _ (call (Value.ref 284) [_, Value.int _ _]) _ _ _); refine draw' (by assumption) (by assumption) (box_atL (by assumption) (by assumption) (by assumption) (.tail _ (.head _)) (.head _) (by assumption)) (by omega) (by omega) _ _ (by decide) (by decide) ?_; intro zqh9 zqtk9 zqr9 zqt9 zqe9 zqB9 zqhr9 zqhq9; obtain ⟨zqF9, zqo9, zqN9, zqb9⟩ := box_back (by assumption) (by assumption) (by assumption) zqe9 zqB9; clear zqe9 zqB9; (try k_sweep))) | (((with_reducible show wpAny _ _ (call (Value.ref 284) [_, Value.int _ _]) _ _ _); refine draw' (by assumption) (by assumption) (box_atL (by assumption) (by assumption) (by assumption) (.tail _ (.tail _ (.head _))) (.tail _ (.head _)) (by assumption)) (by omega) (by omega) _ _ (by decide) (by decide) ?_; intro zqh9 zqtk9 zqr9 zqt9 zqe9 zqB9 zqhr9 zqhq9; obtain ⟨zqF9, zqo9, zqN9, zqb9, zqm9⟩ := box_back2 (by assumption) (by assumption) (by first | assumption | (refine Nat.ne_of_gt ?_; dsimp only; omega)) (by assumption) zqe9 zqB9; clear zqe9 zqB9; (try k_sweep))) | (dsimp only; walk1))))
  have hlen0 : (((([] : List Nat).length : Nat) : Int) + ((showL d).length : Nat)) = ((S (showL d)).length : Nat) := by rw [len_S]; simp
  rename News _ _ _ _ => N16
  rename Fr _ _ _ _ => F16
  rw [hlen0] at N16
  refine ne_same (D := .tuple [plainD d, .int ((S (showL d)).length : Nat)]) N16 (.tuple (.tail _ (.head _)) (.cons (D5.mono fun p hp => .tail _ (.tail _ (.tail _ (.tail _ (List.mem_append_right _ (List.mem_append_left _ hp)))))) (.cons (.int _ _) .nil))) (.tuple (.head _) (.cons (D6.mono fun p hp => .tail _ (.tail _ (.tail _ (.tail _ (List.mem_append_right _ (List.mem_append_right _ hp)))))) (.cons (.int _ _) .nil))) ?_ (by show un + 64 < cLine; omega) ?_
  · show (kqdOk 7 (plainD d) && (kqdOk 7 (.int _) && true)) = true
    rw [kqd_plain 3 7 d (by decide) hok]; rfl
  have N17 : News s1.heap s1.heap.objs.size _ [(bx, o2), (c, W.listOf vs'.toArray k1)] := news_sub N16 fun p hp => by
    simp only [List.mem_cons, List.not_mem_nil, or_false] at hp ⊢; rcases hp with h | h <;> simp [h]
  clear N16 D2 D5 D6 ne2 hs0 hlen0
  (repeat' (first | ((fail_if_success (with_reducible show wpAny _ _ (eval (Expr.ListComp _ _ _ _) _) _ _ _)); (fail_if_success (with_reducible show wpAny _ _ (exec (Stmt.For _ _ _ _ _) _) _ _ _)); (fail_if_success (with_reducible show wpAny _ _ (exec (Stmt.While _ _ _ _) _) _ _ _)); (fail_if_success (with_reducible show Exists _)); (fail_if_success (with_reducible show LCg.CompEnd _ _ _ _ _ _ _ _ _ _ _ _ _ _)); (fail_if_success (with_reducible show ForEnd _ _ _ _ _ _ _ _)); (fail_if_success (with_reducible show wpAny _ _ (exec (Stmt.Assign _ (Expr.ListComp _ _ _ _) _) _) _ _ _)); (fail_if_success (with_reducible show LCg.CompSrc _ _ _ _ _ _ _ _ _ _ _ _ _ _)); first | with_reducible (((with_reducible show wpAny _ _ (subscriptTail _ _ (Value.ref _) (Value.int _ _)) _ _ _); k_dflt (refine pick_str (fun x => x.length ≤ 5) (by first | exact News.isList (by assumption) (.tail _ (.head _)) | exact lstK (Frag.In.keeps (by assumption) (Fr.keep (by assumption))) (by k_is)) (by first | assumption | exact (fm6 _).1) (by first | assumption | (simp only [List.length_cons, List.length_nil]; first | omega | exact (fm6 _).2)) (by simp only [List.length_cons, List.length_nil]; omega) (by (repeat' (first | exact List.forall_mem_nil _ | refine List.forall_mem_cons.mpr ⟨⟨_, _, rfl, ?_⟩, ?_⟩)) <;> ((try dsimp only); first | decide +kernel | omega)) ?_); intro zqx9 zqt9 zqhx9; (try dsimp only at zqhx9))) | walk1 | (((with_reducible show wpAny _ _ (call (Value.ref 298) [_]) _ _ _); refine text' (by assumption) (by assumption) (box_atL (by assumption) (by assumption) (by assumption) (.tail _ (.head _)) (.head _) (by assumption)) (by omega) (by omega) ?_; intro zqh9 zqtk9 zqx9 zqt9 zqn9 zqe9 zqB9 zqhn9 zqhx9 zqhc9; (have zqhx8 : PySem.Str.length zqx9 ≤ 4 := zqhx9); obtain ⟨zqF9, zqo9, zqN9, zqb9⟩ := box_back (by assumption) (by assumption) (by assumption) zqe9 zqB9; clear zqe9 zqB9; (try k_sweep))) | (((with_reducible show wpAny _ _ (call (Value.ref 284) [_, Value.int _ _]) _ _ _); refine draw' (by assumption) (by assumption) (box_atL (by assumption) (by assumption) (by assumption) (.tail _ (.head _)) (.head _) (by assumption)) (by omega) (by omega) _ _ (by decide) (by decide) ?_; intro zqh9 zqtk9 zqr9 zqt9 zqe9 zqB9 zqhr9 zqhq9; obtain ⟨zqF9, zqo9, zqN9, zqb9⟩ := box_back (by assumption) (by assumption) (by assumption) zqe9 zqB9; clear zqe9 zqB9; (try k_sweep))) | (((with_reducible show wpAny _ _ (call (Value.ref 284) [_, Value.int _ _]) _ _ _); refine draw' (by assumption) (by assumption) (box_atL (by assumption) (by assumption) (by assumption) (.tail _ (.tail _ (.head _))) (.tail _ (.head _)) (by assumption)) (by omega) (by omega) _ _ (by decide) (by decide) ?_; intro zqh9 zqtk9 zqr9 zqt9 zqe9 zqB9 zqhr9 zqhq9; obtain ⟨zqF9, zqo9, zqN9, zqb9, zqm9⟩ := box_back2 (by assumption) (by assumption) (by first | assumption | (refine Nat.ne_of_gt ?_; dsimp only; omega)) (by assumption) zqe9 zqB9; clear zqe9 zqB9; (try k_sweep))) | (dsimp only; walk1))))
  rename Fr _ _ _ _ => F18
  rename News _ _ _ _ => N18
  have hcV : costV 3 = 404 := by decide
  have hcN : costN 3 = 471 := by decide
  refine nodeV 3 OH Y (box_atL hHG F18 N18 (.tail _ (.head _)) (.head _) b2) rfl (by decide) (by omega) (by omega) (fun h7 tk7 r7 tl7 d7 n7 e7 B7 hn7 T7 D7 hok7 => ?_)
  obtain ⟨F19, o7, N19, b7, ne7⟩ := box_new F18 N18 hbc e7 B7 T7
  clear e7 B7 T7 F18 N18 b2
  (repeat' (first | ((fail_if_success (with_reducible show wpAny _ _ (eval (Expr.ListComp _ _ _ _) _) _ _ _)); (fail_if_success (with_reducible show wpAny _ _ (exec (Stmt.For _ _ _ _ _) _) _ _ _)); (fail_if_success (with_reducible show wpAny _ _ (exec (Stmt.While _ _ _ _) _) _ _ _)); (fail_if_success (with_reducible show Exists _)); (fail_if_success (with_reducible show LCg.CompEnd _ _ _ _ _ _ _ _ _ _ _ _ _ _)); (fail_if_success (with_reducible show ForEnd _ _ _ _ _ _ _ _)); (fail_if_success (with_reducible show wpAny _ _ (exec (Stmt.Assign _ (Expr.ListComp _ _ _ _) _) _) _ _ _)); (fail_if_success (with_reducible show LCg.CompSrc _ _ _ _ _ _ _ _ _ _ _ _ _ _)); first | with_reducible (((with_reducible show wpAny _ _ (subscriptTail _ _ (Value.ref _) (Value.int _ _)) _ _ _); k_dflt (refine pick_str (fun x => x.length ≤ 5) (by first | exact News.isList (by assumption) (.tail _ (.head _)) | exact lstK (Frag.In.keeps (by assumption) (Fr.keep (by assumption))) (by k_is)) (by first | assumption | exact (fm6 _).1) (by first | assumption | (simp only [List.length_cons, List.length_nil]; first | omega | exact (fm6 _).2)) (by simp only [List.length_cons, List.length_nil]; omega) (by (repeat' (first | exact List.forall_mem_nil _ | refine List.forall_mem_cons.mpr ⟨⟨_, _, rfl, ?_⟩, ?_⟩)) <;> ((try dsimp only); first | decide +kernel | omega)) ?_); intro zqx9 zqt9 zqhx9; (try dsimp only at zqhx9))) | walk1 | (((with_reducible show wpAny _ _ (call (Value.ref 298) [_]) _ _ _); refine text' (by assumption) (by assumption) (box_atL (by assumption) (by assumption) (by assumption) (.tail _ (.head _)) (.head _) (by assumption)) (by omega) (by omega) ?_; intro zqh9 zqtk9 zqx9 zqt9 zqn9 zqe9 zqB9 zqhn9 zqhx9 zqhc9; (have zqhx8 : PySem.Str.length zqx9 ≤ 4 := zqhx9); obtain ⟨zqF9, zqo9, zqN9, zqb9⟩ := box_back (by assumption) (by assumption) (by assumption) zqe9 zqB9; clear zqe9 zqB9; (try k_sweep))) | (((with_reducible show wpAny _ _ (call (Value.ref 284) [_, Value.int _ _]) _ _ _); refine draw' (by assumption) (by assumption) (box_atL (by assumption) (by assumption) (by assumption) (.tail _ (.head _)) (.head _) (by assumption)) (by omega) (by omega) _ _ (by decide) (by decide) ?_; intro zqh9 zqtk9 zqr9 zqt9 zqe9 zqB9 zqhr9 zqhq9; obtain ⟨zqF9, zqo9, zqN9, zqb9⟩ := box_back (by assumption) (by assumption) (by assumption) zqe9 zqB9; clear zqe9 zqB9; (try k_sweep))) | (((with_reducible show wpAny _ _ (call (Value.ref 284) [_, Value.int _ _]) _ _ _); refine draw' (by assumption) (by assumption) (box_atL (by assumption) (by assumption) (by assumption) (.tail _ (.tail _ (.head _))) (.tail _ (.head _)) (by assumption)) (by omega) (by omega) _ _ (by decide) (by decide) ?_; intro zqh9 zqtk9 zqr9 zqt9 zqe9 zqB9 zqhr9 zqhq9; obtain ⟨zqF9, zqo9, zqN9, zqb9, zqm9⟩ := box_back2 (by assumption) (by assumption) (by first | assumption | (refine Nat.ne_of_gt ?_; dsimp only; omega)) (by assumption) zqe9 zqB9; clear zqe9 zqB9; (try k_sweep))) | (dsimp only; walk1))))
  rename Fr _ _ _ _ => F20
  rename News _ _ _ _ => N20
  refine treeV 3 d7 hok7 ⟨KX.keeps F20.keep, T.keeps F20.keep⟩ (holds_of N20 fun p hp => .tail _ (.tail _ hp)) D7 (by decide) (by omega) (fun h8 tk8 r8 tl8 e8 T8 R8 => ?_)
  have N21 := news_app (N20.grown e8) (news_new F20 T8)
  have F21 := F20.keeps e8
  simp only [List.cons_append] at N21
  clear F20 N20 e8 T8
  (repeat' (first | ((fail_if_success (with_reducible show wpAny _ _ (eval (Expr.ListComp _ _ _ _) _) _ _ _)); (fail_if_success (with_reducible show wpAny _ _ (exec (Stmt.For _ _ _ _ _) _) _ _ _)); (fail_if_success (with_reducible show wpAny _ _ (exec (Stmt.While _ _ _ _) _) _ _ _)); (fail_if_success (with_reducible show Exists _)); (fail_if_success (with_reducible show LCg.CompEnd _ _ _ _ _ _ _ _ _ _ _ _ _ _)); (fail_if_success (with_reducible show ForEnd _ _ _ _ _ _ _ _)); (fail_if_success (with_reducible show wpAny _ _ (exec (Stmt.Assign _ (Expr.ListComp _ _ _ _) _) _) _ _ _)); (fail_if_success (with_reducible show LCg.CompSrc _ _ _ _ _ _ _ _ _ _ _ _ _ _)); first | with_reducible (((with_reducible show wpAny _ _ (subscriptTail _ _ (Value.ref _) (Value.int _ _)) _ _ _); k_dflt (refine pick_str (fun x => x.length ≤ 5) (by first | exact News.isList (by assumption) (.tail _ (.head _)) | exact lstK (Frag.In.keeps (by assumption) (Fr.keep (by assumption))) (by k_is)) (by first | assumption | exact (fm6 _).1) (by first | assumption | (simp only [List.length_cons, List.length_nil]; first | omega | exact (fm6 _).2)) (by simp only [List.length_cons, List.length_nil]; omega) (by (repeat' (first | exact List.forall_mem_nil _ | refine List.forall_mem_cons.mpr ⟨⟨_, _, rfl, ?_⟩, ?_⟩)) <;> ((try dsimp only); first | decide +kernel | omega)) ?_); intro zqx9 zqt9 zqhx9; (try dsimp only at zqhx9))) | walk1 | (((with_reducible show wpAny _ _ (call (Value.ref 298) [_]) _ _ _); refine text' (by assumption) (by assumption) (box_atL (by assumption) (by assumption) (by assumption) (.tail _ (.head _)) (.head _) (by assumption)) (by omega) (by omega) ?_; intro zqh9 zqtk9 zqx9 zqt9 zqn9 zqe9 zqB9 zqhn9 zqhx9 zqhc9; (have zqhx8 : PySem.Str.length zqx9 ≤ 4 := zqhx9); obtain ⟨zqF9, zqo9, zqN9, zqb9⟩ := box_back (by assumption) (by assumption) (by assumption) zqe9 zqB9; clear zqe9 zqB9; (try k_sweep))) | (((with_reducible show wpAny _ _ (call (Value.ref 284) [_, Value.int _ _]) _ _ _); refine draw' (by assumption) (by assumption) (box_atL (by assumption) (by assumption) (by assumption) (.tail _ (.head _)) (.head _) (by assumption)) (by omega) (by omega) _ _ (by decide) (by decide) ?_; intro zqh9 zqtk9 zqr9 zqt9 zqe9 zqB9 zqhr9 zqhq9; obtain ⟨zqF9, zqo9, zqN9, zqb9⟩ := box_back (by assumption) (by assumption) (by assumption) zqe9 zqB9; clear zqe9 zqB9; (try k_sweep))) | (((with_reducible show wpAny _ _ (call (Value.ref 284) [_, Value.int _ _]) _ _ _); refine draw' (by assumption) (by assumption) (box_atL (by assumption) (by assumption) (by assumption) (.tail _ (.tail _ (.head _))) (.tail _ (.head _)) (by assumption)) (by omega) (by omega) _ _ (by decide) (by decide) ?_; intro zqh9 zqtk9 zqr9 zqt9 zqe9 zqB9 zqhr9 zqhq9; obtain ⟨zqF9, zqo9, zqN9, zqb9, zqm9⟩ := box_back2 (by assumption) (by assumption) (by first | assumption | (refine Nat.ne_of_gt ?_; dsimp only; omega)) (by assumption) zqe9 zqB9; clear zqe9 zqB9; (try k_sweep))) | (dsimp only; walk1))))
  rename Fr _ _ _ _ => F22
  rename News _ _ _ _ => N22
  refine showTree 3 d7 hok7 O0 F22.keep (fun p hp => ⟨(N22 p (.tail _ (.tail _ (List.mem_append_right _ hp)))).1, (N22 p (.tail _ (.tail _ (List.mem_append_right _ hp)))).2.2⟩) R8 (by decide) (by omega) (fun h9 tk9 t9 e9 => ?_)
  have F23 := F22.keeps e9
  have N23 := N22.grown e9
  clear F22 N22 e9
  have hpz : (S (pageT d7)).length ≤ 1000 := by rw [len_S]; exact Nat.le_trans (pageT_len 3 d7 hok7) (lenP_3 (by decide))
  have hp0 : (S (pageT d7) != S (pageT d7)) = false := by rw [bne, beq_self_eq_true]; rfl
  (repeat' (first | ((fail_if_success (with_reducible show wpAny _ _ (eval (Expr.ListComp _ _ _ _) _) _ _ _)); (fail_if_success (with_reducible show wpAny _ _ (exec (Stmt.For _ _ _ _ _) _) _ _ _)); (fail_if_success (with_reducible show wpAny _ _ (exec (Stmt.While _ _ _ _) _) _ _ _)); (fail_if_success (with_reducible show Exists _)); (fail_if_success (with_reducible show LCg.CompEnd _ _ _ _ _ _ _ _ _ _ _ _ _ _)); (fail_if_success (with_reducible show ForEnd _ _ _ _ _ _ _ _)); (fail_if_success (with_reducible show wpAny _ _ (exec (Stmt.Assign _ (Expr.ListComp _ _ _ _) _) _) _ _ _)); (fail_if_success (with_reducible show LCg.CompSrc _ _ _ _ _ _ _ _ _ _ _ _ _ _)); first | with_reducible (((with_reducible show wpAny _ _ (subscriptTail _ _ (Value.ref _) (Value.int _ _)) _ _ _); k_dflt (refine pick_str (fun x => x.length ≤ 5) (by first | exact News.isList (by assumption) (.tail _ (.head _)) | exact lstK (Frag.In.keeps (by assumption) (Fr.keep (by assumption))) (by k_is)) (by first | assumption | exact (fm6 _).1) (by first | assumption | (simp only [List.length_cons, List.length_nil]; first | omega | exact (fm6 _).2)) (by simp only [List.length_cons, List.length_nil]; omega) (by (repeat' (first | exact List.forall_mem_nil _ | refine List.forall_mem_cons.mpr ⟨⟨_, _, rfl, ?_⟩, ?_⟩)) <;> ((try dsimp only); first | decide +kernel | omega)) ?_); intro zqx9 zqt9 zqhx9; (try dsimp only at zqhx9))) | walk1 | (((with_reducible show wpAny _ _ (call (Value.ref 298) [_]) _ _ _); refine text' (by assumption) (by assumption) (box_atL (by assumption) (by assumption) (by assumption) (.tail _ (.head _)) (.head _) (by assumption)) (by omega) (by omega) ?_; intro zqh9 zqtk9 zqx9 zqt9 zqn9 zqe9 zqB9 zqhn9 zqhx9 zqhc9; (have zqhx8 : PySem.Str.length zqx9 ≤ 4 := zqhx9); obtain ⟨zqF9, zqo9, zqN9, zqb9⟩ := box_back (by assumption) (by assumption) (by assumption) zqe9 zqB9; clear zqe9 zqB9; (try k_sweep))) | (((with_reducible show wpAny _ _ (call (Value.ref 284) [_, Value.int _ _]) _ _ _); refine draw' (by assumption) (by assumption) (box_atL (by assumption) (by assumption) (by assumption) (.tail _ (.head _)) (.head _) (by assumption)) (by omega) (by omega) _ _ (by decide) (by decide) ?_; intro zqh9 zqtk9 zqr9 zqt9 zqe9 zqB9 zqhr9 zqhq9; obtain ⟨zqF9, zqo9, zqN9, zqb9⟩ := box_back (by assumption) (by assumption) (by assumption) zqe9 zqB9; clear zqe9 zqB9; (try k_sweep))) | (((with_reducible show wpAny _ _ (call (Value.ref 284) [_, Value.int _ _]) _ _ _); refine draw' (by assumption) (by assumption) (box_atL (by assumption) (by assumption) (by assumption) (.tail _ (.tail _ (.head _))) (.tail _ (.head _)) (by assumption)) (by omega) (by omega) _ _ (by decide) (by decide) ?_; intro zqh9 zqtk9 zqr9 zqt9 zqe9 zqB9 zqhr9 zqhq9; obtain ⟨zqF9, zqo9, zqN9, zqb9, zqm9⟩ := box_back2 (by assumption) (by assumption) (by first | assumption | (refine Nat.ne_of_gt ?_; dsimp only; omega)) (by assumption) zqe9 zqB9; clear zqe9 zqB9; (try k_sweep))) | (dsimp only; walk1))))
  rename Fr _ _ _ _ => F24
  rename News _ _ _ _ => N24
  refine pageV 3 d7 hok7 ⟨KX.keeps F24.keep, T.keeps F24.keep⟩ (holds_of N24 fun p hp => .tail _ (.tail _ (List.mem_append_left _ hp))) D7 (by decide) (by omega) (fun h10 tk10 t10 e10 => ?_)
  have F25 := F24.keeps e10
  have N25 : News s1.heap s1.heap.objs.size h10 [(bx, o7), (c, W.listOf vs'.toArray k1)] := news_sub (N24.grown e10) fun p hp => by
    simp only [List.mem_cons, List.not_mem_nil, or_false] at hp ⊢; rcases hp with h | h <;> simp [h]
  clear F24 N24 e10 D7 R8 ne7
  have hneC : ∀ p ∈ [(c, W.listOf vs'.toArray k1)], p.1 ≠ bx := fun p hp => List.mem_singleton.mp hp ▸ hbc
  (repeat' (first | ((fail_if_success (with_reducible show wpAny _ _ (eval (Expr.ListComp _ _ _ _) _) _ _ _)); (fail_if_success (with_reducible show wpAny _ _ (exec (Stmt.For _ _ _ _ _) _) _ _ _)); (fail_if_success (with_reducible show wpAny _ _ (exec (Stmt.While _ _ _ _) _) _ _ _)); (fail_if_success (with_reducible show Exists _)); (fail_if_success (with_reducible show LCg.CompEnd _ _ _ _ _ _ _ _ _ _ _ _ _ _)); (fail_if_success (with_reducible show ForEnd _ _ _ _ _ _ _ _)); (fail_if_success (with_reducible show wpAny _ _ (exec (Stmt.Assign _ (Expr.ListComp _ _ _ _) _) _) _ _ _)); (fail_if_success (with_reducible show LCg.CompSrc _ _ _ _ _ _ _ _ _ _ _ _ _ _)); first | with_reducible (((with_reducible show wpAny _ _ (subscriptTail _ _ (Value.ref _) (Value.int _ _)) _ _ _); k_dflt (refine pick_str (fun x => x.length ≤ 5) (by first | exact News.isList (by assumption) (.tail _ (.head _)) | exact lstK (Frag.In.keeps (by assumption) (Fr.keep (by assumption))) (by k_is)) (by first | assumption | exact (fm6 _).1) (by first | assumption | (simp only [List.length_cons, List.length_nil]; first | omega | exact (fm6 _).2)) (by simp only [List.length_cons, List.length_nil]; omega) (by (repeat' (first | exact List.forall_mem_nil _ | refine List.forall_mem_cons.mpr ⟨⟨_, _, rfl, ?_⟩, ?_⟩)) <;> ((try dsimp only); first | decide +kernel | omega)) ?_); intro zqx9 zqt9 zqhx9; (try dsimp only at zqhx9))) | walk1 | (((with_reducible show wpAny _ _ (call (Value.ref 298) [_]) _ _ _); refine text' (by assumption) (by assumption) (box_atL (by assumption) (by assumption) (by assumption) (.tail _ (.head _)) (.head _) (by assumption)) (by omega) (by omega) ?_; intro zqh9 zqtk9 zqx9 zqt9 zqn9 zqe9 zqB9 zqhn9 zqhx9 zqhc9; (have zqhx8 : PySem.Str.length zqx9 ≤ 4 := zqhx9); obtain ⟨zqF9, zqo9, zqN9, zqb9⟩ := box_back (by assumption) (by assumption) (by assumption) zqe9 zqB9; clear zqe9 zqB9; (try k_sweep))) | (((with_reducible show wpAny _ _ (call (Value.ref 284) [_, Value.int _ _]) _ _ _); refine draw' (by assumption) (by assumption) (box_atL (by assumption) (by assumption) (by assumption) (.tail _ (.head _)) (.head _) (by assumption)) (by omega) (by omega) _ _ (by decide) (by decide) ?_; intro zqh9 zqtk9 zqr9 zqt9 zqe9 zqB9 zqhr9 zqhq9; obtain ⟨zqF9, zqo9, zqN9, zqb9⟩ := box_back (by assumption) (by assumption) (by assumption) zqe9 zqB9; clear zqe9 zqB9; (try k_sweep))) | (((with_reducible show wpAny _ _ (call (Value.ref 284) [_, Value.int _ _]) _ _ _); refine draw' (by assumption) (by assumption) (box_atL (by assumption) (by assumption) (by assumption) (.tail _ (.tail _ (.head _))) (.tail _ (.head _)) (by assumption)) (by omega) (by omega) _ _ (by decide) (by decide) ?_; intro zqh9 zqtk9 zqr9 zqt9 zqe9 zqB9 zqhr9 zqhq9; obtain ⟨zqF9, zqo9, zqN9, zqb9, zqm9⟩ := box_back2 (by assumption) (by assumption) (by first | assumption | (refine Nat.ne_of_gt ?_; dsimp only; omega)) (by assumption) zqe9 zqB9; clear zqe9 zqB9; (try k_sweep))) | (dsimp only; walk1))))
  rename Fr _ _ _ _ => F26
  rename News _ _ _ _ => N26
  rename BoxO _ _ _ => b26
  refine mkTok ⟨KX.keeps F26.keep, T.keeps F26.keep⟩ _ _ _ _ .none (by omega) (fun h11 tk11 x11 tl11 e11 T11 V11 => ?_)
  have N27 := news_app (news_drop2 (N26.grown e11)) (news_new F26 T11)
  have F27 := F26.keeps e11
  simp only [List.cons_append, List.nil_append] at N27
  have hl0 := leaf_ne V11
  clear F26 N26 e11 T11
  (repeat' (first | ((fail_if_success (with_reducible show wpAny _ _ (eval (Expr.ListComp _ _ _ _) _) _ _ _)); (fail_if_success (with_reducible show wpAny _ _ (exec (Stmt.For _ _ _ _ _) _) _ _ _)); (fail_if_success (with_reducible show wpAny _ _ (exec (Stmt.While _ _ _ _) _) _ _ _)); (fail_if_success (with_reducible show Exists _)); (fail_if_success (with_reducible show LCg.CompEnd _ _ _ _ _ _ _ _ _ _ _ _ _ _)); (fail_if_success (with_reducible show ForEnd _ _ _ _ _ _ _ _)); (fail_if_success (with_reducible show wpAny _ _ (exec (Stmt.Assign _ (Expr.ListComp _ _ _ _) _) _) _ _ _)); (fail_if_success (with_reducible show LCg.CompSrc _ _ _ _ _ _ _ _ _ _ _ _ _ _)); first | with_reducible (((with_reducible show wpAny _ _ (subscriptTail _ _ (Value.ref _) (Value.int _ _)) _ _ _); k_dflt (refine pick_str (fun x => x.length ≤ 5) (by first | exact News.isList (by assumption) (.tail _ (.head _)) | exact lstK (Frag.In.keeps (by assumption) (Fr.keep (by assumption))) (by k_is)) (by first | assumption | exact (fm6 _).1) (by first | assumption | (simp only [List.length_cons, List.length_nil]; first | omega | exact (fm6 _).2)) (by simp only [List.length_cons, List.length_nil]; omega) (by (repeat' (first | exact List.forall_mem_nil _ | refine List.forall_mem_cons.mpr ⟨⟨_, _, rfl, ?_⟩, ?_⟩)) <;> ((try dsimp only); first | decide +kernel | omega)) ?_); intro zqx9 zqt9 zqhx9; (try dsimp only at zqhx9))) | walk1 | (((with_reducible show wpAny _ _ (call (Value.ref 298) [_]) _ _ _); refine text' (by assumption) (by assumption) (box_atL (by assumption) (by assumption) (by assumption) (.tail _ (.head _)) (.head _) (by assumption)) (by omega) (by omega) ?_; intro zqh9 zqtk9 zqx9 zqt9 zqn9 zqe9 zqB9 zqhn9 zqhx9 zqhc9; (have zqhx8 : PySem.Str.length zqx9 ≤ 4 := zqhx9); obtain ⟨zqF9, zqo9, zqN9, zqb9⟩ := box_back (by assumption) (by assumption) (by assumption) zqe9 zqB9; clear zqe9 zqB9; (try k_sweep))) | (((with_reducible show wpAny _ _ (call (Value.ref 284) [_, Value.int _ _]) _ _ _); refine draw' (by assumption) (by assumption) (box_atL (by assumption) (by assumption) (by assumption) (.tail _ (.head _)) (.head _) (by assumption)) (by omega) (by omega) _ _ (by decide) (by decide) ?_; intro zqh9 zqtk9 zqr9 zqt9 zqe9 zqB9 zqhr9 zqhq9; obtain ⟨zqF9, zqo9, zqN9, zqb9⟩ := box_back (by assumption) (by assumption) (by assumption) zqe9 zqB9; clear zqe9 zqB9; (try k_sweep))) | (((with_reducible show wpAny _ _ (call (Value.ref 284) [_, Value.int _ _]) _ _ _); refine draw' (by assumption) (by assumption) (box_atL (by assumption) (by assumption) (by assumption) (.tail _ (.tail _ (.head _))) (.tail _ (.head _)) (by assumption)) (by omega) (by omega) _ _ (by decide) (by decide) ?_; intro zqh9 zqtk9 zqr9 zqt9 zqe9 zqB9 zqhr9 zqhq9; obtain ⟨zqF9, zqo9, zqN9, zqb9, zqm9⟩ := box_back2 (by assumption) (by assumption) (by first | assumption | (refine Nat.ne_of_gt ?_; dsimp only; omega)) (by assumption) zqe9 zqB9; clear zqe9 zqB9; (try k_sweep))) | (dsimp only; walk1))))
  rename Fr _ _ _ _ => F28
  rename News _ _ _ _ => N28
  refine showLeaf O0 F28.keep (fun p hp => ⟨(N28 p (.tail _ (.tail _ hp))).1, (N28 p (.tail _ (.tail _ hp))).2.2⟩) V11 (by omega) (by assumption) (by assumption) (fun h12 tk12 t12 e12 => ?_)
  have F29 := F28.keeps e12
  have N29 := N28.grown e12
  clear F28 N28 e12
  (repeat' (first | ((fail_if_success (with_reducible show wpAny _ _ (eval (Expr.ListComp _ _ _ _) _) _ _ _)); (fail_if_success (with_reducible show wpAny _ _ (exec (Stmt.For _ _ _ _ _) _) _ _ _)); (fail_if_success (with_reducible show wpAny _ _ (exec (Stmt.While _ _ _ _) _) _ _ _)); (fail_if_success (with_reducible show Exists _)); (fail_if_success (with_reducible show LCg.CompEnd _ _ _ _ _ _ _ _ _ _ _ _ _ _)); (fail_if_success (with_reducible show ForEnd _ _ _ _ _ _ _ _)); (fail_if_success (with_reducible show wpAny _ _ (exec (Stmt.Assign _ (Expr.ListComp _ _ _ _) _) _) _ _ _)); (fail_if_success (with_reducible show LCg.CompSrc _ _ _ _ _ _ _ _ _ _ _ _ _ _)); first | with_reducible (((with_reducible show wpAny _ _ (subscriptTail _ _ (Value.ref _) (Value.int _ _)) _ _ _); k_dflt (refine pick_str (fun x => x.length ≤ 5) (by first | exact News.isList (by assumption) (.tail _ (.head _)) | exact lstK (Frag.In.keeps (by assumption) (Fr.keep (by assumption))) (by k_is)) (by first | assumption | exact (fm6 _).1) (by first | assumption | (simp only [List.length_cons, List.length_nil]; first | omega | exact (fm6 _).2)) (by simp only [List.length_cons, List.length_nil]; omega) (by (repeat' (first | exact List.forall_mem_nil _ | refine List.forall_mem_cons.mpr ⟨⟨_, _, rfl, ?_⟩, ?_⟩)) <;> ((try dsimp only); first | decide +kernel | omega)) ?_); intro zqx9 zqt9 zqhx9; (try dsimp only at zqhx9))) | walk1 | (((with_reducible show wpAny _ _ (call (Value.ref 298) [_]) _ _ _); refine text' (by assumption) (by assumption) (box_atL (by assumption) (by assumption) (by assumption) (.tail _ (.head _)) (.head _) (by assumption)) (by omega) (by omega) ?_; intro zqh9 zqtk9 zqx9 zqt9 zqn9 zqe9 zqB9 zqhn9 zqhx9 zqhc9; (have zqhx8 : PySem.Str.length zqx9 ≤ 4 := zqhx9); obtain ⟨zqF9, zqo9, zqN9, zqb9⟩ := box_back (by assumption) (by assumption) (by assumption) zqe9 zqB9; clear zqe9 zqB9; (try k_sweep))) | (((with_reducible show wpAny _ _ (call (Value.ref 284) [_, Value.int _ _]) _ _ _); refine draw' (by assumption) (by assumption) (box_atL (by assumption) (by assumption) (by assumption) (.tail _ (.head _)) (.head _) (by assumption)) (by omega) (by omega) _ _ (by decide) (by decide) ?_; intro zqh9 zqtk9 zqr9 zqt9 zqe9 zqB9 zqhr9 zqhq9; obtain ⟨zqF9, zqo9, zqN9, zqb9⟩ := box_back (by assumption) (by assumption) (by assumption) zqe9 zqB9; clear zqe9 zqB9; (try k_sweep))) | (((with_reducible show wpAny _ _ (call (Value.ref 284) [_, Value.int _ _]) _ _ _); refine draw' (by assumption) (by assumption) (box_atL (by assumption) (by assumption) (by assumption) (.tail _ (.tail _ (.head _))) (.tail _ (.head _)) (by assumption)) (by omega) (by omega) _ _ (by decide) (by decide) ?_; intro zqh9 zqtk9 zqr9 zqt9 zqe9 zqB9 zqhr9 zqhq9; obtain ⟨zqF9, zqo9, zqN9, zqb9, zqm9⟩ := box_back2 (by assumption) (by assumption) (by first | assumption | (refine Nat.ne_of_gt ?_; dsimp only; omega)) (by assumption) zqe9 zqB9; clear zqe9 zqB9; (try k_sweep))) | (dsimp only; walk1))))
  rename Fr _ _ _ _ => F30
  rename News _ _ _ _ => N30
  refine lawLeaf ⟨KX.keeps F30.keep, T.keeps F30.keep⟩ (by omega) (by assumption) (by assumption) (fun h13 tk13 t13 e13 => ?_)
  have F31 := F30.keeps e13
  have N31 := N30.grown e13
  clear F30 N30 e13
  (repeat' (first | ((fail_if_success (with_reducible show wpAny _ _ (eval (Expr.ListComp _ _ _ _) _) _ _ _)); (fail_if_success (with_reducible show wpAny _ _ (exec (Stmt.For _ _ _ _ _) _) _ _ _)); (fail_if_success (with_reducible show wpAny _ _ (exec (Stmt.While _ _ _ _) _) _ _ _)); (fail_if_success (with_reducible show Exists _)); (fail_if_success (with_reducible show LCg.CompEnd _ _ _ _ _ _ _ _ _ _ _ _ _ _)); (fail_if_success (with_reducible show ForEnd _ _ _ _ _ _ _ _)); (fail_if_success (with_reducible show wpAny _ _ (exec (Stmt.Assign _ (Expr.ListComp _ _ _ _) _) _) _ _ _)); (fail_if_success (with_reducible show LCg.CompSrc _ _ _ _ _ _ _ _ _ _ _ _ _ _)); first | with_reducible (((with_reducible show wpAny _ _ (subscriptTail _ _ (Value.ref _) (Value.int _ _)) _ _ _); k_dflt (refine pick_str (fun x => x.length ≤ 5) (by first | exact News.isList (by assumption) (.tail _ (.head _)) | exact lstK (Frag.In.keeps (by assumption) (Fr.keep (by assumption))) (by k_is)) (by first | assumption | exact (fm6 _).1) (by first | assumption | (simp only [List.length_cons, List.length_nil]; first | omega | exact (fm6 _).2)) (by simp only [List.length_cons, List.length_nil]; omega) (by (repeat' (first | exact List.forall_mem_nil _ | refine List.forall_mem_cons.mpr ⟨⟨_, _, rfl, ?_⟩, ?_⟩)) <;> ((try dsimp only); first | decide +kernel | omega)) ?_); intro zqx9 zqt9 zqhx9; (try dsimp only at zqhx9))) | walk1 | (((with_reducible show wpAny _ _ (call (Value.ref 298) [_]) _ _ _); refine text' (by assumption) (by assumption) (box_atL (by assumption) (by assumption) (by assumption) (.tail _ (.head _)) (.head _) (by assumption)) (by omega) (by omega) ?_; intro zqh9 zqtk9 zqx9 zqt9 zqn9 zqe9 zqB9 zqhn9 zqhx9 zqhc9; (have zqhx8 : PySem.Str.length zqx9 ≤ 4 := zqhx9); obtain ⟨zqF9, zqo9, zqN9, zqb9⟩ := box_back (by assumption) (by assumption) (by assumption) zqe9 zqB9; clear zqe9 zqB9; (try k_sweep))) | (((with_reducible show wpAny _ _ (call (Value.ref 284) [_, Value.int _ _]) _ _ _); refine draw' (by assumption) (by assumption) (box_atL (by assumption) (by assumption) (by assumption) (.tail _ (.head _)) (.head _) (by assumption)) (by omega) (by omega) _ _ (by decide) (by decide) ?_; intro zqh9 zqtk9 zqr9 zqt9 zqe9 zqB9 zqhr9 zqhq9; obtain ⟨zqF9, zqo9, zqN9, zqb9⟩ := box_back (by assumption) (by assumption) (by assumption) zqe9 zqB9; clear zqe9 zqB9; (try k_sweep))) | (((with_reducible show wpAny _ _ (call (Value.ref 284) [_, Value.int _ _]) _ _ _); refine draw' (by assumption) (by assumption) (box_atL (by assumption) (by assumption) (by assumption) (.tail _ (.tail _ (.head _))) (.tail _ (.head _)) (by assumption)) (by omega) (by omega) _ _ (by decide) (by decide) ?_; intro zqh9 zqtk9 zqr9 zqt9 zqe9 zqB9 zqhr9 zqhq9; obtain ⟨zqF9, zqo9, zqN9, zqb9, zqm9⟩ := box_back2 (by assumption) (by assumption) (by first | assumption | (refine Nat.ne_of_gt ?_; dsimp only; omega)) (by assumption) zqe9 zqB9; clear zqe9 zqB9; (try k_sweep))) | (dsimp only; walk1))))
  rename Fr _ _ _ _ => F32
  rename News _ _ _ _ => N32
  refine lawFault OH Y (box_atL hHG F32 N32 (.tail _ (.head _)) (.head _) b26) (by omega) (by omega) (fun h14 tk14 e14 => ?_)
  k_unfold
  have F33 : Fr s1.heap s1.heap.objs.size h14 _ := ⟨F32.ns.at' fun o e => e14 _ _ (Ne.symm (N32 _ (.head _)).2.1) e, fun b o e => e14 b o (fun q => by have := (N32 _ (.head _)).2.2; rw [← q, e] at this; cases this) (F32.keep b o e), F32.above⟩
  dsimp only
  wrow_close
end Mine
theorem PySem.Challenge.cw_nn0356_01_holds : PySem.Challenge.rw_nn0356_01.Holds := by
  exact Mine.holds
