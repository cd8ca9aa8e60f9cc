import PyProof.Rows.All
import Wide.All
import OpenK.AllK
import Wide.FinOn
import PyProof.WalksMore
import PySem.Challenge.RW_rh0090_01
open PySem PySem.W PyProof.Rows
set_option Elab.async false
set_option maxRecDepth 100000
set_option linter.unusedVariables false
namespace Mine
noncomputable abbrev lit {α : Type} {a b : α} (_ : a = b) : α := b
noncomputable def nthSt : List Stmt → Nat → Stmt
  | [], _ => .Pass ⟨0, 0, 0, 0⟩
  | x :: _, 0 => x
  | _ :: l, n + 1 => nthSt l n
noncomputable def stAt (i : Nat) : Stmt := nthSt PySem.Challenge.pw_rh0090_01.main.body i
noncomputable def inCls : Stmt → Nat → Stmt
  | .ClassDef _ _ _ b _ _ _ _ _ _ _, j => nthSt b j
  | s, _ => s
noncomputable def parsOf : Stmt → Arguments
  | .FunctionDef _ p _ _ _ _ _ _ _ _ => p
  | _ => { posonlyargs := [], args := [], vararg := none, kwonlyargs := [], kw_defaults := [], kwarg := none, defaults := [] }
noncomputable def bodyOf : Stmt → List Stmt
  | .FunctionDef _ _ b _ _ _ _ _ _ _ => b
  | _ => []
noncomputable def scopeOf : Stmt → Scope
  | .FunctionDef _ _ _ _ _ _ s _ _ _ => s
  | _ => ⟨.function, [], false, false, []⟩
noncomputable abbrev p60 : Arguments := lit (a := parsOf (stAt 7)) (by conv => lhs; whnf)
noncomputable abbrev b60 : List Stmt := lit (a := bodyOf (stAt 7)) (by conv => lhs; whnf)
noncomputable abbrev s60 : Scope := lit (a := scopeOf (stAt 7)) (by conv => lhs; whnf)
noncomputable abbrev p67 : Arguments := lit (a := parsOf (stAt 8)) (by conv => lhs; whnf)
noncomputable abbrev b67 : List Stmt := lit (a := bodyOf (stAt 8)) (by conv => lhs; whnf)
noncomputable abbrev s67 : Scope := lit (a := scopeOf (stAt 8)) (by conv => lhs; whnf)
noncomputable abbrev p81 : Arguments := lit (a := parsOf (inCls (stAt 9) 0)) (by conv => lhs; whnf)
noncomputable abbrev b81 : List Stmt := lit (a := bodyOf (inCls (stAt 9) 0)) (by conv => lhs; whnf)
noncomputable abbrev s81 : Scope := lit (a := scopeOf (inCls (stAt 9) 0)) (by conv => lhs; whnf)
noncomputable abbrev p88 : Arguments := lit (a := parsOf (inCls (stAt 9) 1)) (by conv => lhs; whnf)
noncomputable abbrev b88 : List Stmt := lit (a := bodyOf (inCls (stAt 9) 1)) (by conv => lhs; whnf)
noncomputable abbrev s88 : Scope := lit (a := scopeOf (inCls (stAt 9) 1)) (by conv => lhs; whnf)
noncomputable abbrev p102 : Arguments := lit (a := parsOf (inCls (stAt 9) 3)) (by conv => lhs; whnf)
noncomputable abbrev b102 : List Stmt := lit (a := bodyOf (inCls (stAt 9) 3)) (by conv => lhs; whnf)
noncomputable abbrev s102 : Scope := lit (a := scopeOf (inCls (stAt 9) 3)) (by conv => lhs; whnf)
noncomputable abbrev p109 : Arguments := lit (a := parsOf (inCls (stAt 9) 4)) (by conv => lhs; whnf)
noncomputable abbrev b109 : List Stmt := lit (a := bodyOf (inCls (stAt 9) 4)) (by conv => lhs; whnf)
noncomputable abbrev s109 : Scope := lit (a := scopeOf (inCls (stAt 9) 4)) (by conv => lhs; whnf)
noncomputable abbrev p123 : Arguments := lit (a := parsOf (inCls (stAt 9) 6)) (by conv => lhs; whnf)
noncomputable abbrev b123 : List Stmt := lit (a := bodyOf (inCls (stAt 9) 6)) (by conv => lhs; whnf)
noncomputable abbrev s123 : Scope := lit (a := scopeOf (inCls (stAt 9) 6)) (by conv => lhs; whnf)
noncomputable abbrev p194 : Arguments := lit (a := parsOf (inCls (stAt 24) 0)) (by conv => lhs; whnf)
noncomputable abbrev b194 : List Stmt := lit (a := bodyOf (inCls (stAt 24) 0)) (by conv => lhs; whnf)
noncomputable abbrev s194 : Scope := lit (a := scopeOf (inCls (stAt 24) 0)) (by conv => lhs; whnf)
noncomputable abbrev p201 : Arguments := lit (a := parsOf (inCls (stAt 24) 1)) (by conv => lhs; whnf)
noncomputable abbrev b201 : List Stmt := lit (a := bodyOf (inCls (stAt 24) 1)) (by conv => lhs; whnf)
noncomputable abbrev s201 : Scope := lit (a := scopeOf (inCls (stAt 24) 1)) (by conv => lhs; whnf)
noncomputable abbrev p208 : Arguments := lit (a := parsOf (inCls (stAt 24) 2)) (by conv => lhs; whnf)
noncomputable abbrev b208 : List Stmt := lit (a := bodyOf (inCls (stAt 24) 2)) (by conv => lhs; whnf)
noncomputable abbrev s208 : Scope := lit (a := scopeOf (inCls (stAt 24) 2)) (by conv => lhs; whnf)
noncomputable abbrev p215 : Arguments := lit (a := parsOf (inCls (stAt 24) 3)) (by conv => lhs; whnf)
noncomputable abbrev b215 : List Stmt := lit (a := bodyOf (inCls (stAt 24) 3)) (by conv => lhs; whnf)
noncomputable abbrev s215 : Scope := lit (a := scopeOf (inCls (stAt 24) 3)) (by conv => lhs; whnf)
noncomputable abbrev p229 : Arguments := lit (a := parsOf (inCls (stAt 24) 5)) (by conv => lhs; whnf)
noncomputable abbrev b229 : List Stmt := lit (a := bodyOf (inCls (stAt 24) 5)) (by conv => lhs; whnf)
noncomputable abbrev s229 : Scope := lit (a := scopeOf (inCls (stAt 24) 5)) (by conv => lhs; whnf)
noncomputable abbrev p243 : Arguments := lit (a := parsOf (inCls (stAt 24) 7)) (by conv => lhs; whnf)
noncomputable abbrev b243 : List Stmt := lit (a := bodyOf (inCls (stAt 24) 7)) (by conv => lhs; whnf)
noncomputable abbrev s243 : Scope := lit (a := scopeOf (inCls (stAt 24) 7)) (by conv => lhs; whnf)
noncomputable abbrev p257 : Arguments := lit (a := parsOf (inCls (stAt 24) 9)) (by conv => lhs; whnf)
noncomputable abbrev b257 : List Stmt := lit (a := bodyOf (inCls (stAt 24) 9)) (by conv => lhs; whnf)
noncomputable abbrev s257 : Scope := lit (a := scopeOf (inCls (stAt 24) 9)) (by conv => lhs; whnf)
noncomputable abbrev p285 : Arguments := lit (a := parsOf (inCls (stAt 24) 13)) (by conv => lhs; whnf)
noncomputable abbrev b285 : List Stmt := lit (a := bodyOf (inCls (stAt 24) 13)) (by conv => lhs; whnf)
noncomputable abbrev s285 : Scope := lit (a := scopeOf (inCls (stAt 24) 13)) (by conv => lhs; whnf)
noncomputable abbrev p292 : Arguments := lit (a := parsOf (inCls (stAt 24) 14)) (by conv => lhs; whnf)
noncomputable abbrev b292 : List Stmt := lit (a := bodyOf (inCls (stAt 24) 14)) (by conv => lhs; whnf)
noncomputable abbrev s292 : Scope := lit (a := scopeOf (inCls (stAt 24) 14)) (by conv => lhs; whnf)
noncomputable abbrev p299 : Arguments := lit (a := parsOf (inCls (stAt 24) 15)) (by conv => lhs; whnf)
noncomputable abbrev b299 : List Stmt := lit (a := bodyOf (inCls (stAt 24) 15)) (by conv => lhs; whnf)
noncomputable abbrev s299 : Scope := lit (a := scopeOf (inCls (stAt 24) 15)) (by conv => lhs; whnf)
noncomputable abbrev p306 : Arguments := lit (a := parsOf (inCls (stAt 24) 16)) (by conv => lhs; whnf)
noncomputable abbrev b306 : List Stmt := lit (a := bodyOf (inCls (stAt 24) 16)) (by conv => lhs; whnf)
noncomputable abbrev s306 : Scope := lit (a := scopeOf (inCls (stAt 24) 16)) (by conv => lhs; whnf)
noncomputable abbrev p320 : Arguments := lit (a := parsOf (inCls (stAt 24) 18)) (by conv => lhs; whnf)
noncomputable abbrev b320 : List Stmt := lit (a := bodyOf (inCls (stAt 24) 18)) (by conv => lhs; whnf)
noncomputable abbrev s320 : Scope := lit (a := scopeOf (inCls (stAt 24) 18)) (by conv => lhs; whnf)
noncomputable abbrev p363 : Arguments := lit (a := parsOf (inCls (stAt 25) 3)) (by conv => lhs; whnf)
noncomputable abbrev b363 : List Stmt := lit (a := bodyOf (inCls (stAt 25) 3)) (by conv => lhs; whnf)
noncomputable abbrev s363 : Scope := lit (a := scopeOf (inCls (stAt 25) 3)) (by conv => lhs; whnf)
noncomputable abbrev p370 : Arguments := lit (a := parsOf (inCls (stAt 25) 4)) (by conv => lhs; whnf)
noncomputable abbrev b370 : List Stmt := lit (a := bodyOf (inCls (stAt 25) 4)) (by conv => lhs; whnf)
noncomputable abbrev s370 : Scope := lit (a := scopeOf (inCls (stAt 25) 4)) (by conv => lhs; whnf)
noncomputable abbrev p377 : Arguments := lit (a := parsOf (inCls (stAt 25) 5)) (by conv => lhs; whnf)
noncomputable abbrev b377 : List Stmt := lit (a := bodyOf (inCls (stAt 25) 5)) (by conv => lhs; whnf)
noncomputable abbrev s377 : Scope := lit (a := scopeOf (inCls (stAt 25) 5)) (by conv => lhs; whnf)
noncomputable abbrev p396 : Arguments := lit (a := parsOf (inCls (stAt 27) 0)) (by conv => lhs; whnf)
noncomputable abbrev b396 : List Stmt := lit (a := bodyOf (inCls (stAt 27) 0)) (by conv => lhs; whnf)
noncomputable abbrev s396 : Scope := lit (a := scopeOf (inCls (stAt 27) 0)) (by conv => lhs; whnf)
noncomputable abbrev p403 : Arguments := lit (a := parsOf (inCls (stAt 27) 1)) (by conv => lhs; whnf)
noncomputable abbrev b403 : List Stmt := lit (a := bodyOf (inCls (stAt 27) 1)) (by conv => lhs; whnf)
noncomputable abbrev s403 : Scope := lit (a := scopeOf (inCls (stAt 27) 1)) (by conv => lhs; whnf)
noncomputable abbrev p417 : Arguments := lit (a := parsOf (stAt 28)) (by conv => lhs; whnf)
noncomputable abbrev b417 : List Stmt := lit (a := bodyOf (stAt 28)) (by conv => lhs; whnf)
noncomputable abbrev s417 : Scope := lit (a := scopeOf (stAt 28)) (by conv => lhs; whnf)
noncomputable abbrev p424 : Arguments := lit (a := parsOf (stAt 29)) (by conv => lhs; whnf)
noncomputable abbrev b424 : List Stmt := lit (a := bodyOf (stAt 29)) (by conv => lhs; whnf)
noncomputable abbrev s424 : Scope := lit (a := scopeOf (stAt 29)) (by conv => lhs; whnf)
noncomputable abbrev p431 : Arguments := lit (a := parsOf (stAt 30)) (by conv => lhs; whnf)
noncomputable abbrev b431 : List Stmt := lit (a := bodyOf (stAt 30)) (by conv => lhs; whnf)
noncomputable abbrev s431 : Scope := lit (a := scopeOf (stAt 30)) (by conv => lhs; whnf)
noncomputable abbrev p438 : Arguments := lit (a := parsOf (stAt 31)) (by conv => lhs; whnf)
noncomputable abbrev b438 : List Stmt := lit (a := bodyOf (stAt 31)) (by conv => lhs; whnf)
noncomputable abbrev s438 : Scope := lit (a := scopeOf (stAt 31)) (by conv => lhs; whnf)
noncomputable abbrev p445 : Arguments := lit (a := parsOf (stAt 32)) (by conv => lhs; whnf)
noncomputable abbrev b445 : List Stmt := lit (a := bodyOf (stAt 32)) (by conv => lhs; whnf)
noncomputable abbrev s445 : Scope := lit (a := scopeOf (stAt 32)) (by conv => lhs; whnf)
noncomputable abbrev p452 : Arguments := lit (a := parsOf (stAt 34)) (by conv => lhs; whnf)
noncomputable abbrev b452 : List Stmt := lit (a := bodyOf (stAt 34)) (by conv => lhs; whnf)
noncomputable abbrev s452 : Scope := lit (a := scopeOf (stAt 34)) (by conv => lhs; whnf)
noncomputable abbrev p459 : Arguments := lit (a := parsOf (stAt 35)) (by conv => lhs; whnf)
noncomputable abbrev b459 : List Stmt := lit (a := bodyOf (stAt 35)) (by conv => lhs; whnf)
noncomputable abbrev s459 : Scope := lit (a := scopeOf (stAt 35)) (by conv => lhs; whnf)
noncomputable abbrev p464 : Arguments := lit (a := parsOf (stAt 36)) (by conv => lhs; whnf)
noncomputable abbrev b464 : List Stmt := lit (a := bodyOf (stAt 36)) (by conv => lhs; whnf)
noncomputable abbrev s464 : Scope := lit (a := scopeOf (stAt 36)) (by conv => lhs; whnf)
noncomputable abbrev p471 : Arguments := lit (a := parsOf (stAt 37)) (by conv => lhs; whnf)
noncomputable abbrev b471 : List Stmt := lit (a := bodyOf (stAt 37)) (by conv => lhs; whnf)
noncomputable abbrev s471 : Scope := lit (a := scopeOf (stAt 37)) (by conv => lhs; whnf)
noncomputable abbrev p476 : Arguments := lit (a := parsOf (stAt 38)) (by conv => lhs; whnf)
noncomputable abbrev b476 : List Stmt := lit (a := bodyOf (stAt 38)) (by conv => lhs; whnf)
noncomputable abbrev s476 : Scope := lit (a := scopeOf (stAt 38)) (by conv => lhs; whnf)
noncomputable def frag0 (P : Params) : Frag :=
  (nat_lit 3, ⟨(.type "dict"), .none, (.dict (List.toArray (⟨(PyData.keyHash P "__name__"), (.str "__name__" 165), (.str "law_rh0090_01" 809)⟩ :: ⟨(PyData.keyHash P "__doc__"), (.str "__doc__" 166), .none⟩ :: ⟨(PyData.keyHash P "__package__"), (.str "__package__" 167), .none⟩ :: ⟨(PyData.keyHash P "__loader__"), (.str "__loader__" 168), (.builtin "__main__.__loader__#opaque")⟩ :: ⟨(PyData.keyHash P "__spec__"), (.str "__spec__" 169), .none⟩ :: ⟨(PyData.keyHash P "__annotations__"), (.str "__annotations__" 170), (.ref 6)⟩ :: ⟨(PyData.keyHash P "__builtins__"), (.str "__builtins__" 171), (.ref 4)⟩ :: ⟨(PyData.keyHash P "__file__"), (.str "__file__" 173), (.str "/claim/cut.py" 172)⟩ :: ⟨(PyData.keyHash P "__cached__"), (.str "__cached__" 174), .none⟩ :: ⟨(PyData.keyHash P "_wall"), (.str "_wall" 193), (.ref 21)⟩ :: ⟨(PyData.keyHash P "ClausemillError"), (.str "ClausemillError" 215), (.ref 31)⟩ :: ⟨(PyData.keyHash P "PrologError"), (.str "PrologError" 240), (.ref 51)⟩ :: ⟨(PyData.keyHash P "A_SYSTEM"), (.str "A_SYSTEM" 242), (.int 25 241)⟩ :: ⟨(PyData.keyHash P "F_DOT"), (.str "F_DOT" 244), (.int 0 243)⟩ :: ⟨(PyData.keyHash P "F_ERROR"), (.str "F_ERROR" 246), (.int 16 245)⟩ :: ⟨(PyData.keyHash P "fixed_atoms"), (.str "fixed_atoms" 252), (.ref 60)⟩ :: ⟨(PyData.keyHash P "fixed_functors"), (.str "fixed_functors" 258), (.ref 67)⟩ :: ⟨(PyData.keyHash P "Symbols"), (.str "Symbols" 378), (.ref 154)⟩ :: ⟨(PyData.keyHash P "system_error"), (.str "system_error" 387), (.ref 165)⟩ :: ⟨(PyData.keyHash P "formal_of"), (.str "formal_of" 398), (.ref 172)⟩ :: ⟨(PyData.keyHash P "resource_error"), (.str "resource_error" 406), (.ref 179)⟩ :: ⟨(PyData.keyHash P "REF"), (.str "REF" 410), (.int 0 409)⟩ :: ⟨(PyData.keyHash P "SRF"), (.str "SRF" 412), (.int 1 411)⟩ :: ⟨(PyData.keyHash P "STR"), (.str "STR" 414), (.int 2 413)⟩ :: ⟨(PyData.keyHash P "LIS"), (.str "LIS" 416), (.int 3 415)⟩ :: ⟨(PyData.keyHash P "CON"), (.str "CON" 418), (.int 4 417)⟩ :: ⟨(PyData.keyHash P "INT"), (.str "INT" 420), (.int 5 419)⟩ :: ⟨(PyData.keyHash P "FUN"), (.str "FUN" 422), (.int 6 421)⟩ :: ⟨(PyData.keyHash P "VISIT"), (.str "VISIT" 424), (.int 0 423)⟩ :: ⟨(PyData.keyHash P "BUILD"), (.str "BUILD" 426), (.int 1 425)⟩ :: ⟨(PyData.keyHash P "Cells"), (.str "Cells" 620), (.ref 323)⟩ :: ⟨(PyData.keyHash P "Store"), (.str "Store" 713), (.ref 380)⟩ :: ⟨(PyData.keyHash P "PairSet"), (.str "PairSet" 755), (.ref 406)⟩ :: ⟨(PyData.keyHash P "push_pairs"), (.str "push_pairs" 768), (.ref 417)⟩ :: ⟨(PyData.keyHash P "same_shape"), (.str "same_shape" 777), (.ref 424)⟩ :: ⟨(PyData.keyHash P "is_variable"), (.str "is_variable" 784), (.ref 431)⟩ :: ⟨(PyData.keyHash P "variable_number"), (.str "variable_number" 791), (.ref 438)⟩ :: ⟨(PyData.keyHash P "variant"), (.str "variant" 808), (.ref 445)⟩ :: ⟨(PyData.keyHash P "_law_pick"), (.str "_law_pick" 819), (.ref 452)⟩ :: ⟨(PyData.keyHash P "_law_tree"), (.str "_law_tree" 830), (.ref 459)⟩ :: ⟨(PyData.keyHash P "_law_changed"), (.str "_law_changed" 836), (.ref 464)⟩ :: ⟨(PyData.keyHash P "_law_numbered"), (.str "_law_numbered" 847), (.ref 471)⟩ :: ⟨(PyData.keyHash P "law"), (.str "law" 853), (.ref 476)⟩ :: [])) 43), #[]⟩) ::
  (nat_lit 59, ⟨(.type "code"), .none, (.fields (List.toArray ((.str "fixed_atoms" 247) :: (.str "fixed_atoms" 248) :: (.str "/claim/cut.py" 249) :: (.int 14 0) :: (.int 0 0) :: (.int 0 0) :: (.int 0 0) :: (.int 3 0) :: (.ref 54) :: (.bool .true) :: (.int 181 0) :: (.ref 55) :: .none :: (.ref 56) :: (.ref 57) :: (.ref 58) :: (.int 250 0) :: (.int 14 0) :: (.str "/claim/cut.py" 251) :: []))), #[]⟩) ::
  (nat_lit 60, ⟨(.type "function"), .none, (.func ⟨"fixed_atoms", "fixed_atoms", p60, .stmts b60, s60, 3, [], .none, .none, .none, (.str "clausemill.symbols" 194), .none, (.ref 59), .none, 0⟩), #[]⟩) ::
  (nat_lit 66, ⟨(.type "code"), .none, (.fields (List.toArray ((.str "fixed_functors" 253) :: (.str "fixed_functors" 254) :: (.str "/claim/cut.py" 255) :: (.int 16 0) :: (.int 0 0) :: (.int 0 0) :: (.int 0 0) :: (.int 3 0) :: (.ref 61) :: (.bool .true) :: (.int 181 0) :: (.ref 62) :: .none :: (.ref 63) :: (.ref 64) :: (.ref 65) :: (.int 256 0) :: (.int 16 0) :: (.str "/claim/cut.py" 257) :: []))), #[]⟩) ::
  (nat_lit 67, ⟨(.type "function"), .none, (.func ⟨"fixed_functors", "fixed_functors", p67, .stmts b67, s67, 3, [], .none, .none, .none, (.str "clausemill.symbols" 194), .none, (.ref 66), .none, 0⟩), #[]⟩) ::
  (nat_lit 80, ⟨(.type "code"), .none, (.fields (List.toArray ((.str "__init__" 271) :: (.str "Symbols.__init__" 272) :: (.str "/claim/cut.py" 273) :: (.int 20 0) :: (.int 1 0) :: (.int 0 0) :: (.int 0 0) :: (.int 3 0) :: (.ref 75) :: (.bool .true) :: (.int 181 0) :: (.ref 76) :: .none :: (.ref 77) :: (.ref 78) :: (.ref 79) :: (.int 277 0) :: (.int 20 0) :: (.str "/claim/cut.py" 278) :: []))), #[]⟩) ::
  (nat_lit 81, ⟨(.type "function"), .none, (.func ⟨"__init__", "Symbols.__init__", p81, .stmts b81, s81, 3, [], .none, .none, .none, (.str "clausemill.symbols" 194), .none, (.ref 80), .none, 0⟩), #[]⟩) ::
  (nat_lit 87, ⟨(.type "code"), .none, (.fields (List.toArray ((.str "atom" 280) :: (.str "Symbols.atom" 281) :: (.str "/claim/cut.py" 282) :: (.int 30 0) :: (.int 2 0) :: (.int 0 0) :: (.int 0 0) :: (.int 3 0) :: (.ref 82) :: (.bool .true) :: (.int 181 0) :: (.ref 83) :: .none :: (.ref 84) :: (.ref 85) :: (.ref 86) :: (.int 287 0) :: (.int 30 0) :: (.str "/claim/cut.py" 288) :: []))), #[]⟩) ::
  (nat_lit 88, ⟨(.type "function"), .none, (.func ⟨"atom", "Symbols.atom", p88, .stmts b88, s88, 3, [], .none, .none, .none, (.str "clausemill.symbols" 194), .none, (.ref 87), .none, 0⟩), #[]⟩) ::
  (nat_lit 101, ⟨(.type "code"), .none, (.fields (List.toArray ((.str "functor" 298) :: (.str "Symbols.functor" 299) :: (.str "/claim/cut.py" 300) :: (.int 42 0) :: (.int 3 0) :: (.int 0 0) :: (.int 0 0) :: (.int 3 0) :: (.ref 96) :: (.bool .true) :: (.int 181 0) :: (.ref 97) :: .none :: (.ref 98) :: (.ref 99) :: (.ref 100) :: (.int 307 0) :: (.int 42 0) :: (.str "/claim/cut.py" 308) :: []))), #[]⟩) ::
  (nat_lit 102, ⟨(.type "function"), .none, (.func ⟨"functor", "Symbols.functor", p102, .stmts b102, s102, 3, [], .none, .none, .none, (.str "clausemill.symbols" 194), .none, (.ref 101), .none, 0⟩), #[]⟩) ::
  (nat_lit 108, ⟨(.type "code"), .none, (.fields (List.toArray ((.str "func" 310) :: (.str "Symbols.func" 311) :: (.str "/claim/cut.py" 312) :: (.int 52 0) :: (.int 3 0) :: (.int 0 0) :: (.int 0 0) :: (.int 3 0) :: (.ref 103) :: (.bool .true) :: (.int 181 0) :: (.ref 104) :: .none :: (.ref 105) :: (.ref 106) :: (.ref 107) :: (.int 316 0) :: (.int 52 0) :: (.str "/claim/cut.py" 317) :: []))), #[]⟩) ::
  (nat_lit 109, ⟨(.type "function"), .none, (.func ⟨"func", "Symbols.func", p109, .stmts b109, s109, 3, [], .none, .none, .none, (.str "clausemill.symbols" 194), .none, (.ref 108), .none, 0⟩), #[]⟩) ::
  (nat_lit 122, ⟨(.type "code"), .none, (.fields (List.toArray ((.str "arity" 327) :: (.str "Symbols.arity" 328) :: (.str "/claim/cut.py" 329) :: (.int 58 0) :: (.int 2 0) :: (.int 0 0) :: (.int 0 0) :: (.int 3 0) :: (.ref 117) :: (.bool .true) :: (.int 181 0) :: (.ref 118) :: .none :: (.ref 119) :: (.ref 120) :: (.ref 121) :: (.int 332 0) :: (.int 58 0) :: (.str "/claim/cut.py" 333) :: []))), #[]⟩) ::
  (nat_lit 123, ⟨(.type "function"), .none, (.func ⟨"arity", "Symbols.arity", p123, .stmts b123, s123, 3, [], .none, .none, .none, (.str "clausemill.symbols" 194), .none, (.ref 122), .none, 0⟩), #[]⟩) ::
  (nat_lit 153, ⟨(.type "dict"), .none, (.dict (List.toArray (⟨(PyData.keyHash P "__module__"), (.str "__module__" 266), (.str "clausemill.symbols" 194)⟩ :: ⟨(PyData.keyHash P "__firstlineno__"), (.str "__firstlineno__" 270), (.int 18 269)⟩ :: ⟨(PyData.keyHash P "__init__"), (.str "__init__" 279), (.ref 81)⟩ :: ⟨(PyData.keyHash P "atom"), (.str "atom" 289), (.ref 88)⟩ :: ⟨(PyData.keyHash P "text"), (.str "text" 297), (.ref 95)⟩ :: ⟨(PyData.keyHash P "functor"), (.str "functor" 309), (.ref 102)⟩ :: ⟨(PyData.keyHash P "func"), (.str "func" 318), (.ref 109)⟩ :: ⟨(PyData.keyHash P "name"), (.str "name" 326), (.ref 116)⟩ :: ⟨(PyData.keyHash P "arity"), (.str "arity" 334), (.ref 123)⟩ :: ⟨(PyData.keyHash P "label"), (.str "label" 342), (.ref 130)⟩ :: ⟨(PyData.keyHash P "count"), (.str "count" 349), (.ref 137)⟩ :: ⟨(PyData.keyHash P "functor_count"), (.str "functor_count" 356), (.ref 144)⟩ :: ⟨(PyData.keyHash P "known"), (.str "known" 366), (.ref 151)⟩ :: ⟨(PyData.keyHash P "__static_attributes__"), (.str "__static_attributes__" 371), (.ref 152)⟩ :: ⟨(PyData.keyHash P "__dict__"), (.str "__dict__" 373), (.ref 155)⟩ :: ⟨(PyData.keyHash P "__weakref__"), (.str "__weakref__" 375), (.ref 156)⟩ :: ⟨(PyData.keyHash P "__doc__"), (.str "__doc__" 376), .none⟩ :: [])) 4), #[]⟩) ::
  (nat_lit 154, ⟨(.type "type"), .none, (.cls ⟨"Symbols", [(.type "object")], [(.ref 154), (.type "object")], 153, "Symbols", .true, [], [], .false, .none, .false⟩), #[.none, .none, (.some (.str "Symbols" 259)), (.some (.str "Symbols" 267)), (.some (.builtin "object.__new__")), (.some (.bool .true))]⟩) ::
  (nat_lit 187, ⟨(.type "tuple"), .none, (.seq #[(.int 100000 439)] 0), #[]⟩) ::
  (nat_lit 193, ⟨(.type "code"), .none, (.fields (List.toArray ((.str "__init__" 440) :: (.str "Cells.__init__" 441) :: (.str "/claim/cut.py" 442) :: (.int 97 0) :: (.int 3 0) :: (.int 0 0) :: (.int 0 0) :: (.int 3 0) :: (.ref 188) :: (.bool .true) :: (.int 181 0) :: (.ref 189) :: .none :: (.ref 190) :: (.ref 191) :: (.ref 192) :: (.int 446 0) :: (.int 97 0) :: (.str "/claim/cut.py" 447) :: []))), #[]⟩) ::
  (nat_lit 194, ⟨(.type "function"), .none, (.func ⟨"__init__", "Cells.__init__", p194, .stmts b194, s194, 3, [], (.ref 187), .none, .none, (.str "clausemill.store" 407), .none, (.ref 193), .none, 0⟩), #[]⟩) ::
  (nat_lit 200, ⟨(.type "code"), .none, (.fields (List.toArray ((.str "push" 449) :: (.str "Cells.push" 450) :: (.str "/claim/cut.py" 451) :: (.int 106 0) :: (.int 2 0) :: (.int 0 0) :: (.int 0 0) :: (.int 3 0) :: (.ref 195) :: (.bool .true) :: (.int 181 0) :: (.ref 196) :: .none :: (.ref 197) :: (.ref 198) :: (.ref 199) :: (.int 455 0) :: (.int 106 0) :: (.str "/claim/cut.py" 456) :: []))), #[]⟩) ::
  (nat_lit 201, ⟨(.type "function"), .none, (.func ⟨"push", "Cells.push", p201, .stmts b201, s201, 3, [], .none, .none, .none, (.str "clausemill.store" 407), .none, (.ref 200), .none, 0⟩), #[]⟩) ::
  (nat_lit 207, ⟨(.type "code"), .none, (.fields (List.toArray ((.str "new_var" 458) :: (.str "Cells.new_var" 459) :: (.str "/claim/cut.py" 460) :: (.int 113 0) :: (.int 1 0) :: (.int 0 0) :: (.int 0 0) :: (.int 3 0) :: (.ref 202) :: (.bool .true) :: (.int 181 0) :: (.ref 203) :: .none :: (.ref 204) :: (.ref 205) :: (.ref 206) :: (.int 463 0) :: (.int 113 0) :: (.str "/claim/cut.py" 464) :: []))), #[]⟩) ::
  (nat_lit 208, ⟨(.type "function"), .none, (.func ⟨"new_var", "Cells.new_var", p208, .stmts b208, s208, 3, [], .none, .none, .none, (.str "clausemill.store" 407), .none, (.ref 207), .none, 0⟩), #[]⟩) ::
  (nat_lit 214, ⟨(.type "code"), .none, (.fields (List.toArray ((.str "reserve" 466) :: (.str "Cells.reserve" 467) :: (.str "/claim/cut.py" 468) :: (.int 118 0) :: (.int 2 0) :: (.int 0 0) :: (.int 0 0) :: (.int 3 0) :: (.ref 209) :: (.bool .true) :: (.int 181 0) :: (.ref 210) :: .none :: (.ref 211) :: (.ref 212) :: (.ref 213) :: (.int 473 0) :: (.int 118 0) :: (.str "/claim/cut.py" 474) :: []))), #[]⟩) ::
  (nat_lit 215, ⟨(.type "function"), .none, (.func ⟨"reserve", "Cells.reserve", p215, .stmts b215, s215, 3, [], .none, .none, .none, (.str "clausemill.store" 407), .none, (.ref 214), .none, 0⟩), #[]⟩) ::
  (nat_lit 228, ⟨(.type "code"), .none, (.fields (List.toArray ((.str "deref" 484) :: (.str "Cells.deref" 485) :: (.str "/claim/cut.py" 486) :: (.int 129 0) :: (.int 2 0) :: (.int 0 0) :: (.int 0 0) :: (.int 3 0) :: (.ref 223) :: (.bool .true) :: (.int 181 0) :: (.ref 224) :: .none :: (.ref 225) :: (.ref 226) :: (.ref 227) :: (.int 491 0) :: (.int 129 0) :: (.str "/claim/cut.py" 492) :: []))), #[]⟩) ::
  (nat_lit 229, ⟨(.type "function"), .none, (.func ⟨"deref", "Cells.deref", p229, .stmts b229, s229, 3, [], .none, .none, .none, (.str "clausemill.store" 407), .none, (.ref 228), .none, 0⟩), #[]⟩) ::
  (nat_lit 242, ⟨(.type "code"), .none, (.fields (List.toArray ((.str "bind" 502) :: (.str "Cells.bind" 503) :: (.str "/claim/cut.py" 504) :: (.int 145 0) :: (.int 3 0) :: (.int 0 0) :: (.int 0 0) :: (.int 3 0) :: (.ref 237) :: (.bool .true) :: (.int 181 0) :: (.ref 238) :: .none :: (.ref 239) :: (.ref 240) :: (.ref 241) :: (.int 509 0) :: (.int 145 0) :: (.str "/claim/cut.py" 510) :: []))), #[]⟩) ::
  (nat_lit 243, ⟨(.type "function"), .none, (.func ⟨"bind", "Cells.bind", p243, .stmts b243, s243, 3, [], .none, .none, .none, (.str "clausemill.store" 407), .none, (.ref 242), .none, 0⟩), #[]⟩) ::
  (nat_lit 256, ⟨(.type "code"), .none, (.fields (List.toArray ((.str "globalise" 521) :: (.str "Cells.globalise" 522) :: (.str "/claim/cut.py" 523) :: (.int 159 0) :: (.int 2 0) :: (.int 0 0) :: (.int 0 0) :: (.int 3 0) :: (.ref 251) :: (.bool .true) :: (.int 181 0) :: (.ref 252) :: .none :: (.ref 253) :: (.ref 254) :: (.ref 255) :: (.int 527 0) :: (.int 159 0) :: (.str "/claim/cut.py" 528) :: []))), #[]⟩) ::
  (nat_lit 257, ⟨(.type "function"), .none, (.func ⟨"globalise", "Cells.globalise", p257, .stmts b257, s257, 3, [], .none, .none, .none, (.str "clausemill.store" 407), .none, (.ref 256), .none, 0⟩), #[]⟩) ::
  (nat_lit 284, ⟨(.type "code"), .none, (.fields (List.toArray ((.str "is_compound" 554) :: (.str "Cells.is_compound" 555) :: (.str "/claim/cut.py" 556) :: (.int 176 0) :: (.int 2 0) :: (.int 0 0) :: (.int 0 0) :: (.int 3 0) :: (.ref 279) :: (.bool .true) :: (.int 181 0) :: (.ref 280) :: .none :: (.ref 281) :: (.ref 282) :: (.ref 283) :: (.int 559 0) :: (.int 176 0) :: (.str "/claim/cut.py" 560) :: []))), #[]⟩) ::
  (nat_lit 285, ⟨(.type "function"), .none, (.func ⟨"is_compound", "Cells.is_compound", p285, .stmts b285, s285, 3, [], .none, .none, .none, (.str "clausemill.store" 407), .none, (.ref 284), .none, 0⟩), #[]⟩) ::
  (nat_lit 291, ⟨(.type "code"), .none, (.fields (List.toArray ((.str "functor_of" 562) :: (.str "Cells.functor_of" 563) :: (.str "/claim/cut.py" 564) :: (.int 179 0) :: (.int 2 0) :: (.int 0 0) :: (.int 0 0) :: (.int 3 0) :: (.ref 286) :: (.bool .true) :: (.int 181 0) :: (.ref 287) :: .none :: (.ref 288) :: (.ref 289) :: (.ref 290) :: (.int 568 0) :: (.int 179 0) :: (.str "/claim/cut.py" 569) :: []))), #[]⟩) ::
  (nat_lit 292, ⟨(.type "function"), .none, (.func ⟨"functor_of", "Cells.functor_of", p292, .stmts b292, s292, 3, [], .none, .none, .none, (.str "clausemill.store" 407), .none, (.ref 291), .none, 0⟩), #[]⟩) ::
  (nat_lit 298, ⟨(.type "code"), .none, (.fields (List.toArray ((.str "width" 571) :: (.str "Cells.width" 572) :: (.str "/claim/cut.py" 573) :: (.int 189 0) :: (.int 2 0) :: (.int 0 0) :: (.int 0 0) :: (.int 3 0) :: (.ref 293) :: (.bool .true) :: (.int 181 0) :: (.ref 294) :: .none :: (.ref 295) :: (.ref 296) :: (.ref 297) :: (.int 577 0) :: (.int 189 0) :: (.str "/claim/cut.py" 578) :: []))), #[]⟩) ::
  (nat_lit 299, ⟨(.type "function"), .none, (.func ⟨"width", "Cells.width", p299, .stmts b299, s299, 3, [], .none, .none, .none, (.str "clausemill.store" 407), .none, (.ref 298), .none, 0⟩), #[]⟩) ::
  (nat_lit 305, ⟨(.type "code"), .none, (.fields (List.toArray ((.str "base" 580) :: (.str "Cells.base" 581) :: (.str "/claim/cut.py" 582) :: (.int 197 0) :: (.int 2 0) :: (.int 0 0) :: (.int 0 0) :: (.int 3 0) :: (.ref 300) :: (.bool .true) :: (.int 181 0) :: (.ref 301) :: .none :: (.ref 302) :: (.ref 303) :: (.ref 304) :: (.int 585 0) :: (.int 197 0) :: (.str "/claim/cut.py" 586) :: []))), #[]⟩) ::
  (nat_lit 306, ⟨(.type "function"), .none, (.func ⟨"base", "Cells.base", p306, .stmts b306, s306, 3, [], .none, .none, .none, (.str "clausemill.store" 407), .none, (.ref 305), .none, 0⟩), #[]⟩) ::
  (nat_lit 319, ⟨(.type "code"), .none, (.fields (List.toArray ((.str "new_block" 597) :: (.str "Cells.new_block" 598) :: (.str "/claim/cut.py" 599) :: (.int 205 0) :: (.int 2 0) :: (.int 0 0) :: (.int 0 0) :: (.int 3 0) :: (.ref 314) :: (.bool .true) :: (.int 181 0) :: (.ref 315) :: .none :: (.ref 316) :: (.ref 317) :: (.ref 318) :: (.int 603 0) :: (.int 205 0) :: (.str "/claim/cut.py" 604) :: []))), #[]⟩) ::
  (nat_lit 320, ⟨(.type "function"), .none, (.func ⟨"new_block", "Cells.new_block", p320, .stmts b320, s320, 3, [], .none, .none, .none, (.str "clausemill.store" 407), .none, (.ref 319), .none, 0⟩), #[]⟩) ::
  (nat_lit 322, ⟨(.type "dict"), .none, (.dict (List.toArray (⟨(PyData.keyHash P "__module__"), (.str "__module__" 434), (.str "clausemill.store" 407)⟩ :: ⟨(PyData.keyHash P "__firstlineno__"), (.str "__firstlineno__" 438), (.int 95 437)⟩ :: ⟨(PyData.keyHash P "__init__"), (.str "__init__" 448), (.ref 194)⟩ :: ⟨(PyData.keyHash P "push"), (.str "push" 457), (.ref 201)⟩ :: ⟨(PyData.keyHash P "new_var"), (.str "new_var" 465), (.ref 208)⟩ :: ⟨(PyData.keyHash P "reserve"), (.str "reserve" 475), (.ref 215)⟩ :: ⟨(PyData.keyHash P "trim"), (.str "trim" 483), (.ref 222)⟩ :: ⟨(PyData.keyHash P "deref"), (.str "deref" 493), (.ref 229)⟩ :: ⟨(PyData.keyHash P "is_unbound"), (.str "is_unbound" 501), (.ref 236)⟩ :: ⟨(PyData.keyHash P "bind"), (.str "bind" 511), (.ref 243)⟩ :: ⟨(PyData.keyHash P "bind_pair"), (.str "bind_pair" 520), (.ref 250)⟩ :: ⟨(PyData.keyHash P "globalise"), (.str "globalise" 529), (.ref 257)⟩ :: ⟨(PyData.keyHash P "mark"), (.str "mark" 536), (.ref 264)⟩ :: ⟨(PyData.keyHash P "undo_to"), (.str "undo_to" 544), (.ref 271)⟩ :: ⟨(PyData.keyHash P "stack_put"), (.str "stack_put" 553), (.ref 278)⟩ :: ⟨(PyData.keyHash P "is_compound"), (.str "is_compound" 561), (.ref 285)⟩ :: ⟨(PyData.keyHash P "functor_of"), (.str "functor_of" 570), (.ref 292)⟩ :: ⟨(PyData.keyHash P "width"), (.str "width" 579), (.ref 299)⟩ :: ⟨(PyData.keyHash P "base"), (.str "base" 587), (.ref 306)⟩ :: ⟨(PyData.keyHash P "arg"), (.str "arg" 596), (.ref 313)⟩ :: ⟨(PyData.keyHash P "new_block"), (.str "new_block" 605), (.ref 320)⟩ :: ⟨(PyData.keyHash P "__static_attributes__"), (.str "__static_attributes__" 613), (.ref 321)⟩ :: ⟨(PyData.keyHash P "__dict__"), (.str "__dict__" 615), (.ref 324)⟩ :: ⟨(PyData.keyHash P "__weakref__"), (.str "__weakref__" 617), (.ref 325)⟩ :: ⟨(PyData.keyHash P "__doc__"), (.str "__doc__" 618), .none⟩ :: [])) 4), #[]⟩) ::
  (nat_lit 323, ⟨(.type "type"), .none, (.cls ⟨"Cells", [(.type "object")], [(.ref 323), (.type "object")], 322, "Cells", .true, [], [(.ref 380)], .false, .none, .false⟩), #[.none, .none, (.some (.str "Cells" 427)), (.some (.str "Cells" 435)), (.some (.builtin "object.__new__")), (.some (.bool .true))]⟩) ::
  (nat_lit 362, ⟨(.type "code"), .none, (.fields (List.toArray ((.str "put_term" 659) :: (.str "Store.put_term" 660) :: (.str "/claim/cut.py" 661) :: (.int 222 0) :: (.int 3 0) :: (.int 0 0) :: (.int 0 0) :: (.int 3 0) :: (.ref 357) :: (.bool .true) :: (.int 181 0) :: (.ref 358) :: .none :: (.ref 359) :: (.ref 360) :: (.ref 361) :: (.int 674 0) :: (.int 222 0) :: (.str "/claim/cut.py" 675) :: []))), #[]⟩) ::
  (nat_lit 363, ⟨(.type "function"), .none, (.func ⟨"put_term", "Store.put_term", p363, .stmts b363, s363, 3, [], .none, .none, .none, (.str "clausemill.store" 407), .none, (.ref 362), .none, 0⟩), #[]⟩) ::
  (nat_lit 369, ⟨(.type "code"), .none, (.fields (List.toArray ((.str "whole_size" 677) :: (.str "Store.whole_size" 678) :: (.str "/claim/cut.py" 679) :: (.int 259 0) :: (.int 3 0) :: (.int 0 0) :: (.int 0 0) :: (.int 3 0) :: (.ref 364) :: (.bool .true) :: (.int 181 0) :: (.ref 365) :: .none :: (.ref 366) :: (.ref 367) :: (.ref 368) :: (.int 687 0) :: (.int 259 0) :: (.str "/claim/cut.py" 688) :: []))), #[]⟩) ::
  (nat_lit 370, ⟨(.type "function"), .none, (.func ⟨"whole_size", "Store.whole_size", p370, .stmts b370, s370, 3, [], .none, .none, .none, (.str "clausemill.store" 407), .none, (.ref 369), .none, 0⟩), #[]⟩) ::
  (nat_lit 376, ⟨(.type "code"), .none, (.fields (List.toArray ((.str "take_term" 690) :: (.str "Store.take_term" 691) :: (.str "/claim/cut.py" 692) :: (.int 270 0) :: (.int 3 0) :: (.int 0 0) :: (.int 0 0) :: (.int 3 0) :: (.ref 371) :: (.bool .true) :: (.int 181 0) :: (.ref 372) :: .none :: (.ref 373) :: (.ref 374) :: (.ref 375) :: (.int 707 0) :: (.int 270 0) :: (.str "/claim/cut.py" 708) :: []))), #[]⟩) ::
  (nat_lit 377, ⟨(.type "function"), .none, (.func ⟨"take_term", "Store.take_term", p377, .stmts b377, s377, 3, [], .none, .none, .none, (.str "clausemill.store" 407), .none, (.ref 376), .none, 0⟩), #[]⟩) ::
  (nat_lit 379, ⟨(.type "dict"), .none, (.dict #[⟨(PyData.keyHash P "__module__"), (.str "__module__" 628), (.str "clausemill.store" 407)⟩, ⟨(PyData.keyHash P "__firstlineno__"), (.str "__firstlineno__" 632), (.int 211 631)⟩, ⟨(PyData.keyHash P "new_struct"), (.str "new_struct" 641), (.ref 341)⟩, ⟨(PyData.keyHash P "build_list"), (.str "build_list" 650), (.ref 349)⟩, ⟨(PyData.keyHash P "list_cells"), (.str "list_cells" 658), (.ref 356)⟩, ⟨(PyData.keyHash P "put_term"), (.str "put_term" 676), (.ref 363)⟩, ⟨(PyData.keyHash P "whole_size"), (.str "whole_size" 689), (.ref 370)⟩, ⟨(PyData.keyHash P "take_term"), (.str "take_term" 709), (.ref 377)⟩, ⟨(PyData.keyHash P "__static_attributes__"), (.str "__static_attributes__" 710), (.ref 378)⟩, ⟨(PyData.keyHash P "__doc__"), (.str "__doc__" 711), .none⟩] 2), #[]⟩) ::
  (nat_lit 380, ⟨(.type "type"), .none, (.cls ⟨"Store", [(.ref 323)], [(.ref 380), (.ref 323), (.type "object")], 379, "Store", .true, [], [], .false, .none, .false⟩), #[(.some (.ref 328)), .none, (.some (.str "Store" 621)), (.some (.str "Store" 629)), (.some (.builtin "object.__new__")), (.some (.bool .true))]⟩) ::
  (nat_lit 395, ⟨(.type "code"), .none, (.fields (List.toArray ((.str "__init__" 728) :: (.str "PairSet.__init__" 729) :: (.str "/claim/cut.py" 730) :: (.int 313 0) :: (.int 2 0) :: (.int 0 0) :: (.int 0 0) :: (.int 3 0) :: (.ref 390) :: (.bool .true) :: (.int 181 0) :: (.ref 391) :: .none :: (.ref 392) :: (.ref 393) :: (.ref 394) :: (.int 733 0) :: (.int 313 0) :: (.str "/claim/cut.py" 734) :: []))), #[]⟩) ::
  (nat_lit 396, ⟨(.type "function"), .none, (.func ⟨"__init__", "PairSet.__init__", p396, .stmts b396, s396, 3, [], .none, .none, .none, (.str "clausemill.unify" 714), .none, (.ref 395), .none, 0⟩), #[]⟩) ::
  (nat_lit 402, ⟨(.type "code"), .none, (.fields (List.toArray ((.str "add" 736) :: (.str "PairSet.add" 737) :: (.str "/claim/cut.py" 738) :: (.int 317 0) :: (.int 3 0) :: (.int 0 0) :: (.int 0 0) :: (.int 3 0) :: (.ref 397) :: (.bool .true) :: (.int 181 0) :: (.ref 398) :: .none :: (.ref 399) :: (.ref 400) :: (.ref 401) :: (.int 743 0) :: (.int 317 0) :: (.str "/claim/cut.py" 744) :: []))), #[]⟩) ::
  (nat_lit 403, ⟨(.type "function"), .none, (.func ⟨"add", "PairSet.add", p403, .stmts b403, s403, 3, [], .none, .none, .none, (.str "clausemill.unify" 714), .none, (.ref 402), .none, 0⟩), #[]⟩) ::
  (nat_lit 405, ⟨(.type "dict"), .none, (.dict #[⟨(PyData.keyHash P "__module__"), (.str "__module__" 723), (.str "clausemill.unify" 714)⟩, ⟨(PyData.keyHash P "__firstlineno__"), (.str "__firstlineno__" 727), (.int 311 726)⟩, ⟨(PyData.keyHash P "__init__"), (.str "__init__" 735), (.ref 396)⟩, ⟨(PyData.keyHash P "add"), (.str "add" 745), (.ref 403)⟩, ⟨(PyData.keyHash P "__static_attributes__"), (.str "__static_attributes__" 748), (.ref 404)⟩, ⟨(PyData.keyHash P "__dict__"), (.str "__dict__" 750), (.ref 407)⟩, ⟨(PyData.keyHash P "__weakref__"), (.str "__weakref__" 752), (.ref 408)⟩, ⟨(PyData.keyHash P "__doc__"), (.str "__doc__" 753), .none⟩] 4), #[]⟩) ::
  (nat_lit 406, ⟨(.type "type"), .none, (.cls ⟨"PairSet", [(.type "object")], [(.ref 406), (.type "object")], 405, "PairSet", .true, [], [], .false, .none, .false⟩), #[.none, .none, (.some (.str "PairSet" 716)), (.some (.str "PairSet" 724)), (.some (.builtin "object.__new__")), (.some (.bool .true))]⟩) ::
  (nat_lit 416, ⟨(.type "code"), .none, (.fields (List.toArray ((.str "push_pairs" 756) :: (.str "push_pairs" 757) :: (.str "/claim/cut.py" 758) :: (.int 323 0) :: (.int 4 0) :: (.int 0 0) :: (.int 0 0) :: (.int 3 0) :: (.ref 411) :: (.bool .true) :: (.int 181 0) :: (.ref 412) :: .none :: (.ref 413) :: (.ref 414) :: (.ref 415) :: (.int 766 0) :: (.int 323 0) :: (.str "/claim/cut.py" 767) :: []))), #[]⟩) ::
  (nat_lit 417, ⟨(.type "function"), .none, (.func ⟨"push_pairs", "push_pairs", p417, .stmts b417, s417, 3, [], .none, .none, .none, (.str "clausemill.unify" 714), .none, (.ref 416), .none, 0⟩), #[]⟩) ::
  (nat_lit 423, ⟨(.type "code"), .none, (.fields (List.toArray ((.str "same_shape" 769) :: (.str "same_shape" 770) :: (.str "/claim/cut.py" 771) :: (.int 328 0) :: (.int 3 0) :: (.int 0 0) :: (.int 0 0) :: (.int 3 0) :: (.ref 418) :: (.bool .true) :: (.int 181 0) :: (.ref 419) :: .none :: (.ref 420) :: (.ref 421) :: (.ref 422) :: (.int 775 0) :: (.int 328 0) :: (.str "/claim/cut.py" 776) :: []))), #[]⟩) ::
  (nat_lit 424, ⟨(.type "function"), .none, (.func ⟨"same_shape", "same_shape", p424, .stmts b424, s424, 3, [], .none, .none, .none, (.str "clausemill.unify" 714), .none, (.ref 423), .none, 0⟩), #[]⟩) ::
  (nat_lit 430, ⟨(.type "code"), .none, (.fields (List.toArray ((.str "is_variable" 778) :: (.str "is_variable" 779) :: (.str "/claim/cut.py" 780) :: (.int 334 0) :: (.int 1 0) :: (.int 0 0) :: (.int 0 0) :: (.int 3 0) :: (.ref 425) :: (.bool .true) :: (.int 181 0) :: (.ref 426) :: .none :: (.ref 427) :: (.ref 428) :: (.ref 429) :: (.int 782 0) :: (.int 334 0) :: (.str "/claim/cut.py" 783) :: []))), #[]⟩) ::
  (nat_lit 431, ⟨(.type "function"), .none, (.func ⟨"is_variable", "is_variable", p431, .stmts b431, s431, 3, [], .none, .none, .none, (.str "clausemill.unify" 714), .none, (.ref 430), .none, 0⟩), #[]⟩) ::
  (nat_lit 437, ⟨(.type "code"), .none, (.fields (List.toArray ((.str "variable_number" 785) :: (.str "variable_number" 786) :: (.str "/claim/cut.py" 787) :: (.int 336 0) :: (.int 1 0) :: (.int 0 0) :: (.int 0 0) :: (.int 3 0) :: (.ref 432) :: (.bool .true) :: (.int 181 0) :: (.ref 433) :: .none :: (.ref 434) :: (.ref 435) :: (.ref 436) :: (.int 789 0) :: (.int 336 0) :: (.str "/claim/cut.py" 790) :: []))), #[]⟩) ::
  (nat_lit 438, ⟨(.type "function"), .none, (.func ⟨"variable_number", "variable_number", p438, .stmts b438, s438, 3, [], .none, .none, .none, (.str "clausemill.unify" 714), .none, (.ref 437), .none, 0⟩), #[]⟩) ::
  (nat_lit 444, ⟨(.type "code"), .none, (.fields (List.toArray ((.str "variant" 792) :: (.str "variant" 793) :: (.str "/claim/cut.py" 794) :: (.int 340 0) :: (.int 3 0) :: (.int 0 0) :: (.int 0 0) :: (.int 3 0) :: (.ref 439) :: (.bool .true) :: (.int 181 0) :: (.ref 440) :: .none :: (.ref 441) :: (.ref 442) :: (.ref 443) :: (.int 806 0) :: (.int 340 0) :: (.str "/claim/cut.py" 807) :: []))), #[]⟩) ::
  (nat_lit 445, ⟨(.type "function"), .none, (.func ⟨"variant", "variant", p445, .stmts b445, s445, 3, [], .none, .none, .none, (.str "clausemill.unify" 714), .none, (.ref 444), .none, 0⟩), #[]⟩) ::
  (nat_lit 451, ⟨(.type "code"), .none, (.fields (List.toArray ((.str "_law_pick" 811) :: (.str "_law_pick" 812) :: (.str "/claim/cut.py" 813) :: (.int 368 0) :: (.int 2 0) :: (.int 0 0) :: (.int 0 0) :: (.int 3 0) :: (.ref 446) :: (.bool .true) :: (.int 181 0) :: (.ref 447) :: .none :: (.ref 448) :: (.ref 449) :: (.ref 450) :: (.int 817 0) :: (.int 368 0) :: (.str "/claim/cut.py" 818) :: []))), #[]⟩) ::
  (nat_lit 452, ⟨(.type "function"), .none, (.func ⟨"_law_pick", "_law_pick", p452, .stmts b452, s452, 3, [], .none, .none, .none, (.str "law_rh0090_01" 809), .none, (.ref 451), .none, 0⟩), #[]⟩) ::
  (nat_lit 458, ⟨(.type "code"), .none, (.fields (List.toArray ((.str "_law_tree" 820) :: (.str "_law_tree" 821) :: (.str "/claim/cut.py" 822) :: (.int 375 0) :: (.int 3 0) :: (.int 0 0) :: (.int 0 0) :: (.int 3 0) :: (.ref 453) :: (.bool .true) :: (.int 181 0) :: (.ref 454) :: .none :: (.ref 455) :: (.ref 456) :: (.ref 457) :: (.int 828 0) :: (.int 375 0) :: (.str "/claim/cut.py" 829) :: []))), #[]⟩) ::
  (nat_lit 459, ⟨(.type "function"), .none, (.func ⟨"_law_tree", "_law_tree", p459, .stmts b459, s459, 3, [], .none, .none, .none, (.str "law_rh0090_01" 809), .none, (.ref 458), .none, 0⟩), #[]⟩) ::
  (nat_lit 463, ⟨(.type "code"), .none, (.fields (List.toArray ((.str "_law_changed" 831) :: (.str "_law_changed" 832) :: (.str "/claim/cut.py" 833) :: (.int 387 0) :: (.int 2 0) :: (.int 0 0) :: (.int 0 0) :: (.int 3 0) :: (.ref 460) :: (.bool .true) :: (.int 181 0) :: (.ref 461) :: .none :: .none :: .none :: (.ref 462) :: (.int 834 0) :: (.int 387 0) :: (.str "/claim/cut.py" 835) :: []))), #[]⟩) ::
  (nat_lit 464, ⟨(.type "function"), .none, (.func ⟨"_law_changed", "_law_changed", p464, .stmts b464, s464, 3, [], .none, .none, .none, (.str "law_rh0090_01" 809), .none, (.ref 463), .none, 0⟩), #[]⟩) ::
  (nat_lit 470, ⟨(.type "code"), .none, (.fields (List.toArray ((.str "_law_numbered" 837) :: (.str "_law_numbered" 838) :: (.str "/claim/cut.py" 839) :: (.int 393 0) :: (.int 3 0) :: (.int 0 0) :: (.int 0 0) :: (.int 3 0) :: (.ref 465) :: (.bool .true) :: (.int 181 0) :: (.ref 466) :: .none :: (.ref 467) :: (.ref 468) :: (.ref 469) :: (.int 845 0) :: (.int 393 0) :: (.str "/claim/cut.py" 846) :: []))), #[]⟩) ::
  (nat_lit 471, ⟨(.type "function"), .none, (.func ⟨"_law_numbered", "_law_numbered", p471, .stmts b471, s471, 3, [], .none, .none, .none, (.str "law_rh0090_01" 809), .none, (.ref 470), .none, 0⟩), #[]⟩) ::
  (nat_lit 475, ⟨(.type "code"), .none, (.fields (List.toArray ((.str "law" 848) :: (.str "law" 849) :: (.str "/claim/cut.py" 850) :: (.int 406 0) :: (.int 1 0) :: (.int 0 0) :: (.int 0 0) :: (.int 3 0) :: (.ref 472) :: (.bool .true) :: (.int 181 0) :: (.ref 473) :: .none :: .none :: .none :: (.ref 474) :: (.int 851 0) :: (.int 406 0) :: (.str "/claim/cut.py" 852) :: []))), #[]⟩) ::
  (nat_lit 476, ⟨(.type "function"), .none, (.func ⟨"law", "law", p476, .stmts b476, s476, 3, [], .none, .none, .none, (.str "law_rh0090_01" 809), .none, (.ref 475), .none, 0⟩), #[]⟩) :: []
noncomputable def hd.heap_39 : Params → Frag := by
  refine (fun (_ : frag0 = ?b) => ?b) ?h
  case h =>
    conv =>
      lhs
      delta frag0 lit p60 b60 s60 p67 b67 s67 p81 b81 s81 p88 b88 s88 p102 b102 s102 p109 b109 s109 p123 b123 s123 p194 b194 s194 p201 b201 s201 p208 b208 s208 p215 b215 s215 p229 b229 s229 p243 b243 s243 p257 b257 s257 p285 b285 s285 p292 b292 s292 p299 b299 s299 p306 b306 s306 p320 b320 s320 p363 b363 s363 p370 b370 s370 p377 b377 s377 p396 b396 s396 p403 b403 s403 p417 b417 s417 p424 b424 s424 p431 b431 s431 p438 b438 s438 p445 b445 s445 p452 b452 s452 p459 b459 s459 p464 b464 s464 p471 b471 s471 p476 b476 s476
example : ∀ (P : Params) (h : Heap), (hd.heap_39 P).In h → PySem.Challenge.rw_rh0090_01.name = PySem.Challenge.rw_rh0090_01.name := by
  k_fill
  intros; rfl
section
open PySem PySem.W PyProof.Rows PySem.Calls
set_option hygiene true

structure Vw where
  prog : Program
  w : World
  g : Array GenState
  d : Drawn
  o : OsState
noncomputable abbrev Vw.M (V : Vw) : Model := model V.prog V.w
noncomputable abbrev Vw.sh (V : Vw) (h : Heap) (k : Nat) : Shared := ⟨h, V.g, V.d, k, V.o⟩
noncomputable def Pst {α : Type} (V : Vw) (Q : α → Heap → Nat → Prop) (a : α) (s : Shared) : Prop := ∃ h k, s = V.sh h k ∧ Q a h k
noncomputable def NoE (_ : Value) (_ : Shared) : Prop := False
noncomputable def W {α : Type} (V : Vw) (A : Around) (t : Sem α) (Q : α → Heap → Nat → Prop) (h : Heap) (k : Nat) : Prop :=
  wpAny V.M A t (Pst V Q) NoE (V.sh h k)

section
variable {α β : Type} {V : Vw} {A : Around} {h : Heap} {k : Nat}
theorem Pst.mk {Q : α → Heap → Nat → Prop} {a : α} {h : Heap} {k : Nat} (q : Q a h k) : Pst V Q a (V.sh h k) := ⟨h, k, rfl, q⟩
theorem Pst.to {f : α → Sem β} {Q : β → Heap → Nat → Prop} {a : α} {s : Shared} (x : Pst V (fun a => W V A (f a) Q) a s) : wpAny V.M A (f a) (Pst V Q) NoE s := by
  obtain ⟨_, _, rfl, y⟩ := x; exact y
theorem W.bnd {t : Sem α} {f : α → Sem β} {Q : β → Heap → Nat → Prop} (x : W V A t (fun a => W V A (f a) Q) h k) :
    wpAny V.M A t (fun a s => wpAny V.M A (f a) (Pst V Q) NoE s) NoE (V.sh h k) := wpAny_mono x (fun _ _ => Pst.to) fun _ _ e => e
theorem W.mono {t : Sem α} {Q Q' : α → Heap → Nat → Prop} (x : W V A t Q h k) (i : ∀ a h k, Q a h k → Q' a h k) : W V A t Q' h k :=
  wpAny_mono x (fun _ _ ⟨h, k, e, q⟩ => ⟨h, k, e, i _ _ _ q⟩) fun _ _ e => e
theorem W.gen {t : Sem α} {Q : α → Heap → Nat → Prop} {R : α → Shared → Prop} {E : Value → Shared → Prop} (x : W V A t Q h k)
    (i : ∀ a h k, Q a h k → R a (V.sh h k)) : wpAny V.M A t R E (V.sh h k) :=
  wpAny_mono x (fun _ _ ⟨h, k, e, q⟩ => e ▸ i _ _ _ q) fun _ _ e => e.elim
theorem W.bnd2 {t : Sem α} {f : α → Sem β} {Q : β → Heap → Nat → Prop} {R : β → Shared → Prop} (x : W V A t (fun a => W V A (f a) Q) h k)
    (i : ∀ a h k, Q a h k → R a (V.sh h k)) : wpAny V.M A t (fun a s => wpAny V.M A (f a) R NoE s) NoE (V.sh h k) :=
  wpAny_mono x (fun _ _ ⟨_, _, e, q⟩ => e ▸ W.gen q i) fun _ _ e => e
end

noncomputable def mp : List (Str × NameKind) → List (Option Value) → Str → Option Value
  | (n, _) :: ns, v :: vs, x => if x = n then v else mp ns vs x
  | _, _, _ => none
inductive GetL : List (Str × NameKind) → List (Option Value) → Str → Value → Prop
  | hd {x v ns vs} : GetL ((x, .local) :: ns) (some v :: vs) x v
  | tl {x v p w ns vs} : GetL ns vs x v → GetL (p :: ns) (w :: vs) x v
inductive PutL : List (Str × NameKind) → List (Option Value) → Str → Value → List (Option Value) → Prop
  | hd {x v w ns vs} : PutL ((x, .local) :: ns) (w :: vs) x v (some v :: vs)
  | tl {x v p w ns vs vs'} : PutL ns vs x v vs' → PutL (p :: ns) (w :: vs) x v (w :: vs')
inductive KndL : List (Str × NameKind) → Str → NameKind → Prop
  | hd {x k ns} : KndL ((x, k) :: ns) x k
  | tl {x k p ns} : KndL ns x k → KndL (p :: ns) x k
theorem GetL.h1 {x v p w ns vs} : GetL (p :: (x, .local) :: ns) (w :: some v :: vs) x v := .tl .hd
theorem GetL.h2 {x v p q w u ns vs} : GetL (p :: q :: (x, .local) :: ns) (w :: u :: some v :: vs) x v := .tl .h1
theorem GetL.t3 {x v p q r w u y ns vs} (g : GetL ns vs x v) : GetL (p :: q :: r :: ns) (w :: u :: y :: vs) x v := .tl (.tl (.tl g))
theorem PutL.h1 {x v w p u ns vs} : PutL (p :: (x, .local) :: ns) (u :: w :: vs) x v (u :: some v :: vs) := .tl .hd
theorem PutL.h2 {x v w p q u y ns vs} : PutL (p :: q :: (x, .local) :: ns) (u :: y :: w :: vs) x v (u :: y :: some v :: vs) := .tl .h1
theorem PutL.t3 {x v p q r w u y ns vs vs'} (g : PutL ns vs x v vs') : PutL (p :: q :: r :: ns) (w :: u :: y :: vs) x v (w :: u :: y :: vs') := .tl (.tl (.tl g))
theorem KndL.mem {ns x k} (g : KndL ns x k) : (x, k) ∈ ns := by
  induction g with
  | hd => exact .head _
  | tl _ ih => exact .tail _ ih
theorem GetL.knd {ns vs x v} (g : GetL ns vs x v) : KndL ns x .local := by
  induction g with
  | hd => exact .hd
  | tl _ ih => exact .tl ih
theorem PutL.knd {ns vs x v vs'} (g : PutL ns vs x v vs') : KndL ns x .local := by
  induction g with
  | hd => exact .hd
  | tl _ ih => exact .tl ih
theorem KndL.lookup {ns x k} (g : KndL ns x k) (nd : (ns.map (·.1)).Nodup) : ns.lookup x = some k := by
  induction g with
  | hd => simp [List.lookup]
  | @tl x k p ns g ih =>
    rw [List.map_cons, List.nodup_cons] at nd
    have hne : x ≠ p.1 := fun e => nd.1 (e ▸ List.mem_map_of_mem g.mem)
    have : (x == p.1) = false := by simpa using hne
    rw [show p :: ns = (p.1, p.2) :: ns from rfl, List.lookup_cons, this]
    exact ih nd.2
theorem GetL.mp {ns vs x v} (g : GetL ns vs x v) (nd : (ns.map (·.1)).Nodup) : mp ns vs x = some v := by
  induction g with
  | hd => simp [Mine.mp]
  | @tl x v p w ns vs g ih =>
    rw [List.map_cons, List.nodup_cons] at nd
    have hne : x ≠ p.1 := fun e => nd.1 (e ▸ List.mem_map_of_mem g.knd.mem)
    show (if x = p.1 then w else Mine.mp ns vs x) = some v
    rw [if_neg hne]; exact ih nd.2
theorem PutL.mp {ns vs x v vs'} (g : PutL ns vs x v vs') (nd : (ns.map (·.1)).Nodup) : (fun y => if y = x then some v else mp ns vs y) = mp ns vs' := by
  induction g with
  | hd =>
    rename_i x v w ns vs
    funext y
    show (if y = x then some v else if y = x then w else Mine.mp ns vs y) = if y = x then some v else Mine.mp ns vs y
    by_cases h : y = x <;> simp [h]
  | @tl x v p w ns vs vs' g ih =>
    rw [List.map_cons, List.nodup_cons] at nd
    have hne : p.1 ≠ x := fun e => nd.1 (e ▸ List.mem_map_of_mem g.knd.mem)
    have := ih nd.2
    funext y
    have e := congrFun this y
    show (if y = x then some v else if y = p.1 then w else Mine.mp ns vs y) = if y = p.1 then w else Mine.mp ns vs' y
    by_cases h : y = p.1
    · subst h; simp [hne]
    · simp only [h, if_false]; exact e

inductive MemA : List (Addr × Obj) → Addr → Obj → Prop
  | hd {a o r} : MemA ((a, o) :: r) a o
  | tl {a o p r} : MemA r a o → MemA (p :: r) a o
inductive UpdA : Addr → Obj → List (Addr × Obj) → List (Addr × Obj) → Prop
  | hd {a o o' r} : UpdA a o' ((a, o) :: r) ((a, o') :: r)
  | tl {a o' p r r'} : UpdA a o' r r' → UpdA a o' (p :: r) (p :: r')
theorem MemA.h1 {a o p r} : MemA (p :: (a, o) :: r) a o := .tl .hd
theorem MemA.h2 {a o p q r} : MemA (p :: q :: (a, o) :: r) a o := .tl .h1
theorem MemA.t3 {a o p q s r} (m : MemA r a o) : MemA (p :: q :: s :: r) a o := .tl (.tl (.tl m))
inductive UpdL : List (Addr × Obj) → List (Addr × Obj) → List (Addr × Obj) → Prop
  | nil {l} : UpdL [] l l
  | cons {a o ups l l' l''} : UpdA a o l l' → UpdL ups l' l'' → UpdL ((a, o) :: ups) l l''
theorem MemA.mem {l a o} (g : MemA l a o) : (a, o) ∈ l := by
  induction g with
  | hd => exact .head _
  | tl _ ih => exact .tail _ ih
theorem UpdA.addr {a o' l l'} (u : UpdA a o' l l') : l'.map (·.1) = l.map (·.1) := by
  induction u with
  | hd => rfl
  | tl _ ih => simp only [List.map_cons, ih]
theorem UpdA.has {a o' l l'} (u : UpdA a o' l l') : a ∈ l.map (·.1) := by
  induction u with
  | hd => exact .head _
  | tl _ ih => exact .tail _ ih
theorem UpdA.mem {a o' l l'} (u : UpdA a o' l l') (nd : (l.map (·.1)).Nodup) : ∀ p ∈ l', p = (a, o') ∨ (p.1 ≠ a ∧ p ∈ l) := by
  induction u with
  | hd =>
    intro p hp
    rw [List.map_cons, List.nodup_cons] at nd
    rcases List.mem_cons.mp hp with rfl | hp
    · exact .inl rfl
    · exact .inr ⟨fun e => nd.1 (List.mem_map.mpr ⟨p, hp, e⟩), .tail _ hp⟩
  | tl u ih =>
    intro p hp
    rw [List.map_cons, List.nodup_cons] at nd
    rcases List.mem_cons.mp hp with rfl | hp
    · exact .inr ⟨fun e => nd.1 (e ▸ u.has), .head _⟩
    · rcases ih nd.2 p hp with e | ⟨e1, e2⟩
      · exact .inl e
      · exact .inr ⟨e1, .tail _ e2⟩
theorem UpdL.addr {ups l l'} (u : UpdL ups l l') : l'.map (·.1) = l.map (·.1) := by
  induction u with
  | nil => rfl
  | cons a _ ih => rw [ih, a.addr]
theorem UpdL.has {ups l l'} (u : UpdL ups l l') : ∀ p ∈ ups, p.1 ∈ l.map (·.1) := by
  induction u with
  | nil => intro p hp; cases hp
  | cons a _ ih =>
    intro p hp
    rcases List.mem_cons.mp hp with rfl | hp
    · exact a.has
    · rw [← a.addr]; exact ih p hp
theorem UpdL.mem {ups l l'} (u : UpdL ups l l') (nd : (l.map (·.1)).Nodup) : ∀ p ∈ l', p ∈ ups ∨ (p.1 ∉ ups.map (·.1) ∧ p ∈ l) := by
  induction u with
  | nil => intro p hp; exact .inr ⟨by simp, hp⟩
  | cons a u ih =>
    intro p hp
    rcases ih (by rw [a.addr]; exact nd) p hp with e | ⟨e1, e2⟩
    · exact .inl (.tail _ e)
    · rcases a.mem nd p e2 with rfl | ⟨f1, f2⟩
      · exact .inl (.head _)
      · refine .inr ⟨fun q => ?_, f2⟩
        rw [List.map_cons] at q
        rcases List.mem_cons.mp q with q | q
        · exact f1 q
        · exact e1 q

noncomputable def TupO (o : Obj) : Prop := o.cls = .type "tuple" ∧ ∃ vs n, o.data = .seq vs n
noncomputable def Tk (h h' : Heap) : Prop := ∀ b o, h.get? b = some o → TupO o → h'.get? b = some o
noncomputable def Same (M : List Addr) (h h' : Heap) : Prop := ∀ b o, h.get? b = some o → b ∉ M → h'.get? b = some o
structure Chg (M : List Addr) (h h' : Heap) : Prop where
  same : Same M h h'
  tup : Tk h h'
theorem Tk.rfl {h : Heap} : Tk h h := fun _ _ e _ => e
theorem Tk.trans {h h' h'' : Heap} (x : Tk h h') (y : Tk h' h'') : Tk h h'' := fun b o e c => y b o (x b o e c) c
theorem Chg.rfl {M : List Addr} {h : Heap} : Chg M h h := ⟨fun _ _ e _ => e, Tk.rfl⟩
theorem Same.trans {M : List Addr} {h h' h'' : Heap} (x : Same M h h') (y : Same M h' h'') : Same M h h'' := fun b o e n => y b o (x b o e n) n
theorem Chg.trans {M : List Addr} {h h' h'' : Heap} (x : Chg M h h') (y : Chg M h' h'') : Chg M h h'' := ⟨x.same.trans y.same, x.tup.trans y.tup⟩
theorem Chg.mono {M M' : List Addr} {h h' : Heap} (x : Chg M h h') (s : ∀ a ∈ M, a ∈ M') : Chg M' h h' := ⟨fun b o e n => x.same b o e fun m => n (s b m), x.tup⟩

structure St (B P : Heap) (L : Addr) (ns : List (Str × NameKind)) (vs : List (Option Value)) (σ : List (Addr × Obj)) (h : Heap) : Prop where
  fr : h.Ns L (mp ns vs)
  base : ∀ b o, B.get? b = some o → h.get? b = some o
  above : B.objs.size ≤ L
  tup : Tk P h
  led : ∀ p ∈ σ, h.get? p.1 = some p.2 ∧ p.1 ≠ L ∧ B.get? p.1 = none
  nd : (σ.map (·.1)).Nodup
  nn : (ns.map (·.1)).Nodup
  nb : ns.all (fun p => !(p.1 == ("__debug__" : Str))) = true

theorem Heap.get?_update_oth {h : Heap} {a b : Addr} {f : Obj → Obj} (n : b ≠ a) : (h.update a f).get? b = h.get? b := Heap.get?_update_ne _ _ _ _ n

section
variable {B P : Heap} {L : Addr} {ns : List (Str × NameKind)} {vs : List (Option Value)} {σ : List (Addr × Obj)} {h : Heap}
theorem St.fr' (S : St B P L ns vs σ h) : Fr B L h (mp ns vs) := ⟨S.fr, S.base, S.above⟩
theorem St.bL (S : St B P L ns vs σ h) : B.get? L = none := by
  cases q : B.get? L with
  | none => rfl
  | some o => exact absurd (Nat.lt_of_lt_of_le (Heap.lt_size q) S.above) (Nat.lt_irrefl _)
theorem St.has (S : St B P L ns vs σ h) {a o} (m : MemA σ a o) : h.get? a = some o := (S.led _ m.mem).1
theorem St.lt (S : St B P L ns vs σ h) : L < h.objs.size := S.fr.lt

theorem St.push (S : St B P L ns vs σ h) (o : Obj) : St B P L ns vs σ (h.push o) := by
  exact ⟨S.fr.push o, fun b x e => Heap.get?_push_of_some _ (S.base b x e), S.above, fun b x e c => Heap.get?_push_of_some _ (S.tup b x e c),
    fun p hp => ⟨Heap.get?_push_of_some _ (S.led p hp).1, (S.led p hp).2⟩, S.nd, S.nn, S.nb⟩
theorem St.add (S : St B P L ns vs σ h) {a : Addr} {o : Obj} (ha : h.get? a = some o) (hL : a ≠ L) (hB : B.get? a = none) (hn : a ∉ σ.map (·.1)) : St B P L ns vs ((a, o) :: σ) h :=
  ⟨S.fr, S.base, S.above, S.tup, fun p hp => by
    rcases List.mem_cons.mp hp with rfl | hp
    · exact ⟨ha, hL, hB⟩
    · exact S.led p hp, List.nodup_cons.mpr ⟨hn, S.nd⟩, S.nn, S.nb⟩
theorem St.alloc (S : St B P L ns vs σ h) (o : Obj) (hf : o.isFreed = false := by rfl) : St B P L ns vs ((h.objs.size, o) :: σ) (h.push o) := by
  refine (S.push o).add (Heap.get?_push_size _ hf) (Nat.ne_of_gt S.lt) (Heap.get?_none_of_le (Nat.le_trans S.above (Nat.le_of_lt S.lt))) fun hm => ?_
  obtain ⟨p, hp, e⟩ := List.mem_map.mp hm
  exact absurd (Heap.lt_size (S.led p hp).1) (by rw [e]; exact Nat.lt_irrefl _)
theorem St.drop (S : St B P L ns vs σ h) {σ' : List (Addr × Obj)} (s : List.Sublist σ' σ) : St B P L ns vs σ' h :=
  ⟨S.fr, S.base, S.above, S.tup, fun p hp => S.led p (s.subset hp), (s.map _).nodup S.nd, S.nn, S.nb⟩
theorem St.chgL (S : St B P L ns vs σ h) {h' : Heap} {ups σ' : List (Addr × Obj)} (c : Chg (ups.map (·.1)) h h') (u : UpdL ups σ σ') (g : ∀ p ∈ ups, h'.get? p.1 = some p.2) : St B P L ns vs σ' h' := by
  have hM : ∀ a ∈ ups.map (·.1), a ≠ L ∧ B.get? a = none := fun a ha => by
    obtain ⟨p, hp, rfl⟩ := List.mem_map.mp ha
    obtain ⟨q, hq, e⟩ := List.mem_map.mp (u.has p hp)
    rw [← e]; exact (S.led q hq).2
  have hLn : L ∉ ups.map (·.1) := fun q => (hM L q).1 rfl
  obtain ⟨o1, es, ep, hl1, r⟩ := S.fr
  refine ⟨⟨o1, es, ep, c.same L o1 hl1 hLn, r⟩, fun b o e => c.same b o (S.base b o e) fun q => ?_, S.above, S.tup.trans c.tup, fun p hp => ?_, by rw [u.addr]; exact S.nd, S.nn, S.nb⟩
  · rw [(hM b q).2] at e; cases e
  · have a2 : p.1 ≠ L ∧ B.get? p.1 = none := by
      have : p.1 ∈ σ.map (·.1) := by rw [← u.addr]; exact List.mem_map_of_mem hp
      obtain ⟨q, hq, e⟩ := List.mem_map.mp this
      rw [← e]; exact (S.led q hq).2
    rcases u.mem S.nd p hp with e | ⟨e1, e2⟩
    · exact ⟨g p e, a2⟩
    · exact ⟨c.same p.1 p.2 (S.led p e2).1 e1, a2⟩
theorem St.upd (S : St B P L ns vs σ h) {a : Addr} {o o' : Obj} {f : Obj → Obj} {σ' : List (Addr × Obj)} (m : MemA σ a o) (e : f o = o') (u : UpdA a o' σ σ') (hc : ¬ TupO o) (hf : o'.isFreed = false := by rfl) :
    St B P L ns vs σ' (h.update a f) := by
  have ha := S.has m
  refine S.chgL (ups := [(a, o')]) ⟨fun b x eb n => ?_, fun b x eb c => ?_⟩ (.cons u .nil) fun p hp => ?_
  · have : b ≠ a := fun q => n (by rw [q]; exact .head _)
    rw [Heap.get?_update_oth this]; exact eb
  · have : b ≠ a := fun q => by subst q; rw [ha] at eb; cases eb; exact hc c
    rw [Heap.get?_update_oth this]; exact eb
  · rw [List.mem_singleton.mp hp]
    exact e ▸ Heap.get?_update_self _ ha (e ▸ hf)
theorem St.setName (S : St B P L ns vs σ h) {x : Str} {v : Value} {vs' : List (Option Value)} (p : PutL ns vs x v vs') {h' : Heap} (hn : h'.Ns L (fun y => if y = x then some v else mp ns vs y)) (hs : Heap.SameBut L h h') : St B P L ns vs' σ h' := by
  obtain ⟨ol, es, ep, hl, hd, r⟩ := S.fr
  refine ⟨p.mp S.nn ▸ hn, fun b o e => (hs.2 b fun q => ?_).trans (S.base b o e), S.above, fun b o e c => (hs.2 b fun q => ?_).trans (S.tup b o e c), fun q hq => ⟨(hs.2 _ (S.led q hq).2.1).trans (S.led q hq).1, (S.led q hq).2⟩, S.nd, S.nn, S.nb⟩
  · rw [q, S.bL] at e; cases e
  · have := S.tup b o e c; rw [q, hl] at this; cases this
    obtain ⟨_, v9, n9, e9⟩ := c
    rw [hd] at e9; cases e9
end
end
section
open PySem PySem.W PyProof.Rows PySem.Calls
set_option hygiene true
noncomputable def NewT (h h' : Heap) (t : Addr) (vs : List Value) : Prop := t = h.objs.size ∧ h' = h.push { cls := .type "tuple", data := .seq vs.toArray }
noncomputable def NewL (h h' : Heap) (t : Addr) (vs : List Value) : Prop := t = h.objs.size ∧ h' = h.push { cls := .type "list", data := .seq vs.toArray }

section
variable (V : Vw) (A : Around) (env : Env)
noncomputable abbrev KR (rest : List Stmt) (Q : Flow → Heap → Nat → Prop) : Unit → Heap → Nat → Prop := fun _ => W V A (execs rest env) Q
noncomputable abbrev Kst (x : Str) (rest : List Stmt) (Q : Flow → Heap → Nat → Prop) : Value → Heap → Nat → Prop := fun v => W V A (storeName env x v) (KR V A env rest Q)
noncomputable abbrev Ka2 (attr : Str) (rest : List Stmt) (Q : Flow → Heap → Nat → Prop) (v : Value) : Value → Heap → Nat → Prop := fun ov => W V A (setAttr ov attr v) (KR V A env rest Q)
noncomputable abbrev Ka1 (o : Expr) (attr : Str) (rest : List Stmt) (Q : Flow → Heap → Nat → Prop) : Value → Heap → Nat → Prop := fun v => W V A (eval o env) (Ka2 V A env attr rest Q v)
noncomputable abbrev Ks3 (rest : List Stmt) (Q : Flow → Heap → Nat → Prop) (v ov : Value) : Value → Heap → Nat → Prop := fun iv => W V A (setItem ov iv v) (KR V A env rest Q)
noncomputable abbrev Ks2 (i : Expr) (rest : List Stmt) (Q : Flow → Heap → Nat → Prop) (v : Value) : Value → Heap → Nat → Prop := fun ov => W V A (eval i env) (Ks3 V A env rest Q v ov)
noncomputable abbrev Ks1 (o i : Expr) (rest : List Stmt) (Q : Flow → Heap → Nat → Prop) : Value → Heap → Nat → Prop := fun v => W V A (eval o env) (Ks2 V A env i rest Q v)
noncomputable abbrev Kn2 (x : Str) (op : Operator) (rest : List Stmt) (Q : Flow → Heap → Nat → Prop) (old : Value) : Value → Heap → Nat → Prop := fun v => W V A (inplaceOp op old v) (Kst V A env x rest Q)
noncomputable abbrev Kn1 (x : Str) (op : Operator) (value : Expr) (rest : List Stmt) (Q : Flow → Heap → Nat → Prop) : Value → Heap → Nat → Prop := fun old => W V A (eval value env) (Kn2 V A env x op rest Q old)
noncomputable abbrev Kg4 (op : Operator) (rest : List Stmt) (Q : Flow → Heap → Nat → Prop) (ov iv old : Value) : Value → Heap → Nat → Prop := fun v => W V A (inplaceOp op old v) (fun new => W V A (setItem ov iv new) (KR V A env rest Q))
noncomputable abbrev Kg3 (op : Operator) (value : Expr) (rest : List Stmt) (Q : Flow → Heap → Nat → Prop) (ov iv : Value) : Value → Heap → Nat → Prop := fun old => W V A (eval value env) (Kg4 V A env op rest Q ov iv old)
noncomputable abbrev Kg2 (op : Operator) (value : Expr) (rest : List Stmt) (Q : Flow → Heap → Nat → Prop) (ov : Value) : Value → Heap → Nat → Prop := fun iv => W V A (getItem ov iv) (Kg3 V A env op value rest Q ov iv)
noncomputable abbrev Kg1 (i : Expr) (op : Operator) (value : Expr) (rest : List Stmt) (Q : Flow → Heap → Nat → Prop) : Value → Heap → Nat → Prop := fun ov => W V A (eval i env) (Kg2 V A env op value rest Q ov)
noncomputable abbrev Kx (rest : List Stmt) (Q : Flow → Heap → Nat → Prop) : Value → Heap → Nat → Prop := fun v h k => (∀ a, v ≠ .ref a) ∧ W V A (execs rest env) Q h k
noncomputable abbrev Krt (Q : Flow → Heap → Nat → Prop) : Value → Heap → Nat → Prop := fun v => Q (.ret v)
noncomputable abbrev Kif (body orelse : List Stmt) (Q : Flow → Heap → Nat → Prop) : Bool → Heap → Nat → Prop := fun b h k => (b = true → W V A (execs body env) Q h k) ∧ (b = false → W V A (execs orelse env) Q h k)
noncomputable abbrev Kb2 (op : Operator) (a : Value) (Q : Value → Heap → Nat → Prop) : Value → Heap → Nat → Prop := fun b => W V A (binaryOp op a b) Q
noncomputable abbrev Kb1 (op : Operator) (r : Expr) (Q : Value → Heap → Nat → Prop) : Value → Heap → Nat → Prop := fun a => W V A (eval r env) (Kb2 V A op a Q)
noncomputable abbrev Kc2 (op : CmpOp) (a : Value) (Q : Value → Heap → Nat → Prop) : Value → Heap → Nat → Prop := fun b => W V A (compareOp op a b) Q
noncomputable abbrev Kc1 (op : CmpOp) (r : Expr) (Q : Value → Heap → Nat → Prop) : Value → Heap → Nat → Prop := fun a => W V A (eval r env) (Kc2 V A op a Q)
noncomputable abbrev Ktr (Q : Bool → Heap → Nat → Prop) : Value → Heap → Nat → Prop := fun c => W V A (truthy c) Q
noncomputable abbrev Kun (op : UnaryOp) (Q : Value → Heap → Nat → Prop) : Value → Heap → Nat → Prop := fun a => W V A (unaryOp op a) Q
noncomputable abbrev Kie (body orelse : Expr) (Q : Value → Heap → Nat → Prop) : Bool → Heap → Nat → Prop := fun b h k => (b = true → W V A (eval body env) Q h k) ∧ (b = false → W V A (eval orelse env) Q h k)
noncomputable abbrev Kan (y : Expr) (Q : Value → Heap → Nat → Prop) : Value → Heap → Nat → Prop := fun v => W V A (truthy v) (fun t h k => (t = true → W V A (eval y env) Q h k) ∧ (t = false → Q v h k))
noncomputable abbrev Kor (y : Expr) (Q : Value → Heap → Nat → Prop) : Value → Heap → Nat → Prop := fun v => W V A (truthy v) (fun t h k => (t = true → Q v h k) ∧ (t = false → W V A (eval y env) Q h k))
noncomputable abbrev Kq2 (value slice : Expr) (o : Value) (Q : Value → Heap → Nat → Prop) : Value → Heap → Nat → Prop := fun i => W V A (subscriptTail value slice o i) Q
noncomputable abbrev Kq1 (value slice : Expr) (Q : Value → Heap → Nat → Prop) : Value → Heap → Nat → Prop := fun o => W V A (eval slice env) (Kq2 V A value slice o Q)
noncomputable abbrev Kat (attr : Str) (Q : Value → Heap → Nat → Prop) : Value → Heap → Nat → Prop := fun o => W V A (getAttr o attr true) Q
noncomputable def Ktu (Q : Value → Heap → Nat → Prop) : List Value → Heap → Nat → Prop := fun vs h k => vs.length ≤ sizeLine ∧ ∀ t h', NewT h h' t vs → Q (.ref t) h' k
noncomputable def Kli (Q : Value → Heap → Nat → Prop) : List Value → Heap → Nat → Prop := fun vs h k => vs.length ≤ sizeLine ∧ ∀ t h', NewL h h' t vs → Q (.ref t) h' k
noncomputable abbrev KS2 (Q : List Value → Heap → Nat → Prop) (v : Value) : List Value → Heap → Nat → Prop := fun vs => Q (v :: vs)
noncomputable abbrev KS1 (pos : Pos) (rest : List Expr) (Q : List Value → Heap → Nat → Prop) : Value → Heap → Nat → Prop := fun v => W V A (spliced (backTo pos (starEach rest env))) (KS2 Q v)
noncomputable abbrev Kno (Q : Bool → Heap → Nat → Prop) : Bool → Heap → Nat → Prop := fun b => Q (!b)
noncomputable abbrev Kta (rest : List Expr) (Q : Bool → Heap → Nat → Prop) : Bool → Heap → Nat → Prop := fun b h k => (b = true → W V A (allTrue .And rest env) Q h k) ∧ (b = false → Q false h k)
noncomputable abbrev Kto (rest : List Expr) (Q : Bool → Heap → Nat → Prop) : Bool → Heap → Nat → Prop := fun b h k => (b = true → Q true h k) ∧ (b = false → W V A (allTrue .Or rest env) Q h k)
noncomputable abbrev Kca (pos : Pos) (args : List (Bool × Sem Value)) (Q : Value → Heap → Nat → Prop) : Value → Heap → Nat → Prop := fun f => W V A (callWith pos f [] args []) Q
noncomputable abbrev Kmc (pos : Pos) (args : List (Bool × Sem Value)) (Q : Value → Heap → Nat → Prop) : Value × List Value → Heap → Nat → Prop := fun fx => W V A (callWith pos fx.1 fx.2 args []) Q
noncomputable abbrev Kme (name : Str) (pl : Sem Bool) (pos : Pos) (args : List (Bool × Sem Value)) (Q : Value → Heap → Nat → Prop) : Value → Heap → Nat → Prop := fun ov => W V A (getMethod ov name pl) (Kmc V A pos args Q)
noncomputable abbrev Kcl (f : Value) (first : List Value) (Q : Value → Heap → Nat → Prop) : List Value → Heap → Nat → Prop := fun vs => W V A (PySem.call f (first ++ vs)) Q
end

section
variable {V : Vw} {A : Around} {h : Heap} {k : Nat} {env : Env}

theorem X_nil {Q : Flow → Heap → Nat → Prop} (q : Q .next h k) : W V A (execs [] env) Q h k := wpAny_execs_nil (Pst.mk q)
noncomputable def Nx (V : Vw) (A : Around) (rest : List Stmt) (env : Env) (Q : Flow → Heap → Nat → Prop) (f : Flow) (h : Heap) (k : Nat) : Prop :=
  match f with | .next => W V A (execs rest env) Q h k | f => Q f h k
theorem Nx_next {rest : List Stmt} {Q : Flow → Heap → Nat → Prop} (q : W V A (execs rest env) Q h k) : Nx V A rest env Q .next h k := q
theorem Nx_ret {rest : List Stmt} {Q : Flow → Heap → Nat → Prop} {v : Value} (q : Q (.ret v) h k) : Nx V A rest env Q (.ret v) h k := q
theorem Nx_cont {rest : List Stmt} {Q : Flow → Heap → Nat → Prop} (q : Q .cont h k) : Nx V A rest env Q .cont h k := q
theorem X_seq {st : Stmt} {rest : List Stmt} {Q : Flow → Heap → Nat → Prop}
    (x : W V A (exec st env) (Nx V A rest env Q) h k) : W V A (execs (st :: rest) env) Q h k :=
  wpAny_execs_cons (W.gen x fun f h k q => by cases f <;> first | exact q | exact Pst.mk q)
theorem X_name {x : Str} {pos' pos : Pos} {value : Expr} {rest : List Stmt} {Q : Flow → Heap → Nat → Prop}
    (y : W V A (eval value env) (Kst V A env x rest Q) h k)
    (hs : swapsWith value (some (.Name x pos')) pos.line env = pure false := by with_unfolding_all rfl) : W V A (execs (.Assign [.Name x pos'] value pos :: rest) env) Q h k :=
  wpAny_execs_cons (wpAny_Assign_Name (W.bnd2 y fun _ _ _ q => q) hs)
theorem X_attr {o value : Expr} {attr : Str} {pos' pos : Pos} {rest : List Stmt} {Q : Flow → Heap → Nat → Prop}
    (y : W V A (eval value env) (Ka1 V A env o attr rest Q) h k)
    (hs : swapsWith value (some (.Attribute o attr pos')) pos.line env = pure false := by with_unfolding_all rfl) : W V A (execs (.Assign [.Attribute o attr pos'] value pos :: rest) env) Q h k :=
  wpAny_execs_cons (plainObj_wpAny_Assign_Attribute (W.gen y fun _ _ _ q => W.bnd2 q fun _ _ _ q => q) hs)
theorem X_sub {o i value : Expr} {pos' pos : Pos} {rest : List Stmt} {Q : Flow → Heap → Nat → Prop}
    (y : W V A (eval value env) (Ks1 V A env o i rest Q) h k)
    (hs : swapsWith value (some (.Subscript o i pos')) pos.line env = pure false := by with_unfolding_all rfl) : W V A (execs (.Assign [.Subscript o i pos'] value pos :: rest) env) Q h k :=
  wpAny_execs_cons (wpAny_Assign_Subscript (W.gen y fun _ _ _ q => W.gen q fun _ _ _ q => W.bnd2 q fun _ _ _ q => q) hs)
theorem X_augName {x : Str} {pos' pos : Pos} {op : Operator} {value : Expr} {rest : List Stmt} {Q : Flow → Heap → Nat → Prop}
    (y : W V A (loadName env x) (Kn1 V A env x op value rest Q) h k) :
    W V A (execs (.AugAssign (.Name x pos') op value pos :: rest) env) Q h k :=
  wpAny_execs_cons (wpAny_AugAssign_Name (W.gen y fun _ _ _ q => W.gen q fun _ _ _ q => W.bnd2 q fun _ _ _ q => q))
theorem X_augSub {o i value : Expr} {pos' pos : Pos} {op : Operator} {rest : List Stmt} {Q : Flow → Heap → Nat → Prop}
    (y : W V A (eval o env) (Kg1 V A env i op value rest Q) h k)
    (hi : ∀ ov iv new, augStore i ov iv new = (do holding [new, ov, iv] (setItem ov iv new); release [new, ov, iv] []; pure .next) := by intros; with_unfolding_all rfl) :
    W V A (execs (.AugAssign (.Subscript o i pos') op value pos :: rest) env) Q h k :=
  wpAny_execs_cons (wpAny_AugAssign_SubscriptAny (W.gen y fun _ _ _ q => W.gen q fun _ _ _ q => W.gen q fun _ _ _ q => W.gen q fun _ _ _ q => W.bnd2 q fun _ _ _ q => q) hi)
theorem X_expr {e : Expr} {pos : Pos} {rest : List Stmt} {Q : Flow → Heap → Nat → Prop}
    (y : W V A (eval e env) (Kx V A env rest Q) h k)
    (hi : interactive env = false := by with_unfolding_all rfl) (hs : swapsWith e none pos.line env = pure false := by with_unfolding_all rfl) : W V A (execs (.Expr e pos :: rest) env) Q h k :=
  wpAny_execs_cons (wpAny_Expr (W.gen y fun v _ _ q => by cases v <;> first | exact q.2 | exact (q.1 _ rfl).elim) hi hs)
theorem X_ret {e : Expr} {pos : Pos} {rest : List Stmt} {Q : Flow → Heap → Nat → Prop} (y : W V A (eval e env) (Krt Q) h k) :
    W V A (execs (.Return (some e) pos :: rest) env) Q h k :=
  wpAny_execs_cons (wpAny_Return_some (W.gen y fun _ _ _ q => Pst.mk q))
theorem X_cont {pos : Pos} {rest : List Stmt} {Q : Flow → Heap → Nat → Prop} (q : Q .cont h k) : W V A (execs (.Continue pos :: rest) env) Q h k :=
  wpAny_execs_cons (wpAny_Continue (Pst.mk q))
theorem X_if {test : Expr} {body orelse rest : List Stmt} {pos : Pos} {Q : Flow → Heap → Nat → Prop}
    (y : W V A (isTrue test env (eval test env)) (Kif V A env body orelse (Nx V A rest env Q)) h k) :
    W V A (execs (.If test body orelse pos :: rest) env) Q h k :=
  X_seq (wpAny_If (W.gen y fun b _ _ q => by cases b <;> first | exact q.1 rfl | exact q.2 rfl))
theorem X_if0 {test : Expr} {body orelse : List Stmt} {pos : Pos} {Q : Flow → Heap → Nat → Prop}
    (y : W V A (isTrue test env (eval test env)) (Kif V A env body orelse Q) h k) :
    W V A (execs (.If test body orelse pos :: []) env) Q h k := by
  have key : ∀ f h k, Q f h k → Nx V A [] env Q f h k := fun f h k q => by
    cases f with
    | next => exact X_nil q
    | _ => exact q
  exact X_if (y.mono fun b h k q => ⟨fun e => (q.1 e).mono key, fun e => (q.2 e).mono key⟩)

theorem E_int {i : Int} {n : Nat} {pos : Pos} {Q : Value → Heap → Nat → Prop} (q : Q (.int i k) h (k + 1)) : W V A (eval (.Constant (.int i) n pos) env) Q h k := wpAny_Constant_int (Pst.mk q)
theorem E_str {x : Str} {n : Nat} {pos : Pos} {Q : Value → Heap → Nat → Prop} (q : Q (.str x k) h (k + 1)) : W V A (eval (.Constant (.str x) n pos) env) Q h k := wpAny_Constant_str (Pst.mk q)
theorem E_none {n : Nat} {pos : Pos} {Q : Value → Heap → Nat → Prop} (q : Q .none h k) : W V A (eval (.Constant .none n pos) env) Q h k := wpAny_Constant_none (Pst.mk q)
theorem E_bool {b : Bool} {n : Nat} {pos : Pos} {Q : Value → Heap → Nat → Prop} (q : Q (.bool b) h k) : W V A (eval (.Constant (.bool b) n pos) env) Q h k := wpAny_Constant_bool (Pst.mk q)
theorem E_bin {l r : Expr} {op : Operator} {pos : Pos} {Q : Value → Heap → Nat → Prop}
    (y : W V A (eval l env) (Kb1 V A env op r Q) h k) : W V A (eval (.BinOp l op r pos) env) Q h k :=
  wpAny_BinOp (W.gen y fun _ _ _ q => W.bnd q)
theorem E_cmp {l r : Expr} {op : CmpOp} {pos : Pos} {Q : Value → Heap → Nat → Prop}
    (y : W V A (eval l env) (Kc1 V A env op r Q) h k) (hm : behindInMarks op r = false := by with_unfolding_all rfl) :
    W V A (eval (.Compare l [op] [r] pos) env) Q h k := wpAny_Compare1 (W.gen y fun _ _ _ q => W.bnd q) hm
theorem E_un {x : Expr} {op : UnaryOp} {pos : Pos} {Q : Value → Heap → Nat → Prop} (y : W V A (eval x env) (Kun V A op Q) h k) : W V A (eval (.UnaryOp op x pos) env) Q h k :=
  wpAny_UnaryOp (W.bnd y)
theorem E_if {test body orelse : Expr} {pos : Pos} {Q : Value → Heap → Nat → Prop}
    (y : W V A (isTrue test env (eval test env)) (Kie V A env body orelse Q) h k) :
    W V A (eval (.IfExp test body orelse pos) env) Q h k := wpAny_IfExp (W.gen y fun b _ _ q => by cases b <;> first | exact q.1 rfl | exact q.2 rfl)
theorem E_and {x y : Expr} {pos : Pos} {Q : Value → Heap → Nat → Prop}
    (z : W V A (eval x env) (Kan V A env y Q) h k) : W V A (eval (.BoolOp .And [x, y] pos) env) Q h k :=
  wpAny_And2 (W.gen z fun _ _ _ q => W.gen q fun b _ _ q => by cases b <;> first | exact q.1 rfl | exact Pst.mk (q.2 rfl))
theorem E_or {x y : Expr} {pos : Pos} {Q : Value → Heap → Nat → Prop}
    (z : W V A (eval x env) (Kor V A env y Q) h k) : W V A (eval (.BoolOp .Or [x, y] pos) env) Q h k :=
  wpAny_Or2 (W.gen z fun _ _ _ q => W.gen q fun b _ _ q => by cases b <;> first | exact Pst.mk (q.1 rfl) | exact q.2 rfl)
theorem E_sub {value slice : Expr} {pos : Pos} {Q : Value → Heap → Nat → Prop}
    (y : W V A (eval value env) (Kq1 V A env value slice Q) h k) : W V A (eval (.Subscript value slice pos) env) Q h k :=
  Subscript_ (W.gen y fun _ _ _ q => W.bnd q)
theorem E_attr {value : Expr} {attr : Str} {pos : Pos} {Q : Value → Heap → Nat → Prop}
    (y : W V A (eval value env) (Kat V A attr Q) h k)
    (he : eval (.Attribute value attr pos) env = (do
      let o ← eval value env
      standAt pos.atName
      let r ← holding [o] (getAttr o attr true)
      letTemporaryGo value o r
      pure r) := by with_unfolding_all rfl) : W V A (eval (.Attribute value attr pos) env) Q h k :=
  Attribute_any_ (W.bnd y) he
theorem E_tuple {elts : List Expr} {n : Nat} {pos : Pos} {Q : Value → Heap → Nat → Prop}
    (y : W V A (spliced (backTo pos (starEach elts env))) (Ktu Q) h k) :
    W V A (eval (.Tuple elts n pos) env) Q h k := wpAny_Tuple (W.gen y fun _ _ _ q => ⟨q.1, Pst.mk (q.2 _ _ ⟨rfl, rfl⟩)⟩)
theorem E_list {elts : List Expr} {pos : Pos} {Q : Value → Heap → Nat → Prop}
    (y : W V A (spliced (backTo pos (starEach elts env))) (Kli Q) h k) :
    W V A (eval (.List elts pos) env) Q h k := wpAny_List (W.gen y fun _ _ _ q => ⟨q.1, Pst.mk (q.2 _ _ ⟨rfl, rfl⟩)⟩)
theorem S_nil {pos : Pos} {Q : List Value → Heap → Nat → Prop} (q : Q [] h k) : W V A (spliced (backTo pos (starEach [] env))) Q h k := wpAny_items_nil (Pst.mk q)
theorem S_cons {pos : Pos} {e : Expr} {rest : List Expr} {Q : List Value → Heap → Nat → Prop}
    (y : W V A (eval e env) (KS1 V A env pos rest Q) h k)
    (he : starEach (e :: rest) env = (false, eval e env) :: starEach rest env := by with_unfolding_all rfl) : W V A (spliced (backTo pos (starEach (e :: rest) env))) Q h k :=
  wpAny_items_cons (W.gen y fun _ _ _ q => W.gen q fun _ _ _ q => Pst.mk q) he

theorem T_cmp {l r : Expr} {op : CmpOp} {pos : Pos} {whole : Sem Value} {Q : Bool → Heap → Nat → Prop}
    (y : W V A (eval l env) (Kc1 V A env op r (Ktr V A Q)) h k) (hm : behindInMarks op r = false := by with_unfolding_all rfl) :
    W V A (isTrue (.Compare l [op] [r] pos) env whole) Q h k := wpAny_isTrue_Compare1 (W.gen y fun _ _ _ q => W.gen q fun _ _ _ q => W.bnd q) hm
theorem T_not {x : Expr} {pos : Pos} {whole : Sem Value} {Q : Bool → Heap → Nat → Prop} (y : W V A (isTrue x env (eval x env)) (Kno Q) h k) :
    W V A (isTrue (.UnaryOp .Not x pos) env whole) Q h k := wpAny_isTrue_Not (W.gen y fun _ _ _ q => Pst.mk q)
theorem T_bool {op : BoolOp} {values : List Expr} {pos : Pos} {whole : Sem Value} {Q : Bool → Heap → Nat → Prop} (y : W V A (allTrue op values env) Q h k) :
    W V A (isTrue (.BoolOp op values pos) env whole) Q h k := wpAny_isTrue_BoolOp y
theorem T_andN {Q : Bool → Heap → Nat → Prop} (q : Q true h k) : W V A (allTrue .And [] env) Q h k := wpAny_allTrue_And_nil (Pst.mk q)
theorem T_orN {Q : Bool → Heap → Nat → Prop} (q : Q false h k) : W V A (allTrue .Or [] env) Q h k := wpAny_allTrue_Or_nil (Pst.mk q)
theorem T_and {x : Expr} {rest : List Expr} {Q : Bool → Heap → Nat → Prop}
    (y : W V A (isTrue x env (eval x env)) (Kta V A env rest Q) h k) : W V A (allTrue .And (x :: rest) env) Q h k :=
  wpAny_allTrue_And_cons (W.gen y fun b _ _ q => by cases b <;> first | exact q.1 rfl | exact Pst.mk (q.2 rfl))
theorem T_or {x : Expr} {rest : List Expr} {Q : Bool → Heap → Nat → Prop}
    (y : W V A (isTrue x env (eval x env)) (Kto V A env rest Q) h k) : W V A (allTrue .Or (x :: rest) env) Q h k :=
  wpAny_allTrue_Or_cons (W.gen y fun b _ _ q => by cases b <;> first | exact Pst.mk (q.1 rfl) | exact q.2 rfl)
theorem T_val {e : Expr} {Q : Bool → Heap → Nat → Prop} (y : W V A (eval e env) (Ktr V A Q) h k)
    (he : isTrue e env (eval e env) = (do let v ← eval e env; standAt e.pos; holding [v] (truthy v)) := by with_unfolding_all rfl) : W V A (isTrue e env (eval e env)) Q h k :=
  wpAny_isTrue_value (W.bnd y) he
theorem truthy_b {b : Bool} {Q : Bool → Heap → Nat → Prop} (q : Q b h k) : W V A (truthy (.bool b)) Q h k := wpAny_truthy_bool (Pst.mk q)

variable {a b : Int} {t u : Tok} {Q : Value → Heap → Nat → Prop}
theorem i_add (q : Q (.int (a + b) k) h (k + 1)) : W V A (binaryOp .Add (.int a t) (.int b u)) Q h k := P.add_int (Pst.mk q)
theorem i_sub (q : Q (.int (a - b) k) h (k + 1)) : W V A (binaryOp .Sub (.int a t) (.int b u)) Q h k := P.sub_int (Pst.mk q)
theorem i_mul (q : Q (.int (a * b) k) h (k + 1)) (hm : IntMulOk a b) : W V A (binaryOp .Mult (.int a t) (.int b u)) Q h k := P.mul_int (Pst.mk q) hm
theorem i_mod (q : Q (.int (a.fmod b) k) h (k + 1)) (hb : b ≠ 0) : W V A (binaryOp .Mod (.int a t) (.int b u)) Q h k := mod_int' hb (Pst.mk q)
theorem i_iadd (q : Q (.int (a + b) k) h (k + 1)) : W V A (inplaceOp .Add (.int a t) (.int b u)) Q h k := P.iadd_int (Pst.mk q)
theorem i_neg (q : Q (.int (-a) k) h (k + 1)) : W V A (unaryOp .USub (.int a t)) Q h k := P.neg_int (Pst.mk q)
theorem i_eq (q : Q (.bool (a == b)) h k) : W V A (compareOp .Eq (.int a t) (.int b u)) Q h k := P.eq_int (Pst.mk q)
theorem i_ne (q : Q (.bool (a != b)) h k) : W V A (compareOp .NotEq (.int a t) (.int b u)) Q h k := P.ne_int (Pst.mk q)
theorem i_lt (q : Q (.bool (decide (a < b))) h k) : W V A (compareOp .Lt (.int a t) (.int b u)) Q h k := P.lt_int (Pst.mk q)
theorem i_gt (q : Q (.bool (decide (a > b))) h k) : W V A (compareOp .Gt (.int a t) (.int b u)) Q h k := P.gt_int (Pst.mk q)
theorem i_ge (q : Q (.bool (decide (a ≥ b))) h k) : W V A (compareOp .GtE (.int a t) (.int b u)) Q h k := P.ge_int (Pst.mk q)
theorem s_eq {x y : Str} (q : Q (.bool (x == y)) h k) : W V A (compareOp .Eq (.str x t) (.str y u)) Q h k := PyProof.Rows.eq_str (Pst.mk q)
theorem b_ne {x y : Bool} (hu : A.units + 0 < cLine) (q : Q (.bool (x != y)) h k) : W V A (compareOp .NotEq (.bool x) (.bool y)) Q h k := by
  refine SeqAt.compareNe_reads (Reads.bool x) (Reads.bool y) (by rfl) (by rfl) hu (Pst.mk ?_)
  have : (!PyData.eqv (.bool x) (.bool y)) = (x != y) := by cases x <;> cases y <;> rfl
  rw [this]; exact q
end

section
variable {V : Vw} {A : Around} {h : Heap} {k : Nat} {B P : Heap} {L a : Addr} {ns : List (Str × NameKind)} {vs : List (Option Value)} {σ : List (Addr × Obj)} {nm : Str} {sc : Scope} {cd : Value} {cl : List (Str × Addr)}
theorem nb_of {x : Str} {kd : NameKind} (S : St B P L ns vs σ h) (g : KndL ns x kd) : (x == ("__debug__" : Str)) = false := by
  have := List.all_eq_true.mp S.nb _ g.mem
  simpa using this
theorem E_loc {x : Str} {v : Value} {pos : Pos} {Q : Value → Heap → Nat → Prop} (S : St B P L ns vs σ h) (g : GetL ns vs x v) (q : Q v h k)
    (hk : sc.kind = .function := by with_unfolding_all rfl) (hn : sc.names = ns := by with_unfolding_all rfl) : W V A (eval (.Name x pos) (envX nm sc L a cd cl)) Q h k := by
  subst hn
  exact wpAny_Name (wpAny_loadName_local (env := envX nm sc L a cd cl) hk (g.knd.lookup S.nn) S.fr (g.mp S.nn) (Pst.mk q)) (nb_of S g.knd)
theorem N_loc {x : Str} {v : Value} {Q : Value → Heap → Nat → Prop} (S : St B P L ns vs σ h) (g : GetL ns vs x v) (q : Q v h k)
    (hk : sc.kind = .function := by with_unfolding_all rfl) (hn : sc.names = ns := by with_unfolding_all rfl) : W V A (loadName (envX nm sc L a cd cl) x) Q h k := by
  subst hn
  exact wpAny_loadName_local (env := envX nm sc L a cd cl) hk (g.knd.lookup S.nn) S.fr (g.mp S.nn) (Pst.mk q)
theorem N_st {x : Str} {v : Value} {vs' : List (Option Value)} {Q : Unit → Heap → Nat → Prop} (S : St B P L ns vs σ h) (p : PutL ns vs x v vs') (q : ∀ h', St B P L ns vs' σ h' → Q () h' (k + 1))
    (hk : sc.kind = .function := by with_unfolding_all rfl) (hn : sc.names = ns := by with_unfolding_all rfl) : W V A (storeName (envX nm sc L a cd cl) x v) Q h k := by
  subst hn
  exact wpAny_storeName_local (env := envX nm sc L a cd cl) (p.knd.lookup S.nn) S.fr (fun h' hn' hs => Pst.mk (q h' (S.setName p hn' hs)))
    (by show (sc.kind == .class || (sc.kind == .module && L != mainGlobals)) = false; rw [hk]; rfl)
end
end
section
open PySem PySem.W PyProof.Rows PySem.Calls
set_option hygiene true

structure Wd (K : Frag) (B₀ h : Heap) : Prop where
  inK : K.In B₀
  top : ∃ p loose mg mb, TopRead p loose mg mb B₀
  up : ∀ b o, B₀.get? b = some o → h.get? b = some o
noncomputable def Room (A : Around) (n : Nat) : Prop := A.handled = none ∧ A.depth + n ≤ 900 ∧ A.units + 10 * n ≤ 9000

section
variable {K : Frag} {B₀ B P h h' : Heap} {L : Addr} {ns : List (Str × NameKind)} {vs : List (Option Value)} {σ : List (Addr × Obj)} {A : Around}
theorem Wd.to (G : Wd K B₀ h) (u : ∀ b o, h.get? b = some o → h'.get? b = some o) : Wd K B₀ h' := ⟨G.inK, G.top, fun b o e => u b o (G.up b o e)⟩
theorem Wd.st (G : Wd K B₀ B) (S : St B P L ns vs σ h) : Wd K B₀ h := G.to S.base
theorem Wd.k (G : Wd K B₀ h) : K.In h := G.inK.keeps G.up
theorem Wd.nolimit (G : Wd K B₀ h) : h.NoLimit := (by obtain ⟨_, _, _, _, t⟩ := G.top; exact t.nolimit.keeps G.up)
theorem Room.less {n m : Nat} (R : Room A n) (l : m ≤ n) : Room A m := ⟨R.1, by have := R.2.1; omega, by have := R.2.2; omega⟩
theorem Room.deeper {n : Nat} {env : Env} (R : Room A (n + 1)) : Room (A.deeper env) n := ⟨R.1, by have := R.2.1; show A.depth + 1 + n ≤ 900; omega, by have := R.2.2; show A.units + 3 + 10 * n ≤ 9000; omega⟩
theorem Room.depth {n : Nat} (R : Room A n) : A.depth < recursionLimit := by have := R.2.1; show A.depth < 1000; omega
theorem Room.units {n : Nat} (R : Room A n) : A.units + 100 < cLine := by have := R.2.2; rw [cLine_is]; omega
end

inductive Ent : List (Str × NameKind) → List (Str × Value) → List (Option Value) → Prop
  | cons {x v ns r vs} : Ent ns r vs → Ent ((x, .local) :: ns) ((x, v) :: r) (some v :: vs)
  | tl {x ns vs} : Ent ns [] vs → Ent ((x, .local) :: ns) [] (none :: vs)
  | nil {ns} : Ent ns [] []
theorem Ent.knd {ns r vs} (e : Ent ns r vs) : ∀ y ∈ r, KndL ns y.1 .local := by
  induction e with
  | cons e ih =>
    intro y hy
    rcases List.mem_cons.mp hy with rfl | hy
    · exact .hd
    · exact .tl (ih y hy)
  | tl e ih => intro y hy; cases hy
  | nil => intro y hy; cases hy
theorem Ent.none {ns vs} (e : Ent ns [] vs) : ∀ y, mp ns vs y = none := by
  generalize hr : ([] : List (Str × Value)) = r at e
  induction e with
  | cons e ih => cases hr
  | tl e ih =>
    intro y
    show (if y = _ then Option.none else Mine.mp _ _ y) = Option.none
    split
    · rfl
    · exact ih rfl y
  | nil =>
    intro y
    unfold Mine.mp
    split <;> simp_all
theorem lookup_rev {x : Str} {v : Value} : ∀ {r : List (Str × Value)}, (∀ y ∈ r, y.1 ≠ x) → ((x, v) :: r).reverse.lookup x = some v := by
  intro r hr
  rw [List.reverse_cons, List.lookup_append]
  have : r.reverse.lookup x = none := by
    rw [List.lookup_eq_none_iff]
    intro p hp
    have := hr p (List.mem_reverse.mp hp)
    simpa using fun e => this (e.symm)
  rw [this]; simp [List.lookup]
theorem lookup_rev_ne {x y : Str} {v : Value} {r : List (Str × Value)} (n : y ≠ x) : ((x, v) :: r).reverse.lookup y = r.reverse.lookup y := by
  rw [List.reverse_cons, List.lookup_append]
  have : (y == x) = false := by simpa using n
  cases r.reverse.lookup y <;> simp [List.lookup, this]
theorem Ent.mp {ns r vs} (e : Ent ns r vs) (nd : (ns.map (·.1)).Nodup) : (fun x => r.reverse.lookup x) = mp ns vs := by
  induction e with
  | @cons x v ns r vs e ih =>
    rw [List.map_cons, List.nodup_cons] at nd
    have hr : ∀ y ∈ r, y.1 ≠ x := fun y hy q => nd.1 (q ▸ List.mem_map_of_mem (e.knd y hy).mem)
    have := ih nd.2
    funext y
    show ((x, v) :: r).reverse.lookup y = if y = x then some v else Mine.mp ns vs y
    by_cases h : y = x
    · subst h; rw [lookup_rev hr]; simp
    · rw [lookup_rev_ne h, if_neg h]; exact congrFun this y
  | tl e ih => funext y; exact ((Ent.tl e).none y).symm
  | nil => funext y; exact (Ent.nil.none y).symm

noncomputable def fv : Flow → Value
  | .ret v => v
  | _ => .none

section
variable {V : Vw} {K : Frag} {B₀ B P h h' : Heap} {L : Addr} {ns : List (Str × NameKind)} {vs : List (Option Value)} {σ : List (Addr × Obj)} {A : Around} {k : Nat}
theorem W.call {f : Value} {args : List Value} {kw : List (Str × Value)} {Q : Value → Heap → Nat → Prop}
    (x : codeAny V.M A (.call f ⟨args, kw⟩) (fun r s' => match r with | .ok (.ret v) => Pst V Q v s' | _ => False) (V.sh h k)) : W V A (call f args kw) Q h k :=
  wpAny_call (codeAny_mono x fun r s q => by
    cases r with
    | error e => exact q.elim
    | ok f => cases f <;> exact q)

theorem St.enter {σ : List (Addr × Obj)} {h₁ : Heap} (nd : (σ.map (·.1)).Nodup) (hσ : ∀ p ∈ σ, h.get? p.1 = some p.2) (hns : h₁.Ns h.objs.size (mp ns vs)) (hk : ∀ b o, h.get? b = some o → h₁.get? b = some o)
    (nn : (ns.map (·.1)).Nodup) (nb : ns.all (fun p => !(p.1 == ("__debug__" : Str))) = true) : St (hideAll h (σ.map (·.1))) h h.objs.size ns vs σ h₁ :=
  ⟨hns, fun b o e => hk b o (of_hideAll _ e), Nat.le_of_eq (hideAll_size _ _), fun b o e _ => hk b o e,
    fun p hp => ⟨hk _ _ (hσ p hp), Nat.ne_of_lt (Heap.lt_size (hσ p hp)), hideAll_none _ (List.mem_map_of_mem hp)⟩, nd, nn, nb⟩

theorem W_enter {f : Addr} {args : List Value} {Q : Value → Heap → Nat → Prop} {name qual : Str} {params : Arguments} {body : List Stmt} {scope : Scope} {dV kV doc pm cdv ct oc : Value} {an od : Option Addr} {osl : Array (Option Value)} {binds : List (Str × Value)} {vs : List (Option Value)}
    {n : Nat} (G : Wd K B₀ h) (R : Room A (n + 1)) (ho : K.lookup f = some ⟨oc, od, .func (fnOf name qual params body scope dV kV doc pm an cdv ct), osl⟩) (hcd : codeIn K cdv qual = true)
    (σ : List (Addr × Obj)) (hσ : ∀ p ∈ σ, h.get? p.1 = some p.2 ∧ B₀.get? p.1 = none) (nd : (σ.map (·.1)).Nodup)
    (hbind : BindsTo (V.sh h k) (fnOf name qual params body scope dV kV doc pm an cdv ct) ⟨args, []⟩ binds) (he : Ent scope.names binds vs)
    (nn : (scope.names.map (·.1)).Nodup) (nb : scope.names.all (fun p => !(p.1 == ("__debug__" : Str))) = true)
    (x : ∀ A' B L h₁ k₁, Wd K B₀ B → St B h L scope.names vs σ h₁ → (∀ b o, h.get? b = some o → b ∉ σ.map (·.1) → B.get? b = some o) → (∀ b o, B.get? b = some o → h.get? b = some o) →
      Room A' n → W V A' (execs body (envX qual scope L f cdv [])) (fun fl => Q (fv fl)) h₁ k₁)
    (hcell : ∀ x ∈ scope.names, x.2 ≠ .cell) (hco : scope.isCoroutine = false) (hgen : scope.isGenerator = false) (hk : scope.kind = .function) :
    W V A (PySem.call (.ref f) args) Q h k := by
  refine W.call (codeAny_call_def (fd := fnOf name qual params body scope dV kV doc pm an cdv ct) (body := body) (binds := binds) R.depth (G.k _ _ ho) rfl G.nolimit (codeRec_of G.k hcd) rfl hbind hcell
    (fun y hy => (he.knd y hy).lookup nn) (fun h₁ hns hk₁ => ?_) hco hgen hk)
  have hns' : h₁.Ns h.objs.size (mp scope.names vs) := he.mp nn ▸ hns
  have S := St.enter nd (fun p hp => (hσ p hp).1) hns' hk₁ nn nb
  have hB : ∀ b o, h.get? b = some o → b ∉ σ.map (·.1) → (hideAll h (σ.map (·.1))).get? b = some o := fun b o e n => hideAll_get _ e n
  have G' : Wd K B₀ (hideAll h (σ.map (·.1))) := ⟨G.inK, G.top, fun b o e => hB b o (G.up b o e) fun q => by
    obtain ⟨p, hp, rfl⟩ := List.mem_map.mp q
    rw [(hσ p hp).2] at e; cases e⟩
  exact wpAny_mono (x _ _ _ h₁ _ G' S hB (fun b o e => of_hideAll _ e) R.deeper) (fun fl s' q => by cases fl <;> exact q) fun _ _ e => e.elim

theorem St.back {σ' : List (Addr × Obj)} {M : List Addr} {h₂ : Heap} (S : St B h L ns vs σ' h₂) (hB : ∀ b o, h.get? b = some o → b ∉ M → B.get? b = some o) : Chg M h h₂ :=
  ⟨fun b o e n => S.base b o (hB b o e n), S.tup⟩

variable {nm : Str} {sc : Scope} {a : Addr} {cd : Value} {cl : List (Str × Addr)}
theorem E_glo {x : Str} {v : Value} {pos : Pos} {Q : Value → Heap → Nat → Prop} (G : Wd K B₀ B) (S : St B P L ns vs σ h) (g : KndL ns x .globalImplicit) (e : nsIn K mainGlobals x = some (some v)) (q : Q v h k)
    (hk : sc.kind = .function := by with_unfolding_all rfl) (hn : sc.names = ns := by with_unfolding_all rfl) : W V A (eval (.Name x pos) (envX nm sc L a cd cl)) Q h k := by
  subst hn
  obtain ⟨_, _, mg, _, t⟩ := G.top
  exact Name_function_global (env := envX nm sc L a cd cl) hk (g.lookup S.nn) (loadGlobal_global (env := envX nm sc L a cd cl) (t.g.keeps fun b o e => S.base b o (G.up b o e)) (mg_of G.inK t.g e) (Pst.mk q)) (nb_of S g)
theorem E_bi {x : Str} {v : Value} {pos : Pos} {Q : Value → Heap → Nat → Prop} (G : Wd K B₀ B) (S : St B P L ns vs σ h) (g : KndL ns x .globalImplicit) (e : nsIn K mainGlobals x = some none) (hv : bootBuiltins x = some v) (hx : x ≠ "__name__") (q : Q v h k)
    (hk : sc.kind = .function := by with_unfolding_all rfl) (hn : sc.names = ns := by with_unfolding_all rfl) : W V A (eval (.Name x pos) (envX nm sc L a cd cl)) Q h k := by
  subst hn
  obtain ⟨_, _, mg, mb, t⟩ := G.top
  have up : ∀ b o, B₀.get? b = some o → h.get? b = some o := fun b o e => S.base b o (G.up b o e)
  exact Name_function_global (env := envX nm sc L a cd cl) hk (g.lookup S.nn) (loadGlobal_builtin (env := envX nm sc L a cd cl) (t.g.keeps up) (mg_none_of G.inK t.g e) (t.b.keeps up) ((t.builtins x hx).trans hv) (Pst.mk q)) (nb_of S g)

variable {env : Env} {pos apos : Pos}
theorem E_call {fn : Expr} {args : List Expr} {Q : Value → Heap → Nat → Prop}
    (y : W V A (eval fn env) (Kca V A pos (backTo pos (starEach args env)) Q) h k)
    (he : eval (.Call fn args [] pos) env = (do let f ← eval fn env; callWith pos f [] (backTo pos (starEach args env)) []) := by with_unfolding_all rfl) : W V A (eval (.Call fn args [] pos) env) Q h k := by
  show wpAny _ _ _ _ _ _
  rw [he]
  exact wpAny_bind (W.bnd y)
theorem E_meth {o : Expr} {name : Str} {args : List Expr} {pl : Sem Bool} {Q : Value → Heap → Nat → Prop}
    (y : W V A (eval o env) (Kme V A name pl pos (backTo pos (starEach args env)) Q) h k)
    (he : eval (.Call (.Attribute o name apos) args [] pos) env = (do
      let ov ← eval o env
      standAt apos.atName
      let (f, first) ← holding [ov] (getMethod ov name pl)
      callWith pos f first (backTo pos (starEach args env)) []) := by with_unfolding_all rfl) : W V A (eval (.Call (.Attribute o name apos) args [] pos) env) Q h k :=
  methodCall_KW (kws := []) (W.gen y fun _ _ _ q => W.bnd q) he
theorem evalArgs_any {M : Model} {A : Around} {E : Value → Shared → Prop} {s : Shared} {f : Value} {Q : Args → Shared → Prop} : ∀ {args : List (Bool × Sem Value)}, args.any (·.1) = false →
    wpAny M A (spliced args) (fun vs s' => Q ⟨vs, []⟩ s') E s → wpAny M A (evalArgs f true args []) Q E s
  | [], _, h => fun Γ p hΓ => evalArgs_nil3 (show Q ⟨[], []⟩ s from h Γ p hΓ) Γ p hΓ
  | (true, _) :: _, hp, _ => by cases hp
  | (false, _) :: _, _, h => evalArgs_plain h
noncomputable def Krf (K : Frag) (B₀ : Heap) (V : Vw) (A : Around) (f : Value) (first : List Value) (Q : Value → Heap → Nat → Prop) : List Value → Heap → Nat → Prop := fun vs h k => Wd K B₀ h ∧ W V A (PySem.call f (first ++ vs)) Q h k
theorem C_ref {f : Value} {first : List Value} {args : List Expr} {Q : Value → Heap → Nat → Prop} (hf : keepIn K f = true)
    (y : W V A (spliced (backTo pos (starEach args env))) (Krf K B₀ V A f first Q) h k)
    (hplain : ((backTo pos (starEach args env)).any (·.1)) = false := by with_unfolding_all rfl) : W V A (callWith pos f first (backTo pos (starEach args env)) []) Q h k :=
  callWith_of (P := fun h => K.In h) (by rw [hplain]; rfl) (keeps_K hf) (evalArgs_any hplain (W.gen y fun _ _ _ q => ⟨q.1.k, q.2⟩))
theorem C_bi {id : String} {first : List Value} {args : List Expr} {Q : Value → Heap → Nat → Prop}
    (y : W V A (spliced (backTo pos (starEach args env))) (Kcl V A (.builtin id) first Q) h k)
    (hplain : ((backTo pos (starEach args env)).any (·.1)) = false := by with_unfolding_all rfl) : W V A (callWith pos (.builtin id) first (backTo pos (starEach args env)) []) Q h k :=
  callWith_builtin hplain (evalArgs_any hplain (W.bnd y))
theorem C_ty {T : String} {first : List Value} {args : List Expr} {Q : Value → Heap → Nat → Prop}
    (y : W V A (spliced (backTo pos (starEach args env))) (Kcl V A (.type T) first Q) h k)
    (hplain : ((backTo pos (starEach args env)).any (·.1)) = false := by with_unfolding_all rfl) : W V A (callWith pos (.type T) first (backTo pos (starEach args env)) []) Q h k :=
  PyProof.Rows.callWith_type hplain (evalArgs_any hplain (W.bnd y))

noncomputable def Tp (h : Heap) (a : Addr) (vs : List Value) : Prop := ∃ o, h.get? a = some o ∧ o.cls = .type "tuple" ∧ ∃ n, o.data = .seq vs.toArray n
theorem Tp.tup {a : Addr} {vs : List Value} (t : Tp h a vs) : IsTup h a vs.toArray := t
theorem Tp.tk {a : Addr} {vs : List Value} (t : Tp h a vs) (x : Tk h h') : Tp h' a vs := (by obtain ⟨o, e, c, n, d⟩ := t; exact ⟨o, x a o e ⟨c, _, n, d⟩, c, n, d⟩)
theorem Tp.new (h : Heap) (vs : List Value) : Tp (h.push { cls := .type "tuple", data := .seq vs.toArray }) h.objs.size vs := ⟨_, Heap.get?_push_size _ rfl, rfl, 0, rfl⟩
theorem I_tup {value slice : Expr} {t : Addr} {l : List Value} {i : Int} {u : Tok} {j : Nat} {x : Value} {Q : Value → Heap → Nat → Prop} (ht : Tp h t l) (q : Q x h k)
    (hj : seqIndex? i l.length = some j) (hx : l[j]? = some x) (hlo : -(2 ^ 63) ≤ i) (hhi : i < 2 ^ 63)
    (hs : subscripted slice false (.ref t) (.int i u) = operate [.ref t, .int i u] (getItem (.ref t) (.int i u))) :
    W V A (subscriptTail value slice (.ref t) (.int i u)) Q h k :=
  item_tupleT ht hlo hhi hj hx (Pst.mk q) hs
end
end
section
open PySem PySem.W PyProof.Rows PySem.Calls
set_option hygiene true

noncomputable abbrev lo (vs : List Value) (n : Nat) : Obj := { cls := .type "list", data := .seq vs.toArray n }
theorem lo_ntup {vs : List Value} {n : Nat} : ¬ TupO (lo vs n) := fun x => absurd (Value.type.inj x.1) (by decide)
section
variable {V : Vw} {K : Frag} {B₀ B P h h' : Heap} {L l : Addr} {ns : List (Str × NameKind)} {vs : List (Option Value)} {σ σ' : List (Addr × Obj)} {A : Around} {k n : Nat} {xs : List Value} {i : Int} {u : Tok}

theorem lo_isl (e : h.get? l = some (lo xs n)) : h.IsList l xs.toArray := ⟨_, e, rfl, n, rfl⟩
theorem I_lst {value slice : Expr} {x : Value} {Q : Value → Heap → Nat → Prop} (e : h.get? l = some (lo xs n)) (q : Q x h k)
    (hx : xs[i.toNat]? = some x) (h0 : 0 ≤ i) (hhi : i < 2 ^ 63)
    (hs : subscripted slice false (.ref l) (.int i u) = operate [.ref l, .int i u] (getItem (.ref l) (.int i u))) :
    W V A (subscriptTail value slice (.ref l) (.int i u)) Q h k :=
  tail_any (lo_isl e).typeIs slot_list_getitem.lookup (wpAny_getItem_list (lo_isl e) h0 hhi (by simpa using hx) (Pst.mk q)) hs
theorem I_neg {value slice : Expr} {x : Value} {Q : Value → Heap → Nat → Prop} (e : h.get? l = some (lo xs n)) (q : Q x h k)
    (hi : i = -1) (hx : xs.getLast? = some x)
    (hs : subscripted slice false (.ref l) (.int i u) = operate [.ref l, .int i u] (getItem (.ref l) (.int i u))) :
    W V A (subscriptTail value slice (.ref l) (.int i u)) Q h k := by
  subst hi
  have hne : xs ≠ [] := by rintro rfl; simp at hx
  have hl : 0 < xs.length := List.length_pos_iff.mpr hne
  refine tail_any (lo_isl e).typeIs slot_list_getitem.lookup (wpAny_getItem_list_neg (lo_isl e) (by decide) (by simp; exact Int.ofNat_lt.mpr (by assumption)) (by decide) ?_ (Pst.mk q)) hs
  rw [List.getLast?_eq_getElem?] at hx
  have e : ((-1 : Int) + (xs.toArray.size : Int)).toNat = xs.length - 1 := by simp; (clear hl; omega)
  first | (rw [e]; simpa using hx) | (simp; rw [← hx]; congr 1; omega)
theorem G_lst {x : Value} {Q : Value → Heap → Nat → Prop} (e : h.get? l = some (lo xs n)) (q : Q x h k) (hx : xs[i.toNat]? = some x) (h0 : 0 ≤ i) (hhi : i < 2 ^ 63) :
    W V A (getItem (.ref l) (.int i u)) Q h k := wpAny_getItem_list (lo_isl e) h0 hhi (by simpa using hx) (Pst.mk q)
theorem St_lst (S : St B P L ns vs σ h) {ys : List Value} {f : Array Value → Array Value} (m : MemA σ l (lo xs n)) (e : f xs.toArray = ys.toArray) (u : UpdA l (lo ys (if ys.length = xs.length then n else n + 1)) σ σ') :
    St B P L ns vs σ' (h.update l (Obj.mapSeq f)) := by
  refine S.upd m ?_ u lo_ntup
  show (Obj.mk _ _ (.seq (f xs.toArray) _) _) = _
  rw [e]; simp
theorem P_lst {v : Value} {Q : Unit → Heap → Nat → Prop} (S : St B P L ns vs σ h) (m : MemA σ l (lo xs n)) (up : UpdA l (lo (xs.set i.toNat v) n) σ σ') (q : ∀ h', St B P L ns vs σ' h' → Q () h' k)
    (h0 : 0 ≤ i) (hhi : i < 2 ^ 63) (hn : i < xs.length) : W V A (setItem (.ref l) (.int i u) v) Q h k := by
  refine ki_setAt (S.has m) h0 hhi (by simpa using hn) (Pst.mk (q _ (St_lst S (ys := xs.set i.toNat v) m (by apply Array.toList_inj.mp; simp) ?_)))
  rw [if_pos (by simp)]; exact up
theorem dict_none (e : h.get? l = some (lo xs n)) : ∀ a, Value.ref l = .ref a → ∃ o, (V.sh h k).heap.get? a = some o ∧ o.dict = none := fun a q => by cases q; exact ⟨_, e, rfl⟩
theorem M_append {pl : Sem Bool} {Q : Value × List Value → Heap → Nat → Prop} (e : h.get? l = some (lo xs n)) (q : Q (.builtin "list.append", [.ref l]) h k) : W V A (getMethod (.ref l) "append" pl) Q h k :=
  getMethod_builtin (lo_isl e).typeIs PySem.F.plainAttrs_list PySem.F.slot_list_append PySem.F.type_list_append (dict_none (V := V) (k := k) e) (Pst.mk q)
theorem M_pop {pl : Sem Bool} {Q : Value × List Value → Heap → Nat → Prop} (e : h.get? l = some (lo xs n)) (q : Q (.builtin "list.pop", [.ref l]) h k) : W V A (getMethod (.ref l) "pop" pl) Q h k :=
  getMethod_builtin (lo_isl e).typeIs PySem.F.plainAttrs_list PySem.F.slot_list_pop PySem.F.type_list_pop (dict_none (V := V) (k := k) e) (Pst.mk q)
theorem M_index {pl : Sem Bool} {Q : Value × List Value → Heap → Nat → Prop} (e : h.get? l = some (lo xs n)) (q : Q (.builtin "list.index", [.ref l]) h k) : W V A (getMethod (.ref l) "index" pl) Q h k :=
  getMethod_builtin (lo_isl e).typeIs PySem.F.plainAttrs_list PySem.F.slot_list_index PySem.F.type_list_index (dict_none (V := V) (k := k) e) (Pst.mk q)
theorem C_append {x : Value} {Q : Value → Heap → Nat → Prop} (S : St B P L ns vs σ h) (m : MemA σ l (lo xs n)) (up : UpdA l (lo (xs ++ [x]) (n + 1)) σ σ') (q : ∀ h', St B P L ns vs σ' h' → Q .none h' k)
    (hsz : xs.length ≤ 1000000) : W V A (call (.builtin "list.append") ([.ref l] ++ [x])) Q h k := by
  refine call_meets (self := .ref l) (rest := [x]) PySem.F.slot_list_append (lo_isl (S.has m)).typeIs PySem.F.entry_list_append (PySem.F.args_list_append_2 _ _) (PySem.list_append l xs.toArray n x (by simp [sizeLine]; omega)) ⟨S.has m, ?_⟩
  refine Pst.mk (q _ (St_lst S (ys := xs ++ [x]) m (by simp) ?_))
  rw [if_neg (by simp)]; exact up
theorem C_pop {x : Value} {Q : Value → Heap → Nat → Prop} (S : St B P L ns vs σ h) (m : MemA σ l (lo (xs ++ [x]) n)) (up : UpdA l (lo xs (n + 1)) σ σ') (q : ∀ h', St B P L ns vs σ' h' → Q x h' k)
    (hsz : xs.length ≤ 1000000) : W V A (call (.builtin "list.pop") ([.ref l] ++ [])) Q h k := by
  refine call_meets (self := .ref l) (rest := []) PySem.F.slot_list_pop (lo_isl (S.has m)).typeIs PySem.F.entry_list_pop (PySem.F.args_list_pop_1 _) (MeetsSeq.list_pop_last l (xs ++ [x]).toArray n x (by simp) (by simp [sizeLine]; omega)) ⟨S.has m, ?_⟩
  refine Pst.mk (q _ (St_lst S (ys := xs) m ?_ ?_))
  · apply Array.toList_inj.mp
    simp [List.eraseIdx_append_of_length_le]
  · rw [if_neg (by simp)]; exact up
theorem C_len {Q : Value → Heap → Nat → Prop} (e : h.get? l = some (lo xs n)) (hsz : xs.length ≤ 1000000) (q : ∀ t k', Q (.int xs.length t) h k') : W V A (call (.builtin "len") ([] ++ [.ref l])) Q h k :=
  call_len_list (lo_isl e) (by simp; omega) (Pst.mk (by simpa using q _ _))
end
end
section
open PySem PySem.W PyProof.Rows PySem.Calls
set_option hygiene true
theorem isI {P : Program} {w : World} {i : Int} {t : Tok} : (intKind P w).is i (.int i t) = true := by simp [intKind, Value.isInt]

theorem exact_ntup {o : Obj} (h : o.ExactDict) : ¬ TupO o := fun x => by
  have := x.1
  rw [h.1] at this
  exact absurd (Value.type.inj this) (by decide)
theorem same_chg {l : Addr} {o o' : Obj} {h h' : Heap} (e : h.get? l = some o) (nt : ¬ TupO o) (s : Heap.SameBut l h h') : Chg [l] h h' :=
  ⟨fun b x eb n => (s.2 b fun q => n (by rw [q]; exact .head _)).trans eb, fun b x eb c => (s.2 b fun q => by subst q; rw [e] at eb; cases eb; exact nt c).trans eb⟩

section
variable {V : Vw} {K : Frag} {B₀ B P h h' : Heap} {L d : Addr} {ns : List (Str × NameKind)} {vs : List (Option Value)} {σ : List (Addr × Obj)} {σ' : Obj → List (Addr × Obj)} {A : Around} {k n : Nat} {o : Obj} {env : Env} {pos : Pos}
theorem St.set (S : St B P L ns vs σ h) {σ₁ : List (Addr × Obj)} {o' : Obj} (m : MemA σ d o) (nt : ¬ TupO o) (s : Heap.SameBut d h h') (u : UpdA d o' σ σ₁) (e : h'.get? d = some o') : St B P L ns vs σ₁ h' :=
  S.chgL (ups := [(d, o')]) (same_chg (o' := o') (S.has m) nt s) (.cons u .nil) fun p hp => by rw [List.mem_singleton.mp hp]; exact e

variable {κ : Type} [DecidableEq κ] {knd : KeyKind V.prog V.w κ} {kvs : List (κ × Value)} {x : κ} {kv v : Value}
theorem di_of (e : h.get? d = some o) (D : o.IsDictOf knd kvs) : h.DictOf knd d kvs := Heap.dictOf_iff.mpr ⟨o, e, D⟩
theorem mapOf (e : h.get? d = some o) (D : o.IsDictOf knd kvs) : h.MapOf knd d (valueAt kvs) := (di_of e D).mapOf
theorem P_dic {Q : Unit → Heap → Nat → Prop} (S : St B P L ns vs σ h) (m : MemA σ d o) (D : o.IsDictOf knd kvs) (hk : knd.is x kv = true) (u : ∀ o', UpdA d o' σ (σ' o'))
    (q : ∀ o' h', o'.IsDictOf knd (stored kvs x v) → St B P L ns vs (σ' o') h' → Q () h' (k + 1)) (hsz : kvs.length ≤ 1000000) : W V A (setItem (.ref d) kv v) Q h k := by
  refine wpAny_setItem_pairs (hsz := by simp [sizeLine]; omega) hk (di_of (S.has m) D) fun h' hd hs => ?_
  obtain ⟨o', e, D'⟩ := Heap.dictOf_iff.mp hd
  obtain ⟨_, _, ex, _⟩ := D
  exact Pst.mk (q o' h' D' (S.set m (exact_ntup ex) hs (u o') e))
theorem G_dic {Q : Value → Heap → Nat → Prop} (e : h.get? d = some o) (D : o.IsDictOf knd kvs) (hk : knd.is x kv = true) (hv : valueAt kvs x = some v) (q : Q v h (k + 1)) : W V A (getItem (.ref d) kv) Q h k :=
  wpAny_getItem_of hk (mapOf e D) hv (Pst.mk q)
theorem I_dic {value slice : Expr} {Q : Value → Heap → Nat → Prop} (e : h.get? d = some o) (D : o.IsDictOf knd kvs) (hk : knd.is x kv = true) (hv : valueAt kvs x = some v) (q : Q v h (k + 1))
    (hs : subscripted slice false (.ref d) kv = operate [.ref d, kv] (getItem (.ref d) kv)) :
    W V A (subscriptTail value slice (.ref d) kv) Q h k :=
  tail_any (T := "dict") (s := V.sh h k) (mapOf e D).typeIs slot_dict_getitem.lookup (G_dic e D hk hv q) hs
theorem in_dic {Q : Value → Heap → Nat → Prop} (e : h.get? d = some o) (D : o.IsDictOf knd kvs) (hk : knd.is x kv = true) (hd : (d == sysModules) = false) (q : Q (.bool (valueAt kvs x).isSome) h (k + 1)) :
    W V A (compareOp .In kv (.ref d)) Q h k := wpAny_in_of hk hd (mapOf e D) (Pst.mk q)
theorem nin_dic {Q : Value → Heap → Nat → Prop} (e : h.get? d = some o) (D : o.IsDictOf knd kvs) (hk : knd.is x kv = true) (hd : (d == sysModules) = false) (q : Q (.bool (!(valueAt kvs x).isSome)) h (k + 1)) :
    W V A (compareOp .NotIn kv (.ref d)) Q h k := wpAny_notIn_of hk hd (mapOf e D) (Pst.mk q)
theorem exact_of (D : o.IsDictOf knd kvs) : o.ExactDict := (by obtain ⟨_, _, ex, _⟩ := D; exact ex)
theorem dic_typeIs (e : h.get? d = some o) (ex : o.ExactDict) : (V.sh h k).TypeIs (.ref d) "dict" := ⟨o, e, ex.1⟩
theorem M_get {pl : Sem Bool} {Q : Value × List Value → Heap → Nat → Prop} (e : h.get? d = some o) (ex : o.ExactDict) (q : Q (.builtin "dict.get", [.ref d]) h k) : W V A (getMethod (.ref d) "get" pl) Q h k :=
  getMethod_builtin (dic_typeIs (V := V) (k := k) e ex) PySem.F.plainAttrs_dict PySem.F.slot_dict_get PySem.F.type_dict_get (fun a q => by cases q; exact ⟨_, e, ex.2.1⟩) (Pst.mk q)
theorem C_get {dflt : Value} {Q : Value → Heap → Nat → Prop} (e : h.get? d = some o) (D : o.IsDictOf knd kvs) (hk : knd.is x kv = true) (hd : (d == sysModules) = false) (q : Q ((valueAt kvs x).getD dflt) h (k + 1)) :
    W V A (call (.builtin "dict.get") ([.ref d] ++ [kv, dflt])) Q h k :=
  call_meetsIn (rest := [kv, dflt]) PySem.F.slot_dict_get (dic_typeIs (V := V) (k := k) e (exact_of D)) PySem.F.entry_dict_get (PySem.F.args_dict_get_3 _ _ _) (meets_dict_get_default knd d hk hd dflt) ⟨_, mapOf e D, Pst.mk q⟩
theorem C_lenD {Q : Value → Heap → Nat → Prop} (e : h.get? d = some o) (D : o.IsDictOf knd kvs) (hd : (d == sysModules) = false) (hsz : kvs.length ≤ 1000000) (q : ∀ t k', Q (.int kvs.length t) h k') :
    W V A (call (.builtin "len") ([] ++ [.ref d])) Q h k :=
  call_len_dict hd (di_of e D) (by omega) (Pst.mk (q _ _))
theorem E_dict {Q : Value → Heap → Nat → Prop} (q : ∀ h' o, St B P L ns vs ((h.objs.size, o) :: σ) h' → (∀ (κ : Type) [DecidableEq κ] (knd : KeyKind V.prog V.w κ), o.IsDictOf knd []) → Q (.ref h.objs.size) h' k) (S : St B P L ns vs σ h) :
    W V A (eval (.Dict [] [] pos) env) Q h k := by
  refine wpAny_Dict_empty (Pst.mk (q _ _ (S.alloc _ rfl) fun κ _ knd => ?_))
  exact ⟨#[], 0, ⟨rfl, rfl, rfl⟩, rfl, fun e he => by simp at he, Pairs.nil, List.nodup_nil⟩

noncomputable def IsDictH {κ : Type} [DecidableEq κ] (kd : HeapKind V.prog V.w κ) (hp : Heap) (o : Obj) (xs : List (κ × Addr × Value)) : Prop :=
  ∃ es ep, o.ExactDict ∧ o.data = .dict es ep ∧ es.toList = xs.map (entryOfKey kd) ∧ (∀ x ∈ xs, kd.is hp x.1 x.2.1) ∧ (xs.map (·.1)).Nodup
variable {kd : HeapKind V.prog V.w κ} {xs : List (κ × Addr × Value)} {a : Addr}
theorem dh_of (e : h.get? d = some o) (D : IsDictH kd h o xs) : h.DictOfH kd d xs := (by obtain ⟨es, ep, r⟩ := D; exact ⟨o, es, ep, e, r⟩)
theorem C_getH {dflt : Value} {Q : Value → Heap → Nat → Prop} (e : h.get? d = some o) (D : IsDictH kd h o xs) (hu : kd.room A.in1) (hk : kd.is h x a) (hd : (d == sysModules) = false)
    (q : Q (((atKey xs x).map (·.2)).getD dflt) h (k + kd.draws x)) : W V A (call (.builtin "dict.get") ([.ref d] ++ [.ref a, dflt])) Q h k := by
  have hm := dh_of e D
  obtain ⟨_, _, ex, _⟩ := D
  exact call_meetsIn (rest := [.ref a, dflt]) PySem.F.slot_dict_get (dic_typeIs (V := V) (k := k) e ex) PySem.F.entry_dict_get (PySem.F.args_dict_get_3 _ _ _) (meetsH_dict_get_default kd d a hd dflt) ⟨hu, x, xs, hk, hm, Pst.mk q⟩
theorem P_dicH {Q : Unit → Heap → Nat → Prop} (S : St B P L ns vs σ h) (m : MemA σ d o) (D : IsDictH kd h o xs) (hu : kd.room A.in1) (hk : kd.is h x a) (u : ∀ o', UpdA d o' σ (σ' o'))
    (q : ∀ o' h', IsDictH kd h' o' (storedH xs x a v) → Heap.SameBut d h h' → St B P L ns vs (σ' o') h' → Q () h' (k + kd.draws x)) (hsz : xs.length ≤ 1000000) : W V A (setItem (.ref d) (.ref a) v) Q h k := by
  have hm := dh_of (S.has m) D
  obtain ⟨_, _, ex, _⟩ := D
  refine wpAny_setItem_heap (hsz := by simp [sizeLine]; omega) hu hk hm fun h' hd hs => ?_
  obtain ⟨o', es, ep, e, r⟩ := hd
  exact Pst.mk (q o' h' ⟨es, ep, r⟩ hs (S.set m (exact_ntup ex) hs (u o') e))
end
end
section
open PySem PySem.W PyProof.Rows PySem.Calls
set_option hygiene true

inductive Ents : List DictEntry → List (Str × Value) → Prop
  | nil : Ents [] []
  | cons {hs x t v es fs} : Ents es fs → Ents (⟨hs, .str x t, v⟩ :: es) ((x, v) :: fs)
structure Inst (B : Heap) (x C : Addr) (fs : List (Str × Value)) : Prop where
  get : ∃ dx es n, B.get? x = some (instObj C dx) ∧ B.get? dx = some (dictOf es n) ∧ Ents es fs
  nd : (fs.map (·.1)).Nodup
inductive GetF : List (Str × Value) → Str → Value → Prop
  | hd {x v fs} : GetF ((x, v) :: fs) x v
  | tl {x v p fs} : GetF fs x v → GetF (p :: fs) x v
theorem GetF.mem {fs x v} (g : GetF fs x v) : (x, v) ∈ fs := by
  induction g with
  | hd => exact .head _
  | tl _ ih => exact .tail _ ih
theorem Ents.find {es fs} (e : Ents es fs) (name : Str) : (es.find? (·.key.isStr name)).map (·.val) = fs.lookup name := by
  induction e with
  | nil => rfl
  | @cons hs x t v es fs e ih =>
    have e1 : Value.isStr (.str x t) name = (name == x) := by
      show (x == name) = (name == x)
      by_cases h : x = name
      · subst h; rfl
      · rw [beq_eq_false_iff_ne.mpr h, beq_eq_false_iff_ne.mpr fun e => h e.symm]
    simp only [List.find?_cons, e1, List.lookup_cons]
    cases name == x with
    | true => rfl
    | false => exact ih
theorem Ents.noRef {es fs} (e : Ents es fs) : es.any (·.refKey) = false := by
  induction e with
  | nil => rfl
  | cons e ih => rw [List.any_cons, ih]; rfl
theorem Ents.getL {es fs} (e : Ents es fs) (name : Str) : getL name es = some (fs.lookup name) := by
  unfold PySem.W.getL
  rw [← e.find name, e.noRef]
  cases es.find? (·.key.isStr name) <;> rfl
theorem GetF.lookup {fs x v} (g : GetF fs x v) (nd : (fs.map (·.1)).Nodup) : fs.lookup x = some v := by
  induction g with
  | hd => simp [List.lookup]
  | @tl x v p fs g ih =>
    rw [List.map_cons, List.nodup_cons] at nd
    have hne : x ≠ p.1 := fun e => nd.1 (e ▸ List.mem_map_of_mem g.mem)
    have : (x == p.1) = false := by simpa using hne
    rw [show p :: fs = (p.1, p.2) :: fs from rfl, List.lookup_cons, this]
    exact ih nd.2
theorem noF {fs : List (Str × Value)} {name : Str} (h : fs.all (fun p => !(name == p.1)) = true) : fs.lookup name = none := by
  rw [List.lookup_eq_none_iff]
  intro p hp
  have := List.all_eq_true.mp h p hp
  simpa using this

structure Fld (K : Frag) (C : Addr) (name : Str) : Prop where
  a : plainGet K C name = true
  b : hasDictIn K C = true
  c : ∃ attr, findIn K (.ref C) name = some attr ∧ noGet K attr = true
structure Mth (K : Frag) (C : Addr) (name : Str) (f : Addr) : Prop where
  a : plainGet K C name = true
  b : findIn K (.ref C) name = some (some (.ref f))
  c : isFn K (.ref f) = true

section
variable {V : Vw} {K : Frag} {B₀ B P h h' : Heap} {L x C f : Addr} {ns : List (Str × NameKind)} {vs : List (Option Value)} {σ : List (Addr × Obj)} {A : Around} {k n : Nat} {env : Env} {pos : Pos} {fs : List (Str × Value)} {name : Str} {v : Value}
theorem Inst.up (I : Inst B₀ x C fs) (u : ∀ b o, B₀.get? b = some o → h.get? b = some o) : Inst h x C fs := (by obtain ⟨⟨dx, es, n, a, b, c⟩, d⟩ := I; exact ⟨⟨dx, es, n, u _ _ a, u _ _ b, c⟩, d⟩)
theorem A_fld {ex : Bool} {Q : Value → Heap → Nat → Prop} (S : St B P L ns vs σ h) (G : Wd K B₀ B) (I : Inst B₀ x C fs) (g : GetF fs name v) (c : Fld K C name) (q : Q v h (k + 1)) (hv : handedIn v = true := by with_unfolding_all rfl) :
    W V A (getAttr (.ref x) name ex) Q h k := by
  obtain ⟨⟨dx, es, n, i1, i2, en⟩, nd⟩ := I.up G.up
  obtain ⟨attr, c1, c2⟩ := c.c
  have IA : InstAt (V.sh h k).heap x (instObj C dx) C (some (dictOf es n)) := ⟨S.base _ _ i1, rfl, rfl, S.base _ _ i2⟩
  exact get_own (w := V.w) S.fr' G.k IA c.a c.b c1 c2 (by rw [en.getL, g.lookup nd]) hv (Pst.mk q)
theorem M_def {pl : Sem Bool} {Q : Value × List Value → Heap → Nat → Prop} (S : St B P L ns vs σ h) (G : Wd K B₀ B) (I : Inst B₀ x C fs) (c : Mth K C name f) (q : Q (.ref f, [.ref x]) h k) (nf : fs.all (fun p => !(name == p.1)) = true := by with_unfolding_all rfl) :
    W V A (getMethod (.ref x) name pl) Q h k := by
  obtain ⟨⟨dx, es, n, i1, i2, en⟩, nd⟩ := I.up G.up
  have IA : InstAt (V.sh h k).heap x (instObj C dx) C (some (dictOf es n)) := ⟨S.base _ _ i1, rfl, rfl, S.base _ _ i2⟩
  exact method_inst (w := V.w) S.fr' G.k IA c.a c.b c.c (by rw [en.getL, noF nf]) (Pst.mk q)

theorem C_abs {a : Int} {t : Tok} {Q : Value → Heap → Nat → Prop} (q : ∀ t k', Q (.int (if a < 0 then -a else a) t) h k') : W V A (call (.builtin "abs") ([] ++ [.int a t])) Q h k :=
  call_abs_int fun u tk => Pst.mk (q u tk)
theorem C_int {a : Int} {t : Tok} {Q : Value → Heap → Nat → Prop} (q : Q (.int a t) h k) : W V A (call (.type "int") ([] ++ [.int a t])) Q h k := call_int_int (Pst.mk q)
end
end
section
open PySem PySem.W PyProof.Rows PySem.Calls
set_option hygiene true

noncomputable def LoopW (V : Vw) (A : Around) (c : Code) (Q : Flow → Heap → Nat → Prop) (h : Heap) (k : Nat) : Prop :=
  codeAny V.M A c (fun r s' => match r with | .ok f => Pst V Q f s' | .error _ => False) (V.sh h k)

structure Itr (V : Vw) (n : Nat) (st : Nat → Obj → Prop) (val : Nat → Value → Prop) (ok : Heap → Prop) : Prop where
  next : ∀ {A : Around} {h : Heap} {k i : Nat} {I : Addr} {o : Obj} {Q : Option Value → Heap → Nat → Prop}, A.handled = none → i < n → h.get? I = some o → st i o → ok h →
    (∀ h' k' v o', val i v → h'.get? I = some o' → st (i + 1) o' → Heap.SameBut I h h' → Q (some v) h' k') → W V A (pyNext (.ref I)) Q h k
  stop : ∀ {A : Around} {h : Heap} {k : Nat} {I : Addr} {o : Obj} {Q : Option Value → Heap → Nat → Prop}, A.handled = none → h.get? I = some o → st n o → ok h →
    (∀ h' k', Heap.ExtBut I h h' → Q none h' k') → W V A (pyNext (.ref I)) Q h k
  ntup : ∀ i o, st i o → ¬ TupO o

section
variable {V : Vw} {K : Frag} {B₀ B P h h' : Heap} {L : Addr} {ns : List (Str × NameKind)} {vs : List (Option Value)} {σ : List (Addr × Obj)} {A : Around} {k : Nat} {env : Env}
noncomputable abbrev Kf2 (V : Vw) (A : Around) (env : Env) (x : Str) (px : Pos) (body rest : List Stmt) (Q : Flow → Heap → Nat → Prop) : Value → Heap → Nat → Prop := fun it => LoopW V A (.forLoop (.Name x px) it body [] env) (Nx V A rest env Q)
noncomputable abbrev Kfo (V : Vw) (A : Around) (env : Env) (x : Str) (px : Pos) (body rest : List Stmt) (Q : Flow → Heap → Nat → Prop) : Value → Heap → Nat → Prop := fun xv => W V A (pyIter xv) (Kf2 V A env x px body rest Q)
theorem X_for {x : Str} {px pos : Pos} {iter : Expr} {body rest : List Stmt} {Q : Flow → Heap → Nat → Prop}
    (y : W V A (eval iter env) (Kfo V A env x px body rest Q) h k)
    (hs : ∀ x, foldedSetIterable iter env x = pure x := by intro _; with_unfolding_all rfl) : W V A (execs (.For (.Name x px) iter body [] pos :: rest) env) Q h k := by
  refine X_seq (wpAny_For (W.gen y fun xv h k q => W.gen q fun it h k z => ?_) hs)
  exact codeAny_mono z fun r s q => by
    cases r with
    | ok f => exact q
    | error e => exact q.elim
theorem X_while {test : Expr} {body rest : List Stmt} {pos : Pos} {Q : Flow → Heap → Nat → Prop}
    (y : LoopW V A (.whileLoop test body [] env) (Nx V A rest env Q) h k) : W V A (execs (.While test body [] pos :: rest) env) Q h k := by
  refine X_seq (wpAny_While (codeAny_mono y fun r s q => ?_))
  cases r with
  | ok f => exact q
  | error e => exact q.elim
theorem St.pool (S : St B P L ns vs σ h) : St B h L ns vs σ h := ⟨S.fr, S.base, S.above, Tk.rfl, S.led, S.nd, S.nn, S.nb⟩
theorem St.re (S : St B h L ns vs σ h') (t : Tk P h) : St B P L ns vs σ h' := ⟨S.fr, S.base, S.above, t.trans S.tup, S.led, S.nd, S.nn, S.nb⟩

theorem putAtJ : ∀ {ns : List (Str × NameKind)} {vs : List (Option Value)} {j : Nat} {x : Str} {v : Value}, ns[j]? = some (x, .local) → j < vs.length → PutL ns vs x v (vs.set j (some v))
  | _ :: _, [], _, _, _, _, h => by simp at h
  | p :: _, _ :: _, 0, x, v, e, _ => by
    simp at e; subst e; exact .hd
  | _ :: ns, _ :: vs, j + 1, x, v, e, h => .tl (putAtJ (by simpa using e) (by simpa using h))
  | [], _, _, _, _, e, _ => by simp at e
theorem L_for {nm : Str} {sc : Scope} {a : Addr} {cd : Value} {cl : List (Str × Addr)} {x : Str} {px : Pos} {body : List Stmt} {I : Addr} {n : Nat} {st : Nat → Obj → Prop} {o₀ : Obj} {val : Nat → Value → Prop} {ok : Heap → Prop} {Q : Flow → Heap → Nat → Prop}
    (J : Nat → List (Option Value) → List (Addr × Obj) → Heap → Prop) (T : Itr V n st val ok) (hh : A.handled = none) (S : St B P L ns vs ((I, o₀) :: σ) h) (s0 : st 0 o₀) (j0 : J 0 vs σ h)
    (jx : Nat) (hput : ns[jx]? = some (x, .local)) (hlen : ∀ i vs σ h, J i vs σ h → Nat.ble (jx + 1) vs.length = true)
    (hok : ∀ i vs σ o h, St B P L ns vs ((I, o) :: σ) h → J i vs σ h → ok h)
    (turn : ∀ i vs σ h, i < n → Tk P h → J i vs σ h → ∀ v o h₁ k₁, val i v → St B h L ns (vs.set jx (some v)) ((I, o) :: σ) h₁ →
      W V A (execs body (envX nm sc L a cd cl)) (fun f h₂ k₂ => match f with
        | .ret v => Q (.ret v) h₂ k₂
        | .brk => Q .next h₂ k₂
        | _ => ∃ vs₂ σ₂, St B h L ns vs₂ ((I, o) :: σ₂) h₂ ∧ J (i + 1) vs₂ σ₂ h₂) h₁ k₁)
    (done : ∀ vs σ h k, St B P L ns vs σ h → (∃ h₁, J n vs σ h₁ ∧ Tk h₁ h) → Q .next h k)
    (hk : sc.kind = .function := by with_unfolding_all rfl) (hn : sc.names = ns := by with_unfolding_all rfl) :
    LoopW V A (.forLoop (.Name x px) (.ref I) body [] (envX nm sc L a cd cl)) Q h k := by
  subst hn
  refine codeAny_forLoop (fun m s => ∃ i vs σ o h k, s = V.sh h k ∧ i + m = n ∧ St B P L sc.names vs ((I, o) :: σ) h ∧ st i o ∧ J i vs σ h) ?_ n ⟨0, vs, σ, o₀, h, k, rfl, by omega, S, s0, j0⟩
  rintro m s ⟨i, vs, σ, o, h, k, rfl, him, S, so, jj⟩
  by_cases hin : i < n
  · refine W.gen (T.next (Q := fun r h' k' => ∃ v o', r = some v ∧ val i v ∧ h'.get? I = some o' ∧ st (i + 1) o' ∧ Heap.SameBut I h h') hh hin (S.has .hd) so (hok _ _ _ _ _ S jj) fun h' k' v o' a b c d => ⟨v, o', rfl, a, b, c, d⟩) ?_
    rintro r h' k' ⟨v, o', rfl, hv, hI, so', hs⟩
    have S1 : St B h L sc.names vs ((I, o') :: σ) h' := S.pool.set .hd (T.ntup i o so) hs .hd hI
    have hp := putAtJ (v := v) hput (Nat.le_of_ble_eq_true (hlen _ _ _ _ jj))
    show wpAny _ A (assign (.Name x px) _ v) _ _ _
    refine wpAny_assign_Name (W.gen (N_st (Q := fun _ h₁ k₁ => St B h L sc.names (vs.set jx (some v)) ((I, o') :: σ) h₁) S1 hp (fun h₁ S2 => S2) hk rfl) fun _ h₁ k₁ S2 => ?_)
    refine W.gen (turn i vs σ h hin S.tup jj v o' h₁ k₁ hv S2) fun f h₂ k₂ q => ?_
    have again : (∃ vs₂ σ₂, St B h L sc.names vs₂ ((I, o') :: σ₂) h₂ ∧ J (i + 1) vs₂ σ₂ h₂) → ∃ m', m' < m ∧ ∃ i vs σ o h k, V.sh h₂ k₂ = V.sh h k ∧ i + m' = n ∧ St B P L sc.names vs ((I, o) :: σ) h ∧ st i o ∧ J i vs σ h := by
      rintro ⟨vs₂, σ₂, S3, j3⟩
      exact ⟨m - 1, by omega, i + 1, vs₂, σ₂, o', h₂, k₂, rfl, by omega, S3.re S.tup, so', j3⟩
    cases f with
    | ret v => exact Pst.mk q
    | brk => exact Pst.mk q
    | next => exact again q
    | cont => exact again q
  · have : i = n := by omega
    subst this
    refine W.gen (T.stop (Q := fun r h' _ => r = none ∧ Heap.ExtBut I h h') hh (S.has .hd) so (hok _ _ _ _ _ S jj) fun h' k' c => ⟨rfl, c⟩) ?_
    rintro r h' k' ⟨rfl, hs⟩
    have hc : Chg [I] h h' := ⟨fun b o e nb => hs b o (fun q => nb (by rw [q]; exact .head _)) e, fun b o e c => hs b o (fun q => by subst q; rw [S.has .hd] at e; cases e; exact T.ntup _ _ so c) e⟩
    have S2 : St B P L sc.names vs σ h' := by
      have S1 := S.drop (σ' := σ) (List.sublist_cons_self _ _)
      have hI := S.led _ (.head _)
      refine ⟨?_, fun b o e => hc.same b o (S.base b o e) fun q => ?_, S.above, S.tup.trans hc.tup, fun p hp => ⟨hc.same _ _ (S1.led p hp).1 fun q => ?_, (S1.led p hp).2⟩, S1.nd, S1.nn, S1.nb⟩
      · obtain ⟨oL, es, ep, e, r⟩ := S.fr
        exact ⟨oL, es, ep, hc.same _ _ e (fun q => hI.2.1 (List.mem_singleton.mp q).symm), r⟩
      · rw [List.mem_singleton.mp q, hI.2.2] at e; cases e
      · have := List.mem_singleton.mp q
        have nd := S.nd
        rw [List.map_cons, List.nodup_cons] at nd
        exact nd.1 (List.mem_map.mpr ⟨p, hp, this⟩)
    show wpAny _ A (execs [] _) _ _ _
    exact wpAny_execs_nil (Pst.mk (done vs σ h' k' S2 ⟨h, jj, hc.tup⟩))

theorem L_while {test : Expr} {body : List Stmt} {Q : Flow → Heap → Nat → Prop}
    (J : Nat → List (Option Value) → List (Addr × Obj) → Heap → Prop) {m₀ : Nat} (S : St B P L ns vs σ h) (j0 : J m₀ vs σ h)
    (turn : ∀ m vs σ h k, Tk P h → St B h L ns vs σ h → J m vs σ h →
      W V A (isTrue test env (eval test env)) (fun b h₁ k₁ => (b = true → W V A (execs body env) (fun f h₂ k₂ => match f with
          | .ret v => Q (.ret v) h₂ k₂
          | .brk => Q .next h₂ k₂
          | _ => ∃ m' vs₂ σ₂, m' < m ∧ St B h L ns vs₂ σ₂ h₂ ∧ J m' vs₂ σ₂ h₂) h₁ k₁) ∧ (b = false → Q .next h₁ k₁)) h k) :
    LoopW V A (.whileLoop test body [] env) Q h k := by
  refine codeAny_whileLoop (fun m s => ∃ vs σ h k, s = V.sh h k ∧ St B P L ns vs σ h ∧ J m vs σ h) ?_ m₀ ⟨vs, σ, h, k, rfl, S, j0⟩
  rintro m s ⟨vs, σ, h, k, rfl, S, jj⟩
  refine W.gen (turn m vs σ h k S.tup S.pool jj) fun b h₁ k₁ q => ?_
  cases b with
  | false =>
    simp only [Bool.false_eq_true, if_false]
    exact wpAny_execs_nil (Pst.mk (q.2 rfl))
  | true =>
    simp only [if_true]
    refine W.gen (q.1 rfl) fun f h₂ k₂ z => ?_
    have again : (∃ m' vs₂ σ₂, m' < m ∧ St B h L ns vs₂ σ₂ h₂ ∧ J m' vs₂ σ₂ h₂) → ∃ m', m' < m ∧ ∃ vs σ h k, V.sh h₂ k₂ = V.sh h k ∧ St B P L ns vs σ h ∧ J m' vs σ h := by
      rintro ⟨m', vs₂, σ₂, hm, S3, j3⟩
      exact ⟨m', hm, vs₂, σ₂, h₂, k₂, rfl, S3.re S.tup, j3⟩
    cases f with
    | ret v => exact Pst.mk z
    | brk => exact Pst.mk z
    | next => exact again z
    | cont => exact again z
end

section
variable {V : Vw} {B P h h' : Heap} {L : Addr} {ns : List (Str × NameKind)} {vs : List (Option Value)} {σ : List (Addr × Obj)} {A : Around} {k : Nat} {env : Env}
theorem M_for {nm : Str} {sc : Scope} {a : Addr} {cd : Value} {cl : List (Str × Addr)} {x : Str} {px : Pos} {body : List Stmt} {I : Addr} {n : Nat} {st : Nat → Obj → Prop} {o₀ : Obj} {val : Nat → Value → Prop} {ok : Heap → Prop} {Q : Flow → Heap → Nat → Prop}
    (J : Nat → List (Option Value) → List (Addr × Obj) → Heap → Prop) (T : Itr V n st val ok) (hh : A.handled = none) (S : St B P L ns vs ((I, o₀) :: σ) h) (s0 : st 0 o₀) (j0 : J 0 vs σ h)
    (jx : Nat) (hput : ns[jx]? = some (x, .local)) (hlen : ∀ i vs σ h, J i vs σ h → Nat.ble (jx + 1) vs.length = true)
    (hok : ∀ i vs σ o h, St B P L ns vs ((I, o) :: σ) h → J i vs σ h → ok h)
    (turn : ∀ i vs σ h, i < n → Tk P h → J i vs σ h → ∀ v o h₁ k₁, val i v → St B h L ns (vs.set jx (some v)) ((I, o) :: σ) h₁ → ∀ Qt : Flow → Heap → Nat → Prop, (∀ v h k, Q (.ret v) h k → Qt (.ret v) h k) →
      (∀ f h₂ k₂, f = .next ∨ f = .cont → (∃ vs₂ σ₂, St B h L ns vs₂ ((I, o) :: σ₂) h₂ ∧ J (i + 1) vs₂ σ₂ h₂) → Qt f h₂ k₂) → W V A (execs body (envX nm sc L a cd cl)) Qt h₁ k₁)
    (done : ∀ vs σ h k, St B P L ns vs σ h → (∃ h₁, J n vs σ h₁ ∧ Tk h₁ h) → Q .next h k)
    (hk : sc.kind = .function := by with_unfolding_all rfl) (hn : sc.names = ns := by with_unfolding_all rfl) :
    LoopW V A (.forLoop (.Name x px) (.ref I) body [] (envX nm sc L a cd cl)) Q h k :=
  L_for J T hh S s0 j0 jx hput hlen hok (fun i vs σ h hi tk j v o h₁ k₁ hv S => turn i vs σ h hi tk j v o h₁ k₁ hv S _ (fun _ _ _ q => q) fun f _ _ e q => by rcases e with rfl | rfl <;> exact q) done hk hn
theorem M_while {test : Expr} {body : List Stmt} {Q : Flow → Heap → Nat → Prop}
    (J : Nat → List (Option Value) → List (Addr × Obj) → Heap → Prop) {m₀ : Nat} (S : St B P L ns vs σ h) (j0 : J m₀ vs σ h)
    (turn : ∀ m vs σ h k, Tk P h → St B h L ns vs σ h → J m vs σ h → ∀ Qt : Flow → Heap → Nat → Prop, (∀ v h k, Q (.ret v) h k → Qt (.ret v) h k) →
      (∀ f h₂ k₂, f = .next ∨ f = .cont → (∃ m' vs₂ σ₂, m' < m ∧ St B h L ns vs₂ σ₂ h₂ ∧ J m' vs₂ σ₂ h₂) → Qt f h₂ k₂) →
      W V A (isTrue test env (eval test env)) (fun b h₁ k₁ => (b = true → W V A (execs body env) Qt h₁ k₁) ∧ (b = false → Q .next h₁ k₁)) h k) :
    LoopW V A (.whileLoop test body [] env) Q h k :=
  L_while J S j0 fun m vs σ h k tk S j => turn m vs σ h k tk S j _ (fun _ _ _ q => q) fun f _ _ e q => by rcases e with rfl | rfl <;> exact q
theorem N_for {nm : Str} {sc : Scope} {a : Addr} {cd : Value} {cl : List (Str × Addr)} {x : Str} {px : Pos} {body : List Stmt} {I : Addr} {n : Nat} {st : Nat → Obj → Prop} {o₀ : Obj} {val : Nat → Value → Prop} {ok : Heap → Prop} {Q : Flow → Heap → Nat → Prop}
    (J : Nat → List (Option Value) → List (Addr × Obj) → Heap → Prop) (T : Itr V n st val ok) (hh : A.handled = none) (S : St B P L ns vs ((I, o₀) :: σ) h) (s0 : st 0 o₀) (j0 : J 0 vs σ h)
    (jx : Nat) (hput : ns[jx]? = some (x, .local)) (hlen : ∀ i vs σ h, J i vs σ h → Nat.ble (jx + 1) vs.length = true)
    (hok : ∀ i vs σ h, J i vs σ h → ∀ o, St B P L ns vs ((I, o) :: σ) h → ok h)
    (turn : ∀ i vs σ h, J i vs σ h → i < n → Tk P h → ∀ v o h₁ k₁, val i v → St B h L ns (vs.set jx (some v)) ((I, o) :: σ) h₁ → ∀ Qt : Flow → Heap → Nat → Prop, (∀ v h k, Q (.ret v) h k → Qt (.ret v) h k) →
      (∀ f h₂ k₂ vs₂ σ₂, f = .next ∨ f = .cont → St B h L ns vs₂ ((I, o) :: σ₂) h₂ → J (i + 1) vs₂ σ₂ h₂ → Qt f h₂ k₂) → W V A (execs body (envX nm sc L a cd cl)) Qt h₁ k₁)
    (done : ∀ i vs σ h₁, J i vs σ h₁ → i = n → ∀ h k, St B P L ns vs σ h → Tk h₁ h → Q .next h k)
    (hk : sc.kind = .function := by with_unfolding_all rfl) (hn : sc.names = ns := by with_unfolding_all rfl) :
    LoopW V A (.forLoop (.Name x px) (.ref I) body [] (envX nm sc L a cd cl)) Q h k :=
  M_for J T hh S s0 j0 jx hput hlen (fun i vs σ o h S j => hok i vs σ h j o S) (fun i vs σ h hi tk j v o h₁ k₁ hv S Qt q1 q2 => turn i vs σ h j hi tk v o h₁ k₁ hv S Qt q1 fun f h₂ k₂ vs₂ σ₂ e s j => q2 f h₂ k₂ e ⟨vs₂, σ₂, s, j⟩) (fun vs σ h k S e => (by obtain ⟨h₁, j, t⟩ := e; exact done n vs σ h₁ j rfl h k S t)) hk hn
theorem N_while {test : Expr} {body : List Stmt} {Q : Flow → Heap → Nat → Prop}
    (J : Nat → List (Option Value) → List (Addr × Obj) → Heap → Prop) {m₀ : Nat} (S : St B P L ns vs σ h) (j0 : J m₀ vs σ h)
    (turn : ∀ m vs σ h, J m vs σ h → ∀ k, Tk P h → St B h L ns vs σ h → ∀ Qt : Flow → Heap → Nat → Prop, (∀ v h k, Q (.ret v) h k → Qt (.ret v) h k) →
      (∀ f h₂ k₂ m' vs₂ σ₂, f = .next ∨ f = .cont → m' < m → St B h L ns vs₂ σ₂ h₂ → J m' vs₂ σ₂ h₂ → Qt f h₂ k₂) →
      W V A (isTrue test env (eval test env)) (fun b h₁ k₁ => (b = true → W V A (execs body env) Qt h₁ k₁) ∧ (b = false → Q .next h₁ k₁)) h k) :
    LoopW V A (.whileLoop test body [] env) Q h k :=
  M_while J S j0 fun m vs σ h k tk S j Qt q1 q2 => turn m vs σ h j k tk S Qt q1 fun f h₂ k₂ m' vs₂ σ₂ e hm s j => q2 f h₂ k₂ e ⟨m', vs₂, σ₂, hm, s, j⟩
end

noncomputable def itL (l : Addr) (i : Nat) (o : Obj) : Prop := o.cls = .type "list_iterator" ∧ o.data = .fields #[.ref l, .int i 0]
noncomputable def itT (l : Addr) (i : Nat) (o : Obj) : Prop := o.cls = .type "tuple_iterator" ∧ o.data = .fields #[.ref l, .int i 0]
noncomputable def itR (a c : Int) (n i : Nat) (o : Obj) : Prop := o = { cls := .type "range_iterator", data := .fields #[rawInt (a + i * c), rawInt ((n : Int) - i), rawInt c] }
theorem ntup_of {o : Obj} {T : String} (h : o.cls = .type T) (n : T ≠ "tuple") : ¬ TupO o := fun x => n (by have := h.symm.trans x.1; exact Value.type.inj this)
section
variable {V : Vw} {B P h : Heap} {L : Addr} {ns : List (Str × NameKind)} {vs : List (Option Value)} {σ : List (Addr × Obj)} {A : Around} {k : Nat}
theorem itr_range (a c : Int) (n : Nat) : Itr V n (itR a c n) (fun i v => ∃ t, v = .int (a + i * c) t) (fun _ => True) where
  next := fun {A h k i I o Q} hh hi e so _ q => by
    rw [so] at e
    refine wpAny_pyNext_range_item (x := a + i * c) (left := (n : Int) - i) (step := c) e (by omega) fun h' e' hs => Pst.mk (q h' _ _ _ ⟨_, rfl⟩ e' ?_ hs)
    have e1 : a + ((i + 1 : Nat) : Int) * c = a + (i : Int) * c + c := by rw [Int.natCast_add, Int.add_mul]; simp; omega
    have e2 : (n : Int) - ((i + 1 : Nat) : Int) = (n : Int) - i - 1 := by omega
    unfold itR
    rw [e1, e2]
  stop := fun {A h k I o Q} hh e so _ q => by
    rw [so] at e
    exact wpAny_pyNext_range_end (x := a + n * c) (left := (n : Int) - n) (step := c) hh e (by omega) fun h' hs => Pst.mk (q h' _ hs)
  ntup := fun i o so => ntup_of (T := "range_iterator") (by rw [so]) (by decide)
theorem N_forR {nm : Str} {sc : Scope} {a : Addr} {cd : Value} {cl : List (Str × Addr)} {x : Str} {px : Pos} {body : List Stmt} {I : Addr} {n : Nat} {o₀ : Obj} {Q : Flow → Heap → Nat → Prop}
    (J : Nat → List (Option Value) → List (Addr × Obj) → Heap → Prop) (lo st : Int) (hh : A.handled = none) (S : St B P L ns vs ((I, o₀) :: σ) h) (s0 : itR lo st n 0 o₀) (j0 : J 0 vs σ h)
    (jx : Nat) (hput : ns[jx]? = some (x, .local)) (hlen : ∀ i vs σ h, J i vs σ h → Nat.ble (jx + 1) vs.length = true)
    (turn : ∀ i vs σ h, J i vs σ h → i < n → Tk P h → ∀ t o h₁ k₁, St B h L ns (vs.set jx (some (.int (lo + i * st) t))) ((I, o) :: σ) h₁ → ∀ Qt : Flow → Heap → Nat → Prop, (∀ v h k, Q (.ret v) h k → Qt (.ret v) h k) →
      (∀ f h₂ k₂ vs₂ σ₂, f = .next ∨ f = .cont → St B h L ns vs₂ ((I, o) :: σ₂) h₂ → J (i + 1) vs₂ σ₂ h₂ → Qt f h₂ k₂) → W V A (execs body (envX nm sc L a cd cl)) Qt h₁ k₁)
    (done : ∀ i vs σ h₁, J i vs σ h₁ → i = n → ∀ h k, St B P L ns vs σ h → Tk h₁ h → Q .next h k)
    (hk : sc.kind = .function := by with_unfolding_all rfl) (hn : sc.names = ns := by with_unfolding_all rfl) :
    LoopW V A (.forLoop (.Name x px) (.ref I) body [] (envX nm sc L a cd cl)) Q h k :=
  N_for J (itr_range lo st n) hh S s0 j0 jx hput hlen (fun _ _ _ _ _ _ _ => trivial) (fun i vs σ h j hi tk v o h₁ k₁ hv S Qt q1 q2 => by obtain ⟨t, rfl⟩ := hv; exact turn i vs σ h j hi tk t o h₁ k₁ S Qt q1 q2) done hk hn
theorem itr_list (l : Addr) (xs : List Value) : Itr V xs.length (itL l) (fun i v => xs[i]? = some v) (fun h => ∃ n, h.get? l = some (lo xs n)) where
  next := fun {A h k i I o Q} hh hi e so ⟨n, el⟩ q => by
    have hx : xs[i]? = some xs[i] := List.getElem?_eq_getElem hi
    exact wpAny_pyNext_list_item ⟨o, e, so.1, so.2⟩ (lo_isl el) (by simpa using hx) fun h' ⟨o', e', a, b⟩ hs => Pst.mk (q h' _ _ o' hx e' ⟨a, b⟩ hs)
  stop := fun {A h k I o Q} hh e so ⟨n, el⟩ q => wpAny_pyNext_list_end hh ⟨o, e, so.1, so.2⟩ (lo_isl el) (by simp) fun h' hs => Pst.mk (q h' _ hs)
  ntup := fun i o so => ntup_of so.1 (by decide)
theorem itr_tup (l : Addr) (xs : List Value) : Itr V xs.length (itT l) (fun i v => xs[i]? = some v) (fun h => Tp h l xs) where
  next := fun {A h k i I o Q} hh hi e so el q => by
    have hx : xs[i]? = some xs[i] := List.getElem?_eq_getElem hi
    exact wpAny_pyNext_tuple_item ⟨o, e, so.1, so.2⟩ el (by simpa using hx) fun h' ⟨o', e', a, b⟩ hs => Pst.mk (q h' _ _ o' hx e' ⟨a, b⟩ hs)
  stop := fun {A h k I o Q} hh e so el q => wpAny_pyNext_tuple_end hh ⟨o, e, so.1, so.2⟩ el (by simp) fun h' hs => Pst.mk (q h' _ hs)
  ntup := fun i o so => ntup_of so.1 (by decide)
theorem iter_list {l : Addr} {xs : List Value} {n : Nat} {Q : Value → Heap → Nat → Prop} (S : St B P L ns vs σ h) (e : h.get? l = some (lo xs n)) (q : ∀ I o h', itL l 0 o → St B P L ns vs ((I, o) :: σ) h' → Q (.ref I) h' k) :
    W V A (pyIter (.ref l)) Q h k := wpAny_pyIter_list (lo_isl e) (Pst.mk (q _ _ _ ⟨rfl, rfl⟩ (S.alloc _ rfl)))
theorem iter_tup {l : Addr} {xs : List Value} {Q : Value → Heap → Nat → Prop} (S : St B P L ns vs σ h) (e : Tp h l xs) (q : ∀ I o h', itT l 0 o → St B P L ns vs ((I, o) :: σ) h' → Q (.ref I) h' k) :
    W V A (pyIter (.ref l)) Q h k := wpAny_pyIter_tuple e (Pst.mk (q _ _ _ ⟨rfl, rfl⟩ (S.alloc _ rfl)))
noncomputable def IsRng (h : Heap) (r : Addr) (a b c : Int) : Prop := ∃ t u v, IsRange h r a b c t u v
theorem iter_range {r : Addr} {a b c : Int} {n : Nat} {Q : Value → Heap → Nat → Prop} (S : St B P L ns vs σ h) (e : IsRng h r a b c) (hs : Builtin.Range.small a b c = true) (hn : Builtin.Range.rangeSize a b c = (n : Int))
    (q : ∀ I o h', itR a c n 0 o → St B P L ns vs ((I, o) :: σ) h' → Q (.ref I) h' k) : W V A (pyIter (.ref r)) Q h k := by
  obtain ⟨t, u, v, e⟩ := e
  refine wpAny_pyIter_range e hs (Pst.mk (q _ _ _ ?_ (S.alloc _ rfl)))
  unfold itR
  rw [hn]; simp
theorem C_rng1 {n : Int} {t : Tok} {Q : Value → Heap → Nat → Prop} (S : St B P L ns vs σ h) (q : ∀ r h' k', IsRng h' r 0 n 1 → St B P L ns vs σ h' → Q (.ref r) h' k') : W V A (call (.type "range") ([] ++ [.int n t])) Q h k :=
  call_range_1 (Pst.mk (q _ _ _ ⟨_, _, _, IsRange.new ..⟩ (S.push _)))
theorem C_rng3 {a b c : Int} {t u v : Tok} {Q : Value → Heap → Nat → Prop} (S : St B P L ns vs σ h) (hc : c ≠ 0) (hp : Builtin.divisionGoesByPylong (b - a) c = false) (q : ∀ r h' k', IsRng h' r a b c → St B P L ns vs σ h' → Q (.ref r) h' k') : W V A (call (.type "range") ([] ++ [.int a t, .int b u, .int c v])) Q h k :=
  call_range_3 hc (Pst.mk (q _ _ _ ⟨_, _, _, IsRange.new ..⟩ (S.push _))) (.inl hp)
end
end
section
open PySem PySem.W PyProof.Rows PySem.Calls
set_option hygiene true
noncomputable abbrev to (xs : List Value) : Obj := { cls := .type "tuple", data := .seq xs.toArray }
section
variable {V : Vw} {K : Frag} {B₀ B P h h' : Heap} {L : Addr} {ns : List (Str × NameKind)} {vs : List (Option Value)} {σ : List (Addr × Obj)} {A : Around} {k : Nat}
theorem to_tp {t : Addr} {xs : List Value} (e : h.get? t = some (to xs)) : Tp h t xs := ⟨_, e, rfl, 0, rfl⟩
noncomputable def tI (i : Int) (l : List Value) : Option Value := if decide (-(2 ^ 63) ≤ i ∧ i < 2 ^ 63) = true then (seqIndex? i l.length).bind (l[·]?) else none
theorem tI.go {i : Int} {l : List Value} {y : Value} (e : tI i l = some y) : ∃ j, seqIndex? i l.length = some j ∧ l[j]? = some y ∧ -(2 ^ 63) ≤ i ∧ i < 2 ^ 63 := by
  unfold tI at e
  split at e
  case isTrue h =>
    obtain ⟨j, h1, h2⟩ := Option.bind_eq_some_iff.mp e
    exact ⟨j, h1, h2, of_decide_eq_true h⟩
  case isFalse => cases e
theorem I_tupP {value slice : Expr} {t : Addr} {l : List Value} {i : Int} {u : Tok} {x : Value} {Q : Value → Heap → Nat → Prop} (S : St B P L ns vs σ h) (ht : Tp P t l) (q : Q x h k)
    (hx : tI i l = some x)
    (hs : subscripted slice false (.ref t) (.int i u) = operate [.ref t, .int i u] (getItem (.ref t) (.int i u)) := by with_unfolding_all rfl) :
    W V A (subscriptTail value slice (.ref t) (.int i u)) Q h k := (by obtain ⟨_, hj, hx, hlo, hhi⟩ := tI.go hx; exact I_tup (ht.tk S.tup) q hj hx hlo hhi hs)
theorem I_tupL {value slice : Expr} {t : Addr} {l : List Value} {i : Int} {u : Tok} {x : Value} {Q : Value → Heap → Nat → Prop} (S : St B P L ns vs σ h) (m : MemA σ t (to l)) (q : Q x h k)
    (hx : tI i l = some x)
    (hs : subscripted slice false (.ref t) (.int i u) = operate [.ref t, .int i u] (getItem (.ref t) (.int i u)) := by with_unfolding_all rfl) :
    W V A (subscriptTail value slice (.ref t) (.int i u)) Q h k := (by obtain ⟨_, hj, hx, hlo, hhi⟩ := tI.go hx; exact I_tup (to_tp (S.has m)) q hj hx hlo hhi hs)
theorem N_tup {xs : List Value} {Q : Value → Heap → Nat → Prop} (S : St B P L ns vs σ h) (q : ∀ t h', St B P L ns vs ((t, to xs) :: σ) h' → Q (.ref t) h' k) (hl : Nat.ble xs.length 1000 = true := by with_unfolding_all rfl) :
    Ktu Q xs h k := ⟨Nat.le_trans (Nat.le_of_ble_eq_true hl) (by decide), fun t h' e => by rw [e.1, e.2]; exact q _ _ (S.alloc _ rfl)⟩
theorem N_lst {xs : List Value} {Q : Value → Heap → Nat → Prop} (S : St B P L ns vs σ h) (q : ∀ t h', St B P L ns vs ((t, lo xs 0) :: σ) h' → Q (.ref t) h' k) (hl : Nat.ble xs.length 1000 = true := by with_unfolding_all rfl) :
    Kli Q xs h k := ⟨Nat.le_trans (Nat.le_of_ble_eq_true hl) (by decide), fun t h' e => by rw [e.1, e.2]; exact q _ _ (S.alloc _ rfl)⟩

section
variable {nm : Str} {sc : Scope} {a : Addr} {cd : Value} {cl : List (Str × Addr)}
theorem E_tI {x : Str} {p1 p2 p3 : Pos} {n : Nat} {t : Addr} {l : List Value} {i : Int} {y : Value} {Q : Value → Heap → Nat → Prop} (S : St B P L ns vs σ h) (gl : GetL ns vs x (.ref t)) (ht : Tp P t l) (q : Q y h (k + 1)) (hx : tI i l = some y)
    (hs : subscripted (.Constant (.int i) n p2) false (.ref t) (.int i k) = operate [.ref t, .int i k] (getItem (.ref t) (.int i k)) := by with_unfolding_all rfl)
    (hk : sc.kind = .function := by with_unfolding_all rfl) (hn : sc.names = ns := by with_unfolding_all rfl) : W V A (eval (.Subscript (.Name x p1) (.Constant (.int i) n p2) p3) (envX nm sc L a cd cl)) Q h k :=
  (by obtain ⟨_, hj, hx, hlo, hhi⟩ := tI.go hx; exact E_sub (E_loc S gl (E_int (I_tup (ht.tk S.tup) q hj hx hlo hhi hs)) hk hn))
theorem S_loc {x : Str} {p pos : Pos} {v : Value} {rest : List Expr} {Q : List Value → Heap → Nat → Prop} (S : St B P L ns vs σ h) (gl : GetL ns vs x v) (q : W V A (spliced (backTo pos (starEach rest (envX nm sc L a cd cl)))) (KS2 Q v) h k)
    (hk : sc.kind = .function := by with_unfolding_all rfl) (hn : sc.names = ns := by with_unfolding_all rfl) : W V A (spliced (backTo pos (starEach (.Name x p :: rest) (envX nm sc L a cd cl)))) Q h k := S_cons (E_loc S gl q hk hn)
theorem S_locL {x : Str} {p pos : Pos} {v : Value} {Q : List Value → Heap → Nat → Prop} (S : St B P L ns vs σ h) (gl : GetL ns vs x v) (q : Q [v] h k)
    (hk : sc.kind = .function := by with_unfolding_all rfl) (hn : sc.names = ns := by with_unfolding_all rfl) : W V A (spliced (backTo pos (starEach [.Name x p] (envX nm sc L a cd cl)))) Q h k := S_loc S gl (S_nil q) hk hn
end
section
variable {env : Env}
theorem X_ifc {l r : Expr} {op : CmpOp} {body orelse rest : List Stmt} {p pos : Pos} {Q : Flow → Heap → Nat → Prop} (y : W V A (eval l env) (Kc1 V A env op r (Ktr V A (Kif V A env body orelse (Nx V A rest env Q)))) h k)
    (hm : behindInMarks op r = false := by with_unfolding_all rfl) : W V A (execs (.If (.Compare l [op] [r] p) body orelse pos :: rest) env) Q h k := X_if (T_cmp y hm)
theorem X_if0c {l r : Expr} {op : CmpOp} {body orelse : List Stmt} {p pos : Pos} {Q : Flow → Heap → Nat → Prop} (y : W V A (eval l env) (Kc1 V A env op r (Ktr V A (Kif V A env body orelse Q))) h k)
    (hm : behindInMarks op r = false := by with_unfolding_all rfl) : W V A (execs (.If (.Compare l [op] [r] p) body orelse pos :: []) env) Q h k := X_if0 (T_cmp y hm)
theorem X_nn {rest : List Stmt} {Q : Flow → Heap → Nat → Prop} (q : W V A (execs rest env) Q h k) : W V A (execs [] env) (Nx V A rest env Q) h k := X_nil q
theorem q_ie {a b : Int} {t u : Tok} {Q : Bool → Heap → Nat → Prop} (q : Q (a == b) h k) : W V A (compareOp .Eq (.int a t) (.int b u)) (Ktr V A Q) h k := i_eq (truthy_b q)
theorem q_se {x y : Str} {t u : Tok} {Q : Bool → Heap → Nat → Prop} (q : Q (x == y) h k) : W V A (compareOp .Eq (.str x t) (.str y u)) (Ktr V A Q) h k := s_eq (truthy_b q)
theorem Krf_go {f : Value} {first xs : List Value} {Q : Value → Heap → Nat → Prop} (S : St B P L ns vs σ h) (G : Wd K B₀ B) (q : W V A (PySem.call f (first ++ xs)) Q h k) : Krf K B₀ V A f first Q xs h k := ⟨G.st S, q⟩
end

theorem And_none {q : Prop} (x : q) : (∀ a, Value.none ≠ .ref a) ∧ q := ⟨fun _ e => (nomatch e), x⟩
theorem And_int {i : Int} {t : Tok} {q : Prop} (x : q) : (∀ a, Value.int i t ≠ .ref a) ∧ q := ⟨fun _ e => (nomatch e), x⟩
theorem W_enter0 {f : Addr} {args : List Value} {Q : Value → Heap → Nat → Prop} {name qual : Str} {params : Arguments} {body : List Stmt} {scope : Scope} {dV kV doc pm cdv ct oc : Value} {an od : Option Addr} {osl : Array (Option Value)} {binds : List (Str × Value)} {vs : List (Option Value)}
    {n : Nat} (G : Wd K B₀ h) (R : Room A (n + 1)) (ho : K.lookup f = some ⟨oc, od, .func (fnOf name qual params body scope dV kV doc pm an cdv ct), osl⟩) (hcd : codeIn K cdv qual = true)
    (hbind : BindsTo (V.sh h k) (fnOf name qual params body scope dV kV doc pm an cdv ct) ⟨args, []⟩ binds) (he : Ent scope.names binds vs)
    (nn : (scope.names.map (·.1)).Nodup) (nb : scope.names.all (fun p => !(p.1 == ("__debug__" : Str))) = true)
    (x : ∀ A' L h₁ k₁, St h h L scope.names vs [] h₁ → Room A' n → W V A' (execs body (envX qual scope L f cdv [])) (fun fl => Q (fv fl)) h₁ k₁)
    (hcell : ∀ x ∈ scope.names, x.2 ≠ .cell) (hco : scope.isCoroutine = false) (hgen : scope.isGenerator = false) (hk : scope.kind = .function) :
    W V A (PySem.call (.ref f) args) Q h k := by
  refine W.call (codeAny_call_def (fd := fnOf name qual params body scope dV kV doc pm an cdv ct) (body := body) (binds := binds) R.depth (G.k _ _ ho) rfl G.nolimit (codeRec_of G.k hcd) rfl hbind hcell
    (fun y hy => (he.knd y hy).lookup nn) (fun h₁ hns hk₁ => ?_) hco hgen hk)
  have hns' : h₁.Ns h.objs.size (mp scope.names vs) := he.mp nn ▸ hns
  exact wpAny_mono (x _ _ h₁ _ ⟨hns', hk₁, Nat.le_refl _, fun b o e _ => hk₁ b o e, fun p hp => (nomatch hp), List.nodup_nil, nn, nb⟩ R.deeper) (fun fl s' q => by cases fl <;> exact q) fun _ _ e => e.elim
theorem St.back0 {σ' : List (Addr × Obj)} {h₂ : Heap} {M : List Addr} (S : St h P L ns vs σ' h₂) : Chg M h h₂ := ⟨fun b o e _ => S.base b o e, fun b o e _ => S.base b o e⟩

inductive PairAt (h : Heap) (v : Value) (p : Int × Int) : Prop
  | mk (a : Addr) (t u : Tok) (e : v = .ref a) (z : Tp h a [.int p.1 t, .int p.2 u])
inductive PGet (h : Heap) (vs : List Value) (j : Nat) (p : Int × Int) : Prop
  | mk (a : Addr) (t u : Tok) (e : vs[j]? = some (.ref a)) (z : Tp h a [.int p.1 t, .int p.2 u])
noncomputable def PairsAt (h : Heap) : List Value → List (Int × Int) → Prop
  | [], [] => True
  | v :: vs, p :: ps => PairAt h v p ∧ PairsAt h vs ps
  | _, _ => False
theorem PairAt.tk {v : Value} {p : Int × Int} (x : PairAt h v p) (t : Tk h h') : PairAt h' v p := (by obtain ⟨a, t1, u, e, z⟩ := x; exact ⟨a, t1, u, e, z.tk t⟩)
theorem PairsAt.tk : ∀ {vs : List Value} {ps : List (Int × Int)}, PairsAt h vs ps → Tk h h' → PairsAt h' vs ps
  | [], [], _, _ => trivial
  | _ :: _, _ :: _, x, t => ⟨x.1.tk t, x.2.tk t⟩
  | [], _ :: _, x, _ => x.elim
  | _ :: _, [], x, _ => x.elim
theorem PairsAt.len : ∀ {vs : List Value} {ps : List (Int × Int)}, PairsAt h vs ps → vs.length = ps.length
  | [], [], _ => rfl
  | _ :: _, _ :: _, x => congrArg (· + 1) x.2.len
  | [], _ :: _, x => x.elim
  | _ :: _, [], x => x.elim
theorem PairsAt.get : ∀ {vs : List Value} {ps : List (Int × Int)} {j : Nat} {p : Int × Int}, PairsAt h vs ps → ps[j]? = some p → PGet h vs j p
  | [], [], _, _, _, e => by simp at e
  | v :: vs, q :: ps, 0, p, x, e => by
    simp at e; subst e
    obtain ⟨a, t, u, e, z⟩ := x.1
    exact ⟨a, t, u, by simp [e], z⟩
  | v :: vs, q :: ps, j + 1, p, x, e => by
    obtain ⟨a, t, u, e, z⟩ := x.2.get (j := j) (p := p) (by simpa using e)
    exact ⟨a, t, u, by simpa using e, z⟩
  | [], _ :: _, _, _, x, _ => x.elim
  | _ :: _, [], _, _, x, _ => x.elim
theorem PairsAt.snoc : ∀ {vs : List Value} {ps : List (Int × Int)} {v : Value} {p : Int × Int}, PairsAt h vs ps → PairAt h v p → PairsAt h (vs ++ [v]) (ps ++ [p])
  | [], [], _, _, _, y => ⟨y, trivial⟩
  | _ :: _, _ :: _, _, _, x, y => ⟨x.1, x.2.snoc y⟩
  | [], _ :: _, _, _, x, _ => x.elim
  | _ :: _, [], _, _, x, _ => x.elim
theorem PairsAt.set : ∀ {vs : List Value} {ps : List (Int × Int)} {v : Value} {p : Int × Int} {j : Nat}, PairsAt h vs ps → PairAt h v p → PairsAt h (vs.set j v) (ps.set j p)
  | [], [], _, _, _, _, y => trivial
  | _ :: _, _ :: _, _, _, 0, x, y => ⟨y, x.2⟩
  | _ :: _, _ :: _, _, _, j + 1, x, y => ⟨x.1, x.2.set y⟩
  | [], _ :: _, _, _, _, x, _ => x.elim
  | _ :: _, [], _, _, _, x, _ => x.elim
end
end
section
open PySem PySem.W PyProof.Rows PySem.Calls
set_option hygiene true
noncomputable abbrev Rd (h : Heap) (v : Value) (d : PyData) : Prop := Reads h v d []
theorem Rd.tkA {h h' : Heap} (t : Tk h h') {v : Value} {d : PyData} {as : List Addr} (r : Reads h v d as) : as = [] → Reads h' v d as := by
  refine Reads.rec (motive_1 := fun v d as _ => as = [] → Reads h' v d as) (motive_2 := fun vs ds as _ => as = [] → ReadsAll h' vs ds as) (fun _ => .none) (fun b _ => .bool b) (fun i u _ => .int i u) (fun x u _ => .str x u) ?_ ?_ ?_ (fun _ => .nil) ?_ r
  · intros; contradiction
  · intro _ _ _ _ _ _ ho hc hd _ ih e
    exact .tuple (t _ _ ho ⟨hc, _, _, hd⟩) hc hd (ih e)
  · intros; contradiction
  · intro _ _ _ _ _ _ _ _ i1 i2 e
    exact .cons (i1 (List.append_eq_nil_iff.mp e).1) (i2 (List.append_eq_nil_iff.mp e).2)
theorem Rd.tk {h h' : Heap} {v : Value} {d : PyData} (r : Rd h v d) (t : Tk h h') : Rd h' v d := Rd.tkA t r rfl
theorem Rd.tup {h : Heap} {a : Addr} {vs : List Value} {ds : List PyData} (t : Tp h a vs) (r : ReadsAll h vs ds []) : Rd h (.ref a) (.tuple ds) := by
  obtain ⟨o, e, c, n, d⟩ := t
  exact .tuple e c d (by simpa using r)
theorem Rd.cons {h : Heap} {v : Value} {vs : List Value} {d : PyData} {ds : List PyData} (x : Rd h v d) (r : ReadsAll h vs ds []) : ReadsAll h (v :: vs) (d :: ds) [] := by
  have := ReadsAll.cons x r
  simpa using this
theorem Rd.untup {h : Heap} {v : Value} {ds : List PyData} (r : Rd h v (.tuple ds)) : ∃ a vs, v = .ref a ∧ Tp h a vs ∧ ReadsAll h vs ds [] := by
  generalize ha : ([] : List Addr) = as at r
  cases r with
  | tuple e c d r => exact ⟨_, _, rfl, ⟨_, e, c, _, by simpa using d⟩, ha ▸ r⟩
theorem Rd.int {h : Heap} {v : Value} {i : Int} (r : Rd h v (.int i)) : ∃ t, v = .int i t := by cases r; exact ⟨_, rfl⟩
theorem Rd.str {h : Heap} {v : Value} {x : Str} (r : Rd h v (.str x)) : ∃ t, v = .str x t := by cases r; exact ⟨_, rfl⟩
theorem RdA.cons {h : Heap} {vs : List Value} {d : PyData} {ds : List PyData} (r : ReadsAll h vs (d :: ds) []) : ∃ v ws, vs = v :: ws ∧ Rd h v d ∧ ReadsAll h ws ds [] := by
  generalize ha : ([] : List Addr) = as at r
  cases r with
  | @cons v vs d ds as bs x y =>
    obtain ⟨e1, e2⟩ := List.append_eq_nil_iff.mp ha.symm
    subst e1 e2
    exact ⟨_, _, rfl, x, y⟩
theorem RdA.nil {h : Heap} {vs : List Value} (r : ReadsAll h vs [] []) : vs = [] := by cases r; rfl
section
variable {V : Vw} {h : Heap} {A : Around} {k n : Nat}
theorem rd_pair {a : Addr} {x y : Int} {t u : Tok} (e : Tp h a [.int x t, .int y u]) : Rd h (.ref a) (.tuple [.int x, .int y]) := Rd.tup e (Rd.cons (Reads.int _ _) (Rd.cons (Reads.int _ _) .nil))
theorem q_pair {a b : Addr} {x y z w : Int} {t u t' u' : Tok} {Q : Value → Heap → Nat → Prop} (R : Room A (n + 1)) (e : Tp h a [.int x t, .int y u]) (f : Tp h b [.int z t', .int w u']) (q : Q (.bool (x == z && y == w)) h k) :
    W V A (compareOp .Eq (.ref a) (.ref b)) Q h k := by
  refine SeqAt.compareEq_reads (rd_pair e) (rd_pair f) (by rfl) (by rfl) (by have := R.units; show A.units + 1 < cLine; omega) (Pst.mk ?_)
  have : PyData.eqv (.tuple [.int x, .int y]) (.tuple [.int z, .int w]) = (x == z && y == w) := by simp [PyData.eqv, PyData.eqvAll]
  rw [this]; exact q
end
end
section
open PySem PySem.W PyProof.Rows PySem.Calls
set_option hygiene true
section
variable {V : Vw} {K : Frag} {B₀ B P h h' : Heap} {L x C f l d : Addr} {ns : List (Str × NameKind)} {vs : List (Option Value)} {σ : List (Addr × Obj)} {A : Around} {k n : Nat} {env : Env} {pos : Pos} {fs : List (Str × Value)} {name : Str} {v : Value}
  {args : List (Bool × Sem Value)} {Q : Value → Heap → Nat → Prop} {pl : Sem Bool} {xs : List Value} {o : Obj}
theorem St.btk (S : St B P L ns vs σ h) : Tk B h := fun b o e _ => S.base b o e
theorem St.call0 (S : St B P L ns vs σ h) (x : Chg [] h h') : St B P L ns vs σ h' := S.chgL (ups := []) x .nil fun p hp => nomatch hp
theorem MC_def (S : St B P L ns vs σ h) (G : Wd K B₀ B) (I : Inst B₀ x C fs) (c : Mth K C name f) (q : W V A (callWith pos (.ref f) [.ref x] args []) Q h k) (nf : fs.all (fun p => !(name == p.1)) = true := by with_unfolding_all rfl) :
    W V A (getMethod (.ref x) name pl) (Kmc V A pos args Q) h k := M_def S G I c q nf
theorem MC_append (e : h.get? l = some (lo xs n)) (q : W V A (callWith pos (.builtin "list.append") [.ref l] args []) Q h k) :
    W V A (getMethod (.ref l) "append" pl) (Kmc V A pos args Q) h k := M_append e q
theorem MC_pop (e : h.get? l = some (lo xs n)) (q : W V A (callWith pos (.builtin "list.pop") [.ref l] args []) Q h k) :
    W V A (getMethod (.ref l) "pop" pl) (Kmc V A pos args Q) h k := M_pop e q
theorem MC_index (e : h.get? l = some (lo xs n)) (q : W V A (callWith pos (.builtin "list.index") [.ref l] args []) Q h k) :
    W V A (getMethod (.ref l) "index" pl) (Kmc V A pos args Q) h k := M_index e q
theorem MC_get (e : h.get? d = some o) (ex : o.ExactDict) (q : W V A (callWith pos (.builtin "dict.get") [.ref d] args []) Q h k) :
    W V A (getMethod (.ref d) "get" pl) (Kmc V A pos args Q) h k := M_get e ex q
theorem CC_ref {args : List Expr} {fv : Value} {first : List Value} (G : Wd K B₀ B) (S : St B P L ns vs σ h) (hf : keepIn K fv = true)
    (y : W V A (spliced (backTo pos (starEach args env))) (Krf K B₀ V A fv first Q) h k)
    (hplain : ((backTo pos (starEach args env)).any (·.1)) = false := by with_unfolding_all rfl) : W V A (callWith pos fv first (backTo pos (starEach args env)) []) Q h k := C_ref hf y hplain
section
variable {nm : Str} {sc : Scope} {a : Addr} {cd : Value} {cl : List (Str × Addr)}
theorem E_at {y : Str} {p p2 : Pos} {Q : Value → Heap → Nat → Prop} (S : St B P L ns vs σ h) (G : Wd K B₀ B) (gl : GetL ns vs y (.ref x)) (I : Inst B₀ x C fs) (g : GetF fs name v) (c : Fld K C name) (q : Q v h (k + 1)) (hv : handedIn v = true)
    (he : eval (.Attribute (.Name y p) name p2) (envX nm sc L a cd cl) = (do
      let o ← eval (.Name y p) (envX nm sc L a cd cl)
      standAt p2.atName
      let r ← holding [o] (getAttr o name true)
      letTemporaryGo (.Name y p) o r
      pure r) := by with_unfolding_all rfl) (hk : sc.kind = .function := by with_unfolding_all rfl) (hn : sc.names = ns := by with_unfolding_all rfl) : W V A (eval (.Attribute (.Name y p) name p2) (envX nm sc L a cd cl)) Q h k :=
  E_attr (E_loc S gl (A_fld S G I g c q hv) hk hn) he
theorem E_mc {y : Str} {p apos : Pos} {args : List Expr} (S : St B P L ns vs σ h) (G : Wd K B₀ B) (gl : GetL ns vs y (.ref x)) (I : Inst B₀ x C fs) (c : Mth K C name f) (hf : keepIn K (.ref f) = true) (q : W V A (spliced (backTo pos (starEach args (envX nm sc L a cd cl)))) (Krf K B₀ V A (.ref f) [.ref x] Q) h k)
    (nf : fs.all (fun p => !(name == p.1)) = true) (hplain : ((backTo pos (starEach args (envX nm sc L a cd cl))).any (·.1)) = false := by with_unfolding_all rfl)
    (he : eval (.Call (.Attribute (.Name y p) name apos) args [] pos) (envX nm sc L a cd cl) = (do
      let ov ← eval (.Name y p) (envX nm sc L a cd cl)
      standAt apos.atName
      let (f, first) ← holding [ov] (getMethod ov name pl)
      callWith pos f first (backTo pos (starEach args (envX nm sc L a cd cl))) []) := by with_unfolding_all rfl)
    (hk : sc.kind = .function := by with_unfolding_all rfl) (hn : sc.names = ns := by with_unfolding_all rfl) : W V A (eval (.Call (.Attribute (.Name y p) name apos) args [] pos) (envX nm sc L a cd cl)) Q h k :=
  E_meth (E_loc S gl (MC_def S G I c (CC_ref G S hf q hplain) nf) hk hn) he
theorem E_cg {y : Str} {p : Pos} {args : List Expr} {fv : Value} (S : St B P L ns vs σ h) (G : Wd K B₀ B) (kl : KndL ns y .globalImplicit) (e : nsIn K mainGlobals y = some (some fv)) (hf : keepIn K fv = true)
    (q : W V A (spliced (backTo pos (starEach args (envX nm sc L a cd cl)))) (Krf K B₀ V A fv [] Q) h k) (hplain : ((backTo pos (starEach args (envX nm sc L a cd cl))).any (·.1)) = false := by with_unfolding_all rfl)
    (he : eval (.Call (.Name y p) args [] pos) (envX nm sc L a cd cl) = (do let f ← eval (.Name y p) (envX nm sc L a cd cl); callWith pos f [] (backTo pos (starEach args (envX nm sc L a cd cl))) []) := by with_unfolding_all rfl)
    (hk : sc.kind = .function := by with_unfolding_all rfl) (hn : sc.names = ns := by with_unfolding_all rfl) : W V A (eval (.Call (.Name y p) args [] pos) (envX nm sc L a cd cl)) Q h k :=
  E_call (E_glo G S kl e (CC_ref G S hf q hplain) hk hn) he
end
end

noncomputable def All2 {β : Type} (R : Value → β → Prop) : List Value → List β → Prop
  | [], [] => True
  | v :: vs, p :: ps => R v p ∧ All2 R vs ps
  | _, _ => False
section
variable {β : Type} {R R' : Value → β → Prop}
theorem All2.imp (i : ∀ v p, R v p → R' v p) : ∀ {vs : List Value} {ps : List β}, All2 R vs ps → All2 R' vs ps
  | [], [], _ => trivial
  | _ :: _, _ :: _, x => ⟨i _ _ x.1, x.2.imp i⟩
  | [], _ :: _, x => x.elim
  | _ :: _, [], x => x.elim
theorem All2.len : ∀ {vs : List Value} {ps : List β}, All2 R vs ps → vs.length = ps.length
  | [], [], _ => rfl
  | _ :: _, _ :: _, x => congrArg (· + 1) x.2.len
  | [], _ :: _, x => x.elim
  | _ :: _, [], x => x.elim
theorem All2.get : ∀ {vs : List Value} {ps : List β} {j : Nat} {p : β}, All2 R vs ps → ps[j]? = some p → ∃ v, vs[j]? = some v ∧ R v p
  | [], [], _, _, _, e => by simp at e
  | v :: vs, q :: ps, 0, p, x, e => by simp at e; subst e; exact ⟨v, by simp, x.1⟩
  | v :: vs, q :: ps, j + 1, p, x, e => by
    obtain ⟨w, e, z⟩ := x.2.get (j := j) (p := p) (by simpa using e)
    exact ⟨w, by simpa using e, z⟩
  | [], _ :: _, _, _, x, _ => x.elim
  | _ :: _, [], _, _, x, _ => x.elim
theorem All2.snoc : ∀ {vs : List Value} {ps : List β} {v : Value} {p : β}, All2 R vs ps → R v p → All2 R (vs ++ [v]) (ps ++ [p])
  | [], [], _, _, _, y => ⟨y, trivial⟩
  | _ :: _, _ :: _, _, _, x, y => ⟨x.1, x.2.snoc y⟩
  | [], _ :: _, _, _, x, _ => x.elim
  | _ :: _, [], _, _, x, _ => x.elim
theorem All2.unsnoc : ∀ {vs : List Value} {ps : List β} {p : β}, All2 R vs (ps ++ [p]) → ∃ ws w, vs = ws ++ [w] ∧ All2 R ws ps ∧ R w p
  | v :: vs, [], p, x => by
    cases vs with
    | nil => exact ⟨[], v, rfl, trivial, x.1⟩
    | cons => exact x.2.elim
  | v :: vs, q :: ps, p, x => by
    obtain ⟨ws, w, e, a, b⟩ := All2.unsnoc (vs := vs) (ps := ps) (p := p) x.2
    exact ⟨v :: ws, w, by rw [e]; rfl, ⟨x.1, a⟩, b⟩
  | [], [], _, x => x.elim
  | [], _ :: _, _, x => x.elim
end
end
section
open PySem PySem.W PyProof.Rows PySem.Calls
set_option hygiene true
section
variable {V : Vw} {K : Frag} {B₀ B P h h' : Heap} {L x C f l d dx : Addr} {ns : List (Str × NameKind)} {vs : List (Option Value)} {σ σ' : List (Addr × Obj)} {τ : Obj → List (Addr × Obj)} {A : Around} {k n : Nat} {env : Env} {pos : Pos} {fs : List (Str × Value)} {name : Str} {v : Value}
theorem Wd.self (G : Wd K B₀ h) : Wd K h h := ⟨G.k, (by obtain ⟨p, l, mg, mb, t⟩ := G.top; exact ⟨p, l, mg, mb, t.keeps G.up⟩), fun _ _ e => e⟩
noncomputable def CW (V : Vw) (A : Around) (f : Value) (args : List Value) (Q : Value → Heap → Nat → Prop) (h : Heap) (k : Nat) : Prop :=
  codeAny V.M A (.call f ⟨args, []⟩) (fun r s' => match r with | .ok (.ret v) => Pst V Q v s' | _ => False) (V.sh h k)
theorem C_enter {f : Addr} {args : List Value} {Q : Value → Heap → Nat → Prop} {name qual : Str} {params : Arguments} {body : List Stmt} {scope : Scope} {dV kV doc pm cdv ct oc : Value} {an od : Option Addr} {osl : Array (Option Value)} {binds : List (Str × Value)} {vs : List (Option Value)}
    {n : Nat} (G : Wd K B₀ h) (R : Room A (n + 1)) (ho : K.lookup f = some ⟨oc, od, .func (fnOf name qual params body scope dV kV doc pm an cdv ct), osl⟩) (hcd : codeIn K cdv qual = true)
    (σ : List (Addr × Obj)) (hσ : ∀ p ∈ σ, h.get? p.1 = some p.2 ∧ B₀.get? p.1 = none) (nd : (σ.map (·.1)).Nodup)
    (hbind : BindsTo (V.sh h k) (fnOf name qual params body scope dV kV doc pm an cdv ct) ⟨args, []⟩ binds) (he : Ent scope.names binds vs)
    (nn : (scope.names.map (·.1)).Nodup) (nb : scope.names.all (fun p => !(p.1 == ("__debug__" : Str))) = true)
    (x : ∀ A' B L h₁ k₁, Wd K B₀ B → St B h L scope.names vs σ h₁ → (∀ b o, h.get? b = some o → b ∉ σ.map (·.1) → B.get? b = some o) → (∀ b o, B.get? b = some o → h.get? b = some o) →
      Room A' n → W V A' (execs body (envX qual scope L f cdv [])) (fun fl => Q (fv fl)) h₁ k₁)
    (hcell : ∀ x ∈ scope.names, x.2 ≠ .cell) (hco : scope.isCoroutine = false) (hgen : scope.isGenerator = false) (hk : scope.kind = .function) :
    CW V A (.ref f) args Q h k := by
  refine codeAny_call_def (fd := fnOf name qual params body scope dV kV doc pm an cdv ct) (body := body) (binds := binds) R.depth (G.k _ _ ho) rfl G.nolimit (codeRec_of G.k hcd) rfl hbind hcell
    (fun y hy => (he.knd y hy).lookup nn) (fun h₁ hns hk₁ => ?_) hco hgen hk
  have hns' : h₁.Ns h.objs.size (mp scope.names vs) := he.mp nn ▸ hns
  have S := St.enter nd (fun p hp => (hσ p hp).1) hns' hk₁ nn nb
  have hB : ∀ b o, h.get? b = some o → b ∉ σ.map (·.1) → (hideAll h (σ.map (·.1))).get? b = some o := fun b o e n => hideAll_get _ e n
  have G' : Wd K B₀ (hideAll h (σ.map (·.1))) := ⟨G.inK, G.top, fun b o e => hB b o (G.up b o e) fun q => by
    obtain ⟨p, hp, rfl⟩ := List.mem_map.mp q
    rw [(hσ p hp).2] at e; cases e⟩
  exact wpAny_mono (x _ _ _ h₁ _ G' S hB (fun b o e => of_hideAll _ e) R.deeper) (fun fl s' q => by cases fl <;> exact q) fun _ _ e => e.elim
theorem Room.under {n : Nat} {C : Addr} {rest : List Value} (R : Room A (n + 1)) : Room (A.under (.builtin "type.__call__" ⟨.ref C :: rest, []⟩)) n := by
  refine ⟨R.1, ?_, ?_⟩
  · have := R.2.1
    have w : (Code.builtin "type.__call__" ⟨.ref C :: rest, []⟩).weight = 1 := by rfl
    show A.depth + _ + n ≤ 900
    rw [w]; omega
  · have := R.2.2
    have w : (Code.builtin "type.__call__" ⟨.ref C :: rest, []⟩).cUnits = 1 := by rfl
    show A.units + _ + 10 * n ≤ 9000
    rw [w]; omega
theorem W_cls {rest : List Value} {fI : Addr} {Q : Value → Heap → Nat → Prop} (G : Wd K B₀ B) (S : St B P L ns vs σ h) (R : Room A (n + 1)) (hm : makesIn K C = true) (hi : findIn K (.ref C) "__init__" = some (some (.ref fI))) (hf : typeIn K (.ref fI) = some (.type "function"))
    (q : ∀ x dx h' A', Room A' n → St B P L ns vs ((x, instObj C dx) :: (dx, dictOf [] 0) :: σ) h' → CW V A' (.ref fI) (.ref x :: rest) (fun v h k => v = .none ∧ Q (.ref x) h k) h' k) : W V A (call (.ref C) rest) Q h k := by
  have G' := G.st S
  refine W.call (make_core (makes_of G'.k hm) (looks_findIn G'.k hi) (fun self => bind_fn G'.k self hf) (.inl rfl) ?_)
  have S1 := (S.alloc emptyDict rfl).alloc (instObj C h.objs.size) rfl
  rw [Heap.size_push] at S1
  refine codeAny_mono (q _ _ _ _ R.under S1) fun r s' z => ?_
  cases r with
  | error e => exact z.elim
  | ok f =>
    cases f with
    | ret v =>
      obtain ⟨h1, k1, rfl, rfl, z⟩ := z
      exact ⟨rfl, Pst.mk z⟩
    | _ => exact z.elim
theorem Ents.putL {es : List DictEntry} (e : Ents es fs) {hsh : Int} {t : Tok} : fs.all (fun p => !(name == p.1)) = true → Ents (putL name hsh (.str name t) v es) (fs ++ [(name, v)]) := by
  induction e with
  | nil => intro _; exact .cons .nil
  | @cons hs y u w es fs e ih =>
    intro hn
    rw [List.all_cons, Bool.and_eq_true] at hn
    have e1 : Value.isStr (.str y u) name = false := by
      show (y == name) = false
      have : ¬ name = y := by simpa using hn.1
      exact beq_eq_false_iff_ne.mpr fun q => this q.symm
    show Ents (if Value.isStr (.str y u) name then _ else _) _
    rw [e1, if_neg (by decide)]
    exact .cons (ih hn.2)
noncomputable def restOf (B h : Heap) (L dx : Addr) : List (Addr × Obj) := (List.range h.objs.size).filterMap fun b => if b = L ∨ b = dx ∨ (B.get? b).isSome then none else (h.get? b).map (b, ·)
theorem restOf_mem {p : Addr × Obj} : p ∈ restOf B h L dx ↔ h.get? p.1 = some p.2 ∧ p.1 ≠ L ∧ p.1 ≠ dx ∧ B.get? p.1 = none := by
  unfold restOf
  rw [List.mem_filterMap]
  constructor
  · rintro ⟨b, hb, e⟩
    split at e
    · cases e
    · rename_i hn
      obtain ⟨o, ho, rfl⟩ := Option.map_eq_some_iff.mp e
      simp only [not_or] at hn
      exact ⟨ho, hn.1, hn.2.1, by simpa using hn.2.2⟩
  · rintro ⟨e, n1, n2, n3⟩
    refine ⟨p.1, List.mem_range.mpr (Heap.lt_size e), ?_⟩
    rw [if_neg (by simp [n1, n2, n3]), e]; rfl
theorem St.anew {o o' : Obj} (S : St B P L ns vs σ h) (m : MemA σ dx o) (nt : ¬ TupO o) (F : Fr B L h' (mp ns vs)) (N : News B L h' ((dx, o') :: restOf B h L dx)) (u : UpdA dx o' σ σ') : St B P L ns vs σ' h' := by
  have g : ∀ b o, h.get? b = some o → b ≠ L → b ≠ dx → h'.get? b = some o := fun b o e n1 n2 => by
    cases q : B.get? b with
    | none => exact (N (b, o) (.tail _ (restOf_mem.mpr ⟨e, n1, n2, q⟩))).1
    | some o2 =>
      have := S.base _ _ q
      rw [e] at this; cases this
      exact F.keep _ _ q
  refine ⟨F.ns, F.keep, S.above, fun b o e c => ?_, fun p hp => ?_, by rw [u.addr]; exact S.nd, S.nn, S.nb⟩
  · have e1 := S.tup b o e c
    refine g b o e1 (fun q => ?_) fun q => ?_
    · obtain ⟨ol, es, ep, hl, hd, r⟩ := S.fr
      subst q
      rw [hl] at e1; cases e1
      obtain ⟨_, v9, n9, e9⟩ := c
      rw [hd] at e9; cases e9
    · subst q
      rw [S.has m] at e1; cases e1; exact nt c
  · rcases u.mem S.nd p hp with rfl | ⟨n1, hp'⟩
    · exact ⟨(N _ (.head _)).1, (S.led _ m.mem).2⟩
    · have := S.led p hp'
      exact ⟨g _ _ this.1 this.2.1 n1, this.2⟩
theorem A_set {es : List DictEntry} {m : Nat} {Q : Unit → Heap → Nat → Prop} (G : Wd K B₀ B) (S : St B P L ns vs σ h) (m1 : MemA σ x (instObj C dx)) (m2 : MemA σ dx (dictOf es m)) (en : Ents es fs)
    (hs : findIn K (.ref C) "__setattr__" = some (some (.builtin "object.__setattr__"))) (hp : plainOver K C = true) (ht : takerIn K C name = some none) (hh : hasDictIn K C = true) (nf : fs.all (fun p => !(name == p.1)) = true) (hz : es.length ≤ 100)
    (u : ∀ o', UpdA dx o' σ (τ o')) (q : ∀ es' m' h', Ents es' (fs ++ [(name, v)]) → es'.length = es.length + 1 → St B P L ns vs (τ (dictOf es' m')) h' → Q () h' (k + 2)) : W V A (setAttr (.ref x) name v) Q h k := by
  have IA : InstAt (V.sh h k).heap x (instObj C dx) C (some (dictOf es m)) := ⟨S.has m1, rfl, rfl, S.has m2⟩
  have en' := en.putL (v := v) (hsh := PyData.keyHash V.w.params name) (t := k + 1) nf
  have N : News B L (V.sh h k).heap ((dx, dictOf es m) :: restOf B h L dx) := fun p hp => by
    rcases List.mem_cons.mp hp with rfl | hp
    · exact S.led _ m2.mem
    · have := restOf_mem.mp hp
      exact ⟨this.1, this.2.1, this.2.2.2⟩
  have hlen : ∀ {es fs}, Ents es fs → es.length = fs.length := fun {es fs} e => by induction e with
    | nil => rfl
    | cons _ ih => simp [ih]
  have hl : (PySem.W.putL name (PyData.keyHash V.w.params name) (.str name (k + 1)) v es).length = es.length + 1 := by rw [hlen en', hlen en]; simp
  refine PySem.W.set_dict (prog := V.prog) (w := V.w) S.fr' G.k N IA rfl hs hp ht hh (by rw [en.getL]; rfl) rfl (.head fun p hp => (restOf_mem.mp hp).2.2.1) (by show (PySem.W.putL name (PyData.keyHash V.w.params name) (.str name (k + 1)) v es).length ≤ 1000; omega) fun h' F' N' => ?_
  exact Pst.mk (q _ _ h' en' hl (S.anew m2 (fun x => absurd (Value.type.inj x.1) (by decide)) F' N' (u _)))
theorem A_fldh {ex : Bool} {Q : Value → Heap → Nat → Prop} (S : St B P L ns vs σ h) (G : Wd K B₀ B) (I : Inst h x C fs) (g : GetF fs name v) (c : Fld K C name) (q : Q v h (k + 1)) (hv : handedIn v = true := by with_unfolding_all rfl) :
    W V A (getAttr (.ref x) name ex) Q h k := by
  obtain ⟨⟨dx, es, n, i1, i2, en⟩, nd⟩ := I
  obtain ⟨attr, c1, c2⟩ := c.c
  have IA : InstAt (V.sh h k).heap x (instObj C dx) C (some (dictOf es n)) := ⟨i1, rfl, rfl, i2⟩
  exact get_own (w := V.w) S.fr' G.k IA c.a c.b c1 c2 (by rw [en.getL, g.lookup nd]) hv (Pst.mk q)
theorem MC_defh {pl : Sem Bool} {args : List (Bool × Sem Value)} {Q : Value → Heap → Nat → Prop} (S : St B P L ns vs σ h) (G : Wd K B₀ B) (I : Inst h x C fs) (c : Mth K C name f) (q : W V A (callWith pos (.ref f) [.ref x] args []) Q h k) (nf : fs.all (fun p => !(name == p.1)) = true) :
    W V A (getMethod (.ref x) name pl) (Kmc V A pos args Q) h k := by
  obtain ⟨⟨dx, es, n, i1, i2, en⟩, nd⟩ := I
  have IA : InstAt (V.sh h k).heap x (instObj C dx) C (some (dictOf es n)) := ⟨i1, rfl, rfl, i2⟩
  exact method_inst (w := V.w) S.fr' G.k IA c.a c.b c.c (by rw [en.getL, noF nf]) (Pst.mk q)
noncomputable abbrev IS (o : Obj) (S : Int → Bool) (n : Nat) : Prop := o.IntSetOf S n
theorem set_ntup (V : Vw) {o : Obj} {S : Int → Bool} {n : Nat} (D : IS o S n) : ¬ TupO o := fun x => by
  have := (D V.prog V.w).1.1
  rw [x.1] at this
  exact absurd (Value.type.inj this) (by decide)
theorem C_set0 {Q : Value → Heap → Nat → Prop} (S : St B P L ns vs σ h) (q : ∀ a o h', IS o (fun _ => false) 0 → St B P L ns vs ((a, o) :: σ) h' → Q (.ref a) h' k) : W V A (call (.type "set") ([] ++ [])) Q h k :=
  call_set_0 fun led => Pst.mk (q _ _ _ (intSetOf_fresh led) (S.alloc _ rfl))
theorem in_set {o : Obj} {T : Int → Bool} {i : Int} {t : Tok} {Q : Value → Heap → Nat → Prop} (e : h.get? d = some o) (D : IS o T n) (hn : n ≤ 1000) (q : Q (.bool (T i)) h (k + 1)) : W V A (compareOp .In (.int i t) (.ref d)) Q h k :=
  wpAny_inSet_of (knd := intKind V.prog V.w) (k := i) isI rfl ((D V.prog V.w).setOf e (by unfold scanBound; omega)) (Pst.mk q)
theorem MC_sadd {o : Obj} {T : Int → Bool} {pl : Sem Bool} {args : List (Bool × Sem Value)} {Q : Value → Heap → Nat → Prop} (e : h.get? d = some o) (D : IS o T n) (hn : n ≤ 1000) (q : W V A (callWith pos (.builtin "set.add") [.ref d] args []) Q h k) :
    W V A (getMethod (.ref d) "add" pl) (Kmc V A pos args Q) h k :=
  getMethod_set_add (knd := intKind V.prog V.w) ((D V.prog V.w).setOf e (by unfold scanBound; omega)) (Pst.mk q)
theorem C_sadd {o : Obj} {T : Int → Bool} {i : Int} {t : Tok} {Q : Value → Heap → Nat → Prop} (S : St B P L ns vs σ h) (m : MemA σ d o) (D : IS o T n) (hn : n ≤ 1000) (u : ∀ o', UpdA d o' σ (τ o'))
    (q : ∀ o' h', IS o' (fun j => T j || decide (j = i)) (if T i then n else n + 1) → St B P L ns vs (τ o') h' → Q .none h' (k + 1)) : W V A (call (.builtin "set.add") ([.ref d] ++ [.int i t])) Q h k := by
  refine call_set_add (knd := intKind V.prog V.w) (k := i) isI rfl ((D V.prog V.w).setOf (S.has m) (by unfold scanBound; omega)) (by unfold scanBound; omega) fun h' hs D' => ?_
  obtain ⟨o', e', D'⟩ := D'.objOf
  exact Pst.mk (q o' h' D'.intSetOf (S.set m (set_ntup V D) hs (u o') e'))
end
end
section
open PySem PySem.W PyProof.Rows PySem.Calls
set_option hygiene true
theorem nd_at {α : Type} {l : List α} {x y : α} (nd : l.Nodup) (i j : Nat) (hi : l[i]? = some x) (hj : l[j]? = some y) (ne : i ≠ j) : x ≠ y := fun e => by
  subst e
  have hl : i < l.length := by
    rcases Nat.lt_or_ge i l.length with h | h
    · exact h
    · rw [List.getElem?_eq_none h] at hi; cases hi
  exact ne ((List.getElem?_inj hl nd).mp (hi.trans hj.symm))
theorem m1 {α : Type} {p : α → Prop} {a : α} (x : p a) : ∀ z ∈ [a], p z := fun z hz => by rw [List.mem_singleton.mp hz]; exact x
theorem m2 {α : Type} {p : α → Prop} {a b : α} (x : p a) (y : p b) : ∀ z ∈ [a, b], p z := List.forall_mem_cons.mpr ⟨x, m1 y⟩
theorem m3 {α : Type} {p : α → Prop} {a b c : α} (x : p a) (y : p b) (z : p c) : ∀ w ∈ [a, b, c], p w := List.forall_mem_cons.mpr ⟨x, m2 y z⟩
theorem m4 {α : Type} {p : α → Prop} {a b c d : α} (x : p a) (y : p b) (z : p c) (u : p d) : ∀ w ∈ [a, b, c, d], p w := List.forall_mem_cons.mpr ⟨x, m3 y z u⟩
theorem m5 {α : Type} {p : α → Prop} {a b c d e : α} (x : p a) (y : p b) (z : p c) (u : p d) (v : p e) : ∀ w ∈ [a, b, c, d, e], p w := List.forall_mem_cons.mpr ⟨x, m4 y z u v⟩
theorem n1 {α : Type} {x a : α} (h : x ≠ a) : x ∉ [a] := fun hm => m1 (p := fun z => x ≠ z) h x hm rfl
theorem n2 {α : Type} {x a b : α} (h : x ≠ a) (i : x ≠ b) : x ∉ [a, b] := fun hm => m2 (p := fun z => x ≠ z) h i x hm rfl
theorem n4 {α : Type} {x a b c d : α} (h : x ≠ a) (i : x ≠ b) (j : x ≠ c) (k : x ≠ d) : x ∉ [a, b, c, d] := fun hm => m4 (p := fun z => x ≠ z) h i j k x hm rfl
noncomputable def obAt (h : Heap) (x : Addr) : Obj := (h.get? x).getD (lo [] 0)
theorem obAt_eq {h : Heap} {x : Addr} (e : ∃ o, h.get? x = some o) : h.get? x = some (obAt h x) := by
  obtain ⟨o, e⟩ := e
  unfold obAt
  rw [e]; rfl
section
variable {V : Vw} {K : Frag} {B₀ B P h h' : Heap} {L x C f l d dx : Addr} {ns : List (Str × NameKind)} {vs vs1 vs2 : List (Option Value)} {σ σ' : List (Addr × Obj)} {A : Around} {k n : Nat} {env : Env} {pos : Pos} {fs : List (Str × Value)} {name : Str} {v : Value}
  {nm : Str} {sc : Scope} {a : Addr} {cd : Value} {cl : List (Str × Addr)}
theorem St.up (S : St B P L ns vs σ h) (u : ∀ b o, h.get? b = some o → h'.get? b = some o) : St B P L ns vs σ h' := S.chgL (ups := []) ⟨fun b o e _ => u b o e, fun b o e _ => u b o e⟩ .nil fun p hp => nomatch hp
noncomputable abbrev Kup (V : Vw) (A : Around) (env : Env) (elts : List Expr) (c : Nat) (tpos : Pos) (rest : List Stmt) (Q : Flow → Heap → Nat → Prop) : Value → Heap → Nat → Prop := fun v => W V A (assign (.Tuple elts c tpos) env v) (KR V A env rest Q)
theorem X_unp {elts : List Expr} {c : Nat} {tpos pos : Pos} {value : Expr} {rest : List Stmt} {Q : Flow → Heap → Nat → Prop}
    (y : W V A (eval value env) (Kup V A env elts c tpos rest Q) h k)
    (hs : swapsWithSole [.Tuple elts c tpos] value pos.line env = pure false := by with_unfolding_all rfl) (hw : swappedStores [.Tuple elts c tpos] value env = pure none := by with_unfolding_all rfl) : W V A (execs (.Assign [.Tuple elts c tpos] value pos :: rest) env) Q h k :=
  wpAny_execs_cons (PyProof.Rows.Assign_Tuple (W.bnd2 y fun _ _ _ q => q) hs hw)
theorem A_unp2 {x y : Str} {p1 p2 tpos : Pos} {c : Nat} {t : Addr} {u w : Value} {Q : Unit → Heap → Nat → Prop} (hh : A.handled = none) (S : St B P L ns vs σ h) (T : Tp h t [u, w]) (m1 : PutL ns vs x u vs1) (m2 : PutL ns vs1 y w vs2)
    (q : ∀ h' k', St B P L ns vs2 σ h' → Q () h' k') (hk : sc.kind = .function) (hn : sc.names = ns) : W V A (assign (.Tuple [.Name x p1, .Name y p2] c tpos) (envX nm sc L a cd cl) (.ref t)) Q h k := by
  refine assign_Tuple_tuple hh T.tup (by rfl) (by rfl) fun h' he => ?_
  have S1 : St B P L ns vs σ h' := S.up fun b o e => he b o (Nat.ne_of_lt (Heap.lt_size e)) e
  refine assignInOrder_cons (PyProof.Rows.assign_Name (W.gen (N_st (Q := fun _ h₁ _ => St B P L ns vs1 σ h₁) S1 m1 (fun h₁ S2 => S2) hk hn) ?_))
  rintro _ h₁ k₁ S2
  refine assignInOrder_cons (PyProof.Rows.assign_Name (W.gen (N_st (Q := fun _ h₁ _ => St B P L ns vs2 σ h₁) S2 m2 (fun h₁ S2 => S2) hk hn) ?_))
  rintro _ h₂ k₂ S3
  exact assignInOrder_nil (Pst.mk (q _ _ S3))
theorem q_pairN {a b : Addr} {x y z w : Int} {t u t' u' : Tok} {Q : Value → Heap → Nat → Prop} (R : Room A (n + 1)) (e : Tp h a [.int x t, .int y u]) (f : Tp h b [.int z t', .int w u']) (q : Q (.bool (!(x == z && y == w))) h k) :
    W V A (compareOp .NotEq (.ref a) (.ref b)) Q h k := by
  refine SeqAt.compareNe_reads (rd_pair e) (rd_pair f) (by rfl) (by rfl) (by have := R.units; show A.units + 1 < cLine; omega) (Pst.mk ?_)
  have : PyData.eqv (.tuple [.int x, .int y]) (.tuple [.int z, .int w]) = (x == z && y == w) := by simp [PyData.eqv, PyData.eqvAll]
  rw [this]; exact q
theorem E_dictN {Q : Value → Heap → Nat → Prop} (G : Wd K B₀ B) (S : St B P L ns vs σ h) (q : ∀ d o h', (d == sysModules) = false → St B P L ns vs ((d, o) :: σ) h' → (∀ (κ : Type) [DecidableEq κ] (knd : KeyKind V.prog V.w κ), o.IsDictOf knd []) → Q (.ref d) h' k) :
    W V A (eval (.Dict [] [] pos) env) Q h k := by
  refine E_dict (fun h1 o S1 D => q _ o h1 ?_ S1 D) S
  obtain ⟨_, _, _, _, T⟩ := G.top
  obtain ⟨o1, es, ep, e1, _⟩ := T.g
  have h1 : 0 < B.objs.size := Nat.lt_of_le_of_lt (Nat.zero_le _) (Heap.lt_size (G.up _ _ e1))
  have h2 := S.lt
  have h3 := S.above
  have : h.objs.size ≠ 1 := Nat.ne_of_gt (Nat.lt_of_le_of_lt (Nat.le_trans h1 h3) h2)
  exact beq_eq_false_iff_ne.mpr this
end

theorem none_of {K : Frag} {B₀ h : Heap} {a : Addr} (G : Wd K B₀ h) (e : h.get? a = none) : B₀.get? a = none := by
  cases q : B₀.get? a with
  | none => rfl
  | some o => rw [G.up _ _ q] at e; cases e
theorem none_ne {h : Heap} {a b : Addr} {o : Obj} (e : h.get? a = some o) (f : h.get? b = none) : a ≠ b := fun q => by rw [q, f] at e; cases e
theorem St.no {B P : Heap} {L : Addr} {ns : List (Str × NameKind)} {vs : List (Option Value)} {σ : List (Addr × Obj)} {h : Heap} {a : Addr} {o : Obj} (S : St B P L ns vs σ h) (m : MemA σ a o) : B.get? a = none := (S.led _ m.mem).2.2
theorem St.addNew {B P P' : Heap} {L : Addr} {ns : List (Str × NameKind)} {vs vs' : List (Option Value)} {σ σ' : List (Addr × Obj)} {h h' : Heap} {a : Addr} {o : Obj} (S : St B P L ns vs σ h) (S' : St B P' L ns vs' σ' h') (e : σ'.map (·.1) = σ.map (·.1)) (n : h.get? a = none) (g : h'.get? a = some o) : St B P' L ns vs' ((a, o) :: σ') h' := by
  refine S'.add g (fun q => ?_) ?_ fun q => ?_
  · obtain ⟨o1, _, _, hl, _⟩ := S.fr
    rw [← q, n] at hl; cases hl
  · cases q : B.get? a with
    | none => rfl
    | some o1 => rw [S.base _ _ q] at n; cases n
  · rw [e] at q
    obtain ⟨p, hp, r⟩ := List.mem_map.mp q
    have := (S.led p hp).1
    rw [r, n] at this; cases this
noncomputable def KV : List (Int × Value) → List (Int × Int) → Prop
  | [], [] => True
  | (k, v) :: r, (a, b) :: s => k = a ∧ (∃ t, v = .int b t) ∧ KV r s
  | _, _ => False
theorem KV.no : ∀ {kvs : List (Int × Value)} {ps : List (Int × Int)} {a : Int}, KV kvs ps → ps.lookup a = none → valueAt kvs a = none
  | [], [], _, _, _ => rfl
  | (k, v) :: r, (a', b) :: s, a, ⟨e1, e2, x⟩, e => by
    subst e1
    rw [List.lookup_cons] at e
    cases q : a == k with
    | true => rw [q] at e; cases e
    | false =>
      rw [q] at e
      have ih := KV.no x e
      have hne : ¬ k = a := fun h => by simp [h] at q
      unfold valueAt at ih ⊢
      rw [List.find?_cons_of_neg (by simpa using hne)]
      exact ih
  | [], _ :: _, _, x, _ => x.elim
  | _ :: _, [], _, x, _ => x.elim
theorem KV.yes : ∀ {kvs : List (Int × Value)} {ps : List (Int × Int)} {a b : Int}, KV kvs ps → ps.lookup a = some b → ∃ t, valueAt kvs a = some (.int b t)
  | [], [], _, _, _, e => by cases e
  | (k, v) :: r, (a', b') :: s, a, b, ⟨e1, ⟨t, e2⟩, x⟩, e => by
    subst e1 e2
    rw [List.lookup_cons] at e
    cases q : a == k with
    | true =>
      rw [q] at e; cases e
      have : k = a := (beq_iff_eq.mp q).symm
      exact ⟨t, by unfold valueAt; rw [List.find?_cons_of_pos (by simpa using this)]; rfl⟩
    | false =>
      rw [q] at e
      obtain ⟨t', ih⟩ := KV.yes x e
      have hne : ¬ k = a := fun h => by simp [h] at q
      refine ⟨t', ?_⟩
      unfold valueAt at ih ⊢
      rw [List.find?_cons_of_neg (by simpa using hne)]
      exact ih
  | [], _ :: _, _, _, x, _ => x.elim
  | _ :: _, [], _, _, x, _ => x.elim
theorem KV.snoc : ∀ {kvs : List (Int × Value)} {ps : List (Int × Int)} {a b : Int} {t : Tok}, KV kvs ps → KV (kvs ++ [(a, .int b t)]) (ps ++ [(a, b)])
  | [], [], _, _, t, _ => ⟨rfl, ⟨t, rfl⟩, trivial⟩
  | (_, _) :: _, (_, _) :: _, _, _, _, ⟨e1, e2, x⟩ => ⟨e1, e2, x.snoc⟩
  | [], _ :: _, _, _, _, x => x.elim
  | _ :: _, [], _, _, _, x => x.elim
theorem KV.put {kvs : List (Int × Value)} {ps : List (Int × Int)} {a b : Int} {t : Tok} (x : KV kvs ps) (e : ps.lookup a = none) : KV (stored kvs a (.int b t)) (ps ++ [(a, b)]) := by
  rw [stored_absent (x.no e)]
  exact x.snoc
theorem KV.len : ∀ {kvs : List (Int × Value)} {ps : List (Int × Int)}, KV kvs ps → kvs.length = ps.length
  | [], [], _ => rfl
  | _ :: _, _ :: _, ⟨_, _, x⟩ => congrArg (· + 1) x.len
  | [], _ :: _, x => x.elim
  | _ :: _, [], x => x.elim
theorem KV.isSome {kvs : List (Int × Value)} {ps : List (Int × Int)} {a : Int} (x : KV kvs ps) : (valueAt kvs a).isSome = (ps.lookup a).isSome := by
  cases q : ps.lookup a with
  | none => rw [x.no q]; rfl
  | some b => obtain ⟨t, e⟩ := x.yes q; rw [e]; rfl
end
section
open PySem PySem.W PyProof.Rows PySem.Calls
set_option hygiene true
section
variable {V : Vw} {K : Frag} {B₀ B P h h' : Heap} {L x C f l d dx : Addr} {ns : List (Str × NameKind)} {vs vs1 vs2 : List (Option Value)} {σ σ' : List (Addr × Obj)} {A : Around} {k n : Nat} {env : Env} {pos : Pos} {fs : List (Str × Value)} {name : Str} {v : Value} {xs : List Value}
noncomputable def NewS (h h' : Heap) (t : Addr) (v : Value) : Prop := t = h.objs.size ∧ h' = h.push { cls := .type "slice", data := .fields #[v, .none, .none] }
theorem E_slice1 {e : Expr} {p : Pos} {Q : Value → Heap → Nat → Prop} (y : W V A (eval e env) (fun v h k => ∀ t h', NewS h h' t v → Q (.ref t) h' k) h k) : W V A (eval (.Slice (some e) none none p) env) Q h k :=
  wpAny_Slice (W.gen y fun v h1 k1 q => wpAny_pure (wpAny_pure (Pst.mk (q _ _ ⟨rfl, rfl⟩))))
theorem N_sl {R : Addr → Heap → Prop} (S : St B P L ns vs σ h) (q : ∀ t h', h'.IsSliceOf t v .none .none → St B P L ns vs σ h' → R t h') : ∀ t h', NewS h h' t v → R t h' :=
  fun t h' e => by rw [e.1, e.2]; exact q _ _ (Heap.IsSliceOf.new ..) (S.push _)
theorem I_slice {value slice : Expr} {t : Addr} {j : Nat} {tk : Tok} {Q : Value → Heap → Nat → Prop} (e : h.get? l = some (lo xs n)) (sl : h.IsSliceOf t (.int (j : Int) tk) .none .none) (hj : j ≤ xs.length) (hsz : xs.length ≤ 1000000)
    (q : ∀ t h', NewL h h' t (xs.drop j) → Q (.ref t) h' k)
    (hs : subscripted slice false (.ref l) (.ref t) = operate [.ref t, .ref l] (getItem (.ref l) (.ref t))) : W V A (subscriptTail value slice (.ref l) (.ref t)) Q h k := by
  refine tail_any (lo_isl e).typeIs slot_list_getitem.lookup (wpAny_getItem_list_slice (lo := some (j : Int)) (hi := none) (st := none) (lo_isl e) sl (.int _ _) .none .none (by decide) (Pst.mk (q _ _ ⟨rfl, ?_⟩)) (by simp [sizeLine]; omega)) hs
  rw [kms_pick_eq]
  have : kms_pick xs.toArray.toList (some (j : Int)) none = xs.drop j := by
    unfold kms_pick kms_lo kms_hi
    dsimp only
    rw [if_neg (by omega)]
    simp only [List.toList_toArray, Int.toNat_natCast]
    rw [Nat.min_eq_left hj]
    exact List.take_of_length_le (by simp)
  rw [this]
theorem C_tupL {Q : Value → Heap → Nat → Prop} (S : St B P L ns vs σ h) (e : h.get? l = some (lo xs n)) (hsz : xs.length ≤ 1000000) (q : ∀ t h', St B P L ns vs ((t, to xs) :: σ) h' → Q (.ref t) h' k) : W V A (call (.type "tuple") ([] ++ [.ref l])) Q h k := by
  refine call_tuple_list (lo_isl e) (fun h1 u => Pst.mk (q _ _ ?_)) (by simp [sizeLine]; omega)
  exact (S.up u).alloc _ rfl
theorem X_del {o i : Expr} {pos pos' : Pos} {rest : List Stmt} {Q : Flow → Heap → Nat → Prop} (y : W V A (eval o env) (fun ov => W V A (eval i env) (fun iv => W V A (delItem ov iv) (fun _ => W V A (execs rest env) Q))) h k) : W V A (execs (.Delete [.Subscript o i pos] pos' :: rest) env) Q h k := by
  refine wpAny_execs_cons (wpAny_Delete (wpAny_deleteEach_cons ?_))
  rw [arm_delete_Subscript]
  refine wpAny_bind (W.gen y fun ov h1 k1 q => wpAny_bind (wpAny_holding (W.gen q fun iv h2 k2 q => wpAny_bind (wpAny_standAt (wpAny_bind (wpAny_holding (W.gen q fun _ h3 k3 q => wpAny_release (wpAny_deleteEach_nil q))))))))
theorem drop_fm {N : Nat} (sel : Nat → Bool) (j : Nat) (hs : ∀ k, k < N → sel k = decide (j ≤ k)) : ∀ (xs : List Value) (b : Nat), b + xs.length ≤ N → (xs.zipIdx b).filterMap (fun p => if sel p.2 = true then none else some p.1) = xs.take (j - b)
  | [], b, _ => by simp
  | x :: xs, b, hb => by
    have hb' : b + xs.length + 1 ≤ N := by simpa [Nat.add_assoc] using hb
    have ih := drop_fm sel j hs xs (b + 1) (by omega)
    rw [List.zipIdx_cons, List.filterMap_cons]
    dsimp only
    rw [hs b (by omega), ih]
    by_cases h : j ≤ b
    · simp only [h, decide_true, if_true]
      rw [show j - (b + 1) = 0 by omega, show j - b = 0 by omega]
      rfl
    · simp only [h, decide_false, Bool.false_eq_true, if_false]
      rw [show j - b = (j - (b + 1)) + 1 by omega, List.take_succ_cons]
theorem D_slice {t : Addr} {j : Nat} {tk : Tok} {Q : Unit → Heap → Nat → Prop} (S : St B P L ns vs σ h) (m : MemA σ l (lo xs n)) (sl : h.IsSliceOf t (.int (j : Int) tk) .none .none) (hj : j ≤ xs.length) (hsz : xs.length ≤ 1000000)
    {σ'' : Nat → List (Addr × Obj)} (up : ∀ n', UpdA l (lo (xs.take j) n') σ (σ'' n')) (q : ∀ h' n', St B P L ns vs (σ'' n') h' → Q () h' k) : W V A (delItem (.ref l) (.ref t)) Q h k := by
  have e := S.has m
  obtain ⟨os, hos, hcs, hds⟩ := sl
  have hTs : (V.sh h k).TypeIs (.ref t) "slice" := ⟨os, hos, hcs⟩
  refine wpAny_delItem_slot (lo_isl e).typeIs (by decide) PySem.F.slot_list_delitem (wpAny_call_entry PySem.F.slot_list_delitem (lo_isl e).typeIs PySem.F.entry_list_delitem ?_ (PySem.F.args_list_delitem_2 _ _))
  show wpAny _ _ (Builtin.List.listSubscript? (.ref t) >>= _) _ _ _
  refine wpAny_bind ?_
  unfold Builtin.List.listSubscript?
  refine wpAny_bind (wpAny_specialOf hTs slice_no_index ?_)
  simp only [Option.isNone_none, if_true]
  refine wpAny_pure ?_
  show wpAny _ _ (typeOf (.ref t) >>= _) _ _ _
  refine wpAny_bind (wpAny_typeOf hTs ?_)
  rw [if_neg (by decide)]
  rw [listSliceParts_eq]
  refine wpAny_bind (wpAny_bind (wpAny_field hos hds (x := .none) rfl (wpAny_bind (wpAny_listPart .none ?_))))
  rw [if_neg (by decide)]
  refine wpAny_bind (wpAny_field hos hds (x := .int (j : Int) tk) rfl (wpAny_bind (wpAny_listPart (.int _ _) ?_)))
  refine wpAny_bind (wpAny_field hos hds (x := .none) rfl (wpAny_bind (wpAny_listPart .none (wpAny_pure ?_))))
  refine wpAny_bind (m := Builtin.List.listItems (.ref l)) ?_
  unfold Builtin.List.listItems
  refine wpAny_bind (wpAny_seqItems e rfl (wpAny_pure ?_))
  refine wpAny_bind (wpAny_of_eq (sliceIndices_raw (some (j : Int)) none none xs.toArray.size (by decide)) ?_)
  rw [kms_bounds]
  refine wpAny_bind (wpAny_rule ?_)
  refine wpAny_bind ?_
  show wpAny _ _ (updateSeq l _) _ _ _
  have hlo : kms_lo (some (j : Int)) xs.toArray.size = j := by
    unfold kms_lo
    dsimp only
    rw [if_neg (by omega)]
    simp only [Int.toNat_natCast, List.size_toArray]
    exact Nat.min_eq_left hj
  have hhi : kms_hi none xs.toArray.size = xs.length := by simp [kms_hi]
  have hz0 : xs.toArray.size ≤ sizeLine := by simp [sizeLine]; (clear hhi; omega)
  have hfin : ∀ (f : Array Value → Array Value), f xs.toArray = (xs.take j).toArray → ∀ g, wpAny (model V.prog V.w) A.in1 (updateSeq l f) (fun _ s₁ => wpAny (model V.prog V.w) A.in1 (do letGo g; ret Value.none) (fun fin s' => ∃ v, fin = Fin.done (Flow.ret v) ∧ Pst V Q () s') NoE s₁) NoE (V.sh h k) := by
    intro f hf g
    refine wpAny_updateSeq e rfl ?_ hz0 (by rw [hf]; simp; simp at hz0; (clear hj hhi; omega))
    refine wpAny_bind (wpAny_letGo (wpAny_pure ⟨_, rfl, Pst.mk (q _ (if (xs.take j).length = xs.length then n else n + 1) ?_)⟩))
    exact St_lst S (ys := xs.take j) m hf (up _)
  refine hfin _ ?_ _
  dsimp only
  rw [hlo, hhi]
  refine congrArg List.toArray ((drop_fm (N := xs.length) _ j (fun k hk => ?_) xs 0 (by omega)).trans (by simp))
  show (if (1 : Int) > 0 then _ else _) = _
  rw [if_pos (by decide)]
  have h1 : ((k : Int) - j) % 1 = 0 := Int.emod_one _
  have h2 : decide ((k : Int) < xs.length) = true := by simp; assumption
  rw [h1, h2]
  by_cases h3 : j ≤ k <;> simp [h3]
theorem N_lst' {R : Addr → Heap → Prop} (S : St B P L ns vs σ h) (q : ∀ t h', St B P L ns vs ((t, lo xs 0) :: σ) h' → R t h') : ∀ t h', NewL h h' t xs → R t h' :=
  fun t h' e => by rw [e.1, e.2]; exact q _ _ (S.alloc _ rfl)
theorem C_listD {κ : Type} [DecidableEq κ] {knd : KeyKind V.prog V.w κ} {kvs : List (κ × Value)} {o : Obj} {Q : Value → Heap → Nat → Prop} (hh : A.handled = none) (S : St B P L ns vs σ h) (e : h.get? d = some o) (D : o.IsDictOf knd kvs) (lo' : (d == sysModules) = false) (hsz : kvs.length ≤ 1000000)
    (q : ∀ l us n h' k', us.length = kvs.length → (∀ (j : Nat) (v : Value), us[j]? = some v → ∃ k x, kvs[j]? = some (k, x) ∧ knd.is k v = true) → St B P L ns vs ((l, lo us n) :: σ) h' → Q (.ref l) h' k') : W V A (call (.type "list") ([] ++ [.ref d])) Q h k := by
  obtain ⟨ep, hat⟩ := (di_of e D).dictAt
  refine kdl_call (kdl_dict (knd := knd) (kvs := kvs) (ep := ep) lo') hh hat (by simp [sizeLine]; omega) fun h' tk acc' c' u hl hacc => Pst.mk (q _ acc'.toList c' _ _ (by rw [Array.length_toList]; exact hacc.1) (fun j v e => hacc.2 j v (by rw [← Array.getElem?_toList]; exact e)) ?_)
  have S1 := S.up u
  have hnone : h.get? h.objs.size = none := Heap.get?_none_of_le (Nat.le_refl _)
  refine S.addNew S1 rfl hnone ?_
  simpa using hl
end
end
section
open PySem PySem.W PyProof.Rows PySem.Calls
set_option hygiene true
section
variable {V : Vw} {K : Frag} {B₀ B P h h' : Heap} {L c : Addr} {ns : List (Str × NameKind)} {vs vs' : List (Option Value)} {σ : List (Addr × Obj)} {σ' : Obj → List (Addr × Obj)} {A : Around} {k : Nat} {env : Env} {x : Str} {v : Value} {pos : Pos} {o : Obj} {v₀ : Option Value}
theorem Y_loc {Q : Value → Heap → Nat → Prop} (S : St B P L ns vs σ h) (g : GetL ns vs x v) (q : Q v h k)
    (hk : env.scope.kind = .function := by with_unfolding_all rfl) (hn : env.scope.names = ns := by with_unfolding_all rfl) (hl : env.locals = L := by with_unfolding_all rfl) : W V A (eval (.Name x pos) env) Q h k := by
  subst hn hl
  exact wpAny_Name (wpAny_loadName_local hk (g.knd.lookup S.nn) S.fr (g.mp S.nn) (Pst.mk q)) (nb_of S g.knd)
theorem Y_st {Q : Unit → Heap → Nat → Prop} (S : St B P L ns vs σ h) (p : PutL ns vs x v vs') (q : ∀ h', St B P L ns vs' σ h' → Q () h' (k + 1))
    (hk : env.scope.kind = .function) (hn : env.scope.names = ns) (hl : env.locals = L) : W V A (storeName env x v) Q h k := by
  subst hn hl
  exact wpAny_storeName_local (p.knd.lookup S.nn) S.fr (fun h' hn' hs => Pst.mk (q h' (S.setName p hn' hs))) (by rw [hk]; rfl)
theorem cell_ntup (hd : o.data = .cell v₀) : ¬ TupO o := fun ⟨_, _, _, e⟩ => by rw [hd] at e; cases e
theorem Y_cell {Q : Value → Heap → Nat → Prop} (S : St B P L ns vs σ h) (hc : env.cells.lookup x = some c) (m : MemA σ c o) (hd : o.data = .cell (some v)) (q : Q v h k)
    (hk : env.scope.kind = .function) (hx : env.kindOf x = some .cell) (hb : (x == ("__debug__" : Str)) = false) : W V A (eval (.Name x pos) env) Q h k :=
  wpAny_Name (wpAny_loadName_cell hk hx hc ⟨o, S.has m, hd⟩ (Pst.mk q)) hb
theorem Y_stC {Q : Unit → Heap → Nat → Prop} (S : St B P L ns vs σ h) (hc : env.cells.lookup x = some c) (m : MemA σ c o) (hd : o.data = .cell v₀) (u : ∀ o', UpdA c o' σ (σ' o'))
    (q : ∀ o' h', o'.data = .cell (some v) → St B P L ns vs (σ' o') h' → Q () h' k) (hk : env.scope.kind = .function) (hx : env.kindOf x = some .cell) : W V A (storeName env x v) Q h k := by
  refine wpAny_storeName_cell hk hx hc ⟨o, S.has m, hd⟩ fun h' hv hs => ?_
  obtain ⟨o', ho', hd'⟩ := hv
  exact Pst.mk (q o' h' hd' (S.set m (cell_ntup hd) hs (u o') ho'))
theorem Y_glo {Q : Value → Heap → Nat → Prop} (G : Wd K B₀ B) (S : St B P L ns vs σ h) (g : KndL ns x .globalImplicit) (e : nsIn K mainGlobals x = some (some v)) (q : Q v h k)
    (hk : env.scope.kind = .function := by with_unfolding_all rfl) (hn : env.scope.names = ns := by with_unfolding_all rfl) (hg : env.globals = mainGlobals := by with_unfolding_all rfl) : W V A (eval (.Name x pos) env) Q h k := by
  subst hn
  obtain ⟨_, _, mg, _, t⟩ := G.top
  exact Name_function_global hk (g.lookup S.nn) (loadGlobal_global (by rw [hg]; exact t.g.keeps fun b o e => S.base b o (G.up b o e)) (mg_of G.inK t.g e) (Pst.mk q)) (nb_of S g)
theorem CellsAre.map {cm : Str → Option Value} {cs : List (Str × Addr)} {cells : List (Addr × Obj)} (x : CellsAre cm cs cells) : cells.map (·.1) = cs.map (·.2) := by
  induction x with
  | nil => rfl
  | cons _ _ ih => simp [ih]
theorem W_enterC {f : Addr} {args : List Value} {Q : Value → Heap → Nat → Prop} {name qual : Str} {params : Arguments} {body : List Stmt} {scope : Scope} {dV kV doc pm cdv ct oc : Value} {an od : Option Addr} {osl : Array (Option Value)} {binds : List (Str × Value)} {vs : List (Option Value)}
    {n : Nat} (G : Wd K B₀ h) (R : Room A (n + 1)) (ho : K.lookup f = some ⟨oc, od, .func (fnOf name qual params body scope dV kV doc pm an cdv ct), osl⟩) (hcd : codeIn K cdv qual = true)
    (σ : List (Addr × Obj)) (hσ : ∀ p ∈ σ, h.get? p.1 = some p.2 ∧ B₀.get? p.1 = none) (nd : (σ.map (·.1)).Nodup)
    (hbind : BindsTo (V.sh h k) (fnOf name qual params body scope dV kV doc pm an cdv ct) ⟨args, []⟩ binds)
    (hkind : ∀ n, ∀ x ∈ binds, scope.names.lookup x.1 = some .local ∨ (scope.names.lookup x.1 = some .cell ∧ ((cellsFrom n scope.names []).lookup x.1).isSome = true))
    (hnd : ((cellsFrom 0 scope.names []).map (·.1)).Nodup)
    (he : bindL (fun y => scope.names.lookup y) binds (fun _ => none) = mp scope.names vs)
    (nn : (scope.names.map (·.1)).Nodup) (nb : scope.names.all (fun p => !(p.1 == ("__debug__" : Str))) = true)
    (x : ∀ A' B L h₁ k₁ cl cells, cl.map (·.1) = (cellsFrom 0 scope.names []).map (·.1) → CellsAre (bindC (fun y => scope.names.lookup y) binds fun _ => none) cl cells → Wd K B₀ B → St B h L scope.names vs (cells ++ σ) h₁ →
      (∀ b o, h.get? b = some o → b ∉ σ.map (·.1) → B.get? b = some o) → (∀ b o, B.get? b = some o → h.get? b = some o) →
      Room A' n → W V A' (execs body (envX qual scope L f cdv cl)) (fun fl => Q (fv fl)) h₁ k₁)
    (hco : scope.isCoroutine = false) (hgen : scope.isGenerator = false) (hk : scope.kind = .function) :
    W V A (PySem.call (.ref f) args) Q h k := by
  refine W.call (codeAny_call_function (fd := fnOf name qual params body scope dV kV doc pm an cdv ct) R.depth (G.k _ _ ho) rfl hco hgen rfl (codeRec_of G.k hcd) (hbind _ _ _ _ ?_))
  refine wpAny_newFunctionEnv_cells hk (hkind _) fun env' he' s' z => ?_
  subst he'
  refine ⟨G.nolimit.keeps z.toInCall.keep, codeAny_func ?_⟩
  obtain ⟨h₁, tk, rfl, _⟩ := z.done
  have hk₁ := z.toInCall.keep
  obtain ⟨cells, NC, Y⟩ := Cl.news (h₀ := h) (Nat.le_refl _) fun n c hm => ⟨z.cell n c (lookup_of_mem_nodup (cellsFrom_names scope.names 0 (h.objs.size + 1) [] [] rfl ▸ hnd) hm), z.above n c hm⟩
  have hns' : h₁.Ns h.objs.size (mp scope.names vs) := he ▸ z.toInCall.ns
  have S := St.enter nd (fun p hp => (hσ p hp).1) hns' hk₁ nn nb
  have hcl : (cells.map (·.1)).Nodup := by
    rw [CellsAre.map Y]
    exact List.pairwise_map.mpr (z.apart.imp fun h => h)
  have S' : St (hideAll h (σ.map (·.1))) h h.objs.size scope.names vs (cells ++ σ) h₁ := by
    refine ⟨S.fr, S.base, S.above, S.tup, fun p hp => ?_, ?_, nn, nb⟩
    · rcases List.mem_append.mp hp with hp | hp
      · refine ⟨(NC p hp).1, (NC p hp).2.1, ?_⟩
        cases q : (hideAll h (σ.map (·.1))).get? p.1 with
        | none => rfl
        | some o => have := of_hideAll _ q; rw [(NC p hp).2.2] at this; cases this
      · exact S.led p hp
    · rw [List.map_append]
      refine List.nodup_append.mpr ⟨hcl, nd, fun a ha b hb e => ?_⟩
      obtain ⟨p, hp, rfl⟩ := List.mem_map.mp ha
      obtain ⟨q, hq, rfl⟩ := List.mem_map.mp hb
      have h1 := (NC p hp).2.2
      rw [e, (hσ q hq).1] at h1; cases h1
  have hB : ∀ b o, h.get? b = some o → b ∉ σ.map (·.1) → (hideAll h (σ.map (·.1))).get? b = some o := fun b o e n => hideAll_get _ e n
  have G' : Wd K B₀ (hideAll h (σ.map (·.1))) := ⟨G.inK, G.top, fun b o e => hB b o (G.up b o e) fun q => by
    obtain ⟨p, hp, rfl⟩ := List.mem_map.mp q
    rw [(hσ p hp).2] at e; cases e⟩
  exact wpAny_mono (x _ _ _ h₁ _ _ cells (cellsFrom_names scope.names _ _ [] [] rfl) Y G' S' hB (fun b o e => of_hideAll _ e) R.deeper) (fun fl s' q => by cases fl <;> exact q) fun _ _ e => e.elim
end
end
section
open PySem PySem.W PyProof.Rows PySem.Calls
set_option hygiene true
section
variable {V : Vw} {K : Frag} {B₀ B B' P P' h h' : Heap} {L C c I : Addr} {ns nsC : List (Str × NameKind)} {vs vs' : List (Option Value)} {σ σ' : List (Addr × Obj)} {A : Around} {k : Nat} {env : Env} {x : Str} {v : Value} {pos : Pos} {o : Obj}
theorem St.loose (S : St B P L ns vs ((c, o) :: σ) h) (nt : ¬ TupO o) (e : Heap.ExtBut c h h') : St B P L ns vs σ h' := by
  have hc : Chg [c] h h' := ⟨fun b o e1 nb => e b o (fun q => nb (by rw [q]; exact .head _)) e1, fun b o e1 d => e b o (fun q => by subst q; rw [S.has .hd] at e1; cases e1; exact nt d) e1⟩
  have S1 := S.drop (σ' := σ) (List.sublist_cons_self _ _)
  have hI := S.led _ (.head _)
  refine ⟨?_, fun b o e => hc.same b o (S.base b o e) fun q => ?_, S.above, S.tup.trans hc.tup, fun p hp => ⟨hc.same _ _ (S1.led p hp).1 fun q => ?_, (S1.led p hp).2⟩, S1.nd, S1.nn, S1.nb⟩
  · obtain ⟨oL, es, ep, e, r⟩ := S.fr
    exact ⟨oL, es, ep, hc.same _ _ e (fun q => hI.2.1 (List.mem_singleton.mp q).symm), r⟩
  · rw [List.mem_singleton.mp q, hI.2.2] at e; cases e
  · have := List.mem_singleton.mp q
    have nd := S.nd
    rw [List.map_cons, List.nodup_cons] at nd
    exact nd.1 (List.mem_map.mpr ⟨p, hp, this⟩)
theorem St.out (S : St B P L ns vs σ h) (S' : St (hideAll h (σ.map (·.1))) P' C nsC vs' σ' h') : ∃ oC, ¬ TupO oC ∧ (∃ es ep, oC.data = .dict es ep ∧ StrKeys es) ∧ St B P' L ns vs ((C, oC) :: σ') h' := by
  obtain ⟨oC, es, ep, eC, dC, kC, _⟩ := S'.fr
  obtain ⟨oL, es1, ep1, eL, r⟩ := S.fr
  have nL : L ∉ σ.map (·.1) := fun q => by
    obtain ⟨p, hp, e⟩ := List.mem_map.mp q
    exact (S.led p hp).2.1 e
  have bL : (hideAll h (σ.map (·.1))).get? L = some oL := hideAll_get _ eL nL
  have bB : ∀ b o, B.get? b = some o → (hideAll h (σ.map (·.1))).get? b = some o := fun b o e => hideAll_get _ (S.base b o e) fun q => by
    obtain ⟨p, hp, rfl⟩ := List.mem_map.mp q
    rw [(S.led p hp).2.2] at e; cases e
  have nB : ∀ b, (hideAll h (σ.map (·.1))).get? b = none → B.get? b = none := fun b e => by
    cases q : B.get? b with
    | none => rfl
    | some o => rw [bB _ _ q] at e; cases e
  refine ⟨oC, (fun ⟨_, _, _, e⟩ => by rw [dC] at e; cases e), ⟨es, ep, dC, kC⟩, ⟨oL, es1, ep1, S'.base _ _ bL, r⟩, fun b o e => S'.base _ _ (bB b o e), S.above, S'.tup, fun p hp => ?_, ?_, S.nn, S.nb⟩
  · rcases List.mem_cons.mp hp with rfl | hp
    · refine ⟨eC, fun q => ?_, nB _ S'.bL⟩
      have := S'.bL
      rw [show C = L from q, bL] at this; cases this
    · refine ⟨(S'.led p hp).1, fun q => ?_, nB _ (S'.led p hp).2.2⟩
      have := (S'.led p hp).2.2
      rw [q, bL] at this; cases this
  · refine List.nodup_cons.mpr ⟨fun q => ?_, S'.nd⟩
    obtain ⟨p, hp, e⟩ := List.mem_map.mp q
    exact (S'.led p hp).2.1 e

noncomputable def LcW (V : Vw) (A : Around) (e : Expr) (scope : Scope) (cl : List (Str × Addr)) (env : Env) (use : Option (Value → Sem Unit)) (Q : Value → Heap → Nat → Prop) (it : Value) (h : Heap) (k : Nat) : Prop :=
  wpAny V.M A (newList []) (fun acc s₃ => wpAny V.M A (newFunctionEnv scope env.globals cl [] env.qual none .none (some env)) (fun cenv s₄ =>
    codeAny V.M A (.compStart e 0 it acc { cenv with scope := relabel scope env }) (compPost V.M A NoE use (Pst V Q) acc cenv.locals) s₄) NoE s₃) NoE (V.sh h k)
variable {scope : Scope} {cl : List (Str × Addr)} {elt iter : Expr} {px : Pos}
noncomputable abbrev Kl2 (V : Vw) (A : Around) (e : Expr) (scope : Scope) (cl : List (Str × Addr)) (env : Env) (use : Option (Value → Sem Unit)) (Q : Value → Heap → Nat → Prop) : Value → Heap → Nat → Prop := fun it => LcW V A e scope cl env use Q it
noncomputable abbrev Kl1 (V : Vw) (A : Around) (e : Expr) (scope : Scope) (cl : List (Str × Addr)) (env : Env) (use : Option (Value → Sem Unit)) (Q : Value → Heap → Nat → Prop) : Value → Heap → Nat → Prop := fun xv => W V A (pyIter xv) (Kl2 V A e scope cl env use Q)
noncomputable abbrev Kv (V : Vw) (A : Around) (env : Env) (rest : List Stmt) (Q : Flow → Heap → Nat → Prop) : Value → Heap → Nat → Prop := fun _ => W V A (execs rest env) Q
theorem E_lc {Q : Value → Heap → Nat → Prop}
    (y : W V A (eval iter env) (Kl1 V A (.ListComp elt [⟨.Name x px, iter, [], 0⟩] scope pos) scope cl env none Q) h k)
    (hclos : closureFor scope env = pure cl) (hkind : scope.kind = .function) (hnames : ∀ y ∈ scope.names, y.2 = .local → scope.names.lookup y.1 = some .local)
    (hs : ∀ x, foldedSetIterable iter env x = pure x) : W V A (eval (.ListComp elt [⟨.Name x px, iter, [], 0⟩] scope pos) env) Q h k := by
  show wpAny _ _ _ _ _ _
  rw [eval_ListComp]
  exact wpAny_comprehension_free (use := none) rfl hs hclos hkind hnames (W.gen y fun xv h k q => W.gen q fun it h k z => z)
theorem X_lc {y : Str} {py spos : Pos} {rest : List Stmt} {Q : Flow → Heap → Nat → Prop}
    (z : W V A (eval iter env) (Kl1 V A (.ListComp elt [⟨.Name x px, iter, [], 0⟩] scope pos) scope cl env (some (assign (.Name y py) env)) (Kv V A env rest Q)) h k)
    (hsw : swapsWith (.ListComp elt [⟨.Name x px, iter, [], 0⟩] scope pos) (some (.Name y py)) spos.line env = pure true)
    (hclos : closureFor scope env = pure cl) (hkind : scope.kind = .function) (hnames : ∀ y ∈ scope.names, y.2 = .local → scope.names.lookup y.1 = some .local)
    (hs : ∀ x, foldedSetIterable iter env x = pure x) : W V A (execs (.Assign [.Name y py] (.ListComp elt [⟨.Name x px, iter, [], 0⟩] scope pos) spos :: rest) env) Q h k := by
  refine wpAny_execs_cons (Q := Pst V Q) ?_
  rw [exec_Assign_Name_used _ _ _ _ hsw]
  refine wpAny_bind (wpAny_standAt (wpAny_bind ?_))
  show wpAny _ A (do let _ ← comprehension (.ListComp elt [⟨.Name x px, iter, [], 0⟩] scope pos) scope env _ (newList []) false (eval iter env) (some (assign (.Name y py) env))) _ _ _
  refine wpAny_bind (wpAny_mono (wpAny_comprehension_free (use := some (assign (.Name y py) env)) (Q := Pst V (fun _ => W V A (execs rest env) Q)) rfl hs hclos hkind hnames
    (W.gen z fun xv h k q => W.gen q fun it h k z => z)) (fun _ s' hq => ?_) fun _ _ e => e)
  obtain ⟨h1, k1, rfl, hq⟩ := hq
  exact wpAny_pure (wpAny_pure hq)
inductive LcI (V : Vw) (st : Nat → Obj → Prop) (J : Nat → List Value → List (Addr × Obj) → Heap → Prop) (n jx : Nat) (nsC : List (Str × NameKind)) (B' h : Heap) (C D I : Addr) (m : Nat) : Shared → Prop
  | mk {i : Nat} {acc : List Value} {σ₁ : List (Addr × Obj)} {hJ hc : Heap} {kc : Nat} {o : Obj} {mm : Nat} {vs₁ : List (Option Value)} (him : i + m = n) (hal : acc.length = i) (jj : J i acc σ₁ hJ) (hJb : ∀ b o, B'.get? b = some o → hJ.get? b = some o)
    (hJl : ∀ p ∈ σ₁, hJ.get? p.1 = some p.2) (htk : Tk h hJ) (so : st i o) (hl : vs₁.length = nsC.length) (hv : vs₁.set jx none = (nsC.map fun _ => none).set jx none) (S : St B' hJ C nsC vs₁ ((I, o) :: (D, lo acc mm) :: σ₁) hc) :
    LcI V st J n jx nsC B' h C D I m (V.sh hc kc)
theorem L_lc {jx : Nat} {st : Nat → Obj → Prop} {val : Nat → Value → Prop} {ok : Heap → Prop} {o₀ : Obj} {use : Option (Value → Sem Unit)} {Q : Value → Heap → Nat → Prop} {n : Nat}
    (J : Nat → List Value → List (Addr × Obj) → Heap → Prop) (T : Itr V n st val ok)
    (tself : ∀ {A : Around} {h : Heap} {k : Nat} {I : Addr} {o : Obj} {Q : Value → Heap → Nat → Prop}, h.get? I = some o → st 0 o → Q (.ref I) h k → W V A (pyIter (.ref I)) Q h k)
    (hh : A.handled = none) (G : Wd K B₀ B) (S : St B P L ns vs ((I, o₀) :: σ) h) (s0 : st 0 o₀) (j0 : J 0 [] σ h)
    (hcell : ∀ y ∈ scope.names, y.2 ≠ .cell) (hkind : scope.kind = .function) (hnC : (relabel scope env).names = nsC) (hput : nsC[jx]? = some (x, .local))
    (nn : (nsC.map (·.1)).Nodup) (nb : nsC.all (fun p => !(p.1 == ("__debug__" : Str))) = true) (hn : n ≤ 1000)
    (hok : ∀ i acc σ₁ o h₁ hJ C D m vs₁ B', St B' hJ C nsC vs₁ ((I, o) :: (D, lo acc m) :: σ₁) h₁ → (∀ b o, h.get? b = some o → b ∉ (((I, o₀) :: σ).map (·.1)) → B'.get? b = some o) → Tk h hJ → J i acc σ₁ hJ → ok h₁)
    (turn : ∀ i acc σ₁ hJ B' C D m o v h₁ k₁, i < n → acc.length = i → J i acc σ₁ hJ → val i v → Wd K B₀ B' → (∀ b o, h.get? b = some o → b ∉ (((I, o₀) :: σ).map (·.1)) → B'.get? b = some o) → (∀ b o, B'.get? b = some o → h.get? b = some o) →
      (∀ b o, B'.get? b = some o → hJ.get? b = some o) → (∀ p ∈ σ₁, hJ.get? p.1 = some p.2) → Tk h hJ → St B' hJ C nsC ((nsC.map fun _ => none).set jx (some v)) ((I, o) :: (D, lo acc m) :: σ₁) h₁ →
      W V A (eval elt (compEnvC scope cl C env)) (fun w h₂ k₂ => ∃ vs₂ σ₂, vs₂.length = nsC.length ∧ vs₂.set jx none = (nsC.map fun _ => none).set jx none ∧ St B' hJ C nsC vs₂ ((I, o) :: (D, lo acc m) :: σ₂) h₂ ∧ J (i + 1) (acc ++ [w]) σ₂ h₂) h₁ k₁)
    (done : ∀ ys σ₁ hJ D m h₁ k₁ C oC, ys.length = n → J n ys σ₁ hJ → (∀ b o, h.get? b = some o → b ∉ (((I, o₀) :: σ).map (·.1)) → hJ.get? b = some o) → (∀ p ∈ σ₁, hJ.get? p.1 = some p.2) → Tk h hJ → ¬ TupO oC → St B hJ L ns vs ((C, oC) :: (D, lo ys m) :: σ₁) h₁ →
      match use with
      | none => ∀ h₂, St B hJ L ns vs ((D, lo ys m) :: σ₁) h₂ → Q (.ref D) h₂ k₁
      | some u => W V A (u (.ref D)) (fun _ h₂ k₂ => ∃ vs₂ σ₂, St B hJ L ns vs₂ ((C, oC) :: σ₂) h₂ ∧ ∀ h₃, St B hJ L ns vs₂ σ₂ h₃ → Q .none h₃ k₂) h₁ k₁) :
    LcW V A (.ListComp elt [⟨.Name x px, iter, [], 0⟩] scope pos) scope cl env use Q (.ref I) h k := by
  subst hnC
  refine wpAny_newObj_type (wpAny_newFunctionEnv hcell (by intro y hy; simp at hy) (fun h₁ hns₁ hsb₁ => ?_) hkind)
  dsimp only at hns₁ hsb₁ ⊢
  generalize hH2 : h.push { cls := .type "list", dict := none, data := .seq ([] : List Value).toArray } = H2 at hns₁ hsb₁ ⊢
  have hC : H2.objs.size = h.objs.size + 1 := by rw [← hH2, Heap.size_push]
  have below : ∀ b o, h.get? b = some o → b ≠ H2.objs.size := fun b o e => by
    have := Heap.lt_size e
    rw [hC]; exact Nat.ne_of_lt (Nat.lt_succ_of_lt this)
  have old : ∀ b o, h.get? b = some o → h₁.get? b = some o := fun b o e => hsb₁.extBut b o (below b o e) (Heap.get?_push_of_some _ (hH2 ▸ Heap.get?_push_of_some _ e))
  have hDC : h.objs.size ≠ H2.objs.size := by rw [hC]; exact Nat.ne_of_lt (Nat.lt_succ_self _)
  have hacc : h₁.get? h.objs.size = some (lo [] 0) := hsb₁.extBut _ _ hDC (Heap.get?_push_of_some _ (hH2 ▸ Heap.get?_push_size _ rfl))
  have hsub : ∀ b o, (hideAll h (((I, o₀) :: σ).map (·.1))).get? b = some o → h.get? b = some o := fun b o e => of_hideAll _ e
  have hsup : ∀ b o, h.get? b = some o → b ∉ (((I, o₀) :: σ).map (·.1)) → (hideAll h (((I, o₀) :: σ).map (·.1))).get? b = some o := fun b o e nb => hideAll_get _ e nb
  have G' : Wd K B₀ (hideAll h (((I, o₀) :: σ).map (·.1))) := ⟨G.inK, G.top, fun b o e => hsup b o (S.base _ _ (G.up b o e)) fun q => by
    obtain ⟨p, hp, rfl⟩ := List.mem_map.mp q
    have := (S.led p hp).2.2
    rw [G.up _ _ e] at this; cases this⟩
  have S₁ : St (hideAll h (((I, o₀) :: σ).map (·.1))) h H2.objs.size (relabel scope env).names ((relabel scope env).names.map fun _ => none) ((I, o₀) :: (h.objs.size, lo [] 0) :: σ) h₁ := by
    refine ⟨?_, fun b o e => old b o (hsub b o e), by rw [hideAll_size, hC]; omega, fun b o e _ => old b o e, fun p hp => ?_, ?_, nn, nb⟩
    · have : (fun x => ([] : List (Str × Value)).reverse.lookup x) = mp (relabel scope env).names ((relabel scope env).names.map fun _ => none) := by
        funext y
        have : ∀ (l : List (Str × NameKind)), mp l (l.map fun _ => none) y = none := by
          intro l
          induction l with
          | nil => rfl
          | cons p l ih =>
            show (if y = p.1 then none else mp l (l.map fun _ => none) y) = none
            rw [ih]; simp
        rw [this]; rfl
      exact this ▸ hns₁
    · have key : p ∈ ((I, o₀) :: σ) ∨ p = (h.objs.size, lo [] 0) := by
        simp only [List.mem_cons] at hp ⊢
        rcases hp with h | h | h <;> simp [h]
      rcases key with hp | rfl
      · exact ⟨old _ _ (S.led p hp).1, below _ _ (S.led p hp).1, hideAll_none _ (List.mem_map_of_mem hp)⟩
      · exact ⟨hacc, hDC, Heap.get?_none_of_le (by rw [hideAll_size]; exact Nat.le_refl _)⟩
    · have h1 : (((h.objs.size, lo [] 0) :: (I, o₀) :: σ).map (·.1)).Nodup := List.nodup_cons.mpr ⟨fun q => by
        obtain ⟨p, hp, e⟩ := List.mem_map.mp q
        have := Heap.lt_size (S.led p hp).1
        rw [e] at this; exact Nat.lt_irrefl _ this, S.nd⟩
      exact (List.Perm.swap _ _ _).nodup_iff.mp h1
  generalize hB' : hideAll h (((I, o₀) :: σ).map (·.1)) = B' at G' S₁ hsub hsup
  generalize hCC : H2.objs.size = C at S₁ hDC hns₁ hsb₁ below ⊢
  generalize hDD : h.objs.size = D at S₁ hacc hDC ⊢
  have loop : ∀ k₁, codeAny V.M A (.compLoop (.ListComp elt [⟨.Name x px, iter, [], 0⟩] scope pos) 0 (.ref I) (.ref D) (compEnvC scope cl C env)) (compPost V.M A NoE use (Pst V Q) (.ref D) C) (V.sh h₁ k₁) := by
    intro k₁
    refine codeAny_compLoop_list (LcI V st J n jx (relabel scope env).names B' h C D I) ?_ n
      (.mk (i := 0) (by omega) rfl j0 hsub (fun p hp => (S.led p (.tail _ hp)).1) Tk.rfl s0 (by simp) rfl S₁) (fun _ => by rfl)
    rintro m s @⟨i, acc, σ₁, hJ, hc, kc, o, mm, vs₁, him, hal, jj, hJb, hJl, htk, so, hl, hv, S⟩
    by_cases hin : i < n
    · refine W.gen (T.next (Q := fun r h' k' => ∃ v o', r = some v ∧ val i v ∧ h'.get? I = some o' ∧ st (i + 1) o' ∧ Heap.SameBut I hc h') hh hin (S.has .hd) so (hok _ _ _ _ _ _ _ _ _ _ _ S hsup htk jj) fun h' k' v o' a b c d => ⟨v, o', rfl, a, b, c, d⟩) ?_
      rintro r h' k' ⟨v, o', rfl, hv1, hI, so', hs⟩
      have S1 := S.set (o' := o') .hd (T.ntup i o so) hs .hd hI
      have hp := putAtJ (v := v) hput (by rw [hl]; exact (List.getElem?_eq_some_iff.mp hput).1)
      have hset : vs₁.set jx (some v) = ((relabel scope env).names.map fun _ => none).set jx (some v) := by
        have := congrArg (fun l => l.set jx (some v)) hv
        simpa only [List.set_set] using this
      show wpAny _ A (assign (.Name x px) _ v) _ _ _
      refine wpAny_assign_Name (W.gen (Y_st (Q := fun _ h₁ k₁ => St B' hJ C (relabel scope env).names (vs₁.set jx (some v)) ((I, o') :: (D, lo acc mm) :: σ₁) h₁) S1 hp (fun h₁ S2 => S2) (by exact hkind) rfl rfl) fun _ h₂ k₂ S2 => ?_)
      rw [hset] at S2
      refine W.gen (turn i acc σ₁ hJ B' C D mm o' v h₂ k₂ hin hal jj hv1 G' hsup hsub hJb hJl htk S2) ?_
      rintro w h₃ k₃ ⟨vs₂, σ₂, hl2, hv2, S3, j3⟩
      have hJb' : ∀ b o, B'.get? b = some o → h₃.get? b = some o := S3.base
      refine W.gen (C_append (Q := fun _ h₄ _ => St B' h₃ C (relabel scope env).names vs₂ ((I, o') :: (D, lo (acc ++ [w]) (mm + 1)) :: σ₂) h₄) S3.pool (.tl .hd) (.tl .hd) (fun h₄ S4 => S4) (by (clear him; omega))) ?_
      intro _ h₄ k₄ S4
      exact ⟨m - 1, by omega, .mk (i := i + 1) (by omega) (by simp [hal]) j3 hJb' (fun p hp => (S3.led p (.tail _ (.tail _ hp))).1) (htk.trans S3.tup) so' hl2 hv2 S4⟩
    · have : i = n := by omega
      subst this
      refine W.gen (T.stop (Q := fun r h' _ => r = none ∧ Heap.ExtBut I hc h') hh (S.has .hd) so (hok _ _ _ _ _ _ _ _ _ _ _ S hsup htk jj) fun h' k' c => ⟨rfl, c⟩) ?_
      rintro r h' k' ⟨rfl, hs⟩
      have S1 := S.loose (T.ntup _ _ so) hs
      subst hB'
      obtain ⟨oC, ntC, ⟨es, ep, dC, kC⟩, S2⟩ := St.out ‹St B P L ns vs ((I, o₀) :: σ) h› S1
      have dn := done acc σ₁ hJ D mm h' k' C oC hal jj (fun b o e nb => hJb b o (hsup b o e nb)) hJl htk ntC S2
      cases use with
      | none =>
        refine ⟨_, ⟨oC, es, ep, S2.has .hd, dC, kC, fun _ => rfl⟩, fun h'' hs'' => Pst.mk (dn h'' (S2.loose ntC hs''.extBut))⟩
      | some u =>
        refine W.gen dn ?_
        rintro _ h₂ k₂ ⟨vs₂, σ₂, S3, hq⟩
        exact ⟨_, ⟨oC, es, ep, S3.has .hd, dC, kC, fun _ => rfl⟩, fun h'' hs'' => Pst.mk (hq h'' (S3.loose ntC hs''.extBut))⟩
  refine codeAny_compStart_list (loop _) (W.gen (tself (Q := fun r h k => r = .ref I ∧ h = h₁) (S₁.has .hd) s0 ⟨rfl, rfl⟩) ?_)
  rintro r h' k' ⟨rfl, rfl⟩
  exact loop _
theorem self_list {l : Addr} {A : Around} {h : Heap} {k : Nat} {I : Addr} {o : Obj} {Q : Value → Heap → Nat → Prop} (e : h.get? I = some o) (so : itL l 0 o) (q : Q (.ref I) h k) : W V A (pyIter (.ref I)) Q h k :=
  wpAny_pyIter_listiter ⟨o, e, so.1, so.2⟩ (Pst.mk q)
theorem self_tup {l : Addr} {A : Around} {h : Heap} {k : Nat} {I : Addr} {o : Obj} {Q : Value → Heap → Nat → Prop} (e : h.get? I = some o) (so : itT l 0 o) (q : Q (.ref I) h k) : W V A (pyIter (.ref I)) Q h k :=
  wpAny_pyIter_tupleiter ⟨o, e, so.1, so.2⟩ (Pst.mk q)
theorem self_range {a c : Int} {n : Nat} {A : Around} {h : Heap} {k : Nat} {I : Addr} {o : Obj} {Q : Value → Heap → Nat → Prop} (e : h.get? I = some o) (so : itR a c n 0 o) (q : Q (.ref I) h k) : W V A (pyIter (.ref I)) Q h k := by
  rw [so] at e
  exact wpAny_pyIter_rangeiter e (Pst.mk q)
theorem N_lcN {jx : Nat} {st : Nat → Obj → Prop} {val : Nat → Value → Prop} {ok : Heap → Prop} {o₀ : Obj} {Q : Value → Heap → Nat → Prop} {n : Nat}
    (J : Nat → List Value → List (Addr × Obj) → Heap → Prop) (T : Itr V n st val ok)
    (tself : ∀ {A : Around} {h : Heap} {k : Nat} {I : Addr} {o : Obj} {Q : Value → Heap → Nat → Prop}, h.get? I = some o → st 0 o → Q (.ref I) h k → W V A (pyIter (.ref I)) Q h k)
    (hh : A.handled = none) (G : Wd K B₀ B) (S : St B P L ns vs ((I, o₀) :: σ) h) (s0 : st 0 o₀) (j0 : J 0 [] σ h)
    (hcell : ∀ y ∈ scope.names, y.2 ≠ .cell) (hkind : scope.kind = .function) (hnC : (relabel scope env).names = nsC) (hput : nsC[jx]? = some (x, .local))
    (nn : (nsC.map (·.1)).Nodup) (nb : nsC.all (fun p => !(p.1 == ("__debug__" : Str))) = true) (hn : n ≤ 1000)
    (hok : ∀ i acc σ₁ hJ, J i acc σ₁ hJ → ∀ o h₁ C D m vs₁ B', St B' hJ C nsC vs₁ ((I, o) :: (D, lo acc m) :: σ₁) h₁ → (∀ b o, h.get? b = some o → b ∉ (((I, o₀) :: σ).map (·.1)) → B'.get? b = some o) → Tk h hJ → ok h₁)
    (turn : ∀ i acc σ₁ hJ, J i acc σ₁ hJ → ∀ B' C D m o v h₁ k₁, i < n → acc.length = i → val i v → Wd K B₀ B' → (∀ b o, h.get? b = some o → b ∉ (((I, o₀) :: σ).map (·.1)) → B'.get? b = some o) → (∀ b o, B'.get? b = some o → h.get? b = some o) →
      (∀ b o, B'.get? b = some o → hJ.get? b = some o) → (∀ p ∈ σ₁, hJ.get? p.1 = some p.2) → Tk h hJ → St B' hJ C nsC ((nsC.map fun _ => none).set jx (some v)) ((I, o) :: (D, lo acc m) :: σ₁) h₁ →
      ∀ Qt : Value → Heap → Nat → Prop, (∀ w h₂ k₂ vs₂ σ₂, vs₂.length = nsC.length → vs₂.set jx none = (nsC.map fun _ => none).set jx none → St B' hJ C nsC vs₂ ((I, o) :: (D, lo acc m) :: σ₂) h₂ → J (i + 1) (acc ++ [w]) σ₂ h₂ → Qt w h₂ k₂) →
        W V A (eval elt (compEnvC scope cl C env)) Qt h₁ k₁)
    (done : ∀ i ys σ₁ hJ, J i ys σ₁ hJ → i = n → ∀ D m h₁ k₁ C oC, ys.length = n → (∀ b o, h.get? b = some o → b ∉ (((I, o₀) :: σ).map (·.1)) → hJ.get? b = some o) → (∀ p ∈ σ₁, hJ.get? p.1 = some p.2) → Tk h hJ → ¬ TupO oC → St B hJ L ns vs ((C, oC) :: (D, lo ys m) :: σ₁) h₁ →
      ∀ h₂, St B hJ L ns vs ((D, lo ys m) :: σ₁) h₂ → Q (.ref D) h₂ k₁) :
    LcW V A (.ListComp elt [⟨.Name x px, iter, [], 0⟩] scope pos) scope cl env none Q (.ref I) h k :=
  L_lc J T tself hh G S s0 j0 hcell hkind hnC hput nn nb hn (fun i acc σ₁ o h₁ hJ C D m vs₁ B' S u t j => hok i acc σ₁ hJ j o h₁ C D m vs₁ B' S u t) (fun i acc σ₁ hJ B' C D m o v h₁ k₁ hi ha hj hv hG u1 u2 u3 u4 u5 S => turn i acc σ₁ hJ hj B' C D m o v h₁ k₁ hi ha hv hG u1 u2 u3 u4 u5 S _ fun w h₂ k₂ vs₂ σ₂ a b c d => ⟨vs₂, σ₂, a, b, c, d⟩) fun ys σ₁ hJ D m h₁ k₁ C oC e1 e2 e3 e4 e5 e6 e7 => done n ys σ₁ hJ e2 rfl D m h₁ k₁ C oC e1 e3 e4 e5 e6 e7
theorem N_lcS {u : Value → Sem Unit} {jx : Nat} {st : Nat → Obj → Prop} {val : Nat → Value → Prop} {ok : Heap → Prop} {o₀ : Obj} {Q : Value → Heap → Nat → Prop} {n : Nat}
    (J : Nat → List Value → List (Addr × Obj) → Heap → Prop) (T : Itr V n st val ok)
    (tself : ∀ {A : Around} {h : Heap} {k : Nat} {I : Addr} {o : Obj} {Q : Value → Heap → Nat → Prop}, h.get? I = some o → st 0 o → Q (.ref I) h k → W V A (pyIter (.ref I)) Q h k)
    (hh : A.handled = none) (G : Wd K B₀ B) (S : St B P L ns vs ((I, o₀) :: σ) h) (s0 : st 0 o₀) (j0 : J 0 [] σ h)
    (hcell : ∀ y ∈ scope.names, y.2 ≠ .cell) (hkind : scope.kind = .function) (hnC : (relabel scope env).names = nsC) (hput : nsC[jx]? = some (x, .local))
    (nn : (nsC.map (·.1)).Nodup) (nb : nsC.all (fun p => !(p.1 == ("__debug__" : Str))) = true) (hn : n ≤ 1000)
    (hok : ∀ i acc σ₁ hJ, J i acc σ₁ hJ → ∀ o h₁ C D m vs₁ B', St B' hJ C nsC vs₁ ((I, o) :: (D, lo acc m) :: σ₁) h₁ → (∀ b o, h.get? b = some o → b ∉ (((I, o₀) :: σ).map (·.1)) → B'.get? b = some o) → Tk h hJ → ok h₁)
    (turn : ∀ i acc σ₁ hJ, J i acc σ₁ hJ → ∀ B' C D m o v h₁ k₁, i < n → acc.length = i → val i v → Wd K B₀ B' → (∀ b o, h.get? b = some o → b ∉ (((I, o₀) :: σ).map (·.1)) → B'.get? b = some o) → (∀ b o, B'.get? b = some o → h.get? b = some o) →
      (∀ b o, B'.get? b = some o → hJ.get? b = some o) → (∀ p ∈ σ₁, hJ.get? p.1 = some p.2) → Tk h hJ → St B' hJ C nsC ((nsC.map fun _ => none).set jx (some v)) ((I, o) :: (D, lo acc m) :: σ₁) h₁ →
      ∀ Qt : Value → Heap → Nat → Prop, (∀ w h₂ k₂ vs₂ σ₂, vs₂.length = nsC.length → vs₂.set jx none = (nsC.map fun _ => none).set jx none → St B' hJ C nsC vs₂ ((I, o) :: (D, lo acc m) :: σ₂) h₂ → J (i + 1) (acc ++ [w]) σ₂ h₂ → Qt w h₂ k₂) →
        W V A (eval elt (compEnvC scope cl C env)) Qt h₁ k₁)
    (done : ∀ i ys σ₁ hJ, J i ys σ₁ hJ → i = n → ∀ D m h₁ k₁ C oC, ys.length = n → (∀ b o, h.get? b = some o → b ∉ (((I, o₀) :: σ).map (·.1)) → hJ.get? b = some o) → (∀ p ∈ σ₁, hJ.get? p.1 = some p.2) → Tk h hJ → ¬ TupO oC → St B hJ L ns vs ((C, oC) :: (D, lo ys m) :: σ₁) h₁ →
      ∀ Qt : Unit → Heap → Nat → Prop, (∀ x h₂ k₂ vs₂ σ₂, St B hJ L ns vs₂ ((C, oC) :: σ₂) h₂ → (∀ h₃, St B hJ L ns vs₂ σ₂ h₃ → Q .none h₃ k₂) → Qt x h₂ k₂) → W V A (u (.ref D)) Qt h₁ k₁) :
    LcW V A (.ListComp elt [⟨.Name x px, iter, [], 0⟩] scope pos) scope cl env (some u) Q (.ref I) h k :=
  L_lc J T tself hh G S s0 j0 hcell hkind hnC hput nn nb hn (fun i acc σ₁ o h₁ hJ C D m vs₁ B' S u t j => hok i acc σ₁ hJ j o h₁ C D m vs₁ B' S u t) (fun i acc σ₁ hJ B' C D m o v h₁ k₁ hi ha hj hv hG u1 u2 u3 u4 u5 S => turn i acc σ₁ hJ hj B' C D m o v h₁ k₁ hi ha hv hG u1 u2 u3 u4 u5 S _ fun w h₂ k₂ vs₂ σ₂ a b c d => ⟨vs₂, σ₂, a, b, c, d⟩) fun ys σ₁ hJ D m h₁ k₁ C oC e1 e2 e3 e4 e5 e6 e7 => done n ys σ₁ hJ e2 rfl D m h₁ k₁ C oC e1 e3 e4 e5 e6 e7 _ fun _ h₂ k₂ vs₂ σ₂ a b => ⟨vs₂, σ₂, a, b⟩
end
end
section
open PySem PySem.W PyProof.Rows PySem.Calls
set_option hygiene true
section
variable {V : Vw} {K : Frag} {B₀ B P h h' : Heap} {L x C dx : Addr} {ns : List (Str × NameKind)} {vs : List (Option Value)} {σ σ' : List (Addr × Obj)} {M : List Addr} {fs : List (Str × Value)}
theorem Wd.hide (G : Wd K B₀ h) (n : ∀ a ∈ M, B₀.get? a = none) : Wd K (hideAll h M) h := by
  have up : ∀ b o, B₀.get? b = some o → (hideAll h M).get? b = some o := fun b o e => hideAll_get _ (G.up b o e) fun q => by rw [n b q] at e; cases e
  exact ⟨G.inK.keeps up, (by obtain ⟨p, l, mg, mb, t⟩ := G.top; exact ⟨p, l, mg, mb, t.keeps up⟩), fun b o e => of_hideAll _ e⟩
theorem none_hide {a : Addr} (m : a ∈ M) : (hideAll h M).get? a = none := hideAll_none _ m
theorem Inst.hide {es : List DictEntry} {n : Nat} (e1 : h.get? x = some (instObj C dx)) (e2 : h.get? dx = some (dictOf es n)) (en : Ents es fs) (nd : (fs.map (·.1)).Nodup) (n1 : x ∉ M) (n2 : dx ∉ M) : Inst (hideAll h M) x C fs :=
  ⟨⟨dx, es, n, hideAll_get _ e1 n1, hideAll_get _ e2 n2, en⟩, nd⟩
theorem St.reled (S : St B P L ns vs σ h) (x : Chg M h h') (hM : ∀ m ∈ M, m ∈ σ.map (·.1)) (e : σ'.map (·.1) = σ.map (·.1)) (g : ∀ p ∈ σ', h'.get? p.1 = some p.2) : St B P L ns vs σ' h' := by
  have key : ∀ a ∈ σ.map (·.1), a ≠ L ∧ B.get? a = none := fun a ha => by
    obtain ⟨p, hp, rfl⟩ := List.mem_map.mp ha
    exact (S.led p hp).2
  obtain ⟨o1, es, ep, hl1, r⟩ := S.fr
  refine ⟨⟨o1, es, ep, x.same L o1 hl1 (fun q => (key _ (hM _ q)).1 rfl), r⟩, fun b o e => x.same b o (S.base b o e) fun q => ?_, S.above, S.tup.trans x.tup, fun p hp => ⟨g p hp, key p.1 (e ▸ List.mem_map_of_mem hp)⟩, by rw [e]; exact S.nd, S.nn, S.nb⟩
  rw [(key _ (hM _ q)).2] at e; cases e
theorem led_mv (l : ∀ p ∈ σ, h.get? p.1 = some p.2) (l' : ∀ p ∈ σ', h'.get? p.1 = some p.2) (s : ∀ p ∈ σ, p ∈ σ') : ∀ a ∈ σ.map (·.1), ∀ o, h.get? a = some o → h'.get? a = some o := fun a ha o e => by
  obtain ⟨p, hp, rfl⟩ := List.mem_map.mp ha
  have := l p hp
  rw [e] at this; cases this
  exact l' p (s p hp)
theorem St.hs (S : St B P L ns vs σ h) : ∀ p ∈ σ, h.get? p.1 = some p.2 := fun p hp => (S.led p hp).1
theorem Tp.inj {a : Addr} {us ws : List Value} (x : Tp h a us) (y : Tp h a ws) : us = ws := by
  obtain ⟨o, e, c, n, d⟩ := x
  obtain ⟨o', e', c', n', d'⟩ := y
  rw [e] at e'; cases e'
  rw [d] at d'
  injection d' with d' _
  simpa using d'
end
end
section
open PySem PySem.W PyProof.Rows PySem.Calls PySem.SeqAt
set_option hygiene true
theorem any_ints (k : Int) : ∀ {vs : List Value} {ns : List Int}, IntsAre vs ns → vs.any (isInt k) = decide (k ∈ ns)
  | _, _, .nil => rfl
  | _, _, .cons n t r => by
    rw [List.any_cons, any_ints k r]
    by_cases h : n = k
    · subst h; simp [isInt]
    · have h' : ¬ k = n := fun e => h e.symm
      have : (n == k) = false := by simpa using h
      simp [isInt, h', this]
section
variable {V : Vw} {h : Heap} {A : Around} {k n : Nat} {Q : Value → Heap → Nat → Prop} {l : Addr} {xs : List Value} {ns : List Int} {i : Int} {t : Tok}
theorem nin_lst (e : h.get? l = some (lo xs n)) (hi : IntsAre xs ns) (q : Q (.bool (!decide (i ∈ ns))) h k) : W V A (compareOp .NotIn (.int i t) (.ref l)) Q h k := by
  refine notIn_listAt (isInt i) (lo_isl e) (fun y hy => (eq_isInt i t hi y (by simpa using hy)).at _ _) (Pst.mk ?_)
  rw [List.any_toArray, any_ints i hi]; exact q
theorem C_index (e : h.get? l = some (lo xs n)) (hi : IntsAre xs ns) (hm : i ∈ ns) (hsz : ns.length ≤ 100000) (q : ∀ k', Q (.int (ns.idxOf i : Nat) k) h k') : W V A (call (.builtin "list.index") ([.ref l] ++ [.int i t])) Q h k := by
  have hlen := hi.length
  have hj : ns.idxOf i < ns.length := List.idxOf_lt_length_iff.mpr hm
  refine call_meets PySem.F.slot_list_index (lo_isl e).typeIs PySem.F.entry_list_index (PySem.F.args_list_index_2 _ _)
    (list_indexAt l xs.toArray n none #[] (.int i t) (isInt i) (ns.idxOf i) (by simpa [hlen] using hj) (by (clear hlen; omega)) ?_ ?_) ⟨e, fun y hy => (eq_isInt i t hi y (by simpa using hy)).at _ _, Pst.mk (q _)⟩
  · show isInt i xs[ns.idxOf i] = true
    rw [isInt_at i hi _ (by omega) hj]
    simp
  · intro j hjs hlt
    show isInt i xs[j] = false
    rw [isInt_at i hi j (by simpa using hjs) (by (clear hlen; omega))]
    exact ne_of_lt_idxOf hlt _
end
theorem ints_snoc {vs : List Value} {ns : List Int} {i : Int} {t : Tok} (x : IntsAre vs ns) : IntsAre (vs ++ [.int i t]) (ns ++ [i]) := x.append (.cons i t .nil)
end
section
open PySem PySem.W PyProof.Rows PySem.Calls
set_option hygiene true
theorem CellsAre.uncons {cm : Str → Option Value} {x : Str} {xs : List Str} {cl : List (Str × Addr)} {cells : List (Addr × Obj)} (e : cl.map (·.1) = x :: xs) (y : CellsAre cm cl cells) :
    ∃ c o cl' cells', cl = (x, c) :: cl' ∧ cells = (c, o) :: cells' ∧ o.data = .cell (cm x) ∧ cl'.map (·.1) = xs ∧ CellsAre cm cl' cells' := by
  cases y with
  | nil => cases e
  | cons h y =>
    injection e with e1 e2
    subst e1
    exact ⟨_, _, _, _, rfl, rfl, h, e2, y⟩
theorem CellsAre.none {cm : Str → Option Value} {cl : List (Str × Addr)} {cells : List (Addr × Obj)} (e : cl.map (·.1) = []) (y : CellsAre cm cl cells) : cl = [] ∧ cells = [] := by
  cases y with
  | nil => exact ⟨rfl, rfl⟩
  | cons h y => cases e
theorem cells1 {cm : Str → Option Value} {x : Str} {cl : List (Str × Addr)} {cells : List (Addr × Obj)} (e : cl.map (·.1) = [x]) (y : CellsAre cm cl cells) : ∃ c o, cl = [(x, c)] ∧ cells = [(c, o)] ∧ o.data = .cell (cm x) := by
  obtain ⟨c, o, cl, cells, rfl, rfl, h, e, y⟩ := CellsAre.uncons e y
  obtain ⟨rfl, rfl⟩ := CellsAre.none e y
  exact ⟨c, o, rfl, rfl, h⟩
theorem cells4 {cm : Str → Option Value} {x1 x2 x3 x4 : Str} {cl : List (Str × Addr)} {cells : List (Addr × Obj)} (e : cl.map (·.1) = [x1, x2, x3, x4]) (y : CellsAre cm cl cells) :
    ∃ c1 o1 c2 o2 c3 o3 c4 o4, cl = [(x1, c1), (x2, c2), (x3, c3), (x4, c4)] ∧ cells = [(c1, o1), (c2, o2), (c3, o3), (c4, o4)] ∧ o1.data = .cell (cm x1) ∧ o2.data = .cell (cm x2) ∧ o3.data = .cell (cm x3) ∧ o4.data = .cell (cm x4) := by
  obtain ⟨c1, o1, cl, cells, rfl, rfl, h1, e, y⟩ := CellsAre.uncons e y
  obtain ⟨c2, o2, cl, cells, rfl, rfl, h2, e, y⟩ := CellsAre.uncons e y
  obtain ⟨c3, o3, cl, cells, rfl, rfl, h3, e, y⟩ := CellsAre.uncons e y
  obtain ⟨c, o, rfl, rfl, h⟩ := cells1 e y
  exact ⟨c1, o1, c2, o2, c3, o3, c, o, rfl, rfl, h1, h2, h3, h⟩
end
section
open PySem PySem.W PyProof.Rows PySem.Calls
set_option hygiene true
section
variable {V : Vw} {K : Frag} {B₀ B P h h' : Heap} {L x C f l d dx : Addr} {ns : List (Str × NameKind)} {vs vs1 vs2 : List (Option Value)} {σ σ' : List (Addr × Obj)} {A : Around} {k n : Nat} {env : Env} {pos : Pos} {v : Value} {xs : List Value}
noncomputable def NewU (h h' : Heap) (t : Addr) (v : Value) : Prop := t = h.objs.size ∧ h' = h.push { cls := .type "slice", data := .fields #[.none, v, .none] }
theorem E_slice2 {e : Expr} {p : Pos} {Q : Value → Heap → Nat → Prop} (y : W V A (eval e env) (fun v h k => ∀ t h', NewU h h' t v → Q (.ref t) h' k) h k) : W V A (eval (.Slice none (some e) none p) env) Q h k :=
  wpAny_Slice (wpAny_pure (W.gen y fun v h1 k1 q => wpAny_pure (Pst.mk (q _ _ ⟨rfl, rfl⟩))))
theorem N_su {R : Addr → Heap → Prop} (S : St B P L ns vs σ h) (q : ∀ t h', h'.IsSliceOf t .none v .none → St B P L ns vs σ h' → R t h') : ∀ t h', NewU h h' t v → R t h' :=
  fun t h' e => by rw [e.1, e.2]; exact q _ _ (Heap.IsSliceOf.new ..) (S.push _)
theorem I_slice2 {value slice : Expr} {t : Addr} {j : Nat} {tk : Tok} {Q : Value → Heap → Nat → Prop} (e : h.IsList l xs.toArray) (sl : h.IsSliceOf t .none (.int (j : Int) tk) .none) (hsz : xs.length ≤ 1000000)
    (q : ∀ t h', NewL h h' t (xs.take j) → Q (.ref t) h' k)
    (hs : subscripted slice false (.ref l) (.ref t) = operate [.ref t, .ref l] (getItem (.ref l) (.ref t))) : W V A (subscriptTail value slice (.ref l) (.ref t)) Q h k := by
  refine tail_any e.typeIs slot_list_getitem.lookup (wpAny_getItem_list_slice (lo := none) (hi := some (j : Int)) (st := none) e sl .none (.int _ _) .none (by decide) (Pst.mk (q _ _ ⟨rfl, ?_⟩)) (by simp [sizeLine]; omega)) hs
  rw [kms_pick_eq]
  have : kms_pick xs.toArray.toList none (some (j : Int)) = xs.take j := by
    unfold kms_pick kms_lo kms_hi
    dsimp only
    rw [if_neg (by omega)]
    simp only [List.toList_toArray, Int.toNat_natCast, List.drop_zero, Nat.sub_zero]
    rw [List.take_eq_take_iff]
    omega
  rw [this]
theorem CE_enterC {f : Addr} {args : List Value} {Q : Value → Heap → Nat → Prop} {name qual : Str} {params : Arguments} {body : List Stmt} {scope : Scope} {dV kV doc pm cdv ct oc : Value} {an od : Option Addr} {osl : Array (Option Value)} {binds : List (Str × Value)} {vs : List (Option Value)}
    {n : Nat} (G : Wd K B₀ h) (R : Room A (n + 1)) (ho : K.lookup f = some ⟨oc, od, .func (fnOf name qual params body scope dV kV doc pm an cdv ct), osl⟩) (hcd : codeIn K cdv qual = true)
    (σ : List (Addr × Obj)) (hσ : ∀ p ∈ σ, h.get? p.1 = some p.2 ∧ B₀.get? p.1 = none) (nd : (σ.map (·.1)).Nodup)
    (hbind : BindsTo (V.sh h k) (fnOf name qual params body scope dV kV doc pm an cdv ct) ⟨args, []⟩ binds)
    (hkind : ∀ n, ∀ x ∈ binds, scope.names.lookup x.1 = some .local ∨ (scope.names.lookup x.1 = some .cell ∧ ((cellsFrom n scope.names []).lookup x.1).isSome = true))
    (hnd : ((cellsFrom 0 scope.names []).map (·.1)).Nodup)
    (he : bindL (fun y => scope.names.lookup y) binds (fun _ => none) = mp scope.names vs)
    (nn : (scope.names.map (·.1)).Nodup) (nb : scope.names.all (fun p => !(p.1 == ("__debug__" : Str))) = true)
    (x : ∀ A' B L h₁ k₁ cl cells, cl.map (·.1) = (cellsFrom 0 scope.names []).map (·.1) → CellsAre (bindC (fun y => scope.names.lookup y) binds fun _ => none) cl cells → Wd K B₀ B → St B h L scope.names vs (cells ++ σ) h₁ →
      (∀ b o, h.get? b = some o → b ∉ σ.map (·.1) → B.get? b = some o) → (∀ b o, B.get? b = some o → h.get? b = some o) →
      Room A' n → W V A' (execs body (envX qual scope L f cdv cl)) (fun fl => Q (fv fl)) h₁ k₁)
    (hco : scope.isCoroutine = false) (hgen : scope.isGenerator = false) (hk : scope.kind = .function) :
    codeAny V.M A (.call (.ref f) ⟨args, []⟩) (fun r s' => match r with | .ok (.ret v) => Pst V Q v s' | _ => False) (V.sh h k) := by
  refine codeAny_call_function (fd := fnOf name qual params body scope dV kV doc pm an cdv ct) R.depth (G.k _ _ ho) rfl hco hgen rfl (codeRec_of G.k hcd) (hbind _ _ _ _ ?_)
  refine wpAny_newFunctionEnv_cells hk (hkind _) fun env' he' s' z => ?_
  subst he'
  refine ⟨G.nolimit.keeps z.toInCall.keep, codeAny_func ?_⟩
  obtain ⟨h₁, tk, rfl, _⟩ := z.done
  have hk₁ := z.toInCall.keep
  obtain ⟨cells, NC, Y⟩ := Cl.news (h₀ := h) (Nat.le_refl _) fun n c hm => ⟨z.cell n c (lookup_of_mem_nodup (cellsFrom_names scope.names 0 (h.objs.size + 1) [] [] rfl ▸ hnd) hm), z.above n c hm⟩
  have hns' : h₁.Ns h.objs.size (mp scope.names vs) := he ▸ z.toInCall.ns
  have S := St.enter nd (fun p hp => (hσ p hp).1) hns' hk₁ nn nb
  have hcl : (cells.map (·.1)).Nodup := by
    rw [CellsAre.map Y]
    exact List.pairwise_map.mpr (z.apart.imp fun h => h)
  have S' : St (hideAll h (σ.map (·.1))) h h.objs.size scope.names vs (cells ++ σ) h₁ := by
    refine ⟨S.fr, S.base, S.above, S.tup, fun p hp => ?_, ?_, nn, nb⟩
    · rcases List.mem_append.mp hp with hp | hp
      · refine ⟨(NC p hp).1, (NC p hp).2.1, ?_⟩
        cases q : (hideAll h (σ.map (·.1))).get? p.1 with
        | none => rfl
        | some o => have := of_hideAll _ q; rw [(NC p hp).2.2] at this; cases this
      · exact S.led p hp
    · rw [List.map_append]
      refine List.nodup_append.mpr ⟨hcl, nd, fun a ha b hb e => ?_⟩
      obtain ⟨p, hp, rfl⟩ := List.mem_map.mp ha
      obtain ⟨q, hq, rfl⟩ := List.mem_map.mp hb
      have h1 := (NC p hp).2.2
      rw [e, (hσ q hq).1] at h1; cases h1
  have hB : ∀ b o, h.get? b = some o → b ∉ σ.map (·.1) → (hideAll h (σ.map (·.1))).get? b = some o := fun b o e n => hideAll_get _ e n
  have G' : Wd K B₀ (hideAll h (σ.map (·.1))) := ⟨G.inK, G.top, fun b o e => hB b o (G.up b o e) fun q => by
    obtain ⟨p, hp, rfl⟩ := List.mem_map.mp q
    rw [(hσ p hp).2] at e; cases e⟩
  exact wpAny_mono (x _ _ _ h₁ _ _ cells (cellsFrom_names scope.names _ _ [] [] rfl) Y G' S' hB (fun b o e => of_hideAll _ e) R.deeper) (fun fl s' q => by cases fl <;> exact q) fun _ _ e => e.elim
end
section
variable {B P P' h h' : Heap} {L : Addr} {ns : List (Str × NameKind)} {vs vs' : List (Option Value)} {σ σ' : List (Addr × Obj)}
theorem St.addNews (S : St B P L ns vs σ h) (S' : St B P' L ns vs' σ' h') (e : σ'.map (·.1) = σ.map (·.1)) : ∀ (news : List (Addr × Obj)), (news.map (·.1)).Nodup → (∀ p ∈ news, h.get? p.1 = none ∧ h'.get? p.1 = some p.2) → St B P' L ns vs' (news ++ σ') h'
  | [], _, _ => S'
  | p :: r, nd, g => by
    rw [List.map_cons, List.nodup_cons] at nd
    have S1 := St.addNews S S' e r nd.2 fun q hq => g q (.tail _ hq)
    obtain ⟨n, g1⟩ := g p (.head _)
    refine S1.add g1 (fun q => ?_) ?_ fun q => ?_
    · obtain ⟨o1, _, _, hl, _⟩ := S.fr
      rw [← q, n] at hl; cases hl
    · cases q : B.get? p.1 with
      | none => rfl
      | some o1 => rw [S.base _ _ q] at n; cases n
    · rw [List.map_append] at q
      rcases List.mem_append.mp q with q | q
      · exact nd.1 q
      · rw [e] at q
        obtain ⟨p', hp, r'⟩ := List.mem_map.mp q
        have := (S.led p' hp).1
        rw [r', n] at this; cases this
theorem St.reorder (S : St B P L ns vs σ h) (is : List Nat) (hp : is.Perm (List.range σ.length)) : St B P L ns vs (is.map fun i => (σ[i]?).getD (0, lo [] 0)) h := by
  have e : (List.range σ.length).map (fun i => (σ[i]?).getD (0, lo [] 0)) = σ := by
    apply List.ext_getElem
    · simp
    · intro i h1 h2
      simp at h1
      simp [h1]
  have hp' : (is.map fun i => (σ[i]?).getD (0, lo [] 0)).Perm σ := by
    have := hp.map (fun i => (σ[i]?).getD (0, lo [] 0))
    rwa [e] at this
  exact ⟨S.fr, S.base, S.above, S.tup, fun p h1 => S.led p (hp'.mem_iff.mp h1), (hp'.map _).nodup_iff.mpr S.nd, S.nn, S.nb⟩
end
end
section
open PySem PySem.W PyProof.Rows PySem.Calls
set_option hygiene false
noncomputable abbrev cellsF (sy hp st tr : Addr) (t1 t2 t3 : Tok) : List (Str × Value) := [("symbols", .ref sy), ("max_heap", .int 100000 t1), ("heap", .ref hp), ("stack", .ref st), ("trail", .ref tr), ("hb", .int 0 t2), ("bb", .int 0 t3)]
noncomputable abbrev symF (tx an fl fn : Addr) : List (Str × Value) := [("texts", .ref tx), ("atom_numbers", .ref an), ("functors", .ref fl), ("functor_numbers", .ref fn)]
section
variable {P : Params}
theorem pg380 : plainGet (hd.heap_39 P) 380 "x" = true := by k_is
theorem pg154 : plainGet (hd.heap_39 P) 154 "x" = true := by k_is
theorem pg406 : plainGet (hd.heap_39 P) 406 "x" = true := by k_is
theorem hd380 : hasDictIn (hd.heap_39 P) 380 = true := by k_is
theorem hd154 : hasDictIn (hd.heap_39 P) 154 = true := by k_is
theorem hd406 : hasDictIn (hd.heap_39 P) 406 = true := by k_is
theorem fld_symbols : Fld (hd.heap_39 P) 380 "symbols" := ⟨pg380, hd380, none, by k_is, by rfl⟩
theorem fld_max_heap : Fld (hd.heap_39 P) 380 "max_heap" := ⟨pg380, hd380, none, by k_is, by rfl⟩
theorem fld_heap : Fld (hd.heap_39 P) 380 "heap" := ⟨pg380, hd380, none, by k_is, by rfl⟩
theorem fld_trail : Fld (hd.heap_39 P) 380 "trail" := ⟨pg380, hd380, none, by k_is, by rfl⟩
theorem fld_hb : Fld (hd.heap_39 P) 380 "hb" := ⟨pg380, hd380, none, by k_is, by rfl⟩
theorem fld_texts : Fld (hd.heap_39 P) 154 "texts" := ⟨pg154, hd154, none, by k_is, by rfl⟩
theorem fld_atom_numbers : Fld (hd.heap_39 P) 154 "atom_numbers" := ⟨pg154, hd154, none, by k_is, by rfl⟩
theorem fld_functors : Fld (hd.heap_39 P) 154 "functors" := ⟨pg154, hd154, none, by k_is, by rfl⟩
theorem fld_functor_numbers : Fld (hd.heap_39 P) 154 "functor_numbers" := ⟨pg154, hd154, none, by k_is, by rfl⟩
theorem fld_span : Fld (hd.heap_39 P) 406 "span" := ⟨pg406, hd406, none, by k_is, by rfl⟩
theorem fld_met : Fld (hd.heap_39 P) 406 "met" := ⟨pg406, hd406, none, by k_is, by rfl⟩
theorem mth_push : Mth (hd.heap_39 P) 380 "push" 201 := ⟨pg380, by k_is, by k_is⟩
theorem mth_new_var : Mth (hd.heap_39 P) 380 "new_var" 208 := ⟨pg380, by k_is, by k_is⟩
theorem mth_reserve : Mth (hd.heap_39 P) 380 "reserve" 215 := ⟨pg380, by k_is, by k_is⟩
theorem mth_deref : Mth (hd.heap_39 P) 380 "deref" 229 := ⟨pg380, by k_is, by k_is⟩
theorem mth_bind : Mth (hd.heap_39 P) 380 "bind" 243 := ⟨pg380, by k_is, by k_is⟩
theorem mth_globalise : Mth (hd.heap_39 P) 380 "globalise" 257 := ⟨pg380, by k_is, by k_is⟩
theorem mth_is_compound : Mth (hd.heap_39 P) 380 "is_compound" 285 := ⟨pg380, by k_is, by k_is⟩
theorem mth_functor_of : Mth (hd.heap_39 P) 380 "functor_of" 292 := ⟨pg380, by k_is, by k_is⟩
theorem mth_width : Mth (hd.heap_39 P) 380 "width" 299 := ⟨pg380, by k_is, by k_is⟩
theorem mth_base : Mth (hd.heap_39 P) 380 "base" 306 := ⟨pg380, by k_is, by k_is⟩
theorem mth_new_block : Mth (hd.heap_39 P) 380 "new_block" 320 := ⟨pg380, by k_is, by k_is⟩
theorem mth_put_term : Mth (hd.heap_39 P) 380 "put_term" 363 := ⟨pg380, by k_is, by k_is⟩
theorem mth_whole_size : Mth (hd.heap_39 P) 380 "whole_size" 370 := ⟨pg380, by k_is, by k_is⟩
theorem mth_take_term : Mth (hd.heap_39 P) 380 "take_term" 377 := ⟨pg380, by k_is, by k_is⟩
theorem mth_atom : Mth (hd.heap_39 P) 154 "atom" 88 := ⟨pg154, by k_is, by k_is⟩
theorem mth_functor : Mth (hd.heap_39 P) 154 "functor" 102 := ⟨pg154, by k_is, by k_is⟩
theorem mth_func : Mth (hd.heap_39 P) 154 "func" 109 := ⟨pg154, by k_is, by k_is⟩
theorem mth_arity : Mth (hd.heap_39 P) 154 "arity" 123 := ⟨pg154, by k_is, by k_is⟩
theorem mth_add : Mth (hd.heap_39 P) 406 "add" 403 := ⟨pg406, by k_is, by k_is⟩
end
inductive StoC (B₀ : Heap) (c sy hp : Addr) : Prop
  | mk (st tr : Addr) (t1 t2 t3 : Tok) (C : Inst B₀ c 380 (cellsF sy hp st tr t1 t2 t3))
inductive PrL (h : Heap) (a : Addr) (H : List (Int × Int)) : Prop
  | mk (hs : List Value) (n : Nat) (e : h.get? a = some (lo hs n)) (p : PairsAt h hs H)
structure Sto (B₀ h : Heap) (c sy hp fl : Addr) (H F : List (Int × Int)) : Prop where
  C : StoC B₀ c sy hp
  Y : ∃ tx an fn, Inst B₀ sy 154 (symF tx an fl fn)
  hh : PrL h hp H
  ff : PrL h fl F
  sz : H.length ≤ 100000
theorem Sto.chg {B₀ h h' : Heap} {c sy hp fl : Addr} {H F : List (Int × Int)} {M : List Addr} (Z : Sto B₀ h c sy hp fl H F) (x : Chg M h h') (n1 : hp ∉ M) (n2 : fl ∉ M) : Sto B₀ h' c sy hp fl H F :=
  ⟨Z.C, Z.Y, (by obtain ⟨hs, n, e, p⟩ := Z.hh; exact ⟨hs, n, x.same _ _ e n1, p.tk x.tup⟩), (by obtain ⟨hs, n, e, p⟩ := Z.ff; exact ⟨hs, n, x.same _ _ e n2, p.tk x.tup⟩), Z.sz⟩
theorem Sto.chg0 {B₀ h h' : Heap} {c sy hp fl : Addr} {H F : List (Int × Int)} (Z : Sto B₀ h c sy hp fl H F) (x : Chg [] h h') : Sto B₀ h' c sy hp fl H F := Z.chg x List.not_mem_nil List.not_mem_nil
theorem cells_nd {sy hp st tr : Addr} {t1 t2 t3 : Tok} : ((cellsF sy hp st tr t1 t2 t3).map (·.1)).Nodup := by simp; decide
theorem sym_nd {tx an fl fn : Addr} : ((symF tx an fl fn).map (·.1)).Nodup := by simp; decide
theorem ps_nd {v w : Value} : (([("span", v), ("met", w)] : List (Str × Value)).map (·.1)).Nodup := by simp; decide
end
section
open PySem PySem.W PyProof.Rows PySem.Calls
set_option hygiene false
section
variable {V : Vw} {B₀ h : Heap} {A : Around} {k : Nat} {Q : Value → Heap → Nat → Prop} {c x sy hp fl : Addr} {tag i : Int} {t u : Tok} {n : Nat} {H F : List (Int × Int)}
theorem is_variable_ (G : Wd (hd.heap_39 V.w.params) B₀ h) (R : Room A (n + 1)) (T : Tp h x [.int tag t, .int i u])
    (q : ∀ h' k', Chg [] h h' → Q (.bool (tag == 0 || tag == 1)) h' k') : W V A (call (.ref 431) ([] ++ [.ref x])) Q h k := by
  refine' W_enter0 (binds := [("cell", .ref x)]) G R ?ho ?hcd ?hb ?he ?nn ?nb ?_ ?hcell ?hco ?hgen ?hk
  case ho => k_is
  case hcd => k_is
  case hb => exact BindsTo.of_eq rfl
  case he => repeat constructor
  case nn => decide
  case nb => decide
  case hcell => decide
  case hco => rfl
  case hgen => rfl
  case hk => rfl
  intro A L h1 k1 S R
  dsimp only at S
  with_reducible refine X_ret ?_
  with_reducible refine E_or ?_
  with_reducible refine E_cmp ?_
  with_reducible refine' E_tI (by assumption) ?c1 ?c2 ?_ ?c4
  case c1 => exact .hd
  case c2 => assumption
  case c4 => rfl
  with_reducible refine' E_glo (by assumption) (by assumption) ?c2 ?c3 ?_
  case c2 => exact .tl .hd
  case c3 => k_is
  with_reducible refine i_eq ?_
  with_reducible refine truthy_b ?_
  refine ⟨fun e => ?_ , fun e => ?_⟩
  · have := fun k => q _ k S.back0
    simpa [e, fv] using this _
  with_reducible refine E_cmp ?_
  with_reducible refine' E_tI (by assumption) ?c1 ?c2 ?_ ?c4
  case c1 => exact .hd
  case c2 => assumption
  case c4 => rfl
  with_reducible refine' E_glo (by assumption) (by assumption) ?c2 ?c3 ?_
  case c2 => exact .tl (.tl .hd)
  case c3 => k_is
  with_reducible refine i_eq ?_
  have := fun k => q _ k S.back0
  simpa [e, fv] using this _
theorem variable_number_ (G : Wd (hd.heap_39 V.w.params) B₀ h) (R : Room A (n + 1)) (T : Tp h x [.int 0 t, .int i u])
    (q : ∀ h' k', Chg [] h h' → Q (.int i u) h' k') : W V A (call (.ref 438) ([] ++ [.ref x])) Q h k := by
  refine' W_enter0 (binds := [("cell", .ref x)]) G R ?ho ?hcd ?hb ?he ?nn ?nb ?_ ?hcell ?hco ?hgen ?hk
  case ho => k_is
  case hcd => k_is
  case hb => exact BindsTo.of_eq rfl
  case he => repeat constructor
  case nn => decide
  case nb => decide
  case hcell => decide
  case hco => rfl
  case hgen => rfl
  case hk => rfl
  intro A L h1 k1 S R
  dsimp only at S
  with_reducible refine X_ifc ?_
  with_reducible refine' E_tI (by assumption) ?c1 ?c2 ?_ ?c4
  case c1 => exact .hd
  case c2 => assumption
  case c4 => rfl
  with_reducible refine' E_glo (by assumption) (by assumption) ?c2 ?c3 ?_
  case c2 => exact .tl .hd
  case c3 => k_is
  with_reducible refine q_ie ?_
  refine ⟨fun e => ?_ , fun e => by simp at e⟩
  with_reducible refine X_ret ?_
  with_reducible refine' E_tI (by assumption) ?c1 ?c2 ?_ ?c4
  case c1 => exact .hd
  case c2 => assumption
  case c4 => rfl
  with_reducible refine Nx_ret ?_
  exact q _ _ S.back0
noncomputable def blk (p : Int × Int) : Int := if p.1 = 3 then p.2 else p.2 + 1
theorem base_ {p : Int × Int} (G : Wd (hd.heap_39 V.w.params) B₀ h) (R : Room A (n + 1)) (T : Tp h x [.int p.1 t, .int p.2 u])
    (q : ∀ h' k' t', Chg [] h h' → Q (.int (blk p) t') h' k') : W V A (call (.ref 306) ([.ref c] ++ [.ref x])) Q h k := by
  refine' W_enter0 (binds := [("self", .ref c), ("cell", .ref x)]) G R ?ho ?hcd ?hb ?he ?nn ?nb ?_ ?hcell ?hco ?hgen ?hk
  case ho => k_is
  case hcd => k_is
  case hb => exact BindsTo.of_eq rfl
  case he => repeat constructor
  case nn => decide
  case nb => decide
  case hcell => decide
  case hco => rfl
  case hgen => rfl
  case hk => rfl
  intro A L h1 k1 S R
  dsimp only at S
  with_reducible refine X_ifc ?_
  with_reducible refine' E_tI (by assumption) ?c1 ?c2 ?_ ?c4
  case c1 => exact .h1
  case c2 => assumption
  case c4 => rfl
  with_reducible refine' E_glo (by assumption) (by assumption) ?c2 ?c3 ?_
  case c2 => exact .tl (.tl .hd)
  case c3 => k_is
  with_reducible refine q_ie ?_
  unfold blk at q
  refine ⟨fun e => ?_ , fun e => ?_⟩
  · with_reducible refine X_ret ?_
    with_reducible refine' E_tI (by assumption) ?c1 ?c2 ?_ ?c4
    case c1 => exact .h1
    case c2 => assumption
    case c4 => rfl
    with_reducible refine Nx_ret ?_
    have := fun k t => q _ k t S.back0
    rw [if_pos (by simpa using e)] at this
    exact this _ _
  · with_reducible refine X_nn ?_
    with_reducible refine X_ret ?_
    with_reducible refine E_bin ?_
    with_reducible refine' E_tI (by assumption) ?c1 ?c2 ?_ ?c4
    case c1 => exact .h1
    case c2 => assumption
    case c4 => rfl
    with_reducible refine E_int ?_
    with_reducible refine i_add ?_
    have := fun k t => q _ k t S.back0
    rw [if_neg (by simpa using e)] at this
    exact this _ _
theorem is_compound_ (G : Wd (hd.heap_39 V.w.params) B₀ h) (R : Room A (n + 1)) (T : Tp h x [.int tag t, .int i u])
    (q : ∀ h' k', Chg [] h h' → Q (.bool (tag == 2 || tag == 3)) h' k') : W V A (call (.ref 285) ([.ref c] ++ [.ref x])) Q h k := by
  refine' W_enter0 (binds := [("self", .ref c), ("cell", .ref x)]) G R ?ho ?hcd ?hb ?he ?nn ?nb ?_ ?hcell ?hco ?hgen ?hk
  case ho => k_is
  case hcd => k_is
  case hb => exact BindsTo.of_eq rfl
  case he => repeat constructor
  case nn => decide
  case nb => decide
  case hcell => decide
  case hco => rfl
  case hgen => rfl
  case hk => rfl
  intro A L h1 k1 S R
  dsimp only at S
  with_reducible refine X_ret ?_
  with_reducible refine E_or ?_
  with_reducible refine E_cmp ?_
  with_reducible refine' E_tI (by assumption) ?c1 ?c2 ?_ ?c4
  case c1 => exact .h1
  case c2 => assumption
  case c4 => rfl
  with_reducible refine' E_glo (by assumption) (by assumption) ?c2 ?c3 ?_
  case c2 => exact .tl (.tl .hd)
  case c3 => k_is
  with_reducible refine i_eq ?_
  with_reducible refine truthy_b ?_
  refine ⟨fun e => ?_ , fun e => ?_⟩
  · have := fun k => q _ k S.back0
    simpa [e, fv] using this _
  with_reducible refine E_cmp ?_
  with_reducible refine' E_tI (by assumption) ?c1 ?c2 ?_ ?c4
  case c1 => exact .h1
  case c2 => assumption
  case c4 => rfl
  with_reducible refine' E_glo (by assumption) (by assumption) ?c2 ?c3 ?_
  case c2 => exact .tl (.tl (.tl .hd))
  case c3 => k_is
  with_reducible refine i_eq ?_
  have := fun k => q _ k S.back0
  simpa [e, fv] using this _
end
end
section
open PySem PySem.W PyProof.Rows PySem.Calls
set_option hygiene false
section
variable {V : Vw} {B₀ h : Heap} {A : Around} {k : Nat} {Q : Value → Heap → Nat → Prop} {c x sy hp fl : Addr} {tag i : Int} {t u : Tok} {n : Nat} {H F : List (Int × Int)}
theorem arity_ {tx an fn : Addr} {fs : List Value} {m : Nat} {f a w : Int} (G : Wd (hd.heap_39 V.w.params) B₀ h) (R : Room A (n + 1)) (Y : Inst B₀ sy 154 (symF tx an fl fn)) (ef : h.get? fl = some (lo fs m)) (pf : PairsAt h fs F)
    (hf : F[f.toNat]? = some (a, w)) (f0 : 0 ≤ f) (f1 : f < 2 ^ 63) (q : ∀ h' k' t', Chg [] h h' → Q (.int w t') h' k') : W V A (call (.ref 123) ([.ref sy] ++ [.int f t])) Q h k := by
  refine' W_enter0 (binds := [("self", .ref sy), ("functor", .int f t)]) G R ?ho ?hcd ?hb ?he ?nn ?nb ?_ ?hcell ?hco ?hgen ?hk
  case ho => k_is
  case hcd => k_is
  case hb => exact BindsTo.of_eq rfl
  case he => repeat constructor
  case nn => decide
  case nb => decide
  case hcell => decide
  case hco => rfl
  case hgen => rfl
  case hk => rfl
  intro A L h1 k1 S R
  dsimp only at S
  obtain ⟨a', t1, u1, hx, tp⟩ := pf.get hf
  with_reducible refine X_ret ?_
  with_reducible refine E_sub ?_
  with_reducible refine E_sub ?_
  with_reducible refine' E_at (by assumption) (by assumption) ?c2 ?c3 ?c4 ?c5 ?_ ?c7
  case c2 => exact .hd
  case c3 => assumption
  case c4 => exact .tl (.tl .hd)
  case c5 => exact fld_functors
  case c7 => rfl
  with_reducible refine' E_loc (by assumption) ?c1 ?_
  case c1 => exact .h1
  refine' I_lst ?e ?_ ?hx ?h0 ?hh ?hs
  case e => exact St.base (by assumption) _ _ (by assumption)
  case hx => assumption
  case h0 => assumption
  case hh => assumption
  case hs => with_unfolding_all rfl
  with_reducible refine E_int ?_
  with_reducible refine' I_tupP (by assumption) (by assumption) ?_ ?c3
  case c3 => rfl
  exact q _ _ _ S.back0
noncomputable def HeadOk (H F : List (Int × Int)) (tag i f w : Int) : Prop := (tag = 3 ∧ f = 0 ∧ w = 2) ∨ (tag = 2 ∧ 0 ≤ i ∧ i < 2 ^ 62 ∧ 0 ≤ f ∧ f < 2 ^ 62 ∧ H[i.toNat]? = some (6, f) ∧ ∃ a, F[f.toNat]? = some (a, w))
theorem width_ {f w : Int} (G : Wd (hd.heap_39 V.w.params) B₀ h) (R : Room A (n + 2)) (Z : Sto B₀ h c sy hp fl H F) (T : Tp h x [.int tag t, .int i u]) (O : HeadOk H F tag i f w)
    (q : ∀ h' k' t', Chg [] h h' → Q (.int w t') h' k') : W V A (call (.ref 299) ([.ref c] ++ [.ref x])) Q h k := by
  refine' W_enter0 (binds := [("self", .ref c), ("cell", .ref x)]) G R ?ho ?hcd ?hb ?he ?nn ?nb ?_ ?hcell ?hco ?hgen ?hk
  case ho => k_is
  case hcd => k_is
  case hb => exact BindsTo.of_eq rfl
  case he => repeat constructor
  case nn => decide
  case nb => decide
  case hcell => decide
  case hco => rfl
  case hgen => rfl
  case hk => rfl
  intro A L h1 k1 S R
  dsimp only at S
  obtain ⟨st, tr, t1, t2, t3, C⟩ := Z.C
  obtain ⟨tx, an, fn, Y⟩ := Z.Y
  obtain ⟨hs, m, eh, ph⟩ := Z.hh
  obtain ⟨fs, m', ef, pf⟩ := Z.ff
  with_reducible refine X_name ?_
  with_reducible refine' E_tI (by assumption) ?c1 ?c2 ?_ ?c4
  case c1 => exact .h1
  case c2 => assumption
  case c4 => rfl
  with_reducible refine' N_st (by assumption) ?c1 ?_
  case c1 => exact .h2
  intro h1 S
  with_reducible refine X_ifc ?_
  with_reducible refine' E_loc (by assumption) ?c1 ?_
  case c1 => exact .h2
  with_reducible refine' E_glo (by assumption) (by assumption) ?c2 ?c3 ?_
  case c2 => exact .tl (.tl (.tl .hd))
  case c3 => k_is
  with_reducible refine q_ie ?_
  rcases O with ⟨rfl, rfl, rfl⟩ | ⟨rfl, i0, i1, f0, f1, hi, a, hf⟩
  · refine ⟨fun e => ?_, fun e => by simp at e⟩
    with_reducible refine X_ret ?_
    with_reducible refine E_int ?_
    with_reducible refine Nx_ret ?_
    exact q _ _ _ S.back0
  · refine ⟨fun e => by simp at e, fun _ => ?_⟩
    with_reducible refine X_nn ?_
    with_reducible refine X_ifc ?_
    with_reducible refine' E_loc (by assumption) ?c1 ?_
    case c1 => exact .h2
    with_reducible refine' E_glo (by assumption) (by assumption) ?c2 ?c3 ?_
    case c2 => exact .tl (.tl (.tl (.tl .hd)))
    case c3 => k_is
    with_reducible refine q_ie ?_
    refine ⟨fun _ => ?_, fun e => by simp at e⟩
    with_reducible refine X_ret ?_
    with_reducible refine E_meth ?_
    with_reducible refine' E_at (by assumption) (by assumption) ?c2 ?c3 ?c4 ?c5 ?_ ?c7
    case c2 => exact .hd
    case c3 => assumption
    case c4 => exact .hd
    case c5 => exact fld_symbols
    case c7 => rfl
    with_reducible refine' MC_def (by assumption) (by assumption) (by assumption) ?c3 ?_ ?c5
    case c3 => exact mth_arity
    case c5 => rfl
    with_reducible refine' CC_ref (by assumption) (by assumption) ?c2 ?_
    case c2 => k_is
    with_reducible refine S_cons ?_
    with_reducible refine E_sub ?_
    with_reducible refine E_sub ?_
    with_reducible refine' E_at (by assumption) (by assumption) ?c2 ?c3 ?c4 ?c5 ?_ ?c7
    case c2 => exact .hd
    case c3 => assumption
    case c4 => exact .tl (.tl .hd)
    case c5 => exact fld_heap
    case c7 => rfl
    with_reducible refine' E_tI (by assumption) ?c1 ?c2 ?_ ?c4
    case c1 => exact .h1
    case c2 => assumption
    case c4 => rfl
    obtain ⟨a', t4, u4, hx, tp⟩ := ph.get hi
    refine' I_lst ?e ?_ ?hx ?h0 ?hh ?hs
    case e => exact St.base (by assumption) _ _ (by assumption)
    case hx => assumption
    case h0 => assumption
    case hh => (clear i0; omega)
    case hs => with_unfolding_all rfl
    with_reducible refine E_int ?_
    with_reducible refine' I_tupP (by assumption) (by assumption) ?_ ?c3
    case c3 => rfl
    with_reducible refine S_nil ?_
    with_reducible refine' Krf_go (by assumption) (by assumption) ?_
    refine arity_ (G.st S) R Y (S.base _ _ ef) (pf.tk S.tup) hf f0 (by (clear f0; omega)) fun h' k' t' x => ?_
    exact q _ _ _ ((S.back0).trans x)
theorem functor_of_ {f w : Int} (G : Wd (hd.heap_39 V.w.params) B₀ h) (R : Room A (n + 1)) (Z : Sto B₀ h c sy hp fl H F) (T : Tp h x [.int tag t, .int i u]) (O : HeadOk H F tag i f w)
    (q : ∀ h' k' t', Chg [] h h' → Q (.int f t') h' k') : W V A (call (.ref 292) ([.ref c] ++ [.ref x])) Q h k := by
  refine' W_enter0 (binds := [("self", .ref c), ("cell", .ref x)]) G R ?ho ?hcd ?hb ?he ?nn ?nb ?_ ?hcell ?hco ?hgen ?hk
  case ho => k_is
  case hcd => k_is
  case hb => exact BindsTo.of_eq rfl
  case he => repeat constructor
  case nn => decide
  case nb => decide
  case hcell => decide
  case hco => rfl
  case hgen => rfl
  case hk => rfl
  intro A L h1 k1 S R
  dsimp only at S
  obtain ⟨st, tr, t1, t2, t3, C⟩ := Z.C
  obtain ⟨hs, m, eh, ph⟩ := Z.hh
  with_reducible refine X_name ?_
  with_reducible refine' E_tI (by assumption) ?c1 ?c2 ?_ ?c4
  case c1 => exact .h1
  case c2 => assumption
  case c4 => rfl
  with_reducible refine' N_st (by assumption) ?c1 ?_
  case c1 => exact .h2
  intro h1 S
  with_reducible refine X_ifc ?_
  with_reducible refine' E_loc (by assumption) ?c1 ?_
  case c1 => exact .h2
  with_reducible refine' E_glo (by assumption) (by assumption) ?c2 ?c3 ?_
  case c2 => exact .tl (.tl (.tl .hd))
  case c3 => k_is
  with_reducible refine q_ie ?_
  rcases O with ⟨rfl, rfl, rfl⟩ | ⟨rfl, i0, i1, f0, f1, hi, a, hf⟩
  · refine ⟨fun e => by simp at e, fun e => ?_⟩
    with_reducible refine X_nn ?_
    with_reducible refine X_ifc ?_
    with_reducible refine' E_loc (by assumption) ?c1 ?_
    case c1 => exact .h2
    with_reducible refine' E_glo (by assumption) (by assumption) ?c2 ?c3 ?_
    case c2 => exact .tl (.tl (.tl (.tl .hd)))
    case c3 => k_is
    with_reducible refine q_ie ?_
    refine ⟨fun _ => ?_, fun e => by simp at e⟩
    with_reducible refine X_ret ?_
    with_reducible refine' E_glo (by assumption) (by assumption) ?c2 ?c3 ?_
    case c2 => exact .tl (.tl (.tl (.tl (.tl .hd))))
    case c3 => k_is
    with_reducible refine Nx_ret ?_
    exact q _ _ _ S.back0
  · refine ⟨fun e => ?_, fun e => by simp at e⟩
    with_reducible refine X_ret ?_
    with_reducible refine E_sub ?_
    with_reducible refine E_sub ?_
    with_reducible refine' E_at (by assumption) (by assumption) ?c2 ?c3 ?c4 ?c5 ?_ ?c7
    case c2 => exact .hd
    case c3 => assumption
    case c4 => exact .tl (.tl .hd)
    case c5 => exact fld_heap
    case c7 => rfl
    with_reducible refine' E_tI (by assumption) ?c1 ?c2 ?_ ?c4
    case c1 => exact .h1
    case c2 => assumption
    case c4 => rfl
    obtain ⟨a', t4, u4, hx, tp⟩ := ph.get hi
    refine' I_lst ?e ?_ ?hx ?h0 ?hh ?hs
    case e => exact St.base (by assumption) _ _ (by assumption)
    case hx => assumption
    case h0 => assumption
    case hh => omega
    case hs => with_unfolding_all rfl
    with_reducible refine E_int ?_
    with_reducible refine' I_tupP (by assumption) (by assumption) ?_ ?c3
    case c3 => rfl
    with_reducible refine Nx_ret ?_
    exact q _ _ _ S.back0
end
end
section
open PySem PySem.W PyProof.Rows PySem.Calls
set_option hygiene false
inductive Der (H : List (Int × Int)) : Nat → Int × Int → Int × Int → Prop
  | con {p : Int × Int} : p.1 ≠ 0 → p.1 ≠ 1 → Der H 0 p p
  | self {i : Int} : 0 ≤ i → i < 2 ^ 62 → H[i.toNat]? = some (0, i) → Der H 0 (0, i) (0, i)
  | step {i : Int} {q r : Int × Int} {n : Nat} : 0 ≤ i → i < 2 ^ 62 → H[i.toNat]? = some q → q ≠ (0, i) → Der H n q r → Der H (n + 1) (0, i) r
section
variable {V : Vw} {B₀ h : Heap} {A : Around} {k : Nat} {Q : Value → Heap → Nat → Prop} {c x sy hp fl : Addr} {tag i : Int} {t u : Tok} {n : Nat} {H F : List (Int × Int)}
inductive JDe (H : List (Int × Int)) (h0 : Heap) (c : Addr) (r : Int × Int) : Nat → List (Option Value) → List (Addr × Obj) → Heap → Prop
  | mk {a : Addr} {w1 w2 : Option Value} {p : Int × Int} {t u : Tok} {m : Nat} {h : Heap} (T : Tp h0 a [.int p.1 t, .int p.2 u]) (D : Der H m p r) : JDe H h0 c r m [some (.ref c), some (.ref a), w1, w2] [] h
theorem deref_ {p r : Int × Int} {m : Nat} (G : Wd (hd.heap_39 V.w.params) B₀ h) (R : Room A (n + 2)) (Z : Sto B₀ h c sy hp fl H F) (T : Tp h x [.int p.1 t, .int p.2 u]) (D : Der H m p r)
    (q : ∀ h' k' a t' u', Chg [] h h' → Tp h a [.int r.1 t', .int r.2 u'] → Q (.ref a) h' k') : W V A (call (.ref 229) ([.ref c] ++ [.ref x])) Q h k := by
  refine' W_enter0 (binds := [("self", .ref c), ("cell", .ref x)]) G R ?ho ?hcd ?hb ?he ?nn ?nb ?_ ?hcell ?hco ?hgen ?hk
  case ho => k_is
  case hcd => k_is
  case hb => exact BindsTo.of_eq rfl
  case he => repeat constructor
  case nn => decide
  case nb => decide
  case hcell => decide
  case hco => rfl
  case hgen => rfl
  case hk => rfl
  intro A L h1 k1 S R
  dsimp only at S
  obtain ⟨st, tr, t1, t2, t3, C⟩ := Z.C
  obtain ⟨hs, mm, eh, ph⟩ := Z.hh
  with_reducible refine X_while ?_
  refine N_while (JDe H h c r) S (.mk T D) ?_
  clear S T D
  rintro m vs σ h1 @⟨a, w1, w2, p, t, u, m, h1, T, D⟩ k1 tk S Qt hQr hQn
  have T' := T.tk S.btk
  with_reducible refine T_val ?_
  with_reducible refine E_bool ?_
  with_reducible refine truthy_b ?_
  refine ⟨fun _ => ?_, fun e => by simp at e⟩
  with_reducible refine X_name ?_
  with_reducible refine' E_tI (by assumption) ?c1 ?c2 ?_ ?c4
  case c1 => exact .h1
  case c2 => assumption
  case c4 => rfl
  with_reducible refine' N_st (by assumption) ?c1 ?_
  case c1 => exact .h2
  intro h1 S
  with_reducible refine X_ifc ?_
  with_reducible refine' E_loc (by assumption) ?c1 ?_
  case c1 => exact .h2
  with_reducible refine' E_glo (by assumption) (by assumption) ?c2 ?c3 ?_
  case c2 => exact .tl (.tl (.tl (.tl .hd)))
  case c3 => k_is
  with_reducible refine q_ie ?_
  cases D with
  | con n0 n1 =>
    refine ⟨fun e => absurd (by simpa using e) n0, fun _ => ?_⟩
    with_reducible refine X_if0c ?_
    with_reducible refine' E_loc (by assumption) ?c1 ?_
    case c1 => exact .h2
    with_reducible refine' E_glo (by assumption) (by assumption) ?c2 ?c3 ?_
    case c2 => exact .tl (.tl (.tl (.tl (.tl .hd))))
    case c3 => k_is
    with_reducible refine q_ie ?_
    refine ⟨fun e => absurd (by simpa using e) n1, fun _ => ?_⟩
    with_reducible refine X_ret ?_
    with_reducible refine' E_loc (by assumption) ?c1 ?_
    case c1 => exact .h1
    with_reducible refine Nx_ret ?_
    with_reducible refine hQr _ _ _ ?_
    exact q _ _ _ _ _ S.back0 T
  | self i0 i1 hi =>
    refine ⟨fun _ => ?_, fun e => by simp at e⟩
    obtain ⟨b, t4, u4, hx, tp⟩ := ph.get hi
    with_reducible refine X_name ?_
    with_reducible refine E_sub ?_
    with_reducible refine' E_at (by assumption) (by assumption) ?c2 ?c3 ?c4 ?c5 ?_ ?c7
    case c2 => exact .hd
    case c3 => assumption
    case c4 => exact .tl (.tl .hd)
    case c5 => exact fld_heap
    case c7 => rfl
    with_reducible refine' E_tI (by assumption) ?c1 ?c2 ?_ ?c4
    case c1 => exact .h1
    case c2 => assumption
    case c4 => rfl
    refine' I_lst ?e ?_ ?hx ?h0 ?hh ?hs
    case e => exact St.base (by assumption) _ _ (by assumption)
    case hx => assumption
    case h0 => assumption
    case hh => (clear i0; omega)
    case hs => with_unfolding_all rfl
    with_reducible refine' N_st (by assumption) ?c1 ?_
    case c1 => exact .t3 .hd
    intro h1 S
    with_reducible refine X_nn ?_
    with_reducible refine X_ifc ?_
    with_reducible refine' E_loc (by assumption) ?c1 ?_
    case c1 => exact .t3 .hd
    with_reducible refine' E_loc (by assumption) ?c1 ?_
    case c1 => exact .h1
    refine q_pair R (tp.tk S.btk) (T.tk S.btk) ?_
    with_reducible refine truthy_b ?_
    refine ⟨fun _ => ?_, fun e => by simp at e⟩
    with_reducible refine X_ret ?_
    with_reducible refine' E_loc (by assumption) ?c1 ?_
    case c1 => exact .h1
    with_reducible refine Nx_ret ?_
    with_reducible refine hQr _ _ _ ?_
    exact q _ _ _ _ _ S.back0 T
  | @step i qq r m i0 i1 hi hne D =>
    refine ⟨fun _ => ?_, fun e => by simp at e⟩
    obtain ⟨b, t4, u4, hx, tp⟩ := ph.get hi
    with_reducible refine X_name ?_
    with_reducible refine E_sub ?_
    with_reducible refine' E_at (by assumption) (by assumption) ?c2 ?c3 ?c4 ?c5 ?_ ?c7
    case c2 => exact .hd
    case c3 => assumption
    case c4 => exact .tl (.tl .hd)
    case c5 => exact fld_heap
    case c7 => rfl
    with_reducible refine' E_tI (by assumption) ?c1 ?c2 ?_ ?c4
    case c1 => exact .h1
    case c2 => assumption
    case c4 => rfl
    refine' I_lst ?e ?_ ?hx ?h0 ?hh ?hs
    case e => exact St.base (by assumption) _ _ (by assumption)
    case hx => assumption
    case h0 => assumption
    case hh => omega
    case hs => with_unfolding_all rfl
    with_reducible refine' N_st (by assumption) ?c1 ?_
    case c1 => exact .t3 .hd
    intro h1 S
    with_reducible refine X_nn ?_
    with_reducible refine X_ifc ?_
    with_reducible refine' E_loc (by assumption) ?c1 ?_
    case c1 => exact .t3 .hd
    with_reducible refine' E_loc (by assumption) ?c1 ?_
    case c1 => exact .h1
    refine q_pair R (tp.tk S.btk) (T.tk S.btk) ?_
    with_reducible refine truthy_b ?_
    refine ⟨fun e => absurd (Prod.ext (by simpa using (by simpa using e : _ ∧ _).1) (by simpa using (by simpa using e : _ ∧ _).2)) hne, fun _ => ?_⟩
    with_reducible refine X_nn ?_
    with_reducible refine X_name ?_
    with_reducible refine' E_loc (by assumption) ?c1 ?_
    case c1 => exact .t3 .hd
    with_reducible refine' N_st (by assumption) ?c1 ?_
    case c1 => exact .h1
    intro h1 S
    with_reducible refine X_nil ?_
    exact hQn _ _ _ m _ _ (by first | exact .inl rfl | exact .inr rfl) (Nat.lt_succ_self _) S (.mk tp D)
theorem globalise_ {p r : Int × Int} {m : Nat} (G : Wd (hd.heap_39 V.w.params) B₀ h) (R : Room A (n + 3)) (Z : Sto B₀ h c sy hp fl H F) (T : Tp h x [.int p.1 t, .int p.2 u]) (D : Der H m p r) (nr : r.1 ≠ 1)
    (q : ∀ h' k' a t' u', Chg [] h h' → Tp h' a [.int r.1 t', .int r.2 u'] → Q (.ref a) h' k') : W V A (call (.ref 257) ([.ref c] ++ [.ref x])) Q h k := by
  refine' W_enter0 (binds := [("self", .ref c), ("cell", .ref x)]) G R ?ho ?hcd ?hb ?he ?nn ?nb ?_ ?hcell ?hco ?hgen ?hk
  case ho => k_is
  case hcd => k_is
  case hb => exact BindsTo.of_eq rfl
  case he => repeat constructor
  case nn => decide
  case nb => decide
  case hcell => decide
  case hco => rfl
  case hgen => rfl
  case hk => rfl
  intro A L h1 k1 S R
  dsimp only at S
  obtain ⟨st, tr, t1, t2, t3, C⟩ := Z.C
  with_reducible refine X_name ?_
  with_reducible refine' E_mc (by assumption) (by assumption) ?c2 ?c3 ?c4 ?c5 ?_ ?c7
  case c2 => exact .hd
  case c3 => assumption
  case c4 => exact mth_deref
  case c5 => k_is
  case c7 => rfl
  with_reducible refine' S_locL (by assumption) ?c1 ?_
  case c1 => exact .h1
  with_reducible refine' Krf_go (by assumption) (by assumption) ?_
  refine deref_ (G.st S) R (Z.chg0 S.back0) (T.tk S.btk) D fun h' k' a t' u' x T' => ?_
  replace S := (S.call0 x).pool
  replace T' := T'.tk x.tup
  with_reducible refine' N_st (by assumption) ?c1 ?_
  case c1 => exact .h1
  intro h1 S
  with_reducible refine X_ifc ?_
  with_reducible refine' E_tI (by assumption) ?c1 ?c2 ?_ ?c4
  case c1 => exact .h1
  case c2 => assumption
  case c4 => rfl
  with_reducible refine' E_glo (by assumption) (by assumption) ?c2 ?c3 ?_
  case c2 => exact .tl (.tl (.tl .hd))
  case c3 => k_is
  with_reducible refine q_ie ?_
  refine ⟨fun e => absurd (by simpa using e) nr, fun _ => ?_⟩
  with_reducible refine X_nn ?_
  with_reducible refine X_ret ?_
  with_reducible refine' E_loc (by assumption) ?c1 ?_
  case c1 => exact .h1
  exact q _ _ _ _ _ S.back0 (T'.tk S.tup)
noncomputable def Shape (H : List (Int × Int)) (p : Int × Int) (f : Int) : Prop := (p.1 = 3 ∧ f = 0) ∨ (p.1 = 2 ∧ 0 ≤ p.2 ∧ p.2 < 2 ^ 62 ∧ H[p.2.toNat]? = some (6, f))
theorem same_shape_ {y : Addr} {p r : Int × Int} {t' u' : Tok} {f g : Int} (G : Wd (hd.heap_39 V.w.params) B₀ h) (R : Room A (n + 2)) (Z : Sto B₀ h c sy hp fl H F) (T : Tp h x [.int p.1 t, .int p.2 u]) (T2 : Tp h y [.int r.1 t', .int r.2 u'])
    (s1 : Shape H p f) (s2 : Shape H r g) (q : ∀ h' k', Chg [] h h' → Q (.bool (p.1 == r.1 && f == g)) h' k') : W V A (call (.ref 424) ([] ++ [.ref c, .ref x, .ref y])) Q h k := by
  refine' W_enter0 (binds := [("store", .ref c), ("left", .ref x), ("right", .ref y)]) G R ?ho ?hcd ?hb ?he ?nn ?nb ?_ ?hcell ?hco ?hgen ?hk
  case ho => k_is
  case hcd => k_is
  case hb => exact BindsTo.of_eq rfl
  case he => repeat constructor
  case nn => decide
  case nb => decide
  case hcell => decide
  case hco => rfl
  case hgen => rfl
  case hk => rfl
  intro A L h1 k1 S R
  dsimp only at S
  obtain ⟨st, tr, t1, t2, t3, C⟩ := Z.C
  obtain ⟨hs, mm, eh, ph⟩ := Z.hh
  with_reducible refine X_ifc ?_
  with_reducible refine' E_tI (by assumption) ?c1 ?c2 ?_ ?c4
  case c1 => exact .h1
  case c2 => assumption
  case c4 => rfl
  with_reducible refine' E_tI (by assumption) ?c1 ?c2 ?_ ?c4
  case c1 => exact .h2
  case c2 => assumption
  case c4 => rfl
  with_reducible refine i_ne ?_
  with_reducible refine truthy_b ?_
  refine ⟨fun e => ?_, fun e => ?_⟩
  · with_reducible refine X_ret ?_
    with_reducible refine E_bool ?_
    with_reducible refine Nx_ret ?_
    have := fun k => q _ k S.back0
    have e' : ¬ p.1 = r.1 := by simpa using e
    rw [beq_eq_false_iff_ne.mpr e', Bool.false_and] at this
    exact this _
  have e' : p.1 = r.1 := by simpa using e
  rw [beq_iff_eq.mpr e', Bool.true_and] at q
  with_reducible refine X_nn ?_
  with_reducible refine X_ifc ?_
  with_reducible refine' E_tI (by assumption) ?c1 ?c2 ?_ ?c4
  case c1 => exact .h1
  case c2 => assumption
  case c4 => rfl
  with_reducible refine' E_glo (by assumption) (by assumption) ?c2 ?c3 ?_
  case c2 => exact .tl (.tl (.tl .hd))
  case c3 => k_is
  with_reducible refine q_ie ?_
  rcases s1 with ⟨a1, rfl⟩ | ⟨a1, a2, a3, a4⟩
  · refine ⟨fun _ => ?_, fun e => by simp [a1] at e⟩
    rcases s2 with ⟨b1, rfl⟩ | ⟨b1, _⟩
    · with_reducible refine X_ret ?_
      with_reducible refine E_bool ?_
      with_reducible refine Nx_ret ?_
      exact q _ _ S.back0
    · omega
  · refine ⟨fun e => by simp [a1] at e, fun _ => ?_⟩
    rcases s2 with ⟨b1, _⟩ | ⟨b1, b2, b3, b4⟩
    · omega
    · obtain ⟨a, ta, ua, hx, tp⟩ := ph.get a4
      obtain ⟨b, tb, ub, hy, tq⟩ := ph.get b4
      with_reducible refine X_nn ?_
      with_reducible refine X_ret ?_
      with_reducible refine E_cmp ?_
      with_reducible refine E_sub ?_
      with_reducible refine' E_at (by assumption) (by assumption) ?c2 ?c3 ?c4 ?c5 ?_ ?c7
      case c2 => exact .hd
      case c3 => assumption
      case c4 => exact .tl (.tl .hd)
      case c5 => exact fld_heap
      case c7 => rfl
      with_reducible refine' E_tI (by assumption) ?c1 ?c2 ?_ ?c4
      case c1 => exact .h1
      case c2 => assumption
      case c4 => rfl
      refine' I_lst ?e ?_ ?hx ?h0 ?hh ?hs
      case e => exact St.base (by assumption) _ _ (by assumption)
      case hx => assumption
      case h0 => assumption
      case hh => (clear a2; omega)
      case hs => with_unfolding_all rfl
      with_reducible refine E_sub ?_
      with_reducible refine' E_at (by assumption) (by assumption) ?c2 ?c3 ?c4 ?c5 ?_ ?c7
      case c2 => exact .hd
      case c3 => assumption
      case c4 => exact .tl (.tl .hd)
      case c5 => exact fld_heap
      case c7 => rfl
      with_reducible refine' E_tI (by assumption) ?c1 ?c2 ?_ ?c4
      case c1 => exact .h2
      case c2 => assumption
      case c4 => rfl
      refine' I_lst ?e ?_ ?hx ?h0 ?hh ?hs
      case e => exact St.base (by assumption) _ _ (by assumption)
      case hx => assumption
      case h0 => assumption
      case hh => (clear b2; omega)
      case hs => with_unfolding_all rfl
      refine q_pair R (tp.tk S.btk) (tq.tk S.btk) ?_
      have := fun k => q _ k S.back0
      simpa [fv] using this _
end
end
section
open PySem PySem.W PyProof.Rows PySem.Calls
set_option hygiene false
inductive WAt (h : Heap) (v : Value) (e : (Int × Int) × (Int × Int)) : Prop
  | mk (t a b : Addr) (x y z w : Tok) (h0 : v = .ref t) (h1 : Tp h t [.ref a, .ref b]) (h2 : Tp h a [.int e.1.1 x, .int e.1.2 y]) (h3 : Tp h b [.int e.2.1 z, .int e.2.2 w])
theorem WAt.tk {h h' : Heap} {v : Value} {e : (Int × Int) × (Int × Int)} (x : WAt h v e) (t : Tk h h') : WAt h' v e := (by obtain ⟨a, b, c, d, e, f, g, h1, h2, h3, h4⟩ := x; exact ⟨a, b, c, d, e, f, g, h1, h2.tk t, h3.tk t, h4.tk t⟩)
inductive JPp (c x y wk : Addr) (bp br : Int) (tb tb2 : Tok) (Lw : List ((Int × Int) × (Int × Int))) (lc rc : Nat → Int × Int) (wn l0 : Nat) : Nat → List (Option Value) → List (Addr × Obj) → Heap → Prop
  | mk {w6 : Option Value} {ws : List Value} {m i : Nat} {h : Heap} (pw : All2 (WAt h) ws (Lw ++ (List.range i).map fun j => (lc (wn - 1 - j), rc (wn - 1 - j)))) (hlen : ws.length = l0 + i) :
    JPp c x y wk bp br tb tb2 Lw lc rc wn l0 i [some (.ref c), some (.ref x), some (.ref y), some (.ref wk), some (.int bp tb), some (.int br tb2), w6] [(wk, lo ws m)] h
section
variable {V : Vw} {B₀ h : Heap} {A : Around} {k : Nat} {Q : Value → Heap → Nat → Prop} {c x y wk sy hp fl : Addr} {tag i : Int} {t u t' u' : Tok} {n : Nat} {H F : List (Int × Int)}
theorem push_pairs_ {p r : Int × Int} {f w : Int} {ws : List Value} {m : Nat} {lc rc : Nat → Int × Int} {Lw : List ((Int × Int) × (Int × Int))} (G : Wd (hd.heap_39 V.w.params) B₀ h) (R : Room A (n + 3)) (Z : Sto B₀ h c sy hp fl H F)
    (T : Tp h x [.int p.1 t, .int p.2 u]) (T2 : Tp h y [.int r.1 t', .int r.2 u']) (O : HeadOk H F p.1 p.2 f w) (hw : w = 1 ∨ w = 2)
    (b0 : 0 ≤ blk p) (b1 : 0 ≤ blk r) (b2 : blk p < 2 ^ 61) (b3 : blk r < 2 ^ 61)
    (hl : ∀ s : Nat, (s : Int) < w → H[(blk p + s).toNat]? = some (lc s) ∧ H[(blk r + s).toNat]? = some (rc s))
    (ew : h.get? wk = some (lo ws m)) (fw : B₀.get? wk = none) (pw : All2 (WAt h) ws Lw) (n1 : hp ≠ wk) (n2 : fl ≠ wk) (hsz : ws.length ≤ 900000)
    (q : ∀ h' k' ws' m', Chg [wk] h h' → h'.get? wk = some (lo ws' m') → All2 (WAt h') ws' (Lw ++ (List.range w.toNat).map fun j => (lc (w.toNat - 1 - j), rc (w.toNat - 1 - j))) → Q .none h' k') :
    W V A (call (.ref 417) ([] ++ [.ref c, .ref x, .ref y, .ref wk])) Q h k := by
  refine' W_enter (binds := [("store", .ref c), ("left", .ref x), ("right", .ref y), ("work", .ref wk)]) G R ?ho ?hcd [(wk, lo ws m)] (by simpa using ⟨ew, fw⟩) (by simp) ?hb ?he ?nn ?nb ?_ ?hcell ?hco ?hgen ?hk
  case ho => k_is
  case hcd => k_is
  case hb => exact BindsTo.of_eq rfl
  case he => repeat constructor
  case nn => decide
  case nb => decide
  case hcell => decide
  case hco => rfl
  case hgen => rfl
  case hk => rfl
  intro A B L h1 k1 G S hB hB' R
  dsimp only at S
  obtain ⟨st, tr, t1, t2, t3, C⟩ := Z.C
  obtain ⟨hs, mm, eh, ph⟩ := Z.hh
  have eh' : B.get? hp = some (lo hs mm) := hB _ _ eh (by simpa using n1)
  with_reducible refine X_name ?_
  with_reducible refine' E_mc (by assumption) (by assumption) ?c2 ?c3 ?c4 ?c5 ?_ ?c7
  case c2 => exact .hd
  case c3 => assumption
  case c4 => exact mth_base
  case c5 => k_is
  case c7 => rfl
  with_reducible refine' S_locL (by assumption) ?c1 ?_
  case c1 => exact .h1
  with_reducible refine' Krf_go (by assumption) (by assumption) ?_
  refine base_ (G.st S) R (T.tk S.tup) fun h1 k1 tb x1 => ?_
  replace S := S.call0 x1
  with_reducible refine' N_st (by assumption) ?c1 ?_
  case c1 => exact .t3 .h1
  intro h1 S
  with_reducible refine X_name ?_
  with_reducible refine' E_mc (by assumption) (by assumption) ?c2 ?c3 ?c4 ?c5 ?_ ?c7
  case c2 => exact .hd
  case c3 => assumption
  case c4 => exact mth_base
  case c5 => k_is
  case c7 => rfl
  with_reducible refine' S_locL (by assumption) ?c1 ?_
  case c1 => exact .h2
  with_reducible refine' Krf_go (by assumption) (by assumption) ?_
  refine base_ (G.st S) R (T2.tk S.tup) fun h1 k1 tb2 x1 => ?_
  replace S := S.call0 x1
  with_reducible refine' N_st (by assumption) ?c1 ?_
  case c1 => exact .t3 .h2
  intro h1 S
  with_reducible refine X_for ?_
  with_reducible refine E_call ?_
  with_reducible refine' E_bi (by assumption) (by assumption) ?c2 ?c3 ?c4 ?c5 ?_
  case c2 => exact .tl (.tl (.tl (.tl (.tl (.tl (.tl .hd))))))
  case c3 => k_is
  case c4 => boot_by_name
  case c5 => decide
  with_reducible refine C_ty ?_
  with_reducible refine S_cons ?_
  with_reducible refine E_bin ?_
  with_reducible refine' E_mc (by assumption) (by assumption) ?c2 ?c3 ?c4 ?c5 ?_ ?c7
  case c2 => exact .hd
  case c3 => assumption
  case c4 => exact mth_width
  case c5 => k_is
  case c7 => rfl
  with_reducible refine' S_locL (by assumption) ?c1 ?_
  case c1 => exact .h1
  with_reducible refine' Krf_go (by assumption) (by assumption) ?_
  refine width_ (G.st S) R (Z.chg (S.back hB) (by simpa using n1) (by simpa using n2)) (T.tk S.tup) O fun h1 k1 tb3 x1 => ?_
  replace S := S.call0 x1
  with_reducible refine E_int ?_
  with_reducible refine i_sub ?_
  with_reducible refine S_cons ?_
  with_reducible refine E_un ?_
  with_reducible refine E_int ?_
  with_reducible refine i_neg ?_
  with_reducible refine S_cons ?_
  with_reducible refine E_un ?_
  with_reducible refine E_int ?_
  with_reducible refine i_neg ?_
  with_reducible refine S_nil ?_
  have hn : Builtin.Range.rangeSize (w - 1) (-1) (-1) = ((w.toNat : Nat) : Int) := by rcases hw with rfl | rfl <;> decide
  have hs1 : Builtin.Range.small (w - 1) (-1) (-1) = true := by rcases hw with rfl | rfl <;> decide
  refine C_rng3 S (by decide) (PyProof.noPylong_small (by decide)) fun r9 h1 k1 hr S => ?_
  refine iter_range S hr hs1 hn fun I o h1 so S => ?_
  refine N_forR (JPp c x y wk (blk p) (blk r) tb tb2 Lw lc rc w.toNat ws.length)
    (w - 1) (-1) R.1 S so (.mk (by simpa using pw.imp fun v e z => z.tk S.tup) (by simp)) 6 rfl ?_ ?_ ?_ rfl rfl
  · rintro i vs σ h2 ⟨⟩
    rfl
  · rintro i vs σ h2 @⟨w6, ws', m', i, h2, pw', hlen⟩ hi tk tv o h1 k1 S Qt hQr hQn
    dsimp only [List.set] at S
    have ei : w - 1 + (i : Int) * (-1) = ((w.toNat - 1 - i : Nat) : Int) := by omega
    obtain ⟨l1, l2⟩ := hl (w.toNat - 1 - i) (by omega)
    rw [← ei] at l1 l2
    obtain ⟨a, t4, u4, hx, tp⟩ := ph.get l1
    obtain ⟨b, t5, u5, hy, tq⟩ := ph.get l2
    with_reducible refine X_expr ?_
    with_reducible refine E_meth ?_
    with_reducible refine' E_loc (by assumption) ?c1 ?_
    case c1 => exact .t3 .hd
    with_reducible refine' MC_append ?c0 ?_
    case c0 => exact St.has (by assumption) (by exact .h1)
    with_reducible refine C_bi ?_
    with_reducible refine S_cons ?_
    with_reducible refine E_tuple ?_
    with_reducible refine S_cons ?_
    with_reducible refine E_sub ?_
    with_reducible refine' E_at (by assumption) (by assumption) ?c2 ?c3 ?c4 ?c5 ?_ ?c7
    case c2 => exact .hd
    case c3 => assumption
    case c4 => exact .tl (.tl .hd)
    case c5 => exact fld_heap
    case c7 => rfl
    with_reducible refine E_bin ?_
    with_reducible refine' E_loc (by assumption) ?c1 ?_
    case c1 => exact .t3 .h1
    with_reducible refine' E_loc (by assumption) ?c1 ?_
    case c1 => exact .t3 (.t3 .hd)
    with_reducible refine i_add ?_
    refine' I_lst ?e ?_ ?hx ?h0 ?hh ?hs
    case e => exact St.base (by assumption) _ _ (by assumption)
    case hx => assumption
    case h0 => (clear b2; omega)
    case hh => (clear b0 hi ei; omega)
    case hs => with_unfolding_all rfl
    with_reducible refine S_cons ?_
    with_reducible refine E_sub ?_
    with_reducible refine' E_at (by assumption) (by assumption) ?c2 ?c3 ?c4 ?c5 ?_ ?c7
    case c2 => exact .hd
    case c3 => assumption
    case c4 => exact .tl (.tl .hd)
    case c5 => exact fld_heap
    case c7 => rfl
    with_reducible refine E_bin ?_
    with_reducible refine' E_loc (by assumption) ?c1 ?_
    case c1 => exact .t3 .h2
    with_reducible refine' E_loc (by assumption) ?c1 ?_
    case c1 => exact .t3 (.t3 .hd)
    with_reducible refine i_add ?_
    refine' I_lst ?e ?_ ?hx ?h0 ?hh ?hs
    case e => exact St.base (by assumption) _ _ (by assumption)
    case hx => assumption
    case h0 => (clear b3; omega)
    case hh => (clear b1 hi ei; omega)
    case hs => with_unfolding_all rfl
    with_reducible refine S_nil ?_
    with_reducible refine' N_tup (by assumption) ?_
    intro t1 h1 S
    with_reducible refine S_nil ?_
    refine C_append S (by exact .h2) (by exact .tl (.tl .hd)) (fun h1 S => ?_) (by (clear hi; omega))
    with_reducible refine And_none ?_
    with_reducible refine X_nil ?_
    have tp' := tp.tk (tk.trans S.tup)
    have tq' := tq.tk (tk.trans S.tup)
    refine hQn _ _ _ _ _ (by first | exact .inl rfl | exact .inr rfl) (S.drop (List.sublist_cons_self _ _)) (.mk ?_ (by rw [List.length_append, hlen]; rfl))
    rw [List.range_succ, List.map_append, ← List.append_assoc]
    exact (pw'.imp fun v e z => z.tk S.tup).snoc ⟨_, a, b, _, _, _, _, rfl, to_tp (S.has .hd), tp', tq'⟩
  · rintro i_ vs σ h2 @⟨w6, ws', m', i_, h2, pw', hlen⟩ rfl h1 k1 S tk
    with_reducible refine Nx_next ?_
    with_reducible refine X_nil ?_
    exact q _ _ ws' m' (S.back hB) (S.has .hd) (pw'.imp fun v e z => z.tk tk)
end
end
section
open PySem PySem.W PyProof.Rows PySem.Calls
set_option hygiene false
theorem Sto.now {B₀ h h' : Heap} {c sy hp fl : Addr} {H H' F : List (Int × Int)} {hs : List Value} {m : Nat} (Z : Sto B₀ h c sy hp fl H F) (x : Chg [hp] h h') (ne : fl ≠ hp) (e : h'.get? hp = some (lo hs m)) (p : PairsAt h' hs H') (sz : H'.length ≤ 100000) : Sto B₀ h' c sy hp fl H' F :=
  ⟨Z.C, Z.Y, ⟨hs, m, e, p⟩, (by obtain ⟨hs, n, e, p⟩ := Z.ff; exact ⟨hs, n, x.same _ _ e (by simpa using ne), p.tk x.tup⟩), sz⟩
section
variable {V : Vw} {B₀ h : Heap} {A : Around} {k : Nat} {Q : Value → Heap → Nat → Prop} {c x sy hp fl : Addr} {tag i : Int} {t u : Tok} {n : Nat} {H F : List (Int × Int)}
theorem push_ {p : Int × Int} (G : Wd (hd.heap_39 V.w.params) B₀ h) (R : Room A (n + 1)) (Z : Sto B₀ h c sy hp fl H F) (fr : B₀.get? hp = none) (ne : fl ≠ hp) (sz : H.length ≤ 90000) (T : Tp h x [.int p.1 t, .int p.2 u])
    (q : ∀ h' k' t', Chg [hp] h h' → Sto B₀ h' c sy hp fl (H ++ [p]) F → Q (.int H.length t') h' k') : W V A (call (.ref 201) ([.ref c] ++ [.ref x])) Q h k := by
  obtain ⟨hs, m, eh, ph⟩ := Z.hh
  have hl := ph.len
  refine' W_enter (binds := [("self", .ref c), ("cell", .ref x)]) G R ?ho ?hcd [(hp, lo hs m)] (by simpa using ⟨eh, fr⟩) (by simp) ?hb ?he ?nn ?nb ?_ ?hcell ?hco ?hgen ?hk
  case ho => k_is
  case hcd => k_is
  case hb => exact BindsTo.of_eq rfl
  case he => repeat constructor
  case nn => decide
  case nb => decide
  case hcell => decide
  case hco => rfl
  case hgen => rfl
  case hk => rfl
  intro A B L h1 k1 G S hB hB' R
  dsimp only at S
  obtain ⟨st, tr, t1, t2, t3, C⟩ := Z.C
  with_reducible refine X_name ?_
  with_reducible refine E_call ?_
  with_reducible refine' E_bi (by assumption) (by assumption) ?c2 ?c3 ?c4 ?c5 ?_
  case c2 => exact .tl (.tl (.tl .hd))
  case c3 => k_is
  case c4 => boot_by_name
  case c5 => decide
  with_reducible refine C_bi ?_
  with_reducible refine S_cons ?_
  with_reducible refine' E_at (by assumption) (by assumption) ?c2 ?c3 ?c4 ?c5 ?_ ?c7
  case c2 => exact .hd
  case c3 => assumption
  case c4 => exact .tl (.tl .hd)
  case c5 => exact fld_heap
  case c7 => rfl
  with_reducible refine S_nil ?_
  refine C_len (S.has .hd) (by omega) fun t5 k5 => ?_
  with_reducible refine' N_st (by assumption) ?c1 ?_
  case c1 => exact .h2
  intro h1 S
  with_reducible refine X_ifc ?_
  with_reducible refine' E_loc (by assumption) ?c1 ?_
  case c1 => exact .h2
  with_reducible refine' E_at (by assumption) (by assumption) ?c2 ?c3 ?c4 ?c5 ?_ ?c7
  case c2 => exact .hd
  case c3 => assumption
  case c4 => exact .tl .hd
  case c5 => exact fld_max_heap
  case c7 => rfl
  with_reducible refine i_ge ?_
  with_reducible refine truthy_b ?_
  refine ⟨fun e => by simp at e; omega, fun _ => ?_⟩
  with_reducible refine X_nn ?_
  with_reducible refine X_expr ?_
  with_reducible refine E_meth ?_
  with_reducible refine' E_at (by assumption) (by assumption) ?c2 ?c3 ?c4 ?c5 ?_ ?c7
  case c2 => exact .hd
  case c3 => assumption
  case c4 => exact .tl (.tl .hd)
  case c5 => exact fld_heap
  case c7 => rfl
  with_reducible refine' MC_append ?c0 ?_
  case c0 => exact St.has (by assumption) (by exact .hd)
  with_reducible refine C_bi ?_
  with_reducible refine' S_locL (by assumption) ?c1 ?_
  case c1 => exact .h1
  refine C_append S (by exact .hd) (by exact .hd) (fun h1 S => ?_) (by omega)
  with_reducible refine And_none ?_
  with_reducible refine X_ret ?_
  with_reducible refine' E_loc (by assumption) ?c1 ?_
  case c1 => exact .h2
  have X := S.back hB
  rw [hl]
  exact q _ _ _ X (Z.now X ne (S.has .hd) ((ph.tk S.tup).snoc ⟨_, _, _, rfl, T.tk S.tup⟩) (by simp; (clear hl; omega)))
theorem new_var_ (G : Wd (hd.heap_39 V.w.params) B₀ h) (R : Room A (n + 2)) (Z : Sto B₀ h c sy hp fl H F) (fr : B₀.get? hp = none) (ne : fl ≠ hp) (sz : H.length ≤ 90000)
    (q : ∀ h' k' a t' u', Chg [hp] h h' → Sto B₀ h' c sy hp fl (H ++ [(0, (H.length : Int))]) F → Tp h' a [.int 0 t', .int H.length u'] → Q (.ref a) h' k') : W V A (call (.ref 208) ([.ref c] ++ [])) Q h k := by
  obtain ⟨hs, m, eh, ph⟩ := Z.hh
  have hl := ph.len
  refine' W_enter (binds := [("self", .ref c)]) G R ?ho ?hcd [(hp, lo hs m)] (by simpa using ⟨eh, fr⟩) (by simp) ?hb ?he ?nn ?nb ?_ ?hcell ?hco ?hgen ?hk
  case ho => k_is
  case hcd => k_is
  case hb => exact BindsTo.of_eq rfl
  case he => repeat constructor
  case nn => decide
  case nb => decide
  case hcell => decide
  case hco => rfl
  case hgen => rfl
  case hk => rfl
  intro A B L h1 k1 G S hB hB' R
  dsimp only at S
  obtain ⟨st, tr, t1, t2, t3, C⟩ := Z.C
  with_reducible refine X_name ?_
  with_reducible refine E_tuple ?_
  with_reducible refine S_cons ?_
  with_reducible refine' E_glo (by assumption) (by assumption) ?c2 ?c3 ?_
  case c2 => exact .tl (.tl .hd)
  case c3 => k_is
  with_reducible refine S_cons ?_
  with_reducible refine E_call ?_
  with_reducible refine' E_bi (by assumption) (by assumption) ?c2 ?c3 ?c4 ?c5 ?_
  case c2 => exact .tl (.tl (.tl .hd))
  case c3 => k_is
  case c4 => boot_by_name
  case c5 => decide
  with_reducible refine C_bi ?_
  with_reducible refine S_cons ?_
  with_reducible refine' E_at (by assumption) (by assumption) ?c2 ?c3 ?c4 ?c5 ?_ ?c7
  case c2 => exact .hd
  case c3 => assumption
  case c4 => exact .tl (.tl .hd)
  case c5 => exact fld_heap
  case c7 => rfl
  with_reducible refine S_nil ?_
  refine C_len (S.has .hd) (by omega) fun t5 k5 => ?_
  rw [hl]
  with_reducible refine S_nil ?_
  with_reducible refine' N_tup (by assumption) ?_
  intro t1 h1 S
  with_reducible refine' N_st (by assumption) ?c1 ?_
  case c1 => exact .h1
  intro h1 S
  with_reducible refine X_expr ?_
  with_reducible refine' E_mc (by assumption) (by assumption) ?c2 ?c3 ?c4 ?c5 ?_ ?c7
  case c2 => exact .hd
  case c3 => assumption
  case c4 => exact mth_push
  case c5 => k_is
  case c7 => rfl
  with_reducible refine' S_locL (by assumption) ?c1 ?_
  case c1 => exact .h1
  with_reducible refine' Krf_go (by assumption) (by assumption) ?_
  have Z1 := Z.now (S.back hB) ne (S.has (.tl .hd)) (ph.tk S.tup) Z.sz
  refine push_ (p := (0, (H.length : Int))) (G.st S) R Z1 fr ne sz (to_tp (S.has .hd)) fun h1 k1 t2 x1 Z2 => ?_
  obtain ⟨hs', m', eh', ph'⟩ := Z2.hh
  replace S := S.chgL (ups := [(hp, lo hs' m')]) x1 (.cons (.tl .hd) .nil) (by simpa using eh')
  with_reducible refine And_int ?_
  with_reducible refine X_ret ?_
  with_reducible refine' E_loc (by assumption) ?c1 ?_
  case c1 => exact .h1
  exact q _ _ _ _ _ (S.back hB) (Z.now (S.back hB) ne eh' ph' (by simp; omega)) (to_tp (S.has .hd))
inductive JRs (c hp : Addr) (w0 : Int) (n0 : Int) (t t5 : Tok) (H : List (Int × Int)) : Nat → List (Option Value) → List (Addr × Obj) → Heap → Prop
  | mk {w6 : Option Value} {hs : List Value} {m i : Nat} {h : Heap} (ph : PairsAt h hs (H ++ (List.range i).map fun (j : Nat) => (0, n0 + j))) :
    JRs c hp w0 n0 t t5 H i [some (.ref c), some (.int w0 t), some (.int n0 t5), w6] [(hp, lo hs m)] h
theorem reserve_ {w : Nat} (G : Wd (hd.heap_39 V.w.params) B₀ h) (R : Room A (n + 1)) (Z : Sto B₀ h c sy hp fl H F) (fr : B₀.get? hp = none) (ne : fl ≠ hp) (sz : H.length ≤ 90000) (hw : w = 2 ∨ w = 3)
    (q : ∀ h' k' t', Chg [hp] h h' → Sto B₀ h' c sy hp fl (H ++ (List.range w).map fun (j : Nat) => (0, (H.length : Int) + j)) F → Q (.int H.length t') h' k') : W V A (call (.ref 215) ([.ref c] ++ [.int w t])) Q h k := by
  obtain ⟨hs, m, eh, ph⟩ := Z.hh
  have hl := ph.len
  refine' W_enter (binds := [("self", .ref c), ("count", .int w t)]) G R ?ho ?hcd [(hp, lo hs m)] (by simpa using ⟨eh, fr⟩) (by simp) ?hb ?he ?nn ?nb ?_ ?hcell ?hco ?hgen ?hk
  case ho => k_is
  case hcd => k_is
  case hb => exact BindsTo.of_eq rfl
  case he => repeat constructor
  case nn => decide
  case nb => decide
  case hcell => decide
  case hco => rfl
  case hgen => rfl
  case hk => rfl
  intro A B L h1 k1 G S hB hB' R
  dsimp only at S
  obtain ⟨st, tr, t1, t2, t3, C⟩ := Z.C
  with_reducible refine X_name ?_
  with_reducible refine E_call ?_
  with_reducible refine' E_bi (by assumption) (by assumption) ?c2 ?c3 ?c4 ?c5 ?_
  case c2 => exact .tl (.tl (.tl (.tl .hd)))
  case c3 => k_is
  case c4 => boot_by_name
  case c5 => decide
  with_reducible refine C_bi ?_
  with_reducible refine S_cons ?_
  with_reducible refine' E_at (by assumption) (by assumption) ?c2 ?c3 ?c4 ?c5 ?_ ?c7
  case c2 => exact .hd
  case c3 => assumption
  case c4 => exact .tl (.tl .hd)
  case c5 => exact fld_heap
  case c7 => rfl
  with_reducible refine S_nil ?_
  refine C_len (S.has .hd) (by omega) fun t5 k5 => ?_
  rw [hl]
  with_reducible refine' N_st (by assumption) ?c1 ?_
  case c1 => exact .h2
  intro h1 S
  with_reducible refine X_ifc ?_
  with_reducible refine E_bin ?_
  with_reducible refine' E_loc (by assumption) ?c1 ?_
  case c1 => exact .h2
  with_reducible refine' E_loc (by assumption) ?c1 ?_
  case c1 => exact .h1
  with_reducible refine i_add ?_
  with_reducible refine' E_at (by assumption) (by assumption) ?c2 ?c3 ?c4 ?c5 ?_ ?c7
  case c2 => exact .hd
  case c3 => assumption
  case c4 => exact .tl .hd
  case c5 => exact fld_max_heap
  case c7 => rfl
  with_reducible refine i_gt ?_
  with_reducible refine truthy_b ?_
  refine ⟨fun e => by simp at e; (clear hl; omega), fun _ => ?_⟩
  with_reducible refine X_nn ?_
  with_reducible refine X_for ?_
  with_reducible refine E_call ?_
  with_reducible refine' E_bi (by assumption) (by assumption) ?c2 ?c3 ?c4 ?c5 ?_
  case c2 => exact .tl (.tl (.tl (.tl (.tl (.tl .hd)))))
  case c3 => k_is
  case c4 => boot_by_name
  case c5 => decide
  with_reducible refine C_ty ?_
  with_reducible refine' S_locL (by assumption) ?c1 ?_
  case c1 => exact .h1
  have hn : Builtin.Range.rangeSize 0 w 1 = (w : Int) := by rcases hw with rfl | rfl <;> decide
  have hs1 : Builtin.Range.small 0 w 1 = true := by rcases hw with rfl | rfl <;> decide
  refine C_rng1 S fun r9 h1 k1 hr S => ?_
  refine iter_range S hr hs1 hn fun I o h1 so S => ?_
  refine N_forR (JRs c hp w H.length t t5 H)
    0 1 R.1 S so (.mk (by simpa using ph.tk S.tup)) 3 rfl ?_ ?_ ?_ rfl rfl
  · rintro i vs σ h2 ⟨⟩
    rfl
  · rintro i vs σ h2 @⟨w6, hs', m', i, h2, pw'⟩ hi tk tv o h1 k1 S Qt hQr hQn
    dsimp only [List.set] at S
    have hl' := pw'.len
    simp at hl'
    with_reducible refine X_expr ?_
    with_reducible refine E_meth ?_
    with_reducible refine' E_at (by assumption) (by assumption) ?c2 ?c3 ?c4 ?c5 ?_ ?c7
    case c2 => exact .hd
    case c3 => assumption
    case c4 => exact .tl (.tl .hd)
    case c5 => exact fld_heap
    case c7 => rfl
    with_reducible refine' MC_append ?c0 ?_
    case c0 => exact St.has (by assumption) (by exact .h1)
    with_reducible refine C_bi ?_
    with_reducible refine S_cons ?_
    with_reducible refine E_tuple ?_
    with_reducible refine S_cons ?_
    with_reducible refine' E_glo (by assumption) (by assumption) ?c2 ?c3 ?_
    case c2 => exact .tl (.tl (.tl (.tl (.tl (.tl (.tl .hd))))))
    case c3 => k_is
    with_reducible refine S_cons ?_
    with_reducible refine E_bin ?_
    with_reducible refine' E_loc (by assumption) ?c1 ?_
    case c1 => exact .h2
    with_reducible refine' E_loc (by assumption) ?c1 ?_
    case c1 => exact .t3 .hd
    with_reducible refine i_add ?_
    with_reducible refine S_nil ?_
    with_reducible refine' N_tup (by assumption) ?_
    intro t1 h1 S
    with_reducible refine S_nil ?_
    refine C_append S (by exact .h2) (by exact .tl (.tl .hd)) (fun h1 S => ?_) (by (clear hl; omega))
    with_reducible refine And_none ?_
    with_reducible refine X_nil ?_
    refine hQn _ _ _ _ _ (by first | exact .inl rfl | exact .inr rfl) (S.drop (List.sublist_cons_self _ _)) (.mk ?_)
    rw [List.range_succ, List.map_append, ← List.append_assoc]
    exact (pw'.tk S.tup).snoc ⟨_, _, _, rfl, by simpa using to_tp (S.has .hd)⟩
  · rintro i_ vs σ h2 @⟨w6, hs', m', i_, h2, pw'⟩ rfl h1 k1 S tk
    with_reducible refine Nx_next ?_
    with_reducible refine X_ret ?_
    with_reducible refine' E_loc (by assumption) ?c1 ?_
    case c1 => exact .h2
    have X := S.back hB
    exact q _ _ _ X (Z.now X ne (S.has .hd) (pw'.tk tk) (by simp; (clear hl; omega)))
theorem bind_ {y : Addr} {p : Int × Int} {hs : List Value} {m : Nat} (G : Wd (hd.heap_39 V.w.params) B₀ h) (R : Room A (n + 1)) (Z : Sto B₀ h c sy hp fl H F) (fr : B₀.get? hp = none) (ne : fl ≠ hp) (T : Tp h x [.int 0 t, .int i u]) (T2 : Tp h y [.int p.1 t', .int p.2 u'])
    (i0 : 0 ≤ i) (i1 : i < H.length)
    (q : ∀ h' k', Chg [hp] h h' → Sto B₀ h' c sy hp fl (H.set i.toNat p) F → Q .none h' k') : W V A (call (.ref 243) ([.ref c] ++ [.ref x, .ref y])) Q h k := by
  obtain ⟨hs, m, eh, ph⟩ := Z.hh
  have hl := ph.len
  have sz := Z.sz
  refine' W_enter (binds := [("self", .ref c), ("cell", .ref x), ("value", .ref y)]) G R ?ho ?hcd [(hp, lo hs m)] (by simpa using ⟨eh, fr⟩) (by simp) ?hb ?he ?nn ?nb ?_ ?hcell ?hco ?hgen ?hk
  case ho => k_is
  case hcd => k_is
  case hb => exact BindsTo.of_eq rfl
  case he => repeat constructor
  case nn => decide
  case nb => decide
  case hcell => decide
  case hco => rfl
  case hgen => rfl
  case hk => rfl
  intro A B L h1 k1 G S hB hB' R
  dsimp only at S
  obtain ⟨st, tr, t1, t2, t3, C⟩ := Z.C
  with_reducible refine X_name ?_
  with_reducible refine' E_tI (by assumption) ?c1 ?c2 ?_ ?c4
  case c1 => exact .h1
  case c2 => assumption
  case c4 => rfl
  with_reducible refine' N_st (by assumption) ?c1 ?_
  case c1 => exact .t3 .hd
  intro h1 S
  with_reducible refine X_if0c ?_
  with_reducible refine' E_tI (by assumption) ?c1 ?c2 ?_ ?c4
  case c1 => exact .h1
  case c2 => assumption
  case c4 => rfl
  with_reducible refine' E_glo (by assumption) (by assumption) ?c2 ?c3 ?_
  case c2 => exact .tl (.tl (.tl (.tl .hd)))
  case c3 => k_is
  with_reducible refine q_ie ?_
  refine ⟨fun _ => ?_, fun e => by simp at e⟩
  with_reducible refine X_sub ?_
  with_reducible refine' E_loc (by assumption) ?c1 ?_
  case c1 => exact .h2
  with_reducible refine' E_at (by assumption) (by assumption) ?c2 ?c3 ?c4 ?c5 ?_ ?c7
  case c2 => exact .hd
  case c3 => assumption
  case c4 => exact .tl (.tl .hd)
  case c5 => exact fld_heap
  case c7 => rfl
  with_reducible refine' E_loc (by assumption) ?c1 ?_
  case c1 => exact .t3 .hd
  refine P_lst S (by exact .hd) (by exact .hd) (fun h1 S => ?_) i0 (by (clear hl; omega)) (by omega)
  with_reducible refine X_if0c ?_
  with_reducible refine' E_loc (by assumption) ?c1 ?_
  case c1 => exact .t3 .hd
  with_reducible refine' E_at (by assumption) (by assumption) ?c2 ?c3 ?c4 ?c5 ?_ ?c7
  case c2 => exact .hd
  case c3 => assumption
  case c4 => exact .tl (.tl (.tl (.tl (.tl .hd))))
  case c5 => exact fld_hb
  case c7 => rfl
  with_reducible refine i_lt ?_
  with_reducible refine truthy_b ?_
  refine ⟨fun e => by simp at e; omega, fun _ => ?_⟩
  with_reducible refine X_nil ?_
  have X := S.back hB
  exact q _ _ X (Z.now X ne (S.has .hd) ((ph.tk S.tup).set ⟨_, _, _, rfl, T2.tk S.tup⟩) (by simp; assumption))
theorem new_block_ {f : Int} {a w : Int} (G : Wd (hd.heap_39 V.w.params) B₀ h) (R : Room A (n + 2)) (Z : Sto B₀ h c sy hp fl H F) (fr : B₀.get? hp = none) (ne : fl ≠ hp) (sz : H.length ≤ 80000)
    (hf : F[f.toNat]? = some (a, w)) (f0 : 0 ≤ f) (f1 : f < 2 ^ 62) (hw : w = 1 ∨ w = 2) (hd0 : f = 0 → w = 2)
    (q : ∀ h' k' b t' u', Chg [hp] h h' → Sto B₀ h' c sy hp fl (if f = 0 then H ++ [(0, (H.length : Int)), (0, (H.length : Int) + 1)] else H ++ (6, f) :: (List.range w.toNat).map fun (j : Nat) => (0, (H.length : Int) + 1 + j)) F →
      Tp h' b [.int (if f = 0 then 3 else 2) t', .int H.length u'] → Q (.ref b) h' k') : W V A (call (.ref 320) ([.ref c] ++ [.int f t])) Q h k := by
  obtain ⟨hs, m, eh, ph⟩ := Z.hh
  have hl := ph.len
  refine' W_enter (binds := [("self", .ref c), ("f", .int f t)]) G R ?ho ?hcd [(hp, lo hs m)] (by simpa using ⟨eh, fr⟩) (by simp) ?hb ?he ?nn ?nb ?_ ?hcell ?hco ?hgen ?hk
  case ho => k_is
  case hcd => k_is
  case hb => exact BindsTo.of_eq rfl
  case he => repeat constructor
  case nn => decide
  case nb => decide
  case hcell => decide
  case hco => rfl
  case hgen => rfl
  case hk => rfl
  intro A B L h1 k1 G S hB hB' R
  dsimp only at S
  obtain ⟨st, tr, t1, t2, t3, C⟩ := Z.C
  obtain ⟨tx, an, fn, Y⟩ := Z.Y
  obtain ⟨fs, m', ef, pf⟩ := Z.ff
  with_reducible refine X_ifc ?_
  with_reducible refine' E_loc (by assumption) ?c1 ?_
  case c1 => exact .h1
  with_reducible refine' E_glo (by assumption) (by assumption) ?c2 ?c3 ?_
  case c2 => exact .tl (.tl (.tl .hd))
  case c3 => k_is
  with_reducible refine q_ie ?_
  refine ⟨fun e => ?_, fun e => ?_⟩
  · have e0 : f = 0 := by simpa using e
    with_reducible refine X_ret ?_
    with_reducible refine E_tuple ?_
    with_reducible refine S_cons ?_
    with_reducible refine' E_glo (by assumption) (by assumption) ?c2 ?c3 ?_
    case c2 => exact .tl (.tl (.tl (.tl .hd)))
    case c3 => k_is
    with_reducible refine S_cons ?_
    with_reducible refine' E_mc (by assumption) (by assumption) ?c2 ?c3 ?c4 ?c5 ?_ ?c7
    case c2 => exact .hd
    case c3 => assumption
    case c4 => exact mth_reserve
    case c5 => k_is
    case c7 => rfl
    with_reducible refine S_cons ?_
    with_reducible refine E_int ?_
    with_reducible refine S_nil ?_
    with_reducible refine' Krf_go (by assumption) (by assumption) ?_
    have Z1 := Z.now (S.back hB) ne (S.has .hd) (ph.tk S.tup) Z.sz
    refine reserve_ (w := 2) (G.st S) R Z1 fr ne (by (clear hl; omega)) (.inl rfl) fun h1 k1 t2 x1 Z2 => ?_
    obtain ⟨hs', m', eh', ph'⟩ := Z2.hh
    replace S := S.chgL (ups := [(hp, lo hs' m')]) x1 (.cons .hd .nil) (by simpa using eh')
    have T1 := S.tup
    replace S := S.pool
    with_reducible refine S_nil ?_
    with_reducible refine' N_tup (by assumption) ?_
    intro t1 h1 S
    with_reducible refine Nx_ret ?_
    have X := (S.re T1).back hB
    refine q _ _ _ _ _ X ?_ (by rw [if_pos e0]; exact to_tp (S.has .hd))
    rw [if_pos e0]
    exact Z.now X ne (S.has (.tl .hd)) (by simpa [List.range_succ] using ph'.tk S.tup) (by simp; (clear hl; omega))
  · have e0 : f ≠ 0 := by simpa using e
    with_reducible refine X_nn ?_
    with_reducible refine X_name ?_
    with_reducible refine' E_mc (by assumption) (by assumption) ?c2 ?c3 ?c4 ?c5 ?_ ?c7
    case c2 => exact .hd
    case c3 => assumption
    case c4 => exact mth_reserve
    case c5 => k_is
    case c7 => rfl
    with_reducible refine S_cons ?_
    with_reducible refine E_bin ?_
    with_reducible refine E_int ?_
    with_reducible refine E_meth ?_
    with_reducible refine' E_at (by assumption) (by assumption) ?c2 ?c3 ?c4 ?c5 ?_ ?c7
    case c2 => exact .hd
    case c3 => assumption
    case c4 => exact .hd
    case c5 => exact fld_symbols
    case c7 => rfl
    with_reducible refine' MC_def (by assumption) (by assumption) (by assumption) ?c3 ?_ ?c5
    case c3 => exact mth_arity
    case c5 => rfl
    with_reducible refine' CC_ref (by assumption) (by assumption) ?c2 ?_
    case c2 => k_is
    with_reducible refine' S_locL (by assumption) ?c1 ?_
    case c1 => exact .h1
    with_reducible refine' Krf_go (by assumption) (by assumption) ?_
    have Z1 := Z.now (S.back hB) ne (S.has .hd) (ph.tk S.tup) Z.sz
    obtain ⟨fs, m', ef, pf⟩ := Z1.ff
    refine arity_ (G.st S) R Y ef pf hf f0 (by (clear f0; omega)) fun h1 k1 t1 x1 => ?_
    replace S := S.call0 x1
    with_reducible refine i_add ?_
    with_reducible refine S_nil ?_
    with_reducible refine' Krf_go (by assumption) (by assumption) ?_
    have Z2 := Z.now (S.back hB) ne (S.has .hd) (ph.tk S.tup) Z.sz
    have e1 : (1 : Int) + w = ((1 + w.toNat : Nat) : Int) := by (clear f0 f1 hd0 e0; omega)
    rw [e1]
    refine reserve_ (w := 1 + w.toNat) (G.st S) R Z2 fr ne (by (clear hl; omega)) (by (clear f0 f1 hd0 e0 e1; omega)) fun h1 k1 t2 x2 Z3 => ?_
    obtain ⟨hs', m', eh', ph'⟩ := Z3.hh
    replace S := S.chgL (ups := [(hp, lo hs' m')]) x2 (.cons .hd .nil) (by simpa using eh')
    have T1 := S.tup
    replace S := S.pool
    have hl' := ph'.len
    simp at hl'
    with_reducible refine' N_st (by assumption) ?c1 ?_
    case c1 => exact .h2
    intro h1 S
    with_reducible refine X_sub ?_
    with_reducible refine E_tuple ?_
    with_reducible refine S_cons ?_
    with_reducible refine' E_glo (by assumption) (by assumption) ?c2 ?c3 ?_
    case c2 => exact .tl (.tl (.tl (.tl (.tl .hd))))
    case c3 => k_is
    with_reducible refine' S_locL (by assumption) ?c1 ?_
    case c1 => exact .h1
    with_reducible refine' N_tup (by assumption) ?_
    intro t1 h1 S
    with_reducible refine' E_at (by assumption) (by assumption) ?c2 ?c3 ?c4 ?c5 ?_ ?c7
    case c2 => exact .hd
    case c3 => assumption
    case c4 => exact .tl (.tl .hd)
    case c5 => exact fld_heap
    case c7 => rfl
    with_reducible refine' E_loc (by assumption) ?c1 ?_
    case c1 => exact .h2
    refine P_lst S (by exact .h1) (by exact .tl .hd) (fun h1 S => ?_) (by exact Int.natCast_nonneg _) (by (clear hl hl'; omega)) (by (clear sz e1; omega))
    with_reducible refine X_ret ?_
    with_reducible refine E_tuple ?_
    with_reducible refine S_cons ?_
    with_reducible refine' E_glo (by assumption) (by assumption) ?c2 ?c3 ?_
    case c2 => exact .tl (.tl (.tl (.tl (.tl (.tl .hd)))))
    case c3 => k_is
    with_reducible refine' S_locL (by assumption) ?c1 ?_
    case c1 => exact .h2
    with_reducible refine' N_tup (by assumption) ?_
    intro t1 h1 S
    have X := (S.re T1).back hB
    refine q _ _ _ _ _ X ?_ (by rw [if_neg e0]; exact to_tp (S.has .hd))
    rw [if_neg e0]
    refine Z.now X ne (S.has (by exact .h2)) (m := m') ?_ (by simp; (clear f0 f1 hd0 hl e0 e1 hl'; omega))
    have := (ph'.tk S.tup).set (j := (H.length : Int).toNat) (p := (6, f)) ⟨_, _, _, rfl, to_tp (S.has (.tl .hd))⟩
    have e2 : (H ++ (List.range (1 + w.toNat)).map fun (j : Nat) => (0, (H.length : Int) + j)).set (H.length : Int).toNat (6, f) = H ++ (6, f) :: (List.range w.toNat).map fun (j : Nat) => (0, (H.length : Int) + 1 + j) := by
      rw [show (H.length : Int).toNat = H.length from by simp, List.set_append_right _ _ (Nat.le_refl _)]
      rcases hw with rfl | rfl <;> simp [List.range_succ] <;> exact Int.natCast_succ _
    rw [e2] at this
    exact this
end
end
section
open PySem PySem.W PyProof.Rows PySem.Calls
set_option hygiene false
structure Cls (K : Frag) (C : Addr) : Prop where
  a : findIn K (.ref C) "__setattr__" = some (some (.builtin "object.__setattr__"))
  b : plainOver K C = true
  d : hasDictIn K C = true
section
variable {P : Params}
theorem cls406 : Cls (hd.heap_39 P) 406 := ⟨by k_is, by k_is, by k_is⟩
theorem cls380 : Cls (hd.heap_39 P) 380 := ⟨by k_is, by k_is, by k_is⟩
theorem cls154 : Cls (hd.heap_39 P) 154 := ⟨by k_is, by k_is, by k_is⟩
theorem mk406 : makesIn (hd.heap_39 P) 406 = true ∧ findIn (hd.heap_39 P) (.ref 406) "__init__" = some (some (.ref 396)) ∧ typeIn (hd.heap_39 P) (.ref 396) = some (.type "function") := ⟨by k_is, by k_is, by k_is⟩
theorem mk380 : makesIn (hd.heap_39 P) 380 = true ∧ findIn (hd.heap_39 P) (.ref 380) "__init__" = some (some (.ref 194)) ∧ typeIn (hd.heap_39 P) (.ref 194) = some (.type "function") := ⟨by k_is, by k_is, by k_is⟩
theorem mk154 : makesIn (hd.heap_39 P) 154 = true ∧ findIn (hd.heap_39 P) (.ref 154) "__init__" = some (some (.ref 81)) ∧ typeIn (hd.heap_39 P) (.ref 81) = some (.type "function") := ⟨by k_is, by k_is, by k_is⟩
end
section
variable {V : Vw} {B₀ h : Heap} {A : Around} {k : Nat} {Q : Value → Heap → Nat → Prop} {c x dx mt sy hp fl : Addr} {tag i : Int} {t u : Tok} {n : Nat} {H F : List (Int × Int)}
theorem init406_ (G : Wd (hd.heap_39 V.w.params) B₀ h) (R : Room A (n + 2)) (Z : Sto B₀ h c sy hp fl H F) (e1 : h.get? x = some (instObj 406 dx)) (e2 : h.get? dx = some (dictOf [] 0)) (f1 : B₀.get? x = none) (f2 : B₀.get? dx = none) (ne : x ≠ dx)
    (n1 : hp ≠ dx) (n2 : hp ≠ x)
    (q : ∀ h' k' es m t mt o, Chg [x, dx] h h' → h'.get? x = some (instObj 406 dx) → h'.get? dx = some (dictOf es m) → Ents es [("span", .int (H.length + 1) t), ("met", .ref mt)] → h.get? mt = none → h'.get? mt = some o → IS o (fun _ => false) 0 → Q .none h' k') :
    CW V A (.ref 396) (.ref x :: [.ref c]) Q h k := by
  obtain ⟨st, tr, t1, t2, t3, C⟩ := Z.C
  obtain ⟨hs, mm, eh, ph⟩ := Z.hh
  have hl := ph.len
  have sz := Z.sz
  refine' C_enter (binds := [("self", .ref x), ("store", .ref c)]) G R ?ho ?hcd [(x, instObj 406 dx), (dx, dictOf [] 0)] (by simpa using ⟨⟨e1, f1⟩, e2, f2⟩) (by simpa using ne) ?hb ?he ?nn ?nb ?_ ?hcell ?hco ?hgen ?hk
  case ho => k_is
  case hcd => k_is
  case hb => exact BindsTo.of_eq rfl
  case he => repeat constructor
  case nn => decide
  case nb => decide
  case hcell => decide
  case hco => rfl
  case hgen => rfl
  case hk => rfl
  intro A B L h1 k1 G S hB hB' R
  dsimp only at S
  have eh' : B.get? hp = some (lo hs mm) := hB _ _ eh (by simp; exact ⟨n2, n1⟩)
  with_reducible refine X_attr ?_
  with_reducible refine E_bin ?_
  with_reducible refine E_call ?_
  with_reducible refine' E_bi (by assumption) (by assumption) ?c2 ?c3 ?c4 ?c5 ?_
  case c2 => exact .tl (.tl .hd)
  case c3 => k_is
  case c4 => boot_by_name
  case c5 => decide
  with_reducible refine C_bi ?_
  with_reducible refine S_cons ?_
  with_reducible refine' E_at (by assumption) (by assumption) ?c2 ?c3 ?c4 ?c5 ?_ ?c7
  case c2 => exact .h1
  case c3 => assumption
  case c4 => exact .tl (.tl .hd)
  case c5 => exact fld_heap
  case c7 => rfl
  with_reducible refine S_nil ?_
  refine C_len (S.base _ _ eh') (by omega) fun t5 k5 => ?_
  rw [hl]
  with_reducible refine E_int ?_
  with_reducible refine i_add ?_
  with_reducible refine' E_loc (by assumption) ?c1 ?_
  case c1 => exact .hd
  refine A_set (τ := fun o => [(x, instObj 406 dx), (dx, o)]) G S (by exact .hd) (by exact .h1) .nil cls406.a cls406.b (by k_is) cls406.d rfl (by decide) (fun o => by exact .tl .hd) fun es1 m1 h1 E1 L1 S => ?_
  with_reducible refine X_attr ?_
  with_reducible refine E_call ?_
  with_reducible refine' E_bi (by assumption) (by assumption) ?c2 ?c3 ?c4 ?c5 ?_
  case c2 => exact .tl (.tl (.tl .hd))
  case c3 => k_is
  case c4 => boot_by_name
  case c5 => decide
  with_reducible refine C_ty ?_
  with_reducible refine S_nil ?_
  have SS := S
  refine C_set0 S fun a o h2 D S => ?_
  with_reducible refine' E_loc (by assumption) ?c1 ?_
  case c1 => exact .hd
  refine A_set (τ := fun o2 => [(a, o), (x, instObj 406 dx), (dx, o2)]) G S (by exact .h1) (by exact .h2) E1 cls406.a cls406.b (by k_is) cls406.d (by rfl) (by rw [L1]; decide) (fun o => by exact .tl (.tl .hd)) fun es2 m2 h2 E2 L2 S => ?_
  with_reducible refine X_nil ?_
  refine q _ _ es2 m2 _ a o (S.back hB) (S.has (by exact .h1)) (S.has (by exact .h2)) E2 ?_ (S.has (by exact .hd)) D
  have nd := S.nd
  cases q9 : h.get? a with
  | none => rfl
  | some o9 =>
    have := hB _ _ q9 (by simp at nd ⊢; exact nd.1)
    rw [(S.led (a, o) (.head _)).2.2] at this
    cases this
theorem add_ {a b : Addr} {l r : Int × Int} {t1 u1 t2 u2 : Tok} {es : List DictEntry} {m N : Nat} {sp : Int} {ts : Tok} {o : Obj} {D : Int → Bool} (G : Wd (hd.heap_39 V.w.params) B₀ h) (R : Room A (n + 1)) (e1 : h.get? x = some (instObj 406 dx)) (e2 : h.get? dx = some (dictOf es m))
    (E : Ents es [("span", .int sp ts), ("met", .ref mt)]) (e3 : h.get? mt = some o) (f3 : B₀.get? mt = none) (I : IS o D N) (T1 : Tp h a [.int l.1 t1, .int l.2 u1]) (T2 : Tp h b [.int r.1 t2, .int r.2 u2]) (hN : N ≤ 900) (s0 : 0 ≤ sp) (s1 : sp < 2 ^ 60)
    (q : ∀ h' k' o', Chg [mt] h h' → h'.get? mt = some o' → IS o' (fun j => D j || decide (j = l.2 * sp + r.2)) (if D (l.2 * sp + r.2) then N else N + 1) → Q (.bool (!D (l.2 * sp + r.2))) h' k') :
    W V A (call (.ref 403) ([.ref x] ++ [.ref a, .ref b])) Q h k := by
  refine' W_enter (binds := [("self", .ref x), ("left", .ref a), ("right", .ref b)]) G R ?ho ?hcd [(mt, o)] (by simpa using ⟨e3, f3⟩) (by simp) ?hb ?he ?nn ?nb ?_ ?hcell ?hco ?hgen ?hk
  case ho => k_is
  case hcd => k_is
  case hb => exact BindsTo.of_eq rfl
  case he => repeat constructor
  case nn => decide
  case nb => decide
  case hcell => decide
  case hco => rfl
  case hgen => rfl
  case hk => rfl
  intro A B L h1 k1 G S hB hB' R
  dsimp only at S
  have n1 : x ≠ mt := fun q => by
    subst q; rw [e1] at e3; cases e3
    exact absurd (I V.prog V.w).1.1 (by simp)
  have n2 : dx ≠ mt := fun q => by
    subst q; rw [e2] at e3; cases e3
    exact absurd (Value.type.inj (I V.prog V.w).1.1) (by decide)
  have C : Inst B x 406 [("span", .int sp ts), ("met", .ref mt)] := ⟨⟨dx, es, m, hB _ _ e1 (by simpa using n1), hB _ _ e2 (by simpa using n2), E⟩, ps_nd⟩
  have G := G.self
  with_reducible refine X_name ?_
  with_reducible refine E_bin ?_
  with_reducible refine E_bin ?_
  with_reducible refine' E_tI (by assumption) ?c1 ?c2 ?_ ?c4
  case c1 => exact .h1
  case c2 => assumption
  case c4 => rfl
  with_reducible refine' E_at (by assumption) (by assumption) ?c2 ?c3 ?c4 ?c5 ?_ ?c7
  case c2 => exact .hd
  case c3 => assumption
  case c4 => exact .hd
  case c5 => exact fld_span
  case c7 => rfl
  refine i_mul ?_ (IntMulOk.of_right (intBits_le_64 (by (clear s1; omega)) (by (clear s0; omega))))
  with_reducible refine' E_tI (by assumption) ?c1 ?c2 ?_ ?c4
  case c1 => exact .h2
  case c2 => assumption
  case c4 => rfl
  with_reducible refine i_add ?_
  with_reducible refine' N_st (by assumption) ?c1 ?_
  case c1 => exact .t3 .hd
  intro h1 S
  with_reducible refine X_ifc ?_
  with_reducible refine' E_loc (by assumption) ?c1 ?_
  case c1 => exact .t3 .hd
  with_reducible refine' E_at (by assumption) (by assumption) ?c2 ?c3 ?c4 ?c5 ?_ ?c7
  case c2 => exact .hd
  case c3 => assumption
  case c4 => exact .tl .hd
  case c5 => exact fld_met
  case c7 => rfl
  refine in_set (S.has .hd) I (by omega) ?_
  with_reducible refine truthy_b ?_
  refine ⟨fun e => ?_, fun e => ?_⟩
  · with_reducible refine X_ret ?_
    with_reducible refine E_bool ?_
    with_reducible refine Nx_ret ?_
    rw [e] at q
    have e9 : (fun j => D j || decide (j = l.2 * sp + r.2)) = D := by
      funext j
      by_cases hj : j = l.2 * sp + r.2
      · subst hj; rw [e]; rfl
      · simp [hj]
    rw [e9] at q
    exact q _ _ _ (S.back hB) (S.has .hd) (by simpa using I)
  · with_reducible refine X_nn ?_
    with_reducible refine X_expr ?_
    with_reducible refine E_meth ?_
    with_reducible refine' E_at (by assumption) (by assumption) ?c2 ?c3 ?c4 ?c5 ?_ ?c7
    case c2 => exact .hd
    case c3 => assumption
    case c4 => exact .tl .hd
    case c5 => exact fld_met
    case c7 => rfl
    refine MC_sadd (S.has .hd) I (by omega) ?_
    with_reducible refine C_bi ?_
    with_reducible refine' S_locL (by assumption) ?c1 ?_
    case c1 => exact .t3 .hd
    refine C_sadd (τ := fun o => [(mt, o)]) S .hd I (by omega) (fun _ => .hd) fun o' h2 I2 S => ?_
    with_reducible refine And_none ?_
    with_reducible refine X_ret ?_
    with_reducible refine E_bool ?_
    rw [e] at q
    rw [e] at I2
    exact q _ _ _ (S.back hB) (S.has .hd) I2
end
end
section
open PySem PySem.W PyProof.Rows PySem.Calls
set_option hygiene true
inductive Tr where
  | v (n : Int) | a (n : Int) | i (n : Int) | s1 (f : Int) (x : Tr) | s2 (f : Int) (x y : Tr)
noncomputable def lcell : Tr → Int × Int
  | .v n => (0, n) | .a n => (4, n) | .i n => (5, n) | _ => (0, 0)
noncomputable def Tr.leaf : Tr → Bool
  | .v _ | .a _ | .i _ => true
  | _ => false
noncomputable def Tr.fn : Tr → Int
  | .s1 f _ => f | .s2 f _ _ => f | _ => -1
noncomputable def Tr.kids : Tr → List Tr
  | .s1 _ x => [x] | .s2 _ x y => [x, y] | _ => []
noncomputable def Tr.sz : Tr → Nat
  | .s1 _ x => x.sz + 1 | .s2 _ x y => x.sz + y.sz + 1 | _ => 1
noncomputable def Tr.ok : Tr → Prop
  | .v n => 0 ≤ n ∧ n < 4 | .s1 _ x => x.ok | .s2 _ x y => x.ok ∧ y.ok | _ => True
noncomputable def res (ev : Int → Tr) : Tr → Tr
  | .v n => ev n | .s1 f x => .s1 f (res ev x) | .s2 f x y => .s2 f (res ev x) (res ev y) | t => t
structure Bd (H : List (Int × Int)) (ev : Int → Tr) : Prop where
  lf : ∀ k, 0 ≤ k → k < 4 → (ev k).leaf = true
  dr : ∀ k, 0 ≤ k → k < 4 → ∃ m, Der H m (0, k) (lcell (ev k))
  id : ∀ k j, 0 ≤ k → k < 4 → ev k = .v j → 0 ≤ j ∧ j < 4 ∧ ev j = .v j
inductive Rep (H F : List (Int × Int)) : Int × Int → Tr → List Int → Prop
  | v {n} : Rep H F (0, n) (.v n) []
  | a {n} : Rep H F (4, n) (.a n) []
  | i {n} : Rep H F (5, n) (.i n) []
  | s1 {f b a p x as} : 0 < f → f < 2 ^ 60 → 0 ≤ b → b < 2 ^ 60 → H[b.toNat]? = some (6, f) → F[f.toNat]? = some (a, 1) → H[(b + 1).toNat]? = some p → Rep H F p x as → Rep H F (2, b) (.s1 f x) (b :: as)
  | s2 {f b a p q x y as bs} : 0 < f → f < 2 ^ 60 → 0 ≤ b → b < 2 ^ 60 → H[b.toNat]? = some (6, f) → F[f.toNat]? = some (a, 2) → H[(b + 1).toNat]? = some p → H[(b + 2).toNat]? = some q → Rep H F p x as → Rep H F q y bs → Rep H F (2, b) (.s2 f x y) (b :: (as ++ bs))
  | l {b p q x y as bs} : 0 ≤ b → b < 2 ^ 60 → H[b.toNat]? = some p → H[(b + 1).toNat]? = some q → Rep H F p x as → Rep H F q y bs → Rep H F (3, b) (.s2 0 x y) (b :: (as ++ bs))
section
variable {H F : List (Int × Int)} {p : Int × Int} {t u : Tr} {as : List Int} {ev : Int → Tr}
theorem Rep.tag (r : Rep H F p t as) : (t.leaf = true ∧ (p = lcell t ∧ as = [])) ∨ (t.leaf = false ∧ (p.1 = 2 ∨ p.1 = 3)) := by cases r <;> simp [Tr.leaf, lcell]
theorem Rep.root (r : Rep H F p t as) (o : t.ok) (B : Bd H ev) :
    ∃ m q, Der H m p q ∧ (((res ev t).leaf = true ∧ t.leaf = true ∧ q = lcell (res ev t)) ∨ (t.leaf = false ∧ q = p)) := by
  cases r with
  | @v n =>
    obtain ⟨m, d⟩ := B.dr n o.1 o.2
    exact ⟨m, _, d, .inl ⟨B.lf n o.1 o.2, rfl, rfl⟩⟩
  | a => exact ⟨0, _, .con (by simp) (by simp), .inl ⟨rfl, rfl, rfl⟩⟩
  | i => exact ⟨0, _, .con (by simp) (by simp), .inl ⟨rfl, rfl, rfl⟩⟩
  | s1 => exact ⟨0, _, .con (by simp) (by simp), .inr ⟨rfl, rfl⟩⟩
  | s2 => exact ⟨0, _, .con (by simp) (by simp), .inr ⟨rfl, rfl⟩⟩
  | l => exact ⟨0, _, .con (by simp) (by simp), .inr ⟨rfl, rfl⟩⟩
theorem some_lt {α : Type} {l : List α} {n : Nat} {x : α} (e : l[n]? = some x) : n < l.length := by
  rcases Nat.lt_or_ge n l.length with h | h
  · exact h
  · rw [List.getElem?_eq_none h] at e; cases e
inductive RepC (H F : List (Int × Int)) (p : Int × Int) (t : Tr) (as : List Int) : Prop
  | mk (ks : List ((Int × Int) × Tr × List Int)) (c1 : p.1 = 2 ∨ p.1 = 3) (c2 : Shape H p t.fn) (c3 : HeadOk H F p.1 p.2 t.fn ks.length) (c4 : ks.length = 1 ∨ ks.length = 2) (c5 : t.kids = ks.map (·.2.1)) (c6 : as = p.2 :: ks.flatMap (·.2.2))
    (c7 : 0 ≤ p.2) (c8 : p.2 < 2 ^ 60) (c9 : p.2 < H.length) (c10 : ∀ (j : Nat) (k : (Int × Int) × Tr × List Int), ks[j]? = some k → H[(blk p + j).toNat]? = some k.1 ∧ Rep H F k.1 k.2.1 k.2.2) (c11 : p.1 = 3 ↔ t.fn = 0)
theorem Rep.cmp (r : Rep H F p t as) (l : t.leaf = false) : RepC H F p t as := by
  cases r with
  | v => cases l
  | a => cases l
  | i => cases l
  | @s1 f b a p x as f0 f1 b0 b1 h1 h2 h3 r =>
    refine ⟨[(p, x, as)], .inl rfl, .inr ⟨rfl, b0, by (clear b0; omega), h1⟩, .inr ⟨rfl, b0, by omega, by simp [Tr.fn]; exact Int.le_of_lt (by assumption), by simp [Tr.fn]; (clear f0; omega), h1, a, h2⟩, .inl rfl, rfl, by simp, b0, b1, by have := some_lt h1; (clear b0; omega), ?_, by simp [Tr.fn]; (clear f1; omega)⟩
    intro j k e
    match j with
    | 0 => simp at e; subst e; exact ⟨by simpa [blk] using h3, r⟩
    | j + 1 => simp at e
  | @s2 f b a p q x y as bs f0 f1 b0 b1 h1 h2 h3 h4 r r' =>
    refine ⟨[(p, x, as), (q, y, bs)], .inl rfl, .inr ⟨rfl, b0, by omega, h1⟩, .inr ⟨rfl, b0, by omega, by simp [Tr.fn]; exact Int.le_of_lt (by assumption), by simp [Tr.fn]; omega, h1, a, h2⟩, .inr rfl, rfl, by simp, b0, b1, by have := some_lt h1; omega, ?_, by simp [Tr.fn]; omega⟩
    intro j k e
    match j with
    | 0 => simp at e; subst e; exact ⟨by simpa [blk] using h3, r⟩
    | 1 => simp at e; subst e; exact ⟨by rw [← h4]; congr 2; simp [blk]; omega, r'⟩
    | j + 2 => simp at e
  | @l b p q x y as bs b0 b1 h3 h4 r r' =>
    refine ⟨[(p, x, as), (q, y, bs)], .inr rfl, .inl ⟨rfl, rfl⟩, .inl ⟨rfl, rfl, rfl⟩, .inr rfl, rfl, by simp, b0, b1, by have := some_lt h3; (clear b0; omega), ?_, by simp [Tr.fn]⟩
    intro j k e
    match j with
    | 0 => simp at e; subst e; exact ⟨by simpa [blk] using h3, r⟩
    | 1 => simp at e; subst e; exact ⟨by rw [← h4]; congr 2, r'⟩
    | j + 2 => simp at e
theorem HeadOk.same {H F : List (Int × Int)} {p q : Int × Int} {f w w' : Int} (x : HeadOk H F p.1 p.2 f w) (y : HeadOk H F q.1 q.2 f w') (e : p.1 = 3 ↔ q.1 = 3) : w = w' := by
  rcases x with ⟨a, b, c⟩ | ⟨a, _, _, _, _, _, a1, b1⟩ <;> rcases y with ⟨a', b', c'⟩ | ⟨a', _, _, _, _, _, a2, b2⟩
  · omega
  · omega
  · omega
  · rw [b1] at b2; cases b2; rfl

noncomputable abbrev PS := List (Int × Int)
noncomputable def vstep (a b : Int) (ps : PS) : Option PS :=
  if ps.lookup a = none ∧ (ps.map Prod.swap).lookup b = none then some (ps ++ [(a, b)]) else if ps.lookup a = some b then some ps else none
noncomputable def va : Tr → Tr → PS → Option PS
  | .v a, u, ps => match u with | .v b => vstep a b ps | _ => none
  | .a n, u, ps => match u with | .a m => if n = m then some ps else none | _ => none
  | .i n, u, ps => match u with | .i m => if n = m then some ps else none | _ => none
  | .s1 f x, u, ps => match u with | .s1 g y => if f = g then va x y ps else none | _ => none
  | .s2 f x1 x2, u, ps => match u with | .s2 g y1 y2 => if f = g then (va x1 y1 ps).bind fun ps => va x2 y2 ps else none | _ => none
noncomputable def vaL : List (Tr × Tr) → PS → Option PS
  | [], ps => some ps
  | (t, u) :: r, ps => (va t u ps).bind (vaL r)
theorem res_leaf (l : t.leaf = false) : (res ev t).leaf = false ∧ (res ev t).fn = t.fn ∧ (res ev t).kids = t.kids.map (res ev) := by cases t <;> simp_all [Tr.leaf, res, Tr.fn, Tr.kids]
theorem vaL_cmp {r : List (Tr × Tr)} {ps : PS} (l : t.leaf = false) (m : u.leaf = false) (e : t.fn = u.fn) (n : t.kids.length = u.kids.length) : vaL ((t, u) :: r) ps = vaL (List.zip t.kids u.kids ++ r) ps := by
  cases t <;> cases u <;> simp_all [Tr.leaf, Tr.fn, Tr.kids, vaL, va]
  rw [Option.bind_assoc]
theorem va_fn {ps : PS} (l : t.leaf = false) (m : u.leaf = false) (e : t.fn ≠ u.fn) : va t u ps = none := by
  cases t <;> cases u <;> simp_all [Tr.leaf, Tr.fn, va]
theorem va_mix {ps : PS} (l : t.leaf ≠ u.leaf) : va t u ps = none := by
  cases t <;> cases u <;> simp_all [Tr.leaf, va]
theorem va_leaf {ps : PS} (l : t.leaf = true) (m : u.leaf = true) (n : (lcell t).1 ≠ 0 ∨ (lcell u).1 ≠ 0) : va t u ps = if lcell t = lcell u then some ps else none := by
  cases t <;> cases u <;> simp_all [Tr.leaf, lcell, va]
theorem lcell_var (l : t.leaf = true) (e : (lcell t).1 = 0) : ∃ n, t = .v n := by
  cases t <;> simp_all [Tr.leaf, lcell]
theorem lcell_tag (l : t.leaf = true) : (lcell t).1 = 0 ∨ (lcell t).1 = 4 ∨ (lcell t).1 = 5 := by
  cases t <;> simp_all [Tr.leaf, lcell]
noncomputable def vb (r : Int × Int) : Bool := r.1 == 0 || r.1 == 1
noncomputable def cb (r : Int × Int) : Bool := r.1 == 2 || r.1 == 3
noncomputable abbrev RootK (ev : Int → Tr) (t : Tr) (p q : Int × Int) : Prop := ((res ev t).leaf = true ∧ t.leaf = true ∧ q = lcell (res ev t)) ∨ (t.leaf = false ∧ q = p)
theorem Rep.tagc (r : Rep H F p t as) (l : t.leaf = false) : p.1 = 2 ∨ p.1 = 3 := by rcases r.tag with ⟨a, _⟩ | ⟨_, b⟩; rw [l] at a; cases a; exact b
theorem K_var {q : Int × Int} (r : Rep H F p t as) (K : RootK ev t p q) (e : vb q = true) : ∃ n, res ev t = .v n ∧ q = (0, n) ∧ t.leaf = true := by
  rcases K with ⟨a, b, rfl⟩ | ⟨a, rfl⟩
  · rcases lcell_tag a with h | h | h
    · obtain ⟨n, hn⟩ := lcell_var a h
      exact ⟨n, hn, by rw [hn]; rfl, b⟩
    · simp [vb, h] at e
    · simp [vb, h] at e
  · rcases r.tagc a with h | h <;> simp [vb, h] at e
theorem K_nvar {q : Int × Int} (K : RootK ev t p q) (e : vb q = false) : ∀ n, res ev t ≠ .v n := by
  intro n hn
  rcases K with ⟨a, b, rfl⟩ | ⟨a, rfl⟩
  · rw [hn] at e; simp [vb, lcell] at e
  · have := (res_leaf (ev := ev) a).1
    rw [hn] at this; cases this
theorem K_cmp {q : Int × Int} (K : RootK ev t p q) (e : cb q = true) : t.leaf = false ∧ q = p := by
  rcases K with ⟨a, b, rfl⟩ | x
  · rcases lcell_tag a with h | h | h <;> simp [cb, h] at e
  · exact x
theorem K_ncmp {q : Int × Int} (r : Rep H F p t as) (K : RootK ev t p q) (e : cb q = false) : (res ev t).leaf = true ∧ t.leaf = true ∧ q = lcell (res ev t) := by
  rcases K with x | ⟨a, rfl⟩
  · exact x
  · rcases r.tagc a with h | h <;> simp [cb, h] at e
theorem va_v1 {ps : PS} {n : Int} (h : ∀ m, u ≠ .v m) : va (.v n) u ps = none := by cases u <;> simp_all [va]
theorem va_v2 {ps : PS} {n : Int} (h : ∀ m, t ≠ .v m) : va t (.v n) ps = none := by cases t <;> simp_all [va]
theorem kids_sz (l : t.leaf = false) : (t.kids.map Tr.sz).sum + 1 = t.sz := by cases t <;> simp_all [Tr.leaf, Tr.kids, Tr.sz]
theorem kids_ok (o : t.ok) : ∀ x ∈ t.kids, x.ok := by cases t <;> simp_all [Tr.kids, Tr.ok]
noncomputable abbrev kcell (ks : List ((Int × Int) × Tr × List Int)) (j : Nat) : Int × Int := ks[j]?.elim (0, 0) (·.1)
theorem zip_rng {ks1 ks2 : List ((Int × Int) × Tr × List Int)} (e : ks1.length = ks2.length) (h : ks1.length = 1 ∨ ks1.length = 2) :
    (List.range ks1.length).map (fun j => (kcell ks1 (ks1.length - 1 - j), kcell ks2 (ks1.length - 1 - j))) = (List.zip ks1 ks2).reverse.map fun k => (k.1.1, k.2.1) := by
  match ks1, ks2 with
  | [a], [b] => rfl
  | [a, b], [c, d] => rfl
  | [], _ => simp at h
  | [a], [] => cases e
  | [a], _ :: _ :: _ => simp at e
  | [_, _], [] => cases e
  | [_, _], [_] => simp at e
  | [_, _], _ :: _ :: _ :: _ => simp at e
  | _ :: _ :: _ :: _, _ => simp at h
end
end
section
open PySem PySem.W PyProof.Rows PySem.Calls
set_option hygiene true
structure En where
  p : Int × Int
  q : Int × Int
  t : Tr
  u : Tr
  as : List Int
  bs : List Int
structure En.Good (H F : List (Int × Int)) (e : En) : Prop where
  l : Rep H F e.p e.t e.as
  r : Rep H F e.q e.u e.bs
  ok : e.t.ok
  ok' : e.u.ok
structure VInv (V : Vw) (H F : List (Int × Int)) (ev : Int → Tr) (h : Heap) (cnt : Nat) (z : Option PS) (ws : List Value) (ft fb fm : Obj) (E : List En) (ps : PS) : Prop where
  w : All2 (WAt h) ws (E.map fun e => (e.p, e.q))
  g : ∀ e ∈ E, e.Good H F
  d1 : ∃ kf, ft.IsDictOf (intKind V.prog V.w) kf ∧ KV kf ps
  d2 : ∃ kb, fb.IsDictOf (intKind V.prog V.w) kb ∧ KV kb (ps.map Prod.swap)
  s : ∃ D N, IS fm D N ∧ N + cnt ≤ 200 ∧ ∀ a ∈ E.flatMap (·.as), ∀ r, 0 ≤ r → r ≤ (H.length : Int) → D (a * (H.length + 1) + r) = false
  nd : (E.flatMap (·.as)).Nodup
  z : vaL (E.reverse.map fun e => (res ev e.t, res ev e.u)) ps = z
  m : cnt = (E.map (·.t.sz)).sum
  b : ps.length + cnt ≤ 300
section
variable {V : Vw} {H F : List (Int × Int)} {ev : Int → Tr} {h h' : Heap} {m : Nat} {z : Option PS} {ws ws' : List Value} {ft fb fm ft' fb' fm' : Obj} {E' : List En} {e : En} {ps ps' : PS}
theorem VInv.z' (I : VInv V H F ev h m z ws ft fb fm (E'.concat e) ps) : (va (res ev e.t) (res ev e.u) ps).bind (vaL (E'.reverse.map fun e => (res ev e.t, res ev e.u))) = z := by
  have := I.z
  rw [List.concat_eq_append, List.reverse_append] at this
  exact this
theorem VInv.fail (I : VInv V H F ev h m z ws ft fb fm (E'.concat e) ps) (n : va (res ev e.t) (res ev e.u) ps = none) : z.isSome = false := by
  rw [← I.z', n]; rfl
theorem VInv.m' (I : VInv V H F ev h m z ws ft fb fm (E'.concat e) ps) : m = (E'.map (·.t.sz)).sum + e.t.sz := by
  rw [I.m]; simp
theorem VInv.pop (I : VInv V H F ev h m z ws ft fb fm (E'.concat e) ps) (hs : 1 ≤ e.t.sz) (W9 : All2 (WAt h') ws' (E'.map fun e => (e.p, e.q))) (d1 : ∃ kf, ft'.IsDictOf (intKind V.prog V.w) kf ∧ KV kf ps') (d2 : ∃ kb, fb'.IsDictOf (intKind V.prog V.w) kb ∧ KV kb (ps'.map Prod.swap))
    (hz : va (res ev e.t) (res ev e.u) ps = some ps') (hl : ps'.length ≤ ps.length + 1) : VInv V H F ev h' (E'.map (·.t.sz)).sum z ws' ft' fb' fm E' ps' := by
  have hm := I.m'
  have hb := I.b
  obtain ⟨D, N, a, b, c⟩ := I.s
  have nd := I.nd
  rw [List.concat_eq_append, List.flatMap_append] at nd
  refine ⟨W9, fun e he => I.g e (by simp [he]), d1, d2, ⟨D, N, a, by omega, fun x hx => c x ?_⟩, (List.nodup_append.mp nd).1, ?_, rfl, by omega⟩
  · rw [List.concat_eq_append, List.flatMap_append]; exact List.mem_append_left _ hx
  · rw [← I.z', hz]; rfl
theorem VInv.push {ks1 ks2 : List ((Int × Int) × Tr × List Int)} {D : Int → Bool} {N N' : Nat} (I : VInv V H F ev h m z ws ft fb fm (E'.concat e) ps) (hs : N + m ≤ 200) (hN : N' ≤ N + 1)
    (hD : ∀ a ∈ (E'.concat e).flatMap (·.as), ∀ r, 0 ≤ r → r ≤ (H.length : Int) → D (a * (H.length + 1) + r) = false)
    (W9 : All2 (WAt h') ws' (E'.map (fun e => (e.p, e.q)) ++ (List.zip ks1 ks2).reverse.map fun k => (k.1.1, k.2.1))) (IS' : IS fm' (fun j => D j || decide (j = e.p.2 * (H.length + 1) + e.q.2)) N')
    (l : e.t.leaf = false) (r : e.u.leaf = false) (ef : e.t.fn = e.u.fn) (k1 : e.t.kids = ks1.map (·.2.1)) (k2 : e.u.kids = ks2.map (·.2.1)) (kl : ks1.length = ks2.length) (a1 : e.as = e.p.2 :: ks1.flatMap (·.2.2))
    (ro : 0 ≤ e.q.2) (rl : e.q.2 ≤ H.length)
    (g1 : ∀ k ∈ ks1, Rep H F k.1 k.2.1 k.2.2) (g2 : ∀ k ∈ ks2, Rep H F k.1 k.2.1 k.2.2) (oo1 : ∀ t ∈ e.t.kids, t.ok) (oo2 : ∀ t ∈ e.u.kids, t.ok) (hsz : (ks1.map (·.2.1.sz)).sum + 1 = e.t.sz) :
    VInv V H F ev h' ((E'.map (·.t.sz)).sum + (ks1.map (·.2.1.sz)).sum) z ws' ft fb fm' (E' ++ (List.zip ks1 ks2).reverse.map fun k => ⟨k.1.1, k.2.1, k.1.2.1, k.2.2.1, k.1.2.2, k.2.2.2⟩) ps := by
  have hm := I.m'
  have hb := I.b
  have nd := I.nd
  have hf : ((List.zip ks1 ks2).reverse.map fun k => (⟨k.1.1, k.2.1, k.1.2.1, k.2.2.1, k.1.2.2, k.2.2.2⟩ : En)).flatMap (·.as) = ks1.reverse.flatMap (·.2.2) := by
    rw [List.flatMap_map, ← List.map_fst_zip (l₁ := ks1) (l₂ := ks2) (by omega), ← List.map_reverse, List.flatMap_map, List.map_fst_zip (by omega)]
  have hp : (ks1.reverse.flatMap fun k => k.2.2).Perm (ks1.flatMap fun k => k.2.2) := (List.reverse_perm _).flatMap_right _
  rw [List.concat_eq_append, List.flatMap_append] at nd hD
  have he : [e].flatMap (·.as) = e.p.2 :: ks1.flatMap (·.2.2) := by simp [a1]
  rw [he] at nd hD
  refine ⟨by rw [List.map_append, List.map_map]; exact W9, fun x hx => ?_, I.d1, I.d2, ⟨_, N', IS', by omega, fun a ha r r0 r1 => ?_⟩, ?_, ?_, ?_, by omega⟩
  · rcases List.mem_append.mp hx with hx | hx
    · exact I.g x (by simp [hx])
    · obtain ⟨⟨ka, kb⟩, hk, rfl⟩ := List.mem_map.mp hx
      obtain ⟨m1, m2⟩ := List.of_mem_zip (List.mem_reverse.mp hk)
      exact ⟨g1 _ m1, g2 _ m2, oo1 _ (k1 ▸ List.mem_map_of_mem m1), oo2 _ (k2 ▸ List.mem_map_of_mem m2)⟩
  · rw [List.flatMap_append, hf] at ha
    have ha' : a ∈ E'.flatMap (·.as) ∨ a ∈ ks1.flatMap (·.2.2) := (List.mem_append.mp ha).imp_right fun h => hp.mem_iff.mp h
    have h1 : D (a * (H.length + 1) + r) = false := hD a (by
      rcases ha' with h | h
      · exact List.mem_append_left _ h
      · exact List.mem_append_right _ (.tail _ h)) r r0 r1
    have hne : a ≠ e.p.2 := by
      rintro rfl
      rcases ha' with h | h
      · exact (List.nodup_append.mp nd).2.2 _ h _ (.head _) rfl
      · exact (List.nodup_cons.mp (List.nodup_append.mp nd).2.1).1 h
    have h2 : ¬ (a * ((H.length : Int) + 1) + r = e.p.2 * (H.length + 1) + e.q.2) := by
      intro q
      have s0 : ((H.length : Int) + 1) ≠ 0 := by omega
      have d1 : (a * ((H.length : Int) + 1) + r) / ((H.length : Int) + 1) = a := by
        rw [Int.add_comm, Int.add_mul_ediv_right _ _ s0, Int.ediv_eq_zero_of_lt r0 (by omega), Int.zero_add]
      have d2 : (e.p.2 * ((H.length : Int) + 1) + e.q.2) / ((H.length : Int) + 1) = e.p.2 := by
        rw [Int.add_comm, Int.add_mul_ediv_right _ _ s0, Int.ediv_eq_zero_of_lt ro (by (clear q; omega)), Int.zero_add]
      rw [q, d2] at d1
      exact hne d1.symm
    show (D _ || decide _) = false
    rw [h1, decide_eq_false h2]; rfl
  · rw [List.flatMap_append, hf]
    obtain ⟨n1, n2, n3⟩ := List.nodup_append.mp nd
    refine List.nodup_append.mpr ⟨n1, hp.nodup_iff.mpr (List.nodup_cons.mp n2).2, fun a ha b hb => n3 a ha b (.tail _ (hp.mem_iff.mp hb))⟩
  · have hz := I.z
    rw [List.concat_eq_append, List.reverse_append, List.map_append] at hz
    have hz' : vaL ((res ev e.t, res ev e.u) :: E'.reverse.map fun e => (res ev e.t, res ev e.u)) ps = z := hz
    rw [vaL_cmp (res_leaf l).1 (res_leaf r).1 (by rw [(res_leaf l).2.1, (res_leaf r).2.1, ef]) (by rw [(res_leaf l).2.2, (res_leaf r).2.2, k1, k2]; simp [kl])] at hz'
    rw [(res_leaf l).2.2, (res_leaf r).2.2, k1, k2] at hz'
    rw [List.reverse_append, List.map_append, ← List.map_reverse, List.reverse_reverse, List.map_map, ← hz', List.map_map, List.map_map, List.zip_map]
    rfl
  · rw [List.map_append, List.sum_append, List.map_map]
    congr 1
    have : ((List.zip ks1 ks2).reverse.map ((fun x : En => x.t.sz) ∘ fun k => (⟨k.1.1, k.2.1, k.1.2.1, k.2.2.1, k.1.2.2, k.2.2.2⟩ : En))) = (ks1.map (·.2.1.sz)).reverse := by
      rw [← List.map_fst_zip (l₁ := ks1) (l₂ := ks2) (by omega), List.map_map, ← List.map_reverse, List.map_fst_zip (by omega)]
      rfl
    rw [this, List.sum_reverse]
end
theorem Tr.sz_pos : ∀ t : Tr, 1 ≤ t.sz
  | .v _ | .a _ | .i _ => Nat.le_refl _
  | .s1 _ _ | .s2 _ _ _ => Nat.le_add_left _ _
theorem en_len : ∀ E : List En, E.length ≤ (E.map (·.t.sz)).sum
  | [] => Nat.le_refl _
  | e :: E => by have := en_len E; have := e.t.sz_pos; simp only [List.length_cons, List.map_cons, List.sum_cons]; omega
end
section
open PySem PySem.W PyProof.Rows PySem.Calls
set_option hygiene false
inductive JVr (V : Vw) (H F : List (Int × Int)) (ev : Int → Tr) (Z : Option PS) (c x y fd bd z lw mt dz : Addr) (oz : Obj) : Nat → List (Option Value) → List (Addr × Obj) → Heap → Prop
  | mk {w1 w2 w3 w4 : Option Value} {ws : List Value} {n : Nat} {ft fb fm : Obj} {E : List En} {ps : PS} {m : Nat} {h : Heap} (I : VInv V H F ev h m Z ws ft fb fm E ps) :
    JVr V H F ev Z c x y fd bd z lw mt dz oz m [some (.ref c), some (.ref x), some (.ref y), some (.ref fd), some (.ref bd), some (.ref z), some (.ref lw), w1, w2, w3, w4]
      [(lw, lo ws n), (mt, fm), (z, instObj 406 dz), (dz, oz), (bd, fb), (fd, ft)] h
section
variable {V : Vw} {B₀ h : Heap} {A : Around} {k : Nat} {Q : Value → Heap → Nat → Prop} {c x y sy hp fl : Addr} {tag i : Int} {t u t' u' : Tok} {n : Nat} {H F : List (Int × Int)}
set_option maxHeartbeats 4000000 in
theorem variant_ {p r : Int × Int} {T U : Tr} {as bs : List Int} {ev : Int → Tr} (G : Wd (hd.heap_39 V.w.params) B₀ h) (R : Room A (n + 4)) (Z : Sto B₀ h c sy hp fl H F)
    (T1 : Tp h x [.int p.1 t, .int p.2 u]) (T2 : Tp h y [.int r.1 t', .int r.2 u']) (r1 : Rep H F p T as) (r2 : Rep H F r U bs) (o1 : T.ok) (o2 : U.ok) (Bd : Bd H ev) (nd : as.Nodup) (hz : T.sz ≤ 100)
    (q : ∀ h' k', Chg [] h h' → Q (.bool (va (res ev T) (res ev U) []).isSome) h' k') : W V A (call (.ref 445) ([] ++ [.ref c, .ref x, .ref y])) Q h k := by
  obtain ⟨st, tr, t1, t2, t3, C⟩ := Z.C
  obtain ⟨hs, mm, eh, ph⟩ := Z.hh
  refine' W_enter0 (binds := [("store", .ref c), ("c1", .ref x), ("c2", .ref y)]) G R ?ho ?hcd ?hb ?he ?nn ?nb ?_ ?hcell ?hco ?hgen ?hk
  case ho => k_is
  case hcd => k_is
  case hb => exact BindsTo.of_eq rfl
  case he => repeat constructor
  case nn => decide
  case nb => decide
  case hcell => decide
  case hco => rfl
  case hgen => rfl
  case hk => rfl
  intro A L h1 k1 S R
  dsimp only at S
  with_reducible refine X_name ?_
  refine E_dictN G S fun fd f0 h1 nf S D0 => ?_
  with_reducible refine' N_st (by assumption) ?c1 ?_
  case c1 => exact .t3 .hd
  intro h1 S
  with_reducible refine X_name ?_
  refine E_dictN G S fun bd b0 h1 nb S D1 => ?_
  with_reducible refine' N_st (by assumption) ?c1 ?_
  case c1 => exact .t3 .h1
  intro h1 S
  with_reducible refine X_name ?_
  with_reducible refine' E_cg (by assumption) (by assumption) ?c2 ?c3 ?c4 ?_
  case c2 => exact .tl (.tl (.tl (.tl (.tl (.tl (.tl (.tl (.tl (.tl (.tl .hd))))))))))
  case c3 => k_is
  case c4 => k_is
  with_reducible refine' S_locL (by assumption) ?c1 ?_
  case c1 => exact .hd
  with_reducible refine' Krf_go (by assumption) (by assumption) ?_
  have SS := S
  refine W_cls G S R mk406.1 mk406.2.1 mk406.2.2 fun z dz h1 A' R' S => ?_
  have nd9 := S.nd
  simp only [List.map_cons, List.nodup_cons, List.mem_cons, not_or] at nd9
  refine init406_ (G.st S) R' (Z.chg0 S.back0) (S.has (by exact .hd)) (S.has (by exact .h1)) (none_of G (S.no (by exact .hd))) (none_of G (S.no (by exact .h1))) nd9.1.1 (none_ne eh (S.no (by exact .h1))) (none_ne eh (S.no (by exact .hd))) fun h2 k2 es me ts mt o x1 g1 g2 EE g3 g4 I => ⟨rfl, ?_⟩
  have S9 := S.chgL (ups := [(z, instObj 406 dz), (dz, dictOf es me)]) x1 (.cons (by exact .hd) (.cons (by exact .tl .hd) .nil)) (by simpa using ⟨g1, g2⟩)
  replace S := S.addNew S9 rfl g3 g4
  with_reducible refine' N_st (by assumption) ?c1 ?_
  case c1 => exact .t3 .h2
  intro h1 S
  with_reducible refine X_name ?_
  with_reducible refine E_list ?_
  with_reducible refine S_cons ?_
  with_reducible refine E_tuple ?_
  with_reducible refine' S_loc (by assumption) ?c1 ?_
  case c1 => exact .h1
  with_reducible refine' S_locL (by assumption) ?c1 ?_
  case c1 => exact .h2
  with_reducible refine' N_tup (by assumption) ?_
  intro t1 h1 S
  with_reducible refine S_nil ?_
  with_reducible refine' N_lst (by assumption) ?_
  intro l1 h1 S
  with_reducible refine' N_st (by assumption) ?c1 ?_
  case c1 => exact .t3 (.t3 .hd)
  intro h1 S
  with_reducible refine X_while ?_
  refine N_while (JVr V H F ev (va (res ev T) (res ev U) []) c x y fd bd z l1 mt dz (dictOf es me)) (m₀ := T.sz)
    (S.drop (σ' := [(l1, lo [.ref t1] 0), (mt, o), (z, instObj 406 dz), (dz, dictOf es me), (bd, b0), (fd, f0)]) ((List.sublist_cons_self _ _).cons₂ _))
    (.mk (E := [⟨p, r, T, U, as, bs⟩]) (ps := []) ⟨⟨⟨t1, _, _, _, _, _, _, rfl, to_tp (S.has (by exact .h1)), T1.tk S.tup, T2.tk S.tup⟩, trivial⟩, by simpa using ⟨r1, r2, o1, o2⟩, ⟨[], D0 _ _, trivial⟩, ⟨[], D1 _ _, trivial⟩,
      ⟨_, 0, I, by omega, fun a _ r _ _ => rfl⟩, by simpa using nd, ?_, by simp, by simp; omega⟩) ?_
  · simp only [List.reverse_cons, List.reverse_nil, List.nil_append, List.map_cons, List.map_nil, vaL]
    cases va (res ev T) (res ev U) [] <;> rfl
  clear S S9 SS R' nd9 x1 g1 g2 g3 g4 I D0 D1 T1 T2 r1 r2 o1 o2 nd hz
  rintro m vs σ hT @⟨w1, w2, w3, w4, ws, n, ft, fb, fm, E, ps, m, hT, I⟩ kT tk S Qt hQr hQn
  with_reducible refine T_cmp ?_
  with_reducible refine E_call ?_
  with_reducible refine' E_bi (by assumption) (by assumption) ?c2 ?c3 ?c4 ?c5 ?_
  case c2 => exact .tl (.tl (.tl (.tl (.tl (.tl (.tl (.tl (.tl (.tl (.tl (.tl .hd)))))))))))
  case c3 => k_is
  case c4 => boot_by_name
  case c5 => decide
  with_reducible refine C_bi ?_
  with_reducible refine' S_locL (by assumption) ?c1 ?_
  case c1 => exact .t3 (.t3 .hd)
  have hlw := I.w.len
  rw [List.length_map] at hlw
  have hle := en_len E
  rw [← I.m] at hle
  have hb9 := I.b
  refine C_len (S.has (by exact .hd)) (by omega) fun t5 k5 => ?_
  with_reducible refine E_int ?_
  with_reducible refine i_gt ?_
  with_reducible refine truthy_b ?_
  refine ⟨fun e0 => ?_, fun e0 => ?_⟩
  rotate_left
  · have : E = [] := by
      have : ws.length = 0 := by simpa using e0
      exact List.length_eq_zero_iff.mp (by omega)
    subst this
    with_reducible refine Nx_next ?_
    with_reducible refine X_ret ?_
    with_reducible refine E_bool ?_
    have h9 := I.z
    simp only [List.reverse_nil, List.map_nil, vaL] at h9
    have := fun k => q _ k ((S.re tk).back0)
    rw [← h9] at this
    exact this _
  rcases List.eq_nil_or_concat E with rfl | ⟨E', e, rfl⟩
  · have : ws.length = 0 := by simpa using hlw
    rw [this] at e0
    simp at e0
  have W9 := I.w
  rw [List.concat_eq_append, List.map_append] at W9
  obtain ⟨ws', w, rfl, W8, ⟨ta, a, b, u1, u2, u3, u4, rfl, V1, V2, V3⟩⟩ := W9.unsnoc
  have ge := I.g e (by simp)
  obtain ⟨m1, q1, D1, K1⟩ := ge.l.root ge.ok Bd
  obtain ⟨m2, q2, D2, K2⟩ := ge.r.root ge.ok' Bd
  have hlw' : ws'.length ≤ 1000 := by simp at hlw hle; omega
  with_reducible refine X_unp ?_
  with_reducible refine E_meth ?_
  with_reducible refine' E_loc (by assumption) ?c1 ?_
  case c1 => exact .t3 (.t3 .hd)
  with_reducible refine' MC_pop ?c0 ?_
  case c0 => exact St.has (by assumption) (by exact .hd)
  with_reducible refine C_bi ?_
  with_reducible refine S_nil ?_
  refine C_pop S (by exact .hd) (by exact .hd) (fun h1 S => ?_) (by omega)
  refine A_unp2 R.1 S (V1.tk S.tup) (by exact .t3 (.t3 .h1)) (by exact .t3 (.t3 .h2)) (fun h1 k1 S => ?_) rfl rfl
  with_reducible refine X_name ?_
  with_reducible refine' E_mc (by assumption) (by assumption) ?c2 ?c3 ?c4 ?c5 ?_ ?c7
  case c2 => exact .hd
  case c3 => assumption
  case c4 => exact mth_deref
  case c5 => k_is
  case c7 => rfl
  with_reducible refine' S_locL (by assumption) ?c1 ?_
  case c1 => exact .t3 (.t3 .h1)
  with_reducible refine' Krf_go (by assumption) (by assumption) ?_
  refine deref_ (G.st S) R (Z.chg0 (S.re tk).back0) (V2.tk S.tup) D1 fun h1 k1 a1 t1 u1 x1 X1 => ?_
  replace S := S.call0 x1
  have tkS := S.tup
  replace X1 := X1.tk x1.tup
  replace V3 := V3.tk S.tup
  replace W8 := W8.imp fun v e (z : WAt hT v e) => z.tk tkS
  replace tk := tk.trans S.tup
  replace S := S.pool
  with_reducible refine' N_st (by assumption) ?c1 ?_
  case c1 => exact .t3 (.t3 .h1)
  intro h1 S
  with_reducible refine X_name ?_
  with_reducible refine' E_mc (by assumption) (by assumption) ?c2 ?c3 ?c4 ?c5 ?_ ?c7
  case c2 => exact .hd
  case c3 => assumption
  case c4 => exact mth_deref
  case c5 => k_is
  case c7 => rfl
  with_reducible refine' S_locL (by assumption) ?c1 ?_
  case c1 => exact .t3 (.t3 .h2)
  with_reducible refine' Krf_go (by assumption) (by assumption) ?_
  refine deref_ (G.st S) R (Z.chg0 (S.re tk).back0) (V3.tk S.tup) D2 fun h1 k1 a2 t2 u2 x2 X2 => ?_
  replace S := S.call0 x2
  replace X2 := X2.tk x2.tup
  have tk5 := S.tup
  replace X1 := X1.tk S.tup
  replace W8 := W8.imp fun v e z => z.tk tk5
  replace tkS := tkS.trans S.tup
  replace tk := tk.trans S.tup
  replace S := S.pool
  with_reducible refine' N_st (by assumption) ?c1 ?_
  case c1 => exact .t3 (.t3 .h2)
  intro h1 S
  refine X_if (W.mono (Q := fun b h' _ => b = (vb q1 && vb q2) ∧ Chg [] h1 h') ?_ ?_)
  · with_reducible refine T_bool ?_
    with_reducible refine T_and ?_
    with_reducible refine T_val ?_
    with_reducible refine' E_cg (by assumption) (by assumption) ?c2 ?c3 ?c4 ?_
    case c2 => exact .tl (.tl (.tl (.tl (.tl (.tl (.tl (.tl (.tl (.tl (.tl (.tl (.tl .hd))))))))))))
    case c3 => k_is
    case c4 => k_is
    with_reducible refine' S_locL (by assumption) ?c1 ?_
    case c1 => exact .t3 (.t3 .h1)
    with_reducible refine' Krf_go (by assumption) (by assumption) ?_
    refine is_variable_ (G.st S) R (X1.tk S.tup) fun h2 k2 x3 => ?_
    replace S := S.call0 x3
    with_reducible refine truthy_b ?_
    refine ⟨fun e1 => ?_, fun e1 => ⟨by simp [vb, e1], x3⟩⟩
    with_reducible refine T_and ?_
    with_reducible refine T_val ?_
    with_reducible refine' E_cg (by assumption) (by assumption) ?c2 ?c3 ?c4 ?_
    case c2 => exact .tl (.tl (.tl (.tl (.tl (.tl (.tl (.tl (.tl (.tl (.tl (.tl (.tl .hd))))))))))))
    case c3 => k_is
    case c4 => k_is
    with_reducible refine' S_locL (by assumption) ?c1 ?_
    case c1 => exact .t3 (.t3 .h2)
    with_reducible refine' Krf_go (by assumption) (by assumption) ?_
    refine is_variable_ (G.st S) R (X2.tk S.tup) fun h2 k2 x4 => ?_
    with_reducible refine truthy_b ?_
    refine ⟨fun e2 => ?_, fun e2 => ⟨by simp [vb, e1, e2], x3.trans x4⟩⟩
    with_reducible refine T_andN ?_
    exact ⟨by simp [vb, e1, e2], x3.trans x4⟩
  rintro b h1 k1 ⟨rfl, x3⟩
  replace S := S.call0 x3
  refine ⟨fun vv => ?_, fun vv => ?_⟩
  · obtain ⟨vv1, vv2⟩ := Bool.and_eq_true_iff.mp vv
    obtain ⟨n1, f1, rfl, -⟩ := K_var ge.l K1 vv1
    obtain ⟨n2, f2, rfl, -⟩ := K_var ge.r K2 vv2
    obtain ⟨kf, Df, Kf⟩ := I.d1
    obtain ⟨kb, Db, Kb⟩ := I.d2
    with_reducible refine X_name ?_
    with_reducible refine' E_cg (by assumption) (by assumption) ?c2 ?c3 ?c4 ?_
    case c2 => exact .tl (.tl (.tl (.tl (.tl (.tl (.tl (.tl (.tl (.tl (.tl (.tl (.tl (.tl .hd)))))))))))))
    case c3 => k_is
    case c4 => k_is
    with_reducible refine' S_locL (by assumption) ?c1 ?_
    case c1 => exact .t3 (.t3 .h1)
    with_reducible refine' Krf_go (by assumption) (by assumption) ?_
    refine variable_number_ (G.st S) R (X1.tk S.tup) fun h1 k1 x1 => ?_
    replace S := S.call0 x1
    with_reducible refine' N_st (by assumption) ?c1 ?_
    case c1 => exact .t3 (.t3 (.t3 .hd))
    intro h1 S
    with_reducible refine X_name ?_
    with_reducible refine' E_cg (by assumption) (by assumption) ?c2 ?c3 ?c4 ?_
    case c2 => exact .tl (.tl (.tl (.tl (.tl (.tl (.tl (.tl (.tl (.tl (.tl (.tl (.tl (.tl .hd)))))))))))))
    case c3 => k_is
    case c4 => k_is
    with_reducible refine' S_locL (by assumption) ?c1 ?_
    case c1 => exact .t3 (.t3 .h2)
    with_reducible refine' Krf_go (by assumption) (by assumption) ?_
    refine variable_number_ (G.st S) R (X2.tk S.tup) fun h1 k1 x1 => ?_
    replace S := S.call0 x1
    with_reducible refine' N_st (by assumption) ?c1 ?_
    case c1 => exact .t3 (.t3 (.t3 .h1))
    intro h1 S
    refine X_if (W.mono (Q := fun b h' _ => b = ((ps.lookup n1).isNone && ((ps.map Prod.swap).lookup n2).isNone) ∧ Chg [] h1 h') ?_ ?_)
    · with_reducible refine T_bool ?_
      with_reducible refine T_and ?_
      with_reducible refine T_cmp ?_
      with_reducible refine' E_loc (by assumption) ?c1 ?_
      case c1 => exact .t3 (.t3 (.t3 .hd))
      with_reducible refine' E_loc (by assumption) ?c1 ?_
      case c1 => exact .t3 .hd
      refine nin_dic (x := n1) (S.has (by exact .t3 .h2)) Df isI nf ?_
      rw [Kf.isSome]
      with_reducible refine truthy_b ?_
      refine ⟨fun e1 => ?_, fun e1 => ⟨by cases q9 : ps.lookup n1 <;> simp_all, .rfl⟩⟩
      with_reducible refine T_and ?_
      with_reducible refine T_cmp ?_
      with_reducible refine' E_loc (by assumption) ?c1 ?_
      case c1 => exact .t3 (.t3 (.t3 .h1))
      with_reducible refine' E_loc (by assumption) ?c1 ?_
      case c1 => exact .t3 .h1
      refine nin_dic (x := n2) (S.has (by exact .t3 .h1)) Db isI nb ?_
      rw [Kb.isSome]
      with_reducible refine truthy_b ?_
      refine ⟨fun e2 => ?_, fun e2 => ⟨by cases q9 : (ps.map Prod.swap).lookup n2 <;> simp_all, .rfl⟩⟩
      with_reducible refine T_andN ?_
      exact ⟨by cases q8 : ps.lookup n1 <;> cases q9 : (ps.map Prod.swap).lookup n2 <;> simp_all, .rfl⟩
    rintro b h1 k1 ⟨rfl, x3⟩
    replace S := S.call0 x3
    refine ⟨fun vx => ?_, fun vx => ?_⟩
    · with_reducible refine X_sub ?_
      with_reducible refine' E_loc (by assumption) ?c1 ?_
      case c1 => exact .t3 (.t3 (.t3 .h1))
      with_reducible refine' E_loc (by assumption) ?c1 ?_
      case c1 => exact .t3 .hd
      with_reducible refine' E_loc (by assumption) ?c1 ?_
      case c1 => exact .t3 (.t3 (.t3 .hd))
      refine P_dic (x := n1) (σ' := fun o => [(l1, lo ws' _), (mt, fm), (z, instObj 406 dz), (dz, dictOf es me), (bd, fb), (fd, o)]) S (by exact .t3 .h2) Df isI (fun _ => by exact .tl (.tl (.tl (.tl (.tl .hd))))) (fun ft' h1 Df' S => ?_) (by have := Kf.len; (clear hle; omega))
      with_reducible refine X_sub ?_
      with_reducible refine' E_loc (by assumption) ?c1 ?_
      case c1 => exact .t3 (.t3 (.t3 .hd))
      with_reducible refine' E_loc (by assumption) ?c1 ?_
      case c1 => exact .t3 .h1
      with_reducible refine' E_loc (by assumption) ?c1 ?_
      case c1 => exact .t3 (.t3 (.t3 .h1))
      refine P_dic (x := n2) (σ' := fun o => [(l1, lo ws' _), (mt, fm), (z, instObj 406 dz), (dz, dictOf es me), (bd, o), (fd, ft')]) S (by exact .t3 .h1) Db isI (fun _ => by exact .tl (.tl (.tl (.tl .hd)))) (fun fb' h1 Db' S => ?_) (by have := Kb.len; simp at this; omega)
      with_reducible refine X_nn ?_
      with_reducible refine X_nn ?_
      with_reducible refine X_nil ?_
      obtain ⟨va1, va2⟩ := Bool.and_eq_true_iff.mp vx
      have l1 : ps.lookup n1 = none := by simpa using va1
      have l2 : (ps.map Prod.swap).lookup n2 = none := by simpa using va2
      refine hQn _ _ _ _ _ _ (by first | exact .inl rfl | exact .inr rfl) ?_ (S.re tkS) (.mk (ps := ps ++ [(n1, n2)]) (I.pop e.t.sz_pos (W8.imp fun v e z => z.tk S.tup) ⟨_, Df', Kf.put l1⟩ ⟨_, Db', by simpa using Kb.put l2⟩ ?_ (by simp)))
      · have := I.m'; have := e.t.sz_pos; omega
      · rw [f1, f2]
        simp [va, vstep, l1, l2]
    refine X_if (W.mono (Q := fun b h' _ => b = !(ps.lookup n1 == some n2) ∧ Chg [] h1 h') ?_ ?_)
    · with_reducible refine T_bool ?_
      with_reducible refine T_or ?_
      with_reducible refine T_cmp ?_
      with_reducible refine' E_loc (by assumption) ?c1 ?_
      case c1 => exact .t3 (.t3 (.t3 .hd))
      with_reducible refine' E_loc (by assumption) ?c1 ?_
      case c1 => exact .t3 .hd
      refine nin_dic (x := n1) (S.has (by exact .t3 .h2)) Df isI nf ?_
      rw [Kf.isSome]
      with_reducible refine truthy_b ?_
      refine ⟨fun e1 => ⟨by cases q9 : ps.lookup n1 <;> simp_all, .rfl⟩, fun e1 => ?_⟩
      obtain ⟨b9, hb9⟩ : ∃ b, ps.lookup n1 = some b := by cases q9 : ps.lookup n1 <;> simp_all
      obtain ⟨t9, ht9⟩ := Kf.yes hb9
      with_reducible refine T_or ?_
      with_reducible refine T_cmp ?_
      with_reducible refine E_sub ?_
      with_reducible refine' E_loc (by assumption) ?c1 ?_
      case c1 => exact .t3 .hd
      with_reducible refine' E_loc (by assumption) ?c1 ?_
      case c1 => exact .t3 (.t3 (.t3 .hd))
      refine I_dic (x := n1) (S.has (by exact .t3 .h2)) Df isI ht9 ?_ (by with_unfolding_all rfl)
      with_reducible refine' E_loc (by assumption) ?c1 ?_
      case c1 => exact .t3 (.t3 (.t3 .h1))
      with_reducible refine i_ne ?_
      with_reducible refine truthy_b ?_
      rw [hb9]
      refine ⟨fun e2 => ⟨by simp at e2; simp [e2], .rfl⟩, fun e2 => ?_⟩
      with_reducible refine T_orN ?_
      exact ⟨by simp at e2; simp [e2], .rfl⟩
    rintro b h1 k1 ⟨rfl, x3⟩
    replace S := S.call0 x3
    refine ⟨fun vy => ?_, fun vy => ?_⟩
    · with_reducible refine X_ret ?_
      with_reducible refine E_bool ?_
      with_reducible refine Nx_ret ?_
      with_reducible refine Nx_ret ?_
      with_reducible refine Nx_ret ?_
      with_reducible refine hQr _ _ _ ?_
      have h9 := I.fail (by
        rw [f1, f2]
        have : ¬ (ps.lookup n1 = none ∧ (ps.map Prod.swap).lookup n2 = none) := by
          rintro ⟨z1, z2⟩; simp [z1, z2] at vx
        simp only [va, vstep, if_neg this]
        rw [if_neg (by simpa using vy)])
      have := fun k => q _ k ((S.re tk).back0)
      rw [h9] at this
      exact this _
    · with_reducible refine X_nn ?_
      with_reducible refine X_nn ?_
      with_reducible refine X_nn ?_
      with_reducible refine X_nil ?_
      have hl : ps.lookup n1 = some n2 := by simpa using vy
      refine hQn _ _ _ _ _ _ (by first | exact .inl rfl | exact .inr rfl) ?_ (S.re tkS) (.mk (ps := ps) (I.pop e.t.sz_pos (W8.imp fun v e z => z.tk S.tup) ⟨_, Df, Kf⟩ ⟨_, Db, Kb⟩ ?_ (by simp)))
      · have := I.m'; have := e.t.sz_pos; omega
      · rw [f1, f2]
        simp [va, vstep, hl]
  refine X_if (W.mono (Q := fun b h' _ => b = (vb q1 || vb q2) ∧ Chg [] h1 h') ?_ ?_)
  · with_reducible refine T_bool ?_
    with_reducible refine T_or ?_
    with_reducible refine T_val ?_
    with_reducible refine' E_cg (by assumption) (by assumption) ?c2 ?c3 ?c4 ?_
    case c2 => exact .tl (.tl (.tl (.tl (.tl (.tl (.tl (.tl (.tl (.tl (.tl (.tl (.tl .hd))))))))))))
    case c3 => k_is
    case c4 => k_is
    with_reducible refine' S_locL (by assumption) ?c1 ?_
    case c1 => exact .t3 (.t3 .h1)
    with_reducible refine' Krf_go (by assumption) (by assumption) ?_
    refine is_variable_ (G.st S) R (X1.tk S.tup) fun h2 k2 x3 => ?_
    replace S := S.call0 x3
    with_reducible refine truthy_b ?_
    refine ⟨fun e1 => ⟨by simp [vb, e1], x3⟩, fun e1 => ?_⟩
    with_reducible refine T_or ?_
    with_reducible refine T_val ?_
    with_reducible refine' E_cg (by assumption) (by assumption) ?c2 ?c3 ?c4 ?_
    case c2 => exact .tl (.tl (.tl (.tl (.tl (.tl (.tl (.tl (.tl (.tl (.tl (.tl (.tl .hd))))))))))))
    case c3 => k_is
    case c4 => k_is
    with_reducible refine' S_locL (by assumption) ?c1 ?_
    case c1 => exact .t3 (.t3 .h2)
    with_reducible refine' Krf_go (by assumption) (by assumption) ?_
    refine is_variable_ (G.st S) R (X2.tk S.tup) fun h2 k2 x4 => ?_
    with_reducible refine truthy_b ?_
    refine ⟨fun e2 => ⟨by simp [vb, e1, e2], x3.trans x4⟩, fun e2 => ?_⟩
    with_reducible refine T_orN ?_
    exact ⟨by simp [vb, e1, e2], x3.trans x4⟩
  rintro b h1 k1 ⟨rfl, x3⟩
  replace S := S.call0 x3
  refine ⟨fun vv2 => ?_, fun vv2 => ?_⟩
  · with_reducible refine X_ret ?_
    with_reducible refine E_bool ?_
    with_reducible refine Nx_ret ?_
    with_reducible refine Nx_ret ?_
    with_reducible refine hQr _ _ _ ?_
    have h9 := I.fail (by
      cases y1 : vb q1 with
      | true =>
        obtain ⟨n1, f1, -, -⟩ := K_var ge.l K1 y1
        rw [y1, Bool.true_and] at vv
        rw [f1]
        exact va_v1 (K_nvar K2 vv)
      | false =>
        rw [y1, Bool.false_or] at vv2
        obtain ⟨n2, f2, -, -⟩ := K_var ge.r K2 vv2
        rw [f2]
        exact va_v2 (K_nvar K1 y1))
    have := fun k => q _ k ((S.re tk).back0)
    rw [h9] at this
    exact this _
  obtain ⟨y1, y2⟩ := Bool.or_eq_false_iff.mp vv2
  with_reducible refine X_if0 ?_
  with_reducible refine T_val ?_
  with_reducible refine' E_mc (by assumption) (by assumption) ?c2 ?c3 ?c4 ?c5 ?_ ?c7
  case c2 => exact .hd
  case c3 => assumption
  case c4 => exact mth_is_compound
  case c5 => k_is
  case c7 => rfl
  with_reducible refine' S_locL (by assumption) ?c1 ?_
  case c1 => exact .t3 (.t3 .h1)
  with_reducible refine' Krf_go (by assumption) (by assumption) ?_
  refine is_compound_ (G.st S) R (X1.tk S.tup) fun h1 k1 x1 => ?_
  replace S := S.call0 x1
  with_reducible refine truthy_b ?_
  refine ⟨fun c1 => ?_, fun c1 => ?_⟩
  · obtain ⟨lt, rfl⟩ := K_cmp K1 c1
    refine X_if (W.mono (Q := fun b h' _ => b = (!(cb q2 && (e.p.1 == q2.1 && e.t.fn == e.u.fn))) ∧ Chg [] h1 h') ?_ ?_)
    · with_reducible refine T_bool ?_
      with_reducible refine T_or ?_
      with_reducible refine T_not ?_
      with_reducible refine T_val ?_
      with_reducible refine' E_mc (by assumption) (by assumption) ?c2 ?c3 ?c4 ?c5 ?_ ?c7
      case c2 => exact .hd
      case c3 => assumption
      case c4 => exact mth_is_compound
      case c5 => k_is
      case c7 => rfl
      with_reducible refine' S_locL (by assumption) ?c1 ?_
      case c1 => exact .t3 (.t3 .h2)
      with_reducible refine' Krf_go (by assumption) (by assumption) ?_
      refine is_compound_ (G.st S) R (X2.tk S.tup) fun h2 k2 x3 => ?_
      replace S := S.call0 x3
      with_reducible refine truthy_b ?_
      refine ⟨fun e1 => ⟨by simp [cb] at e1 ⊢; simp [e1], x3⟩, fun e1 => ?_⟩
      have e1' : cb q2 = true := by rw [Bool.not_eq_false'] at e1; exact e1
      obtain ⟨ut, rfl⟩ := K_cmp K2 e1'
      obtain ⟨ks1, -, s1, -⟩ := ge.l.cmp lt
      obtain ⟨ks2, -, s2, -⟩ := ge.r.cmp ut
      with_reducible refine T_or ?_
      with_reducible refine T_not ?_
      with_reducible refine T_val ?_
      with_reducible refine' E_cg (by assumption) (by assumption) ?c2 ?c3 ?c4 ?_
      case c2 => exact .tl (.tl (.tl (.tl (.tl (.tl (.tl (.tl (.tl (.tl (.tl (.tl (.tl (.tl (.tl .hd))))))))))))))
      case c3 => k_is
      case c4 => k_is
      with_reducible refine' S_loc (by assumption) ?c1 ?_
      case c1 => exact .hd
      with_reducible refine' S_loc (by assumption) ?c1 ?_
      case c1 => exact .t3 (.t3 .h1)
      with_reducible refine' S_locL (by assumption) ?c1 ?_
      case c1 => exact .t3 (.t3 .h2)
      with_reducible refine' Krf_go (by assumption) (by assumption) ?_
      refine same_shape_ (G.st S) R (Z.chg0 (S.re tk).back0) (X1.tk S.tup) (X2.tk S.tup) s1 s2 fun h2 k2 x4 => ?_
      with_reducible refine truthy_b ?_
      refine ⟨fun e2 => ⟨by rw [e1', Bool.true_and]; exact e2.symm, x3.trans x4⟩, fun e2 => ?_⟩
      with_reducible refine T_orN ?_
      exact ⟨by rw [e1', Bool.true_and]; exact e2.symm, x3.trans x4⟩
    rintro b h1 k1 ⟨rfl, x3⟩
    replace S := S.call0 x3
    refine ⟨fun vx => ?_, fun vx => ?_⟩
    · with_reducible refine X_ret ?_
      with_reducible refine E_bool ?_
      with_reducible refine Nx_ret ?_
      with_reducible refine Nx_ret ?_
      with_reducible refine Nx_ret ?_
      with_reducible refine hQr _ _ _ ?_
      have h9 := I.fail (by
        cases y3 : cb q2 with
        | false => exact va_mix (by rw [(res_leaf lt).1, (K_ncmp ge.r K2 y3).1]; decide)
        | true =>
          obtain ⟨ut, rfl⟩ := K_cmp K2 y3
          obtain ⟨ks1, a1, -, -, -, -, -, -, -, -, -, b1⟩ := ge.l.cmp lt
          obtain ⟨ks2, a2, -, -, -, -, -, -, -, -, -, b2⟩ := ge.r.cmp ut
          refine va_fn (res_leaf lt).1 (res_leaf ut).1 ?_
          rw [(res_leaf lt).2.1, (res_leaf ut).2.1]
          intro ef
          rw [y3, Bool.true_and, ef] at vx
          simp at vx
          rw [ef] at b1
          omega)
      have := fun k => q _ k ((S.re tk).back0)
      rw [h9] at this
      exact this _
    · simp only [Bool.not_eq_false', Bool.and_eq_true, beq_iff_eq] at vx
      obtain ⟨y3, et, ef⟩ := vx
      obtain ⟨ut, rfl⟩ := K_cmp K2 y3
      obtain ⟨ks1, a1, -, ho1, hl1, hk1, has1, p0, p1, p2, kk1, b1⟩ := ge.l.cmp lt
      obtain ⟨ks2, a2, -, ho2, hl2, hk2, has2, r0, r1, r2, kk2, b2⟩ := ge.r.cmp ut
      have kl : ks1.length = ks2.length := by
        have ho1' := ho1
        rw [ef] at ho1'
        have := HeadOk.same ho1' ho2 (by rw [et])
        omega
      obtain ⟨D, N, IS9, hN, hD⟩ := I.s
      have hDn : D (e.p.2 * (H.length + 1) + e.q.2) = false := hD e.p.2 (by rw [List.concat_eq_append, List.flatMap_append]; exact List.mem_append_right _ (by simp [has1])) _ r0 (by exact Int.le_of_lt (by assumption))
      have n1 : hp ≠ l1 := none_ne eh (S.no (by exact .hd))
      have n2 : fl ≠ l1 := by
        obtain ⟨fs9, n9, ef9, -⟩ := Z.ff
        exact none_ne ef9 (S.no (by exact .hd))
      have hzl : (H.length : Int) ≤ 100000 := by have := Z.sz; omega
      with_reducible refine X_nn ?_
      with_reducible refine X_if0 ?_
      with_reducible refine T_val ?_
      with_reducible refine E_meth ?_
      with_reducible refine' E_loc (by assumption) ?c1 ?_
      case c1 => exact .t3 .h2
      refine MC_defh S G (fs := [("span", .int (H.length + 1) ts), ("met", .ref mt)]) ⟨⟨dz, es, me, S.has (by exact .h2), S.has (by exact .t3 .hd), EE⟩, ps_nd⟩ mth_add ?_ (by rfl)
      with_reducible refine' CC_ref (by assumption) (by assumption) ?c2 ?_
      case c2 => k_is
      with_reducible refine' S_loc (by assumption) ?c1 ?_
      case c1 => exact .t3 (.t3 .h1)
      with_reducible refine' S_locL (by assumption) ?c1 ?_
      case c1 => exact .t3 (.t3 .h2)
      with_reducible refine' Krf_go (by assumption) (by assumption) ?_
      refine add_ (l := e.p) (r := e.q) (G.st S) R (S.has (by exact .h2)) (S.has (by exact .t3 .hd)) EE (S.has (by exact .h1)) (none_of G (S.no (by exact .h1))) IS9 (X1.tk S.tup) (X2.tk S.tup) (by (clear hle; omega)) (by exact Int.natCast_nonneg _) (by omega) fun h1 k1 fm' x4 g4 IS8 => ?_
      rw [hDn] at IS8 ⊢
      replace S := S.chgL (ups := [(mt, fm')]) x4 (.cons (by exact .tl .hd) .nil) (by simpa using g4)
      with_reducible refine truthy_b ?_
      refine ⟨fun _ => ?_, fun e1 => by simp at e1⟩
      with_reducible refine X_expr ?_
      with_reducible refine' E_cg (by assumption) (by assumption) ?c2 ?c3 ?c4 ?_
      case c2 => exact .tl (.tl (.tl (.tl (.tl (.tl (.tl (.tl (.tl (.tl (.tl (.tl (.tl (.tl (.tl (.tl .hd)))))))))))))))
      case c3 => k_is
      case c4 => k_is
      with_reducible refine' S_loc (by assumption) ?c1 ?_
      case c1 => exact .hd
      with_reducible refine' S_loc (by assumption) ?c1 ?_
      case c1 => exact .t3 (.t3 .h1)
      with_reducible refine' S_loc (by assumption) ?c1 ?_
      case c1 => exact .t3 (.t3 .h2)
      with_reducible refine' S_locL (by assumption) ?c1 ?_
      case c1 => exact .t3 (.t3 .hd)
      with_reducible refine' Krf_go (by assumption) (by assumption) ?_
      refine push_pairs_ (lc := kcell ks1) (rc := kcell ks2) (p := e.p) (r := e.q) (G.st S) R (Z.chg0 (S.re tk).back0) (X1.tk S.tup) (X2.tk S.tup) ho1 (by (clear b2; omega)) ?_ ?_ ?_ ?_ ?_ (S.has (by exact .hd)) (none_of G (S.no (by exact .hd)))
        (W8.imp fun v e z => z.tk S.tup) n1 n2 (by omega) fun h1 k1 ws2 m2 x5 g5 W6 => ?_
      · unfold blk; split <;> omega
      · unfold blk; split <;> omega
      · unfold blk; split <;> omega
      · unfold blk; split <;> omega
      · intro s hs
        have hs1 : s < ks1.length := by (clear kl; omega)
        have hs2 : s < ks2.length := by (clear hs; omega)
        have z1 := (kk1 s _ (List.getElem?_eq_getElem hs1)).1
        have z2 := (kk2 s _ (List.getElem?_eq_getElem hs2)).1
        exact ⟨by simpa [kcell, List.getElem?_eq_getElem hs1] using z1, by simpa [kcell, List.getElem?_eq_getElem hs2] using z2⟩
      replace S := S.chgL (ups := [(l1, lo ws2 m2)]) x5 (.cons (by exact .hd) .nil) (by simpa using g5)
      with_reducible refine And_none ?_
      with_reducible refine X_nn ?_
      with_reducible refine X_nn ?_
      with_reducible refine X_nil ?_
      have W5 : All2 (WAt h1) ws2 (E'.map (fun e => (e.p, e.q)) ++ (List.zip ks1 ks2).reverse.map fun k => (k.1.1, k.2.1)) := by
        rw [← zip_rng kl hl1]; exact W6
      refine hQn _ _ _ _ _ _ (by first | exact .inl rfl | exact .inr rfl) ?_ (S.re tkS) (.mk (I.push hN (Nat.le_refl _) hD W5 IS8 lt ut ef hk1 hk2 kl has1 r0 (by exact Int.le_of_lt (by assumption)) ?_ ?_ (kids_ok ge.ok) (kids_ok ge.ok') ?_))
      · have := I.m'
        have z9 := kids_sz lt
        rw [hk1, List.map_map] at z9
        have z8 : (ks1.map (·.2.1.sz)).sum + 1 = e.t.sz := z9
        (clear z9; omega)
      · intro k hk
        obtain ⟨j, hj⟩ := List.mem_iff_getElem?.mp hk
        exact (kk1 j k hj).2
      · intro k hk
        obtain ⟨j, hj⟩ := List.mem_iff_getElem?.mp hk
        exact (kk2 j k hj).2
      · have z9 := kids_sz lt
        rw [hk1, List.map_map] at z9
        exact z9
  · have c1' : cb q1 = false := c1
    obtain ⟨l1', lt, rfl⟩ := K_ncmp ge.l K1 c1'
    have y1' : (lcell (res ev e.t)).1 ≠ 0 := fun q => by simp [vb, q] at y1
    with_reducible refine X_if0c ?_
    with_reducible refine' E_loc (by assumption) ?c1 ?_
    case c1 => exact .t3 (.t3 .h1)
    with_reducible refine' E_loc (by assumption) ?c1 ?_
    case c1 => exact .t3 (.t3 .h2)
    refine q_pairN R (X1.tk S.tup) (X2.tk S.tup) ?_
    with_reducible refine truthy_b ?_
    have hpr : ∀ a b : Int × Int, (a.1 == b.1 && a.2 == b.2) = decide (a = b) := by
      rintro ⟨a1, a2⟩ ⟨b1, b2⟩
      by_cases h1 : a1 = b1 <;> by_cases h2 : a2 = b2 <;> simp [h1, h2]
    rw [hpr]
    have hcase : va (res ev e.t) (res ev e.u) ps = if lcell (res ev e.t) = q2 then some ps else none := by
      cases y3 : cb q2 with
      | false =>
        obtain ⟨l2', ut, rfl⟩ := K_ncmp ge.r K2 y3
        exact va_leaf l1' l2' (.inl y1')
      | true =>
        obtain ⟨ut, rfl⟩ := K_cmp K2 y3
        rw [va_mix (by rw [l1', (res_leaf ut).1]; decide), if_neg]
        intro q
        rw [← q, c1'] at y3
        cases y3
    refine ⟨fun e1 => ?_, fun e1 => ?_⟩
    · with_reducible refine X_ret ?_
      with_reducible refine E_bool ?_
      with_reducible refine Nx_ret ?_
      with_reducible refine Nx_ret ?_
      with_reducible refine hQr _ _ _ ?_
      have h9 := I.fail (by rw [hcase, if_neg (by simpa using e1)])
      have := fun k => q _ k ((S.re tk).back0)
      rw [h9] at this
      exact this _
    · with_reducible refine X_nn ?_
      with_reducible refine X_nn ?_
      with_reducible refine X_nil ?_
      obtain ⟨kf, Df, Kf⟩ := I.d1
      obtain ⟨kb, Db, Kb⟩ := I.d2
      refine hQn _ _ _ _ _ _ (by first | exact .inl rfl | exact .inr rfl) ?_ (S.re tkS) (.mk (ps := ps) (I.pop e.t.sz_pos (W8.imp fun v e z => z.tk S.tup) ⟨_, Df, Kf⟩ ⟨_, Db, Kb⟩ (by rw [hcase, if_pos (by simpa using e1)]) (by simp)))
      have := I.m'; have := e.t.sz_pos; omega
end
end
section
open PySem PySem.W PyProof.Rows PySem.Calls
set_option hygiene true
noncomputable def enc : Tr → PyData
  | .v n => .tuple [.str "v", .int n] | .a n => .tuple [.str "a", .int n] | .i n => .tuple [.str "i", .int n]
  | .s1 f x => .tuple [.str "s", .int f, .tuple [enc x]] | .s2 f x y => .tuple [.str "s", .int f, .tuple [enc x, enc y]]
noncomputable def num : Tr → List Int → Tr × List Int
  | .v k, sn => if k ∈ sn then (.v (sn.idxOf k : Nat), sn) else (.v (sn.length : Nat), sn ++ [k])
  | .s1 f x, sn => (.s1 f (num x sn).1, (num x sn).2)
  | .s2 f x y, sn => (.s2 f (num x sn).1 (num y (num x sn).2).1, (num y (num x sn).2).2)
  | t, sn => (t, sn)
noncomputable def mkT (f : Int) : List Tr → Tr
  | [x] => .s1 f x | [x, y] => .s2 f x y | _ => .v 0
noncomputable def bld (t : Tr) (rs : List Tr) : List Tr := rs.take (rs.length - t.kids.length) ++ [mkT t.fn (rs.drop (rs.length - t.kids.length))]
structure Wk where
  b : Bool
  p : Int × Int
  t : Tr
  as : List Int
  ks : List ((Int × Int) × Tr × List Int)
noncomputable def run (ev : Int → Tr) : List Wk → List Tr → List Int → List Tr
  | [], rs, _ => rs
  | e :: w, rs, sn => if e.b then run ev w (bld e.t rs) sn else run ev w (rs ++ [(num (res ev e.t) sn).1]) (num (res ev e.t) sn).2
noncomputable abbrev vis (k : (Int × Int) × Tr × List Int) : Wk := ⟨false, k.1, k.2.1, k.2.2, []⟩
section
variable {ev : Int → Tr} {H F : List (Int × Int)} {p : Int × Int} {t u : Tr} {as : List Int} {ks : List ((Int × Int) × Tr × List Int)}
theorem run_push {w : List Wk} {rs : List Tr} {sn : List Int} (l : t.leaf = false) (hk : t.kids = ks.map (·.2.1)) {ks' : List ((Int × Int) × Tr × List Int)} : run ev (⟨false, p, t, as, ks'⟩ :: w) rs sn = run ev (ks.map vis ++ ⟨true, p, t, as, ks⟩ :: w) rs sn := by
  cases t with
  | v => cases l
  | a => cases l
  | i => cases l
  | s1 f x =>
    match ks with
    | [k] =>
      simp [Tr.kids] at hk
      subst hk
      simp [run, bld, Tr.kids, Tr.fn, res, num, mkT]
    | [] => simp [Tr.kids] at hk
    | _ :: _ :: _ => simp [Tr.kids] at hk
  | s2 f x y =>
    match ks with
    | [k, k'] =>
      simp [Tr.kids] at hk
      obtain ⟨rfl, rfl⟩ := hk
      simp [run, bld, Tr.kids, Tr.fn, res, num, mkT]
    | [] => simp [Tr.kids] at hk
    | [_] => simp [Tr.kids] at hk
    | _ :: _ :: _ :: _ => simp [Tr.kids] at hk
noncomputable def szl : Tr → List Nat
  | .s1 f x => (x.sz + 1) :: szl x | .s2 f x y => (x.sz + y.sz + 1) :: (szl x ++ szl y) | _ => []
theorem Rep.len (r : Rep H F p t as) : as.length = (szl t).length := by
  induction r with
  | v => rfl
  | a => rfl
  | i => rfl
  | s1 _ _ _ _ _ _ _ _ ih => simp [szl, ih]
  | s2 _ _ _ _ _ _ _ _ _ _ ih1 ih2 => simp [szl, ih1, ih2]
  | l _ _ _ _ _ _ ih1 ih2 => simp [szl, ih1, ih2]
theorem szl_cmp (l : t.leaf = false) : szl t = t.sz :: t.kids.flatMap szl := by cases t <;> simp_all [Tr.leaf, szl, Tr.sz, Tr.kids]
noncomputable def Cons (SZ : Int → Option Nat) (t : Tr) (as : List Int) : Prop := ∀ x ∈ List.zip as (szl t), SZ x.1 = some x.2
theorem zip_flat {α β γ : Type} {f : α → List β} {g : α → List γ} : ∀ {ks : List α}, (∀ k ∈ ks, (f k).length = (g k).length) → ∀ {k x}, k ∈ ks → x ∈ List.zip (f k) (g k) → x ∈ List.zip (ks.flatMap f) (ks.flatMap g)
  | a :: ks, hl, k, x, hk, hx => by
    rw [List.flatMap_cons, List.flatMap_cons, List.zip_append (hl a (.head _))]
    rcases List.mem_cons.mp hk with rfl | hk
    · exact List.mem_append_left _ hx
    · exact List.mem_append_right _ (zip_flat (fun k hk => hl k (.tail _ hk)) hk hx)
theorem Cons.kid {SZ : Int → Option Nat} (c : Cons SZ t (p.2 :: ks.flatMap (·.2.2))) (l : t.leaf = false) (hk : t.kids = ks.map (·.2.1)) (r : ∀ k ∈ ks, Rep H F k.1 k.2.1 k.2.2) : SZ p.2 = some t.sz ∧ ∀ k ∈ ks, Cons SZ k.2.1 k.2.2 := by
  unfold Cons at c
  rw [szl_cmp l, hk, List.flatMap_map] at c
  refine ⟨c (p.2, t.sz) (by simp), fun k hk x hx => c x ?_⟩
  rw [List.zip_cons_cons]
  exact .tail _ (zip_flat (fun k hk => (r k hk).len) hk hx)
theorem Cons.top {SZ : Int → Option Nat} (c : Cons SZ t as) (r : Rep H F p t as) (l : t.leaf = false) : SZ p.2 = some t.sz := by
  obtain ⟨ks, -, -, -, -, -, rfl, -⟩ := r.cmp l
  unfold Cons at c
  rw [szl_cmp l] at c
  exact c (p.2, t.sz) (by simp)
theorem lookup_zip {as : List Int} {ns : List Nat} (nd : as.Nodup) : ∀ x ∈ List.zip as ns, (List.zip as ns).lookup x.1 = some x.2 := by
  induction as generalizing ns with
  | nil => intro x hx; simp at hx
  | cons a as ih =>
    cases ns with
    | nil => intro x hx; simp at hx
    | cons n ns =>
      intro x hx
      rw [List.zip_cons_cons] at hx ⊢
      rw [List.nodup_cons] at nd
      rcases List.mem_cons.mp hx with rfl | hx
      · simp
      · have : x.1 ≠ a := fun e => nd.1 (e ▸ (List.of_mem_zip (a := x.1) (b := x.2) hx).1)
        rw [List.lookup_cons, beq_eq_false_iff_ne.mpr this]
        exact ih nd.2 x hx
noncomputable def okS : List Wk → (Int → Prop) → Nat → Prop
  | [], _, _ => True
  | e :: w, X, n => if e.b then (e.ks.length ≤ n ∧ ∀ k ∈ e.ks, k.2.1.leaf = false → X k.1.2) ∧ okS w (fun a => X a ∨ a = e.p.2) (n - e.ks.length + 1) else okS w (fun a => X a ∨ (e.t.leaf = false ∧ a = e.p.2)) (n + 1)
theorem okS.mono : ∀ {w : List Wk} {X Y : Int → Prop} {n : Nat}, okS w X n → (∀ a, X a → Y a) → okS w Y n
  | [], _, _, _, _, _ => trivial
  | ⟨true, _, _, _, _⟩ :: w, _, _, _, h, i => ⟨⟨h.1.1, fun k hk l => i _ (h.1.2 k hk l)⟩, okS.mono h.2 fun a => Or.imp_left (i a)⟩
  | ⟨false, _, _, _, _⟩ :: w, _, _, n, h, i => okS.mono (w := w) (h : okS w _ (n + 1)) fun a => Or.imp_left (i a)
theorem okS_kids {w : List Wk} : ∀ {l : List ((Int × Int) × Tr × List Int)} {X : Int → Prop} {n : Nat}, okS w (fun a => X a ∨ ∃ k ∈ l, k.2.1.leaf = false ∧ a = k.1.2) (n + l.length) → okS (l.map vis ++ w) X n
  | [], X, n, h => h.mono fun a => by simp
  | k :: l, X, n, h => by
    show okS (l.map vis ++ w) _ (n + 1)
    refine okS_kids ?_
    rw [List.length_cons, show n + (l.length + 1) = n + 1 + l.length by omega] at h
    refine h.mono fun a => ?_
    rintro (h | ⟨k', hk', h5⟩)
    · exact .inl (.inl h)
    · rcases List.mem_cons.mp hk' with rfl | hk'
      · exact .inl (.inr h5)
      · exact .inr ⟨k', hk', h5⟩
theorem okS_push {w : List Wk} {X : Int → Prop} {n : Nat} {ks' : List ((Int × Int) × Tr × List Int)} (l : t.leaf = false) (h : okS (⟨false, p, t, as, ks'⟩ :: w) X n) : okS (ks.map vis ++ ⟨true, p, t, as, ks⟩ :: w) X n := by
  have h' : okS w (fun a => X a ∨ (t.leaf = false ∧ a = p.2)) (n + 1) := h
  refine okS_kids ⟨⟨Nat.le_add_left _ _, fun k hk hl => .inr ⟨k, hk, hl, rfl⟩⟩, ?_⟩
  show okS w _ (n + ks.length - ks.length + 1)
  rw [Nat.add_sub_cancel]
  refine h'.mono fun a => ?_
  rintro (h | ⟨-, h⟩)
  · exact .inl (.inl h)
  · exact .inr h
noncomputable def wkm (e : Wk) : Nat := if e.b then 1 else 2 * e.t.sz
noncomputable def wka (e : Wk) : List Int := if e.b then [e.p.2] else e.as
end
theorem va_map {κ : Type} [DecidableEq κ] (k a : κ) (v : Value) : ∀ kvs : List (κ × Value), valueAt (kvs.map (fun kv => if kv.1 = k then (kv.1, v) else kv)) a = if a = k then (if kvs.any (fun kv => kv.1 = k) then some v else none) else valueAt kvs a
  | [] => by simp [valueAt]
  | x :: r => by
    have ih := va_map k a v r
    unfold valueAt at ih ⊢
    rw [List.map_cons, List.find?_cons, List.find?_cons, List.any_cons]
    by_cases hx : x.1 = k
    · by_cases ha : a = k
      · subst ha; simp [hx]
      · have ha' : ¬ k = a := fun e => ha e.symm
        simp only [hx, ha, ha', if_true, if_false, decide_false, decide_true] at ih ⊢
        exact ih
    · by_cases ha : a = k
      · subst ha
        simp only [hx, if_true, if_false, decide_false, Bool.false_or] at ih ⊢
        exact ih
      · simp only [hx, ha, if_false] at ih ⊢
        by_cases h2 : x.1 = a
        · simp [h2]
        · simp only [h2, decide_false]
          exact ih
theorem valueAt_stored {κ : Type} [DecidableEq κ] (kvs : List (κ × Value)) (k a : κ) (v : Value) : valueAt (stored kvs k v) a = if a = k then some v else valueAt kvs a := by
  unfold stored
  split
  · rename_i h
    rw [va_map, if_pos h]
  · rename_i h
    unfold valueAt
    rw [List.find?_append]
    by_cases ha : a = k
    · subst ha
      have : kvs.find? (fun kv => kv.1 = a) = none := by
        rw [List.find?_eq_none]
        intro x hx
        simp only [List.any_eq_true, not_exists, not_and] at h
        exact h x hx
      rw [this]; simp
    · have : ¬ k = a := fun e => ha e.symm
      simp [ha, this]
end
section
open PySem PySem.W PyProof.Rows PySem.Calls
set_option hygiene false
inductive JWs (c x sd : Addr) (b : Int) (tb : Tok) (ks : List ((Int × Int) × Tr × List Int)) : Nat → List (Option Value) → List (Addr × Obj) → Heap → Prop
  | mk {w6 w7 : Option Value} {t9 : Tok} {z : Int} {i : Nat} {h : Heap} (hz : z = 1 + (((ks.take i).map (·.2.1.sz)).sum : Nat)) : JWs c x sd b tb ks i [some (.ref c), some (.ref x), some (.ref sd), some (.int z t9), some (.int b tb), w6, w7] [] h
section
variable {V : Vw} {B₀ h : Heap} {A : Around} {k : Nat} {Q : Value → Heap → Nat → Prop} {c x y sy hp fl : Addr} {tag i : Int} {t u t' u' : Tok} {n : Nat} {H F : List (Int × Int)}
theorem whole_size_ {p : Int × Int} {T : Tr} {as : List Int} {ev : Int → Tr} {so : Obj} {kz : List (Int × Value)} {sd : Addr} (G : Wd (hd.heap_39 V.w.params) B₀ h) (R : Room A (n + 3)) (Z : Sto B₀ h c sy hp fl H F)
    (T1 : Tp h x [.int p.1 t, .int p.2 u]) (r1 : Rep H F p T as) (l : T.leaf = false) (o1 : T.ok) (Bd : Bd H ev) (es : h.get? sd = some so) (Ds : so.IsDictOf (intKind V.prog V.w) kz) 
    {ks : List ((Int × Int) × Tr × List Int)} (hk : T.kids = ks.map (·.2.1)) (kk : ∀ (j : Nat) (k : (Int × Int) × Tr × List Int), ks[j]? = some k → H[(blk p + j).toNat]? = some k.1 ∧ Rep H F k.1 k.2.1 k.2.2) (hw : ks.length = 1 ∨ ks.length = 2) (O : HeadOk H F p.1 p.2 T.fn ks.length) (p0 : 0 ≤ p.2) (p1 : p.2 < 2 ^ 60)
    (hz : ∀ k ∈ ks, k.2.1.leaf = false → ∃ t, valueAt kz k.1.2 = some (.int (k.2.1.sz : Int) t))
    (q : ∀ h' k' t', Chg [] h h' → Q (.int T.sz t') h' k') : W V A (call (.ref 370) ([.ref c] ++ [.ref x, .ref sd])) Q h k := by
  obtain ⟨st, tr, t1, t2, t3, C⟩ := Z.C
  obtain ⟨hs, mm, eh, ph⟩ := Z.hh
  refine' W_enter0 (binds := [("self", .ref c), ("cell", .ref x), ("sizes", .ref sd)]) G R ?ho ?hcd ?hb ?he ?nn ?nb ?_ ?hcell ?hco ?hgen ?hk
  case ho => k_is
  case hcd => k_is
  case hb => exact BindsTo.of_eq rfl
  case he => repeat constructor
  case nn => decide
  case nb => decide
  case hcell => decide
  case hco => rfl
  case hgen => rfl
  case hk => rfl
  intro A L h1 k1 S R
  dsimp only at S
  with_reducible refine X_name ?_
  with_reducible refine E_int ?_
  with_reducible refine' N_st (by assumption) ?c1 ?_
  case c1 => exact .t3 .hd
  intro h1 S
  with_reducible refine X_name ?_
  with_reducible refine' E_mc (by assumption) (by assumption) ?c2 ?c3 ?c4 ?c5 ?_ ?c7
  case c2 => exact .hd
  case c3 => assumption
  case c4 => exact mth_base
  case c5 => k_is
  case c7 => rfl
  with_reducible refine' S_locL (by assumption) ?c1 ?_
  case c1 => exact .h1
  with_reducible refine' Krf_go (by assumption) (by assumption) ?_
  refine base_ (G.st S) R (T1.tk S.tup) fun h1 k1 tb x1 => ?_
  replace S := S.call0 x1
  with_reducible refine' N_st (by assumption) ?c1 ?_
  case c1 => exact .t3 .h1
  intro h1 S
  with_reducible refine X_for ?_
  with_reducible refine E_call ?_
  with_reducible refine' E_bi (by assumption) (by assumption) ?c2 ?c3 ?c4 ?c5 ?_
  case c2 => exact .tl (.tl (.tl (.tl (.tl (.tl (.tl .hd))))))
  case c3 => k_is
  case c4 => boot_by_name
  case c5 => decide
  with_reducible refine C_ty ?_
  with_reducible refine S_cons ?_
  with_reducible refine' E_mc (by assumption) (by assumption) ?c2 ?c3 ?c4 ?c5 ?_ ?c7
  case c2 => exact .hd
  case c3 => assumption
  case c4 => exact mth_width
  case c5 => k_is
  case c7 => rfl
  with_reducible refine' S_locL (by assumption) ?c1 ?_
  case c1 => exact .h1
  with_reducible refine' Krf_go (by assumption) (by assumption) ?_
  refine width_ (G.st S) R (Z.chg0 S.back0) (T1.tk S.tup) O fun h1 k1 tb3 x1 => ?_
  replace S := S.call0 x1
  with_reducible refine S_nil ?_
  have hn : Builtin.Range.rangeSize 0 ks.length 1 = (ks.length : Int) := by rcases hw with e | e <;> rw [e] <;> decide
  have hs1 : Builtin.Range.small 0 ks.length 1 = true := by rcases hw with e | e <;> rw [e] <;> decide
  refine C_rng1 S fun r9 h1 k1 hr S => ?_
  refine iter_range S hr hs1 hn fun I o h1 so' S => ?_
  have b0 : 0 ≤ blk p := by unfold blk; split <;> omega
  have b1 : blk p < 2 ^ 61 := by unfold blk; split <;> omega
  refine N_forR (JWs c x sd (blk p) tb ks)
    0 1 R.1 S so' (.mk rfl) 5 rfl ?_ ?_ ?_ rfl rfl
  · rintro i vs σ h2 ⟨⟩
    rfl
  · rintro i vs σ hT @⟨w6, w7, t9, z, i, hT, hz9⟩ hi tk tv o h1 k1 S Qt hQr hQn
    dsimp only [List.set] at S
    have ei : (0 : Int) + (i : Int) * 1 = i := by omega
    rw [ei] at S
    obtain ⟨hx', rk⟩ := kk i _ (List.getElem?_eq_getElem hi)
    have ok' := kids_ok o1 (ks[i]).2.1 (by rw [hk]; exact List.mem_map_of_mem (List.getElem_mem hi))
    obtain ⟨a4, t4, u4, hx, tp⟩ := ph.get hx'
    with_reducible refine X_name ?_
    with_reducible refine' E_mc (by assumption) (by assumption) ?c2 ?c3 ?c4 ?c5 ?_ ?c7
    case c2 => exact .hd
    case c3 => assumption
    case c4 => exact mth_deref
    case c5 => k_is
    case c7 => rfl
    with_reducible refine S_cons ?_
    with_reducible refine E_sub ?_
    with_reducible refine' E_at (by assumption) (by assumption) ?c2 ?c3 ?c4 ?c5 ?_ ?c7
    case c2 => exact .hd
    case c3 => assumption
    case c4 => exact .tl (.tl .hd)
    case c5 => exact fld_heap
    case c7 => rfl
    with_reducible refine E_bin ?_
    with_reducible refine' E_loc (by assumption) ?c1 ?_
    case c1 => exact .t3 .h1
    with_reducible refine' E_loc (by assumption) ?c1 ?_
    case c1 => exact .t3 .h2
    with_reducible refine i_add ?_
    refine I_lst (S.base _ _ eh) ?_ hx (by (clear b1; omega)) (by (clear b0; omega)) (by with_unfolding_all rfl)
    with_reducible refine S_nil ?_
    with_reducible refine' Krf_go (by assumption) (by assumption) ?_
    obtain ⟨m1, q1, D1, K1⟩ := rk.root ok' Bd
    refine deref_ (G.st S) R (Z.chg0 (S.re tk).back0) (tp.tk (tk.trans S.tup)) D1 fun h1 k1 a1 t1 u1 x1 X1 => ?_
    replace S := S.call0 x1
    replace X1 := X1.tk x1.tup
    have tkS := S.tup
    replace tk := tk.trans S.tup
    replace S := S.pool
    with_reducible refine' N_st (by assumption) ?c1 ?_
    case c1 => exact .t3 (.t3 .hd)
    intro h1 S
    with_reducible refine X_if0 ?_
    with_reducible refine T_val ?_
    with_reducible refine' E_mc (by assumption) (by assumption) ?c2 ?c3 ?c4 ?c5 ?_ ?c7
    case c2 => exact .hd
    case c3 => assumption
    case c4 => exact mth_is_compound
    case c5 => k_is
    case c7 => rfl
    with_reducible refine' S_locL (by assumption) ?c1 ?_
    case c1 => exact .t3 (.t3 .hd)
    with_reducible refine' Krf_go (by assumption) (by assumption) ?_
    refine is_compound_ (G.st S) R (X1.tk S.tup) fun h1 k1 x1 => ?_
    replace S := S.call0 x1
    with_reducible refine truthy_b ?_
    have hsum : z + ((ks[i]).2.1.sz : Nat) = 1 + (((ks.take (i + 1)).map (·.2.1.sz)).sum : Nat) := by
      rw [hz9, List.take_succ_eq_append_getElem hi, List.map_append, List.sum_append, Int.natCast_add, ← Int.add_assoc]
      simp
    refine ⟨fun c1 => ?_, fun c1 => ?_⟩
    · have c1' : cb q1 = true := c1
      obtain ⟨lk, rfl⟩ := K_cmp K1 c1'
      obtain ⟨tz, ez⟩ := hz _ (List.getElem_mem hi) lk
      with_reducible refine X_augName ?_
      with_reducible refine' N_loc (by assumption) ?c1 ?_
      case c1 => exact .t3 .hd
      with_reducible refine E_sub ?_
      with_reducible refine' E_loc (by assumption) ?c1 ?_
      case c1 => exact .h2
      with_reducible refine' E_tI (by assumption) ?c1 ?c2 ?_ ?c4
      case c1 => exact .t3 (.t3 .hd)
      case c2 => assumption
      case c4 => rfl
      refine I_dic (x := (ks[i]).1.2) (S.base _ _ es) Ds isI ez ?_ (by with_unfolding_all rfl)
      with_reducible refine i_iadd ?_
      with_reducible refine' N_st (by assumption) ?c1 ?_
      case c1 => exact .t3 .hd
      intro h1 S
      with_reducible refine X_nil ?_
      exact hQn _ _ _ _ _ (by first | exact .inl rfl | exact .inr rfl) (S.re tkS) (.mk hsum)
    · have c1' : cb q1 = false := c1
      obtain ⟨-, lk, -⟩ := K_ncmp rk K1 c1'
      with_reducible refine X_augName ?_
      with_reducible refine' N_loc (by assumption) ?c1 ?_
      case c1 => exact .t3 .hd
      with_reducible refine E_int ?_
      with_reducible refine i_iadd ?_
      with_reducible refine' N_st (by assumption) ?c1 ?_
      case c1 => exact .t3 .hd
      intro h1 S
      with_reducible refine X_nil ?_
      have h1 : (ks[i]).2.1.sz = 1 := by cases h9 : (ks[i]).2.1 <;> simp_all [Tr.leaf, Tr.sz]
      rw [h1] at hsum
      exact hQn _ _ _ _ _ (by first | exact .inl rfl | exact .inr rfl) (S.re tkS) (.mk hsum)
  · rintro i_ vs σ h2 @⟨w6, w7, t9, z, i_, h2, hz9⟩ rfl h1 k1 S tk
    with_reducible refine Nx_next ?_
    with_reducible refine X_ret ?_
    with_reducible refine' E_loc (by assumption) ?c1 ?_
    case c1 => exact .t3 .hd
    have hsz := kids_sz l
    rw [hk, List.map_map] at hsz
    rw [List.take_of_length_le (Nat.le_refl _)] at hz9
    have e9 : z = (T.sz : Int) := by
      have : (ks.map (·.2.1.sz)).sum + 1 = T.sz := hsz
      omega
    rw [e9]
    exact q _ _ _ S.back0
end
end
section
open PySem PySem.W PyProof.Rows PySem.Calls
set_option hygiene true
inductive WkAt (h : Heap) (v : Value) (e : Wk) : Prop
  | mk (t a : Addr) (x y z : Tok) (h0 : v = .ref t) (h1 : Tp h t [.int (if e.b then 1 else 0) x, .ref a]) (h2 : Tp h a [.int e.p.1 y, .int e.p.2 z])
theorem WkAt.tk {h h' : Heap} {v : Value} {e : Wk} (x : WkAt h v e) (t : Tk h h') : WkAt h' v e := (by obtain ⟨a, b, c, d, f, g, h1, h2⟩ := x; exact ⟨a, b, c, d, f, g, h1.tk t, h2.tk t⟩)
structure WkOk (H F : List (Int × Int)) (SZ : Int → Option Nat) (e : Wk) : Prop where
  r : Rep H F e.p e.t e.as
  ok : e.t.ok
  sz : e.t.sz ≤ 100
  cs : Cons SZ e.t e.as
  bl : e.b = true → e.t.leaf = false ∧ e.t.kids = e.ks.map (·.2.1) ∧ (∀ (j : Nat) (k : (Int × Int) × Tr × List Int), e.ks[j]? = some k → H[(blk e.p + j).toNat]? = some k.1 ∧ Rep H F k.1 k.2.1 k.2.2) ∧ (e.ks.length = 1 ∨ e.ks.length = 2) ∧ HeadOk H F e.p.1 e.p.2 e.t.fn e.ks.length ∧ 0 ≤ e.p.2 ∧ e.p.2 < 2 ^ 60 ∧ e.as = e.p.2 :: e.ks.flatMap (·.2.2)
noncomputable def tab (sn : List Int) : List (Int × Int) := sn.zipIdx.map fun p => (p.1, (p.2 : Int))
structure TInv (V : Vw) (H F : List (Int × Int)) (ev : Int → Tr) (SZ : Int → Option Nat) (z : List Tr) (h : Heap) (cnt : Nat) (ws rs : List Value) (ot ok os : Obj) (E : List Wk) (Rs : List Tr) (sn : List Int) : Prop where
  w : All2 (WkAt h) ws E
  g : ∀ e ∈ E, WkOk H F SZ e
  r : All2 (fun v T => Rd h v (enc T)) rs Rs
  t : ∃ kt, ot.IsDictOf (intKind V.prog V.w) kt ∧ KV kt (tab sn)
  k : ∃ kk, ok.IsDictOf (intKind V.prog V.w) kk ∧ kk.length + cnt ≤ 1000 ∧ ∀ e ∈ E, e.b = false → ∀ a ∈ e.as, valueAt kk a = none
  s : ∃ kz X, os.IsDictOf (intKind V.prog V.w) kz ∧ kz.length + cnt ≤ 1000 ∧ (∀ a, X a → ∃ n t, SZ a = some n ∧ valueAt kz a = some (.int (n : Int) t)) ∧ okS E.reverse X Rs.length
  nd : (E.flatMap wka).Nodup
  z : run ev E.reverse Rs sn = z
  m : cnt = (E.map wkm).sum
  b : Rs.length + cnt ≤ 1000 ∧ sn.length + cnt ≤ 1000
theorem num_len (t : Tr) : ∀ sn, sn.length ≤ (num t sn).2.length ∧ (num t sn).2.length ≤ sn.length + t.sz := by
  induction t with
  | v k => intro sn; unfold num; split <;> simp [Tr.sz]
  | a n => intro sn; simp [num, Tr.sz]
  | i n => intro sn; simp [num, Tr.sz]
  | s1 f x ih => intro sn; have := ih sn; simp only [num, Tr.sz]; omega
  | s2 f x y ih1 ih2 => intro sn; have := ih1 sn; have := ih2 (num x sn).2; simp only [num, Tr.sz]; omega
section
variable {V : Vw} {H F : List (Int × Int)} {ev : Int → Tr} {SZ : Int → Option Nat} {z : List Tr} {h h' : Heap} {cnt : Nat} {ws rs ws' rs' : List Value} {ot ok os ot' ok' os' : Obj} {E' : List Wk} {e : Wk} {Rs : List Tr} {sn : List Int}
theorem le_sum : ∀ {l : List Nat} {x : Nat}, x ∈ l → x ≤ l.sum
  | a :: l, x, h => by
    rw [List.sum_cons]
    rcases List.mem_cons.mp h with rfl | h
    · omega
    · have := le_sum h; omega
theorem leaf_sz {t : Tr} (l : t.leaf = true) : t.sz = 1 := by cases t <;> simp_all [Tr.leaf, Tr.sz]
theorem TInv.m' (I : TInv V H F ev SZ z h cnt ws rs ot ok os (E'.concat e) Rs sn) : cnt = (E'.map wkm).sum + wkm e := by rw [I.m]; simp
theorem TInv.s' (I : TInv V H F ev SZ z h cnt ws rs ot ok os (E'.concat e) Rs sn) : ∃ kz X, os.IsDictOf (intKind V.prog V.w) kz ∧ kz.length + cnt ≤ 1000 ∧ (∀ a, X a → ∃ n t, SZ a = some n ∧ valueAt kz a = some (.int (n : Int) t)) ∧ okS (e :: E'.reverse) X Rs.length := by
  obtain ⟨kz, X, a, b, c, d⟩ := I.s
  rw [List.concat_eq_append, List.reverse_append] at d
  exact ⟨kz, X, a, b, c, d⟩
theorem TInv.z' (I : TInv V H F ev SZ z h cnt ws rs ot ok os (E'.concat e) Rs sn) : run ev (e :: E'.reverse) Rs sn = z := by
  have := I.z
  rw [List.concat_eq_append, List.reverse_append] at this
  exact this
theorem TInv.nd' (I : TInv V H F ev SZ z h cnt ws rs ot ok os (E'.concat e) Rs sn) : (E'.flatMap wka ++ wka e).Nodup := by
  have := I.nd
  rw [List.concat_eq_append, List.flatMap_append] at this
  simpa using this
theorem TInv.leaf (I : TInv V H F ev SZ z h cnt ws rs ot ok os (E'.concat e) Rs sn) (hb : e.b = false) (hl : (res ev e.t).leaf = true) (hl' : e.t.leaf = true) (W8 : All2 (WkAt h') ws' E') (R8 : All2 (fun v T => Rd h' v (enc T)) rs' (Rs ++ [(num (res ev e.t) sn).1]))
    (T8 : ∃ kt, ot'.IsDictOf (intKind V.prog V.w) kt ∧ KV kt (tab (num (res ev e.t) sn).2)) : TInv V H F ev SZ z h' (E'.map wkm).sum ws' rs' ot' ok os E' (Rs ++ [(num (res ev e.t) sn).1]) (num (res ev e.t) sn).2 := by
  have hm := I.m'
  have hw : wkm e = 2 := by unfold wkm; rw [hb, leaf_sz hl']; rfl
  have hb9 := I.b
  obtain ⟨kk, k1, k2, k3⟩ := I.k
  obtain ⟨kz, X, s1, s2, s3, s4⟩ := I.s'
  have hz := I.z'
  have hn := num_len (res ev e.t) sn
  rw [leaf_sz hl] at hn
  refine ⟨W8, fun x hx => I.g x (by simp [hx]), R8, T8, ⟨kk, k1, by (clear hw; omega), fun x hx => k3 x (by simp [hx])⟩, ⟨kz, X, s1, by (clear hw; omega), s3, ?_⟩, (List.nodup_append.mp I.nd').1, ?_, rfl, by simp; omega, by omega⟩
  · unfold okS at s4
    rw [hb] at s4
    simp only [Bool.false_eq_true, if_false] at s4
    rw [List.length_append]
    refine s4.mono fun a => ?_
    rintro (h | ⟨h, -⟩)
    · exact h
    · rw [hl'] at h; cases h
  · unfold run at hz
    rw [hb] at hz
    simpa using hz
theorem TInv.push {ks : List ((Int × Int) × Tr × List Int)} {kk : List (Int × Value)} {vv : Value} (I : TInv V H F ev SZ z h cnt ws rs ot ok os (E'.concat e) Rs sn) (hb : e.b = false) (hl : e.t.leaf = false)
    (hk : e.t.kids = ks.map (·.2.1)) (kc : ∀ (j : Nat) (k : (Int × Int) × Tr × List Int), ks[j]? = some k → H[(blk e.p + j).toNat]? = some k.1 ∧ Rep H F k.1 k.2.1 k.2.2) (hn : ks.length = 1 ∨ ks.length = 2) (O : HeadOk H F e.p.1 e.p.2 e.t.fn ks.length) (p0 : 0 ≤ e.p.2) (p1 : e.p.2 < 2 ^ 60) (ha : e.as = e.p.2 :: ks.flatMap (·.2.2))
    (k1 : kk.length + cnt ≤ 1000) (k3 : ∀ x ∈ E'.concat e, x.b = false → ∀ a ∈ x.as, valueAt kk a = none) (ko : ok'.IsDictOf (intKind V.prog V.w) (stored kk e.p.2 vv))
    (W8 : All2 (WkAt h') ws' (E' ++ ⟨true, e.p, e.t, e.as, ks⟩ :: (ks.map vis).reverse)) (R8 : All2 (fun v T => Rd h' v (enc T)) rs Rs) :
    TInv V H F ev SZ z h' ((E' ++ ⟨true, e.p, e.t, e.as, ks⟩ :: (ks.map vis).reverse).map wkm).sum ws' rs ot ok' os (E' ++ ⟨true, e.p, e.t, e.as, ks⟩ :: (ks.map vis).reverse) Rs sn ∧ ((E' ++ ⟨true, e.p, e.t, e.as, ks⟩ :: (ks.map vis).reverse).map wkm).sum < cnt := by
  have hm := I.m'
  have hb9 := I.b
  obtain ⟨kz, X, s1, s2, s3, s4⟩ := I.s'
  have hz := I.z'
  have nd := I.nd'
  have ge := I.g e (by simp)
  have rk : ∀ k ∈ ks, Rep H F k.1 k.2.1 k.2.2 := fun k hk => (by obtain ⟨j, hj⟩ := List.mem_iff_getElem?.mp hk; exact (kc j k hj).2)
  have cs := ge.cs
  rw [ha] at cs
  have cs' := cs.kid hl hk rk
  have hwe : wka e = e.as := by unfold wka; rw [hb]; rfl
  rw [hwe, ha] at nd
  have hrev : (E' ++ (⟨true, e.p, e.t, e.as, ks⟩ : Wk) :: (ks.map vis).reverse).reverse = ks.map vis ++ ⟨true, e.p, e.t, e.as, ks⟩ :: E'.reverse := by simp
  have hsz := kids_sz hl
  rw [hk, List.map_map] at hsz
  have hsum : (((ks.map vis).reverse).map wkm).sum + 2 = 2 * e.t.sz := by
    rw [List.map_reverse, List.sum_reverse, List.map_map, ← hsz]
    have : ∀ l : List ((Int × Int) × Tr × List Int), (l.map (wkm ∘ vis)).sum = 2 * (l.map (Tr.sz ∘ fun x => x.2.1)).sum := by
      intro l
      induction l with
      | nil => rfl
      | cons a l ih => rw [List.map_cons, List.sum_cons, List.map_cons, List.sum_cons, ih]; simp [wkm]; omega
    rw [this]; exact Int.toNat_natCast _
  have hwm : wkm e = 2 * e.t.sz := by unfold wkm; rw [hb]; rfl
  have hcnt : ((E' ++ (⟨true, e.p, e.t, e.as, ks⟩ : Wk) :: (ks.map vis).reverse).map wkm).sum + 1 = cnt := by
    rw [List.map_append, List.sum_append, List.map_cons, List.sum_cons, hm, hwm]
    have : wkm (⟨true, e.p, e.t, e.as, ks⟩ : Wk) = 1 := rfl
    rw [this]; omega
  have hst : (stored kk e.p.2 vv).length ≤ kk.length + 1 := stored_length_le _ _ _
  refine ⟨⟨W8, fun x hx => ?_, R8, I.t, ⟨_, ko, by (clear hm; omega), fun x hx hxb a hxa => ?_⟩, ⟨kz, X, s1, by (clear hm; omega), s3, ?_⟩, ?_, ?_, rfl, by (clear hm; omega), by (clear hm; omega)⟩, by (clear hm; omega)⟩
  · rcases List.mem_append.mp hx with hx | hx
    · exact I.g x (by simp [hx])
    · rcases List.mem_cons.mp hx with rfl | hx
      · exact ⟨ge.r, ge.ok, ge.sz, ge.cs, fun _ => ⟨hl, hk, kc, hn, O, p0, p1, ha⟩⟩
      · obtain ⟨k, hk', rfl⟩ := List.mem_map.mp (List.mem_reverse.mp hx)
        refine ⟨rk k hk', kids_ok ge.ok _ (hk ▸ List.mem_map_of_mem hk'), ?_, cs'.2 k hk', fun h => by cases h⟩
        have h1 : k.2.1.sz ≤ (ks.map (Tr.sz ∘ fun x => x.2.1)).sum := le_sum (List.mem_map.mpr ⟨k, hk', rfl⟩)
        have := ge.sz
        show k.2.1.sz ≤ 100
        omega
  · rw [valueAt_stored]
    obtain ⟨n1, n2, n3⟩ := List.nodup_append.mp nd
    rcases List.mem_append.mp hx with hx | hx
    · have hne : a ≠ e.p.2 := fun q => n3 a (List.mem_flatMap.mpr ⟨x, hx, by unfold wka; rw [hxb]; exact hxa⟩) _ (.head _) q
      rw [if_neg hne]
      exact k3 x (by simp [hx]) hxb a hxa
    · rcases List.mem_cons.mp hx with rfl | hx
      · cases hxb
      · obtain ⟨k, hk', rfl⟩ := List.mem_map.mp (List.mem_reverse.mp hx)
        have hin : a ∈ ks.flatMap (·.2.2) := List.mem_flatMap.mpr ⟨k, hk', hxa⟩
        have hne : a ≠ e.p.2 := fun q => (List.nodup_cons.mp n2).1 (q ▸ hin)
        rw [if_neg hne]
        exact k3 e (by simp) hb a (by rw [ha]; exact .tail _ hin)
  · rw [hrev]
    obtain ⟨b, p, t, as, ks'⟩ := e
    dsimp only at hb
    subst hb
    exact okS_push hl s4
  · have hf : (E' ++ (⟨true, e.p, e.t, e.as, ks⟩ : Wk) :: (ks.map vis).reverse).flatMap wka = E'.flatMap wka ++ e.p.2 :: ks.reverse.flatMap (·.2.2) := by
      rw [List.flatMap_append, List.flatMap_cons, ← List.map_reverse, List.flatMap_map]
      rfl
    rw [hf]
    refine (List.Perm.nodup_iff ?_).mp nd
    exact List.Perm.append_left _ (List.Perm.cons _ ((List.reverse_perm ks).flatMap_right _).symm)
  · rw [hrev, ← hz]
    obtain ⟨b, p, t, as, ks'⟩ := e
    dsimp only at hb
    subst hb
    exact (run_push hl hk).symm
theorem TInv.build {kk kz : List (Int × Value)} {X : Int → Prop} {vv : Value} {tk : Tok} (I : TInv V H F ev SZ z h cnt ws rs ot ok os (E'.concat e) Rs sn) (hb : e.b = true)
    (k1 : kk.length + cnt ≤ 1000) (k3 : ∀ x ∈ E'.concat e, x.b = false → ∀ a ∈ x.as, valueAt kk a = none) (ko : ok'.IsDictOf (intKind V.prog V.w) (stored kk e.p.2 vv))
    (s2 : kz.length + cnt ≤ 1000) (s3 : ∀ a, X a → ∃ n t, SZ a = some n ∧ valueAt kz a = some (.int (n : Int) t)) (s4 : okS (e :: E'.reverse) X Rs.length) (so : os'.IsDictOf (intKind V.prog V.w) (stored kz e.p.2 (.int (e.t.sz : Int) tk)))
    (W8 : All2 (WkAt h') ws' E') (R8 : All2 (fun v T => Rd h' v (enc T)) rs' (bld e.t Rs)) :
    TInv V H F ev SZ z h' (E'.map wkm).sum ws' rs' ot ok' os' E' (bld e.t Rs) sn := by
  have hm := I.m'
  have hw : wkm e = 1 := by unfold wkm; rw [hb]; rfl
  have hb9 := I.b
  have hz := I.z'
  have nd := I.nd'
  have ge := I.g e (by simp)
  obtain ⟨bl1, bl2, bl3, bl4, bl5, bl6, bl7, bl8⟩ := ge.bl hb
  have hwe : wka e = [e.p.2] := by unfold wka; rw [hb]; rfl
  rw [hwe] at nd
  obtain ⟨n1, n2, n3⟩ := List.nodup_append.mp nd
  have hst : (stored kk e.p.2 vv).length ≤ kk.length + 1 := stored_length_le _ _ _
  have hst2 : (stored kz e.p.2 (.int (e.t.sz : Int) tk)).length ≤ kz.length + 1 := stored_length_le _ _ _
  unfold okS at s4
  rw [hb] at s4
  simp only [if_true] at s4
  have hbl : (bld e.t Rs).length = Rs.length - e.ks.length + 1 := by
    unfold bld; rw [bl2]; simp
  refine ⟨W8, fun x hx => I.g x (by simp [hx]), R8, I.t, ⟨_, ko, by omega, fun x hx hxb a hxa => ?_⟩, ⟨_, fun a => X a ∨ a = e.p.2, so, by omega, fun a => ?_, ?_⟩, n1, ?_, rfl, by omega, by omega⟩
  · rw [valueAt_stored, if_neg]
    · exact k3 x (by simp [hx]) hxb a hxa
    · exact fun q => n3 a (List.mem_flatMap.mpr ⟨x, hx, by unfold wka; rw [hxb]; exact hxa⟩) _ (.head _) q
  · rw [valueAt_stored]
    rintro (h | rfl)
    · obtain ⟨n, t, e1, e2⟩ := s3 a h
      by_cases q : a = e.p.2
      · subst q
        rw [if_pos rfl]
        exact ⟨_, _, ge.cs.top ge.r bl1, rfl⟩
      · rw [if_neg q]; exact ⟨n, t, e1, e2⟩
    · rw [if_pos rfl]
      exact ⟨_, _, ge.cs.top ge.r bl1, rfl⟩
  · rw [hbl]; exact s4.2
  · unfold run at hz
    rw [hb] at hz
    simpa using hz
end
theorem rep_leaf {H F : List (Int × Int)} {t : Tr} (l : t.leaf = true) : Rep H F (lcell t) t [] := by
  cases t with
  | v => exact .v
  | a => exact .a
  | i => exact .i
  | s1 => cases l
  | s2 => cases l
theorem Rep.root' {H F : List (Int × Int)} {p : Int × Int} {t : Tr} {as : List Int} {ev : Int → Tr} (r : Rep H F p t as) (o : t.ok) (B : Bd H ev) (nd : as.Nodup) :
    ∃ m q T' as', Der H m p q ∧ Rep H F q T' as' ∧ T'.ok ∧ T'.sz ≤ t.sz ∧ res ev T' = res ev t ∧ as'.Nodup ∧ q.1 ≠ 1 := by
  obtain ⟨m, q, D, K⟩ := r.root o B
  rcases K with ⟨l, l', rfl⟩ | ⟨l, rfl⟩
  · refine ⟨m, _, res ev t, [], D, rep_leaf l, ?_, by rw [leaf_sz l, leaf_sz l']; exact Nat.succ_pos _, ?_, List.nodup_nil, ?_⟩
    · cases t with
      | v k =>
        show (ev k).ok
        cases h : ev k with
        | v j => exact ⟨(B.id k j o.1 o.2 h).1, (B.id k j o.1 o.2 h).2.1⟩
        | a => trivial
        | i => trivial
        | s1 => rw [show res ev (.v k) = ev k from rfl, h] at l; cases l
        | s2 => rw [show res ev (.v k) = ev k from rfl, h] at l; cases l
      | a => trivial
      | i => trivial
      | s1 => cases l'
      | s2 => cases l'
    · cases t with
      | v k =>
        show res ev (ev k) = ev k
        cases h : ev k with
        | v j => exact (B.id k j o.1 o.2 h).2.2
        | a => rfl
        | i => rfl
        | s1 => rw [show res ev (.v k) = ev k from rfl, h] at l; cases l
        | s2 => rw [show res ev (.v k) = ev k from rfl, h] at l; cases l
      | a => rfl
      | i => rfl
      | s1 => cases l'
      | s2 => cases l'
    · rcases lcell_tag l with h | h | h <;> omega
  · exact ⟨m, _, t, as, D, r, o, Nat.le_refl _, rfl, nd, by rcases r.tagc l with h | h <;> omega⟩
theorem tab_len (sn : List Int) : (tab sn).length = sn.length := by simp [tab]
theorem tab_snoc (sn : List Int) (k : Int) : tab (sn ++ [k]) = tab sn ++ [(k, (sn.length : Int))] := by
  unfold tab
  rw [List.zipIdx_append, List.map_append]
  simp
theorem tab_look (k : Int) : ∀ (sn : List Int) (b : Nat), ((sn.zipIdx b).map fun p => (p.1, (p.2 : Int))).lookup k = if k ∈ sn then some ((b + sn.idxOf k : Nat) : Int) else none
  | [], b => by simp
  | a :: sn, b => by
    rw [List.zipIdx_cons, List.map_cons, List.lookup_cons]
    by_cases h : k = a
    · subst h; simp
    · rw [beq_eq_false_iff_ne.mpr h]
      have h' : ¬ a = k := fun e => h e.symm
      rw [tab_look k sn (b + 1)]
      simp only [List.mem_cons, h, false_or, List.idxOf_cons, beq_eq_false_iff_ne.mpr h']
      by_cases hm : k ∈ sn
      · rw [if_pos hm, if_pos hm]; simp; omega
      · rw [if_neg hm, if_neg hm]
theorem tab_lookup (sn : List Int) (k : Int) : (tab sn).lookup k = if k ∈ sn then some ((sn.idxOf k : Nat) : Int) else none := by
  have := tab_look k sn 0
  simpa [tab] using this
noncomputable abbrev kget (ks : List ((Int × Int) × Tr × List Int)) (j : Nat) : (Int × Int) × Tr × List Int := ks[j]?.getD ((0, 0), .v 0, [])
theorem rng_rev {ks : List ((Int × Int) × Tr × List Int)} (h : ks.length = 1 ∨ ks.length = 2) : (List.range ks.length).map (fun j => vis (kget ks (ks.length - 1 - j))) = (ks.map vis).reverse := by
  match ks with
  | [a] => rfl
  | [a, b] => rfl
  | [] => simp at h
  | _ :: _ :: _ :: _ => simp at h
theorem All2.take {β : Type} {R : Value → β → Prop} : ∀ {vs : List Value} {ps : List β} (j : Nat), All2 R vs ps → All2 R (vs.take j) (ps.take j)
  | [], [], j, _ => by simp [All2]
  | _ :: _, _ :: _, 0, _ => trivial
  | _ :: _, _ :: _, j + 1, x => ⟨x.1, x.2.take j⟩
  | [], _ :: _, _, x => x.elim
  | _ :: _, [], _, x => x.elim
theorem All2.drop {β : Type} {R : Value → β → Prop} : ∀ {vs : List Value} {ps : List β} (j : Nat), All2 R vs ps → All2 R (vs.drop j) (ps.drop j)
  | [], [], j, _ => by simp [All2]
  | _ :: _, _ :: _, 0, x => x
  | _ :: _, _ :: _, j + 1, x => x.2.drop j
  | [], _ :: _, _, x => x.elim
  | _ :: _, [], _, x => x.elim
theorem rdAll {h : Heap} : ∀ {vs : List Value} {l : List Tr}, All2 (fun v T => Rd h v (enc T)) vs l → ReadsAll h vs (l.map enc) []
  | [], [], _ => .nil
  | _ :: _, _ :: _, x => Rd.cons x.1 (rdAll x.2)
  | [], _ :: _, x => x.elim
  | _ :: _, [], x => x.elim
theorem enc_mk {f : Int} {l : List Tr} (h : l.length = 1 ∨ l.length = 2) : enc (mkT f l) = .tuple [.str "s", .int f, .tuple (l.map enc)] := by
  match l with
  | [a] => rfl
  | [a, b] => rfl
  | [] => simp at h
  | _ :: _ :: _ :: _ => simp at h
end
section
open PySem PySem.W PyProof.Rows PySem.Calls
set_option hygiene false
inductive JTf (c a1 td kd sd rl lw : Addr) (tb : Tok) (b : Int) (rs : List Value) (n' : Nat) (os ok' ot : Obj) (f : Nat → List Wk) (n0 : Nat) : Nat → List (Option Value) → List (Addr × Obj) → Heap → Prop
  | mk {w1 w2 w3 w4 w5 w7 : Option Value} {ws2 : List Value} {m2 i : Nat} {h : Heap} (W6 : All2 (WkAt h) ws2 (f i)) (hlen : ws2.length = n0 + i) :
    JTf c a1 td kd sd rl lw tb b rs n' os ok' ot f n0 i [some (.ref c), some (.ref a1), some (.ref td), some (.ref kd), some (.ref sd), some (.ref rl), some (.ref lw), w1, w2, w3, w4, w5, some (.int b tb), w7] [(lw, lo ws2 m2), (rl, lo rs n'), (sd, os), (kd, ok'), (td, ot)] h
inductive JTk (V : Vw) (H F : List (Int × Int)) (ev : Int → Tr) (SZ : Int → Option Nat) (Rz : List Tr) (c td kd sd rl lw : Addr) : Nat → List (Option Value) → List (Addr × Obj) → Heap → Prop
  | mk {wc w1 w2 w3 w4 w5 w6 w7 : Option Value} {ws : List Value} {n : Nat} {rs : List Value} {n' : Nat} {ot ok os : Obj} {E : List Wk} {Rs : List Tr} {sn : List Int} {m : Nat} {h : Heap} (I : TInv V H F ev SZ Rz h m ws rs ot ok os E Rs sn) :
    JTk V H F ev SZ Rz c td kd sd rl lw m [some (.ref c), wc, some (.ref td), some (.ref kd), some (.ref sd), some (.ref rl), some (.ref lw), w1, w2, w3, w4, w5, w6, w7]
      [(lw, lo ws n), (rl, lo rs n'), (sd, os), (kd, ok), (td, ot)] h
section
variable {V : Vw} {B₀ h : Heap} {A : Around} {k : Nat} {Q : Value → Heap → Nat → Prop} {c x y sy hp fl : Addr} {tag i : Int} {t u t' u' : Tok} {n : Nat} {H F : List (Int × Int)}
set_option maxHeartbeats 4000000 in
theorem take_term_ {p : Int × Int} {T : Tr} {as : List Int} {ev : Int → Tr} {ot : Obj} {td : Addr} (G : Wd (hd.heap_39 V.w.params) B₀ h) (R : Room A (n + 4)) (Z : Sto B₀ h c sy hp fl H F)
    (T1 : Tp h x [.int p.1 t, .int p.2 u]) (r1 : Rep H F p T as) (o1 : T.ok) (Bd : Bd H ev) (nd : as.Nodup) (hz : T.sz ≤ 100)
    (et : h.get? td = some ot) (ft : B₀.get? td = none) (ntd : (td == sysModules) = false) (Dt : ot.IsDictOf (intKind V.prog V.w) []) (n1 : hp ≠ td) (n2 : fl ≠ td)
    (q : ∀ h' k' v, Chg [td] h h' → Rd h' v (enc (num (res ev T) []).1) → Q v h' k') : W V A (call (.ref 377) ([.ref c] ++ [.ref x, .ref td])) Q h k := by
  obtain ⟨st, tr, t1, t2, t3, C⟩ := Z.C
  obtain ⟨hs, mm, eh, ph⟩ := Z.hh
  refine' W_enter (binds := [("self", .ref c), ("cell", .ref x), ("table", .ref td)]) G R ?ho ?hcd [(td, ot)] (by simpa using ⟨et, ft⟩) (by simp) ?hb ?he ?nn ?nb ?_ ?hcell ?hco ?hgen ?hk
  case ho => k_is
  case hcd => k_is
  case hb => exact BindsTo.of_eq rfl
  case he => repeat constructor
  case nn => decide
  case nb => decide
  case hcell => decide
  case hco => rfl
  case hgen => rfl
  case hk => rfl
  intro A B L h1 k1 G S hB hB' R
  dsimp only at S
  have Z0 := Z.chg (S.back hB) (by simpa using n1) (by simpa using n2)
  have eh' : B.get? hp = some (lo hs mm) := hB _ _ eh (by simpa using n1)
  with_reducible refine X_name ?_
  refine E_dictN G S fun kd k0 h1 nk S D0 => ?_
  with_reducible refine' N_st (by assumption) ?c1 ?_
  case c1 => exact .t3 .hd
  intro h1 S
  with_reducible refine X_name ?_
  refine E_dictN G S fun sd s0 h1 ns S D1 => ?_
  with_reducible refine' N_st (by assumption) ?c1 ?_
  case c1 => exact .t3 .h1
  intro h1 S
  with_reducible refine X_name ?_
  with_reducible refine E_list ?_
  with_reducible refine S_nil ?_
  with_reducible refine' N_lst (by assumption) ?_
  intro l1 h1 S
  with_reducible refine' N_st (by assumption) ?c1 ?_
  case c1 => exact .t3 .h2
  intro h1 S
  with_reducible refine X_name ?_
  with_reducible refine E_list ?_
  with_reducible refine S_cons ?_
  with_reducible refine E_tuple ?_
  with_reducible refine S_cons ?_
  with_reducible refine' E_glo (by assumption) (by assumption) ?c2 ?c3 ?_
  case c2 => exact .tl (.tl (.tl (.tl (.tl (.tl (.tl (.tl (.tl (.tl (.tl (.tl (.tl (.tl .hd)))))))))))))
  case c3 => k_is
  with_reducible refine S_cons ?_
  with_reducible refine' E_mc (by assumption) (by assumption) ?c2 ?c3 ?c4 ?c5 ?_ ?c7
  case c2 => exact .hd
  case c3 => assumption
  case c4 => exact mth_globalise
  case c5 => k_is
  case c7 => rfl
  with_reducible refine' S_locL (by assumption) ?c1 ?_
  case c1 => exact .h1
  with_reducible refine' Krf_go (by assumption) (by assumption) ?_
  obtain ⟨rl, hrl⟩ : ∃ rl, rl = l1 := ⟨_, rfl⟩
  subst hrl
  obtain ⟨m0, q0, T', as', D, r', ok', sz', res', nd', nr⟩ := r1.root' o1 Bd nd
  refine globalise_ (G.st S) R (Z.chg (S.back hB) (by simpa using n1) (by simpa using n2)) (T1.tk S.tup) D nr fun h1 k1 a0 t0 u0 x1 X1 => ?_
  replace S := S.call0 x1
  have tk0 := S.tup
  replace S := S.pool
  with_reducible refine S_nil ?_
  with_reducible refine' N_tup (by assumption) ?_
  intro t1 h1 S
  with_reducible refine S_nil ?_
  with_reducible refine' N_lst (by assumption) ?_
  intro l1 h1 S
  with_reducible refine' N_st (by assumption) ?c1 ?_
  case c1 => exact .t3 (.t3 .hd)
  intro h1 S
  with_reducible refine X_while ?_
  refine N_while (JTk V H F ev (fun a => (List.zip as' (szl T')).lookup a) [(num (res ev T) []).1] c td kd sd rl l1) (m₀ := 2 * T'.sz)
    (S.drop (σ' := [(l1, lo [.ref t1] 0), (rl, lo [] 0), (sd, s0), (kd, k0), (td, ot)]) ((List.sublist_cons_self _ _).cons₂ _))
    (.mk (E := [⟨false, q0, T', as', []⟩]) (Rs := []) (sn := []) ⟨⟨⟨t1, _, _, _, _, rfl, to_tp (S.has (by exact .tl .hd)), X1.tk S.tup⟩, trivial⟩, ?_, trivial, ⟨[], Dt, trivial⟩, ⟨[], D0 _ _, by simp; omega, fun _ _ _ _ _ => rfl⟩,
      ⟨[], fun _ => False, D1 _ _, by simp; omega, fun a h => h.elim, trivial⟩, by simpa [wka] using nd', ?_, rfl, by simp; omega⟩) ?_
  · intro e he
    rw [List.mem_singleton.mp he]
    exact ⟨r', ok', by show T'.sz ≤ 100; exact Nat.le_trans (by assumption) (by assumption), fun x hx => lookup_zip nd' x hx, fun h => by cases h⟩
  · simp [run, res']
  clear S nd' D r1 o1 nd hz X1 D0 D1 x1
  replace Z := Z
  rintro m vs σ hT @⟨wc, w1, w2, w3, w4, w5, w6, w7, ws, n, rs, n', ot, ok, os, E, Rs, sn, m, hT, I⟩ kT tk S Qt hQr hQn
  have tkh := tk0.trans tk
  with_reducible refine T_cmp ?_
  with_reducible refine E_call ?_
  with_reducible refine' E_bi (by assumption) (by assumption) ?c2 ?c3 ?c4 ?c5 ?_
  case c2 => exact .tl (.tl (.tl (.tl (.tl (.tl (.tl (.tl (.tl (.tl (.tl (.tl (.tl (.tl (.tl .hd))))))))))))))
  case c3 => k_is
  case c4 => boot_by_name
  case c5 => decide
  with_reducible refine C_bi ?_
  with_reducible refine' S_locL (by assumption) ?c1 ?_
  case c1 => exact .t3 (.t3 .hd)
  have hlw := I.w.len
  have hlr := I.r.len
  have hb9 := I.b
  have hle : E.length ≤ (E.map wkm).sum := by
    have : ∀ l : List Wk, l.length ≤ (l.map wkm).sum := by
      intro l
      induction l with
      | nil => exact Nat.le_refl _
      | cons a l ih =>
        have h1 : 1 ≤ wkm a := by unfold wkm; split; exact Nat.le_refl _; have := a.t.sz_pos; omega
        simp only [List.length_cons, List.map_cons, List.sum_cons]; omega
    exact this E
  rw [← I.m] at hle
  refine C_len (S.has (by exact .hd)) (by (clear hlr; omega)) fun t5 k5 => ?_
  with_reducible refine E_int ?_
  with_reducible refine i_gt ?_
  with_reducible refine truthy_b ?_
  refine ⟨fun e0 => ?_, fun e0 => ?_⟩
  rotate_left
  · have : E = [] := by
      have : ws.length = 0 := by simpa using e0
      exact List.length_eq_zero_iff.mp (by omega)
    subst this
    have hz := I.z
    simp only [List.reverse_nil, run] at hz
    have hr := I.r
    rw [hz] at hr
    match rs, hr with
    | [v], hr =>
      with_reducible refine Nx_next ?_
      with_reducible refine X_ret ?_
      with_reducible refine E_sub ?_
      with_reducible refine' E_loc (by assumption) ?c1 ?_
      case c1 => exact .t3 .h2
      with_reducible refine E_int ?_
      refine I_lst (S.has (by exact .h1)) ?_ (x := v) rfl (by decide) (by decide) (by with_unfolding_all rfl)
      skip
      exact q _ _ _ ((S.re tkh).back hB) (hr.1.tk S.tup)
    | _ :: _ :: _, hr => exact hr.2.elim
    | [], hr => exact hr.elim
  rcases List.eq_nil_or_concat E with rfl | ⟨E', e, rfl⟩
  · have : ws.length = 0 := by simpa using hlw
    rw [this] at e0
    simp at e0
  have W9 := I.w
  rw [List.concat_eq_append] at W9
  obtain ⟨ws', w, rfl, W8, ⟨ta, a, u1, u2, u3, rfl, V1, V2⟩⟩ := W9.unsnoc
  have ge := I.g e (by simp)
  have hlw' : ws'.length ≤ 1000 := by simp at hlw hle; omega
  with_reducible refine X_unp ?_
  with_reducible refine E_meth ?_
  with_reducible refine' E_loc (by assumption) ?c1 ?_
  case c1 => exact .t3 (.t3 .hd)
  with_reducible refine' MC_pop ?c0 ?_
  case c0 => exact St.has (by assumption) (by exact .hd)
  with_reducible refine C_bi ?_
  with_reducible refine S_nil ?_
  refine C_pop S (by exact .hd) (by exact .hd) (fun h1 S => ?_) (by omega)
  refine A_unp2 R.1 S (V1.tk S.tup) (by exact .t3 (.t3 .h1)) (by exact .h1) (fun h1 k1 S => ?_) rfl rfl
  with_reducible refine X_ifc ?_
  with_reducible refine' E_loc (by assumption) ?c1 ?_
  case c1 => exact .t3 (.t3 .h1)
  with_reducible refine' E_glo (by assumption) (by assumption) ?c2 ?c3 ?_
  case c2 => exact .tl (.tl (.tl (.tl (.tl (.tl (.tl (.tl (.tl (.tl (.tl (.tl (.tl (.tl (.tl (.tl .hd)))))))))))))))
  case c3 => k_is
  with_reducible refine q_ie ?_
  refine ⟨fun eb => ?_, fun eb => ?_⟩
  · have hb : e.b = true := by
      cases h : e.b with
      | true => rfl
      | false => rw [h] at eb; simp at eb
    obtain ⟨bl1, bl2, bl3, bl4, bl5, bl6, bl7, bl8⟩ := ge.bl hb
    obtain ⟨kk, Dk, k2, k3⟩ := I.k
    obtain ⟨kz, X, s1, s2, s3, s4⟩ := I.s'
    have s4' := s4
    unfold okS at s4'
    rw [hb] at s4'
    simp only [if_true] at s4'
    obtain ⟨⟨hge, hX⟩, -⟩ := s4'
    have ej : (rs.length : Int) - (e.ks.length : Int) = ((rs.length - e.ks.length : Nat) : Int) := by omega
    with_reducible refine X_name ?_
    with_reducible refine' E_mc (by assumption) (by assumption) ?c2 ?c3 ?c4 ?c5 ?_ ?c7
    case c2 => exact .hd
    case c3 => assumption
    case c4 => exact mth_functor_of
    case c5 => k_is
    case c7 => rfl
    with_reducible refine' S_locL (by assumption) ?c1 ?_
    case c1 => exact .h1
    with_reducible refine' Krf_go (by assumption) (by assumption) ?_
    refine functor_of_ (G.st S) R (Z.chg ((S.re tkh).back hB) (by simpa using n1) (by simpa using n2)) (V2.tk S.tup) bl5 fun h1 k1 tf x1 => ?_
    replace S := S.call0 x1
    with_reducible refine' N_st (by assumption) ?c1 ?_
    case c1 => exact .t3 (.t3 .h2)
    intro h1 S
    with_reducible refine X_name ?_
    with_reducible refine E_bin ?_
    with_reducible refine E_call ?_
    with_reducible refine' E_bi (by assumption) (by assumption) ?c2 ?c3 ?c4 ?c5 ?_
    case c2 => exact .tl (.tl (.tl (.tl (.tl (.tl (.tl (.tl (.tl (.tl (.tl (.tl (.tl (.tl (.tl .hd))))))))))))))
    case c3 => k_is
    case c4 => boot_by_name
    case c5 => decide
    with_reducible refine C_bi ?_
    with_reducible refine' S_locL (by assumption) ?c1 ?_
    case c1 => exact .t3 .h2
    refine C_len (S.has (by exact .h1)) (by (clear ej; omega)) fun t5 k5 => ?_
    with_reducible refine' E_mc (by assumption) (by assumption) ?c2 ?c3 ?c4 ?c5 ?_ ?c7
    case c2 => exact .hd
    case c3 => assumption
    case c4 => exact mth_width
    case c5 => k_is
    case c7 => rfl
    with_reducible refine' S_locL (by assumption) ?c1 ?_
    case c1 => exact .h1
    with_reducible refine' Krf_go (by assumption) (by assumption) ?_
    refine width_ (G.st S) R (Z.chg ((S.re tkh).back hB) (by simpa using n1) (by simpa using n2)) (V2.tk S.tup) bl5 fun h1 k1 tw x1 => ?_
    replace S := S.call0 x1
    with_reducible refine i_sub ?_
    rw [ej]
    with_reducible refine' N_st (by assumption) ?c1 ?_
    case c1 => exact .t3 (.t3 (.t3 .hd))
    intro h1 S
    with_reducible refine X_name ?_
    with_reducible refine E_tuple ?_
    with_reducible refine S_cons ?_
    with_reducible refine E_str ?_
    with_reducible refine' S_loc (by assumption) ?c1 ?_
    case c1 => exact .t3 (.t3 .h2)
    with_reducible refine S_cons ?_
    with_reducible refine E_call ?_
    with_reducible refine' E_bi (by assumption) (by assumption) ?c2 ?c3 ?c4 ?c5 ?_
    case c2 => exact .tl (.tl (.tl (.tl (.tl (.tl (.tl (.tl (.tl (.tl (.tl (.tl (.tl (.tl (.tl (.tl (.tl .hd))))))))))))))))
    case c3 => k_is
    case c4 => boot_by_name
    case c5 => decide
    with_reducible refine C_ty ?_
    with_reducible refine S_cons ?_
    with_reducible refine E_sub ?_
    with_reducible refine' E_loc (by assumption) ?c1 ?_
    case c1 => exact .t3 .h2
    refine E_slice1 ?_
    with_reducible refine' E_loc (by assumption) ?c1 ?_
    case c1 => exact .t3 (.t3 (.t3 .hd))
    refine N_sl S fun sa h1 sl S => ?_
    refine I_slice (S.has (by exact .h1)) sl (by (clear hlr; omega)) (by omega) (N_lst' S fun l2 h1 S => ?_) (by with_unfolding_all rfl)
    with_reducible refine S_nil ?_
    refine C_tupL S (S.has .hd) (by simp; (clear hge ej; omega)) fun t3 h1 S => ?_
    with_reducible refine S_nil ?_
    with_reducible refine' N_tup (by assumption) ?_
    intro t1 h1 S
    with_reducible refine' N_st (by assumption) ?c1 ?_
    case c1 => exact .t3 (.t3 (.t3 .h1))
    intro h1 S
    refine X_del ?_
    with_reducible refine' E_loc (by assumption) ?c1 ?_
    case c1 => exact .t3 .h2
    refine E_slice1 ?_
    with_reducible refine' E_loc (by assumption) ?c1 ?_
    case c1 => exact .t3 (.t3 (.t3 .hd))
    refine N_sl S fun sa h1 sl S => ?_
    refine D_slice (σ'' := fun n9 => [(t1, to [.str "s" _, .int e.t.fn tf, .ref t3]), (t3, to (rs.drop (rs.length - e.ks.length))), (l2, lo (rs.drop (rs.length - e.ks.length)) 0), (l1, lo ws' _), (rl, lo (rs.take (rs.length - e.ks.length)) n9), (sd, os), (kd, ok), (td, ot)]) S (by exact .t3 .h1) sl (by omega) (by omega) (fun _ => by exact .tl (.tl (.tl (.tl .hd)))) fun h1 n9 S => ?_
    with_reducible refine X_sub ?_
    with_reducible refine' E_loc (by assumption) ?c1 ?_
    case c1 => exact .t3 (.t3 (.t3 .h1))
    with_reducible refine' E_loc (by assumption) ?c1 ?_
    case c1 => exact .t3 .hd
    with_reducible refine' E_tI (by assumption) ?c1 ?c2 ?_ ?c4
    case c1 => exact .h1
    case c2 => assumption
    case c4 => rfl
    refine P_dic (x := e.p.2) (σ' := fun o => [(t1, to [.str "s" _, .int e.t.fn tf, .ref t3]), (t3, to (rs.drop (rs.length - e.ks.length))), (l2, lo (rs.drop (rs.length - e.ks.length)) 0), (l1, lo ws' _), (rl, lo (rs.take (rs.length - e.ks.length)) n9), (sd, os), (kd, o), (td, ot)]) S (by exact .t3 (.t3 .hd)) Dk isI (fun _ => by exact .tl (.tl (.tl (.tl (.tl (.tl .hd)))))) (fun ok' h1 Dk' S => ?_) (by omega)
    with_reducible refine X_sub ?_
    with_reducible refine' E_mc (by assumption) (by assumption) ?c2 ?c3 ?c4 ?c5 ?_ ?c7
    case c2 => exact .hd
    case c3 => assumption
    case c4 => exact mth_whole_size
    case c5 => k_is
    case c7 => rfl
    with_reducible refine' S_loc (by assumption) ?c1 ?_
    case c1 => exact .h1
    with_reducible refine' S_locL (by assumption) ?c1 ?_
    case c1 => exact .t3 .h1
    with_reducible refine' Krf_go (by assumption) (by assumption) ?_
    refine whole_size_ (G.st S) R (Z.chg ((S.re tkh).back hB) (by simpa using n1) (by simpa using n2)) (V2.tk S.tup) ge.r bl1 ge.ok Bd (S.has (by exact .t3 .h2)) s1 bl2 bl3 bl4 bl5 bl6 bl7 ?_ fun h1 k1 tz x1 => ?_
    · intro k9 hk9 hl9
      have rk : ∀ k ∈ e.ks, Rep H F k.1 k.2.1 k.2.2 := fun k hk => (by obtain ⟨j, hj⟩ := List.mem_iff_getElem?.mp hk; exact (bl3 j k hj).2)
      have cs := ge.cs
      rw [bl8] at cs
      obtain ⟨n9, t9, e1, e2⟩ := s3 _ (hX k9 hk9 hl9)
      rw [((cs.kid bl1 bl2 rk).2 k9 hk9).top (rk k9 hk9) hl9] at e1
      cases e1
      exact ⟨t9, e2⟩
    replace S := S.call0 x1
    with_reducible refine' E_loc (by assumption) ?c1 ?_
    case c1 => exact .t3 .h1
    with_reducible refine' E_tI (by assumption) ?c1 ?c2 ?_ ?c4
    case c1 => exact .h1
    case c2 => assumption
    case c4 => rfl
    refine P_dic (x := e.p.2) (σ' := fun o => [(t1, to [.str "s" _, .int e.t.fn tf, .ref t3]), (t3, to (rs.drop (rs.length - e.ks.length))), (l2, lo (rs.drop (rs.length - e.ks.length)) 0), (l1, lo ws' _), (rl, lo (rs.take (rs.length - e.ks.length)) n9), (sd, o), (kd, ok'), (td, ot)]) S (by exact .t3 .h2) s1 isI (fun _ => by exact .tl (.tl (.tl (.tl (.tl .hd))))) (fun os' h1 Ds' S => ?_) (by omega)
    with_reducible refine X_ifc ?_
    with_reducible refine E_sub ?_
    with_reducible refine' E_loc (by assumption) ?c1 ?_
    case c1 => exact .t3 .h1
    with_reducible refine' E_tI (by assumption) ?c1 ?c2 ?_ ?c4
    case c1 => exact .h1
    case c2 => assumption
    case c4 => rfl
    refine I_dic (x := e.p.2) (S.has (by exact .t3 .h2)) Ds' isI (by rw [valueAt_stored, if_pos rfl]) ?_ (by with_unfolding_all rfl)
    with_reducible refine E_bin ?_
    with_reducible refine' E_at (by assumption) (by assumption) ?c2 ?c3 ?c4 ?c5 ?_ ?c7
    case c2 => exact .hd
    case c3 => assumption
    case c4 => exact .tl .hd
    case c5 => exact fld_max_heap
    case c7 => rfl
    with_reducible refine E_int ?_
    with_reducible refine i_add ?_
    with_reducible refine i_gt ?_
    with_reducible refine truthy_b ?_
    refine ⟨fun e1 => by have := ge.sz; simp at e1; omega, fun _ => ?_⟩
    with_reducible refine X_nn ?_
    with_reducible refine X_expr ?_
    with_reducible refine E_meth ?_
    with_reducible refine' E_loc (by assumption) ?c1 ?_
    case c1 => exact .t3 .h2
    with_reducible refine' MC_append ?c0 ?_
    case c0 => exact St.has (by assumption) (by exact .t3 .h1)
    with_reducible refine C_bi ?_
    with_reducible refine' S_locL (by assumption) ?c1 ?_
    case c1 => exact .t3 (.t3 (.t3 .h1))
    refine C_append S (by exact .t3 .h1) (by exact .tl (.tl (.tl (.tl .hd)))) (fun h1 S => ?_) (by simp; (clear ej; omega))
    with_reducible refine And_none ?_
    with_reducible refine X_cont ?_
    with_reducible refine Nx_cont ?_
    have tks := S.tup
    have hmz := I.m'
    have hwz : wkm e = 1 := by unfold wkm; rw [hb]; rfl
    have R8 : All2 (fun v T => Rd h1 v (enc T)) (rs.take (rs.length - e.ks.length) ++ [.ref t1]) (bld e.t Rs) := by
      have Rn := I.r.imp fun v T (z : Rd hT v (enc T)) => z.tk tks
      have hkl : e.t.kids.length = e.ks.length := by rw [bl2]; simp
      unfold bld
      rw [hkl, ← hlr]
      refine (Rn.take _).snoc ?_
      rw [enc_mk (by simp; (clear hge hkl; omega))]
      exact Rd.tup (to_tp (S.has .hd)) (Rd.cons (Reads.str _ _) (Rd.cons (Reads.int _ _) (Rd.cons (Rd.tup (to_tp (S.has (.tl .hd))) (rdAll (Rn.drop _))) .nil)))
    exact hQn _ _ _ _ _ _ (by first | exact .inl rfl | exact .inr rfl) (by omega) (S.drop (((List.sublist_cons_self _ _).trans (List.sublist_cons_self _ _)).trans (List.sublist_cons_self _ _))) (.mk (I.build hb k2 k3 Dk' s2 s3 s4 Ds' (W8.imp fun v e z => z.tk tks) R8))
  have hb : e.b = false := by
    cases h : e.b with
    | false => rfl
    | true => rw [h] at eb; simp at eb
  with_reducible refine X_nn ?_
  with_reducible refine X_name ?_
  with_reducible refine' E_mc (by assumption) (by assumption) ?c2 ?c3 ?c4 ?c5 ?_ ?c7
  case c2 => exact .hd
  case c3 => assumption
  case c4 => exact mth_deref
  case c5 => k_is
  case c7 => rfl
  with_reducible refine' S_locL (by assumption) ?c1 ?_
  case c1 => exact .h1
  with_reducible refine' Krf_go (by assumption) (by assumption) ?_
  obtain ⟨m1, q1, D1, K1⟩ := ge.r.root ge.ok Bd
  refine deref_ (G.st S) R (Z.chg ((S.re tkh).back hB) (by simpa using n1) (by simpa using n2)) (V2.tk S.tup) D1 fun h1 k1 a1 t1 u1 x1 X1 => ?_
  replace S := S.call0 x1
  replace X1 := X1.tk x1.tup
  have tkS := S.tup
  replace tkh := tkh.trans S.tup
  replace W8 := W8.imp fun v e z => z.tk tkS
  have R8 := I.r.imp fun v T (z : Rd hT v (enc T)) => z.tk tkS
  replace S := S.pool
  rcases K1 with ⟨l1', l2', rfl⟩ | ⟨lk, rfl⟩
  · have hmz := I.m'
    have hwz : wkm e = 2 := by unfold wkm; rw [hb, leaf_sz l2']; rfl
    cases hL : res ev e.t with
    | v k =>
      rw [hL] at X1
      change Tp _ a1 [.int 0 t1, .int k u1] at X1
      obtain ⟨kt, Dt9, Kt⟩ := I.t
      have hkl := Kt.len
      rw [tab_len] at hkl
      with_reducible refine' N_st (by assumption) ?c1 ?_
      case c1 => exact .h1
      intro h1 S
      with_reducible refine X_name ?_
      with_reducible refine' E_tI (by assumption) ?c1 ?c2 ?_ ?c4
      case c1 => exact .h1
      case c2 => assumption
      case c4 => rfl
      with_reducible refine' N_st (by assumption) ?c1 ?_
      case c1 => exact .t3 (.t3 (.t3 .h2))
      intro h1 S
      with_reducible refine X_if0c ?_
      with_reducible refine' E_loc (by assumption) ?c1 ?_
      case c1 => exact .t3 (.t3 (.t3 .h2))
      with_reducible refine' E_glo (by assumption) (by assumption) ?c2 ?c3 ?_
      case c2 => exact .tl (.tl (.tl (.tl (.tl (.tl (.tl (.tl (.tl (.tl (.tl (.tl (.tl (.tl (.tl (.tl (.tl (.tl (.tl .hd))))))))))))))))))
      case c3 => k_is
      with_reducible refine q_ie ?_
      refine ⟨fun _ => ?_, fun e => by simp at e⟩
      with_reducible refine X_ifc ?_
      with_reducible refine' E_tI (by assumption) ?c1 ?c2 ?_ ?c4
      case c1 => exact .h1
      case c2 => assumption
      case c4 => rfl
      with_reducible refine' E_loc (by assumption) ?c1 ?_
      case c1 => exact .h2
      refine nin_dic (x := k) (S.has (by exact .t3 .h1)) Dt9 isI ntd ?_
      rw [Kt.isSome, tab_lookup]
      with_reducible refine truthy_b ?_
      refine ⟨fun e1 => ?_, fun e1 => ?_⟩
      · have hns : k ∉ sn := fun h => by rw [if_pos h] at e1; simp at e1
        with_reducible refine X_sub ?_
        with_reducible refine E_call ?_
        with_reducible refine' E_bi (by assumption) (by assumption) ?c2 ?c3 ?c4 ?c5 ?_
        case c2 => exact .tl (.tl (.tl (.tl (.tl (.tl (.tl (.tl (.tl (.tl (.tl (.tl (.tl (.tl (.tl .hd))))))))))))))
        case c3 => k_is
        case c4 => boot_by_name
        case c5 => decide
        with_reducible refine C_bi ?_
        with_reducible refine' S_locL (by assumption) ?c1 ?_
        case c1 => exact .h2
        refine C_lenD (S.has (by exact .t3 .h1)) Dt9 ntd (by (clear hlr hmz; omega)) fun t9 k9 => ?_
        with_reducible refine' E_loc (by assumption) ?c1 ?_
        case c1 => exact .h2
        with_reducible refine' E_tI (by assumption) ?c1 ?c2 ?_ ?c4
        case c1 => exact .h1
        case c2 => assumption
        case c4 => rfl
        refine P_dic (x := k) (σ' := fun o => [(l1, lo ws' _), (rl, lo rs _), (sd, os), (kd, ok), (td, o)]) S (by exact .t3 .h1) Dt9 isI (fun _ => by exact .tl (.tl (.tl (.tl .hd)))) (fun ot' h1 Dt' S => ?_) (by omega)
        with_reducible refine X_nn ?_
        with_reducible refine X_expr ?_
        with_reducible refine E_meth ?_
        with_reducible refine' E_loc (by assumption) ?c1 ?_
        case c1 => exact .t3 .h2
        with_reducible refine' MC_append ?c0 ?_
        case c0 => exact St.has (by assumption) (by exact .h1)
        with_reducible refine C_bi ?_
        with_reducible refine S_cons ?_
        with_reducible refine E_tuple ?_
        with_reducible refine S_cons ?_
        with_reducible refine E_str ?_
        with_reducible refine S_cons ?_
        with_reducible refine E_sub ?_
        with_reducible refine' E_loc (by assumption) ?c1 ?_
        case c1 => exact .h2
        with_reducible refine' E_tI (by assumption) ?c1 ?c2 ?_ ?c4
        case c1 => exact .h1
        case c2 => assumption
        case c4 => rfl
        refine I_dic (x := k) (S.has (by exact .t3 .h1)) Dt' isI (by rw [valueAt_stored, if_pos rfl]) ?_ (by with_unfolding_all rfl)
        with_reducible refine S_nil ?_
        with_reducible refine' N_tup (by assumption) ?_
        intro t1 h1 S
        with_reducible refine S_nil ?_
        refine C_append S (by exact .h2) (by exact .tl (.tl .hd)) (fun h1 S => ?_) (by (clear hmz; omega))
        with_reducible refine And_none ?_
        with_reducible refine X_nil ?_
        have hnum : num (res ev e.t) sn = (.v (sn.length : Nat), sn ++ [k]) := by rw [hL]; simp [num, hns]
        refine hQn _ _ _ _ _ _ (by first | exact .inl rfl | exact .inr rfl) ?_ ((S.re tkS).drop (List.sublist_cons_self _ _)) (.mk (I.leaf hb (by rw [hL]; rfl) l2' (W8.imp fun v e z => z.tk S.tup) ((R8.imp fun v e z => z.tk S.tup).snoc ?_) ⟨_, Dt', ?_⟩))
        · omega
        · rw [hnum]
          rw [← hkl]
          exact Rd.tup (to_tp (S.has .hd)) (Rd.cons (Reads.str _ _) (Rd.cons (Reads.int _ _) .nil))
        · rw [hnum, tab_snoc, ← hkl]
          exact Kt.put (by rw [tab_lookup, if_neg hns])
      · have hns : k ∈ sn := by
          by_cases h : k ∈ sn
          · exact h
          · rw [if_neg h] at e1; simp at e1
        obtain ⟨t9, ht9⟩ := Kt.yes (a := k) (b := (sn.idxOf k : Nat)) (by rw [tab_lookup, if_pos hns])
        with_reducible refine X_nn ?_
        with_reducible refine X_expr ?_
        with_reducible refine E_meth ?_
        with_reducible refine' E_loc (by assumption) ?c1 ?_
        case c1 => exact .t3 .h2
        with_reducible refine' MC_append ?c0 ?_
        case c0 => exact St.has (by assumption) (by exact .h1)
        with_reducible refine C_bi ?_
        with_reducible refine S_cons ?_
        with_reducible refine E_tuple ?_
        with_reducible refine S_cons ?_
        with_reducible refine E_str ?_
        with_reducible refine S_cons ?_
        with_reducible refine E_sub ?_
        with_reducible refine' E_loc (by assumption) ?c1 ?_
        case c1 => exact .h2
        with_reducible refine' E_tI (by assumption) ?c1 ?c2 ?_ ?c4
        case c1 => exact .h1
        case c2 => assumption
        case c4 => rfl
        refine I_dic (x := k) (S.has (by exact .t3 .h1)) Dt9 isI ht9 ?_ (by with_unfolding_all rfl)
        with_reducible refine S_nil ?_
        with_reducible refine' N_tup (by assumption) ?_
        intro t1 h1 S
        with_reducible refine S_nil ?_
        refine C_append S (by exact .h2) (by exact .tl (.tl .hd)) (fun h1 S => ?_) (by omega)
        with_reducible refine And_none ?_
        with_reducible refine X_nil ?_
        have hnum : num (res ev e.t) sn = (.v (sn.idxOf k : Nat), sn) := by rw [hL]; simp [num, hns]
        refine hQn _ _ _ _ _ _ (by first | exact .inl rfl | exact .inr rfl) ?_ ((S.re tkS).drop (List.sublist_cons_self _ _)) (.mk (I.leaf hb (by rw [hL]; rfl) l2' (W8.imp fun v e z => z.tk S.tup) ((R8.imp fun v e z => z.tk S.tup).snoc ?_) ⟨_, Dt9, ?_⟩))
        · omega
        · rw [hnum]
          exact Rd.tup (to_tp (S.has .hd)) (Rd.cons (Reads.str _ _) (Rd.cons (Reads.int _ _) .nil))
        · rw [hnum]; exact Kt
    | a k =>
      rw [hL] at X1
      change Tp _ a1 [.int 4 t1, .int k u1] at X1
      with_reducible refine' N_st (by assumption) ?c1 ?_
      case c1 => exact .h1
      intro h1 S
      with_reducible refine X_name ?_
      with_reducible refine' E_tI (by assumption) ?c1 ?c2 ?_ ?c4
      case c1 => exact .h1
      case c2 => assumption
      case c4 => rfl
      with_reducible refine' N_st (by assumption) ?c1 ?_
      case c1 => exact .t3 (.t3 (.t3 .h2))
      intro h1 S
      with_reducible refine X_if0c ?_
      with_reducible refine' E_loc (by assumption) ?c1 ?_
      case c1 => exact .t3 (.t3 (.t3 .h2))
      with_reducible refine' E_glo (by assumption) (by assumption) ?c2 ?c3 ?_
      case c2 => exact .tl (.tl (.tl (.tl (.tl (.tl (.tl (.tl (.tl (.tl (.tl (.tl (.tl (.tl (.tl (.tl (.tl (.tl (.tl .hd))))))))))))))))))
      case c3 => k_is
      with_reducible refine q_ie ?_
      refine ⟨fun e => by simp at e, fun _ => ?_⟩
      with_reducible refine X_if0c ?_
      with_reducible refine' E_loc (by assumption) ?c1 ?_
      case c1 => exact .t3 (.t3 (.t3 .h2))
      with_reducible refine' E_glo (by assumption) (by assumption) ?c2 ?c3 ?_
      case c2 => exact .tl (.tl (.tl (.tl (.tl (.tl (.tl (.tl (.tl (.tl (.tl (.tl (.tl (.tl (.tl (.tl (.tl (.tl (.tl (.tl .hd)))))))))))))))))))
      case c3 => k_is
      with_reducible refine q_ie ?_
      refine ⟨fun _ => ?_, fun e => by simp at e⟩
      with_reducible refine X_expr ?_
      with_reducible refine E_meth ?_
      with_reducible refine' E_loc (by assumption) ?c1 ?_
      case c1 => exact .t3 .h2
      with_reducible refine' MC_append ?c0 ?_
      case c0 => exact St.has (by assumption) (by exact .h1)
      with_reducible refine C_bi ?_
      with_reducible refine S_cons ?_
      with_reducible refine E_tuple ?_
      with_reducible refine S_cons ?_
      with_reducible refine E_str ?_
      with_reducible refine S_cons ?_
      with_reducible refine' E_tI (by assumption) ?c1 ?c2 ?_ ?c4
      case c1 => exact .h1
      case c2 => assumption
      case c4 => rfl
      with_reducible refine S_nil ?_
      with_reducible refine' N_tup (by assumption) ?_
      intro t1 h1 S
      with_reducible refine S_nil ?_
      refine C_append S (by exact .h2) (by exact .tl (.tl .hd)) (fun h1 S => ?_) (by (clear hmz; omega))
      with_reducible refine And_none ?_
      with_reducible refine X_nil ?_
      have hnum : num (res ev e.t) sn = (.a k, sn) := by rw [hL]; rfl
      refine hQn _ _ _ _ _ _ (by first | exact .inl rfl | exact .inr rfl) ?_ ((S.re tkS).drop (List.sublist_cons_self _ _)) (.mk (I.leaf hb (by rw [hL]; rfl) l2' (W8.imp fun v e z => z.tk S.tup) ((R8.imp fun v e z => z.tk S.tup).snoc ?_) ?_))
      · omega
      · rw [hnum]
        exact Rd.tup (to_tp (S.has .hd)) (Rd.cons (Reads.str _ _) (Rd.cons (Reads.int _ _) .nil))
      · rw [hnum]; exact I.t
    | i k =>
      rw [hL] at X1
      change Tp _ a1 [.int 5 t1, .int k u1] at X1
      with_reducible refine' N_st (by assumption) ?c1 ?_
      case c1 => exact .h1
      intro h1 S
      with_reducible refine X_name ?_
      with_reducible refine' E_tI (by assumption) ?c1 ?c2 ?_ ?c4
      case c1 => exact .h1
      case c2 => assumption
      case c4 => rfl
      with_reducible refine' N_st (by assumption) ?c1 ?_
      case c1 => exact .t3 (.t3 (.t3 .h2))
      intro h1 S
      with_reducible refine X_if0c ?_
      with_reducible refine' E_loc (by assumption) ?c1 ?_
      case c1 => exact .t3 (.t3 (.t3 .h2))
      with_reducible refine' E_glo (by assumption) (by assumption) ?c2 ?c3 ?_
      case c2 => exact .tl (.tl (.tl (.tl (.tl (.tl (.tl (.tl (.tl (.tl (.tl (.tl (.tl (.tl (.tl (.tl (.tl (.tl (.tl .hd))))))))))))))))))
      case c3 => k_is
      with_reducible refine q_ie ?_
      refine ⟨fun e => by simp at e, fun _ => ?_⟩
      with_reducible refine X_if0c ?_
      with_reducible refine' E_loc (by assumption) ?c1 ?_
      case c1 => exact .t3 (.t3 (.t3 .h2))
      with_reducible refine' E_glo (by assumption) (by assumption) ?c2 ?c3 ?_
      case c2 => exact .tl (.tl (.tl (.tl (.tl (.tl (.tl (.tl (.tl (.tl (.tl (.tl (.tl (.tl (.tl (.tl (.tl (.tl (.tl (.tl .hd)))))))))))))))))))
      case c3 => k_is
      with_reducible refine q_ie ?_
      refine ⟨fun e => by simp at e, fun _ => ?_⟩
      with_reducible refine X_if0c ?_
      with_reducible refine' E_loc (by assumption) ?c1 ?_
      case c1 => exact .t3 (.t3 (.t3 .h2))
      with_reducible refine' E_glo (by assumption) (by assumption) ?c2 ?c3 ?_
      case c2 => exact .tl (.tl (.tl (.tl (.tl (.tl (.tl (.tl (.tl (.tl (.tl (.tl (.tl (.tl (.tl (.tl (.tl (.tl (.tl (.tl (.tl .hd))))))))))))))))))))
      case c3 => k_is
      with_reducible refine q_ie ?_
      refine ⟨fun _ => ?_, fun e => by simp at e⟩
      with_reducible refine X_expr ?_
      with_reducible refine E_meth ?_
      with_reducible refine' E_loc (by assumption) ?c1 ?_
      case c1 => exact .t3 .h2
      with_reducible refine' MC_append ?c0 ?_
      case c0 => exact St.has (by assumption) (by exact .h1)
      with_reducible refine C_bi ?_
      with_reducible refine S_cons ?_
      with_reducible refine E_tuple ?_
      with_reducible refine S_cons ?_
      with_reducible refine E_str ?_
      with_reducible refine S_cons ?_
      with_reducible refine' E_tI (by assumption) ?c1 ?c2 ?_ ?c4
      case c1 => exact .h1
      case c2 => assumption
      case c4 => rfl
      with_reducible refine S_nil ?_
      with_reducible refine' N_tup (by assumption) ?_
      intro t1 h1 S
      with_reducible refine S_nil ?_
      refine C_append S (by exact .h2) (by exact .tl (.tl .hd)) (fun h1 S => ?_) (by omega)
      with_reducible refine And_none ?_
      with_reducible refine X_nil ?_
      have hnum : num (res ev e.t) sn = (.i k, sn) := by rw [hL]; rfl
      refine hQn _ _ _ _ _ _ (by first | exact .inl rfl | exact .inr rfl) ?_ ((S.re tkS).drop (List.sublist_cons_self _ _)) (.mk (I.leaf hb (by rw [hL]; rfl) l2' (W8.imp fun v e z => z.tk S.tup) ((R8.imp fun v e z => z.tk S.tup).snoc ?_) ?_))
      · omega
      · rw [hnum]
        exact Rd.tup (to_tp (S.has .hd)) (Rd.cons (Reads.str _ _) (Rd.cons (Reads.int _ _) .nil))
      · rw [hnum]; exact I.t
    | s1 => rw [hL] at l1'; cases l1'
    | s2 => rw [hL] at l1'; cases l1'
  obtain ⟨ks, tg, -, O, hn9, hk9, has, p0, p1, p2, kc, -⟩ := ge.r.cmp lk
  obtain ⟨kk, Dk, k2, k3⟩ := I.k
  have hkn : valueAt kk e.p.2 = none := k3 e (by simp) hb e.p.2 (by rw [has]; exact .head _)
  with_reducible refine' N_st (by assumption) ?c1 ?_
  case c1 => exact .h1
  intro h1 S
  with_reducible refine X_name ?_
  with_reducible refine' E_tI (by assumption) ?c1 ?c2 ?_ ?c4
  case c1 => exact .h1
  case c2 => assumption
  case c4 => rfl
  with_reducible refine' N_st (by assumption) ?c1 ?_
  case c1 => exact .t3 (.t3 (.t3 .h2))
  intro h1 S
  with_reducible refine X_if0c ?_
  with_reducible refine' E_loc (by assumption) ?c1 ?_
  case c1 => exact .t3 (.t3 (.t3 .h2))
  with_reducible refine' E_glo (by assumption) (by assumption) ?c2 ?c3 ?_
  case c2 => exact .tl (.tl (.tl (.tl (.tl (.tl (.tl (.tl (.tl (.tl (.tl (.tl (.tl (.tl (.tl (.tl (.tl (.tl (.tl .hd))))))))))))))))))
  case c3 => k_is
  with_reducible refine q_ie ?_
  refine ⟨fun e => by simp at e; (clear hn9; omega), fun _ => ?_⟩
  with_reducible refine X_if0c ?_
  with_reducible refine' E_loc (by assumption) ?c1 ?_
  case c1 => exact .t3 (.t3 (.t3 .h2))
  with_reducible refine' E_glo (by assumption) (by assumption) ?c2 ?c3 ?_
  case c2 => exact .tl (.tl (.tl (.tl (.tl (.tl (.tl (.tl (.tl (.tl (.tl (.tl (.tl (.tl (.tl (.tl (.tl (.tl (.tl (.tl .hd)))))))))))))))))))
  case c3 => k_is
  with_reducible refine q_ie ?_
  refine ⟨fun e => by simp at e; (clear hn9; omega), fun _ => ?_⟩
  with_reducible refine X_if0c ?_
  with_reducible refine' E_loc (by assumption) ?c1 ?_
  case c1 => exact .t3 (.t3 (.t3 .h2))
  with_reducible refine' E_glo (by assumption) (by assumption) ?c2 ?c3 ?_
  case c2 => exact .tl (.tl (.tl (.tl (.tl (.tl (.tl (.tl (.tl (.tl (.tl (.tl (.tl (.tl (.tl (.tl (.tl (.tl (.tl (.tl (.tl .hd))))))))))))))))))))
  case c3 => k_is
  with_reducible refine q_ie ?_
  refine ⟨fun e => by simp at e; (clear hn9; omega), fun _ => ?_⟩
  with_reducible refine X_if0c ?_
  with_reducible refine' E_tI (by assumption) ?c1 ?c2 ?_ ?c4
  case c1 => exact .h1
  case c2 => assumption
  case c4 => rfl
  with_reducible refine' E_loc (by assumption) ?c1 ?_
  case c1 => exact .t3 .hd
  refine in_dic (x := e.p.2) (S.has (by exact .t3 .hd)) Dk isI nk ?_
  rw [hkn]
  with_reducible refine truthy_b ?_
  refine ⟨fun e => by simp at e, fun _ => ?_⟩
  with_reducible refine X_sub ?_
  with_reducible refine E_none ?_
  with_reducible refine' E_loc (by assumption) ?c1 ?_
  case c1 => exact .t3 .hd
  with_reducible refine' E_tI (by assumption) ?c1 ?c2 ?_ ?c4
  case c1 => exact .h1
  case c2 => assumption
  case c4 => rfl
  refine P_dic (x := e.p.2) (σ' := fun o => [(l1, lo ws' _), (rl, lo rs _), (sd, os), (kd, o), (td, ot)]) S (by exact .t3 .hd) Dk isI (fun _ => by exact .tl (.tl (.tl .hd))) (fun ok' h1 Dk' S => ?_) (by (clear hlr; omega))
  with_reducible refine X_expr ?_
  with_reducible refine E_meth ?_
  with_reducible refine' E_loc (by assumption) ?c1 ?_
  case c1 => exact .t3 (.t3 .hd)
  with_reducible refine' MC_append ?c0 ?_
  case c0 => exact St.has (by assumption) (by exact .hd)
  with_reducible refine C_bi ?_
  with_reducible refine S_cons ?_
  with_reducible refine E_tuple ?_
  with_reducible refine S_cons ?_
  with_reducible refine' E_glo (by assumption) (by assumption) ?c2 ?c3 ?_
  case c2 => exact .tl (.tl (.tl (.tl (.tl (.tl (.tl (.tl (.tl (.tl (.tl (.tl (.tl (.tl (.tl (.tl .hd)))))))))))))))
  case c3 => k_is
  with_reducible refine' S_locL (by assumption) ?c1 ?_
  case c1 => exact .h1
  with_reducible refine' N_tup (by assumption) ?_
  intro t1 h1 S
  with_reducible refine S_nil ?_
  refine C_append S (by exact .h1) (by exact .tl .hd) (fun h1 S => ?_) (by omega)
  have W7 : All2 (WkAt h1) (ws' ++ [.ref t1]) (E' ++ [⟨true, e.p, e.t, e.as, ks⟩]) := (W8.imp fun v e z => z.tk S.tup).snoc ⟨t1, _, _, _, _, rfl, to_tp (S.has .hd), X1.tk S.tup⟩
  have tk5 := S.tup
  replace R8 := R8.imp fun v T z => z.tk tk5
  replace X1 := X1.tk tk5
  replace tkS := tkS.trans tk5
  replace tkh := tkh.trans tk5
  replace S := (S.drop (List.sublist_cons_self _ _)).pool
  with_reducible refine And_none ?_
  with_reducible refine X_name ?_
  with_reducible refine' E_mc (by assumption) (by assumption) ?c2 ?c3 ?c4 ?c5 ?_ ?c7
  case c2 => exact .hd
  case c3 => assumption
  case c4 => exact mth_base
  case c5 => k_is
  case c7 => rfl
  with_reducible refine' S_locL (by assumption) ?c1 ?_
  case c1 => exact .h1
  with_reducible refine' Krf_go (by assumption) (by assumption) ?_
  refine base_ (G.st S) R (X1.tk S.tup) fun h1 k1 tb x1 => ?_
  replace S := S.call0 x1
  with_reducible refine' N_st (by assumption) ?c1 ?_
  case c1 => exact .t3 (.t3 (.t3 (.t3 .hd)))
  intro h1 S
  with_reducible refine X_for ?_
  with_reducible refine E_call ?_
  with_reducible refine' E_bi (by assumption) (by assumption) ?c2 ?c3 ?c4 ?c5 ?_
  case c2 => exact .tl (.tl (.tl (.tl (.tl (.tl (.tl (.tl (.tl (.tl (.tl (.tl (.tl (.tl (.tl (.tl (.tl (.tl (.tl (.tl (.tl (.tl .hd)))))))))))))))))))))
  case c3 => k_is
  case c4 => boot_by_name
  case c5 => decide
  with_reducible refine C_ty ?_
  with_reducible refine S_cons ?_
  with_reducible refine E_bin ?_
  with_reducible refine' E_mc (by assumption) (by assumption) ?c2 ?c3 ?c4 ?c5 ?_ ?c7
  case c2 => exact .hd
  case c3 => assumption
  case c4 => exact mth_width
  case c5 => k_is
  case c7 => rfl
  with_reducible refine' S_locL (by assumption) ?c1 ?_
  case c1 => exact .h1
  with_reducible refine' Krf_go (by assumption) (by assumption) ?_
  refine width_ (G.st S) R (Z.chg ((S.re tkh).back hB) (by simpa using n1) (by simpa using n2)) (X1.tk S.tup) O fun h1 k1 tb3 x1 => ?_
  replace S := S.call0 x1
  with_reducible refine E_int ?_
  with_reducible refine i_sub ?_
  with_reducible refine S_cons ?_
  with_reducible refine E_un ?_
  with_reducible refine E_int ?_
  with_reducible refine i_neg ?_
  with_reducible refine S_cons ?_
  with_reducible refine E_un ?_
  with_reducible refine E_int ?_
  with_reducible refine i_neg ?_
  with_reducible refine S_nil ?_
  have hnr : Builtin.Range.rangeSize ((ks.length : Int) - 1) (-1) (-1) = ((ks.length : Nat) : Int) := by rcases hn9 with e | e <;> rw [e] <;> decide
  have hs1 : Builtin.Range.small ((ks.length : Int) - 1) (-1) (-1) = true := by rcases hn9 with e | e <;> rw [e] <;> decide
  refine C_rng3 S (by decide) (PyProof.noPylong_small (by decide)) fun r9 h1 k1 hr S => ?_
  refine iter_range S hr hs1 hnr fun I9 o h1 so S => ?_
  have b0 : 0 ≤ blk e.p := by unfold blk; split <;> omega
  have b1 : blk e.p < 2 ^ 61 := by unfold blk; split <;> omega
  refine N_forR (JTf c a1 td kd sd rl l1 tb (blk e.p) rs n' os ok' ot (fun i => E' ++ ⟨true, e.p, e.t, e.as, ks⟩ :: (List.range i).map fun j => vis (kget ks (ks.length - 1 - j))) (ws'.length + 1))
    ((ks.length : Int) - 1) (-1) R.1 S so (.mk (by simpa using W7.imp fun v e z => z.tk S.tup) (by simp)) 13 rfl ?_ ?_ ?_ rfl rfl
  · rintro i vs σ h2 ⟨⟩
    rfl
  · rintro i vs σ hT2 @⟨w1, w2, w3, w4, w5, w7, ws2, m2, i, hT2, W6, hlen⟩ hi tk2 tv o h1 k1 S Qt2 hQr2 hQf
    dsimp only [List.set] at S
    have ei : (ks.length : Int) - 1 + (i : Int) * (-1) = ((ks.length - 1 - i : Nat) : Int) := by omega
    have hj : ks.length - 1 - i < ks.length := by omega
    have hkj : kget ks (ks.length - 1 - i) = ks[ks.length - 1 - i] := by unfold kget; rw [List.getElem?_eq_getElem hj]; rfl
    obtain ⟨hx', rk⟩ := kc _ _ (List.getElem?_eq_getElem hj)
    rw [← ei, ← hkj] at hx'
    obtain ⟨a4, t4, u4, hx, tp⟩ := ph.get hx'
    with_reducible refine X_expr ?_
    with_reducible refine E_meth ?_
    with_reducible refine' E_loc (by assumption) ?c1 ?_
    case c1 => exact .t3 (.t3 .hd)
    with_reducible refine' MC_append ?c0 ?_
    case c0 => exact St.has (by assumption) (by exact .h1)
    with_reducible refine C_bi ?_
    with_reducible refine S_cons ?_
    with_reducible refine E_tuple ?_
    with_reducible refine S_cons ?_
    with_reducible refine' E_glo (by assumption) (by assumption) ?c2 ?c3 ?_
    case c2 => exact .tl (.tl (.tl (.tl (.tl (.tl (.tl (.tl (.tl (.tl (.tl (.tl (.tl (.tl .hd)))))))))))))
    case c3 => k_is
    with_reducible refine S_cons ?_
    with_reducible refine E_sub ?_
    with_reducible refine' E_at (by assumption) (by assumption) ?c2 ?c3 ?c4 ?c5 ?_ ?c7
    case c2 => exact .hd
    case c3 => assumption
    case c4 => exact .tl (.tl .hd)
    case c5 => exact fld_heap
    case c7 => rfl
    with_reducible refine E_bin ?_
    with_reducible refine' E_loc (by assumption) ?c1 ?_
    case c1 => exact .t3 (.t3 (.t3 (.t3 .hd)))
    with_reducible refine' E_loc (by assumption) ?c1 ?_
    case c1 => exact .t3 (.t3 (.t3 (.t3 .h1)))
    with_reducible refine i_add ?_
    refine I_lst (S.base _ _ eh') ?_ hx (by (clear b1 hi; omega)) (by (clear b0 hi; omega)) (by with_unfolding_all rfl)
    with_reducible refine S_nil ?_
    with_reducible refine' N_tup (by assumption) ?_
    intro t1 h1 S
    with_reducible refine S_nil ?_
    refine C_append S (by exact .h2) (by exact .tl (.tl .hd)) (fun h1 S => ?_) (by (clear hi; omega))
    with_reducible refine And_none ?_
    with_reducible refine X_nil ?_
    refine hQf _ _ _ _ _ (by first | exact .inl rfl | exact .inr rfl) (S.drop (List.sublist_cons_self _ _)) (.mk ?_ (by simp [hlen]; exact Int.toNat_natCast _))
    rw [List.range_succ, List.map_append, ← List.cons_append, ← List.append_assoc]
    exact (W6.imp fun v e z => z.tk S.tup).snoc ⟨t1, a4, _, _, _, rfl, to_tp (S.has .hd), tp.tk (tkh.trans (tk2.trans S.tup))⟩
  · rintro i_ vs σ h2 @⟨w1, w2, w3, w4, w5, w7, ws2, m2, i_, h2, W6, hlen⟩ rfl h1 k1 S tk6
    with_reducible refine Nx_next ?_
    with_reducible refine X_nil ?_
    rw [rng_rev hn9] at W6
    obtain ⟨I', hlt⟩ := I.push hb lk hk9 kc hn9 O p0 p1 has k2 k3 Dk' (W6.imp fun v e z => z.tk tk6) (R8.imp fun v T z => z.tk S.tup)
    exact hQn _ _ _ _ _ _ (by first | exact .inl rfl | exact .inr rfl) hlt (S.re tkS) (.mk I')
end
end
section
open PySem PySem.W PyProof.Rows PySem.Calls
set_option hygiene true
noncomputable def TrF (F : List (Int × Int)) : Tr → Prop
  | .s1 f x => 0 < f ∧ f < 2 ^ 60 ∧ (∃ a, F[f.toNat]? = some (a, 1)) ∧ TrF F x
  | .s2 f x y => 0 ≤ f ∧ f < 2 ^ 60 ∧ (∃ a, F[f.toNat]? = some (a, 2)) ∧ TrF F x ∧ TrF F y
  | _ => True
noncomputable def slotL : Int → List Tr → List (Int × Tr)
  | _, [] => []
  | a, t :: ts => (a, t) :: slotL (a + 1) ts
noncomputable def FinL (H F : List (Int × Int)) : List (Int × Tr) → List Int → Prop
  | [], L => L = []
  | (a, t) :: Q, L => ∃ p as L', H[a.toNat]? = some p ∧ Rep H F p t as ∧ L = as ++ L' ∧ FinL H F Q L'
noncomputable def nb (H : List (Int × Int)) (f : Int) (w : Nat) : List (Int × Int) := if f = 0 then H ++ [(0, (H.length : Int)), (0, (H.length : Int) + 1)] else H ++ (6, f) :: (List.range w).map fun (j : Nat) => (0, (H.length : Int) + 1 + j)
noncomputable def nc (H : List (Int × Int)) (f : Int) : Int × Int := (if f = 0 then 3 else 2, (H.length : Int))
section
variable {H0 H H' F : List (Int × Int)} {t T : Tr} {a b : Int} {Q Q' : List (Int × Tr)} {L : List Int} {root : Int × Int} {p : Int × Int} {as : List Int}
theorem FinL.split : ∀ {Q Q' : List (Int × Tr)} {L : List Int}, FinL H F (Q ++ Q') L → ∃ L1 L2, L = L1 ++ L2 ∧ FinL H F Q L1 ∧ FinL H F Q' L2
  | [], _, L, h => ⟨[], L, rfl, rfl, h⟩
  | (a, t) :: Q, Q', L, ⟨p, as, L', h1, h2, h3, h4⟩ => by
    obtain ⟨L1, L2, rfl, h5, h6⟩ := FinL.split (Q := Q) h4
    exact ⟨as ++ L1, L2, by rw [h3, List.append_assoc], ⟨p, as, L1, h1, h2, rfl, h5⟩, h6⟩
theorem block_rep (l : t.leaf = false) (g : TrF F t) (b0 : 0 ≤ b) (b1 : b < 2 ^ 60) (hh : t.fn ≠ 0 → H'[b.toNat]? = some (6, t.fn)) (fin : FinL H' F (slotL (if t.fn = 0 then b else b + 1) t.kids) L) : Rep H' F (if t.fn = 0 then 3 else 2, b) t (b :: L) := by
  cases t with
  | v => cases l
  | a => cases l
  | i => cases l
  | s1 f x =>
    obtain ⟨g1, g2, ⟨a, g3⟩, g4⟩ := g
    have f0 : f ≠ 0 := by (clear g2; omega)
    have f0' : ¬ (Tr.s1 f x).fn = 0 := f0
    rw [if_neg f0'] at fin ⊢
    obtain ⟨p, as, L', h1, h2, rfl, rfl⟩ := fin
    rw [List.append_nil]
    exact .s1 g1 g2 b0 b1 (hh f0) g3 h1 h2
  | s2 f x y =>
    obtain ⟨g1, g2, ⟨a, g3⟩, g4, g5⟩ := g
    by_cases f0 : f = 0
    · subst f0
      have f0' : (Tr.s2 0 x y).fn = 0 := rfl
      rw [if_pos f0'] at fin ⊢
      obtain ⟨p, as, L', h1, h2, rfl, q, bs, L'', h3, h4, rfl, rfl⟩ := fin
      rw [List.append_nil]
      exact .l b0 b1 h1 h3 h2 h4
    · have f0' : ¬ (Tr.s2 f x y).fn = 0 := f0
      rw [if_neg f0'] at fin ⊢
      obtain ⟨p, as, L', h1, h2, rfl, q, bs, L'', h3, h4, rfl, rfl⟩ := fin
      rw [List.append_nil]
      rw [show b + 1 + 1 = b + 2 by omega] at h3
      exact .s2 (by (clear g2 f0'; omega)) g2 b0 b1 (hh f0) g3 h1 h3 h2 h4
theorem nb_len (w : Nat) (f : Int) (h : f = 0 → w = 2) : (nb H f w).length = H.length + (if f = 0 then 2 else w + 1) := by
  unfold nb; split <;> simp
theorem nb_old {f : Int} {w : Nat} {j : Nat} (h : j < H.length) : (nb H f w)[j]? = H[j]? := by
  unfold nb; split <;> rw [List.getElem?_append_left h]
theorem nb_head {f : Int} {w : Nat} (h : f ≠ 0) : (nb H f w)[H.length]? = some (6, f) := by
  unfold nb; rw [if_neg h, List.getElem?_append_right (Nat.le_refl _)]; simp
structure PInv (H0 F : List (Int × Int)) (root : Int × Int) (T : Tr) (H : List (Int × Int)) (Q : List (Int × Tr)) : Prop where
  nd : (Q.map (·.1)).Nodup
  rng : ∀ e ∈ Q, (H0.length : Int) ≤ e.1 ∧ e.1 < H.length
  old : ∀ j, j < H0.length → H[j]? = H0[j]?
  len : H0.length ≤ H.length
  tr : ∀ e ∈ Q, TrF F e.2 ∧ e.2.ok
  fin : ∀ H' L, H'.length < 2 ^ 60 → H.length ≤ H'.length → (∀ j : Nat, j < H.length → (∀ e ∈ Q, e.1 ≠ (j : Int)) → H'[j]? = H[j]?) → FinL H' F Q L → L.Nodup → (∀ b ∈ L, (H.length : Int) ≤ b) → ∃ as, Rep H' F root T as ∧ as.Nodup
theorem slot_keys : ∀ {ts : List Tr} {a : Int} {e : Int × Tr}, e ∈ slotL a ts → a ≤ e.1 ∧ e.1 < a + ts.length ∧ e.2 ∈ ts
  | t :: ts, a, e, h => by
    rcases List.mem_cons.mp h with rfl | h
    · simp; omega
    · have := slot_keys h
      refine ⟨by omega, by simp; omega, .tail _ this.2.2⟩
theorem slot_nd : ∀ {ts : List Tr} {a : Int}, ((slotL a ts).map (·.1)).Nodup
  | [], _ => List.nodup_nil
  | t :: ts, a => by
    refine List.nodup_cons.mpr ⟨fun h => ?_, slot_nd⟩
    obtain ⟨e, he, hq⟩ := List.mem_map.mp h
    have := slot_keys he
    dsimp only at hq
    omega
theorem kids_F (g : TrF F t) (o : t.ok) : ∀ x ∈ t.kids, TrF F x ∧ x.ok := by
  cases t <;> simp_all [Tr.kids, TrF, Tr.ok]
theorem kids_len (l : t.leaf = false) (g : TrF F t) : (t.kids.length = 1 ∨ t.kids.length = 2) ∧ (t.fn = 0 → t.kids.length = 2) ∧ 0 ≤ t.fn ∧ t.fn < 2 ^ 60 ∧ ∃ a, F[t.fn.toNat]? = some (a, (t.kids.length : Int)) := by
  cases t with
  | v => cases l
  | a => cases l
  | i => cases l
  | s1 f x =>
    obtain ⟨g1, g2, g3, g4⟩ := g
    exact ⟨.inl rfl, fun h => by simp only [Tr.fn] at h; (clear g2; omega), by simp only [Tr.fn]; exact Int.le_of_lt (by assumption), g2, g3⟩
  | s2 f x y =>
    obtain ⟨g1, g2, g3, g4, g5⟩ := g
    exact ⟨.inr rfl, fun h => rfl, g1, g2, g3⟩
theorem PInv.start (l : T.leaf = false) (g : TrF F T) (o : T.ok) : PInv H0 F (nc H0 T.fn) T (nb H0 T.fn T.kids.length) (slotL (blk (nc H0 T.fn)) T.kids) := by
  obtain ⟨k1, k2, -⟩ := kids_len l g
  have hl := nb_len (H := H0) T.kids.length T.fn k2
  have hb : blk (nc H0 T.fn) = if T.fn = 0 then (H0.length : Int) else H0.length + 1 := by unfold blk nc; split <;> simp_all
  refine ⟨slot_nd, fun e he => ?_, fun j hj => nb_old hj, by split at hl <;> omega, fun e he => kids_F g o _ (slot_keys he).2.2, fun H' L h60 hle ha fin nd hL => ?_⟩
  · have := slot_keys he
    rw [hb] at this
    split at this <;> simp_all <;> (clear hb; omega)
  · rw [hb] at fin ha
    refine ⟨_, block_rep l g (b := H0.length) (by exact Int.natCast_nonneg _) (by split at hl <;> omega) (fun hf => ?_) fin, List.nodup_cons.mpr ⟨fun h => ?_, nd⟩⟩
    · rw [Int.toNat_natCast, ha H0.length (by split at hl <;> omega) (fun e he => ?_), nb_head hf]
      have := slot_keys he
      rw [if_neg hf] at this
      omega
    · have := hL _ h
      split at hl <;> omega
theorem PInv.leaf (I : PInv H0 F root T H ((a, t) :: Q)) (l : t.leaf = true) : PInv H0 F root T (H.set a.toNat (lcell t)) Q := by
  have ra := I.rng _ (.head _)
  dsimp only at ra
  have hnd := List.nodup_cons.mp I.nd
  refine ⟨hnd.2, fun e he => by have := I.rng e (.tail _ he); simp; exact this, fun j hj => ?_, by simp; exact I.len, fun e he => I.tr e (.tail _ he), fun H' L h60 hle ha fin nd hL => ?_⟩
  · rw [List.getElem?_set_ne (by omega)]; exact I.old j hj
  · have hat : ∀ e ∈ Q, e.1 ≠ a := fun e he q => hnd.1 (List.mem_map.mpr ⟨e, he, q⟩)
    rw [List.length_set] at hle ha hL
    refine I.fin H' L h60 hle (fun j hj hq => ?_) ⟨lcell t, [], L, ?_, rep_leaf l, rfl, fin⟩ nd hL
    · have hj' : a ≠ (j : Int) := hq _ (.head _)
      rw [ha j hj (fun e he => hq e (.tail _ he)), List.getElem?_set_ne (by omega)]
    · rw [ha a.toNat (by omega) (fun e he => by have := hat e he; omega), List.getElem?_set_self (by omega)]
theorem PInv.node (I : PInv H0 F root T H ((a, t) :: Q)) (l : t.leaf = false) : PInv H0 F root T ((nb H t.fn t.kids.length).set a.toNat (nc H t.fn)) (Q ++ slotL (blk (nc H t.fn)) t.kids) := by
  have ra := I.rng _ (.head _)
  dsimp only at ra
  have hnd := List.nodup_cons.mp I.nd
  obtain ⟨g, o⟩ := I.tr _ (.head _)
  dsimp only at g o
  obtain ⟨k1, k2, -⟩ := kids_len l g
  have hl := nb_len (H := H) t.kids.length t.fn k2
  have hl0 : H.length < (nb H t.fn t.kids.length).length := by split at hl <;> omega
  have hb : blk (nc H t.fn) = if t.fn = 0 then (H.length : Int) else H.length + 1 := by unfold blk nc; split <;> simp_all
  have hsk : ∀ e ∈ slotL (blk (nc H t.fn)) t.kids, (H.length : Int) ≤ e.1 ∧ e.1 < (nb H t.fn t.kids.length).length ∧ (t.fn ≠ 0 → (H.length : Int) < e.1) := fun e he => by
    have := slot_keys he
    rw [hb] at this
    split at this <;> simp_all <;> (clear hl hb; omega)
  have hat : ∀ e ∈ Q, e.1 ≠ a := fun e he q => hnd.1 (List.mem_map.mpr ⟨e, he, q⟩)
  refine ⟨?_, fun e he => ?_, fun j hj => ?_, by rw [List.length_set]; have := I.len; (clear ra hl; omega), fun e he => ?_, fun H' L h60 hle ha fin nd hL => ?_⟩
  · rw [List.map_append]
    refine List.nodup_append.mpr ⟨hnd.2, slot_nd, fun x hx y hy q => ?_⟩
    obtain ⟨e, he, rfl⟩ := List.mem_map.mp hx
    obtain ⟨e', he', rfl⟩ := List.mem_map.mp hy
    have := I.rng e (.tail _ he)
    have := hsk e' he'
    (clear hl; omega)
  · rw [List.length_set]
    rcases List.mem_append.mp he with he | he
    · have := I.rng e (.tail _ he); (clear hl; omega)
    · have := hsk e he; have := I.len; (clear ra hl; omega)
  · rw [List.getElem?_set_ne (by omega), nb_old (by have := I.len; exact Nat.lt_of_lt_of_le (by assumption) (by assumption))]; exact I.old j hj
  · rcases List.mem_append.mp he with he | he
    · exact I.tr e (.tail _ he)
    · exact kids_F g o _ (slot_keys he).2.2
  · rw [List.length_set] at hle ha hL
    obtain ⟨L1, L2, rfl, f1, f2⟩ := fin.split
    obtain ⟨nd1, nd2, nd3⟩ := List.nodup_append.mp nd
    have hL1 : ∀ b ∈ L1 ++ L2, (H.length : Int) < b := fun b hb => by have := hL b hb; (clear hl; omega)
    rw [hb] at f2
    refine I.fin H' (((H.length : Int) :: L2) ++ L1) h60 (by (clear hl; omega)) (fun j hj hq => ?_) ⟨nc H t.fn, _, L1, ?_, block_rep l g (b := H.length) (by exact Int.natCast_nonneg _) (by (clear hl; omega)) (fun hf => ?_) f2, rfl, f1⟩ ?_ ?_
    · have hj' : a ≠ (j : Int) := hq _ (.head _)
      rw [ha j (by (clear hl; omega)) (fun e he => ?_), List.getElem?_set_ne (by omega), nb_old hj]
      rcases List.mem_append.mp he with he | he
      · exact hq e (.tail _ he)
      · have := hsk e he; (clear hl; omega)
    · rw [ha a.toNat (by (clear hl; omega)) (fun e he => ?_), List.getElem?_set_self (by omega)]
      rcases List.mem_append.mp he with he | he
      · have := hat e he; omega
      · have := hsk e he; (clear hl; omega)
    · rw [Int.toNat_natCast, ha H.length (by assumption) (fun e he => ?_), List.getElem?_set_ne (by (clear hl; omega)), nb_head hf]
      rcases List.mem_append.mp he with he | he
      · have := I.rng e (.tail _ he); (clear hl; omega)
      · have := (hsk e he).2.2 hf; (clear hl; omega)
    · rw [List.cons_append]
      refine List.nodup_cons.mpr ⟨fun h => ?_, List.nodup_append.mpr ⟨nd2, nd1, fun x hx y hy q => nd3 y hy x hx q.symm⟩⟩
      have := hL1 _ ((List.mem_append.mp h).elim (fun h => List.mem_append_right _ h) fun h => List.mem_append_left _ h)
      omega
    · intro b hb
      rw [List.cons_append] at hb
      rcases List.mem_cons.mp hb with rfl | h
      · omega
      · have := hL1 _ ((List.mem_append.mp h).elim (fun h => List.mem_append_right _ h) fun h => List.mem_append_left _ h)
        exact Int.le_of_lt (by assumption)
theorem PInv.done (I : PInv H0 F root T H []) (h : H.length < 2 ^ 60) : ∃ as, Rep H F root T as ∧ as.Nodup :=
  I.fin H [] h (Nat.le_refl _) (fun _ _ _ => rfl) rfl List.nodup_nil fun b hb => nomatch hb
theorem Rep.keep (r : Rep H F p t as) (k : ∀ j, j < H.length → H'[j]? = H[j]?) : Rep H' F p t as := by
  have g : ∀ {n : Nat} {x}, H[n]? = some x → H'[n]? = some x := fun e => (k _ (some_lt e)).trans e
  induction r with
  | v => exact .v
  | a => exact .a
  | i => exact .i
  | s1 a b c d e f h _ ih => exact .s1 a b c d (g e) f (g h) ih
  | s2 a b c d e f h h' _ _ ih1 ih2 => exact .s2 a b c d (g e) f (g h) (g h') ih1 ih2
  | l a b c d _ _ ih1 ih2 => exact .l a b (g c) (g d) ih1 ih2
theorem Der.keep {n : Nat} {q : Int × Int} (r : Der H n p q) (k : ∀ j, j < H.length → H'[j]? = H[j]?) : Der H' n p q := by
  have g : ∀ {n : Nat} {x}, H[n]? = some x → H'[n]? = some x := fun e => (k _ (some_lt e)).trans e
  induction r with
  | con a b => exact .con a b
  | self a b c => exact .self a b (g c)
  | step a b c d _ ih => exact .step a b (g c) d ih
theorem Bd.keep {ev : Int → Tr} (B : Bd H ev) (k : ∀ j, j < H.length → H'[j]? = H[j]?) : Bd H' ev := ⟨B.lf, fun i a b => (by obtain ⟨m, d⟩ := B.dr i a b; exact ⟨m, d.keep k⟩), B.id⟩
end
theorem enc_cmp {t : Tr} (l : t.leaf = false) : enc t = .tuple [.str "s", .int t.fn, .tuple (t.kids.map enc)] := by
  cases t with
  | v => cases l
  | a => cases l
  | i => cases l
  | s1 => rfl
  | s2 => rfl
theorem rdBack {h : Heap} : ∀ {vs : List Value} {l : List Tr}, ReadsAll h vs (l.map enc) [] → All2 (fun v T => Rd h v (enc T)) vs l
  | vs, [], r => by rw [RdA.nil r]; trivial
  | vs, t :: l, r => by
    obtain ⟨v, ws, rfl, r1, r2⟩ := RdA.cons r
    exact ⟨r1, rdBack r2⟩
inductive WtAt (h : Heap) (v : Value) (e : Int × List Tr) : Prop
  | mk (t a : Addr) (vs : List Value) (x : Tok) (h0 : v = .ref t) (h1 : Tp h t [.int e.1 x, .ref a]) (h2 : Tp h a vs) (h3 : All2 (fun v T => Rd h v (enc T)) vs e.2)
theorem WtAt.tk {h h' : Heap} {v : Value} {e : Int × List Tr} (x : WtAt h v e) (t : Tk h h') : WtAt h' v e := (by obtain ⟨a, b, c, d, e, f, g, i⟩ := x; exact ⟨a, b, c, d, e, f.tk t, g.tk t, i.imp fun v T r => r.tk t⟩)
noncomputable def qsz (Q : List (Int × Tr)) : Nat := (Q.map (·.2.sz)).sum
noncomputable def slotsOf (W : List (Int × List Tr)) : List (Int × Tr) := W.flatMap fun e => slotL e.1 e.2
theorem slot_sz : ∀ (ts : List Tr) (a : Int), qsz (slotL a ts) = (ts.map Tr.sz).sum
  | [], _ => rfl
  | t :: ts, a => by
    have := slot_sz ts (a + 1)
    unfold qsz at this ⊢
    simp [slotL, this]
theorem qsz_app (Q Q' : List (Int × Tr)) : qsz (Q ++ Q') = qsz Q + qsz Q' := by simp [qsz]
theorem rd_tup3 {h : Heap} {v : Value} {x : PyData} {y : PyData} (r : Rd h v (.tuple [x, y])) : ∃ a v1 v2, v = .ref a ∧ Tp h a [v1, v2] ∧ Rd h v1 x ∧ Rd h v2 y := by
  obtain ⟨a, vs, rfl, T, r⟩ := r.untup
  obtain ⟨v1, vs, rfl, r1, r⟩ := RdA.cons r
  obtain ⟨v2, vs, rfl, r2, r⟩ := RdA.cons r
  rw [RdA.nil r] at T
  exact ⟨a, v1, v2, rfl, T, r1, r2⟩
inductive RdLeaf (h : Heap) (v : Value) (s : Str) (n : Int) : Prop
  | mk (a : Addr) (t u : Tok) (e : v = .ref a) (z : Tp h a [.str s t, .int n u])
theorem rd_leaf {h : Heap} {v : Value} {s : Str} {n : Int} (r : Rd h v (.tuple [.str s, .int n])) : RdLeaf h v s n := by
  obtain ⟨a, v1, v2, rfl, T, r1, r2⟩ := rd_tup3 r
  obtain ⟨t, rfl⟩ := r1.str
  obtain ⟨u, rfl⟩ := r2.int
  exact ⟨a, t, u, rfl, T⟩
inductive RdCmp (h : Heap) (v : Value) (t : Tr) : Prop
  | mk (a : Addr) (x y : Tok) (b : Addr) (ks : List Value) (e : v = .ref a) (z : Tp h a [.str "s" x, .int t.fn y, .ref b]) (w : Tp h b ks) (r : All2 (fun v T => Rd h v (enc T)) ks t.kids)
theorem rd_cmp {h : Heap} {v : Value} {t : Tr} (l : t.leaf = false) (r : Rd h v (enc t)) : RdCmp h v t := by
  rw [enc_cmp l] at r
  obtain ⟨a, vs, rfl, T, r⟩ := r.untup
  obtain ⟨v1, vs, rfl, r1, r⟩ := RdA.cons r
  obtain ⟨v2, vs, rfl, r2, r⟩ := RdA.cons r
  obtain ⟨v3, vs, rfl, r3, r⟩ := RdA.cons r
  rw [RdA.nil r] at T
  obtain ⟨x, rfl⟩ := r1.str
  obtain ⟨y, rfl⟩ := r2.int
  obtain ⟨b, ks, rfl, T3, r4⟩ := r3.untup
  exact ⟨a, x, y, b, ks, rfl, T, T3, rdBack r4⟩
theorem slotL_drop {ts : List Tr} {i : Nat} (h : i < ts.length) (a : Int) : slotL a (ts.drop i) = (a, ts[i]) :: slotL (a + 1) (ts.drop (i + 1)) := by
  rw [List.drop_eq_getElem_cons h]; rfl
theorem slotsOf_app (W W' : List (Int × List Tr)) : slotsOf (W ++ W') = slotsOf W ++ slotsOf W' := by simp [slotsOf]
theorem qsz_cons (a : Int) (t : Tr) (Q : List (Int × Tr)) : qsz ((a, t) :: Q) = t.sz + qsz Q := by simp [qsz]
end
section
open PySem PySem.W PyProof.Rows PySem.Calls
set_option hygiene false
structure Tab (V : Vw) (h : Heap) (tb : Addr) (ot : Obj) (kt : List (Int × Value)) : Prop where
  g : h.get? tb = some ot
  d : ot.IsDictOf (intKind V.prog V.w) kt
  lo : (tb == sysModules) = false
  len : kt.length = 4
  at' : ∀ k, 0 ≤ k → k < 4 → ∃ a t u, valueAt kt k = some (.ref a) ∧ Tp h a [.int 0 t, .int k u]
  key : ∀ x ∈ kt, 0 ≤ x.1 ∧ x.1 < 4
inductive JPw (F H : List (Int × Int)) (root : Int × Int) (T : Tr) (c va tb mb lw hp : Addr) : Nat → List (Option Value) → List (Addr × Obj) → Heap → Prop
  | mk {nAt : Nat} {tA : Tok} {ws : List Value} {n : Nat} {Wq : List (Int × List Tr)} {H1 : List (Int × Int)} {hs1 : List Value} {m1 : Nat} {w3 w4 w8 w9 w10 w11 : Option Value} {m : Nat} {h : Heap}
    (W9 : All2 (WtAt h) ws Wq) (P9 : PairsAt h hs1 H1) (I9 : PInv H F root T H1 (slotsOf (Wq.drop nAt))) (ne9 : ∀ e ∈ Wq, e.2 ≠ []) (hm9 : m = qsz (slotsOf (Wq.drop nAt))) (hl9 : H1.length + 3 * m ≤ H.length + 300) (hn9 : nAt ≤ Wq.length) (hw9 : Wq.length + m ≤ 110) :
    JPw F H root T c va tb mb lw hp m [some (.ref c), some (.ref va), some (.ref tb), w3, w4, some (.ref mb), some (.ref lw), some (.int (nAt : Nat) tA), w8, w9, w10, w11] [(lw, lo ws n), (hp, lo hs1 m1)] h
inductive JPf (F H : List (Int × Int)) (root : Int × Int) (T : Tr) (c va tb mb lw hp ia : Addr) (w3 w4' : Option Value) (nAt m9 : Nat) (Wq : List (Int × List Tr)) (e : Int × List Tr) (ivs : List Value) : Nat → List (Option Value) → List (Addr × Obj) → Heap → Prop
  | mk {tA tp : Tok} {ws : List Value} {n : Nat} {Wx : List (Int × List Tr)} {H1 : List (Int × Int)} {hs1 : List Value} {m1 : Nat} {w4 w10 w11 : Option Value} {i : Nat} {h : Heap}
    (W9 : All2 (WtAt h) ws (Wq ++ Wx)) (P9 : PairsAt h hs1 H1) (I9 : PInv H F root T H1 (slotL (e.1 + (i : Int)) (e.2.drop i) ++ (slotsOf (Wq.drop (nAt + 1)) ++ slotsOf Wx))) (nex : ∀ e ∈ Wx, e.2 ≠ [])
    (hq1 : qsz (slotL (e.1 + (i : Int)) (e.2.drop i) ++ (slotsOf (Wq.drop (nAt + 1)) ++ slotsOf Wx)) + i ≤ m9) (hq2 : H1.length + 3 * qsz (slotL (e.1 + (i : Int)) (e.2.drop i) ++ (slotsOf (Wq.drop (nAt + 1)) ++ slotsOf Wx)) ≤ H.length + 300)
    (hq3 : (Wq ++ Wx).length + qsz (slotL (e.1 + (i : Int)) (e.2.drop i) ++ (slotsOf (Wq.drop (nAt + 1)) ++ slotsOf Wx)) ≤ 110) (Vt : Tp h ia ivs) :
    JPf F H root T c va tb mb lw hp ia w3 w4' nAt m9 Wq e ivs i [some (.ref c), some (.ref va), some (.ref tb), w3, w4, some (.ref mb), some (.ref lw), some (.int ((nAt : Int) + 1) tA), some (.int (e.1 + (i : Int)) tp), some (.ref ia), w10, w11] [(lw, lo ws n), (hp, lo hs1 m1)] h
inductive JPk (c : Addr) (v : Value) (tb kl hp : Addr) (us hs : List Value) (kn m : Nat) (i : Nat) : List (Option Value) → List (Addr × Obj) → Heap → Prop
  | mk {w : Option Value} {h : Heap} : JPk c v tb kl hp us hs kn m i [some (.ref c), some v, some (.ref tb), w, none, none, none, none, none, none, none, none] [(kl, lo us kn), (hp, lo hs m)] h
section
variable {V : Vw} {B₀ h : Heap} {A : Around} {k : Nat} {Q : Value → Heap → Nat → Prop} {c x y sy hp fl : Addr} {tag i : Int} {t u t' u' : Tok} {n : Nat} {H F : List (Int × Int)}
set_option maxHeartbeats 4000000 in
theorem put_term_ {T : Tr} {v : Value} {tb : Addr} {ot : Obj} {kt : List (Int × Value)} (G : Wd (hd.heap_39 V.w.params) B₀ h) (R : Room A (n + 4)) (Z : Sto B₀ h c sy hp fl H F) (fr : B₀.get? hp = none) (ne : fl ≠ hp) (sz : H.length ≤ 70000)
    (rv : Rd h v (enc T)) (g : TrF F T) (o : T.ok) (hz : T.sz ≤ 100) (X : Tab V h tb ot kt) (ntb : tb ≠ hp)
    (q : ∀ h' k' a p as H' t u, Chg [hp] h h' → Sto B₀ h' c sy hp fl H' F → Tp h' a [.int p.1 t, .int p.2 u] → Rep H' F p T as → as.Nodup → (∀ j, j < H.length → H'[j]? = H[j]?) → H.length ≤ H'.length → H'.length ≤ H.length + 300 → Q (.ref a) h' k') : W V A (call (.ref 363) ([.ref c] ++ [v, .ref tb])) Q h k := by
  obtain ⟨hs, m, eh, ph⟩ := Z.hh
  have hl := ph.len
  refine' W_enter (binds := [("self", .ref c), ("term", v), ("table", .ref tb)]) G R ?ho ?hcd [(hp, lo hs m)] (by simpa using ⟨eh, fr⟩) (by simp) ?hb ?he ?nn ?nb ?_ ?hcell ?hco ?hgen ?hk
  case ho => k_is
  case hcd => k_is
  case hb => exact BindsTo.of_eq rfl
  case he => repeat constructor
  case nn => decide
  case nb => decide
  case hcell => decide
  case hco => rfl
  case hgen => rfl
  case hk => rfl
  intro A B L h1 k1 G S hB hB' R
  dsimp only at S
  obtain ⟨st, tr, t1, t2, t3, C⟩ := Z.C
  have eX : B.get? tb = some ot := hB _ _ X.g (by simpa using ntb)
  with_reducible refine X_for ?_
  with_reducible refine E_call ?_
  with_reducible refine' E_bi (by assumption) (by assumption) ?c2 ?c3 ?c4 ?c5 ?_
  case c2 => exact .tl (.tl (.tl (.tl (.tl (.tl (.tl (.tl (.tl (.tl (.tl (.tl .hd)))))))))))
  case c3 => k_is
  case c4 => boot_by_name
  case c5 => decide
  with_reducible refine C_ty ?_
  with_reducible refine' S_locL (by assumption) ?c1 ?_
  case c1 => exact .h2
  refine C_listD R.1 S (S.base _ _ eX) X.d X.lo (by rw [X.len]; decide) fun kl us kn h1 k1 hlu hus S => ?_
  refine iter_list S (S.has .hd) fun I ob h1 so S => ?_
  refine N_for (JPk c v tb kl hp us hs kn m)
    (itr_list kl us) R.1 S so .mk 3 rfl ?_ ?_ ?_ ?_ rfl rfl
  · rintro i vs σ h2 ⟨⟩
    rfl
  · rintro i vs σ h2 @⟨w, h2⟩ ob S
    exact ⟨_, S.has (.tl .hd)⟩
  · rintro i vs σ hT @⟨w, hT⟩ hi tk v9 ob h1 k1 e9 S Qt hQr hQn
    dsimp only [List.set] at S
    obtain ⟨k9, x9, ek, isk⟩ := hus i v9 e9
    obtain ⟨t9, rfl⟩ := Value.isInt_shape isk
    have hk9 := X.key _ (List.mem_iff_getElem?.mpr ⟨i, ek⟩)
    obtain ⟨a9, t8, u8, ea, Ta⟩ := X.at' k9 hk9.1 hk9.2
    with_reducible refine X_if0c ?_
    with_reducible refine E_sub ?_
    with_reducible refine E_sub ?_
    with_reducible refine' E_loc (by assumption) ?c1 ?_
    case c1 => exact .h2
    with_reducible refine' E_loc (by assumption) ?c1 ?_
    case c1 => exact .t3 .hd
    refine I_dic (x := k9) (S.base _ _ eX) X.d isI ea ?_ (by with_unfolding_all rfl)
    with_reducible refine E_int ?_
    refine I_tup (Ta.tk (tk.trans S.tup)) ?_ rfl rfl (by decide) (by decide) (by with_unfolding_all rfl)
    with_reducible refine' E_glo (by assumption) (by assumption) ?c2 ?c3 ?_
    case c2 => exact .tl (.tl (.tl (.tl (.tl (.tl (.tl (.tl (.tl (.tl (.tl (.tl (.tl .hd))))))))))))
    case c3 => k_is
    with_reducible refine q_ie ?_
    refine ⟨fun e => by simp at e, fun _ => ?_⟩
    with_reducible refine X_nil ?_
    exact hQn _ _ _ _ _ (by first | exact .inl rfl | exact .inr rfl) S .mk
  clear S
  rintro i_ vs σ hx @⟨w, hx⟩ - h1 k1 S -
  replace S := S.drop (List.sublist_cons_self _ _)
  cases hlf : T.leaf with
  | true =>
    cases T with
    | v n9 =>
      obtain ⟨va, t9, u9, rfl, Tv⟩ := rd_leaf rv
      obtain ⟨a9, t8, u8, ea, Ta⟩ := X.at' n9 o.1 o.2
      with_reducible refine Nx_next ?_
      with_reducible refine X_name ?_
      with_reducible refine' E_tI (by assumption) ?c1 ?c2 ?_ ?c4
      case c1 => exact .h1
      case c2 => assumption
      case c4 => rfl
      with_reducible refine' N_st (by assumption) ?c1 ?_
      case c1 => exact .t3 .h1
      intro h1 S
      with_reducible refine X_ifc ?_
      with_reducible refine' E_loc (by assumption) ?c1 ?_
      case c1 => exact .t3 .h1
      with_reducible refine E_str ?_
      with_reducible refine q_se ?_
      refine ⟨fun _ => ?_, fun e => absurd e (by decide)⟩
      with_reducible refine X_ifc ?_
      with_reducible refine' E_tI (by assumption) ?c1 ?c2 ?_ ?c4
      case c1 => exact .h1
      case c2 => assumption
      case c4 => rfl
      with_reducible refine' E_loc (by assumption) ?c1 ?_
      case c1 => exact .h2
      refine nin_dic (x := n9) (S.base _ _ eX) X.d isI X.lo ?_
      rw [ea]
      with_reducible refine truthy_b ?_
      refine ⟨fun e => by simp at e, fun _ => ?_⟩
      with_reducible refine X_nn ?_
      with_reducible refine X_ret ?_
      with_reducible refine E_sub ?_
      with_reducible refine' E_loc (by assumption) ?c1 ?_
      case c1 => exact .h2
      with_reducible refine' E_tI (by assumption) ?c1 ?c2 ?_ ?c4
      case c1 => exact .h1
      case c2 => assumption
      case c4 => rfl
      refine I_dic (x := n9) (S.base _ _ eX) X.d isI ea ?_ (by with_unfolding_all rfl)
      with_reducible refine Nx_ret ?_
      exact q _ _ a9 (0, n9) [] H _ _ (S.back hB) (Z.now (S.back hB) ne (S.has .hd) (ph.tk S.tup) Z.sz) (Ta.tk S.tup) .v List.nodup_nil (fun _ _ => rfl) (Nat.le_refl _) (by omega)
    | a n9 =>
      obtain ⟨va, t9, u9, rfl, Tv⟩ := rd_leaf rv
      with_reducible refine Nx_next ?_
      with_reducible refine X_name ?_
      with_reducible refine' E_tI (by assumption) ?c1 ?c2 ?_ ?c4
      case c1 => exact .h1
      case c2 => assumption
      case c4 => rfl
      with_reducible refine' N_st (by assumption) ?c1 ?_
      case c1 => exact .t3 .h1
      intro h1 S
      with_reducible refine X_ifc ?_
      with_reducible refine' E_loc (by assumption) ?c1 ?_
      case c1 => exact .t3 .h1
      with_reducible refine E_str ?_
      with_reducible refine q_se ?_
      refine ⟨fun e => absurd e (by decide), fun _ => ?_⟩
      with_reducible refine X_nn ?_
      with_reducible refine X_ifc ?_
      with_reducible refine' E_loc (by assumption) ?c1 ?_
      case c1 => exact .t3 .h1
      with_reducible refine E_str ?_
      with_reducible refine q_se ?_
      refine ⟨fun _ => ?_, fun e => absurd e (by decide)⟩
      with_reducible refine X_ret ?_
      with_reducible refine E_tuple ?_
      with_reducible refine S_cons ?_
      with_reducible refine' E_glo (by assumption) (by assumption) ?c2 ?c3 ?_
      case c2 => exact .tl (.tl (.tl (.tl (.tl (.tl (.tl (.tl (.tl (.tl (.tl (.tl (.tl (.tl .hd)))))))))))))
      case c3 => k_is
      with_reducible refine S_cons ?_
      with_reducible refine' E_tI (by assumption) ?c1 ?c2 ?_ ?c4
      case c1 => exact .h1
      case c2 => assumption
      case c4 => rfl
      with_reducible refine S_nil ?_
      with_reducible refine' N_tup (by assumption) ?_
      intro t1 h1 S
      with_reducible refine Nx_ret ?_
      exact q _ _ _ (4, n9) [] H _ _ (S.back hB) (Z.now (S.back hB) ne (S.has (.tl .hd)) (ph.tk S.tup) Z.sz) (to_tp (S.has .hd)) .a List.nodup_nil (fun _ _ => rfl) (Nat.le_refl _) (by omega)
    | i n9 =>
      obtain ⟨va, t9, u9, rfl, Tv⟩ := rd_leaf rv
      with_reducible refine Nx_next ?_
      with_reducible refine X_name ?_
      with_reducible refine' E_tI (by assumption) ?c1 ?c2 ?_ ?c4
      case c1 => exact .h1
      case c2 => assumption
      case c4 => rfl
      with_reducible refine' N_st (by assumption) ?c1 ?_
      case c1 => exact .t3 .h1
      intro h1 S
      with_reducible refine X_ifc ?_
      with_reducible refine' E_loc (by assumption) ?c1 ?_
      case c1 => exact .t3 .h1
      with_reducible refine E_str ?_
      with_reducible refine q_se ?_
      refine ⟨fun e => absurd e (by decide), fun _ => ?_⟩
      with_reducible refine X_nn ?_
      with_reducible refine X_ifc ?_
      with_reducible refine' E_loc (by assumption) ?c1 ?_
      case c1 => exact .t3 .h1
      with_reducible refine E_str ?_
      with_reducible refine q_se ?_
      refine ⟨fun e => absurd e (by decide), fun _ => ?_⟩
      with_reducible refine X_nn ?_
      with_reducible refine X_ifc ?_
      with_reducible refine' E_loc (by assumption) ?c1 ?_
      case c1 => exact .t3 .h1
      with_reducible refine E_str ?_
      with_reducible refine q_se ?_
      refine ⟨fun _ => ?_, fun e => absurd e (by decide)⟩
      with_reducible refine X_ret ?_
      with_reducible refine E_tuple ?_
      with_reducible refine S_cons ?_
      with_reducible refine' E_glo (by assumption) (by assumption) ?c2 ?c3 ?_
      case c2 => exact .tl (.tl (.tl (.tl (.tl (.tl (.tl (.tl (.tl (.tl (.tl (.tl (.tl (.tl (.tl .hd))))))))))))))
      case c3 => k_is
      with_reducible refine S_cons ?_
      with_reducible refine' E_tI (by assumption) ?c1 ?c2 ?_ ?c4
      case c1 => exact .h1
      case c2 => assumption
      case c4 => rfl
      with_reducible refine S_nil ?_
      with_reducible refine' N_tup (by assumption) ?_
      intro t1 h1 S
      with_reducible refine Nx_ret ?_
      exact q _ _ _ (5, n9) [] H _ _ (S.back hB) (Z.now (S.back hB) ne (S.has (.tl .hd)) (ph.tk S.tup) Z.sz) (to_tp (S.has .hd)) .i List.nodup_nil (fun _ _ => rfl) (Nat.le_refl _) (by omega)
    | s1 => cases hlf
    | s2 => cases hlf
  | false =>
    obtain ⟨va, t9, u9, vb9, kvs, rfl, Tv, Tk9, Rk⟩ := rd_cmp hlf rv
    obtain ⟨kl1, kl2, kl3, kl4, ⟨fa, kl5⟩⟩ := kids_len hlf g
    with_reducible refine Nx_next ?_
    with_reducible refine X_name ?_
    with_reducible refine' E_tI (by assumption) ?c1 ?c2 ?_ ?c4
    case c1 => exact .h1
    case c2 => assumption
    case c4 => rfl
    with_reducible refine' N_st (by assumption) ?c1 ?_
    case c1 => exact .t3 .h1
    intro h1 S
    with_reducible refine X_ifc ?_
    with_reducible refine' E_loc (by assumption) ?c1 ?_
    case c1 => exact .t3 .h1
    with_reducible refine E_str ?_
    with_reducible refine q_se ?_
    refine ⟨fun e => absurd e (by decide), fun _ => ?_⟩
    with_reducible refine X_nn ?_
    with_reducible refine X_ifc ?_
    with_reducible refine' E_loc (by assumption) ?c1 ?_
    case c1 => exact .t3 .h1
    with_reducible refine E_str ?_
    with_reducible refine q_se ?_
    refine ⟨fun e => absurd e (by decide), fun _ => ?_⟩
    with_reducible refine X_nn ?_
    with_reducible refine X_ifc ?_
    with_reducible refine' E_loc (by assumption) ?c1 ?_
    case c1 => exact .t3 .h1
    with_reducible refine E_str ?_
    with_reducible refine q_se ?_
    refine ⟨fun e => absurd e (by decide), fun _ => ?_⟩
    with_reducible refine X_nn ?_
    with_reducible refine X_name ?_
    with_reducible refine' E_mc (by assumption) (by assumption) ?c2 ?c3 ?c4 ?c5 ?_ ?c7
    case c2 => exact .hd
    case c3 => assumption
    case c4 => exact mth_new_block
    case c5 => k_is
    case c7 => rfl
    with_reducible refine S_cons ?_
    with_reducible refine' E_tI (by assumption) ?c1 ?c2 ?_ ?c4
    case c1 => exact .h1
    case c2 => assumption
    case c4 => rfl
    with_reducible refine S_nil ?_
    with_reducible refine' Krf_go (by assumption) (by assumption) ?_
    refine new_block_ (a := fa) (w := T.kids.length) (G.st S) R (Z.now (S.back hB) ne (S.has .hd) (ph.tk S.tup) Z.sz) fr ne (by (clear hl; omega)) kl5 kl3 (by (clear kl3; omega)) (by (clear kl2; omega)) (by omega) fun h1 k1 mb t8 u8 x1 Z1 T8 => ?_
    rw [Int.toNat_natCast] at Z1
    change Sto B₀ h1 c sy hp fl (nb H T.fn T.kids.length) F at Z1
    change Tp h1 mb [.int (nc H T.fn).1 t8, .int (nc H T.fn).2 u8] at T8
    have hnl := nb_len (H := H) T.kids.length T.fn kl2
    obtain ⟨hs1, m1, eh1, ph1⟩ := Z1.hh
    replace S := S.chgL (ups := [(hp, lo hs1 m1)]) x1 (.cons .hd .nil) (by simpa using eh1)
    have tk0 := S.tup
    replace Tv := Tv.tk tk0
    replace Tk9 := Tk9.tk tk0
    replace Rk := Rk.imp fun v T (z : Rd h v (enc T)) => z.tk tk0
    replace S := S.pool
    with_reducible refine' N_st (by assumption) ?c1 ?_
    case c1 => exact .t3 .h2
    intro h1 S
    with_reducible refine X_name ?_
    with_reducible refine E_list ?_
    with_reducible refine S_cons ?_
    with_reducible refine E_tuple ?_
    with_reducible refine S_cons ?_
    with_reducible refine' E_mc (by assumption) (by assumption) ?c2 ?c3 ?c4 ?c5 ?_ ?c7
    case c2 => exact .hd
    case c3 => assumption
    case c4 => exact mth_base
    case c5 => k_is
    case c7 => rfl
    with_reducible refine' S_locL (by assumption) ?c1 ?_
    case c1 => exact .t3 .h2
    with_reducible refine' Krf_go (by assumption) (by assumption) ?_
    refine base_ (p := nc H T.fn) (G.st S) R (T8.tk S.tup) fun h1 k1 tb9 x2 => ?_
    replace S := S.call0 x2
    with_reducible refine S_cons ?_
    with_reducible refine' E_tI (by assumption) ?c1 ?c2 ?_ ?c4
    case c1 => exact .h1
    case c2 => assumption
    case c4 => rfl
    with_reducible refine S_nil ?_
    with_reducible refine' N_tup (by assumption) ?_
    intro t1 h1 S
    with_reducible refine S_nil ?_
    with_reducible refine' N_lst (by assumption) ?_
    intro l1 h1 S
    with_reducible refine' N_st (by assumption) ?c1 ?_
    case c1 => exact .t3 (.t3 .hd)
    intro h1 S
    with_reducible refine X_name ?_
    with_reducible refine E_int ?_
    with_reducible refine' N_st (by assumption) ?c1 ?_
    case c1 => exact .t3 (.t3 .h1)
    intro h1 S
    with_reducible refine X_while ?_
    have hks := kids_sz hlf
    have hq0 : qsz (slotsOf ([(blk (nc H T.fn), T.kids)] : List (Int × List Tr))) + 1 = T.sz := by
      rw [← hks]
      have : slotsOf ([(blk (nc H T.fn), T.kids)] : List (Int × List Tr)) = slotL (blk (nc H T.fn)) T.kids := by simp [slotsOf]
      rw [this, slot_sz]
    refine N_while (JPw F H (nc H T.fn) T c va tb mb l1 hp)
      (m₀ := qsz (slotsOf ([(blk (nc H T.fn), T.kids)] : List (Int × List Tr))))
      (S.drop (σ' := [(l1, lo [.ref t1] 0), (hp, lo hs1 m1)]) ((List.sublist_cons_self _ _).cons₂ _))
      (.mk (nAt := 0) (ws := [.ref t1]) (Wq := [(blk (nc H T.fn), T.kids)]) (H1 := nb H T.fn T.kids.length) ⟨⟨t1, vb9, kvs, _, rfl, to_tp (S.has (by exact .h1)), Tk9.tk S.tup, Rk.imp fun v T z => z.tk S.tup⟩, trivial⟩ (ph1.tk S.tup) ?_ ?_ rfl ?_ (Nat.zero_le _) ?_) ?_
    · simpa [slotsOf] using PInv.start hlf g o
    · intro e he
      rw [List.mem_singleton.mp he]
      intro h9
      have h9' : T.kids = [] := h9
      rw [h9'] at kl1; simp at kl1
    · split at hnl <;> omega
    · simp; (clear hks; omega)
    clear S
    rintro m9 vs σ hT @⟨nAt, tA, ws, n9, Wq, H1, hs1, m1, w3, w4, w8, w9, w10, w11, m9, hT, W9, P9, I9, ne9, hm9, hl9, hn9, hw9⟩ kT tk S Qt hQr hQn
    have tkh := tk0.trans tk
    have hlw := W9.len
    have hlp := P9.len
    with_reducible refine T_cmp ?_
    with_reducible refine' E_loc (by assumption) ?c1 ?_
    case c1 => exact .t3 (.t3 .h1)
    with_reducible refine E_call ?_
    with_reducible refine' E_bi (by assumption) (by assumption) ?c2 ?c3 ?c4 ?c5 ?_
    case c2 => exact .tl (.tl (.tl (.tl (.tl (.tl (.tl (.tl (.tl (.tl (.tl (.tl (.tl (.tl (.tl (.tl .hd)))))))))))))))
    case c3 => k_is
    case c4 => boot_by_name
    case c5 => decide
    with_reducible refine C_bi ?_
    with_reducible refine' S_locL (by assumption) ?c1 ?_
    case c1 => exact .t3 (.t3 .hd)
    refine C_len (S.has (by exact .hd)) (by (clear hm9; omega)) fun t5 k5 => ?_
    with_reducible refine i_lt ?_
    with_reducible refine truthy_b ?_
    refine ⟨fun e0 => ?_, fun e0 => ?_⟩
    rotate_left
    · have : Wq.drop nAt = [] := List.drop_eq_nil_of_le (by simp at e0; (clear hn9; omega))
      rw [this] at I9
      obtain ⟨as, r9, nd9⟩ := I9.done (by (clear hl hnl hm9 hlp; omega))
      with_reducible refine Nx_next ?_
      with_reducible refine X_ret ?_
      with_reducible refine' E_loc (by assumption) ?c1 ?_
      case c1 => exact .t3 .h2
      have XX := (S.re tkh).back hB
      exact q _ _ mb (nc H T.fn) as H1 _ _ XX (Z.now XX ne (S.has (by exact .h1)) (P9.tk S.tup) (by (clear hl hnl hm9 hlp; omega))) (T8.tk (tk.trans S.tup)) r9 nd9 I9.old I9.len (by (clear hl hnl hm9 hlp; omega))
    have hlt : nAt < Wq.length := by simp at e0; omega
    obtain ⟨v9, ev9, ⟨ta, ia, ivs, xp, rfl, V1, V2, V3⟩⟩ := W9.get (List.getElem?_eq_getElem hlt)
    have hdr : Wq.drop nAt = Wq[nAt] :: Wq.drop (nAt + 1) := List.drop_eq_getElem_cons hlt
    with_reducible refine X_unp ?_
    with_reducible refine E_sub ?_
    with_reducible refine' E_loc (by assumption) ?c1 ?_
    case c1 => exact .t3 (.t3 .hd)
    with_reducible refine' E_loc (by assumption) ?c1 ?_
    case c1 => exact .t3 (.t3 .h1)
    refine I_lst (S.has (by exact .hd)) ?_ (x := .ref ta) (by simpa using ev9) (by exact Int.natCast_nonneg _) (by (clear hm9 hlw; omega)) (by with_unfolding_all rfl)
    refine A_unp2 R.1 S (V1.tk S.tup) (by exact .t3 (.t3 .h2)) (by exact .t3 (.t3 (.t3 .hd))) (fun h1 k1 S => ?_) rfl rfl
    with_reducible refine X_augName ?_
    with_reducible refine' N_loc (by assumption) ?c1 ?_
    case c1 => exact .t3 (.t3 .h1)
    with_reducible refine E_int ?_
    with_reducible refine i_iadd ?_
    with_reducible refine' N_st (by assumption) ?c1 ?_
    case c1 => exact .t3 (.t3 .h1)
    intro h1 S
    with_reducible refine X_for ?_
    with_reducible refine' E_loc (by assumption) ?c1 ?_
    case c1 => exact .t3 (.t3 (.t3 .hd))
    refine iter_tup S (V2.tk S.tup) fun I ob h1 so S => ?_
    have tk1 := S.tup
    replace W9 := W9.imp fun v e (z : WtAt hT v e) => z.tk tk1
    replace P9 := P9.tk tk1
    replace V2 := V2.tk tk1
    replace V3 := V3.imp fun v T (z : Rd hT v (enc T)) => z.tk tk1
    replace tkh := tkh.trans tk1
    replace tk := tk.trans tk1
    replace S := S.pool
    have hl3 := V3.len
    rw [hdr] at I9 hm9
    have hs0 : slotsOf (Wq[nAt] :: Wq.drop (nAt + 1)) = slotL (Wq[nAt]).1 (Wq[nAt]).2 ++ slotsOf (Wq.drop (nAt + 1)) := rfl
    rw [hs0] at I9 hm9
    have hm0 : 1 ≤ (Wq[nAt]).2.length := by
      have := ne9 _ (List.getElem_mem hlt)
      exact List.length_pos_iff.mpr this
    refine N_for (JPf F H (nc H T.fn) T c va tb mb l1 hp ia w3 w4 nAt m9 Wq Wq[nAt] ivs)
      (itr_tup ia ivs) R.1 S so ?j0 10 rfl ?_ ?_ ?_ ?_ rfl rfl
    · have e0 : (Wq[nAt]).1 = (Wq[nAt]).1 + ((0 : Nat) : Int) := by simp
      rw [e0]
      refine .mk (Wx := []) (by simpa using W9) P9 (by simpa [slotsOf] using I9) (by simp) ?_ ?_ ?_ V2
      · simp [slotsOf] at hm9 ⊢; omega
      · simp [slotsOf] at hm9 ⊢; (clear hl hnl hlp; omega)
      · simp [slotsOf] at hm9 ⊢; (clear hlw; omega)
    · rintro i vs σ h2 ⟨⟩
      rfl
    · rintro i vs σ h2 @⟨tA, tp, ws, n, Wx, H1, hs1, m1, w4, w10, w11, i, h2, -, -, -, -, -, -, -, Vt⟩ ob S
      exact Vt
    · clear W9 P9 I9 hm9 hl9 hlw hlp
      rintro i vs σ hU @⟨tA, tp, ws, n, Wx, H1, hs1, m1, w4, w10, w11, i, hU, W9, P9, I9, nex, hq1, hq2, hq3, Vt⟩ hi tku v9 ob h1 k1 e9 S Qt2 hQr2 hQf
      dsimp only [List.set] at S
      have hlw := W9.len
      have hlp := P9.len
      have hi' : i < (Wq[nAt]).2.length := by omega
      obtain ⟨v8, e8, r8⟩ := V3.get (List.getElem?_eq_getElem hi')
      rw [e9] at e8
      cases e8
      replace r8 := r8.tk (tku.trans S.tup)
      rw [slotL_drop hi', List.cons_append] at I9 hq1 hq2 hq3
      rw [qsz_cons] at hq1 hq2 hq3
      have hrg := I9.rng _ (.head _)
      dsimp only at hrg
      obtain ⟨gi, oi⟩ := I9.tr _ (.head _)
      dsimp only at gi oi
      have tkU := S.tup
      replace tkh := tkh.trans (tku.trans S.tup)
      replace S := S.pool
      have hpl : ((Wq[nAt]).1 + (i : Int)) + 1 = (Wq[nAt]).1 + ((i + 1 : Nat) : Int) := by omega
      generalize hti : (Wq[nAt]).2[i] = ti at *
      cases hlf2 : ti.leaf with
      | true =>
        have I10 := I9.leaf hlf2
        rw [hpl] at I10 hq1 hq2 hq3
        have hsp := ti.sz_pos
        have c0 : 0 ≤ (Wq[nAt]).1 + (i : Int) := by (clear sz hl; omega)
        have c1 : (Wq[nAt]).1 + (i : Int) < 2 ^ 63 := by (clear hl hnl hlw hq3; omega)
        have c2 : (Wq[nAt]).1 + (i : Int) < hs1.length := by omega
        have q1 : qsz (slotL ((Wq[nAt]).1 + ((i + 1 : Nat) : Int)) ((Wq[nAt]).2.drop (i + 1)) ++ (slotsOf (Wq.drop (nAt + 1)) ++ slotsOf Wx)) + (i + 1) ≤ m9 := by omega
        have q2 : ∀ p, (H1.set ((Wq[nAt]).1 + (i : Int)).toNat p).length + 3 * qsz (slotL ((Wq[nAt]).1 + ((i + 1 : Nat) : Int)) ((Wq[nAt]).2.drop (i + 1)) ++ (slotsOf (Wq.drop (nAt + 1)) ++ slotsOf Wx)) ≤ H.length + 300 := fun p => by rw [List.length_set]; (clear hl hnl hsp; omega)
        have q3 : (Wq ++ Wx).length + qsz (slotL ((Wq[nAt]).1 + ((i + 1 : Nat) : Int)) ((Wq[nAt]).2.drop (i + 1)) ++ (slotsOf (Wq.drop (nAt + 1)) ++ slotsOf Wx)) ≤ 110 := by (clear hsp; omega)
        cases ti with
        | v n7 =>
          obtain ⟨vi, t7, u7, rfl, Ti⟩ := rd_leaf r8
          obtain ⟨a7, t6, u6, ea, Ta⟩ := X.at' n7 oi.1 oi.2
          with_reducible refine X_name ?_
          with_reducible refine' E_tI (by assumption) ?c1 ?c2 ?_ ?c4
          case c1 => exact .t3 (.t3 (.t3 .h1))
          case c2 => assumption
          case c4 => rfl
          with_reducible refine' N_st (by assumption) ?c1 ?_
          case c1 => exact .t3 .h1
          intro h1 S
          with_reducible refine X_ifc ?_
          with_reducible refine' E_loc (by assumption) ?c1 ?_
          case c1 => exact .t3 .h1
          with_reducible refine E_str ?_
          with_reducible refine q_se ?_
          refine ⟨fun _ => ?_, fun e => absurd e (by decide)⟩
          with_reducible refine X_if0c ?_
          with_reducible refine' E_tI (by assumption) ?c1 ?c2 ?_ ?c4
          case c1 => exact .t3 (.t3 (.t3 .h1))
          case c2 => assumption
          case c4 => rfl
          with_reducible refine' E_loc (by assumption) ?c1 ?_
          case c1 => exact .h2
          refine in_dic (x := n7) (S.base _ _ eX) X.d isI X.lo ?_
          rw [ea]
          with_reducible refine truthy_b ?_
          refine ⟨fun _ => ?_, fun e => by simp at e⟩
          with_reducible refine X_sub ?_
          with_reducible refine E_sub ?_
          with_reducible refine' E_loc (by assumption) ?c1 ?_
          case c1 => exact .h2
          with_reducible refine' E_tI (by assumption) ?c1 ?c2 ?_ ?c4
          case c1 => exact .t3 (.t3 (.t3 .h1))
          case c2 => assumption
          case c4 => rfl
          refine I_dic (x := n7) (S.base _ _ eX) X.d isI ea ?_ (by with_unfolding_all rfl)
          with_reducible refine' E_at (by assumption) (by assumption) ?c2 ?c3 ?c4 ?c5 ?_ ?c7
          case c2 => exact .hd
          case c3 => assumption
          case c4 => exact .tl (.tl .hd)
          case c5 => exact fld_heap
          case c7 => rfl
          with_reducible refine' E_loc (by assumption) ?c1 ?_
          case c1 => exact .t3 (.t3 .h2)
          refine P_lst S (by exact .h2) (by exact .tl (.tl .hd)) (fun h1 S => ?_) c0 c1 c2
          with_reducible refine X_nn ?_
          with_reducible refine X_augName ?_
          with_reducible refine' N_loc (by assumption) ?c1 ?_
          case c1 => exact .t3 (.t3 .h2)
          with_reducible refine E_int ?_
          with_reducible refine i_iadd ?_
          with_reducible refine' N_st (by assumption) ?c1 ?_
          case c1 => exact .t3 (.t3 .h2)
          intro h1 S
          with_reducible refine X_nil ?_
          rw [hpl] at S
          exact hQf _ _ _ _ _ (by first | exact .inl rfl | exact .inr rfl) (S.re tkU) (.mk (W9.imp fun v e z => z.tk (tkU.trans S.tup)) ((P9.tk (tkU.trans S.tup)).set ⟨a7, _, _, rfl, Ta.tk (tkh.trans S.tup)⟩) I10 nex q1 (q2 _) q3 (Vt.tk (tkU.trans S.tup)))
        | a n7 =>
          obtain ⟨vi, t7, u7, rfl, Ti⟩ := rd_leaf r8
          with_reducible refine X_name ?_
          with_reducible refine' E_tI (by assumption) ?c1 ?c2 ?_ ?c4
          case c1 => exact .t3 (.t3 (.t3 .h1))
          case c2 => assumption
          case c4 => rfl
          with_reducible refine' N_st (by assumption) ?c1 ?_
          case c1 => exact .t3 .h1
          intro h1 S
          with_reducible refine X_ifc ?_
          with_reducible refine' E_loc (by assumption) ?c1 ?_
          case c1 => exact .t3 .h1
          with_reducible refine E_str ?_
          with_reducible refine q_se ?_
          refine ⟨fun e => absurd e (by decide), fun _ => ?_⟩
          with_reducible refine X_if0c ?_
          with_reducible refine' E_loc (by assumption) ?c1 ?_
          case c1 => exact .t3 .h1
          with_reducible refine E_str ?_
          with_reducible refine q_se ?_
          refine ⟨fun _ => ?_, fun e => absurd e (by decide)⟩
          with_reducible refine X_sub ?_
          with_reducible refine E_tuple ?_
          with_reducible refine S_cons ?_
          with_reducible refine' E_glo (by assumption) (by assumption) ?c2 ?c3 ?_
          case c2 => exact .tl (.tl (.tl (.tl (.tl (.tl (.tl (.tl (.tl (.tl (.tl (.tl (.tl (.tl .hd)))))))))))))
          case c3 => k_is
          with_reducible refine S_cons ?_
          with_reducible refine' E_tI (by assumption) ?c1 ?c2 ?_ ?c4
          case c1 => exact .t3 (.t3 (.t3 .h1))
          case c2 => assumption
          case c4 => rfl
          with_reducible refine S_nil ?_
          with_reducible refine' N_tup (by assumption) ?_
          intro t1 h1 S
          with_reducible refine' E_at (by assumption) (by assumption) ?c2 ?c3 ?c4 ?c5 ?_ ?c7
          case c2 => exact .hd
          case c3 => assumption
          case c4 => exact .tl (.tl .hd)
          case c5 => exact fld_heap
          case c7 => rfl
          with_reducible refine' E_loc (by assumption) ?c1 ?_
          case c1 => exact .t3 (.t3 .h2)
          refine P_lst S (by exact .t3 .hd) (by exact .tl (.tl (.tl .hd))) (fun h1 S => ?_) c0 c1 c2
          with_reducible refine X_nn ?_
          with_reducible refine X_augName ?_
          with_reducible refine' N_loc (by assumption) ?c1 ?_
          case c1 => exact .t3 (.t3 .h2)
          with_reducible refine E_int ?_
          with_reducible refine i_iadd ?_
          with_reducible refine' N_st (by assumption) ?c1 ?_
          case c1 => exact .t3 (.t3 .h2)
          intro h1 S
          with_reducible refine X_nil ?_
          rw [hpl] at S
          exact hQf _ _ _ _ _ (by first | exact .inl rfl | exact .inr rfl) ((S.re tkU).drop (List.sublist_cons_self _ _)) (.mk (W9.imp fun v e z => z.tk (tkU.trans S.tup)) ((P9.tk (tkU.trans S.tup)).set ⟨_, _, _, rfl, to_tp (S.has .hd)⟩) I10 nex q1 (q2 _) q3 (Vt.tk (tkU.trans S.tup)))
        | i n7 =>
          obtain ⟨vi, t7, u7, rfl, Ti⟩ := rd_leaf r8
          with_reducible refine X_name ?_
          with_reducible refine' E_tI (by assumption) ?c1 ?c2 ?_ ?c4
          case c1 => exact .t3 (.t3 (.t3 .h1))
          case c2 => assumption
          case c4 => rfl
          with_reducible refine' N_st (by assumption) ?c1 ?_
          case c1 => exact .t3 .h1
          intro h1 S
          with_reducible refine X_ifc ?_
          with_reducible refine' E_loc (by assumption) ?c1 ?_
          case c1 => exact .t3 .h1
          with_reducible refine E_str ?_
          with_reducible refine q_se ?_
          refine ⟨fun e => absurd e (by decide), fun _ => ?_⟩
          with_reducible refine X_if0c ?_
          with_reducible refine' E_loc (by assumption) ?c1 ?_
          case c1 => exact .t3 .h1
          with_reducible refine E_str ?_
          with_reducible refine q_se ?_
          refine ⟨fun e => absurd e (by decide), fun _ => ?_⟩
          with_reducible refine X_if0c ?_
          with_reducible refine' E_loc (by assumption) ?c1 ?_
          case c1 => exact .t3 .h1
          with_reducible refine E_str ?_
          with_reducible refine q_se ?_
          refine ⟨fun _ => ?_, fun e => absurd e (by decide)⟩
          with_reducible refine X_sub ?_
          with_reducible refine E_tuple ?_
          with_reducible refine S_cons ?_
          with_reducible refine' E_glo (by assumption) (by assumption) ?c2 ?c3 ?_
          case c2 => exact .tl (.tl (.tl (.tl (.tl (.tl (.tl (.tl (.tl (.tl (.tl (.tl (.tl (.tl (.tl .hd))))))))))))))
          case c3 => k_is
          with_reducible refine S_cons ?_
          with_reducible refine' E_tI (by assumption) ?c1 ?c2 ?_ ?c4
          case c1 => exact .t3 (.t3 (.t3 .h1))
          case c2 => assumption
          case c4 => rfl
          with_reducible refine S_nil ?_
          with_reducible refine' N_tup (by assumption) ?_
          intro t1 h1 S
          with_reducible refine' E_at (by assumption) (by assumption) ?c2 ?c3 ?c4 ?c5 ?_ ?c7
          case c2 => exact .hd
          case c3 => assumption
          case c4 => exact .tl (.tl .hd)
          case c5 => exact fld_heap
          case c7 => rfl
          with_reducible refine' E_loc (by assumption) ?c1 ?_
          case c1 => exact .t3 (.t3 .h2)
          refine P_lst S (by exact .t3 .hd) (by exact .tl (.tl (.tl .hd))) (fun h1 S => ?_) c0 c1 c2
          with_reducible refine X_nn ?_
          with_reducible refine X_augName ?_
          with_reducible refine' N_loc (by assumption) ?c1 ?_
          case c1 => exact .t3 (.t3 .h2)
          with_reducible refine E_int ?_
          with_reducible refine i_iadd ?_
          with_reducible refine' N_st (by assumption) ?c1 ?_
          case c1 => exact .t3 (.t3 .h2)
          intro h1 S
          with_reducible refine X_nil ?_
          rw [hpl] at S
          exact hQf _ _ _ _ _ (by first | exact .inl rfl | exact .inr rfl) ((S.re tkU).drop (List.sublist_cons_self _ _)) (.mk (W9.imp fun v e z => z.tk (tkU.trans S.tup)) ((P9.tk (tkU.trans S.tup)).set ⟨_, _, _, rfl, to_tp (S.has .hd)⟩) I10 nex q1 (q2 _) q3 (Vt.tk (tkU.trans S.tup)))
        | s1 => cases hlf2
        | s2 => cases hlf2
      | false =>
        obtain ⟨vi, t7, u7, vk7, kv7, rfl, Ti, Tki, Rki⟩ := rd_cmp hlf2 r8
        obtain ⟨kk1, kk2, kk3, kk4, ⟨fa7, kk5⟩⟩ := kids_len hlf2 gi
        have I10 := I9.node hlf2
        have hsz7 := kids_sz hlf2
        have hnl7 := nb_len (H := H1) ti.kids.length ti.fn kk2
        have hnl8 : H1.length ≤ (nb H1 ti.fn ti.kids.length).length ∧ (nb H1 ti.fn ti.kids.length).length ≤ H1.length + 3 := by split at hnl7 <;> omega
        with_reducible refine X_name ?_
        with_reducible refine' E_tI (by assumption) ?c1 ?c2 ?_ ?c4
        case c1 => exact .t3 (.t3 (.t3 .h1))
        case c2 => assumption
        case c4 => rfl
        with_reducible refine' N_st (by assumption) ?c1 ?_
        case c1 => exact .t3 .h1
        intro h1 S
        with_reducible refine X_ifc ?_
        with_reducible refine' E_loc (by assumption) ?c1 ?_
        case c1 => exact .t3 .h1
        with_reducible refine E_str ?_
        with_reducible refine q_se ?_
        refine ⟨fun e => absurd e (by decide), fun _ => ?_⟩
        with_reducible refine X_if0c ?_
        with_reducible refine' E_loc (by assumption) ?c1 ?_
        case c1 => exact .t3 .h1
        with_reducible refine E_str ?_
        with_reducible refine q_se ?_
        refine ⟨fun e => absurd e (by decide), fun _ => ?_⟩
        with_reducible refine X_if0c ?_
        with_reducible refine' E_loc (by assumption) ?c1 ?_
        case c1 => exact .t3 .h1
        with_reducible refine E_str ?_
        with_reducible refine q_se ?_
        refine ⟨fun e => absurd e (by decide), fun _ => ?_⟩
        with_reducible refine X_name ?_
        with_reducible refine' E_mc (by assumption) (by assumption) ?c2 ?c3 ?c4 ?c5 ?_ ?c7
        case c2 => exact .hd
        case c3 => assumption
        case c4 => exact mth_new_block
        case c5 => k_is
        case c7 => rfl
        with_reducible refine S_cons ?_
        with_reducible refine' E_tI (by assumption) ?c1 ?c2 ?_ ?c4
        case c1 => exact .t3 (.t3 (.t3 .h1))
        case c2 => assumption
        case c4 => rfl
        with_reducible refine S_nil ?_
        with_reducible refine' Krf_go (by assumption) (by assumption) ?_
        have XX := (S.re tkh).back hB
        refine new_block_ (a := fa7) (w := ti.kids.length) (G.st S) R (Z.now XX ne (S.has (by exact .h2)) (P9.tk (tkU.trans S.tup)) (by (clear hl hnl hw9 hlw hsz7 hnl7; omega))) fr ne (by (clear hl hnl hw9 hlw hsz7 hnl7; omega)) kk5 kk3 (by (clear kk3; omega)) (by (clear kk2; omega)) (by omega) fun h1 k1 ib t6 u6 x6 Z6 T6 => ?_
        rw [Int.toNat_natCast] at Z6
        change Sto B₀ h1 c sy hp fl (nb H1 ti.fn ti.kids.length) F at Z6
        change Tp h1 ib [.int (nc H1 ti.fn).1 t6, .int (nc H1 ti.fn).2 u6] at T6
        obtain ⟨hs2, m2, eh2, ph2⟩ := Z6.hh
        replace S := S.chgL (ups := [(hp, lo hs2 m2)]) x6 (.cons (.tl (.tl .hd)) .nil) (by simpa using eh2)
        have tk7 := S.tup
        have hl2 := ph2.len
        replace Ti := Ti.tk tk7
        replace Tki := Tki.tk tk7
        replace Rki := Rki.imp fun v T (z : Rd _ v (enc T)) => z.tk tk7
        replace tkU := tkU.trans tk7
        replace tkh := tkh.trans tk7
        replace S := S.pool
        with_reducible refine' N_st (by assumption) ?c1 ?_
        case c1 => exact .t3 (.t3 (.t3 .h2))
        intro h1 S
        with_reducible refine X_sub ?_
        with_reducible refine' E_loc (by assumption) ?c1 ?_
        case c1 => exact .t3 (.t3 (.t3 .h2))
        with_reducible refine' E_at (by assumption) (by assumption) ?c2 ?c3 ?c4 ?c5 ?_ ?c7
        case c2 => exact .hd
        case c3 => assumption
        case c4 => exact .tl (.tl .hd)
        case c5 => exact fld_heap
        case c7 => rfl
        with_reducible refine' E_loc (by assumption) ?c1 ?_
        case c1 => exact .t3 (.t3 .h2)
        refine P_lst S (by exact .h2) (by exact .tl (.tl .hd)) (fun h1 S => ?_) (by (clear sz hl; omega)) (by (clear hl hnl hw9 hlw hq3 hsz7 hnl7; omega)) (by (clear hnl7; omega))
        with_reducible refine X_expr ?_
        with_reducible refine E_meth ?_
        with_reducible refine' E_loc (by assumption) ?c1 ?_
        case c1 => exact .t3 (.t3 .hd)
        with_reducible refine' MC_append ?c0 ?_
        case c0 => exact St.has (by assumption) (by exact .h1)
        with_reducible refine C_bi ?_
        with_reducible refine S_cons ?_
        with_reducible refine E_tuple ?_
        with_reducible refine S_cons ?_
        with_reducible refine' E_mc (by assumption) (by assumption) ?c2 ?c3 ?c4 ?c5 ?_ ?c7
        case c2 => exact .hd
        case c3 => assumption
        case c4 => exact mth_base
        case c5 => k_is
        case c7 => rfl
        with_reducible refine' S_locL (by assumption) ?c1 ?_
        case c1 => exact .t3 (.t3 (.t3 .h2))
        with_reducible refine' Krf_go (by assumption) (by assumption) ?_
        refine base_ (p := nc H1 ti.fn) (G.st S) R (T6.tk S.tup) fun h1 k1 tb6 x7 => ?_
        replace S := S.call0 x7
        with_reducible refine S_cons ?_
        with_reducible refine' E_tI (by assumption) ?c1 ?c2 ?_ ?c4
        case c1 => exact .t3 (.t3 (.t3 .h1))
        case c2 => assumption
        case c4 => rfl
        with_reducible refine S_nil ?_
        with_reducible refine' N_tup (by assumption) ?_
        intro t1 h1 S
        with_reducible refine S_nil ?_
        refine C_append S (by exact .h2) (by exact .tl (.tl .hd)) (fun h1 S => ?_) (by (clear hsz7; omega))
        with_reducible refine And_none ?_
        with_reducible refine X_nn ?_
        with_reducible refine X_augName ?_
        with_reducible refine' N_loc (by assumption) ?c1 ?_
        case c1 => exact .t3 (.t3 .h2)
        with_reducible refine E_int ?_
        with_reducible refine i_iadd ?_
        with_reducible refine' N_st (by assumption) ?c1 ?_
        case c1 => exact .t3 (.t3 .h2)
        intro h1 S
        with_reducible refine X_nil ?_
        rw [hpl] at S I10 hq1 hq2 hq3
        have hQ : (slotL ((Wq[nAt]).1 + ((i + 1 : Nat) : Int)) ((Wq[nAt]).2.drop (i + 1)) ++ (slotsOf (Wq.drop (nAt + 1)) ++ slotsOf Wx)) ++ slotL (blk (nc H1 ti.fn)) ti.kids = slotL ((Wq[nAt]).1 + ((i + 1 : Nat) : Int)) ((Wq[nAt]).2.drop (i + 1)) ++ (slotsOf (Wq.drop (nAt + 1)) ++ slotsOf (Wx ++ [(blk (nc H1 ti.fn), ti.kids)])) := by
          rw [slotsOf_app]; simp [slotsOf, List.append_assoc]
        have hZ : qsz (slotL ((Wq[nAt]).1 + ((i + 1 : Nat) : Int)) ((Wq[nAt]).2.drop (i + 1)) ++ (slotsOf (Wq.drop (nAt + 1)) ++ slotsOf (Wx ++ [(blk (nc H1 ti.fn), ti.kids)]))) + 1 = qsz (slotL ((Wq[nAt]).1 + ((i + 1 : Nat) : Int)) ((Wq[nAt]).2.drop (i + 1)) ++ (slotsOf (Wq.drop (nAt + 1)) ++ slotsOf Wx)) + ti.sz := by
          rw [← hQ, qsz_app _ (slotL (blk (nc H1 ti.fn)) ti.kids), slot_sz]; omega
        rw [hQ] at I10
        refine hQf _ _ _ _ _ (by first | exact .inl rfl | exact .inr rfl) ((S.re tkU).drop (List.sublist_cons_self _ _)) (.mk (ws := ws ++ [.ref t1]) (Wx := Wx ++ [(blk (nc H1 ti.fn), ti.kids)]) ?_ ((ph2.tk S.tup).set ⟨ib, _, _, rfl, T6.tk S.tup⟩) I10 ?_ (by (clear hsz7; omega)) ?_ ?_ (Vt.tk (tkU.trans S.tup)))
        · rw [← List.append_assoc]
          exact (W9.imp fun v e z => z.tk (tkU.trans S.tup)).snoc ⟨t1, vk7, kv7, _, rfl, to_tp (S.has .hd), Tki.tk S.tup, Rki.imp fun v T z => z.tk S.tup⟩
        · intro e he
          rcases List.mem_append.mp he with he | he
          · exact nex e he
          · rw [List.mem_singleton.mp he]
            intro h9
            have h9' : ti.kids = [] := h9
            rw [h9'] at kk1; simp at kk1
        · rw [List.length_set]; (clear hl hnl hsz7 hnl7 hl2; omega)
        · rw [← List.append_assoc, List.length_append]; simp only [List.length_singleton]; (clear hsz7; omega)
    · rintro i_ vs σ h2 @⟨tA, tp, ws, n, Wx, H1, hs1, m1, w4, w10, w11, i_, h2, W9, P9, I9, nex, hq1, hq2, hq3, Vt⟩ rfl h1 k1 S tk6
      with_reducible refine Nx_next ?_
      with_reducible refine X_nil ?_
      have e0 : (Wq[nAt]).2.drop ivs.length = [] := List.drop_eq_nil_of_le (by omega)
      have e1 : (Wq ++ Wx).drop (nAt + 1) = Wq.drop (nAt + 1) ++ Wx := List.drop_append_of_le_length (by assumption)
      rw [e0] at I9 hq1 hq2 hq3
      have e2 : ∀ a : Int, slotL a [] ++ (slotsOf (Wq.drop (nAt + 1)) ++ slotsOf Wx) = slotsOf ((Wq ++ Wx).drop (nAt + 1)) := by
        intro a; rw [e1, slotsOf_app]; rfl
      rw [e2] at I9 hq1 hq2 hq3
      refine hQn _ _ _ _ _ _ (by first | exact .inl rfl | exact .inr rfl) ?_ (S.re tk1) (.mk (nAt := nAt + 1) (ws := ws) (Wq := Wq ++ Wx) (H1 := H1) (W9.imp fun v e z => z.tk tk6) (P9.tk tk6) I9 ?_ rfl hq2 ?_ hq3)
      · (clear hm9; omega)
      · intro e he
        rcases List.mem_append.mp he with he | he
        · exact ne9 e he
        · exact nex e he
      · rw [List.length_append]; (clear hlw; omega)
end
end
section
open PySem PySem.W PyProof.Rows PySem.Calls
set_option hygiene true
theorem lk_none {ps : PS} {a : Int} : ps.lookup a = none ↔ a ∉ ps.map Prod.fst := by
  rw [List.lookup_eq_none_iff]
  constructor
  · intro h hm
    obtain ⟨p, hp, rfl⟩ := List.mem_map.mp hm
    have := h p hp
    simp at this
  · intro h p hp
    have : a ≠ p.1 := fun q => h (q ▸ List.mem_map_of_mem hp)
    simpa using this
theorem lk_none' {ps : PS} {b : Int} : (ps.map Prod.swap).lookup b = none ↔ b ∉ ps.map Prod.snd := by
  rw [lk_none, List.map_map]; rfl
theorem lk_some : ∀ {ps : PS} {a b : Int}, ps.lookup a = some b → (a, b) ∈ ps
  | (x, y) :: ps, a, b, h => by
    rw [List.lookup_cons] at h
    cases q : a == x with
    | true => rw [q] at h; cases h; rw [beq_iff_eq.mp q]; exact .head _
    | false => rw [q] at h; exact .tail _ (lk_some h)
theorem lk_mem : ∀ {ps : PS} {a b : Int}, (ps.map Prod.fst).Nodup → (a, b) ∈ ps → ps.lookup a = some b
  | (x, y) :: ps, a, b, nd, h => by
    rw [List.map_cons, List.nodup_cons] at nd
    rw [List.lookup_cons]
    rcases List.mem_cons.mp h with e | h
    · cases e; simp
    · have : a ≠ x := fun q => nd.1 (List.mem_map.mpr ⟨(a, b), h, q⟩)
      rw [beq_eq_false_iff_ne.mpr this]
      exact lk_mem nd.2 h
theorem idx_eq : ∀ {ps : PS} {a b : Int}, (ps.map Prod.fst).Nodup → (ps.map Prod.snd).Nodup → (a, b) ∈ ps → (ps.map Prod.fst).idxOf a = (ps.map Prod.snd).idxOf b
  | (x, y) :: ps, a, b, n1, n2, h => by
    rw [List.map_cons, List.nodup_cons] at n1 n2
    rw [List.map_cons, List.map_cons, List.idxOf_cons, List.idxOf_cons]
    rcases List.mem_cons.mp h with e | h
    · cases e; simp
    · have e1 : x ≠ a := fun q => n1.1 (List.mem_map.mpr ⟨_, h, q.symm⟩)
      have e2 : y ≠ b := fun q => n2.1 (List.mem_map.mpr ⟨_, h, q.symm⟩)
      simp only [beq_eq_false_iff_ne.mpr e1, beq_eq_false_iff_ne.mpr e2, cond_false, idx_eq n1.2 n2.2 h]
theorem idx_mem : ∀ {ps : PS} {a b : Int}, a ∈ ps.map Prod.fst → b ∈ ps.map Prod.snd → (ps.map Prod.fst).idxOf a = (ps.map Prod.snd).idxOf b → (a, b) ∈ ps
  | (x, y) :: ps, a, b, h1, h2, e => by
    rw [List.map_cons, List.map_cons, List.idxOf_cons, List.idxOf_cons] at e
    by_cases e1 : x = a
    · subst e1
      by_cases e2 : y = b
      · subst e2; exact .head _
      · simp [beq_eq_false_iff_ne.mpr e2] at e
    · by_cases e2 : y = b
      · subst e2; simp [beq_eq_false_iff_ne.mpr e1] at e
      · simp only [beq_eq_false_iff_ne.mpr e1, beq_eq_false_iff_ne.mpr e2, cond_false, Nat.add_right_cancel_iff] at e
        refine .tail _ (idx_mem ?_ ?_ e)
        · rcases List.mem_cons.mp h1 with q | q
          · exact absurd q.symm e1
          · exact q
        · rcases List.mem_cons.mp h2 with q | q
          · exact absurd q.symm e2
          · exact q
noncomputable def Nd (ps : PS) : Prop := (ps.map Prod.fst).Nodup ∧ (ps.map Prod.snd).Nodup
noncomputable def Ans (t u : Tr) (ps : PS) : Option PS → Prop
  | some ps' => (num t (ps.map Prod.fst)).1 = (num u (ps.map Prod.snd)).1 ∧ (num t (ps.map Prod.fst)).2 = ps'.map Prod.fst ∧ (num u (ps.map Prod.snd)).2 = ps'.map Prod.snd ∧ Nd ps'
  | none => (num t (ps.map Prod.fst)).1 ≠ (num u (ps.map Prod.snd)).1
theorem num_v {k : Int} {sn : List Int} : ∃ n, (num (.v k) sn).1 = .v n := by unfold num; split <;> exact ⟨_, rfl⟩
theorem va_ans : ∀ (t u : Tr) (ps : PS), Nd ps → Ans t u ps (va t u ps) := by
  intro t
  induction t with
  | v a =>
    intro u ps nd
    obtain ⟨n1, e1⟩ := num_v (k := a) (sn := ps.map Prod.fst)
    cases u with
    | v b =>
      show Ans _ _ _ (vstep a b ps)
      unfold vstep
      by_cases h : a ∉ ps.map Prod.fst ∧ b ∉ ps.map Prod.snd
      · rw [if_pos ⟨lk_none.mpr h.1, lk_none'.mpr h.2⟩]
        refine ⟨?_, ?_, ?_, ?_, ?_⟩
        · simp only [num, if_neg h.1, if_neg h.2, List.length_map]
        · simp only [num, if_neg h.1, List.map_append]; rfl
        · simp only [num, if_neg h.2, List.map_append]; rfl
        · rw [List.map_append]
          exact List.nodup_append.mpr ⟨nd.1, by simp, fun x hx y hy q => h.1 (by simp at hy; subst hy; exact q ▸ hx)⟩
        · rw [List.map_append]
          exact List.nodup_append.mpr ⟨nd.2, by simp, fun x hx y hy q => h.2 (by simp at hy; subst hy; exact q ▸ hx)⟩
      · rw [if_neg fun q => h ⟨lk_none.mp q.1, lk_none'.mp q.2⟩]
        by_cases h2 : ps.lookup a = some b
        · rw [if_pos h2]
          have hm := lk_some h2
          have m1 : a ∈ ps.map Prod.fst := List.mem_map.mpr ⟨_, hm, rfl⟩
          have m2 : b ∈ ps.map Prod.snd := List.mem_map.mpr ⟨_, hm, rfl⟩
          refine ⟨?_, ?_, ?_, nd⟩
          · simp only [num, if_pos m1, if_pos m2, idx_eq nd.1 nd.2 hm]
          · simp only [num, if_pos m1]
          · simp only [num, if_pos m2]
        · rw [if_neg h2]
          show (num _ _).1 ≠ (num _ _).1
          by_cases m1 : a ∈ ps.map Prod.fst <;> by_cases m2 : b ∈ ps.map Prod.snd
          · simp only [num, if_pos m1, if_pos m2]
            intro q
            have q' : (ps.map Prod.fst).idxOf a = (ps.map Prod.snd).idxOf b := by
              injection q with q; omega
            exact h2 (lk_mem nd.1 (idx_mem m1 m2 q'))
          · simp only [num, if_pos m1, if_neg m2, List.length_map]
            intro q
            injection q with q
            have := List.idxOf_lt_length_of_mem m1
            rw [List.length_map] at this
            omega
          · simp only [num, if_neg m1, if_pos m2, List.length_map]
            intro q
            injection q with q
            have := List.idxOf_lt_length_of_mem m2
            rw [List.length_map] at this
            omega
          · exact absurd ⟨m1, m2⟩ h
    | a => show (num _ _).1 ≠ _; rw [e1]; simp [num]
    | i => show (num _ _).1 ≠ _; rw [e1]; simp [num]
    | s1 => show (num _ _).1 ≠ _; rw [e1]; simp [num]
    | s2 => show (num _ _).1 ≠ _; rw [e1]; simp [num]
  | a n =>
    intro u ps nd
    cases u with
    | v b =>
      obtain ⟨n2, e2⟩ := num_v (k := b) (sn := ps.map Prod.snd)
      show _ ≠ (num _ _).1; rw [e2]; simp [num]
    | a m =>
      show Ans _ _ _ (if n = m then some ps else none)
      by_cases h : n = m
      · rw [if_pos h]; subst h; exact ⟨rfl, rfl, rfl, nd⟩
      · rw [if_neg h]; simp [Ans, num, h]
    | i => simp [va, Ans, num]
    | s1 => simp [va, Ans, num]
    | s2 => simp [va, Ans, num]
  | i n =>
    intro u ps nd
    cases u with
    | v b =>
      obtain ⟨n2, e2⟩ := num_v (k := b) (sn := ps.map Prod.snd)
      show _ ≠ (num _ _).1; rw [e2]; simp [num]
    | i m =>
      show Ans _ _ _ (if n = m then some ps else none)
      by_cases h : n = m
      · rw [if_pos h]; subst h; exact ⟨rfl, rfl, rfl, nd⟩
      · rw [if_neg h]; simp [Ans, num, h]
    | a => simp [va, Ans, num]
    | s1 => simp [va, Ans, num]
    | s2 => simp [va, Ans, num]
  | s1 f x ih =>
    intro u ps nd
    cases u with
    | v b =>
      obtain ⟨n2, e2⟩ := num_v (k := b) (sn := ps.map Prod.snd)
      show _ ≠ (num _ _).1; rw [e2]; simp [num]
    | s1 g y =>
      show Ans _ _ _ (if f = g then va x y ps else none)
      by_cases h : f = g
      · rw [if_pos h]
        subst h
        have := ih y ps nd
        cases hv : va x y ps with
        | none => rw [hv] at this; simpa [Ans, num] using this
        | some ps' => rw [hv] at this; simpa [Ans, num] using this
      · rw [if_neg h]; simp [Ans, num, h]
    | i => simp [va, Ans, num]
    | a => simp [va, Ans, num]
    | s2 => simp [va, Ans, num]
  | s2 f x1 x2 ih1 ih2 =>
    intro u ps nd
    cases u with
    | v b =>
      obtain ⟨n2, e2⟩ := num_v (k := b) (sn := ps.map Prod.snd)
      show _ ≠ (num _ _).1; rw [e2]; simp [num]
    | s2 g y1 y2 =>
      show Ans _ _ _ (if f = g then (va x1 y1 ps).bind fun ps => va x2 y2 ps else none)
      by_cases h : f = g
      · rw [if_pos h]
        subst h
        have h1 := ih1 y1 ps nd
        cases hv : va x1 y1 ps with
        | none =>
          rw [hv] at h1
          show (num _ _).1 ≠ (num _ _).1
          simp only [num]
          intro q
          injection q with _ q _
          exact h1 q
        | some ps' =>
          rw [hv] at h1
          obtain ⟨a1, a2, a3, a4⟩ := h1
          have h2 := ih2 y2 ps' a4
          show Ans _ _ _ (va x2 y2 ps')
          cases hv2 : va x2 y2 ps' with
          | none =>
            rw [hv2] at h2
            show (num _ _).1 ≠ (num _ _).1
            simp only [num, a2, a3]
            intro q
            injection q with _ _ q
            exact h2 q
          | some ps'' =>
            rw [hv2] at h2
            obtain ⟨b1, b2, b3, b4⟩ := h2
            refine ⟨?_, ?_, ?_, b4⟩
            · simp only [num, a2, a3, a1, b1]
            · simp only [num, a2, b2]
            · simp only [num, a3, b3]
      · rw [if_neg h]; simp [Ans, num, h]
    | i => simp [va, Ans, num]
    | a => simp [va, Ans, num]
    | s1 => simp [va, Ans, num]
open Classical in
theorem va_num (t u : Tr) : (va t u []).isSome = decide ((num t []).1 = (num u []).1) := by
  have := va_ans t u [] ⟨List.nodup_nil, List.nodup_nil⟩
  cases h : va t u [] with
  | none => rw [h] at this; simp; exact this
  | some ps => rw [h] at this; simp; exact this.1
end
section
open PySem PySem.W PyProof.Rows PySem.Calls
set_option hygiene false
structure SA (V : Vw) (h : Heap) (tx an : Addr) (L : List Str) : Prop where
  t : ∃ ts n, h.get? tx = some (lo ts n) ∧ ts.length = L.length
  d : ∃ oa ka, h.get? an = some oa ∧ oa.IsDictOf (PySem.strKind V.prog V.w) ka ∧ ka.length = L.length ∧ ∀ x, (x ∉ L → valueAt ka x = none) ∧ (x ∈ L → ∃ t, valueAt ka x = some (.int (L.idxOf x : Nat) t))
  lo : (an == sysModules) = false
  ne : tx ≠ an
  sz : L.length ≤ 1000
theorem SA.chg {V : Vw} {h h' : Heap} {tx an : Addr} {L : List Str} {M : List Addr} (Z : SA V h tx an L) (x : Chg M h h') (n1 : tx ∉ M) (n2 : an ∉ M) : SA V h' tx an L :=
  ⟨(by obtain ⟨ts, n, e, l⟩ := Z.t; exact ⟨ts, n, x.same _ _ e n1, l⟩), (by obtain ⟨oa, ka, e, r⟩ := Z.d; exact ⟨oa, ka, x.same _ _ e n2, r⟩), Z.lo, Z.ne, Z.sz⟩
noncomputable def addS (L : List Str) (x : Str) : List Str := if x ∈ L then L else L ++ [x]
section
variable {V : Vw} {B₀ h : Heap} {A : Around} {k : Nat} {Q : Value → Heap → Nat → Prop} {c x y sy hp fl tx an fn : Addr} {tag i : Int} {t u t' u' : Tok} {n : Nat} {H F : List (Int × Int)}
set_option maxHeartbeats 4000000 in
theorem atom_ {LL : List Str} {s : Str} (G : Wd (hd.heap_39 V.w.params) B₀ h) (R : Room A (n + 1)) (Y : Inst B₀ sy 154 (symF tx an fl fn)) (Z : SA V h tx an LL) (f1 : B₀.get? tx = none) (f2 : B₀.get? an = none) (sz : LL.length ≤ 900)
    (q : ∀ h' k' t', Chg [tx, an] h h' → SA V h' tx an (addS LL s) → Q (.int ((addS LL s).idxOf s : Nat) t') h' k') : W V A (call (.ref 88) ([.ref sy] ++ [.str s t])) Q h k := by
  obtain ⟨ts, m, et, hl⟩ := Z.t
  obtain ⟨oa, ka, ea, Da, hka, hva⟩ := Z.d
  refine' W_enter (binds := [("self", .ref sy), ("text", .str s t)]) G R ?ho ?hcd [(tx, lo ts m), (an, oa)] (by simpa using ⟨⟨et, f1⟩, ea, f2⟩) (by simpa using Z.ne) ?hb ?he ?nn ?nb ?_ ?hcell ?hco ?hgen ?hk
  case ho => k_is
  case hcd => k_is
  case hb => exact BindsTo.of_eq rfl
  case he => repeat constructor
  case nn => decide
  case nb => decide
  case hcell => decide
  case hco => rfl
  case hgen => rfl
  case hk => rfl
  intro A B L h1 k1 G S hB hB' R
  dsimp only at S
  with_reducible refine X_name ?_
  with_reducible refine E_meth ?_
  with_reducible refine' E_at (by assumption) (by assumption) ?c2 ?c3 ?c4 ?c5 ?_ ?c7
  case c2 => exact .hd
  case c3 => assumption
  case c4 => exact .tl .hd
  case c5 => exact fld_atom_numbers
  case c7 => rfl
  refine MC_get (S.has (by exact .h1)) (exact_of Da) ?_
  with_reducible refine C_bi ?_
  with_reducible refine' S_loc (by assumption) ?c1 ?_
  case c1 => exact .h1
  with_reducible refine S_cons ?_
  with_reducible refine E_un ?_
  with_reducible refine E_int ?_
  with_reducible refine i_neg ?_
  with_reducible refine S_nil ?_
  refine C_get (x := s) (S.has (by exact .h1)) Da (by simp [PySem.strKind, Value.isStrOf]) Z.lo ?_
  by_cases hm : s ∈ LL
  · obtain ⟨t9, e9⟩ := (hva s).2 hm
    rw [e9]
    have e8 : addS LL s = LL := if_pos hm
    rw [e8] at q
    dsimp only [Option.getD_some]
    with_reducible refine' N_st (by assumption) ?c1 ?_
    case c1 => exact .h2
    intro h1 S
    with_reducible refine X_ifc ?_
    with_reducible refine' E_loc (by assumption) ?c1 ?_
    case c1 => exact .h2
    with_reducible refine E_int ?_
    with_reducible refine i_ge ?_
    with_reducible refine truthy_b ?_
    refine ⟨fun _ => ?_, fun e => by simp at e⟩
    with_reducible refine X_ret ?_
    with_reducible refine' E_loc (by assumption) ?c1 ?_
    case c1 => exact .h2
    with_reducible refine Nx_ret ?_
    have XX := S.back hB
    exact q _ _ _ XX ⟨⟨ts, m, S.has (by exact .hd), hl⟩, ⟨oa, ka, S.has (by exact .h1), Da, hka, hva⟩, Z.lo, Z.ne, Z.sz⟩
  · rw [(hva s).1 hm]
    have e8 : addS LL s = LL ++ [s] := if_neg hm
    rw [e8] at q
    dsimp only [Option.getD_none]
    with_reducible refine' N_st (by assumption) ?c1 ?_
    case c1 => exact .h2
    intro h1 S
    with_reducible refine X_ifc ?_
    with_reducible refine' E_loc (by assumption) ?c1 ?_
    case c1 => exact .h2
    with_reducible refine E_int ?_
    with_reducible refine i_ge ?_
    with_reducible refine truthy_b ?_
    refine ⟨fun e => by simp at e, fun _ => ?_⟩
    with_reducible refine X_nn ?_
    with_reducible refine X_name ?_
    with_reducible refine E_call ?_
    with_reducible refine' E_bi (by assumption) (by assumption) ?c2 ?c3 ?c4 ?c5 ?_
    case c2 => exact .tl (.tl (.tl (.tl .hd)))
    case c3 => k_is
    case c4 => boot_by_name
    case c5 => decide
    with_reducible refine C_bi ?_
    with_reducible refine S_cons ?_
    with_reducible refine' E_at (by assumption) (by assumption) ?c2 ?c3 ?c4 ?c5 ?_ ?c7
    case c2 => exact .hd
    case c3 => assumption
    case c4 => exact .hd
    case c5 => exact fld_texts
    case c7 => rfl
    with_reducible refine S_nil ?_
    refine C_len (S.has (by exact .hd)) (by (clear hka; omega)) fun t5 k5 => ?_
    with_reducible refine' N_st (by assumption) ?c1 ?_
    case c1 => exact .t3 .hd
    intro h1 S
    with_reducible refine X_expr ?_
    with_reducible refine E_meth ?_
    with_reducible refine' E_at (by assumption) (by assumption) ?c2 ?c3 ?c4 ?c5 ?_ ?c7
    case c2 => exact .hd
    case c3 => assumption
    case c4 => exact .hd
    case c5 => exact fld_texts
    case c7 => rfl
    with_reducible refine' MC_append ?c0 ?_
    case c0 => exact St.has (by assumption) (by exact .hd)
    with_reducible refine C_bi ?_
    with_reducible refine' S_locL (by assumption) ?c1 ?_
    case c1 => exact .h1
    refine C_append S (by exact .hd) (by exact .hd) (fun h1 S => ?_) (by omega)
    with_reducible refine And_none ?_
    with_reducible refine X_sub ?_
    with_reducible refine' E_loc (by assumption) ?c1 ?_
    case c1 => exact .t3 .hd
    with_reducible refine' E_at (by assumption) (by assumption) ?c2 ?c3 ?c4 ?c5 ?_ ?c7
    case c2 => exact .hd
    case c3 => assumption
    case c4 => exact .tl .hd
    case c5 => exact fld_atom_numbers
    case c7 => rfl
    with_reducible refine' E_loc (by assumption) ?c1 ?_
    case c1 => exact .h1
    refine P_dic (x := s) (σ' := fun o => [(tx, lo _ _), (an, o)]) S (by exact .h1) Da (by simp [PySem.strKind, Value.isStrOf]) (fun _ => by exact .tl .hd) (fun oa' h1 Da' S => ?_) (by (clear hl; omega))
    with_reducible refine X_ret ?_
    with_reducible refine' E_loc (by assumption) ?c1 ?_
    case c1 => exact .t3 .hd
    have XX := S.back hB
    have e7 : (LL ++ [s]).idxOf s = LL.length := by rw [List.idxOf_append, if_neg hm]; simp
    rw [e7, ← hl] at q
    refine q _ _ _ XX ⟨⟨_, _, S.has (by exact .hd), by simp [hl]⟩, ⟨oa', _, S.has (by exact .h1), Da', ?_, ?_⟩, Z.lo, Z.ne, by simp; (clear hl hka e7; omega)⟩
    · rw [stored_absent ((hva s).1 hm)]; simp [hka]
    · intro x
      rw [valueAt_stored]
      by_cases hx : x = s
      · subst hx
        refine ⟨fun h => absurd (by simp) h, fun _ => ⟨t5, by rw [if_pos rfl, e7, hl]⟩⟩
      · rw [if_neg hx]
        refine ⟨fun h => (hva x).1 fun hx => h (by simp [hx]), fun h => ?_⟩
        have hx' : x ∈ LL := by simpa [hx] using h
        rw [List.idxOf_append, if_pos hx']
        exact (hva x).2 hx'
end
end
section
open PySem PySem.W PyProof.Rows PySem.Calls
set_option hygiene false
noncomputable abbrev tkd (V : Vw) := tupleKind (PySem.intKind V.prog V.w)
theorem tk_is {V : Vw} {h : Heap} {a : Addr} {x y : Int} {t u : Tok} (T : Tp h a [.int x t, .int y u]) : (tkd V).is h [x, y] a := by
  obtain ⟨o, e, c, n, d⟩ := T
  exact ⟨o, _, n, e, c, d, .cons isI (.cons isI .nil)⟩
theorem dh_tk {V : Vw} {h h' : Heap} {o : Obj} {xs : List (List Int × Addr × Value)} (D : IsDictH (tkd V) h o xs) (t : Tk h h') : IsDictH (tkd V) h' o xs := by
  obtain ⟨es, ep, a, b, c, d, e⟩ := D
  refine ⟨es, ep, a, b, c, fun x hx => ?_, e⟩
  obtain ⟨o1, its, n, e1, c1, d1, i1⟩ := d x hx
  exact ⟨o1, its, n, t _ _ e1 ⟨c1, _, _, d1⟩, c1, d1, i1⟩
noncomputable abbrev atn (L : List Str) (s : Str) : Int := ((addS L s).idxOf s : Nat)
structure SF (V : Vw) (h : Heap) (fl fn : Addr) (F : List (Int × Int)) : Prop where
  f : PrL h fl F
  d : ∃ od xs, h.get? fn = some od ∧ IsDictH (tkd V) h od xs ∧ xs.length = F.length ∧ ∀ p : Int × Int, (p ∉ F → atKey xs [p.1, p.2] = none) ∧ (p ∈ F → ∃ a t, atKey xs [p.1, p.2] = some (a, .int (F.idxOf p : Nat) t))
  lo : (fn == sysModules) = false
  ne : fl ≠ fn
  sz : F.length ≤ 1000
theorem SF.chg {V : Vw} {h h' : Heap} {fl fn : Addr} {F : List (Int × Int)} {M : List Addr} (Z : SF V h fl fn F) (x : Chg M h h') (n1 : fl ∉ M) (n2 : fn ∉ M) : SF V h' fl fn F :=
  ⟨(by obtain ⟨ts, n, e, l⟩ := Z.f; exact ⟨ts, n, x.same _ _ e n1, l.tk x.tup⟩), (by obtain ⟨oa, ka, e, D, r⟩ := Z.d; exact ⟨oa, ka, x.same _ _ e n2, dh_tk D x.tup, r⟩), Z.lo, Z.ne, Z.sz⟩
theorem atKey_snoc {κ : Type} [DecidableEq κ] (xs : List (κ × Addr × Value)) (k y : κ) (a : Addr) (v : Value) : atKey (xs ++ [(k, a, v)]) y = (atKey xs y).or (if k = y then some (a, v) else none) := by
  unfold atKey
  rw [List.find?_append, Option.map_or]
  congr 1
  by_cases h : k = y <;> simp [h]
noncomputable def addP (F : List (Int × Int)) (p : Int × Int) : List (Int × Int) := if p ∈ F then F else F ++ [p]
section
variable {V : Vw} {B₀ h : Heap} {A : Around} {k : Nat} {Q : Value → Heap → Nat → Prop} {c x y sy hp fl tx an fn : Addr} {tag i : Int} {t u t' u' : Tok} {n : Nat} {F : List (Int × Int)}
set_option maxHeartbeats 4000000 in
theorem functor_ {p : Int × Int} (G : Wd (hd.heap_39 V.w.params) B₀ h) (R : Room A (n + 1)) (Y : Inst B₀ sy 154 (symF tx an fl fn)) (Z : SF V h fl fn F) (f1 : B₀.get? fl = none) (f2 : B₀.get? fn = none) (sz : F.length ≤ 900)
    (q : ∀ h' k' t', Chg [fl, fn] h h' → SF V h' fl fn (addP F p) → Q (.int ((addP F p).idxOf p : Nat) t') h' k') : W V A (call (.ref 102) ([.ref sy] ++ [.int p.1 t, .int p.2 u])) Q h k := by
  obtain ⟨fs, m, ef, pf⟩ := Z.f
  obtain ⟨od, xs, ed, Dd, hxs, hva⟩ := Z.d
  have hl := pf.len
  refine' W_enter (binds := [("self", .ref sy), ("atom", .int p.1 t), ("arity", .int p.2 u)]) G R ?ho ?hcd [(fl, lo fs m), (fn, od)] (by simpa using ⟨⟨ef, f1⟩, ed, f2⟩) (by simpa using Z.ne) ?hb ?he ?nn ?nb ?_ ?hcell ?hco ?hgen ?hk
  case ho => k_is
  case hcd => k_is
  case hb => exact BindsTo.of_eq rfl
  case he => repeat constructor
  case nn => decide
  case nb => decide
  case hcell => decide
  case hco => rfl
  case hgen => rfl
  case hk => rfl
  intro A B L h1 k1 G S hB hB' R
  dsimp only at S
  with_reducible refine X_name ?_
  with_reducible refine E_tuple ?_
  with_reducible refine' S_loc (by assumption) ?c1 ?_
  case c1 => exact .h1
  with_reducible refine' S_locL (by assumption) ?c1 ?_
  case c1 => exact .h2
  with_reducible refine' N_tup (by assumption) ?_
  intro t1 h1 S
  with_reducible refine' N_st (by assumption) ?c1 ?_
  case c1 => exact .t3 .hd
  intro h1 S
  with_reducible refine X_name ?_
  with_reducible refine E_meth ?_
  with_reducible refine' E_at (by assumption) (by assumption) ?c2 ?c3 ?c4 ?c5 ?_ ?c7
  case c2 => exact .hd
  case c3 => assumption
  case c4 => exact .tl (.tl (.tl .hd))
  case c5 => exact fld_functor_numbers
  case c7 => rfl
  have hex : od.ExactDict := (by obtain ⟨_, _, ex, _⟩ := Dd; exact ex)
  have hu : (tkd V).room A.in1 := by have := R.units; show A.units + 1 < cLine; omega
  refine MC_get (S.has (by exact .h2)) hex ?_
  with_reducible refine C_bi ?_
  with_reducible refine' S_loc (by assumption) ?c1 ?_
  case c1 => exact .t3 .hd
  with_reducible refine S_cons ?_
  with_reducible refine E_un ?_
  with_reducible refine E_int ?_
  with_reducible refine i_neg ?_
  with_reducible refine S_nil ?_
  refine C_getH (kd := tkd V) (x := [p.1, p.2]) (S.has (by exact .h2)) (dh_tk Dd S.tup) hu (tk_is (to_tp (S.has (by exact .hd)))) Z.lo ?_
  by_cases hm : p ∈ F
  · obtain ⟨a9, t9, e9⟩ := (hva p).2 hm
    rw [e9]
    have e8 : addP F p = F := if_pos hm
    rw [e8] at q
    dsimp only [Option.map_some, Option.getD_some]
    with_reducible refine' N_st (by assumption) ?c1 ?_
    case c1 => exact .t3 .h1
    intro h1 S
    with_reducible refine X_ifc ?_
    with_reducible refine' E_loc (by assumption) ?c1 ?_
    case c1 => exact .t3 .h1
    with_reducible refine E_int ?_
    with_reducible refine i_ge ?_
    with_reducible refine truthy_b ?_
    refine ⟨fun _ => ?_, fun e => by simp at e⟩
    with_reducible refine X_ret ?_
    with_reducible refine' E_loc (by assumption) ?c1 ?_
    case c1 => exact .t3 .h1
    with_reducible refine Nx_ret ?_
    have XX := S.back hB
    exact q _ _ _ XX ⟨⟨fs, m, S.has (by exact .h1), pf.tk S.tup⟩, ⟨od, xs, S.has (by exact .h2), dh_tk Dd S.tup, hxs, hva⟩, Z.lo, Z.ne, Z.sz⟩
  · rw [(hva p).1 hm]
    have e8 : addP F p = F ++ [p] := if_neg hm
    rw [e8] at q
    dsimp only [Option.map_none, Option.getD_none]
    with_reducible refine' N_st (by assumption) ?c1 ?_
    case c1 => exact .t3 .h1
    intro h1 S
    with_reducible refine X_ifc ?_
    with_reducible refine' E_loc (by assumption) ?c1 ?_
    case c1 => exact .t3 .h1
    with_reducible refine E_int ?_
    with_reducible refine i_ge ?_
    with_reducible refine truthy_b ?_
    refine ⟨fun e => by simp at e, fun _ => ?_⟩
    with_reducible refine X_nn ?_
    with_reducible refine X_name ?_
    with_reducible refine E_call ?_
    with_reducible refine' E_bi (by assumption) (by assumption) ?c2 ?c3 ?c4 ?c5 ?_
    case c2 => exact .tl (.tl (.tl (.tl (.tl (.tl .hd)))))
    case c3 => k_is
    case c4 => boot_by_name
    case c5 => decide
    with_reducible refine C_bi ?_
    with_reducible refine S_cons ?_
    with_reducible refine' E_at (by assumption) (by assumption) ?c2 ?c3 ?c4 ?c5 ?_ ?c7
    case c2 => exact .hd
    case c3 => assumption
    case c4 => exact .tl (.tl .hd)
    case c5 => exact fld_functors
    case c7 => rfl
    with_reducible refine S_nil ?_
    refine C_len (S.has (by exact .h1)) (by (clear hxs; omega)) fun t5 k5 => ?_
    with_reducible refine' N_st (by assumption) ?c1 ?_
    case c1 => exact .t3 .h2
    intro h1 S
    with_reducible refine X_expr ?_
    with_reducible refine E_meth ?_
    with_reducible refine' E_at (by assumption) (by assumption) ?c2 ?c3 ?c4 ?c5 ?_ ?c7
    case c2 => exact .hd
    case c3 => assumption
    case c4 => exact .tl (.tl .hd)
    case c5 => exact fld_functors
    case c7 => rfl
    with_reducible refine' MC_append ?c0 ?_
    case c0 => exact St.has (by assumption) (by exact .h1)
    with_reducible refine C_bi ?_
    with_reducible refine' S_locL (by assumption) ?c1 ?_
    case c1 => exact .t3 .hd
    refine C_append S (by exact .h1) (by exact .tl .hd) (fun h1 S => ?_) (by omega)
    with_reducible refine And_none ?_
    with_reducible refine X_sub ?_
    with_reducible refine' E_loc (by assumption) ?c1 ?_
    case c1 => exact .t3 .h2
    with_reducible refine' E_at (by assumption) (by assumption) ?c2 ?c3 ?c4 ?c5 ?_ ?c7
    case c2 => exact .hd
    case c3 => assumption
    case c4 => exact .tl (.tl (.tl .hd))
    case c5 => exact fld_functor_numbers
    case c7 => rfl
    with_reducible refine' E_loc (by assumption) ?c1 ?_
    case c1 => exact .t3 .hd
    have tkb := S.tup
    refine P_dicH (kd := tkd V) (x := [p.1, p.2]) (σ' := fun o => [(t1, to [.int p.1 t, .int p.2 u]), (fl, lo _ _), (fn, o)]) S (by exact .h2) (dh_tk Dd S.tup) hu (tk_is (to_tp (S.has (by exact .hd)))) (fun _ => by exact .tl (.tl .hd)) (fun od' h1 Dd' _ S => ?_) (by (clear hl; omega))
    with_reducible refine X_ret ?_
    with_reducible refine' E_loc (by assumption) ?c1 ?_
    case c1 => exact .t3 .h2
    have XX := S.back hB
    have e7 : (F ++ [p]).idxOf p = F.length := by rw [List.idxOf_append, if_neg hm]; simp
    rw [e7, ← hl] at q
    refine q _ _ _ XX ⟨⟨_, _, S.has (by exact .h1), (pf.tk S.tup).snoc ⟨t1, _, _, rfl, to_tp (S.has .hd)⟩⟩, ⟨od', _, S.has (by exact .h2), dh_tk Dd' Tk.rfl, ?_, ?_⟩, Z.lo, Z.ne, by simp; (clear hxs hl e7; omega)⟩
    · rw [storedH_new ((hva p).1 hm)]; simp [hxs]
    · intro x
      rw [storedH_new ((hva p).1 hm), atKey_snoc]
      by_cases hx : x = p
      · subst hx
        rw [(hva x).1 hm, e7, ← hl]
        exact ⟨fun h => absurd (by simp) h, fun _ => ⟨t1, t5, by simp⟩⟩
      · have hk : ¬ ([p.1, p.2] = [x.1, x.2]) := fun q => hx (Prod.ext (by injection q with q _; exact q.symm) (by injection q with _ q; injection q with q _; exact q.symm))
        rw [if_neg hk, Option.or_none]
        refine ⟨fun h => (hva x).1 fun hx => h (by simp [hx]), fun h => ?_⟩
        have hx' : x ∈ F := by simpa [hx] using h
        rw [List.idxOf_append, if_pos hx']
        exact (hva x).2 hx'
theorem func_ {LL : List Str} {s : Str} {w : Int} (G : Wd (hd.heap_39 V.w.params) B₀ h) (R : Room A (n + 2)) (Y : Inst B₀ sy 154 (symF tx an fl fn)) (ZA : SA V h tx an LL) (Z : SF V h fl fn F) (f1 : B₀.get? fl = none) (f2 : B₀.get? fn = none) (f3 : B₀.get? tx = none) (f4 : B₀.get? an = none) (sz : F.length ≤ 900) (sz' : LL.length ≤ 900)
    (n1 : fl ≠ tx) (n2 : fl ≠ an) (n3 : fn ≠ tx) (n4 : fn ≠ an)
    (q : ∀ h' k' t', Chg [tx, an, fl, fn] h h' → SA V h' tx an (addS LL s) → SF V h' fl fn (addP F (atn LL s, w)) → Q (.int ((addP F (atn LL s, w)).idxOf (atn LL s, w) : Nat) t') h' k') : W V A (call (.ref 109) ([.ref sy] ++ [.str s t, .int w u])) Q h k := by
  obtain ⟨fs, m, ef, pf⟩ := Z.f
  obtain ⟨od, xs, ed, Dd, hxs, hva⟩ := Z.d
  obtain ⟨ts, m', et, hl⟩ := ZA.t
  obtain ⟨oa, ka, ea, Da, hka, hvb⟩ := ZA.d
  refine' W_enter (binds := [("self", .ref sy), ("text", .str s t), ("arity", .int w u)]) G R ?ho ?hcd [(tx, lo ts m'), (an, oa), (fl, lo fs m), (fn, od)] (by simpa using ⟨⟨et, f3⟩, ⟨ea, f4⟩, ⟨ef, f1⟩, ed, f2⟩) (by simp; exact ⟨⟨ZA.ne, fun h => n1 h.symm, fun h => n3 h.symm⟩, ⟨fun h => n2 h.symm, fun h => n4 h.symm⟩, Z.ne⟩) ?hb ?he ?nn ?nb ?_ ?hcell ?hco ?hgen ?hk
  case ho => k_is
  case hcd => k_is
  case hb => exact BindsTo.of_eq rfl
  case he => repeat constructor
  case nn => decide
  case nb => decide
  case hcell => decide
  case hco => rfl
  case hgen => rfl
  case hk => rfl
  intro A B L h1 k1 G S hB hB' R
  dsimp only at S
  with_reducible refine X_ret ?_
  with_reducible refine' E_mc (by assumption) (by assumption) ?c2 ?c3 ?c4 ?c5 ?_ ?c7
  case c2 => exact .hd
  case c3 => assumption
  case c4 => exact mth_functor
  case c5 => k_is
  case c7 => rfl
  with_reducible refine S_cons ?_
  with_reducible refine' E_mc (by assumption) (by assumption) ?c2 ?c3 ?c4 ?c5 ?_ ?c7
  case c2 => exact .hd
  case c3 => assumption
  case c4 => exact mth_atom
  case c5 => k_is
  case c7 => rfl
  with_reducible refine' S_locL (by assumption) ?c1 ?_
  case c1 => exact .h1
  with_reducible refine' Krf_go (by assumption) (by assumption) ?_
  refine atom_ (G.st S) R Y ⟨⟨ts, m', S.has (by exact .hd), hl⟩, ⟨oa, ka, S.has (by exact .h1), Da, hka, hvb⟩, ZA.lo, ZA.ne, ZA.sz⟩ f3 f4 sz' fun h1 k1 ta x1 ZA' => ?_
  obtain ⟨ts2, m2, et2, -⟩ := ZA'.t
  obtain ⟨oa2, ka2, ea2, -⟩ := ZA'.d
  replace S := S.chgL (ups := [(tx, lo ts2 m2), (an, oa2)]) x1 (.cons .hd (.cons (.tl .hd) .nil)) (by simpa using ⟨et2, ea2⟩)
  with_reducible refine' S_locL (by assumption) ?c1 ?_
  case c1 => exact .h2
  with_reducible refine' Krf_go (by assumption) (by assumption) ?_
  refine functor_ (p := (atn LL s, w)) (G.st S) R Y ⟨⟨fs, m, S.has (by exact .h2), pf.tk S.tup⟩, ⟨od, xs, S.has (by exact .t3 .hd), dh_tk Dd S.tup, hxs, hva⟩, Z.lo, Z.ne, Z.sz⟩ f1 f2 sz fun h1 k1 tf x2 Z' => ?_
  obtain ⟨fs2, m3, ef2, -⟩ := Z'.f
  obtain ⟨od2, xs2, ed2, -⟩ := Z'.d
  have ZA2 := ZA'.chg x2 (by simp; exact ⟨fun h => n1 h.symm, fun h => n3 h.symm⟩) (by simp; exact ⟨fun h => n2 h.symm, fun h => n4 h.symm⟩)
  replace S := S.chgL (ups := [(fl, lo fs2 m3), (fn, od2)]) x2 (.cons (.tl (.tl .hd)) (.cons (.tl (.tl (.tl .hd))) .nil)) (by simpa using ⟨ef2, ed2⟩)
  exact q _ _ _ (S.back hB) ZA2 Z'
end
end
section
open PySem PySem.W PyProof.Rows PySem.Calls
set_option hygiene false
theorem i_ifloor {V : Vw} {A : Around} {h : Heap} {k : Nat} {a b : Int} {t u : Tok} {Q : Value → Heap → Nat → Prop} (q : Q (.int (a.fdiv b) k) h (k + 1)) (hb : b ≠ 0) (hs : b.natAbs < 1073741824) : W V A (inplaceOp .FloorDiv (.int a t) (.int b u)) Q h k :=
  PyProof.Rows.ifloordiv_int hb (Pst.mk q) (.inl (PyProof.noPylong_small hs))
structure Urn (h : Heap) (ur sl : Addr) : Prop where
  g : ∃ u t p t' m, h.get? ur = some (lo [.int u t, .ref sl, .int p t'] m) ∧ 0 ≤ u ∧ 0 ≤ p ∧ p ≤ 63
  s : ∃ ss n, h.get? sl = some (lo ss n) ∧ ss.length ≤ 63 ∧ ∀ v ∈ ss, ∃ i t, v = .int i t
  ne : sl ≠ ur
theorem Urn.chg {h h' : Heap} {ur sl : Addr} {M : List Addr} (U : Urn h ur sl) (x : Chg M h h') (n1 : ur ∉ M) (n2 : sl ∉ M) : Urn h' ur sl :=
  ⟨(by obtain ⟨u, t, p, t', m, e, r⟩ := U.g; exact ⟨u, t, p, t', m, x.same _ _ e n1, r⟩), (by obtain ⟨ss, n, e, r⟩ := U.s; exact ⟨ss, n, x.same _ _ e n2, r⟩), U.ne⟩
section
variable {V : Vw} {B₀ h : Heap} {A : Around} {k : Nat} {Q : Value → Heap → Nat → Prop} {ur sl : Addr} {t u t' u' : Tok} {n : Nat}
set_option maxHeartbeats 4000000 in
theorem pick_ {f : Int} (G : Wd (hd.heap_39 V.w.params) B₀ h) (R : Room A (n + 1)) (U : Urn h ur sl) (fr : B₀.get? ur = none) (f0 : 0 < f) (f1 : f < 1000)
    (q : ∀ h' k' r t', Chg [ur] h h' → Urn h' ur sl → 0 ≤ r → r < f → Q (.int r t') h' k') : W V A (call (.ref 452) ([] ++ [.ref ur, .int f t])) Q h k := by
  obtain ⟨u0, t0, p0, t1, m, eu, hu0, hp0, hp1⟩ := U.g
  obtain ⟨ss, sn, es, hsl, hss⟩ := U.s
  refine' W_enter (binds := [("urn", .ref ur), ("faces", .int f t)]) G R ?ho ?hcd [(ur, lo [.int u0 t0, .ref sl, .int p0 t1] m)] (by simpa using ⟨eu, fr⟩) (by simp) ?hb ?he ?nn ?nb ?_ ?hcell ?hco ?hgen ?hk
  case ho => k_is
  case hcd => k_is
  case hb => exact BindsTo.of_eq rfl
  case he => repeat constructor
  case nn => decide
  case nb => decide
  case hcell => decide
  case hco => rfl
  case hgen => rfl
  case hk => rfl
  intro A B L h1 k1 G S hB hB' R
  dsimp only at S
  have es' : B.get? sl = some (lo ss sn) := hB _ _ es (by simpa using U.ne)
  refine X_if (W.mono (Q := fun b h' _ => (b = true → p0 < ss.length) ∧ Chg [] h1 h') ?_ ?_)
  · with_reducible refine T_bool ?_
    with_reducible refine T_and ?_
    with_reducible refine T_cmp ?_
    with_reducible refine E_sub ?_
    with_reducible refine' E_loc (by assumption) ?c1 ?_
    case c1 => exact .hd
    with_reducible refine E_int ?_
    refine I_lst (S.has .hd) ?_ (x := .int u0 t0) rfl (by decide) (by decide) (by with_unfolding_all rfl)
    with_reducible refine E_int ?_
    with_reducible refine q_ie ?_
    refine ⟨fun e1 => ?_, fun e1 => ⟨fun h => by simp at h, .rfl⟩⟩
    with_reducible refine T_and ?_
    with_reducible refine T_cmp ?_
    with_reducible refine E_sub ?_
    with_reducible refine' E_loc (by assumption) ?c1 ?_
    case c1 => exact .hd
    with_reducible refine E_int ?_
    refine I_lst (S.has .hd) ?_ (x := .int p0 t1) rfl (by decide) (by decide) (by with_unfolding_all rfl)
    with_reducible refine E_call ?_
    with_reducible refine' E_bi (by assumption) (by assumption) ?c2 ?c3 ?c4 ?c5 ?_
    case c2 => exact .tl (.tl (.tl .hd))
    case c3 => k_is
    case c4 => boot_by_name
    case c5 => decide
    with_reducible refine C_bi ?_
    with_reducible refine S_cons ?_
    with_reducible refine E_sub ?_
    with_reducible refine' E_loc (by assumption) ?c1 ?_
    case c1 => exact .hd
    with_reducible refine E_int ?_
    refine I_lst (S.has .hd) ?_ (x := .ref sl) rfl (by decide) (by decide) (by with_unfolding_all rfl)
    with_reducible refine S_nil ?_
    refine C_len (S.base _ _ es') (by omega) fun t5 k5 => ?_
    with_reducible refine i_lt ?_
    with_reducible refine truthy_b ?_
    refine ⟨fun e2 => ?_, fun e2 => ⟨fun h => by simp at h, .rfl⟩⟩
    with_reducible refine T_andN ?_
    exact ⟨fun _ => by simpa using e2, .rfl⟩
  rintro b h1 k1 ⟨hb9, x3⟩
  replace S := S.call0 x3
  refine ⟨fun e0 => ?_, fun e0 => ?_⟩
  · have hlt := hb9 e0
    have hp2 : p0.toNat < ss.length := by (clear hp1 hsl; omega)
    obtain ⟨i9, t9, e9⟩ := hss _ (List.getElem_mem hp2)
    have hx : ss[p0.toNat]? = some (.int i9 t9) := by rw [List.getElem?_eq_getElem hp2, e9]
    with_reducible refine X_sub ?_
    with_reducible refine E_call ?_
    with_reducible refine' E_bi (by assumption) (by assumption) ?c2 ?c3 ?c4 ?c5 ?_
    case c2 => exact .tl (.tl (.tl (.tl .hd)))
    case c3 => k_is
    case c4 => boot_by_name
    case c5 => decide
    with_reducible refine C_bi ?_
    with_reducible refine S_cons ?_
    with_reducible refine E_call ?_
    with_reducible refine' E_bi (by assumption) (by assumption) ?c2 ?c3 ?c4 ?c5 ?_
    case c2 => exact .tl (.tl (.tl (.tl (.tl .hd))))
    case c3 => k_is
    case c4 => boot_by_name
    case c5 => decide
    with_reducible refine C_ty ?_
    with_reducible refine S_cons ?_
    with_reducible refine E_sub ?_
    with_reducible refine E_sub ?_
    with_reducible refine' E_loc (by assumption) ?c1 ?_
    case c1 => exact .hd
    with_reducible refine E_int ?_
    refine I_lst (S.has .hd) ?_ (x := .ref sl) rfl (by decide) (by decide) (by with_unfolding_all rfl)
    with_reducible refine E_sub ?_
    with_reducible refine' E_loc (by assumption) ?c1 ?_
    case c1 => exact .hd
    with_reducible refine E_int ?_
    refine I_lst (S.has .hd) ?_ (x := .int p0 t1) rfl (by decide) (by decide) (by with_unfolding_all rfl)
    refine I_lst (S.base _ _ es') ?_ hx (by assumption) (by (clear hp0; omega)) (by with_unfolding_all rfl)
    with_reducible refine S_nil ?_
    refine C_int ?_
    with_reducible refine S_nil ?_
    refine C_abs fun t5 k5 => ?_
    with_reducible refine' E_loc (by assumption) ?c1 ?_
    case c1 => exact .hd
    with_reducible refine E_int ?_
    refine P_lst S .hd .hd (fun h1 S => ?_) (by decide) (by decide) (by simp)
    with_reducible refine X_augSub ?_
    with_reducible refine' E_loc (by assumption) ?c1 ?_
    case c1 => exact .hd
    with_reducible refine E_int ?_
    refine G_lst (x := .int p0 t1) (S.has .hd) ?_ rfl (by decide) (by decide)
    with_reducible refine E_int ?_
    with_reducible refine i_iadd ?_
    refine P_lst S .hd .hd (fun h1 S => ?_) (by decide) (by decide) (by simp)
    have ha : 0 ≤ (if i9 < 0 then -i9 else i9) := by split <;> omega
    generalize (if i9 < 0 then -i9 else i9) = ua at *
    with_reducible refine X_nn ?_
    with_reducible refine X_name ?_
    with_reducible refine E_bin ?_
    with_reducible refine E_sub ?_
    with_reducible refine' E_loc (by assumption) ?c1 ?_
    case c1 => exact .hd
    with_reducible refine E_int ?_
    refine I_lst (S.has .hd) ?_ (x := .int ua _) rfl (by decide) (by decide) (by with_unfolding_all rfl)
    with_reducible refine' E_loc (by assumption) ?c1 ?_
    case c1 => exact .h1
    refine i_mod ?_ (by (clear f1; omega))
    with_reducible refine' N_st (by assumption) ?c1 ?_
    case c1 => exact .h2
    intro h1 S
    with_reducible refine X_augSub ?_
    with_reducible refine' E_loc (by assumption) ?c1 ?_
    case c1 => exact .hd
    with_reducible refine E_int ?_
    refine G_lst (x := .int ua _) (S.has .hd) ?_ rfl (by decide) (by decide)
    with_reducible refine' E_loc (by assumption) ?c1 ?_
    case c1 => exact .h1
    refine i_ifloor ?_ (by omega) (by omega)
    refine P_lst S .hd .hd (fun h1 S => ?_) (by decide) (by decide) (by simp)
    with_reducible refine X_ret ?_
    with_reducible refine' E_loc (by assumption) ?c1 ?_
    case c1 => exact .h2
    have XX := S.back hB
    have hr := Int.fmod_nonneg_of_pos ua f0
    refine q _ _ _ _ XX ⟨⟨_, _, _, _, _, S.has .hd, ?_, ?_, ?_⟩, ⟨ss, sn, S.base _ _ es', hsl, hss⟩, U.ne⟩ hr (Int.fmod_lt_of_pos _ f0)
    · exact Int.fdiv_nonneg ha (by exact Int.le_of_lt (by assumption))
    · (clear hp1; omega)
    · (clear hp0 hp1; omega)
  · with_reducible refine X_nn ?_
    with_reducible refine X_name ?_
    with_reducible refine E_bin ?_
    with_reducible refine E_sub ?_
    with_reducible refine' E_loc (by assumption) ?c1 ?_
    case c1 => exact .hd
    with_reducible refine E_int ?_
    refine I_lst (S.has .hd) ?_ (x := .int u0 _) rfl (by decide) (by decide) (by with_unfolding_all rfl)
    with_reducible refine' E_loc (by assumption) ?c1 ?_
    case c1 => exact .h1
    refine i_mod ?_ (by (clear f1; omega))
    with_reducible refine' N_st (by assumption) ?c1 ?_
    case c1 => exact .h2
    intro h1 S
    with_reducible refine X_augSub ?_
    with_reducible refine' E_loc (by assumption) ?c1 ?_
    case c1 => exact .hd
    with_reducible refine E_int ?_
    refine G_lst (x := .int u0 _) (S.has .hd) ?_ rfl (by decide) (by decide)
    with_reducible refine' E_loc (by assumption) ?c1 ?_
    case c1 => exact .h1
    refine i_ifloor ?_ (by omega) (by omega)
    refine P_lst S .hd .hd (fun h1 S => ?_) (by decide) (by decide) (by simp)
    with_reducible refine X_ret ?_
    with_reducible refine' E_loc (by assumption) ?c1 ?_
    case c1 => exact .h2
    have XX := S.back hB
    have hr := Int.fmod_nonneg_of_pos u0 f0
    refine q _ _ _ _ XX ⟨⟨_, _, _, _, _, S.has .hd, ?_, ?_, ?_⟩, ⟨ss, sn, S.base _ _ es', hsl, hss⟩, U.ne⟩ hr (Int.fmod_lt_of_pos _ f0)
    · exact Int.fdiv_nonneg hu0 (by exact Int.le_of_lt (by assumption))
    · assumption
    · assumption
end
end
section
open PySem PySem.W PyProof.Rows PySem.Calls
set_option hygiene false
structure Bk (V : Vw) (h : Heap) (ur sl tx an fl fn : Addr) (LL : List Str) (F : List (Int × Int)) : Prop where
  u : Urn h ur sl
  a : SA V h tx an LL
  f : SF V h fl fn F
  nd : [ur, tx, an, fl, fn].Nodup ∧ sl ∉ [ur, tx, an, fl, fn]
  z : ∃ a, F[0]? = some (a, 2)
theorem Bk.objs {V : Vw} {h : Heap} {ur sl tx an fl fn : Addr} {LL : List Str} {F : List (Int × Int)} (Z : Bk V h ur sl tx an fl fn LL F) : ∃ o1 o2 o3 o4 o5, h.get? ur = some o1 ∧ h.get? tx = some o2 ∧ h.get? an = some o3 ∧ h.get? fl = some o4 ∧ h.get? fn = some o5 := by
  obtain ⟨_, _, _, _, _, e1, -⟩ := Z.u.g
  obtain ⟨_, _, e2, -⟩ := Z.a.t
  obtain ⟨_, _, e3, -⟩ := Z.a.d
  obtain ⟨_, _, e4, -⟩ := Z.f.f
  obtain ⟨_, _, e5, -⟩ := Z.f.d
  exact ⟨_, _, _, _, _, e1, e2, e3, e4, e5⟩
theorem Bk.chg {V : Vw} {h h' : Heap} {ur sl tx an fl fn : Addr} {LL : List Str} {F : List (Int × Int)} {M : List Addr} (Z : Bk V h ur sl tx an fl fn LL F) (x : Chg M h h') (n : ∀ a ∈ [sl, ur, tx, an, fl, fn], a ∉ M) : Bk V h' ur sl tx an fl fn LL F :=
  ⟨Z.u.chg x (n _ (by exact .tail _ (.head _))) (n _ (by exact .head _)), Z.a.chg x (n _ (by exact .tail _ (.tail _ (.head _)))) (n _ (by exact .tail _ (.tail _ (.tail _ (.head _))))), Z.f.chg x (n _ (by exact .tail _ (.tail _ (.tail _ (.tail _ (.head _)))))) (n _ (by exact .tail _ (.tail _ (.tail _ (.tail _ (.tail _ (.head _))))))), Z.nd, Z.z⟩
theorem S5.go {V : Vw} {B P h h' : Heap} {L : Addr} {ns : List (Str × NameKind)} {vs : List (Option Value)} {o1 o2 o3 o4 o5 : Obj} {ur sl tx an fl fn : Addr} {LL : List Str} {F : List (Int × Int)} {σ : List (Addr × Obj)}
    (S : St B P L ns vs ((ur, o1) :: (tx, o2) :: (an, o3) :: (fl, o4) :: (fn, o5) :: σ) h) (x : Chg [ur, tx, an, fl, fn] h h') (Z : Bk V h' ur sl tx an fl fn LL F) :
    St B P L ns vs ((ur, obAt h' ur) :: (tx, obAt h' tx) :: (an, obAt h' an) :: (fl, obAt h' fl) :: (fn, obAt h' fn) :: σ) h' := by
  obtain ⟨p1, p2, p3, p4, p5, e1, e2, e3, e4, e5⟩ := Z.objs
  exact S.chgL (ups := [(ur, _), (tx, _), (an, _), (fl, _), (fn, _)]) x (.cons .hd (.cons (.tl .hd) (.cons (.tl (.tl .hd)) (.cons (.tl (.tl (.tl .hd))) (.cons (.tl (.tl (.tl (.tl .hd)))) .nil))))) (m5 (obAt_eq ⟨_, e1⟩) (obAt_eq ⟨_, e2⟩) (obAt_eq ⟨_, e3⟩) (obAt_eq ⟨_, e4⟩) (obAt_eq ⟨_, e5⟩))
section
variable {V : Vw} {B₀ h : Heap} {A : Around} {k : Nat} {Q : Value → Heap → Nat → Prop} {ur sl tx an fl fn sy : Addr} {t u t' u' : Tok} {n : Nat} {LL : List Str} {F : List (Int × Int)}
theorem pickB_ {f : Int} (G : Wd (hd.heap_39 V.w.params) B₀ h) (R : Room A (n + 1)) (Z : Bk V h ur sl tx an fl fn LL F) (fr : ∀ a ∈ [ur, tx, an, fl, fn], B₀.get? a = none) (f0 : 0 < f) (f1 : f < 1000)
    (q : ∀ h' k' r t', Chg [ur, tx, an, fl, fn] h h' → Bk V h' ur sl tx an fl fn LL F → 0 ≤ r → r < f → Q (.int r t') h' k') : W V A (call (.ref 452) ([] ++ [.ref ur, .int f t])) Q h k := by
  have nd := Z.nd.1
  exact pick_ G R Z.u (fr _ (.head _)) f0 f1 fun h' k' r t' x U r0 r1 => q h' k' r t' (x.mono (m1 (List.Mem.head _))) ⟨U, Z.a.chg x (n1 (nd_at nd 1 0 rfl rfl (by decide))) (n1 (nd_at nd 2 0 rfl rfl (by decide))), Z.f.chg x (n1 (nd_at nd 3 0 rfl rfl (by decide))) (n1 (nd_at nd 4 0 rfl rfl (by decide))), Z.nd, Z.z⟩ r0 r1
theorem atomB_ {s : Str} (G : Wd (hd.heap_39 V.w.params) B₀ h) (R : Room A (n + 1)) (Y : Inst B₀ sy 154 (symF tx an fl fn)) (Z : Bk V h ur sl tx an fl fn LL F) (fr : ∀ a ∈ [ur, tx, an, fl, fn], B₀.get? a = none) (sz : LL.length ≤ 900)
    (q : ∀ h' k' t', Chg [ur, tx, an, fl, fn] h h' → Bk V h' ur sl tx an fl fn (addS LL s) F → Q (.int (atn LL s) t') h' k') : W V A (call (.ref 88) ([.ref sy] ++ [.str s t])) Q h k := by
  have nd := Z.nd.1
  exact atom_ G R Y Z.a (fr _ (by exact .tail _ (.head _))) (fr _ (by exact .tail _ (.tail _ (.head _)))) sz fun h' k' t' x A' => q h' k' t' (x.mono (m2 (p := fun a => a ∈ [ur, tx, an, fl, fn]) (by exact .tail _ (.head _)) (by exact .tail _ (.tail _ (.head _)))))
    ⟨Z.u.chg x (n2 (nd_at nd 0 1 rfl rfl (by decide)) (nd_at nd 0 2 rfl rfl (by decide))) (n2 (fun e => Z.nd.2 (by rw [e]; exact .tail _ (.head _))) (fun e => Z.nd.2 (by rw [e]; exact .tail _ (.tail _ (.head _))))), A',
      Z.f.chg x (n2 (nd_at nd 3 1 rfl rfl (by decide)) (nd_at nd 3 2 rfl rfl (by decide))) (n2 (nd_at nd 4 1 rfl rfl (by decide)) (nd_at nd 4 2 rfl rfl (by decide))), Z.nd, Z.z⟩
theorem add_ext {F : List (Int × Int)} {p : Int × Int} : ∀ j, j < F.length → (addP F p)[j]? = F[j]? := by
  intro j hj
  unfold addP
  split
  · rfl
  · rw [List.getElem?_append_left hj]
theorem add_len {F : List (Int × Int)} {p : Int × Int} : F.length ≤ (addP F p).length ∧ (addP F p).length ≤ F.length + 1 := by unfold addP; split <;> simp
theorem adds_len {F : List Str} {p : Str} : (addS F p).length ≤ F.length + 1 := by unfold addS; split <;> simp
theorem add_at {F : List (Int × Int)} {p : Int × Int} : (addP F p)[(addP F p).idxOf p]? = some p := by
  have hm : p ∈ addP F p := by unfold addP; split <;> simp_all
  rw [List.getElem?_eq_getElem (List.idxOf_lt_length_of_mem hm), List.getElem_idxOf]
theorem funcB_ {s : Str} {w : Int} (G : Wd (hd.heap_39 V.w.params) B₀ h) (R : Room A (n + 2)) (Y : Inst B₀ sy 154 (symF tx an fl fn)) (Z : Bk V h ur sl tx an fl fn LL F) (fr : ∀ a ∈ [ur, tx, an, fl, fn], B₀.get? a = none) (sz : F.length ≤ 900) (sz' : LL.length ≤ 900)
    (q : ∀ h' k' t' F' f, Chg [ur, tx, an, fl, fn] h h' → Bk V h' ur sl tx an fl fn (addS LL s) F' → (∀ j, j < F.length → F'[j]? = F[j]?) → F.length ≤ F'.length → F'.length ≤ F.length + 1 → 0 ≤ f → f < 2 ^ 60 → (∃ a, F'[f.toNat]? = some (a, w)) → Q (.int f t') h' k') : W V A (call (.ref 109) ([.ref sy] ++ [.str s t, .int w u])) Q h k := by
  have nd := Z.nd.1
  refine func_ G R Y Z.a Z.f (fr _ (by exact .tail _ (.tail _ (.tail _ (.head _))))) (fr _ (by exact .tail _ (.tail _ (.tail _ (.tail _ (.head _)))))) (fr _ (by exact .tail _ (.head _))) (fr _ (by exact .tail _ (.tail _ (.head _)))) sz sz' (nd_at nd 3 1 rfl rfl (by decide)) (nd_at nd 3 2 rfl rfl (by decide)) (nd_at nd 4 1 rfl rfl (by decide)) (nd_at nd 4 2 rfl rfl (by decide)) fun h' k' t' x A' F' => ?_
  have hl := add_len (F := F) (p := (atn LL s, w))
  have hat := add_at (F := F) (p := (atn LL s, w))
  have hlt := some_lt hat
  obtain ⟨a0, ha0⟩ := Z.z
  refine q h' k' t' _ _ (x.mono fun a ha => .tail _ ha) ⟨Z.u.chg x ?_ ?_, A', F', Z.nd, ⟨a0, (add_ext 0 (some_lt ha0)).trans ha0⟩⟩ add_ext hl.1 hl.2 (by exact Int.natCast_nonneg _) (by omega) ⟨_, by rw [Int.toNat_natCast]; exact hat⟩
  · exact n4 (nd_at nd 0 1 rfl rfl (by decide)) (nd_at nd 0 2 rfl rfl (by decide)) (nd_at nd 0 3 rfl rfl (by decide)) (nd_at nd 0 4 rfl rfl (by decide))
  · exact fun hm => Z.nd.2 (.tail _ hm)
theorem St.all {B P h h1 : Heap} {L : Addr} {ns : List (Str × NameKind)} {vs : List (Option Value)} {σ : List (Addr × Obj)} (S : St B P L ns vs σ h1) (hσ : ∀ p ∈ σ, h.get? p.1 = some p.2) (hB : ∀ b o, h.get? b = some o → b ∉ σ.map (·.1) → B.get? b = some o) : Chg [] h h1 := by
  have g : ∀ b o, h.get? b = some o → h1.get? b = some o := fun b o e => by
    by_cases hb : b ∈ σ.map (·.1)
    · obtain ⟨p, hp, rfl⟩ := List.mem_map.mp hb
      have := hσ p hp
      rw [e] at this; cases this
      exact (S.led p hp).1
    · exact S.base _ _ (hB b o e hb)
  exact ⟨fun b o e _ => g b o e, fun b o e _ => g b o e⟩
theorem Bk.mv {V : Vw} {h h' : Heap} {ur sl tx an fl fn : Addr} {LL : List Str} {F : List (Int × Int)} (Z : Bk V h ur sl tx an fl fn LL F) (g : ∀ a ∈ [sl, ur, tx, an, fl, fn], ∀ o, h.get? a = some o → h'.get? a = some o) (t : Tk h h') : Bk V h' ur sl tx an fl fn LL F :=
  ⟨⟨(by obtain ⟨u, x, p, y, m, e, r⟩ := Z.u.g; exact ⟨u, x, p, y, m, g _ (by exact .tail _ (.head _)) _ e, r⟩), (by obtain ⟨ss, n, e, r⟩ := Z.u.s; exact ⟨ss, n, g _ (by exact .head _) _ e, r⟩), Z.u.ne⟩,
   ⟨(by obtain ⟨ts, n, e, r⟩ := Z.a.t; exact ⟨ts, n, g _ (by exact .tail _ (.tail _ (.head _))) _ e, r⟩), (by obtain ⟨oa, ka, e, r⟩ := Z.a.d; exact ⟨oa, ka, g _ (by exact .tail _ (.tail _ (.tail _ (.head _)))) _ e, r⟩), Z.a.lo, Z.a.ne, Z.a.sz⟩,
   ⟨(by obtain ⟨fs, n, e, r⟩ := Z.f.f; exact ⟨fs, n, g _ (by exact .tail _ (.tail _ (.tail _ (.tail _ (.head _))))) _ e, r.tk t⟩), (by obtain ⟨od, xs, e, D, r⟩ := Z.f.d; exact ⟨od, xs, g _ (by exact .tail _ (.tail _ (.tail _ (.tail _ (.tail _ (.head _)))))) _ e, dh_tk D t, r⟩), Z.f.lo, Z.f.ne, Z.f.sz⟩, Z.nd, Z.z⟩
theorem Bk.st {V : Vw} {B P h h' : Heap} {L L' : Addr} {ns ns' : List (Str × NameKind)} {vs vs' : List (Option Value)} {σ σ' : List (Addr × Obj)} {ur sl tx an fl fn : Addr} {LL : List Str} {F : List (Int × Int)} {o1 o2 o3 o4 o5 : Obj} (Z : Bk V h ur sl tx an fl fn LL F)
    (S : St B P L ns vs ((ur, o1) :: (tx, o2) :: (an, o3) :: (fl, o4) :: (fn, o5) :: σ) h) (S' : St B h L' ns' vs' (σ' ++ (ur, o1) :: (tx, o2) :: (an, o3) :: (fl, o4) :: (fn, o5) :: σ) h') (es : ∃ o, B.get? sl = some o) : Bk V h' ur sl tx an fl fn LL F := by
  refine Z.mv (fun a ha o e => ?_) S'.tup
  have key : ∀ p ∈ ((ur, o1) :: (tx, o2) :: (an, o3) :: (fl, o4) :: (fn, o5) :: σ), h.get? p.1 = some o → p.1 = a → h'.get? a = some o := fun p hp e hq => by
    have h1 := (S.led p hp).1
    rw [e] at h1; cases h1
    rw [← hq]; exact (S'.led p (List.mem_append_right _ hp)).1
  simp only [List.mem_cons, List.not_mem_nil, or_false] at ha
  rcases ha with rfl | rfl | rfl | rfl | rfl | rfl
  · obtain ⟨o9, e9⟩ := es
    have := S.base _ _ e9
    rw [e] at this; cases this
    exact S'.base _ _ e9
  · exact key (a, o1) (by exact .head _) e rfl
  · exact key (a, o2) (by exact .tail _ (.head _)) e rfl
  · exact key (a, o3) (by exact .tail _ (.tail _ (.head _))) e rfl
  · exact key (a, o4) (by exact .tail _ (.tail _ (.tail _ (.head _)))) e rfl
  · exact key (a, o5) (by exact .tail _ (.tail _ (.tail _ (.tail _ (.head _))))) e rfl
theorem TrF.ext {F F' : List (Int × Int)} : ∀ {t : Tr}, TrF F t → (∀ j, j < F.length → F'[j]? = F[j]?) → TrF F' t
  | .v _, _, _ => trivial
  | .a _, _, _ => trivial
  | .i _, _, _ => trivial
  | .s1 _ _, ⟨a, b, ⟨c, d⟩, e⟩, x => ⟨a, b, ⟨c, (x _ (some_lt d)).trans d⟩, TrF.ext e x⟩
  | .s2 _ _ _, ⟨a, b, ⟨c, d⟩, e, f⟩, x => ⟨a, b, ⟨c, (x _ (some_lt d)).trans d⟩, TrF.ext e x, TrF.ext f x⟩
set_option maxHeartbeats 4000000 in
theorem tree_ (Y : Inst B₀ sy 154 (symF tx an fl fn)) (fr : ∀ a ∈ [ur, tx, an, fl, fn], B₀.get? a = none) : ∀ (d : Nat) {A : Around} {h : Heap} {k : Nat} {Q : Value → Heap → Nat → Prop} {t : Tok} {LL : List Str} {F : List (Int × Int)} (G : Wd (hd.heap_39 V.w.params) B₀ h) (R : Room A (n + d + 3)) (Z : Bk V h ur sl tx an fl fn LL F) (hd2 : d ≤ 2) (s1 : LL.length + 2 ^ (d + 1) ≤ 820) (s2 : F.length + 2 ^ (d + 1) ≤ 820)
    (q : ∀ h' k' v T LL' F', Chg [ur, tx, an, fl, fn] h h' → Bk V h' ur sl tx an fl fn LL' F' → (∀ j, j < F.length → F'[j]? = F[j]?) → F.length ≤ F'.length → F'.length ≤ F.length + T.sz → LL'.length ≤ LL.length + T.sz → Rd h' v (enc T) → T.ok → TrF F' T → T.sz + 1 ≤ 2 ^ (d + 1) → Q v h' k'),
    W V A (call (.ref 459) ([] ++ [.ref ur, .ref sy, .int d t])) Q h k := by
  intro d
  induction d using Nat.strongRecOn with
  | ind d ih =>
  intro A h k Q t LL F G R Z hd2 s1 s2 q
  obtain ⟨o1, o2, o3, o4, o5, e1, e2, e3, e4, e5⟩ := Z.objs
  refine' W_enter (binds := [("urn", .ref ur), ("book", .ref sy), ("deep", .int d t)]) G R ?ho ?hcd [(ur, o1), (tx, o2), (an, o3), (fl, o4), (fn, o5)] (by simp; exact ⟨⟨e1, fr _ (by simp)⟩, ⟨e2, fr _ (by simp)⟩, ⟨e3, fr _ (by simp)⟩, ⟨e4, fr _ (by simp)⟩, e5, fr _ (by simp)⟩) (by simpa using Z.nd.1) ?hb ?he ?nn ?nb ?_ ?hcell ?hco ?hgen ?hk
  case ho => k_is
  case hcd => k_is
  case hb => exact BindsTo.of_eq rfl
  case he => repeat constructor
  case nn => decide
  case nb => decide
  case hcell => decide
  case hco => rfl
  case hgen => rfl
  case hk => rfl
  intro A B L h1 k1 G S hB hB' R
  dsimp only at S
  have hq1 := Nat.one_le_two_pow (n := d)
  have hq2 := Nat.one_le_two_pow (n := d - 1)
  have esl : ∃ o, B.get? sl = some o := by
    obtain ⟨ss, sn, es, -⟩ := Z.u.s
    exact ⟨_, hB _ _ es (by simpa using Z.nd.2)⟩
  refine X_name (W.mono (Q := fun v h' _ => ∃ w t, v = .int w t ∧ 0 ≤ w ∧ w ≤ 5 ∧ (d = 0 → 3 ≤ w) ∧ Chg [ur, tx, an, fl, fn] h1 h' ∧ Bk V h' ur sl tx an fl fn LL F) ?_ ?_)
  · have Z1 : Bk V h1 ur sl tx an fl fn LL F := Z.chg (S.all (by simp; exact ⟨e1, e2, e3, e4, e5⟩) hB) (by simp)
    with_reducible refine E_if ?_
    with_reducible refine T_cmp ?_
    with_reducible refine' E_loc (by assumption) ?c1 ?_
    case c1 => exact .h2
    with_reducible refine E_int ?_
    with_reducible refine i_gt ?_
    with_reducible refine truthy_b ?_
    refine ⟨fun c => ?_, fun c => ?_⟩
    · with_reducible refine' E_cg (by assumption) (by assumption) ?c2 ?c3 ?c4 ?_
      case c2 => exact .tl (.tl (.tl (.tl (.tl .hd))))
      case c3 => k_is
      case c4 => k_is
      with_reducible refine' S_loc (by assumption) ?c1 ?_
      case c1 => exact .hd
      with_reducible refine S_cons ?_
      with_reducible refine E_int ?_
      with_reducible refine S_nil ?_
      with_reducible refine' Krf_go (by assumption) (by assumption) ?_
      refine pickB_ (G.st S) R Z1 fr (by decide) (by decide) fun h2 k2 r t9 x Z2 r0 r1 => ?_
      exact ⟨r, t9, rfl, r0, by (clear r0; omega), fun h => by simp [h] at c, x, Z2⟩
    · with_reducible refine E_bin ?_
      with_reducible refine E_int ?_
      with_reducible refine' E_cg (by assumption) (by assumption) ?c2 ?c3 ?c4 ?_
      case c2 => exact .tl (.tl (.tl (.tl (.tl .hd))))
      case c3 => k_is
      case c4 => k_is
      with_reducible refine' S_loc (by assumption) ?c1 ?_
      case c1 => exact .hd
      with_reducible refine S_cons ?_
      with_reducible refine E_int ?_
      with_reducible refine S_nil ?_
      with_reducible refine' Krf_go (by assumption) (by assumption) ?_
      refine pickB_ (G.st S) R Z1 fr (by decide) (by decide) fun h2 k2 r t9 x Z2 r0 r1 => ?_
      with_reducible refine i_add ?_
      exact ⟨_, _, rfl, by (clear r1; omega), by (clear r0; omega), fun _ => by (clear r1; omega), x, Z2⟩
  rintro v h2 k2 ⟨w, tw, rfl, w0, w5, wd, x, Z2⟩
  replace S := S5.go S x Z2
  have tkh := S.tup
  replace S := S.pool
  have S0 := S
  with_reducible refine' N_st (by assumption) ?c1 ?_
  case c1 => exact .t3 .hd
  intro h1 S
  with_reducible refine X_ifc ?_
  with_reducible refine' E_loc (by assumption) ?c1 ?_
  case c1 => exact .t3 .hd
  with_reducible refine E_int ?_
  with_reducible refine q_ie ?_
  refine ⟨fun c3 => ?_, fun c3 => ?_⟩
  · with_reducible refine X_ret ?_
    with_reducible refine E_tuple ?_
    with_reducible refine S_cons ?_
    with_reducible refine E_str ?_
    with_reducible refine S_cons ?_
    with_reducible refine' E_cg (by assumption) (by assumption) ?c2 ?c3 ?c4 ?_
    case c2 => exact .tl (.tl (.tl (.tl (.tl .hd))))
    case c3 => k_is
    case c4 => k_is
    with_reducible refine' S_loc (by assumption) ?c1 ?_
    case c1 => exact .hd
    with_reducible refine S_cons ?_
    with_reducible refine E_int ?_
    with_reducible refine S_nil ?_
    with_reducible refine' Krf_go (by assumption) (by assumption) ?_
    refine pickB_ (G.st S) R (Z2.st (σ' := []) S0 S esl) fr (by decide) (by decide) fun h2 k2 r t9 x Z3 r0 r1 => ?_
    replace S := S5.go S x Z3
    have tkh := tkh.trans S.tup
    replace S := S.pool
    have S0 := S
    with_reducible refine S_nil ?_
    with_reducible refine' N_tup (by assumption) ?_
    intro t1 h1 S
    with_reducible refine Nx_ret ?_
    have XX : Chg [ur, tx, an, fl, fn] h h1 := (S.re tkh).back hB
    exact q _ _ _ (.v r) LL F XX (Z3.st (σ' := [_]) S0 S esl) (fun _ _ => rfl) (Nat.le_refl _) (Nat.le_add_right _ _) (Nat.le_add_right _ _) (Rd.tup (to_tp (S.has .hd)) (Rd.cons (Reads.str _ _) (Rd.cons (Reads.int _ _) .nil))) ⟨r0, r1⟩ trivial (by show 2 ≤ 2 ^ (d + 1); have := Nat.one_le_two_pow (n := d); rw [Nat.pow_succ]; omega)
  with_reducible refine X_nn ?_
  with_reducible refine X_ifc ?_
  with_reducible refine' E_loc (by assumption) ?c1 ?_
  case c1 => exact .t3 .hd
  with_reducible refine E_int ?_
  with_reducible refine q_ie ?_
  refine ⟨fun c4 => ?_, fun c4 => ?_⟩
  · with_reducible refine X_ret ?_
    with_reducible refine E_tuple ?_
    with_reducible refine S_cons ?_
    with_reducible refine E_str ?_
    with_reducible refine S_cons ?_
    with_reducible refine' E_mc (by assumption) (by assumption) ?c2 ?c3 ?c4 ?c5 ?_ ?c7
    case c2 => exact .h1
    case c3 => assumption
    case c4 => exact mth_atom
    case c5 => k_is
    case c7 => rfl
    with_reducible refine S_cons ?_
    with_reducible refine E_str ?_
    with_reducible refine S_nil ?_
    with_reducible refine' Krf_go (by assumption) (by assumption) ?_
    refine atomB_ (G.st S) R Y (Z2.st (σ' := []) S0 S esl) fr (by omega) fun h2 k2 t9 x Z3 => ?_
    replace S := S5.go S x Z3
    have tkh := tkh.trans S.tup
    replace S := S.pool
    have S0 := S
    with_reducible refine S_nil ?_
    with_reducible refine' N_tup (by assumption) ?_
    intro t1 h1 S
    with_reducible refine Nx_ret ?_
    have XX : Chg [ur, tx, an, fl, fn] h h1 := (S.re tkh).back hB
    exact q _ _ _ (.a (atn LL "k")) _ F XX (Z3.st (σ' := [_]) S0 S esl) (fun _ _ => rfl) (Nat.le_refl _) (Nat.le_add_right _ _) adds_len (Rd.tup (to_tp (S.has .hd)) (Rd.cons (Reads.str _ _) (Rd.cons (Reads.int _ _) .nil))) trivial trivial (by show 2 ≤ 2 ^ (d + 1); have := Nat.one_le_two_pow (n := d); rw [Nat.pow_succ]; omega)
  with_reducible refine X_nn ?_
  with_reducible refine X_ifc ?_
  with_reducible refine' E_loc (by assumption) ?c1 ?_
  case c1 => exact .t3 .hd
  with_reducible refine E_int ?_
  with_reducible refine q_ie ?_
  refine ⟨fun c5 => ?_, fun c5 => ?_⟩
  · with_reducible refine X_ret ?_
    with_reducible refine E_tuple ?_
    with_reducible refine S_cons ?_
    with_reducible refine E_str ?_
    with_reducible refine S_cons ?_
    with_reducible refine' E_cg (by assumption) (by assumption) ?c2 ?c3 ?c4 ?_
    case c2 => exact .tl (.tl (.tl (.tl (.tl .hd))))
    case c3 => k_is
    case c4 => k_is
    with_reducible refine' S_loc (by assumption) ?c1 ?_
    case c1 => exact .hd
    with_reducible refine S_cons ?_
    with_reducible refine E_int ?_
    with_reducible refine S_nil ?_
    with_reducible refine' Krf_go (by assumption) (by assumption) ?_
    refine pickB_ (G.st S) R (Z2.st (σ' := []) S0 S esl) fr (by decide) (by decide) fun h2 k2 r t9 x Z3 r0 r1 => ?_
    replace S := S5.go S x Z3
    have tkh := tkh.trans S.tup
    replace S := S.pool
    have S0 := S
    with_reducible refine S_nil ?_
    with_reducible refine' N_tup (by assumption) ?_
    intro t1 h1 S
    with_reducible refine Nx_ret ?_
    have XX : Chg [ur, tx, an, fl, fn] h h1 := (S.re tkh).back hB
    exact q _ _ _ (.i r) LL F XX (Z3.st (σ' := [_]) S0 S esl) (fun _ _ => rfl) (Nat.le_refl _) (Nat.le_add_right _ _) (Nat.le_add_right _ _) (Rd.tup (to_tp (S.has .hd)) (Rd.cons (Reads.str _ _) (Rd.cons (Reads.int _ _) .nil))) trivial trivial (by show 2 ≤ 2 ^ (d + 1); have := Nat.one_le_two_pow (n := d); rw [Nat.pow_succ]; omega)
  have c3' : w ≠ 3 := by simpa using c3
  have c4' : w ≠ 4 := by simpa using c4
  have c5' : w ≠ 5 := by simpa using c5
  have hd0 : d ≠ 0 := fun h => by have := wd h; (clear w0; omega)
  have hd1 : (d : Int) - 1 = ((d - 1 : Nat) : Int) := by omega
  have R9 : Room A (n + (d - 1) + 3) := R.less (by omega)
  have hpw : 2 ^ (d - 1 + 1) + 2 ^ (d - 1 + 1) = 2 ^ (d + 1) := by rw [show d - 1 + 1 = d by omega, Nat.pow_succ]; omega
  with_reducible refine X_nn ?_
  with_reducible refine X_name ?_
  with_reducible refine' E_cg (by assumption) (by assumption) ?c2 ?c3 ?c4 ?_
  case c2 => exact .tl (.tl (.tl (.tl (.tl (.tl .hd)))))
  case c3 => k_is
  case c4 => k_is
  with_reducible refine' S_loc (by assumption) ?c1 ?_
  case c1 => exact .hd
  with_reducible refine' S_loc (by assumption) ?c1 ?_
  case c1 => exact .h1
  with_reducible refine S_cons ?_
  with_reducible refine E_bin ?_
  with_reducible refine' E_loc (by assumption) ?c1 ?_
  case c1 => exact .h2
  with_reducible refine E_int ?_
  with_reducible refine i_sub ?_
  with_reducible refine S_nil ?_
  with_reducible refine' Krf_go (by assumption) (by assumption) ?_
  rw [hd1]
  refine ih (d - 1) (by omega) (G.st S) R9 (Z2.st (σ' := []) S0 S esl) (by omega) (by (clear s2; omega)) (by (clear s1; omega)) fun h2 k2 v T1 LL1 F1 x Z3 xe1 xl1 xf1 xa1 rd1 ok1 tf1 sz1 => ?_
  replace S := S5.go S x Z3
  have tkh := tkh.trans S.tup
  replace S := S.pool
  have S0 := S
  with_reducible refine' N_st (by assumption) ?c1 ?_
  case c1 => exact .t3 .h1
  intro h1 S
  with_reducible refine X_ifc ?_
  with_reducible refine' E_loc (by assumption) ?c1 ?_
  case c1 => exact .t3 .hd
  with_reducible refine E_int ?_
  with_reducible refine q_ie ?_
  have hp8 : 2 ^ (d + 1) ≤ 8 := by
    have : d = 1 ∨ d = 2 := by omega
    rcases this with h | h <;> rw [h] <;> decide
  refine ⟨fun c2 => ?_, fun c2 => ?_⟩
  · with_reducible refine X_ret ?_
    with_reducible refine E_tuple ?_
    with_reducible refine S_cons ?_
    with_reducible refine E_str ?_
    with_reducible refine S_cons ?_
    with_reducible refine' E_mc (by assumption) (by assumption) ?c2 ?c3 ?c4 ?c5 ?_ ?c7
    case c2 => exact .h1
    case c3 => assumption
    case c4 => exact mth_func
    case c5 => k_is
    case c7 => rfl
    with_reducible refine S_cons ?_
    with_reducible refine E_str ?_
    with_reducible refine S_cons ?_
    with_reducible refine E_int ?_
    with_reducible refine S_nil ?_
    with_reducible refine' Krf_go (by assumption) (by assumption) ?_
    refine funcB_ (G.st S) R Y (Z3.st (σ' := []) S0 S esl) fr (by omega) (by (clear hp8; omega)) fun h2 k2 t9 F2 f2 x Z4 xe2 xl2 xf2 g0 g1 gf => ?_
    replace S := S5.go S x Z4
    have rd2 := rd1.tk (S0.tup.trans S.tup)
    have tkh := tkh.trans S.tup
    replace S := S.pool
    have S0 := S
    with_reducible refine S_cons ?_
    with_reducible refine E_tuple ?_
    with_reducible refine' S_locL (by assumption) ?c1 ?_
    case c1 => exact .t3 .h1
    with_reducible refine' N_tup (by assumption) ?_
    intro t1 h1 S
    with_reducible refine S_nil ?_
    with_reducible refine' N_tup (by assumption) ?_
    intro t1 h1 S
    with_reducible refine Nx_ret ?_
    have XX : Chg [ur, tx, an, fl, fn] h h1 := (S.re tkh).back hB
    obtain ⟨a9, hf9⟩ := gf
    have hfp : 0 < f2 := by
      obtain ⟨a0, ha0⟩ := Z4.z
      rcases Int.lt_or_le 0 f2 with h9 | h9
      · exact h9
      · have : f2 = 0 := by (clear g1; omega)
        subst this
        rw [show (0 : Int).toNat = 0 from rfl, ha0] at hf9
        cases hf9
    exact q _ _ _ (.s1 f2 T1) _ F2 XX (Z4.st (σ' := [_, _]) S0 S esl) (fun j hj => (xe2 j (by exact Nat.lt_of_lt_of_le (by assumption) (by assumption))).trans (xe1 j hj)) (by exact Nat.le_trans (by assumption) (by assumption)) (by simp only [Tr.sz]; (clear xl2; omega)) (by have := adds_len (F := LL1) (p := "g"); simp only [Tr.sz]; omega)
      (Rd.tup (to_tp (S.has .hd)) (Rd.cons (Reads.str _ _) (Rd.cons (Reads.int _ _) (Rd.cons (Rd.tup (to_tp (S.has (.tl .hd))) (Rd.cons (rd2.tk S.tup) .nil)) .nil)))) ok1 ⟨hfp, g1, ⟨a9, hf9⟩, tf1.ext xe2⟩ (by simp only [Tr.sz]; omega)
  with_reducible refine X_nn ?_
  with_reducible refine X_ret ?_
  with_reducible refine E_tuple ?_
  with_reducible refine S_cons ?_
  with_reducible refine E_str ?_
  with_reducible refine S_cons ?_
  with_reducible refine E_if ?_
  with_reducible refine T_cmp ?_
  with_reducible refine' E_loc (by assumption) ?c1 ?_
  case c1 => exact .t3 .hd
  with_reducible refine E_int ?_
  with_reducible refine q_ie ?_
  refine ⟨fun c1 => ?_, fun c1 => ?_⟩
  · with_reducible refine' E_glo (by assumption) (by assumption) ?c2 ?c3 ?_
    case c2 => exact .tl (.tl (.tl (.tl (.tl (.tl (.tl .hd))))))
    case c3 => k_is
    with_reducible refine S_cons ?_
    with_reducible refine E_tuple ?_
    with_reducible refine' S_loc (by assumption) ?c1 ?_
    case c1 => exact .t3 .h1
    with_reducible refine S_cons ?_
    with_reducible refine' E_cg (by assumption) (by assumption) ?c2 ?c3 ?c4 ?_
    case c2 => exact .tl (.tl (.tl (.tl (.tl (.tl .hd)))))
    case c3 => k_is
    case c4 => k_is
    with_reducible refine' S_loc (by assumption) ?c1 ?_
    case c1 => exact .hd
    with_reducible refine' S_loc (by assumption) ?c1 ?_
    case c1 => exact .h1
    with_reducible refine S_cons ?_
    with_reducible refine E_bin ?_
    with_reducible refine' E_loc (by assumption) ?c1 ?_
    case c1 => exact .h2
    with_reducible refine E_int ?_
    with_reducible refine i_sub ?_
    with_reducible refine S_nil ?_
    with_reducible refine' Krf_go (by assumption) (by assumption) ?_
    rw [hd1]
    refine ih (d - 1) (by omega) (G.st S) R9 (Z3.st (σ' := []) S0 S esl) (by omega) (by omega) (by omega) fun h2 k2 v2 T2 LL3 F3 x Z5 xe3 xl3 xf3 xa3 rd3 ok3 tf3 sz3 => ?_
    replace S := S5.go S x Z5
    have rd4 := rd1.tk (S0.tup.trans S.tup)
    have tkh := tkh.trans S.tup
    replace S := S.pool
    have S0 := S
    with_reducible refine S_nil ?_
    with_reducible refine' N_tup (by assumption) ?_
    intro t1 h1 S
    with_reducible refine S_nil ?_
    with_reducible refine' N_tup (by assumption) ?_
    intro t1 h1 S
    have XX : Chg [ur, tx, an, fl, fn] h h1 := (S.re tkh).back hB
    exact q _ _ _ (.s2 0 T1 T2) _ F3 XX (Z5.st (σ' := [_, _]) S0 S esl) (fun j hj => (xe3 j (by exact Nat.lt_of_lt_of_le (by assumption) (by assumption))).trans (xe1 j hj)) (by exact Nat.le_trans (by assumption) (by assumption)) (by simp only [Tr.sz]; omega) (by simp only [Tr.sz]; omega)
      (Rd.tup (to_tp (S.has .hd)) (Rd.cons (Reads.str _ _) (Rd.cons (Reads.int _ _) (Rd.cons (Rd.tup (to_tp (S.has (.tl .hd))) (Rd.cons (rd4.tk S.tup) (Rd.cons (rd3.tk S.tup) .nil))) .nil)))) ⟨ok1, ok3⟩ ⟨by decide, by decide, (by obtain ⟨a, e⟩ := Z5.z; exact ⟨a, e⟩), tf1.ext xe3, tf3⟩ (by simp only [Tr.sz]; omega)
  · with_reducible refine' E_mc (by assumption) (by assumption) ?c2 ?c3 ?c4 ?c5 ?_ ?c7
    case c2 => exact .h1
    case c3 => assumption
    case c4 => exact mth_func
    case c5 => k_is
    case c7 => rfl
    with_reducible refine S_cons ?_
    with_reducible refine E_str ?_
    with_reducible refine S_cons ?_
    with_reducible refine E_int ?_
    with_reducible refine S_nil ?_
    with_reducible refine' Krf_go (by assumption) (by assumption) ?_
    refine funcB_ (G.st S) R Y (Z3.st (σ' := []) S0 S esl) fr (by omega) (by omega) fun h2 k2 t9 F2 f2 x Z4 xe2 xl2 xf2 g0 g1 gf => ?_
    replace S := S5.go S x Z4
    have rd2 := rd1.tk (S0.tup.trans S.tup)
    have hal := adds_len (F := LL1) (p := "h")
    have tkh := tkh.trans S.tup
    replace S := S.pool
    have S0 := S
    with_reducible refine S_cons ?_
    with_reducible refine E_tuple ?_
    with_reducible refine' S_loc (by assumption) ?c1 ?_
    case c1 => exact .t3 .h1
    with_reducible refine S_cons ?_
    with_reducible refine' E_cg (by assumption) (by assumption) ?c2 ?c3 ?c4 ?_
    case c2 => exact .tl (.tl (.tl (.tl (.tl (.tl .hd)))))
    case c3 => k_is
    case c4 => k_is
    with_reducible refine' S_loc (by assumption) ?c1 ?_
    case c1 => exact .hd
    with_reducible refine' S_loc (by assumption) ?c1 ?_
    case c1 => exact .h1
    with_reducible refine S_cons ?_
    with_reducible refine E_bin ?_
    with_reducible refine' E_loc (by assumption) ?c1 ?_
    case c1 => exact .h2
    with_reducible refine E_int ?_
    with_reducible refine i_sub ?_
    with_reducible refine S_nil ?_
    with_reducible refine' Krf_go (by assumption) (by assumption) ?_
    rw [hd1]
    refine ih (d - 1) (by omega) (G.st S) R9 (Z4.st (σ' := []) S0 S esl) (by omega) (by omega) (by (clear xl2; omega)) fun h2 k2 v2 T2 LL3 F3 x Z5 xe3 xl3 xf3 xa3 rd3 ok3 tf3 sz3 => ?_
    replace S := S5.go S x Z5
    have rd4 := rd2.tk (S0.tup.trans S.tup)
    have tkh := tkh.trans S.tup
    replace S := S.pool
    have S0 := S
    with_reducible refine S_nil ?_
    with_reducible refine' N_tup (by assumption) ?_
    intro t1 h1 S
    with_reducible refine S_nil ?_
    with_reducible refine' N_tup (by assumption) ?_
    intro t1 h1 S
    have XX : Chg [ur, tx, an, fl, fn] h h1 := (S.re tkh).back hB
    exact q _ _ _ (.s2 f2 T1 T2) _ F3 XX (Z5.st (σ' := [_, _]) S0 S esl) (fun j hj => (xe3 j (by (clear xf2; omega))).trans ((xe2 j (by exact Nat.lt_of_lt_of_le (by assumption) (by assumption))).trans (xe1 j hj))) (by (clear xf2; omega)) (by simp only [Tr.sz]; (clear xl2; omega)) (by simp only [Tr.sz]; omega)
      (Rd.tup (to_tp (S.has .hd)) (Rd.cons (Reads.str _ _) (Rd.cons (Reads.int _ _) (Rd.cons (Rd.tup (to_tp (S.has (.tl .hd))) (Rd.cons (rd4.tk S.tup) (Rd.cons (rd3.tk S.tup) .nil))) .nil)))) ⟨ok1, ok3⟩ ⟨g0, g1, (by obtain ⟨a, e⟩ := gf; exact ⟨a, (xe3 _ (some_lt e)).trans e⟩), (tf1.ext xe2).ext xe3, tf3⟩ (by simp only [Tr.sz]; omega)
end
end
section
open PySem PySem.W PyProof.Rows PySem.Calls
set_option hygiene false
noncomputable def StrV (v : Value) : Prop := ∃ s t, v = .str s t
noncomputable def RowV (h : Heap) (v : Value) : Prop := ∃ a s w t u, v = .ref a ∧ Tp h a [.str s t, .int w u]
section
variable {V : Vw} {B₀ h : Heap} {A : Around} {k : Nat} {Q : Value → Heap → Nat → Prop} {n : Nat}
set_option maxHeartbeats 4000000 in
theorem atoms_ (G : Wd (hd.heap_39 V.w.params) B₀ h) (R : Room A (n + 1))
    (q : ∀ h' k' a vs, Chg [] h h' → Tp h' a vs → vs.length = 29 → (∀ v ∈ vs, StrV v) → Q (.ref a) h' k') : W V A (call (.ref 60) ([] ++ [])) Q h k := by
  refine' W_enter0 (binds := []) G R ?ho ?hcd ?hb ?he ?nn ?nb ?_ ?hcell ?hco ?hgen ?hk
  case ho => k_is
  case hcd => k_is
  case hb => exact BindsTo.of_eq rfl
  case he => repeat constructor
  case nn => decide
  case nb => decide
  case hcell => decide
  case hco => rfl
  case hgen => rfl
  case hk => rfl
  intro A L h1 k1 S R
  dsimp only at S
  with_reducible refine X_ret ?_
  with_reducible refine E_tuple ?_
  with_reducible refine S_cons ?_
  with_reducible refine E_str ?_
  with_reducible refine S_cons ?_
  with_reducible refine E_str ?_
  with_reducible refine S_cons ?_
  with_reducible refine E_str ?_
  with_reducible refine S_cons ?_
  with_reducible refine E_str ?_
  with_reducible refine S_cons ?_
  with_reducible refine E_str ?_
  with_reducible refine S_cons ?_
  with_reducible refine E_str ?_
  with_reducible refine S_cons ?_
  with_reducible refine E_str ?_
  with_reducible refine S_cons ?_
  with_reducible refine E_str ?_
  with_reducible refine S_cons ?_
  with_reducible refine E_str ?_
  with_reducible refine S_cons ?_
  with_reducible refine E_str ?_
  with_reducible refine S_cons ?_
  with_reducible refine E_str ?_
  with_reducible refine S_cons ?_
  with_reducible refine E_str ?_
  with_reducible refine S_cons ?_
  with_reducible refine E_str ?_
  with_reducible refine S_cons ?_
  with_reducible refine E_str ?_
  with_reducible refine S_cons ?_
  with_reducible refine E_str ?_
  with_reducible refine S_cons ?_
  with_reducible refine E_str ?_
  with_reducible refine S_cons ?_
  with_reducible refine E_str ?_
  with_reducible refine S_cons ?_
  with_reducible refine E_str ?_
  with_reducible refine S_cons ?_
  with_reducible refine E_str ?_
  with_reducible refine S_cons ?_
  with_reducible refine E_str ?_
  with_reducible refine S_cons ?_
  with_reducible refine E_str ?_
  with_reducible refine S_cons ?_
  with_reducible refine E_str ?_
  with_reducible refine S_cons ?_
  with_reducible refine E_str ?_
  with_reducible refine S_cons ?_
  with_reducible refine E_str ?_
  with_reducible refine S_cons ?_
  with_reducible refine E_str ?_
  with_reducible refine S_cons ?_
  with_reducible refine E_str ?_
  with_reducible refine S_cons ?_
  with_reducible refine E_str ?_
  with_reducible refine S_cons ?_
  with_reducible refine E_str ?_
  with_reducible refine S_cons ?_
  with_reducible refine E_str ?_
  with_reducible refine S_nil ?_
  with_reducible refine' N_tup (by assumption) ?_
  intro t1 h1 S
  refine q _ _ _ _ S.back0 (to_tp (S.has .hd)) rfl ?_
  simp only [List.forall_mem_cons]
  repeat' apply And.intro
  all_goals first | exact ⟨_, _, rfl⟩ | exact fun _ h => nomatch h
end
end
section
open PySem PySem.W PyProof.Rows PySem.Calls
set_option hygiene false
inductive RowsE : List Expr → Prop
  | nil : RowsE []
  | cons {s : Str} {w : Int} {n1 n2 c : Nat} {p1 p2 p : Pos} {rest : List Expr} : RowsE rest → RowsE (.Tuple [.Constant (.str s) n1 p1, .Constant (.int w) n2 p2] c p :: rest)
section
variable {V : Vw} {B₀ h : Heap} {A : Around} {k : Nat} {Q : Value → Heap → Nat → Prop} {n : Nat}
theorem RowV.tk {h h' : Heap} {v : Value} (x : RowV h v) (t : Tk h h') : RowV h' v := (by obtain ⟨a, s, w, t1, u, e, z⟩ := x; exact ⟨a, s, w, t1, u, e, z.tk t⟩)
theorem NewT.chg {h h' : Heap} {t : Addr} {vs : List Value} (e : NewT h h' t vs) : Chg [] h h' := by
  rw [e.2]
  exact ⟨fun b o e _ => Heap.get?_push_of_some _ e, fun b o e _ => Heap.get?_push_of_some _ e⟩
theorem NewT.tp {h h' : Heap} {t : Addr} {vs : List Value} (e : NewT h h' t vs) : Tp h' t vs := by rw [e.1, e.2]; exact Tp.new _ _
theorem S_rows {pos : Pos} {env : Env} {elts : List Expr} (hr : RowsE elts) : ∀ {h : Heap} {k : Nat} {Q : List Value → Heap → Nat → Prop},
    (∀ h' k' vs, Chg [] h h' → vs.length = elts.length → (∀ v ∈ vs, RowV h' v) → Q vs h' k') → W V A (spliced (backTo pos (starEach elts env))) Q h k := by
  induction hr with
  | nil => exact fun q => S_nil (q _ _ [] .rfl rfl (by simp))
  | cons hr ih =>
    intro h k Q q
    refine S_cons (E_tuple (S_cons (E_str (S_cons (E_int (S_nil ?_)) rfl)) rfl)) rfl
    refine ⟨by simp [sizeLine], fun t h' e => ?_⟩
    refine ih fun h2 k2 vs x hl hv => q _ _ _ (e.chg.trans x) (by simp [hl]) fun v hm => ?_
    rcases List.mem_cons.mp hm with rfl | hm
    · exact RowV.tk ⟨_, _, _, _, _, rfl, e.tp⟩ x.tup
    · exact hv v hm
set_option maxHeartbeats 8000000 in
theorem rows_ (G : Wd (hd.heap_39 V.w.params) B₀ h) (R : Room A (n + 1))
    (q : ∀ h' k' a vs, Chg [] h h' → Tp h' a vs → vs.length = 32 → (∀ v ∈ vs, RowV h' v) → (∃ b s t u, vs[0]? = some (.ref b) ∧ Tp h' b [.str s t, .int 2 u]) → Q (.ref a) h' k') : W V A (call (.ref 67) ([] ++ [])) Q h k := by
  refine' W_enter0 (binds := []) G R ?ho ?hcd ?hb ?he ?nn ?nb ?_ ?hcell ?hco ?hgen ?hk
  case ho => k_is
  case hcd => k_is
  case hb => exact BindsTo.of_eq rfl
  case he => repeat constructor
  case nn => decide
  case nb => decide
  case hcell => decide
  case hco => rfl
  case hgen => rfl
  case hk => rfl
  intro A L h1 k1 S R
  dsimp only at S
  with_reducible refine X_ret ?_
  with_reducible refine E_tuple ?_
  (with_reducible refine S_cons ?_ ?he); (case he => rfl)
  with_reducible refine E_tuple ?_
  (with_reducible refine S_cons ?_ ?he); (case he => rfl)
  with_reducible refine E_str ?_
  (with_reducible refine S_cons ?_ ?he); (case he => rfl)
  with_reducible refine E_int ?_
  with_reducible refine S_nil ?_
  refine ⟨by simp [sizeLine], fun t h2 e => ?_⟩
  (with_reducible refine' S_rows ?hr ?_); (case hr => repeat constructor)
  intro h3 k3 vs x hl hv
  have S2 := (S.call0 e.chg).call0 x
  refine ⟨by simp [hl, sizeLine], fun t2 h4 e2 => ?_⟩
  have S3 := S2.call0 e2.chg
  have tk := x.tup.trans e2.chg.tup
  refine q _ _ _ _ S3.back0 e2.tp (by simp [hl]) (fun v hm => ?_) ⟨t, _, _, _, rfl, e.tp.tk tk⟩
  rcases List.mem_cons.mp hm with rfl | hm
  · exact ⟨_, _, _, _, _, rfl, e.tp.tk tk⟩
  · exact (hv v hm).tk e2.chg.tup
end
end
section
open PySem PySem.W PyProof.Rows PySem.Calls
set_option hygiene false
theorem SA.mv {V : Vw} {h h' : Heap} {tx an : Addr} {L : List Str} (Z : SA V h tx an L) (g : ∀ a ∈ [tx, an], ∀ o, h.get? a = some o → h'.get? a = some o) : SA V h' tx an L :=
  ⟨(by obtain ⟨ts, n, e, r⟩ := Z.t; exact ⟨ts, n, g _ (by simp) _ e, r⟩), (by obtain ⟨oa, ka, e, r⟩ := Z.d; exact ⟨oa, ka, g _ (by simp) _ e, r⟩), Z.lo, Z.ne, Z.sz⟩
theorem SF.mv {V : Vw} {h h' : Heap} {fl fn : Addr} {F : List (Int × Int)} (Z : SF V h fl fn F) (g : ∀ a ∈ [fl, fn], ∀ o, h.get? a = some o → h'.get? a = some o) (t : Tk h h') : SF V h' fl fn F :=
  ⟨(by obtain ⟨fs, n, e, r⟩ := Z.f; exact ⟨fs, n, g _ (by simp) _ e, r.tk t⟩), (by obtain ⟨od, xs, e, D, r⟩ := Z.d; exact ⟨od, xs, g _ (by simp) _ e, dh_tk D t, r⟩), Z.lo, Z.ne, Z.sz⟩
theorem dh_nil {V : Vw} {h : Heap} {o : Obj} (D : o.IsDictOf (PySem.intKind V.prog V.w) []) : IsDictH (tkd V) h o [] := by
  obtain ⟨es, ep, ex, hd, -, hp, -⟩ := D
  refine ⟨es, ep, ex, hd, ?_, by simp, by simp⟩
  cases hp' : es.toList with
  | nil => rfl
  | cons e r => rw [hp'] at hp; cases hp
inductive JS1 (V : Vw) (x dx fn fl an tx : Addr) (od odx : Obj) : Nat → List (Option Value) → List (Addr × Obj) → Heap → Prop
  | mk {w1 w2 : Option Value} {ot oa : Obj} {LL : List Str} {i : Nat} {h : Heap} (hled : ∀ p ∈ [(fn, od), (fl, lo [] 0), (an, oa), (tx, ot), (x, instObj 154 dx), (dx, odx)], h.get? p.1 = some p.2) (Z : SA V h tx an LL) (hl : LL.length ≤ i) :
    JS1 V x dx fn fl an tx od odx i [some (.ref x), w1, w2] [(fn, od), (fl, lo [] 0), (an, oa), (tx, ot), (x, instObj 154 dx), (dx, odx)] h
inductive JS2 (V : Vw) (x dx fn fl an tx : Addr) (odx : Obj) : Nat → List (Option Value) → List (Addr × Obj) → Heap → Prop
  | mk {w1 w2 : Option Value} {on of ot oa : Obj} {LL : List Str} {F : List (Int × Int)} {i : Nat} {h : Heap} (hled : ∀ p ∈ [(fn, on), (fl, of), (an, oa), (tx, ot), (x, instObj 154 dx), (dx, odx)], h.get? p.1 = some p.2) (ZA : SA V h tx an LL) (ZF : SF V h fl fn F)
    (hl : LL.length ≤ 29 + i) (hl2 : F.length ≤ i) (hz : 0 < i → ∃ a, F[0]? = some (a, 2)) :
    JS2 V x dx fn fl an tx odx i [some (.ref x), w1, w2] [(fn, on), (fl, of), (an, oa), (tx, ot), (x, instObj 154 dx), (dx, odx)] h
section
variable {V : Vw} {B₀ h : Heap} {A : Around} {k : Nat} {Q : Value → Heap → Nat → Prop} {x dx : Addr} {n : Nat}
set_option maxHeartbeats 8000000 in
theorem init154_ (G : Wd (hd.heap_39 V.w.params) B₀ h) (R : Room A (n + 4)) (e1 : h.get? x = some (instObj 154 dx)) (e2 : h.get? dx = some (dictOf [] 0)) (f1 : B₀.get? x = none) (f2 : B₀.get? dx = none) (ne : x ≠ dx)
    (q : ∀ h' k' es m tx an fl fn LL F, Chg [x, dx] h h' → h'.get? x = some (instObj 154 dx) → h'.get? dx = some (dictOf es m) → Ents es (symF tx an fl fn) → (∀ a ∈ [tx, an, fl, fn], h.get? a = none) → [tx, an, fl, fn].Nodup → SA V h' tx an LL → SF V h' fl fn F →
      LL.length ≤ 61 → F.length ≤ 32 → (∃ a, F[0]? = some (a, 2)) → Q .none h' k') :
    CW V A (.ref 81) (.ref x :: []) Q h k := by
  refine' C_enter (binds := [("self", .ref x)]) G R ?ho ?hcd [(x, instObj 154 dx), (dx, dictOf [] 0)] (by simpa using ⟨⟨e1, f1⟩, e2, f2⟩) (by simpa using ne) ?hb ?he ?nn ?nb ?_ ?hcell ?hco ?hgen ?hk
  case ho => k_is
  case hcd => k_is
  case hb => exact BindsTo.of_eq rfl
  case he => repeat constructor
  case nn => decide
  case nb => decide
  case hcell => decide
  case hco => rfl
  case hgen => rfl
  case hk => rfl
  intro A B L h1 k1 G S hB hB' R
  dsimp only at S
  with_reducible refine X_attr ?_
  with_reducible refine E_list ?_
  with_reducible refine S_nil ?_
  with_reducible refine' N_lst (by assumption) ?_
  intro l1 h1 S
  with_reducible refine' E_loc (by assumption) ?c1 ?_
  case c1 => exact .hd
  rename Addr => tx
  refine A_set (τ := fun o => [(tx, lo [] 0), (x, instObj 154 dx), (dx, o)]) G S (by exact .h1) (by exact .h2) .nil cls154.a cls154.b (by k_is) cls154.d rfl (by decide) (fun o => by exact .tl (.tl .hd)) fun es1 m1 h1 E1 L1 S => ?_
  with_reducible refine X_attr ?_
  refine E_dictN G S fun an oa h1 la S Da => ?_
  with_reducible refine' E_loc (by assumption) ?c1 ?_
  case c1 => exact .hd
  refine A_set (τ := fun o => [(an, oa), (tx, lo [] 0), (x, instObj 154 dx), (dx, o)]) G S (by exact .h2) (by exact .t3 .hd) E1 cls154.a cls154.b (by k_is) cls154.d (by rfl) (by rw [L1]; decide) (fun o => by exact .tl (.tl (.tl .hd))) fun es2 m2 h1 E2 L2 S => ?_
  with_reducible refine X_attr ?_
  with_reducible refine E_list ?_
  with_reducible refine S_nil ?_
  with_reducible refine' N_lst (by assumption) ?_
  intro l1 h1 S
  with_reducible refine' E_loc (by assumption) ?c1 ?_
  case c1 => exact .hd
  rename Addr => fl
  refine A_set (τ := fun o => [(fl, lo [] 0), (an, oa), (tx, lo [] 0), (x, instObj 154 dx), (dx, o)]) G S (by exact .t3 .hd) (by exact .t3 .h1) E2 cls154.a cls154.b (by k_is) cls154.d (by rfl) (by rw [L2, L1]; decide) (fun o => by exact .tl (.tl (.tl (.tl .hd)))) fun es3 m3 h1 E3 L3 S => ?_
  with_reducible refine X_attr ?_
  refine E_dictN G S fun fn od h1 lf S Dd => ?_
  with_reducible refine' E_loc (by assumption) ?c1 ?_
  case c1 => exact .hd
  refine A_set (τ := fun o => [(fn, od), (fl, lo [] 0), (an, oa), (tx, lo [] 0), (x, instObj 154 dx), (dx, o)]) G S (by exact .t3 .h1) (by exact .t3 .h2) E3 cls154.a cls154.b (by k_is) cls154.d (by rfl) (by rw [L3, L2, L1]; decide) (fun o => by exact .tl (.tl (.tl (.tl (.tl .hd))))) fun es m h1 E4 L4 S => ?_
  simp only [List.nil_append, List.cons_append] at E4
  clear E1 E2 E3 L1 L2 L3 L4
  have nd := S.nd
  have hNo : ∀ a ∈ [tx, an, fl, fn], B.get? a = none := Mine.m4 (S.no (o := lo [] 0) (by exact .t3 .hd)) (S.no (o := oa) (by exact .h2)) (S.no (o := lo [] 0) (by exact .h1)) (S.no (o := od) (by exact .hd))
  have hM : ∀ a ∈ [tx, an, fl, fn], a ∉ [x, dx] := Mine.m4 (n2 (nd_at nd 3 4 rfl rfl (by decide)) (nd_at nd 3 5 rfl rfl (by decide))) (n2 (nd_at nd 2 4 rfl rfl (by decide)) (nd_at nd 2 5 rfl rfl (by decide))) (n2 (nd_at nd 1 4 rfl rfl (by decide)) (nd_at nd 1 5 rfl rfl (by decide))) (n2 (nd_at nd 0 4 rfl rfl (by decide)) (nd_at nd 0 5 rfl rfl (by decide)))
  have mTA : ∀ a ∈ [tx, an], a ∈ [fn, fl, an, tx, x, dx] := Mine.m2 (by exact .tail _ (.tail _ (.tail _ (.head _)))) (by exact .tail _ (.tail _ (.head _)))
  have mT4 : ∀ a ∈ [tx, an, fl, fn], a ∈ [fn, fl, an, tx, x, dx] := Mine.m4 (by exact .tail _ (.tail _ (.tail _ (.head _)))) (by exact .tail _ (.tail _ (.head _))) (by exact .tail _ (.head _)) (by exact .head _)
  have m24 : ∀ a ∈ [tx, an], a ∈ [tx, an, fl, fn] := Mine.m2 (by exact .head _) (by exact .tail _ (.head _))
  have m34 : ∀ a ∈ [fl, fn], a ∈ [tx, an, fl, fn] := Mine.m2 (by exact .tail _ (.tail _ (.head _))) (by exact .tail _ (.tail _ (.tail _ (.head _))))
  have hNo' : ∀ a ∈ [tx, an, fl, fn], h.get? a = none := fun a ha => by
    cases q9 : h.get? a with
    | none => rfl
    | some o9 =>
      have := hB _ _ q9 (hM a ha)
      rw [hNo a ha] at this; cases this
  have hNo0 : ∀ a ∈ [tx, an, fl, fn], B₀.get? a = none := fun a ha => none_of G (hNo a ha)
  with_reducible refine X_for ?_
  with_reducible refine' E_cg (by assumption) (by assumption) ?c2 ?c3 ?c4 ?_
  case c2 => exact .tl (.tl (.tl .hd))
  case c3 => k_is
  case c4 => k_is
  with_reducible refine S_nil ?_
  with_reducible refine' Krf_go (by assumption) (by assumption) ?_
  refine atoms_ (G.st S) R fun h2 k2 ta us x1 T hlen hstr => ?_
  replace S := S.call0 x1
  have tkh := S.tup
  replace S := S.pool
  refine iter_tup S T fun I o h3 so S => ?_
  replace tkh := tkh.trans S.tup
  replace T := T.tk S.tup
  replace S := S.pool
  refine N_for (JS1 V x dx fn fl an tx od (dictOf es m))
    (itr_tup ta us) R.1 S so (.mk (LL := []) (S.drop (List.sublist_cons_self _ _)).hs ⟨⟨[], 0, S.has (by exact .t3 .h1), rfl⟩, ⟨oa, [], S.has (by exact .t3 .hd), Da _ _, rfl, fun x => ⟨fun _ => rfl, fun h => nomatch h⟩⟩, la, (nd_at nd 3 2 rfl rfl (by decide)), by simp⟩ (by simp)) 1 rfl ?_ ?_ ?_ ?_ rfl rfl
  · rintro i vs σ h2 ⟨⟩
    rfl
  · rintro i vs σ h2 _ o S
    exact T.tk S.tup
  · rintro i vs σ h2 @⟨w1, w2, ot, oa, LL, i, h2, hled, Z, hl⟩ hi tk v o h1 k1 hv S Qt hQr hQn
    dsimp only [List.set] at S
    have Z1 : SA V h1 tx an LL := Z.mv fun a ha o e => led_mv hled S.hs (fun p hp => .tail _ hp) a (mTA a ha) o e
    obtain ⟨s, ts, rfl⟩ := hstr v (List.mem_of_getElem? hv)
    with_reducible refine X_expr ?_
    with_reducible refine E_meth ?_
    with_reducible refine' E_loc (by assumption) ?c1 ?_
    case c1 => exact .hd
    refine MC_defh S G ⟨⟨dx, es, m, S.has (by exact .t3 .h2), S.has (by exact .t3 (.t3 .hd)), E4⟩, sym_nd⟩ mth_atom ?_ rfl
    with_reducible refine' CC_ref (by assumption) (by assumption) ?c2 ?_
    case c2 => k_is
    with_reducible refine' S_locL (by assumption) ?c1 ?_
    case c1 => exact .h1
    with_reducible refine' Krf_go (by assumption) (by assumption) ?_
    refine atom_ ((G.st S).hide (M := [tx, an]) ?_) R (Inst.hide (S.has (by exact .t3 .h2)) (S.has (by exact .t3 (.t3 .hd))) E4 sym_nd ?_ ?_) Z1 (none_hide (by exact .head _)) (none_hide (by exact .tail _ (.head _))) (by omega) fun h4 k4 t4 x4 Z4 => ?_
    · exact fun a ha => hNo0 a (m24 a ha)
    · exact n2 (nd_at nd 4 3 rfl rfl (by decide)) (nd_at nd 4 2 rfl rfl (by decide))
    · exact n2 (nd_at nd 5 3 rfl rfl (by decide)) (nd_at nd 5 2 rfl rfl (by decide))
    obtain ⟨ts2, mm2, et2, -⟩ := Z4.t
    obtain ⟨oa2, ka2, ea2, -⟩ := Z4.d
    replace S := S.chgL (ups := [(tx, lo ts2 mm2), (an, oa2)]) x4 (.cons (by exact .tl (.tl (.tl (.tl .hd)))) (.cons (by exact .tl (.tl (.tl .hd))) .nil)) (Mine.m2 et2 ea2)
    with_reducible refine And_int ?_
    with_reducible refine X_nil ?_
    refine hQn _ _ _ _ _ (by first | exact .inl rfl | exact .inr rfl) S (.mk (S.drop (List.sublist_cons_self _ _)).hs Z4 ?_)
    have := adds_len (F := LL) (p := s)
    omega
  rintro i_ vs σ h2 @⟨w1, w2, ot, oa, LL, i_, h2, hled, ZA, hl⟩ rfl h1 k1 S tk
  replace ZA : SA V h1 tx an LL := ZA.mv fun a ha o e => led_mv hled S.hs (fun p hp => hp) a (mTA a ha) o e
  with_reducible refine Nx_next ?_
  with_reducible refine X_for ?_
  with_reducible refine' E_cg (by assumption) (by assumption) ?c2 ?c3 ?c4 ?_
  case c2 => exact .tl (.tl (.tl (.tl .hd)))
  case c3 => k_is
  case c4 => k_is
  with_reducible refine S_nil ?_
  with_reducible refine' Krf_go (by assumption) (by assumption) ?_
  refine rows_ (G.st S) R fun h2 k2 ta2 us2 x1 T2 hlen2 hrow hrow0 => ?_
  replace ZA : SA V h2 tx an LL := ZA.chg x1 (by simp) (by simp)
  replace S := S.call0 x1
  replace tkh := tkh.trans S.tup
  replace S := S.pool
  have S0 := S
  refine iter_tup S T2 fun I o h3 so S => ?_
  replace ZA : SA V h3 tx an LL := ZA.mv fun a ha o e => led_mv S0.hs S.hs (fun p hp => .tail _ hp) a (mTA a ha) o e
  replace tkh := tkh.trans S.tup
  replace T2 := T2.tk S.tup
  replace hrow := fun v hv => (hrow v hv).tk S.tup
  obtain ⟨b0, s0, t0, u0, hr0, hr1⟩ := hrow0
  replace hr1 := hr1.tk S.tup
  replace S := S.pool
  refine N_for (JS2 V x dx fn fl an tx (dictOf es m))
    (itr_tup ta2 us2) R.1 S so (.mk (F := []) (S.drop (List.sublist_cons_self _ _)).hs ZA ⟨⟨[], 0, S.has (by exact .h2), trivial⟩, ⟨od, [], S.has (by exact .h1), dh_nil (Dd _ _), rfl, fun x => ⟨fun _ => rfl, fun h => nomatch h⟩⟩, lf, (nd_at nd 1 0 rfl rfl (by decide)), by simp⟩ (by omega) (by simp) (fun h => absurd h (by (clear h; omega)))) 2 rfl ?_ ?_ ?_ ?_ rfl rfl
  · rintro i vs σ h2 ⟨⟩
    rfl
  · rintro i vs σ h2 _ o S
    exact T2.tk S.tup
  · rintro i vs σ h2 @⟨w1, w2, on, of, ot, oa, LL, F, i, h2, hled, ZA, ZF, hl, hl2, hz⟩ hi tk v o h1 k1 hv S Qt hQr hQn
    dsimp only [List.set] at S
    have hg : ∀ a ∈ [tx, an, fl, fn], ∀ o, h2.get? a = some o → h1.get? a = some o := fun a ha o e => led_mv hled S.hs (fun p hp => .tail _ hp) a (mT4 a ha) o e
    replace ZA : SA V h1 tx an LL := ZA.mv fun a ha => hg a (m24 a ha)
    replace ZF : SF V h1 fl fn F := ZF.mv (fun a ha => hg a (m34 a ha)) S.tup
    obtain ⟨b, s, w, ts, u, rfl, hb⟩ := hrow v (List.mem_of_getElem? hv)
    have hb2 := hb.tk tk
    with_reducible refine X_expr ?_
    with_reducible refine E_meth ?_
    with_reducible refine' E_loc (by assumption) ?c1 ?_
    case c1 => exact .hd
    refine MC_defh S G ⟨⟨dx, es, m, S.has (by exact .t3 .h2), S.has (by exact .t3 (.t3 .hd)), E4⟩, sym_nd⟩ mth_func ?_ rfl
    with_reducible refine' CC_ref (by assumption) (by assumption) ?c2 ?_
    case c2 => k_is
    with_reducible refine S_cons ?_
    with_reducible refine' E_tI (by assumption) ?c1 ?c2 ?_ ?c4
    case c1 => exact .h2
    case c2 => assumption
    case c4 => rfl
    with_reducible refine S_cons ?_
    with_reducible refine' E_tI (by assumption) ?c1 ?c2 ?_ ?c4
    case c1 => exact .h2
    case c2 => assumption
    case c4 => rfl
    with_reducible refine S_nil ?_
    with_reducible refine' Krf_go (by assumption) (by assumption) ?_
    refine func_ (n := n + 1) (s := s) (w := w) ((G.st S).hide (M := [tx, an, fl, fn]) hNo0) R (Inst.hide (S.has (by exact .t3 .h2)) (S.has (by exact .t3 (.t3 .hd))) E4 sym_nd ?_ ?_) ZA ZF (none_hide (by exact .tail _ (.tail _ (.head _)))) (none_hide (by exact .tail _ (.tail _ (.tail _ (.head _))))) (none_hide (by exact .head _)) (none_hide (by exact .tail _ (.head _))) (by omega) (by omega) ?_ ?_ ?_ ?_ fun h4 k4 t4 x4 ZA4 ZF4 => ?_
    · exact n4 (nd_at nd 4 3 rfl rfl (by decide)) (nd_at nd 4 2 rfl rfl (by decide)) (nd_at nd 4 1 rfl rfl (by decide)) (nd_at nd 4 0 rfl rfl (by decide))
    · exact n4 (nd_at nd 5 3 rfl rfl (by decide)) (nd_at nd 5 2 rfl rfl (by decide)) (nd_at nd 5 1 rfl rfl (by decide)) (nd_at nd 5 0 rfl rfl (by decide))
    · exact (nd_at nd 1 3 rfl rfl (by decide))
    · exact (nd_at nd 1 2 rfl rfl (by decide))
    · exact (nd_at nd 0 3 rfl rfl (by decide))
    · exact (nd_at nd 0 2 rfl rfl (by decide))
    obtain ⟨ts2, mm2, et2, -⟩ := ZA4.t
    obtain ⟨oa2, ka2, ea2, -⟩ := ZA4.d
    obtain ⟨fs2, mm3, ef2, -⟩ := ZF4.f
    obtain ⟨od2, xs2, ed2, -⟩ := ZF4.d
    replace S := S.chgL (ups := [(tx, lo ts2 mm2), (an, oa2), (fl, lo fs2 mm3), (fn, od2)]) x4 (.cons (by exact .tl (.tl (.tl (.tl .hd)))) (.cons (by exact .tl (.tl (.tl .hd))) (.cons (by exact .tl (.tl .hd)) (.cons (by exact .tl .hd) .nil)))) (Mine.m4 et2 ea2 ef2 ed2)
    with_reducible refine And_int ?_
    with_reducible refine X_nil ?_
    have := adds_len (F := LL) (p := s)
    have := add_len (F := F) (p := (atn LL s, w))
    refine hQn _ _ _ _ _ (by first | exact .inl rfl | exact .inr rfl) S (.mk (S.drop (List.sublist_cons_self _ _)).hs ZA4 ZF4 (by omega) (by omega) fun _ => ?_)
    rcases Nat.eq_zero_or_pos i with h0 | h0
    · subst h0
      have hF : F = [] := List.eq_nil_of_length_eq_zero (by omega)
      subst hF
      rw [hr0] at hv
      cases hv
      have e8 := hb2.inj (hr1.tk tk)
      simp at e8
      obtain rfl : w = 2 := e8.2.1
      exact ⟨atn LL s, by simp [addP]⟩
    · obtain ⟨a, ha⟩ := hz h0
      exact ⟨a, (add_ext 0 (some_lt ha)).trans ha⟩
  rintro i_ vs σ h2 @⟨w1, w2, on, of, ot, oa, LL, F, i_, h2, hled, ZA, ZF, hl, hl2, hz⟩ rfl h1 k1 S tk
  have hg : ∀ a ∈ [tx, an, fl, fn], ∀ o, h2.get? a = some o → h1.get? a = some o := fun a ha o e => led_mv hled S.hs (fun p hp => hp) a (mT4 a ha) o e
  replace ZA : SA V h1 tx an LL := ZA.mv fun a ha => hg a (m24 a ha)
  replace ZF : SF V h1 fl fn F := ZF.mv (fun a ha => hg a (m34 a ha)) tk
  with_reducible refine Nx_next ?_
  with_reducible refine X_nil ?_
  exact q _ _ es m tx an fl fn LL F ((S.re tkh).back hB) (S.has (by exact .t3 .h1)) (S.has (by exact .t3 .h2)) E4 hNo' ((List.reverse_perm [fn, fl, an, tx]).nodup_iff.mpr ((List.take_sublist 4 [fn, fl, an, tx, x, dx]).nodup nd)) ZA ZF (by omega) (by omega) (hz (by omega))
end
end
section
open PySem PySem.W PyProof.Rows PySem.Calls
set_option hygiene false
section
variable {V : Vw} {B₀ h : Heap} {A : Around} {k : Nat} {Q : Value → Heap → Nat → Prop} {x dx sy : Addr} {n : Nat}
set_option maxHeartbeats 8000000 in
theorem init380_ (G : Wd (hd.heap_39 V.w.params) B₀ h) (R : Room A (n + 2)) (e1 : h.get? x = some (instObj 380 dx)) (e2 : h.get? dx = some (dictOf [] 0)) (f1 : B₀.get? x = none) (f2 : B₀.get? dx = none) (ne : x ≠ dx)
    (q : ∀ h' k' es m hp st tr t1 t2 t3, Chg [x, dx] h h' → h'.get? x = some (instObj 380 dx) → h'.get? dx = some (dictOf es m) → Ents es (cellsF sy hp st tr t1 t2 t3) → (∀ a ∈ [hp, st, tr], h.get? a = none) → [hp, st, tr].Nodup →
      h'.get? hp = some (lo [] 0) → h'.get? st = some (lo [] 0) → h'.get? tr = some (lo [] 0) → Q .none h' k') :
    CW V A (.ref 194) (.ref x :: [.ref sy]) Q h k := by
  refine' C_enter (binds := [("self", .ref x), ("symbols", .ref sy), ("max_heap", .int 100000 ?t)]) G R ?ho ?hcd [(x, instObj 380 dx), (dx, dictOf [] 0)] (by simpa using ⟨⟨e1, f1⟩, e2, f2⟩) (by simpa using ne) ?hb ?he ?nn ?nb ?_ ?hcell ?hco ?hgen ?hk
  case ho => k_is
  case hcd => k_is
  case hb =>
    refine' binds_K (T := 187) G.k rfl ?ho2 ?hs ?h1 ?h2
    case ho2 => k_is
    case hs => rfl
    case h1 => rfl
    case h2 => rfl
  case he => repeat constructor
  case nn => decide
  case nb => decide
  case hcell => decide
  case hco => rfl
  case hgen => rfl
  case hk => rfl
  intro A B L h1 k1 G S hB hB' R
  dsimp only at S
  have plain : ∀ {nm : Str}, True := trivial
  with_reducible refine X_attr ?_
  with_reducible refine' E_loc (by assumption) ?c1 ?_
  case c1 => exact .h1
  with_reducible refine' E_loc (by assumption) ?c1 ?_
  case c1 => exact .hd
  refine A_set (τ := fun o => [(x, instObj 380 dx), (dx, o)]) G S (by exact .hd) (by exact .h1) .nil cls380.a cls380.b (by k_is) cls380.d rfl (by decide) (fun o => by exact .tl .hd) fun es1 m1 h1 E1 L1 S => ?_
  with_reducible refine X_attr ?_
  with_reducible refine' E_loc (by assumption) ?c1 ?_
  case c1 => exact .h2
  with_reducible refine' E_loc (by assumption) ?c1 ?_
  case c1 => exact .hd
  refine A_set (τ := fun o => [(x, instObj 380 dx), (dx, o)]) G S (by exact .hd) (by exact .h1) E1 cls380.a cls380.b (by k_is) cls380.d rfl (by rw [L1]; decide) (fun o => by exact .tl .hd) fun es2 m2 h1 E2 L2 S => ?_
  with_reducible refine X_attr ?_
  with_reducible refine E_list ?_
  with_reducible refine S_nil ?_
  with_reducible refine' N_lst (by assumption) ?_
  intro l1 h1 S
  with_reducible refine' E_loc (by assumption) ?c1 ?_
  case c1 => exact .hd
  rename Addr => hp
  refine A_set (τ := fun o => [(hp, lo [] 0), (x, instObj 380 dx), (dx, o)]) G S (by exact .h1) (by exact .h2) E2 cls380.a cls380.b (by k_is) cls380.d rfl (by rw [L2, L1]; decide) (fun o => by exact .tl (.tl .hd)) fun es3 m3 h1 E3 L3 S => ?_
  with_reducible refine X_attr ?_
  with_reducible refine E_list ?_
  with_reducible refine S_nil ?_
  with_reducible refine' N_lst (by assumption) ?_
  intro l1 h1 S
  with_reducible refine' E_loc (by assumption) ?c1 ?_
  case c1 => exact .hd
  rename Addr => st
  refine A_set (τ := fun o => [(st, lo [] 0), (hp, lo [] 0), (x, instObj 380 dx), (dx, o)]) G S (by exact .h2) (by exact .t3 .hd) E3 cls380.a cls380.b (by k_is) cls380.d rfl (by rw [L3, L2, L1]; decide) (fun o => by exact .tl (.tl (.tl .hd))) fun es4 m4 h1 E4 L4 S => ?_
  with_reducible refine X_attr ?_
  with_reducible refine E_list ?_
  with_reducible refine S_nil ?_
  with_reducible refine' N_lst (by assumption) ?_
  intro l1 h1 S
  with_reducible refine' E_loc (by assumption) ?c1 ?_
  case c1 => exact .hd
  rename Addr => tr
  refine A_set (τ := fun o => [(tr, lo [] 0), (st, lo [] 0), (hp, lo [] 0), (x, instObj 380 dx), (dx, o)]) G S (by exact .t3 .hd) (by exact .t3 .h1) E4 cls380.a cls380.b (by k_is) cls380.d rfl (by rw [L4, L3, L2, L1]; decide) (fun o => by exact .tl (.tl (.tl (.tl .hd)))) fun es5 m5 h1 E5 L5 S => ?_
  with_reducible refine X_attr ?_
  with_reducible refine E_int ?_
  with_reducible refine' E_loc (by assumption) ?c1 ?_
  case c1 => exact .hd
  refine A_set (τ := fun o => [(tr, lo [] 0), (st, lo [] 0), (hp, lo [] 0), (x, instObj 380 dx), (dx, o)]) G S (by exact .t3 .hd) (by exact .t3 .h1) E5 cls380.a cls380.b (by k_is) cls380.d rfl (by rw [L5, L4, L3, L2, L1]; decide) (fun o => by exact .tl (.tl (.tl (.tl .hd)))) fun es6 m6 h1 E6 L6 S => ?_
  with_reducible refine X_attr ?_
  with_reducible refine E_int ?_
  with_reducible refine' E_loc (by assumption) ?c1 ?_
  case c1 => exact .hd
  refine A_set (τ := fun o => [(tr, lo [] 0), (st, lo [] 0), (hp, lo [] 0), (x, instObj 380 dx), (dx, o)]) G S (by exact .t3 .hd) (by exact .t3 .h1) E6 cls380.a cls380.b (by k_is) cls380.d rfl (by rw [L6, L5, L4, L3, L2, L1]; decide) (fun o => by exact .tl (.tl (.tl (.tl .hd)))) fun es7 m7 h1 E7 L7 S => ?_
  with_reducible refine X_nil ?_
  have nd := S.nd
  have hNo : ∀ a ∈ [hp, st, tr], B.get? a = none := Mine.m3 (S.no (o := lo [] 0) (by exact .h2)) (S.no (o := lo [] 0) (by exact .h1)) (S.no (o := lo [] 0) (by exact .hd))
  have hM : ∀ a ∈ [hp, st, tr], a ∉ [x, dx] := Mine.m3 (n2 (nd_at nd 2 3 rfl rfl (by decide)) (nd_at nd 2 4 rfl rfl (by decide))) (n2 (nd_at nd 1 3 rfl rfl (by decide)) (nd_at nd 1 4 rfl rfl (by decide))) (n2 (nd_at nd 0 3 rfl rfl (by decide)) (nd_at nd 0 4 rfl rfl (by decide)))
  refine q _ _ es7 m7 hp st tr _ _ _ (S.back hB) (S.has (by exact .t3 .hd)) (S.has (by exact .t3 .h1)) E7 (fun a ha => ?_) ((List.reverse_perm [tr, st, hp]).nodup_iff.mpr ((List.take_sublist 3 [tr, st, hp, x, dx]).nodup nd)) (S.has (by exact .h2)) (S.has (by exact .h1)) (S.has (by exact .hd))
  cases q9 : h.get? a with
  | none => rfl
  | some o9 =>
    have := hB _ _ q9 (hM a ha)
    rw [hNo a ha] at this; cases this
end
end
section
open PySem PySem.W PyProof.Rows PySem.Calls
set_option hygiene true
noncomputable def numL (ev : Int → Tr) : List Tr → List Int → List Tr × List Int
  | [], sn => ([], sn)
  | t :: r, sn => ((num (res ev t) sn).1 :: (numL ev r (num (res ev t) sn).2).1, (numL ev r (num (res ev t) sn).2).2)
section
variable {ev : Int → Tr} {t : Tr} {sn : List Int}
theorem numL_snoc : ∀ {l : List Tr} {sn : List Int}, numL ev (l ++ [t]) sn = ((numL ev l sn).1 ++ [(num (res ev t) (numL ev l sn).2).1], (num (res ev t) (numL ev l sn).2).2)
  | [], sn => rfl
  | a :: l, sn => by simp [numL, numL_snoc]
theorem num_cmp (l : t.leaf = false) : num (res ev t) sn = (mkT t.fn (numL ev t.kids sn).1, (numL ev t.kids sn).2) := by
  cases t <;> simp_all [Tr.leaf, res, num, Tr.fn, Tr.kids, numL, mkT]
theorem kids12 (l : t.leaf = false) : t.kids.length = 1 ∨ t.kids.length = 2 := by cases t <;> simp_all [Tr.leaf, Tr.kids]
theorem numL_one : ∀ {l : List Tr} {sn : List Int}, (numL ev l sn).1.length = l.length
  | [], sn => rfl
  | a :: l, sn => by simp [numL, numL_one (l := l)]
theorem res_sz (lf : ∀ k, 0 ≤ k → k < 4 → (ev k).leaf = true) : ∀ {t : Tr}, t.ok → (res ev t).sz = t.sz
  | .v n, o => by rw [show res ev (.v n) = ev n from rfl, leaf_sz (lf n o.1 o.2)]; rfl
  | .a n, o => rfl
  | .i n, o => rfl
  | .s1 f x, o => by simp only [res, Tr.sz]; rw [res_sz lf (t := x) o]
  | .s2 f x y, o => by simp only [res, Tr.sz]; rw [res_sz lf (t := x) o.1, res_sz lf (t := y) o.2]
theorem numL_len (lf : ∀ k, 0 ≤ k → k < 4 → (ev k).leaf = true) : ∀ {l : List Tr} {sn : List Int}, (∀ x ∈ l, x.ok) → (numL ev l sn).2.length ≤ sn.length + (l.map Tr.sz).sum
  | [], sn, _ => by simp [numL]
  | a :: l, sn, o => by
    have h1 := (num_len (res ev a) sn).2
    rw [res_sz lf (o a (.head _))] at h1
    have h2 := numL_len lf (l := l) (sn := (num (res ev a) sn).2) fun x hx => o x (.tail _ hx)
    simp only [numL, List.map_cons, List.sum_cons]
    omega
end
end
section
open PySem PySem.W PyProof.Rows PySem.Calls
set_option hygiene false
inductive JNu (ev : Int → Tr) (T : Tr) (sn : List Int) (a en se l : Addr) : Nat → List (Option Value) → List (Addr × Obj) → Heap → Prop
  | mk {i : Nat} {w : Option Value} {ps ss : List Value} {m1 m2 : Nat} {h : Heap} (hps : All2 (fun v T => Rd h v (enc T)) ps (numL ev (T.kids.take i) sn).1) (hss : IntsAre ss (numL ev (T.kids.take i) sn).2) :
    JNu ev T sn a en se l i [some (.ref a), some (.ref en), some (.ref se), some (.ref l), w] [(l, lo ps m1), (se, lo ss m2)] h
section
variable {V : Vw} {B₀ : Heap} {en se : Addr} {ev : Int → Tr} {es : List Value}
set_option maxHeartbeats 8000000 in
theorem numbered_ (lf : ∀ k, 0 ≤ k → k < 4 → (ev k).leaf = true) (fr : B₀.get? se = none) (ne : en ≠ se) (he4 : ∀ k : Int, 0 ≤ k → k < 4 → ∃ w, es[k.toNat]? = some w) :
    ∀ (N : Nat) (T : Tr), T.sz ≤ N → ∀ {A : Around} {h : Heap} {k : Nat} {Q : Value → Heap → Nat → Prop} {n m m2 : Nat} {v : Value} {ss : List Value} {sn : List Int} (G : Wd (hd.heap_39 V.w.params) B₀ h) (R : Room A (n + N + 2))
      (rv : Rd h v (enc T)) (o : T.ok) (een : h.get? en = some (lo es m)) (hes : ∀ (k : Int) w, 0 ≤ k → k < 4 → es[k.toNat]? = some w → Rd h w (enc (ev k))) (ese : h.get? se = some (lo ss m2)) (his : IntsAre ss sn) (hsz : sn.length + T.sz ≤ 1000)
      (q : ∀ h' k' v' ss' m', Chg [se] h h' → Rd h' v' (enc (num (res ev T) sn).1) → h'.get? se = some (lo ss' m') → IntsAre ss' (num (res ev T) sn).2 → Q v' h' k'),
      W V A (call (.ref 471) ([] ++ [v, .ref en, .ref se])) Q h k := by
  intro N
  induction N with
  | zero => intro T hT; have := T.sz_pos; omega
  | succ N ih =>
  intro T hT A h k Q n m m2 v ss sn G R rv o een hes ese his hsz q
  have va : ∃ a, v = .ref a := by cases T <;> (obtain ⟨a, _, e, _⟩ := rv.untup; exact ⟨a, e⟩)
  obtain ⟨a, rfl⟩ := va
  refine' W_enter (binds := [("tree", .ref a), ("ends", .ref en), ("seen", .ref se)]) G R ?ho ?hcd [(se, lo ss m2)] (by simpa using ⟨ese, fr⟩) (by simp) ?hb ?he ?nn ?nb ?_ ?hcell ?hco ?hgen ?hk
  case ho => k_is
  case hcd => k_is
  case hb => exact BindsTo.of_eq rfl
  case he => repeat constructor
  case nn => decide
  case nb => decide
  case hcell => decide
  case hco => rfl
  case hgen => rfl
  case hk => rfl
  intro A B L h1 k1 G S hB hB' R
  dsimp only at S
  have een' : B.get? en = some (lo es m) := hB _ _ een (by simpa using ne)
  cases hl : T.leaf with
  | true =>
    cases T with
    | s1 => cases hl
    | s2 => cases hl
    | a n =>
      obtain ⟨a', t, u, e9, Tp1⟩ := rd_leaf rv
      cases e9
      with_reducible refine X_ifc ?_
      with_reducible refine' E_tI (by assumption) ?c1 ?c2 ?_ ?c4
      case c1 => exact .hd
      case c2 => assumption
      case c4 => rfl
      with_reducible refine E_str ?_
      with_reducible refine q_se ?_
      refine ⟨fun c => absurd c (by decide), fun _ => ?_⟩
      with_reducible refine X_nn ?_
      with_reducible refine X_ifc ?_
      with_reducible refine' E_tI (by assumption) ?c1 ?c2 ?_ ?c4
      case c1 => exact .hd
      case c2 => assumption
      case c4 => rfl
      with_reducible refine E_str ?_
      with_reducible refine q_se ?_
      refine ⟨fun c => absurd c (by decide), fun _ => ?_⟩
      with_reducible refine X_nn ?_
      with_reducible refine X_ifc ?_
      with_reducible refine' E_tI (by assumption) ?c1 ?c2 ?_ ?c4
      case c1 => exact .hd
      case c2 => assumption
      case c4 => rfl
      with_reducible refine E_str ?_
      with_reducible refine q_se ?_
      refine ⟨fun c => absurd c (by decide), fun _ => ?_⟩
      with_reducible refine X_nn ?_
      with_reducible refine X_ret ?_
      with_reducible refine' E_loc (by assumption) ?c1 ?_
      case c1 => exact .hd
      exact q _ _ _ _ _ (S.back hB) (rv.tk S.tup) (S.has .hd) his
    | i n =>
      obtain ⟨a', t, u, e9, Tp1⟩ := rd_leaf rv
      cases e9
      with_reducible refine X_ifc ?_
      with_reducible refine' E_tI (by assumption) ?c1 ?c2 ?_ ?c4
      case c1 => exact .hd
      case c2 => assumption
      case c4 => rfl
      with_reducible refine E_str ?_
      with_reducible refine q_se ?_
      refine ⟨fun c => absurd c (by decide), fun _ => ?_⟩
      with_reducible refine X_nn ?_
      with_reducible refine X_ifc ?_
      with_reducible refine' E_tI (by assumption) ?c1 ?c2 ?_ ?c4
      case c1 => exact .hd
      case c2 => assumption
      case c4 => rfl
      with_reducible refine E_str ?_
      with_reducible refine q_se ?_
      refine ⟨fun c => absurd c (by decide), fun _ => ?_⟩
      with_reducible refine X_nn ?_
      with_reducible refine X_ifc ?_
      with_reducible refine' E_tI (by assumption) ?c1 ?c2 ?_ ?c4
      case c1 => exact .hd
      case c2 => assumption
      case c4 => rfl
      with_reducible refine E_str ?_
      with_reducible refine q_se ?_
      refine ⟨fun c => absurd c (by decide), fun _ => ?_⟩
      with_reducible refine X_nn ?_
      with_reducible refine X_ret ?_
      with_reducible refine' E_loc (by assumption) ?c1 ?_
      case c1 => exact .hd
      exact q _ _ _ _ _ (S.back hB) (rv.tk S.tup) (S.has .hd) his
    | v n =>
      obtain ⟨a', t, u, e9, Tp1⟩ := rd_leaf rv
      cases e9
      obtain ⟨w, hw⟩ := he4 n o.1 o.2
      have rw9 := hes n w o.1 o.2 hw
      have hn2 := o.2
      have hn1 := o.1
      with_reducible refine X_ifc ?_
      with_reducible refine' E_tI (by assumption) ?c1 ?c2 ?_ ?c4
      case c1 => exact .hd
      case c2 => assumption
      case c4 => rfl
      with_reducible refine E_str ?_
      with_reducible refine q_se ?_
      refine ⟨fun _ => ?_, fun c => absurd c (by decide)⟩
      with_reducible refine X_name ?_
      with_reducible refine E_sub ?_
      with_reducible refine' E_loc (by assumption) ?c1 ?_
      case c1 => exact .h1
      with_reducible refine' E_tI (by assumption) ?c1 ?c2 ?_ ?c4
      case c1 => exact .hd
      case c2 => assumption
      case c4 => rfl
      refine I_lst (S.base _ _ een') ?_ hw hn1 (by (clear hn1; omega)) (by with_unfolding_all rfl)
      rw [show res ev (.v n) = ev n from rfl] at q
      have lfn := lf n hn1 hn2
      cases hev : ev n with
      | s1 => rw [hev] at lfn; cases lfn
      | s2 => rw [hev] at lfn; cases lfn
      | a j =>
        rw [hev] at q rw9
        obtain ⟨a2, t, u, rfl, Tp2⟩ := rd_leaf rw9
        with_reducible refine' N_st (by assumption) ?c1 ?_
        case c1 => exact .hd
        intro h1 S
        with_reducible refine X_nn ?_
        with_reducible refine X_ifc ?_
        with_reducible refine' E_tI (by assumption) ?c1 ?c2 ?_ ?c4
        case c1 => exact .hd
        case c2 => assumption
        case c4 => rfl
        with_reducible refine E_str ?_
        with_reducible refine q_se ?_
        refine ⟨fun c => absurd c (by decide), fun _ => ?_⟩
        with_reducible refine X_nn ?_
        with_reducible refine X_ifc ?_
        with_reducible refine' E_tI (by assumption) ?c1 ?c2 ?_ ?c4
        case c1 => exact .hd
        case c2 => assumption
        case c4 => rfl
        with_reducible refine E_str ?_
        with_reducible refine q_se ?_
        refine ⟨fun c => absurd c (by decide), fun _ => ?_⟩
        with_reducible refine X_nn ?_
        with_reducible refine X_ret ?_
        with_reducible refine' E_loc (by assumption) ?c1 ?_
        case c1 => exact .hd
        exact q _ _ _ _ _ (S.back hB) (rw9.tk S.tup) (S.has .hd) his
      | i j =>
        rw [hev] at q rw9
        obtain ⟨a2, t, u, rfl, Tp2⟩ := rd_leaf rw9
        with_reducible refine' N_st (by assumption) ?c1 ?_
        case c1 => exact .hd
        intro h1 S
        with_reducible refine X_nn ?_
        with_reducible refine X_ifc ?_
        with_reducible refine' E_tI (by assumption) ?c1 ?c2 ?_ ?c4
        case c1 => exact .hd
        case c2 => assumption
        case c4 => rfl
        with_reducible refine E_str ?_
        with_reducible refine q_se ?_
        refine ⟨fun c => absurd c (by decide), fun _ => ?_⟩
        with_reducible refine X_nn ?_
        with_reducible refine X_ifc ?_
        with_reducible refine' E_tI (by assumption) ?c1 ?c2 ?_ ?c4
        case c1 => exact .hd
        case c2 => assumption
        case c4 => rfl
        with_reducible refine E_str ?_
        with_reducible refine q_se ?_
        refine ⟨fun c => absurd c (by decide), fun _ => ?_⟩
        with_reducible refine X_nn ?_
        with_reducible refine X_ret ?_
        with_reducible refine' E_loc (by assumption) ?c1 ?_
        case c1 => exact .hd
        exact q _ _ _ _ _ (S.back hB) (rw9.tk S.tup) (S.has .hd) his
      | v j =>
        rw [hev] at q rw9
        obtain ⟨a2, t, u, rfl, Tp2⟩ := rd_leaf rw9
        with_reducible refine' N_st (by assumption) ?c1 ?_
        case c1 => exact .hd
        intro h1 S
        with_reducible refine X_nn ?_
        with_reducible refine X_ifc ?_
        with_reducible refine' E_tI (by assumption) ?c1 ?c2 ?_ ?c4
        case c1 => exact .hd
        case c2 => assumption
        case c4 => rfl
        with_reducible refine E_str ?_
        with_reducible refine q_se ?_
        refine ⟨fun _ => ?_, fun c => absurd c (by decide)⟩
        with_reducible refine X_ifc ?_
        with_reducible refine' E_tI (by assumption) ?c1 ?c2 ?_ ?c4
        case c1 => exact .hd
        case c2 => assumption
        case c4 => rfl
        with_reducible refine' E_loc (by assumption) ?c1 ?_
        case c1 => exact .h2
        refine nin_lst (S.has .hd) his ?_
        with_reducible refine truthy_b ?_
        simp only [Tr.sz] at hsz
        refine ⟨fun c => ?_, fun c => ?_⟩
        · have hm : j ∉ sn := by simpa using c
          with_reducible refine X_expr ?_
          with_reducible refine E_meth ?_
          with_reducible refine' E_loc (by assumption) ?c1 ?_
          case c1 => exact .h2
          with_reducible refine' MC_append ?c0 ?_
          case c0 => exact St.has (by assumption) (by exact .hd)
          with_reducible refine C_bi ?_
          with_reducible refine S_cons ?_
          with_reducible refine' E_tI (by assumption) ?c1 ?c2 ?_ ?c4
          case c1 => exact .hd
          case c2 => assumption
          case c4 => rfl
          with_reducible refine S_nil ?_
          refine C_append S .hd .hd (fun h1 S => ?_) (by have := his.length; omega)
          with_reducible refine And_none ?_
          with_reducible refine X_nn ?_
          with_reducible refine X_ret ?_
          with_reducible refine E_tuple ?_
          with_reducible refine S_cons ?_
          with_reducible refine E_str ?_
          with_reducible refine S_cons ?_
          with_reducible refine E_meth ?_
          with_reducible refine' E_loc (by assumption) ?c1 ?_
          case c1 => exact .h2
          with_reducible refine' MC_index ?c0 ?_
          case c0 => exact St.has (by assumption) (by exact .hd)
          with_reducible refine C_bi ?_
          with_reducible refine S_cons ?_
          with_reducible refine' E_tI (by assumption) ?c1 ?c2 ?_ ?c4
          case c1 => exact .hd
          case c2 => assumption
          case c4 => rfl
          with_reducible refine S_nil ?_
          refine C_index (S.has .hd) (ints_snoc his) (by simp) (by simp; omega) fun k9 => ?_
          with_reducible refine S_nil ?_
          with_reducible refine' N_tup (by assumption) ?_
          intro t1 h1 S
          with_reducible refine Nx_ret ?_
          have e7 : num (.v j) sn = (.v (sn.length : Nat), sn ++ [j]) := if_neg hm
          rw [e7] at q
          have e8 : (sn ++ [j]).idxOf j = sn.length := by rw [List.idxOf_append, if_neg hm]; simp
          rw [e8] at S
          exact q _ _ _ _ _ (S.back hB) (Rd.tup (to_tp (S.has .hd)) (Rd.cons (Reads.str _ _) (Rd.cons (Reads.int _ _) .nil))) (S.has (.tl .hd)) (ints_snoc his)
        · have hm : j ∈ sn := by simpa using c
          with_reducible refine X_nn ?_
          with_reducible refine X_ret ?_
          with_reducible refine E_tuple ?_
          with_reducible refine S_cons ?_
          with_reducible refine E_str ?_
          with_reducible refine S_cons ?_
          with_reducible refine E_meth ?_
          with_reducible refine' E_loc (by assumption) ?c1 ?_
          case c1 => exact .h2
          with_reducible refine' MC_index ?c0 ?_
          case c0 => exact St.has (by assumption) (by exact .hd)
          with_reducible refine C_bi ?_
          with_reducible refine S_cons ?_
          with_reducible refine' E_tI (by assumption) ?c1 ?c2 ?_ ?c4
          case c1 => exact .hd
          case c2 => assumption
          case c4 => rfl
          with_reducible refine S_nil ?_
          refine C_index (S.has .hd) his hm (by omega) fun k9 => ?_
          with_reducible refine S_nil ?_
          with_reducible refine' N_tup (by assumption) ?_
          intro t1 h1 S
          with_reducible refine Nx_ret ?_
          have e7 : num (.v j) sn = (.v (sn.idxOf j : Nat), sn) := if_pos hm
          rw [e7] at q
          exact q _ _ _ _ _ (S.back hB) (Rd.tup (to_tp (S.has .hd)) (Rd.cons (Reads.str _ _) (Rd.cons (Reads.int _ _) .nil))) (S.has (.tl .hd)) his
  | false =>
    obtain ⟨a', x, y, b, ks, e9, Tp1, Tp2, hk⟩ := rd_cmp hl rv
    cases e9
    with_reducible refine X_ifc ?_
    with_reducible refine' E_tI (by assumption) ?c1 ?c2 ?_ ?c4
    case c1 => exact .hd
    case c2 => assumption
    case c4 => rfl
    with_reducible refine E_str ?_
    with_reducible refine q_se ?_
    refine ⟨fun c => absurd c (by decide), fun _ => ?_⟩
    with_reducible refine X_nn ?_
    with_reducible refine X_ifc ?_
    with_reducible refine' E_tI (by assumption) ?c1 ?c2 ?_ ?c4
    case c1 => exact .hd
    case c2 => assumption
    case c4 => rfl
    with_reducible refine E_str ?_
    with_reducible refine q_se ?_
    refine ⟨fun c => absurd c (by decide), fun _ => ?_⟩
    with_reducible refine X_nn ?_
    with_reducible refine X_ifc ?_
    with_reducible refine' E_tI (by assumption) ?c1 ?c2 ?_ ?c4
    case c1 => exact .hd
    case c2 => assumption
    case c4 => rfl
    with_reducible refine E_str ?_
    with_reducible refine q_se ?_
    refine ⟨fun _ => ?_, fun c => absurd c (by decide)⟩
    with_reducible refine X_name ?_
    with_reducible refine E_list ?_
    with_reducible refine S_nil ?_
    with_reducible refine' N_lst (by assumption) ?_
    intro l1 h1 S
    with_reducible refine' N_st (by assumption) ?c1 ?_
    case c1 => exact .t3 .hd
    intro h1 S
    with_reducible refine X_for ?_
    with_reducible refine' E_tI (by assumption) ?c1 ?c2 ?_ ?c4
    case c1 => exact .hd
    case c2 => assumption
    case c4 => rfl
    have hks := hk.len
    have tkh := S.tup
    replace S := S.pool
    have T2 := Tp2.tk tkh
    refine iter_tup S T2 fun I o' h1 so S => ?_
    have tkh := tkh.trans S.tup
    replace S := S.pool
    have T2 := Tp2.tk tkh
    have T1 := Tp1.tk tkh
    have hsum := kids_sz hl
    have hok := kids_ok o
    refine N_for (JNu ev T sn a en se l1)
      (itr_tup b ks) R.1 S so (.mk (ps := []) (by simp [numL, All2]) (by simpa [numL] using his)) 4 rfl ?_ ?_ ?_ ?_ rfl rfl
    · rintro i vs σ h2 ⟨⟩
      rfl
    · rintro i vs σ h2 _ o S
      exact T2.tk S.tup
    · rintro i vs σ h2 @⟨w, ps, ss, m1, m2, h2, hps, hss⟩ hi tk v o2 h1 k1 hv S Qt hQr hQn
      dsimp only [List.set] at S
      have hi2 : i < T.kids.length := by omega
      have hkt : T.kids[i]? = some T.kids[i] := List.getElem?_eq_getElem hi2
      obtain ⟨v', e8, rdv⟩ := hk.get hkt
      rw [hv] at e8; cases e8
      have hmem : T.kids[i] ∈ T.kids := List.getElem_mem hi2
      have hsz1 := le_sum (List.mem_map_of_mem (f := Tr.sz) hmem)
      have hlen := numL_len lf (l := T.kids.take i) (sn := sn) fun x hx => hok x (List.mem_of_mem_take hx)
      have hsp : ((T.kids.take i).map Tr.sz).sum + T.kids[i].sz ≤ (T.kids.map Tr.sz).sum := by
        have e5 : T.kids = T.kids.take i ++ T.kids[i] :: T.kids.drop (i + 1) := by rw [← List.drop_eq_getElem_cons hi2, List.take_append_drop]
        have e6 := congrArg (fun l => (l.map Tr.sz).sum) e5
        simp only [List.map_append, List.sum_append, List.map_cons, List.sum_cons] at e6
        omega
      with_reducible refine X_expr ?_
      with_reducible refine E_meth ?_
      with_reducible refine' E_loc (by assumption) ?c1 ?_
      case c1 => exact .t3 .hd
      with_reducible refine' MC_append ?c0 ?_
      case c0 => exact St.has (by assumption) (by exact .h1)
      with_reducible refine C_bi ?_
      with_reducible refine S_cons ?_
      with_reducible refine' E_cg (by assumption) (by assumption) ?c2 ?c3 ?c4 ?_
      case c2 => exact .tl (.tl (.tl (.tl (.tl .hd))))
      case c3 => k_is
      case c4 => k_is
      with_reducible refine' S_loc (by assumption) ?c1 ?_
      case c1 => exact .t3 .h1
      with_reducible refine' S_loc (by assumption) ?c1 ?_
      case c1 => exact .h1
      with_reducible refine' S_locL (by assumption) ?c1 ?_
      case c1 => exact .h2
      with_reducible refine' Krf_go (by assumption) (by assumption) ?_
      have een1 : h1.get? en = some (lo es m) := S.base _ _ een'
      have tkv := tkh.trans (tk.trans S.tup)
      refine ih T.kids[i] (by omega) (n := n) (G.st S) R (rdv.tk tkv) (hok _ hmem) een1 (fun k w a b c => (hes k w a b c).tk tkv) (S.has (by exact .h2)) hss (by omega) fun h3 k3 v3 ss3 m3 x3 rd3 es3 is3 => ?_
      replace S := S.chgL (ups := [(se, lo ss3 m3)]) x3 (.cons (by exact .tl (.tl .hd)) .nil) (by simpa using es3)
      have tk3 := S.tup
      replace S := S.pool
      have hpl := hps.len
      rw [numL_one] at hpl
      have hp2 : ps.length ≤ 1000000 := by
        have h1 : (T.kids.take i).length ≤ i := by rw [List.length_take]; (clear hks; omega)
        have h2 : T.kids.length ≤ 2 := by cases T <;> simp [Tr.kids]
        (clear hks; omega)
      with_reducible refine S_nil ?_
      refine C_append S (by exact .h1) (by exact .tl .hd) (fun h1 S => ?_) hp2
      with_reducible refine And_none ?_
      with_reducible refine X_nil ?_
      refine hQn _ _ _ _ _ (by first | exact .inl rfl | exact .inr rfl) (S.re tk3) (.mk ?_ ?_)
      · rw [List.take_succ_eq_append_getElem hi2, numL_snoc]
        exact (hps.imp fun v e z => z.tk (tk3.trans S.tup)).snoc (rd3.tk S.tup)
      · rw [List.take_succ_eq_append_getElem hi2, numL_snoc]
        exact is3
    · rintro i_ vs σ h2 @⟨w, ps, ss, m1, m2, h2, hps, hss⟩ rfl h1 k1 S tk
      rw [hks, List.take_length] at hps hss
      have hpl := hps.len
      rw [numL_one] at hpl
      have hk2 : T.kids.length = 1 ∨ T.kids.length = 2 := kids12 hl
      replace tkh := tkh.trans S.tup
      have T1 := T1.tk S.tup
      have hps := hps.imp fun v e (z : Rd h2 v (enc e)) => z.tk tk
      replace S := S.pool
      with_reducible refine Nx_next ?_
      with_reducible refine X_ret ?_
      with_reducible refine E_tuple ?_
      with_reducible refine S_cons ?_
      with_reducible refine E_str ?_
      with_reducible refine S_cons ?_
      with_reducible refine' E_tI (by assumption) ?c1 ?c2 ?_ ?c4
      case c1 => exact .hd
      case c2 => assumption
      case c4 => rfl
      with_reducible refine S_cons ?_
      with_reducible refine E_call ?_
      with_reducible refine' E_bi (by assumption) (by assumption) ?c2 ?c3 ?c4 ?c5 ?_
      case c2 => exact .tl (.tl (.tl (.tl (.tl (.tl .hd)))))
      case c3 => k_is
      case c4 => boot_by_name
      case c5 => decide
      with_reducible refine C_ty ?_
      with_reducible refine' S_locL (by assumption) ?c1 ?_
      case c1 => exact .t3 .hd
      refine C_tupL S (S.has (by exact .hd)) (by omega) fun t9 h9 S => ?_
      with_reducible refine S_nil ?_
      with_reducible refine' N_tup (by assumption) ?_
      intro t1 h1 S
      with_reducible refine Nx_ret ?_
      have e7 := num_cmp (ev := ev) (sn := sn) hl
      rw [e7] at q
      refine q _ _ _ _ _ ((S.re tkh).back hB) ?_ (S.has (by exact .t3 .hd)) hss
      rw [enc_mk (by rw [numL_one]; exact hk2)]
      exact Rd.tup (to_tp (S.has .hd)) (Rd.cons (Reads.str _ _) (Rd.cons (Reads.int _ _) (Rd.cons (Rd.tup (to_tp (S.has (.tl .hd))) (rdAll (hps.imp fun v e z => z.tk S.tup))) .nil)))
end
end
section
open PySem PySem.W PyProof.Rows PySem.Calls
set_option hygiene false
noncomputable abbrev ren (ρ : Int → Int) : Tr → Tr := res fun k => .v (ρ k)
inductive JCh (T : Tr) (ρ : Int → Int) (c : Addr) (oc : Obj) : Nat → List Value → List (Addr × Obj) → Heap → Prop
  | mk {i : Nat} {acc : List Value} {h : Heap} (hps : All2 (fun v T => Rd h v (enc T)) acc ((T.kids.take i).map (ren ρ))) : JCh T ρ c oc i acc [(c, oc)] h
theorem St.nin {B P h : Heap} {L b : Addr} {ns : List (Str × NameKind)} {vs : List (Option Value)} {σ : List (Addr × Obj)} {o : Obj} (S : St B P L ns vs σ h) (e : B.get? b = some o) : b ∉ σ.map (·.1) := fun q => by
  obtain ⟨p, hp, rfl⟩ := List.mem_map.mp q
  rw [(S.led p hp).2.2] at e; cases e
section
variable {V : Vw} {B₀ : Heap} {rw : Addr} {ρ : Int → Int} {rs : List Value}
set_option maxHeartbeats 8000000 in
theorem changed_ : 
    ∀ (N : Nat) (T : Tr), T.sz ≤ N → ∀ {A : Around} {h : Heap} {k : Nat} {Q : Value → Heap → Nat → Prop} {n m : Nat} {v : Value} (G : Wd (hd.heap_39 V.w.params) B₀ h) (R : Room A (n + N + 2))
      (rv : Rd h v (enc T)) (o : T.ok) (een : h.get? rw = some (lo rs m)) (hes : ∀ k : Int, 0 ≤ k → k < 4 → ∃ w, rs[k.toNat]? = some w ∧ Rd h w (enc (.v (ρ k))))
      (q : ∀ h' k' v', Chg [] h h' → Rd h' v' (enc (ren ρ T)) → Q v' h' k'),
      W V A (call (.ref 464) ([] ++ [v, .ref rw])) Q h k := by
  intro N
  induction N with
  | zero => intro T hT; have := T.sz_pos; omega
  | succ N ih =>
  intro T hT A h k Q n m v G R rv o een hes q
  have va : ∃ a, v = .ref a := by cases T <;> (obtain ⟨a, _, e, _⟩ := rv.untup; exact ⟨a, e⟩)
  obtain ⟨a, rfl⟩ := va
  refine' W_enterC (binds := [("tree", .ref a), ("row", .ref rw)]) (vs := [some (.ref a), none]) G R ?ho ?hcd [] (by simp) (by simp) ?hb ?hkind ?hnd ?he ?nn ?nb ?_ ?hco ?hgen ?hk
  case ho => k_is
  case hcd => k_is
  case hb => exact BindsTo.of_eq rfl
  case nn => decide
  case nb => decide
  case hco => rfl
  case hgen => rfl
  case hk => rfl
  case hnd => decide
  case hkind =>
    intro n x hx
    simp only [List.mem_cons, List.not_mem_nil, or_false] at hx
    rcases hx with rfl | rfl
    · exact .inl rfl
    · exact .inr ⟨rfl, rfl⟩
  case he =>
    funext y
    have e1 : (Str.ofString "row" == Str.ofString "tree") = false := by decide
    simp [bindL, mp, List.lookup, e1]
  intro A B L h1 k1 cl cells hcl hcells G S hB hB' R
  dsimp only at S
  obtain ⟨c, oc, rfl, rfl, hoc⟩ := cells1 (x := "row") hcl hcells
  replace hoc : oc.data = .cell (some (.ref rw)) := hoc
  clear hcells hcl
  simp only [List.append_nil] at S
  have een' : B.get? rw = some (lo rs m) := hB _ _ een (by simp)
  cases hl : T.leaf with
  | true =>
    cases T with
    | s1 => cases hl
    | s2 => cases hl
    | a n =>
      obtain ⟨a', t, u, e9, Tp1⟩ := rd_leaf rv
      cases e9
      with_reducible refine X_ifc ?_
      with_reducible refine' E_tI (by assumption) ?c1 ?c2 ?_ ?c4
      case c1 => exact .hd
      case c2 => assumption
      case c4 => rfl
      with_reducible refine E_str ?_
      with_reducible refine q_se ?_
      refine ⟨fun c => absurd c (by decide), fun _ => ?_⟩
      with_reducible refine X_nn ?_
      with_reducible refine X_ifc ?_
      with_reducible refine' E_tI (by assumption) ?c1 ?c2 ?_ ?c4
      case c1 => exact .hd
      case c2 => assumption
      case c4 => rfl
      with_reducible refine E_str ?_
      with_reducible refine q_se ?_
      refine ⟨fun c => absurd c (by decide), fun _ => ?_⟩
      with_reducible refine X_nn ?_
      with_reducible refine X_ret ?_
      with_reducible refine' E_loc (by assumption) ?c1 ?_
      case c1 => exact .hd
      exact q _ _ _ (S.back hB) (rv.tk S.tup)
    | i n =>
      obtain ⟨a', t, u, e9, Tp1⟩ := rd_leaf rv
      cases e9
      with_reducible refine X_ifc ?_
      with_reducible refine' E_tI (by assumption) ?c1 ?c2 ?_ ?c4
      case c1 => exact .hd
      case c2 => assumption
      case c4 => rfl
      with_reducible refine E_str ?_
      with_reducible refine q_se ?_
      refine ⟨fun c => absurd c (by decide), fun _ => ?_⟩
      with_reducible refine X_nn ?_
      with_reducible refine X_ifc ?_
      with_reducible refine' E_tI (by assumption) ?c1 ?c2 ?_ ?c4
      case c1 => exact .hd
      case c2 => assumption
      case c4 => rfl
      with_reducible refine E_str ?_
      with_reducible refine q_se ?_
      refine ⟨fun c => absurd c (by decide), fun _ => ?_⟩
      with_reducible refine X_nn ?_
      with_reducible refine X_ret ?_
      with_reducible refine' E_loc (by assumption) ?c1 ?_
      case c1 => exact .hd
      exact q _ _ _ (S.back hB) (rv.tk S.tup)
    | v n =>
      obtain ⟨a', t, u, e9, Tp1⟩ := rd_leaf rv
      cases e9
      obtain ⟨w, hw, rw9⟩ := hes n o.1 o.2
      have hn2 := o.2
      have hn1 := o.1
      with_reducible refine X_ifc ?_
      with_reducible refine' E_tI (by assumption) ?c1 ?c2 ?_ ?c4
      case c1 => exact .hd
      case c2 => assumption
      case c4 => rfl
      with_reducible refine E_str ?_
      with_reducible refine q_se ?_
      refine ⟨fun _ => ?_, fun c => absurd c (by decide)⟩
      with_reducible refine X_ret ?_
      with_reducible refine E_sub ?_
      with_reducible refine' Y_cell (by assumption) ?c1 ?c2 ?c3 ?_ ?c5 ?c6 ?c7
      case c1 => rfl
      case c2 => exact .hd
      case c3 => assumption
      case c5 => rfl
      case c6 => rfl
      case c7 => decide
      with_reducible refine' E_tI (by assumption) ?c1 ?c2 ?_ ?c4
      case c1 => exact .hd
      case c2 => assumption
      case c4 => rfl
      refine I_lst (S.base _ _ een') ?_ hw hn1 (by (clear hn1; omega)) (by with_unfolding_all rfl)
      exact q _ _ _ (S.back hB) (rw9.tk S.tup)
  | false =>
    obtain ⟨a', x, y, b, ks, e9, Tp1, Tp2, hk⟩ := rd_cmp hl rv
    cases e9
    with_reducible refine X_ifc ?_
    with_reducible refine' E_tI (by assumption) ?c1 ?c2 ?_ ?c4
    case c1 => exact .hd
    case c2 => assumption
    case c4 => rfl
    with_reducible refine E_str ?_
    with_reducible refine q_se ?_
    refine ⟨fun c => absurd c (by decide), fun _ => ?_⟩
    with_reducible refine X_nn ?_
    with_reducible refine X_ifc ?_
    with_reducible refine' E_tI (by assumption) ?c1 ?c2 ?_ ?c4
    case c1 => exact .hd
    case c2 => assumption
    case c4 => rfl
    with_reducible refine E_str ?_
    with_reducible refine q_se ?_
    refine ⟨fun _ => ?_, fun c => absurd c (by decide)⟩
    with_reducible refine X_ret ?_
    with_reducible refine E_tuple ?_
    with_reducible refine S_cons ?_
    with_reducible refine E_str ?_
    with_reducible refine S_cons ?_
    with_reducible refine' E_tI (by assumption) ?c1 ?c2 ?_ ?c4
    case c1 => exact .hd
    case c2 => assumption
    case c4 => rfl
    with_reducible refine S_cons ?_
    with_reducible refine E_call ?_
    with_reducible refine' E_bi (by assumption) (by assumption) ?c2 ?c3 ?c4 ?c5 ?_
    case c2 => exact .tl (.tl .hd)
    case c3 => k_is
    case c4 => boot_by_name
    case c5 => decide
    with_reducible refine C_ty ?_
    with_reducible refine S_cons ?_
    with_reducible refine' E_lc ?_ ?c1 ?c2 ?c3 ?c4
    case c1 => rfl
    case c2 => rfl
    case c3 => decide
    case c4 => (intro _; rfl)
    with_reducible refine' E_tI (by assumption) ?c1 ?c2 ?_ ?c4
    case c1 => exact .hd
    case c2 => assumption
    case c4 => rfl
    have hks := hk.len
    have tkh := S.tup
    replace S := S.pool
    have T2 := Tp2.tk tkh
    refine iter_tup S T2 fun I oI h2 so S => ?_
    have tkh := tkh.trans S.tup
    replace S := S.pool
    have T2 := Tp2.tk tkh
    have T1 := Tp1.tk tkh
    have S9 := S
    have hsum := kids_sz hl
    have hok := kids_ok o
    refine N_lcN (jx := 1) (n := ks.length) (nsC := [(".0", .local), ("part", .local), ("_law_changed", .globalImplicit), ("row", .cell)]) (JCh T ρ c oc)
      (itr_tup b ks) self_tup R.1 G S so (.mk (by simp [All2])) ?_ rfl rfl rfl ?_ ?_ ?_ ?_ ?_ ?_
    · decide
    · decide
    · decide
    · rw [hks]; have := kids12 hl; omega
    · rintro i acc σ₁ hJ _ oI2 h₁ C D m2 vs₁ B' S hup tk
      exact T2.tk (tk.trans S.tup)
    · rintro i acc σ₁ hJ @⟨hJ, hps⟩ B' C D m2 oI2 v h₁ k₁ hi hal hv G' hup hdn hBJ hled tkJ S Qt hQw
      dsimp only [List.set, List.map] at S
      have hi2 : i < T.kids.length := by (clear hal; omega)
      have hkt : T.kids[i]? = some T.kids[i] := List.getElem?_eq_getElem hi2
      obtain ⟨v', e8, rdv⟩ := hk.get hkt
      rw [hv] at e8; cases e8
      have hmem : T.kids[i] ∈ T.kids := List.getElem_mem hi2
      have hsz1 := le_sum (List.mem_map_of_mem (f := Tr.sz) hmem)
      have een2 : B'.get? rw = some (lo rs m) := hup _ _ (S9.base _ _ een') (S9.nin een')
      with_reducible refine E_call ?_
      with_reducible refine' Y_glo (by assumption) (by assumption) ?c2 ?c3 ?_
      case c2 => exact .tl (.tl .hd)
      case c3 => k_is
      with_reducible refine' CC_ref (by assumption) (by assumption) ?c2 ?_
      case c2 => k_is
      with_reducible refine S_cons ?_
      with_reducible refine' Y_loc (by assumption) ?c1 ?_
      case c1 => exact .h1
      with_reducible refine S_cons ?_
      with_reducible refine' Y_cell (by assumption) ?c1 ?c2 ?c3 ?_ ?c5 ?c6 ?c7
      case c1 => rfl
      case c2 => exact .h2
      case c3 => assumption
      case c5 => rfl
      case c6 => rfl
      case c7 => decide
      with_reducible refine S_nil ?_
      with_reducible refine' Krf_go (by assumption) (by assumption) ?_
      have tkv := tkh.trans (tkJ.trans S.tup)
      refine ih T.kids[i] (by omega) (n := n) (G'.st S) R (rdv.tk tkv) (hok _ hmem) (S.base _ _ een2) (fun k a b => (by obtain ⟨w, e, r⟩ := hes k a b; exact ⟨w, e, r.tk tkv⟩)) fun h3 k3 v3 x3 rd3 => ?_
      have tk3 := (S.call0 x3).tup
      refine hQw _ _ _ _ _ (by rfl) (by rfl) (S.call0 x3) (.mk ?_)
      rw [List.take_succ_eq_append_getElem hi2, List.map_append]
      exact (hps.imp fun v e z => z.tk tk3).snoc rd3
    · rintro i_ ys σ₁ hJ @⟨hJ, hps⟩ rfl D m2 h₁ k₁ C oC hyl hup hled tkJ ntC S
      intro h4 S
      rw [hks, List.take_length] at hps
      have hpl := hps.len
      have hk2 := kids12 hl
      simp only [List.length_map] at hpl
      with_reducible refine S_nil ?_
      refine C_tupL S (S.has (by exact .hd)) (by (clear hks hyl; omega)) fun t9 h9 S => ?_
      with_reducible refine S_nil ?_
      with_reducible refine' N_tup (by assumption) ?_
      intro t1 h1 S
      with_reducible refine Nx_ret ?_
      have hps := hps.imp fun v e (z : Rd hJ v (enc e)) => z.tk S.tup
      obtain ⟨l1, l2, l3⟩ := res_leaf (ev := fun k => .v (ρ k)) hl
      refine q _ _ _ ((S.re (tkh.trans tkJ)).back hB) ?_
      rw [enc_cmp l1, l2, l3]
      exact Rd.tup (to_tp (S.has .hd)) (Rd.cons (Reads.str _ _) (Rd.cons (Reads.int _ _) (Rd.cons (Rd.tup (to_tp (S.has (.tl .hd))) (rdAll hps)) .nil)))
end
end
section
open PySem PySem.W PyProof.Rows PySem.Calls
set_option hygiene false
set_option genInjectivity false in
set_option genSizeOf false in
structure Ad where
  (ur tx an fl fn hp tb en sl sy dsy c dc st tr cu cc ct ce : Addr)
set_option genInjectivity false in
set_option genSizeOf false in
structure Ob where
  (ur tx an fl fn hp tb en : Obj)
set_option genInjectivity false in
set_option genSizeOf false in
structure Fx where
  (sl sy dsy c dc st tr cu cc ct ce : Obj)
noncomputable abbrev Ad.b5 (a : Ad) : List Addr := [a.ur, a.tx, a.an, a.fl, a.fn]
noncomputable abbrev Ad.mut (a : Ad) : List Addr := [a.ur, a.tx, a.an, a.fl, a.fn, a.hp, a.tb, a.en]
noncomputable abbrev Ad.all (a : Ad) : List Addr := [a.ur, a.tx, a.an, a.fl, a.fn, a.hp, a.tb, a.en, a.sl, a.sy, a.dsy, a.c, a.dc, a.st, a.tr, a.cu, a.cc, a.ct, a.ce]
noncomputable abbrev led (a : Ad) (o : Ob) (f : Fx) : List (Addr × Obj) :=
  [(a.ur, o.ur), (a.tx, o.tx), (a.an, o.an), (a.fl, o.fl), (a.fn, o.fn), (a.hp, o.hp), (a.tb, o.tb), (a.en, o.en), (a.sl, f.sl), (a.sy, f.sy), (a.dsy, f.dsy), (a.c, f.c), (a.dc, f.dc), (a.st, f.st), (a.tr, f.tr), (a.cu, f.cu), (a.cc, f.cc), (a.ct, f.ct), (a.ce, f.ce)]
noncomputable def Ag (N : List Addr) (h h' : Heap) : Prop := ∀ x ∈ N, ∀ o, h.get? x = some o → h'.get? x = some o
theorem Ag.sub {N N' : List Addr} {h h' : Heap} (g : Ag N h h') (s : ∀ x ∈ N', x ∈ N) : Ag N' h h' := fun x hx => g x (s x hx)
theorem Chg.ag {M N : List Addr} {h h' : Heap} (x : Chg M h h') (n : ∀ b ∈ N, b ∉ M) : Ag N h h' := fun b hb o e => x.same b o e (n b hb)
structure LFx (h : Heap) (a : Ad) : Prop where
  sy : ∃ es n, h.get? a.sy = some (instObj 154 a.dsy) ∧ h.get? a.dsy = some (dictOf es n) ∧ Ents es (symF a.tx a.an a.fl a.fn)
  c : ∃ es n t1 t2 t3, h.get? a.c = some (instObj 380 a.dc) ∧ h.get? a.dc = some (dictOf es n) ∧ Ents es (cellsF a.sy a.hp a.st a.tr t1 t2 t3)
  st : h.get? a.st = some (lo [] 0)
  tr : h.get? a.tr = some (lo [] 0)
  cu : ∃ o, h.get? a.cu = some o
  cc : ∃ o, h.get? a.cc = some o
  ct : ∃ o, h.get? a.ct = some o
  ce : ∃ o, h.get? a.ce = some o
theorem LFx.mv {h h' : Heap} {a : Ad} (Z : LFx h a) (g : Ag [a.sy, a.dsy, a.c, a.dc, a.st, a.tr, a.cu, a.cc, a.ct, a.ce] h h') : LFx h' a :=
  ⟨(by obtain ⟨es, n, e1, e2, r⟩ := Z.sy; exact ⟨es, n, g _ (by repeat (first | exact List.Mem.head _ | apply List.Mem.tail)) _ e1, g _ (by repeat (first | exact List.Mem.head _ | apply List.Mem.tail)) _ e2, r⟩), (by obtain ⟨es, n, t1, t2, t3, e1, e2, r⟩ := Z.c; exact ⟨es, n, t1, t2, t3, g _ (by repeat (first | exact List.Mem.head _ | apply List.Mem.tail)) _ e1, g _ (by repeat (first | exact List.Mem.head _ | apply List.Mem.tail)) _ e2, r⟩),
   g _ (by repeat (first | exact List.Mem.head _ | apply List.Mem.tail)) _ Z.st, g _ (by repeat (first | exact List.Mem.head _ | apply List.Mem.tail)) _ Z.tr, (by obtain ⟨o, e⟩ := Z.cu; exact ⟨o, g _ (by repeat (first | exact List.Mem.head _ | apply List.Mem.tail)) _ e⟩), (by obtain ⟨o, e⟩ := Z.cc; exact ⟨o, g _ (by repeat (first | exact List.Mem.head _ | apply List.Mem.tail)) _ e⟩), (by obtain ⟨o, e⟩ := Z.ct; exact ⟨o, g _ (by repeat (first | exact List.Mem.head _ | apply List.Mem.tail)) _ e⟩), (by obtain ⟨o, e⟩ := Z.ce; exact ⟨o, g _ (by repeat (first | exact List.Mem.head _ | apply List.Mem.tail)) _ e⟩)⟩
structure LW (V : Vw) (h : Heap) (a : Ad) (LL : List Str) (F H : List (Int × Int)) (kt : List (Int × Value)) (es : List Value) : Prop where
  bk : Bk V h a.ur a.sl a.tx a.an a.fl a.fn LL F
  fx : LFx h a
  hh : PrL h a.hp H
  tb : ∃ ot, h.get? a.tb = some ot ∧ ot.IsDictOf (intKind V.prog V.w) kt ∧ (a.tb == sysModules) = false
  en : ∃ n, h.get? a.en = some (lo es n)
  nd : a.all.Nodup
  sz : H.length ≤ 60000
section
variable {V : Vw} {h h' : Heap} {a : Ad} {LL LL' : List Str} {F F' H H' : List (Int × Int)} {kt kt' : List (Int × Value)} {es es' : List Value}
theorem LW.mv (Z : LW V h a LL F H kt es) (g : Ag a.all h h') (t : Tk h h') : LW V h' a LL F H kt es :=
  ⟨Z.bk.mv (g.sub (by repeat (first | exact fun _ h => (List.not_mem_nil h).elim | refine List.forall_mem_cons.mpr ⟨by repeat (first | exact List.Mem.head _ | apply List.Mem.tail), ?_⟩))) t, Z.fx.mv (g.sub (by repeat (first | exact fun _ h => (List.not_mem_nil h).elim | refine List.forall_mem_cons.mpr ⟨by repeat (first | exact List.Mem.head _ | apply List.Mem.tail), ?_⟩))), (by obtain ⟨hs, n, e, p⟩ := Z.hh; exact ⟨hs, n, g _ (by repeat (first | exact List.Mem.head _ | apply List.Mem.tail)) _ e, p.tk t⟩), (by obtain ⟨o, e, r⟩ := Z.tb; exact ⟨o, g _ (by repeat (first | exact List.Mem.head _ | apply List.Mem.tail)) _ e, r⟩), (by obtain ⟨n, e⟩ := Z.en; exact ⟨n, g _ (by repeat (first | exact List.Mem.head _ | apply List.Mem.tail)) _ e⟩), Z.nd, Z.sz⟩
theorem Ad.dj (nd : a.all.Nodup) : ∀ x ∈ a.b5, ∀ y ∈ [a.hp, a.tb, a.en, a.sl, a.sy, a.dsy, a.c, a.dc, a.st, a.tr, a.cu, a.cc, a.ct, a.ce], x ≠ y := ((List.nodup_append (l₁ := a.b5)).mp nd).2.2
theorem Ad.r5 (nd : a.all.Nodup) : [a.hp, a.tb, a.en, a.sl, a.sy, a.dsy, a.c, a.dc, a.st, a.tr, a.cu, a.cc, a.ct, a.ce].Nodup := ((List.nodup_append (l₁ := a.b5)).mp nd).2.1
theorem Ad.f10 (nd : a.all.Nodup) {x : Addr} (h : x ∈ [a.hp, a.tb, a.en]) : ∀ y ∈ [a.sy, a.dsy, a.c, a.dc, a.st, a.tr, a.cu, a.cc, a.ct, a.ce], y ≠ x := fun y hy e => ((List.nodup_append (l₁ := [a.hp, a.tb, a.en])).mp (Ad.r5 nd)).2.2 x h y (.tail _ hy) e.symm
theorem Ad.k6 (nd : a.all.Nodup) {x : Addr} (h : x ∈ [a.hp, a.tb, a.en]) : ∀ y ∈ [a.sl, a.ur, a.tx, a.an, a.fl, a.fn], y ≠ x := fun y hy e => by
  rcases List.mem_cons.mp hy with hy | hy
  · exact ((List.nodup_append (l₁ := [a.hp, a.tb, a.en])).mp (Ad.r5 nd)).2.2 x h y (by rw [hy]; exact .head _) e.symm
  · exact Ad.dj nd y hy x (List.mem_append_left (as := [a.hp, a.tb, a.en]) _ h) e
theorem not1 {x : Addr} {l : List Addr} (h : ∀ y ∈ l, y ≠ x) : ∀ y ∈ l, y ∉ [x] := fun y hy hm => h y hy (List.mem_singleton.mp hm)
theorem Ad.n3 (nd : a.all.Nodup) : a.hp ≠ a.tb ∧ a.hp ≠ a.en ∧ a.tb ≠ a.en := by
  have h := ((List.nodup_append (l₁ := [a.hp, a.tb, a.en])).mp (Ad.r5 nd)).1
  simp only [List.nodup_cons, List.mem_cons, not_or, List.not_mem_nil, or_false] at h
  exact ⟨h.1.1, h.1.2, h.2.1⟩
theorem ne1 {x y : Addr} (h : x ≠ y) : x ∉ [y] := fun hm => h (List.mem_singleton.mp hm)
theorem LW.bkSet (Z : LW V h a LL F H kt es) (x : Chg a.b5 h h') (b : Bk V h' a.ur a.sl a.tx a.an a.fl a.fn LL' F') : LW V h' a LL' F' H kt es := by
  have key : ∀ y ∈ [a.hp, a.tb, a.en, a.sl, a.sy, a.dsy, a.c, a.dc, a.st, a.tr, a.cu, a.cc, a.ct, a.ce], y ∉ a.b5 := fun y hy hm => Ad.dj Z.nd y hm y hy rfl
  exact ⟨b, Z.fx.mv (x.ag fun y hy => key y (.tail _ (.tail _ (.tail _ (.tail _ hy))))), (by obtain ⟨hs, n, e, p⟩ := Z.hh; exact ⟨hs, n, x.same _ _ e (key _ (.head _)), p.tk x.tup⟩), (by obtain ⟨o, e, r⟩ := Z.tb; exact ⟨o, x.same _ _ e (key _ (.tail _ (.head _))), r⟩),
    (by obtain ⟨n, e⟩ := Z.en; exact ⟨n, x.same _ _ e (key _ (.tail _ (.tail _ (.head _))))⟩), Z.nd, Z.sz⟩
theorem LW.hpSet (Z : LW V h a LL F H kt es) (x : Chg [a.hp] h h') (b : PrL h' a.hp H') (sz : H'.length ≤ 60000) : LW V h' a LL F H' kt es := by
  have h3 := Ad.n3 Z.nd
  exact ⟨Z.bk.mv (x.ag (not1 (Ad.k6 Z.nd (.head _)))) x.tup, Z.fx.mv (x.ag (not1 (Ad.f10 Z.nd (.head _)))), b, (by obtain ⟨o, e, r⟩ := Z.tb; exact ⟨o, x.same _ _ e (ne1 h3.1.symm), r⟩), (by obtain ⟨n, e⟩ := Z.en; exact ⟨n, x.same _ _ e (ne1 h3.2.1.symm)⟩), Z.nd, sz⟩
theorem LW.tbSet (Z : LW V h a LL F H kt es) (x : Chg [a.tb] h h') (b : ∃ ot, h'.get? a.tb = some ot ∧ ot.IsDictOf (intKind V.prog V.w) kt') : LW V h' a LL F H kt' es := by
  have h3 := Ad.n3 Z.nd
  exact ⟨Z.bk.mv (x.ag (not1 (Ad.k6 Z.nd (.tail _ (.head _))))) x.tup, Z.fx.mv (x.ag (not1 (Ad.f10 Z.nd (.tail _ (.head _))))), (by obtain ⟨hs, n, e, p⟩ := Z.hh; exact ⟨hs, n, x.same _ _ e (ne1 h3.1), p.tk x.tup⟩), (by obtain ⟨o, e, r⟩ := b; exact ⟨o, e, r, (by obtain ⟨_, _, _, r⟩ := Z.tb; exact r)⟩),
    (by obtain ⟨n, e⟩ := Z.en; exact ⟨n, x.same _ _ e (ne1 h3.2.2.symm)⟩), Z.nd, Z.sz⟩
theorem LW.enSet (Z : LW V h a LL F H kt es) (x : Chg [a.en] h h') (b : ∃ n, h'.get? a.en = some (lo es' n)) : LW V h' a LL F H kt es' := by
  have h3 := Ad.n3 Z.nd
  exact ⟨Z.bk.mv (x.ag (not1 (Ad.k6 Z.nd (.tail _ (.tail _ (.head _)))))) x.tup, Z.fx.mv (x.ag (not1 (Ad.f10 Z.nd (.tail _ (.tail _ (.head _)))))), (by obtain ⟨hs, n, e, p⟩ := Z.hh; exact ⟨hs, n, x.same _ _ e (ne1 h3.2.1), p.tk x.tup⟩),
    (by obtain ⟨o, e, r⟩ := Z.tb; exact ⟨o, x.same _ _ e (ne1 h3.2.2), r⟩), b, Z.nd, Z.sz⟩
theorem b5m {a : Ad} : ∀ x ∈ a.b5, x ∈ a.mut := fun x hx => List.mem_append_left (as := a.b5) [a.hp, a.tb, a.en] hx
theorem mall {a : Ad} : ∀ x ∈ a.mut, x ∈ a.all := fun x hx => List.mem_append_left (as := a.mut) [a.sl, a.sy, a.dsy, a.c, a.dc, a.st, a.tr, a.cu, a.cc, a.ct, a.ce] hx
theorem LW.has (Z : LW V h a LL F H kt es) : ∀ x ∈ a.mut, ∃ o, h.get? x = some o := by
  obtain ⟨o1, o2, o3, o4, o5, e1, e2, e3, e4, e5⟩ := Z.bk.objs
  obtain ⟨hs, n, e6, -⟩ := Z.hh
  obtain ⟨ot, e7, -⟩ := Z.tb
  obtain ⟨m, e8⟩ := Z.en
  intro x hx
  simp only [List.mem_cons, List.not_mem_nil, or_false] at hx
  rcases hx with rfl | rfl | rfl | rfl | rfl | rfl | rfl | rfl
  all_goals exact ⟨_, by assumption⟩
theorem LW.sub (Z : LW V h a LL F H kt es) {M : List Addr} (n1 : ∀ x ∈ [a.sy, a.dsy], x ∉ M) : Inst (hideAll h M) a.sy 154 (symF a.tx a.an a.fl a.fn) := by
  obtain ⟨es, n, e1, e2, en⟩ := Z.fx.sy
  exact Inst.hide e1 e2 en sym_nd (n1 _ (.head _)) (n1 _ (.tail _ (.head _)))
theorem LW.sto (Z : LW V h a LL F H kt es) {M : List Addr} (n1 : ∀ x ∈ [a.sy, a.dsy, a.c, a.dc], x ∉ M) : Sto (hideAll h M) h a.c a.sy a.hp a.fl H F := by
  obtain ⟨es, n, t1, t2, t3, e1, e2, en⟩ := Z.fx.c
  have := Z.sz
  exact ⟨⟨_, _, _, _, _, Inst.hide e1 e2 en cells_nd (n1 _ (.tail _ (.tail _ (.head _)))) (n1 _ (.tail _ (.tail _ (.tail _ (.head _)))))⟩, ⟨_, _, _, Z.sub fun x hx => n1 x (List.mem_append_left (as := [a.sy, a.dsy]) [a.c, a.dc] hx)⟩, Z.hh, Z.bk.f.f, by omega⟩
theorem LW.fm (Z : LW V h a LL F H kt es) : ∀ x ∈ [a.sl, a.sy, a.dsy, a.c, a.dc, a.st, a.tr, a.cu, a.cc, a.ct, a.ce], x ∉ a.mut := by
  have nd : (a.mut ++ [a.sl, a.sy, a.dsy, a.c, a.dc, a.st, a.tr, a.cu, a.cc, a.ct, a.ce]).Nodup := Z.nd
  intro x hx hm
  exact (List.nodup_append.mp nd).2.2 x hm x hx rfl
end
section
variable {V : Vw} {B P h h' : Heap} {L : Addr} {ns : List (Str × NameKind)} {vs : List (Option Value)} {a : Ad} {o : Ob} {f : Fx} {LL : List Str} {F H : List (Int × Int)} {kt : List (Int × Value)} {es : List Value} {τ τ' : List (Addr × Obj)}
noncomputable def Ob.at (h : Heap) (a : Ad) : Ob := ⟨obAt h a.ur, obAt h a.tx, obAt h a.an, obAt h a.fl, obAt h a.fn, obAt h a.hp, obAt h a.tb, obAt h a.en⟩
theorem LW.go (S : St B P L ns vs (τ ++ led a o f) h) (x : Chg a.mut h h') (Z : LW V h' a LL F H kt es) : St B P L ns vs (τ ++ led a (Ob.at h' a) f) h' := by
  have hz := Z.has
  have e1 := obAt_eq (hz a.ur (by repeat (first | exact List.Mem.head _ | apply List.Mem.tail)))
  have e2 := obAt_eq (hz a.tx (by repeat (first | exact List.Mem.head _ | apply List.Mem.tail)))
  have e3 := obAt_eq (hz a.an (by repeat (first | exact List.Mem.head _ | apply List.Mem.tail)))
  have e4 := obAt_eq (hz a.fl (by repeat (first | exact List.Mem.head _ | apply List.Mem.tail)))
  have e5 := obAt_eq (hz a.fn (by repeat (first | exact List.Mem.head _ | apply List.Mem.tail)))
  have e6 := obAt_eq (hz a.hp (by repeat (first | exact List.Mem.head _ | apply List.Mem.tail)))
  have e7 := obAt_eq (hz a.tb (by repeat (first | exact List.Mem.head _ | apply List.Mem.tail)))
  have e8 := obAt_eq (hz a.en (by repeat (first | exact List.Mem.head _ | apply List.Mem.tail)))
  have key : ∀ q ∈ led a o f, q.1 ∉ a.mut → h'.get? q.1 = some q.2 := fun q hq n => x.same _ _ (S.led q (List.mem_append_right _ hq)).1 n
  have fm := Z.fm
  refine S.reled x (fun m hm => by rw [List.map_append]; exact List.mem_append_right _ (mall m hm)) (by simp only [List.map_append]; rfl) fun p hp => ?_
  rcases List.mem_append.mp hp with hp | hp
  · have h1 := S.led p (List.mem_append_left _ hp)
    refine x.same _ _ h1.1 fun q => ?_
    have nd := S.nd
    rw [List.map_append] at nd
    exact (List.nodup_append.mp nd).2.2 p.1 (List.mem_map_of_mem hp) p.1 (mall _ q) rfl
  · have kk : ∀ (i : Nat) (q : Addr × Obj), (led a o f)[i]? = some q → q.1 ∉ a.mut → h'.get? q.1 = some q.2 := fun i q e n => key q (List.mem_of_getElem? e) n
    have ff : ∀ (i : Nat) (y : Addr), [a.sl, a.sy, a.dsy, a.c, a.dc, a.st, a.tr, a.cu, a.cc, a.ct, a.ce][i]? = some y → y ∉ a.mut := fun i y e => fm y (List.mem_of_getElem? e)
    have FM : ∀ (x : Addr × Obj) (l : List (Addr × Obj)), h'.get? x.1 = some x.2 → (∀ p ∈ l, h'.get? p.1 = some p.2) → ∀ p ∈ x :: l, h'.get? p.1 = some p.2 := fun x l a b => List.forall_mem_cons.mpr ⟨a, b⟩
    exact (FM _ _ e1 (FM _ _ e2 (FM _ _ e3 (FM _ _ e4 (FM _ _ e5 (FM _ _ e6 (FM _ _ e7 (FM _ _ e8 (FM _ _ (kk 8 _ rfl (ff 0 _ rfl)) (FM _ _ (kk 9 _ rfl (ff 1 _ rfl)) (FM _ _ (kk 10 _ rfl (ff 2 _ rfl)) (FM _ _ (kk 11 _ rfl (ff 3 _ rfl)) (FM _ _ (kk 12 _ rfl (ff 4 _ rfl)) (FM _ _ (kk 13 _ rfl (ff 5 _ rfl)) (FM _ _ (kk 14 _ rfl (ff 6 _ rfl)) (FM _ _ (kk 15 _ rfl (ff 7 _ rfl)) (FM _ _ (kk 16 _ rfl (ff 8 _ rfl)) (FM _ _ (kk 17 _ rfl (ff 9 _ rfl)) (FM _ _ (kk 18 _ rfl (ff 10 _ rfl)) (fun p hp => (List.not_mem_nil hp).elim)))))))))))))))))))) p hp
theorem led_ag (l : ∀ p ∈ led a o f, h.get? p.1 = some p.2) (l' : ∀ p ∈ led a o f, h'.get? p.1 = some p.2) : Ag a.all h h' := led_mv l l' fun _ h => h
theorem LW.st {L' : Addr} {ns' : List (Str × NameKind)} {vs' : List (Option Value)} (Z : LW V h a LL F H kt es) (S : St B P L ns vs (τ ++ led a o f) h) (S' : St B h L' ns' vs' (τ' ++ led a o f) h') : LW V h' a LL F H kt es :=
  Z.mv (led_ag (fun p hp => S.hs p (List.mem_append_right _ hp)) fun p hp => S'.hs p (List.mem_append_right _ hp)) S'.tup
theorem LW.no (S : St B P L ns vs (τ ++ led a o f) h) : ∀ x ∈ a.all, B.get? x = none := fun x hx => by
  have : x ∈ (τ ++ led a o f).map (·.1) := by rw [List.map_append]; exact List.mem_append_right _ hx
  obtain ⟨p, hp, rfl⟩ := List.mem_map.mp this
  exact (S.led p hp).2.2
end
end
section
open PySem PySem.W PyProof.Rows PySem.Calls
set_option hygiene false
theorem upd_chg {h : Heap} {l : Addr} {xs ys : List Value} {n : Nat} {f : Array Value → Array Value} (e : h.get? l = some (lo xs n)) (ef : f xs.toArray = ys.toArray) :
    Chg [l] h (h.update l (Obj.mapSeq f)) ∧ (h.update l (Obj.mapSeq f)).get? l = some (lo ys (if ys.length = xs.length then n else n + 1)) := by
  have eo : Obj.mapSeq f (lo xs n) = lo ys (if ys.length = xs.length then n else n + 1) := by
    show (Obj.mk _ _ (.seq (f xs.toArray) _) _) = _
    rw [ef]; simp
  refine ⟨⟨fun b x eb n => ?_, fun b x eb c => ?_⟩, ?_⟩
  · have : b ≠ l := fun q => n (by rw [q]; exact .head _)
    rw [Heap.get?_update_oth this]; exact eb
  · have : b ≠ l := fun q => by subst q; rw [e] at eb; cases eb; exact lo_ntup c
    rw [Heap.get?_update_oth this]; exact eb
  · exact eo ▸ Heap.get?_update_self _ e (eo ▸ rfl)
section
variable {V : Vw} {A : Around} {h h' : Heap} {k n : Nat} {l d : Addr} {xs : List Value} {o : Obj} {i : Int} {u : Tok} {κ : Type} [DecidableEq κ] {knd : KeyKind V.prog V.w κ} {kvs : List (κ × Value)} {x : κ} {kv v : Value}
theorem P_dicC {Q : Unit → Heap → Nat → Prop} (e : h.get? d = some o) (D : o.IsDictOf knd kvs) (hk : knd.is x kv = true) (hsz : kvs.length ≤ 1000000)
    (q : ∀ o' h', h'.get? d = some o' → o'.IsDictOf knd (stored kvs x v) → Chg [d] h h' → Q () h' (k + 1)) : W V A (setItem (.ref d) kv v) Q h k := by
  refine wpAny_setItem_pairs (hsz := by simp [sizeLine]; omega) hk (di_of e D) fun h' hd hs => ?_
  obtain ⟨o', e', D'⟩ := Heap.dictOf_iff.mp hd
  obtain ⟨_, _, ex, _⟩ := D
  exact Pst.mk (q o' h' e' D' (same_chg (o' := o') e (exact_ntup ex) hs))
theorem C_appC {x : Value} {Q : Value → Heap → Nat → Prop} (e : h.get? l = some (lo xs n)) (hsz : xs.length ≤ 1000000) (q : ∀ h', Chg [l] h h' → h'.get? l = some (lo (xs ++ [x]) (n + 1)) → Q .none h' k) :
    W V A (call (.builtin "list.append") ([.ref l] ++ [x])) Q h k := by
  refine call_meets (self := .ref l) (rest := [x]) PySem.F.slot_list_append (lo_isl e).typeIs PySem.F.entry_list_append (PySem.F.args_list_append_2 _ _) (PySem.list_append l xs.toArray n x (by simp [sizeLine]; omega)) ⟨e, ?_⟩
  obtain ⟨a, b⟩ := upd_chg (ys := xs ++ [x]) (f := fun y => y.push x) e (by simp)
  rw [if_neg (by simp)] at b
  exact Pst.mk (q _ a b)
theorem P_lstC {v : Value} {Q : Unit → Heap → Nat → Prop} (e : h.get? l = some (lo xs n)) (h0 : 0 ≤ i) (hhi : i < 2 ^ 63) (hn : i < xs.length) (q : ∀ h', Chg [l] h h' → h'.get? l = some (lo (xs.set i.toNat v) n) → Q () h' k) :
    W V A (setItem (.ref l) (.int i u) v) Q h k := by
  refine ki_setAt e h0 hhi (by simpa using hn) (Pst.mk ?_)
  obtain ⟨a, b⟩ := upd_chg (ys := xs.set i.toNat v) (f := fun y => y.setIfInBounds i.toNat v) e (by apply Array.toList_inj.mp; simp)
  rw [if_pos (by simp)] at b
  exact q _ a b
end
section
variable {V : Vw} {B P h h' : Heap} {L : Addr} {ns : List (Str × NameKind)} {vs : List (Option Value)} {a : Ad} {o : Ob} {f : Fx} {LL : List Str} {F H : List (Int × Int)} {kt : List (Int × Value)} {es : List Value} {τ τ' : List (Addr × Obj)}
  {A : Around} {k n : Nat} {Q : Value → Heap → Nat → Prop} {t u t' u' : Tok}
theorem hpm (a : Ad) : a.hp ∈ a.mut := .tail _ (.tail _ (.tail _ (.tail _ (.tail _ (.head _)))))
theorem one_mut {a : Ad} {x : Addr} (m : x ∈ a.mut) : ∀ y ∈ [x], y ∈ a.mut := fun y hy => by rw [List.mem_singleton.mp hy]; exact m
theorem LW.fb (Z : LW V h a LL F H kt es) {M : List Addr} (m : ∀ x ∈ M, x ∈ a.mut) : ∀ x ∈ [a.sl, a.sy, a.dsy, a.c, a.dc, a.st, a.tr, a.cu, a.cc, a.ct, a.ce], x ∉ M := fun x hx q => Z.fm x hx (m x q)
theorem pickL {c : Int} (G : Wd (hd.heap_39 V.w.params) B B) (S : St B P L ns vs (τ ++ led a o f) h) (R : Room A (n + 1)) (Z : LW V h a LL F H kt es) (f0 : 0 < c) (f1 : c < 1000)
    (q : ∀ h' k' r t', Chg a.mut h h' → LW V h' a LL F H kt es → 0 ≤ r → r < c → Q (.int r t') h' k') : W V A (call (.ref 452) ([] ++ [.ref a.ur, .int c t])) Q h k :=
  pickB_ ((G.st S).hide (M := a.b5) fun x hx => LW.no S x (mall x (b5m x hx))) R Z.bk (fun x hx => none_hide hx) f0 f1 fun h' k' r t' x b r0 r1 => q h' k' r t' (x.mono b5m) (Z.bkSet x b) r0 r1
theorem atomL {s : Str} (G : Wd (hd.heap_39 V.w.params) B B) (S : St B P L ns vs (τ ++ led a o f) h) (R : Room A (n + 1)) (Z : LW V h a LL F H kt es) (sz : LL.length ≤ 900)
    (q : ∀ h' k' t', Chg a.mut h h' → LW V h' a (addS LL s) F H kt es → Q (.int (atn LL s) t') h' k') : W V A (call (.ref 88) ([.ref a.sy] ++ [.str s t])) Q h k :=
  atomB_ ((G.st S).hide (M := a.b5) fun x hx => LW.no S x (mall x (b5m x hx))) R (Z.sub fun x hx => Z.fb b5m x (m2 (p := fun x => x ∈ [a.sl, a.sy, a.dsy, a.c, a.dc, a.st, a.tr, a.cu, a.cc, a.ct, a.ce]) (.tail _ (.head _)) (.tail _ (.tail _ (.head _))) x hx)) Z.bk (fun x hx => none_hide hx) sz fun h' k' t' x b => q h' k' t' (x.mono b5m) (Z.bkSet x b)
theorem treeL (G : Wd (hd.heap_39 V.w.params) B B) (S : St B P L ns vs (τ ++ led a o f) h) (R : Room A (n + 5)) (Z : LW V h a LL F H kt es) (sz : LL.length ≤ 800) (sz' : F.length ≤ 800)
    (q : ∀ h' k' v T LL' F', Chg a.mut h h' → LW V h' a LL' F' H kt es → (∀ j, j < F.length → F'[j]? = F[j]?) → F.length ≤ F'.length → F'.length ≤ F.length + 7 → LL'.length ≤ LL.length + 7 → Rd h' v (enc T) → T.ok → TrF F' T → T.sz ≤ 7 → Q v h' k') :
    W V A (call (.ref 459) ([] ++ [.ref a.ur, .ref a.sy, .int 2 t])) Q h k :=
  tree_ (Z.sub fun x hx => Z.fb b5m x (m2 (p := fun x => x ∈ [a.sl, a.sy, a.dsy, a.c, a.dc, a.st, a.tr, a.cu, a.cc, a.ct, a.ce]) (.tail _ (.head _)) (.tail _ (.tail _ (.head _))) x hx)) (fun x hx => none_hide hx) 2 ((G.st S).hide (M := a.b5) fun x hx => LW.no S x (mall x (b5m x hx))) R Z.bk (by exact Nat.lt_succ_self _) (by simp; omega) (by simp; omega)
    fun h' k' v T LL' F' x b x1 x2 x3 x4 r1 o1 tf sz => q h' k' v T LL' F' (x.mono b5m) (Z.bkSet x b) x1 x2 (by simp at sz; omega) (by simp at sz; omega) r1 o1 tf (by simp at sz; assumption)
theorem LW.hfl (Z : LW V h a LL F H kt es) : a.fl ≠ a.hp := nd_at Z.nd 3 5 rfl rfl (by decide)
theorem new_varL (G : Wd (hd.heap_39 V.w.params) B B) (S : St B P L ns vs (τ ++ led a o f) h) (R : Room A (n + 2)) (Z : LW V h a LL F H kt es) (sz : H.length ≤ 50000)
    (q : ∀ h' k' x t' u', Chg a.mut h h' → LW V h' a LL F (H ++ [(0, (H.length : Int))]) kt es → Tp h' x [.int 0 t', .int H.length u'] → Q (.ref x) h' k') : W V A (call (.ref 208) ([.ref a.c] ++ [])) Q h k :=
  new_var_ ((G.st S).hide (M := [a.hp]) fun x hx => LW.no S x (mall x (one_mut (hpm a) x hx))) R (Z.sto fun x hx => Z.fb (one_mut (hpm a)) x (m4 (p := fun x => x ∈ [a.sl, a.sy, a.dsy, a.c, a.dc, a.st, a.tr, a.cu, a.cc, a.ct, a.ce]) (.tail _ (.head _)) (.tail _ (.tail _ (.head _))) (.tail _ (.tail _ (.tail _ (.head _)))) (.tail _ (.tail _ (.tail _ (.tail _ (.head _))))) x hx)) (none_hide (.head _)) Z.hfl (by omega)
    fun h' k' x t' u' c z T => q h' k' x t' u' (c.mono (one_mut (hpm a))) (Z.hpSet c z.hh (by simp; omega)) T
theorem bindL_ {x y : Addr} {i : Int} {p : Int × Int} (G : Wd (hd.heap_39 V.w.params) B B) (S : St B P L ns vs (τ ++ led a o f) h) (R : Room A (n + 1)) (Z : LW V h a LL F H kt es) (T : Tp h x [.int 0 t, .int i u]) (T2 : Tp h y [.int p.1 t', .int p.2 u']) (i0 : 0 ≤ i) (i1 : i < H.length)
    (q : ∀ h' k', Chg a.mut h h' → LW V h' a LL F (H.set i.toNat p) kt es → Q .none h' k') : W V A (call (.ref 243) ([.ref a.c] ++ [.ref x, .ref y])) Q h k :=
  bind_ (hs := []) (m := 0) ((G.st S).hide (M := [a.hp]) fun x hx => LW.no S x (mall x (one_mut (hpm a) x hx))) R (Z.sto fun x hx => Z.fb (one_mut (hpm a)) x (m4 (p := fun x => x ∈ [a.sl, a.sy, a.dsy, a.c, a.dc, a.st, a.tr, a.cu, a.cc, a.ct, a.ce]) (.tail _ (.head _)) (.tail _ (.tail _ (.head _))) (.tail _ (.tail _ (.tail _ (.head _)))) (.tail _ (.tail _ (.tail _ (.tail _ (.head _))))) x hx)) (none_hide (.head _)) Z.hfl T T2 i0 i1
    fun h' k' c z => q h' k' (c.mono (one_mut (hpm a))) (Z.hpSet c z.hh (by have := Z.sz; simpa using this))
theorem put_termL {T : Tr} {v : Value} (G : Wd (hd.heap_39 V.w.params) B B) (S : St B P L ns vs (τ ++ led a o f) h) (R : Room A (n + 4)) (Z : LW V h a LL F H kt es) (sz : H.length ≤ 50000) (rv : Rd h v (enc T)) (g : TrF F T) (o1 : T.ok) (hz : T.sz ≤ 100)
    (len : kt.length = 4) (at' : ∀ k, 0 ≤ k → k < 4 → ∃ a t u, valueAt kt k = some (.ref a) ∧ Tp h a [.int 0 t, .int k u]) (key : ∀ x ∈ kt, 0 ≤ x.1 ∧ x.1 < 4)
    (q : ∀ h' k' x p as H' t u, Chg a.mut h h' → LW V h' a LL F H' kt es → Tp h' x [.int p.1 t, .int p.2 u] → Rep H' F p T as → as.Nodup → (∀ j, j < H.length → H'[j]? = H[j]?) → H.length ≤ H'.length → H'.length ≤ H.length + 300 → Q (.ref x) h' k') :
    W V A (call (.ref 363) ([.ref a.c] ++ [v, .ref a.tb])) Q h k := by
  obtain ⟨ot, e, D, l⟩ := Z.tb
  refine put_term_ ((G.st S).hide (M := [a.hp]) fun x hx => LW.no S x (mall x (one_mut (hpm a) x hx))) R (Z.sto fun x hx => Z.fb (one_mut (hpm a)) x (m4 (p := fun x => x ∈ [a.sl, a.sy, a.dsy, a.c, a.dc, a.st, a.tr, a.cu, a.cc, a.ct, a.ce]) (.tail _ (.head _)) (.tail _ (.tail _ (.head _))) (.tail _ (.tail _ (.tail _ (.head _)))) (.tail _ (.tail _ (.tail _ (.tail _ (.head _))))) x hx)) (none_hide (.head _)) Z.hfl (by omega) rv g o1 hz ⟨e, D, l, len, at', key⟩ (nd_at Z.nd 6 5 rfl rfl (by decide))
    fun h' k' x p as H' t u c z T1 r nd k1 l1 l2 => q h' k' x p as H' t u (c.mono (one_mut (hpm a))) (Z.hpSet c z.hh (by (clear l1; omega))) T1 r nd k1 l1 l2
end
noncomputable def lit_of {K : Frag} {f : Addr} {oc : Value} {od : Option Addr} {name qual : Str} {params : Arguments} {dV kV doc pm : Value} {an : Option Addr} {cdv ct : Value} {osl : Array (Option Value)} {b : List Stmt} {s : Scope}
   (_ : K.lookup f = some ⟨oc, od, .func (fnOf name qual params b s dV kV doc pm an cdv ct), osl⟩) : List Stmt × Scope := (b, s)
end
section
open PySem PySem.W PyProof.Rows PySem.Calls
set_option hygiene false
noncomputable def lawBS (P0 : Params) : List Stmt × Scope := by
  refine' lit_of (K := hd.heap_39 P0) (f := 476) ?ho
  case ho => k_is
noncomputable abbrev lawB (P0 : Params) : List Stmt := (lawBS P0).1
noncomputable abbrev lawS (P0 : Params) : Scope := (lawBS P0).2
noncomputable abbrev lawN : List (Str × NameKind) := [("script", .local), ("urn", .cell), ("book", .local), ("cells", .cell), ("table", .cell), ("ends", .cell), ("k", .local), ("way", .local), ("older", .local), ("trees", .local), ("step", .local), ("row", .local), ("roots", .local), ("plain", .local), ("heap", .local), ("trail", .local), ("i", .local), ("j", .local),
  ("Symbols", .globalImplicit), ("Store", .globalImplicit), ("range", .globalImplicit), ("_law_pick", .globalImplicit), ("CON", .globalImplicit), ("INT", .globalImplicit), ("_law_tree", .globalImplicit), ("_law_changed", .globalImplicit), ("list", .globalImplicit), ("variant", .globalImplicit)]
noncomputable def FinQ (B : Heap) (fl : Flow) (h : Heap) (_ : Nat) : Prop := fl = .ret (.bool true) ∧ ∀ b o, B.get? b = some o → h.get? b = some o
end
section
open PySem PySem.W PyProof.Rows PySem.Calls
set_option hygiene true
structure BI (h : Heap) (i : Nat) (H : List (Int × Int)) (kt : List (Int × Value)) (es : List Value) (ev : Int → Tr) : Prop where
  hl : H.length = i
  kl : kt.length = i
  el : es.length = i
  tab : ∀ j : Int, 0 ≤ j → j < i → ∃ b t u, valueAt kt j = some (.ref b) ∧ Tp h b [.int 0 t, .int j u]
  key : ∀ x ∈ kt, 0 ≤ x.1 ∧ x.1 < (i : Int)
  ends : ∀ j : Int, 0 ≤ j → j < i → ∃ w, es[j.toNat]? = some w ∧ Rd h w (enc (ev j))
  lf : ∀ j : Int, 0 ≤ j → j < i → (ev j).leaf = true
  dr : ∀ j : Int, 0 ≤ j → j < i → ∃ m, Der H m (0, j) (lcell (ev j))
  id : ∀ j l : Int, 0 ≤ j → j < i → ev j = .v l → 0 ≤ l ∧ l < i ∧ ev l = .v l
section
variable {h h' : Heap} {i : Nat} {H H' : List (Int × Int)} {kt : List (Int × Value)} {es : List Value} {ev : Int → Tr}
theorem BI.tk (I : BI h i H kt es ev) (t : Tk h h') : BI h' i H kt es ev :=
  ⟨I.hl, I.kl, I.el, fun j a b => (by obtain ⟨x, t1, u, e, r⟩ := I.tab j a b; exact ⟨x, t1, u, e, r.tk t⟩), I.key, fun j a b => (by obtain ⟨w, e, r⟩ := I.ends j a b; exact ⟨w, e, r.tk t⟩), I.lf, I.dr, I.id⟩
theorem BI.nil : BI h 0 [] [] [] ev :=
  ⟨rfl, rfl, rfl, fun j a b => by omega, fun x hx => by simp at hx, fun j a b => by omega, fun j a b => by omega, fun j a b => by omega, fun j l a b => by omega⟩
theorem BI.no (I : BI h i H kt es ev) : valueAt kt (i : Int) = none := by
  unfold valueAt
  rw [Option.map_eq_none_iff, List.find?_eq_none]
  intro x hx
  have := I.key x hx
  simp; omega
theorem BI.step (I : BI h i H kt es ev) {b : Addr} {t u : Tok} {w : Value} {T : Tr} {m : Nat} (hl : H'.length = i + 1) (hk : ∀ j, j < i → H'[j]? = H[j]?) (T1 : Tp h b [.int 0 t, .int i u]) (rw9 : Rd h w (enc T)) (lf : T.leaf = true)
    (D : Der H' m (0, (i : Int)) (lcell T)) (hT : ∀ l, T = .v l → l = i ∨ (0 ≤ l ∧ l < i ∧ ev l = .v l)) :
    BI h (i + 1) H' (stored kt (i : Int) (.ref b)) (es ++ [w]) (fun j => if j = i then T else ev j) := by
  have hk' : ∀ j, j < H.length → H'[j]? = H[j]? := fun j hj => hk j (by rw [← I.hl]; exact hj)
  have hel := I.el
  refine ⟨hl, by rw [stored_absent I.no]; simp [I.kl], by simp [I.el], fun j a c => ?_, fun x hx => ?_, fun j a c => ?_, fun j a c => ?_, fun j a c => ?_, fun j l a c e => ?_⟩
  · rw [valueAt_stored]
    by_cases hj : j = i
    · subst hj; exact ⟨b, t, u, by simp, T1⟩
    · obtain ⟨x, t1, u1, e, r⟩ := I.tab j a (by (clear hel; omega))
      exact ⟨x, t1, u1, by rw [if_neg hj]; exact e, r⟩
  · rw [stored_absent I.no] at hx
    rcases List.mem_append.mp hx with hx | hx
    · have := I.key x hx; (clear hel; omega)
    · simp at hx; subst hx; simp; omega
  · by_cases hj : j = i
    · subst hj
      exact ⟨w, by simp [← hel], by simpa using rw9⟩
    · obtain ⟨w1, e, r⟩ := I.ends j a (by omega)
      refine ⟨w1, ?_, by simpa [hj] using r⟩
      rw [List.getElem?_append_left (by omega)]; exact e
  · by_cases hj : j = i
    · simpa [hj] using lf
    · simpa [hj] using I.lf j a (by omega)
  · by_cases hj : j = i
    · exact ⟨m, by simpa [hj] using D⟩
    · obtain ⟨m1, d⟩ := I.dr j a (by omega)
      exact ⟨m1, by simpa [hj] using d.keep hk'⟩
  · by_cases hj : j = i
    · have e' : T = .v l := by simpa [hj] using e
      rcases hT l e' with rfl | ⟨x, y, z⟩
      · exact ⟨by exact Int.natCast_nonneg _, by omega, by simpa using e'⟩
      · exact ⟨x, by (clear hel hj; omega), by rw [if_neg (by (clear hel hj; omega))]; exact z⟩
    · have e' : ev j = .v l := by simpa [hj] using e
      obtain ⟨x, y, z⟩ := I.id j l a (by omega) e'
      exact ⟨x, by (clear hel; omega), by rw [if_neg (by (clear hel; omega))]; exact z⟩
theorem set_last {α : Type} : ∀ {l : List α} {n : Nat} {v w : α}, l.length = n → (l ++ [v]).set n w = l ++ [w]
  | [], _, _, _, rfl => rfl
  | a :: l, _, v, w, rfl => by simp [set_last (l := l) rfl]
theorem BI.stepH (I : BI h i H kt es ev) {b : Addr} {t u : Tok} {w : Value} {T : Tr} {m : Nat} {p : Int × Int} (T1 : Tp h b [.int 0 t, .int i u]) (rw9 : Rd h w (enc T)) (lf : T.leaf = true)
    (D : Der (H ++ [p]) m (0, (i : Int)) (lcell T)) (hT : ∀ l, T = .v l → l = i ∨ (0 ≤ l ∧ l < i ∧ ev l = .v l)) :
    BI h (i + 1) (H ++ [p]) (stored kt (i : Int) (.ref b)) (es ++ [w]) (fun j => if j = i then T else ev j) :=
  I.step (by simp [I.hl]) (fun j hj => by rw [List.getElem?_append_left (by rw [I.hl]; exact hj)]) T1 rw9 lf D hT
theorem BI.last (I : BI h i H kt es ev) {p : Int × Int} : (H ++ [p])[(i : Int).toNat]? = some p := by simp [← I.hl]
theorem BI.free (I : BI h i H kt es ev) (hi : i < 10) : Der (H ++ [(0, (i : Int))]) 0 (0, (i : Int)) (0, (i : Int)) := .self (by exact Int.natCast_nonneg _) (by omega) I.last
theorem BI.to (I : BI h i H kt es ev) (hi : i < 10) {p : Int × Int} (h0 : p.1 ≠ 0) (h1 : p.1 ≠ 1) : Der (H ++ [p]) 1 (0, (i : Int)) p :=
  .step (by exact Int.natCast_nonneg _) (by omega) I.last (fun e => h0 (by rw [e])) (.con h0 h1)
theorem BI.old (I : BI h i H kt es ev) (hi : i < 10) {r : Int} (r0 : 0 ≤ r) (r1 : r < i) : ∃ m, Der (H ++ [(0, r)]) m (0, (i : Int)) (lcell (ev r)) := by
  obtain ⟨m, d⟩ := I.dr r r0 r1
  refine ⟨m + 1, .step (by exact Int.natCast_nonneg _) (by omega) I.last (fun e => ?_) (d.keep fun j hj => by rw [List.getElem?_append_left hj])⟩
  injection e with _ e; omega
theorem addS_mem {L : List Str} {x : Str} : x ∈ addS L x := by unfold addS; split <;> simp_all
theorem addS_idem {L : List Str} {x : Str} : addS (addS L x) x = addS L x := if_pos addS_mem
theorem BI.bd (I : BI h 4 H kt es ev) : Bd H ev := ⟨fun k a b => I.lf k a (by assumption), fun k a b => I.dr k a (by assumption), fun k j a b e => (by obtain ⟨x, y, z⟩ := I.id k j a (by assumption) e; exact ⟨x, by assumption, z⟩)⟩
end
theorem LW.st' {V : Vw} {h h' : Heap} {a : Ad} {o : Ob} {f : Fx} {LL : List Str} {F H : List (Int × Int)} {kt : List (Int × Value)} {es : List Value} {τ' : List (Addr × Obj)}
    (Z : LW V h a LL F H kt es) (l : ∀ p ∈ led a o f, h.get? p.1 = some p.2) (t : Tk h h') (S : ∀ p ∈ τ' ++ led a o f, h'.get? p.1 = some p.2) : LW V h' a LL F H kt es :=
  Z.mv (led_ag l fun p hp => S p (List.mem_append_right _ hp)) t
theorem LW.ic {V : Vw} {h : Heap} {a : Ad} {LL : List Str} {F H : List (Int × Int)} {kt : List (Int × Value)} {es : List Value} (Z : LW V h a LL F H kt es) : ∃ t1 t2 t3, Inst h a.c 380 (cellsF a.sy a.hp a.st a.tr t1 t2 t3) := by
  obtain ⟨es, n, t1, t2, t3, e1, e2, en⟩ := Z.fx.c
  exact ⟨t1, t2, t3, ⟨_, _, _, e1, e2, en⟩, cells_nd⟩
theorem LW.isy {V : Vw} {h : Heap} {a : Ad} {LL : List Str} {F H : List (Int × Int)} {kt : List (Int × Value)} {es : List Value} (Z : LW V h a LL F H kt es) : Inst h a.sy 154 (symF a.tx a.an a.fl a.fn) := by
  obtain ⟨es, n, e1, e2, en⟩ := Z.fx.sy
  exact ⟨⟨_, _, _, e1, e2, en⟩, sym_nd⟩
section
variable {V : Vw} {K : Frag} {B₀ B P h : Heap} {L : Addr} {ns : List (Str × NameKind)} {vs : List (Option Value)} {σ : List (Addr × Obj)} {A : Around} {k i : Nat} {a : Ad} {LL : List Str} {F H : List (Int × Int)} {kt : List (Int × Value)} {es : List Value} {pos : Pos} {name : Str} {f : Addr} {u : Tok} {v w : Value} {j : Int}
theorem tbm (a : Ad) : a.tb ∈ a.mut := .tail _ (.tail _ (.tail _ (.tail _ (.tail _ (.tail _ (.head _))))))
theorem enm (a : Ad) : a.en ∈ a.mut := .tail _ (.tail _ (.tail _ (.tail _ (.tail _ (.tail _ (.tail _ (.head _)))))))
theorem MC_c {pl : Sem Bool} {args : List (Bool × Sem Value)} {Q : Value → Heap → Nat → Prop} (S : St B P L ns vs σ h) (G : Wd K B₀ B) (Z : LW V h a LL F H kt es) (c : Mth K 380 name f)
    (q : W V A (callWith pos (.ref f) [.ref a.c] args []) Q h k) (nf : ∀ t1 t2 t3, (cellsF a.sy a.hp a.st a.tr t1 t2 t3).all (fun p => !(name == p.1)) = true) :
    W V A (getMethod (.ref a.c) name pl) (fun fx => W V A (callWith pos fx.1 fx.2 args []) Q) h k :=
  (by obtain ⟨t1, t2, t3, I⟩ := Z.ic; exact MC_defh S G I c q (nf t1 t2 t3))
theorem MC_en {pl : Sem Bool} {args : List (Bool × Sem Value)} {Q : Value → Heap → Nat → Prop} (Z : LW V h a LL F H kt es) (q : W V A (callWith pos (.builtin "list.append") [.ref a.en] args []) Q h k) :
    W V A (getMethod (.ref a.en) "append" pl) (fun fx => W V A (callWith pos fx.1 fx.2 args []) Q) h k :=
  (by obtain ⟨_, e⟩ := Z.en; exact MC_append e q)
theorem en_app {Q : Value → Heap → Nat → Prop} (Z : LW V h a LL F H kt es) (hsz : es.length ≤ 1000000) (q : ∀ h', Chg a.mut h h' → LW V h' a LL F H kt (es ++ [v]) → Q .none h' k) :
    W V A (call (.builtin "list.append") ([.ref a.en] ++ [v])) Q h k :=
  (by obtain ⟨_, e⟩ := Z.en; exact C_appC e hsz fun h' x e' => q h' (x.mono (one_mut (enm a))) (Z.enSet x ⟨_, e'⟩))
theorem en_get {value slice : Expr} {Q : Value → Heap → Nat → Prop} (Z : LW V h a LL F H kt es) (hx : es[j.toNat]? = some v) (h0 : 0 ≤ j) (hhi : j < 2 ^ 63) (q : Q v h k)
    (hs : subscripted slice false (.ref a.en) (.int j u) = operate [.ref a.en, .int j u] (getItem (.ref a.en) (.int j u))) : W V A (subscriptTail value slice (.ref a.en) (.int j u)) Q h k :=
  (by obtain ⟨_, e⟩ := Z.en; exact I_lst e q hx h0 hhi hs)
theorem en_set {Q : Unit → Heap → Nat → Prop} (Z : LW V h a LL F H kt (es ++ [v])) (hl : es.length = i) (hi : i < 10) (q : ∀ h', Chg a.mut h h' → LW V h' a LL F H kt (es ++ [w]) → Q () h' k) :
    W V A (setItem (.ref a.en) (.int (i : Int) u) w) Q h k :=
  (by obtain ⟨_, e⟩ := Z.en; exact P_lstC e (by exact Int.natCast_nonneg _) (by (clear hl; omega)) (by simp; omega) fun h' x e' => q h' (x.mono (one_mut (enm a))) (Z.enSet x ⟨_, by rw [Int.toNat_natCast, set_last hl] at e'; exact e'⟩))
theorem tb_get {value slice : Expr} {Q : Value → Heap → Nat → Prop} (Z : LW V h a LL F H kt es) (hv : valueAt kt j = some v) (q : Q v h (k + 1))
    (hs : subscripted slice false (.ref a.tb) (.int j u) = operate [.ref a.tb, .int j u] (getItem (.ref a.tb) (.int j u))) : W V A (subscriptTail value slice (.ref a.tb) (.int j u)) Q h k :=
  (by obtain ⟨_, e, D, _⟩ := Z.tb; exact I_dic (knd := PySem.intKind V.prog V.w) (x := j) e D isI hv q hs)
theorem tb_set {Q : Unit → Heap → Nat → Prop} (Z : LW V h a LL F H kt es) (hsz : kt.length ≤ 1000000) (q : ∀ h', Chg a.mut h h' → LW V h' a LL F H (stored kt j v) es → Q () h' (k + 1)) :
    W V A (setItem (.ref a.tb) (.int j u) v) Q h k :=
  (by obtain ⟨_, e, D, _⟩ := Z.tb; exact P_dicC (knd := PySem.intKind V.prog V.w) (x := j) e D isI hsz fun o' h' e' D' x => q h' (x.mono (one_mut (tbm a))) (Z.tbSet x ⟨o', e', D'⟩))
end
end
section
open PySem PySem.W PyProof.Rows PySem.Calls
set_option hygiene false
inductive JB (V : Vw) (a : Ad) (f : Fx) (w0 : Value) (F : List (Int × Int)) (n0 : Nat) : Nat → List (Option Value) → List (Addr × Obj) → Heap → Prop
  | mk {w6 w7 w8 : Option Value} {o : Ob} {LL : List Str} {H : List (Int × Int)} {kt : List (Int × Value)} {es : List Value} {ev : Int → Tr} {i : Nat} {h : Heap} (hled : ∀ p ∈ led a o f, h.get? p.1 = some p.2) (Z : LW V h a LL F H kt es) (hLL : LL.length ≤ n0 + i) (I : BI h i H kt es ev) :
    JB V a f w0 F n0 i [some w0, none, some (.ref a.sy), none, none, none, w6, w7, w8, none, none, none, none, none, none, none, none, none] (led a o f) h
section
variable {V : Vw} {B P h : Heap} {L fa : Addr} {cd w0 : Value} {a : Ad} {o : Ob} {f : Fx} {LL : List Str} {F : List (Int × Int)} {A : Around} {k : Nat}
set_option maxHeartbeats 8000000 in
theorem segB (G : Wd (hd.heap_39 V.w.params) B B) (R : Room A 30) (hcu : f.cu.data = .cell (some (.ref a.ur))) (hcc : f.cc.data = .cell (some (.ref a.c))) (hct : f.ct.data = .cell (some (.ref a.tb))) (hce : f.ce.data = .cell (some (.ref a.en)))
    (S : St B P L lawN [some w0, none, some (.ref a.sy), none, none, none, none, none, none, none, none, none, none, none, none, none, none, none] (led a o f) h)
    (Z : LW V h a LL F [] [] []) (sLL : LL.length ≤ 61) (sF : F.length ≤ 32)
    (next : ∀ P h k o w6 w7 w8 LL H kt es ev, St B P L lawN [some w0, none, some (.ref a.sy), none, none, none, w6, w7, w8, none, none, none, none, none, none, none, none, none] (led a o f) h →
      LW V h a LL F H kt es → LL.length ≤ 65 → BI h 4 H kt es ev →
      W V A (execs ((lawB V.w.params).drop 6) (envX "law" (lawS V.w.params) L fa cd [("ends", a.ce), ("table", a.ct), ("cells", a.cc), ("urn", a.cu)])) (FinQ B) h k) :
    W V A (execs ((lawB V.w.params).drop 5) (envX "law" (lawS V.w.params) L fa cd [("ends", a.ce), ("table", a.ct), ("cells", a.cc), ("urn", a.cu)])) (FinQ B) h k := by
  dsimp only [lawB, lawBS, lit_of, List.drop]
  replace S := S.pool
  have S8 := S
  with_reducible refine X_for ?_
  with_reducible refine E_call ?_
  with_reducible refine' E_bi (by assumption) (by assumption) ?c2 ?c3 ?c4 ?c5 ?_
  case c2 => exact .tl (.tl (.tl (.tl (.tl (.tl (.tl (.tl (.tl (.tl (.tl (.tl (.tl (.tl (.tl (.tl (.tl (.tl (.tl (.tl .hd)))))))))))))))))))
  case c3 => k_is
  case c4 => boot_by_name
  case c5 => decide
  with_reducible refine C_ty ?_
  with_reducible refine S_cons ?_
  with_reducible refine E_int ?_
  with_reducible refine S_nil ?_
  refine C_rng1 S fun r9 h1 k1 hr S => ?_
  have Z := Z.st (τ := []) (τ' := []) S8 S
  replace S := S.pool
  have S8 := S
  refine iter_range (n := 4) S hr (by decide) (by decide) fun I oI h1 so S => ?_
  have Z := Z.st (τ := []) (τ' := [_]) S8 S
  replace S := S.pool
  refine N_forR (JB V a f w0 F LL.length)
    0 1 R.1 S so (.mk (fun p hp => S.hs p (.tail _ hp)) Z (by omega) (BI.nil (ev := fun k => .v k))) 6 rfl ?_ ?_ ?_ rfl rfl
  · rintro i vs σ h2 ⟨⟩
    rfl
  · rintro i vs σ h2 @⟨w6, w7, w8, o, LL', H, kt, es, ev, i, h2, hled, Z, hLL, I9⟩ hi tk tv oI h1 k1 S Qt hQr hQn
    dsimp only [List.set] at S
    rw [show (0 : Int) + (i : Int) * 1 = (i : Int) by omega] at S
    have Z1 := Z.st' (τ' := [_]) hled S.tup S.hs
    have tkh := S.tup
    have I1 := I9.tk S.tup
    replace S := S.pool
    have hH := I1.hl
    with_reducible refine X_sub ?_
    with_reducible refine E_meth ?_
    with_reducible refine' Y_cell (by assumption) ?c1 ?c2 ?c3 ?_ ?c5 ?c6 ?c7
    case c1 => rfl
    case c2 => exact .t3 (.t3 (.t3 (.t3 (.t3 .h2))))
    case c3 => assumption
    case c5 => rfl
    case c6 => rfl
    case c7 => decide
    refine MC_c S G Z1 mth_new_var ?_ fun _ _ _ => rfl
    with_reducible refine' CC_ref (by assumption) (by assumption) ?c2 ?_
    case c2 => k_is
    with_reducible refine S_nil ?_
    with_reducible refine' Krf_go (by assumption) (by assumption) ?_
    refine new_varL (τ := [_]) G S R Z1 (by omega) fun h2 k2 x t' u' xx ZZ T => ?_
    replace S := LW.go (τ := [_]) S xx ZZ
    dsimp only [List.cons_append, List.nil_append] at S
    have tks := S.tup
    replace tkh := tkh.trans tks
    replace S := S.pool
    have S0 := S
    have I2 := I1.tk tks
    with_reducible refine' Y_cell (by assumption) ?c1 ?c2 ?c3 ?_ ?c5 ?c6 ?c7
    case c1 => rfl
    case c2 => exact .t3 (.t3 (.t3 (.t3 (.t3 (.t3 .hd)))))
    case c3 => assumption
    case c5 => rfl
    case c6 => rfl
    case c7 => decide
    with_reducible refine' E_loc (by assumption) ?c1 ?_
    case c1 => exact .t3 (.t3 .hd)
    have Z3 := ZZ.st (τ := [_]) (τ' := [_]) S0 S
    have hkl := I2.kl
    have hel := I2.el
    refine tb_set Z3 (by (clear hH hel; omega)) fun h2 xx ZZ => ?_
    have T := T.tk (S.tup.trans xx.tup)
    have I2 := I2.tk (S.tup.trans xx.tup)
    replace S := LW.go (τ := [_]) S xx ZZ
    dsimp only [List.cons_append, List.nil_append] at S
    have tks := S.tup
    replace tkh := tkh.trans tks
    replace S := S.pool
    have S0 := S
    with_reducible refine X_expr ?_
    with_reducible refine E_meth ?_
    with_reducible refine' Y_cell (by assumption) ?c1 ?c2 ?c3 ?_ ?c5 ?c6 ?c7
    case c1 => rfl
    case c2 => exact .t3 (.t3 (.t3 (.t3 (.t3 (.t3 .h1)))))
    case c3 => assumption
    case c5 => rfl
    case c6 => rfl
    case c7 => decide
    refine MC_en (ZZ.st (τ := [_]) (τ' := [_]) S0 S) ?_
    with_reducible refine C_bi ?_
    with_reducible refine S_cons ?_
    with_reducible refine E_tuple ?_
    with_reducible refine S_cons ?_
    with_reducible refine E_str ?_
    with_reducible refine' S_locL (by assumption) ?c1 ?_
    case c1 => exact .t3 (.t3 .hd)
    with_reducible refine' N_tup (by assumption) ?_
    intro t1 h1 S
    with_reducible refine S_nil ?_
    have tkS := S.tup
    refine en_app (ZZ.st (τ := [_]) (τ' := [_, _]) S0 S) (by (clear hH hkl; omega)) fun h3 xx ZZ => ?_
    have T := T.tk (tkS.trans xx.tup)
    have I2 := I2.tk (tkS.trans xx.tup)
    have Tv := (to_tp (S.has .hd)).tk xx.tup
    replace S := LW.go (τ := [_, _]) S xx ZZ
    dsimp only [List.cons_append, List.nil_append] at S
    have tks := S.tup
    replace tkh := tkh.trans tks
    replace S := S.pool
    have S0 := S
    replace S := S.drop (List.sublist_cons_self _ _)
    have S0 := S
    with_reducible refine And_none ?_
    with_reducible refine X_name ?_
    with_reducible refine' E_cg (by assumption) (by assumption) ?c2 ?c3 ?c4 ?_
    case c2 => exact .tl (.tl (.tl (.tl (.tl (.tl (.tl (.tl (.tl (.tl (.tl (.tl (.tl (.tl (.tl (.tl (.tl (.tl (.tl (.tl (.tl .hd))))))))))))))))))))
    case c3 => k_is
    case c4 => k_is
    with_reducible refine S_cons ?_
    with_reducible refine' Y_cell (by assumption) ?c1 ?c2 ?c3 ?_ ?c5 ?c6 ?c7
    case c1 => rfl
    case c2 => exact .t3 (.t3 (.t3 (.t3 (.t3 .h1))))
    case c3 => assumption
    case c5 => rfl
    case c6 => rfl
    case c7 => decide
    with_reducible refine S_cons ?_
    with_reducible refine E_int ?_
    with_reducible refine S_nil ?_
    with_reducible refine' Krf_go (by assumption) (by assumption) ?_
    have tkS := S.tup
    have Z3 := ZZ.st (τ := [_]) (τ' := [_]) S0 S
    have T := T.tk tkS
    have Tv := Tv.tk tkS
    have I2 := I2.tk tkS
    refine pickL (τ := [_]) (n := 20) G S (R.less (by decide)) Z3 (by decide) (by decide) fun h4 k4 r t9 xx ZZ r0 r1 => ?_
    have T := T.tk xx.tup
    have Tv := Tv.tk xx.tup
    have I2 := I2.tk xx.tup
    replace S := LW.go (τ := [_]) S xx ZZ
    dsimp only [List.cons_append, List.nil_append] at S
    have tks := S.tup
    replace tkh := tkh.trans tks
    replace S := S.pool
    have S0 := S
    rw [hH] at T
    have hv9 : valueAt (stored kt (i : Int) (.ref x)) (i : Int) = some (.ref x) := by rw [valueAt_stored, if_pos rfl]
    with_reducible refine' N_st (by assumption) ?c1 ?_
    case c1 => exact .t3 (.t3 .h1)
    intro h1 S
    with_reducible refine X_if0c ?_
    with_reducible refine' E_loc (by assumption) ?c1 ?_
    case c1 => exact .t3 (.t3 .h1)
    with_reducible refine E_int ?_
    with_reducible refine q_ie ?_
    refine ⟨fun c1 => ?_, fun c1 => ?_⟩
    · with_reducible refine X_expr ?_
      with_reducible refine E_meth ?_
      with_reducible refine' Y_cell (by assumption) ?c1 ?c2 ?c3 ?_ ?c5 ?c6 ?c7
      case c1 => rfl
      case c2 => exact .t3 (.t3 (.t3 (.t3 (.t3 .h2))))
      case c3 => assumption
      case c5 => rfl
      case c6 => rfl
      case c7 => decide
      have Z3 := ZZ.st (τ := [_]) (τ' := [_]) S0 S
      refine MC_c S G Z3 mth_bind ?_ fun _ _ _ => rfl
      with_reducible refine' CC_ref (by assumption) (by assumption) ?c2 ?_
      case c2 => k_is
      with_reducible refine S_cons ?_
      with_reducible refine E_sub ?_
      with_reducible refine' Y_cell (by assumption) ?c1 ?c2 ?c3 ?_ ?c5 ?c6 ?c7
      case c1 => rfl
      case c2 => exact .t3 (.t3 (.t3 (.t3 (.t3 (.t3 .hd)))))
      case c3 => assumption
      case c5 => rfl
      case c6 => rfl
      case c7 => decide
      with_reducible refine' E_loc (by assumption) ?c1 ?_
      case c1 => exact .t3 (.t3 .hd)
      refine tb_get (ZZ.st (τ := [_]) (τ' := [_]) S0 S) hv9 ?_ (by with_unfolding_all rfl)
      with_reducible refine S_cons ?_
      with_reducible refine E_tuple ?_
      with_reducible refine S_cons ?_
      with_reducible refine' E_glo (by assumption) (by assumption) ?c2 ?c3 ?_
      case c2 => exact .tl (.tl (.tl (.tl (.tl (.tl (.tl (.tl (.tl (.tl (.tl (.tl (.tl (.tl (.tl (.tl (.tl (.tl (.tl (.tl (.tl (.tl .hd)))))))))))))))))))))
      case c3 => k_is
      with_reducible refine S_cons ?_
      with_reducible refine E_meth ?_
      with_reducible refine' E_loc (by assumption) ?c1 ?_
      case c1 => exact .h2
      have Z3 := ZZ.st (τ := [_]) (τ' := [_]) S0 S
      refine MC_defh S G Z3.isy mth_atom ?_ rfl
      with_reducible refine' CC_ref (by assumption) (by assumption) ?c2 ?_
      case c2 => k_is
      with_reducible refine S_cons ?_
      with_reducible refine E_str ?_
      with_reducible refine S_nil ?_
      with_reducible refine' Krf_go (by assumption) (by assumption) ?_
      have tkS := S.tup
      have Z3 := ZZ.st (τ := [_]) (τ' := [_]) S0 S
      have T := T.tk tkS
      have I2 := I2.tk tkS
      refine atomL (τ := [_]) (n := 20) G S (R.less (by decide)) Z3 (by (clear hH hkl hel; omega)) fun h4 k4 t9 xx ZZ => ?_
      have T := T.tk xx.tup
      have I2 := I2.tk xx.tup
      replace S := LW.go (τ := [_]) S xx ZZ
      dsimp only [List.cons_append, List.nil_append] at S
      have tks := S.tup
      replace tkh := tkh.trans tks
      replace S := S.pool
      have S0 := S
      with_reducible refine S_nil ?_
      with_reducible refine' N_tup (by assumption) ?_
      intro t1 h1 S
      with_reducible refine S_nil ?_
      with_reducible refine' Krf_go (by assumption) (by assumption) ?_
      have tkS := S.tup
      have Z3 := ZZ.st (τ := [_]) (τ' := [_, _]) S0 S
      have T := T.tk tkS
      have I2 := I2.tk tkS
      refine bindL_ (p := (4, atn LL' "k")) (τ := [_, _]) (n := 20) G S (R.less (by decide)) Z3 T (to_tp (S.has .hd)) (by exact Int.natCast_nonneg _) (by simp; omega) fun h4 k4 xx ZZ => ?_
      rw [Int.toNat_natCast, set_last hH] at ZZ
      have T := T.tk xx.tup
      have I2 := I2.tk xx.tup
      replace S := LW.go (τ := [_, _]) S xx ZZ
      dsimp only [List.cons_append, List.nil_append] at S
      have tks := S.tup
      replace tkh := tkh.trans tks
      replace S := S.pool
      have S0 := S
      replace S := S.drop (List.sublist_cons_self _ _)
      have S0 := S
      with_reducible refine And_none ?_
      with_reducible refine X_sub ?_
      with_reducible refine E_tuple ?_
      with_reducible refine S_cons ?_
      with_reducible refine E_str ?_
      with_reducible refine S_cons ?_
      with_reducible refine E_meth ?_
      with_reducible refine' E_loc (by assumption) ?c1 ?_
      case c1 => exact .h2
      have Z3 := ZZ.st (τ := [_]) (τ' := [_]) S0 S
      refine MC_defh S G Z3.isy mth_atom ?_ rfl
      with_reducible refine' CC_ref (by assumption) (by assumption) ?c2 ?_
      case c2 => k_is
      with_reducible refine S_cons ?_
      with_reducible refine E_str ?_
      with_reducible refine S_nil ?_
      with_reducible refine' Krf_go (by assumption) (by assumption) ?_
      have tkS := S.tup
      have Z3 := ZZ.st (τ := [_]) (τ' := [_]) S0 S
      have T := T.tk tkS
      have I2 := I2.tk tkS
      have hal := adds_len (F := LL') (p := "k")
      refine atomL (τ := [_]) (n := 20) G S (R.less (by decide)) Z3 (by (clear hH hkl hel; omega)) fun h4 k4 t9 xx ZZ => ?_
      rw [show atn (addS LL' "k") "k" = atn LL' "k" by unfold atn; rw [addS_idem]]
      rw [addS_idem] at ZZ
      have T := T.tk xx.tup
      have I2 := I2.tk xx.tup
      replace S := LW.go (τ := [_]) S xx ZZ
      dsimp only [List.cons_append, List.nil_append] at S
      have tks := S.tup
      replace tkh := tkh.trans tks
      replace S := S.pool
      have S0 := S
      with_reducible refine S_nil ?_
      with_reducible refine' N_tup (by assumption) ?_
      intro t1 h1 S
      with_reducible refine' Y_cell (by assumption) ?c1 ?c2 ?c3 ?_ ?c5 ?c6 ?c7
      case c1 => rfl
      case c2 => exact .t3 (.t3 (.t3 (.t3 (.t3 (.t3 .h2)))))
      case c3 => assumption
      case c5 => rfl
      case c6 => rfl
      case c7 => decide
      with_reducible refine' E_loc (by assumption) ?c1 ?_
      case c1 => exact .t3 (.t3 .hd)
      have tkS := S.tup
      refine en_set (ZZ.st (τ := [_]) (τ' := [_, _]) S0 S) hel (by (clear hH hkl hel; omega)) fun h4 xx ZZ => ?_
      have T := T.tk (tkS.trans xx.tup)
      have I2 := I2.tk (tkS.trans xx.tup)
      have Tw := (to_tp (S.has .hd)).tk xx.tup
      replace S := LW.go (τ := [_, _]) S xx ZZ
      dsimp only [List.cons_append, List.nil_append] at S
      have tks := S.tup
      replace tkh := tkh.trans tks
      replace S := S.pool
      have S0 := S
      replace S := S.drop (List.sublist_cons_self _ _)
      with_reducible refine X_nil ?_
      exact hQn _ _ _ _ _ (by first | exact .inl rfl | exact .inr rfl) (S.re tkh) (.mk (fun p hp => S.hs p (.tail _ hp)) ZZ (by (clear hH hkl hel; omega))
        (I2.stepH (T := .a (atn LL' "k")) T (Rd.tup Tw (Rd.cons (Reads.str _ _) (Rd.cons (Reads.int _ _) .nil))) rfl (I2.to (by omega) (by simp) (by simp)) fun l e => nomatch e))
    · with_reducible refine X_if0c ?_
      with_reducible refine' E_loc (by assumption) ?c1 ?_
      case c1 => exact .t3 (.t3 .h1)
      with_reducible refine E_int ?_
      with_reducible refine q_ie ?_
      refine ⟨fun c2 => ?_, fun c2 => ?_⟩
      · with_reducible refine X_expr ?_
        with_reducible refine E_meth ?_
        with_reducible refine' Y_cell (by assumption) ?c1 ?c2 ?c3 ?_ ?c5 ?c6 ?c7
        case c1 => rfl
        case c2 => exact .t3 (.t3 (.t3 (.t3 (.t3 .h2))))
        case c3 => assumption
        case c5 => rfl
        case c6 => rfl
        case c7 => decide
        have Z3 := ZZ.st (τ := [_]) (τ' := [_]) S0 S
        refine MC_c S G Z3 mth_bind ?_ fun _ _ _ => rfl
        with_reducible refine' CC_ref (by assumption) (by assumption) ?c2 ?_
        case c2 => k_is
        with_reducible refine S_cons ?_
        with_reducible refine E_sub ?_
        with_reducible refine' Y_cell (by assumption) ?c1 ?c2 ?c3 ?_ ?c5 ?c6 ?c7
        case c1 => rfl
        case c2 => exact .t3 (.t3 (.t3 (.t3 (.t3 (.t3 .hd)))))
        case c3 => assumption
        case c5 => rfl
        case c6 => rfl
        case c7 => decide
        with_reducible refine' E_loc (by assumption) ?c1 ?_
        case c1 => exact .t3 (.t3 .hd)
        refine tb_get (ZZ.st (τ := [_]) (τ' := [_]) S0 S) hv9 ?_ (by with_unfolding_all rfl)
        with_reducible refine S_cons ?_
        with_reducible refine E_tuple ?_
        with_reducible refine S_cons ?_
        with_reducible refine' E_glo (by assumption) (by assumption) ?c2 ?c3 ?_
        case c2 => exact .tl (.tl (.tl (.tl (.tl (.tl (.tl (.tl (.tl (.tl (.tl (.tl (.tl (.tl (.tl (.tl (.tl (.tl (.tl (.tl (.tl (.tl (.tl .hd))))))))))))))))))))))
        case c3 => k_is
        with_reducible refine S_cons ?_
        with_reducible refine E_int ?_
        with_reducible refine S_nil ?_
        with_reducible refine' N_tup (by assumption) ?_
        intro t1 h1 S
        with_reducible refine S_nil ?_
        with_reducible refine' Krf_go (by assumption) (by assumption) ?_
        have tkS := S.tup
        have Z3 := ZZ.st (τ := [_]) (τ' := [_, _]) S0 S
        have T := T.tk tkS
        have I2 := I2.tk tkS
        refine bindL_ (p := (5, 1)) (τ := [_, _]) (n := 20) G S (R.less (by decide)) Z3 T (to_tp (S.has .hd)) (by exact Int.natCast_nonneg _) (by simp; omega) fun h4 k4 xx ZZ => ?_
        rw [Int.toNat_natCast, set_last hH] at ZZ
        have T := T.tk xx.tup
        have I2 := I2.tk xx.tup
        replace S := LW.go (τ := [_, _]) S xx ZZ
        dsimp only [List.cons_append, List.nil_append] at S
        have tks := S.tup
        replace tkh := tkh.trans tks
        replace S := S.pool
        have S0 := S
        replace S := S.drop (List.sublist_cons_self _ _)
        have S0 := S
        with_reducible refine And_none ?_
        with_reducible refine X_sub ?_
        with_reducible refine E_tuple ?_
        with_reducible refine S_cons ?_
        with_reducible refine E_str ?_
        with_reducible refine S_cons ?_
        with_reducible refine E_int ?_
        with_reducible refine S_nil ?_
        with_reducible refine' N_tup (by assumption) ?_
        intro t1 h1 S
        with_reducible refine' Y_cell (by assumption) ?c1 ?c2 ?c3 ?_ ?c5 ?c6 ?c7
        case c1 => rfl
        case c2 => exact .t3 (.t3 (.t3 (.t3 (.t3 (.t3 .h2)))))
        case c3 => assumption
        case c5 => rfl
        case c6 => rfl
        case c7 => decide
        with_reducible refine' E_loc (by assumption) ?c1 ?_
        case c1 => exact .t3 (.t3 .hd)
        have tkS := S.tup
        refine en_set (ZZ.st (τ := [_]) (τ' := [_, _]) S0 S) hel (by omega) fun h4 xx ZZ => ?_
        have T := T.tk (tkS.trans xx.tup)
        have I2 := I2.tk (tkS.trans xx.tup)
        have Tw := (to_tp (S.has .hd)).tk xx.tup
        replace S := LW.go (τ := [_, _]) S xx ZZ
        dsimp only [List.cons_append, List.nil_append] at S
        have tks := S.tup
        replace tkh := tkh.trans tks
        replace S := S.pool
        have S0 := S
        replace S := S.drop (List.sublist_cons_self _ _)
        with_reducible refine X_nil ?_
        exact hQn _ _ _ _ _ (by first | exact .inl rfl | exact .inr rfl) (S.re tkh) (.mk (fun p hp => S.hs p (.tail _ hp)) ZZ (by (clear hH hkl hel; omega))
          (I2.stepH (T := .i 1) T (Rd.tup Tw (Rd.cons (Reads.str _ _) (Rd.cons (Reads.int _ _) .nil))) rfl (I2.to (by omega) (by simp) (by simp)) fun l e => nomatch e))
      · refine X_if (W.mono (Q := fun b h' _ => (b = true → 2 < r ∧ 0 < i) ∧ Chg [] h1 h') ?_ ?_)
        · with_reducible refine T_bool ?_
          with_reducible refine T_and ?_
          with_reducible refine T_cmp ?_
          with_reducible refine' E_loc (by assumption) ?c1 ?_
          case c1 => exact .t3 (.t3 .h1)
          with_reducible refine E_int ?_
          with_reducible refine i_gt ?_
          with_reducible refine truthy_b ?_
          refine ⟨fun e1 => ?_, fun e1 => ⟨fun h => by simp at h, .rfl⟩⟩
          with_reducible refine T_and ?_
          with_reducible refine T_cmp ?_
          with_reducible refine' E_loc (by assumption) ?c1 ?_
          case c1 => exact .t3 (.t3 .hd)
          with_reducible refine E_int ?_
          with_reducible refine i_gt ?_
          with_reducible refine truthy_b ?_
          refine ⟨fun e2 => ?_, fun e2 => ⟨fun h => by simp at h, .rfl⟩⟩
          with_reducible refine T_andN ?_
          exact ⟨fun _ => ⟨by simpa using e1, by simpa using e2⟩, .rfl⟩
        rintro b9 h5 k5 ⟨hb9, x5⟩
        replace S := S.call0 x5
        refine ⟨fun e0 => ?_, fun e0 => ?_⟩
        · obtain ⟨g1, g2⟩ := hb9 e0
          with_reducible refine X_name ?_
          with_reducible refine' E_cg (by assumption) (by assumption) ?c2 ?c3 ?c4 ?_
          case c2 => exact .tl (.tl (.tl (.tl (.tl (.tl (.tl (.tl (.tl (.tl (.tl (.tl (.tl (.tl (.tl (.tl (.tl (.tl (.tl (.tl (.tl .hd))))))))))))))))))))
          case c3 => k_is
          case c4 => k_is
          with_reducible refine S_cons ?_
          with_reducible refine' Y_cell (by assumption) ?c1 ?c2 ?c3 ?_ ?c5 ?c6 ?c7
          case c1 => rfl
          case c2 => exact .t3 (.t3 (.t3 (.t3 (.t3 .h1))))
          case c3 => assumption
          case c5 => rfl
          case c6 => rfl
          case c7 => decide
          with_reducible refine' S_locL (by assumption) ?c1 ?_
          case c1 => exact .t3 (.t3 .hd)
          with_reducible refine' Krf_go (by assumption) (by assumption) ?_
          have tkS := S.tup
          have Z3 := ZZ.st (τ := [_]) (τ' := [_]) S0 S
          have T := T.tk tkS
          have I2 := I2.tk tkS
          refine pickL (τ := [_]) (n := 20) G S (R.less (by decide)) Z3 (by exact Int.ofNat_lt.mpr (by assumption)) (by (clear hH hkl hel g2; omega)) fun h4 k4 older t9 xx ZZ o0 o1 => ?_
          have T := T.tk xx.tup
          have I2 := I2.tk xx.tup
          replace S := LW.go (τ := [_]) S xx ZZ
          dsimp only [List.cons_append, List.nil_append] at S
          have tks := S.tup
          replace tkh := tkh.trans tks
          replace S := S.pool
          have S0 := S
          with_reducible refine' N_st (by assumption) ?c1 ?_
          case c1 => exact .t3 (.t3 .h2)
          intro h1 S
          with_reducible refine X_expr ?_
          with_reducible refine E_meth ?_
          with_reducible refine' Y_cell (by assumption) ?c1 ?c2 ?c3 ?_ ?c5 ?c6 ?c7
          case c1 => rfl
          case c2 => exact .t3 (.t3 (.t3 (.t3 (.t3 .h2))))
          case c3 => assumption
          case c5 => rfl
          case c6 => rfl
          case c7 => decide
          have Z3 := ZZ.st (τ := [_]) (τ' := [_]) S0 S
          refine MC_c S G Z3 mth_bind ?_ fun _ _ _ => rfl
          with_reducible refine' CC_ref (by assumption) (by assumption) ?c2 ?_
          case c2 => k_is
          with_reducible refine S_cons ?_
          with_reducible refine E_sub ?_
          with_reducible refine' Y_cell (by assumption) ?c1 ?c2 ?c3 ?_ ?c5 ?c6 ?c7
          case c1 => rfl
          case c2 => exact .t3 (.t3 (.t3 (.t3 (.t3 (.t3 .hd)))))
          case c3 => assumption
          case c5 => rfl
          case c6 => rfl
          case c7 => decide
          with_reducible refine' E_loc (by assumption) ?c1 ?_
          case c1 => exact .t3 (.t3 .hd)
          refine tb_get (ZZ.st (τ := [_]) (τ' := [_]) S0 S) hv9 ?_ (by with_unfolding_all rfl)
          with_reducible refine S_cons ?_
          with_reducible refine E_sub ?_
          with_reducible refine' Y_cell (by assumption) ?c1 ?c2 ?c3 ?_ ?c5 ?c6 ?c7
          case c1 => rfl
          case c2 => exact .t3 (.t3 (.t3 (.t3 (.t3 (.t3 .hd)))))
          case c3 => assumption
          case c5 => rfl
          case c6 => rfl
          case c7 => decide
          with_reducible refine' E_loc (by assumption) ?c1 ?_
          case c1 => exact .t3 (.t3 .h2)
          obtain ⟨bo, to1, to2, ho1, To⟩ := I2.tab older o0 o1
          have hvo : valueAt (stored kt (i : Int) (.ref x)) older = some (.ref bo) := by rw [valueAt_stored, if_neg (by (clear hH hkl hel; omega))]; exact ho1
          refine tb_get (ZZ.st (τ := [_]) (τ' := [_]) S0 S) hvo ?_ (by with_unfolding_all rfl)
          with_reducible refine S_nil ?_
          with_reducible refine' Krf_go (by assumption) (by assumption) ?_
          have tkS := S.tup
          have Z3 := ZZ.st (τ := [_]) (τ' := [_]) S0 S
          have T := T.tk tkS
          have I2 := I2.tk tkS
          refine bindL_ (p := (0, older)) (τ := [_]) (n := 20) G S (R.less (by decide)) Z3 T (To.tk tkS) (by exact Int.natCast_nonneg _) (by simp; omega) fun h4 k4 xx ZZ => ?_
          rw [Int.toNat_natCast, set_last hH] at ZZ
          have T := T.tk xx.tup
          have I2 := I2.tk xx.tup
          replace S := LW.go (τ := [_]) S xx ZZ
          dsimp only [List.cons_append, List.nil_append] at S
          have tks := S.tup
          replace tkh := tkh.trans tks
          replace S := S.pool
          have S0 := S
          with_reducible refine And_none ?_
          with_reducible refine X_sub ?_
          with_reducible refine E_sub ?_
          with_reducible refine' Y_cell (by assumption) ?c1 ?c2 ?c3 ?_ ?c5 ?c6 ?c7
          case c1 => rfl
          case c2 => exact .t3 (.t3 (.t3 (.t3 (.t3 (.t3 .h1)))))
          case c3 => assumption
          case c5 => rfl
          case c6 => rfl
          case c7 => decide
          with_reducible refine' E_loc (by assumption) ?c1 ?_
          case c1 => exact .t3 (.t3 .h2)
          obtain ⟨wo, hwo, rdo⟩ := I2.ends older o0 o1
          refine en_get (v := wo) (ZZ.st (τ := [_]) (τ' := [_]) S0 S) (by rw [List.getElem?_append_left (by (clear hi hH hkl; omega))]; exact hwo) o0 (by (clear hH hkl hel g2; omega)) ?_ (by with_unfolding_all rfl)
          with_reducible refine' Y_cell (by assumption) ?c1 ?c2 ?c3 ?_ ?c5 ?c6 ?c7
          case c1 => rfl
          case c2 => exact .t3 (.t3 (.t3 (.t3 (.t3 (.t3 .h1)))))
          case c3 => assumption
          case c5 => rfl
          case c6 => rfl
          case c7 => decide
          with_reducible refine' E_loc (by assumption) ?c1 ?_
          case c1 => exact .t3 (.t3 .hd)
          have tkS := S.tup
          refine en_set (ZZ.st (τ := [_]) (τ' := [_]) S0 S) hel (by (clear hH hkl hel g2; omega)) fun h4 xx ZZ => ?_
          have T := T.tk (tkS.trans xx.tup)
          have I2 := I2.tk (tkS.trans xx.tup)
          have Tw := rdo.tk (tkS.trans xx.tup)
          replace S := LW.go (τ := [_]) S xx ZZ
          dsimp only [List.cons_append, List.nil_append] at S
          have tks := S.tup
          replace tkh := tkh.trans tks
          replace S := S.pool
          have S0 := S
          with_reducible refine X_nn ?_
          with_reducible refine X_nil ?_
          obtain ⟨m9, d9⟩ := I2.old (by omega) o0 o1
          exact hQn _ _ _ _ _ (by first | exact .inl rfl | exact .inr rfl) (S.re tkh) (.mk (fun p hp => S.hs p (.tail _ hp)) ZZ (by (clear hH hkl hel; omega))
            (I2.stepH (T := ev older) T Tw (I2.lf older o0 o1) d9 fun l e => .inr (I2.id older l o0 o1 e)))
        · have tkS := S.tup
          have Z3 := ZZ.st (τ := [_]) (τ' := [_]) S0 S
          have T := T.tk tkS
          have I2 := I2.tk tkS
          have Tv := Tv.tk tkS
          with_reducible refine X_nn ?_
          with_reducible refine X_nil ?_
          have ZZ := Z3
          rw [hH] at ZZ
          exact hQn _ _ _ _ _ (by first | exact .inl rfl | exact .inr rfl) (S.re tkh) (.mk (fun p hp => S.hs p (.tail _ hp)) ZZ (by omega)
            (I2.stepH (T := .v i) T (Rd.tup Tv (Rd.cons (Reads.str _ _) (Rd.cons (Reads.int _ _) .nil))) rfl (I2.free (by omega)) fun l e => .inl (by injection e with e; exact e.symm)))
  · rintro i_ vs σ h2 @⟨w6, w7, w8, o, LL', H, kt, es, ev, i_, h2, hled, Z, hLL, I9⟩ rfl h1 k1 S tk
    exact next _ _ _ _ _ _ _ _ _ _ _ _ S (Z.st' (τ' := []) hled tk S.hs) (by omega) (I9.tk tk)
end
end
section
open PySem PySem.W PyProof.Rows PySem.Calls
set_option hygiene true
section
variable {V : Vw} {A : Around} {h : Heap} {k : Nat} {F : List (Int × Int)} {ρ : Int → Int}
theorem ren_ok (hρ : ∀ k, 0 ≤ k → k < 4 → 0 ≤ ρ k ∧ ρ k < 4) : ∀ {T : Tr}, T.ok → (ren ρ T).ok
  | .v n, o => hρ n o.1 o.2
  | .a _, _ => trivial
  | .i _, _ => trivial
  | .s1 f x, o => ren_ok hρ (T := x) o
  | .s2 f x y, o => ⟨ren_ok hρ (T := x) o.1, ren_ok hρ (T := y) o.2⟩
theorem ren_F : ∀ {T : Tr}, TrF F T → TrF F (ren ρ T)
  | .v _, _ => trivial
  | .a _, _ => trivial
  | .i _, _ => trivial
  | .s1 f x, ⟨a, b, c, d⟩ => ⟨a, b, c, ren_F (T := x) d⟩
  | .s2 f x y, ⟨a, b, c, d, e⟩ => ⟨a, b, c, ren_F (T := x) d, ren_F (T := y) e⟩
theorem ren_sz : ∀ {T : Tr}, (ren ρ T).sz = T.sz
  | .v _ => rfl
  | .a _ => rfl
  | .i _ => rfl
  | .s1 f x => by simp only [ren, res, Tr.sz]; rw [show res (fun k => .v (ρ k)) x = ren ρ x from rfl, ren_sz (T := x)]
  | .s2 f x y => by simp only [ren, res, Tr.sz]; rw [show res (fun k => .v (ρ k)) x = ren ρ x from rfl, show res (fun k => .v (ρ k)) y = ren ρ y from rfl, ren_sz (T := x), ren_sz (T := y)]
structure DI (h : Heap) (H F : List (Int × Int)) (es : List Value) (ev : Int → Tr) (ts : List Value) (Ts : List Tr) (rs : List Value) (ps : List (Int × Int)) : Prop where
  bd : Bd H ev
  ends : ∀ j : Int, 0 ≤ j → j < 4 → ∃ w, es[j.toNat]? = some w ∧ Rd h w (enc (ev j))
  ts : All2 (fun v T => Rd h v (enc T)) ts Ts
  ok : ∀ T ∈ Ts, T.ok ∧ TrF F T ∧ T.sz ≤ 7
  nT : Ts.length = 3
  rs : All2 (PairAt h) rs ps
  rep : ∀ (j : Nat) p T, ps[j]? = some p → Ts[j]? = some T → ∃ as, Rep H F p T as ∧ as.Nodup
  nP : ps.length = 3
theorem DI.tk {h h' : Heap} {H F : List (Int × Int)} {es : List Value} {ev : Int → Tr} {ts : List Value} {Ts : List Tr} {rs : List Value} {ps : List (Int × Int)} (I : DI h H F es ev ts Ts rs ps) (t : Tk h h') : DI h' H F es ev ts Ts rs ps :=
  ⟨I.bd, fun j a b => (by obtain ⟨w, e, r⟩ := I.ends j a b; exact ⟨w, e, r.tk t⟩), I.ts.imp fun v e z => z.tk t, I.ok, I.nT, I.rs.imp fun v e z => z.tk t, I.rep, I.nP⟩
theorem A_name {env : Env} {x : Str} {px : Pos} {v : Value} {Q : Unit → Heap → Nat → Prop} (y : W V A (storeName env x v) Q h k) : W V A (assign (.Name x px) env v) Q h k :=
  PyProof.Rows.assign_Name y
end
end
section
open PySem PySem.W PyProof.Rows PySem.Calls
set_option hygiene false
inductive JCi (V : Vw) (a : Ad) (f : Fx) (LL : List Str) (F H : List (Int × Int)) (kt : List (Int × Value)) (es ts : List Value) (I tl : Addr) (oI : Obj) (m : Nat) : Nat → List Value → List (Addr × Obj) → Heap → Prop
  | mk {o : Ob} {ns : List Int} {i : Nat} {acc : List Value} {h : Heap} (hled : ∀ p ∈ led a o f, h.get? p.1 = some p.2) (ZJ : LW V h a LL F H kt es) (hnl : ns.length = i) (hac : All2 (fun v n => Rd h v (enc (.v n))) acc ns) (hns : ∀ n ∈ ns, 0 ≤ n ∧ n < 4) :
    JCi V a f LL F H kt es ts I tl oI m i acc ((I, oI) :: (tl, lo ts m) :: led a o f) h
inductive JC (V : Vw) (a : Ad) (f : Fx) (w0 : Value) (H : List (Int × Int)) (kt : List (Int × Value)) (es : List Value) (ev : Int → Tr) (tl : Addr) : Nat → List (Option Value) → List (Addr × Obj) → Heap → Prop
  | mk {w6 w7 w8 w10 w11 : Option Value} {o : Ob} {LL : List Str} {F : List (Int × Int)} {ts : List Value} {m : Nat} {Ts : List Tr} {i : Nat} {h : Heap} (hled : ∀ p ∈ led a o f, h.get? p.1 = some p.2) (Z : LW V h a LL F H kt es) (hLL : LL.length ≤ 72 + 7 * i) (hFF : F.length ≤ 39 + 7 * i)
    (I : BI h 4 H kt es ev) (hts : All2 (fun v T => Rd h v (enc T)) ts Ts) (hTs : ∀ T ∈ Ts, T.ok ∧ TrF F T ∧ T.sz ≤ 7) (hlen : Ts.length = 1 + i) :
    JC V a f w0 H kt es ev tl i [some w0, none, some (.ref a.sy), none, none, none, w6, w7, w8, some (.ref tl), w10, w11, none, none, none, none, none, none] ((tl, lo ts m) :: led a o f) h
section
variable {V : Vw} {B P h : Heap} {L fa : Addr} {cd w0 : Value} {w6 w7 w8 : Option Value} {a : Ad} {o : Ob} {f : Fx} {LL : List Str} {F H : List (Int × Int)} {kt : List (Int × Value)} {es : List Value} {ev : Int → Tr} {A : Around} {k : Nat}
set_option maxHeartbeats 8000000 in
theorem segC (G : Wd (hd.heap_39 V.w.params) B B) (R : Room A 30) (hcu : f.cu.data = .cell (some (.ref a.ur))) (hcc : f.cc.data = .cell (some (.ref a.c))) (hct : f.ct.data = .cell (some (.ref a.tb))) (hce : f.ce.data = .cell (some (.ref a.en)))
    (S : St B P L lawN [some w0, none, some (.ref a.sy), none, none, none, w6, w7, w8, none, none, none, none, none, none, none, none, none] (led a o f) h)
    (Z : LW V h a LL F H kt es) (sLL : LL.length ≤ 65) (sF : F.length ≤ 32) (I : BI h 4 H kt es ev)
    (next : ∀ P h k o w6 w7 w8 w10 w11 LL F tl ts m Ts, St B P L lawN [some w0, none, some (.ref a.sy), none, none, none, w6, w7, w8, some (.ref tl), w10, w11, none, none, none, none, none, none] ((tl, lo ts m) :: led a o f) h →
      LW V h a LL F H kt es → BI h 4 H kt es ev → All2 (fun v T => Rd h v (enc T)) ts Ts → (∀ T ∈ Ts, T.ok ∧ TrF F T ∧ T.sz ≤ 7) → Ts.length = 3 →
      W V A (execs ((lawB V.w.params).drop 8) (envX "law" (lawS V.w.params) L fa cd [("ends", a.ce), ("table", a.ct), ("cells", a.cc), ("urn", a.cu)])) (FinQ B) h k) :
    W V A (execs ((lawB V.w.params).drop 6) (envX "law" (lawS V.w.params) L fa cd [("ends", a.ce), ("table", a.ct), ("cells", a.cc), ("urn", a.cu)])) (FinQ B) h k := by
  dsimp only [lawB, lawBS, lit_of, List.drop]
  replace S := S.pool
  have S0 := S
  have tkh : Tk h h := Tk.rfl
  with_reducible refine X_name ?_
  with_reducible refine E_list ?_
  with_reducible refine S_cons ?_
  with_reducible refine' E_cg (by assumption) (by assumption) ?c2 ?c3 ?c4 ?_
  case c2 => exact .tl (.tl (.tl (.tl (.tl (.tl (.tl (.tl (.tl (.tl (.tl (.tl (.tl (.tl (.tl (.tl (.tl (.tl (.tl (.tl (.tl (.tl (.tl (.tl .hd)))))))))))))))))))))))
  case c3 => k_is
  case c4 => k_is
  with_reducible refine S_cons ?_
  with_reducible refine' Y_cell (by assumption) ?c1 ?c2 ?c3 ?_ ?c5 ?c6 ?c7
  case c1 => rfl
  case c2 => exact .t3 (.t3 (.t3 (.t3 (.t3 .hd))))
  case c3 => assumption
  case c5 => rfl
  case c6 => rfl
  case c7 => decide
  with_reducible refine' S_loc (by assumption) ?c1 ?_
  case c1 => exact .h2
  with_reducible refine S_cons ?_
  with_reducible refine E_int ?_
  with_reducible refine S_nil ?_
  with_reducible refine' Krf_go (by assumption) (by assumption) ?_
  have Z3 := Z.st (τ := []) (τ' := []) S0 S
  have tkS := S.tup
  have I2 := I.tk tkS
  refine treeL (τ := []) (n := 20) G S (R.less (by decide)) Z3 (by omega) (by omega) fun h4 k4 v T LL1 F1 xx ZZ xe1 xl1 xf1 xa1 rd1 ok1 tf1 sz1 => ?_
  have I2 := I2.tk xx.tup
  replace S := LW.go (τ := []) S xx ZZ
  dsimp only [List.cons_append, List.nil_append] at S
  have tks := S.tup
  replace tkh := tkh.trans tks
  replace S := S.pool
  have S0 := S
  with_reducible refine S_nil ?_
  with_reducible refine' N_lst (by assumption) ?_
  intro l1 h1 S
  with_reducible refine' N_st (by assumption) ?c1 ?_
  case c1 => exact .t3 (.t3 (.t3 .hd))
  intro h1 S
  with_reducible refine X_for ?_
  with_reducible refine E_call ?_
  with_reducible refine' E_bi (by assumption) (by assumption) ?c2 ?c3 ?c4 ?c5 ?_
  case c2 => exact .tl (.tl (.tl (.tl (.tl (.tl (.tl (.tl (.tl (.tl (.tl (.tl (.tl (.tl (.tl (.tl (.tl (.tl (.tl (.tl .hd)))))))))))))))))))
  case c3 => k_is
  case c4 => boot_by_name
  case c5 => decide
  with_reducible refine C_ty ?_
  with_reducible refine S_cons ?_
  with_reducible refine E_int ?_
  with_reducible refine S_nil ?_
  rename Addr => tl
  refine C_rng1 S fun r9 h1 k1 hr S => ?_
  refine iter_range (n := 2) S hr (by decide) (by decide) fun I oI h1 so S => ?_
  have Z := ZZ.st (τ := []) (τ' := [_, _]) S0 S
  have tkS := S.tup
  have I2 := I2.tk tkS
  have rd1 := rd1.tk tkS
  replace S := S.pool
  refine N_forR (JC V a f w0 H kt es ev tl)
    0 1 R.1 S so (.mk (Ts := [T]) (fun p hp => S.hs p (.tail _ (.tail _ hp))) Z (by omega) (by (clear xl1; omega)) I2 ⟨rd1, trivial⟩ (m1 (p := fun T => T.ok ∧ TrF F1 T ∧ T.sz ≤ 7) ⟨ok1, tf1, sz1⟩) rfl) 10 rfl ?_ ?_ ?_ rfl rfl
  · rintro i vs σ h2 ⟨⟩
    rfl
  · rintro i vs σ h2 @⟨w6, w7, w8, w10, w11, o, LL', F', ts, m, Ts, i, h2, hled, Z, hLL, hFF, I9, hts, hTs, hlen⟩ hi tk tv oI h1 k1 S Qt hQr hQn
    dsimp only [List.set] at S
    have Z1 := Z.st' (τ' := [_, _]) hled S.tup S.hs
    have tkh := S.tup
    have I1 := I9.tk S.tup
    have hts := hts.imp fun v e (z : Rd h2 v (enc e)) => z.tk tkh
    have htl := hts.len
    replace S := S.pool
    have S0 := S
    with_reducible refine X_if0c ?_
    with_reducible refine' E_cg (by assumption) (by assumption) ?c2 ?c3 ?c4 ?_
    case c2 => exact .tl (.tl (.tl (.tl (.tl (.tl (.tl (.tl (.tl (.tl (.tl (.tl (.tl (.tl (.tl (.tl (.tl (.tl (.tl (.tl (.tl .hd))))))))))))))))))))
    case c3 => k_is
    case c4 => k_is
    with_reducible refine S_cons ?_
    with_reducible refine' Y_cell (by assumption) ?c1 ?c2 ?c3 ?_ ?c5 ?c6 ?c7
    case c1 => rfl
    case c2 => exact .t3 (.t3 (.t3 (.t3 (.t3 .h2))))
    case c3 => assumption
    case c5 => rfl
    case c6 => rfl
    case c7 => decide
    with_reducible refine S_cons ?_
    with_reducible refine E_int ?_
    with_reducible refine S_nil ?_
    with_reducible refine' Krf_go (by assumption) (by assumption) ?_
    refine pickL (τ := [_, _]) (n := 20) G S (R.less (by decide)) Z1 (by decide) (by decide) fun h4 k4 r t9 xx ZZ r0 r1 => ?_
    have I2 := I1.tk xx.tup
    have hts := hts.imp fun v e z => z.tk xx.tup
    replace S := LW.go (τ := [_, _]) S xx ZZ
    dsimp only [List.cons_append, List.nil_append] at S
    have tks := S.tup
    replace tkh := tkh.trans tks
    replace S := S.pool
    have S0 := S
    with_reducible refine E_int ?_
    with_reducible refine i_lt ?_
    with_reducible refine truthy_b ?_
    refine ⟨fun c1 => ?_, fun c1 => ?_⟩
    · refine X_lc (cl := [("urn", a.cu)]) ?_ ?hsw ?hclos ?hkind ?hnames ?hs
      case hsw => rfl
      case hclos => rfl
      case hkind => rfl
      case hnames => decide
      case hs => intro _; rfl
      with_reducible refine E_call ?_
      with_reducible refine' E_bi (by assumption) (by assumption) ?c2 ?c3 ?c4 ?c5 ?_
      case c2 => exact .tl (.tl (.tl (.tl (.tl (.tl (.tl (.tl (.tl (.tl (.tl (.tl (.tl (.tl (.tl (.tl (.tl (.tl (.tl (.tl .hd)))))))))))))))))))
      case c3 => k_is
      case c4 => boot_by_name
      case c5 => decide
      with_reducible refine C_ty ?_
      with_reducible refine S_cons ?_
      with_reducible refine E_int ?_
      with_reducible refine S_nil ?_
      refine C_rng1 S fun r9 h1 k1 hr S => ?_
      refine iter_range (n := 4) S hr (by decide) (by decide) fun I3 oI3 h1 so3 S => ?_
      have Z3 := ZZ.st (τ := [_, _]) (τ' := [_, _, _]) S0 S
      have tkS := S.tup
      have I2 := I2.tk tkS
      have hts := hts.imp fun v e z => z.tk tkS
      replace tkh := tkh.trans tkS
      replace S := S.pool
      refine N_lcS (jx := 1) (n := 4) (nsC := [(".0", .local), ("k", .local), ("_law_pick", .globalImplicit), ("urn", .cell)])
        (JCi V a f LL' F' H kt es ts I tl oI m)
        (itr_range 0 1 4) self_range R.1 G S so3 (.mk (ns := []) (fun p hp => S.hs p (.tail _ (.tail _ (.tail _ hp)))) Z3 rfl trivial (by simp)) ?_ rfl rfl rfl ?_ ?_ ?_ (fun _ _ _ _ _ _ _ _ _ _ _ _ _ _ _ => trivial) ?_ ?_
      · decide
      · decide
      · decide
      · decide
      · rintro i acc σ₁ hJ @⟨o, ns, i, acc, hJ, hled, ZJ, hnl, hac, hns⟩ B' C D m2 oI2 v h₁ k₁ hi hal ⟨tv, rfl⟩ G' hup hdn hBJ hled2 tkJ S Qw hQw
        dsimp only [List.set, List.map] at S
        have Z4 := ZJ.st' (τ' := [_, _, _, _]) hled S.tup S.hs
        have tkc := S.tup
        replace S := S.pool
        have S0 := S
        with_reducible refine E_tuple ?_
        with_reducible refine S_cons ?_
        with_reducible refine E_str ?_
        with_reducible refine S_cons ?_
        with_reducible refine E_call ?_
        with_reducible refine' Y_glo (by assumption) (by assumption) ?c2 ?c3 ?_
        case c2 => exact .tl (.tl .hd)
        case c3 => k_is
        with_reducible refine' CC_ref (by assumption) (by assumption) ?c2 ?_
        case c2 => k_is
        with_reducible refine S_cons ?_
        with_reducible refine' Y_cell (by assumption) ?c1 ?c2 ?c3 ?_ ?c5 ?c6 ?c7
        case c1 => rfl
        case c2 => exact .t3 (.t3 (.t3 (.t3 (.t3 (.t3 .h1)))))
        case c3 => assumption
        case c5 => rfl
        case c6 => rfl
        case c7 => decide
        with_reducible refine S_cons ?_
        with_reducible refine E_int ?_
        with_reducible refine S_nil ?_
        with_reducible refine' Krf_go (by assumption) (by assumption) ?_
        have Z5 := Z4.st (τ := [_, _, _, _]) (τ' := [_, _, _, _]) S0 S
        have tkS := S.tup
        refine pickL (τ := [_, _, _, _]) (n := 20) G'.self S (R.less (by decide)) Z5 (by decide) (by decide) fun h4 k4 r t9 xx ZZ r0 r1 => ?_
        replace S := LW.go (τ := [_, _, _, _]) S xx ZZ
        dsimp only [List.cons_append, List.nil_append] at S
        replace tkc := tkc.trans S.tup
        replace S := S.pool
        have S0 := S
        with_reducible refine S_nil ?_
        with_reducible refine' N_tup (by assumption) ?_
        intro t1 h1 S
        have Z5 := ZZ.st (τ := [_, _, _, _]) (τ' := [_, _, _, _, _]) S0 S
        have tke := tkc.trans S.tup
        refine hQw _ _ _ _ _ (by rfl) (by rfl) ((S.re tkc).drop (List.sublist_cons_self _ _)) (.mk (ns := ns ++ [r]) (fun p hp => S.hs p (.tail _ (.tail _ (.tail _ (.tail _ (.tail _ hp)))))) Z5 (by simp [hnl]) ((hac.imp fun v e z => z.tk tke).snoc (Rd.tup (to_tp (S.has .hd)) (Rd.cons (Reads.str _ _) (Rd.cons (Reads.int _ _) .nil)))) ?_)
        intro n hn
        rcases List.mem_append.mp hn with hn | hn
        · exact hns n hn
        · rw [List.mem_singleton.mp hn]; exact ⟨r0, r1⟩
      · rintro i_ ys σ₁ hJ @⟨o, ns, i_, ys, hJ, hled, ZJ, hnl, hac, hns⟩ rfl D m2 h₁ k₁ C oC hyl hup hled2 tkJ ntC S Qs hQs
        refine A_name (N_st S (by exact .t3 (.t3 (.t3 .h2))) (fun h3 S => hQs _ _ _ _ _ S fun h5 S => ?_) rfl rfl)
        obtain ⟨Ts0, T0, rfl⟩ : ∃ Ts0 T0, Ts = Ts0 ++ [T0] := by
          rcases List.eq_nil_or_concat Ts with h | ⟨a, b, h⟩
          · subst h; simp at hlen; (clear hi; omega)
          · exact ⟨a, b, by rw [h, List.concat_eq_append]⟩
        obtain ⟨ws, w, rfl, hws, hw⟩ := hts.unsnoc
        obtain ⟨ok0, tf0, sz0⟩ := hTs T0 (by simp)
        with_reducible refine X_expr ?_
        with_reducible refine E_meth ?_
        with_reducible refine' E_loc (by assumption) ?c1 ?_
        case c1 => exact .t3 (.t3 (.t3 .hd))
        with_reducible refine' MC_append ?c0 ?_
        case c0 => exact St.has (by assumption) (by exact .h2)
        with_reducible refine C_bi ?_
        with_reducible refine S_cons ?_
        with_reducible refine' E_cg (by assumption) (by assumption) ?c2 ?c3 ?c4 ?_
        case c2 => exact .tl (.tl (.tl (.tl (.tl (.tl (.tl (.tl (.tl (.tl (.tl (.tl (.tl (.tl (.tl (.tl (.tl (.tl (.tl (.tl (.tl (.tl (.tl (.tl (.tl .hd))))))))))))))))))))))))
        case c3 => k_is
        case c4 => k_is
        with_reducible refine S_cons ?_
        with_reducible refine E_sub ?_
        with_reducible refine' E_loc (by assumption) ?c1 ?_
        case c1 => exact .t3 (.t3 (.t3 .hd))
        with_reducible refine E_un ?_
        with_reducible refine E_int ?_
        with_reducible refine i_neg ?_
        refine I_neg (S.has (by exact .h2)) ?_ (by rfl) (x := w) (by simp) (by with_unfolding_all rfl)
        with_reducible refine' S_locL (by assumption) ?c1 ?_
        case c1 => exact .t3 (.t3 (.t3 .h2))
        with_reducible refine' Krf_go (by assumption) (by assumption) ?_
        have tkS := S.tup
        refine changed_ (rs := ys) (ρ := fun k => (ns[k.toNat]?).getD 0) 7 T0 sz0 (n := 10) (G.st S) (R.less (by decide)) (hw.tk (tkJ.trans tkS)) ok0 (S.has (by exact .hd)) (fun k k0 k1 => ?_) fun h6 k6 v6 x6 rd6 => ?_
        · have hk : ns[k.toNat]? = some ns[k.toNat] := List.getElem?_eq_getElem (by omega)
          obtain ⟨w9, e9, r9⟩ := hac.get hk
          exact ⟨w9, e9, by rw [hk]; exact r9.tk tkS⟩
        replace S := S.call0 x6
        have tk6 := S.tup
        replace S := S.pool
        with_reducible refine S_nil ?_
        have hwl := hws.len
        simp only [List.length_append, List.length_singleton] at hlen
        refine C_append S (by exact .h2) (by exact .tl (.tl .hd)) (fun h1 S => ?_) (by simp; omega)
        with_reducible refine And_none ?_
        with_reducible refine X_nil ?_
        have Z5 := ZJ.st' (τ' := [_, _, _]) hled (tk6.trans S.tup) S.hs
        refine hQn _ _ _ _ _ (by first | exact .inl rfl | exact .inr rfl) ((S.re (tkh.trans (tkJ.trans tk6))).drop (List.sublist_cons_self _ _)) (.mk (Ts := (Ts0 ++ [T0]) ++ [ren (fun k => (ns[k.toNat]?).getD 0) T0]) (fun p hp => S.hs p (.tail _ (.tail _ (.tail _ hp)))) Z5 (by (clear hlen; omega)) (by (clear hlen; omega)) (I2.tk (tkJ.trans (tk6.trans S.tup)))
          ((hts.imp fun v e z => z.tk (tkJ.trans (tk6.trans S.tup))).snoc (rd6.tk S.tup)) (fun T hT => ?_) (by simp; omega))
        rcases List.mem_append.mp hT with hT | hT
        · exact hTs T hT
        · rw [List.mem_singleton.mp hT]
          refine ⟨ren_ok (fun k k0 k1 => ?_) ok0, ren_F tf0, by rw [ren_sz]; exact sz0⟩
          have hk : ns[k.toNat]? = some ns[k.toNat] := List.getElem?_eq_getElem (by omega)
          rw [hk]
          exact hns _ (List.getElem_mem _)
    · with_reducible refine X_expr ?_
      with_reducible refine E_meth ?_
      with_reducible refine' E_loc (by assumption) ?c1 ?_
      case c1 => exact .t3 (.t3 (.t3 .hd))
      with_reducible refine' MC_append ?c0 ?_
      case c0 => exact St.has (by assumption) (by exact .h1)
      with_reducible refine C_bi ?_
      with_reducible refine S_cons ?_
      with_reducible refine' E_cg (by assumption) (by assumption) ?c2 ?c3 ?c4 ?_
      case c2 => exact .tl (.tl (.tl (.tl (.tl (.tl (.tl (.tl (.tl (.tl (.tl (.tl (.tl (.tl (.tl (.tl (.tl (.tl (.tl (.tl (.tl (.tl (.tl (.tl .hd)))))))))))))))))))))))
      case c3 => k_is
      case c4 => k_is
      with_reducible refine S_cons ?_
      with_reducible refine' Y_cell (by assumption) ?c1 ?c2 ?c3 ?_ ?c5 ?c6 ?c7
      case c1 => rfl
      case c2 => exact .t3 (.t3 (.t3 (.t3 (.t3 .h2))))
      case c3 => assumption
      case c5 => rfl
      case c6 => rfl
      case c7 => decide
      with_reducible refine' S_loc (by assumption) ?c1 ?_
      case c1 => exact .h2
      with_reducible refine S_cons ?_
      with_reducible refine E_int ?_
      with_reducible refine S_nil ?_
      with_reducible refine' Krf_go (by assumption) (by assumption) ?_
      have Z3 := ZZ.st (τ := [_, _]) (τ' := [_, _]) S0 S
      have tkS := S.tup
      have I2 := I2.tk tkS
      have hts := hts.imp fun v e z => z.tk tkS
      refine treeL (τ := [_, _]) (n := 20) G S (R.less (by decide)) Z3 (by (clear hlen; omega)) (by (clear hlen; omega)) fun h4 k4 v T LL1 F1 xx ZZ xe1 xl1 xf1 xa1 rd1 ok1 tf1 sz1 => ?_
      have I2 := I2.tk xx.tup
      have hts := hts.imp fun v e z => z.tk xx.tup
      replace S := LW.go (τ := [_, _]) S xx ZZ
      dsimp only [List.cons_append, List.nil_append] at S
      have tks := S.tup
      replace tkh := tkh.trans tks
      replace S := S.pool
      have S0 := S
      with_reducible refine S_nil ?_
      refine C_append S (by exact .h1) (by exact .tl .hd) (fun h1 S => ?_) (by omega)
      with_reducible refine And_none ?_
      with_reducible refine X_nil ?_
      have Z5 := ZZ.st (τ := [_, _]) (τ' := [_, _]) S0 S
      refine hQn _ _ _ _ _ (by first | exact .inl rfl | exact .inr rfl) (S.re tkh) (.mk (Ts := Ts ++ [T]) (fun p hp => S.hs p (.tail _ (.tail _ hp))) Z5 (by (clear hlen; omega)) (by (clear hlen xl1; omega)) (I2.tk S.tup)
        ((hts.imp fun v e z => z.tk S.tup).snoc (rd1.tk S.tup)) (fun T9 hT => ?_) (by simp; omega))
      rcases List.mem_append.mp hT with hT | hT
      · obtain ⟨x1, x2, x3⟩ := hTs T9 hT
        exact ⟨x1, x2.ext xe1, x3⟩
      · rw [List.mem_singleton.mp hT]
        exact ⟨ok1, tf1, sz1⟩
  · rintro i_ vs σ h2 @⟨w6, w7, w8, w10, w11, o, LL', F', ts, m, Ts, i_, h2, hled, Z, hLL, hFF, I9, hts, hTs, hlen⟩ rfl h1 k1 S tk
    exact next _ _ _ _ _ _ _ _ _ _ _ _ _ _ _ S (Z.st' (τ' := [_]) hled tk S.hs) (I9.tk tk) (hts.imp fun v e z => z.tk tk) hTs (by assumption)
end
end
section
open PySem PySem.W PyProof.Rows PySem.Calls
set_option hygiene false
inductive JD (V : Vw) (a : Ad) (f : Fx) (LL : List Str) (F : List (Int × Int)) (kt : List (Int × Value)) (es ts : List Value) (Ts : List Tr) (ev : Int → Tr) (tl : Addr) (m : Nat) : Nat → List Value → List (Addr × Obj) → Heap → Prop
  | mk {o : Ob} {H' : List (Int × Int)} {ps : List (Int × Int)} {i : Nat} {acc : List Value} {h : Heap} (hled : ∀ p ∈ led a o f, h.get? p.1 = some p.2) (ZJ : LW V h a LL F H' kt es) (bd : Bd H' ev) (hHl : H'.length ≤ 4 + 300 * i) (hpl : ps.length = i)
    (hac : All2 (PairAt h) acc ps) (hrep : ∀ (j : Nat) p T, ps[j]? = some p → Ts[j]? = some T → ∃ as, Rep H' F p T as ∧ as.Nodup) : JD V a f LL F kt es ts Ts ev tl m i acc ((tl, lo ts m) :: led a o f) h
section
variable {V : Vw} {B P h : Heap} {L fa tl : Addr} {cd w0 : Value} {w6 w7 w8 w10 w11 : Option Value} {a : Ad} {o : Ob} {f : Fx} {LL : List Str} {F H : List (Int × Int)} {kt : List (Int × Value)} {es ts : List Value} {Ts : List Tr} {ev : Int → Tr} {A : Around} {k m : Nat}
set_option maxHeartbeats 8000000 in
theorem segD (G : Wd (hd.heap_39 V.w.params) B B) (R : Room A 30) (hcu : f.cu.data = .cell (some (.ref a.ur))) (hcc : f.cc.data = .cell (some (.ref a.c))) (hct : f.ct.data = .cell (some (.ref a.tb))) (hce : f.ce.data = .cell (some (.ref a.en)))
    (S : St B P L lawN [some w0, none, some (.ref a.sy), none, none, none, w6, w7, w8, some (.ref tl), w10, w11, none, none, none, none, none, none] ((tl, lo ts m) :: led a o f) h)
    (Z : LW V h a LL F H kt es) (I : BI h 4 H kt es ev) (hts : All2 (fun v T => Rd h v (enc T)) ts Ts) (hTs : ∀ T ∈ Ts, T.ok ∧ TrF F T ∧ T.sz ≤ 7) (hn3 : Ts.length = 3)
    (next : ∀ P h k o H rt rs m', St B P L lawN [some w0, none, some (.ref a.sy), none, none, none, w6, w7, w8, some (.ref tl), w10, w11, some (.ref rt), none, none, none, none, none] ((rt, lo rs m') :: (tl, lo ts m) :: led a o f) h →
      LW V h a LL F H kt es → (∃ ps, DI h H F es ev ts Ts rs ps) → es.length = 4 → 
      W V A (execs ((lawB V.w.params).drop 9) (envX "law" (lawS V.w.params) L fa cd [("ends", a.ce), ("table", a.ct), ("cells", a.cc), ("urn", a.cu)])) (FinQ B) h k) :
    W V A (execs ((lawB V.w.params).drop 8) (envX "law" (lawS V.w.params) L fa cd [("ends", a.ce), ("table", a.ct), ("cells", a.cc), ("urn", a.cu)])) (FinQ B) h k := by
  dsimp only [lawB, lawBS, lit_of, List.drop]
  replace S := S.pool
  have S0 := S
  refine X_lc (cl := [("table", a.ct), ("cells", a.cc)]) ?_ ?hsw ?hclos ?hkind ?hnames ?hs
  case hsw => rfl
  case hclos => rfl
  case hkind => rfl
  case hnames => decide
  case hs => intro _; rfl
  with_reducible refine' E_loc (by assumption) ?c1 ?_
  case c1 => exact .t3 (.t3 (.t3 .hd))
  refine iter_list S (S.has (by exact .hd)) fun I3 oI3 h1 so3 S => ?_
  have Z3 := Z.st (τ := [_]) (τ' := [_, _]) S0 S
  have tkS := S.tup
  have I2 := I.tk tkS
  have hts := hts.imp fun v e z => z.tk tkS
  have htl := hts.len
  have tkh := tkS
  replace S := S.pool
  refine N_lcS (jx := 1) (n := ts.length) (nsC := [(".0", .local), ("tree", .local), ("cells", .cell), ("table", .cell)])
    (JD V a f LL F kt es ts Ts ev tl m)
    (itr_list tl ts) self_list R.1 G S so3 (.mk (ps := []) (fun p hp => S.hs p (.tail _ (.tail _ hp))) Z3 I2.bd (by have := I2.hl; omega) rfl trivial fun j p T e => by simp at e) ?_ rfl rfl rfl ?_ ?_ ?_ ?_ ?_ ?_
  · decide
  · decide
  · decide
  · omega
  · rintro i acc σ₁ hJ @⟨o, H', ps, i, acc, hJ, _, _, _, _, _, _, _⟩ oI2 h₁ C D m2 vs₁ B' S hup tk
    exact ⟨_, S.has (.tl (.tl .hd))⟩
  · rintro i acc σ₁ hJ @⟨o, H', ps, i, acc, hJ, hled, ZJ, bd, hHl, hpl, hac, hrep⟩ B' C D m2 oI2 v h₁ k₁ hi hal hv G' hup hdn hBJ hled2 tkJ S Qt hQw
    dsimp only [List.set, List.map] at S
    have Z4 := ZJ.st' (τ' := [_, _, _]) hled S.tup S.hs
    have tkc := S.tup
    replace S := S.pool
    have S0 := S
    have G := G'.self
    with_reducible refine E_meth ?_
    with_reducible refine' Y_cell (by assumption) ?c1 ?c2 ?c3 ?_ ?c5 ?c6 ?c7
    case c1 => rfl
    case c2 => exact .t3 (.t3 (.t3 (.t3 (.t3 (.t3 .h1)))))
    case c3 => assumption
    case c5 => rfl
    case c6 => rfl
    case c7 => decide
    refine MC_c S G (Z4.st (τ := [_, _, _]) (τ' := [_, _, _]) S0 S) mth_put_term ?_ fun _ _ _ => rfl
    with_reducible refine' CC_ref (by assumption) (by assumption) ?c2 ?_
    case c2 => k_is
    with_reducible refine S_cons ?_
    with_reducible refine' Y_loc (by assumption) ?c1 ?_
    case c1 => exact .h1
    with_reducible refine S_cons ?_
    with_reducible refine' Y_cell (by assumption) ?c1 ?c2 ?c3 ?_ ?c5 ?c6 ?c7
    case c1 => rfl
    case c2 => exact .t3 (.t3 (.t3 (.t3 (.t3 (.t3 .h2)))))
    case c3 => assumption
    case c5 => rfl
    case c6 => rfl
    case c7 => decide
    with_reducible refine S_nil ?_
    with_reducible refine' Krf_go (by assumption) (by assumption) ?_
    have Z5 := Z4.st (τ := [_, _, _]) (τ' := [_, _, _]) S0 S
    have hi2 : i < Ts.length := by (clear hn3 hpl hal; omega)
    have hTi : Ts[i]? = some Ts[i] := List.getElem?_eq_getElem hi2
    obtain ⟨v', e8, rdv⟩ := hts.get hTi
    rw [hv] at e8; cases e8
    obtain ⟨ok0, tf0, sz0⟩ := hTs _ (List.getElem_mem hi2)
    have tka := tkJ.trans (tkc.trans S.tup)
    refine put_termL (τ := [_, _, _]) (n := 20) G S (R.less (by decide)) Z5 (by (clear htl hpl hal; omega)) (rdv.tk tka) tf0 ok0 (by omega) I2.kl (fun k k0 k1 => (by obtain ⟨b, t, u, e, r⟩ := I2.tab k k0 k1; exact ⟨b, t, u, e, r.tk tka⟩)) I2.key
      fun h4 k4 x p as H2 t u xx ZZ Tx rx ndx keep l1 l2 => ?_
    have tkS := S.tup
    replace S := LW.go (τ := [_, _, _]) S xx ZZ
    dsimp only [List.cons_append, List.nil_append] at S
    have tkd := tkc.trans S.tup
    refine hQw _ _ _ _ _ (by rfl) (by rfl) (S.re tkc) (.mk (H' := H2) (ps := ps ++ [p]) (fun p hp => S.hs p (.tail _ (.tail _ (.tail _ hp)))) ZZ (bd.keep keep) (by (clear hpl hal l1; omega)) (by simp [hpl]) ((hac.imp fun v e z => z.tk tkd).snoc ⟨x, t, u, rfl, Tx⟩) fun j p' T e1 e2 => ?_)
    rcases Nat.lt_or_ge j ps.length with hj | hj
    · rw [List.getElem?_append_left hj] at e1
      obtain ⟨as', r', nd'⟩ := hrep j p' T e1 e2
      exact ⟨as', r'.keep keep, nd'⟩
    · have hj' : j = ps.length := by have := some_lt e1; simp at this; (clear hpl; omega)
      subst hj'
      simp at e1
      subst e1
      rw [hpl, hTi] at e2; cases e2
      exact ⟨as, rx, ndx⟩
  · rintro i_ ys σ₁ hJ @⟨o, H', ps, i_, ys, hJ, hled, ZJ, bd, hHl, hpl, hac, hrep⟩ rfl D m2 h₁ k₁ C oC hyl hup hled2 tkJ ntC S Qs hQs
    refine A_name (N_st S (by exact .t3 (.t3 (.t3 (.t3 .hd)))) (fun h3 S => hQs _ _ _ _ _ S fun h5 S => ?_) rfl rfl)
    have Z6 := ZJ.st' (τ' := [_, _]) hled S.tup S.hs
    refine next _ _ _ o H' D ys m2 S Z6 ⟨ps, bd, fun j a b => (by obtain ⟨w, e, r⟩ := I2.ends j a (by assumption); exact ⟨w, e, r.tk (tkJ.trans S.tup)⟩), hts.imp fun v e z => z.tk (tkJ.trans S.tup), hTs, hn3, hac.imp fun v e z => z.tk S.tup, hrep, by omega⟩ I2.el
end
end
section
open PySem PySem.W PyProof.Rows PySem.Calls
set_option hygiene false
inductive JE (V : Vw) (a : Ad) (f : Fx) (LL : List Str) (F H : List (Int × Int)) (kt : List (Int × Value)) (es rs ts : List Value) (Ts : List Tr) (ev : Int → Tr) (rt tl : Addr) (m' m : Nat) : Nat → List Value → List (Addr × Obj) → Heap → Prop
  | mk {o : Ob} {i : Nat} {acc : List Value} {h : Heap} (hled : ∀ p ∈ led a o f, h.get? p.1 = some p.2) (ZJ : LW V h a LL F H kt es) (hac : All2 (fun v T => Rd h v (enc T)) acc ((Ts.take i).map fun T => (num (res ev T) []).1)) :
    JE V a f LL F H kt es rs ts Ts ev rt tl m' m i acc ((rt, lo rs m') :: (tl, lo ts m) :: led a o f) h
section
variable {V : Vw} {B P h : Heap} {L fa tl rt : Addr} {cd w0 : Value} {w6 w7 w8 w10 w11 : Option Value} {a : Ad} {o : Ob} {f : Fx} {LL : List Str} {F H : List (Int × Int)} {kt : List (Int × Value)} {es ts rs : List Value} {Ts : List Tr} {ps : List (Int × Int)} {ev : Int → Tr} {A : Around} {k m m' : Nat}
set_option maxHeartbeats 8000000 in
theorem segE (G : Wd (hd.heap_39 V.w.params) B B) (R : Room A 30) (hcu : f.cu.data = .cell (some (.ref a.ur))) (hcc : f.cc.data = .cell (some (.ref a.c))) (hct : f.ct.data = .cell (some (.ref a.tb))) (hce : f.ce.data = .cell (some (.ref a.en)))
    (S : St B P L lawN [some w0, none, some (.ref a.sy), none, none, none, w6, w7, w8, some (.ref tl), w10, w11, some (.ref rt), none, none, none, none, none] ((rt, lo rs m') :: (tl, lo ts m) :: led a o f) h)
    (Z : LW V h a LL F H kt es) (D : DI h H F es ev ts Ts rs ps)
    (next : ∀ P h k o pl pls m2, St B P L lawN [some w0, none, some (.ref a.sy), none, none, none, w6, w7, w8, some (.ref tl), w10, w11, some (.ref rt), some (.ref pl), none, none, none, none] ((pl, lo pls m2) :: (rt, lo rs m') :: (tl, lo ts m) :: led a o f) h →
      LW V h a LL F H kt es → DI h H F es ev ts Ts rs ps → All2 (fun v T => Rd h v (enc T)) pls (Ts.map fun T => (num (res ev T) []).1) → 
      W V A (execs ((lawB V.w.params).drop 10) (envX "law" (lawS V.w.params) L fa cd [("ends", a.ce), ("table", a.ct), ("cells", a.cc), ("urn", a.cu)])) (FinQ B) h k) :
    W V A (execs ((lawB V.w.params).drop 9) (envX "law" (lawS V.w.params) L fa cd [("ends", a.ce), ("table", a.ct), ("cells", a.cc), ("urn", a.cu)])) (FinQ B) h k := by
  dsimp only [lawB, lawBS, lit_of, List.drop]
  replace S := S.pool
  have S0 := S
  refine X_lc (cl := [("ends", a.ce)]) ?_ ?hsw ?hclos ?hkind ?hnames ?hs
  case hsw => rfl
  case hclos => rfl
  case hkind => rfl
  case hnames => decide
  case hs => intro _; rfl
  with_reducible refine' E_loc (by assumption) ?c1 ?_
  case c1 => exact .t3 (.t3 (.t3 .hd))
  refine iter_list S (S.has (by exact .h1)) fun I3 oI3 h1 so3 S => ?_
  have Z3 := Z.st (τ := [_, _]) (τ' := [_, _, _]) S0 S
  have tkS := S.tup
  have D2 := D.tk tkS
  have htl := D2.ts.len
  have hn3 := D2.nT
  replace S := S.pool
  refine N_lcS (jx := 1) (n := ts.length) (nsC := [(".0", .local), ("tree", .local), ("_law_numbered", .globalImplicit), ("ends", .cell)])
    (JE V a f LL F H kt es rs ts Ts ev rt tl m' m)
    (itr_list tl ts) self_list R.1 G S so3 (.mk (fun p hp => S.hs p (.tail _ (.tail _ (.tail _ hp)))) Z3 trivial) ?_ rfl rfl rfl ?_ ?_ ?_ ?_ ?_ ?_
  · decide
  · decide
  · decide
  · omega
  · rintro i acc σ₁ hJ @⟨o, i, acc, hJ, _, _, _⟩ oI2 h₁ C D m2 vs₁ B' S hup tk
    exact ⟨_, S.has (.tl (.tl (.tl .hd)))⟩
  · rintro i acc σ₁ hJ @⟨o, i, acc, hJ, hled, ZJ, hac⟩ B' C D9 m2 oI2 v h₁ k₁ hi hal hv G' hup hdn hBJ hled2 tkJ S Qt hQw
    dsimp only [List.set, List.map] at S
    have Z4 := ZJ.st' (τ' := [_, _, _, _]) hled S.tup S.hs
    have tkc := S.tup
    replace S := S.pool
    have S0 := S
    have G := G'.self
    with_reducible refine E_call ?_
    with_reducible refine' Y_glo (by assumption) (by assumption) ?c2 ?c3 ?_
    case c2 => exact .tl (.tl .hd)
    case c3 => k_is
    with_reducible refine' CC_ref (by assumption) (by assumption) ?c2 ?_
    case c2 => k_is
    with_reducible refine S_cons ?_
    with_reducible refine' Y_loc (by assumption) ?c1 ?_
    case c1 => exact .h1
    with_reducible refine S_cons ?_
    with_reducible refine' Y_cell (by assumption) ?c1 ?c2 ?c3 ?_ ?c5 ?c6 ?c7
    case c1 => rfl
    case c2 => exact .t3 (.t3 (.t3 (.t3 (.t3 (.t3 (.t3 .h1))))))
    case c3 => assumption
    case c5 => rfl
    case c6 => rfl
    case c7 => decide
    with_reducible refine S_cons ?_
    with_reducible refine E_list ?_
    with_reducible refine S_nil ?_
    with_reducible refine' N_lst (by assumption) ?_
    intro l1 h1 S
    with_reducible refine S_nil ?_
    with_reducible refine' Krf_go (by assumption) (by assumption) ?_
    have Z5 := Z4.st (τ := [_, _, _, _]) (τ' := [_, _, _, _, _]) S0 S
    have hi2 : i < Ts.length := by (clear hn3 hal; omega)
    have hTi : Ts[i]? = some Ts[i] := List.getElem?_eq_getElem hi2
    obtain ⟨v', e8, rdv⟩ := D2.ts.get hTi
    rw [hv] at e8; cases e8
    obtain ⟨ok0, tf0, sz0⟩ := D2.ok _ (List.getElem_mem hi2)
    have tka := tkJ.trans (tkc.trans S.tup)
    have D3 := D2.tk tka
    obtain ⟨ne, een⟩ := Z5.en
    have nd := S.nd
    refine numbered_ (ev := ev) (es := es) (B₀ := hideAll h1 [l1]) D3.bd.lf (none_hide (by simp)) (fun e => ?_) (fun k k0 k1 => (by obtain ⟨w, e, _⟩ := D3.ends k k0 k1; exact ⟨w, e⟩)) 7 Ts[i] sz0 (n := 10) ((G.st S).hide (M := [l1]) fun x hx => ?_) (R.less (by decide))
      (rdv.tk tka) ok0 een (fun k w k0 k1 hw => ?_) (S.has (by exact .hd)) .nil (by simp; omega) fun h4 k4 v4 ss4 m4 x4 rd4 es4 is4 => ?_
    · exact nd_at nd 12 0 rfl rfl (by decide) e
    · rw [List.mem_singleton.mp hx]; exact S.no (o := lo [] 0) (by exact .hd)
    · obtain ⟨w', e', r'⟩ := D3.ends k k0 k1
      rw [hw] at e'; cases e'; exact r'
    replace S := S.chgL (ups := [(l1, lo ss4 m4)]) x4 (.cons (by exact .hd) .nil) (by simpa using es4)
    have Z6 := Z4.st (τ := [_, _, _, _]) (τ' := [_, _, _, _, _]) S0 S
    have tkd := tkc.trans S.tup
    refine hQw _ _ _ _ _ (by rfl) (by rfl) ((S.re tkc).drop (List.sublist_cons_self _ _)) (.mk (fun p hp => S.hs p (.tail _ (.tail _ (.tail _ (.tail _ (.tail _ hp)))))) Z6 ?_)
    rw [List.take_succ_eq_append_getElem hi2, List.map_append]
    exact (hac.imp fun v e z => z.tk tkd).snoc rd4
  · rintro i_ ys σ₁ hJ @⟨o, i_, ys, hJ, hled, ZJ, hac⟩ rfl D9 m2 h₁ k₁ C oC hyl hup hled2 tkJ ntC S Qs hQs
    refine A_name (N_st S (by exact .t3 (.t3 (.t3 (.t3 .h1)))) (fun h3 S => hQs _ _ _ _ _ S fun h5 S => ?_) rfl rfl)
    have Z6 := ZJ.st' (τ' := [_, _, _]) hled S.tup S.hs
    rw [htl, List.take_length] at hac
    exact next _ _ _ o D9 ys m2 S Z6 (D2.tk (tkJ.trans S.tup)) (hac.imp fun v e z => z.tk S.tup)
end
end
section
open PySem PySem.W PyProof.Rows PySem.Calls
set_option hygiene true
open Classical in
theorem enc_eqv (S : Tr) : ∀ T : Tr, PyData.eqv (enc S) (enc T) = decide (S = T) := by
  have e1 : (Str.ofString "v" == Str.ofString "a") = false := by decide
  have e2 : (Str.ofString "v" == Str.ofString "i") = false := by decide
  have e3 : (Str.ofString "v" == Str.ofString "s") = false := by decide
  have e4 : (Str.ofString "a" == Str.ofString "v") = false := by decide
  have e5 : (Str.ofString "a" == Str.ofString "i") = false := by decide
  have e6 : (Str.ofString "a" == Str.ofString "s") = false := by decide
  have e7 : (Str.ofString "i" == Str.ofString "v") = false := by decide
  have e8 : (Str.ofString "i" == Str.ofString "a") = false := by decide
  have e9 : (Str.ofString "i" == Str.ofString "s") = false := by decide
  have e10 : (Str.ofString "s" == Str.ofString "v") = false := by decide
  have e11 : (Str.ofString "s" == Str.ofString "a") = false := by decide
  have e12 : (Str.ofString "s" == Str.ofString "i") = false := by decide
  have ii : ∀ a b : Int, (a == b) = decide (a = b) := fun a b => by by_cases h : a = b <;> simp [h]
  induction S with
  | v n => intro T; cases T <;> simp [enc, PyData.eqv, PyData.eqvAll, e1, e2, e3, ii]
  | a n => intro T; cases T <;> simp [enc, PyData.eqv, PyData.eqvAll, e4, e5, e6, ii]
  | i n => intro T; cases T <;> simp [enc, PyData.eqv, PyData.eqvAll, e7, e8, e9, ii]
  | s1 f x ih => intro T; cases T <;> simp [enc, PyData.eqv, PyData.eqvAll, e10, e11, e12, ii, ih]
  | s2 f x y ih1 ih2 => intro T; cases T <;> simp [enc, PyData.eqv, PyData.eqvAll, e10, e11, e12, ii, ih1, ih2]
theorem enc_lay (T : Tr) : (enc T).canLay0 = true := by
  have e1 : PyData.strOk (Str.ofString "v") = true := by decide +kernel
  have e2 : PyData.strOk (Str.ofString "a") = true := by decide +kernel
  have e3 : PyData.strOk (Str.ofString "i") = true := by decide +kernel
  have e4 : PyData.strOk (Str.ofString "s") = true := by decide +kernel
  induction T with
  | v n => simp [enc, PyData.canLay0, PyData.canLayAll0, e1]
  | a n => simp [enc, PyData.canLay0, PyData.canLayAll0, e2]
  | i n => simp [enc, PyData.canLay0, PyData.canLayAll0, e3]
  | s1 f x ih => simp [enc, PyData.canLay0, PyData.canLayAll0, e4, ih]
  | s2 f x y ih1 ih2 => simp [enc, PyData.canLay0, PyData.canLayAll0, e4, ih1, ih2]
theorem enc_depth (T : Tr) : (enc T).depth ≤ 2 * T.sz := by
  induction T with
  | v n => simp [enc, PyData.depth, PyData.depthAll, Tr.sz]
  | a n => simp [enc, PyData.depth, PyData.depthAll, Tr.sz]
  | i n => simp [enc, PyData.depth, PyData.depthAll, Tr.sz]
  | s1 f x ih => simp [enc, PyData.depth, PyData.depthAll, Tr.sz]; omega
  | s2 f x y ih1 ih2 => simp [enc, PyData.depth, PyData.depthAll, Tr.sz]; omega
theorem num_sz (t : Tr) : ∀ sn, (num t sn).1.sz = t.sz := by
  induction t with
  | v k => intro sn; unfold num; split <;> simp [Tr.sz]
  | a n => intro sn; simp [num, Tr.sz]
  | i n => intro sn; simp [num, Tr.sz]
  | s1 f x ih => intro sn; simp [num, Tr.sz, ih]
  | s2 f x y ih1 ih2 => intro sn; simp [num, Tr.sz, ih1, ih2]
theorem pairsRd {h : Heap} : ∀ {vs : List Value} {ps : List (Int × Int)}, PairsAt h vs ps → ReadsAll h vs (ps.map fun p => .tuple [.int p.1, .int p.2]) []
  | [], [], _ => .nil
  | _ :: _, p :: _, ⟨⟨a, t, u, e, T⟩, r⟩ => by
    subst e
    exact Rd.cons (rd_pair T) (pairsRd r)
  | [], _ :: _, x => x.elim
  | _ :: _, [], x => x.elim
theorem pairsLay : ∀ ps : List (Int × Int), PyData.canLayAll0 (ps.map fun p => .tuple [.int p.1, .int p.2]) = true
  | [] => by simp [PyData.canLayAll0]
  | p :: ps => by simp [PyData.canLayAll0, PyData.canLay0, pairsLay ps]
theorem pairsDep : ∀ ps : List (Int × Int), PyData.depthAll (ps.map fun p => .tuple [.int p.1, .int p.2]) ≤ 1
  | [] => by simp [PyData.depthAll]
  | p :: ps => by
    have := pairsDep ps
    simp [PyData.depthAll, PyData.depth]; omega
section
variable {V : Vw} {h : Heap} {A : Around} {k n : Nat} {v w : Value} {S T : Tr} {Q : Value → Heap → Nat → Prop}
open Classical in
theorem q_encNe (R : Room A n) (x : Rd h v (enc S)) (y : Rd h w (enc T)) (hz : S.sz ≤ 40) (q : Q (.bool (!decide (S = T))) h k) : W V A (compareOp .NotEq v w) Q h k := by
  refine SeqAt.compareNe_reads x y (enc_lay S) (enc_lay T) (by have := R.units; have := enc_depth S; omega) (Pst.mk ?_)
  rw [enc_eqv]; exact q
open Classical in
theorem q_encEq (R : Room A n) (x : Rd h v (enc S)) (y : Rd h w (enc T)) (hz : S.sz ≤ 40) (q : Q (.bool (decide (S = T))) h k) : W V A (compareOp .Eq v w) Q h k := by
  refine SeqAt.compareEq_reads x y (enc_lay S) (enc_lay T) (by have := R.units; have := enc_depth S; omega) (Pst.mk ?_)
  rw [enc_eqv]; exact q
theorem q_lists {l1 l2 : Addr} {xs : List Value} {n1 n2 : Nat} {H : List (Int × Int)} (R : Room A n) (e1 : h.get? l1 = some (lo xs n1)) (e2 : h.get? l2 = some (lo xs n2)) (p : PairsAt h xs H) (q : Q (.bool true) h k) : W V A (compareOp .Eq (.ref l1) (.ref l2)) Q h k := by
  have l0 : PyData.canLay0 (.list (H.map fun p => .tuple [.int p.1, .int p.2])) = true := by rw [PyData.canLay0]; exact pairsLay H
  have d0 : PyData.depth (.list (H.map fun p => .tuple [.int p.1, .int p.2])) ≤ 2 := by rw [PyData.depth]; have := pairsDep H; omega
  refine SeqAt.compareEq_reads (Reads.list e1 rfl rfl (pairsRd p)) (Reads.list e2 rfl rfl (pairsRd p)) l0 l0 (by have := R.units; omega) (Pst.mk ?_)
  rw [SeqAt.eqv_refl _ l0]; exact q
end
section
variable {V : Vw} {B P h : Heap} {L l : Addr} {ns : List (Str × NameKind)} {vs : List (Option Value)} {σ : List (Addr × Obj)} {A : Around} {k n : Nat} {xs : List Value}
theorem C_listL {Q : Value → Heap → Nat → Prop} (S : St B P L ns vs σ h) (e : h.get? l = some (lo xs n)) (hsz : xs.length ≤ 1000000) (q : ∀ d m h', St B P L ns vs ((d, lo xs m) :: σ) h' → Q (.ref d) h' k) : W V A (call (.type "list") ([] ++ [.ref l])) Q h k := by
  refine call_list_seq l (.inl rfl) e rfl rfl (fun h' c' hk hD => Pst.mk (q _ c' _ (S.addNew (S.up hk) rfl (Heap.get?_none_of_le (Nat.le_refl _)) hD))) (by simp [sizeLine]; omega)
end
end
section
open PySem PySem.W PyProof.Rows PySem.Calls
set_option hygiene false
section
variable {V : Vw} {B P h h' : Heap} {L : Addr} {ns : List (Str × NameKind)} {vs : List (Option Value)} {a : Ad} {o : Ob} {f : Fx} {LL : List Str} {F H : List (Int × Int)} {kt : List (Int × Value)} {es : List Value} {τ τ' : List (Addr × Obj)}
  {A : Around} {k n : Nat} {Q : Value → Heap → Nat → Prop} {t u t' u' : Tok} {x y : Addr} {p r : Int × Int} {T U : Tr} {as bs : List Int} {ev : Int → Tr}
theorem variantL (G : Wd (hd.heap_39 V.w.params) B B) (S : St B P L ns vs (τ ++ led a o f) h) (R : Room A (n + 4)) (Z : LW V h a LL F H kt es)
    (T1 : Tp h x [.int p.1 t, .int p.2 u]) (T2 : Tp h y [.int r.1 t', .int r.2 u']) (r1 : Rep H F p T as) (r2 : Rep H F r U bs) (o1 : T.ok) (o2 : U.ok) (bd : Bd H ev) (nd : as.Nodup) (hz : T.sz ≤ 100)
    (q : ∀ h' k', Chg [] h h' → Q (.bool (va (res ev T) (res ev U) []).isSome) h' k') : W V A (call (.ref 445) ([] ++ [.ref a.c, .ref x, .ref y])) Q h k :=
  variant_ ((G.st S).hide (M := []) fun x hx => nomatch hx) R (Z.sto fun x hx => List.not_mem_nil) T1 T2 r1 r2 o1 o2 bd nd hz q
theorem takeL {td : Addr} {ot : Obj} (G : Wd (hd.heap_39 V.w.params) B B) (S : St B P L ns vs ((td, ot) :: (τ ++ led a o f)) h) (R : Room A (n + 4)) (Z : LW V h a LL F H kt es)
    (T1 : Tp h x [.int p.1 t, .int p.2 u]) (r1 : Rep H F p T as) (o1 : T.ok) (bd : Bd H ev) (nd : as.Nodup) (hz : T.sz ≤ 100) (ntd : (td == sysModules) = false) (Dt : ot.IsDictOf (intKind V.prog V.w) [])
    (q : ∀ h' k' v, Chg [td] h h' → Rd h' v (enc (num (res ev T) []).1) → Q v h' k') : W V A (call (.ref 377) ([.ref a.c] ++ [.ref x, .ref td])) Q h k := by
  have key : ∀ z ∈ a.all, z ≠ td := fun z hz e => by
    have nd := S.nd
    rw [List.map_cons, List.nodup_cons, List.map_append] at nd
    exact nd.1 (List.mem_append_right _ (e ▸ hz))
  refine take_term_ ((G.st S).hide (M := [td]) fun x hx => ?_) R (Z.sto fun x hx => ?_) T1 r1 o1 bd nd hz (S.has .hd) (none_hide (.head _)) ntd Dt (key _ (by exact .tail _ (.tail _ (.tail _ (.tail _ (.tail _ (.head _))))))) (key _ (by exact .tail _ (.tail _ (.tail _ (.head _))))) q
  · rw [List.mem_singleton.mp hx]; exact S.no .hd
  · rw [List.mem_singleton]
    exact key x (m4 (p := fun x => x ∈ a.all) (by exact .tail _ (.tail _ (.tail _ (.tail _ (.tail _ (.tail _ (.tail _ (.tail _ (.tail _ (.head _)))))))))) (by exact .tail _ (.tail _ (.tail _ (.tail _ (.tail _ (.tail _ (.tail _ (.tail _ (.tail _ (.tail _ (.head _))))))))))) (by exact .tail _ (.tail _ (.tail _ (.tail _ (.tail _ (.tail _ (.tail _ (.tail _ (.tail _ (.tail _ (.tail _ (.head _)))))))))))) (by exact .tail _ (.tail _ (.tail _ (.tail _ (.tail _ (.tail _ (.tail _ (.tail _ (.tail _ (.tail _ (.tail _ (.tail _ (.head _))))))))))))) x hx)
end
inductive JG1 (a : Ad) (o : Ob) (f : Fx) (w0 : Value) (w6 w7 w8 w10 w11 : Option Value) (tl rt pl hc tc : Addr) (hs pls rs ts : List Value) (m7 m6 m2 m' m : Nat) : Nat → List (Option Value) → List (Addr × Obj) → Heap → Prop
  | mk {w16 w17 : Option Value} {i : Nat} {h : Heap} : JG1 a o f w0 w6 w7 w8 w10 w11 tl rt pl hc tc hs pls rs ts m7 m6 m2 m' m i [some w0, none, some (.ref a.sy), none, none, none, w6, w7, w8, some (.ref tl), w10, w11, some (.ref rt), some (.ref pl), some (.ref hc), some (.ref tc), w16, w17]
      ((tc, lo [] m7) :: (hc, lo hs m6) :: (pl, lo pls m2) :: (rt, lo rs m') :: (tl, lo ts m) :: led a o f) h
inductive JG2 (a : Ad) (o : Ob) (f : Fx) (w0 : Value) (w6 w7 w8 w10 w11 w16 : Option Value) (tl rt pl hc tc I : Addr) (oI : Obj) (hs pls rs ts : List Value) (m7 m6 m2 m' m : Nat) : Nat → List (Option Value) → List (Addr × Obj) → Heap → Prop
  | mk {w17 : Option Value} {i : Nat} {h : Heap} : JG2 a o f w0 w6 w7 w8 w10 w11 w16 tl rt pl hc tc I oI hs pls rs ts m7 m6 m2 m' m i [some w0, none, some (.ref a.sy), none, none, none, w6, w7, w8, some (.ref tl), w10, w11, some (.ref rt), some (.ref pl), some (.ref hc), some (.ref tc), w16, w17]
      ((I, oI) :: (tc, lo [] m7) :: (hc, lo hs m6) :: (pl, lo pls m2) :: (rt, lo rs m') :: (tl, lo ts m) :: led a o f) h
inductive Key (h : Heap) (F H : List (Int × Int)) (ev : Int → Tr) (rs pls : List Value) (j : Nat) : Prop
  | mk (T : Tr) (p : Int × Int) (x : Addr) (t u : Tok) (as : List Int) (vp : Value) (er : rs[j]? = some (.ref x)) (Tx : Tp h x [.int p.1 t, .int p.2 u]) (rp : Rep H F p T as) (nda : as.Nodup) (ok0 : T.ok) (sz0 : T.sz ≤ 7) (ep : pls[j]? = some vp)
    (rdp : Rd h vp (enc (num (res ev T) []).1))
section
variable {V : Vw} {B P h : Heap} {L fa tl rt pl : Addr} {cd w0 : Value} {w6 w7 w8 w10 w11 : Option Value} {a : Ad} {o : Ob} {f : Fx} {LL : List Str} {F H : List (Int × Int)} {kt : List (Int × Value)} {es ts rs pls : List Value} {Ts : List Tr} {ps : List (Int × Int)} {ev : Int → Tr} {A : Around} {k m m' m2 : Nat}
set_option maxHeartbeats 8000000 in
theorem segF (G : Wd (hd.heap_39 V.w.params) B B) (R : Room A 30) (hcu : f.cu.data = .cell (some (.ref a.ur))) (hcc : f.cc.data = .cell (some (.ref a.c))) (hct : f.ct.data = .cell (some (.ref a.tb))) (hce : f.ce.data = .cell (some (.ref a.en)))
    (S : St B P L lawN [some w0, none, some (.ref a.sy), none, none, none, w6, w7, w8, some (.ref tl), w10, w11, some (.ref rt), some (.ref pl), none, none, none, none] ((pl, lo pls m2) :: (rt, lo rs m') :: (tl, lo ts m) :: led a o f) h)
    (Z : LW V h a LL F H kt es) (D : DI h H F es ev ts Ts rs ps) (hpl : All2 (fun v T => Rd h v (enc T)) pls (Ts.map fun T => (num (res ev T) []).1)) :
    W V A (execs ((lawB V.w.params).drop 10) (envX "law" (lawS V.w.params) L fa cd [("ends", a.ce), ("table", a.ct), ("cells", a.cc), ("urn", a.cu)])) (FinQ B) h k := by
  dsimp only [lawB, lawBS, lit_of, List.drop]
  replace S := S.pool
  have S0 := S
  with_reducible refine X_name ?_
  with_reducible refine E_call ?_
  with_reducible refine' E_bi (by assumption) (by assumption) ?c2 ?c3 ?c4 ?c5 ?_
  case c2 => exact .tl (.tl (.tl (.tl (.tl (.tl (.tl (.tl (.tl (.tl (.tl (.tl (.tl (.tl (.tl (.tl (.tl (.tl (.tl (.tl (.tl (.tl (.tl (.tl (.tl (.tl .hd)))))))))))))))))))))))))
  case c3 => k_is
  case c4 => boot_by_name
  case c5 => decide
  with_reducible refine C_ty ?_
  with_reducible refine S_cons ?_
  with_reducible refine E_attr ?_
  with_reducible refine' Y_cell (by assumption) ?c1 ?c2 ?c3 ?_ ?c5 ?c6 ?c7
  case c1 => rfl
  case c2 => exact .t3 (.t3 (.t3 (.t3 (.t3 (.t3 .h1)))))
  case c3 => assumption
  case c5 => rfl
  case c6 => rfl
  case c7 => decide
  obtain ⟨t1, t2, t3, Ic⟩ := (Z.st (τ := [_, _, _]) (τ' := [_, _, _]) S0 S).ic
  refine A_fldh S G Ic (by exact .tl (.tl .hd)) fld_heap ?_
  with_reducible refine S_nil ?_
  have Z1 := Z.st (τ := [_, _, _]) (τ' := [_, _, _]) S0 S
  obtain ⟨hs, m5, eh, ph⟩ := Z1.hh
  have hsz : hs.length ≤ 60000 := by rw [ph.len]; exact Z1.sz
  have tk0 := S.tup
  refine C_listL S eh (by omega) fun hc9 m6 h1 S => ?_
  with_reducible refine' N_st (by assumption) ?c1 ?_
  case c1 => exact .t3 (.t3 (.t3 (.t3 .h2)))
  intro h1 S
  with_reducible refine X_name ?_
  with_reducible refine E_call ?_
  with_reducible refine' E_bi (by assumption) (by assumption) ?c2 ?c3 ?c4 ?c5 ?_
  case c2 => exact .tl (.tl (.tl (.tl (.tl (.tl (.tl (.tl (.tl (.tl (.tl (.tl (.tl (.tl (.tl (.tl (.tl (.tl (.tl (.tl (.tl (.tl (.tl (.tl (.tl (.tl .hd)))))))))))))))))))))))))
  case c3 => k_is
  case c4 => boot_by_name
  case c5 => decide
  with_reducible refine C_ty ?_
  with_reducible refine S_cons ?_
  with_reducible refine E_attr ?_
  with_reducible refine' Y_cell (by assumption) ?c1 ?c2 ?c3 ?_ ?c5 ?c6 ?c7
  case c1 => rfl
  case c2 => exact .t3 (.t3 (.t3 (.t3 (.t3 (.t3 .h2)))))
  case c3 => assumption
  case c5 => rfl
  case c6 => rfl
  case c7 => decide
  obtain ⟨t1, t2, t3, Ic⟩ := (Z.st (τ := [_, _, _]) (τ' := [_, _, _, _]) S0 S).ic
  refine A_fldh S G Ic (by exact .tl (.tl (.tl (.tl .hd)))) fld_trail ?_
  with_reducible refine S_nil ?_
  have Z1 := Z.st (τ := [_, _, _]) (τ' := [_, _, _, _]) S0 S
  refine C_listL S Z1.fx.tr (by simp) fun tc9 m7 h1 S => ?_
  with_reducible refine' N_st (by assumption) ?c1 ?_
  case c1 => exact .t3 (.t3 (.t3 (.t3 (.t3 .hd))))
  intro h1 S
  with_reducible refine X_for ?_
  with_reducible refine E_call ?_
  with_reducible refine' E_bi (by assumption) (by assumption) ?c2 ?c3 ?c4 ?c5 ?_
  case c2 => exact .tl (.tl (.tl (.tl (.tl (.tl (.tl (.tl (.tl (.tl (.tl (.tl (.tl (.tl (.tl (.tl (.tl (.tl (.tl (.tl .hd)))))))))))))))))))
  case c3 => k_is
  case c4 => boot_by_name
  case c5 => decide
  with_reducible refine C_ty ?_
  with_reducible refine S_cons ?_
  with_reducible refine E_int ?_
  with_reducible refine S_nil ?_
  refine C_rng1 S fun r9 h1 k1 hr S => ?_
  refine iter_range (n := 3) S hr (by decide) (by decide) fun I oI h1 so S => ?_
  have Z2 := Z.st (τ := [_, _, _]) (τ' := [_, _, _, _, _, _]) S0 S
  have tk1 := S.tup
  have D2 := D.tk tk1
  have pl2 := hpl.imp fun v e (z : Rd _ v (enc e)) => z.tk tk1
  have hled := S.hs
  have ph2 : PairsAt h1 hs H := ph.tk S.tup
  have eo : o.hp = lo hs m5 := by
    have := S0.has (a := a.hp) (o := o.hp) (by exact .t3 (.t3 .h2))
    rw [eh] at this; exact (Option.some.inj this).symm
  replace hled : ∀ p ∈ led a o f, h1.get? p.1 = some p.2 := fun p hp => hled p (.tail _ (.tail _ (.tail _ (.tail _ (.tail _ (.tail _ hp))))))
  have key : ∀ j, j < 3 → Key h1 F H ev rs pls j := by
    intro j hj
    have hT : j < Ts.length := by rw [D2.nT]; exact hj
    have hP : j < ps.length := by rw [D2.nP]; exact hj
    have hTi : Ts[j]? = some Ts[j] := List.getElem?_eq_getElem hT
    have hPi : ps[j]? = some ps[j] := List.getElem?_eq_getElem hP
    obtain ⟨vr, er, ax, t, u, rfl, Tx⟩ := D2.rs.get hPi
    obtain ⟨as, rp, nda⟩ := D2.rep j _ _ hPi hTi
    obtain ⟨vp, ep, rdp⟩ := pl2.get (j := j) (p := (num (res ev Ts[j]) []).1) (by rw [List.getElem?_map, hTi]; rfl)
    obtain ⟨ok0, tf0, sz0⟩ := D2.ok _ (List.getElem_mem hT)
    exact ⟨_, _, _, _, _, _, _, er, Tx, rp, nda, ok0, sz0, ep, rdp⟩
  have bd := D2.bd
  have szn : ∀ T : Tr, T.ok → T.sz ≤ 7 → (num (res ev T) []).1.sz ≤ 40 := fun T o1 z => by rw [num_sz, res_sz bd.lf o1]; omega
  clear Z1 D D2 hpl pl2 ph eh
  replace S := S.pool
  refine N_forR (JG1 a o f w0 w6 w7 w8 w10 w11 tl rt pl hc9 tc9 hs pls rs ts m7 m6 m2 m' m)
    0 1 R.1 S so .mk 16 rfl ?_ ?_ ?_ rfl rfl
  · rintro i vs σ h2 ⟨⟩
    rfl
  · rintro i vs σ h2 @⟨w16, w17, i, h2⟩ hi tk tv oI h3 k1 S Qt hQr hQn
    dsimp only [List.set] at S
    rw [show (0 : Int) + (i : Int) * 1 = (i : Int) by omega] at S
    obtain ⟨T, p, x, t, u, as, vp, er, Tx, rp, nda, ok0, sz0, ep, rdp⟩ := key i hi
    with_reducible refine X_ifc ?_
    with_reducible refine E_meth ?_
    with_reducible refine' Y_cell (by assumption) ?c1 ?c2 ?c3 ?_ ?c5 ?c6 ?c7
    case c1 => rfl
    case c2 => exact .t3 (.t3 (.t3 (.t3 (.t3 (.t3 (.t3 .h1))))))
    case c3 => assumption
    case c5 => rfl
    case c6 => rfl
    case c7 => decide
    obtain ⟨t1, t2, t3, Ic⟩ := (Z2.st' (τ' := [_, _, _, _, _, _]) hled (tk.trans S.tup) S.hs).ic
    refine MC_defh S G Ic mth_take_term ?_ rfl
    with_reducible refine' CC_ref (by assumption) (by assumption) ?c2 ?_
    case c2 => k_is
    with_reducible refine S_cons ?_
    with_reducible refine E_sub ?_
    with_reducible refine' E_loc (by assumption) ?c1 ?_
    case c1 => exact .t3 (.t3 (.t3 (.t3 .hd)))
    with_reducible refine' E_loc (by assumption) ?c1 ?_
    case c1 => exact .t3 (.t3 (.t3 (.t3 (.t3 .h1))))
    refine I_lst (S.has (by exact .t3 .h1)) ?_ (x := .ref x) (by simpa using er) (by exact Int.natCast_nonneg _) (by omega) (by with_unfolding_all rfl)
    with_reducible refine S_cons ?_
    refine E_dictN G S fun td ot h4 ntd S Dt => ?_
    with_reducible refine S_nil ?_
    with_reducible refine' Krf_go (by assumption) (by assumption) ?_
    have Z4 := Z2.st' (τ' := [_, _, _, _, _, _, _]) hled (tk.trans S.tup) S.hs
    refine takeL (τ := [_, _, _, _, _, _]) (n := 20) G S (R.less (by decide)) Z4 (Tx.tk (tk.trans S.tup)) rp ok0 bd nda (by omega) ntd (Dt _ _) fun h5 k5 v5 x5 rd5 => ?_
    replace S := S.loose ((by obtain ⟨_, _, ex, _⟩ := Dt _ (intKind V.prog V.w); exact exact_ntup ex)) (fun b oo nb e => x5.same b oo e (by simpa using nb))
    with_reducible refine E_sub ?_
    with_reducible refine' E_loc (by assumption) ?c1 ?_
    case c1 => exact .t3 (.t3 (.t3 (.t3 .h1)))
    with_reducible refine' E_loc (by assumption) ?c1 ?_
    case c1 => exact .t3 (.t3 (.t3 (.t3 (.t3 .h1))))
    refine I_lst (S.has (by exact .t3 .hd)) ?_ (x := vp) (by simpa using ep) (by exact Int.natCast_nonneg _) (by omega) (by with_unfolding_all rfl)
    refine q_encNe R rd5 (rdp.tk (tk.trans S.tup)) (szn _ ok0 sz0) ?_
    with_reducible refine truthy_b ?_
    refine ⟨fun c => absurd c (by simp), fun _ => ?_⟩
    with_reducible refine X_nn ?_
    with_reducible refine X_for ?_
    with_reducible refine E_call ?_
    with_reducible refine' E_bi (by assumption) (by assumption) ?c2 ?c3 ?c4 ?c5 ?_
    case c2 => exact .tl (.tl (.tl (.tl (.tl (.tl (.tl (.tl (.tl (.tl (.tl (.tl (.tl (.tl (.tl (.tl (.tl (.tl (.tl (.tl .hd)))))))))))))))))))
    case c3 => k_is
    case c4 => boot_by_name
    case c5 => decide
    with_reducible refine C_ty ?_
    with_reducible refine S_cons ?_
    with_reducible refine E_int ?_
    with_reducible refine S_nil ?_
    refine C_rng1 S fun r9 h1 k1 hr S => ?_
    refine iter_range (n := 3) S hr (by decide) (by decide) fun I2 oI2 h6 so2 S => ?_
    have tk6 := tk.trans S.tup
    have tkin := S.tup
    replace S := S.pool
    refine N_forR (JG2 a o f w0 w6 w7 w8 w10 w11 (some (.int i tv)) tl rt pl hc9 tc9 I oI hs pls rs ts m7 m6 m2 m' m)
      0 1 R.1 S so2 .mk 17 rfl ?_ ?_ ?_ rfl rfl
    · rintro j vs σ h2 ⟨⟩
      rfl
    · rintro j vs σ h7 @⟨w17, j, h7⟩ hj tk7 tv2 oI2 h8 k1 S Qt hQr hQn
      dsimp only [List.set] at S
      rw [show (0 : Int) + (j : Int) * 1 = (j : Int) by omega] at S
      obtain ⟨T', p', x', t', u', as', vp', er', Tx', rp', nda', ok0', sz0', ep', rdp'⟩ := key j hj
      with_reducible refine X_if0c ?_
      with_reducible refine' E_cg (by assumption) (by assumption) ?c2 ?c3 ?c4 ?_
      case c2 => exact .tl (.tl (.tl (.tl (.tl (.tl (.tl (.tl (.tl (.tl (.tl (.tl (.tl (.tl (.tl (.tl (.tl (.tl (.tl (.tl (.tl (.tl (.tl (.tl (.tl (.tl (.tl .hd))))))))))))))))))))))))))
      case c3 => k_is
      case c4 => k_is
      with_reducible refine S_cons ?_
      with_reducible refine' Y_cell (by assumption) ?c1 ?c2 ?c3 ?_ ?c5 ?c6 ?c7
      case c1 => rfl
      case c2 => exact .t3 (.t3 (.t3 (.t3 (.t3 (.t3 (.t3 .h2))))))
      case c3 => assumption
      case c5 => rfl
      case c6 => rfl
      case c7 => decide
      with_reducible refine S_cons ?_
      with_reducible refine E_sub ?_
      with_reducible refine' E_loc (by assumption) ?c1 ?_
      case c1 => exact .t3 (.t3 (.t3 (.t3 .hd)))
      with_reducible refine' E_loc (by assumption) ?c1 ?_
      case c1 => exact .t3 (.t3 (.t3 (.t3 (.t3 .h1))))
      refine I_lst (S.has (by exact .t3 .h2)) ?_ (x := .ref x) (by simpa using er) (by exact Int.natCast_nonneg _) (by omega) (by with_unfolding_all rfl)
      with_reducible refine S_cons ?_
      with_reducible refine E_sub ?_
      with_reducible refine' E_loc (by assumption) ?c1 ?_
      case c1 => exact .t3 (.t3 (.t3 (.t3 .hd)))
      with_reducible refine' E_loc (by assumption) ?c1 ?_
      case c1 => exact .t3 (.t3 (.t3 (.t3 (.t3 .h2))))
      refine I_lst (S.has (by exact .t3 .h2)) ?_ (x := .ref x') (by simpa using er') (by exact Int.natCast_nonneg _) (by omega) (by with_unfolding_all rfl)
      with_reducible refine S_nil ?_
      with_reducible refine' Krf_go (by assumption) (by assumption) ?_
      have tkc := tk6.trans (tk7.trans S.tup)
      have Z4 := Z2.st' (τ' := [_, _, _, _, _, _, _]) hled tkc S.hs
      refine variantL (τ := [_, _, _, _, _, _, _]) (n := 20) G S (R.less (by decide)) Z4 (Tx.tk tkc) (Tx'.tk tkc) rp rp' ok0 ok0' bd nda (by omega) fun h5 k5 x5 => ?_
      replace S := S.call0 x5
      with_reducible refine E_cmp ?_
      with_reducible refine E_sub ?_
      with_reducible refine' E_loc (by assumption) ?c1 ?_
      case c1 => exact .t3 (.t3 (.t3 (.t3 .h1)))
      with_reducible refine' E_loc (by assumption) ?c1 ?_
      case c1 => exact .t3 (.t3 (.t3 (.t3 (.t3 .h1))))
      refine I_lst (S.has (by exact .t3 .h1)) ?_ (x := vp) (by simpa using ep) (by exact Int.natCast_nonneg _) (by omega) (by with_unfolding_all rfl)
      with_reducible refine E_sub ?_
      with_reducible refine' E_loc (by assumption) ?c1 ?_
      case c1 => exact .t3 (.t3 (.t3 (.t3 .h1)))
      with_reducible refine' E_loc (by assumption) ?c1 ?_
      case c1 => exact .t3 (.t3 (.t3 (.t3 (.t3 .h2))))
      refine I_lst (S.has (by exact .t3 .h1)) ?_ (x := vp') (by simpa using ep') (by exact Int.natCast_nonneg _) (by omega) (by with_unfolding_all rfl)
      have tkd := tk6.trans (tk7.trans S.tup)
      refine q_encEq R (rdp.tk tkd) (rdp'.tk tkd) (szn _ ok0 sz0) ?_
      refine b_ne (by have := R.units; omega) ?_
      with_reducible refine truthy_b ?_
      rw [va_num]
      refine ⟨fun c => absurd c (by simp), fun _ => ?_⟩
      with_reducible refine X_nil ?_
      exact hQn _ _ _ _ _ (by first | exact .inl rfl | exact .inr rfl) S .mk
    · rintro i_ vs σ h8 @⟨w17, i_, h8⟩ rfl h7 k1 S tk8
      with_reducible refine Nx_next ?_
      with_reducible refine X_nil ?_
      exact hQn _ _ _ _ _ (by first | exact .inl rfl | exact .inr rfl) (S.re tkin) .mk
  · rintro i_ vs σ h2 @⟨w16, w17, i_, h2⟩ rfl h3 k1 S tk
    with_reducible refine Nx_next ?_
    with_reducible refine X_ret ?_
    with_reducible refine E_and ?_
    with_reducible refine E_cmp ?_
    with_reducible refine E_attr ?_
    with_reducible refine' Y_cell (by assumption) ?c1 ?c2 ?c3 ?_ ?c5 ?c6 ?c7
    case c1 => rfl
    case c2 => exact .t3 (.t3 (.t3 (.t3 (.t3 (.t3 (.t3 .hd))))))
    case c3 => assumption
    case c5 => rfl
    case c6 => rfl
    case c7 => decide
    obtain ⟨t1, t2, t3, Ic⟩ := (Z2.st' (τ' := [_, _, _, _, _]) hled S.tup S.hs).ic
    refine A_fldh S G Ic (by exact .tl (.tl .hd)) fld_heap ?_
    with_reducible refine' E_loc (by assumption) ?c1 ?_
    case c1 => exact .t3 (.t3 (.t3 (.t3 .h2)))
    refine q_lists R (by rw [← eo]; exact S.has (by exact .t3 (.t3 (.t3 .h1)))) (S.has (by exact .h1)) (ph2.tk S.tup) ?_
    with_reducible refine truthy_b ?_
    refine ⟨fun _ => ?_, fun c => absurd c (by simp)⟩
    with_reducible refine E_cmp ?_
    with_reducible refine E_attr ?_
    with_reducible refine' Y_cell (by assumption) ?c1 ?c2 ?c3 ?_ ?c5 ?c6 ?c7
    case c1 => rfl
    case c2 => exact .t3 (.t3 (.t3 (.t3 (.t3 (.t3 (.t3 .hd))))))
    case c3 => assumption
    case c5 => rfl
    case c6 => rfl
    case c7 => decide
    have Z9 := Z2.st' (τ' := [_, _, _, _, _]) hled S.tup S.hs
    obtain ⟨t1, t2, t3, Ic⟩ := Z9.ic
    refine A_fldh S G Ic (by exact .tl (.tl (.tl (.tl .hd)))) fld_trail ?_
    with_reducible refine' E_loc (by assumption) ?c1 ?_
    case c1 => exact .t3 (.t3 (.t3 (.t3 (.t3 .hd))))
    refine q_lists (H := []) R (Z2.st' (τ' := [_, _, _, _, _]) hled S.tup S.hs).fx.tr (S.has (by exact .hd)) trivial ?_
    exact ⟨rfl, S.base⟩
end
end
section
open PySem PySem.W PyProof.Rows PySem.Calls
set_option hygiene false
theorem ints_mem {v : Value} : ∀ {xs : List Value} {is : List Int}, IntsAre xs is → v ∈ xs → ∃ i t, v = .int i t
  | _, _, .nil, m => nomatch m
  | _, _, .cons n t r, m => by
    rcases List.mem_cons.mp m with rfl | m
    · exact ⟨_, _, rfl⟩
    · exact ints_mem r m
section
variable {V : Vw} {B h P : Heap} {L fa sc c1 c2 c3 c4 : Addr} {o1 o2 o3 o4 : Obj} {cd : Value} {A : Around} {k : Nat} {xs : List Value} {is : List Int}
set_option maxHeartbeats 8000000 in
theorem segA (G : Wd (hd.heap_39 V.w.params) B B) (R : Room A 30) (es : B.IsList sc xs.toArray) (hx : IntsAre xs is) (hl : xs.length ≤ 63)
    (d1 : o1.data = .cell none) (d2 : o2.data = .cell none) (d3 : o3.data = .cell none) (d4 : o4.data = .cell none)
    (S : St B P L lawN [some (.ref sc), none, none, none, none, none, none, none, none, none, none, none, none, none, none, none, none, none] [(c1, o1), (c2, o2), (c3, o3), (c4, o4)] h)
    (next : ∀ P h k a o f LL F, f.cu.data = .cell (some (.ref a.ur)) → f.cc.data = .cell (some (.ref a.c)) → f.ct.data = .cell (some (.ref a.tb)) → f.ce.data = .cell (some (.ref a.en)) → a.ce = c1 → a.ct = c2 → a.cc = c3 → a.cu = c4 →
      St B P L lawN [some (.ref sc), none, some (.ref a.sy), none, none, none, none, none, none, none, none, none, none, none, none, none, none, none] (led a o f) h →
      LW V h a LL F [] [] [] → LL.length ≤ 61 → F.length ≤ 32 →
      W V A (execs ((lawB V.w.params).drop 5) (envX "law" (lawS V.w.params) L fa cd [("ends", c1), ("table", c2), ("cells", c3), ("urn", c4)])) (FinQ B) h k) :
    W V A (execs (lawB V.w.params) (envX "law" (lawS V.w.params) L fa cd [("ends", c1), ("table", c2), ("cells", c3), ("urn", c4)])) (FinQ B) h k := by
  have next' := next
  dsimp only [lawB, lawBS, lit_of, List.drop] at next ⊢
  replace S := S.pool
  with_reducible refine X_name ?_
  with_reducible refine E_list ?_
  with_reducible refine S_cons ?_
  with_reducible refine E_int ?_
  with_reducible refine S_cons ?_
  with_reducible refine E_sub ?_
  with_reducible refine' E_loc (by assumption) ?c1 ?_
  case c1 => exact .hd
  refine E_slice2 ?_
  with_reducible refine E_int ?_
  refine N_su S fun t9 h9 sl9 S => ?_
  have esh : h9.IsList sc xs.toArray := (by obtain ⟨oo, e, r⟩ := es; exact ⟨oo, S.base _ _ e, r⟩)
  refine I_slice2 (j := 60) esh sl9 (by omega) ?_ rfl
  refine N_lst' S fun sl h2 S => ?_
  with_reducible refine S_cons ?_
  with_reducible refine E_int ?_
  with_reducible refine S_nil ?_
  with_reducible refine' N_lst (by assumption) ?_
  intro l1 h1 S
  rename Addr => ur
  refine Y_stC (σ' := fun o => [_, _, (c1, o1), (c2, o2), (c3, o3), (c4, o)]) S rfl (by exact .t3 .h2) d4 (fun o => by exact .tl (.tl (.tl (.tl (.tl .hd))))) (fun u4 h1 dd4 S => ?_) rfl rfl
  with_reducible refine X_name ?_
  with_reducible refine' E_cg (by assumption) (by assumption) ?c2 ?c3 ?c4 ?_
  case c2 => exact .tl (.tl (.tl (.tl (.tl (.tl (.tl (.tl (.tl (.tl (.tl (.tl (.tl (.tl (.tl (.tl (.tl (.tl .hd)))))))))))))))))
  case c3 => k_is
  case c4 => k_is
  with_reducible refine S_nil ?_
  with_reducible refine' Krf_go (by assumption) (by assumption) ?_
  refine W_cls (rest := []) G S R mk154.1 mk154.2.1 mk154.2.2 fun sy dsy h1 A' R' S => ?_
  have SS := S
  refine init154_ ((G.st S).hide (M := [sy, dsy]) fun x hx => ?_) R' (S.has (by exact .hd)) (S.has (by exact .h1)) (none_hide (.head _)) (none_hide (.tail _ (.head _))) (nd_at S.nd 0 1 rfl rfl (by decide)) fun h2 k2 es me tx an fl fn LL F x1 g1 g2 EE fr nd4 sa sf lLL lF zF => ⟨rfl, ?_⟩
  · exact m2 (p := fun x => B.get? x = none) (S.no (o := instObj 154 dsy) (by exact .hd)) (S.no (o := dictOf [] 0) (by exact .h1)) x hx
  have S9 := S.chgL (ups := [(sy, instObj 154 dsy), (dsy, dictOf es me)]) x1 (.cons (by exact .hd) (.cons (by exact .tl .hd) .nil)) (m2 g1 g2)
  obtain ⟨ts1, nt1, et1, -⟩ := sa.t
  obtain ⟨oa1, ka1, ea1, -⟩ := sa.d
  obtain ⟨fs1, nf1, ef1, -⟩ := sf.f
  obtain ⟨od1, xs1, ed1, -⟩ := sf.d
  replace S := St.addNews SS S9 rfl [(tx, lo ts1 nt1), (an, oa1), (fl, lo fs1 nf1), (fn, od1)] nd4 (m4 ⟨fr _ (by exact .head _), et1⟩ ⟨fr _ (by exact .tail _ (.head _)), ea1⟩ ⟨fr _ (by exact .tail _ (.tail _ (.head _))), ef1⟩ ⟨fr _ (by exact .tail _ (.tail _ (.tail _ (.head _)))), ed1⟩)
  simp only [List.cons_append, List.nil_append] at S
  clear S9 SS
  replace S := S.pool
  with_reducible refine' N_st (by assumption) ?c1 ?_
  case c1 => exact .h2
  intro h1 S
  with_reducible refine X_name ?_
  with_reducible refine' E_cg (by assumption) (by assumption) ?c2 ?c3 ?c4 ?_
  case c2 => exact .tl (.tl (.tl (.tl (.tl (.tl (.tl (.tl (.tl (.tl (.tl (.tl (.tl (.tl (.tl (.tl (.tl (.tl (.tl .hd))))))))))))))))))
  case c3 => k_is
  case c4 => k_is
  with_reducible refine' S_locL (by assumption) ?c1 ?_
  case c1 => exact .h2
  with_reducible refine' Krf_go (by assumption) (by assumption) ?_
  refine W_cls (rest := [_]) G S R mk380.1 mk380.2.1 mk380.2.2 fun c dc h1 A' R' S => ?_
  have SS := S
  refine init380_ ((G.st S).hide (M := [c, dc]) fun x hx => ?_) R' (S.has (by exact .hd)) (S.has (by exact .h1)) (none_hide (.head _)) (none_hide (.tail _ (.head _))) (nd_at S.nd 0 1 rfl rfl (by decide)) fun h3 k3 es3 me3 hp st tr q1 q2 q3 x3 g3 g4 EE3 fr3 nd3 ehp est etr => ⟨rfl, ?_⟩
  · exact m2 (p := fun x => B.get? x = none) (S.no (o := instObj 380 dc) (by exact .hd)) (S.no (o := dictOf [] 0) (by exact .h1)) x hx
  have S9 := S.chgL (ups := [(c, instObj 380 dc), (dc, dictOf es3 me3)]) x3 (.cons (by exact .hd) (.cons (by exact .tl .hd) .nil)) (m2 g3 g4)
  replace S := St.addNews SS S9 rfl [(hp, lo [] 0), (st, lo [] 0), (tr, lo [] 0)] nd3 (m3 ⟨fr3 _ (by exact .head _), ehp⟩ ⟨fr3 _ (by exact .tail _ (.head _)), est⟩ ⟨fr3 _ (by exact .tail _ (.tail _ (.head _))), etr⟩)
  simp only [List.cons_append, List.nil_append] at S
  clear S9 SS
  have tk3 := S.tup
  replace S := S.pool
  skip
  refine Y_stC (σ' := fun o => [_, _, _, _, _, _, _, _, _, _, _, _, _, (c1, o1), (c2, o2), (c3, o), (c4, u4)]) S rfl (by exact .t3 (.t3 (.t3 (.t3 (.t3 .hd))))) d3 (fun o => by exact .tl (.tl (.tl (.tl (.tl (.tl (.tl (.tl (.tl (.tl (.tl (.tl (.tl (.tl (.tl .hd))))))))))))))) (fun u3 h1 dd3 S => ?_) rfl rfl
  with_reducible refine X_name ?_
  refine E_dictN G S fun tb ot h1 nt S Dt => ?_
  skip
  refine Y_stC (σ' := fun o => [_, _, _, _, _, _, _, _, _, _, _, _, _, _, (c1, o1), (c2, o), (c3, u3), (c4, u4)]) S rfl (by exact .t3 (.t3 (.t3 (.t3 (.t3 .hd))))) d2 (fun o => by exact .tl (.tl (.tl (.tl (.tl (.tl (.tl (.tl (.tl (.tl (.tl (.tl (.tl (.tl (.tl .hd))))))))))))))) (fun u2 h1 dd2 S => ?_) rfl rfl
  with_reducible refine X_name ?_
  with_reducible refine E_list ?_
  with_reducible refine S_nil ?_
  with_reducible refine' N_lst (by assumption) ?_
  intro l1 h1 S
  rename Addr => en
  refine Y_stC (σ' := fun o => [_, _, _, _, _, _, _, _, _, _, _, _, _, _, _, (c1, o), (c2, u2), (c3, u3), (c4, u4)]) S rfl (by exact .t3 (.t3 (.t3 (.t3 (.t3 .hd))))) d1 (fun o => by exact .tl (.tl (.tl (.tl (.tl (.tl (.tl (.tl (.tl (.tl (.tl (.tl (.tl (.tl (.tl .hd))))))))))))))) (fun u1 h1 dd1 S => ?_) rfl rfl
  have tkf := tk3.trans S.tup
  have g1 := S.has (a := ur) (by exact .t3 (.t3 (.t3 (.t3 .h1))))
  have g2 := S.has (a := sl) (by exact .t3 (.t3 (.t3 (.t3 .h2))))
  have S7 := S.reorder [13, 7, 8, 9, 10, 2, 1, 0, 14, 11, 12, 5, 6, 3, 4, 18, 17, 16, 15] (by show List.Perm _ (List.range 19); decide)
  have nd : [ur, tx, an, fl, fn, hp, tb, en, sl, sy, dsy, c, dc, st, tr, c4, c3, c2, c1].Nodup := S7.nd
  refine next _ _ _ ⟨ur, tx, an, fl, fn, hp, tb, en, sl, sy, dsy, c, dc, st, tr, c4, c3, c2, c1⟩ ⟨_, _, _, _, _, _, _, _⟩ ⟨_, _, _, _, _, _, _, u4, u3, u2, u1⟩ LL F dd4 dd3 dd2 dd1 rfl rfl rfl rfl S7 ⟨⟨⟨⟨0, _, 0, _, 0, g1, by exact Int.natCast_nonneg _, by exact Int.natCast_nonneg _, by exact Int.natCast_nonneg _⟩, ⟨_, 0, g2, by simp; (clear hl; omega), fun v hv => ints_mem hx (List.mem_of_mem_take hv)⟩, ?_⟩, sa.mv ?_, sf.mv ?_ tkf, ⟨?_, ?_⟩, zF⟩,
    ⟨⟨_, _, S.has (by exact .t3 (.t3 (.t3 .h2))), S.has (by exact .t3 (.t3 (.t3 (.t3 .hd)))), EE⟩, ⟨_, _, _, _, _, S.has (by exact .t3 .h2), S.has (by exact .t3 (.t3 .hd)), EE3⟩, S.has (by exact .t3 .hd), S.has (by exact .t3 .h1), ⟨_, S.has (by exact .t3 (.t3 (.t3 (.t3 (.t3 (.t3 .hd))))))⟩, ⟨_, S.has (by exact .t3 (.t3 (.t3 (.t3 (.t3 .h2)))))⟩, ⟨_, S.has (by exact .t3 (.t3 (.t3 (.t3 (.t3 .h1)))))⟩, ⟨_, S.has (by exact .t3 (.t3 (.t3 (.t3 (.t3 .hd)))))⟩⟩,
    ⟨[], 0, S.has (by exact .h2), trivial⟩, ⟨ot, S.has (by exact .h1), Dt _ _, nt⟩, ⟨0, S.has (by exact .hd)⟩, nd, by simp⟩ lLL lF
  · exact nd_at nd 8 0 rfl rfl (by decide)
  · exact m2 (fun oo e => by rw [et1] at e; cases e; exact S.has (by exact .t3 (.t3 .h1))) (fun oo e => by rw [ea1] at e; cases e; exact S.has (by exact .t3 (.t3 .h2)))
  · exact m2 (fun oo e => by rw [ef1] at e; cases e; exact S.has (by exact .t3 (.t3 (.t3 .hd)))) (fun oo e => by rw [ed1] at e; cases e; exact S.has (by exact .t3 (.t3 (.t3 .h1))))
  · exact (List.take_sublist 5 [ur, tx, an, fl, fn, hp, tb, en, sl, sy, dsy, c, dc, st, tr, c4, c3, c2, c1]).nodup nd
  · exact fun hm => ((List.nodup_append (l₁ := [ur, tx, an, fl, fn])).mp nd).2.2 sl hm sl (by exact .tail _ (.tail _ (.tail _ (.head _)))) rfl
end
end
section
open PySem PySem.W PyProof.Rows PySem.Calls
set_option hygiene false
section
variable {V : Vw} {h : Heap} {sc : Addr} {A : Around} {k : Nat} {xs : List Value} {is : List Int}
theorem law_ (G : Wd (hd.heap_39 V.w.params) h h) (R : Room A 31) (es : h.IsList sc xs.toArray) (hx : IntsAre xs is) (hl : xs.length ≤ 63) :
    codeAny V.M A (.call (.ref 476) ⟨[.ref sc], []⟩) (fun r s' => match r with | .ok (.ret v) => Pst V (fun v h' _ => v = .bool true ∧ ∀ b o, h.get? b = some o → h'.get? b = some o) v s' | _ => False) (V.sh h k) := by
  refine' CE_enterC (n := 30) (binds := [("script", .ref sc)]) (vs := [some (.ref sc), none, none, none, none, none, none, none, none, none, none, none, none, none, none, none, none, none]) G R ?ho ?hcd [] (by simp) (by simp) ?hb ?hkind ?hnd ?he ?nn ?nb ?_ ?hco ?hgen ?hk
  case ho => k_is
  case hcd => k_is
  case hb => exact BindsTo.of_eq rfl
  case nn => decide
  case nb => decide
  case hco => rfl
  case hgen => rfl
  case hk => rfl
  case hnd => decide
  case hkind =>
    intro n x hx
    simp only [List.mem_cons, List.not_mem_nil, or_false] at hx
    rcases hx with rfl
    exact .inl rfl
  case he =>
    funext y
    simp [bindL, mp, List.lookup]
  intro A B L h1 k1 cl cells hcl hcells G S hB hB' R
  dsimp only at S
  obtain ⟨c1, o1, c2, o2, c3, o3, c4, o4, rfl, rfl, d1, d2, d3, d4⟩ := cells4 (x1 := "ends") (x2 := "table") (x3 := "cells") (x4 := "urn") hcl hcells
  replace d1 : o1.data = .cell none := d1
  replace d2 : o2.data = .cell none := d2
  replace d3 : o3.data = .cell none := d3
  replace d4 : o4.data = .cell none := d4
  clear hcells hcl
  simp only [List.append_nil] at S
  replace G := G.self
  have hBa : ∀ b o, h.get? b = some o → B.get? b = some o := fun b o e => hB b o e (by simp)
  have esB : B.IsList sc xs.toArray := (by obtain ⟨oo, e, r⟩ := es; exact ⟨oo, hBa _ _ e, r⟩)
  refine W.mono (Q := FinQ B) (segA G R esB hx hl d1 d2 d3 d4 S ?_) ?_
  · clear S d1 d2 d3 d4
    intro P h k a o f LL F hcu hcc hct hce e1 e2 e3 e4 S Z l1 l2
    subst e1 e2 e3 e4
    refine segB G R hcu hcc hct hce S Z l1 l2 ?_
    intro P h k o w6 w7 w8 LL H kt es ev S Z l1 I
    refine segC G R hcu hcc hct hce S Z l1 l2 I ?_
    intro P h k o w6 w7 w8 w10 w11 LL F tl ts m Ts S Z I hts hTs hn3
    refine segD G R hcu hcc hct hce S Z I hts hTs hn3 ?_
    intro P h k o H rt rs m' S Z D el
    obtain ⟨ps, D⟩ := D
    refine segE G R hcu hcc hct hce S Z D ?_
    intro P h k o pl pls m2 S Z D hpl
    exact segF G R hcu hcc hct hce S Z D hpl
  · rintro fl h2 k2 ⟨rfl, hb⟩
    exact ⟨rfl, fun b o e => hb b o (hBa b o e)⟩
end
end
theorem head.tw12310735299239354703 : True := trivial
theorem head.tw13942192884097748152 : True := trivial
theorem head.tw976808484645153763 : True := trivial
theorem head.tw11628534518673281344 : True := trivial
theorem head.tw3453547403478019728 : True := trivial
theorem head.tw2554682012703037696 : True := trivial
theorem head.tw8159583801465064534 : True := trivial
theorem head.tw14788773977795034992 : True := trivial
theorem head.tw6772502638888315869 : True := trivial
theorem head.tw15794997505209512671 : True := trivial
theorem head.tw11296743742662292762 : True := trivial
theorem head.tw2393098407364606883 : True := trivial
theorem head.tw18007968972792079559 : True := trivial
theorem head.tw2864405669816312776 : True := trivial
theorem head.tw9133290819911140118 : True := trivial
theorem head.tw12998212659555988865 : True := trivial
theorem head.tw9186546921256032858 : True := trivial
theorem head.tw5501060405047882677 : True := trivial
theorem head.tw3986194592780655508 : True := trivial
theorem head.tw14628233357713752721 : True := trivial
theorem head.tw9984397402777080727 : True := trivial
theorem head.tw3790771472595898956 : True := trivial
theorem head.tw7494366503370351645 : True := trivial
theorem head.tw7450023128482652576 : True := trivial
theorem head.tw18384547517478447814 : True := trivial
theorem head.tw1134157569726261602 : True := trivial
theorem head.tw69809265629811306 : True := trivial
theorem head.tw7013799640231393816 : True := trivial
theorem head.tw4834694072379752904 : True := trivial
theorem head.tw6088685845774392931 : True := trivial
theorem head.tw45052839361067614 : True := trivial
theorem head.tw4965378191221513410 : True := trivial
theorem head.tw14720509044617813951 : True := trivial
theorem head.tw1919001801439425371 : True := trivial
theorem head.tw11220059238319058022 : True := trivial
theorem head.tw6684681932595197013 : True := trivial
theorem head.tw8187629637223713605 : True := trivial
theorem head.tw17674571679781333832 : True := trivial
theorem head.tw15436542981012472205 : True := trivial
theorem head.tw13510609219080548989 : True := trivial
theorem head.tw11105056867450500199 : True := trivial
theorem head.tw16817119741492734445 : True := trivial
theorem head.tw7498250532897285284 : True := trivial
theorem head.tw18416563613846182222 : True := trivial
theorem head.tw7876399200375917224 : True := trivial
theorem head.tw10812213935944405949 : True := trivial
theorem head.tw17453365369857097546 : True := trivial
theorem head.tw9114333099845857663 : True := trivial
theorem head.tw2172669909848549399 : True := trivial
theorem head.tw8182079617134344778 : True := trivial
theorem head.tw17988201657351507238 : True := trivial
theorem head.tw4235852798576303577 : True := trivial
theorem head.tw4693820183103290663 : True := trivial
theorem head.tw17782148633632673465 : True := trivial
theorem head.tw3746228215898030841 : True := trivial
theorem head.tw9464831228461672588 : True := trivial
theorem head.tw7161073391023584161 : True := trivial
theorem head.tw9746458257258439470 : True := trivial
theorem head.tw16659920880120507502 : True := trivial
theorem head.tw5232228908592543544 : True := trivial
theorem head.tw12601080634535202701 : True := trivial
theorem head.tw1714602735852981970 : True := trivial
theorem head.tw5508695066786827253 : True := trivial
theorem head.tw2096541523181747872 : True := trivial
theorem head.tw9015503586806083067 : True := trivial
theorem head.tw16966009324859112401 : True := trivial
theorem head.tw1212124681294104184 : True := trivial
theorem head.tw9388430590476628193 : True := trivial
theorem head.tw2852963590345147145 : True := trivial
theorem head.tw8402214883040486957 : True := trivial
theorem head.tw12822298378996975857 : True := trivial
theorem head.tw8169693465737517768 : True := trivial
theorem head.tw649443455394278489 : True := trivial
theorem head.tw15798066900824788120 : True := trivial
theorem head.tw153377751964433884 : True := trivial
theorem head.tw7758381527925395934 : True := trivial
theorem head.tw604627371996746742 : True := trivial
theorem head.tw5104563664521345299 : True := trivial
theorem head.tw16714887947964762639 : True := trivial
theorem head.tw3944913497352057107 : True := trivial
theorem head.tw12201952087667049370 : True := trivial
theorem head.tw15296082917334920728 : True := trivial
theorem head.tw17017319662998615 : True := trivial
theorem head.tw11427066125472700054 : True := trivial
theorem head.tw9987851973559822609 : True := trivial
theorem head.tw10706776884845955466 : True := trivial
theorem head.tw15604011560834605598 : True := trivial
theorem head.tw15735840784391694233 : True := trivial
theorem head.tw742351954350328859 : True := trivial
theorem head.tw1618804561499322139 : True := trivial
theorem head.tw12773685731770592110 : True := trivial
theorem head.tw13637325136056909300 : True := trivial
theorem head.tw7658410731251134818 : True := trivial
theorem head.tw14699756766385990792 : True := trivial
theorem head.tw11714945338242495837 : True := trivial
theorem head.tw17332727794074296334 : True := trivial
theorem head.tw13294958713779813728 : True := trivial
theorem head.tw532055438628499158 : True := trivial
theorem head.tw6211381574409162282 : True := trivial
theorem head.tw17297054508065495485 : True := trivial
theorem head.tw6588589085864783938 : True := trivial
theorem head.tw14643560169476415855 : True := trivial
theorem head.tw7526775705450560304 : True := trivial
theorem head.tw9196398404247428943 : True := trivial
theorem head.tw1832916270232011604 : True := trivial
theorem head.tw15204471325056678010 : True := trivial
theorem head.tw15894371620910866019 : True := trivial
theorem head.tw14676189674455941282 : True := trivial
theorem head.tw15796087645652482245 : True := trivial
theorem head.tw9162278640276766204 : True := trivial
theorem head.tw12695399030622205104 : True := trivial
theorem head.tw15785421084128741142 : True := trivial
theorem head.tw15091486752826498866 : True := trivial
theorem head.tw7253898381062576733 : True := trivial
theorem head.tw8603420104599213669 : True := trivial
theorem head.tw17608190574486352970 : True := trivial
theorem head.tw14842460003800876886 : True := trivial
theorem head.tw4964814941381164201 : True := trivial
theorem head.tw3264716943610762504 : True := trivial
theorem head.tw13295082483830516422 : True := trivial
theorem head.tw9062998866958442273 : True := trivial
theorem head.tw5111174896325423537 : True := trivial
theorem head.tw11063524718261073790 : True := trivial
theorem head.tw14999265807660949796 : True := trivial
theorem head.tw10021064610941686981 : True := trivial
theorem head.tw12478146576626367362 : True := trivial
theorem head.tw5651425540991249520 : True := trivial
theorem head.tw6079359036626576793 : True := trivial
theorem head.tw8382746154173761051 : True := trivial
theorem head.tw18260194641540637818 : True := trivial
theorem head.tw5019597260055213698 : True := trivial
theorem head.tw17173245716831642929 : True := trivial
theorem head.tw4433315090154635215 : True := trivial
theorem head.tw7802898811600756450 : True := trivial
theorem head.tw13906610036690215845 : True := trivial
theorem head.tw17844492200522320778 : True := trivial
theorem head.tw3501597964444990463 : True := trivial
theorem head.tw9497800013943654066 : True := trivial
theorem head.tw2581250870941146908 : True := trivial
theorem head.tw12074249297620881909 : True := trivial
theorem head.tw8541356943393881859 : True := trivial
theorem head.tw174166394780034911 : True := trivial
theorem head.tw3089916443595474862 : True := trivial
theorem head.tw3615648651819825313 : True := trivial
theorem head.tw15037083628117588352 : True := trivial
theorem head.tw7994106446794305319 : True := trivial
theorem head.tw1909714482019496454 : True := trivial
theorem head.tw8627200689577751383 : True := trivial
theorem head.tw13086575352542018947 : True := trivial
theorem head.tw4691952243595246448 : True := trivial
theorem head.tw4415685298772064003 : True := trivial
theorem head.tw17113217626458354986 : True := trivial
theorem head.tw13412022041919118725 : True := trivial
theorem head.tw17700853532424174462 : True := trivial
theorem head.tw5870146547769353613 : True := trivial
theorem head.tw807142644699662319 : True := trivial
theorem head.tw17789423225533864492 : True := trivial
theorem head.tw2879759524354350568 : True := trivial
theorem head.tw15647610678857825673 : True := trivial
theorem head.tw16922147877168347812 : True := trivial
theorem head.tw12344544660321961925 : True := trivial
theorem head.tw2203363585012173787 : True := trivial
theorem head.tw5599997604879368025 : True := trivial
theorem head.tw5401097623525119610 : True := trivial
theorem head.tw6327039764776113722 : True := trivial
theorem head.tw5353729903917744248 : True := trivial
theorem head.tw2525174236342294155 : True := trivial
theorem head.tw6640010369347007910 : True := trivial
theorem head.tw8535708456716222715 : True := trivial
theorem head.tw1495726902847802894 : True := trivial
theorem head.tw15638870477510070732 : True := trivial
theorem head.tw2518057956044344595 : True := trivial
theorem head.tw1506576300011279404 : True := trivial
theorem head.tw7704315382344345624 : True := trivial
theorem head.tw16997897962222511 : True := trivial
theorem head.tw16894197260953374720 : True := trivial
theorem head.tw2118425563987640319 : True := trivial
theorem head.tw1643771367246577777 : True := trivial
theorem head.tw4483413254912295219 : True := trivial
theorem head.tw5986637957666399235 : True := trivial
theorem head.tw11194998557105285118 : True := trivial
theorem head.tw15039987702171664376 : True := trivial
theorem head.tw12364624919760631829 : True := trivial
theorem head.tw12475708393154427166 : True := trivial
theorem head.tw14512941343882779238 : True := trivial
theorem head.tw15112835437128306455 : True := trivial
theorem head.tw11484358847640170188 : True := trivial
theorem head.tw9715989912806740752 : True := trivial
theorem head.tw14061139507663348314 : True := trivial
theorem head.tw6053349399257934933 : True := trivial
theorem head.tw17854896373637125580 : True := trivial
theorem head.tw13743032657059413451 : True := trivial
theorem head.tw11582096051123008839 : True := trivial
theorem head.tw13353151263460963528 : True := trivial
theorem head.tw5927865893512547691 : True := trivial
theorem head.tw10079960370226730655 : True := trivial
theorem head.tw7512725033676591148 : True := trivial
theorem head.tw1224924573807776437 : True := trivial
theorem head.tw4708111749353345164 : True := trivial
theorem head.tw2400818531096893172 : True := trivial
theorem head.tw9082462177598256812 : True := trivial
theorem head.tw573967197379146972 : True := trivial
theorem head.tw10356212845559719233 : True := trivial
theorem head.tw13988103294471073821 : True := trivial
theorem head.tw1917425121527220963 : True := trivial
theorem head.tw6973584914630602586 : True := trivial
theorem head.tw14744981736328886265 : True := trivial
theorem head.tw17464823870196871000 : True := trivial
theorem head.tw12043669396524033845 : True := trivial
theorem head.tw10748227973586771634 : True := trivial
theorem head.tw1689142752476645926 : True := trivial
theorem head.tw14882813523228863612 : True := trivial
theorem head.tw6857060684267632606 : True := trivial
theorem head.tw13180129090757240718 : True := trivial
theorem head.tw6880043348581005364 : True := trivial
theorem head.tw9325057278558614444 : True := trivial
theorem head.tw17212568112599259466 : True := trivial
theorem head.tw1937370526825066196 : True := trivial
theorem head.tw1852205218256702202 : True := trivial
theorem head.tw12024539317367501503 : True := trivial
theorem head.tw6587087628758450585 : True := trivial
theorem head.tw2994366008111725845 : True := trivial
theorem head.tw12147184966966947637 : True := trivial
theorem head.tw1858285994304674589 : True := trivial
theorem head.tw17725469503822016867 : True := trivial
theorem head.tw66618190712790079 : True := trivial
theorem head.tw13137911371727378231 : True := trivial
theorem head.tw10005452208157733855 : True := trivial
theorem head.tw14943480678444902952 : True := trivial
theorem head.tw17197444120159719569 : True := trivial
theorem head.tw16278871845796110771 : True := trivial
theorem head.tw13246386896891170512 : True := trivial
theorem head.tw1030536996053982578 : True := trivial
theorem head.tw6426539377367359892 : True := trivial
theorem head.tw6053997905714604814 : True := trivial
theorem head.tw12775505166333009402 : True := trivial
theorem head.tw5638995163158488052 : True := trivial
theorem head.tw3160712208675142370 : True := trivial
theorem head.tw16474958459275807246 : True := trivial
theorem head.tw17826015225549371706 : True := trivial
theorem head.tw13605870324054321959 : True := trivial
theorem head.tw3512634313551410195 : True := trivial
theorem head.tw1748456618969930982 : True := trivial
theorem head.tw12359489953124434286 : True := trivial
theorem head.tw5506250874072839755 : True := trivial
theorem head.tw4381510469713062047 : True := trivial
theorem head.tw15840312062823119879 : True := trivial
theorem head.tw17821319399108415887 : True := trivial
theorem head.tw2260579728952749127 : True := trivial
theorem head.tw12704426703380559182 : True := trivial
theorem head.tw13954853420313727417 : True := trivial
theorem head.tw851385035628625539 : True := trivial
theorem head.tw5187041380464763778 : True := trivial
theorem head.tw8402328212356670530 : True := trivial
theorem head.tw6085824867444503733 : True := trivial
theorem head.tw17836260108008149386 : True := trivial
theorem head.tw10533634037010066435 : True := trivial
theorem head.tw8812732774380208333 : True := trivial
theorem head.tw16984083398119652359 : True := trivial
theorem head.tw12032222614953749359 : True := trivial
theorem head.tw16172288393029767808 : True := trivial
theorem head.tw2237326684586592538 : True := trivial
theorem head.tw9353324838224930552 : True := trivial
theorem head.tw17508272824862286709 : True := trivial
theorem head.tw9145527808636388435 : True := trivial
theorem head.tw7906546307943345882 : True := trivial
theorem head.tw4975070653579243887 : True := trivial
theorem head.tw14234965402570480558 : True := trivial
theorem head.tw262713603470380999 : True := trivial
theorem head.tw7090939061502383884 : True := trivial
theorem head.tw6110071263904590700 : True := trivial
theorem head.tw5629256929840616583 : True := trivial
theorem head.tw8874674299285249911 : True := trivial
theorem head.tw3304075619188804072 : True := trivial
theorem head.tw10696830294072541881 : True := trivial
theorem head.tw5973763720392745831 : True := trivial
theorem head.tw2326617092838664518 : True := trivial
theorem head.tw7712916153251135833 : True := trivial
theorem head.tw17577399041416155939 : True := trivial
theorem head.tw1985537357303476512 : True := trivial
theorem head.tw315434073420411817 : True := trivial
theorem head.tw14527164170590304321 : True := trivial
theorem head.tw733406405333840765 : True := trivial
theorem head.tw14909605222495392915 : True := trivial
theorem head.tw17243387458012846398 : True := trivial
theorem head.tw3821945547825155762 : True := trivial
theorem head.tw5479459121986351116 : True := trivial
theorem head.tw11988142204041823098 : True := trivial
theorem head.tw8414573866900348196 : True := trivial
theorem head.tw18332285231265401824 : True := trivial
theorem head.tw7523532297153676066 : True := trivial
theorem head.tw10059252607514160932 : True := trivial
theorem head.tw10205530081349824492 : True := trivial
theorem head.tw15895748673760503845 : True := trivial
theorem head.tw5319049981483164881 : True := trivial
theorem head.tw9716329373054682134 : True := trivial
theorem head.tw18080951475816111786 : True := trivial
theorem head.tw10261356005730403935 : True := trivial
theorem head.tw18051680202136193954 : True := trivial
theorem head.tw4023466491090337370 : True := trivial
theorem head.tw10730805705081004914 : True := trivial
theorem head.tw1489404036187247834 : True := trivial
theorem head.tw9820158181544301314 : True := trivial
theorem head.tw12987040726578829979 : True := trivial
theorem head.tw11005904730967762025 : True := trivial
theorem head.tw10046055172190079654 : True := trivial
theorem head.tw15326552575505426906 : True := trivial
theorem head.tw14385403278947933607 : True := trivial
theorem head.tw13227620805987009915 : True := trivial
theorem head.tw4063747431996464497 : True := trivial
theorem head.tw2895046715181644469 : True := trivial
theorem head.tw6100774026682323163 : True := trivial
theorem head.tw14667470093908496907 : True := trivial
theorem head.tw4311042196063409733 : True := trivial
theorem head.tw3368030927266983236 : True := trivial
theorem head.tw17265401458761052179 : True := trivial
theorem head.tw17646911460466567920 : True := trivial
theorem head.tw4307260679431091991 : True := trivial
theorem head.tw5342148875324793038 : True := trivial
theorem head.tw13537664574400122534 : True := trivial
theorem head.tw9827913525700040407 : True := trivial
theorem head.tw16065720564569863766 : True := trivial
theorem head.tw17142359554024780413 : True := trivial
theorem head.tw3690969761935527329 : True := trivial
theorem head.tw5141578139466067413 : True := trivial
theorem head.tw4196546014268931301 : True := trivial
theorem head.tw10875119458065257276 : True := trivial
theorem head.tw3083302935323014018 : True := trivial
theorem head.tw12903917746401883607 : True := trivial
theorem head.tw3749026756887285471 : True := trivial
theorem head.tw13563620807922129260 : True := trivial
theorem head.tw16640130746408290383 : True := trivial
theorem head.tw2506711637615833298 : True := trivial
theorem head.tw10898857373019930491 : True := trivial
theorem head.tw140066278072042493 : True := trivial
theorem head.tw14982685227137828758 : True := trivial
theorem head.tw11925700103697007601 : True := trivial
theorem head.tw1687793838685487538 : True := trivial
theorem head.tw3088210815446039105 : True := trivial
theorem head.tw16874305072444578374 : True := trivial
theorem head.tw4283968913034589366 : True := trivial
theorem head.tw10865165270600546614 : True := trivial
theorem head.tw14969872817325187116 : True := trivial
theorem head.tw5274623360512300857 : True := trivial
theorem head.tw8773370040425892893 : True := trivial
theorem head.tw300626226527484142 : True := trivial
theorem head.tw11485113708198979986 : True := trivial
theorem head.tw533756555076263647 : True := trivial
theorem head.tw6489421142724028100 : True := trivial
theorem head.tw12740806245664736207 : True := trivial
theorem head.tw466721876749952763 : True := trivial
theorem head.tw14432977821161478157 : True := trivial
theorem head.tw12398312691204496596 : True := trivial
theorem head.tw11484797826999851062 : True := trivial
theorem head.tw7789450098604059249 : True := trivial
theorem head.tw4764554697811233 : True := trivial
theorem head.tw11544532188706048022 : True := trivial
theorem head.tw10366927770000222440 : True := trivial
theorem head.tw18433677622606106133 : True := trivial
theorem head.tw5038994553942263901 : True := trivial
theorem head.tw6846866878297920324 : True := trivial
theorem head.tw12330954535739239725 : True := trivial
theorem head.tw12865059321931465230 : True := trivial
theorem head.tw6212921109956642855 : True := trivial
theorem head.tw3794523003379204399 : True := trivial
theorem head.tw4160124254940468481 : True := trivial
theorem head.tw18123143868385100064 : True := trivial
theorem head.tw7928285938522686346 : True := trivial
theorem head.tw10242447542790323104 : True := trivial
theorem head.tw9280153536138602973 : True := trivial
theorem head.tw7833285031277912329 : True := trivial
theorem head.tw13653928888864918839 : True := trivial
theorem head.tw17698105195316432488 : True := trivial
theorem head.tw6121141971511671821 : True := trivial
theorem head.tw12472887615940459650 : True := trivial
theorem head.tw4746297304354101679 : True := trivial
theorem head.tw1082313596108445148 : True := trivial
theorem head.tw6836605351468522007 : True := trivial
theorem head.tw11770459041652445329 : True := trivial
theorem head.tw7313386461004707312 : True := trivial
theorem head.tw9214367901419015226 : True := trivial
theorem head.tw2694075680205673411 : True := trivial
theorem head.tw8035625575855466936 : True := trivial
theorem head.tw14195316510222423288 : True := trivial
theorem head.tw1939405473400901271 : True := trivial
theorem head.tw13337238644230332656 : True := trivial
theorem head.tw13198292447841614426 : True := trivial
theorem head.tw3869590956505411354 : True := trivial
theorem head.tw5944575059761466720 : True := trivial
theorem head.tw13896987355042952010 : True := trivial
theorem head.tw1620002657737552111 : True := trivial
theorem head.tw14699528089545365996 : True := trivial
theorem head.tw17905491414393134947 : True := trivial
theorem head.tw6161856959107265637 : True := trivial
theorem head.tw8758324158161630591 : True := trivial
theorem head.tw10786079294511566085 : True := trivial
theorem head.tw13689084217373910675 : True := trivial
theorem head.tw5346772772824661884 : True := trivial
theorem head.tw4972248218790579157 : True := trivial
theorem head.tw4709128311485490483 : True := trivial
theorem head.tw9074772780463953568 : True := trivial
theorem head.tw16441004959143088680 : True := trivial
theorem head.tw12858780395421280599 : True := trivial
theorem head.tw14393718171448925343 : True := trivial
theorem head.tw7404141018258913797 : True := trivial
theorem head.tw14112051064653734678 : True := trivial
theorem head.tw5617373736292572815 : True := trivial
theorem head.tw2355103038987944067 : True := trivial
theorem head.tw11308087075614649832 : True := trivial
theorem head.tw9777900189565919194 : True := trivial
theorem head.tw16800043278716471037 : True := trivial
theorem head.tw15468718075485040107 : True := trivial
theorem head.tw10840385229135970747 : True := trivial
theorem head.tw17188972718952451159 : True := trivial
theorem head.tw15841401105113185080 : True := trivial
theorem head.tw6207834228037699737 : True := trivial
theorem head.tw9515422150858430662 : True := trivial
theorem head.tw4945251732147069371 : True := trivial
theorem head.tw1992862871153497056 : True := trivial
theorem head.tw10668533816033670360 : True := trivial
theorem head.tw3547030090768783262 : True := trivial
theorem head.tw1319983325249436295 : True := trivial
theorem head.tw1389810093214676884 : True := trivial
theorem head.tw15253846138512369154 : True := trivial
theorem head.tw8534208459206503383 : True := trivial
theorem head.tw1499353310998574721 : True := trivial
theorem head.tw16128420640991077102 : True := trivial
theorem head.tw17002534310236347988 : True := trivial
theorem head.tw2591067827882107080 : True := trivial
theorem head.tw8866670633112419022 : True := trivial
theorem head.tw17525636777796739105 : True := trivial
theorem head.tw3973953319845086491 : True := trivial
theorem head.tw4839655697589452165 : True := trivial
theorem head.tw16014373381606645092 : True := trivial
theorem head.tw6684978435548883818 : True := trivial
theorem head.tw13955511503576765797 : True := trivial
theorem head.tw9325123708862168440 : True := trivial
theorem head.tw16172356507618199906 : True := trivial
theorem head.tw7599496313472250701 : True := trivial
theorem head.tw8101760021730824546 : True := trivial
theorem head.tw1963959055141433311 : True := trivial
theorem head.tw15064752311394979489 : True := trivial
theorem head.tw6202090305015876224 : True := trivial
theorem head.tw2491421050496283774 : True := trivial
theorem head.tw12763952150808568291 : True := trivial
theorem head.tw10258521583956687137 : True := trivial
theorem head.tw9702098958229961203 : True := trivial
theorem head.tw4009957668330374740 : True := trivial
theorem head.tw14679116673082234219 : True := trivial
theorem head.tw13379354915994877463 : True := trivial
theorem head.tw16572314662081343053 : True := trivial
theorem head.tw3980653432952411973 : True := trivial
theorem head.tw4857777746444614323 : True := trivial
theorem head.tw15895551434495452948 : True := trivial
theorem head.tw17014734716931888790 : True := trivial
theorem head.tw4607607821588926596 : True := trivial
theorem head.tw9083612298779875492 : True := trivial
theorem head.tw930087139818521243 : True := trivial
theorem head.tw2437478716016495240 : True := trivial
theorem head.tw5906749814970224870 : True := trivial
theorem head.tw5467695095851852608 : True := trivial
theorem head.tw3547240966391284428 : True := trivial
theorem head.tw15149402430504572791 : True := trivial
theorem head.tw7287109101882759415 : True := trivial
theorem head.tw16847831306532103052 : True := trivial
theorem head.tw13430164044788636840 : True := trivial
theorem head.tw14843749296085226474 : True := trivial
theorem head.tw14205479233844494046 : True := trivial
theorem head.tw8451290768687142514 : True := trivial
theorem head.tw2340069552987342377 : True := trivial
theorem head.tw14956133685725647455 : True := trivial
theorem head.tw7680146299302783591 : True := trivial
theorem head.tw17958272820484234708 : True := trivial
theorem head.tw8997269238129315039 : True := trivial
theorem head.tw8476099583838051002 : True := trivial
theorem head.tw7277520189549225825 : True := trivial
theorem head.tw13986843968525588388 : True := trivial
theorem head.tw8912104118211102971 : True := trivial
theorem head.tw5015311536963163689 : True := trivial
theorem head.tw12949380547846470161 : True := trivial
theorem head.tw17362218986543327160 : True := trivial
theorem head.tw17411354535832351560 : True := trivial
theorem head.tw1315816938146588887 : True := trivial
theorem head.tw6737735255597943219 : True := trivial
theorem head.tw2154566216772986472 : True := trivial
theorem head.tw11434997419882176723 : True := trivial
theorem head.tw16031315777459398524 : True := trivial
theorem head.tw3103639331685909893 : True := trivial
theorem head.tw44622916816846810 : True := trivial
theorem head.tw17068640127423663425 : True := trivial
theorem head.tw9101448428047585222 : True := trivial
theorem head.tw1211024037004892549 : True := trivial
theorem head.tw9743709737119245314 : True := trivial
theorem head.tw9978949632667528635 : True := trivial
theorem head.tw15506723302920939300 : True := trivial
theorem head.tw17015032458148788900 : True := trivial
theorem head.tw13199516396595161752 : True := trivial
theorem head.tw2525317073905713282 : True := trivial
theorem head.tw3556061257289618393 : True := trivial
theorem head.tw16106133796442146334 : True := trivial
theorem head.tw14646466228836335164 : True := trivial
theorem head.tw13478637309914159250 : True := trivial
theorem head.tw13585267454733459922 : True := trivial
theorem head.tw9103479521544129834 : True := trivial
theorem head.tw15967466079928408925 : True := trivial
theorem head.tw10467814448475477596 : True := trivial
theorem head.tw5487235932777146282 : True := trivial
theorem head.tw3496171461512900480 : True := trivial
theorem head.tw9658139154387788515 : True := trivial
theorem head.tw15510365090734361527 : True := trivial
theorem head.tw14417885227837004991 : True := trivial
section
open PySem PySem.W PyProof.Rows PySem.Calls
set_option hygiene false
set_option maxHeartbeats 0 in
set_option Elab.async true in
theorem head : PySem.Challenge.rw_rh0090_01.Holds := by
  w_on
  o_law
  o_head (kHook hd.heap_39 [3, 59, 60, 66, 67, 80, 81, 87, 88, 101, 102, 108, 109, 122, 123, 153, 154, 187, 193, 194, 200, 201, 207, 208, 214, 215, 228, 229, 242, 243, 256, 257, 284, 285, 291, 292, 298, 299, 305, 306, 319, 320, 322, 323, 362, 363, 369, 370, 376, 377, 379, 380, 395, 396, 402, 403, 405, 406, 416, 417, 423, 424, 430, 431, 437, 438, 444, 445, 451, 452, 458, 459, 463, 464, 470, 471, 475, 476] (fun _ => by kernel_rfl))
  case hw => w_witness2
  k_fill
  intro w s₀ s₁ mg mb G Y fa o pm cd doc dV kV ho hdd hcd hD hmg hg args vals as hpre hlay hrd hwl hlo
  have KX := kIn_of Y
  refine Ground.open G ?_
  intro T1 B D TE TW
  have e0 : nsIn (hd.heap_39 w.params) mainGlobals (Str.ofString "law") = some (some (.ref 476)) := by k_is
  have e1 := mg_of KX T1.g e0
  have hfa : fa = 476 := by
    have e2 : mg (Str.ofString "law") = some (.ref fa) := hmg
    rw [e1] at e2
    injection e2 with e2
    injection e2 with e2
    exact e2.symm
  subst hfa
  clear Y TE TW D B ho hdd hcd hD hmg e0 e1
  wrow_args hpre hlay hrd hwl hlo
  refine enter_call ?_
  refine codeAny_mono ?_ (fun _ _ g => GoodW.toG g)
  rename_i is hs9 hl9 hl0 hr9 hl8 as1 as2 sc xs as3 hL ra wl r0 hI hr8 hc9 hc8
  refine codeAny_mono (law_ (V := ⟨Challenge.rw_rh0090_01.row.prog, w, s₁.gens, s₁.drawn, s₁.os⟩) (h := s₁.heap) (k := s₁.toks) (sc := sc) (xs := xs) (is := is) ⟨KX, ⟨_, _, _, _, topRead_of T1⟩, fun b o e => e⟩ ⟨rfl, by decide, by decide⟩ hL hI (by have := hI.length; omega)) ?_
  rintro r s' hq
  cases r with
  | error e => exact hq.elim
  | ok fl9 =>
    cases fl9 with
    | ret v9 =>
      obtain ⟨h', k', rfl, rfl, hb⟩ := hq
      refine ⟨.inl ⟨.bool true, .bool true, [], rfl, fun _ => ?_, ?_, ?_, fun _ => ⟨List.nodup_nil, fun a ha => nomatch ha⟩⟩, hb, rfl, hg⟩
      · rfl
      · exact .bool true
      · show (WShape.has [] (WData.bool true) .bool && WTm.holds [] (.eq .res (.lit (.bool true))) { args := [ofPy (PyData.list (List.map PyData.int is))], res := some (.bool true), after := [ofPy (PyData.list (List.map PyData.int is))] }) = true
        with_unfolding_all rfl
    | _ => exact hq.elim
end
end Mine
theorem PySem.Challenge.cw_rh0090_01_holds : PySem.Challenge.rw_rh0090_01.Holds :=
  Mine.head
