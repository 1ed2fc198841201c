import PyProof.Rows.All
import Wide.All
import OpenK.AllK
import Wide.FinOn
import PySem.Challenge.RW_rh0105_01
open PySem PySem.W PyProof.Rows
set_option Elab.async false
set_option maxRecDepth 100000
set_option linter.all false
namespace Mine
abbrev PW : Program := PySem.Challenge.pw_rh0105_01
abbrev Lit (α : Type) {p : Prop} (_ : p) : Type := α
noncomputable def stAt (i : Nat) : Stmt := (PW.main.body[i]?).getD (.Pass default)
noncomputable def stIn (i j : Nat) : Stmt := match (PW.main.body[i]?).getD (.Pass default) with
  | .ClassDef _ _ _ body _ _ _ _ _ _ _ => (body[j]?).getD (.Pass default)
  | _ => .Pass default
noncomputable def fnP : Stmt → Arguments
  | .FunctionDef _ p _ _ _ _ _ _ _ _ => p
  | _ => default
noncomputable def fnB : Stmt → List Stmt
  | .FunctionDef _ _ b _ _ _ _ _ _ _ => b
  | _ => []
noncomputable def fnS : Stmt → Scope
  | .FunctionDef _ _ _ _ _ _ s _ _ _ => s
  | _ => default
noncomputable def fnQ : Stmt → Pos
  | .FunctionDef _ _ _ _ _ _ _ _ _ q => q
  | _ => default
noncomputable def V0 : Program := by
  refine ({ PW with main := { PW.main with body := [?t0, ?t2, ?t3, ?t4, ?t5, ?t6, ?t7, ?t8, ?t9, ?t11, ?t12, ?t13, ?t15, ?t16, ?t17, ?t18, ?t19, ?t20, ?t21, ?t23, ?t24, ?t25, ?t26, ?t27, ?t28, ?t29, ?t30, ?t31, ?t32, ?t34, ?t35, ?t36] } } : Lit (Program) (by
    repeat' apply And.intro
    all_goals (conv => rhs; whnf) : ?t0 = stAt 0 ∧ ?t2 = stAt 2 ∧ ?t3 = stAt 3 ∧ ?t4 = stAt 4 ∧ ?t5 = stAt 5 ∧ ?t6 = stAt 6 ∧ ?t7 = stAt 7 ∧ ?t8 = stAt 8 ∧ ?t9 = stAt 9 ∧ ?t11 = stAt 11 ∧ ?t12 = stAt 12 ∧ ?t13 = stAt 13 ∧ ?t15 = stAt 15 ∧ ?t16 = stAt 16 ∧ ?t17 = stAt 17 ∧ ?t18 = stAt 18 ∧ ?t19 = stAt 19 ∧ ?t20 = stAt 20 ∧ ?t21 = stAt 21 ∧ ?t23 = stAt 23 ∧ ?t24 = stAt 24 ∧ ?t25 = stAt 25 ∧ ?t26 = stAt 26 ∧ ?t27 = stAt 27 ∧ ?t28 = stAt 28 ∧ ?t29 = stAt 29 ∧ ?t30 = stAt 30 ∧ ?t31 = stAt 31 ∧ ?t32 = stAt 32 ∧ ?t34 = stAt 34 ∧ ?t35 = stAt 35 ∧ ?t36 = stAt 36))
noncomputable def K0 : Params → Frag := by
  refine (fun P => (nat_lit 2, ⟨.none, none, (.dict #[⟨PyData.keyHash P (Str.ofString "type.__subclasses__.Exception.0"), (.str (Str.ofString "type.__subclasses__.Exception.0") 212), (.int 31 0)⟩, ⟨PyData.keyHash P (Str.ofString "type.__subclasses__.Exception.n"), (.str (Str.ofString "type.__subclasses__.Exception.n") 213), (.int 1 0)⟩] 2), #[]⟩) ::
  (nat_lit 3, ⟨(.type "dict"), none, (.dict #[⟨PyData.keyHash P (Str.ofString "__name__"), (.str (Str.ofString "__name__") 165), (.str (Str.ofString "law_rh0105_01") 917)⟩, ⟨PyData.keyHash P (Str.ofString "__doc__"), (.str (Str.ofString "__doc__") 166), .none⟩, ⟨PyData.keyHash P (Str.ofString "__package__"), (.str (Str.ofString "__package__") 167), .none⟩, ⟨PyData.keyHash P (Str.ofString "__loader__"), (.str (Str.ofString "__loader__") 168), (.builtin "__main__.__loader__#opaque")⟩, ⟨PyData.keyHash P (Str.ofString "__spec__"), (.str (Str.ofString "__spec__") 169), .none⟩, ⟨PyData.keyHash P (Str.ofString "__annotations__"), (.str (Str.ofString "__annotations__") 170), (.ref 6)⟩, ⟨PyData.keyHash P (Str.ofString "__builtins__"), (.str (Str.ofString "__builtins__") 171), (.ref 4)⟩, ⟨PyData.keyHash P (Str.ofString "__file__"), (.str (Str.ofString "__file__") 173), (.str (Str.ofString "/claim/cut.py") 172)⟩, ⟨PyData.keyHash P (Str.ofString "__cached__"), (.str (Str.ofString "__cached__") 174), .none⟩, ⟨PyData.keyHash P (Str.ofString "_wall"), (.str (Str.ofString "_wall") 193), (.ref 21)⟩, ⟨PyData.keyHash P (Str.ofString "ClausemillError"), (.str (Str.ofString "ClausemillError") 215), (.ref 31)⟩, ⟨PyData.keyHash P (Str.ofString "PrologError"), (.str (Str.ofString "PrologError") 240), (.ref 51)⟩, ⟨PyData.keyHash P (Str.ofString "A_SYSTEM"), (.str (Str.ofString "A_SYSTEM") 242), (.int 25 241)⟩, ⟨PyData.keyHash P (Str.ofString "F_ERROR"), (.str (Str.ofString "F_ERROR") 244), (.int 16 243)⟩, ⟨PyData.keyHash P (Str.ofString "F_CALL1"), (.str (Str.ofString "F_CALL1") 246), (.int 24 245)⟩, ⟨PyData.keyHash P (Str.ofString "fixed_atoms"), (.str (Str.ofString "fixed_atoms") 252), (.ref 60)⟩, ⟨PyData.keyHash P (Str.ofString "fixed_functors"), (.str (Str.ofString "fixed_functors") 258), (.ref 67)⟩, ⟨PyData.keyHash P (Str.ofString "Symbols"), (.str (Str.ofString "Symbols") 377), (.ref 154)⟩, ⟨PyData.keyHash P (Str.ofString "system_error"), (.str (Str.ofString "system_error") 386), (.ref 165)⟩, ⟨PyData.keyHash P (Str.ofString "formal_of"), (.str (Str.ofString "formal_of") 397), (.ref 172)⟩, ⟨PyData.keyHash P (Str.ofString "resource_error"), (.str (Str.ofString "resource_error") 405), (.ref 179)⟩, ⟨PyData.keyHash P (Str.ofString "REF"), (.str (Str.ofString "REF") 409), (.int 0 408)⟩, ⟨PyData.keyHash P (Str.ofString "SRF"), (.str (Str.ofString "SRF") 411), (.int 1 410)⟩, ⟨PyData.keyHash P (Str.ofString "LIS"), (.str (Str.ofString "LIS") 413), (.int 3 412)⟩, ⟨PyData.keyHash P (Str.ofString "INT"), (.str (Str.ofString "INT") 415), (.int 5 414)⟩, ⟨PyData.keyHash P (Str.ofString "VOID"), (.str (Str.ofString "VOID") 417), (.ref 180)⟩, ⟨PyData.keyHash P (Str.ofString "Cells"), (.str (Str.ofString "Cells") 606), (.ref 324)⟩, ⟨PyData.keyHash P (Str.ofString "Store"), (.str (Str.ofString "Store") 675), (.ref 381)⟩, ⟨PyData.keyHash P (Str.ofString "READ"), (.str (Str.ofString "READ") 679), (.str (Str.ofString "read") 678)⟩, ⟨PyData.keyHash P (Str.ofString "AT_E"), (.str (Str.ofString "AT_E") 681), (.int 1 680)⟩, ⟨PyData.keyHash P (Str.ofString "AT_CP"), (.str (Str.ofString "AT_CP") 683), (.int 2 682)⟩, ⟨PyData.keyHash P (Str.ofString "AT_PREVIOUS"), (.str (Str.ofString "AT_PREVIOUS") 685), (.int 3 684)⟩, ⟨PyData.keyHash P (Str.ofString "AT_ALTERNATIVE"), (.str (Str.ofString "AT_ALTERNATIVE") 687), (.int 4 686)⟩, ⟨PyData.keyHash P (Str.ofString "AT_TRAIL"), (.str (Str.ofString "AT_TRAIL") 689), (.int 5 688)⟩, ⟨PyData.keyHash P (Str.ofString "AT_HEAP"), (.str (Str.ofString "AT_HEAP") 691), (.int 6 690)⟩, ⟨PyData.keyHash P (Str.ofString "AT_B0"), (.str (Str.ofString "AT_B0") 693), (.int 7 692)⟩, ⟨PyData.keyHash P (Str.ofString "EXTRA"), (.str (Str.ofString "EXTRA") 695), (.int 8 694)⟩, ⟨PyData.keyHash P (Str.ofString "Areas"), (.str (Str.ofString "Areas") 916), (.ref 541)⟩, ⟨PyData.keyHash P (Str.ofString "_law_pick"), (.str (Str.ofString "_law_pick") 927), (.ref 552)⟩, ⟨PyData.keyHash P (Str.ofString "_law_chain_is"), (.str (Str.ofString "_law_chain_is") 933), (.ref 557)⟩, ⟨PyData.keyHash P (Str.ofString "law"), (.str (Str.ofString "law") 939), (.ref 562)⟩] 41), #[]⟩) ::
  (nat_lit 15, ⟨(.type "tuple"), none, (.seq #[] 0), #[]⟩) ::
  (nat_lit 17, ⟨(.type "tuple"), none, (.seq #[(.str (Str.ofString "k") 190)] 0), #[]⟩) ::
  (nat_lit 18, ⟨(.type "tuple"), none, (.seq #[] 0), #[]⟩) ::
  (nat_lit 20, ⟨(.type "code"), none, (.fields #[(.str (Str.ofString "_wall") 187), (.str (Str.ofString "_wall") 188), (.str (Str.ofString "/claim/cut.py") 189), (.int 1 0), (.int 1 0), (.int 0 0), (.int 0 0), (.int 3 0), (.ref 15), (.bool true), (.int 181 0), (.ref 16), .none, (.ref 17), (.ref 18), (.ref 19), (.int 191 0), (.int 1 0), (.str (Str.ofString "/claim/cut.py") 192)]), #[]⟩) ::
  (nat_lit 21, ⟨(.type "function"), none, (.func ⟨(Str.ofString "_wall"), (Str.ofString "_wall"), ?p21, .stmts ?b21, ?s21, 3, [], .none, .none, .none, (.str (Str.ofString "__main__") 164), none, (.ref 20), .none, 0⟩), #[]⟩) ::
  (nat_lit 22, ⟨(.type "tuple"), none, (.seq #[(.type "Exception")] 0), #[]⟩) ::
  (nat_lit 29, ⟨(.type "tuple"), none, (.seq #[] 0), #[]⟩) ::
  (nat_lit 30, ⟨(.type "dict"), none, (.dict #[⟨PyData.keyHash P (Str.ofString "__module__"), (.str (Str.ofString "__module__") 203), (.str (Str.ofString "clausemill.symbols") 194)⟩, ⟨PyData.keyHash P (Str.ofString "__firstlineno__"), (.str (Str.ofString "__firstlineno__") 207), (.int 5 206)⟩, ⟨PyData.keyHash P (Str.ofString "__static_attributes__"), (.str (Str.ofString "__static_attributes__") 208), (.ref 29)⟩, ⟨PyData.keyHash P (Str.ofString "__weakref__"), (.str (Str.ofString "__weakref__") 210), (.ref 32)⟩, ⟨PyData.keyHash P (Str.ofString "__doc__"), (.str (Str.ofString "__doc__") 211), .none⟩] 3), #[]⟩) ::
  (nat_lit 31, ⟨(.type "type"), none, (.cls ⟨(Str.ofString "ClausemillError"), [(.type "Exception")], [(.ref 31), (.type "Exception"), (.type "BaseException"), (.type "object")], 30, (Str.ofString "ClausemillError"), true, [], [(.ref 51)], false, none, false⟩), #[(some (.ref 22)), none, (some (.str (Str.ofString "ClausemillError") 196)), (some (.str (Str.ofString "ClausemillError") 204)), (some (.builtin "Exception.__new__")), (some (.bool true))]⟩) ::
  (nat_lit 32, ⟨(.type "getset_descriptor"), none, (.fields #[(.str (Str.ofString "__weakref__") 209), (.ref 31), (.builtin "ExceptionGroup.__weakref__"), .none]), #[]⟩) ::
  (nat_lit 35, ⟨(.type "tuple"), none, (.seq #[(.ref 31)] 0), #[]⟩) ::
  (nat_lit 42, ⟨(.type "tuple"), none, (.seq #[] 0), #[]⟩) ::
  (nat_lit 44, ⟨(.type "tuple"), none, (.seq #[(.str (Str.ofString "self") 231), (.str (Str.ofString "ball") 232)] 0), #[]⟩) ::
  (nat_lit 45, ⟨(.type "tuple"), none, (.seq #[] 0), #[]⟩) ::
  (nat_lit 47, ⟨(.type "code"), none, (.fields #[(.str (Str.ofString "__init__") 228), (.str (Str.ofString "PrologError.__init__") 229), (.str (Str.ofString "/claim/cut.py") 230), (.int 9 0), (.int 2 0), (.int 0 0), (.int 0 0), (.int 3 0), (.ref 42), (.bool true), (.int 181 0), (.ref 43), .none, (.ref 44), (.ref 45), (.ref 46), (.int 233 0), (.int 9 0), (.str (Str.ofString "/claim/cut.py") 234)]), #[]⟩) ::
  (nat_lit 48, ⟨(.type "function"), none, (.func ⟨(Str.ofString "__init__"), (Str.ofString "PrologError.__init__"), ?p48, .stmts ?b48, ?s48, 3, [], .none, .none, .none, (.str (Str.ofString "clausemill.symbols") 194), none, (.ref 47), .none, 0⟩), #[]⟩) ::
  (nat_lit 49, ⟨(.type "tuple"), none, (.seq #[(.str (Str.ofString "ball") 236)] 0), #[]⟩) ::
  (nat_lit 50, ⟨(.type "dict"), none, (.dict #[⟨PyData.keyHash P (Str.ofString "__module__"), (.str (Str.ofString "__module__") 223), (.str (Str.ofString "clausemill.symbols") 194)⟩, ⟨PyData.keyHash P (Str.ofString "__firstlineno__"), (.str (Str.ofString "__firstlineno__") 227), (.int 7 226)⟩, ⟨PyData.keyHash P (Str.ofString "__init__"), (.str (Str.ofString "__init__") 235), (.ref 48)⟩, ⟨PyData.keyHash P (Str.ofString "__static_attributes__"), (.str (Str.ofString "__static_attributes__") 237), (.ref 49)⟩, ⟨PyData.keyHash P (Str.ofString "__doc__"), (.str (Str.ofString "__doc__") 238), .none⟩] 2), #[]⟩) ::
  (nat_lit 51, ⟨(.type "type"), none, (.cls ⟨(Str.ofString "PrologError"), [(.ref 31)], [(.ref 51), (.ref 31), (.type "Exception"), (.type "BaseException"), (.type "object")], 50, (Str.ofString "PrologError"), true, [], [], false, none, false⟩), #[(some (.ref 35)), none, (some (.str (Str.ofString "PrologError") 216)), (some (.str (Str.ofString "PrologError") 224)), (some (.builtin "Exception.__new__")), (some (.bool true))]⟩) ::
  (nat_lit 54, ⟨(.type "tuple"), none, (.seq #[] 0), #[]⟩) ::
  (nat_lit 56, ⟨(.type "tuple"), none, (.seq #[] 0), #[]⟩) ::
  (nat_lit 57, ⟨(.type "tuple"), none, (.seq #[] 0), #[]⟩) ::
  (nat_lit 59, ⟨(.type "code"), none, (.fields #[(.str (Str.ofString "fixed_atoms") 247), (.str (Str.ofString "fixed_atoms") 248), (.str (Str.ofString "/claim/cut.py") 249), (.int 14 0), (.int 0 0), (.int 0 0), (.int 0 0), (.int 3 0), (.ref 54), (.bool true), (.int 181 0), (.ref 55), .none, (.ref 56), (.ref 57), (.ref 58), (.int 250 0), (.int 14 0), (.str (Str.ofString "/claim/cut.py") 251)]), #[]⟩) ::
  (nat_lit 60, ⟨(.type "function"), none, (.func ⟨(Str.ofString "fixed_atoms"), (Str.ofString "fixed_atoms"), ?p60, .stmts ?b60, ?s60, 3, [], .none, .none, .none, (.str (Str.ofString "clausemill.symbols") 194), none, (.ref 59), .none, 0⟩), #[]⟩) ::
  (nat_lit 61, ⟨(.type "tuple"), none, (.seq #[] 0), #[]⟩) ::
  (nat_lit 63, ⟨(.type "tuple"), none, (.seq #[] 0), #[]⟩) ::
  (nat_lit 64, ⟨(.type "tuple"), none, (.seq #[] 0), #[]⟩) ::
  (nat_lit 66, ⟨(.type "code"), none, (.fields #[(.str (Str.ofString "fixed_functors") 253), (.str (Str.ofString "fixed_functors") 254), (.str (Str.ofString "/claim/cut.py") 255), (.int 16 0), (.int 0 0), (.int 0 0), (.int 0 0), (.int 3 0), (.ref 61), (.bool true), (.int 181 0), (.ref 62), .none, (.ref 63), (.ref 64), (.ref 65), (.int 256 0), (.int 16 0), (.str (Str.ofString "/claim/cut.py") 257)]), #[]⟩) ::
  (nat_lit 67, ⟨(.type "function"), none, (.func ⟨(Str.ofString "fixed_functors"), (Str.ofString "fixed_functors"), ?p67, .stmts ?b67, ?s67, 3, [], .none, .none, .none, (.str (Str.ofString "clausemill.symbols") 194), none, (.ref 66), .none, 0⟩), #[]⟩) ::
  (nat_lit 75, ⟨(.type "tuple"), none, (.seq #[] 0), #[]⟩) ::
  (nat_lit 77, ⟨(.type "tuple"), none, (.seq #[(.str (Str.ofString "self") 274), (.str (Str.ofString "text") 275), (.str (Str.ofString "row") 276)] 0), #[]⟩) ::
  (nat_lit 78, ⟨(.type "tuple"), none, (.seq #[] 0), #[]⟩) ::
  (nat_lit 80, ⟨(.type "code"), none, (.fields #[(.str (Str.ofString "__init__") 271), (.str (Str.ofString "Symbols.__init__") 272), (.str (Str.ofString "/claim/cut.py") 273), (.int 20 0), (.int 1 0), (.int 0 0), (.int 0 0), (.int 3 0), (.ref 75), (.bool true), (.int 181 0), (.ref 76), .none, (.ref 77), (.ref 78), (.ref 79), (.int 277 0), (.int 20 0), (.str (Str.ofString "/claim/cut.py") 278)]), #[]⟩) ::
  (nat_lit 81, ⟨(.type "function"), none, (.func ⟨(Str.ofString "__init__"), (Str.ofString "Symbols.__init__"), ?p81, .stmts ?b81, ?s81, 3, [], .none, .none, .none, (.str (Str.ofString "clausemill.symbols") 194), none, (.ref 80), .none, 0⟩), #[]⟩) ::
  (nat_lit 82, ⟨(.type "tuple"), none, (.seq #[] 0), #[]⟩) ::
  (nat_lit 84, ⟨(.type "tuple"), none, (.seq #[(.str (Str.ofString "self") 283), (.str (Str.ofString "text") 284), (.str (Str.ofString "found") 285), (.str (Str.ofString "number") 286)] 0), #[]⟩) ::
  (nat_lit 85, ⟨(.type "tuple"), none, (.seq #[] 0), #[]⟩) ::
  (nat_lit 87, ⟨(.type "code"), none, (.fields #[(.str (Str.ofString "atom") 280), (.str (Str.ofString "Symbols.atom") 281), (.str (Str.ofString "/claim/cut.py") 282), (.int 30 0), (.int 2 0), (.int 0 0), (.int 0 0), (.int 3 0), (.ref 82), (.bool true), (.int 181 0), (.ref 83), .none, (.ref 84), (.ref 85), (.ref 86), (.int 287 0), (.int 30 0), (.str (Str.ofString "/claim/cut.py") 288)]), #[]⟩) ::
  (nat_lit 88, ⟨(.type "function"), none, (.func ⟨(Str.ofString "atom"), (Str.ofString "Symbols.atom"), ?p88, .stmts ?b88, ?s88, 3, [], .none, .none, .none, (.str (Str.ofString "clausemill.symbols") 194), none, (.ref 87), .none, 0⟩), #[]⟩) ::
  (nat_lit 89, ⟨(.type "tuple"), none, (.seq #[] 0), #[]⟩) ::
  (nat_lit 91, ⟨(.type "tuple"), none, (.seq #[(.str (Str.ofString "self") 293), (.str (Str.ofString "number") 294)] 0), #[]⟩) ::
  (nat_lit 92, ⟨(.type "tuple"), none, (.seq #[] 0), #[]⟩) ::
  (nat_lit 94, ⟨(.type "code"), none, (.fields #[(.str (Str.ofString "text") 290), (.str (Str.ofString "Symbols.text") 291), (.str (Str.ofString "/claim/cut.py") 292), (.int 39 0), (.int 2 0), (.int 0 0), (.int 0 0), (.int 3 0), (.ref 89), (.bool true), (.int 181 0), (.ref 90), .none, (.ref 91), (.ref 92), (.ref 93), (.int 295 0), (.int 39 0), (.str (Str.ofString "/claim/cut.py") 296)]), #[]⟩) ::
  (nat_lit 95, ⟨(.type "function"), none, (.func ⟨(Str.ofString "text"), (Str.ofString "Symbols.text"), ?p95, .stmts ?b95, ?s95, 3, [], .none, .none, .none, (.str (Str.ofString "clausemill.symbols") 194), none, (.ref 94), .none, 0⟩), #[]⟩) ::
  (nat_lit 96, ⟨(.type "tuple"), none, (.seq #[] 0), #[]⟩) ::
  (nat_lit 98, ⟨(.type "tuple"), none, (.seq #[(.str (Str.ofString "self") 301), (.str (Str.ofString "atom") 302), (.str (Str.ofString "arity") 303), (.str (Str.ofString "key") 304), (.str (Str.ofString "found") 305), (.str (Str.ofString "number") 306)] 0), #[]⟩) ::
  (nat_lit 99, ⟨(.type "tuple"), none, (.seq #[] 0), #[]⟩) ::
  (nat_lit 101, ⟨(.type "code"), none, (.fields #[(.str (Str.ofString "functor") 298), (.str (Str.ofString "Symbols.functor") 299), (.str (Str.ofString "/claim/cut.py") 300), (.int 42 0), (.int 3 0), (.int 0 0), (.int 0 0), (.int 3 0), (.ref 96), (.bool true), (.int 181 0), (.ref 97), .none, (.ref 98), (.ref 99), (.ref 100), (.int 307 0), (.int 42 0), (.str (Str.ofString "/claim/cut.py") 308)]), #[]⟩) ::
  (nat_lit 102, ⟨(.type "function"), none, (.func ⟨(Str.ofString "functor"), (Str.ofString "Symbols.functor"), ?p102, .stmts ?b102, ?s102, 3, [], .none, .none, .none, (.str (Str.ofString "clausemill.symbols") 194), none, (.ref 101), .none, 0⟩), #[]⟩) ::
  (nat_lit 103, ⟨(.type "tuple"), none, (.seq #[] 0), #[]⟩) ::
  (nat_lit 105, ⟨(.type "tuple"), none, (.seq #[(.str (Str.ofString "self") 313), (.str (Str.ofString "text") 314), (.str (Str.ofString "arity") 315)] 0), #[]⟩) ::
  (nat_lit 106, ⟨(.type "tuple"), none, (.seq #[] 0), #[]⟩) ::
  (nat_lit 108, ⟨(.type "code"), none, (.fields #[(.str (Str.ofString "func") 310), (.str (Str.ofString "Symbols.func") 311), (.str (Str.ofString "/claim/cut.py") 312), (.int 52 0), (.int 3 0), (.int 0 0), (.int 0 0), (.int 3 0), (.ref 103), (.bool true), (.int 181 0), (.ref 104), .none, (.ref 105), (.ref 106), (.ref 107), (.int 316 0), (.int 52 0), (.str (Str.ofString "/claim/cut.py") 317)]), #[]⟩) ::
  (nat_lit 109, ⟨(.type "function"), none, (.func ⟨(Str.ofString "func"), (Str.ofString "Symbols.func"), ?p109, .stmts ?b109, ?s109, 3, [], .none, .none, .none, (.str (Str.ofString "clausemill.symbols") 194), none, (.ref 108), .none, 0⟩), #[]⟩) ::
  (nat_lit 110, ⟨(.type "tuple"), none, (.seq #[] 0), #[]⟩) ::
  (nat_lit 112, ⟨(.type "tuple"), none, (.seq #[(.str (Str.ofString "self") 322), (.str (Str.ofString "functor") 323)] 0), #[]⟩) ::
  (nat_lit 113, ⟨(.type "tuple"), none, (.seq #[] 0), #[]⟩) ::
  (nat_lit 115, ⟨(.type "code"), none, (.fields #[(.str (Str.ofString "name") 319), (.str (Str.ofString "Symbols.name") 320), (.str (Str.ofString "/claim/cut.py") 321), (.int 55 0), (.int 2 0), (.int 0 0), (.int 0 0), (.int 3 0), (.ref 110), (.bool true), (.int 181 0), (.ref 111), .none, (.ref 112), (.ref 113), (.ref 114), (.int 324 0), (.int 55 0), (.str (Str.ofString "/claim/cut.py") 325)]), #[]⟩) ::
  (nat_lit 116, ⟨(.type "function"), none, (.func ⟨(Str.ofString "name"), (Str.ofString "Symbols.name"), ?p116, .stmts ?b116, ?s116, 3, [], .none, .none, .none, (.str (Str.ofString "clausemill.symbols") 194), none, (.ref 115), .none, 0⟩), #[]⟩) ::
  (nat_lit 117, ⟨(.type "tuple"), none, (.seq #[] 0), #[]⟩) ::
  (nat_lit 119, ⟨(.type "tuple"), none, (.seq #[(.str (Str.ofString "self") 330), (.str (Str.ofString "functor") 331)] 0), #[]⟩) ::
  (nat_lit 120, ⟨(.type "tuple"), none, (.seq #[] 0), #[]⟩) ::
  (nat_lit 122, ⟨(.type "code"), none, (.fields #[(.str (Str.ofString "arity") 327), (.str (Str.ofString "Symbols.arity") 328), (.str (Str.ofString "/claim/cut.py") 329), (.int 58 0), (.int 2 0), (.int 0 0), (.int 0 0), (.int 3 0), (.ref 117), (.bool true), (.int 181 0), (.ref 118), .none, (.ref 119), (.ref 120), (.ref 121), (.int 332 0), (.int 58 0), (.str (Str.ofString "/claim/cut.py") 333)]), #[]⟩) ::
  (nat_lit 123, ⟨(.type "function"), none, (.func ⟨(Str.ofString "arity"), (Str.ofString "Symbols.arity"), ?p123, .stmts ?b123, ?s123, 3, [], .none, .none, .none, (.str (Str.ofString "clausemill.symbols") 194), none, (.ref 122), .none, 0⟩), #[]⟩) ::
  (nat_lit 124, ⟨(.type "tuple"), none, (.seq #[] 0), #[]⟩) ::
  (nat_lit 126, ⟨(.type "tuple"), none, (.seq #[(.str (Str.ofString "self") 338), (.str (Str.ofString "functor") 339)] 0), #[]⟩) ::
  (nat_lit 127, ⟨(.type "tuple"), none, (.seq #[] 0), #[]⟩) ::
  (nat_lit 129, ⟨(.type "code"), none, (.fields #[(.str (Str.ofString "label") 335), (.str (Str.ofString "Symbols.label") 336), (.str (Str.ofString "/claim/cut.py") 337), (.int 61 0), (.int 2 0), (.int 0 0), (.int 0 0), (.int 3 0), (.ref 124), (.bool true), (.int 181 0), (.ref 125), .none, (.ref 126), (.ref 127), (.ref 128), (.int 340 0), (.int 61 0), (.str (Str.ofString "/claim/cut.py") 341)]), #[]⟩) ::
  (nat_lit 130, ⟨(.type "function"), none, (.func ⟨(Str.ofString "label"), (Str.ofString "Symbols.label"), ?p130, .stmts ?b130, ?s130, 3, [], .none, .none, .none, (.str (Str.ofString "clausemill.symbols") 194), none, (.ref 129), .none, 0⟩), #[]⟩) ::
  (nat_lit 131, ⟨(.type "tuple"), none, (.seq #[] 0), #[]⟩) ::
  (nat_lit 133, ⟨(.type "tuple"), none, (.seq #[(.str (Str.ofString "self") 346)] 0), #[]⟩) ::
  (nat_lit 134, ⟨(.type "tuple"), none, (.seq #[] 0), #[]⟩) ::
  (nat_lit 136, ⟨(.type "code"), none, (.fields #[(.str (Str.ofString "count") 343), (.str (Str.ofString "Symbols.count") 344), (.str (Str.ofString "/claim/cut.py") 345), (.int 64 0), (.int 1 0), (.int 0 0), (.int 0 0), (.int 3 0), (.ref 131), (.bool true), (.int 181 0), (.ref 132), .none, (.ref 133), (.ref 134), (.ref 135), (.int 347 0), (.int 64 0), (.str (Str.ofString "/claim/cut.py") 348)]), #[]⟩) ::
  (nat_lit 137, ⟨(.type "function"), none, (.func ⟨(Str.ofString "count"), (Str.ofString "Symbols.count"), ?p137, .stmts ?b137, ?s137, 3, [], .none, .none, .none, (.str (Str.ofString "clausemill.symbols") 194), none, (.ref 136), .none, 0⟩), #[]⟩) ::
  (nat_lit 138, ⟨(.type "tuple"), none, (.seq #[] 0), #[]⟩) ::
  (nat_lit 140, ⟨(.type "tuple"), none, (.seq #[(.str (Str.ofString "self") 353)] 0), #[]⟩) ::
  (nat_lit 141, ⟨(.type "tuple"), none, (.seq #[] 0), #[]⟩) ::
  (nat_lit 143, ⟨(.type "code"), none, (.fields #[(.str (Str.ofString "functor_count") 350), (.str (Str.ofString "Symbols.functor_count") 351), (.str (Str.ofString "/claim/cut.py") 352), (.int 67 0), (.int 1 0), (.int 0 0), (.int 0 0), (.int 3 0), (.ref 138), (.bool true), (.int 181 0), (.ref 139), .none, (.ref 140), (.ref 141), (.ref 142), (.int 354 0), (.int 67 0), (.str (Str.ofString "/claim/cut.py") 355)]), #[]⟩) ::
  (nat_lit 144, ⟨(.type "function"), none, (.func ⟨(Str.ofString "functor_count"), (Str.ofString "Symbols.functor_count"), ?p144, .stmts ?b144, ?s144, 3, [], .none, .none, .none, (.str (Str.ofString "clausemill.symbols") 194), none, (.ref 143), .none, 0⟩), #[]⟩) ::
  (nat_lit 145, ⟨(.type "tuple"), none, (.seq #[] 0), #[]⟩) ::
  (nat_lit 147, ⟨(.type "tuple"), none, (.seq #[(.str (Str.ofString "self") 360), (.str (Str.ofString "text") 361), (.str (Str.ofString "arity") 362)] 0), #[]⟩) ::
  (nat_lit 148, ⟨(.type "tuple"), none, (.seq #[] 0), #[]⟩) ::
  (nat_lit 150, ⟨(.type "code"), none, (.fields #[(.str (Str.ofString "known") 357), (.str (Str.ofString "Symbols.known") 358), (.str (Str.ofString "/claim/cut.py") 359), (.int 70 0), (.int 3 0), (.int 0 0), (.int 0 0), (.int 3 0), (.ref 145), (.bool true), (.int 181 0), (.ref 146), .none, (.ref 147), (.ref 148), (.ref 149), (.int 363 0), (.int 70 0), (.str (Str.ofString "/claim/cut.py") 364)]), #[]⟩) ::
  (nat_lit 151, ⟨(.type "function"), none, (.func ⟨(Str.ofString "known"), (Str.ofString "Symbols.known"), ?p151, .stmts ?b151, ?s151, 3, [], .none, .none, .none, (.str (Str.ofString "clausemill.symbols") 194), none, (.ref 150), .none, 0⟩), #[]⟩) ::
  (nat_lit 152, ⟨(.type "tuple"), none, (.seq #[(.str (Str.ofString "atom_numbers") 366), (.str (Str.ofString "functor_numbers") 367), (.str (Str.ofString "functors") 368), (.str (Str.ofString "texts") 369)] 0), #[]⟩) ::
  (nat_lit 153, ⟨(.type "dict"), none, (.dict #[⟨PyData.keyHash P (Str.ofString "__module__"), (.str (Str.ofString "__module__") 266), (.str (Str.ofString "clausemill.symbols") 194)⟩, ⟨PyData.keyHash P (Str.ofString "__firstlineno__"), (.str (Str.ofString "__firstlineno__") 270), (.int 18 269)⟩, ⟨PyData.keyHash P (Str.ofString "__init__"), (.str (Str.ofString "__init__") 279), (.ref 81)⟩, ⟨PyData.keyHash P (Str.ofString "atom"), (.str (Str.ofString "atom") 289), (.ref 88)⟩, ⟨PyData.keyHash P (Str.ofString "text"), (.str (Str.ofString "text") 297), (.ref 95)⟩, ⟨PyData.keyHash P (Str.ofString "functor"), (.str (Str.ofString "functor") 309), (.ref 102)⟩, ⟨PyData.keyHash P (Str.ofString "func"), (.str (Str.ofString "func") 318), (.ref 109)⟩, ⟨PyData.keyHash P (Str.ofString "name"), (.str (Str.ofString "name") 326), (.ref 116)⟩, ⟨PyData.keyHash P (Str.ofString "arity"), (.str (Str.ofString "arity") 334), (.ref 123)⟩, ⟨PyData.keyHash P (Str.ofString "label"), (.str (Str.ofString "label") 342), (.ref 130)⟩, ⟨PyData.keyHash P (Str.ofString "count"), (.str (Str.ofString "count") 349), (.ref 137)⟩, ⟨PyData.keyHash P (Str.ofString "functor_count"), (.str (Str.ofString "functor_count") 356), (.ref 144)⟩, ⟨PyData.keyHash P (Str.ofString "known"), (.str (Str.ofString "known") 365), (.ref 151)⟩, ⟨PyData.keyHash P (Str.ofString "__static_attributes__"), (.str (Str.ofString "__static_attributes__") 370), (.ref 152)⟩, ⟨PyData.keyHash P (Str.ofString "__dict__"), (.str (Str.ofString "__dict__") 372), (.ref 155)⟩, ⟨PyData.keyHash P (Str.ofString "__weakref__"), (.str (Str.ofString "__weakref__") 374), (.ref 156)⟩, ⟨PyData.keyHash P (Str.ofString "__doc__"), (.str (Str.ofString "__doc__") 375), .none⟩] 4), #[]⟩) ::
  (nat_lit 154, ⟨(.type "type"), none, (.cls ⟨(Str.ofString "Symbols"), [(.type "object")], [(.ref 154), (.type "object")], 153, (Str.ofString "Symbols"), true, [], [], false, none, false⟩), #[none, none, (some (.str (Str.ofString "Symbols") 259)), (some (.str (Str.ofString "Symbols") 267)), (some (.builtin "object.__new__")), (some (.bool true))]⟩) ::
  (nat_lit 155, ⟨(.type "getset_descriptor"), none, (.fields #[(.str (Str.ofString "__dict__") 371), (.ref 154), (.builtin "function.__dict__"), (.builtin "function.__dict__#set")]), #[]⟩) ::
  (nat_lit 156, ⟨(.type "getset_descriptor"), none, (.fields #[(.str (Str.ofString "__weakref__") 373), (.ref 154), (.builtin "ExceptionGroup.__weakref__"), .none]), #[]⟩) ::
  (nat_lit 159, ⟨(.type "tuple"), none, (.seq #[] 0), #[]⟩) ::
  (nat_lit 161, ⟨(.type "tuple"), none, (.seq #[(.str (Str.ofString "formal") 383)] 0), #[]⟩) ::
  (nat_lit 162, ⟨(.type "tuple"), none, (.seq #[] 0), #[]⟩) ::
  (nat_lit 164, ⟨(.type "code"), none, (.fields #[(.str (Str.ofString "system_error") 380), (.str (Str.ofString "system_error") 381), (.str (Str.ofString "/claim/cut.py") 382), (.int 73 0), (.int 1 0), (.int 0 0), (.int 0 0), (.int 3 0), (.ref 159), (.bool true), (.int 181 0), (.ref 160), .none, (.ref 161), (.ref 162), (.ref 163), (.int 384 0), (.int 73 0), (.str (Str.ofString "/claim/cut.py") 385)]), #[]⟩) ::
  (nat_lit 165, ⟨(.type "function"), none, (.func ⟨(Str.ofString "system_error"), (Str.ofString "system_error"), ?p165, .stmts ?b165, ?s165, 3, [], .none, .none, .none, (.str (Str.ofString "clausemill.terms") 378), none, (.ref 164), .none, 0⟩), #[]⟩) ::
  (nat_lit 166, ⟨(.type "tuple"), none, (.seq #[] 0), #[]⟩) ::
  (nat_lit 168, ⟨(.type "tuple"), none, (.seq #[(.str (Str.ofString "symbols") 390), (.str (Str.ofString "name") 391), (.str (Str.ofString "parts") 392), (.str (Str.ofString "args") 393), (.str (Str.ofString "part") 394)] 0), #[]⟩) ::
  (nat_lit 169, ⟨(.type "tuple"), none, (.seq #[] 0), #[]⟩) ::
  (nat_lit 171, ⟨(.type "code"), none, (.fields #[(.str (Str.ofString "formal_of") 387), (.str (Str.ofString "formal_of") 388), (.str (Str.ofString "/claim/cut.py") 389), (.int 75 0), (.int 3 0), (.int 0 0), (.int 0 0), (.int 3 0), (.ref 166), (.bool true), (.int 181 0), (.ref 167), .none, (.ref 168), (.ref 169), (.ref 170), (.int 395 0), (.int 75 0), (.str (Str.ofString "/claim/cut.py") 396)]), #[]⟩) ::
  (nat_lit 172, ⟨(.type "function"), none, (.func ⟨(Str.ofString "formal_of"), (Str.ofString "formal_of"), ?p172, .stmts ?b172, ?s172, 3, [], .none, .none, .none, (.str (Str.ofString "clausemill.terms") 378), none, (.ref 171), .none, 0⟩), #[]⟩) ::
  (nat_lit 173, ⟨(.type "tuple"), none, (.seq #[] 0), #[]⟩) ::
  (nat_lit 175, ⟨(.type "tuple"), none, (.seq #[(.str (Str.ofString "symbols") 401), (.str (Str.ofString "what") 402)] 0), #[]⟩) ::
  (nat_lit 176, ⟨(.type "tuple"), none, (.seq #[] 0), #[]⟩) ::
  (nat_lit 178, ⟨(.type "code"), none, (.fields #[(.str (Str.ofString "resource_error") 398), (.str (Str.ofString "resource_error") 399), (.str (Str.ofString "/claim/cut.py") 400), (.int 80 0), (.int 2 0), (.int 0 0), (.int 0 0), (.int 3 0), (.ref 173), (.bool true), (.int 181 0), (.ref 174), .none, (.ref 175), (.ref 176), (.ref 177), (.int 403 0), (.int 80 0), (.str (Str.ofString "/claim/cut.py") 404)]), #[]⟩) ::
  (nat_lit 179, ⟨(.type "function"), none, (.func ⟨(Str.ofString "resource_error"), (Str.ofString "resource_error"), ?p179, .stmts ?b179, ?s179, 3, [], .none, .none, .none, (.str (Str.ofString "clausemill.terms") 378), none, (.ref 178), .none, 0⟩), #[]⟩) ::
  (nat_lit 180, ⟨(.type "tuple"), none, (.seq #[(.int 5 414), (.int 0 416)] 0), #[]⟩) ::
  (nat_lit 188, ⟨(.type "tuple"), none, (.seq #[(.int 100000 430)] 0), #[]⟩) ::
  (nat_lit 189, ⟨(.type "tuple"), none, (.seq #[] 0), #[]⟩) ::
  (nat_lit 191, ⟨(.type "tuple"), none, (.seq #[(.str (Str.ofString "self") 434), (.str (Str.ofString "symbols") 435), (.str (Str.ofString "max_heap") 436)] 0), #[]⟩) ::
  (nat_lit 192, ⟨(.type "tuple"), none, (.seq #[] 0), #[]⟩) ::
  (nat_lit 194, ⟨(.type "code"), none, (.fields #[(.str (Str.ofString "__init__") 431), (.str (Str.ofString "Cells.__init__") 432), (.str (Str.ofString "/claim/cut.py") 433), (.int 90 0), (.int 3 0), (.int 0 0), (.int 0 0), (.int 3 0), (.ref 189), (.bool true), (.int 181 0), (.ref 190), .none, (.ref 191), (.ref 192), (.ref 193), (.int 437 0), (.int 90 0), (.str (Str.ofString "/claim/cut.py") 438)]), #[]⟩) ::
  (nat_lit 195, ⟨(.type "function"), none, (.func ⟨(Str.ofString "__init__"), (Str.ofString "Cells.__init__"), ?p195, .stmts ?b195, ?s195, 3, [], (.ref 188), .none, .none, (.str (Str.ofString "clausemill.store") 406), none, (.ref 194), .none, 0⟩), #[]⟩) ::
  (nat_lit 196, ⟨(.type "tuple"), none, (.seq #[] 0), #[]⟩) ::
  (nat_lit 198, ⟨(.type "tuple"), none, (.seq #[(.str (Str.ofString "self") 443), (.str (Str.ofString "cell") 444), (.str (Str.ofString "address") 445)] 0), #[]⟩) ::
  (nat_lit 199, ⟨(.type "tuple"), none, (.seq #[] 0), #[]⟩) ::
  (nat_lit 201, ⟨(.type "code"), none, (.fields #[(.str (Str.ofString "push") 440), (.str (Str.ofString "Cells.push") 441), (.str (Str.ofString "/claim/cut.py") 442), (.int 99 0), (.int 2 0), (.int 0 0), (.int 0 0), (.int 3 0), (.ref 196), (.bool true), (.int 181 0), (.ref 197), .none, (.ref 198), (.ref 199), (.ref 200), (.int 446 0), (.int 99 0), (.str (Str.ofString "/claim/cut.py") 447)]), #[]⟩) ::
  (nat_lit 202, ⟨(.type "function"), none, (.func ⟨(Str.ofString "push"), (Str.ofString "Cells.push"), ?p202, .stmts ?b202, ?s202, 3, [], .none, .none, .none, (.str (Str.ofString "clausemill.store") 406), none, (.ref 201), .none, 0⟩), #[]⟩) ::
  (nat_lit 203, ⟨(.type "tuple"), none, (.seq #[] 0), #[]⟩) ::
  (nat_lit 205, ⟨(.type "tuple"), none, (.seq #[(.str (Str.ofString "self") 452), (.str (Str.ofString "cell") 453)] 0), #[]⟩) ::
  (nat_lit 206, ⟨(.type "tuple"), none, (.seq #[] 0), #[]⟩) ::
  (nat_lit 208, ⟨(.type "code"), none, (.fields #[(.str (Str.ofString "new_var") 449), (.str (Str.ofString "Cells.new_var") 450), (.str (Str.ofString "/claim/cut.py") 451), (.int 106 0), (.int 1 0), (.int 0 0), (.int 0 0), (.int 3 0), (.ref 203), (.bool true), (.int 181 0), (.ref 204), .none, (.ref 205), (.ref 206), (.ref 207), (.int 454 0), (.int 106 0), (.str (Str.ofString "/claim/cut.py") 455)]), #[]⟩) ::
  (nat_lit 209, ⟨(.type "function"), none, (.func ⟨(Str.ofString "new_var"), (Str.ofString "Cells.new_var"), ?p209, .stmts ?b209, ?s209, 3, [], .none, .none, .none, (.str (Str.ofString "clausemill.store") 406), none, (.ref 208), .none, 0⟩), #[]⟩) ::
  (nat_lit 210, ⟨(.type "tuple"), none, (.seq #[] 0), #[]⟩) ::
  (nat_lit 212, ⟨(.type "tuple"), none, (.seq #[(.str (Str.ofString "self") 460), (.str (Str.ofString "count") 461)] 0), #[]⟩) ::
  (nat_lit 213, ⟨(.type "tuple"), none, (.seq #[] 0), #[]⟩) ::
  (nat_lit 215, ⟨(.type "code"), none, (.fields #[(.str (Str.ofString "reserve") 457), (.str (Str.ofString "Cells.reserve") 458), (.str (Str.ofString "/claim/cut.py") 459), (.int 111 0), (.int 2 0), (.int 0 0), (.int 0 0), (.int 3 0), (.ref 210), (.bool true), (.int 181 0), (.ref 211), .none, (.ref 212), (.ref 213), (.ref 214), (.int 462 0), (.int 111 0), (.str (Str.ofString "/claim/cut.py") 463)]), #[]⟩) ::
  (nat_lit 216, ⟨(.type "function"), none, (.func ⟨(Str.ofString "reserve"), (Str.ofString "Cells.reserve"), ?p216, .stmts ?b216, ?s216, 3, [], .none, .none, .none, (.str (Str.ofString "clausemill.store") 406), none, (.ref 215), .none, 0⟩), #[]⟩) ::
  (nat_lit 217, ⟨(.type "tuple"), none, (.seq #[] 0), #[]⟩) ::
  (nat_lit 219, ⟨(.type "tuple"), none, (.seq #[(.str (Str.ofString "self") 468), (.str (Str.ofString "h") 469)] 0), #[]⟩) ::
  (nat_lit 220, ⟨(.type "tuple"), none, (.seq #[] 0), #[]⟩) ::
  (nat_lit 222, ⟨(.type "code"), none, (.fields #[(.str (Str.ofString "trim") 465), (.str (Str.ofString "Cells.trim") 466), (.str (Str.ofString "/claim/cut.py") 467), (.int 114 0), (.int 2 0), (.int 0 0), (.int 0 0), (.int 3 0), (.ref 217), (.bool true), (.int 181 0), (.ref 218), .none, (.ref 219), (.ref 220), (.ref 221), (.int 470 0), (.int 114 0), (.str (Str.ofString "/claim/cut.py") 471)]), #[]⟩) ::
  (nat_lit 223, ⟨(.type "function"), none, (.func ⟨(Str.ofString "trim"), (Str.ofString "Cells.trim"), ?p223, .stmts ?b223, ?s223, 3, [], .none, .none, .none, (.str (Str.ofString "clausemill.store") 406), none, (.ref 222), .none, 0⟩), #[]⟩) ::
  (nat_lit 224, ⟨(.type "tuple"), none, (.seq #[] 0), #[]⟩) ::
  (nat_lit 226, ⟨(.type "tuple"), none, (.seq #[(.str (Str.ofString "self") 476), (.str (Str.ofString "cell") 477)] 0), #[]⟩) ::
  (nat_lit 227, ⟨(.type "tuple"), none, (.seq #[] 0), #[]⟩) ::
  (nat_lit 229, ⟨(.type "code"), none, (.fields #[(.str (Str.ofString "deref") 473), (.str (Str.ofString "Cells.deref") 474), (.str (Str.ofString "/claim/cut.py") 475), (.int 117 0), (.int 2 0), (.int 0 0), (.int 0 0), (.int 3 0), (.ref 224), (.bool true), (.int 181 0), (.ref 225), .none, (.ref 226), (.ref 227), (.ref 228), (.int 478 0), (.int 117 0), (.str (Str.ofString "/claim/cut.py") 479)]), #[]⟩) ::
  (nat_lit 230, ⟨(.type "function"), none, (.func ⟨(Str.ofString "deref"), (Str.ofString "Cells.deref"), ?p230, .stmts ?b230, ?s230, 3, [], .none, .none, .none, (.str (Str.ofString "clausemill.store") 406), none, (.ref 229), .none, 0⟩), #[]⟩) ::
  (nat_lit 231, ⟨(.type "tuple"), none, (.seq #[] 0), #[]⟩) ::
  (nat_lit 233, ⟨(.type "tuple"), none, (.seq #[(.str (Str.ofString "self") 484), (.str (Str.ofString "cell") 485)] 0), #[]⟩) ::
  (nat_lit 234, ⟨(.type "tuple"), none, (.seq #[] 0), #[]⟩) ::
  (nat_lit 236, ⟨(.type "code"), none, (.fields #[(.str (Str.ofString "is_unbound") 481), (.str (Str.ofString "Cells.is_unbound") 482), (.str (Str.ofString "/claim/cut.py") 483), (.int 120 0), (.int 2 0), (.int 0 0), (.int 0 0), (.int 3 0), (.ref 231), (.bool true), (.int 181 0), (.ref 232), .none, (.ref 233), (.ref 234), (.ref 235), (.int 486 0), (.int 120 0), (.str (Str.ofString "/claim/cut.py") 487)]), #[]⟩) ::
  (nat_lit 237, ⟨(.type "function"), none, (.func ⟨(Str.ofString "is_unbound"), (Str.ofString "Cells.is_unbound"), ?p237, .stmts ?b237, ?s237, 3, [], .none, .none, .none, (.str (Str.ofString "clausemill.store") 406), none, (.ref 236), .none, 0⟩), #[]⟩) ::
  (nat_lit 238, ⟨(.type "tuple"), none, (.seq #[] 0), #[]⟩) ::
  (nat_lit 240, ⟨(.type "tuple"), none, (.seq #[(.str (Str.ofString "self") 492), (.str (Str.ofString "cell") 493), (.str (Str.ofString "value") 494), (.str (Str.ofString "place") 495)] 0), #[]⟩) ::
  (nat_lit 241, ⟨(.type "tuple"), none, (.seq #[] 0), #[]⟩) ::
  (nat_lit 243, ⟨(.type "code"), none, (.fields #[(.str (Str.ofString "bind") 489), (.str (Str.ofString "Cells.bind") 490), (.str (Str.ofString "/claim/cut.py") 491), (.int 123 0), (.int 3 0), (.int 0 0), (.int 0 0), (.int 3 0), (.ref 238), (.bool true), (.int 181 0), (.ref 239), .none, (.ref 240), (.ref 241), (.ref 242), (.int 496 0), (.int 123 0), (.str (Str.ofString "/claim/cut.py") 497)]), #[]⟩) ::
  (nat_lit 244, ⟨(.type "function"), none, (.func ⟨(Str.ofString "bind"), (Str.ofString "Cells.bind"), ?p244, .stmts ?b244, ?s244, 3, [], .none, .none, .none, (.str (Str.ofString "clausemill.store") 406), none, (.ref 243), .none, 0⟩), #[]⟩) ::
  (nat_lit 245, ⟨(.type "tuple"), none, (.seq #[] 0), #[]⟩) ::
  (nat_lit 247, ⟨(.type "tuple"), none, (.seq #[(.str (Str.ofString "self") 502), (.str (Str.ofString "c1") 503), (.str (Str.ofString "c2") 504)] 0), #[]⟩) ::
  (nat_lit 248, ⟨(.type "tuple"), none, (.seq #[] 0), #[]⟩) ::
  (nat_lit 250, ⟨(.type "code"), none, (.fields #[(.str (Str.ofString "bind_pair") 499), (.str (Str.ofString "Cells.bind_pair") 500), (.str (Str.ofString "/claim/cut.py") 501), (.int 134 0), (.int 3 0), (.int 0 0), (.int 0 0), (.int 3 0), (.ref 245), (.bool true), (.int 181 0), (.ref 246), .none, (.ref 247), (.ref 248), (.ref 249), (.int 505 0), (.int 134 0), (.str (Str.ofString "/claim/cut.py") 506)]), #[]⟩) ::
  (nat_lit 251, ⟨(.type "function"), none, (.func ⟨(Str.ofString "bind_pair"), (Str.ofString "Cells.bind_pair"), ?p251, .stmts ?b251, ?s251, 3, [], .none, .none, .none, (.str (Str.ofString "clausemill.store") 406), none, (.ref 250), .none, 0⟩), #[]⟩) ::
  (nat_lit 252, ⟨(.type "tuple"), none, (.seq #[] 0), #[]⟩) ::
  (nat_lit 254, ⟨(.type "tuple"), none, (.seq #[(.str (Str.ofString "self") 511), (.str (Str.ofString "cell") 512)] 0), #[]⟩) ::
  (nat_lit 255, ⟨(.type "tuple"), none, (.seq #[] 0), #[]⟩) ::
  (nat_lit 257, ⟨(.type "code"), none, (.fields #[(.str (Str.ofString "globalise") 508), (.str (Str.ofString "Cells.globalise") 509), (.str (Str.ofString "/claim/cut.py") 510), (.int 137 0), (.int 2 0), (.int 0 0), (.int 0 0), (.int 3 0), (.ref 252), (.bool true), (.int 181 0), (.ref 253), .none, (.ref 254), (.ref 255), (.ref 256), (.int 513 0), (.int 137 0), (.str (Str.ofString "/claim/cut.py") 514)]), #[]⟩) ::
  (nat_lit 258, ⟨(.type "function"), none, (.func ⟨(Str.ofString "globalise"), (Str.ofString "Cells.globalise"), ?p258, .stmts ?b258, ?s258, 3, [], .none, .none, .none, (.str (Str.ofString "clausemill.store") 406), none, (.ref 257), .none, 0⟩), #[]⟩) ::
  (nat_lit 259, ⟨(.type "tuple"), none, (.seq #[] 0), #[]⟩) ::
  (nat_lit 261, ⟨(.type "tuple"), none, (.seq #[(.str (Str.ofString "self") 519)] 0), #[]⟩) ::
  (nat_lit 262, ⟨(.type "tuple"), none, (.seq #[] 0), #[]⟩) ::
  (nat_lit 264, ⟨(.type "code"), none, (.fields #[(.str (Str.ofString "mark") 516), (.str (Str.ofString "Cells.mark") 517), (.str (Str.ofString "/claim/cut.py") 518), (.int 140 0), (.int 1 0), (.int 0 0), (.int 0 0), (.int 3 0), (.ref 259), (.bool true), (.int 181 0), (.ref 260), .none, (.ref 261), (.ref 262), (.ref 263), (.int 520 0), (.int 140 0), (.str (Str.ofString "/claim/cut.py") 521)]), #[]⟩) ::
  (nat_lit 265, ⟨(.type "function"), none, (.func ⟨(Str.ofString "mark"), (Str.ofString "Cells.mark"), ?p265, .stmts ?b265, ?s265, 3, [], .none, .none, .none, (.str (Str.ofString "clausemill.store") 406), none, (.ref 264), .none, 0⟩), #[]⟩) ::
  (nat_lit 266, ⟨(.type "tuple"), none, (.seq #[] 0), #[]⟩) ::
  (nat_lit 268, ⟨(.type "tuple"), none, (.seq #[(.str (Str.ofString "self") 526), (.str (Str.ofString "mark") 527), (.str (Str.ofString "entry") 528), (.str (Str.ofString "slot") 529)] 0), #[]⟩) ::
  (nat_lit 269, ⟨(.type "tuple"), none, (.seq #[] 0), #[]⟩) ::
  (nat_lit 271, ⟨(.type "code"), none, (.fields #[(.str (Str.ofString "undo_to") 523), (.str (Str.ofString "Cells.undo_to") 524), (.str (Str.ofString "/claim/cut.py") 525), (.int 143 0), (.int 2 0), (.int 0 0), (.int 0 0), (.int 3 0), (.ref 266), (.bool true), (.int 181 0), (.ref 267), .none, (.ref 268), (.ref 269), (.ref 270), (.int 530 0), (.int 143 0), (.str (Str.ofString "/claim/cut.py") 531)]), #[]⟩) ::
  (nat_lit 272, ⟨(.type "function"), none, (.func ⟨(Str.ofString "undo_to"), (Str.ofString "Cells.undo_to"), ?p272, .stmts ?b272, ?s272, 3, [], .none, .none, .none, (.str (Str.ofString "clausemill.store") 406), none, (.ref 271), .none, 0⟩), #[]⟩) ::
  (nat_lit 273, ⟨(.type "tuple"), none, (.seq #[] 0), #[]⟩) ::
  (nat_lit 275, ⟨(.type "tuple"), none, (.seq #[(.str (Str.ofString "self") 536), (.str (Str.ofString "i") 537), (.str (Str.ofString "value") 538), (.str (Str.ofString "stack") 539)] 0), #[]⟩) ::
  (nat_lit 276, ⟨(.type "tuple"), none, (.seq #[] 0), #[]⟩) ::
  (nat_lit 278, ⟨(.type "code"), none, (.fields #[(.str (Str.ofString "stack_put") 533), (.str (Str.ofString "Cells.stack_put") 534), (.str (Str.ofString "/claim/cut.py") 535), (.int 152 0), (.int 3 0), (.int 0 0), (.int 0 0), (.int 3 0), (.ref 273), (.bool true), (.int 181 0), (.ref 274), .none, (.ref 275), (.ref 276), (.ref 277), (.int 540 0), (.int 152 0), (.str (Str.ofString "/claim/cut.py") 541)]), #[]⟩) ::
  (nat_lit 279, ⟨(.type "function"), none, (.func ⟨(Str.ofString "stack_put"), (Str.ofString "Cells.stack_put"), ?p279, .stmts ?b279, ?s279, 3, [], .none, .none, .none, (.str (Str.ofString "clausemill.store") 406), none, (.ref 278), .none, 0⟩), #[]⟩) ::
  (nat_lit 280, ⟨(.type "tuple"), none, (.seq #[] 0), #[]⟩) ::
  (nat_lit 282, ⟨(.type "tuple"), none, (.seq #[(.str (Str.ofString "self") 546), (.str (Str.ofString "cell") 547)] 0), #[]⟩) ::
  (nat_lit 283, ⟨(.type "tuple"), none, (.seq #[] 0), #[]⟩) ::
  (nat_lit 285, ⟨(.type "code"), none, (.fields #[(.str (Str.ofString "is_compound") 543), (.str (Str.ofString "Cells.is_compound") 544), (.str (Str.ofString "/claim/cut.py") 545), (.int 161 0), (.int 2 0), (.int 0 0), (.int 0 0), (.int 3 0), (.ref 280), (.bool true), (.int 181 0), (.ref 281), .none, (.ref 282), (.ref 283), (.ref 284), (.int 548 0), (.int 161 0), (.str (Str.ofString "/claim/cut.py") 549)]), #[]⟩) ::
  (nat_lit 286, ⟨(.type "function"), none, (.func ⟨(Str.ofString "is_compound"), (Str.ofString "Cells.is_compound"), ?p286, .stmts ?b286, ?s286, 3, [], .none, .none, .none, (.str (Str.ofString "clausemill.store") 406), none, (.ref 285), .none, 0⟩), #[]⟩) ::
  (nat_lit 287, ⟨(.type "tuple"), none, (.seq #[] 0), #[]⟩) ::
  (nat_lit 289, ⟨(.type "tuple"), none, (.seq #[(.str (Str.ofString "self") 554), (.str (Str.ofString "cell") 555)] 0), #[]⟩) ::
  (nat_lit 290, ⟨(.type "tuple"), none, (.seq #[] 0), #[]⟩) ::
  (nat_lit 292, ⟨(.type "code"), none, (.fields #[(.str (Str.ofString "functor_of") 551), (.str (Str.ofString "Cells.functor_of") 552), (.str (Str.ofString "/claim/cut.py") 553), (.int 164 0), (.int 2 0), (.int 0 0), (.int 0 0), (.int 3 0), (.ref 287), (.bool true), (.int 181 0), (.ref 288), .none, (.ref 289), (.ref 290), (.ref 291), (.int 556 0), (.int 164 0), (.str (Str.ofString "/claim/cut.py") 557)]), #[]⟩) ::
  (nat_lit 293, ⟨(.type "function"), none, (.func ⟨(Str.ofString "functor_of"), (Str.ofString "Cells.functor_of"), ?p293, .stmts ?b293, ?s293, 3, [], .none, .none, .none, (.str (Str.ofString "clausemill.store") 406), none, (.ref 292), .none, 0⟩), #[]⟩) ::
  (nat_lit 294, ⟨(.type "tuple"), none, (.seq #[] 0), #[]⟩) ::
  (nat_lit 296, ⟨(.type "tuple"), none, (.seq #[(.str (Str.ofString "self") 562), (.str (Str.ofString "cell") 563)] 0), #[]⟩) ::
  (nat_lit 297, ⟨(.type "tuple"), none, (.seq #[] 0), #[]⟩) ::
  (nat_lit 299, ⟨(.type "code"), none, (.fields #[(.str (Str.ofString "width") 559), (.str (Str.ofString "Cells.width") 560), (.str (Str.ofString "/claim/cut.py") 561), (.int 167 0), (.int 2 0), (.int 0 0), (.int 0 0), (.int 3 0), (.ref 294), (.bool true), (.int 181 0), (.ref 295), .none, (.ref 296), (.ref 297), (.ref 298), (.int 564 0), (.int 167 0), (.str (Str.ofString "/claim/cut.py") 565)]), #[]⟩) ::
  (nat_lit 300, ⟨(.type "function"), none, (.func ⟨(Str.ofString "width"), (Str.ofString "Cells.width"), ?p300, .stmts ?b300, ?s300, 3, [], .none, .none, .none, (.str (Str.ofString "clausemill.store") 406), none, (.ref 299), .none, 0⟩), #[]⟩) ::
  (nat_lit 301, ⟨(.type "tuple"), none, (.seq #[] 0), #[]⟩) ::
  (nat_lit 303, ⟨(.type "tuple"), none, (.seq #[(.str (Str.ofString "self") 570), (.str (Str.ofString "cell") 571)] 0), #[]⟩) ::
  (nat_lit 304, ⟨(.type "tuple"), none, (.seq #[] 0), #[]⟩) ::
  (nat_lit 306, ⟨(.type "code"), none, (.fields #[(.str (Str.ofString "base") 567), (.str (Str.ofString "Cells.base") 568), (.str (Str.ofString "/claim/cut.py") 569), (.int 170 0), (.int 2 0), (.int 0 0), (.int 0 0), (.int 3 0), (.ref 301), (.bool true), (.int 181 0), (.ref 302), .none, (.ref 303), (.ref 304), (.ref 305), (.int 572 0), (.int 170 0), (.str (Str.ofString "/claim/cut.py") 573)]), #[]⟩) ::
  (nat_lit 307, ⟨(.type "function"), none, (.func ⟨(Str.ofString "base"), (Str.ofString "Cells.base"), ?p307, .stmts ?b307, ?s307, 3, [], .none, .none, .none, (.str (Str.ofString "clausemill.store") 406), none, (.ref 306), .none, 0⟩), #[]⟩) ::
  (nat_lit 308, ⟨(.type "tuple"), none, (.seq #[] 0), #[]⟩) ::
  (nat_lit 310, ⟨(.type "tuple"), none, (.seq #[(.str (Str.ofString "self") 578), (.str (Str.ofString "cell") 579), (.str (Str.ofString "i") 580)] 0), #[]⟩) ::
  (nat_lit 311, ⟨(.type "tuple"), none, (.seq #[] 0), #[]⟩) ::
  (nat_lit 313, ⟨(.type "code"), none, (.fields #[(.str (Str.ofString "arg") 575), (.str (Str.ofString "Cells.arg") 576), (.str (Str.ofString "/claim/cut.py") 577), (.int 175 0), (.int 3 0), (.int 0 0), (.int 0 0), (.int 3 0), (.ref 308), (.bool true), (.int 181 0), (.ref 309), .none, (.ref 310), (.ref 311), (.ref 312), (.int 581 0), (.int 175 0), (.str (Str.ofString "/claim/cut.py") 582)]), #[]⟩) ::
  (nat_lit 314, ⟨(.type "function"), none, (.func ⟨(Str.ofString "arg"), (Str.ofString "Cells.arg"), ?p314, .stmts ?b314, ?s314, 3, [], .none, .none, .none, (.str (Str.ofString "clausemill.store") 406), none, (.ref 313), .none, 0⟩), #[]⟩) ::
  (nat_lit 315, ⟨(.type "tuple"), none, (.seq #[] 0), #[]⟩) ::
  (nat_lit 317, ⟨(.type "tuple"), none, (.seq #[(.str (Str.ofString "self") 587), (.str (Str.ofString "f") 588)] 0), #[]⟩) ::
  (nat_lit 318, ⟨(.type "tuple"), none, (.seq #[] 0), #[]⟩) ::
  (nat_lit 320, ⟨(.type "code"), none, (.fields #[(.str (Str.ofString "new_block") 584), (.str (Str.ofString "Cells.new_block") 585), (.str (Str.ofString "/claim/cut.py") 586), (.int 178 0), (.int 2 0), (.int 0 0), (.int 0 0), (.int 3 0), (.ref 315), (.bool true), (.int 181 0), (.ref 316), .none, (.ref 317), (.ref 318), (.ref 319), (.int 589 0), (.int 178 0), (.str (Str.ofString "/claim/cut.py") 590)]), #[]⟩) ::
  (nat_lit 321, ⟨(.type "function"), none, (.func ⟨(Str.ofString "new_block"), (Str.ofString "Cells.new_block"), ?p321, .stmts ?b321, ?s321, 3, [], .none, .none, .none, (.str (Str.ofString "clausemill.store") 406), none, (.ref 320), .none, 0⟩), #[]⟩) ::
  (nat_lit 322, ⟨(.type "tuple"), none, (.seq #[(.str (Str.ofString "bb") 592), (.str (Str.ofString "hb") 593), (.str (Str.ofString "heap") 594), (.str (Str.ofString "max_heap") 595), (.str (Str.ofString "stack") 596), (.str (Str.ofString "symbols") 597), (.str (Str.ofString "trail") 598)] 0), #[]⟩) ::
  (nat_lit 323, ⟨(.type "dict"), none, (.dict #[⟨PyData.keyHash P (Str.ofString "__module__"), (.str (Str.ofString "__module__") 425), (.str (Str.ofString "clausemill.store") 406)⟩, ⟨PyData.keyHash P (Str.ofString "__firstlineno__"), (.str (Str.ofString "__firstlineno__") 429), (.int 88 428)⟩, ⟨PyData.keyHash P (Str.ofString "__init__"), (.str (Str.ofString "__init__") 439), (.ref 195)⟩, ⟨PyData.keyHash P (Str.ofString "push"), (.str (Str.ofString "push") 448), (.ref 202)⟩, ⟨PyData.keyHash P (Str.ofString "new_var"), (.str (Str.ofString "new_var") 456), (.ref 209)⟩, ⟨PyData.keyHash P (Str.ofString "reserve"), (.str (Str.ofString "reserve") 464), (.ref 216)⟩, ⟨PyData.keyHash P (Str.ofString "trim"), (.str (Str.ofString "trim") 472), (.ref 223)⟩, ⟨PyData.keyHash P (Str.ofString "deref"), (.str (Str.ofString "deref") 480), (.ref 230)⟩, ⟨PyData.keyHash P (Str.ofString "is_unbound"), (.str (Str.ofString "is_unbound") 488), (.ref 237)⟩, ⟨PyData.keyHash P (Str.ofString "bind"), (.str (Str.ofString "bind") 498), (.ref 244)⟩, ⟨PyData.keyHash P (Str.ofString "bind_pair"), (.str (Str.ofString "bind_pair") 507), (.ref 251)⟩, ⟨PyData.keyHash P (Str.ofString "globalise"), (.str (Str.ofString "globalise") 515), (.ref 258)⟩, ⟨PyData.keyHash P (Str.ofString "mark"), (.str (Str.ofString "mark") 522), (.ref 265)⟩, ⟨PyData.keyHash P (Str.ofString "undo_to"), (.str (Str.ofString "undo_to") 532), (.ref 272)⟩, ⟨PyData.keyHash P (Str.ofString "stack_put"), (.str (Str.ofString "stack_put") 542), (.ref 279)⟩, ⟨PyData.keyHash P (Str.ofString "is_compound"), (.str (Str.ofString "is_compound") 550), (.ref 286)⟩, ⟨PyData.keyHash P (Str.ofString "functor_of"), (.str (Str.ofString "functor_of") 558), (.ref 293)⟩, ⟨PyData.keyHash P (Str.ofString "width"), (.str (Str.ofString "width") 566), (.ref 300)⟩, ⟨PyData.keyHash P (Str.ofString "base"), (.str (Str.ofString "base") 574), (.ref 307)⟩, ⟨PyData.keyHash P (Str.ofString "arg"), (.str (Str.ofString "arg") 583), (.ref 314)⟩, ⟨PyData.keyHash P (Str.ofString "new_block"), (.str (Str.ofString "new_block") 591), (.ref 321)⟩, ⟨PyData.keyHash P (Str.ofString "__static_attributes__"), (.str (Str.ofString "__static_attributes__") 599), (.ref 322)⟩, ⟨PyData.keyHash P (Str.ofString "__dict__"), (.str (Str.ofString "__dict__") 601), (.ref 325)⟩, ⟨PyData.keyHash P (Str.ofString "__weakref__"), (.str (Str.ofString "__weakref__") 603), (.ref 326)⟩, ⟨PyData.keyHash P (Str.ofString "__doc__"), (.str (Str.ofString "__doc__") 604), .none⟩] 4), #[]⟩) ::
  (nat_lit 324, ⟨(.type "type"), none, (.cls ⟨(Str.ofString "Cells"), [(.type "object")], [(.ref 324), (.type "object")], 323, (Str.ofString "Cells"), true, [], [(.ref 381)], false, none, false⟩), #[none, none, (some (.str (Str.ofString "Cells") 418)), (some (.str (Str.ofString "Cells") 426)), (some (.builtin "object.__new__")), (some (.bool true))]⟩) ::
  (nat_lit 325, ⟨(.type "getset_descriptor"), none, (.fields #[(.str (Str.ofString "__dict__") 600), (.ref 324), (.builtin "function.__dict__"), (.builtin "function.__dict__#set")]), #[]⟩) ::
  (nat_lit 326, ⟨(.type "getset_descriptor"), none, (.fields #[(.str (Str.ofString "__weakref__") 602), (.ref 324), (.builtin "ExceptionGroup.__weakref__"), .none]), #[]⟩) ::
  (nat_lit 329, ⟨(.type "tuple"), none, (.seq #[(.ref 324)] 0), #[]⟩) ::
  (nat_lit 336, ⟨(.type "tuple"), none, (.seq #[] 0), #[]⟩) ::
  (nat_lit 338, ⟨(.type "tuple"), none, (.seq #[(.str (Str.ofString "self") 622), (.str (Str.ofString "f") 623), (.str (Str.ofString "cells") 624)] 0), #[]⟩) ::
  (nat_lit 339, ⟨(.type "tuple"), none, (.seq #[] 0), #[]⟩) ::
  (nat_lit 341, ⟨(.type "code"), none, (.fields #[(.str (Str.ofString "new_struct") 619), (.str (Str.ofString "Store.new_struct") 620), (.str (Str.ofString "/claim/cut.py") 621), (.int 182 0), (.int 3 0), (.int 0 0), (.int 0 0), (.int 3 0), (.ref 336), (.bool true), (.int 181 0), (.ref 337), .none, (.ref 338), (.ref 339), (.ref 340), (.int 625 0), (.int 182 0), (.str (Str.ofString "/claim/cut.py") 626)]), #[]⟩) ::
  (nat_lit 342, ⟨(.type "function"), none, (.func ⟨(Str.ofString "new_struct"), (Str.ofString "Store.new_struct"), ?p342, .stmts ?b342, ?s342, 3, [], .none, .none, .none, (.str (Str.ofString "clausemill.store") 406), none, (.ref 341), .none, 0⟩), #[]⟩) ::
  (nat_lit 343, ⟨(.type "tuple"), none, (.seq #[.none] 0), #[]⟩) ::
  (nat_lit 344, ⟨(.type "tuple"), none, (.seq #[] 0), #[]⟩) ::
  (nat_lit 346, ⟨(.type "tuple"), none, (.seq #[(.str (Str.ofString "self") 631), (.str (Str.ofString "cells") 632), (.str (Str.ofString "tail") 633)] 0), #[]⟩) ::
  (nat_lit 347, ⟨(.type "tuple"), none, (.seq #[] 0), #[]⟩) ::
  (nat_lit 349, ⟨(.type "code"), none, (.fields #[(.str (Str.ofString "build_list") 628), (.str (Str.ofString "Store.build_list") 629), (.str (Str.ofString "/claim/cut.py") 630), (.int 185 0), (.int 3 0), (.int 0 0), (.int 0 0), (.int 3 0), (.ref 344), (.bool true), (.int 181 0), (.ref 345), .none, (.ref 346), (.ref 347), (.ref 348), (.int 634 0), (.int 185 0), (.str (Str.ofString "/claim/cut.py") 635)]), #[]⟩) ::
  (nat_lit 350, ⟨(.type "function"), none, (.func ⟨(Str.ofString "build_list"), (Str.ofString "Store.build_list"), ?p350, .stmts ?b350, ?s350, 3, [], (.ref 343), .none, .none, (.str (Str.ofString "clausemill.store") 406), none, (.ref 349), .none, 0⟩), #[]⟩) ::
  (nat_lit 351, ⟨(.type "tuple"), none, (.seq #[] 0), #[]⟩) ::
  (nat_lit 353, ⟨(.type "tuple"), none, (.seq #[(.str (Str.ofString "self") 640), (.str (Str.ofString "cell") 641)] 0), #[]⟩) ::
  (nat_lit 354, ⟨(.type "tuple"), none, (.seq #[] 0), #[]⟩) ::
  (nat_lit 356, ⟨(.type "code"), none, (.fields #[(.str (Str.ofString "list_cells") 637), (.str (Str.ofString "Store.list_cells") 638), (.str (Str.ofString "/claim/cut.py") 639), (.int 188 0), (.int 2 0), (.int 0 0), (.int 0 0), (.int 3 0), (.ref 351), (.bool true), (.int 181 0), (.ref 352), .none, (.ref 353), (.ref 354), (.ref 355), (.int 642 0), (.int 188 0), (.str (Str.ofString "/claim/cut.py") 643)]), #[]⟩) ::
  (nat_lit 357, ⟨(.type "function"), none, (.func ⟨(Str.ofString "list_cells"), (Str.ofString "Store.list_cells"), ?p357, .stmts ?b357, ?s357, 3, [], .none, .none, .none, (.str (Str.ofString "clausemill.store") 406), none, (.ref 356), .none, 0⟩), #[]⟩) ::
  (nat_lit 358, ⟨(.type "tuple"), none, (.seq #[] 0), #[]⟩) ::
  (nat_lit 360, ⟨(.type "tuple"), none, (.seq #[(.str (Str.ofString "self") 648), (.str (Str.ofString "term") 649), (.str (Str.ofString "table") 650)] 0), #[]⟩) ::
  (nat_lit 361, ⟨(.type "tuple"), none, (.seq #[] 0), #[]⟩) ::
  (nat_lit 363, ⟨(.type "code"), none, (.fields #[(.str (Str.ofString "put_term") 645), (.str (Str.ofString "Store.put_term") 646), (.str (Str.ofString "/claim/cut.py") 647), (.int 191 0), (.int 3 0), (.int 0 0), (.int 0 0), (.int 3 0), (.ref 358), (.bool true), (.int 181 0), (.ref 359), .none, (.ref 360), (.ref 361), (.ref 362), (.int 651 0), (.int 191 0), (.str (Str.ofString "/claim/cut.py") 652)]), #[]⟩) ::
  (nat_lit 364, ⟨(.type "function"), none, (.func ⟨(Str.ofString "put_term"), (Str.ofString "Store.put_term"), ?p364, .stmts ?b364, ?s364, 3, [], .none, .none, .none, (.str (Str.ofString "clausemill.store") 406), none, (.ref 363), .none, 0⟩), #[]⟩) ::
  (nat_lit 365, ⟨(.type "tuple"), none, (.seq #[] 0), #[]⟩) ::
  (nat_lit 367, ⟨(.type "tuple"), none, (.seq #[(.str (Str.ofString "self") 657), (.str (Str.ofString "cell") 658), (.str (Str.ofString "sizes") 659)] 0), #[]⟩) ::
  (nat_lit 368, ⟨(.type "tuple"), none, (.seq #[] 0), #[]⟩) ::
  (nat_lit 370, ⟨(.type "code"), none, (.fields #[(.str (Str.ofString "whole_size") 654), (.str (Str.ofString "Store.whole_size") 655), (.str (Str.ofString "/claim/cut.py") 656), (.int 194 0), (.int 3 0), (.int 0 0), (.int 0 0), (.int 3 0), (.ref 365), (.bool true), (.int 181 0), (.ref 366), .none, (.ref 367), (.ref 368), (.ref 369), (.int 660 0), (.int 194 0), (.str (Str.ofString "/claim/cut.py") 661)]), #[]⟩) ::
  (nat_lit 371, ⟨(.type "function"), none, (.func ⟨(Str.ofString "whole_size"), (Str.ofString "Store.whole_size"), ?p371, .stmts ?b371, ?s371, 3, [], .none, .none, .none, (.str (Str.ofString "clausemill.store") 406), none, (.ref 370), .none, 0⟩), #[]⟩) ::
  (nat_lit 372, ⟨(.type "tuple"), none, (.seq #[] 0), #[]⟩) ::
  (nat_lit 374, ⟨(.type "tuple"), none, (.seq #[(.str (Str.ofString "self") 666), (.str (Str.ofString "cell") 667), (.str (Str.ofString "table") 668)] 0), #[]⟩) ::
  (nat_lit 375, ⟨(.type "tuple"), none, (.seq #[] 0), #[]⟩) ::
  (nat_lit 377, ⟨(.type "code"), none, (.fields #[(.str (Str.ofString "take_term") 663), (.str (Str.ofString "Store.take_term") 664), (.str (Str.ofString "/claim/cut.py") 665), (.int 197 0), (.int 3 0), (.int 0 0), (.int 0 0), (.int 3 0), (.ref 372), (.bool true), (.int 181 0), (.ref 373), .none, (.ref 374), (.ref 375), (.ref 376), (.int 669 0), (.int 197 0), (.str (Str.ofString "/claim/cut.py") 670)]), #[]⟩) ::
  (nat_lit 378, ⟨(.type "function"), none, (.func ⟨(Str.ofString "take_term"), (Str.ofString "Store.take_term"), ?p378, .stmts ?b378, ?s378, 3, [], .none, .none, .none, (.str (Str.ofString "clausemill.store") 406), none, (.ref 377), .none, 0⟩), #[]⟩) ::
  (nat_lit 379, ⟨(.type "tuple"), none, (.seq #[] 0), #[]⟩) ::
  (nat_lit 380, ⟨(.type "dict"), none, (.dict #[⟨PyData.keyHash P (Str.ofString "__module__"), (.str (Str.ofString "__module__") 614), (.str (Str.ofString "clausemill.store") 406)⟩, ⟨PyData.keyHash P (Str.ofString "__firstlineno__"), (.str (Str.ofString "__firstlineno__") 618), (.int 180 617)⟩, ⟨PyData.keyHash P (Str.ofString "new_struct"), (.str (Str.ofString "new_struct") 627), (.ref 342)⟩, ⟨PyData.keyHash P (Str.ofString "build_list"), (.str (Str.ofString "build_list") 636), (.ref 350)⟩, ⟨PyData.keyHash P (Str.ofString "list_cells"), (.str (Str.ofString "list_cells") 644), (.ref 357)⟩, ⟨PyData.keyHash P (Str.ofString "put_term"), (.str (Str.ofString "put_term") 653), (.ref 364)⟩, ⟨PyData.keyHash P (Str.ofString "whole_size"), (.str (Str.ofString "whole_size") 662), (.ref 371)⟩, ⟨PyData.keyHash P (Str.ofString "take_term"), (.str (Str.ofString "take_term") 671), (.ref 378)⟩, ⟨PyData.keyHash P (Str.ofString "__static_attributes__"), (.str (Str.ofString "__static_attributes__") 672), (.ref 379)⟩, ⟨PyData.keyHash P (Str.ofString "__doc__"), (.str (Str.ofString "__doc__") 673), .none⟩] 2), #[]⟩) ::
  (nat_lit 381, ⟨(.type "type"), none, (.cls ⟨(Str.ofString "Store"), [(.ref 324)], [(.ref 381), (.ref 324), (.type "object")], 380, (Str.ofString "Store"), true, [], [], false, none, false⟩), #[(some (.ref 329)), none, (some (.str (Str.ofString "Store") 607)), (some (.str (Str.ofString "Store") 615)), (some (.builtin "object.__new__")), (some (.bool true))]⟩) ::
  (nat_lit 391, ⟨(.type "tuple"), none, (.seq #[(.int 100000 708), (.bool true), (.int 4096 709)] 0), #[]⟩) ::
  (nat_lit 392, ⟨(.type "tuple"), none, (.seq #[] 0), #[]⟩) ::
  (nat_lit 394, ⟨(.type "tuple"), none, (.seq #[(.str (Str.ofString "self") 713), (.str (Str.ofString "symbols") 714), (.str (Str.ofString "code") 715), (.str (Str.ofString "max_heap") 716), (.str (Str.ofString "occurs") 717), (.str (Str.ofString "max_bits") 718)] 0), #[]⟩) ::
  (nat_lit 395, ⟨(.type "tuple"), none, (.seq #[] 0), #[]⟩) ::
  (nat_lit 397, ⟨(.type "code"), none, (.fields #[(.str (Str.ofString "__init__") 710), (.str (Str.ofString "Areas.__init__") 711), (.str (Str.ofString "/claim/cut.py") 712), (.int 211 0), (.int 6 0), (.int 0 0), (.int 0 0), (.int 3 0), (.ref 392), (.bool true), (.int 181 0), (.ref 393), .none, (.ref 394), (.ref 395), (.ref 396), (.int 719 0), (.int 211 0), (.str (Str.ofString "/claim/cut.py") 720)]), #[]⟩) ::
  (nat_lit 398, ⟨(.type "function"), none, (.func ⟨(Str.ofString "__init__"), (Str.ofString "Areas.__init__"), ?p398, .stmts ?b398, ?s398, 3, [], (.ref 391), .none, .none, (.str (Str.ofString "clausemill.areas") 676), none, (.ref 397), .none, 0⟩), #[]⟩) ::
  (nat_lit 399, ⟨(.type "tuple"), none, (.seq #[] 0), #[]⟩) ::
  (nat_lit 401, ⟨(.type "tuple"), none, (.seq #[(.str (Str.ofString "self") 725)] 0), #[]⟩) ::
  (nat_lit 402, ⟨(.type "tuple"), none, (.seq #[] 0), #[]⟩) ::
  (nat_lit 404, ⟨(.type "code"), none, (.fields #[(.str (Str.ofString "reset") 722), (.str (Str.ofString "Areas.reset") 723), (.str (Str.ofString "/claim/cut.py") 724), (.int 219 0), (.int 1 0), (.int 0 0), (.int 0 0), (.int 3 0), (.ref 399), (.bool true), (.int 181 0), (.ref 400), .none, (.ref 401), (.ref 402), (.ref 403), (.int 726 0), (.int 219 0), (.str (Str.ofString "/claim/cut.py") 727)]), #[]⟩) ::
  (nat_lit 405, ⟨(.type "function"), none, (.func ⟨(Str.ofString "reset"), (Str.ofString "Areas.reset"), ?p405, .stmts ?b405, ?s405, 3, [], .none, .none, .none, (.str (Str.ofString "clausemill.areas") 676), none, (.ref 404), .none, 0⟩), #[]⟩) ::
  (nat_lit 406, ⟨(.type "tuple"), none, (.seq #[] 0), #[]⟩) ::
  (nat_lit 408, ⟨(.type "tuple"), none, (.seq #[(.str (Str.ofString "self") 732), (.str (Str.ofString "number") 733), (.str (Str.ofString "cell") 734)] 0), #[]⟩) ::
  (nat_lit 409, ⟨(.type "tuple"), none, (.seq #[] 0), #[]⟩) ::
  (nat_lit 411, ⟨(.type "code"), none, (.fields #[(.str (Str.ofString "set_x") 729), (.str (Str.ofString "Areas.set_x") 730), (.str (Str.ofString "/claim/cut.py") 731), (.int 234 0), (.int 3 0), (.int 0 0), (.int 0 0), (.int 3 0), (.ref 406), (.bool true), (.int 181 0), (.ref 407), .none, (.ref 408), (.ref 409), (.ref 410), (.int 735 0), (.int 234 0), (.str (Str.ofString "/claim/cut.py") 736)]), #[]⟩) ::
  (nat_lit 412, ⟨(.type "function"), none, (.func ⟨(Str.ofString "set_x"), (Str.ofString "Areas.set_x"), ?p412, .stmts ?b412, ?s412, 3, [], .none, .none, .none, (.str (Str.ofString "clausemill.areas") 676), none, (.ref 411), .none, 0⟩), #[]⟩) ::
  (nat_lit 413, ⟨(.type "tuple"), none, (.seq #[] 0), #[]⟩) ::
  (nat_lit 415, ⟨(.type "tuple"), none, (.seq #[(.str (Str.ofString "self") 741), (.str (Str.ofString "cells") 742)] 0), #[]⟩) ::
  (nat_lit 416, ⟨(.type "tuple"), none, (.seq #[] 0), #[]⟩) ::
  (nat_lit 418, ⟨(.type "code"), none, (.fields #[(.str (Str.ofString "set_arguments") 738), (.str (Str.ofString "Areas.set_arguments") 739), (.str (Str.ofString "/claim/cut.py") 740), (.int 237 0), (.int 2 0), (.int 0 0), (.int 0 0), (.int 3 0), (.ref 413), (.bool true), (.int 181 0), (.ref 414), .none, (.ref 415), (.ref 416), (.ref 417), (.int 743 0), (.int 237 0), (.str (Str.ofString "/claim/cut.py") 744)]), #[]⟩) ::
  (nat_lit 419, ⟨(.type "function"), none, (.func ⟨(Str.ofString "set_arguments"), (Str.ofString "Areas.set_arguments"), ?p419, .stmts ?b419, ?s419, 3, [], .none, .none, .none, (.str (Str.ofString "clausemill.areas") 676), none, (.ref 418), .none, 0⟩), #[]⟩) ::
  (nat_lit 420, ⟨(.type "tuple"), none, (.seq #[] 0), #[]⟩) ::
  (nat_lit 422, ⟨(.type "tuple"), none, (.seq #[(.str (Str.ofString "self") 749), (.str (Str.ofString "i") 750)] 0), #[]⟩) ::
  (nat_lit 423, ⟨(.type "tuple"), none, (.seq #[] 0), #[]⟩) ::
  (nat_lit 425, ⟨(.type "code"), none, (.fields #[(.str (Str.ofString "arg") 746), (.str (Str.ofString "Areas.arg") 747), (.str (Str.ofString "/claim/cut.py") 748), (.int 240 0), (.int 2 0), (.int 0 0), (.int 0 0), (.int 3 0), (.ref 420), (.bool true), (.int 181 0), (.ref 421), .none, (.ref 422), (.ref 423), (.ref 424), (.int 751 0), (.int 240 0), (.str (Str.ofString "/claim/cut.py") 752)]), #[]⟩) ::
  (nat_lit 426, ⟨(.type "function"), none, (.func ⟨(Str.ofString "arg"), (Str.ofString "Areas.arg"), ?p426, .stmts ?b426, ?s426, 3, [], .none, .none, .none, (.str (Str.ofString "clausemill.areas") 676), none, (.ref 425), .none, 0⟩), #[]⟩) ::
  (nat_lit 427, ⟨(.type "tuple"), none, (.seq #[] 0), #[]⟩) ::
  (nat_lit 429, ⟨(.type "tuple"), none, (.seq #[(.str (Str.ofString "self") 757), (.str (Str.ofString "c1") 758), (.str (Str.ofString "c2") 759)] 0), #[]⟩) ::
  (nat_lit 430, ⟨(.type "tuple"), none, (.seq #[] 0), #[]⟩) ::
  (nat_lit 432, ⟨(.type "code"), none, (.fields #[(.str (Str.ofString "unify") 754), (.str (Str.ofString "Areas.unify") 755), (.str (Str.ofString "/claim/cut.py") 756), (.int 243 0), (.int 3 0), (.int 0 0), (.int 0 0), (.int 3 0), (.ref 427), (.bool true), (.int 181 0), (.ref 428), .none, (.ref 429), (.ref 430), (.ref 431), (.int 760 0), (.int 243 0), (.str (Str.ofString "/claim/cut.py") 761)]), #[]⟩) ::
  (nat_lit 433, ⟨(.type "function"), none, (.func ⟨(Str.ofString "unify"), (Str.ofString "Areas.unify"), ?p433, .stmts ?b433, ?s433, 3, [], .none, .none, .none, (.str (Str.ofString "clausemill.areas") 676), none, (.ref 432), .none, 0⟩), #[]⟩) ::
  (nat_lit 434, ⟨(.type "tuple"), none, (.seq #[] 0), #[]⟩) ::
  (nat_lit 436, ⟨(.type "tuple"), none, (.seq #[(.str (Str.ofString "self") 766), (.str (Str.ofString "cell") 767)] 0), #[]⟩) ::
  (nat_lit 437, ⟨(.type "tuple"), none, (.seq #[] 0), #[]⟩) ::
  (nat_lit 439, ⟨(.type "code"), none, (.fields #[(.str (Str.ofString "take") 763), (.str (Str.ofString "Areas.take") 764), (.str (Str.ofString "/claim/cut.py") 765), (.int 246 0), (.int 2 0), (.int 0 0), (.int 0 0), (.int 3 0), (.ref 434), (.bool true), (.int 181 0), (.ref 435), .none, (.ref 436), (.ref 437), (.ref 438), (.int 768 0), (.int 246 0), (.str (Str.ofString "/claim/cut.py") 769)]), #[]⟩) ::
  (nat_lit 440, ⟨(.type "function"), none, (.func ⟨(Str.ofString "take"), (Str.ofString "Areas.take"), ?p440, .stmts ?b440, ?s440, 3, [], .none, .none, .none, (.str (Str.ofString "clausemill.areas") 676), none, (.ref 439), .none, 0⟩), #[]⟩) ::
  (nat_lit 441, ⟨(.type "tuple"), none, (.seq #[] 0), #[]⟩) ::
  (nat_lit 443, ⟨(.type "tuple"), none, (.seq #[(.str (Str.ofString "self") 774), (.str (Str.ofString "term") 775)] 0), #[]⟩) ::
  (nat_lit 444, ⟨(.type "tuple"), none, (.seq #[] 0), #[]⟩) ::
  (nat_lit 446, ⟨(.type "code"), none, (.fields #[(.str (Str.ofString "put") 771), (.str (Str.ofString "Areas.put") 772), (.str (Str.ofString "/claim/cut.py") 773), (.int 249 0), (.int 2 0), (.int 0 0), (.int 0 0), (.int 3 0), (.ref 441), (.bool true), (.int 181 0), (.ref 442), .none, (.ref 443), (.ref 444), (.ref 445), (.int 776 0), (.int 249 0), (.str (Str.ofString "/claim/cut.py") 777)]), #[]⟩) ::
  (nat_lit 447, ⟨(.type "function"), none, (.func ⟨(Str.ofString "put"), (Str.ofString "Areas.put"), ?p447, .stmts ?b447, ?s447, 3, [], .none, .none, .none, (.str (Str.ofString "clausemill.areas") 676), none, (.ref 446), .none, 0⟩), #[]⟩) ::
  (nat_lit 448, ⟨(.type "tuple"), none, (.seq #[] 0), #[]⟩) ::
  (nat_lit 450, ⟨(.type "tuple"), none, (.seq #[(.str (Str.ofString "self") 782)] 0), #[]⟩) ::
  (nat_lit 451, ⟨(.type "tuple"), none, (.seq #[] 0), #[]⟩) ::
  (nat_lit 453, ⟨(.type "code"), none, (.fields #[(.str (Str.ofString "top") 779), (.str (Str.ofString "Areas.top") 780), (.str (Str.ofString "/claim/cut.py") 781), (.int 252 0), (.int 1 0), (.int 0 0), (.int 0 0), (.int 3 0), (.ref 448), (.bool true), (.int 181 0), (.ref 449), .none, (.ref 450), (.ref 451), (.ref 452), (.int 783 0), (.int 252 0), (.str (Str.ofString "/claim/cut.py") 784)]), #[]⟩) ::
  (nat_lit 454, ⟨(.type "function"), none, (.func ⟨(Str.ofString "top"), (Str.ofString "Areas.top"), ?p454, .stmts ?b454, ?s454, 3, [], .none, .none, .none, (.str (Str.ofString "clausemill.areas") 676), none, (.ref 453), .none, 0⟩), #[]⟩) ::
  (nat_lit 455, ⟨(.type "tuple"), none, (.seq #[] 0), #[]⟩) ::
  (nat_lit 457, ⟨(.type "tuple"), none, (.seq #[(.str (Str.ofString "self") 789), (.str (Str.ofString "size") 790), (.str (Str.ofString "place") 791), (.str (Str.ofString "store") 792), (.str (Str.ofString "number") 793)] 0), #[]⟩) ::
  (nat_lit 458, ⟨(.type "tuple"), none, (.seq #[] 0), #[]⟩) ::
  (nat_lit 460, ⟨(.type "code"), none, (.fields #[(.str (Str.ofString "push_environment") 786), (.str (Str.ofString "Areas.push_environment") 787), (.str (Str.ofString "/claim/cut.py") 788), (.int 259 0), (.int 2 0), (.int 0 0), (.int 0 0), (.int 3 0), (.ref 455), (.bool true), (.int 181 0), (.ref 456), .none, (.ref 457), (.ref 458), (.ref 459), (.int 794 0), (.int 259 0), (.str (Str.ofString "/claim/cut.py") 795)]), #[]⟩) ::
  (nat_lit 461, ⟨(.type "function"), none, (.func ⟨(Str.ofString "push_environment"), (Str.ofString "Areas.push_environment"), ?p461, .stmts ?b461, ?s461, 3, [], .none, .none, .none, (.str (Str.ofString "clausemill.areas") 676), none, (.ref 460), .none, 0⟩), #[]⟩) ::
  (nat_lit 462, ⟨(.type "tuple"), none, (.seq #[] 0), #[]⟩) ::
  (nat_lit 464, ⟨(.type "tuple"), none, (.seq #[(.str (Str.ofString "self") 800)] 0), #[]⟩) ::
  (nat_lit 465, ⟨(.type "tuple"), none, (.seq #[] 0), #[]⟩) ::
  (nat_lit 467, ⟨(.type "code"), none, (.fields #[(.str (Str.ofString "pop_environment") 797), (.str (Str.ofString "Areas.pop_environment") 798), (.str (Str.ofString "/claim/cut.py") 799), (.int 268 0), (.int 1 0), (.int 0 0), (.int 0 0), (.int 3 0), (.ref 462), (.bool true), (.int 181 0), (.ref 463), .none, (.ref 464), (.ref 465), (.ref 466), (.int 801 0), (.int 268 0), (.str (Str.ofString "/claim/cut.py") 802)]), #[]⟩) ::
  (nat_lit 468, ⟨(.type "function"), none, (.func ⟨(Str.ofString "pop_environment"), (Str.ofString "Areas.pop_environment"), ?p468, .stmts ?b468, ?s468, 3, [], .none, .none, .none, (.str (Str.ofString "clausemill.areas") 676), none, (.ref 467), .none, 0⟩), #[]⟩) ::
  (nat_lit 469, ⟨(.type "tuple"), none, (.seq #[] 0), #[]⟩) ::
  (nat_lit 471, ⟨(.type "tuple"), none, (.seq #[(.str (Str.ofString "self") 807), (.str (Str.ofString "index") 808)] 0), #[]⟩) ::
  (nat_lit 472, ⟨(.type "tuple"), none, (.seq #[] 0), #[]⟩) ::
  (nat_lit 474, ⟨(.type "code"), none, (.fields #[(.str (Str.ofString "in_chain") 804), (.str (Str.ofString "Areas.in_chain") 805), (.str (Str.ofString "/claim/cut.py") 806), (.int 271 0), (.int 2 0), (.int 0 0), (.int 0 0), (.int 3 0), (.ref 469), (.bool true), (.int 181 0), (.ref 470), .none, (.ref 471), (.ref 472), (.ref 473), (.int 809 0), (.int 271 0), (.str (Str.ofString "/claim/cut.py") 810)]), #[]⟩) ::
  (nat_lit 475, ⟨(.type "function"), none, (.func ⟨(Str.ofString "in_chain"), (Str.ofString "Areas.in_chain"), ?p475, .stmts ?b475, ?s475, 3, [], .none, .none, .none, (.str (Str.ofString "clausemill.areas") 676), none, (.ref 474), .none, 0⟩), #[]⟩) ::
  (nat_lit 476, ⟨(.type "tuple"), none, (.seq #[] 0), #[]⟩) ::
  (nat_lit 478, ⟨(.type "tuple"), none, (.seq #[(.str (Str.ofString "self") 815), (.str (Str.ofString "b") 816), (.str (Str.ofString "store") 817)] 0), #[]⟩) ::
  (nat_lit 479, ⟨(.type "tuple"), none, (.seq #[] 0), #[]⟩) ::
  (nat_lit 481, ⟨(.type "code"), none, (.fields #[(.str (Str.ofString "set_choice") 812), (.str (Str.ofString "Areas.set_choice") 813), (.str (Str.ofString "/claim/cut.py") 814), (.int 274 0), (.int 2 0), (.int 0 0), (.int 0 0), (.int 3 0), (.ref 476), (.bool true), (.int 181 0), (.ref 477), .none, (.ref 478), (.ref 479), (.ref 480), (.int 818 0), (.int 274 0), (.str (Str.ofString "/claim/cut.py") 819)]), #[]⟩) ::
  (nat_lit 482, ⟨(.type "function"), none, (.func ⟨(Str.ofString "set_choice"), (Str.ofString "Areas.set_choice"), ?p482, .stmts ?b482, ?s482, 3, [], .none, .none, .none, (.str (Str.ofString "clausemill.areas") 676), none, (.ref 481), .none, 0⟩), #[]⟩) ::
  (nat_lit 483, ⟨(.type "tuple"), none, (.seq #[] 0), #[]⟩) ::
  (nat_lit 485, ⟨(.type "tuple"), none, (.seq #[(.str (Str.ofString "self") 824), (.str (Str.ofString "cells") 825), (.str (Str.ofString "alternative") 826), (.str (Str.ofString "store") 827), (.str (Str.ofString "place") 828), (.str (Str.ofString "count") 829), (.str (Str.ofString "at") 830), (.str (Str.ofString "cell") 831)] 0), #[]⟩) ::
  (nat_lit 486, ⟨(.type "tuple"), none, (.seq #[] 0), #[]⟩) ::
  (nat_lit 488, ⟨(.type "code"), none, (.fields #[(.str (Str.ofString "push_choice") 821), (.str (Str.ofString "Areas.push_choice") 822), (.str (Str.ofString "/claim/cut.py") 823), (.int 284 0), (.int 3 0), (.int 0 0), (.int 0 0), (.int 3 0), (.ref 483), (.bool true), (.int 181 0), (.ref 484), .none, (.ref 485), (.ref 486), (.ref 487), (.int 832 0), (.int 284 0), (.str (Str.ofString "/claim/cut.py") 833)]), #[]⟩) ::
  (nat_lit 489, ⟨(.type "function"), none, (.func ⟨(Str.ofString "push_choice"), (Str.ofString "Areas.push_choice"), ?p489, .stmts ?b489, ?s489, 3, [], .none, .none, .none, (.str (Str.ofString "clausemill.areas") 676), none, (.ref 488), .none, 0⟩), #[]⟩) ::
  (nat_lit 490, ⟨(.type "tuple"), none, (.seq #[] 0), #[]⟩) ::
  (nat_lit 492, ⟨(.type "tuple"), none, (.seq #[(.str (Str.ofString "self") 838), (.str (Str.ofString "address") 839)] 0), #[]⟩) ::
  (nat_lit 493, ⟨(.type "tuple"), none, (.seq #[] 0), #[]⟩) ::
  (nat_lit 495, ⟨(.type "code"), none, (.fields #[(.str (Str.ofString "set_alternative") 835), (.str (Str.ofString "Areas.set_alternative") 836), (.str (Str.ofString "/claim/cut.py") 837), (.int 302 0), (.int 2 0), (.int 0 0), (.int 0 0), (.int 3 0), (.ref 490), (.bool true), (.int 181 0), (.ref 491), .none, (.ref 492), (.ref 493), (.ref 494), (.int 840 0), (.int 302 0), (.str (Str.ofString "/claim/cut.py") 841)]), #[]⟩) ::
  (nat_lit 496, ⟨(.type "function"), none, (.func ⟨(Str.ofString "set_alternative"), (Str.ofString "Areas.set_alternative"), ?p496, .stmts ?b496, ?s496, 3, [], .none, .none, .none, (.str (Str.ofString "clausemill.areas") 676), none, (.ref 495), .none, 0⟩), #[]⟩) ::
  (nat_lit 497, ⟨(.type "tuple"), none, (.seq #[] 0), #[]⟩) ::
  (nat_lit 499, ⟨(.type "tuple"), none, (.seq #[(.str (Str.ofString "self") 846), (.str (Str.ofString "part") 847), (.str (Str.ofString "stack") 848)] 0), #[]⟩) ::
  (nat_lit 500, ⟨(.type "tuple"), none, (.seq #[] 0), #[]⟩) ::
  (nat_lit 502, ⟨(.type "code"), none, (.fields #[(.str (Str.ofString "choice_part") 843), (.str (Str.ofString "Areas.choice_part") 844), (.str (Str.ofString "/claim/cut.py") 845), (.int 305 0), (.int 2 0), (.int 0 0), (.int 0 0), (.int 3 0), (.ref 497), (.bool true), (.int 181 0), (.ref 498), .none, (.ref 499), (.ref 500), (.ref 501), (.int 849 0), (.int 305 0), (.str (Str.ofString "/claim/cut.py") 850)]), #[]⟩) ::
  (nat_lit 503, ⟨(.type "function"), none, (.func ⟨(Str.ofString "choice_part"), (Str.ofString "Areas.choice_part"), ?p503, .stmts ?b503, ?s503, 3, [], .none, .none, .none, (.str (Str.ofString "clausemill.areas") 676), none, (.ref 502), .none, 0⟩), #[]⟩) ::
  (nat_lit 504, ⟨(.type "tuple"), none, (.seq #[] 0), #[]⟩) ::
  (nat_lit 506, ⟨(.type "tuple"), none, (.seq #[(.str (Str.ofString "self") 855)] 0), #[]⟩) ::
  (nat_lit 507, ⟨(.type "tuple"), none, (.seq #[] 0), #[]⟩) ::
  (nat_lit 509, ⟨(.type "code"), none, (.fields #[(.str (Str.ofString "restore_choice") 852), (.str (Str.ofString "Areas.restore_choice") 853), (.str (Str.ofString "/claim/cut.py") 854), (.int 309 0), (.int 1 0), (.int 0 0), (.int 0 0), (.int 3 0), (.ref 504), (.bool true), (.int 181 0), (.ref 505), .none, (.ref 506), (.ref 507), (.ref 508), (.int 856 0), (.int 309 0), (.str (Str.ofString "/claim/cut.py") 857)]), #[]⟩) ::
  (nat_lit 510, ⟨(.type "function"), none, (.func ⟨(Str.ofString "restore_choice"), (Str.ofString "Areas.restore_choice"), ?p510, .stmts ?b510, ?s510, 3, [], .none, .none, .none, (.str (Str.ofString "clausemill.areas") 676), none, (.ref 509), .none, 0⟩), #[]⟩) ::
  (nat_lit 511, ⟨(.type "tuple"), none, (.seq #[] 0), #[]⟩) ::
  (nat_lit 513, ⟨(.type "tuple"), none, (.seq #[(.str (Str.ofString "self") 862)] 0), #[]⟩) ::
  (nat_lit 514, ⟨(.type "tuple"), none, (.seq #[] 0), #[]⟩) ::
  (nat_lit 516, ⟨(.type "code"), none, (.fields #[(.str (Str.ofString "pop_choice") 859), (.str (Str.ofString "Areas.pop_choice") 860), (.str (Str.ofString "/claim/cut.py") 861), (.int 312 0), (.int 1 0), (.int 0 0), (.int 0 0), (.int 3 0), (.ref 511), (.bool true), (.int 181 0), (.ref 512), .none, (.ref 513), (.ref 514), (.ref 515), (.int 863 0), (.int 312 0), (.str (Str.ofString "/claim/cut.py") 864)]), #[]⟩) ::
  (nat_lit 517, ⟨(.type "function"), none, (.func ⟨(Str.ofString "pop_choice"), (Str.ofString "Areas.pop_choice"), ?p517, .stmts ?b517, ?s517, 3, [], .none, .none, .none, (.str (Str.ofString "clausemill.areas") 676), none, (.ref 516), .none, 0⟩), #[]⟩) ::
  (nat_lit 518, ⟨(.type "tuple"), none, (.seq #[] 0), #[]⟩) ::
  (nat_lit 520, ⟨(.type "tuple"), none, (.seq #[(.str (Str.ofString "self") 869), (.str (Str.ofString "b") 870)] 0), #[]⟩) ::
  (nat_lit 521, ⟨(.type "tuple"), none, (.seq #[] 0), #[]⟩) ::
  (nat_lit 523, ⟨(.type "code"), none, (.fields #[(.str (Str.ofString "cut_back") 866), (.str (Str.ofString "Areas.cut_back") 867), (.str (Str.ofString "/claim/cut.py") 868), (.int 315 0), (.int 2 0), (.int 0 0), (.int 0 0), (.int 3 0), (.ref 518), (.bool true), (.int 181 0), (.ref 519), .none, (.ref 520), (.ref 521), (.ref 522), (.int 871 0), (.int 315 0), (.str (Str.ofString "/claim/cut.py") 872)]), #[]⟩) ::
  (nat_lit 524, ⟨(.type "function"), none, (.func ⟨(Str.ofString "cut_back"), (Str.ofString "Areas.cut_back"), ?p524, .stmts ?b524, ?s524, 3, [], .none, .none, .none, (.str (Str.ofString "clausemill.areas") 676), none, (.ref 523), .none, 0⟩), #[]⟩) ::
  (nat_lit 525, ⟨(.type "tuple"), none, (.seq #[] 0), #[]⟩) ::
  (nat_lit 527, ⟨(.type "tuple"), none, (.seq #[(.str (Str.ofString "self") 877), (.str (Str.ofString "stack") 878), (.str (Str.ofString "found") 879), (.str (Str.ofString "b") 880)] 0), #[]⟩) ::
  (nat_lit 528, ⟨(.type "tuple"), none, (.seq #[] 0), #[]⟩) ::
  (nat_lit 530, ⟨(.type "code"), none, (.fields #[(.str (Str.ofString "choices") 874), (.str (Str.ofString "Areas.choices") 875), (.str (Str.ofString "/claim/cut.py") 876), (.int 319 0), (.int 1 0), (.int 0 0), (.int 0 0), (.int 3 0), (.ref 525), (.bool true), (.int 181 0), (.ref 526), .none, (.ref 527), (.ref 528), (.ref 529), (.int 881 0), (.int 319 0), (.str (Str.ofString "/claim/cut.py") 882)]), #[]⟩) ::
  (nat_lit 531, ⟨(.type "function"), none, (.func ⟨(Str.ofString "choices"), (Str.ofString "Areas.choices"), ?p531, .stmts ?b531, ?s531, 3, [], .none, .none, .none, (.str (Str.ofString "clausemill.areas") 676), none, (.ref 530), .none, 0⟩), #[]⟩) ::
  (nat_lit 532, ⟨(.type "tuple"), none, (.seq #[] 0), #[]⟩) ::
  (nat_lit 534, ⟨(.type "tuple"), none, (.seq #[(.str (Str.ofString "self") 887)] 0), #[]⟩) ::
  (nat_lit 535, ⟨(.type "tuple"), none, (.seq #[] 0), #[]⟩) ::
  (nat_lit 537, ⟨(.type "code"), none, (.fields #[(.str (Str.ofString "environments") 884), (.str (Str.ofString "Areas.environments") 885), (.str (Str.ofString "/claim/cut.py") 886), (.int 328 0), (.int 1 0), (.int 0 0), (.int 0 0), (.int 3 0), (.ref 532), (.bool true), (.int 181 0), (.ref 533), .none, (.ref 534), (.ref 535), (.ref 536), (.int 888 0), (.int 328 0), (.str (Str.ofString "/claim/cut.py") 889)]), #[]⟩) ::
  (nat_lit 538, ⟨(.type "function"), none, (.func ⟨(Str.ofString "environments"), (Str.ofString "Areas.environments"), ?p538, .stmts ?b538, ?s538, 3, [], .none, .none, .none, (.str (Str.ofString "clausemill.areas") 676), none, (.ref 537), .none, 0⟩), #[]⟩) ::
  (nat_lit 539, ⟨(.type "tuple"), none, (.seq #[(.str (Str.ofString "b") 891), (.str (Str.ofString "b0") 892), (.str (Str.ofString "bags") 893), (.str (Str.ofString "code") 894), (.str (Str.ofString "collect_wanted") 895), (.str (Str.ofString "cp") 896), (.str (Str.ofString "e") 897), (.str (Str.ofString "guard") 898), (.str (Str.ofString "max_bits") 899), (.str (Str.ofString "max_heap") 900), (.str (Str.ofString "mode") 901), (.str (Str.ofString "occurs") 902), (.str (Str.ofString "p") 903), (.str (Str.ofString "roots") 904), (.str (Str.ofString "s") 905), (.str (Str.ofString "store") 906), (.str (Str.ofString "symbols") 907), (.str (Str.ofString "x") 908)] 0), #[]⟩) ::
  (nat_lit 540, ⟨(.type "dict"), none, (.dict #[⟨PyData.keyHash P (Str.ofString "__module__"), (.str (Str.ofString "__module__") 703), (.str (Str.ofString "clausemill.areas") 676)⟩, ⟨PyData.keyHash P (Str.ofString "__firstlineno__"), (.str (Str.ofString "__firstlineno__") 707), (.int 209 706)⟩, ⟨PyData.keyHash P (Str.ofString "__init__"), (.str (Str.ofString "__init__") 721), (.ref 398)⟩, ⟨PyData.keyHash P (Str.ofString "reset"), (.str (Str.ofString "reset") 728), (.ref 405)⟩, ⟨PyData.keyHash P (Str.ofString "set_x"), (.str (Str.ofString "set_x") 737), (.ref 412)⟩, ⟨PyData.keyHash P (Str.ofString "set_arguments"), (.str (Str.ofString "set_arguments") 745), (.ref 419)⟩, ⟨PyData.keyHash P (Str.ofString "arg"), (.str (Str.ofString "arg") 753), (.ref 426)⟩, ⟨PyData.keyHash P (Str.ofString "unify"), (.str (Str.ofString "unify") 762), (.ref 433)⟩, ⟨PyData.keyHash P (Str.ofString "take"), (.str (Str.ofString "take") 770), (.ref 440)⟩, ⟨PyData.keyHash P (Str.ofString "put"), (.str (Str.ofString "put") 778), (.ref 447)⟩, ⟨PyData.keyHash P (Str.ofString "top"), (.str (Str.ofString "top") 785), (.ref 454)⟩, ⟨PyData.keyHash P (Str.ofString "push_environment"), (.str (Str.ofString "push_environment") 796), (.ref 461)⟩, ⟨PyData.keyHash P (Str.ofString "pop_environment"), (.str (Str.ofString "pop_environment") 803), (.ref 468)⟩, ⟨PyData.keyHash P (Str.ofString "in_chain"), (.str (Str.ofString "in_chain") 811), (.ref 475)⟩, ⟨PyData.keyHash P (Str.ofString "set_choice"), (.str (Str.ofString "set_choice") 820), (.ref 482)⟩, ⟨PyData.keyHash P (Str.ofString "push_choice"), (.str (Str.ofString "push_choice") 834), (.ref 489)⟩, ⟨PyData.keyHash P (Str.ofString "set_alternative"), (.str (Str.ofString "set_alternative") 842), (.ref 496)⟩, ⟨PyData.keyHash P (Str.ofString "choice_part"), (.str (Str.ofString "choice_part") 851), (.ref 503)⟩, ⟨PyData.keyHash P (Str.ofString "restore_choice"), (.str (Str.ofString "restore_choice") 858), (.ref 510)⟩, ⟨PyData.keyHash P (Str.ofString "pop_choice"), (.str (Str.ofString "pop_choice") 865), (.ref 517)⟩, ⟨PyData.keyHash P (Str.ofString "cut_back"), (.str (Str.ofString "cut_back") 873), (.ref 524)⟩, ⟨PyData.keyHash P (Str.ofString "choices"), (.str (Str.ofString "choices") 883), (.ref 531)⟩, ⟨PyData.keyHash P (Str.ofString "environments"), (.str (Str.ofString "environments") 890), (.ref 538)⟩, ⟨PyData.keyHash P (Str.ofString "__static_attributes__"), (.str (Str.ofString "__static_attributes__") 909), (.ref 539)⟩, ⟨PyData.keyHash P (Str.ofString "__dict__"), (.str (Str.ofString "__dict__") 911), (.ref 542)⟩, ⟨PyData.keyHash P (Str.ofString "__weakref__"), (.str (Str.ofString "__weakref__") 913), (.ref 543)⟩, ⟨PyData.keyHash P (Str.ofString "__doc__"), (.str (Str.ofString "__doc__") 914), .none⟩] 4), #[]⟩) ::
  (nat_lit 541, ⟨(.type "type"), none, (.cls ⟨(Str.ofString "Areas"), [(.type "object")], [(.ref 541), (.type "object")], 540, (Str.ofString "Areas"), true, [], [], false, none, false⟩), #[none, none, (some (.str (Str.ofString "Areas") 696)), (some (.str (Str.ofString "Areas") 704)), (some (.builtin "object.__new__")), (some (.bool true))]⟩) ::
  (nat_lit 542, ⟨(.type "getset_descriptor"), none, (.fields #[(.str (Str.ofString "__dict__") 910), (.ref 541), (.builtin "function.__dict__"), (.builtin "function.__dict__#set")]), #[]⟩) ::
  (nat_lit 543, ⟨(.type "getset_descriptor"), none, (.fields #[(.str (Str.ofString "__weakref__") 912), (.ref 541), (.builtin "ExceptionGroup.__weakref__"), .none]), #[]⟩) ::
  (nat_lit 546, ⟨(.type "tuple"), none, (.seq #[] 0), #[]⟩) ::
  (nat_lit 548, ⟨(.type "tuple"), none, (.seq #[(.str (Str.ofString "urn") 922), (.str (Str.ofString "faces") 923), (.str (Str.ofString "face") 924)] 0), #[]⟩) ::
  (nat_lit 549, ⟨(.type "tuple"), none, (.seq #[] 0), #[]⟩) ::
  (nat_lit 551, ⟨(.type "code"), none, (.fields #[(.str (Str.ofString "_law_pick") 919), (.str (Str.ofString "_law_pick") 920), (.str (Str.ofString "/claim/cut.py") 921), (.int 331 0), (.int 2 0), (.int 0 0), (.int 0 0), (.int 3 0), (.ref 546), (.bool true), (.int 181 0), (.ref 547), .none, (.ref 548), (.ref 549), (.ref 550), (.int 925 0), (.int 331 0), (.str (Str.ofString "/claim/cut.py") 926)]), #[]⟩) ::
  (nat_lit 552, ⟨(.type "function"), none, (.func ⟨(Str.ofString "_law_pick"), (Str.ofString "_law_pick"), ?p552, .stmts ?b552, ?s552, 3, [], .none, .none, .none, (.str (Str.ofString "law_rh0105_01") 917), none, (.ref 551), .none, 0⟩), #[]⟩) ::
  (nat_lit 553, ⟨(.type "tuple"), none, (.seq #[] 0), #[]⟩) ::
  (nat_lit 556, ⟨(.type "code"), none, (.fields #[(.str (Str.ofString "_law_chain_is") 928), (.str (Str.ofString "_law_chain_is") 929), (.str (Str.ofString "/claim/cut.py") 930), (.int 338 0), (.int 4 0), (.int 0 0), (.int 0 0), (.int 3 0), (.ref 553), (.bool true), (.int 181 0), (.ref 554), .none, .none, .none, (.ref 555), (.int 931 0), (.int 338 0), (.str (Str.ofString "/claim/cut.py") 932)]), #[]⟩) ::
  (nat_lit 557, ⟨(.type "function"), none, (.func ⟨(Str.ofString "_law_chain_is"), (Str.ofString "_law_chain_is"), ?p557, .stmts ?b557, ?s557, 3, [], .none, .none, .none, (.str (Str.ofString "law_rh0105_01") 917), none, (.ref 556), .none, 0⟩), #[]⟩) ::
  (nat_lit 558, ⟨(.type "tuple"), none, (.seq #[] 0), #[]⟩) ::
  (nat_lit 561, ⟨(.type "code"), none, (.fields #[(.str (Str.ofString "law") 934), (.str (Str.ofString "law") 935), (.str (Str.ofString "/claim/cut.py") 936), (.int 351 0), (.int 1 0), (.int 0 0), (.int 0 0), (.int 3 0), (.ref 558), (.bool true), (.int 181 0), (.ref 559), .none, .none, .none, (.ref 560), (.int 937 0), (.int 351 0), (.str (Str.ofString "/claim/cut.py") 938)]), #[]⟩) ::
  (nat_lit 562, ⟨(.type "function"), none, (.func ⟨(Str.ofString "law"), (Str.ofString "law"), ?p562, .stmts ?b562, ?s562, 3, [], .none, .none, .none, (.str (Str.ofString "law_rh0105_01") 917), none, (.ref 561), .none, 0⟩), #[]⟩) :: [] : Lit (Params → Frag) (by
    repeat' apply And.intro
    all_goals (conv => rhs; whnf) : ?p21 = fnP (stAt 0) ∧ ?b21 = fnB (stAt 0) ∧ ?s21 = fnS (stAt 0) ∧ ?p48 = fnP (stIn 3 0) ∧ ?b48 = fnB (stIn 3 0) ∧ ?s48 = fnS (stIn 3 0) ∧ ?p60 = fnP (stAt 7) ∧ ?b60 = fnB (stAt 7) ∧ ?s60 = fnS (stAt 7) ∧ ?p67 = fnP (stAt 8) ∧ ?b67 = fnB (stAt 8) ∧ ?s67 = fnS (stAt 8) ∧ ?p81 = fnP (stIn 9 0) ∧ ?b81 = fnB (stIn 9 0) ∧ ?s81 = fnS (stIn 9 0) ∧ ?p88 = fnP (stIn 9 1) ∧ ?b88 = fnB (stIn 9 1) ∧ ?s88 = fnS (stIn 9 1) ∧ ?p95 = fnP (stIn 9 2) ∧ ?b95 = fnB (stIn 9 2) ∧ ?s95 = fnS (stIn 9 2) ∧ ?p102 = fnP (stIn 9 3) ∧ ?b102 = fnB (stIn 9 3) ∧ ?s102 = fnS (stIn 9 3) ∧ ?p109 = fnP (stIn 9 4) ∧ ?b109 = fnB (stIn 9 4) ∧ ?s109 = fnS (stIn 9 4) ∧ ?p116 = fnP (stIn 9 5) ∧ ?b116 = fnB (stIn 9 5) ∧ ?s116 = fnS (stIn 9 5) ∧ ?p123 = fnP (stIn 9 6) ∧ ?b123 = fnB (stIn 9 6) ∧ ?s123 = fnS (stIn 9 6) ∧ ?p130 = fnP (stIn 9 7) ∧ ?b130 = fnB (stIn 9 7) ∧ ?s130 = fnS (stIn 9 7) ∧ ?p137 = fnP (stIn 9 8) ∧ ?b137 = fnB (stIn 9 8) ∧ ?s137 = fnS (stIn 9 8) ∧ ?p144 = fnP (stIn 9 9) ∧ ?b144 = fnB (stIn 9 9) ∧ ?s144 = fnS (stIn 9 9) ∧ ?p151 = fnP (stIn 9 10) ∧ ?b151 = fnB (stIn 9 10) ∧ ?s151 = fnS (stIn 9 10) ∧ ?p165 = fnP (stAt 11) ∧ ?b165 = fnB (stAt 11) ∧ ?s165 = fnS (stAt 11) ∧ ?p172 = fnP (stAt 12) ∧ ?b172 = fnB (stAt 12) ∧ ?s172 = fnS (stAt 12) ∧ ?p179 = fnP (stAt 13) ∧ ?b179 = fnB (stAt 13) ∧ ?s179 = fnS (stAt 13) ∧ ?p195 = fnP (stIn 20 0) ∧ ?b195 = fnB (stIn 20 0) ∧ ?s195 = fnS (stIn 20 0) ∧ ?p202 = fnP (stIn 20 1) ∧ ?b202 = fnB (stIn 20 1) ∧ ?s202 = fnS (stIn 20 1) ∧ ?p209 = fnP (stIn 20 2) ∧ ?b209 = fnB (stIn 20 2) ∧ ?s209 = fnS (stIn 20 2) ∧ ?p216 = fnP (stIn 20 3) ∧ ?b216 = fnB (stIn 20 3) ∧ ?s216 = fnS (stIn 20 3) ∧ ?p223 = fnP (stIn 20 4) ∧ ?b223 = fnB (stIn 20 4) ∧ ?s223 = fnS (stIn 20 4) ∧ ?p230 = fnP (stIn 20 5) ∧ ?b230 = fnB (stIn 20 5) ∧ ?s230 = fnS (stIn 20 5) ∧ ?p237 = fnP (stIn 20 6) ∧ ?b237 = fnB (stIn 20 6) ∧ ?s237 = fnS (stIn 20 6) ∧ ?p244 = fnP (stIn 20 7) ∧ ?b244 = fnB (stIn 20 7) ∧ ?s244 = fnS (stIn 20 7) ∧ ?p251 = fnP (stIn 20 8) ∧ ?b251 = fnB (stIn 20 8) ∧ ?s251 = fnS (stIn 20 8) ∧ ?p258 = fnP (stIn 20 9) ∧ ?b258 = fnB (stIn 20 9) ∧ ?s258 = fnS (stIn 20 9) ∧ ?p265 = fnP (stIn 20 10) ∧ ?b265 = fnB (stIn 20 10) ∧ ?s265 = fnS (stIn 20 10) ∧ ?p272 = fnP (stIn 20 11) ∧ ?b272 = fnB (stIn 20 11) ∧ ?s272 = fnS (stIn 20 11) ∧ ?p279 = fnP (stIn 20 12) ∧ ?b279 = fnB (stIn 20 12) ∧ ?s279 = fnS (stIn 20 12) ∧ ?p286 = fnP (stIn 20 13) ∧ ?b286 = fnB (stIn 20 13) ∧ ?s286 = fnS (stIn 20 13) ∧ ?p293 = fnP (stIn 20 14) ∧ ?b293 = fnB (stIn 20 14) ∧ ?s293 = fnS (stIn 20 14) ∧ ?p300 = fnP (stIn 20 15) ∧ ?b300 = fnB (stIn 20 15) ∧ ?s300 = fnS (stIn 20 15) ∧ ?p307 = fnP (stIn 20 16) ∧ ?b307 = fnB (stIn 20 16) ∧ ?s307 = fnS (stIn 20 16) ∧ ?p314 = fnP (stIn 20 17) ∧ ?b314 = fnB (stIn 20 17) ∧ ?s314 = fnS (stIn 20 17) ∧ ?p321 = fnP (stIn 20 18) ∧ ?b321 = fnB (stIn 20 18) ∧ ?s321 = fnS (stIn 20 18) ∧ ?p342 = fnP (stIn 21 0) ∧ ?b342 = fnB (stIn 21 0) ∧ ?s342 = fnS (stIn 21 0) ∧ ?p350 = fnP (stIn 21 1) ∧ ?b350 = fnB (stIn 21 1) ∧ ?s350 = fnS (stIn 21 1) ∧ ?p357 = fnP (stIn 21 2) ∧ ?b357 = fnB (stIn 21 2) ∧ ?s357 = fnS (stIn 21 2) ∧ ?p364 = fnP (stIn 21 3) ∧ ?b364 = fnB (stIn 21 3) ∧ ?s364 = fnS (stIn 21 3) ∧ ?p371 = fnP (stIn 21 4) ∧ ?b371 = fnB (stIn 21 4) ∧ ?s371 = fnS (stIn 21 4) ∧ ?p378 = fnP (stIn 21 5) ∧ ?b378 = fnB (stIn 21 5) ∧ ?s378 = fnS (stIn 21 5) ∧ ?p398 = fnP (stIn 32 0) ∧ ?b398 = fnB (stIn 32 0) ∧ ?s398 = fnS (stIn 32 0) ∧ ?p405 = fnP (stIn 32 1) ∧ ?b405 = fnB (stIn 32 1) ∧ ?s405 = fnS (stIn 32 1) ∧ ?p412 = fnP (stIn 32 2) ∧ ?b412 = fnB (stIn 32 2) ∧ ?s412 = fnS (stIn 32 2) ∧ ?p419 = fnP (stIn 32 3) ∧ ?b419 = fnB (stIn 32 3) ∧ ?s419 = fnS (stIn 32 3) ∧ ?p426 = fnP (stIn 32 4) ∧ ?b426 = fnB (stIn 32 4) ∧ ?s426 = fnS (stIn 32 4) ∧ ?p433 = fnP (stIn 32 5) ∧ ?b433 = fnB (stIn 32 5) ∧ ?s433 = fnS (stIn 32 5) ∧ ?p440 = fnP (stIn 32 6) ∧ ?b440 = fnB (stIn 32 6) ∧ ?s440 = fnS (stIn 32 6) ∧ ?p447 = fnP (stIn 32 7) ∧ ?b447 = fnB (stIn 32 7) ∧ ?s447 = fnS (stIn 32 7) ∧ ?p454 = fnP (stIn 32 8) ∧ ?b454 = fnB (stIn 32 8) ∧ ?s454 = fnS (stIn 32 8) ∧ ?p461 = fnP (stIn 32 9) ∧ ?b461 = fnB (stIn 32 9) ∧ ?s461 = fnS (stIn 32 9) ∧ ?p468 = fnP (stIn 32 10) ∧ ?b468 = fnB (stIn 32 10) ∧ ?s468 = fnS (stIn 32 10) ∧ ?p475 = fnP (stIn 32 11) ∧ ?b475 = fnB (stIn 32 11) ∧ ?s475 = fnS (stIn 32 11) ∧ ?p482 = fnP (stIn 32 12) ∧ ?b482 = fnB (stIn 32 12) ∧ ?s482 = fnS (stIn 32 12) ∧ ?p489 = fnP (stIn 32 13) ∧ ?b489 = fnB (stIn 32 13) ∧ ?s489 = fnS (stIn 32 13) ∧ ?p496 = fnP (stIn 32 14) ∧ ?b496 = fnB (stIn 32 14) ∧ ?s496 = fnS (stIn 32 14) ∧ ?p503 = fnP (stIn 32 15) ∧ ?b503 = fnB (stIn 32 15) ∧ ?s503 = fnS (stIn 32 15) ∧ ?p510 = fnP (stIn 32 16) ∧ ?b510 = fnB (stIn 32 16) ∧ ?s510 = fnS (stIn 32 16) ∧ ?p517 = fnP (stIn 32 17) ∧ ?b517 = fnB (stIn 32 17) ∧ ?s517 = fnS (stIn 32 17) ∧ ?p524 = fnP (stIn 32 18) ∧ ?b524 = fnB (stIn 32 18) ∧ ?s524 = fnS (stIn 32 18) ∧ ?p531 = fnP (stIn 32 19) ∧ ?b531 = fnB (stIn 32 19) ∧ ?s531 = fnS (stIn 32 19) ∧ ?p538 = fnP (stIn 32 20) ∧ ?b538 = fnB (stIn 32 20) ∧ ?s538 = fnS (stIn 32 20) ∧ ?p552 = fnP (stAt 34) ∧ ?b552 = fnB (stAt 34) ∧ ?s552 = fnS (stAt 34) ∧ ?p557 = fnP (stAt 35) ∧ ?b557 = fnB (stAt 35) ∧ ?s557 = fnS (stAt 35) ∧ ?p562 = fnP (stAt 36) ∧ ?b562 = fnB (stAt 36) ∧ ?s562 = fnS (stAt 36)))
noncomputable abbrev dLaw : DefRec := by
  refine ({ name := Str.ofString "law", params := ?p, body := ?b, scope := ?s, pos := ?q } : Lit (DefRec) (by
    repeat' apply And.intro
    all_goals (conv => rhs; whnf) : ?p = fnP (stAt 36) ∧ ?b = fnB (stAt 36) ∧ ?s = fnS (stAt 36) ∧ ?q = fnQ (stAt 36)))
noncomputable def asK : List Addr := 2 :: 3 :: 15 :: 17 :: 18 :: 20 :: 21 :: 22 :: 29 :: 30 :: 31 :: 32 :: 35 :: 42 :: 44 :: 45 :: 47 :: 48 :: 49 :: 50 :: 51 :: 54 :: 56 :: 57 :: 59 :: 60 :: 61 :: 63 :: 64 :: 66 :: 67 :: 75 :: 77 :: 78 :: 80 :: 81 :: 82 :: 84 :: 85 :: 87 :: 88 :: 89 :: 91 :: 92 :: 94 :: 95 :: 96 :: 98 :: 99 :: 101 :: 102 :: 103 :: 105 :: 106 :: 108 :: 109 :: 110 :: 112 :: 113 :: 115 :: 116 :: 117 :: 119 :: 120 :: 122 :: 123 :: 124 :: 126 :: 127 :: 129 :: 130 :: 131 :: 133 :: 134 :: 136 :: 137 :: 138 :: 140 :: 141 :: 143 :: 144 :: 145 :: 147 :: 148 :: 150 :: 151 :: 152 :: 153 :: 154 :: 155 :: 156 :: 159 :: 161 :: 162 :: 164 :: 165 :: 166 :: 168 :: 169 :: 171 :: 172 :: 173 :: 175 :: 176 :: 178 :: 179 :: 180 :: 188 :: 189 :: 191 :: 192 :: 194 :: 195 :: 196 :: 198 :: 199 :: 201 :: 202 :: 203 :: 205 :: 206 :: 208 :: 209 :: 210 :: 212 :: 213 :: 215 :: 216 :: 217 :: 219 :: 220 :: 222 :: 223 :: 224 :: 226 :: 227 :: 229 :: 230 :: 231 :: 233 :: 234 :: 236 :: 237 :: 238 :: 240 :: 241 :: 243 :: 244 :: 245 :: 247 :: 248 :: 250 :: 251 :: 252 :: 254 :: 255 :: 257 :: 258 :: 259 :: 261 :: 262 :: 264 :: 265 :: 266 :: 268 :: 269 :: 271 :: 272 :: 273 :: 275 :: 276 :: 278 :: 279 :: 280 :: 282 :: 283 :: 285 :: 286 :: 287 :: 289 :: 290 :: 292 :: 293 :: 294 :: 296 :: 297 :: 299 :: 300 :: 301 :: 303 :: 304 :: 306 :: 307 :: 308 :: 310 :: 311 :: 313 :: 314 :: 315 :: 317 :: 318 :: 320 :: 321 :: 322 :: 323 :: 324 :: 325 :: 326 :: 329 :: 336 :: 338 :: 339 :: 341 :: 342 :: 343 :: 344 :: 346 :: 347 :: 349 :: 350 :: 351 :: 353 :: 354 :: 356 :: 357 :: 358 :: 360 :: 361 :: 363 :: 364 :: 365 :: 367 :: 368 :: 370 :: 371 :: 372 :: 374 :: 375 :: 377 :: 378 :: 379 :: 380 :: 381 :: 391 :: 392 :: 394 :: 395 :: 397 :: 398 :: 399 :: 401 :: 402 :: 404 :: 405 :: 406 :: 408 :: 409 :: 411 :: 412 :: 413 :: 415 :: 416 :: 418 :: 419 :: 420 :: 422 :: 423 :: 425 :: 426 :: 427 :: 429 :: 430 :: 432 :: 433 :: 434 :: 436 :: 437 :: 439 :: 440 :: 441 :: 443 :: 444 :: 446 :: 447 :: 448 :: 450 :: 451 :: 453 :: 454 :: 455 :: 457 :: 458 :: 460 :: 461 :: 462 :: 464 :: 465 :: 467 :: 468 :: 469 :: 471 :: 472 :: 474 :: 475 :: 476 :: 478 :: 479 :: 481 :: 482 :: 483 :: 485 :: 486 :: 488 :: 489 :: 490 :: 492 :: 493 :: 495 :: 496 :: 497 :: 499 :: 500 :: 502 :: 503 :: 504 :: 506 :: 507 :: 509 :: 510 :: 511 :: 513 :: 514 :: 516 :: 517 :: 518 :: 520 :: 521 :: 523 :: 524 :: 525 :: 527 :: 528 :: 530 :: 531 :: 532 :: 534 :: 535 :: 537 :: 538 :: 539 :: 540 :: 541 :: 542 :: 543 :: 546 :: 548 :: 549 :: 551 :: 552 :: 553 :: 556 :: 557 :: 558 :: 561 :: 562 :: []
noncomputable def treeOf : Nat → Nat → Nat → List Obj → BT
  | 0, _, _, _ => .nil
  | n + 1, a, b, l => match l[b]? with
    | some o => .node o (treeOf n (2 * a) (a + b) l) (treeOf n (2 * a) (2 * a + b) l)
    | none => .nil
noncomputable def putAll : BT → List (Nat × Obj) → BT
  | t, [] => t
  | t, p :: r => putAll (t.ins p.1 p.2) r
noncomputable def env0 : Env := { scope := PW.main.scope, locals := mainNs, globals := mainNs, cells := [], code := (.ref 13), frame := some 14 }
noncomputable def cE : Code := .body (behindTheImports PW) env0
noncomputable def fr0 : List Frame := [topFrame ⟨0, 0, 0, 0⟩]
noncomputable def tr0 (P : Params) : BT := treeOf 12 1 0 (boot_heap P).objs.toList
noncomputable def st0 (w : World) (os : OsState) : SharedT := ⟨tr0 w.params, 11, (boot_heap w.params).life, Array.mk [], boot_drawn, boot_toks, os⟩
noncomputable def tr1 (P : Params) : BT := putAll (tr0 P) (
  (nat_lit 11, ⟨(.type "tuple"), none, (.seq #[] 0), #[]⟩) ::
  (nat_lit 12, ⟨.none, none, (.fields #[]), #[]⟩) ::
  (nat_lit 13, ⟨(.type "code"), none, (.fields #[(.str (Str.ofString "<module>") 182), (.str (Str.ofString "<module>") 183), (.str (Str.ofString "/claim/cut.py") 184), (.int 1 0), (.int 0 0), (.int 0 0), (.int 0 0), (.int 0 0), (.ref 11), (.bool false), (.int 181 0), (.ref 12), .none, .none, .none, .none, (.int 185 0), (.int 1 0), (.str (Str.ofString "/claim/cut.py") 186)]), #[]⟩) ::
  (nat_lit 14, ⟨(.type "frame"), none, .plain, #[(some (.ref 13)), (some (.ref 3)), (some (.ref 3)), none, (some (.str (Str.ofString "__main__") 164)), none, (some (.ref 0))]⟩) :: [])
noncomputable def st1 (w : World) (os : OsState) : SharedT := ⟨tr1 w.params, 15, (boot_heap w.params).life, Array.mk [], boot_drawn, 187, os⟩
noncomputable def tr2 (P : Params) : BT := putAll (tr1 P) (
  (nat_lit 2, ⟨.none, none, (.dict #[⟨PyData.keyHash P (Str.ofString "type.__subclasses__.Exception.0"), (.str (Str.ofString "type.__subclasses__.Exception.0") 212), (.int 31 0)⟩, ⟨PyData.keyHash P (Str.ofString "type.__subclasses__.Exception.n"), (.str (Str.ofString "type.__subclasses__.Exception.n") 213), (.int 1 0)⟩] 2), #[]⟩) ::
  (nat_lit 3, ⟨(.type "dict"), none, (.dict #[⟨PyData.keyHash P (Str.ofString "__name__"), (.str (Str.ofString "__name__") 165), (.str (Str.ofString "clausemill.symbols") 194)⟩, ⟨PyData.keyHash P (Str.ofString "__doc__"), (.str (Str.ofString "__doc__") 166), .none⟩, ⟨PyData.keyHash P (Str.ofString "__package__"), (.str (Str.ofString "__package__") 167), .none⟩, ⟨PyData.keyHash P (Str.ofString "__loader__"), (.str (Str.ofString "__loader__") 168), (.builtin "__main__.__loader__#opaque")⟩, ⟨PyData.keyHash P (Str.ofString "__spec__"), (.str (Str.ofString "__spec__") 169), .none⟩, ⟨PyData.keyHash P (Str.ofString "__annotations__"), (.str (Str.ofString "__annotations__") 170), (.ref 6)⟩, ⟨PyData.keyHash P (Str.ofString "__builtins__"), (.str (Str.ofString "__builtins__") 171), (.ref 4)⟩, ⟨PyData.keyHash P (Str.ofString "__file__"), (.str (Str.ofString "__file__") 173), (.str (Str.ofString "/claim/cut.py") 172)⟩, ⟨PyData.keyHash P (Str.ofString "__cached__"), (.str (Str.ofString "__cached__") 174), .none⟩, ⟨PyData.keyHash P (Str.ofString "_wall"), (.str (Str.ofString "_wall") 193), (.ref 21)⟩, ⟨PyData.keyHash P (Str.ofString "ClausemillError"), (.str (Str.ofString "ClausemillError") 215), (.ref 31)⟩] 11), #[]⟩) ::
  (nat_lit 12, ⟨.none, none, (.fields #[(.int 1 0), (.int 0 0), (.ref 20), (.int 5 0), (.int 0 0), (.ref 27)]), #[]⟩) ::
  (nat_lit 15, ⟨(.type "tuple"), none, (.seq #[] 0), #[]⟩) ::
  (nat_lit 16, ⟨.none, none, (.fields #[]), #[]⟩) ::
  (nat_lit 17, ⟨(.type "tuple"), none, (.seq #[(.str (Str.ofString "k") 190)] 0), #[]⟩) ::
  (nat_lit 18, ⟨(.type "tuple"), none, (.seq #[] 0), #[]⟩) ::
  (nat_lit 19, ⟨.none, none, (.func ⟨(Str.ofString "_wall"), (Str.ofString "_wall"), fnP (stAt 0), .stmts (fnB (stAt 0)), fnS (stAt 0), 0, [], .none, .none, .none, .none, none, .none, .none, 0⟩), #[]⟩) ::
  (nat_lit 20, ⟨(.type "code"), none, (.fields #[(.str (Str.ofString "_wall") 187), (.str (Str.ofString "_wall") 188), (.str (Str.ofString "/claim/cut.py") 189), (.int 1 0), (.int 1 0), (.int 0 0), (.int 0 0), (.int 3 0), (.ref 15), (.bool true), (.int 181 0), (.ref 16), .none, (.ref 17), (.ref 18), (.ref 19), (.int 191 0), (.int 1 0), (.str (Str.ofString "/claim/cut.py") 192)]), #[]⟩) ::
  (nat_lit 21, ⟨(.type "function"), none, (.func ⟨(Str.ofString "_wall"), (Str.ofString "_wall"), fnP (stAt 0), .stmts (fnB (stAt 0)), fnS (stAt 0), 3, [], .none, .none, .none, (.str (Str.ofString "__main__") 164), none, (.ref 20), .none, 0⟩), #[]⟩) ::
  (nat_lit 22, ⟨(.type "tuple"), none, (.seq #[(.type "Exception")] 0), #[]⟩) ::
  (nat_lit 23, ⟨(.type "builtin_function_or_method"), none, (.fields #[(.builtin "type.__prepare__"), (.type "type")]), #[]⟩) ::
  (nat_lit 24, ⟨(.type "dict"), none, (.dict #[⟨PyData.keyHash P (Str.ofString "__module__"), (.str (Str.ofString "__module__") 203), (.str (Str.ofString "clausemill.symbols") 194)⟩, ⟨PyData.keyHash P (Str.ofString "__qualname__"), (.str (Str.ofString "__qualname__") 205), (.str (Str.ofString "ClausemillError") 204)⟩, ⟨PyData.keyHash P (Str.ofString "__firstlineno__"), (.str (Str.ofString "__firstlineno__") 207), (.int 5 206)⟩, ⟨PyData.keyHash P (Str.ofString "__static_attributes__"), (.str (Str.ofString "__static_attributes__") 208), (.ref 29)⟩] 4), #[]⟩) ::
  (nat_lit 25, ⟨(.type "tuple"), none, (.seq #[] 0), #[]⟩) ::
  (nat_lit 26, ⟨.none, none, (.fields #[]), #[]⟩) ::
  (nat_lit 27, ⟨(.type "code"), none, (.fields #[(.str (Str.ofString "ClausemillError") 198), (.str (Str.ofString "ClausemillError") 199), (.str (Str.ofString "/claim/cut.py") 200), (.int 5 0), (.int 0 0), (.int 0 0), (.int 0 0), (.int 0 0), (.ref 25), (.bool false), (.int 181 0), (.ref 26), .none, .none, .none, .none, (.int 201 0), (.int 5 0), (.str (Str.ofString "/claim/cut.py") 202)]), #[]⟩) ::
  (nat_lit 28, ⟨(.type "frame"), none, .plain, #[(some (.ref 27)), (some (.ref 3)), (some (.ref 24)), none, (some (.str (Str.ofString "clausemill.symbols") 194)), none, (some (.ref 0))]⟩) ::
  (nat_lit 29, ⟨(.type "tuple"), none, (.seq #[] 0), #[]⟩) ::
  (nat_lit 30, ⟨(.type "dict"), none, (.dict #[⟨PyData.keyHash P (Str.ofString "__module__"), (.str (Str.ofString "__module__") 203), (.str (Str.ofString "clausemill.symbols") 194)⟩, ⟨PyData.keyHash P (Str.ofString "__firstlineno__"), (.str (Str.ofString "__firstlineno__") 207), (.int 5 206)⟩, ⟨PyData.keyHash P (Str.ofString "__static_attributes__"), (.str (Str.ofString "__static_attributes__") 208), (.ref 29)⟩, ⟨PyData.keyHash P (Str.ofString "__weakref__"), (.str (Str.ofString "__weakref__") 210), (.ref 32)⟩, ⟨PyData.keyHash P (Str.ofString "__doc__"), (.str (Str.ofString "__doc__") 211), .none⟩] 3), #[]⟩) ::
  (nat_lit 31, ⟨(.type "type"), none, (.cls ⟨(Str.ofString "ClausemillError"), [(.type "Exception")], [(.ref 31), (.type "Exception"), (.type "BaseException"), (.type "object")], 30, (Str.ofString "ClausemillError"), true, [], [], false, none, false⟩), #[(some (.ref 22)), none, (some (.str (Str.ofString "ClausemillError") 196)), (some (.str (Str.ofString "ClausemillError") 204)), (some (.builtin "Exception.__new__")), (some (.bool true))]⟩) ::
  (nat_lit 32, ⟨(.type "getset_descriptor"), none, (.fields #[(.str (Str.ofString "__weakref__") 209), (.ref 31), (.builtin "ExceptionGroup.__weakref__"), .none]), #[]⟩) ::
  (nat_lit 33, ⟨(.type "super"), none, (.fields #[(.ref 31), (.ref 31), (.ref 31)]), #[]⟩) ::
  (nat_lit 34, ⟨(.type "builtin_function_or_method"), none, (.fields #[(.builtin "object.__init_subclass__"), (.ref 31)]), #[]⟩) :: [])
noncomputable def st2 (w : World) (os : OsState) : SharedT := ⟨tr2 w.params, 35, (boot_heap w.params).life, Array.mk [], boot_drawn, 216, os⟩
noncomputable def tr3 (P : Params) : BT := putAll (tr2 P) (
  (nat_lit 3, ⟨(.type "dict"), none, (.dict #[⟨PyData.keyHash P (Str.ofString "__name__"), (.str (Str.ofString "__name__") 165), (.str (Str.ofString "clausemill.symbols") 194)⟩, ⟨PyData.keyHash P (Str.ofString "__doc__"), (.str (Str.ofString "__doc__") 166), .none⟩, ⟨PyData.keyHash P (Str.ofString "__package__"), (.str (Str.ofString "__package__") 167), .none⟩, ⟨PyData.keyHash P (Str.ofString "__loader__"), (.str (Str.ofString "__loader__") 168), (.builtin "__main__.__loader__#opaque")⟩, ⟨PyData.keyHash P (Str.ofString "__spec__"), (.str (Str.ofString "__spec__") 169), .none⟩, ⟨PyData.keyHash P (Str.ofString "__annotations__"), (.str (Str.ofString "__annotations__") 170), (.ref 6)⟩, ⟨PyData.keyHash P (Str.ofString "__builtins__"), (.str (Str.ofString "__builtins__") 171), (.ref 4)⟩, ⟨PyData.keyHash P (Str.ofString "__file__"), (.str (Str.ofString "__file__") 173), (.str (Str.ofString "/claim/cut.py") 172)⟩, ⟨PyData.keyHash P (Str.ofString "__cached__"), (.str (Str.ofString "__cached__") 174), .none⟩, ⟨PyData.keyHash P (Str.ofString "_wall"), (.str (Str.ofString "_wall") 193), (.ref 21)⟩, ⟨PyData.keyHash P (Str.ofString "ClausemillError"), (.str (Str.ofString "ClausemillError") 215), (.ref 31)⟩, ⟨PyData.keyHash P (Str.ofString "PrologError"), (.str (Str.ofString "PrologError") 240), (.ref 51)⟩, ⟨PyData.keyHash P (Str.ofString "A_SYSTEM"), (.str (Str.ofString "A_SYSTEM") 242), (.int 25 241)⟩, ⟨PyData.keyHash P (Str.ofString "F_ERROR"), (.str (Str.ofString "F_ERROR") 244), (.int 16 243)⟩, ⟨PyData.keyHash P (Str.ofString "F_CALL1"), (.str (Str.ofString "F_CALL1") 246), (.int 24 245)⟩, ⟨PyData.keyHash P (Str.ofString "fixed_atoms"), (.str (Str.ofString "fixed_atoms") 252), (.ref 60)⟩, ⟨PyData.keyHash P (Str.ofString "fixed_functors"), (.str (Str.ofString "fixed_functors") 258), (.ref 67)⟩] 17), #[]⟩) ::
  (nat_lit 12, ⟨.none, none, (.fields #[(.int 1 0), (.int 0 0), (.ref 20), (.int 5 0), (.int 0 0), (.ref 27), (.int 7 0), (.int 0 0), (.ref 40), (.int 14 0), (.int 0 0), (.ref 59), (.int 16 0), (.int 0 0), (.ref 66)]), #[]⟩) ::
  (nat_lit 31, ⟨(.type "type"), none, (.cls ⟨(Str.ofString "ClausemillError"), [(.type "Exception")], [(.ref 31), (.type "Exception"), (.type "BaseException"), (.type "object")], 30, (Str.ofString "ClausemillError"), true, [], [(.ref 51)], false, none, false⟩), #[(some (.ref 22)), none, (some (.str (Str.ofString "ClausemillError") 196)), (some (.str (Str.ofString "ClausemillError") 204)), (some (.builtin "Exception.__new__")), (some (.bool true))]⟩) ::
  (nat_lit 35, ⟨(.type "tuple"), none, (.seq #[(.ref 31)] 0), #[]⟩) ::
  (nat_lit 36, ⟨(.type "builtin_function_or_method"), none, (.fields #[(.builtin "type.__prepare__"), (.type "type")]), #[]⟩) ::
  (nat_lit 37, ⟨(.type "dict"), none, (.dict #[⟨PyData.keyHash P (Str.ofString "__module__"), (.str (Str.ofString "__module__") 223), (.str (Str.ofString "clausemill.symbols") 194)⟩, ⟨PyData.keyHash P (Str.ofString "__qualname__"), (.str (Str.ofString "__qualname__") 225), (.str (Str.ofString "PrologError") 224)⟩, ⟨PyData.keyHash P (Str.ofString "__firstlineno__"), (.str (Str.ofString "__firstlineno__") 227), (.int 7 226)⟩, ⟨PyData.keyHash P (Str.ofString "__init__"), (.str (Str.ofString "__init__") 235), (.ref 48)⟩, ⟨PyData.keyHash P (Str.ofString "__static_attributes__"), (.str (Str.ofString "__static_attributes__") 237), (.ref 49)⟩] 5), #[]⟩) ::
  (nat_lit 38, ⟨(.type "tuple"), none, (.seq #[] 0), #[]⟩) ::
  (nat_lit 39, ⟨.none, none, (.fields #[(.int 9 0), (.int 4 0), (.ref 47)]), #[]⟩) ::
  (nat_lit 40, ⟨(.type "code"), none, (.fields #[(.str (Str.ofString "PrologError") 218), (.str (Str.ofString "PrologError") 219), (.str (Str.ofString "/claim/cut.py") 220), (.int 7 0), (.int 0 0), (.int 0 0), (.int 0 0), (.int 0 0), (.ref 38), (.bool false), (.int 181 0), (.ref 39), .none, .none, .none, .none, (.int 221 0), (.int 7 0), (.str (Str.ofString "/claim/cut.py") 222)]), #[]⟩) ::
  (nat_lit 41, ⟨(.type "frame"), none, .plain, #[(some (.ref 40)), (some (.ref 3)), (some (.ref 37)), none, (some (.str (Str.ofString "clausemill.symbols") 194)), none, (some (.ref 0))]⟩) ::
  (nat_lit 42, ⟨(.type "tuple"), none, (.seq #[] 0), #[]⟩) ::
  (nat_lit 43, ⟨.none, none, (.fields #[]), #[]⟩) ::
  (nat_lit 44, ⟨(.type "tuple"), none, (.seq #[(.str (Str.ofString "self") 231), (.str (Str.ofString "ball") 232)] 0), #[]⟩) ::
  (nat_lit 45, ⟨(.type "tuple"), none, (.seq #[] 0), #[]⟩) ::
  (nat_lit 46, ⟨.none, none, (.func ⟨(Str.ofString "__init__"), (Str.ofString "PrologError.__init__"), fnP (stIn 3 0), .stmts (fnB (stIn 3 0)), fnS (stIn 3 0), 0, [], .none, .none, .none, .none, none, .none, .none, 0⟩), #[]⟩) ::
  (nat_lit 47, ⟨(.type "code"), none, (.fields #[(.str (Str.ofString "__init__") 228), (.str (Str.ofString "PrologError.__init__") 229), (.str (Str.ofString "/claim/cut.py") 230), (.int 9 0), (.int 2 0), (.int 0 0), (.int 0 0), (.int 3 0), (.ref 42), (.bool true), (.int 181 0), (.ref 43), .none, (.ref 44), (.ref 45), (.ref 46), (.int 233 0), (.int 9 0), (.str (Str.ofString "/claim/cut.py") 234)]), #[]⟩) ::
  (nat_lit 48, ⟨(.type "function"), none, (.func ⟨(Str.ofString "__init__"), (Str.ofString "PrologError.__init__"), fnP (stIn 3 0), .stmts (fnB (stIn 3 0)), fnS (stIn 3 0), 3, [], .none, .none, .none, (.str (Str.ofString "clausemill.symbols") 194), none, (.ref 47), .none, 0⟩), #[]⟩) ::
  (nat_lit 49, ⟨(.type "tuple"), none, (.seq #[(.str (Str.ofString "ball") 236)] 0), #[]⟩) ::
  (nat_lit 50, ⟨(.type "dict"), none, (.dict #[⟨PyData.keyHash P (Str.ofString "__module__"), (.str (Str.ofString "__module__") 223), (.str (Str.ofString "clausemill.symbols") 194)⟩, ⟨PyData.keyHash P (Str.ofString "__firstlineno__"), (.str (Str.ofString "__firstlineno__") 227), (.int 7 226)⟩, ⟨PyData.keyHash P (Str.ofString "__init__"), (.str (Str.ofString "__init__") 235), (.ref 48)⟩, ⟨PyData.keyHash P (Str.ofString "__static_attributes__"), (.str (Str.ofString "__static_attributes__") 237), (.ref 49)⟩, ⟨PyData.keyHash P (Str.ofString "__doc__"), (.str (Str.ofString "__doc__") 238), .none⟩] 2), #[]⟩) ::
  (nat_lit 51, ⟨(.type "type"), none, (.cls ⟨(Str.ofString "PrologError"), [(.ref 31)], [(.ref 51), (.ref 31), (.type "Exception"), (.type "BaseException"), (.type "object")], 50, (Str.ofString "PrologError"), true, [], [], false, none, false⟩), #[(some (.ref 35)), none, (some (.str (Str.ofString "PrologError") 216)), (some (.str (Str.ofString "PrologError") 224)), (some (.builtin "Exception.__new__")), (some (.bool true))]⟩) ::
  (nat_lit 52, ⟨(.type "super"), none, (.fields #[(.ref 51), (.ref 51), (.ref 51)]), #[]⟩) ::
  (nat_lit 53, ⟨(.type "builtin_function_or_method"), none, (.fields #[(.builtin "object.__init_subclass__"), (.ref 51)]), #[]⟩) ::
  (nat_lit 54, ⟨(.type "tuple"), none, (.seq #[] 0), #[]⟩) ::
  (nat_lit 55, ⟨.none, none, (.fields #[]), #[]⟩) ::
  (nat_lit 56, ⟨(.type "tuple"), none, (.seq #[] 0), #[]⟩) ::
  (nat_lit 57, ⟨(.type "tuple"), none, (.seq #[] 0), #[]⟩) ::
  (nat_lit 58, ⟨.none, none, (.func ⟨(Str.ofString "fixed_atoms"), (Str.ofString "fixed_atoms"), fnP (stAt 7), .stmts (fnB (stAt 7)), fnS (stAt 7), 0, [], .none, .none, .none, .none, none, .none, .none, 0⟩), #[]⟩) ::
  (nat_lit 59, ⟨(.type "code"), none, (.fields #[(.str (Str.ofString "fixed_atoms") 247), (.str (Str.ofString "fixed_atoms") 248), (.str (Str.ofString "/claim/cut.py") 249), (.int 14 0), (.int 0 0), (.int 0 0), (.int 0 0), (.int 3 0), (.ref 54), (.bool true), (.int 181 0), (.ref 55), .none, (.ref 56), (.ref 57), (.ref 58), (.int 250 0), (.int 14 0), (.str (Str.ofString "/claim/cut.py") 251)]), #[]⟩) ::
  (nat_lit 60, ⟨(.type "function"), none, (.func ⟨(Str.ofString "fixed_atoms"), (Str.ofString "fixed_atoms"), fnP (stAt 7), .stmts (fnB (stAt 7)), fnS (stAt 7), 3, [], .none, .none, .none, (.str (Str.ofString "clausemill.symbols") 194), none, (.ref 59), .none, 0⟩), #[]⟩) ::
  (nat_lit 61, ⟨(.type "tuple"), none, (.seq #[] 0), #[]⟩) ::
  (nat_lit 62, ⟨.none, none, (.fields #[]), #[]⟩) ::
  (nat_lit 63, ⟨(.type "tuple"), none, (.seq #[] 0), #[]⟩) ::
  (nat_lit 64, ⟨(.type "tuple"), none, (.seq #[] 0), #[]⟩) ::
  (nat_lit 65, ⟨.none, none, (.func ⟨(Str.ofString "fixed_functors"), (Str.ofString "fixed_functors"), fnP (stAt 8), .stmts (fnB (stAt 8)), fnS (stAt 8), 0, [], .none, .none, .none, .none, none, .none, .none, 0⟩), #[]⟩) ::
  (nat_lit 66, ⟨(.type "code"), none, (.fields #[(.str (Str.ofString "fixed_functors") 253), (.str (Str.ofString "fixed_functors") 254), (.str (Str.ofString "/claim/cut.py") 255), (.int 16 0), (.int 0 0), (.int 0 0), (.int 0 0), (.int 3 0), (.ref 61), (.bool true), (.int 181 0), (.ref 62), .none, (.ref 63), (.ref 64), (.ref 65), (.int 256 0), (.int 16 0), (.str (Str.ofString "/claim/cut.py") 257)]), #[]⟩) ::
  (nat_lit 67, ⟨(.type "function"), none, (.func ⟨(Str.ofString "fixed_functors"), (Str.ofString "fixed_functors"), fnP (stAt 8), .stmts (fnB (stAt 8)), fnS (stAt 8), 3, [], .none, .none, .none, (.str (Str.ofString "clausemill.symbols") 194), none, (.ref 66), .none, 0⟩), #[]⟩) :: [])
noncomputable def st3 (w : World) (os : OsState) : SharedT := ⟨tr3 w.params, 68, (boot_heap w.params).life, Array.mk [], boot_drawn, 259, os⟩
noncomputable def tr4 (P : Params) : BT := putAll (tr3 P) (
  (nat_lit 3, ⟨(.type "dict"), none, (.dict #[⟨PyData.keyHash P (Str.ofString "__name__"), (.str (Str.ofString "__name__") 165), (.str (Str.ofString "clausemill.symbols") 194)⟩, ⟨PyData.keyHash P (Str.ofString "__doc__"), (.str (Str.ofString "__doc__") 166), .none⟩, ⟨PyData.keyHash P (Str.ofString "__package__"), (.str (Str.ofString "__package__") 167), .none⟩, ⟨PyData.keyHash P (Str.ofString "__loader__"), (.str (Str.ofString "__loader__") 168), (.builtin "__main__.__loader__#opaque")⟩, ⟨PyData.keyHash P (Str.ofString "__spec__"), (.str (Str.ofString "__spec__") 169), .none⟩, ⟨PyData.keyHash P (Str.ofString "__annotations__"), (.str (Str.ofString "__annotations__") 170), (.ref 6)⟩, ⟨PyData.keyHash P (Str.ofString "__builtins__"), (.str (Str.ofString "__builtins__") 171), (.ref 4)⟩, ⟨PyData.keyHash P (Str.ofString "__file__"), (.str (Str.ofString "__file__") 173), (.str (Str.ofString "/claim/cut.py") 172)⟩, ⟨PyData.keyHash P (Str.ofString "__cached__"), (.str (Str.ofString "__cached__") 174), .none⟩, ⟨PyData.keyHash P (Str.ofString "_wall"), (.str (Str.ofString "_wall") 193), (.ref 21)⟩, ⟨PyData.keyHash P (Str.ofString "ClausemillError"), (.str (Str.ofString "ClausemillError") 215), (.ref 31)⟩, ⟨PyData.keyHash P (Str.ofString "PrologError"), (.str (Str.ofString "PrologError") 240), (.ref 51)⟩, ⟨PyData.keyHash P (Str.ofString "A_SYSTEM"), (.str (Str.ofString "A_SYSTEM") 242), (.int 25 241)⟩, ⟨PyData.keyHash P (Str.ofString "F_ERROR"), (.str (Str.ofString "F_ERROR") 244), (.int 16 243)⟩, ⟨PyData.keyHash P (Str.ofString "F_CALL1"), (.str (Str.ofString "F_CALL1") 246), (.int 24 245)⟩, ⟨PyData.keyHash P (Str.ofString "fixed_atoms"), (.str (Str.ofString "fixed_atoms") 252), (.ref 60)⟩, ⟨PyData.keyHash P (Str.ofString "fixed_functors"), (.str (Str.ofString "fixed_functors") 258), (.ref 67)⟩, ⟨PyData.keyHash P (Str.ofString "Symbols"), (.str (Str.ofString "Symbols") 377), (.ref 154)⟩] 18), #[]⟩) ::
  (nat_lit 12, ⟨.none, none, (.fields #[(.int 1 0), (.int 0 0), (.ref 20), (.int 5 0), (.int 0 0), (.ref 27), (.int 7 0), (.int 0 0), (.ref 40), (.int 14 0), (.int 0 0), (.ref 59), (.int 16 0), (.int 0 0), (.ref 66), (.int 18 0), (.int 0 0), (.ref 73)]), #[]⟩) ::
  (nat_lit 68, ⟨(.type "tuple"), none, (.seq #[] 0), #[]⟩) ::
  (nat_lit 69, ⟨(.type "builtin_function_or_method"), none, (.fields #[(.builtin "type.__prepare__"), (.type "type")]), #[]⟩) ::
  (nat_lit 70, ⟨(.type "dict"), none, (.dict #[⟨PyData.keyHash P (Str.ofString "__module__"), (.str (Str.ofString "__module__") 266), (.str (Str.ofString "clausemill.symbols") 194)⟩, ⟨PyData.keyHash P (Str.ofString "__qualname__"), (.str (Str.ofString "__qualname__") 268), (.str (Str.ofString "Symbols") 267)⟩, ⟨PyData.keyHash P (Str.ofString "__firstlineno__"), (.str (Str.ofString "__firstlineno__") 270), (.int 18 269)⟩, ⟨PyData.keyHash P (Str.ofString "__init__"), (.str (Str.ofString "__init__") 279), (.ref 81)⟩, ⟨PyData.keyHash P (Str.ofString "atom"), (.str (Str.ofString "atom") 289), (.ref 88)⟩, ⟨PyData.keyHash P (Str.ofString "text"), (.str (Str.ofString "text") 297), (.ref 95)⟩, ⟨PyData.keyHash P (Str.ofString "functor"), (.str (Str.ofString "functor") 309), (.ref 102)⟩, ⟨PyData.keyHash P (Str.ofString "func"), (.str (Str.ofString "func") 318), (.ref 109)⟩, ⟨PyData.keyHash P (Str.ofString "name"), (.str (Str.ofString "name") 326), (.ref 116)⟩, ⟨PyData.keyHash P (Str.ofString "arity"), (.str (Str.ofString "arity") 334), (.ref 123)⟩, ⟨PyData.keyHash P (Str.ofString "label"), (.str (Str.ofString "label") 342), (.ref 130)⟩, ⟨PyData.keyHash P (Str.ofString "count"), (.str (Str.ofString "count") 349), (.ref 137)⟩, ⟨PyData.keyHash P (Str.ofString "functor_count"), (.str (Str.ofString "functor_count") 356), (.ref 144)⟩, ⟨PyData.keyHash P (Str.ofString "known"), (.str (Str.ofString "known") 365), (.ref 151)⟩, ⟨PyData.keyHash P (Str.ofString "__static_attributes__"), (.str (Str.ofString "__static_attributes__") 370), (.ref 152)⟩] 15), #[]⟩) ::
  (nat_lit 71, ⟨(.type "tuple"), none, (.seq #[] 0), #[]⟩) ::
  (nat_lit 72, ⟨.none, none, (.fields #[(.int 20 0), (.int 4 0), (.ref 80), (.int 30 0), (.int 4 0), (.ref 87), (.int 39 0), (.int 4 0), (.ref 94), (.int 42 0), (.int 4 0), (.ref 101), (.int 52 0), (.int 4 0), (.ref 108), (.int 55 0), (.int 4 0), (.ref 115), (.int 58 0), (.int 4 0), (.ref 122), (.int 61 0), (.int 4 0), (.ref 129), (.int 64 0), (.int 4 0), (.ref 136), (.int 67 0), (.int 4 0), (.ref 143), (.int 70 0), (.int 4 0), (.ref 150)]), #[]⟩) ::
  (nat_lit 73, ⟨(.type "code"), none, (.fields #[(.str (Str.ofString "Symbols") 261), (.str (Str.ofString "Symbols") 262), (.str (Str.ofString "/claim/cut.py") 263), (.int 18 0), (.int 0 0), (.int 0 0), (.int 0 0), (.int 0 0), (.ref 71), (.bool false), (.int 181 0), (.ref 72), .none, .none, .none, .none, (.int 264 0), (.int 18 0), (.str (Str.ofString "/claim/cut.py") 265)]), #[]⟩) ::
  (nat_lit 74, ⟨(.type "frame"), none, .plain, #[(some (.ref 73)), (some (.ref 3)), (some (.ref 70)), none, (some (.str (Str.ofString "clausemill.symbols") 194)), none, (some (.ref 0))]⟩) ::
  (nat_lit 75, ⟨(.type "tuple"), none, (.seq #[] 0), #[]⟩) ::
  (nat_lit 76, ⟨.none, none, (.fields #[]), #[]⟩) ::
  (nat_lit 77, ⟨(.type "tuple"), none, (.seq #[(.str (Str.ofString "self") 274), (.str (Str.ofString "text") 275), (.str (Str.ofString "row") 276)] 0), #[]⟩) ::
  (nat_lit 78, ⟨(.type "tuple"), none, (.seq #[] 0), #[]⟩) ::
  (nat_lit 79, ⟨.none, none, (.func ⟨(Str.ofString "__init__"), (Str.ofString "Symbols.__init__"), fnP (stIn 9 0), .stmts (fnB (stIn 9 0)), fnS (stIn 9 0), 0, [], .none, .none, .none, .none, none, .none, .none, 0⟩), #[]⟩) ::
  (nat_lit 80, ⟨(.type "code"), none, (.fields #[(.str (Str.ofString "__init__") 271), (.str (Str.ofString "Symbols.__init__") 272), (.str (Str.ofString "/claim/cut.py") 273), (.int 20 0), (.int 1 0), (.int 0 0), (.int 0 0), (.int 3 0), (.ref 75), (.bool true), (.int 181 0), (.ref 76), .none, (.ref 77), (.ref 78), (.ref 79), (.int 277 0), (.int 20 0), (.str (Str.ofString "/claim/cut.py") 278)]), #[]⟩) ::
  (nat_lit 81, ⟨(.type "function"), none, (.func ⟨(Str.ofString "__init__"), (Str.ofString "Symbols.__init__"), fnP (stIn 9 0), .stmts (fnB (stIn 9 0)), fnS (stIn 9 0), 3, [], .none, .none, .none, (.str (Str.ofString "clausemill.symbols") 194), none, (.ref 80), .none, 0⟩), #[]⟩) ::
  (nat_lit 82, ⟨(.type "tuple"), none, (.seq #[] 0), #[]⟩) ::
  (nat_lit 83, ⟨.none, none, (.fields #[]), #[]⟩) ::
  (nat_lit 84, ⟨(.type "tuple"), none, (.seq #[(.str (Str.ofString "self") 283), (.str (Str.ofString "text") 284), (.str (Str.ofString "found") 285), (.str (Str.ofString "number") 286)] 0), #[]⟩) ::
  (nat_lit 85, ⟨(.type "tuple"), none, (.seq #[] 0), #[]⟩) ::
  (nat_lit 86, ⟨.none, none, (.func ⟨(Str.ofString "atom"), (Str.ofString "Symbols.atom"), fnP (stIn 9 1), .stmts (fnB (stIn 9 1)), fnS (stIn 9 1), 0, [], .none, .none, .none, .none, none, .none, .none, 0⟩), #[]⟩) ::
  (nat_lit 87, ⟨(.type "code"), none, (.fields #[(.str (Str.ofString "atom") 280), (.str (Str.ofString "Symbols.atom") 281), (.str (Str.ofString "/claim/cut.py") 282), (.int 30 0), (.int 2 0), (.int 0 0), (.int 0 0), (.int 3 0), (.ref 82), (.bool true), (.int 181 0), (.ref 83), .none, (.ref 84), (.ref 85), (.ref 86), (.int 287 0), (.int 30 0), (.str (Str.ofString "/claim/cut.py") 288)]), #[]⟩) ::
  (nat_lit 88, ⟨(.type "function"), none, (.func ⟨(Str.ofString "atom"), (Str.ofString "Symbols.atom"), fnP (stIn 9 1), .stmts (fnB (stIn 9 1)), fnS (stIn 9 1), 3, [], .none, .none, .none, (.str (Str.ofString "clausemill.symbols") 194), none, (.ref 87), .none, 0⟩), #[]⟩) ::
  (nat_lit 89, ⟨(.type "tuple"), none, (.seq #[] 0), #[]⟩) ::
  (nat_lit 90, ⟨.none, none, (.fields #[]), #[]⟩) ::
  (nat_lit 91, ⟨(.type "tuple"), none, (.seq #[(.str (Str.ofString "self") 293), (.str (Str.ofString "number") 294)] 0), #[]⟩) ::
  (nat_lit 92, ⟨(.type "tuple"), none, (.seq #[] 0), #[]⟩) ::
  (nat_lit 93, ⟨.none, none, (.func ⟨(Str.ofString "text"), (Str.ofString "Symbols.text"), fnP (stIn 9 2), .stmts (fnB (stIn 9 2)), fnS (stIn 9 2), 0, [], .none, .none, .none, .none, none, .none, .none, 0⟩), #[]⟩) ::
  (nat_lit 94, ⟨(.type "code"), none, (.fields #[(.str (Str.ofString "text") 290), (.str (Str.ofString "Symbols.text") 291), (.str (Str.ofString "/claim/cut.py") 292), (.int 39 0), (.int 2 0), (.int 0 0), (.int 0 0), (.int 3 0), (.ref 89), (.bool true), (.int 181 0), (.ref 90), .none, (.ref 91), (.ref 92), (.ref 93), (.int 295 0), (.int 39 0), (.str (Str.ofString "/claim/cut.py") 296)]), #[]⟩) ::
  (nat_lit 95, ⟨(.type "function"), none, (.func ⟨(Str.ofString "text"), (Str.ofString "Symbols.text"), fnP (stIn 9 2), .stmts (fnB (stIn 9 2)), fnS (stIn 9 2), 3, [], .none, .none, .none, (.str (Str.ofString "clausemill.symbols") 194), none, (.ref 94), .none, 0⟩), #[]⟩) ::
  (nat_lit 96, ⟨(.type "tuple"), none, (.seq #[] 0), #[]⟩) ::
  (nat_lit 97, ⟨.none, none, (.fields #[]), #[]⟩) ::
  (nat_lit 98, ⟨(.type "tuple"), none, (.seq #[(.str (Str.ofString "self") 301), (.str (Str.ofString "atom") 302), (.str (Str.ofString "arity") 303), (.str (Str.ofString "key") 304), (.str (Str.ofString "found") 305), (.str (Str.ofString "number") 306)] 0), #[]⟩) ::
  (nat_lit 99, ⟨(.type "tuple"), none, (.seq #[] 0), #[]⟩) ::
  (nat_lit 100, ⟨.none, none, (.func ⟨(Str.ofString "functor"), (Str.ofString "Symbols.functor"), fnP (stIn 9 3), .stmts (fnB (stIn 9 3)), fnS (stIn 9 3), 0, [], .none, .none, .none, .none, none, .none, .none, 0⟩), #[]⟩) ::
  (nat_lit 101, ⟨(.type "code"), none, (.fields #[(.str (Str.ofString "functor") 298), (.str (Str.ofString "Symbols.functor") 299), (.str (Str.ofString "/claim/cut.py") 300), (.int 42 0), (.int 3 0), (.int 0 0), (.int 0 0), (.int 3 0), (.ref 96), (.bool true), (.int 181 0), (.ref 97), .none, (.ref 98), (.ref 99), (.ref 100), (.int 307 0), (.int 42 0), (.str (Str.ofString "/claim/cut.py") 308)]), #[]⟩) ::
  (nat_lit 102, ⟨(.type "function"), none, (.func ⟨(Str.ofString "functor"), (Str.ofString "Symbols.functor"), fnP (stIn 9 3), .stmts (fnB (stIn 9 3)), fnS (stIn 9 3), 3, [], .none, .none, .none, (.str (Str.ofString "clausemill.symbols") 194), none, (.ref 101), .none, 0⟩), #[]⟩) ::
  (nat_lit 103, ⟨(.type "tuple"), none, (.seq #[] 0), #[]⟩) ::
  (nat_lit 104, ⟨.none, none, (.fields #[]), #[]⟩) ::
  (nat_lit 105, ⟨(.type "tuple"), none, (.seq #[(.str (Str.ofString "self") 313), (.str (Str.ofString "text") 314), (.str (Str.ofString "arity") 315)] 0), #[]⟩) ::
  (nat_lit 106, ⟨(.type "tuple"), none, (.seq #[] 0), #[]⟩) ::
  (nat_lit 107, ⟨.none, none, (.func ⟨(Str.ofString "func"), (Str.ofString "Symbols.func"), fnP (stIn 9 4), .stmts (fnB (stIn 9 4)), fnS (stIn 9 4), 0, [], .none, .none, .none, .none, none, .none, .none, 0⟩), #[]⟩) ::
  (nat_lit 108, ⟨(.type "code"), none, (.fields #[(.str (Str.ofString "func") 310), (.str (Str.ofString "Symbols.func") 311), (.str (Str.ofString "/claim/cut.py") 312), (.int 52 0), (.int 3 0), (.int 0 0), (.int 0 0), (.int 3 0), (.ref 103), (.bool true), (.int 181 0), (.ref 104), .none, (.ref 105), (.ref 106), (.ref 107), (.int 316 0), (.int 52 0), (.str (Str.ofString "/claim/cut.py") 317)]), #[]⟩) ::
  (nat_lit 109, ⟨(.type "function"), none, (.func ⟨(Str.ofString "func"), (Str.ofString "Symbols.func"), fnP (stIn 9 4), .stmts (fnB (stIn 9 4)), fnS (stIn 9 4), 3, [], .none, .none, .none, (.str (Str.ofString "clausemill.symbols") 194), none, (.ref 108), .none, 0⟩), #[]⟩) ::
  (nat_lit 110, ⟨(.type "tuple"), none, (.seq #[] 0), #[]⟩) ::
  (nat_lit 111, ⟨.none, none, (.fields #[]), #[]⟩) ::
  (nat_lit 112, ⟨(.type "tuple"), none, (.seq #[(.str (Str.ofString "self") 322), (.str (Str.ofString "functor") 323)] 0), #[]⟩) ::
  (nat_lit 113, ⟨(.type "tuple"), none, (.seq #[] 0), #[]⟩) ::
  (nat_lit 114, ⟨.none, none, (.func ⟨(Str.ofString "name"), (Str.ofString "Symbols.name"), fnP (stIn 9 5), .stmts (fnB (stIn 9 5)), fnS (stIn 9 5), 0, [], .none, .none, .none, .none, none, .none, .none, 0⟩), #[]⟩) ::
  (nat_lit 115, ⟨(.type "code"), none, (.fields #[(.str (Str.ofString "name") 319), (.str (Str.ofString "Symbols.name") 320), (.str (Str.ofString "/claim/cut.py") 321), (.int 55 0), (.int 2 0), (.int 0 0), (.int 0 0), (.int 3 0), (.ref 110), (.bool true), (.int 181 0), (.ref 111), .none, (.ref 112), (.ref 113), (.ref 114), (.int 324 0), (.int 55 0), (.str (Str.ofString "/claim/cut.py") 325)]), #[]⟩) ::
  (nat_lit 116, ⟨(.type "function"), none, (.func ⟨(Str.ofString "name"), (Str.ofString "Symbols.name"), fnP (stIn 9 5), .stmts (fnB (stIn 9 5)), fnS (stIn 9 5), 3, [], .none, .none, .none, (.str (Str.ofString "clausemill.symbols") 194), none, (.ref 115), .none, 0⟩), #[]⟩) ::
  (nat_lit 117, ⟨(.type "tuple"), none, (.seq #[] 0), #[]⟩) ::
  (nat_lit 118, ⟨.none, none, (.fields #[]), #[]⟩) ::
  (nat_lit 119, ⟨(.type "tuple"), none, (.seq #[(.str (Str.ofString "self") 330), (.str (Str.ofString "functor") 331)] 0), #[]⟩) ::
  (nat_lit 120, ⟨(.type "tuple"), none, (.seq #[] 0), #[]⟩) ::
  (nat_lit 121, ⟨.none, none, (.func ⟨(Str.ofString "arity"), (Str.ofString "Symbols.arity"), fnP (stIn 9 6), .stmts (fnB (stIn 9 6)), fnS (stIn 9 6), 0, [], .none, .none, .none, .none, none, .none, .none, 0⟩), #[]⟩) ::
  (nat_lit 122, ⟨(.type "code"), none, (.fields #[(.str (Str.ofString "arity") 327), (.str (Str.ofString "Symbols.arity") 328), (.str (Str.ofString "/claim/cut.py") 329), (.int 58 0), (.int 2 0), (.int 0 0), (.int 0 0), (.int 3 0), (.ref 117), (.bool true), (.int 181 0), (.ref 118), .none, (.ref 119), (.ref 120), (.ref 121), (.int 332 0), (.int 58 0), (.str (Str.ofString "/claim/cut.py") 333)]), #[]⟩) ::
  (nat_lit 123, ⟨(.type "function"), none, (.func ⟨(Str.ofString "arity"), (Str.ofString "Symbols.arity"), fnP (stIn 9 6), .stmts (fnB (stIn 9 6)), fnS (stIn 9 6), 3, [], .none, .none, .none, (.str (Str.ofString "clausemill.symbols") 194), none, (.ref 122), .none, 0⟩), #[]⟩) ::
  (nat_lit 124, ⟨(.type "tuple"), none, (.seq #[] 0), #[]⟩) ::
  (nat_lit 125, ⟨.none, none, (.fields #[]), #[]⟩) ::
  (nat_lit 126, ⟨(.type "tuple"), none, (.seq #[(.str (Str.ofString "self") 338), (.str (Str.ofString "functor") 339)] 0), #[]⟩) ::
  (nat_lit 127, ⟨(.type "tuple"), none, (.seq #[] 0), #[]⟩) ::
  (nat_lit 128, ⟨.none, none, (.func ⟨(Str.ofString "label"), (Str.ofString "Symbols.label"), fnP (stIn 9 7), .stmts (fnB (stIn 9 7)), fnS (stIn 9 7), 0, [], .none, .none, .none, .none, none, .none, .none, 0⟩), #[]⟩) ::
  (nat_lit 129, ⟨(.type "code"), none, (.fields #[(.str (Str.ofString "label") 335), (.str (Str.ofString "Symbols.label") 336), (.str (Str.ofString "/claim/cut.py") 337), (.int 61 0), (.int 2 0), (.int 0 0), (.int 0 0), (.int 3 0), (.ref 124), (.bool true), (.int 181 0), (.ref 125), .none, (.ref 126), (.ref 127), (.ref 128), (.int 340 0), (.int 61 0), (.str (Str.ofString "/claim/cut.py") 341)]), #[]⟩) ::
  (nat_lit 130, ⟨(.type "function"), none, (.func ⟨(Str.ofString "label"), (Str.ofString "Symbols.label"), fnP (stIn 9 7), .stmts (fnB (stIn 9 7)), fnS (stIn 9 7), 3, [], .none, .none, .none, (.str (Str.ofString "clausemill.symbols") 194), none, (.ref 129), .none, 0⟩), #[]⟩) ::
  (nat_lit 131, ⟨(.type "tuple"), none, (.seq #[] 0), #[]⟩) ::
  (nat_lit 132, ⟨.none, none, (.fields #[]), #[]⟩) ::
  (nat_lit 133, ⟨(.type "tuple"), none, (.seq #[(.str (Str.ofString "self") 346)] 0), #[]⟩) ::
  (nat_lit 134, ⟨(.type "tuple"), none, (.seq #[] 0), #[]⟩) ::
  (nat_lit 135, ⟨.none, none, (.func ⟨(Str.ofString "count"), (Str.ofString "Symbols.count"), fnP (stIn 9 8), .stmts (fnB (stIn 9 8)), fnS (stIn 9 8), 0, [], .none, .none, .none, .none, none, .none, .none, 0⟩), #[]⟩) ::
  (nat_lit 136, ⟨(.type "code"), none, (.fields #[(.str (Str.ofString "count") 343), (.str (Str.ofString "Symbols.count") 344), (.str (Str.ofString "/claim/cut.py") 345), (.int 64 0), (.int 1 0), (.int 0 0), (.int 0 0), (.int 3 0), (.ref 131), (.bool true), (.int 181 0), (.ref 132), .none, (.ref 133), (.ref 134), (.ref 135), (.int 347 0), (.int 64 0), (.str (Str.ofString "/claim/cut.py") 348)]), #[]⟩) ::
  (nat_lit 137, ⟨(.type "function"), none, (.func ⟨(Str.ofString "count"), (Str.ofString "Symbols.count"), fnP (stIn 9 8), .stmts (fnB (stIn 9 8)), fnS (stIn 9 8), 3, [], .none, .none, .none, (.str (Str.ofString "clausemill.symbols") 194), none, (.ref 136), .none, 0⟩), #[]⟩) ::
  (nat_lit 138, ⟨(.type "tuple"), none, (.seq #[] 0), #[]⟩) ::
  (nat_lit 139, ⟨.none, none, (.fields #[]), #[]⟩) ::
  (nat_lit 140, ⟨(.type "tuple"), none, (.seq #[(.str (Str.ofString "self") 353)] 0), #[]⟩) ::
  (nat_lit 141, ⟨(.type "tuple"), none, (.seq #[] 0), #[]⟩) ::
  (nat_lit 142, ⟨.none, none, (.func ⟨(Str.ofString "functor_count"), (Str.ofString "Symbols.functor_count"), fnP (stIn 9 9), .stmts (fnB (stIn 9 9)), fnS (stIn 9 9), 0, [], .none, .none, .none, .none, none, .none, .none, 0⟩), #[]⟩) ::
  (nat_lit 143, ⟨(.type "code"), none, (.fields #[(.str (Str.ofString "functor_count") 350), (.str (Str.ofString "Symbols.functor_count") 351), (.str (Str.ofString "/claim/cut.py") 352), (.int 67 0), (.int 1 0), (.int 0 0), (.int 0 0), (.int 3 0), (.ref 138), (.bool true), (.int 181 0), (.ref 139), .none, (.ref 140), (.ref 141), (.ref 142), (.int 354 0), (.int 67 0), (.str (Str.ofString "/claim/cut.py") 355)]), #[]⟩) ::
  (nat_lit 144, ⟨(.type "function"), none, (.func ⟨(Str.ofString "functor_count"), (Str.ofString "Symbols.functor_count"), fnP (stIn 9 9), .stmts (fnB (stIn 9 9)), fnS (stIn 9 9), 3, [], .none, .none, .none, (.str (Str.ofString "clausemill.symbols") 194), none, (.ref 143), .none, 0⟩), #[]⟩) ::
  (nat_lit 145, ⟨(.type "tuple"), none, (.seq #[] 0), #[]⟩) ::
  (nat_lit 146, ⟨.none, none, (.fields #[]), #[]⟩) ::
  (nat_lit 147, ⟨(.type "tuple"), none, (.seq #[(.str (Str.ofString "self") 360), (.str (Str.ofString "text") 361), (.str (Str.ofString "arity") 362)] 0), #[]⟩) ::
  (nat_lit 148, ⟨(.type "tuple"), none, (.seq #[] 0), #[]⟩) ::
  (nat_lit 149, ⟨.none, none, (.func ⟨(Str.ofString "known"), (Str.ofString "Symbols.known"), fnP (stIn 9 10), .stmts (fnB (stIn 9 10)), fnS (stIn 9 10), 0, [], .none, .none, .none, .none, none, .none, .none, 0⟩), #[]⟩) ::
  (nat_lit 150, ⟨(.type "code"), none, (.fields #[(.str (Str.ofString "known") 357), (.str (Str.ofString "Symbols.known") 358), (.str (Str.ofString "/claim/cut.py") 359), (.int 70 0), (.int 3 0), (.int 0 0), (.int 0 0), (.int 3 0), (.ref 145), (.bool true), (.int 181 0), (.ref 146), .none, (.ref 147), (.ref 148), (.ref 149), (.int 363 0), (.int 70 0), (.str (Str.ofString "/claim/cut.py") 364)]), #[]⟩) ::
  (nat_lit 151, ⟨(.type "function"), none, (.func ⟨(Str.ofString "known"), (Str.ofString "Symbols.known"), fnP (stIn 9 10), .stmts (fnB (stIn 9 10)), fnS (stIn 9 10), 3, [], .none, .none, .none, (.str (Str.ofString "clausemill.symbols") 194), none, (.ref 150), .none, 0⟩), #[]⟩) ::
  (nat_lit 152, ⟨(.type "tuple"), none, (.seq #[(.str (Str.ofString "atom_numbers") 366), (.str (Str.ofString "functor_numbers") 367), (.str (Str.ofString "functors") 368), (.str (Str.ofString "texts") 369)] 0), #[]⟩) ::
  (nat_lit 153, ⟨(.type "dict"), none, (.dict #[⟨PyData.keyHash P (Str.ofString "__module__"), (.str (Str.ofString "__module__") 266), (.str (Str.ofString "clausemill.symbols") 194)⟩, ⟨PyData.keyHash P (Str.ofString "__firstlineno__"), (.str (Str.ofString "__firstlineno__") 270), (.int 18 269)⟩, ⟨PyData.keyHash P (Str.ofString "__init__"), (.str (Str.ofString "__init__") 279), (.ref 81)⟩, ⟨PyData.keyHash P (Str.ofString "atom"), (.str (Str.ofString "atom") 289), (.ref 88)⟩, ⟨PyData.keyHash P (Str.ofString "text"), (.str (Str.ofString "text") 297), (.ref 95)⟩, ⟨PyData.keyHash P (Str.ofString "functor"), (.str (Str.ofString "functor") 309), (.ref 102)⟩, ⟨PyData.keyHash P (Str.ofString "func"), (.str (Str.ofString "func") 318), (.ref 109)⟩, ⟨PyData.keyHash P (Str.ofString "name"), (.str (Str.ofString "name") 326), (.ref 116)⟩, ⟨PyData.keyHash P (Str.ofString "arity"), (.str (Str.ofString "arity") 334), (.ref 123)⟩, ⟨PyData.keyHash P (Str.ofString "label"), (.str (Str.ofString "label") 342), (.ref 130)⟩, ⟨PyData.keyHash P (Str.ofString "count"), (.str (Str.ofString "count") 349), (.ref 137)⟩, ⟨PyData.keyHash P (Str.ofString "functor_count"), (.str (Str.ofString "functor_count") 356), (.ref 144)⟩, ⟨PyData.keyHash P (Str.ofString "known"), (.str (Str.ofString "known") 365), (.ref 151)⟩, ⟨PyData.keyHash P (Str.ofString "__static_attributes__"), (.str (Str.ofString "__static_attributes__") 370), (.ref 152)⟩, ⟨PyData.keyHash P (Str.ofString "__dict__"), (.str (Str.ofString "__dict__") 372), (.ref 155)⟩, ⟨PyData.keyHash P (Str.ofString "__weakref__"), (.str (Str.ofString "__weakref__") 374), (.ref 156)⟩, ⟨PyData.keyHash P (Str.ofString "__doc__"), (.str (Str.ofString "__doc__") 375), .none⟩] 4), #[]⟩) ::
  (nat_lit 154, ⟨(.type "type"), none, (.cls ⟨(Str.ofString "Symbols"), [(.type "object")], [(.ref 154), (.type "object")], 153, (Str.ofString "Symbols"), true, [], [], false, none, false⟩), #[none, none, (some (.str (Str.ofString "Symbols") 259)), (some (.str (Str.ofString "Symbols") 267)), (some (.builtin "object.__new__")), (some (.bool true))]⟩) ::
  (nat_lit 155, ⟨(.type "getset_descriptor"), none, (.fields #[(.str (Str.ofString "__dict__") 371), (.ref 154), (.builtin "function.__dict__"), (.builtin "function.__dict__#set")]), #[]⟩) ::
  (nat_lit 156, ⟨(.type "getset_descriptor"), none, (.fields #[(.str (Str.ofString "__weakref__") 373), (.ref 154), (.builtin "ExceptionGroup.__weakref__"), .none]), #[]⟩) ::
  (nat_lit 157, ⟨(.type "super"), none, (.fields #[(.ref 154), (.ref 154), (.ref 154)]), #[]⟩) ::
  (nat_lit 158, ⟨(.type "builtin_function_or_method"), none, (.fields #[(.builtin "object.__init_subclass__"), (.ref 154)]), #[]⟩) :: [])
noncomputable def st4 (w : World) (os : OsState) : SharedT := ⟨tr4 w.params, 159, (boot_heap w.params).life, Array.mk [], boot_drawn, 378, os⟩
noncomputable def tr5 (P : Params) : BT := putAll (tr4 P) (
  (nat_lit 3, ⟨(.type "dict"), none, (.dict #[⟨PyData.keyHash P (Str.ofString "__name__"), (.str (Str.ofString "__name__") 165), (.str (Str.ofString "clausemill.store") 406)⟩, ⟨PyData.keyHash P (Str.ofString "__doc__"), (.str (Str.ofString "__doc__") 166), .none⟩, ⟨PyData.keyHash P (Str.ofString "__package__"), (.str (Str.ofString "__package__") 167), .none⟩, ⟨PyData.keyHash P (Str.ofString "__loader__"), (.str (Str.ofString "__loader__") 168), (.builtin "__main__.__loader__#opaque")⟩, ⟨PyData.keyHash P (Str.ofString "__spec__"), (.str (Str.ofString "__spec__") 169), .none⟩, ⟨PyData.keyHash P (Str.ofString "__annotations__"), (.str (Str.ofString "__annotations__") 170), (.ref 6)⟩, ⟨PyData.keyHash P (Str.ofString "__builtins__"), (.str (Str.ofString "__builtins__") 171), (.ref 4)⟩, ⟨PyData.keyHash P (Str.ofString "__file__"), (.str (Str.ofString "__file__") 173), (.str (Str.ofString "/claim/cut.py") 172)⟩, ⟨PyData.keyHash P (Str.ofString "__cached__"), (.str (Str.ofString "__cached__") 174), .none⟩, ⟨PyData.keyHash P (Str.ofString "_wall"), (.str (Str.ofString "_wall") 193), (.ref 21)⟩, ⟨PyData.keyHash P (Str.ofString "ClausemillError"), (.str (Str.ofString "ClausemillError") 215), (.ref 31)⟩, ⟨PyData.keyHash P (Str.ofString "PrologError"), (.str (Str.ofString "PrologError") 240), (.ref 51)⟩, ⟨PyData.keyHash P (Str.ofString "A_SYSTEM"), (.str (Str.ofString "A_SYSTEM") 242), (.int 25 241)⟩, ⟨PyData.keyHash P (Str.ofString "F_ERROR"), (.str (Str.ofString "F_ERROR") 244), (.int 16 243)⟩, ⟨PyData.keyHash P (Str.ofString "F_CALL1"), (.str (Str.ofString "F_CALL1") 246), (.int 24 245)⟩, ⟨PyData.keyHash P (Str.ofString "fixed_atoms"), (.str (Str.ofString "fixed_atoms") 252), (.ref 60)⟩, ⟨PyData.keyHash P (Str.ofString "fixed_functors"), (.str (Str.ofString "fixed_functors") 258), (.ref 67)⟩, ⟨PyData.keyHash P (Str.ofString "Symbols"), (.str (Str.ofString "Symbols") 377), (.ref 154)⟩, ⟨PyData.keyHash P (Str.ofString "system_error"), (.str (Str.ofString "system_error") 386), (.ref 165)⟩, ⟨PyData.keyHash P (Str.ofString "formal_of"), (.str (Str.ofString "formal_of") 397), (.ref 172)⟩, ⟨PyData.keyHash P (Str.ofString "resource_error"), (.str (Str.ofString "resource_error") 405), (.ref 179)⟩, ⟨PyData.keyHash P (Str.ofString "REF"), (.str (Str.ofString "REF") 409), (.int 0 408)⟩, ⟨PyData.keyHash P (Str.ofString "SRF"), (.str (Str.ofString "SRF") 411), (.int 1 410)⟩, ⟨PyData.keyHash P (Str.ofString "LIS"), (.str (Str.ofString "LIS") 413), (.int 3 412)⟩, ⟨PyData.keyHash P (Str.ofString "INT"), (.str (Str.ofString "INT") 415), (.int 5 414)⟩, ⟨PyData.keyHash P (Str.ofString "VOID"), (.str (Str.ofString "VOID") 417), (.ref 180)⟩] 26), #[]⟩) ::
  (nat_lit 12, ⟨.none, none, (.fields #[(.int 1 0), (.int 0 0), (.ref 20), (.int 5 0), (.int 0 0), (.ref 27), (.int 7 0), (.int 0 0), (.ref 40), (.int 14 0), (.int 0 0), (.ref 59), (.int 16 0), (.int 0 0), (.ref 66), (.int 18 0), (.int 0 0), (.ref 73), (.int 73 0), (.int 0 0), (.ref 164), (.int 75 0), (.int 0 0), (.ref 171), (.int 80 0), (.int 0 0), (.ref 178)]), #[]⟩) ::
  (nat_lit 159, ⟨(.type "tuple"), none, (.seq #[] 0), #[]⟩) ::
  (nat_lit 160, ⟨.none, none, (.fields #[]), #[]⟩) ::
  (nat_lit 161, ⟨(.type "tuple"), none, (.seq #[(.str (Str.ofString "formal") 383)] 0), #[]⟩) ::
  (nat_lit 162, ⟨(.type "tuple"), none, (.seq #[] 0), #[]⟩) ::
  (nat_lit 163, ⟨.none, none, (.func ⟨(Str.ofString "system_error"), (Str.ofString "system_error"), fnP (stAt 11), .stmts (fnB (stAt 11)), fnS (stAt 11), 0, [], .none, .none, .none, .none, none, .none, .none, 0⟩), #[]⟩) ::
  (nat_lit 164, ⟨(.type "code"), none, (.fields #[(.str (Str.ofString "system_error") 380), (.str (Str.ofString "system_error") 381), (.str (Str.ofString "/claim/cut.py") 382), (.int 73 0), (.int 1 0), (.int 0 0), (.int 0 0), (.int 3 0), (.ref 159), (.bool true), (.int 181 0), (.ref 160), .none, (.ref 161), (.ref 162), (.ref 163), (.int 384 0), (.int 73 0), (.str (Str.ofString "/claim/cut.py") 385)]), #[]⟩) ::
  (nat_lit 165, ⟨(.type "function"), none, (.func ⟨(Str.ofString "system_error"), (Str.ofString "system_error"), fnP (stAt 11), .stmts (fnB (stAt 11)), fnS (stAt 11), 3, [], .none, .none, .none, (.str (Str.ofString "clausemill.terms") 378), none, (.ref 164), .none, 0⟩), #[]⟩) ::
  (nat_lit 166, ⟨(.type "tuple"), none, (.seq #[] 0), #[]⟩) ::
  (nat_lit 167, ⟨.none, none, (.fields #[]), #[]⟩) ::
  (nat_lit 168, ⟨(.type "tuple"), none, (.seq #[(.str (Str.ofString "symbols") 390), (.str (Str.ofString "name") 391), (.str (Str.ofString "parts") 392), (.str (Str.ofString "args") 393), (.str (Str.ofString "part") 394)] 0), #[]⟩) ::
  (nat_lit 169, ⟨(.type "tuple"), none, (.seq #[] 0), #[]⟩) ::
  (nat_lit 170, ⟨.none, none, (.func ⟨(Str.ofString "formal_of"), (Str.ofString "formal_of"), fnP (stAt 12), .stmts (fnB (stAt 12)), fnS (stAt 12), 0, [], .none, .none, .none, .none, none, .none, .none, 0⟩), #[]⟩) ::
  (nat_lit 171, ⟨(.type "code"), none, (.fields #[(.str (Str.ofString "formal_of") 387), (.str (Str.ofString "formal_of") 388), (.str (Str.ofString "/claim/cut.py") 389), (.int 75 0), (.int 3 0), (.int 0 0), (.int 0 0), (.int 3 0), (.ref 166), (.bool true), (.int 181 0), (.ref 167), .none, (.ref 168), (.ref 169), (.ref 170), (.int 395 0), (.int 75 0), (.str (Str.ofString "/claim/cut.py") 396)]), #[]⟩) ::
  (nat_lit 172, ⟨(.type "function"), none, (.func ⟨(Str.ofString "formal_of"), (Str.ofString "formal_of"), fnP (stAt 12), .stmts (fnB (stAt 12)), fnS (stAt 12), 3, [], .none, .none, .none, (.str (Str.ofString "clausemill.terms") 378), none, (.ref 171), .none, 0⟩), #[]⟩) ::
  (nat_lit 173, ⟨(.type "tuple"), none, (.seq #[] 0), #[]⟩) ::
  (nat_lit 174, ⟨.none, none, (.fields #[]), #[]⟩) ::
  (nat_lit 175, ⟨(.type "tuple"), none, (.seq #[(.str (Str.ofString "symbols") 401), (.str (Str.ofString "what") 402)] 0), #[]⟩) ::
  (nat_lit 176, ⟨(.type "tuple"), none, (.seq #[] 0), #[]⟩) ::
  (nat_lit 177, ⟨.none, none, (.func ⟨(Str.ofString "resource_error"), (Str.ofString "resource_error"), fnP (stAt 13), .stmts (fnB (stAt 13)), fnS (stAt 13), 0, [], .none, .none, .none, .none, none, .none, .none, 0⟩), #[]⟩) ::
  (nat_lit 178, ⟨(.type "code"), none, (.fields #[(.str (Str.ofString "resource_error") 398), (.str (Str.ofString "resource_error") 399), (.str (Str.ofString "/claim/cut.py") 400), (.int 80 0), (.int 2 0), (.int 0 0), (.int 0 0), (.int 3 0), (.ref 173), (.bool true), (.int 181 0), (.ref 174), .none, (.ref 175), (.ref 176), (.ref 177), (.int 403 0), (.int 80 0), (.str (Str.ofString "/claim/cut.py") 404)]), #[]⟩) ::
  (nat_lit 179, ⟨(.type "function"), none, (.func ⟨(Str.ofString "resource_error"), (Str.ofString "resource_error"), fnP (stAt 13), .stmts (fnB (stAt 13)), fnS (stAt 13), 3, [], .none, .none, .none, (.str (Str.ofString "clausemill.terms") 378), none, (.ref 178), .none, 0⟩), #[]⟩) ::
  (nat_lit 180, ⟨(.type "tuple"), none, (.seq #[(.int 5 414), (.int 0 416)] 0), #[]⟩) :: [])
noncomputable def st5 (w : World) (os : OsState) : SharedT := ⟨tr5 w.params, 181, (boot_heap w.params).life, Array.mk [], boot_drawn, 418, os⟩
noncomputable def tr6 (P : Params) : BT := putAll (tr5 P) (
  (nat_lit 3, ⟨(.type "dict"), none, (.dict #[⟨PyData.keyHash P (Str.ofString "__name__"), (.str (Str.ofString "__name__") 165), (.str (Str.ofString "clausemill.store") 406)⟩, ⟨PyData.keyHash P (Str.ofString "__doc__"), (.str (Str.ofString "__doc__") 166), .none⟩, ⟨PyData.keyHash P (Str.ofString "__package__"), (.str (Str.ofString "__package__") 167), .none⟩, ⟨PyData.keyHash P (Str.ofString "__loader__"), (.str (Str.ofString "__loader__") 168), (.builtin "__main__.__loader__#opaque")⟩, ⟨PyData.keyHash P (Str.ofString "__spec__"), (.str (Str.ofString "__spec__") 169), .none⟩, ⟨PyData.keyHash P (Str.ofString "__annotations__"), (.str (Str.ofString "__annotations__") 170), (.ref 6)⟩, ⟨PyData.keyHash P (Str.ofString "__builtins__"), (.str (Str.ofString "__builtins__") 171), (.ref 4)⟩, ⟨PyData.keyHash P (Str.ofString "__file__"), (.str (Str.ofString "__file__") 173), (.str (Str.ofString "/claim/cut.py") 172)⟩, ⟨PyData.keyHash P (Str.ofString "__cached__"), (.str (Str.ofString "__cached__") 174), .none⟩, ⟨PyData.keyHash P (Str.ofString "_wall"), (.str (Str.ofString "_wall") 193), (.ref 21)⟩, ⟨PyData.keyHash P (Str.ofString "ClausemillError"), (.str (Str.ofString "ClausemillError") 215), (.ref 31)⟩, ⟨PyData.keyHash P (Str.ofString "PrologError"), (.str (Str.ofString "PrologError") 240), (.ref 51)⟩, ⟨PyData.keyHash P (Str.ofString "A_SYSTEM"), (.str (Str.ofString "A_SYSTEM") 242), (.int 25 241)⟩, ⟨PyData.keyHash P (Str.ofString "F_ERROR"), (.str (Str.ofString "F_ERROR") 244), (.int 16 243)⟩, ⟨PyData.keyHash P (Str.ofString "F_CALL1"), (.str (Str.ofString "F_CALL1") 246), (.int 24 245)⟩, ⟨PyData.keyHash P (Str.ofString "fixed_atoms"), (.str (Str.ofString "fixed_atoms") 252), (.ref 60)⟩, ⟨PyData.keyHash P (Str.ofString "fixed_functors"), (.str (Str.ofString "fixed_functors") 258), (.ref 67)⟩, ⟨PyData.keyHash P (Str.ofString "Symbols"), (.str (Str.ofString "Symbols") 377), (.ref 154)⟩, ⟨PyData.keyHash P (Str.ofString "system_error"), (.str (Str.ofString "system_error") 386), (.ref 165)⟩, ⟨PyData.keyHash P (Str.ofString "formal_of"), (.str (Str.ofString "formal_of") 397), (.ref 172)⟩, ⟨PyData.keyHash P (Str.ofString "resource_error"), (.str (Str.ofString "resource_error") 405), (.ref 179)⟩, ⟨PyData.keyHash P (Str.ofString "REF"), (.str (Str.ofString "REF") 409), (.int 0 408)⟩, ⟨PyData.keyHash P (Str.ofString "SRF"), (.str (Str.ofString "SRF") 411), (.int 1 410)⟩, ⟨PyData.keyHash P (Str.ofString "LIS"), (.str (Str.ofString "LIS") 413), (.int 3 412)⟩, ⟨PyData.keyHash P (Str.ofString "INT"), (.str (Str.ofString "INT") 415), (.int 5 414)⟩, ⟨PyData.keyHash P (Str.ofString "VOID"), (.str (Str.ofString "VOID") 417), (.ref 180)⟩, ⟨PyData.keyHash P (Str.ofString "Cells"), (.str (Str.ofString "Cells") 606), (.ref 324)⟩] 27), #[]⟩) ::
  (nat_lit 12, ⟨.none, none, (.fields #[(.int 1 0), (.int 0 0), (.ref 20), (.int 5 0), (.int 0 0), (.ref 27), (.int 7 0), (.int 0 0), (.ref 40), (.int 14 0), (.int 0 0), (.ref 59), (.int 16 0), (.int 0 0), (.ref 66), (.int 18 0), (.int 0 0), (.ref 73), (.int 73 0), (.int 0 0), (.ref 164), (.int 75 0), (.int 0 0), (.ref 171), (.int 80 0), (.int 0 0), (.ref 178), (.int 88 0), (.int 0 0), (.ref 186)]), #[]⟩) ::
  (nat_lit 181, ⟨(.type "tuple"), none, (.seq #[] 0), #[]⟩) ::
  (nat_lit 182, ⟨(.type "builtin_function_or_method"), none, (.fields #[(.builtin "type.__prepare__"), (.type "type")]), #[]⟩) ::
  (nat_lit 183, ⟨(.type "dict"), none, (.dict #[⟨PyData.keyHash P (Str.ofString "__module__"), (.str (Str.ofString "__module__") 425), (.str (Str.ofString "clausemill.store") 406)⟩, ⟨PyData.keyHash P (Str.ofString "__qualname__"), (.str (Str.ofString "__qualname__") 427), (.str (Str.ofString "Cells") 426)⟩, ⟨PyData.keyHash P (Str.ofString "__firstlineno__"), (.str (Str.ofString "__firstlineno__") 429), (.int 88 428)⟩, ⟨PyData.keyHash P (Str.ofString "__init__"), (.str (Str.ofString "__init__") 439), (.ref 195)⟩, ⟨PyData.keyHash P (Str.ofString "push"), (.str (Str.ofString "push") 448), (.ref 202)⟩, ⟨PyData.keyHash P (Str.ofString "new_var"), (.str (Str.ofString "new_var") 456), (.ref 209)⟩, ⟨PyData.keyHash P (Str.ofString "reserve"), (.str (Str.ofString "reserve") 464), (.ref 216)⟩, ⟨PyData.keyHash P (Str.ofString "trim"), (.str (Str.ofString "trim") 472), (.ref 223)⟩, ⟨PyData.keyHash P (Str.ofString "deref"), (.str (Str.ofString "deref") 480), (.ref 230)⟩, ⟨PyData.keyHash P (Str.ofString "is_unbound"), (.str (Str.ofString "is_unbound") 488), (.ref 237)⟩, ⟨PyData.keyHash P (Str.ofString "bind"), (.str (Str.ofString "bind") 498), (.ref 244)⟩, ⟨PyData.keyHash P (Str.ofString "bind_pair"), (.str (Str.ofString "bind_pair") 507), (.ref 251)⟩, ⟨PyData.keyHash P (Str.ofString "globalise"), (.str (Str.ofString "globalise") 515), (.ref 258)⟩, ⟨PyData.keyHash P (Str.ofString "mark"), (.str (Str.ofString "mark") 522), (.ref 265)⟩, ⟨PyData.keyHash P (Str.ofString "undo_to"), (.str (Str.ofString "undo_to") 532), (.ref 272)⟩, ⟨PyData.keyHash P (Str.ofString "stack_put"), (.str (Str.ofString "stack_put") 542), (.ref 279)⟩, ⟨PyData.keyHash P (Str.ofString "is_compound"), (.str (Str.ofString "is_compound") 550), (.ref 286)⟩, ⟨PyData.keyHash P (Str.ofString "functor_of"), (.str (Str.ofString "functor_of") 558), (.ref 293)⟩, ⟨PyData.keyHash P (Str.ofString "width"), (.str (Str.ofString "width") 566), (.ref 300)⟩, ⟨PyData.keyHash P (Str.ofString "base"), (.str (Str.ofString "base") 574), (.ref 307)⟩, ⟨PyData.keyHash P (Str.ofString "arg"), (.str (Str.ofString "arg") 583), (.ref 314)⟩, ⟨PyData.keyHash P (Str.ofString "new_block"), (.str (Str.ofString "new_block") 591), (.ref 321)⟩, ⟨PyData.keyHash P (Str.ofString "__static_attributes__"), (.str (Str.ofString "__static_attributes__") 599), (.ref 322)⟩] 23), #[]⟩) ::
  (nat_lit 184, ⟨(.type "tuple"), none, (.seq #[] 0), #[]⟩) ::
  (nat_lit 185, ⟨.none, none, (.fields #[(.int 90 0), (.int 4 0), (.ref 194), (.int 99 0), (.int 4 0), (.ref 201), (.int 106 0), (.int 4 0), (.ref 208), (.int 111 0), (.int 4 0), (.ref 215), (.int 114 0), (.int 4 0), (.ref 222), (.int 117 0), (.int 4 0), (.ref 229), (.int 120 0), (.int 4 0), (.ref 236), (.int 123 0), (.int 4 0), (.ref 243), (.int 134 0), (.int 4 0), (.ref 250), (.int 137 0), (.int 4 0), (.ref 257), (.int 140 0), (.int 4 0), (.ref 264), (.int 143 0), (.int 4 0), (.ref 271), (.int 152 0), (.int 4 0), (.ref 278), (.int 161 0), (.int 4 0), (.ref 285), (.int 164 0), (.int 4 0), (.ref 292), (.int 167 0), (.int 4 0), (.ref 299), (.int 170 0), (.int 4 0), (.ref 306), (.int 175 0), (.int 4 0), (.ref 313), (.int 178 0), (.int 4 0), (.ref 320)]), #[]⟩) ::
  (nat_lit 186, ⟨(.type "code"), none, (.fields #[(.str (Str.ofString "Cells") 420), (.str (Str.ofString "Cells") 421), (.str (Str.ofString "/claim/cut.py") 422), (.int 88 0), (.int 0 0), (.int 0 0), (.int 0 0), (.int 0 0), (.ref 184), (.bool false), (.int 181 0), (.ref 185), .none, .none, .none, .none, (.int 423 0), (.int 88 0), (.str (Str.ofString "/claim/cut.py") 424)]), #[]⟩) ::
  (nat_lit 187, ⟨(.type "frame"), none, .plain, #[(some (.ref 186)), (some (.ref 3)), (some (.ref 183)), none, (some (.str (Str.ofString "clausemill.store") 406)), none, (some (.ref 0))]⟩) ::
  (nat_lit 188, ⟨(.type "tuple"), none, (.seq #[(.int 100000 430)] 0), #[]⟩) ::
  (nat_lit 189, ⟨(.type "tuple"), none, (.seq #[] 0), #[]⟩) ::
  (nat_lit 190, ⟨.none, none, (.fields #[]), #[]⟩) ::
  (nat_lit 191, ⟨(.type "tuple"), none, (.seq #[(.str (Str.ofString "self") 434), (.str (Str.ofString "symbols") 435), (.str (Str.ofString "max_heap") 436)] 0), #[]⟩) ::
  (nat_lit 192, ⟨(.type "tuple"), none, (.seq #[] 0), #[]⟩) ::
  (nat_lit 193, ⟨.none, none, (.func ⟨(Str.ofString "__init__"), (Str.ofString "Cells.__init__"), fnP (stIn 20 0), .stmts (fnB (stIn 20 0)), fnS (stIn 20 0), 0, [], .none, .none, .none, .none, none, .none, .none, 0⟩), #[]⟩) ::
  (nat_lit 194, ⟨(.type "code"), none, (.fields #[(.str (Str.ofString "__init__") 431), (.str (Str.ofString "Cells.__init__") 432), (.str (Str.ofString "/claim/cut.py") 433), (.int 90 0), (.int 3 0), (.int 0 0), (.int 0 0), (.int 3 0), (.ref 189), (.bool true), (.int 181 0), (.ref 190), .none, (.ref 191), (.ref 192), (.ref 193), (.int 437 0), (.int 90 0), (.str (Str.ofString "/claim/cut.py") 438)]), #[]⟩) ::
  (nat_lit 195, ⟨(.type "function"), none, (.func ⟨(Str.ofString "__init__"), (Str.ofString "Cells.__init__"), fnP (stIn 20 0), .stmts (fnB (stIn 20 0)), fnS (stIn 20 0), 3, [], (.ref 188), .none, .none, (.str (Str.ofString "clausemill.store") 406), none, (.ref 194), .none, 0⟩), #[]⟩) ::
  (nat_lit 196, ⟨(.type "tuple"), none, (.seq #[] 0), #[]⟩) ::
  (nat_lit 197, ⟨.none, none, (.fields #[]), #[]⟩) ::
  (nat_lit 198, ⟨(.type "tuple"), none, (.seq #[(.str (Str.ofString "self") 443), (.str (Str.ofString "cell") 444), (.str (Str.ofString "address") 445)] 0), #[]⟩) ::
  (nat_lit 199, ⟨(.type "tuple"), none, (.seq #[] 0), #[]⟩) ::
  (nat_lit 200, ⟨.none, none, (.func ⟨(Str.ofString "push"), (Str.ofString "Cells.push"), fnP (stIn 20 1), .stmts (fnB (stIn 20 1)), fnS (stIn 20 1), 0, [], .none, .none, .none, .none, none, .none, .none, 0⟩), #[]⟩) ::
  (nat_lit 201, ⟨(.type "code"), none, (.fields #[(.str (Str.ofString "push") 440), (.str (Str.ofString "Cells.push") 441), (.str (Str.ofString "/claim/cut.py") 442), (.int 99 0), (.int 2 0), (.int 0 0), (.int 0 0), (.int 3 0), (.ref 196), (.bool true), (.int 181 0), (.ref 197), .none, (.ref 198), (.ref 199), (.ref 200), (.int 446 0), (.int 99 0), (.str (Str.ofString "/claim/cut.py") 447)]), #[]⟩) ::
  (nat_lit 202, ⟨(.type "function"), none, (.func ⟨(Str.ofString "push"), (Str.ofString "Cells.push"), fnP (stIn 20 1), .stmts (fnB (stIn 20 1)), fnS (stIn 20 1), 3, [], .none, .none, .none, (.str (Str.ofString "clausemill.store") 406), none, (.ref 201), .none, 0⟩), #[]⟩) ::
  (nat_lit 203, ⟨(.type "tuple"), none, (.seq #[] 0), #[]⟩) ::
  (nat_lit 204, ⟨.none, none, (.fields #[]), #[]⟩) ::
  (nat_lit 205, ⟨(.type "tuple"), none, (.seq #[(.str (Str.ofString "self") 452), (.str (Str.ofString "cell") 453)] 0), #[]⟩) ::
  (nat_lit 206, ⟨(.type "tuple"), none, (.seq #[] 0), #[]⟩) ::
  (nat_lit 207, ⟨.none, none, (.func ⟨(Str.ofString "new_var"), (Str.ofString "Cells.new_var"), fnP (stIn 20 2), .stmts (fnB (stIn 20 2)), fnS (stIn 20 2), 0, [], .none, .none, .none, .none, none, .none, .none, 0⟩), #[]⟩) ::
  (nat_lit 208, ⟨(.type "code"), none, (.fields #[(.str (Str.ofString "new_var") 449), (.str (Str.ofString "Cells.new_var") 450), (.str (Str.ofString "/claim/cut.py") 451), (.int 106 0), (.int 1 0), (.int 0 0), (.int 0 0), (.int 3 0), (.ref 203), (.bool true), (.int 181 0), (.ref 204), .none, (.ref 205), (.ref 206), (.ref 207), (.int 454 0), (.int 106 0), (.str (Str.ofString "/claim/cut.py") 455)]), #[]⟩) ::
  (nat_lit 209, ⟨(.type "function"), none, (.func ⟨(Str.ofString "new_var"), (Str.ofString "Cells.new_var"), fnP (stIn 20 2), .stmts (fnB (stIn 20 2)), fnS (stIn 20 2), 3, [], .none, .none, .none, (.str (Str.ofString "clausemill.store") 406), none, (.ref 208), .none, 0⟩), #[]⟩) ::
  (nat_lit 210, ⟨(.type "tuple"), none, (.seq #[] 0), #[]⟩) ::
  (nat_lit 211, ⟨.none, none, (.fields #[]), #[]⟩) ::
  (nat_lit 212, ⟨(.type "tuple"), none, (.seq #[(.str (Str.ofString "self") 460), (.str (Str.ofString "count") 461)] 0), #[]⟩) ::
  (nat_lit 213, ⟨(.type "tuple"), none, (.seq #[] 0), #[]⟩) ::
  (nat_lit 214, ⟨.none, none, (.func ⟨(Str.ofString "reserve"), (Str.ofString "Cells.reserve"), fnP (stIn 20 3), .stmts (fnB (stIn 20 3)), fnS (stIn 20 3), 0, [], .none, .none, .none, .none, none, .none, .none, 0⟩), #[]⟩) ::
  (nat_lit 215, ⟨(.type "code"), none, (.fields #[(.str (Str.ofString "reserve") 457), (.str (Str.ofString "Cells.reserve") 458), (.str (Str.ofString "/claim/cut.py") 459), (.int 111 0), (.int 2 0), (.int 0 0), (.int 0 0), (.int 3 0), (.ref 210), (.bool true), (.int 181 0), (.ref 211), .none, (.ref 212), (.ref 213), (.ref 214), (.int 462 0), (.int 111 0), (.str (Str.ofString "/claim/cut.py") 463)]), #[]⟩) ::
  (nat_lit 216, ⟨(.type "function"), none, (.func ⟨(Str.ofString "reserve"), (Str.ofString "Cells.reserve"), fnP (stIn 20 3), .stmts (fnB (stIn 20 3)), fnS (stIn 20 3), 3, [], .none, .none, .none, (.str (Str.ofString "clausemill.store") 406), none, (.ref 215), .none, 0⟩), #[]⟩) ::
  (nat_lit 217, ⟨(.type "tuple"), none, (.seq #[] 0), #[]⟩) ::
  (nat_lit 218, ⟨.none, none, (.fields #[]), #[]⟩) ::
  (nat_lit 219, ⟨(.type "tuple"), none, (.seq #[(.str (Str.ofString "self") 468), (.str (Str.ofString "h") 469)] 0), #[]⟩) ::
  (nat_lit 220, ⟨(.type "tuple"), none, (.seq #[] 0), #[]⟩) ::
  (nat_lit 221, ⟨.none, none, (.func ⟨(Str.ofString "trim"), (Str.ofString "Cells.trim"), fnP (stIn 20 4), .stmts (fnB (stIn 20 4)), fnS (stIn 20 4), 0, [], .none, .none, .none, .none, none, .none, .none, 0⟩), #[]⟩) ::
  (nat_lit 222, ⟨(.type "code"), none, (.fields #[(.str (Str.ofString "trim") 465), (.str (Str.ofString "Cells.trim") 466), (.str (Str.ofString "/claim/cut.py") 467), (.int 114 0), (.int 2 0), (.int 0 0), (.int 0 0), (.int 3 0), (.ref 217), (.bool true), (.int 181 0), (.ref 218), .none, (.ref 219), (.ref 220), (.ref 221), (.int 470 0), (.int 114 0), (.str (Str.ofString "/claim/cut.py") 471)]), #[]⟩) ::
  (nat_lit 223, ⟨(.type "function"), none, (.func ⟨(Str.ofString "trim"), (Str.ofString "Cells.trim"), fnP (stIn 20 4), .stmts (fnB (stIn 20 4)), fnS (stIn 20 4), 3, [], .none, .none, .none, (.str (Str.ofString "clausemill.store") 406), none, (.ref 222), .none, 0⟩), #[]⟩) ::
  (nat_lit 224, ⟨(.type "tuple"), none, (.seq #[] 0), #[]⟩) ::
  (nat_lit 225, ⟨.none, none, (.fields #[]), #[]⟩) ::
  (nat_lit 226, ⟨(.type "tuple"), none, (.seq #[(.str (Str.ofString "self") 476), (.str (Str.ofString "cell") 477)] 0), #[]⟩) ::
  (nat_lit 227, ⟨(.type "tuple"), none, (.seq #[] 0), #[]⟩) ::
  (nat_lit 228, ⟨.none, none, (.func ⟨(Str.ofString "deref"), (Str.ofString "Cells.deref"), fnP (stIn 20 5), .stmts (fnB (stIn 20 5)), fnS (stIn 20 5), 0, [], .none, .none, .none, .none, none, .none, .none, 0⟩), #[]⟩) ::
  (nat_lit 229, ⟨(.type "code"), none, (.fields #[(.str (Str.ofString "deref") 473), (.str (Str.ofString "Cells.deref") 474), (.str (Str.ofString "/claim/cut.py") 475), (.int 117 0), (.int 2 0), (.int 0 0), (.int 0 0), (.int 3 0), (.ref 224), (.bool true), (.int 181 0), (.ref 225), .none, (.ref 226), (.ref 227), (.ref 228), (.int 478 0), (.int 117 0), (.str (Str.ofString "/claim/cut.py") 479)]), #[]⟩) ::
  (nat_lit 230, ⟨(.type "function"), none, (.func ⟨(Str.ofString "deref"), (Str.ofString "Cells.deref"), fnP (stIn 20 5), .stmts (fnB (stIn 20 5)), fnS (stIn 20 5), 3, [], .none, .none, .none, (.str (Str.ofString "clausemill.store") 406), none, (.ref 229), .none, 0⟩), #[]⟩) ::
  (nat_lit 231, ⟨(.type "tuple"), none, (.seq #[] 0), #[]⟩) ::
  (nat_lit 232, ⟨.none, none, (.fields #[]), #[]⟩) ::
  (nat_lit 233, ⟨(.type "tuple"), none, (.seq #[(.str (Str.ofString "self") 484), (.str (Str.ofString "cell") 485)] 0), #[]⟩) ::
  (nat_lit 234, ⟨(.type "tuple"), none, (.seq #[] 0), #[]⟩) ::
  (nat_lit 235, ⟨.none, none, (.func ⟨(Str.ofString "is_unbound"), (Str.ofString "Cells.is_unbound"), fnP (stIn 20 6), .stmts (fnB (stIn 20 6)), fnS (stIn 20 6), 0, [], .none, .none, .none, .none, none, .none, .none, 0⟩), #[]⟩) ::
  (nat_lit 236, ⟨(.type "code"), none, (.fields #[(.str (Str.ofString "is_unbound") 481), (.str (Str.ofString "Cells.is_unbound") 482), (.str (Str.ofString "/claim/cut.py") 483), (.int 120 0), (.int 2 0), (.int 0 0), (.int 0 0), (.int 3 0), (.ref 231), (.bool true), (.int 181 0), (.ref 232), .none, (.ref 233), (.ref 234), (.ref 235), (.int 486 0), (.int 120 0), (.str (Str.ofString "/claim/cut.py") 487)]), #[]⟩) ::
  (nat_lit 237, ⟨(.type "function"), none, (.func ⟨(Str.ofString "is_unbound"), (Str.ofString "Cells.is_unbound"), fnP (stIn 20 6), .stmts (fnB (stIn 20 6)), fnS (stIn 20 6), 3, [], .none, .none, .none, (.str (Str.ofString "clausemill.store") 406), none, (.ref 236), .none, 0⟩), #[]⟩) ::
  (nat_lit 238, ⟨(.type "tuple"), none, (.seq #[] 0), #[]⟩) ::
  (nat_lit 239, ⟨.none, none, (.fields #[]), #[]⟩) ::
  (nat_lit 240, ⟨(.type "tuple"), none, (.seq #[(.str (Str.ofString "self") 492), (.str (Str.ofString "cell") 493), (.str (Str.ofString "value") 494), (.str (Str.ofString "place") 495)] 0), #[]⟩) ::
  (nat_lit 241, ⟨(.type "tuple"), none, (.seq #[] 0), #[]⟩) ::
  (nat_lit 242, ⟨.none, none, (.func ⟨(Str.ofString "bind"), (Str.ofString "Cells.bind"), fnP (stIn 20 7), .stmts (fnB (stIn 20 7)), fnS (stIn 20 7), 0, [], .none, .none, .none, .none, none, .none, .none, 0⟩), #[]⟩) ::
  (nat_lit 243, ⟨(.type "code"), none, (.fields #[(.str (Str.ofString "bind") 489), (.str (Str.ofString "Cells.bind") 490), (.str (Str.ofString "/claim/cut.py") 491), (.int 123 0), (.int 3 0), (.int 0 0), (.int 0 0), (.int 3 0), (.ref 238), (.bool true), (.int 181 0), (.ref 239), .none, (.ref 240), (.ref 241), (.ref 242), (.int 496 0), (.int 123 0), (.str (Str.ofString "/claim/cut.py") 497)]), #[]⟩) ::
  (nat_lit 244, ⟨(.type "function"), none, (.func ⟨(Str.ofString "bind"), (Str.ofString "Cells.bind"), fnP (stIn 20 7), .stmts (fnB (stIn 20 7)), fnS (stIn 20 7), 3, [], .none, .none, .none, (.str (Str.ofString "clausemill.store") 406), none, (.ref 243), .none, 0⟩), #[]⟩) ::
  (nat_lit 245, ⟨(.type "tuple"), none, (.seq #[] 0), #[]⟩) ::
  (nat_lit 246, ⟨.none, none, (.fields #[]), #[]⟩) ::
  (nat_lit 247, ⟨(.type "tuple"), none, (.seq #[(.str (Str.ofString "self") 502), (.str (Str.ofString "c1") 503), (.str (Str.ofString "c2") 504)] 0), #[]⟩) ::
  (nat_lit 248, ⟨(.type "tuple"), none, (.seq #[] 0), #[]⟩) ::
  (nat_lit 249, ⟨.none, none, (.func ⟨(Str.ofString "bind_pair"), (Str.ofString "Cells.bind_pair"), fnP (stIn 20 8), .stmts (fnB (stIn 20 8)), fnS (stIn 20 8), 0, [], .none, .none, .none, .none, none, .none, .none, 0⟩), #[]⟩) ::
  (nat_lit 250, ⟨(.type "code"), none, (.fields #[(.str (Str.ofString "bind_pair") 499), (.str (Str.ofString "Cells.bind_pair") 500), (.str (Str.ofString "/claim/cut.py") 501), (.int 134 0), (.int 3 0), (.int 0 0), (.int 0 0), (.int 3 0), (.ref 245), (.bool true), (.int 181 0), (.ref 246), .none, (.ref 247), (.ref 248), (.ref 249), (.int 505 0), (.int 134 0), (.str (Str.ofString "/claim/cut.py") 506)]), #[]⟩) ::
  (nat_lit 251, ⟨(.type "function"), none, (.func ⟨(Str.ofString "bind_pair"), (Str.ofString "Cells.bind_pair"), fnP (stIn 20 8), .stmts (fnB (stIn 20 8)), fnS (stIn 20 8), 3, [], .none, .none, .none, (.str (Str.ofString "clausemill.store") 406), none, (.ref 250), .none, 0⟩), #[]⟩) ::
  (nat_lit 252, ⟨(.type "tuple"), none, (.seq #[] 0), #[]⟩) ::
  (nat_lit 253, ⟨.none, none, (.fields #[]), #[]⟩) ::
  (nat_lit 254, ⟨(.type "tuple"), none, (.seq #[(.str (Str.ofString "self") 511), (.str (Str.ofString "cell") 512)] 0), #[]⟩) ::
  (nat_lit 255, ⟨(.type "tuple"), none, (.seq #[] 0), #[]⟩) ::
  (nat_lit 256, ⟨.none, none, (.func ⟨(Str.ofString "globalise"), (Str.ofString "Cells.globalise"), fnP (stIn 20 9), .stmts (fnB (stIn 20 9)), fnS (stIn 20 9), 0, [], .none, .none, .none, .none, none, .none, .none, 0⟩), #[]⟩) ::
  (nat_lit 257, ⟨(.type "code"), none, (.fields #[(.str (Str.ofString "globalise") 508), (.str (Str.ofString "Cells.globalise") 509), (.str (Str.ofString "/claim/cut.py") 510), (.int 137 0), (.int 2 0), (.int 0 0), (.int 0 0), (.int 3 0), (.ref 252), (.bool true), (.int 181 0), (.ref 253), .none, (.ref 254), (.ref 255), (.ref 256), (.int 513 0), (.int 137 0), (.str (Str.ofString "/claim/cut.py") 514)]), #[]⟩) ::
  (nat_lit 258, ⟨(.type "function"), none, (.func ⟨(Str.ofString "globalise"), (Str.ofString "Cells.globalise"), fnP (stIn 20 9), .stmts (fnB (stIn 20 9)), fnS (stIn 20 9), 3, [], .none, .none, .none, (.str (Str.ofString "clausemill.store") 406), none, (.ref 257), .none, 0⟩), #[]⟩) ::
  (nat_lit 259, ⟨(.type "tuple"), none, (.seq #[] 0), #[]⟩) ::
  (nat_lit 260, ⟨.none, none, (.fields #[]), #[]⟩) ::
  (nat_lit 261, ⟨(.type "tuple"), none, (.seq #[(.str (Str.ofString "self") 519)] 0), #[]⟩) ::
  (nat_lit 262, ⟨(.type "tuple"), none, (.seq #[] 0), #[]⟩) ::
  (nat_lit 263, ⟨.none, none, (.func ⟨(Str.ofString "mark"), (Str.ofString "Cells.mark"), fnP (stIn 20 10), .stmts (fnB (stIn 20 10)), fnS (stIn 20 10), 0, [], .none, .none, .none, .none, none, .none, .none, 0⟩), #[]⟩) ::
  (nat_lit 264, ⟨(.type "code"), none, (.fields #[(.str (Str.ofString "mark") 516), (.str (Str.ofString "Cells.mark") 517), (.str (Str.ofString "/claim/cut.py") 518), (.int 140 0), (.int 1 0), (.int 0 0), (.int 0 0), (.int 3 0), (.ref 259), (.bool true), (.int 181 0), (.ref 260), .none, (.ref 261), (.ref 262), (.ref 263), (.int 520 0), (.int 140 0), (.str (Str.ofString "/claim/cut.py") 521)]), #[]⟩) ::
  (nat_lit 265, ⟨(.type "function"), none, (.func ⟨(Str.ofString "mark"), (Str.ofString "Cells.mark"), fnP (stIn 20 10), .stmts (fnB (stIn 20 10)), fnS (stIn 20 10), 3, [], .none, .none, .none, (.str (Str.ofString "clausemill.store") 406), none, (.ref 264), .none, 0⟩), #[]⟩) ::
  (nat_lit 266, ⟨(.type "tuple"), none, (.seq #[] 0), #[]⟩) ::
  (nat_lit 267, ⟨.none, none, (.fields #[]), #[]⟩) ::
  (nat_lit 268, ⟨(.type "tuple"), none, (.seq #[(.str (Str.ofString "self") 526), (.str (Str.ofString "mark") 527), (.str (Str.ofString "entry") 528), (.str (Str.ofString "slot") 529)] 0), #[]⟩) ::
  (nat_lit 269, ⟨(.type "tuple"), none, (.seq #[] 0), #[]⟩) ::
  (nat_lit 270, ⟨.none, none, (.func ⟨(Str.ofString "undo_to"), (Str.ofString "Cells.undo_to"), fnP (stIn 20 11), .stmts (fnB (stIn 20 11)), fnS (stIn 20 11), 0, [], .none, .none, .none, .none, none, .none, .none, 0⟩), #[]⟩) ::
  (nat_lit 271, ⟨(.type "code"), none, (.fields #[(.str (Str.ofString "undo_to") 523), (.str (Str.ofString "Cells.undo_to") 524), (.str (Str.ofString "/claim/cut.py") 525), (.int 143 0), (.int 2 0), (.int 0 0), (.int 0 0), (.int 3 0), (.ref 266), (.bool true), (.int 181 0), (.ref 267), .none, (.ref 268), (.ref 269), (.ref 270), (.int 530 0), (.int 143 0), (.str (Str.ofString "/claim/cut.py") 531)]), #[]⟩) ::
  (nat_lit 272, ⟨(.type "function"), none, (.func ⟨(Str.ofString "undo_to"), (Str.ofString "Cells.undo_to"), fnP (stIn 20 11), .stmts (fnB (stIn 20 11)), fnS (stIn 20 11), 3, [], .none, .none, .none, (.str (Str.ofString "clausemill.store") 406), none, (.ref 271), .none, 0⟩), #[]⟩) ::
  (nat_lit 273, ⟨(.type "tuple"), none, (.seq #[] 0), #[]⟩) ::
  (nat_lit 274, ⟨.none, none, (.fields #[]), #[]⟩) ::
  (nat_lit 275, ⟨(.type "tuple"), none, (.seq #[(.str (Str.ofString "self") 536), (.str (Str.ofString "i") 537), (.str (Str.ofString "value") 538), (.str (Str.ofString "stack") 539)] 0), #[]⟩) ::
  (nat_lit 276, ⟨(.type "tuple"), none, (.seq #[] 0), #[]⟩) ::
  (nat_lit 277, ⟨.none, none, (.func ⟨(Str.ofString "stack_put"), (Str.ofString "Cells.stack_put"), fnP (stIn 20 12), .stmts (fnB (stIn 20 12)), fnS (stIn 20 12), 0, [], .none, .none, .none, .none, none, .none, .none, 0⟩), #[]⟩) ::
  (nat_lit 278, ⟨(.type "code"), none, (.fields #[(.str (Str.ofString "stack_put") 533), (.str (Str.ofString "Cells.stack_put") 534), (.str (Str.ofString "/claim/cut.py") 535), (.int 152 0), (.int 3 0), (.int 0 0), (.int 0 0), (.int 3 0), (.ref 273), (.bool true), (.int 181 0), (.ref 274), .none, (.ref 275), (.ref 276), (.ref 277), (.int 540 0), (.int 152 0), (.str (Str.ofString "/claim/cut.py") 541)]), #[]⟩) ::
  (nat_lit 279, ⟨(.type "function"), none, (.func ⟨(Str.ofString "stack_put"), (Str.ofString "Cells.stack_put"), fnP (stIn 20 12), .stmts (fnB (stIn 20 12)), fnS (stIn 20 12), 3, [], .none, .none, .none, (.str (Str.ofString "clausemill.store") 406), none, (.ref 278), .none, 0⟩), #[]⟩) ::
  (nat_lit 280, ⟨(.type "tuple"), none, (.seq #[] 0), #[]⟩) ::
  (nat_lit 281, ⟨.none, none, (.fields #[]), #[]⟩) ::
  (nat_lit 282, ⟨(.type "tuple"), none, (.seq #[(.str (Str.ofString "self") 546), (.str (Str.ofString "cell") 547)] 0), #[]⟩) ::
  (nat_lit 283, ⟨(.type "tuple"), none, (.seq #[] 0), #[]⟩) ::
  (nat_lit 284, ⟨.none, none, (.func ⟨(Str.ofString "is_compound"), (Str.ofString "Cells.is_compound"), fnP (stIn 20 13), .stmts (fnB (stIn 20 13)), fnS (stIn 20 13), 0, [], .none, .none, .none, .none, none, .none, .none, 0⟩), #[]⟩) ::
  (nat_lit 285, ⟨(.type "code"), none, (.fields #[(.str (Str.ofString "is_compound") 543), (.str (Str.ofString "Cells.is_compound") 544), (.str (Str.ofString "/claim/cut.py") 545), (.int 161 0), (.int 2 0), (.int 0 0), (.int 0 0), (.int 3 0), (.ref 280), (.bool true), (.int 181 0), (.ref 281), .none, (.ref 282), (.ref 283), (.ref 284), (.int 548 0), (.int 161 0), (.str (Str.ofString "/claim/cut.py") 549)]), #[]⟩) ::
  (nat_lit 286, ⟨(.type "function"), none, (.func ⟨(Str.ofString "is_compound"), (Str.ofString "Cells.is_compound"), fnP (stIn 20 13), .stmts (fnB (stIn 20 13)), fnS (stIn 20 13), 3, [], .none, .none, .none, (.str (Str.ofString "clausemill.store") 406), none, (.ref 285), .none, 0⟩), #[]⟩) ::
  (nat_lit 287, ⟨(.type "tuple"), none, (.seq #[] 0), #[]⟩) ::
  (nat_lit 288, ⟨.none, none, (.fields #[]), #[]⟩) ::
  (nat_lit 289, ⟨(.type "tuple"), none, (.seq #[(.str (Str.ofString "self") 554), (.str (Str.ofString "cell") 555)] 0), #[]⟩) ::
  (nat_lit 290, ⟨(.type "tuple"), none, (.seq #[] 0), #[]⟩) ::
  (nat_lit 291, ⟨.none, none, (.func ⟨(Str.ofString "functor_of"), (Str.ofString "Cells.functor_of"), fnP (stIn 20 14), .stmts (fnB (stIn 20 14)), fnS (stIn 20 14), 0, [], .none, .none, .none, .none, none, .none, .none, 0⟩), #[]⟩) ::
  (nat_lit 292, ⟨(.type "code"), none, (.fields #[(.str (Str.ofString "functor_of") 551), (.str (Str.ofString "Cells.functor_of") 552), (.str (Str.ofString "/claim/cut.py") 553), (.int 164 0), (.int 2 0), (.int 0 0), (.int 0 0), (.int 3 0), (.ref 287), (.bool true), (.int 181 0), (.ref 288), .none, (.ref 289), (.ref 290), (.ref 291), (.int 556 0), (.int 164 0), (.str (Str.ofString "/claim/cut.py") 557)]), #[]⟩) ::
  (nat_lit 293, ⟨(.type "function"), none, (.func ⟨(Str.ofString "functor_of"), (Str.ofString "Cells.functor_of"), fnP (stIn 20 14), .stmts (fnB (stIn 20 14)), fnS (stIn 20 14), 3, [], .none, .none, .none, (.str (Str.ofString "clausemill.store") 406), none, (.ref 292), .none, 0⟩), #[]⟩) ::
  (nat_lit 294, ⟨(.type "tuple"), none, (.seq #[] 0), #[]⟩) ::
  (nat_lit 295, ⟨.none, none, (.fields #[]), #[]⟩) ::
  (nat_lit 296, ⟨(.type "tuple"), none, (.seq #[(.str (Str.ofString "self") 562), (.str (Str.ofString "cell") 563)] 0), #[]⟩) ::
  (nat_lit 297, ⟨(.type "tuple"), none, (.seq #[] 0), #[]⟩) ::
  (nat_lit 298, ⟨.none, none, (.func ⟨(Str.ofString "width"), (Str.ofString "Cells.width"), fnP (stIn 20 15), .stmts (fnB (stIn 20 15)), fnS (stIn 20 15), 0, [], .none, .none, .none, .none, none, .none, .none, 0⟩), #[]⟩) ::
  (nat_lit 299, ⟨(.type "code"), none, (.fields #[(.str (Str.ofString "width") 559), (.str (Str.ofString "Cells.width") 560), (.str (Str.ofString "/claim/cut.py") 561), (.int 167 0), (.int 2 0), (.int 0 0), (.int 0 0), (.int 3 0), (.ref 294), (.bool true), (.int 181 0), (.ref 295), .none, (.ref 296), (.ref 297), (.ref 298), (.int 564 0), (.int 167 0), (.str (Str.ofString "/claim/cut.py") 565)]), #[]⟩) ::
  (nat_lit 300, ⟨(.type "function"), none, (.func ⟨(Str.ofString "width"), (Str.ofString "Cells.width"), fnP (stIn 20 15), .stmts (fnB (stIn 20 15)), fnS (stIn 20 15), 3, [], .none, .none, .none, (.str (Str.ofString "clausemill.store") 406), none, (.ref 299), .none, 0⟩), #[]⟩) ::
  (nat_lit 301, ⟨(.type "tuple"), none, (.seq #[] 0), #[]⟩) ::
  (nat_lit 302, ⟨.none, none, (.fields #[]), #[]⟩) ::
  (nat_lit 303, ⟨(.type "tuple"), none, (.seq #[(.str (Str.ofString "self") 570), (.str (Str.ofString "cell") 571)] 0), #[]⟩) ::
  (nat_lit 304, ⟨(.type "tuple"), none, (.seq #[] 0), #[]⟩) ::
  (nat_lit 305, ⟨.none, none, (.func ⟨(Str.ofString "base"), (Str.ofString "Cells.base"), fnP (stIn 20 16), .stmts (fnB (stIn 20 16)), fnS (stIn 20 16), 0, [], .none, .none, .none, .none, none, .none, .none, 0⟩), #[]⟩) ::
  (nat_lit 306, ⟨(.type "code"), none, (.fields #[(.str (Str.ofString "base") 567), (.str (Str.ofString "Cells.base") 568), (.str (Str.ofString "/claim/cut.py") 569), (.int 170 0), (.int 2 0), (.int 0 0), (.int 0 0), (.int 3 0), (.ref 301), (.bool true), (.int 181 0), (.ref 302), .none, (.ref 303), (.ref 304), (.ref 305), (.int 572 0), (.int 170 0), (.str (Str.ofString "/claim/cut.py") 573)]), #[]⟩) ::
  (nat_lit 307, ⟨(.type "function"), none, (.func ⟨(Str.ofString "base"), (Str.ofString "Cells.base"), fnP (stIn 20 16), .stmts (fnB (stIn 20 16)), fnS (stIn 20 16), 3, [], .none, .none, .none, (.str (Str.ofString "clausemill.store") 406), none, (.ref 306), .none, 0⟩), #[]⟩) ::
  (nat_lit 308, ⟨(.type "tuple"), none, (.seq #[] 0), #[]⟩) ::
  (nat_lit 309, ⟨.none, none, (.fields #[]), #[]⟩) ::
  (nat_lit 310, ⟨(.type "tuple"), none, (.seq #[(.str (Str.ofString "self") 578), (.str (Str.ofString "cell") 579), (.str (Str.ofString "i") 580)] 0), #[]⟩) ::
  (nat_lit 311, ⟨(.type "tuple"), none, (.seq #[] 0), #[]⟩) ::
  (nat_lit 312, ⟨.none, none, (.func ⟨(Str.ofString "arg"), (Str.ofString "Cells.arg"), fnP (stIn 20 17), .stmts (fnB (stIn 20 17)), fnS (stIn 20 17), 0, [], .none, .none, .none, .none, none, .none, .none, 0⟩), #[]⟩) ::
  (nat_lit 313, ⟨(.type "code"), none, (.fields #[(.str (Str.ofString "arg") 575), (.str (Str.ofString "Cells.arg") 576), (.str (Str.ofString "/claim/cut.py") 577), (.int 175 0), (.int 3 0), (.int 0 0), (.int 0 0), (.int 3 0), (.ref 308), (.bool true), (.int 181 0), (.ref 309), .none, (.ref 310), (.ref 311), (.ref 312), (.int 581 0), (.int 175 0), (.str (Str.ofString "/claim/cut.py") 582)]), #[]⟩) ::
  (nat_lit 314, ⟨(.type "function"), none, (.func ⟨(Str.ofString "arg"), (Str.ofString "Cells.arg"), fnP (stIn 20 17), .stmts (fnB (stIn 20 17)), fnS (stIn 20 17), 3, [], .none, .none, .none, (.str (Str.ofString "clausemill.store") 406), none, (.ref 313), .none, 0⟩), #[]⟩) ::
  (nat_lit 315, ⟨(.type "tuple"), none, (.seq #[] 0), #[]⟩) ::
  (nat_lit 316, ⟨.none, none, (.fields #[]), #[]⟩) ::
  (nat_lit 317, ⟨(.type "tuple"), none, (.seq #[(.str (Str.ofString "self") 587), (.str (Str.ofString "f") 588)] 0), #[]⟩) ::
  (nat_lit 318, ⟨(.type "tuple"), none, (.seq #[] 0), #[]⟩) ::
  (nat_lit 319, ⟨.none, none, (.func ⟨(Str.ofString "new_block"), (Str.ofString "Cells.new_block"), fnP (stIn 20 18), .stmts (fnB (stIn 20 18)), fnS (stIn 20 18), 0, [], .none, .none, .none, .none, none, .none, .none, 0⟩), #[]⟩) ::
  (nat_lit 320, ⟨(.type "code"), none, (.fields #[(.str (Str.ofString "new_block") 584), (.str (Str.ofString "Cells.new_block") 585), (.str (Str.ofString "/claim/cut.py") 586), (.int 178 0), (.int 2 0), (.int 0 0), (.int 0 0), (.int 3 0), (.ref 315), (.bool true), (.int 181 0), (.ref 316), .none, (.ref 317), (.ref 318), (.ref 319), (.int 589 0), (.int 178 0), (.str (Str.ofString "/claim/cut.py") 590)]), #[]⟩) ::
  (nat_lit 321, ⟨(.type "function"), none, (.func ⟨(Str.ofString "new_block"), (Str.ofString "Cells.new_block"), fnP (stIn 20 18), .stmts (fnB (stIn 20 18)), fnS (stIn 20 18), 3, [], .none, .none, .none, (.str (Str.ofString "clausemill.store") 406), none, (.ref 320), .none, 0⟩), #[]⟩) ::
  (nat_lit 322, ⟨(.type "tuple"), none, (.seq #[(.str (Str.ofString "bb") 592), (.str (Str.ofString "hb") 593), (.str (Str.ofString "heap") 594), (.str (Str.ofString "max_heap") 595), (.str (Str.ofString "stack") 596), (.str (Str.ofString "symbols") 597), (.str (Str.ofString "trail") 598)] 0), #[]⟩) ::
  (nat_lit 323, ⟨(.type "dict"), none, (.dict #[⟨PyData.keyHash P (Str.ofString "__module__"), (.str (Str.ofString "__module__") 425), (.str (Str.ofString "clausemill.store") 406)⟩, ⟨PyData.keyHash P (Str.ofString "__firstlineno__"), (.str (Str.ofString "__firstlineno__") 429), (.int 88 428)⟩, ⟨PyData.keyHash P (Str.ofString "__init__"), (.str (Str.ofString "__init__") 439), (.ref 195)⟩, ⟨PyData.keyHash P (Str.ofString "push"), (.str (Str.ofString "push") 448), (.ref 202)⟩, ⟨PyData.keyHash P (Str.ofString "new_var"), (.str (Str.ofString "new_var") 456), (.ref 209)⟩, ⟨PyData.keyHash P (Str.ofString "reserve"), (.str (Str.ofString "reserve") 464), (.ref 216)⟩, ⟨PyData.keyHash P (Str.ofString "trim"), (.str (Str.ofString "trim") 472), (.ref 223)⟩, ⟨PyData.keyHash P (Str.ofString "deref"), (.str (Str.ofString "deref") 480), (.ref 230)⟩, ⟨PyData.keyHash P (Str.ofString "is_unbound"), (.str (Str.ofString "is_unbound") 488), (.ref 237)⟩, ⟨PyData.keyHash P (Str.ofString "bind"), (.str (Str.ofString "bind") 498), (.ref 244)⟩, ⟨PyData.keyHash P (Str.ofString "bind_pair"), (.str (Str.ofString "bind_pair") 507), (.ref 251)⟩, ⟨PyData.keyHash P (Str.ofString "globalise"), (.str (Str.ofString "globalise") 515), (.ref 258)⟩, ⟨PyData.keyHash P (Str.ofString "mark"), (.str (Str.ofString "mark") 522), (.ref 265)⟩, ⟨PyData.keyHash P (Str.ofString "undo_to"), (.str (Str.ofString "undo_to") 532), (.ref 272)⟩, ⟨PyData.keyHash P (Str.ofString "stack_put"), (.str (Str.ofString "stack_put") 542), (.ref 279)⟩, ⟨PyData.keyHash P (Str.ofString "is_compound"), (.str (Str.ofString "is_compound") 550), (.ref 286)⟩, ⟨PyData.keyHash P (Str.ofString "functor_of"), (.str (Str.ofString "functor_of") 558), (.ref 293)⟩, ⟨PyData.keyHash P (Str.ofString "width"), (.str (Str.ofString "width") 566), (.ref 300)⟩, ⟨PyData.keyHash P (Str.ofString "base"), (.str (Str.ofString "base") 574), (.ref 307)⟩, ⟨PyData.keyHash P (Str.ofString "arg"), (.str (Str.ofString "arg") 583), (.ref 314)⟩, ⟨PyData.keyHash P (Str.ofString "new_block"), (.str (Str.ofString "new_block") 591), (.ref 321)⟩, ⟨PyData.keyHash P (Str.ofString "__static_attributes__"), (.str (Str.ofString "__static_attributes__") 599), (.ref 322)⟩, ⟨PyData.keyHash P (Str.ofString "__dict__"), (.str (Str.ofString "__dict__") 601), (.ref 325)⟩, ⟨PyData.keyHash P (Str.ofString "__weakref__"), (.str (Str.ofString "__weakref__") 603), (.ref 326)⟩, ⟨PyData.keyHash P (Str.ofString "__doc__"), (.str (Str.ofString "__doc__") 604), .none⟩] 4), #[]⟩) ::
  (nat_lit 324, ⟨(.type "type"), none, (.cls ⟨(Str.ofString "Cells"), [(.type "object")], [(.ref 324), (.type "object")], 323, (Str.ofString "Cells"), true, [], [], false, none, false⟩), #[none, none, (some (.str (Str.ofString "Cells") 418)), (some (.str (Str.ofString "Cells") 426)), (some (.builtin "object.__new__")), (some (.bool true))]⟩) ::
  (nat_lit 325, ⟨(.type "getset_descriptor"), none, (.fields #[(.str (Str.ofString "__dict__") 600), (.ref 324), (.builtin "function.__dict__"), (.builtin "function.__dict__#set")]), #[]⟩) ::
  (nat_lit 326, ⟨(.type "getset_descriptor"), none, (.fields #[(.str (Str.ofString "__weakref__") 602), (.ref 324), (.builtin "ExceptionGroup.__weakref__"), .none]), #[]⟩) ::
  (nat_lit 327, ⟨(.type "super"), none, (.fields #[(.ref 324), (.ref 324), (.ref 324)]), #[]⟩) ::
  (nat_lit 328, ⟨(.type "builtin_function_or_method"), none, (.fields #[(.builtin "object.__init_subclass__"), (.ref 324)]), #[]⟩) :: [])
noncomputable def st6 (w : World) (os : OsState) : SharedT := ⟨tr6 w.params, 329, (boot_heap w.params).life, Array.mk [], boot_drawn, 607, os⟩
noncomputable def tr7 (P : Params) : BT := putAll (tr6 P) (
  (nat_lit 3, ⟨(.type "dict"), none, (.dict #[⟨PyData.keyHash P (Str.ofString "__name__"), (.str (Str.ofString "__name__") 165), (.str (Str.ofString "clausemill.store") 406)⟩, ⟨PyData.keyHash P (Str.ofString "__doc__"), (.str (Str.ofString "__doc__") 166), .none⟩, ⟨PyData.keyHash P (Str.ofString "__package__"), (.str (Str.ofString "__package__") 167), .none⟩, ⟨PyData.keyHash P (Str.ofString "__loader__"), (.str (Str.ofString "__loader__") 168), (.builtin "__main__.__loader__#opaque")⟩, ⟨PyData.keyHash P (Str.ofString "__spec__"), (.str (Str.ofString "__spec__") 169), .none⟩, ⟨PyData.keyHash P (Str.ofString "__annotations__"), (.str (Str.ofString "__annotations__") 170), (.ref 6)⟩, ⟨PyData.keyHash P (Str.ofString "__builtins__"), (.str (Str.ofString "__builtins__") 171), (.ref 4)⟩, ⟨PyData.keyHash P (Str.ofString "__file__"), (.str (Str.ofString "__file__") 173), (.str (Str.ofString "/claim/cut.py") 172)⟩, ⟨PyData.keyHash P (Str.ofString "__cached__"), (.str (Str.ofString "__cached__") 174), .none⟩, ⟨PyData.keyHash P (Str.ofString "_wall"), (.str (Str.ofString "_wall") 193), (.ref 21)⟩, ⟨PyData.keyHash P (Str.ofString "ClausemillError"), (.str (Str.ofString "ClausemillError") 215), (.ref 31)⟩, ⟨PyData.keyHash P (Str.ofString "PrologError"), (.str (Str.ofString "PrologError") 240), (.ref 51)⟩, ⟨PyData.keyHash P (Str.ofString "A_SYSTEM"), (.str (Str.ofString "A_SYSTEM") 242), (.int 25 241)⟩, ⟨PyData.keyHash P (Str.ofString "F_ERROR"), (.str (Str.ofString "F_ERROR") 244), (.int 16 243)⟩, ⟨PyData.keyHash P (Str.ofString "F_CALL1"), (.str (Str.ofString "F_CALL1") 246), (.int 24 245)⟩, ⟨PyData.keyHash P (Str.ofString "fixed_atoms"), (.str (Str.ofString "fixed_atoms") 252), (.ref 60)⟩, ⟨PyData.keyHash P (Str.ofString "fixed_functors"), (.str (Str.ofString "fixed_functors") 258), (.ref 67)⟩, ⟨PyData.keyHash P (Str.ofString "Symbols"), (.str (Str.ofString "Symbols") 377), (.ref 154)⟩, ⟨PyData.keyHash P (Str.ofString "system_error"), (.str (Str.ofString "system_error") 386), (.ref 165)⟩, ⟨PyData.keyHash P (Str.ofString "formal_of"), (.str (Str.ofString "formal_of") 397), (.ref 172)⟩, ⟨PyData.keyHash P (Str.ofString "resource_error"), (.str (Str.ofString "resource_error") 405), (.ref 179)⟩, ⟨PyData.keyHash P (Str.ofString "REF"), (.str (Str.ofString "REF") 409), (.int 0 408)⟩, ⟨PyData.keyHash P (Str.ofString "SRF"), (.str (Str.ofString "SRF") 411), (.int 1 410)⟩, ⟨PyData.keyHash P (Str.ofString "LIS"), (.str (Str.ofString "LIS") 413), (.int 3 412)⟩, ⟨PyData.keyHash P (Str.ofString "INT"), (.str (Str.ofString "INT") 415), (.int 5 414)⟩, ⟨PyData.keyHash P (Str.ofString "VOID"), (.str (Str.ofString "VOID") 417), (.ref 180)⟩, ⟨PyData.keyHash P (Str.ofString "Cells"), (.str (Str.ofString "Cells") 606), (.ref 324)⟩, ⟨PyData.keyHash P (Str.ofString "Store"), (.str (Str.ofString "Store") 675), (.ref 381)⟩] 28), #[]⟩) ::
  (nat_lit 12, ⟨.none, none, (.fields #[(.int 1 0), (.int 0 0), (.ref 20), (.int 5 0), (.int 0 0), (.ref 27), (.int 7 0), (.int 0 0), (.ref 40), (.int 14 0), (.int 0 0), (.ref 59), (.int 16 0), (.int 0 0), (.ref 66), (.int 18 0), (.int 0 0), (.ref 73), (.int 73 0), (.int 0 0), (.ref 164), (.int 75 0), (.int 0 0), (.ref 171), (.int 80 0), (.int 0 0), (.ref 178), (.int 88 0), (.int 0 0), (.ref 186), (.int 180 0), (.int 0 0), (.ref 334)]), #[]⟩) ::
  (nat_lit 324, ⟨(.type "type"), none, (.cls ⟨(Str.ofString "Cells"), [(.type "object")], [(.ref 324), (.type "object")], 323, (Str.ofString "Cells"), true, [], [(.ref 381)], false, none, false⟩), #[none, none, (some (.str (Str.ofString "Cells") 418)), (some (.str (Str.ofString "Cells") 426)), (some (.builtin "object.__new__")), (some (.bool true))]⟩) ::
  (nat_lit 329, ⟨(.type "tuple"), none, (.seq #[(.ref 324)] 0), #[]⟩) ::
  (nat_lit 330, ⟨(.type "builtin_function_or_method"), none, (.fields #[(.builtin "type.__prepare__"), (.type "type")]), #[]⟩) ::
  (nat_lit 331, ⟨(.type "dict"), none, (.dict #[⟨PyData.keyHash P (Str.ofString "__module__"), (.str (Str.ofString "__module__") 614), (.str (Str.ofString "clausemill.store") 406)⟩, ⟨PyData.keyHash P (Str.ofString "__qualname__"), (.str (Str.ofString "__qualname__") 616), (.str (Str.ofString "Store") 615)⟩, ⟨PyData.keyHash P (Str.ofString "__firstlineno__"), (.str (Str.ofString "__firstlineno__") 618), (.int 180 617)⟩, ⟨PyData.keyHash P (Str.ofString "new_struct"), (.str (Str.ofString "new_struct") 627), (.ref 342)⟩, ⟨PyData.keyHash P (Str.ofString "build_list"), (.str (Str.ofString "build_list") 636), (.ref 350)⟩, ⟨PyData.keyHash P (Str.ofString "list_cells"), (.str (Str.ofString "list_cells") 644), (.ref 357)⟩, ⟨PyData.keyHash P (Str.ofString "put_term"), (.str (Str.ofString "put_term") 653), (.ref 364)⟩, ⟨PyData.keyHash P (Str.ofString "whole_size"), (.str (Str.ofString "whole_size") 662), (.ref 371)⟩, ⟨PyData.keyHash P (Str.ofString "take_term"), (.str (Str.ofString "take_term") 671), (.ref 378)⟩, ⟨PyData.keyHash P (Str.ofString "__static_attributes__"), (.str (Str.ofString "__static_attributes__") 672), (.ref 379)⟩] 10), #[]⟩) ::
  (nat_lit 332, ⟨(.type "tuple"), none, (.seq #[] 0), #[]⟩) ::
  (nat_lit 333, ⟨.none, none, (.fields #[(.int 182 0), (.int 4 0), (.ref 341), (.int 185 0), (.int 4 0), (.ref 349), (.int 188 0), (.int 4 0), (.ref 356), (.int 191 0), (.int 4 0), (.ref 363), (.int 194 0), (.int 4 0), (.ref 370), (.int 197 0), (.int 4 0), (.ref 377)]), #[]⟩) ::
  (nat_lit 334, ⟨(.type "code"), none, (.fields #[(.str (Str.ofString "Store") 609), (.str (Str.ofString "Store") 610), (.str (Str.ofString "/claim/cut.py") 611), (.int 180 0), (.int 0 0), (.int 0 0), (.int 0 0), (.int 0 0), (.ref 332), (.bool false), (.int 181 0), (.ref 333), .none, .none, .none, .none, (.int 612 0), (.int 180 0), (.str (Str.ofString "/claim/cut.py") 613)]), #[]⟩) ::
  (nat_lit 335, ⟨(.type "frame"), none, .plain, #[(some (.ref 334)), (some (.ref 3)), (some (.ref 331)), none, (some (.str (Str.ofString "clausemill.store") 406)), none, (some (.ref 0))]⟩) ::
  (nat_lit 336, ⟨(.type "tuple"), none, (.seq #[] 0), #[]⟩) ::
  (nat_lit 337, ⟨.none, none, (.fields #[]), #[]⟩) ::
  (nat_lit 338, ⟨(.type "tuple"), none, (.seq #[(.str (Str.ofString "self") 622), (.str (Str.ofString "f") 623), (.str (Str.ofString "cells") 624)] 0), #[]⟩) ::
  (nat_lit 339, ⟨(.type "tuple"), none, (.seq #[] 0), #[]⟩) ::
  (nat_lit 340, ⟨.none, none, (.func ⟨(Str.ofString "new_struct"), (Str.ofString "Store.new_struct"), fnP (stIn 21 0), .stmts (fnB (stIn 21 0)), fnS (stIn 21 0), 0, [], .none, .none, .none, .none, none, .none, .none, 0⟩), #[]⟩) ::
  (nat_lit 341, ⟨(.type "code"), none, (.fields #[(.str (Str.ofString "new_struct") 619), (.str (Str.ofString "Store.new_struct") 620), (.str (Str.ofString "/claim/cut.py") 621), (.int 182 0), (.int 3 0), (.int 0 0), (.int 0 0), (.int 3 0), (.ref 336), (.bool true), (.int 181 0), (.ref 337), .none, (.ref 338), (.ref 339), (.ref 340), (.int 625 0), (.int 182 0), (.str (Str.ofString "/claim/cut.py") 626)]), #[]⟩) ::
  (nat_lit 342, ⟨(.type "function"), none, (.func ⟨(Str.ofString "new_struct"), (Str.ofString "Store.new_struct"), fnP (stIn 21 0), .stmts (fnB (stIn 21 0)), fnS (stIn 21 0), 3, [], .none, .none, .none, (.str (Str.ofString "clausemill.store") 406), none, (.ref 341), .none, 0⟩), #[]⟩) ::
  (nat_lit 343, ⟨(.type "tuple"), none, (.seq #[.none] 0), #[]⟩) ::
  (nat_lit 344, ⟨(.type "tuple"), none, (.seq #[] 0), #[]⟩) ::
  (nat_lit 345, ⟨.none, none, (.fields #[]), #[]⟩) ::
  (nat_lit 346, ⟨(.type "tuple"), none, (.seq #[(.str (Str.ofString "self") 631), (.str (Str.ofString "cells") 632), (.str (Str.ofString "tail") 633)] 0), #[]⟩) ::
  (nat_lit 347, ⟨(.type "tuple"), none, (.seq #[] 0), #[]⟩) ::
  (nat_lit 348, ⟨.none, none, (.func ⟨(Str.ofString "build_list"), (Str.ofString "Store.build_list"), fnP (stIn 21 1), .stmts (fnB (stIn 21 1)), fnS (stIn 21 1), 0, [], .none, .none, .none, .none, none, .none, .none, 0⟩), #[]⟩) ::
  (nat_lit 349, ⟨(.type "code"), none, (.fields #[(.str (Str.ofString "build_list") 628), (.str (Str.ofString "Store.build_list") 629), (.str (Str.ofString "/claim/cut.py") 630), (.int 185 0), (.int 3 0), (.int 0 0), (.int 0 0), (.int 3 0), (.ref 344), (.bool true), (.int 181 0), (.ref 345), .none, (.ref 346), (.ref 347), (.ref 348), (.int 634 0), (.int 185 0), (.str (Str.ofString "/claim/cut.py") 635)]), #[]⟩) ::
  (nat_lit 350, ⟨(.type "function"), none, (.func ⟨(Str.ofString "build_list"), (Str.ofString "Store.build_list"), fnP (stIn 21 1), .stmts (fnB (stIn 21 1)), fnS (stIn 21 1), 3, [], (.ref 343), .none, .none, (.str (Str.ofString "clausemill.store") 406), none, (.ref 349), .none, 0⟩), #[]⟩) ::
  (nat_lit 351, ⟨(.type "tuple"), none, (.seq #[] 0), #[]⟩) ::
  (nat_lit 352, ⟨.none, none, (.fields #[]), #[]⟩) ::
  (nat_lit 353, ⟨(.type "tuple"), none, (.seq #[(.str (Str.ofString "self") 640), (.str (Str.ofString "cell") 641)] 0), #[]⟩) ::
  (nat_lit 354, ⟨(.type "tuple"), none, (.seq #[] 0), #[]⟩) ::
  (nat_lit 355, ⟨.none, none, (.func ⟨(Str.ofString "list_cells"), (Str.ofString "Store.list_cells"), fnP (stIn 21 2), .stmts (fnB (stIn 21 2)), fnS (stIn 21 2), 0, [], .none, .none, .none, .none, none, .none, .none, 0⟩), #[]⟩) ::
  (nat_lit 356, ⟨(.type "code"), none, (.fields #[(.str (Str.ofString "list_cells") 637), (.str (Str.ofString "Store.list_cells") 638), (.str (Str.ofString "/claim/cut.py") 639), (.int 188 0), (.int 2 0), (.int 0 0), (.int 0 0), (.int 3 0), (.ref 351), (.bool true), (.int 181 0), (.ref 352), .none, (.ref 353), (.ref 354), (.ref 355), (.int 642 0), (.int 188 0), (.str (Str.ofString "/claim/cut.py") 643)]), #[]⟩) ::
  (nat_lit 357, ⟨(.type "function"), none, (.func ⟨(Str.ofString "list_cells"), (Str.ofString "Store.list_cells"), fnP (stIn 21 2), .stmts (fnB (stIn 21 2)), fnS (stIn 21 2), 3, [], .none, .none, .none, (.str (Str.ofString "clausemill.store") 406), none, (.ref 356), .none, 0⟩), #[]⟩) ::
  (nat_lit 358, ⟨(.type "tuple"), none, (.seq #[] 0), #[]⟩) ::
  (nat_lit 359, ⟨.none, none, (.fields #[]), #[]⟩) ::
  (nat_lit 360, ⟨(.type "tuple"), none, (.seq #[(.str (Str.ofString "self") 648), (.str (Str.ofString "term") 649), (.str (Str.ofString "table") 650)] 0), #[]⟩) ::
  (nat_lit 361, ⟨(.type "tuple"), none, (.seq #[] 0), #[]⟩) ::
  (nat_lit 362, ⟨.none, none, (.func ⟨(Str.ofString "put_term"), (Str.ofString "Store.put_term"), fnP (stIn 21 3), .stmts (fnB (stIn 21 3)), fnS (stIn 21 3), 0, [], .none, .none, .none, .none, none, .none, .none, 0⟩), #[]⟩) ::
  (nat_lit 363, ⟨(.type "code"), none, (.fields #[(.str (Str.ofString "put_term") 645), (.str (Str.ofString "Store.put_term") 646), (.str (Str.ofString "/claim/cut.py") 647), (.int 191 0), (.int 3 0), (.int 0 0), (.int 0 0), (.int 3 0), (.ref 358), (.bool true), (.int 181 0), (.ref 359), .none, (.ref 360), (.ref 361), (.ref 362), (.int 651 0), (.int 191 0), (.str (Str.ofString "/claim/cut.py") 652)]), #[]⟩) ::
  (nat_lit 364, ⟨(.type "function"), none, (.func ⟨(Str.ofString "put_term"), (Str.ofString "Store.put_term"), fnP (stIn 21 3), .stmts (fnB (stIn 21 3)), fnS (stIn 21 3), 3, [], .none, .none, .none, (.str (Str.ofString "clausemill.store") 406), none, (.ref 363), .none, 0⟩), #[]⟩) ::
  (nat_lit 365, ⟨(.type "tuple"), none, (.seq #[] 0), #[]⟩) ::
  (nat_lit 366, ⟨.none, none, (.fields #[]), #[]⟩) ::
  (nat_lit 367, ⟨(.type "tuple"), none, (.seq #[(.str (Str.ofString "self") 657), (.str (Str.ofString "cell") 658), (.str (Str.ofString "sizes") 659)] 0), #[]⟩) ::
  (nat_lit 368, ⟨(.type "tuple"), none, (.seq #[] 0), #[]⟩) ::
  (nat_lit 369, ⟨.none, none, (.func ⟨(Str.ofString "whole_size"), (Str.ofString "Store.whole_size"), fnP (stIn 21 4), .stmts (fnB (stIn 21 4)), fnS (stIn 21 4), 0, [], .none, .none, .none, .none, none, .none, .none, 0⟩), #[]⟩) ::
  (nat_lit 370, ⟨(.type "code"), none, (.fields #[(.str (Str.ofString "whole_size") 654), (.str (Str.ofString "Store.whole_size") 655), (.str (Str.ofString "/claim/cut.py") 656), (.int 194 0), (.int 3 0), (.int 0 0), (.int 0 0), (.int 3 0), (.ref 365), (.bool true), (.int 181 0), (.ref 366), .none, (.ref 367), (.ref 368), (.ref 369), (.int 660 0), (.int 194 0), (.str (Str.ofString "/claim/cut.py") 661)]), #[]⟩) ::
  (nat_lit 371, ⟨(.type "function"), none, (.func ⟨(Str.ofString "whole_size"), (Str.ofString "Store.whole_size"), fnP (stIn 21 4), .stmts (fnB (stIn 21 4)), fnS (stIn 21 4), 3, [], .none, .none, .none, (.str (Str.ofString "clausemill.store") 406), none, (.ref 370), .none, 0⟩), #[]⟩) ::
  (nat_lit 372, ⟨(.type "tuple"), none, (.seq #[] 0), #[]⟩) ::
  (nat_lit 373, ⟨.none, none, (.fields #[]), #[]⟩) ::
  (nat_lit 374, ⟨(.type "tuple"), none, (.seq #[(.str (Str.ofString "self") 666), (.str (Str.ofString "cell") 667), (.str (Str.ofString "table") 668)] 0), #[]⟩) ::
  (nat_lit 375, ⟨(.type "tuple"), none, (.seq #[] 0), #[]⟩) ::
  (nat_lit 376, ⟨.none, none, (.func ⟨(Str.ofString "take_term"), (Str.ofString "Store.take_term"), fnP (stIn 21 5), .stmts (fnB (stIn 21 5)), fnS (stIn 21 5), 0, [], .none, .none, .none, .none, none, .none, .none, 0⟩), #[]⟩) ::
  (nat_lit 377, ⟨(.type "code"), none, (.fields #[(.str (Str.ofString "take_term") 663), (.str (Str.ofString "Store.take_term") 664), (.str (Str.ofString "/claim/cut.py") 665), (.int 197 0), (.int 3 0), (.int 0 0), (.int 0 0), (.int 3 0), (.ref 372), (.bool true), (.int 181 0), (.ref 373), .none, (.ref 374), (.ref 375), (.ref 376), (.int 669 0), (.int 197 0), (.str (Str.ofString "/claim/cut.py") 670)]), #[]⟩) ::
  (nat_lit 378, ⟨(.type "function"), none, (.func ⟨(Str.ofString "take_term"), (Str.ofString "Store.take_term"), fnP (stIn 21 5), .stmts (fnB (stIn 21 5)), fnS (stIn 21 5), 3, [], .none, .none, .none, (.str (Str.ofString "clausemill.store") 406), none, (.ref 377), .none, 0⟩), #[]⟩) ::
  (nat_lit 379, ⟨(.type "tuple"), none, (.seq #[] 0), #[]⟩) ::
  (nat_lit 380, ⟨(.type "dict"), none, (.dict #[⟨PyData.keyHash P (Str.ofString "__module__"), (.str (Str.ofString "__module__") 614), (.str (Str.ofString "clausemill.store") 406)⟩, ⟨PyData.keyHash P (Str.ofString "__firstlineno__"), (.str (Str.ofString "__firstlineno__") 618), (.int 180 617)⟩, ⟨PyData.keyHash P (Str.ofString "new_struct"), (.str (Str.ofString "new_struct") 627), (.ref 342)⟩, ⟨PyData.keyHash P (Str.ofString "build_list"), (.str (Str.ofString "build_list") 636), (.ref 350)⟩, ⟨PyData.keyHash P (Str.ofString "list_cells"), (.str (Str.ofString "list_cells") 644), (.ref 357)⟩, ⟨PyData.keyHash P (Str.ofString "put_term"), (.str (Str.ofString "put_term") 653), (.ref 364)⟩, ⟨PyData.keyHash P (Str.ofString "whole_size"), (.str (Str.ofString "whole_size") 662), (.ref 371)⟩, ⟨PyData.keyHash P (Str.ofString "take_term"), (.str (Str.ofString "take_term") 671), (.ref 378)⟩, ⟨PyData.keyHash P (Str.ofString "__static_attributes__"), (.str (Str.ofString "__static_attributes__") 672), (.ref 379)⟩, ⟨PyData.keyHash P (Str.ofString "__doc__"), (.str (Str.ofString "__doc__") 673), .none⟩] 2), #[]⟩) ::
  (nat_lit 381, ⟨(.type "type"), none, (.cls ⟨(Str.ofString "Store"), [(.ref 324)], [(.ref 381), (.ref 324), (.type "object")], 380, (Str.ofString "Store"), true, [], [], false, none, false⟩), #[(some (.ref 329)), none, (some (.str (Str.ofString "Store") 607)), (some (.str (Str.ofString "Store") 615)), (some (.builtin "object.__new__")), (some (.bool true))]⟩) ::
  (nat_lit 382, ⟨(.type "super"), none, (.fields #[(.ref 381), (.ref 381), (.ref 381)]), #[]⟩) ::
  (nat_lit 383, ⟨(.type "builtin_function_or_method"), none, (.fields #[(.builtin "object.__init_subclass__"), (.ref 381)]), #[]⟩) :: [])
noncomputable def st7 (w : World) (os : OsState) : SharedT := ⟨tr7 w.params, 384, (boot_heap w.params).life, Array.mk [], boot_drawn, 676, os⟩
noncomputable def tr8 (P : Params) : BT := putAll (tr7 P) (
  (nat_lit 3, ⟨(.type "dict"), none, (.dict #[⟨PyData.keyHash P (Str.ofString "__name__"), (.str (Str.ofString "__name__") 165), (.str (Str.ofString "clausemill.areas") 676)⟩, ⟨PyData.keyHash P (Str.ofString "__doc__"), (.str (Str.ofString "__doc__") 166), .none⟩, ⟨PyData.keyHash P (Str.ofString "__package__"), (.str (Str.ofString "__package__") 167), .none⟩, ⟨PyData.keyHash P (Str.ofString "__loader__"), (.str (Str.ofString "__loader__") 168), (.builtin "__main__.__loader__#opaque")⟩, ⟨PyData.keyHash P (Str.ofString "__spec__"), (.str (Str.ofString "__spec__") 169), .none⟩, ⟨PyData.keyHash P (Str.ofString "__annotations__"), (.str (Str.ofString "__annotations__") 170), (.ref 6)⟩, ⟨PyData.keyHash P (Str.ofString "__builtins__"), (.str (Str.ofString "__builtins__") 171), (.ref 4)⟩, ⟨PyData.keyHash P (Str.ofString "__file__"), (.str (Str.ofString "__file__") 173), (.str (Str.ofString "/claim/cut.py") 172)⟩, ⟨PyData.keyHash P (Str.ofString "__cached__"), (.str (Str.ofString "__cached__") 174), .none⟩, ⟨PyData.keyHash P (Str.ofString "_wall"), (.str (Str.ofString "_wall") 193), (.ref 21)⟩, ⟨PyData.keyHash P (Str.ofString "ClausemillError"), (.str (Str.ofString "ClausemillError") 215), (.ref 31)⟩, ⟨PyData.keyHash P (Str.ofString "PrologError"), (.str (Str.ofString "PrologError") 240), (.ref 51)⟩, ⟨PyData.keyHash P (Str.ofString "A_SYSTEM"), (.str (Str.ofString "A_SYSTEM") 242), (.int 25 241)⟩, ⟨PyData.keyHash P (Str.ofString "F_ERROR"), (.str (Str.ofString "F_ERROR") 244), (.int 16 243)⟩, ⟨PyData.keyHash P (Str.ofString "F_CALL1"), (.str (Str.ofString "F_CALL1") 246), (.int 24 245)⟩, ⟨PyData.keyHash P (Str.ofString "fixed_atoms"), (.str (Str.ofString "fixed_atoms") 252), (.ref 60)⟩, ⟨PyData.keyHash P (Str.ofString "fixed_functors"), (.str (Str.ofString "fixed_functors") 258), (.ref 67)⟩, ⟨PyData.keyHash P (Str.ofString "Symbols"), (.str (Str.ofString "Symbols") 377), (.ref 154)⟩, ⟨PyData.keyHash P (Str.ofString "system_error"), (.str (Str.ofString "system_error") 386), (.ref 165)⟩, ⟨PyData.keyHash P (Str.ofString "formal_of"), (.str (Str.ofString "formal_of") 397), (.ref 172)⟩, ⟨PyData.keyHash P (Str.ofString "resource_error"), (.str (Str.ofString "resource_error") 405), (.ref 179)⟩, ⟨PyData.keyHash P (Str.ofString "REF"), (.str (Str.ofString "REF") 409), (.int 0 408)⟩, ⟨PyData.keyHash P (Str.ofString "SRF"), (.str (Str.ofString "SRF") 411), (.int 1 410)⟩, ⟨PyData.keyHash P (Str.ofString "LIS"), (.str (Str.ofString "LIS") 413), (.int 3 412)⟩, ⟨PyData.keyHash P (Str.ofString "INT"), (.str (Str.ofString "INT") 415), (.int 5 414)⟩, ⟨PyData.keyHash P (Str.ofString "VOID"), (.str (Str.ofString "VOID") 417), (.ref 180)⟩, ⟨PyData.keyHash P (Str.ofString "Cells"), (.str (Str.ofString "Cells") 606), (.ref 324)⟩, ⟨PyData.keyHash P (Str.ofString "Store"), (.str (Str.ofString "Store") 675), (.ref 381)⟩, ⟨PyData.keyHash P (Str.ofString "READ"), (.str (Str.ofString "READ") 679), (.str (Str.ofString "read") 678)⟩, ⟨PyData.keyHash P (Str.ofString "AT_E"), (.str (Str.ofString "AT_E") 681), (.int 1 680)⟩, ⟨PyData.keyHash P (Str.ofString "AT_CP"), (.str (Str.ofString "AT_CP") 683), (.int 2 682)⟩, ⟨PyData.keyHash P (Str.ofString "AT_PREVIOUS"), (.str (Str.ofString "AT_PREVIOUS") 685), (.int 3 684)⟩, ⟨PyData.keyHash P (Str.ofString "AT_ALTERNATIVE"), (.str (Str.ofString "AT_ALTERNATIVE") 687), (.int 4 686)⟩, ⟨PyData.keyHash P (Str.ofString "AT_TRAIL"), (.str (Str.ofString "AT_TRAIL") 689), (.int 5 688)⟩, ⟨PyData.keyHash P (Str.ofString "AT_HEAP"), (.str (Str.ofString "AT_HEAP") 691), (.int 6 690)⟩, ⟨PyData.keyHash P (Str.ofString "AT_B0"), (.str (Str.ofString "AT_B0") 693), (.int 7 692)⟩, ⟨PyData.keyHash P (Str.ofString "EXTRA"), (.str (Str.ofString "EXTRA") 695), (.int 8 694)⟩] 37), #[]⟩) :: [])
noncomputable def st8 (w : World) (os : OsState) : SharedT := ⟨tr8 w.params, 384, (boot_heap w.params).life, Array.mk [], boot_drawn, 696, os⟩
noncomputable def tr9 (P : Params) : BT := putAll (tr8 P) (
  (nat_lit 3, ⟨(.type "dict"), none, (.dict #[⟨PyData.keyHash P (Str.ofString "__name__"), (.str (Str.ofString "__name__") 165), (.str (Str.ofString "clausemill.areas") 676)⟩, ⟨PyData.keyHash P (Str.ofString "__doc__"), (.str (Str.ofString "__doc__") 166), .none⟩, ⟨PyData.keyHash P (Str.ofString "__package__"), (.str (Str.ofString "__package__") 167), .none⟩, ⟨PyData.keyHash P (Str.ofString "__loader__"), (.str (Str.ofString "__loader__") 168), (.builtin "__main__.__loader__#opaque")⟩, ⟨PyData.keyHash P (Str.ofString "__spec__"), (.str (Str.ofString "__spec__") 169), .none⟩, ⟨PyData.keyHash P (Str.ofString "__annotations__"), (.str (Str.ofString "__annotations__") 170), (.ref 6)⟩, ⟨PyData.keyHash P (Str.ofString "__builtins__"), (.str (Str.ofString "__builtins__") 171), (.ref 4)⟩, ⟨PyData.keyHash P (Str.ofString "__file__"), (.str (Str.ofString "__file__") 173), (.str (Str.ofString "/claim/cut.py") 172)⟩, ⟨PyData.keyHash P (Str.ofString "__cached__"), (.str (Str.ofString "__cached__") 174), .none⟩, ⟨PyData.keyHash P (Str.ofString "_wall"), (.str (Str.ofString "_wall") 193), (.ref 21)⟩, ⟨PyData.keyHash P (Str.ofString "ClausemillError"), (.str (Str.ofString "ClausemillError") 215), (.ref 31)⟩, ⟨PyData.keyHash P (Str.ofString "PrologError"), (.str (Str.ofString "PrologError") 240), (.ref 51)⟩, ⟨PyData.keyHash P (Str.ofString "A_SYSTEM"), (.str (Str.ofString "A_SYSTEM") 242), (.int 25 241)⟩, ⟨PyData.keyHash P (Str.ofString "F_ERROR"), (.str (Str.ofString "F_ERROR") 244), (.int 16 243)⟩, ⟨PyData.keyHash P (Str.ofString "F_CALL1"), (.str (Str.ofString "F_CALL1") 246), (.int 24 245)⟩, ⟨PyData.keyHash P (Str.ofString "fixed_atoms"), (.str (Str.ofString "fixed_atoms") 252), (.ref 60)⟩, ⟨PyData.keyHash P (Str.ofString "fixed_functors"), (.str (Str.ofString "fixed_functors") 258), (.ref 67)⟩, ⟨PyData.keyHash P (Str.ofString "Symbols"), (.str (Str.ofString "Symbols") 377), (.ref 154)⟩, ⟨PyData.keyHash P (Str.ofString "system_error"), (.str (Str.ofString "system_error") 386), (.ref 165)⟩, ⟨PyData.keyHash P (Str.ofString "formal_of"), (.str (Str.ofString "formal_of") 397), (.ref 172)⟩, ⟨PyData.keyHash P (Str.ofString "resource_error"), (.str (Str.ofString "resource_error") 405), (.ref 179)⟩, ⟨PyData.keyHash P (Str.ofString "REF"), (.str (Str.ofString "REF") 409), (.int 0 408)⟩, ⟨PyData.keyHash P (Str.ofString "SRF"), (.str (Str.ofString "SRF") 411), (.int 1 410)⟩, ⟨PyData.keyHash P (Str.ofString "LIS"), (.str (Str.ofString "LIS") 413), (.int 3 412)⟩, ⟨PyData.keyHash P (Str.ofString "INT"), (.str (Str.ofString "INT") 415), (.int 5 414)⟩, ⟨PyData.keyHash P (Str.ofString "VOID"), (.str (Str.ofString "VOID") 417), (.ref 180)⟩, ⟨PyData.keyHash P (Str.ofString "Cells"), (.str (Str.ofString "Cells") 606), (.ref 324)⟩, ⟨PyData.keyHash P (Str.ofString "Store"), (.str (Str.ofString "Store") 675), (.ref 381)⟩, ⟨PyData.keyHash P (Str.ofString "READ"), (.str (Str.ofString "READ") 679), (.str (Str.ofString "read") 678)⟩, ⟨PyData.keyHash P (Str.ofString "AT_E"), (.str (Str.ofString "AT_E") 681), (.int 1 680)⟩, ⟨PyData.keyHash P (Str.ofString "AT_CP"), (.str (Str.ofString "AT_CP") 683), (.int 2 682)⟩, ⟨PyData.keyHash P (Str.ofString "AT_PREVIOUS"), (.str (Str.ofString "AT_PREVIOUS") 685), (.int 3 684)⟩, ⟨PyData.keyHash P (Str.ofString "AT_ALTERNATIVE"), (.str (Str.ofString "AT_ALTERNATIVE") 687), (.int 4 686)⟩, ⟨PyData.keyHash P (Str.ofString "AT_TRAIL"), (.str (Str.ofString "AT_TRAIL") 689), (.int 5 688)⟩, ⟨PyData.keyHash P (Str.ofString "AT_HEAP"), (.str (Str.ofString "AT_HEAP") 691), (.int 6 690)⟩, ⟨PyData.keyHash P (Str.ofString "AT_B0"), (.str (Str.ofString "AT_B0") 693), (.int 7 692)⟩, ⟨PyData.keyHash P (Str.ofString "EXTRA"), (.str (Str.ofString "EXTRA") 695), (.int 8 694)⟩, ⟨PyData.keyHash P (Str.ofString "Areas"), (.str (Str.ofString "Areas") 916), (.ref 541)⟩] 38), #[]⟩) ::
  (nat_lit 12, ⟨.none, none, (.fields #[(.int 1 0), (.int 0 0), (.ref 20), (.int 5 0), (.int 0 0), (.ref 27), (.int 7 0), (.int 0 0), (.ref 40), (.int 14 0), (.int 0 0), (.ref 59), (.int 16 0), (.int 0 0), (.ref 66), (.int 18 0), (.int 0 0), (.ref 73), (.int 73 0), (.int 0 0), (.ref 164), (.int 75 0), (.int 0 0), (.ref 171), (.int 80 0), (.int 0 0), (.ref 178), (.int 88 0), (.int 0 0), (.ref 186), (.int 180 0), (.int 0 0), (.ref 334), (.int 209 0), (.int 0 0), (.ref 389)]), #[]⟩) ::
  (nat_lit 384, ⟨(.type "tuple"), none, (.seq #[] 0), #[]⟩) ::
  (nat_lit 385, ⟨(.type "builtin_function_or_method"), none, (.fields #[(.builtin "type.__prepare__"), (.type "type")]), #[]⟩) ::
  (nat_lit 386, ⟨(.type "dict"), none, (.dict #[⟨PyData.keyHash P (Str.ofString "__module__"), (.str (Str.ofString "__module__") 703), (.str (Str.ofString "clausemill.areas") 676)⟩, ⟨PyData.keyHash P (Str.ofString "__qualname__"), (.str (Str.ofString "__qualname__") 705), (.str (Str.ofString "Areas") 704)⟩, ⟨PyData.keyHash P (Str.ofString "__firstlineno__"), (.str (Str.ofString "__firstlineno__") 707), (.int 209 706)⟩, ⟨PyData.keyHash P (Str.ofString "__init__"), (.str (Str.ofString "__init__") 721), (.ref 398)⟩, ⟨PyData.keyHash P (Str.ofString "reset"), (.str (Str.ofString "reset") 728), (.ref 405)⟩, ⟨PyData.keyHash P (Str.ofString "set_x"), (.str (Str.ofString "set_x") 737), (.ref 412)⟩, ⟨PyData.keyHash P (Str.ofString "set_arguments"), (.str (Str.ofString "set_arguments") 745), (.ref 419)⟩, ⟨PyData.keyHash P (Str.ofString "arg"), (.str (Str.ofString "arg") 753), (.ref 426)⟩, ⟨PyData.keyHash P (Str.ofString "unify"), (.str (Str.ofString "unify") 762), (.ref 433)⟩, ⟨PyData.keyHash P (Str.ofString "take"), (.str (Str.ofString "take") 770), (.ref 440)⟩, ⟨PyData.keyHash P (Str.ofString "put"), (.str (Str.ofString "put") 778), (.ref 447)⟩, ⟨PyData.keyHash P (Str.ofString "top"), (.str (Str.ofString "top") 785), (.ref 454)⟩, ⟨PyData.keyHash P (Str.ofString "push_environment"), (.str (Str.ofString "push_environment") 796), (.ref 461)⟩, ⟨PyData.keyHash P (Str.ofString "pop_environment"), (.str (Str.ofString "pop_environment") 803), (.ref 468)⟩, ⟨PyData.keyHash P (Str.ofString "in_chain"), (.str (Str.ofString "in_chain") 811), (.ref 475)⟩, ⟨PyData.keyHash P (Str.ofString "set_choice"), (.str (Str.ofString "set_choice") 820), (.ref 482)⟩, ⟨PyData.keyHash P (Str.ofString "push_choice"), (.str (Str.ofString "push_choice") 834), (.ref 489)⟩, ⟨PyData.keyHash P (Str.ofString "set_alternative"), (.str (Str.ofString "set_alternative") 842), (.ref 496)⟩, ⟨PyData.keyHash P (Str.ofString "choice_part"), (.str (Str.ofString "choice_part") 851), (.ref 503)⟩, ⟨PyData.keyHash P (Str.ofString "restore_choice"), (.str (Str.ofString "restore_choice") 858), (.ref 510)⟩, ⟨PyData.keyHash P (Str.ofString "pop_choice"), (.str (Str.ofString "pop_choice") 865), (.ref 517)⟩, ⟨PyData.keyHash P (Str.ofString "cut_back"), (.str (Str.ofString "cut_back") 873), (.ref 524)⟩, ⟨PyData.keyHash P (Str.ofString "choices"), (.str (Str.ofString "choices") 883), (.ref 531)⟩, ⟨PyData.keyHash P (Str.ofString "environments"), (.str (Str.ofString "environments") 890), (.ref 538)⟩, ⟨PyData.keyHash P (Str.ofString "__static_attributes__"), (.str (Str.ofString "__static_attributes__") 909), (.ref 539)⟩] 25), #[]⟩) ::
  (nat_lit 387, ⟨(.type "tuple"), none, (.seq #[] 0), #[]⟩) ::
  (nat_lit 388, ⟨.none, none, (.fields #[(.int 211 0), (.int 4 0), (.ref 397), (.int 219 0), (.int 4 0), (.ref 404), (.int 234 0), (.int 4 0), (.ref 411), (.int 237 0), (.int 4 0), (.ref 418), (.int 240 0), (.int 4 0), (.ref 425), (.int 243 0), (.int 4 0), (.ref 432), (.int 246 0), (.int 4 0), (.ref 439), (.int 249 0), (.int 4 0), (.ref 446), (.int 252 0), (.int 4 0), (.ref 453), (.int 259 0), (.int 4 0), (.ref 460), (.int 268 0), (.int 4 0), (.ref 467), (.int 271 0), (.int 4 0), (.ref 474), (.int 274 0), (.int 4 0), (.ref 481), (.int 284 0), (.int 4 0), (.ref 488), (.int 302 0), (.int 4 0), (.ref 495), (.int 305 0), (.int 4 0), (.ref 502), (.int 309 0), (.int 4 0), (.ref 509), (.int 312 0), (.int 4 0), (.ref 516), (.int 315 0), (.int 4 0), (.ref 523), (.int 319 0), (.int 4 0), (.ref 530), (.int 328 0), (.int 4 0), (.ref 537)]), #[]⟩) ::
  (nat_lit 389, ⟨(.type "code"), none, (.fields #[(.str (Str.ofString "Areas") 698), (.str (Str.ofString "Areas") 699), (.str (Str.ofString "/claim/cut.py") 700), (.int 209 0), (.int 0 0), (.int 0 0), (.int 0 0), (.int 0 0), (.ref 387), (.bool false), (.int 181 0), (.ref 388), .none, .none, .none, .none, (.int 701 0), (.int 209 0), (.str (Str.ofString "/claim/cut.py") 702)]), #[]⟩) ::
  (nat_lit 390, ⟨(.type "frame"), none, .plain, #[(some (.ref 389)), (some (.ref 3)), (some (.ref 386)), none, (some (.str (Str.ofString "clausemill.areas") 676)), none, (some (.ref 0))]⟩) ::
  (nat_lit 391, ⟨(.type "tuple"), none, (.seq #[(.int 100000 708), (.bool true), (.int 4096 709)] 0), #[]⟩) ::
  (nat_lit 392, ⟨(.type "tuple"), none, (.seq #[] 0), #[]⟩) ::
  (nat_lit 393, ⟨.none, none, (.fields #[]), #[]⟩) ::
  (nat_lit 394, ⟨(.type "tuple"), none, (.seq #[(.str (Str.ofString "self") 713), (.str (Str.ofString "symbols") 714), (.str (Str.ofString "code") 715), (.str (Str.ofString "max_heap") 716), (.str (Str.ofString "occurs") 717), (.str (Str.ofString "max_bits") 718)] 0), #[]⟩) ::
  (nat_lit 395, ⟨(.type "tuple"), none, (.seq #[] 0), #[]⟩) ::
  (nat_lit 396, ⟨.none, none, (.func ⟨(Str.ofString "__init__"), (Str.ofString "Areas.__init__"), fnP (stIn 32 0), .stmts (fnB (stIn 32 0)), fnS (stIn 32 0), 0, [], .none, .none, .none, .none, none, .none, .none, 0⟩), #[]⟩) ::
  (nat_lit 397, ⟨(.type "code"), none, (.fields #[(.str (Str.ofString "__init__") 710), (.str (Str.ofString "Areas.__init__") 711), (.str (Str.ofString "/claim/cut.py") 712), (.int 211 0), (.int 6 0), (.int 0 0), (.int 0 0), (.int 3 0), (.ref 392), (.bool true), (.int 181 0), (.ref 393), .none, (.ref 394), (.ref 395), (.ref 396), (.int 719 0), (.int 211 0), (.str (Str.ofString "/claim/cut.py") 720)]), #[]⟩) ::
  (nat_lit 398, ⟨(.type "function"), none, (.func ⟨(Str.ofString "__init__"), (Str.ofString "Areas.__init__"), fnP (stIn 32 0), .stmts (fnB (stIn 32 0)), fnS (stIn 32 0), 3, [], (.ref 391), .none, .none, (.str (Str.ofString "clausemill.areas") 676), none, (.ref 397), .none, 0⟩), #[]⟩) ::
  (nat_lit 399, ⟨(.type "tuple"), none, (.seq #[] 0), #[]⟩) ::
  (nat_lit 400, ⟨.none, none, (.fields #[]), #[]⟩) ::
  (nat_lit 401, ⟨(.type "tuple"), none, (.seq #[(.str (Str.ofString "self") 725)] 0), #[]⟩) ::
  (nat_lit 402, ⟨(.type "tuple"), none, (.seq #[] 0), #[]⟩) ::
  (nat_lit 403, ⟨.none, none, (.func ⟨(Str.ofString "reset"), (Str.ofString "Areas.reset"), fnP (stIn 32 1), .stmts (fnB (stIn 32 1)), fnS (stIn 32 1), 0, [], .none, .none, .none, .none, none, .none, .none, 0⟩), #[]⟩) ::
  (nat_lit 404, ⟨(.type "code"), none, (.fields #[(.str (Str.ofString "reset") 722), (.str (Str.ofString "Areas.reset") 723), (.str (Str.ofString "/claim/cut.py") 724), (.int 219 0), (.int 1 0), (.int 0 0), (.int 0 0), (.int 3 0), (.ref 399), (.bool true), (.int 181 0), (.ref 400), .none, (.ref 401), (.ref 402), (.ref 403), (.int 726 0), (.int 219 0), (.str (Str.ofString "/claim/cut.py") 727)]), #[]⟩) ::
  (nat_lit 405, ⟨(.type "function"), none, (.func ⟨(Str.ofString "reset"), (Str.ofString "Areas.reset"), fnP (stIn 32 1), .stmts (fnB (stIn 32 1)), fnS (stIn 32 1), 3, [], .none, .none, .none, (.str (Str.ofString "clausemill.areas") 676), none, (.ref 404), .none, 0⟩), #[]⟩) ::
  (nat_lit 406, ⟨(.type "tuple"), none, (.seq #[] 0), #[]⟩) ::
  (nat_lit 407, ⟨.none, none, (.fields #[]), #[]⟩) ::
  (nat_lit 408, ⟨(.type "tuple"), none, (.seq #[(.str (Str.ofString "self") 732), (.str (Str.ofString "number") 733), (.str (Str.ofString "cell") 734)] 0), #[]⟩) ::
  (nat_lit 409, ⟨(.type "tuple"), none, (.seq #[] 0), #[]⟩) ::
  (nat_lit 410, ⟨.none, none, (.func ⟨(Str.ofString "set_x"), (Str.ofString "Areas.set_x"), fnP (stIn 32 2), .stmts (fnB (stIn 32 2)), fnS (stIn 32 2), 0, [], .none, .none, .none, .none, none, .none, .none, 0⟩), #[]⟩) ::
  (nat_lit 411, ⟨(.type "code"), none, (.fields #[(.str (Str.ofString "set_x") 729), (.str (Str.ofString "Areas.set_x") 730), (.str (Str.ofString "/claim/cut.py") 731), (.int 234 0), (.int 3 0), (.int 0 0), (.int 0 0), (.int 3 0), (.ref 406), (.bool true), (.int 181 0), (.ref 407), .none, (.ref 408), (.ref 409), (.ref 410), (.int 735 0), (.int 234 0), (.str (Str.ofString "/claim/cut.py") 736)]), #[]⟩) ::
  (nat_lit 412, ⟨(.type "function"), none, (.func ⟨(Str.ofString "set_x"), (Str.ofString "Areas.set_x"), fnP (stIn 32 2), .stmts (fnB (stIn 32 2)), fnS (stIn 32 2), 3, [], .none, .none, .none, (.str (Str.ofString "clausemill.areas") 676), none, (.ref 411), .none, 0⟩), #[]⟩) ::
  (nat_lit 413, ⟨(.type "tuple"), none, (.seq #[] 0), #[]⟩) ::
  (nat_lit 414, ⟨.none, none, (.fields #[]), #[]⟩) ::
  (nat_lit 415, ⟨(.type "tuple"), none, (.seq #[(.str (Str.ofString "self") 741), (.str (Str.ofString "cells") 742)] 0), #[]⟩) ::
  (nat_lit 416, ⟨(.type "tuple"), none, (.seq #[] 0), #[]⟩) ::
  (nat_lit 417, ⟨.none, none, (.func ⟨(Str.ofString "set_arguments"), (Str.ofString "Areas.set_arguments"), fnP (stIn 32 3), .stmts (fnB (stIn 32 3)), fnS (stIn 32 3), 0, [], .none, .none, .none, .none, none, .none, .none, 0⟩), #[]⟩) ::
  (nat_lit 418, ⟨(.type "code"), none, (.fields #[(.str (Str.ofString "set_arguments") 738), (.str (Str.ofString "Areas.set_arguments") 739), (.str (Str.ofString "/claim/cut.py") 740), (.int 237 0), (.int 2 0), (.int 0 0), (.int 0 0), (.int 3 0), (.ref 413), (.bool true), (.int 181 0), (.ref 414), .none, (.ref 415), (.ref 416), (.ref 417), (.int 743 0), (.int 237 0), (.str (Str.ofString "/claim/cut.py") 744)]), #[]⟩) ::
  (nat_lit 419, ⟨(.type "function"), none, (.func ⟨(Str.ofString "set_arguments"), (Str.ofString "Areas.set_arguments"), fnP (stIn 32 3), .stmts (fnB (stIn 32 3)), fnS (stIn 32 3), 3, [], .none, .none, .none, (.str (Str.ofString "clausemill.areas") 676), none, (.ref 418), .none, 0⟩), #[]⟩) ::
  (nat_lit 420, ⟨(.type "tuple"), none, (.seq #[] 0), #[]⟩) ::
  (nat_lit 421, ⟨.none, none, (.fields #[]), #[]⟩) ::
  (nat_lit 422, ⟨(.type "tuple"), none, (.seq #[(.str (Str.ofString "self") 749), (.str (Str.ofString "i") 750)] 0), #[]⟩) ::
  (nat_lit 423, ⟨(.type "tuple"), none, (.seq #[] 0), #[]⟩) ::
  (nat_lit 424, ⟨.none, none, (.func ⟨(Str.ofString "arg"), (Str.ofString "Areas.arg"), fnP (stIn 32 4), .stmts (fnB (stIn 32 4)), fnS (stIn 32 4), 0, [], .none, .none, .none, .none, none, .none, .none, 0⟩), #[]⟩) ::
  (nat_lit 425, ⟨(.type "code"), none, (.fields #[(.str (Str.ofString "arg") 746), (.str (Str.ofString "Areas.arg") 747), (.str (Str.ofString "/claim/cut.py") 748), (.int 240 0), (.int 2 0), (.int 0 0), (.int 0 0), (.int 3 0), (.ref 420), (.bool true), (.int 181 0), (.ref 421), .none, (.ref 422), (.ref 423), (.ref 424), (.int 751 0), (.int 240 0), (.str (Str.ofString "/claim/cut.py") 752)]), #[]⟩) ::
  (nat_lit 426, ⟨(.type "function"), none, (.func ⟨(Str.ofString "arg"), (Str.ofString "Areas.arg"), fnP (stIn 32 4), .stmts (fnB (stIn 32 4)), fnS (stIn 32 4), 3, [], .none, .none, .none, (.str (Str.ofString "clausemill.areas") 676), none, (.ref 425), .none, 0⟩), #[]⟩) ::
  (nat_lit 427, ⟨(.type "tuple"), none, (.seq #[] 0), #[]⟩) ::
  (nat_lit 428, ⟨.none, none, (.fields #[]), #[]⟩) ::
  (nat_lit 429, ⟨(.type "tuple"), none, (.seq #[(.str (Str.ofString "self") 757), (.str (Str.ofString "c1") 758), (.str (Str.ofString "c2") 759)] 0), #[]⟩) ::
  (nat_lit 430, ⟨(.type "tuple"), none, (.seq #[] 0), #[]⟩) ::
  (nat_lit 431, ⟨.none, none, (.func ⟨(Str.ofString "unify"), (Str.ofString "Areas.unify"), fnP (stIn 32 5), .stmts (fnB (stIn 32 5)), fnS (stIn 32 5), 0, [], .none, .none, .none, .none, none, .none, .none, 0⟩), #[]⟩) ::
  (nat_lit 432, ⟨(.type "code"), none, (.fields #[(.str (Str.ofString "unify") 754), (.str (Str.ofString "Areas.unify") 755), (.str (Str.ofString "/claim/cut.py") 756), (.int 243 0), (.int 3 0), (.int 0 0), (.int 0 0), (.int 3 0), (.ref 427), (.bool true), (.int 181 0), (.ref 428), .none, (.ref 429), (.ref 430), (.ref 431), (.int 760 0), (.int 243 0), (.str (Str.ofString "/claim/cut.py") 761)]), #[]⟩) ::
  (nat_lit 433, ⟨(.type "function"), none, (.func ⟨(Str.ofString "unify"), (Str.ofString "Areas.unify"), fnP (stIn 32 5), .stmts (fnB (stIn 32 5)), fnS (stIn 32 5), 3, [], .none, .none, .none, (.str (Str.ofString "clausemill.areas") 676), none, (.ref 432), .none, 0⟩), #[]⟩) ::
  (nat_lit 434, ⟨(.type "tuple"), none, (.seq #[] 0), #[]⟩) ::
  (nat_lit 435, ⟨.none, none, (.fields #[]), #[]⟩) ::
  (nat_lit 436, ⟨(.type "tuple"), none, (.seq #[(.str (Str.ofString "self") 766), (.str (Str.ofString "cell") 767)] 0), #[]⟩) ::
  (nat_lit 437, ⟨(.type "tuple"), none, (.seq #[] 0), #[]⟩) ::
  (nat_lit 438, ⟨.none, none, (.func ⟨(Str.ofString "take"), (Str.ofString "Areas.take"), fnP (stIn 32 6), .stmts (fnB (stIn 32 6)), fnS (stIn 32 6), 0, [], .none, .none, .none, .none, none, .none, .none, 0⟩), #[]⟩) ::
  (nat_lit 439, ⟨(.type "code"), none, (.fields #[(.str (Str.ofString "take") 763), (.str (Str.ofString "Areas.take") 764), (.str (Str.ofString "/claim/cut.py") 765), (.int 246 0), (.int 2 0), (.int 0 0), (.int 0 0), (.int 3 0), (.ref 434), (.bool true), (.int 181 0), (.ref 435), .none, (.ref 436), (.ref 437), (.ref 438), (.int 768 0), (.int 246 0), (.str (Str.ofString "/claim/cut.py") 769)]), #[]⟩) ::
  (nat_lit 440, ⟨(.type "function"), none, (.func ⟨(Str.ofString "take"), (Str.ofString "Areas.take"), fnP (stIn 32 6), .stmts (fnB (stIn 32 6)), fnS (stIn 32 6), 3, [], .none, .none, .none, (.str (Str.ofString "clausemill.areas") 676), none, (.ref 439), .none, 0⟩), #[]⟩) ::
  (nat_lit 441, ⟨(.type "tuple"), none, (.seq #[] 0), #[]⟩) ::
  (nat_lit 442, ⟨.none, none, (.fields #[]), #[]⟩) ::
  (nat_lit 443, ⟨(.type "tuple"), none, (.seq #[(.str (Str.ofString "self") 774), (.str (Str.ofString "term") 775)] 0), #[]⟩) ::
  (nat_lit 444, ⟨(.type "tuple"), none, (.seq #[] 0), #[]⟩) ::
  (nat_lit 445, ⟨.none, none, (.func ⟨(Str.ofString "put"), (Str.ofString "Areas.put"), fnP (stIn 32 7), .stmts (fnB (stIn 32 7)), fnS (stIn 32 7), 0, [], .none, .none, .none, .none, none, .none, .none, 0⟩), #[]⟩) ::
  (nat_lit 446, ⟨(.type "code"), none, (.fields #[(.str (Str.ofString "put") 771), (.str (Str.ofString "Areas.put") 772), (.str (Str.ofString "/claim/cut.py") 773), (.int 249 0), (.int 2 0), (.int 0 0), (.int 0 0), (.int 3 0), (.ref 441), (.bool true), (.int 181 0), (.ref 442), .none, (.ref 443), (.ref 444), (.ref 445), (.int 776 0), (.int 249 0), (.str (Str.ofString "/claim/cut.py") 777)]), #[]⟩) ::
  (nat_lit 447, ⟨(.type "function"), none, (.func ⟨(Str.ofString "put"), (Str.ofString "Areas.put"), fnP (stIn 32 7), .stmts (fnB (stIn 32 7)), fnS (stIn 32 7), 3, [], .none, .none, .none, (.str (Str.ofString "clausemill.areas") 676), none, (.ref 446), .none, 0⟩), #[]⟩) ::
  (nat_lit 448, ⟨(.type "tuple"), none, (.seq #[] 0), #[]⟩) ::
  (nat_lit 449, ⟨.none, none, (.fields #[]), #[]⟩) ::
  (nat_lit 450, ⟨(.type "tuple"), none, (.seq #[(.str (Str.ofString "self") 782)] 0), #[]⟩) ::
  (nat_lit 451, ⟨(.type "tuple"), none, (.seq #[] 0), #[]⟩) ::
  (nat_lit 452, ⟨.none, none, (.func ⟨(Str.ofString "top"), (Str.ofString "Areas.top"), fnP (stIn 32 8), .stmts (fnB (stIn 32 8)), fnS (stIn 32 8), 0, [], .none, .none, .none, .none, none, .none, .none, 0⟩), #[]⟩) ::
  (nat_lit 453, ⟨(.type "code"), none, (.fields #[(.str (Str.ofString "top") 779), (.str (Str.ofString "Areas.top") 780), (.str (Str.ofString "/claim/cut.py") 781), (.int 252 0), (.int 1 0), (.int 0 0), (.int 0 0), (.int 3 0), (.ref 448), (.bool true), (.int 181 0), (.ref 449), .none, (.ref 450), (.ref 451), (.ref 452), (.int 783 0), (.int 252 0), (.str (Str.ofString "/claim/cut.py") 784)]), #[]⟩) ::
  (nat_lit 454, ⟨(.type "function"), none, (.func ⟨(Str.ofString "top"), (Str.ofString "Areas.top"), fnP (stIn 32 8), .stmts (fnB (stIn 32 8)), fnS (stIn 32 8), 3, [], .none, .none, .none, (.str (Str.ofString "clausemill.areas") 676), none, (.ref 453), .none, 0⟩), #[]⟩) ::
  (nat_lit 455, ⟨(.type "tuple"), none, (.seq #[] 0), #[]⟩) ::
  (nat_lit 456, ⟨.none, none, (.fields #[]), #[]⟩) ::
  (nat_lit 457, ⟨(.type "tuple"), none, (.seq #[(.str (Str.ofString "self") 789), (.str (Str.ofString "size") 790), (.str (Str.ofString "place") 791), (.str (Str.ofString "store") 792), (.str (Str.ofString "number") 793)] 0), #[]⟩) ::
  (nat_lit 458, ⟨(.type "tuple"), none, (.seq #[] 0), #[]⟩) ::
  (nat_lit 459, ⟨.none, none, (.func ⟨(Str.ofString "push_environment"), (Str.ofString "Areas.push_environment"), fnP (stIn 32 9), .stmts (fnB (stIn 32 9)), fnS (stIn 32 9), 0, [], .none, .none, .none, .none, none, .none, .none, 0⟩), #[]⟩) ::
  (nat_lit 460, ⟨(.type "code"), none, (.fields #[(.str (Str.ofString "push_environment") 786), (.str (Str.ofString "Areas.push_environment") 787), (.str (Str.ofString "/claim/cut.py") 788), (.int 259 0), (.int 2 0), (.int 0 0), (.int 0 0), (.int 3 0), (.ref 455), (.bool true), (.int 181 0), (.ref 456), .none, (.ref 457), (.ref 458), (.ref 459), (.int 794 0), (.int 259 0), (.str (Str.ofString "/claim/cut.py") 795)]), #[]⟩) ::
  (nat_lit 461, ⟨(.type "function"), none, (.func ⟨(Str.ofString "push_environment"), (Str.ofString "Areas.push_environment"), fnP (stIn 32 9), .stmts (fnB (stIn 32 9)), fnS (stIn 32 9), 3, [], .none, .none, .none, (.str (Str.ofString "clausemill.areas") 676), none, (.ref 460), .none, 0⟩), #[]⟩) ::
  (nat_lit 462, ⟨(.type "tuple"), none, (.seq #[] 0), #[]⟩) ::
  (nat_lit 463, ⟨.none, none, (.fields #[]), #[]⟩) ::
  (nat_lit 464, ⟨(.type "tuple"), none, (.seq #[(.str (Str.ofString "self") 800)] 0), #[]⟩) ::
  (nat_lit 465, ⟨(.type "tuple"), none, (.seq #[] 0), #[]⟩) ::
  (nat_lit 466, ⟨.none, none, (.func ⟨(Str.ofString "pop_environment"), (Str.ofString "Areas.pop_environment"), fnP (stIn 32 10), .stmts (fnB (stIn 32 10)), fnS (stIn 32 10), 0, [], .none, .none, .none, .none, none, .none, .none, 0⟩), #[]⟩) ::
  (nat_lit 467, ⟨(.type "code"), none, (.fields #[(.str (Str.ofString "pop_environment") 797), (.str (Str.ofString "Areas.pop_environment") 798), (.str (Str.ofString "/claim/cut.py") 799), (.int 268 0), (.int 1 0), (.int 0 0), (.int 0 0), (.int 3 0), (.ref 462), (.bool true), (.int 181 0), (.ref 463), .none, (.ref 464), (.ref 465), (.ref 466), (.int 801 0), (.int 268 0), (.str (Str.ofString "/claim/cut.py") 802)]), #[]⟩) ::
  (nat_lit 468, ⟨(.type "function"), none, (.func ⟨(Str.ofString "pop_environment"), (Str.ofString "Areas.pop_environment"), fnP (stIn 32 10), .stmts (fnB (stIn 32 10)), fnS (stIn 32 10), 3, [], .none, .none, .none, (.str (Str.ofString "clausemill.areas") 676), none, (.ref 467), .none, 0⟩), #[]⟩) ::
  (nat_lit 469, ⟨(.type "tuple"), none, (.seq #[] 0), #[]⟩) ::
  (nat_lit 470, ⟨.none, none, (.fields #[]), #[]⟩) ::
  (nat_lit 471, ⟨(.type "tuple"), none, (.seq #[(.str (Str.ofString "self") 807), (.str (Str.ofString "index") 808)] 0), #[]⟩) ::
  (nat_lit 472, ⟨(.type "tuple"), none, (.seq #[] 0), #[]⟩) ::
  (nat_lit 473, ⟨.none, none, (.func ⟨(Str.ofString "in_chain"), (Str.ofString "Areas.in_chain"), fnP (stIn 32 11), .stmts (fnB (stIn 32 11)), fnS (stIn 32 11), 0, [], .none, .none, .none, .none, none, .none, .none, 0⟩), #[]⟩) ::
  (nat_lit 474, ⟨(.type "code"), none, (.fields #[(.str (Str.ofString "in_chain") 804), (.str (Str.ofString "Areas.in_chain") 805), (.str (Str.ofString "/claim/cut.py") 806), (.int 271 0), (.int 2 0), (.int 0 0), (.int 0 0), (.int 3 0), (.ref 469), (.bool true), (.int 181 0), (.ref 470), .none, (.ref 471), (.ref 472), (.ref 473), (.int 809 0), (.int 271 0), (.str (Str.ofString "/claim/cut.py") 810)]), #[]⟩) ::
  (nat_lit 475, ⟨(.type "function"), none, (.func ⟨(Str.ofString "in_chain"), (Str.ofString "Areas.in_chain"), fnP (stIn 32 11), .stmts (fnB (stIn 32 11)), fnS (stIn 32 11), 3, [], .none, .none, .none, (.str (Str.ofString "clausemill.areas") 676), none, (.ref 474), .none, 0⟩), #[]⟩) ::
  (nat_lit 476, ⟨(.type "tuple"), none, (.seq #[] 0), #[]⟩) ::
  (nat_lit 477, ⟨.none, none, (.fields #[]), #[]⟩) ::
  (nat_lit 478, ⟨(.type "tuple"), none, (.seq #[(.str (Str.ofString "self") 815), (.str (Str.ofString "b") 816), (.str (Str.ofString "store") 817)] 0), #[]⟩) ::
  (nat_lit 479, ⟨(.type "tuple"), none, (.seq #[] 0), #[]⟩) ::
  (nat_lit 480, ⟨.none, none, (.func ⟨(Str.ofString "set_choice"), (Str.ofString "Areas.set_choice"), fnP (stIn 32 12), .stmts (fnB (stIn 32 12)), fnS (stIn 32 12), 0, [], .none, .none, .none, .none, none, .none, .none, 0⟩), #[]⟩) ::
  (nat_lit 481, ⟨(.type "code"), none, (.fields #[(.str (Str.ofString "set_choice") 812), (.str (Str.ofString "Areas.set_choice") 813), (.str (Str.ofString "/claim/cut.py") 814), (.int 274 0), (.int 2 0), (.int 0 0), (.int 0 0), (.int 3 0), (.ref 476), (.bool true), (.int 181 0), (.ref 477), .none, (.ref 478), (.ref 479), (.ref 480), (.int 818 0), (.int 274 0), (.str (Str.ofString "/claim/cut.py") 819)]), #[]⟩) ::
  (nat_lit 482, ⟨(.type "function"), none, (.func ⟨(Str.ofString "set_choice"), (Str.ofString "Areas.set_choice"), fnP (stIn 32 12), .stmts (fnB (stIn 32 12)), fnS (stIn 32 12), 3, [], .none, .none, .none, (.str (Str.ofString "clausemill.areas") 676), none, (.ref 481), .none, 0⟩), #[]⟩) ::
  (nat_lit 483, ⟨(.type "tuple"), none, (.seq #[] 0), #[]⟩) ::
  (nat_lit 484, ⟨.none, none, (.fields #[]), #[]⟩) ::
  (nat_lit 485, ⟨(.type "tuple"), none, (.seq #[(.str (Str.ofString "self") 824), (.str (Str.ofString "cells") 825), (.str (Str.ofString "alternative") 826), (.str (Str.ofString "store") 827), (.str (Str.ofString "place") 828), (.str (Str.ofString "count") 829), (.str (Str.ofString "at") 830), (.str (Str.ofString "cell") 831)] 0), #[]⟩) ::
  (nat_lit 486, ⟨(.type "tuple"), none, (.seq #[] 0), #[]⟩) ::
  (nat_lit 487, ⟨.none, none, (.func ⟨(Str.ofString "push_choice"), (Str.ofString "Areas.push_choice"), fnP (stIn 32 13), .stmts (fnB (stIn 32 13)), fnS (stIn 32 13), 0, [], .none, .none, .none, .none, none, .none, .none, 0⟩), #[]⟩) ::
  (nat_lit 488, ⟨(.type "code"), none, (.fields #[(.str (Str.ofString "push_choice") 821), (.str (Str.ofString "Areas.push_choice") 822), (.str (Str.ofString "/claim/cut.py") 823), (.int 284 0), (.int 3 0), (.int 0 0), (.int 0 0), (.int 3 0), (.ref 483), (.bool true), (.int 181 0), (.ref 484), .none, (.ref 485), (.ref 486), (.ref 487), (.int 832 0), (.int 284 0), (.str (Str.ofString "/claim/cut.py") 833)]), #[]⟩) ::
  (nat_lit 489, ⟨(.type "function"), none, (.func ⟨(Str.ofString "push_choice"), (Str.ofString "Areas.push_choice"), fnP (stIn 32 13), .stmts (fnB (stIn 32 13)), fnS (stIn 32 13), 3, [], .none, .none, .none, (.str (Str.ofString "clausemill.areas") 676), none, (.ref 488), .none, 0⟩), #[]⟩) ::
  (nat_lit 490, ⟨(.type "tuple"), none, (.seq #[] 0), #[]⟩) ::
  (nat_lit 491, ⟨.none, none, (.fields #[]), #[]⟩) ::
  (nat_lit 492, ⟨(.type "tuple"), none, (.seq #[(.str (Str.ofString "self") 838), (.str (Str.ofString "address") 839)] 0), #[]⟩) ::
  (nat_lit 493, ⟨(.type "tuple"), none, (.seq #[] 0), #[]⟩) ::
  (nat_lit 494, ⟨.none, none, (.func ⟨(Str.ofString "set_alternative"), (Str.ofString "Areas.set_alternative"), fnP (stIn 32 14), .stmts (fnB (stIn 32 14)), fnS (stIn 32 14), 0, [], .none, .none, .none, .none, none, .none, .none, 0⟩), #[]⟩) ::
  (nat_lit 495, ⟨(.type "code"), none, (.fields #[(.str (Str.ofString "set_alternative") 835), (.str (Str.ofString "Areas.set_alternative") 836), (.str (Str.ofString "/claim/cut.py") 837), (.int 302 0), (.int 2 0), (.int 0 0), (.int 0 0), (.int 3 0), (.ref 490), (.bool true), (.int 181 0), (.ref 491), .none, (.ref 492), (.ref 493), (.ref 494), (.int 840 0), (.int 302 0), (.str (Str.ofString "/claim/cut.py") 841)]), #[]⟩) ::
  (nat_lit 496, ⟨(.type "function"), none, (.func ⟨(Str.ofString "set_alternative"), (Str.ofString "Areas.set_alternative"), fnP (stIn 32 14), .stmts (fnB (stIn 32 14)), fnS (stIn 32 14), 3, [], .none, .none, .none, (.str (Str.ofString "clausemill.areas") 676), none, (.ref 495), .none, 0⟩), #[]⟩) ::
  (nat_lit 497, ⟨(.type "tuple"), none, (.seq #[] 0), #[]⟩) ::
  (nat_lit 498, ⟨.none, none, (.fields #[]), #[]⟩) ::
  (nat_lit 499, ⟨(.type "tuple"), none, (.seq #[(.str (Str.ofString "self") 846), (.str (Str.ofString "part") 847), (.str (Str.ofString "stack") 848)] 0), #[]⟩) ::
  (nat_lit 500, ⟨(.type "tuple"), none, (.seq #[] 0), #[]⟩) ::
  (nat_lit 501, ⟨.none, none, (.func ⟨(Str.ofString "choice_part"), (Str.ofString "Areas.choice_part"), fnP (stIn 32 15), .stmts (fnB (stIn 32 15)), fnS (stIn 32 15), 0, [], .none, .none, .none, .none, none, .none, .none, 0⟩), #[]⟩) ::
  (nat_lit 502, ⟨(.type "code"), none, (.fields #[(.str (Str.ofString "choice_part") 843), (.str (Str.ofString "Areas.choice_part") 844), (.str (Str.ofString "/claim/cut.py") 845), (.int 305 0), (.int 2 0), (.int 0 0), (.int 0 0), (.int 3 0), (.ref 497), (.bool true), (.int 181 0), (.ref 498), .none, (.ref 499), (.ref 500), (.ref 501), (.int 849 0), (.int 305 0), (.str (Str.ofString "/claim/cut.py") 850)]), #[]⟩) ::
  (nat_lit 503, ⟨(.type "function"), none, (.func ⟨(Str.ofString "choice_part"), (Str.ofString "Areas.choice_part"), fnP (stIn 32 15), .stmts (fnB (stIn 32 15)), fnS (stIn 32 15), 3, [], .none, .none, .none, (.str (Str.ofString "clausemill.areas") 676), none, (.ref 502), .none, 0⟩), #[]⟩) ::
  (nat_lit 504, ⟨(.type "tuple"), none, (.seq #[] 0), #[]⟩) ::
  (nat_lit 505, ⟨.none, none, (.fields #[]), #[]⟩) ::
  (nat_lit 506, ⟨(.type "tuple"), none, (.seq #[(.str (Str.ofString "self") 855)] 0), #[]⟩) ::
  (nat_lit 507, ⟨(.type "tuple"), none, (.seq #[] 0), #[]⟩) ::
  (nat_lit 508, ⟨.none, none, (.func ⟨(Str.ofString "restore_choice"), (Str.ofString "Areas.restore_choice"), fnP (stIn 32 16), .stmts (fnB (stIn 32 16)), fnS (stIn 32 16), 0, [], .none, .none, .none, .none, none, .none, .none, 0⟩), #[]⟩) ::
  (nat_lit 509, ⟨(.type "code"), none, (.fields #[(.str (Str.ofString "restore_choice") 852), (.str (Str.ofString "Areas.restore_choice") 853), (.str (Str.ofString "/claim/cut.py") 854), (.int 309 0), (.int 1 0), (.int 0 0), (.int 0 0), (.int 3 0), (.ref 504), (.bool true), (.int 181 0), (.ref 505), .none, (.ref 506), (.ref 507), (.ref 508), (.int 856 0), (.int 309 0), (.str (Str.ofString "/claim/cut.py") 857)]), #[]⟩) ::
  (nat_lit 510, ⟨(.type "function"), none, (.func ⟨(Str.ofString "restore_choice"), (Str.ofString "Areas.restore_choice"), fnP (stIn 32 16), .stmts (fnB (stIn 32 16)), fnS (stIn 32 16), 3, [], .none, .none, .none, (.str (Str.ofString "clausemill.areas") 676), none, (.ref 509), .none, 0⟩), #[]⟩) ::
  (nat_lit 511, ⟨(.type "tuple"), none, (.seq #[] 0), #[]⟩) ::
  (nat_lit 512, ⟨.none, none, (.fields #[]), #[]⟩) ::
  (nat_lit 513, ⟨(.type "tuple"), none, (.seq #[(.str (Str.ofString "self") 862)] 0), #[]⟩) ::
  (nat_lit 514, ⟨(.type "tuple"), none, (.seq #[] 0), #[]⟩) ::
  (nat_lit 515, ⟨.none, none, (.func ⟨(Str.ofString "pop_choice"), (Str.ofString "Areas.pop_choice"), fnP (stIn 32 17), .stmts (fnB (stIn 32 17)), fnS (stIn 32 17), 0, [], .none, .none, .none, .none, none, .none, .none, 0⟩), #[]⟩) ::
  (nat_lit 516, ⟨(.type "code"), none, (.fields #[(.str (Str.ofString "pop_choice") 859), (.str (Str.ofString "Areas.pop_choice") 860), (.str (Str.ofString "/claim/cut.py") 861), (.int 312 0), (.int 1 0), (.int 0 0), (.int 0 0), (.int 3 0), (.ref 511), (.bool true), (.int 181 0), (.ref 512), .none, (.ref 513), (.ref 514), (.ref 515), (.int 863 0), (.int 312 0), (.str (Str.ofString "/claim/cut.py") 864)]), #[]⟩) ::
  (nat_lit 517, ⟨(.type "function"), none, (.func ⟨(Str.ofString "pop_choice"), (Str.ofString "Areas.pop_choice"), fnP (stIn 32 17), .stmts (fnB (stIn 32 17)), fnS (stIn 32 17), 3, [], .none, .none, .none, (.str (Str.ofString "clausemill.areas") 676), none, (.ref 516), .none, 0⟩), #[]⟩) ::
  (nat_lit 518, ⟨(.type "tuple"), none, (.seq #[] 0), #[]⟩) ::
  (nat_lit 519, ⟨.none, none, (.fields #[]), #[]⟩) ::
  (nat_lit 520, ⟨(.type "tuple"), none, (.seq #[(.str (Str.ofString "self") 869), (.str (Str.ofString "b") 870)] 0), #[]⟩) ::
  (nat_lit 521, ⟨(.type "tuple"), none, (.seq #[] 0), #[]⟩) ::
  (nat_lit 522, ⟨.none, none, (.func ⟨(Str.ofString "cut_back"), (Str.ofString "Areas.cut_back"), fnP (stIn 32 18), .stmts (fnB (stIn 32 18)), fnS (stIn 32 18), 0, [], .none, .none, .none, .none, none, .none, .none, 0⟩), #[]⟩) ::
  (nat_lit 523, ⟨(.type "code"), none, (.fields #[(.str (Str.ofString "cut_back") 866), (.str (Str.ofString "Areas.cut_back") 867), (.str (Str.ofString "/claim/cut.py") 868), (.int 315 0), (.int 2 0), (.int 0 0), (.int 0 0), (.int 3 0), (.ref 518), (.bool true), (.int 181 0), (.ref 519), .none, (.ref 520), (.ref 521), (.ref 522), (.int 871 0), (.int 315 0), (.str (Str.ofString "/claim/cut.py") 872)]), #[]⟩) ::
  (nat_lit 524, ⟨(.type "function"), none, (.func ⟨(Str.ofString "cut_back"), (Str.ofString "Areas.cut_back"), fnP (stIn 32 18), .stmts (fnB (stIn 32 18)), fnS (stIn 32 18), 3, [], .none, .none, .none, (.str (Str.ofString "clausemill.areas") 676), none, (.ref 523), .none, 0⟩), #[]⟩) ::
  (nat_lit 525, ⟨(.type "tuple"), none, (.seq #[] 0), #[]⟩) ::
  (nat_lit 526, ⟨.none, none, (.fields #[]), #[]⟩) ::
  (nat_lit 527, ⟨(.type "tuple"), none, (.seq #[(.str (Str.ofString "self") 877), (.str (Str.ofString "stack") 878), (.str (Str.ofString "found") 879), (.str (Str.ofString "b") 880)] 0), #[]⟩) ::
  (nat_lit 528, ⟨(.type "tuple"), none, (.seq #[] 0), #[]⟩) ::
  (nat_lit 529, ⟨.none, none, (.func ⟨(Str.ofString "choices"), (Str.ofString "Areas.choices"), fnP (stIn 32 19), .stmts (fnB (stIn 32 19)), fnS (stIn 32 19), 0, [], .none, .none, .none, .none, none, .none, .none, 0⟩), #[]⟩) ::
  (nat_lit 530, ⟨(.type "code"), none, (.fields #[(.str (Str.ofString "choices") 874), (.str (Str.ofString "Areas.choices") 875), (.str (Str.ofString "/claim/cut.py") 876), (.int 319 0), (.int 1 0), (.int 0 0), (.int 0 0), (.int 3 0), (.ref 525), (.bool true), (.int 181 0), (.ref 526), .none, (.ref 527), (.ref 528), (.ref 529), (.int 881 0), (.int 319 0), (.str (Str.ofString "/claim/cut.py") 882)]), #[]⟩) ::
  (nat_lit 531, ⟨(.type "function"), none, (.func ⟨(Str.ofString "choices"), (Str.ofString "Areas.choices"), fnP (stIn 32 19), .stmts (fnB (stIn 32 19)), fnS (stIn 32 19), 3, [], .none, .none, .none, (.str (Str.ofString "clausemill.areas") 676), none, (.ref 530), .none, 0⟩), #[]⟩) ::
  (nat_lit 532, ⟨(.type "tuple"), none, (.seq #[] 0), #[]⟩) ::
  (nat_lit 533, ⟨.none, none, (.fields #[]), #[]⟩) ::
  (nat_lit 534, ⟨(.type "tuple"), none, (.seq #[(.str (Str.ofString "self") 887)] 0), #[]⟩) ::
  (nat_lit 535, ⟨(.type "tuple"), none, (.seq #[] 0), #[]⟩) ::
  (nat_lit 536, ⟨.none, none, (.func ⟨(Str.ofString "environments"), (Str.ofString "Areas.environments"), fnP (stIn 32 20), .stmts (fnB (stIn 32 20)), fnS (stIn 32 20), 0, [], .none, .none, .none, .none, none, .none, .none, 0⟩), #[]⟩) ::
  (nat_lit 537, ⟨(.type "code"), none, (.fields #[(.str (Str.ofString "environments") 884), (.str (Str.ofString "Areas.environments") 885), (.str (Str.ofString "/claim/cut.py") 886), (.int 328 0), (.int 1 0), (.int 0 0), (.int 0 0), (.int 3 0), (.ref 532), (.bool true), (.int 181 0), (.ref 533), .none, (.ref 534), (.ref 535), (.ref 536), (.int 888 0), (.int 328 0), (.str (Str.ofString "/claim/cut.py") 889)]), #[]⟩) ::
  (nat_lit 538, ⟨(.type "function"), none, (.func ⟨(Str.ofString "environments"), (Str.ofString "Areas.environments"), fnP (stIn 32 20), .stmts (fnB (stIn 32 20)), fnS (stIn 32 20), 3, [], .none, .none, .none, (.str (Str.ofString "clausemill.areas") 676), none, (.ref 537), .none, 0⟩), #[]⟩) ::
  (nat_lit 539, ⟨(.type "tuple"), none, (.seq #[(.str (Str.ofString "b") 891), (.str (Str.ofString "b0") 892), (.str (Str.ofString "bags") 893), (.str (Str.ofString "code") 894), (.str (Str.ofString "collect_wanted") 895), (.str (Str.ofString "cp") 896), (.str (Str.ofString "e") 897), (.str (Str.ofString "guard") 898), (.str (Str.ofString "max_bits") 899), (.str (Str.ofString "max_heap") 900), (.str (Str.ofString "mode") 901), (.str (Str.ofString "occurs") 902), (.str (Str.ofString "p") 903), (.str (Str.ofString "roots") 904), (.str (Str.ofString "s") 905), (.str (Str.ofString "store") 906), (.str (Str.ofString "symbols") 907), (.str (Str.ofString "x") 908)] 0), #[]⟩) ::
  (nat_lit 540, ⟨(.type "dict"), none, (.dict #[⟨PyData.keyHash P (Str.ofString "__module__"), (.str (Str.ofString "__module__") 703), (.str (Str.ofString "clausemill.areas") 676)⟩, ⟨PyData.keyHash P (Str.ofString "__firstlineno__"), (.str (Str.ofString "__firstlineno__") 707), (.int 209 706)⟩, ⟨PyData.keyHash P (Str.ofString "__init__"), (.str (Str.ofString "__init__") 721), (.ref 398)⟩, ⟨PyData.keyHash P (Str.ofString "reset"), (.str (Str.ofString "reset") 728), (.ref 405)⟩, ⟨PyData.keyHash P (Str.ofString "set_x"), (.str (Str.ofString "set_x") 737), (.ref 412)⟩, ⟨PyData.keyHash P (Str.ofString "set_arguments"), (.str (Str.ofString "set_arguments") 745), (.ref 419)⟩, ⟨PyData.keyHash P (Str.ofString "arg"), (.str (Str.ofString "arg") 753), (.ref 426)⟩, ⟨PyData.keyHash P (Str.ofString "unify"), (.str (Str.ofString "unify") 762), (.ref 433)⟩, ⟨PyData.keyHash P (Str.ofString "take"), (.str (Str.ofString "take") 770), (.ref 440)⟩, ⟨PyData.keyHash P (Str.ofString "put"), (.str (Str.ofString "put") 778), (.ref 447)⟩, ⟨PyData.keyHash P (Str.ofString "top"), (.str (Str.ofString "top") 785), (.ref 454)⟩, ⟨PyData.keyHash P (Str.ofString "push_environment"), (.str (Str.ofString "push_environment") 796), (.ref 461)⟩, ⟨PyData.keyHash P (Str.ofString "pop_environment"), (.str (Str.ofString "pop_environment") 803), (.ref 468)⟩, ⟨PyData.keyHash P (Str.ofString "in_chain"), (.str (Str.ofString "in_chain") 811), (.ref 475)⟩, ⟨PyData.keyHash P (Str.ofString "set_choice"), (.str (Str.ofString "set_choice") 820), (.ref 482)⟩, ⟨PyData.keyHash P (Str.ofString "push_choice"), (.str (Str.ofString "push_choice") 834), (.ref 489)⟩, ⟨PyData.keyHash P (Str.ofString "set_alternative"), (.str (Str.ofString "set_alternative") 842), (.ref 496)⟩, ⟨PyData.keyHash P (Str.ofString "choice_part"), (.str (Str.ofString "choice_part") 851), (.ref 503)⟩, ⟨PyData.keyHash P (Str.ofString "restore_choice"), (.str (Str.ofString "restore_choice") 858), (.ref 510)⟩, ⟨PyData.keyHash P (Str.ofString "pop_choice"), (.str (Str.ofString "pop_choice") 865), (.ref 517)⟩, ⟨PyData.keyHash P (Str.ofString "cut_back"), (.str (Str.ofString "cut_back") 873), (.ref 524)⟩, ⟨PyData.keyHash P (Str.ofString "choices"), (.str (Str.ofString "choices") 883), (.ref 531)⟩, ⟨PyData.keyHash P (Str.ofString "environments"), (.str (Str.ofString "environments") 890), (.ref 538)⟩, ⟨PyData.keyHash P (Str.ofString "__static_attributes__"), (.str (Str.ofString "__static_attributes__") 909), (.ref 539)⟩, ⟨PyData.keyHash P (Str.ofString "__dict__"), (.str (Str.ofString "__dict__") 911), (.ref 542)⟩, ⟨PyData.keyHash P (Str.ofString "__weakref__"), (.str (Str.ofString "__weakref__") 913), (.ref 543)⟩, ⟨PyData.keyHash P (Str.ofString "__doc__"), (.str (Str.ofString "__doc__") 914), .none⟩] 4), #[]⟩) ::
  (nat_lit 541, ⟨(.type "type"), none, (.cls ⟨(Str.ofString "Areas"), [(.type "object")], [(.ref 541), (.type "object")], 540, (Str.ofString "Areas"), true, [], [], false, none, false⟩), #[none, none, (some (.str (Str.ofString "Areas") 696)), (some (.str (Str.ofString "Areas") 704)), (some (.builtin "object.__new__")), (some (.bool true))]⟩) ::
  (nat_lit 542, ⟨(.type "getset_descriptor"), none, (.fields #[(.str (Str.ofString "__dict__") 910), (.ref 541), (.builtin "function.__dict__"), (.builtin "function.__dict__#set")]), #[]⟩) ::
  (nat_lit 543, ⟨(.type "getset_descriptor"), none, (.fields #[(.str (Str.ofString "__weakref__") 912), (.ref 541), (.builtin "ExceptionGroup.__weakref__"), .none]), #[]⟩) ::
  (nat_lit 544, ⟨(.type "super"), none, (.fields #[(.ref 541), (.ref 541), (.ref 541)]), #[]⟩) ::
  (nat_lit 545, ⟨(.type "builtin_function_or_method"), none, (.fields #[(.builtin "object.__init_subclass__"), (.ref 541)]), #[]⟩) :: [])
noncomputable def st9 (w : World) (os : OsState) : SharedT := ⟨tr9 w.params, 546, (boot_heap w.params).life, Array.mk [], boot_drawn, 917, os⟩
noncomputable def tr10 (P : Params) : BT := putAll (tr9 P) (
  (nat_lit 3, ⟨(.type "dict"), none, (.dict #[⟨PyData.keyHash P (Str.ofString "__name__"), (.str (Str.ofString "__name__") 165), (.str (Str.ofString "law_rh0105_01") 917)⟩, ⟨PyData.keyHash P (Str.ofString "__doc__"), (.str (Str.ofString "__doc__") 166), .none⟩, ⟨PyData.keyHash P (Str.ofString "__package__"), (.str (Str.ofString "__package__") 167), .none⟩, ⟨PyData.keyHash P (Str.ofString "__loader__"), (.str (Str.ofString "__loader__") 168), (.builtin "__main__.__loader__#opaque")⟩, ⟨PyData.keyHash P (Str.ofString "__spec__"), (.str (Str.ofString "__spec__") 169), .none⟩, ⟨PyData.keyHash P (Str.ofString "__annotations__"), (.str (Str.ofString "__annotations__") 170), (.ref 6)⟩, ⟨PyData.keyHash P (Str.ofString "__builtins__"), (.str (Str.ofString "__builtins__") 171), (.ref 4)⟩, ⟨PyData.keyHash P (Str.ofString "__file__"), (.str (Str.ofString "__file__") 173), (.str (Str.ofString "/claim/cut.py") 172)⟩, ⟨PyData.keyHash P (Str.ofString "__cached__"), (.str (Str.ofString "__cached__") 174), .none⟩, ⟨PyData.keyHash P (Str.ofString "_wall"), (.str (Str.ofString "_wall") 193), (.ref 21)⟩, ⟨PyData.keyHash P (Str.ofString "ClausemillError"), (.str (Str.ofString "ClausemillError") 215), (.ref 31)⟩, ⟨PyData.keyHash P (Str.ofString "PrologError"), (.str (Str.ofString "PrologError") 240), (.ref 51)⟩, ⟨PyData.keyHash P (Str.ofString "A_SYSTEM"), (.str (Str.ofString "A_SYSTEM") 242), (.int 25 241)⟩, ⟨PyData.keyHash P (Str.ofString "F_ERROR"), (.str (Str.ofString "F_ERROR") 244), (.int 16 243)⟩, ⟨PyData.keyHash P (Str.ofString "F_CALL1"), (.str (Str.ofString "F_CALL1") 246), (.int 24 245)⟩, ⟨PyData.keyHash P (Str.ofString "fixed_atoms"), (.str (Str.ofString "fixed_atoms") 252), (.ref 60)⟩, ⟨PyData.keyHash P (Str.ofString "fixed_functors"), (.str (Str.ofString "fixed_functors") 258), (.ref 67)⟩, ⟨PyData.keyHash P (Str.ofString "Symbols"), (.str (Str.ofString "Symbols") 377), (.ref 154)⟩, ⟨PyData.keyHash P (Str.ofString "system_error"), (.str (Str.ofString "system_error") 386), (.ref 165)⟩, ⟨PyData.keyHash P (Str.ofString "formal_of"), (.str (Str.ofString "formal_of") 397), (.ref 172)⟩, ⟨PyData.keyHash P (Str.ofString "resource_error"), (.str (Str.ofString "resource_error") 405), (.ref 179)⟩, ⟨PyData.keyHash P (Str.ofString "REF"), (.str (Str.ofString "REF") 409), (.int 0 408)⟩, ⟨PyData.keyHash P (Str.ofString "SRF"), (.str (Str.ofString "SRF") 411), (.int 1 410)⟩, ⟨PyData.keyHash P (Str.ofString "LIS"), (.str (Str.ofString "LIS") 413), (.int 3 412)⟩, ⟨PyData.keyHash P (Str.ofString "INT"), (.str (Str.ofString "INT") 415), (.int 5 414)⟩, ⟨PyData.keyHash P (Str.ofString "VOID"), (.str (Str.ofString "VOID") 417), (.ref 180)⟩, ⟨PyData.keyHash P (Str.ofString "Cells"), (.str (Str.ofString "Cells") 606), (.ref 324)⟩, ⟨PyData.keyHash P (Str.ofString "Store"), (.str (Str.ofString "Store") 675), (.ref 381)⟩, ⟨PyData.keyHash P (Str.ofString "READ"), (.str (Str.ofString "READ") 679), (.str (Str.ofString "read") 678)⟩, ⟨PyData.keyHash P (Str.ofString "AT_E"), (.str (Str.ofString "AT_E") 681), (.int 1 680)⟩, ⟨PyData.keyHash P (Str.ofString "AT_CP"), (.str (Str.ofString "AT_CP") 683), (.int 2 682)⟩, ⟨PyData.keyHash P (Str.ofString "AT_PREVIOUS"), (.str (Str.ofString "AT_PREVIOUS") 685), (.int 3 684)⟩, ⟨PyData.keyHash P (Str.ofString "AT_ALTERNATIVE"), (.str (Str.ofString "AT_ALTERNATIVE") 687), (.int 4 686)⟩, ⟨PyData.keyHash P (Str.ofString "AT_TRAIL"), (.str (Str.ofString "AT_TRAIL") 689), (.int 5 688)⟩, ⟨PyData.keyHash P (Str.ofString "AT_HEAP"), (.str (Str.ofString "AT_HEAP") 691), (.int 6 690)⟩, ⟨PyData.keyHash P (Str.ofString "AT_B0"), (.str (Str.ofString "AT_B0") 693), (.int 7 692)⟩, ⟨PyData.keyHash P (Str.ofString "EXTRA"), (.str (Str.ofString "EXTRA") 695), (.int 8 694)⟩, ⟨PyData.keyHash P (Str.ofString "Areas"), (.str (Str.ofString "Areas") 916), (.ref 541)⟩, ⟨PyData.keyHash P (Str.ofString "_law_pick"), (.str (Str.ofString "_law_pick") 927), (.ref 552)⟩, ⟨PyData.keyHash P (Str.ofString "_law_chain_is"), (.str (Str.ofString "_law_chain_is") 933), (.ref 557)⟩, ⟨PyData.keyHash P (Str.ofString "law"), (.str (Str.ofString "law") 939), (.ref 562)⟩] 41), #[]⟩) ::
  (nat_lit 12, ⟨.none, none, (.fields #[(.int 1 0), (.int 0 0), (.ref 20), (.int 5 0), (.int 0 0), (.ref 27), (.int 7 0), (.int 0 0), (.ref 40), (.int 14 0), (.int 0 0), (.ref 59), (.int 16 0), (.int 0 0), (.ref 66), (.int 18 0), (.int 0 0), (.ref 73), (.int 73 0), (.int 0 0), (.ref 164), (.int 75 0), (.int 0 0), (.ref 171), (.int 80 0), (.int 0 0), (.ref 178), (.int 88 0), (.int 0 0), (.ref 186), (.int 180 0), (.int 0 0), (.ref 334), (.int 209 0), (.int 0 0), (.ref 389), (.int 331 0), (.int 0 0), (.ref 551), (.int 338 0), (.int 0 0), (.ref 556), (.int 351 0), (.int 0 0), (.ref 561)]), #[]⟩) ::
  (nat_lit 546, ⟨(.type "tuple"), none, (.seq #[] 0), #[]⟩) ::
  (nat_lit 547, ⟨.none, none, (.fields #[]), #[]⟩) ::
  (nat_lit 548, ⟨(.type "tuple"), none, (.seq #[(.str (Str.ofString "urn") 922), (.str (Str.ofString "faces") 923), (.str (Str.ofString "face") 924)] 0), #[]⟩) ::
  (nat_lit 549, ⟨(.type "tuple"), none, (.seq #[] 0), #[]⟩) ::
  (nat_lit 550, ⟨.none, none, (.func ⟨(Str.ofString "_law_pick"), (Str.ofString "_law_pick"), fnP (stAt 34), .stmts (fnB (stAt 34)), fnS (stAt 34), 0, [], .none, .none, .none, .none, none, .none, .none, 0⟩), #[]⟩) ::
  (nat_lit 551, ⟨(.type "code"), none, (.fields #[(.str (Str.ofString "_law_pick") 919), (.str (Str.ofString "_law_pick") 920), (.str (Str.ofString "/claim/cut.py") 921), (.int 331 0), (.int 2 0), (.int 0 0), (.int 0 0), (.int 3 0), (.ref 546), (.bool true), (.int 181 0), (.ref 547), .none, (.ref 548), (.ref 549), (.ref 550), (.int 925 0), (.int 331 0), (.str (Str.ofString "/claim/cut.py") 926)]), #[]⟩) ::
  (nat_lit 552, ⟨(.type "function"), none, (.func ⟨(Str.ofString "_law_pick"), (Str.ofString "_law_pick"), fnP (stAt 34), .stmts (fnB (stAt 34)), fnS (stAt 34), 3, [], .none, .none, .none, (.str (Str.ofString "law_rh0105_01") 917), none, (.ref 551), .none, 0⟩), #[]⟩) ::
  (nat_lit 553, ⟨(.type "tuple"), none, (.seq #[] 0), #[]⟩) ::
  (nat_lit 554, ⟨.none, none, (.fields #[]), #[]⟩) ::
  (nat_lit 555, ⟨.none, none, (.func ⟨(Str.ofString "_law_chain_is"), (Str.ofString "_law_chain_is"), fnP (stAt 35), .stmts (fnB (stAt 35)), fnS (stAt 35), 0, [], .none, .none, .none, .none, none, .none, .none, 0⟩), #[]⟩) ::
  (nat_lit 556, ⟨(.type "code"), none, (.fields #[(.str (Str.ofString "_law_chain_is") 928), (.str (Str.ofString "_law_chain_is") 929), (.str (Str.ofString "/claim/cut.py") 930), (.int 338 0), (.int 4 0), (.int 0 0), (.int 0 0), (.int 3 0), (.ref 553), (.bool true), (.int 181 0), (.ref 554), .none, .none, .none, (.ref 555), (.int 931 0), (.int 338 0), (.str (Str.ofString "/claim/cut.py") 932)]), #[]⟩) ::
  (nat_lit 557, ⟨(.type "function"), none, (.func ⟨(Str.ofString "_law_chain_is"), (Str.ofString "_law_chain_is"), fnP (stAt 35), .stmts (fnB (stAt 35)), fnS (stAt 35), 3, [], .none, .none, .none, (.str (Str.ofString "law_rh0105_01") 917), none, (.ref 556), .none, 0⟩), #[]⟩) ::
  (nat_lit 558, ⟨(.type "tuple"), none, (.seq #[] 0), #[]⟩) ::
  (nat_lit 559, ⟨.none, none, (.fields #[]), #[]⟩) ::
  (nat_lit 560, ⟨.none, none, (.func ⟨(Str.ofString "law"), (Str.ofString "law"), fnP (stAt 36), .stmts (fnB (stAt 36)), fnS (stAt 36), 0, [], .none, .none, .none, .none, none, .none, .none, 0⟩), #[]⟩) ::
  (nat_lit 561, ⟨(.type "code"), none, (.fields #[(.str (Str.ofString "law") 934), (.str (Str.ofString "law") 935), (.str (Str.ofString "/claim/cut.py") 936), (.int 351 0), (.int 1 0), (.int 0 0), (.int 0 0), (.int 3 0), (.ref 558), (.bool true), (.int 181 0), (.ref 559), .none, .none, .none, (.ref 560), (.int 937 0), (.int 351 0), (.str (Str.ofString "/claim/cut.py") 938)]), #[]⟩) ::
  (nat_lit 562, ⟨(.type "function"), none, (.func ⟨(Str.ofString "law"), (Str.ofString "law"), fnP (stAt 36), .stmts (fnB (stAt 36)), fnS (stAt 36), 3, [], .none, .none, .none, (.str (Str.ofString "law_rh0105_01") 917), none, (.ref 561), .none, 0⟩), #[]⟩) :: [])
noncomputable def st10 (w : World) (os : OsState) : SharedT := ⟨tr10 w.params, 563, (boot_heap w.params).life, Array.mk [], boot_drawn, 940, os⟩
theorem pre0 (w : World) (os : OsState) : topGo treeTable PW w 11 (some (.ref 6)) 12 (st0 w os).abs (topStub PW) = some ((st1 w os).abs, ⟨denote treeTable cE, cE, ⟨0, 0, 0, 0⟩, fr0⟩) := by
  kernel_rfl
theorem block0 (w : World) (os : OsState) : segRunT treeTable PW w 11 (some (.ref 6)) 1 1 (st1 w os) (blockOf (behindTheImports PW) env0 cE ⟨0, 0, 0, 0⟩ fr0) = some (.next, st1 w os, cE, ⟨0, 0, 0, 0⟩) := by
  rw [PySem.W.Fast.te10110043849684766642, PySem.W.Fast.te14364793385576792824]
  kernel_rfl
noncomputable def sts2 : List Stmt := [stAt 0, stAt 1, stAt 2]
theorem g2 (w : World) (os : OsState) : segRunT treeTable PW w 11 (some (.ref 6)) 1 235 (st1 w os) (piecesOf sts2 env0 cE ⟨0, 0, 0, 0⟩ fr0) = some (.next, st2 w os, cE, ⟨5, 0, 6, 8⟩) := by
  rw [PySem.W.Fast.te10110043849684766642, PySem.W.Fast.te14364793385576792824]
  kernel_rfl
noncomputable def sts3 : List Stmt := [stAt 3, stAt 4, stAt 5, stAt 6, stAt 7, stAt 8]
theorem g3 (w : World) (os : OsState) : segRunT treeTable PW w 11 (some (.ref 6)) 1 329 (st2 w os) (piecesOf sts3 env0 cE ⟨5, 0, 6, 8⟩ fr0) = some (.next, st3 w os, cE, ⟨16, 0, 17, 389⟩) := by
  rw [PySem.W.Fast.te10110043849684766642, PySem.W.Fast.te14364793385576792824]
  kernel_rfl
noncomputable def sts4 : List Stmt := [stAt 9]
theorem g4 (w : World) (os : OsState) : segRunT treeTable PW w 11 (some (.ref 6)) 1 553 (st3 w os) (piecesOf sts4 env0 cE ⟨16, 0, 17, 389⟩ fr0) = some (.next, st4 w os, cE, ⟨18, 0, 71, 16⟩) := by
  rw [PySem.W.Fast.te10110043849684766642, PySem.W.Fast.te14364793385576792824]
  kernel_rfl
noncomputable def sts5 : List Stmt := [stAt 10, stAt 11, stAt 12, stAt 13, stAt 14, stAt 15, stAt 16, stAt 17, stAt 18, stAt 19]
theorem g5 (w : World) (os : OsState) : segRunT treeTable PW w 11 (some (.ref 6)) 1 160 (st4 w os) (piecesOf sts5 env0 cE ⟨18, 0, 71, 16⟩ fr0) = some (.next, st5 w os, cE, ⟨87, 0, 87, 4⟩) := by
  rw [PySem.W.Fast.te10110043849684766642, PySem.W.Fast.te14364793385576792824]
  kernel_rfl
noncomputable def sts6 : List Stmt := [stAt 20]
theorem g6 (w : World) (os : OsState) : segRunT treeTable PW w 11 (some (.ref 6)) 1 816 (st5 w os) (piecesOf sts6 env0 cE ⟨87, 0, 87, 4⟩ fr0) = some (.next, st6 w os, cE, ⟨88, 0, 179, 17⟩) := by
  rw [PySem.W.Fast.te10110043849684766642, PySem.W.Fast.te14364793385576792824]
  kernel_rfl
noncomputable def sts7 : List Stmt := [stAt 21]
theorem g7 (w : World) (os : OsState) : segRunT treeTable PW w 11 (some (.ref 6)) 1 411 (st6 w os) (piecesOf sts7 env0 cE ⟨88, 0, 179, 17⟩ fr0) = some (.next, st7 w os, cE, ⟨180, 0, 198, 17⟩) := by
  rw [PySem.W.Fast.te10110043849684766642, PySem.W.Fast.te14364793385576792824]
  kernel_rfl
noncomputable def sts8 : List Stmt := [stAt 22, stAt 23, stAt 24, stAt 25, stAt 26, stAt 27, stAt 28, stAt 29, stAt 30, stAt 31]
theorem g8 (w : World) (os : OsState) : segRunT treeTable PW w 11 (some (.ref 6)) 1 91 (st7 w os) (piecesOf sts8 env0 cE ⟨180, 0, 198, 17⟩ fr0) = some (.next, st8 w os, cE, ⟨208, 0, 208, 5⟩) := by
  rw [PySem.W.Fast.te10110043849684766642, PySem.W.Fast.te14364793385576792824]
  kernel_rfl
noncomputable def sts9 : List Stmt := [stAt 32]
theorem g9 (w : World) (os : OsState) : segRunT treeTable PW w 11 (some (.ref 6)) 1 896 (st8 w os) (piecesOf sts9 env0 cE ⟨208, 0, 208, 5⟩ fr0) = some (.next, st9 w os, cE, ⟨209, 0, 329, 17⟩) := by
  rw [PySem.W.Fast.te10110043849684766642, PySem.W.Fast.te14364793385576792824]
  kernel_rfl
noncomputable def sts10 : List Stmt := [stAt 33, stAt 34, stAt 35, stAt 36]
theorem g10 (w : World) (os : OsState) : segRunT treeTable PW w 11 (some (.ref 6)) 1 93 (st9 w os) (piecesOf sts10 env0 cE ⟨209, 0, 329, 17⟩ fr0) = some (.next, st10 w os, cE, ⟨351, 0, 401, 15⟩) := by
  rw [PySem.W.Fast.te10110043849684766642, PySem.W.Fast.te14364793385576792824]
  kernel_rfl
theorem fin0 (w : World) (os : OsState) : topRun treeTable PW w 11 (some (.ref 6)) 2 (st10 w os).abs (restOf [] env0 cE ⟨351, 0, 401, 15⟩ fr0) = some (st10 w os).abs := by
  kernel_rfl
theorem body0 : behindTheImports PW = sts2 ++ (sts3 ++ (sts4 ++ (sts5 ++ (sts6 ++ (sts7 ++ (sts8 ++ (sts9 ++ (sts10 ++ [])))))))) := by kernel_rfl
theorem rest0 (w : World) (os : OsState) : topRun treeTable PW w 11 (some (.ref 6)) (235 + (329 + (553 + (160 + (816 + (411 + (91 + (896 + (93 + 2))))))))) (st1 w os).abs (restOf (behindTheImports PW) env0 cE ⟨0, 0, 0, 0⟩ fr0) = some (st10 w os).abs :=
  (congrArg (fun b => topRun treeTable PW w 11 (some (.ref 6)) (235 + (329 + (553 + (160 + (816 + (411 + (91 + (896 + (93 + 2))))))))) (st1 w os).abs (restOf b env0 cE ⟨0, 0, 0, 0⟩ fr0)) body0).trans (piece_app (segRun_of (g2 w os)) (piece_app (segRun_of (g3 w os)) (piece_app (segRun_of (g4 w os)) (piece_app (segRun_of (g5 w os)) (piece_app (segRun_of (g6 w os)) (piece_app (segRun_of (g7 w os)) (piece_app (segRun_of (g8 w os)) (piece_app (segRun_of (g9 w os)) (piece_app (segRun_of (g10 w os)) (fin0 w os))))))))))
theorem run1 (w : World) (os : OsState) : topRun treeTable PW w 11 (some (.ref 6)) (12 + (1 + (235 + (329 + (553 + (160 + (816 + (411 + (91 + (896 + (93 + 2))))))))))) (st0 w os).abs (topStub PW) = some (st10 w os).abs :=
  go_top (pre0 w os) (piece_block (segRun_of (block0 w os)) (rest0 w os))
noncomputable abbrev R0 : RowW := PySem.Challenge.rw_rh0105_01.row.toRowW
noncomputable def loose0 : List Str := [Str.ofString "VOID", Str.ofString "Store"]
noncomputable def lv0 : List (Str × WData) := [(Str.ofString "VOID", WData.tuple [WData.int 5, WData.int 0])]
theorem asK_eq (P : Params) : asK = (K0 P).map (·.1) := by kernel_rfl
theorem open0 : ∀ w : World, (fencedOpening treeTable PW w 7276).map (fun s => (s.heap, s.gens, s.drawn, s.toks)) = some (boot_heap w.params, Array.mk [], boot_drawn, boot_toks) :=
  boot_open (by kernel_rfl) (by decide) (by intro s; kernel_rfl)
theorem size0 (w : World) : ((boot_heap w.params).isNs mainGlobals && (Array.mk [] : Array GenState).size == 0, (boot_heap w.params).objs.size, (boot_heap w.params).nsMap mainGlobals "__annotations__") = (true, 11, some (.ref 6)) := by kernel_rfl
theorem tree0 (w : World) : absHeap (tr0 w.params) 11 (boot_heap w.params).life = boot_heap w.params := by kernel_rfl
noncomputable def gt (P : Params) (i : Nat) : Obj := ((tr10 P).get i).getD default
noncomputable def H1 (P : Params) : Heap := ⟨⟨gt P 0 :: gt P 1 :: gt P 2 :: gt P 3 :: gt P 4 :: gt P 5 :: gt P 6 :: gt P 7 :: gt P 8 :: gt P 9 :: gt P 10 :: gt P 11 :: gt P 12 :: gt P 13 :: gt P 14 :: gt P 15 :: gt P 16 :: gt P 17 :: gt P 18 :: gt P 19 :: gt P 20 :: gt P 21 :: gt P 22 :: gt P 23 :: gt P 24 :: gt P 25 :: gt P 26 :: gt P 27 :: gt P 28 :: gt P 29 :: gt P 30 :: gt P 31 :: gt P 32 :: gt P 33 :: gt P 34 :: gt P 35 :: gt P 36 :: gt P 37 :: gt P 38 :: gt P 39 :: gt P 40 :: gt P 41 :: gt P 42 :: gt P 43 :: gt P 44 :: gt P 45 :: gt P 46 :: gt P 47 :: gt P 48 :: gt P 49 :: gt P 50 :: gt P 51 :: gt P 52 :: gt P 53 :: gt P 54 :: gt P 55 :: gt P 56 :: gt P 57 :: gt P 58 :: gt P 59 :: gt P 60 :: gt P 61 :: gt P 62 :: gt P 63 :: gt P 64 :: gt P 65 :: gt P 66 :: gt P 67 :: gt P 68 :: gt P 69 :: gt P 70 :: gt P 71 :: gt P 72 :: gt P 73 :: gt P 74 :: gt P 75 :: gt P 76 :: gt P 77 :: gt P 78 :: gt P 79 :: gt P 80 :: gt P 81 :: gt P 82 :: gt P 83 :: gt P 84 :: gt P 85 :: gt P 86 :: gt P 87 :: gt P 88 :: gt P 89 :: gt P 90 :: gt P 91 :: gt P 92 :: gt P 93 :: gt P 94 :: gt P 95 :: gt P 96 :: gt P 97 :: gt P 98 :: gt P 99 :: gt P 100 :: gt P 101 :: gt P 102 :: gt P 103 :: gt P 104 :: gt P 105 :: gt P 106 :: gt P 107 :: gt P 108 :: gt P 109 :: gt P 110 :: gt P 111 :: gt P 112 :: gt P 113 :: gt P 114 :: gt P 115 :: gt P 116 :: gt P 117 :: gt P 118 :: gt P 119 :: gt P 120 :: gt P 121 :: gt P 122 :: gt P 123 :: gt P 124 :: gt P 125 :: gt P 126 :: gt P 127 :: gt P 128 :: gt P 129 :: gt P 130 :: gt P 131 :: gt P 132 :: gt P 133 :: gt P 134 :: gt P 135 :: gt P 136 :: gt P 137 :: gt P 138 :: gt P 139 :: gt P 140 :: gt P 141 :: gt P 142 :: gt P 143 :: gt P 144 :: gt P 145 :: gt P 146 :: gt P 147 :: gt P 148 :: gt P 149 :: gt P 150 :: gt P 151 :: gt P 152 :: gt P 153 :: gt P 154 :: gt P 155 :: gt P 156 :: gt P 157 :: gt P 158 :: gt P 159 :: gt P 160 :: gt P 161 :: gt P 162 :: gt P 163 :: gt P 164 :: gt P 165 :: gt P 166 :: gt P 167 :: gt P 168 :: gt P 169 :: gt P 170 :: gt P 171 :: gt P 172 :: gt P 173 :: gt P 174 :: gt P 175 :: gt P 176 :: gt P 177 :: gt P 178 :: gt P 179 :: gt P 180 :: gt P 181 :: gt P 182 :: gt P 183 :: gt P 184 :: gt P 185 :: gt P 186 :: gt P 187 :: gt P 188 :: gt P 189 :: gt P 190 :: gt P 191 :: gt P 192 :: gt P 193 :: gt P 194 :: gt P 195 :: gt P 196 :: gt P 197 :: gt P 198 :: gt P 199 :: gt P 200 :: gt P 201 :: gt P 202 :: gt P 203 :: gt P 204 :: gt P 205 :: gt P 206 :: gt P 207 :: gt P 208 :: gt P 209 :: gt P 210 :: gt P 211 :: gt P 212 :: gt P 213 :: gt P 214 :: gt P 215 :: gt P 216 :: gt P 217 :: gt P 218 :: gt P 219 :: gt P 220 :: gt P 221 :: gt P 222 :: gt P 223 :: gt P 224 :: gt P 225 :: gt P 226 :: gt P 227 :: gt P 228 :: gt P 229 :: gt P 230 :: gt P 231 :: gt P 232 :: gt P 233 :: gt P 234 :: gt P 235 :: gt P 236 :: gt P 237 :: gt P 238 :: gt P 239 :: gt P 240 :: gt P 241 :: gt P 242 :: gt P 243 :: gt P 244 :: gt P 245 :: gt P 246 :: gt P 247 :: gt P 248 :: gt P 249 :: gt P 250 :: gt P 251 :: gt P 252 :: gt P 253 :: gt P 254 :: gt P 255 :: gt P 256 :: gt P 257 :: gt P 258 :: gt P 259 :: gt P 260 :: gt P 261 :: gt P 262 :: gt P 263 :: gt P 264 :: gt P 265 :: gt P 266 :: gt P 267 :: gt P 268 :: gt P 269 :: gt P 270 :: gt P 271 :: gt P 272 :: gt P 273 :: gt P 274 :: gt P 275 :: gt P 276 :: gt P 277 :: gt P 278 :: gt P 279 :: gt P 280 :: gt P 281 :: gt P 282 :: gt P 283 :: gt P 284 :: gt P 285 :: gt P 286 :: gt P 287 :: gt P 288 :: gt P 289 :: gt P 290 :: gt P 291 :: gt P 292 :: gt P 293 :: gt P 294 :: gt P 295 :: gt P 296 :: gt P 297 :: gt P 298 :: gt P 299 :: gt P 300 :: gt P 301 :: gt P 302 :: gt P 303 :: gt P 304 :: gt P 305 :: gt P 306 :: gt P 307 :: gt P 308 :: gt P 309 :: gt P 310 :: gt P 311 :: gt P 312 :: gt P 313 :: gt P 314 :: gt P 315 :: gt P 316 :: gt P 317 :: gt P 318 :: gt P 319 :: gt P 320 :: gt P 321 :: gt P 322 :: gt P 323 :: gt P 324 :: gt P 325 :: gt P 326 :: gt P 327 :: gt P 328 :: gt P 329 :: gt P 330 :: gt P 331 :: gt P 332 :: gt P 333 :: gt P 334 :: gt P 335 :: gt P 336 :: gt P 337 :: gt P 338 :: gt P 339 :: gt P 340 :: gt P 341 :: gt P 342 :: gt P 343 :: gt P 344 :: gt P 345 :: gt P 346 :: gt P 347 :: gt P 348 :: gt P 349 :: gt P 350 :: gt P 351 :: gt P 352 :: gt P 353 :: gt P 354 :: gt P 355 :: gt P 356 :: gt P 357 :: gt P 358 :: gt P 359 :: gt P 360 :: gt P 361 :: gt P 362 :: gt P 363 :: gt P 364 :: gt P 365 :: gt P 366 :: gt P 367 :: gt P 368 :: gt P 369 :: gt P 370 :: gt P 371 :: gt P 372 :: gt P 373 :: gt P 374 :: gt P 375 :: gt P 376 :: gt P 377 :: gt P 378 :: gt P 379 :: gt P 380 :: gt P 381 :: gt P 382 :: gt P 383 :: gt P 384 :: gt P 385 :: gt P 386 :: gt P 387 :: gt P 388 :: gt P 389 :: gt P 390 :: gt P 391 :: gt P 392 :: gt P 393 :: gt P 394 :: gt P 395 :: gt P 396 :: gt P 397 :: gt P 398 :: gt P 399 :: gt P 400 :: gt P 401 :: gt P 402 :: gt P 403 :: gt P 404 :: gt P 405 :: gt P 406 :: gt P 407 :: gt P 408 :: gt P 409 :: gt P 410 :: gt P 411 :: gt P 412 :: gt P 413 :: gt P 414 :: gt P 415 :: gt P 416 :: gt P 417 :: gt P 418 :: gt P 419 :: gt P 420 :: gt P 421 :: gt P 422 :: gt P 423 :: gt P 424 :: gt P 425 :: gt P 426 :: gt P 427 :: gt P 428 :: gt P 429 :: gt P 430 :: gt P 431 :: gt P 432 :: gt P 433 :: gt P 434 :: gt P 435 :: gt P 436 :: gt P 437 :: gt P 438 :: gt P 439 :: gt P 440 :: gt P 441 :: gt P 442 :: gt P 443 :: gt P 444 :: gt P 445 :: gt P 446 :: gt P 447 :: gt P 448 :: gt P 449 :: gt P 450 :: gt P 451 :: gt P 452 :: gt P 453 :: gt P 454 :: gt P 455 :: gt P 456 :: gt P 457 :: gt P 458 :: gt P 459 :: gt P 460 :: gt P 461 :: gt P 462 :: gt P 463 :: gt P 464 :: gt P 465 :: gt P 466 :: gt P 467 :: gt P 468 :: gt P 469 :: gt P 470 :: gt P 471 :: gt P 472 :: gt P 473 :: gt P 474 :: gt P 475 :: gt P 476 :: gt P 477 :: gt P 478 :: gt P 479 :: gt P 480 :: gt P 481 :: gt P 482 :: gt P 483 :: gt P 484 :: gt P 485 :: gt P 486 :: gt P 487 :: gt P 488 :: gt P 489 :: gt P 490 :: gt P 491 :: gt P 492 :: gt P 493 :: gt P 494 :: gt P 495 :: gt P 496 :: gt P 497 :: gt P 498 :: gt P 499 :: gt P 500 :: gt P 501 :: gt P 502 :: gt P 503 :: gt P 504 :: gt P 505 :: gt P 506 :: gt P 507 :: gt P 508 :: gt P 509 :: gt P 510 :: gt P 511 :: gt P 512 :: gt P 513 :: gt P 514 :: gt P 515 :: gt P 516 :: gt P 517 :: gt P 518 :: gt P 519 :: gt P 520 :: gt P 521 :: gt P 522 :: gt P 523 :: gt P 524 :: gt P 525 :: gt P 526 :: gt P 527 :: gt P 528 :: gt P 529 :: gt P 530 :: gt P 531 :: gt P 532 :: gt P 533 :: gt P 534 :: gt P 535 :: gt P 536 :: gt P 537 :: gt P 538 :: gt P 539 :: gt P 540 :: gt P 541 :: gt P 542 :: gt P 543 :: gt P 544 :: gt P 545 :: gt P 546 :: gt P 547 :: gt P 548 :: gt P 549 :: gt P 550 :: gt P 551 :: gt P 552 :: gt P 553 :: gt P 554 :: gt P 555 :: gt P 556 :: gt P 557 :: gt P 558 :: gt P 559 :: gt P 560 :: gt P 561 :: gt P 562 :: []⟩, (boot_heap P).life⟩
theorem treeL (P : Params) : absHeap (tr10 P) 563 (boot_heap P).life = H1 P := by kernel_rfl
noncomputable def sE (w : World) (os : OsState) : Shared := ⟨H1 w.params, Array.mk [], boot_drawn, 940, os⟩
theorem sA (w : World) (os : OsState) : (st0 w os).abs = ⟨boot_heap w.params, Array.mk [], boot_drawn, boot_toks, os⟩ := congrArg (fun h => (⟨h, Array.mk [], boot_drawn, boot_toks, os⟩ : Shared)) (tree0 w)
theorem abs_eq {T : BT} {n : Nat} {life : Life} {gens : Array GenState} {d : Drawn} {k : Nat} {os : OsState} {H : Heap} (e : absHeap T n life = H) : SharedT.abs ⟨T, n, life, gens, d, k, os⟩ = ⟨H, gens, d, k, os⟩ := by cases e; rfl
theorem sB (w : World) (os : OsState) : (st10 w os).abs = sE w os := abs_eq (treeL w.params)
theorem eq3 {α β : Type} {f : α → Option α} {a b c d : α} (x : a = b) (y : c = d) (h : f a = some c) : f b = some d := x ▸ y ▸ h
theorem run2 (w : World) (os : OsState) : topRun treeTable PW w 11 (some (.ref 6)) (12 + (1 + (235 + (329 + (553 + (160 + (816 + (411 + (91 + (896 + (93 + 2))))))))))) ⟨boot_heap w.params, Array.mk [], boot_drawn, boot_toks, os⟩ (topStub PW) = some (sE w os) :=
  eq3 (β := Nat) (f := fun s => topRun treeTable PW w 11 (some (.ref 6)) (12 + (1 + (235 + (329 + (553 + (160 + (816 + (411 + (91 + (896 + (93 + 2))))))))))) s (topStub PW)) (sA w os) (sB w os) (run1 w os)
theorem look0 (w : World) (os : OsState) : (staticsOk (importedModules PW.main.body) (boot_heap w.params) (H1 w.params) && namesBound PW (H1 w.params) && gensDone (sE w os) && laidKept (boot_heap w.params) (H1 w.params)) = true := by
  rw [PySem.W.Fast.te5923862056798008813]
  kernel_rfl
noncomputable abbrev X0 : Shared → Bool := fun s => xlAt V0 lv0 s && recOk (RowW.records R0) s
theorem looks0 (w : World) (os : OsState) : openSeen V0 loose0 (importedModules PW.main.body) X0 true (sE w os) = openGood V0 loose0 := by
  rw [PySem.W.Fast.te4187177175401517315, PySem.W.Fast.te5923862056798008813]
  kernel_rfl
theorem obs0 (w : World) (os : OsState) : Hook.obs (kHook K0 asK asK_eq) (sE w os) = Hook.val (kHook K0 asK asK_eq) w := by kernel_rfl
theorem left0 : LeftO PW V0 loose0 X0 (Hook.obs (kHook K0 asK asK_eq)) (Hook.val (kHook K0 asK asK_eq)) 7276 true :=
  LeftO.of_pieces (H₁ := H1) open0 size0 run2 (by decide) (fun w => funext fun os => Prod.ext (look0 w os) (Prod.ext (looks0 w os) (obs0 w os)))
theorem said0 : OpenLaw.wellSaid PySem.Challenge.rw_rh0105_01 = true := by
  rw [PySem.W.Fast.te9446332074065402090]
  kernel_rfl
theorem hd0 (T : WalkO V0 [Str.ofString "VOID", Str.ofString "Store"] (XL V0 [(Str.ofString "VOID", WData.tuple [WData.int 5, WData.int 0])]) (kHook K0 asK asK_eq).says R0 dLaw [] (fun f vs => PySem.call f vs)) : PySem.Challenge.rw_rh0105_01.Holds := by
  refine holds_law said0 fun said => ?_
  refine holds_open (q := V0) (loose := loose0) (Xt := X0) (XP := XL V0 lv0) (Yf := Hook.obs (kHook K0 asK asK_eq)) (Ya := Hook.val (kHook K0 asK asK_eq)) (YP := Hook.says (kHook K0 asK asK_eq)) (N := 7276) left0 (Hook.of (kHook K0 asK asK_eq)) (Hook.keeps (kHook K0 asK asK_eq)) (fun s e => xl_of s (Bool.and_eq_true_iff.mp e).1) XL.keeps (d := dLaw) (kwd := []) (by kernel_rfl) (by kernel_rfl) (by rfl) (fun s e => recFacts_of (Bool.and_eq_true_iff.mp e).2) (by rfl) said (by kernel_rfl) ⟨rfl, rfl, rfl, rfl, rfl, by decide +kernel⟩ ?hw T
  w_witness2
theorem imports0 : PyProof.Rows.importsNone V0 = true := by kernel_rfl
theorem names0 : namesOk V0 (looseW V0 [Str.ofString "VOID", Str.ofString "Store"]) (namesW V0 [Str.ofString "VOID", Str.ofString "Store"]) = true := by
  kernel_rfl

local macro_rules | `(tactic| walk_at $s:str) => do let t := Lean.Syntax.mkStrLit (s.getString ++ "!"); `(tactic| k_extra $t)
local macro_rules | `(tactic| k_get) => `(tactic| k_extra "My k_get!")
local macro_rules | `(tactic| k_all) => `(tactic| k_extra "My k_all!")
local macro_rules | `(tactic| k_mem) => `(tactic| k_extra "My k_mem!")
local macro_rules | `(tactic| k_ne) => `(tactic| k_extra "My k_ne!")
local macro_rules | `(tactic| k_upd) => `(tactic| k_extra "My k_upd!")
local macro_rules | `(tactic| k_updF) => `(tactic| k_extra "My k_updF!")
local macro_rules | `(tactic| omega) => `(tactic| first | with_reducible assumption | lia)
local macro_rules | `(tactic| k_qdec) => `(tactic| first | exact imports0 | exact names0)
section

abbrev P0 : Program := PySem.Challenge.rw_rh0105_01.row.prog
abbrev TopL (mean : ExcName → Option Value) (mg mb : Str → Option Value) (h : Heap) : Prop := Top V0 (looseW V0 [Str.ofString "VOID", Str.ofString "Store"]) mean mg mb h
set_option maxHeartbeats 8000000 in
theorem fill : ∀ (w : World) (h : Heap), (K0 w.params).In h → PySem.Challenge.rw_rh0105_01.row.prog = PySem.Challenge.rw_rh0105_01.row.prog := by
  k_fill
  intros; rfl

section
variable {prog : Program} {w : World} {A : Around} {E : Value → Shared → Prop} {s : Shared} {h₀ : Heap} {L D : Addr} {m : Str → Option Value} {news news' : List (Addr × Obj)} {its : List Value} {n : Nat}

theorem m_isList {h : Heap} (N : News h₀ L h news) (hm : (D, listOf its.toArray n) ∈ news) : h.IsList D its.toArray := ⟨_, (N _ hm).1, rfl, n, rfl⟩

theorem m_len {Q : Value → Shared → Prop} (N : News h₀ L s.heap news) (hm : (D, listOf its.toArray n) ∈ news) (hb : its.length < 2 ^ 62)
    (h : Q (.int its.length (s.toks + 1)) { s with toks := s.toks + 1 + 1 }) : wpAny (model prog w) A (call (.builtin "len") [.ref D]) Q E s :=
  len_list (m_isList N hm) (by simp; omega) (by simpa using h)

theorem m_setL {v : Value} {i : Nat} (hi : i < its.length) : ki_setL its i v = some (its.set i v) := by
  induction its generalizing i with
  | nil => simp at hi
  | cons a r ih =>
    cases i with
    | zero => rfl
    | succ i =>
      have h' : i < r.length := by simpa using hi
      simp only [ki_setL, ih h', List.set_cons_succ]

theorem m_set {k : Int} {t : Tok} {v : Value} {Q : Unit → Shared → Prop} (F : Fr h₀ L s.heap m) (N : News h₀ L s.heap news) (h0 : 0 ≤ k) (hk : k < (its.length : Int)) (hb : its.length < 2 ^ 62)
    (U : Upd D (listOf its.toArray n) (listOf (its.set k.toNat v).toArray n) news news')
    (h : ∀ h', Fr h₀ L h' m → News h₀ L h' news' → Q () { s with heap := h' }) : wpAny (model prog w) A (setItem (.ref D) (.int k t) v) Q E s :=
  ki_set F N h0 (by omega) (by show ki_setL its k.toNat v = _; exact m_setL (by omega)) U h

theorem m_append {x : Value} {Q : Value → Shared → Prop} (F : Fr h₀ L s.heap m) (N : News h₀ L s.heap news) (hb : its.length < 10000)
    (U : Upd D (listOf its.toArray n) (listOf (its ++ [x]).toArray (n + 1)) news news')
    (h : ∀ h', Fr h₀ L h' m → News h₀ L h' news' → Q .none { s with heap := h' }) : wpAny (model prog w) A (call (.builtin "list.append") [.ref D, x]) Q E s :=
  append_K (its := its.toArray) (n := n) F N (by rw [List.push_toArray]; exact U) h (by rw [List.size_toArray, sizeLine_eq]; omega)

theorem m_item {value slice : Expr} {k : Int} {u : Tok} {x : Value} {Q : Value → Shared → Prop} (N : News h₀ L s.heap news) (hm : (D, listOf its.toArray n) ∈ news)
    (h0 : 0 ≤ k) (hb : its.length < 2 ^ 62) (hx : its[k.toNat]? = some x) (h : Q x s)
    (hs : subscripted slice false (.ref D) (.int k u) = operate [.ref D, .int k u] (getItem (.ref D) (.int k u)) := by with_unfolding_all rfl) (hg : ∀ r, letTemporaryGo value (.ref D) r = pure () := by intro _; with_unfolding_all rfl) :
    wpAny (model prog w) A (subscriptTail value slice (.ref D) (.int k u)) Q E s :=
  item_listL (m_isList N hm) h0 (by have := (List.getElem?_eq_some_iff.mp hx).1; omega) hx h hs hg
end

end
section

theorem sub_cons {α : Type} {a : α} {l m : List α} (i : Nat) (h : m[i]? = some a) (hs : ∀ p ∈ l, p ∈ m) : ∀ p ∈ a :: l, p ∈ m := List.forall_mem_cons.mpr ⟨List.mem_of_getElem? h, hs⟩
theorem sub_nil {α : Type} {m : List α} : ∀ p ∈ ([] : List α), p ∈ m := fun _ h => nomatch h
theorem sub_drop {α : Type} {l m : List α} (i : Nat) (h : m.drop i = l) : ∀ p ∈ l, p ∈ m := fun _ hp => List.mem_of_mem_drop (h ▸ hp)

theorem getL_nil (x : Str) : getL x [] = some none := rfl
theorem getL_putL_same (x : Str) (h : Int) (t : Tok) (v : Value) : ∀ es : List DictEntry, getL x (putL x h (.str x t) v es) = some (some v)
  | [] => by simp [putL, getL, Value.isStr]
  | e :: r => by
    have ih := getL_putL_same x h t v r
    unfold putL
    by_cases q : e.key.isStr x = true
    · rw [if_pos q]; simp [getL, List.find?_cons, q]
    · rw [if_neg q]
      have q' : e.key.isStr x = false := by simpa using q
      unfold getL at ih ⊢
      rw [List.find?_cons, q']
      dsimp only
      cases hf : List.find? (fun x_1 => x_1.key.isStr x) (putL x h (.str x t) v r) with
      | some z => rw [hf] at ih; simpa using ih
      | none => rw [hf] at ih; exfalso; revert ih; dsimp only; split <;> intro z <;> cases z
theorem refKey_putL (x : Str) (h : Int) (t : Tok) (v : Value) : ∀ es : List DictEntry, (putL x h (.str x t) v es).any (·.refKey) = es.any (·.refKey)
  | [] => by simp [putL, DictEntry.refKey]
  | e :: r => by
    have ih := refKey_putL x h t v r
    unfold putL
    by_cases q : e.key.isStr x = true
    · rw [if_pos q]; simp [DictEntry.refKey]
    · rw [if_neg q]; simp [ih]
theorem find_putL {x y : Str} (hxy : y ≠ x) (h : Int) (t : Tok) (v : Value) : ∀ es : List DictEntry,
    ((putL x h (.str x t) v es).find? (·.key.isStr y)).map (·.val) = (es.find? (·.key.isStr y)).map (·.val)
  | [] => by
    have : (x == y) = false := by simpa using fun e : x = y => hxy e.symm
    simp [putL, Value.isStr, this]
  | e :: r => by
    have ih := find_putL hxy h t v r
    unfold putL
    by_cases q : e.key.isStr x = true
    · rw [if_pos q]
      have hy : e.key.isStr y = false := by
        cases hh : e.key.isStr y
        · rfl
        · exact absurd (Value.isStr_inj _ _ _ hh q) hxy
      simp [List.find?_cons, hy]
    · rw [if_neg q]
      cases hy : e.key.isStr y with
      | true => simp [List.find?_cons, hy]
      | false => simp only [List.find?_cons, hy]; exact ih
theorem getL_of_find (x : Str) (es : List DictEntry) : getL x es = match (es.find? (·.key.isStr x)).map (·.val) with | some v => some (some v) | none => if es.any (·.refKey) then none else some none := by
  unfold getL
  cases es.find? (·.key.isStr x) <;> rfl
theorem getL_putL_other {x y : Str} (hxy : y ≠ x) (h : Int) (t : Tok) (v : Value) (es : List DictEntry) : getL y (putL x h (.str x t) v es) = getL y es := by
  rw [getL_of_find, getL_of_find, find_putL hxy, refKey_putL]
theorem len_putL {x : Str} (h : Int) (k v : Value) : ∀ {es : List DictEntry} {o : Value}, getL x es = some (some o) → (putL x h k v es).length = es.length
  | [], _, e => by simp [getL] at e
  | e :: r, o, q => by
    unfold putL
    by_cases z : e.key.isStr x = true
    · rw [if_pos z]; rfl
    · rw [if_neg z]
      have z' : e.key.isStr x = false := by simpa using z
      have : getL x r = some (some o) := by
        rw [getL_of_find] at q ⊢
        rw [List.find?_cons, z'] at q
        dsimp only at q
        cases hf : (List.find? (fun x_1 => x_1.key.isStr x) r).map (·.val) with
        | some w => rw [hf] at q; exact q
        | none => rw [hf] at q; exfalso; revert q; dsimp only; split <;> intro z <;> cases z
      simp [len_putL h k v this]

structure AIs (ea : List DictEntry) (S CD : Nat) (cp e b b0 : Int) (t1 t2 t3 t4 : Tok) : Prop where
  code : getL (Str.ofString "code") ea = some (some (.ref CD))
  store : getL (Str.ofString "store") ea = some (some (.ref S))
  cp : getL (Str.ofString "cp") ea = some (some (.int cp t1))
  e : getL (Str.ofString "e") ea = some (some (.int e t2))
  b : getL (Str.ofString "b") ea = some (some (.int b t3))
  b0 : getL (Str.ofString "b0") ea = some (some (.int b0 t4))
  top : getL (Str.ofString "top") ea = some none
  set_choice : getL (Str.ofString "set_choice") ea = some none
  push_environment : getL (Str.ofString "push_environment") ea = some none
  push_choice : getL (Str.ofString "push_choice") ea = some none
  choice_part : getL (Str.ofString "choice_part") ea = some none
  cut_back : getL (Str.ofString "cut_back") ea = some none
  choices : getL (Str.ofString "choices") ea = some none
  len : ea.length ≤ 40
structure SIs (es : List DictEntry) (HL KL TR : Nat) (hb bb : Int) (t1 t2 t3 : Tok) : Prop where
  heap : getL (Str.ofString "heap") es = some (some (.ref HL))
  stack : getL (Str.ofString "stack") es = some (some (.ref KL))
  trail : getL (Str.ofString "trail") es = some (some (.ref TR))
  hb : getL (Str.ofString "hb") es = some (some (.int hb t1))
  bb : getL (Str.ofString "bb") es = some (some (.int bb t2))
  max_heap : getL (Str.ofString "max_heap") es = some (some (.int 100000 t3))
  stack_put : getL (Str.ofString "stack_put") es = some none
  mark : getL (Str.ofString "mark") es = some none
  push : getL (Str.ofString "push") es = some none
  new_var : getL (Str.ofString "new_var") es = some none
  bind : getL (Str.ofString "bind") es = some none
  len : es.length ≤ 40

section
variable {ea es : List DictEntry} {S CD HL KL TR : Nat} {cp e b b0 hb bb x : Int} {t1 t2 t3 t4 t u : Tok} {h : Int}
theorem AIs.set_cp (q : AIs ea S CD cp e b b0 t1 t2 t3 t4) : AIs (putL (Str.ofString "cp") h (.str (Str.ofString "cp") u) (.int x t) ea) S CD x e b b0 t t2 t3 t4 := by
  obtain ⟨a1, a2, a3, a4, a5, a6, a7, a8, a9, a10, a11, a12, a13, a14⟩ := q
  refine ⟨?_, ?_, getL_putL_same .., ?_, ?_, ?_, ?_, ?_, ?_, ?_, ?_, ?_, ?_, by rw [len_putL _ _ _ a3]; exact a14⟩ <;> (rw [getL_putL_other (by decide)]; assumption)
theorem AIs.set_e (q : AIs ea S CD cp e b b0 t1 t2 t3 t4) : AIs (putL (Str.ofString "e") h (.str (Str.ofString "e") u) (.int x t) ea) S CD cp x b b0 t1 t t3 t4 := by
  obtain ⟨a1, a2, a3, a4, a5, a6, a7, a8, a9, a10, a11, a12, a13, a14⟩ := q
  refine ⟨?_, ?_, ?_, getL_putL_same .., ?_, ?_, ?_, ?_, ?_, ?_, ?_, ?_, ?_, by rw [len_putL _ _ _ a4]; exact a14⟩ <;> (rw [getL_putL_other (by decide)]; assumption)
theorem AIs.set_b (q : AIs ea S CD cp e b b0 t1 t2 t3 t4) : AIs (putL (Str.ofString "b") h (.str (Str.ofString "b") u) (.int x t) ea) S CD cp e x b0 t1 t2 t t4 := by
  obtain ⟨a1, a2, a3, a4, a5, a6, a7, a8, a9, a10, a11, a12, a13, a14⟩ := q
  refine ⟨?_, ?_, ?_, ?_, getL_putL_same .., ?_, ?_, ?_, ?_, ?_, ?_, ?_, ?_, by rw [len_putL _ _ _ a5]; exact a14⟩ <;> (rw [getL_putL_other (by decide)]; assumption)
theorem AIs.set_b0 (q : AIs ea S CD cp e b b0 t1 t2 t3 t4) : AIs (putL (Str.ofString "b0") h (.str (Str.ofString "b0") u) (.int x t) ea) S CD cp e b x t1 t2 t3 t := by
  obtain ⟨a1, a2, a3, a4, a5, a6, a7, a8, a9, a10, a11, a12, a13, a14⟩ := q
  refine ⟨?_, ?_, ?_, ?_, ?_, getL_putL_same .., ?_, ?_, ?_, ?_, ?_, ?_, ?_, by rw [len_putL _ _ _ a6]; exact a14⟩ <;> (rw [getL_putL_other (by decide)]; assumption)
theorem SIs.set_hb (q : SIs es HL KL TR hb bb t1 t2 t3) : SIs (putL (Str.ofString "hb") h (.str (Str.ofString "hb") u) (.int x t) es) HL KL TR x bb t t2 t3 := by
  obtain ⟨a1, a2, a3, a4, a5, a6, a7, a8, a9, a10, a11, a12⟩ := q
  refine ⟨?_, ?_, ?_, getL_putL_same .., ?_, ?_, ?_, ?_, ?_, ?_, ?_, by rw [len_putL _ _ _ a4]; exact a12⟩ <;> (rw [getL_putL_other (by decide)]; assumption)
theorem SIs.set_bb (q : SIs es HL KL TR hb bb t1 t2 t3) : SIs (putL (Str.ofString "bb") h (.str (Str.ofString "bb") u) (.int x t) es) HL KL TR hb x t1 t t3 := by
  obtain ⟨a1, a2, a3, a4, a5, a6, a7, a8, a9, a10, a11, a12⟩ := q
  refine ⟨?_, ?_, ?_, ?_, getL_putL_same .., ?_, ?_, ?_, ?_, ?_, ?_, by rw [len_putL _ _ _ a5]; exact a12⟩ <;> (rw [getL_putL_other (by decide)]; assumption)
end

structure Off (AD SD HL KL TR : Nat) (tl : List (Addr × Obj)) : Prop where
  a : ∀ p ∈ tl, p.1 ≠ AD
  s : ∀ p ∈ tl, p.1 ≠ SD
  h : ∀ p ∈ tl, p.1 ≠ HL
  k : ∀ p ∈ tl, p.1 ≠ KL
  t : ∀ p ∈ tl, p.1 ≠ TR

end
section
theorem noneZ1 : True := by
  k_with_none
  trivial
def Ris (p : Array Nat) : Prop := ∀ a b, a < b → b < p.size → p.getD a 0 < p.getD b 0
theorem below_go (xs : Array Nat) (j : Nat) (hr : Ris xs) : ∀ fuel lo hi, lo ≤ hi → hi ≤ xs.size → hi - lo ≤ fuel → (∀ i, i < lo → xs.getD i 0 < j) → (∀ i, hi ≤ i → i < xs.size → j ≤ xs.getD i 0) →
    SetTable.below.go xs j fuel lo hi ≤ xs.size ∧ (∀ i, i < SetTable.below.go xs j fuel lo hi → xs.getD i 0 < j) ∧ (∀ i, SetTable.below.go xs j fuel lo hi ≤ i → i < xs.size → j ≤ xs.getD i 0)
  | 0, lo, hi, h1, h2, h3, h4, h5 => by
    unfold SetTable.below.go
    obtain rfl : lo = hi := by omega
    exact ⟨h2, h4, h5⟩
  | fuel + 1, lo, hi, h1, h2, h3, h4, h5 => by
    unfold SetTable.below.go
    by_cases h : lo < hi
    · rw [if_pos h]
      dsimp only
      have eD : xs.getD ((lo + hi) / 2) j = xs.getD ((lo + hi) / 2) 0 := by
        have hlt : (lo + hi) / 2 < xs.size := by omega
        rw [Array.getD_eq_getD_getElem?, Array.getD_eq_getD_getElem?, Array.getElem?_eq_getElem hlt]; rfl
      rw [eD]
      by_cases hm : xs.getD ((lo + hi) / 2) 0 < j
      · rw [if_pos hm]
        refine below_go xs j hr fuel _ _ (by omega) h2 (by omega) (fun i hi' => ?_) h5
        rcases Nat.lt_or_ge i ((lo + hi) / 2) with h6 | h6
        · exact Nat.lt_trans (hr _ _ h6 (by omega)) hm
        · obtain rfl : i = (lo + hi) / 2 := by omega
          exact hm
      · rw [if_neg hm]
        refine below_go xs j hr fuel _ _ (by omega) (by omega) (by omega) h4 (fun i hi' hs => ?_)
        rcases Nat.lt_or_ge ((lo + hi) / 2) i with h6 | h6
        · have := hr _ _ h6 hs; omega
        · obtain rfl : i = (lo + hi) / 2 := by omega
          omega
    · rw [if_neg h]
      obtain rfl : lo = hi := by omega
      exact ⟨h2, h4, h5⟩
theorem below_spec (xs : Array Nat) (j : Nat) (hr : Ris xs) : SetTable.below xs j ≤ xs.size ∧ (∀ i, i < SetTable.below xs j → xs.getD i 0 < j) ∧ (∀ i, SetTable.below xs j ≤ i → i < xs.size → j ≤ xs.getD i 0) :=
  below_go xs j hr _ _ _ (Nat.zero_le _) (Nat.le_refl _) (Nat.le_refl _) (fun _ h => nomatch h) (fun i h1 h2 => absurd h2 (by omega))
theorem below_next (xs : Array Nat) (hr : Ris xs) {i : Nat} (hi : i < xs.size) : SetTable.below xs (xs.getD i 0 + 1) = i + 1 := by
  obtain ⟨h1, h2, h3⟩ := below_spec xs (xs.getD i 0 + 1) hr
  rcases Nat.lt_trichotomy (SetTable.below xs (xs.getD i 0 + 1)) (i + 1) with h | h | h
  · have := h3 i (by omega) hi; omega
  · exact h
  · have := h2 (i + 1) h
    have := hr i (i + 1) (by omega) (by omega)
    omega
theorem below_zero (xs : Array Nat) (hr : Ris xs) : SetTable.below xs 0 = 0 := by
  obtain ⟨h1, h2, h3⟩ := below_spec xs 0 hr
  rcases Nat.eq_zero_or_pos (SetTable.below xs 0) with h | h
  · exact h
  · exact absurd (h2 0 h) (Nat.not_lt_zero _)
theorem ins_size {α : Type} (xs : Array α) (p : Nat) (x : α) : (SetTable.insertAt xs p x).size = xs.size + 1 := by
  have := (SetTable.insertAt_perm xs p x).length_eq
  simpa using this
theorem ins_get (xs : Array Nat) (p x i : Nat) (hp : p ≤ xs.size) : (SetTable.insertAt xs p x).getD i 0 = if i < p then xs.getD i 0 else if i = p then x else xs.getD (i - 1) 0 := by
  have e : ∀ (a : Array Nat) (i : Nat), a.getD i 0 = (a.toList[i]?).getD 0 := fun a i => by rw [Array.getD_eq_getD_getElem?, Array.getElem?_toList]
  rw [e, SetTable.toList_insertAt, e, e]
  have hl : (xs.toList.take p).length = p := by rw [List.length_take, Array.length_toList]; omega
  by_cases h1 : i < p
  · rw [if_pos h1, List.getElem?_append_left (by omega), List.getElem?_take, if_pos h1]
  · rw [if_neg h1, List.getElem?_append_right (by omega), hl]
    by_cases h2 : i = p
    · rw [if_pos h2, h2, Nat.sub_self]; rfl
    · rw [if_neg h2]
      obtain ⟨k, rfl⟩ : ∃ k, i = p + k + 1 := ⟨i - p - 1, by omega⟩
      rw [show p + k + 1 - p = k + 1 by omega, List.getElem?_cons_succ, List.getElem?_drop, show p + k + 1 - 1 = p + k by omega]
theorem ris_ins (xs : Array Nat) (j : Nat) (hr : Ris xs) (hn : xs[SetTable.below xs j]? ≠ some j) : Ris (SetTable.insertAt xs (SetTable.below xs j) j) := by
  obtain ⟨h1, h2, h3⟩ := below_spec xs j hr
  have h4 : ∀ i, SetTable.below xs j ≤ i → i < xs.size → j < xs.getD i 0 := by
    intro i hi hs
    have h5 : xs.getD (SetTable.below xs j) 0 ≠ j := fun e => hn (by
      have hlt : SetTable.below xs j < xs.size := by omega
      rw [Array.getElem?_eq_getElem hlt]
      rw [Array.getD_eq_getD_getElem?, Array.getElem?_eq_getElem hlt] at e
      exact congrArg some e)
    have h6 := h3 _ (Nat.le_refl _) (by omega)
    rcases Nat.lt_or_ge (SetTable.below xs j) i with h | h
    · have := hr _ _ h hs; omega
    · obtain rfl : i = SetTable.below xs j := by omega
      omega
  intro a b hab hb
  rw [ins_size] at hb
  rw [ins_get _ _ _ _ h1, ins_get _ _ _ _ h1]
  by_cases ha : a < SetTable.below xs j
  · rw [if_pos ha]
    by_cases hb1 : b < SetTable.below xs j
    · rw [if_pos hb1]; exact hr _ _ hab (by omega)
    · rw [if_neg hb1]
      by_cases hb2 : b = SetTable.below xs j
      · rw [if_pos hb2]; exact h2 _ ha
      · rw [if_neg hb2]; exact hr _ _ (by omega) (by omega)
  · rw [if_neg ha, if_neg (show ¬ b < SetTable.below xs j by omega), if_neg (show ¬ b = SetTable.below xs j by omega)]
    by_cases ha2 : a = SetTable.below xs j
    · rw [if_pos ha2]; exact h4 _ (by omega) (by omega)
    · rw [if_neg ha2]; exact hr _ _ (by omega) (by omega)
def Dead (t : SetTable) (j : Nat) : Prop := ∀ i, t.slot j ≠ .live i
theorem Dead.off {t : SetTable} {j : Nat} (h : Dead t j) : t.place[SetTable.below t.place j]? ≠ some j := fun e => h _ (by unfold SetTable.slot; dsimp only; rw [e]; simp; rfl)
theorem advance_dummy (t : SetTable) (p : SetTable.Probe) : (t.advance p).dummy = p.dummy := by
  unfold SetTable.advance
  split <;> rfl
theorem probe_dead (t : SetTable) (hashAt : Nat → Int) (h : Int) : ∀ (fuel : Nat) (p : SetTable.Probe) (j : Nat) (dm : Option Nat), (∀ d, p.dummy = some d → Dead t d) →
    SetTable.probe.go t hashAt h fuel p = some (.empty j dm) → Dead t j ∧ ∀ d, dm = some d → Dead t d
  | 0, p, j, dm, _, e => by unfold SetTable.probe.go at e; cases e
  | fuel + 1, p, j, dm, hp, e => by
    unfold SetTable.probe.go at e
    split at e
    · rename_i hs
      simp only [Option.some.injEq, SetTable.Met.empty.injEq] at e
      obtain ⟨rfl, rfl⟩ := e
      exact ⟨fun i hi => (by rw [hs] at hi; cases hi), hp⟩
    · rename_i hs
      refine probe_dead t hashAt h fuel _ j dm (fun d hd => ?_) e
      rw [advance_dummy] at hd
      injection hd with hd
      subst hd
      exact fun i hi => by rw [hs] at hi; cases hi
    · split at e
      · cases e
      · exact probe_dead t hashAt h fuel _ j dm (fun d hd => hp d (by rw [advance_dummy] at hd; exact hd)) e
theorem free_dead {t : SetTable} {h : Int} {slot : Nat} {was : Bool} (e : t.freeSlot h = some (slot, was)) : Dead t slot := by
  unfold SetTable.freeSlot at e
  split at e
  · rename_i j dm hq
    simp only [Option.some.injEq, Prod.mk.injEq] at e
    obtain ⟨e1, _⟩ := e
    obtain ⟨h1, h2⟩ := probe_dead t _ h _ _ j dm (fun d hd => by cases hd) hq
    cases dm with
    | none => subst e1; exact h1
    | some d => subst e1; exact h2 d rfl
  · cases e
def TabOK (b : Bool) (t : SetTable) : Prop := t.led = b ∧ (t.plain = true → Ris t.place)
theorem standIn_ok {b : Bool} {t : SetTable} (h : TabOK b t) (n : Nat) : TabOK b (t.standIn n) := ⟨h.1, fun e => nomatch e⟩
theorem layNew_ok {b : Bool} {t : SetTable} (h : TabOK b t) (es : Array (Int × Value)) (k : Int) (x : Value) : TabOK b (layNew t es k x).2.1 := by
  unfold layNew
  split
  · rename_i slot was hf
    dsimp only
    have h1 : TabOK b (t.put slot).1 := ⟨h.1, fun e => ris_ins _ _ (h.2 e) (free_dead hf).off⟩
    unfold SetTable.orStandIn
    split
    · exact h1
    · exact standIn_ok h1 _
  · exact standIn_ok h _
theorem live_sub {β : Type} (g : Nat → Option β) : ∀ l : List Nat, ((l.filterMap fun j => (g j).map (j, ·)).map (·.1)).Sublist l
  | [] => .slnil
  | a :: r => by
    rw [List.filterMap_cons]
    cases e : g a with
    | none => exact (live_sub g r).cons a
    | some y => exact (live_sub g r).cons_cons a
theorem ris_of_pairwise {l : List Nat} (h : l.Pairwise (· < ·)) : Ris l.toArray := by
  intro a b hab hb
  rw [List.size_toArray] at hb
  have e : ∀ i, i < l.length → l.toArray.getD i 0 = l[i]?.getD 0 := fun i _ => by rw [Array.getD_eq_getD_getElem?]; simp
  rw [e _ (by omega), e _ hb, List.getElem?_eq_getElem (by omega), List.getElem?_eq_getElem hb]
  exact List.pairwise_iff_getElem.mp h a b (by omega) hb hab
theorem relayAll_ok {b : Bool} {t : SetTable} (h : TabOK b t) (es : Array (Int × Value)) (wanted : Nat) : TabOK b (relayAll t es wanted).2.1 := by
  unfold relayAll
  split
  · rename_i t' order hq
    have h1 : TabOK b t' := by
      unfold SetTable.relaid SetTable.laid at hq
      simp only [Option.bind_eq_bind, Option.bind_eq_some_iff, Option.pure_def, Option.some.injEq, Prod.mk.injEq] at hq
      obtain ⟨owner, _, rfl, _⟩ := hq
      exact ⟨h.1, fun _ => ris_of_pairwise (List.Pairwise.sublist (live_sub _ _) List.pairwise_lt_range)⟩
    dsimp only
    split
    · exact h1
    · exact standIn_ok h _
  · exact standIn_ok h _


end
section
theorem noneZ2 : True := by
  k_with_none
  trivial
def SetIs (w : World) (h : Heap) (a : Addr) (es : List (Int × Value)) : Prop :=
  ∃ o arr ep t, h.get? a = some o ∧ o.ExactSet ∧ o.data = .set arr ep t ∧ arr.toList.Perm es ∧ t.fits arr.size = true ∧ TabOK (!w.params.followText "set-order") t
section
variable {prog : Program} {w : World} {K : Type} [DecidableEq K] {knd : KeyKind prog w K} {A : Around} {E : Value → Shared → Prop} {s : Shared} {a : Addr} {es : List (Int × Value)}
theorem SetIs.at {h h' : Heap} (S : SetIs w h a es) (e : ∀ o, h.get? a = some o → h'.get? a = some o) : SetIs w h' a es := by
  obtain ⟨o, arr, ep, t, ho, r⟩ := S
  exact ⟨o, arr, ep, t, e _ ho, r⟩
theorem SetIs.typeIs {g : Array GenState} {d : Drawn} {tk : Nat} {os : OsState} {h : Heap} (S : SetIs w h a es) : Shared.TypeIs ⟨h, g, d, tk, os⟩ (.ref a) "set" := by
  obtain ⟨o, arr, ep, t, ho, hex, _⟩ := S
  exact ⟨o, ho, hex.1⟩
theorem SetIs.lt {h : Heap} (S : SetIs w h a es) : a < h.objs.size := by
  obtain ⟨o, arr, ep, t, ho, _⟩ := S
  exact Heap.lt_size ho
theorem set_stored {h : Heap} {o : Obj} {arr : Array (Int × Value)} {ep : Nat} {t : SetTable} (ho : h.get? a = some o) (hex : o.ExactSet) (hd : o.data = .set arr ep t)
    {arr' : Array (Int × Value)} {t' : SetTable} (hp : arr'.toList.Perm es) (hf : t'.fits arr'.size = true) (hT : TabOK (!w.params.followText "set-order") t') :
    (h.update a (Obj.putSet arr' t')).get? a = some { o with data := .set arr' (ep + 1) t' } ∧ SetIs w (h.update a (Obj.putSet arr' t')) a es := by
  have hg : (h.update a (Obj.putSet arr' t')).get? a = some { o with data := .set arr' (ep + 1) t' } := by
    have q := Heap.get?_update_self (Obj.putSet arr' t') ho (by rw [putSet_of arr' t' hd]; rfl)
    rwa [putSet_of arr' t' hd] at q
  exact ⟨hg, _, arr', ep + 1, t', hg, hex, rfl, hp, hf, hT⟩
theorem gave_any {g : Bool → Sem Unit} (hg : ∀ (b : Bool) (s₁ : Shared) (Q' : Unit → Shared → Prop), Q' () s₁ → wpAny (model prog w) A (g b) Q' E s₁)
    {o : Obj} {arr : Array (Int × Value)} {ep : Nat} {t : SetTable} (ho : s.heap.get? a = some o) (hex : o.ExactSet) (hd : o.data = .set arr ep t)
    {arr1 : Array (Int × Value)} {t2 : SetTable} (hp : arr1.toList.Perm es) (hb : es.length < scanBound) (hf : t2.fits arr1.size = true) (hT : TabOK (!w.params.followText "set-order") t2) {was : Bool} {R : Option Bool → Shared → Prop}
    (h : ∀ h', Heap.SameBut a s.heap h' → SetIs w h' a es → R (some true) { s with heap := h' }) :
    wpAny (model prog w) A (do
        storeSet a arr1 t2
        if (!was && t2.tooFull) = true then do
            g (relayAll t2 arr1 (SetTable.grown arr1.size)).2.2
            storeSet a (relayAll t2 arr1 (SetTable.grown arr1.size)).1 (relayAll t2 arr1 (SetTable.grown arr1.size)).2.1
            pure (some true)
          else pure (some true)) R E s := by
  have hsz : arr1.size = es.length := by rw [← hp.length_eq, Array.length_toList]
  obtain ⟨ho1, hS1⟩ := set_stored (w := w) (es := es) ho hex hd hp hf hT
  have b1 := Heap.SameBut.update s.heap a (Obj.putSet arr1 t2)
  refine wpAny_bind (wpAny_storeSet_of ho hd ?_ (fits_of_scanBound (by omega)))
  split
  · have hp2 := relayAll_perm t2 arr1 (SetTable.grown arr1.size)
    have hf2 := relayAll_fits t2 arr1 (SetTable.grown arr1.size)
    have hT2 := relayAll_ok hT arr1 (SetTable.grown arr1.size)
    revert hp2 hf2 hT2
    generalize relayAll t2 arr1 (SetTable.grown arr1.size) = Z
    obtain ⟨arr2, t3, gv⟩ := Z
    intro hp2 hf2 hT2
    dsimp only at hp2 hf2 hT2 ⊢
    have hsz2 : arr2.size = es.length := by rw [← (hp2.trans hp).length_eq, Array.length_toList]
    refine wpAny_bind (hg _ _ _ ?_)
    refine wpAny_bind (wpAny_storeSet_of ho1 rfl ?_ (fits_of_scanBound (by omega)))
    obtain ⟨_, hS2⟩ := set_stored (w := w) (es := es) ho1 hex rfl (hp2.trans hp) hf2 hT2
    exact wpAny_pure (h _ (b1.trans (Heap.SameBut.update _ a _)) hS2)
  · exact wpAny_pure (h _ b1 hS1)
theorem set_add {k : K} {x : Value} {Q : Bool → Shared → Prop} (hkey : knd.is k x = true) (hsc : x.scannable = true) (hS : SetIs w s.heap a es) (hel : ElemsOf knd es) (hnew : ∀ e ∈ es, knd.is k e.2 = false) (hb : es.length + 1 < scanBound)
    (h : ∀ h', Heap.SameBut a s.heap h' → SetIs w h' a (es ++ [(knd.hash k, x)]) → Q true { s with heap := h' }) : wpAny (model prog w) A (setAddHashed a x (knd.hash k)) Q E s := by
  obtain ⟨o, arr, ep, t, ho, hex, hd, hp, hf, hT⟩ := hS
  have hsz : arr.size = es.length := by rw [← hp.length_eq, Array.length_toList]
  have hel' : ElemsOf knd arr.toList := hel.perm hp
  unfold setAddHashed setAddHashedIn
  refine wpAny_holding (wpAny_bind (wpAny_setState_of ho hd hf ?_))
  dsimp only
  rw [byScan_of hsc (by omega) hel']
  simp only [↓reduceIte]
  unfold setAddByScan
  refine wpAny_bind (wpAny_bind (wpAny_rule (wpAny_bind (wpAny_setScan_of hkey ho hd hf hel' ?_))))
  have hnone : List.findIdx? (fun e => knd.is k e.2) arr.toList = none := List.findIdx?_eq_none_iff.mpr fun e he => by
    rw [hnew e (hp.mem_iff.mp he)]
  rw [hnone]
  dsimp only
  have hgw : ∀ (b : Bool) {s₁ : Shared} {Q' : Unit → Shared → Prop}, Q' () s₁ → wpAny (model prog w) A (match b with | true => rule "set.scan.the-table-gave-way" | false => pure ()) Q' E s₁ :=
    fun b s₁ Q' hq => by cases b <;> first | exact wpAny_pure hq | exact wpAny_rule hq
  have hp1 := layNew_perm t arr (knd.hash k) x
  have hf1 := layNew_fits t arr (knd.hash k) x
  have hT1 := layNew_ok hT arr (knd.hash k) x
  revert hp1 hf1 hT1
  generalize layNew t arr (knd.hash k) x = Z
  obtain ⟨arr1, t1, was, gv⟩ := Z
  intro hp1 hf1 hT1
  dsimp only at hp1 hf1 hT1 ⊢
  rw [Array.toList_push] at hp1
  have hp2 : arr1.toList.Perm (es ++ [(knd.hash k, x)]) := hp1.trans (hp.append_right _)
  have hb2 : (es ++ [(knd.hash k, x)]).length < scanBound := by rw [List.length_append, List.length_singleton]; exact hb
  refine wpAny_bind (hgw _ ?_)
  have hend : ∀ h', Heap.SameBut a s.heap h' → SetIs w h' a (es ++ [(knd.hash k, x)]) → Q true { s with heap := h' } := h
  split
  · refine wpAny_bind ?_
    rw [hashByValue_scannable 8 hsc]
    refine wpAny_pure ?_
    refine gave_any ?_ ho hex hd hp2 hb2 ?_ ?_ ?_
    · intro b s₁ Q' hq; cases b <;> first | exact wpAny_pure hq | exact wpAny_rule hq
    · split
      · exact hf1
      · exact SetTable.fits_plain_off hf1
    · split
      · exact hT1
      · exact ⟨hT1.1, fun e => nomatch e⟩
    · intro h' hsb hS'; dsimp only; exact wpAny_pure (hend h' hsb hS')
  · refine wpAny_bind (wpAny_pure ?_)
    simp only [↓reduceIte]
    refine gave_any ?_ ho hex hd hp2 hb2 hf1 hT1 ?_
    · intro b s₁ Q' hq; cases b <;> first | exact wpAny_pure hq | exact wpAny_rule hq
    · intro h' hsb hS'; dsimp only; exact wpAny_pure (hend h' hsb hS')
end


end
section
theorem noneZ3 : True := by
  k_with_none
  trivial
section
variable {prog : Program} {w : World} {A : Around} {R : Result → Shared → Prop} {I : Addr} {fp wr : List Addr} {G : Array GenState → Array GenState → Prop} {n : Nat} {P : Nat → Value → Prop} {St : Nat → Shared → Prop}
theorem ints_mem : ∀ {vs : List Value} {ns : List Int}, IntsAre vs ns → ∀ v ∈ vs, ∃ k ∈ ns, ∃ t, v = .int k t
  | _, _, .nil, v, h => nomatch h
  | _, _, .cons k t hr, v, h => by
    rcases List.mem_cons.mp h with rfl | h
    · exact ⟨k, .head _, t, rfl⟩
    · obtain ⟨k', hk', r⟩ := ints_mem hr v h
      exact ⟨k', .tail _ hk', r⟩
theorem set_loop (W : WalksS prog w A.in1 I fp wr G n P St) (S : Addr) (hSf : S ∉ fp) (val : Nat → Int) (hval : ∀ i v, P i v → ∃ t, v = .int (val i) t) (hne : ∀ i j, i < j → j < n → val i ≠ val j) (hb : n + 1 < scanBound) :
    ∀ (k i : Nat) (s : Shared) (es : List (Int × Value)), n - i = k → i ≤ n → St i s → SetIs w s.heap S es → ElemsOf (intKind prog w) es → IntsAre (es.map (·.2)) ((List.range i).map val) →
      (∀ s' es', Moved (S :: wr) G s s' → SetIs w s'.heap S es' → IntsAre (es'.map (·.2)) ((List.range n).map val) → R (.ok (.ret .none)) s') →
      codeAny (model prog w) A (.builtin "set.update.loop" ⟨[.ref S, .ref I], []⟩) R s
  | 0, i, s, es, hk, hi, hst, hS, hel, hI, hR => by
    have hin : i = n := by omega
    subst hin
    refine codeAny_builtin PyProof.Rows.F.entry_set_update_loop ?_
    rw [Around.under_plainId PyProof.Rows.F.plain_set_update_loop _]
    show wpAny _ A.in1 (pyNext (.ref I) >>= _) _ _ s
    refine wpAny_bind (W.done s _ _ hst fun s' hm => ?_)
    show wpAny _ A.in1 (ret Value.none) _ _ s'
    exact wpAny_pure (hR s' es (hm.mono fun b hb => List.mem_cons_of_mem _ hb) (hS.at fun o e => hm.heap S _ (fun h => hSf (W.sub _ h)) e) hI)
  | k + 1, i, s, es, hk, hi, hst, hS, hel, hI, hR => by
    have hlt : i < n := by omega
    refine codeAny_builtin PyProof.Rows.F.entry_set_update_loop ?_
    rw [Around.under_plainId PyProof.Rows.F.plain_set_update_loop _]
    show wpAny _ A.in1 (pyNext (.ref I) >>= _) _ _ s
    refine wpAny_bind (W.item i s _ _ hlt hst fun v s' hP hst' hm => ?_)
    obtain ⟨t, rfl⟩ := hval i v hP
    have hS' : SetIs w s'.heap S es := hS.at fun o e => hm.heap S _ (fun h => hSf (W.sub _ h)) e
    show wpAny _ A.in1 (holding [Value.int (val i) t] (setAdd S (.int (val i) t)) >>= _) _ _ s'
    refine wpAny_bind (wpAny_holding ?_)
    unfold setAdd
    refine wpAny_holding (wpAny_bind ((intKind prog w).pyHash (k := val i) (intKind_is _ _ _ _) ?_))
    have hlen : es.length = i := by have := hI.length; simpa using this
    refine set_add (knd := intKind prog w) (s := { s' with toks := s'.toks + 1 }) (intKind_is _ _ _ _) rfl hS' hel ?_ (by omega) fun h' hsb hS2 => ?_
    · intro e he
      obtain ⟨k', hk', t', e2⟩ := ints_mem hI e.2 (List.mem_map.mpr ⟨e, he, rfl⟩)
      obtain ⟨j, hj, rfl⟩ := List.mem_map.mp hk'
      rw [e2, KeyKind.is_eq_decide (knd := intKind prog w) (intKind_is prog w (val j) t') (val i)]
      exact decide_eq_false fun q => hne j i (List.mem_range.mp hj) hlt q.symm
    · have hI2 : IntsAre ((es ++ [((intKind prog w).hash (val i), Value.int (val i) t)]).map (·.2)) ((List.range (i + 1)).map val) := by
        rw [List.map_append, List.range_succ, List.map_append]
        exact hI.append (.cons _ _ .nil)
      refine wpAny_pure ⟨plainId_quiet PyProof.Rows.F.plain_set_update_loop _, set_loop W S hSf val hval hne hb k (i + 1) _ _ (by omega) hlt (W.frame _ s' _ _ hst' (Nat.le_succ _) fun b hb o e => ?_) hS2 (hel.push (intKind_is _ _ _ _) rfl) hI2 fun s'' es' hm'' hS'' hI'' => ?_⟩
      · rw [hsb.2 b (fun h : b = S => hSf (by rw [← h]; exact hb))]; exact e
      · refine hR s'' es' (Moved.trans W.gtrans ((hm.mono fun b hb => List.mem_cons_of_mem _ hb).then_heap (Nat.le_succ _) fun b o hb e => ?_) hm'') hS'' hI''
        rw [hsb.2 b (fun h : b = S => hb (by rw [h]; exact List.mem_cons_self))]; exact e
end
theorem set_fresh {w : World} {h : Heap} {b : Bool} (e : b = !w.params.followText "set-order") : SetIs w (h.push { cls := .type "set", dict := none, data := .set #[] 0 (.fresh 0 0 b) }) h.objs.size [] :=
  ⟨_, #[], 0, _, Heap.get?_push_size _ rfl, ⟨rfl, rfl, rfl⟩, rfl, .rfl, by rfl, e, fun _ a b _ hb => by simp [SetTable.fresh] at hb⟩
section
variable {prog : Program} {w : World} {A : Around} {E : Value → Shared → Prop} {s : Shared}
theorem code_new_set (a : Value) {Q₁ : Value → Shared → Prop}
    (h : ∀ led : Bool, led = (!w.params.followText "set-order") → Q₁ (.ref s.heap.objs.size) { s with heap := s.heap.push { cls := .type "set", dict := none, data := .set #[] 0 (.fresh 0 0 led) } }) :
    codeAny (model prog w) A (.call (.builtin "set.__new__") ⟨[.type "set", a], []⟩) (wants Q₁ E) s := by
  refine codeAny_of_tree ?_
  show wpAny _ A.in1 (do checkBuiltinCall "set.__new__" ⟨[.type "set", a], []⟩; again (.builtin "set.__new__" ⟨[.type "set", a], []⟩)) _ _ s
  refine wpAny_bind (wpAny_of_eq (PySem.F.newCall_set_1 a) (wpAny_pure ⟨plainId_quiet PySem.F.plain_set_new _, codeAny_builtin PySem.F.entry_set_new ?_⟩))
  rw [Around.under_plainId PySem.F.plain_set_new _]
  unfold Builtin.«set.__new__» Builtin.Frozenset.newClass
  have hsub := sub_set_self
  obtain ⟨hp, g, d, tk, os⟩ := s
  dsimp only
  wp_walk
  refine wpAny_askSetting (wpAny_pure ?_)
  dsimp only
  simp only [newObj]
  refine wpAny_bind (wpAny_alloc (wpAny_pure ?_))
  exact wpAny_pure (h _ rfl)
end


end
section
theorem noneZ4 : True := by
  k_with_none
  trivial
structure Wrap (p : Prop) : Prop where
  out : p
section
variable {prog : Program} {w : World} {A : Around} {E : Value → Shared → Prop} {s : Shared}
theorem call_type {T newId initId : String} {args : List Value} {Q Q₁ : Value → Shared → Prop} (ft : TypeCalled T newId initId) (hct : checkTypeCall T ⟨args, []⟩ = pure ())
    (hnew : codeAny (model prog w) A.in1 (.call (.builtin newId) ⟨.type T :: args, []⟩) (wants Q₁ E) s)
    (hnext : ∀ obj s₁, Q₁ obj s₁ → s₁.TypeIs obj T ∧ codeAny (model prog w) A.in1 (.call (.builtin initId) ⟨obj :: args, []⟩) (wants (fun r s₂ => r = .none ∧ Q obj s₂) E) s₁) : wpAny (model prog w) A (call (.type T) args) Q E s := by
  obtain ⟨c, tl, hmro⟩ := ft.mro
  have hmade := ft.made
  have hsub := ft.sub
  have h1 := ft.notType
  have h2 := ft.canCreate
  refine wpAny_call (codeAny_of_tree ?_)
  show wpAny _ _ (callAny (.type T) _) _ _ _
  refine wpAny_pure ⟨Code.quiet_builtin _ (by decide +kernel), codeAny_builtin PySem.F.entry_type_call ?_⟩
  rw [Around.under_plain (weight_type_call_type T args []) rfl]
  repeat (any_goals (first | assumption | wp_step))
  refine codeAny_mono hnew fun r s₁ hr => ?_
  cases r with
  | error e => exact hr
  | ok fl =>
    cases fl with
    | ret obj =>
      obtain ⟨hT, hc⟩ := hnext _ _ hr
      have hli := ft.init.lookup
      have hbi := ft.init.bind obj
      repeat (any_goals (first | assumption | wp_step))
      refine codeAny_mono hc fun r₂ s₂ hr₂ => ?_
      cases r₂ with
      | error e => exact hr₂
      | ok fl₂ =>
        cases fl₂ with
        | ret r =>
          obtain ⟨rfl, hq⟩ := hr₂
          repeat (any_goals (first | assumption | wp_step))
        | _ => exact hr₂.elim
    | _ => exact hr.elim
set_option maxHeartbeats 8000000 in
theorem set_init {l a : Addr} {vs : List Value} {ns : List Int} {Q : Value → Shared → Prop} (hh : A.handled = none) (hl : s.heap.IsList l vs.toArray) (hla : l ≠ a) (hi : IntsAre vs ns) (hnd : ns.Nodup) (hb : ns.length + 1 < scanBound) {led : Bool} (hoa : s.heap.get? a = some { cls := .type "set", dict := none, data := .set #[] 0 (.fresh 0 0 led) }) (hled : led = !w.params.followText "set-order")
    (h : ∀ (h' : Heap) (tk : Nat) (es : List (Int × Value)), SetIs w h' a es → IntsAre (es.map (·.2)) ns → (∀ b o, b ≠ a → s.heap.get? b = some o → h'.get? b = some o) → Q .none { s with heap := h', toks := tk }) :
    codeAny (model prog w) A (.call (.builtin "set.__init__") ⟨[.ref a, .ref l], []⟩) (wants Q E) s := by
  have hF : SetIs w s.heap a [] := ⟨_, #[], 0, _, hoa, ⟨rfl, rfl, rfl⟩, rfl, .rfl, by rfl, hled, fun _ a b _ hb => by simp [SetTable.fresh] at hb⟩
  have hT : s.TypeIs (.ref a) "set" := hF.typeIs
  refine codeAny_call_builtin PySem.F.called_set.init.plain PySem.F.entry_set_init (check_set_init_1 hT ?_)
  have hvn : vs.length = ns.length := hi.length
  have hsz : vs.toArray.size = ns.length := by rw [List.size_toArray, hvn]
  have hval0 : (List.range ns.length).map (fun i => ns.getD i 0) = ns := by
    refine List.ext_getElem (by simp) fun i h1 h2 => ?_
    simp
    rw [List.getElem?_eq_getElem h2]; rfl
  replace hi := Wrap.mk hi
  replace hnd := Wrap.mk hnd
  replace hb := Wrap.mk hb
  replace hsz := Wrap.mk hsz
  replace hval0 := Wrap.mk hval0
  replace h := Wrap.mk h
  have hl0 := Wrap.mk hl
  replace hF := Wrap.mk hF
  clear hvn
  obtain ⟨ol, hol, hcl, nl, hdl⟩ := hl
  have hTl : s.TypeIs (.ref l) "list" := ⟨ol, hol, hcl⟩
  have hsls := PySem.F.sub_list_set
  have hslf := PySem.F.sub_list_frozenset
  have hne : (Value.type "list" == Value.type "dict") = false := by decide
  unfold Builtin.«set.__init__» noKeywords Builtin.Frozenset.updateFrom
  generalize hPI : pyIter = PI
  replace hled := Wrap.mk hled
  wp_walk
  subst hPI
  replace hl := hl0.out
  replace hi := hi.out
  replace hnd := hnd.out
  replace hb := hb.out
  replace hsz := hsz.out
  replace hval0 := hval0.out
  replace hF := hF.out
  replace h := h.out
  refine wpAny_pyIter_list hl ?_
  refine wpAny_bind (wpAny_runValue ?_)
  have hne : l ≠ s.heap.objs.size := fun e => by obtain ⟨o, ho, _⟩ := hl; exact absurd (Heap.lt_size ho) (by rw [e]; exact Nat.lt_irrefl _)
  have hna : a ≠ s.heap.objs.size := Nat.ne_of_lt hF.lt
  have hh3 : A.in1.in1.handled = none := by simpa using hh
  refine set_loop ((Walks.list hh3 s.heap.objs.size l hne vs.toArray).toS) a (by simp only [List.mem_cons, List.not_mem_nil, or_false, not_or]; exact ⟨hna, Ne.symm hla⟩) (fun i => ns.getD i 0) (fun i v hv => PyProof.Rows.IntsAre.int_at hi i v (by simpa using hv)) ?hne (by omega) (vs.toArray.size - 0) 0 _ [] (by omega) (Nat.zero_le _)
    ⟨⟨_, Heap.get?_push_size _ rfl, rfl, rfl⟩, (hl.push _)⟩ (hF.at fun o e => Heap.get?_push_of_some _ e) (fun e he => nomatch he) .nil ?hR
  case hne =>
    intro i j hij hj
    rw [hsz] at hj
    have e : ∀ k, k < ns.length → ns.getD k 0 = ns[k]?.getD 0 := fun k _ => List.getD_eq_getElem?_getD ..
    rw [e i (by omega), e j hj, List.getElem?_eq_getElem (by omega), List.getElem?_eq_getElem hj]
    exact List.pairwise_iff_getElem.mp hnd i j (by omega) hj hij
  case hR =>
    intro s' es' hm hS' hI'
    rw [hsz, hval0] at hI'
    rw [Moved.eq_with hm]
    refine wpAny_pure ?_
    show wpAny _ _ (ret Value.none) _ _ _
    refine wpAny_pure ?_
    refine h s'.heap s'.toks es' hS' hI' fun b o hb e => ?_
    refine hm.heap b o (fun hmem => ?_) (Heap.get?_push_of_some _ e)
    rcases List.mem_cons.mp hmem with e' | hmem
    · exact hb e'
    · rw [List.mem_singleton.mp hmem] at e
      exact absurd (Heap.lt_size e) (Nat.lt_irrefl _)

end
section
variable {prog : Program} {w : World} {A : Around} {E : Value → Shared → Prop} {s : Shared}
theorem call_set {l : Addr} {vs : List Value} {ns : List Int} {Q : Value → Shared → Prop} (hh : A.handled = none) (hl : s.heap.IsList l vs.toArray) (hi : IntsAre vs ns) (hnd : ns.Nodup) (hb : ns.length + 1 < scanBound)
    (h : ∀ (h' : Heap) (tk : Nat) (es : List (Int × Value)), SetIs w h' s.heap.objs.size es → IntsAre (es.map (·.2)) ns → (∀ b o, b < s.heap.objs.size → s.heap.get? b = some o → h'.get? b = some o) → Q (.ref s.heap.objs.size) { s with heap := h', toks := tk }) :
    wpAny (model prog w) A (call (.type "set") [.ref l]) Q E s := by
  refine call_type PySem.F.called_set (PySem.F.typeCall_set_1 (.ref l)) (code_new_set (.ref l) (E := E) (Q₁ := fun obj s₁ => ∃ led : Bool, led = (!w.params.followText "set-order") ∧ obj = .ref s.heap.objs.size ∧ s₁ = { s with heap := s.heap.push { cls := .type "set", dict := none, data := .set #[] 0 (.fresh 0 0 led) } }) fun led e => ⟨led, e, rfl, rfl⟩) ?_
  rintro obj s₁ ⟨led, hled, rfl, rfl⟩
  have hlt : l < s.heap.objs.size := by obtain ⟨o, ho, _⟩ := hl; exact Heap.lt_size ho
  refine ⟨⟨_, Heap.get?_push_size _ rfl, rfl⟩, ?_⟩
  refine set_init (led := led) (by simpa using hh) (hl.push _) (Nat.ne_of_lt hlt) hi hnd hb (Heap.get?_push_size _ rfl) hled fun h' tk es hS hE hk => ⟨rfl, ?_⟩
  exact h h' tk es hS hE fun b o hb e => hk b o (Nat.ne_of_lt hb) (Heap.get?_push_of_some _ e)
end


end
section
theorem noneZ5 : True := by
  k_with_none
  trivial
theorem slot_setit : Slot "set" "__iter__" "set.__iter__" :=
  .of (owner := "set") (n := "__iter__") (by rw [typeLookup_type, builtinLookup_eq_fast]; kernel_rfl) (by decide +kernel) (by decide +kernel) (by decide +kernel)
    (by first | exact .inl (by decide +kernel) | exact .inr (by decide +kernel)) (by rw [isSubtype_type]; kernel_rfl)
theorem entry_setit : entryFor table "set.__iter__" = some Builtin.«frozenset.__iter__» :=
  entryFor_alias (id' := "frozenset.__iter__") (by kernel_rfl) rfl (by decide +kernel) (by kernel_rfl)
theorem args_setit (a : Value) : argsOk "set.__iter__" ⟨[a], []⟩ := by
  unfold argsOk; rw [signature?_of (id := "set.__iter__") (n := ['_', '_', 'r', 'e', 't', 'i', '_', '_']) (o := ['t', 'e', 's']) (by kernel_rfl) PySem.F.owner_set]; kernel_rfl
theorem slot_setnx : Slot "set_iterator" "__next__" "set_iterator.__next__" :=
  .of (owner := "set_iterator") (n := "__next__") (by rw [typeLookup_type, builtinLookup_eq_fast]; kernel_rfl) (by decide +kernel) (by decide +kernel) (by decide +kernel)
    (by first | exact .inl (by decide +kernel) | exact .inr (by decide +kernel)) (by rw [isSubtype_type]; kernel_rfl)
theorem entry_setnx : entryFor table "set_iterator.__next__" = some Builtin.«set_iterator.__next__» := entryFor_of_tree (by kernel_rfl)
theorem owner_setit : Manifest.owners.lookup (String.ofList ['r', 'o', 't', 'a', 'r', 'e', 't', 'i', '_', 't', 'e', 's'].reverse) = some Manifest.sig_set_iterator := by kernel_rfl
theorem args_setnx (a : Value) : argsOk "set_iterator.__next__" ⟨[a], []⟩ := by
  unfold argsOk; rw [signature?_of (id := "set_iterator.__next__") (n := ['_', '_', 't', 'x', 'e', 'n', '_', '_']) (o := ['r', 'o', 't', 'a', 'r', 'e', 't', 'i', '_', 't', 'e', 's']) (by kernel_rfl) owner_setit]; kernel_rfl


end
section
theorem noneZ6 : True := by
  k_with_none
  trivial
def IsIt (h : Heap) (I : Addr) (first : Value) (i : Nat) (a : Addr) (n ep : Nat) : Prop := ∃ o, h.get? I = some o ∧ o.cls = .type "set_iterator" ∧ o.data = .fields #[first, .int (i : Int) 0, .ref a, .int (n : Int) 0, .int (ep : Int) 0]
def SetRaw (h : Heap) (a : Addr) (arr : Array (Int × Value)) (ep : Nat) (t : SetTable) : Prop := ∃ o, h.get? a = some o ∧ o.data = .set arr ep t
section
variable {prog : Program} {w : World} {A : Around} {E : Value → Shared → Prop} {s : Shared} {I a : Addr} {arr : Array (Int × Value)} {ep i : Nat} {t : SetTable}
theorem nx_slot {sl : Nat} {Q : Option Value → Shared → Prop} (hb : w.params.followText "set-order" = false) (hl : t.led = true) (hr : Ris t.place) (hf : t.fits arr.size = true) (hdr : (!t.plain && decide (arr.size > 1)) = false)
    (hit : IsIt s.heap I (.int (sl : Int) 0) i a arr.size ep) (hm : SetRaw s.heap a arr ep t) (hsl : SetTable.below t.place sl = i) (hi : i < arr.size)
    (hQ : ∀ h', IsIt h' I (.int ((t.place.getD i 0 + 1 : Nat) : Int) 0) (i + 1) a arr.size ep → Heap.SameBut I s.heap h' → Q (some arr[i].2) { s with heap := h' }) : wpAny (model prog w) A (pyNext (.ref I)) Q E s := by
  obtain ⟨o, ho, hc, hd⟩ := id hit
  obtain ⟨od, hod, hdd⟩ := id hm
  unfold pyNext
  refine wpAny_bind (wpAny_attempt (wpAny_callSpecial?_slot (name := Str.ofString "__next__") ⟨o, ho, hc⟩ slot_setnx (wpAny_call_entry slot_setnx ⟨o, ho, hc⟩ entry_setnx ?_ (args_setnx _))))
  unfold Builtin.«set_iterator.__next__»
  refine wpAny_bind (wpAny_pure ?_)
  refine wpAny_bind (wpAny_fieldsOf ho hd ?_)
  show wpAny _ _ (setEntries a >>= _) _ _ s
  refine wpAny_bind (wpAny_setEntries_of hod hdd hf ?_)
  rw [if_neg (by simp)]
  show wpAny _ _ (setNext a (sl : Int).toNat (i : Int).toNat (ep : Int).toNat >>= _) _ _ s
  refine wpAny_bind ?_
  unfold setNext setsByText
  refine wpAny_bind (wpAny_setState_of hod hdd hf ?_)
  refine wpAny_bind (wpAny_bind (wpAny_askSetting (wpAny_pure ?_)))
  dsimp only
  rw [if_neg (by show ¬ w.params.followText "set-order" = true; rw [hb]; exact Bool.false_ne_true)]
  show wpAny _ _ (if (!t.plain && decide (arr.size > 1)) = true then _ else _) _ _ _
  rw [if_neg (by rw [hdr]; exact Bool.false_ne_true)]
  show wpAny _ _ ((if (!t.led && !arr.isEmpty) = true then unsupported _ else pure ()) >>= _) _ _ _
  rw [if_neg (by rw [hl]; exact Bool.false_ne_true)]
  refine wpAny_bind (wpAny_pure ?_)
  have hps : t.place.size = arr.size := by
    simp only [SetTable.fits, Bool.and_eq_true, beq_iff_eq] at hf
    exact hf.1
  have hip : i < t.place.size := by omega
  have e1 : arr[SetTable.below t.place (sl : Int).toNat]? = some arr[i] := by rw [Int.toNat_natCast, hsl]; exact Array.getElem?_eq_getElem hi
  have e2 : t.place[SetTable.below t.place (sl : Int).toNat]? = some t.place[i] := by rw [Int.toNat_natCast, hsl]; exact Array.getElem?_eq_getElem hip
  have e3 : t.place[i] = t.place.getD i 0 := by rw [Array.getD_eq_getD_getElem?, Array.getElem?_eq_getElem hip]; rfl
  refine wpAny_pure ?_
  rw [e1, e2, e3]
  show wpAny _ _ (setField (.ref I) 0 (rawInt ((t.place.getD i 0 + 1 : Nat) : Int)) >>= _) _ _ s
  refine wpAny_bind (wpAny_setField ho hd (by simp) ?_)
  have h1 : (s.heap.update I (Obj.mapFields (·.setIfInBounds 0 (rawInt ((t.place.getD i 0 + 1 : Nat) : Int))))).get? I = some (Obj.mapFields (·.setIfInBounds 0 (rawInt ((t.place.getD i 0 + 1 : Nat) : Int))) o) := Heap.get?_update_self _ ho (Obj.isFreed_of_fields (Obj.data_mapFields hd _))
  have h1d : (Obj.mapFields (·.setIfInBounds 0 (rawInt ((t.place.getD i 0 + 1 : Nat) : Int))) o).data = .fields #[rawInt ((t.place.getD i 0 + 1 : Nat) : Int), .int (i : Int) 0, .ref a, .int (arr.size : Int) 0, .int (ep : Int) 0] := by rw [Obj.data_mapFields hd]; simp
  refine wpAny_bind (wpAny_setField h1 h1d (by simp) ?_)
  refine wpAny_pure ⟨_, rfl, ?_⟩
  exact wpAny_pure (hQ _ ⟨_, Heap.get?_update_self _ h1 (Obj.isFreed_of_fields (Obj.data_mapFields h1d _)), (Obj.cls_mapFields ..).trans ((Obj.cls_mapFields ..).trans hc), by rw [Obj.data_mapFields h1d]; simp [rawInt]⟩ ((Heap.SameBut.update ..).trans (Heap.SameBut.update ..)))
end


end
section
theorem noneZ7 : True := by
  k_with_none
  trivial
theorem erase_perm {α : Type} : ∀ {l : List α} {i : Nat} (h : i < l.length), (l[i] :: l.eraseIdx i).Perm l
  | _ :: _, 0, _ => .rfl
  | x :: r, i + 1, h => by
    have h' : i < r.length := by simpa using h
    exact (List.Perm.swap x r[i] (r.eraseIdx i)).trans ((erase_perm h').cons x)
theorem wpAny_pick {M : Model} {A : Around} {E : Value → Shared → Prop} {s : Shared} {src : Source} {n : Nat} {Q : Nat → Shared → Prop} (hn : n ≠ 0) (h : ∀ r dr, r < n → Q r { s with drawn := dr }) : wpAny M A (choose src n) Q E s := fun Γ p hΓ => by
  show Sem.wp M Γ (.choose src n .pure) _ _ p s
  rw [Sem.wp_choose]
  exact ⟨hn, h _ _ (Nat.mod_lt _ (Nat.pos_of_ne_zero hn))⟩
theorem wpAny_drawOrder {α : Type} {M : Model} {A : Around} {E : Value → Shared → Prop} : ∀ (n : Nat) (xs : List α) (s : Shared) (Q : List α → Shared → Prop), xs.length = n → (∀ ys dr, ys.Perm xs → Q ys { s with drawn := dr }) → wpAny M A (drawOrder n xs) Q E s
  | 0, xs, s, Q, hl, h => by
    unfold drawOrder
    have : xs = [] := List.eq_nil_of_length_eq_zero hl
    subst this
    exact wpAny_pure (h [] s.drawn .rfl)
  | n + 1, xs, s, Q, hl, h => by
    cases xs with
    | nil => exact nomatch hl
    | cons x r =>
      unfold drawOrder
      refine wpAny_bind (wpAny_pick (by simp) fun i dr hi => ?_)
      rw [List.getElem?_eq_getElem hi]
      dsimp only
      refine wpAny_bind (wpAny_drawOrder n ((x :: r).eraseIdx i) _ _ (by rw [List.length_eraseIdx, if_pos hi]; simpa using hl) fun ys dr' hp => ?_)
      refine wpAny_pure (h _ dr' ?_)
      exact (hp.cons _).trans (erase_perm hi)
theorem pick_go {α : Type} (next : Nat → Nat) : ∀ (fuel k : Nat) (left : List α) (out : Array α), left.length = fuel → (pickOrder.go next fuel k left out).toList.Perm (out.toList ++ left)
  | 0, k, left, out, hl => by
    unfold pickOrder.go
    have : left = [] := List.eq_nil_of_length_eq_zero hl
    subst this
    simp
  | fuel + 1, k, left, out, hl => by
    unfold pickOrder.go
    have hlt : next k % left.length < left.length := Nat.mod_lt _ (by omega)
    rw [List.getElem?_eq_getElem hlt]
    dsimp only
    refine (pick_go next fuel (k + 1) _ _ (by rw [List.length_eraseIdx, if_pos hlt]; omega)).trans ?_
    rw [Array.toList_push, List.append_assoc]
    exact (erase_perm hlt).append_left _
theorem pick_perm {α : Type} (next : Nat → Nat) (xs : Array α) : (pickOrder next xs).toList.Perm xs.toList := by
  have := pick_go next xs.size 0 xs.toList #[] (by simp)
  simpa [pickOrder] using this
section
variable {prog : Program} {w : World} {A : Around} {E : Value → Shared → Prop} {s : Shared} {I a T9 : Addr} {arr : Array (Int × Value)} {ep i : Nat} {t : SetTable}
theorem nx_text {Q : Option Value → Shared → Prop} (hb : w.params.followText "set-order" = true) (hf : t.fits arr.size = true)
    (hit : IsIt s.heap I (.int ((0 : Nat) : Int) 0) i a arr.size ep) (hm : SetRaw s.heap a arr ep t) {x : Int × Value} (hi : (pickOrder (w.params.setOrder a ep) arr)[i]? = some x)
    (hQ : ∀ h', IsIt h' I (.int ((0 : Nat) : Int) 0) (i + 1) a arr.size ep → Heap.SameBut I s.heap h' → Q (some x.2) { s with heap := h' }) : wpAny (model prog w) A (pyNext (.ref I)) Q E s := by
  obtain ⟨o, ho, hc, hd⟩ := id hit
  obtain ⟨od, hod, hdd⟩ := id hm
  unfold pyNext
  refine wpAny_bind (wpAny_attempt (wpAny_callSpecial?_slot (name := Str.ofString "__next__") ⟨o, ho, hc⟩ slot_setnx (wpAny_call_entry slot_setnx ⟨o, ho, hc⟩ entry_setnx ?_ (args_setnx _))))
  unfold Builtin.«set_iterator.__next__»
  refine wpAny_bind (wpAny_pure ?_)
  refine wpAny_bind (wpAny_fieldsOf ho hd ?_)
  show wpAny _ _ (setEntries a >>= _) _ _ s
  refine wpAny_bind (wpAny_setEntries_of hod hdd hf ?_)
  rw [if_neg (by simp)]
  show wpAny _ _ (setNext a ((0 : Nat) : Int).toNat (i : Int).toNat (ep : Int).toNat >>= _) _ _ s
  refine wpAny_bind ?_
  unfold setNext setsByText
  refine wpAny_bind (wpAny_setState_of hod hdd hf ?_)
  refine wpAny_bind (wpAny_bind (wpAny_askSetting (wpAny_pure ?_)))
  dsimp only
  rw [if_pos (by exact hb), if_neg (by simp)]
  refine wpAny_bind ?_
  unfold setWalk setsByText
  refine wpAny_bind (wpAny_setState_of hod hdd hf ?_)
  refine wpAny_bind (wpAny_bind (wpAny_askSetting (wpAny_pure ?_)))
  dsimp only
  rw [if_pos (by exact hb)]
  refine wpAny_bind (wpAny_askSetting (wpAny_pure ?_))
  refine wpAny_pure ?_
  show wpAny _ _ (match Option.map (fun e : Int × Value => (e.2, ((0 : Nat) : Int).toNat)) (pickOrder (w.params.setOrder a ep) arr)[(i : Int).toNat]? with | some (x, next) => _ | none => _) _ _ s
  rw [Int.toNat_natCast i, hi]
  show wpAny _ _ (setField (.ref I) 0 (rawInt ((0 : Nat) : Int)) >>= _) _ _ s
  refine wpAny_bind (wpAny_setField ho hd (by simp) ?_)
  have h1 : (s.heap.update I (Obj.mapFields (·.setIfInBounds 0 (rawInt ((0 : Nat) : Int))))).get? I = some (Obj.mapFields (·.setIfInBounds 0 (rawInt ((0 : Nat) : Int))) o) := Heap.get?_update_self _ ho (Obj.isFreed_of_fields (Obj.data_mapFields hd _))
  have h1d : (Obj.mapFields (·.setIfInBounds 0 (rawInt ((0 : Nat) : Int))) o).data = .fields #[rawInt ((0 : Nat) : Int), .int (i : Int) 0, .ref a, .int (arr.size : Int) 0, .int (ep : Int) 0] := by rw [Obj.data_mapFields hd]; simp
  refine wpAny_bind (wpAny_setField h1 h1d (by simp) ?_)
  refine wpAny_pure ⟨_, rfl, ?_⟩
  exact wpAny_pure (hQ _ ⟨_, Heap.get?_update_self _ h1 (Obj.isFreed_of_fields (Obj.data_mapFields h1d _)), (Obj.cls_mapFields ..).trans ((Obj.cls_mapFields ..).trans hc), by rw [Obj.data_mapFields h1d]; simp [rawInt]⟩ ((Heap.SameBut.update ..).trans (Heap.SameBut.update ..)))
theorem nx_drawn {pl : List Nat} {Q : Option Value → Shared → Prop} (hf : t.fits arr.size = true)
    (hit : IsIt s.heap I (.ref T9) i a arr.size ep) (ht : ∃ o k, s.heap.get? T9 = some o ∧ o.data = .seq (pl.map fun j : Nat => rawInt (j : Int)).toArray k) (hm : SetRaw s.heap a arr ep t) {j : Nat} {x : Int × Value} (hj : pl[i]? = some j) (hi : arr[j]? = some x)
    (hQ : ∀ h', IsIt h' I (.ref T9) (i + 1) a arr.size ep → Heap.SameBut I s.heap h' → Q (some x.2) { s with heap := h' }) : wpAny (model prog w) A (pyNext (.ref I)) Q E s := by
  obtain ⟨o, ho, hc, hd⟩ := id hit
  obtain ⟨od, hod, hdd⟩ := id hm
  obtain ⟨ot, k, hot, hdt⟩ := ht
  unfold pyNext
  refine wpAny_bind (wpAny_attempt (wpAny_callSpecial?_slot (name := Str.ofString "__next__") ⟨o, ho, hc⟩ slot_setnx (wpAny_call_entry slot_setnx ⟨o, ho, hc⟩ entry_setnx ?_ (args_setnx _))))
  unfold Builtin.«set_iterator.__next__»
  refine wpAny_bind (wpAny_pure ?_)
  refine wpAny_bind (wpAny_fieldsOf ho hd ?_)
  show wpAny _ _ (setEntries a >>= _) _ _ s
  refine wpAny_bind (wpAny_setEntries_of hod hdd hf ?_)
  rw [if_neg (by simp)]
  show wpAny _ _ (seqItems? (.ref T9) >>= _) _ _ s
  refine wpAny_bind (wpAny_seqItems hot hdt ?_)
  have e1 : (pl.map fun j : Nat => rawInt (j : Int)).toArray[(i : Int).toNat]? = some (rawInt (j : Int)) := by
    rw [Int.toNat_natCast, List.getElem?_toArray, List.getElem?_map, hj]; rfl
  dsimp only
  rw [e1]
  show wpAny _ _ (setNextDrawn a (j : Int).toNat (ep : Int).toNat >>= _) _ _ s
  refine wpAny_bind ?_
  unfold setNextDrawn
  refine wpAny_bind (wpAny_setState_of hod hdd hf ?_)
  dsimp only
  rw [if_neg (by simp)]
  rw [Int.toNat_natCast j, hi]
  refine wpAny_pure ?_
  show wpAny _ _ (setField (.ref I) 1 (rawInt ((i : Int) + 1)) >>= _) _ _ s
  refine wpAny_bind (wpAny_setField ho hd (by simp) ?_)
  refine wpAny_pure ⟨_, rfl, ?_⟩
  exact wpAny_pure (hQ _ ⟨_, Heap.get?_update_self _ ho (Obj.isFreed_of_fields (Obj.data_mapFields hd _)), (Obj.cls_mapFields ..).trans hc, by rw [Obj.data_mapFields hd]; simp [rawInt]⟩ (Heap.SameBut.update ..))
end


end
section
theorem noneZ8 : True := by
  k_with_none
  trivial
theorem slot_itit : Slot "set_iterator" "__iter__" "set_iterator.__iter__" :=
  .of (owner := "set_iterator") (n := "__iter__") (by rw [typeLookup_type, builtinLookup_eq_fast]; kernel_rfl) (by decide +kernel) (by decide +kernel) (by decide +kernel)
    (by first | exact .inl (by decide +kernel) | exact .inr (by decide +kernel)) (by rw [isSubtype_type]; kernel_rfl)
theorem entry_itit : entryFor table "set_iterator.__iter__" = some Builtin.«dict_keyiterator.__iter__» :=
  entryFor_alias (id' := "dict_keyiterator.__iter__") (by kernel_rfl) rfl (by decide +kernel) (by kernel_rfl)
theorem args_itit (a : Value) : argsOk "set_iterator.__iter__" ⟨[a], []⟩ := by
  unfold argsOk; rw [signature?_of (id := "set_iterator.__iter__") (n := ['_', '_', 'r', 'e', 't', 'i', '_', '_']) (o := ['r', 'o', 't', 'a', 'r', 'e', 't', 'i', '_', 't', 'e', 's']) (by kernel_rfl) owner_setit]; kernel_rfl
section
variable {prog : Program} {w : World} {A : Around} {E : Value → Shared → Prop} {s : Shared} {I a T9 : Addr} {arr : Array (Int × Value)} {ep i : Nat} {t : SetTable}
theorem it_self {first : Value} {n : Nat} {Q : Value → Shared → Prop} (hit : IsIt s.heap I first i a n ep) (h : Q (.ref I) s) : wpAny (model prog w) A (pyIter (.ref I)) Q E s := by
  obtain ⟨o, ho, hc, hd⟩ := hit
  refine wpAny_pyIter_slot ⟨o, ho, hc⟩ slot_itit (wpAny_call_entry slot_itit ⟨o, ho, hc⟩ entry_itit ?_ (args_itit _))
  show wpAny _ _ (ret (.ref I)) _ _ s
  exact wpAny_pure ⟨_, rfl, "set_iterator", _, ⟨o, ho, hc⟩, slot_setnx.lookup, h⟩
theorem stop_end {Q : Option Value → Shared → Prop} {QQ : Fin → Shared → Prop} (hh : A.handled = none) (hQ : ∀ h', (∀ b o, s.heap.get? b = some o → h'.get? b = some o) → Q none { s with heap := h' }) :
    wpAny (model prog w) A.in1 (newExc (.type "StopIteration") [] >>= fun e => raiseNew e) QQ (fun e s' => wpAny (model prog w) A (do if ← isInstance e (.type "StopIteration") then pure none else throw e) Q E s') s := by
  refine wpAny_bind ?_
  simp only [newExc, newTuple]
  refine wpAny_bind (wpAny_newObj_type ?_ (by size_fits))
  refine wpAny_bind (m := firstArgMember _ _) (wpAny_of_eq (a := Value.none) (by first | rfl | (simp only [firstArgMember]; rfl)) ?_)
  refine wpAny_newObj_type ?_ (by size_fits)
  simp only [raiseNew]
  refine wpAny_bind (wpAny_handled ?_)
  rw [show A.in1.handled = none from hh]
  refine wpAny_bind (wpAny_pure (wpAny_throw ?_))
  refine wpAny_bind (wpAny_isInstance (T := "StopIteration") (b := true) ⟨_, Heap.get?_push_size _ rfl, rfl⟩ isSubtype_stop ?_)
  exact wpAny_pure (hQ _ fun b o e => Heap.get?_push_of_some _ (Heap.get?_push_of_some _ e))
theorem nx_slot_end {sl : Nat} {Q : Option Value → Shared → Prop} (hh : A.handled = none) (hb : w.params.followText "set-order" = false) (hl : t.led = true) (hf : t.fits arr.size = true) (hdr : (!t.plain && decide (arr.size > 1)) = false)
    (hit : IsIt s.heap I (.int (sl : Int) 0) i a arr.size ep) (hm : SetRaw s.heap a arr ep t) (hsl : SetTable.below t.place sl = arr.size)
    (hQ : ∀ h', (∀ b o, b ≠ I → s.heap.get? b = some o → h'.get? b = some o) → Q none { s with heap := h' }) : wpAny (model prog w) A (pyNext (.ref I)) Q E s := by
  obtain ⟨o, ho, hc, hd⟩ := id hit
  obtain ⟨od, hod, hdd⟩ := id hm
  unfold pyNext
  refine wpAny_bind (wpAny_attempt (wpAny_callSpecial?_slot (name := Str.ofString "__next__") ⟨o, ho, hc⟩ slot_setnx (wpAny_call_entry slot_setnx ⟨o, ho, hc⟩ entry_setnx ?_ (args_setnx _))))
  unfold Builtin.«set_iterator.__next__»
  refine wpAny_bind (wpAny_pure ?_)
  refine wpAny_bind (wpAny_fieldsOf ho hd ?_)
  show wpAny _ _ (setEntries a >>= _) _ _ s
  refine wpAny_bind (wpAny_setEntries_of hod hdd hf ?_)
  rw [if_neg (by simp)]
  show wpAny _ _ (setNext a (sl : Int).toNat (i : Int).toNat (ep : Int).toNat >>= _) _ _ s
  refine wpAny_bind ?_
  unfold setNext setsByText
  refine wpAny_bind (wpAny_setState_of hod hdd hf ?_)
  refine wpAny_bind (wpAny_bind (wpAny_askSetting (wpAny_pure ?_)))
  dsimp only
  rw [if_neg (by show ¬ w.params.followText "set-order" = true; rw [hb]; exact Bool.false_ne_true)]
  show wpAny _ _ (if (!t.plain && decide (arr.size > 1)) = true then _ else _) _ _ _
  rw [if_neg (by rw [hdr]; exact Bool.false_ne_true)]
  show wpAny _ _ ((if (!t.led && !arr.isEmpty) = true then unsupported _ else pure ()) >>= _) _ _ _
  rw [if_neg (by rw [hl]; exact Bool.false_ne_true)]
  refine wpAny_bind (wpAny_pure ?_)
  have e1 : arr[SetTable.below t.place (sl : Int).toNat]? = none := by rw [Int.toNat_natCast, hsl]; exact Array.getElem?_eq_none (Nat.le_refl _)
  refine wpAny_pure ?_
  rw [e1]
  show wpAny _ _ (setField (.ref I) 2 .none >>= _) _ _ s
  refine wpAny_bind (wpAny_setField ho hd (by simp) ?_)
  refine stop_end hh fun h' hk => hQ h' fun b o hb e => hk b o ?_
  exact (Heap.get?_update_other _ _ (Ne.symm hb)).trans e
theorem nx_text_end {Q : Option Value → Shared → Prop} (hh : A.handled = none) (hb : w.params.followText "set-order" = true) (hf : t.fits arr.size = true)
    (hit : IsIt s.heap I (.int ((0 : Nat) : Int) 0) i a arr.size ep) (hm : SetRaw s.heap a arr ep t) (hi : (pickOrder (w.params.setOrder a ep) arr)[i]? = none)
    (hQ : ∀ h', (∀ b o, b ≠ I → s.heap.get? b = some o → h'.get? b = some o) → Q none { s with heap := h' }) : wpAny (model prog w) A (pyNext (.ref I)) Q E s := by
  obtain ⟨o, ho, hc, hd⟩ := id hit
  obtain ⟨od, hod, hdd⟩ := id hm
  unfold pyNext
  refine wpAny_bind (wpAny_attempt (wpAny_callSpecial?_slot (name := Str.ofString "__next__") ⟨o, ho, hc⟩ slot_setnx (wpAny_call_entry slot_setnx ⟨o, ho, hc⟩ entry_setnx ?_ (args_setnx _))))
  unfold Builtin.«set_iterator.__next__»
  refine wpAny_bind (wpAny_pure ?_)
  refine wpAny_bind (wpAny_fieldsOf ho hd ?_)
  show wpAny _ _ (setEntries a >>= _) _ _ s
  refine wpAny_bind (wpAny_setEntries_of hod hdd hf ?_)
  rw [if_neg (by simp)]
  show wpAny _ _ (setNext a ((0 : Nat) : Int).toNat (i : Int).toNat (ep : Int).toNat >>= _) _ _ s
  refine wpAny_bind ?_
  unfold setNext setsByText
  refine wpAny_bind (wpAny_setState_of hod hdd hf ?_)
  refine wpAny_bind (wpAny_bind (wpAny_askSetting (wpAny_pure ?_)))
  dsimp only
  rw [if_pos (by exact hb), if_neg (by simp)]
  refine wpAny_bind ?_
  unfold setWalk setsByText
  refine wpAny_bind (wpAny_setState_of hod hdd hf ?_)
  refine wpAny_bind (wpAny_bind (wpAny_askSetting (wpAny_pure ?_)))
  dsimp only
  rw [if_pos (by exact hb)]
  refine wpAny_bind (wpAny_askSetting (wpAny_pure ?_))
  refine wpAny_pure ?_
  show wpAny _ _ (match Option.map (fun e : Int × Value => (e.2, ((0 : Nat) : Int).toNat)) (pickOrder (w.params.setOrder a ep) arr)[(i : Int).toNat]? with | some (x, next) => _ | none => _) _ _ s
  rw [Int.toNat_natCast i, hi]
  show wpAny _ _ (setField (.ref I) 2 .none >>= _) _ _ s
  refine wpAny_bind (wpAny_setField ho hd (by simp) ?_)
  refine stop_end hh fun h' hk => hQ h' fun b o hb e => hk b o ?_
  exact (Heap.get?_update_other _ _ (Ne.symm hb)).trans e
theorem nx_drawn_end {pl : List Nat} {Q : Option Value → Shared → Prop} (hh : A.handled = none) (hf : t.fits arr.size = true)
    (hit : IsIt s.heap I (.ref T9) i a arr.size ep) (ht : ∃ o k, s.heap.get? T9 = some o ∧ o.data = .seq (pl.map fun j : Nat => rawInt (j : Int)).toArray k) (hm : SetRaw s.heap a arr ep t) (hj : pl[i]? = none)
    (hQ : ∀ h', (∀ b o, b ≠ I → s.heap.get? b = some o → h'.get? b = some o) → Q none { s with heap := h' }) : wpAny (model prog w) A (pyNext (.ref I)) Q E s := by
  obtain ⟨o, ho, hc, hd⟩ := id hit
  obtain ⟨od, hod, hdd⟩ := id hm
  obtain ⟨ot, k, hot, hdt⟩ := ht
  unfold pyNext
  refine wpAny_bind (wpAny_attempt (wpAny_callSpecial?_slot (name := Str.ofString "__next__") ⟨o, ho, hc⟩ slot_setnx (wpAny_call_entry slot_setnx ⟨o, ho, hc⟩ entry_setnx ?_ (args_setnx _))))
  unfold Builtin.«set_iterator.__next__»
  refine wpAny_bind (wpAny_pure ?_)
  refine wpAny_bind (wpAny_fieldsOf ho hd ?_)
  show wpAny _ _ (setEntries a >>= _) _ _ s
  refine wpAny_bind (wpAny_setEntries_of hod hdd hf ?_)
  rw [if_neg (by simp)]
  show wpAny _ _ (seqItems? (.ref T9) >>= _) _ _ s
  refine wpAny_bind (wpAny_seqItems hot hdt ?_)
  have e1 : (pl.map fun j : Nat => rawInt (j : Int)).toArray[(i : Int).toNat]? = none := by
    rw [Int.toNat_natCast, List.getElem?_toArray, List.getElem?_map, hj]; rfl
  dsimp only
  rw [e1]
  show wpAny _ _ (setField (.ref I) 0 (rawInt 0) >>= _) _ _ s
  refine wpAny_bind (wpAny_setField ho hd (by simp) ?_)
  have h1 : (s.heap.update I (Obj.mapFields (·.setIfInBounds 0 (rawInt 0)))).get? I = some (Obj.mapFields (·.setIfInBounds 0 (rawInt 0)) o) := Heap.get?_update_self _ ho (Obj.isFreed_of_fields (Obj.data_mapFields hd _))
  have h1d : (Obj.mapFields (·.setIfInBounds 0 (rawInt 0)) o).data = .fields #[rawInt 0, .int (i : Int) 0, .ref a, .int (arr.size : Int) 0, .int (ep : Int) 0] := by rw [Obj.data_mapFields hd]; simp
  refine wpAny_bind (wpAny_setField h1 h1d (by simp) ?_)
  refine stop_end hh fun h' hk => hQ h' fun b o hb e => hk b o ?_
  exact (Heap.get?_update_other _ _ (Ne.symm hb)).trans ((Heap.get?_update_other _ _ (Ne.symm hb)).trans e)
theorem IsIt.at {h h' : Heap} {first : Value} {n : Nat} (x : IsIt h I first i a n ep) (e : ∀ o, h.get? I = some o → h'.get? I = some o) : IsIt h' I first i a n ep := let ⟨o, ho, r⟩ := x; ⟨o, e _ ho, r⟩
theorem SetRaw.at {h h' : Heap} (x : SetRaw h a arr ep t) (e : ∀ o, h.get? a = some o → h'.get? a = some o) : SetRaw h' a arr ep t := let ⟨o, ho, r⟩ := x; ⟨o, e _ ho, r⟩
theorem walk_slot (hh : A.handled = none) (hb : w.params.followText "set-order" = false) (hl : t.led = true) (hr : Ris t.place) (hf : t.fits arr.size = true) (hdr : (!t.plain && decide (arr.size > 1)) = false) (hne : a ≠ I) :
    Walks prog w A I [I, a] [I] arr.size (fun i v => (arr.toList.map (·.2))[i]? = some v) (fun i h => (∃ sl : Nat, IsIt h I (.int (sl : Int) 0) i a arr.size ep ∧ SetTable.below t.place sl = i) ∧ SetRaw h a arr ep t) where
  sub := fun b hb => by simp at hb; simp [hb]
  frame := fun _ _ _ ⟨⟨sl, h1, h2⟩, h3⟩ hk => ⟨⟨sl, h1.at fun o e => hk I (by simp) o e, h2⟩, h3.at fun o e => hk a (by simp) o e⟩
  item := fun i s Q E hi ⟨⟨sl, h1, h2⟩, h3⟩ hQ => by
    refine nx_slot hb hl hr hf hdr h1 h3 h2 hi fun h' hit' hs' => ?_
    have hps : t.place.size = arr.size := by
      simp only [SetTable.fits, Bool.and_eq_true, beq_iff_eq] at hf
      exact hf.1
    exact hQ _ h' s.toks (by rw [List.getElem?_map, Array.getElem?_toList, Array.getElem?_eq_getElem hi]; rfl) ⟨⟨_, hit', below_next _ hr (by omega)⟩, h3.at fun o e => hs'.extBut a o hne e⟩ fun b o hb' e => hs'.extBut b o (fun h => hb' (by simp [h])) e
  done := fun s Q E ⟨⟨sl, h1, h2⟩, h3⟩ hQ => nx_slot_end hh hb hl hf hdr h1 h3 h2 fun h' hk => hQ h' s.toks fun b o hb' e => hk b o (fun h => hb' (by simp [h])) e
  self := fun _ _ _ _ ⟨⟨_, h1, _⟩, _⟩ hQ => it_self h1 hQ
theorem walk_text (hh : A.handled = none) (hb : w.params.followText "set-order" = true) (hf : t.fits arr.size = true) (hne : a ≠ I) :
    Walks prog w A I [I, a] [I] arr.size (fun i v => ((pickOrder (w.params.setOrder a ep) arr).toList.map (·.2))[i]? = some v) (fun i h => IsIt h I (.int ((0 : Nat) : Int) 0) i a arr.size ep ∧ SetRaw h a arr ep t) where
  sub := fun b hb => by simp at hb; simp [hb]
  frame := fun _ _ _ ⟨h1, h3⟩ hk => ⟨h1.at fun o e => hk I (by simp) o e, h3.at fun o e => hk a (by simp) o e⟩
  item := fun i s Q E hi ⟨h1, h3⟩ hQ => by
    have hsz : (pickOrder (w.params.setOrder a ep) arr).size = arr.size := by have := (pick_perm (w.params.setOrder a ep) arr).length_eq; simpa using this
    have hx : (pickOrder (w.params.setOrder a ep) arr)[i]? = some (pickOrder (w.params.setOrder a ep) arr)[i] := Array.getElem?_eq_getElem (by omega)
    refine nx_text hb hf h1 h3 hx fun h' hit' hs' => ?_
    exact hQ _ h' s.toks (by rw [List.getElem?_map, Array.getElem?_toList, hx]; rfl) ⟨hit', h3.at fun o e => hs'.extBut a o hne e⟩ fun b o hb' e => hs'.extBut b o (fun h => hb' (by simp [h])) e
  done := fun s Q E ⟨h1, h3⟩ hQ => by
    have hsz : (pickOrder (w.params.setOrder a ep) arr).size = arr.size := by have := (pick_perm (w.params.setOrder a ep) arr).length_eq; simpa using this
    exact nx_text_end hh hb hf h1 h3 (Array.getElem?_eq_none (by omega)) fun h' hk => hQ h' s.toks fun b o hb' e => hk b o (fun h => hb' (by simp [h])) e
  self := fun _ _ _ _ ⟨h1, _⟩ hQ => it_self h1 hQ
theorem walk_drawn {pl : List Nat} (hh : A.handled = none) (hf : t.fits arr.size = true) (hpl : pl.Perm (List.range arr.size)) (hne : a ≠ I) (hne2 : T9 ≠ I) :
    Walks prog w A I [I, a, T9] [I] arr.size (fun i v => ((pl.filterMap fun j => arr[j]?).map (·.2))[i]? = some v) (fun i h => IsIt h I (.ref T9) i a arr.size ep ∧ (∃ o k, h.get? T9 = some o ∧ o.data = .seq (pl.map fun j : Nat => rawInt (j : Int)).toArray k) ∧ SetRaw h a arr ep t) where
  sub := fun b hb => by simp at hb; simp [hb]
  frame := fun _ _ _ ⟨h1, ⟨o, k, h4, h5⟩, h3⟩ hk => ⟨h1.at fun o e => hk I (by simp) o e, ⟨o, k, hk T9 (by simp) o h4, h5⟩, h3.at fun o e => hk a (by simp) o e⟩
  item := fun i s Q E hi ⟨h1, ⟨o, k, h4, h5⟩, h3⟩ hQ => by
    have hlen : pl.length = arr.size := by have := hpl.length_eq; simpa using this
    have hall : ∀ j ∈ pl, j < arr.size := fun j hj => List.mem_range.mp (hpl.mem_iff.mp hj)
    have hfm : ∀ (l : List Nat), (∀ j ∈ l, j < arr.size) → ∀ i : Nat, (l.filterMap fun j => arr[j]?)[i]? = (l[i]?).bind fun j => arr[j]? := by
      intro l
      induction l with
      | nil => intro _ i; rfl
      | cons x r ih =>
        intro hl i
        have hx := hl x (.head _)
        rw [List.filterMap_cons_some (b := arr[x]) (by simp [hx])]
        cases i with
        | zero => simp [hx]
        | succ i => simpa using ih (fun j hj => hl j (.tail _ hj)) i
    have hj : pl[i]? = some pl[i] := List.getElem?_eq_getElem (by omega)
    have hin : pl[i] < arr.size := hall _ (List.getElem_mem _)
    have hx : arr[pl[i]]? = some arr[pl[i]] := Array.getElem?_eq_getElem hin
    refine nx_drawn hf h1 ⟨o, k, h4, h5⟩ h3 hj hx fun h' hit' hs' => ?_
    refine hQ _ h' s.toks ?_ ⟨hit', ⟨o, k, hs'.extBut T9 o hne2 h4, h5⟩, h3.at fun o e => hs'.extBut a o hne e⟩ fun b o hb' e => hs'.extBut b o (fun h => hb' (by simp [h])) e
    rw [List.getElem?_map, hfm pl hall, hj]
    show Option.map (·.2) arr[pl[i]]? = _
    rw [hx]; rfl
  done := fun s Q E ⟨h1, h4, h3⟩ hQ => by
    have hlen : pl.length = arr.size := by have := hpl.length_eq; simpa using this
    exact nx_drawn_end hh hf h1 h4 h3 (List.getElem?_eq_none (by omega)) fun h' hk => hQ h' s.toks fun b o hb' e => hk b o (fun h => hb' (by simp [h])) e
  self := fun _ _ _ _ ⟨h1, _⟩ hQ => it_self h1 hQ
end


end
section
theorem noneZ9 : True := by
  k_with_none
  trivial
theorem len_set_slot : typeLookup (.type "set") "__len__" = pure (some (.builtin "set.__len__")) := by rw [typeLookup_type, builtinLookup_eq_fast]; kernel_rfl
section
variable {prog : Program} {w : World} {A : Around} {E : Value → Shared → Prop} {s : Shared} {a : Addr} {es : List (Int × Value)}
theorem hint_set {r : Addr} {Q : Bool → Shared → Prop} (hT : s.TypeIs (.ref r) "set") (h : Q false s) : wpAny (model prog w) A (Builtin.List.listLengthHint (.ref r)) Q E s := by
  unfold Builtin.List.listLengthHint
  refine wpAny_bind (wpAny_specialOf hT len_set_slot ?_)
  generalize hid : ("set.__len__" : String) = id0
  wp_delta
  rw [show splitId id0 = some ("set", "__len__") from by subst hid; decide +kernel]
  subst hid
  refine wpAny_bind (wpAny_isInstance (T := "set") (b := true) hT (by rw [isSubtype_type]; kernel_rfl) ?_)
  refine wpAny_ite_split (fun hab => absurd hab (by decide)) (fun _ => ?_)
  refine wpAny_ite_split (fun _ => ?_) (fun hab => absurd (by decide +kernel) hab)
  refine wpAny_bind (wpAny_typeOf hT ?_)
  exact wpAny_pure h
def SetWalk (prog : Program) (w : World) (h₀ : Heap) (a : Addr) (es : List (Int × Value)) (I : Addr) (h' : Heap) : Prop :=
  ∃ (vs : List Value) (fp : List Addr) (St : Nat → Heap → Prop), vs.Perm (es.map (·.2)) ∧ (∀ A : Around, A.handled = none → Walks prog w A I fp [I] es.length (fun i v => vs[i]? = some v) St) ∧ St 0 h' ∧ (∀ b ∈ fp, b = a ∨ h₀.objs.size ≤ b) ∧ (∀ b o, h₀.get? b = some o → h'.get? b = some o) ∧ h₀.objs.size ≤ I
theorem set_iter {Q : Value → Shared → Prop} (hz : es.length ≤ 1000) (hS : SetIs w s.heap a es) (h : ∀ I h' dr, SetWalk prog w s.heap a es I h' → Q (.ref I) { s with heap := h', drawn := dr }) : wpAny (model prog w) A (pyIter (.ref a)) Q E s := by
  obtain ⟨o, arr, ep, t, ho, hex, hd, hp, hf, hled, hris⟩ := id hS
  have hlt : a < s.heap.objs.size := Heap.lt_size ho
  have hlen : es.length = arr.size := by rw [← hp.length_eq, Array.length_toList]
  refine wpAny_pyIter_slot ⟨o, ho, hex.1⟩ slot_setit (wpAny_call_entry slot_setit ⟨o, ho, hex.1⟩ entry_setit ?_ (args_setit _))
  unfold Builtin.«frozenset.__iter__»
  refine wpAny_bind (m := Builtin.Frozenset.slot0 _ _) (wpAny_pure ?_)
  refine wpAny_bind (m := Builtin.Frozenset.sizeOf _) ?_
  unfold Builtin.Frozenset.sizeOf
  refine wpAny_bind (wpAny_setEntries_of ho hd hf (wpAny_pure ?_))
  refine wpAny_bind ?_
  unfold setDrawn
  refine wpAny_bind (wpAny_setState_of ho hd hf ?_)
  refine wpAny_bind (m := setsByText) ?_
  unfold setsByText
  refine wpAny_bind (wpAny_askSetting (wpAny_pure ?_))
  dsimp only
  refine wpAny_pure ?_
  have fin : ∀ (first : Value) (h1 : Heap) (dr : Drawn) (fp : List Addr) (vs : List Value) (St : Nat → Heap → Prop), (∀ b o, s.heap.get? b = some o → h1.get? b = some o) → vs.Perm (es.map (·.2)) →
      (∀ A : Around, A.handled = none → Walks prog w A h1.objs.size fp [h1.objs.size] es.length (fun i v => vs[i]? = some v) St) → (∀ b ∈ fp, b = a ∨ s.heap.objs.size ≤ b) → s.heap.objs.size ≤ h1.objs.size →
      (∀ h2, IsIt h2 h1.objs.size first 0 a arr.size ep → (∀ b o, h1.get? b = some o → h2.get? b = some o) → St 0 h2) →
      wpAny (model prog w) A.in1 (setEpoch a >>= fun e => newFields "set_iterator" [first, rawInt 0, .ref a, rawInt (arr.size : Int), rawInt (e : Int)] >>= fun v => ret v)
        (fun fin s' => ∃ v, fin = Fin.done (Flow.ret v) ∧ ∃ T' r, s'.TypeIs v T' ∧ typeLookup (Value.type T') (Str.ofString "__next__") = pure (some r) ∧ Q v s') E { s with heap := h1, drawn := dr } := by
    intro first h1 dr fp vs St hk hv hW hfp hsz hSt
    obtain ⟨o1, ho1⟩ : ∃ o1, h1.get? a = some o1 ∧ o1 = o := ⟨o, hk _ _ ho, rfl⟩
    obtain ⟨ho1, rfl⟩ := ho1
    refine wpAny_bind (wpAny_setEpoch_of ho1 hd hf ?_)
    refine wpAny_bind (wpAny_newObj_type ?_)
    have hI : IsIt (h1.push { cls := .type "set_iterator", data := .fields [first, rawInt 0, .ref a, rawInt (arr.size : Int), rawInt (ep : Int)].toArray }) h1.objs.size first 0 a arr.size ep := ⟨_, Heap.get?_push_size _ rfl, rfl, rfl⟩
    refine wpAny_pure ⟨_, rfl, "set_iterator", _, ⟨_, Heap.get?_push_size _ rfl, rfl⟩, slot_setnx.lookup, ?_⟩
    exact h _ _ _ ⟨vs, fp, St, hv, hW, hSt _ hI (fun b o e => Heap.get?_push_of_some _ e), hfp, fun b o e => Heap.get?_push_of_some _ (hk _ _ e), hsz⟩
  show wpAny _ _ (if (!(w.params.followText "set-order") && (!t.plain && decide (arr.size > 1))) = true then _ else _) _ _ _
  have hne : a ≠ s.heap.objs.size := Nat.ne_of_lt hlt
  have self : s = { s with heap := s.heap, drawn := s.drawn } := rfl
  have slot : w.params.followText "set-order" = false → (!t.plain && decide (arr.size > 1)) = false → Ris t.place := fun hb hdr => by
    cases htp : t.plain with
    | true => exact hris htp
    | false =>
      rw [htp] at hdr
      have : ¬ arr.size > 1 := by simpa using hdr
      have hps : t.place.size = arr.size := by
        simp only [SetTable.fits, Bool.and_eq_true, beq_iff_eq] at hf
        exact hf.1
      intro x y hxy hy
      omega
  cases hb : w.params.followText "set-order" with
  | true =>
    rw [if_neg (by simp)]
    refine wpAny_bind (wpAny_pure ?_)
    refine fin (rawInt 0) s.heap s.drawn [s.heap.objs.size, a] ((pickOrder (w.params.setOrder a ep) arr).toList.map (·.2)) _ (fun _ _ e => e) (((pick_perm _ _).trans hp).map _) (fun A hh => by rw [hlen]; exact walk_text (I := s.heap.objs.size) hh hb hf hne) ?_ (Nat.le_refl _) ?_
    · intro b hb'
      rcases List.mem_cons.mp hb' with rfl | hb'
      · exact .inr (Nat.le_refl _)
      · exact .inl (List.mem_singleton.mp hb')
    · exact fun h2 hI hk => ⟨hI, ⟨o, hk _ _ ho, hd⟩⟩
  | false =>
    cases hdr : (!t.plain && decide (arr.size > 1)) with
    | false =>
      rw [if_neg (by simp)]
      refine wpAny_bind (wpAny_pure ?_)
      have hr := slot hb hdr
      refine fin (rawInt 0) s.heap s.drawn [s.heap.objs.size, a] (arr.toList.map (·.2)) _ (fun _ _ e => e) (hp.map _) (fun A hh => by rw [hlen]; exact walk_slot (I := s.heap.objs.size) (ep := ep) hh hb (by rw [hled, hb]; rfl) hr hf hdr hne) ?_ (Nat.le_refl _) ?_
      · intro b hb'
        rcases List.mem_cons.mp hb' with rfl | hb'
        · exact .inr (Nat.le_refl _)
        · exact .inl (List.mem_singleton.mp hb')
      · exact fun h2 hI hk => ⟨⟨0, hI, below_zero _ hr⟩, ⟨o, hk _ _ ho, hd⟩⟩
    | true =>
      rw [if_pos (by simp)]
      refine wpAny_bind (wpAny_drawOrder arr.size (List.range arr.size) _ _ (by simp) fun pl dr hpl => ?_)
      have hplen : pl.length = arr.size := by have := hpl.length_eq; simpa using this
      refine wpAny_bind (wpAny_newTuple ?_ (by rw [List.length_map, sizeLine_eq]; omega))
      have hsz : (s.heap.push { cls := .type "tuple", data := .seq (pl.map fun j : Nat => rawInt (j : Int)).toArray }).objs.size = s.heap.objs.size + 1 := by rw [Heap.size_push]
      have hpm : ((pl.filterMap fun j => arr[j]?).map (·.2)).Perm (es.map (·.2)) := by
        refine List.Perm.map _ ?_
        have h1 := hpl.filterMap fun j => arr[j]?
        rw [filterMap_getElem?_range] at h1
        exact h1.trans hp
      refine fin (.ref s.heap.objs.size) (s.heap.push { cls := .type "tuple", data := .seq (pl.map fun j : Nat => rawInt (j : Int)).toArray }) dr [(s.heap.push { cls := .type "tuple", data := .seq (pl.map fun j : Nat => rawInt (j : Int)).toArray }).objs.size, a, s.heap.objs.size] _ _ (fun b o e => Heap.get?_push_of_some _ e) hpm
        (fun A hh => by rw [hlen]; exact walk_drawn (T9 := s.heap.objs.size) (ep := ep) (t := t) hh hf hpl (by rw [hsz]; exact Nat.ne_of_lt (Nat.lt_succ_of_lt hlt)) (by rw [hsz]; exact Nat.ne_of_lt (Nat.lt_succ_self _))) ?_ (by rw [hsz]; exact Nat.le_succ _) ?_
      · intro b hb'
        rcases List.mem_cons.mp hb' with rfl | hb'
        · exact .inr (by rw [hsz]; exact Nat.le_succ _)
        · rcases List.mem_cons.mp hb' with rfl | hb'
          · exact .inl rfl
          · exact .inr (by rw [List.mem_singleton.mp hb']; exact Nat.le_refl _)
      · exact fun h2 hI hk => ⟨hI, ⟨_, _, hk _ _ (Heap.get?_push_size _ rfl), rfl⟩, ⟨o, hk _ _ (Heap.get?_push_of_some _ ho), hd⟩⟩
end


end
section
theorem noneZ10 : True := by
  k_with_none
  trivial
section
variable {prog : Program} {w : World} {A : Around} {E : Value → Shared → Prop} {s : Shared} {a : Addr} {es : List (Int × Value)}
theorem set_extend {R : Result → Shared → Prop} (hh : A.handled = none) (hz : es.length ≤ 1000) (hS : SetIs w s.heap a es) (S : Addr) (hSa : S ≠ a) (res : Value) (c₀ : Nat) (hL : s.heap.get? S = some { cls := .type "list", data := .seq #[] c₀ })
    (hR : ∀ h' tk dr vs c', vs.Perm (es.map (·.2)) → (∀ b o, b ≠ S → s.heap.get? b = some o → h'.get? b = some o) → h'.get? S = some { cls := .type "list", dict := none, data := .seq (vs : List Value).toArray c', slots := #[] } → R (.ok (.ret res)) { s with heap := h', drawn := dr, toks := tk }) :
    wpAny (model prog w) A.in1 (Builtin.List.listExtendWith (.ref S) (.ref a) res)
      (fun fin s' => match fin with | .done f => R (.ok f) s' | .again c' => c'.quiet = true ∧ codeAny (model prog w) A c' R s') (fun e s' => R (.error e) s') s := by
  have hSlt : S < s.heap.objs.size := Heap.lt_size hL
  unfold Builtin.List.listExtendWith
  refine wpAny_bind (wpAny_typeOf (T := "set") hS.typeIs ?_)
  have h1 : Builtin.List.listSameRef (.ref S) (.ref a) = false := by simp [Builtin.List.listSameRef, hSa]
  have h2 : (Value.type "set" == Value.type "list") = false := by decide
  have h3 : (Value.type "set" == Value.type "tuple") = false := by decide
  simp only [h1, h2, h3, Bool.or_false, Bool.false_eq_true, if_false]
  refine wpAny_bind (set_iter hz hS fun I h₁ dr hW => ?_)
  obtain ⟨vs, fp, St, hv, W, st, hfp, hk, hI⟩ := hW
  have hSI : S ≠ I := fun e => by rw [e] at hSlt; exact absurd hSlt (Nat.not_lt.mpr hI)
  have hSf : S ∉ fp := fun hm => by
    rcases hfp S hm with e | e
    · exact hSa e
    · exact absurd hSlt (Nat.not_lt.mpr e)
  have key : ∀ (h : Heap) (c₁ tk : Nat), St 0 h → (∀ b o, b ≠ S → s.heap.get? b = some o → h.get? b = some o) → h.get? S = some { cls := .type "list", data := .seq #[] c₁ } →
      codeAny (model prog w) A (.builtin "list.extend.loop" ⟨[.ref S, .ref I, res], []⟩) R { s with heap := h, drawn := dr, toks := tk } := by
    intro h c₁ tk hst hk' hS₁
    refine codeAny_extend_loopS (W A.in1 (by simpa using hh)).toS (by rw [sizeLine_eq]; omega) S hSf res es.length 0 _ #[] c₁ rfl (Nat.zero_le _) hst hS₁ (ItemsOf.nil _) fun s' acc' c' hm hS' hacc => ?_
    rw [Moved.eq_with hm]
    have hvl : vs.length = es.length := by rw [hv.length_eq, List.length_map]
    have hav : acc' = vs.toArray := by
      refine Array.ext (by rw [hacc.1, List.size_toArray, hvl]) fun j h1 h2 => ?_
      have : vs[j]? = some acc'[j] := hacc.2 j acc'[j] (Array.getElem?_eq_getElem h1)
      have h3 : j < vs.length := by rw [hvl, ← hacc.1]; exact h1
      rw [List.getElem?_eq_getElem h3] at this
      injection this with this
      rw [← this]; simp
    subst hav
    refine hR s'.heap s'.toks dr vs c' hv (fun b o hb e => hm.heap b o (fun hmem => ?_) (hk' b o hb e)) hS'
    rcases List.mem_cons.mp hmem with e' | hmem
    · exact hb e'
    · rw [List.mem_singleton.mp hmem] at e
      exact absurd (Heap.lt_size e) (Nat.not_lt.mpr hI)
  have hS₁ := hk _ _ hL
  refine wpAny_bind (wpAny_holding (hint_set (s := { s with heap := h₁, drawn := dr }) (hS.at fun o e => hk _ _ e).typeIs ?_))
  refine wpAny_ite_split (fun _ => ?_) (fun _ => wpAny_pure ⟨plainId_quiet PySem.F.plain_extend_loop _, key _ c₀ _ st (fun b o _ e => hk _ _ e) hS₁⟩)
  refine wpAny_bind (wpAny_rule ?_)
  refine wpAny_bind ?_
  show wpAny _ _ (updateSeq S (·.push .none) >>= fun _ => updateSeq S (·.pop)) _ _ _
  refine wpAny_bind (wpAny_updateSeq hS₁ rfl ?_)
  have hS₂ := Heap.get?_update_self (Obj.mapSeq (·.push Value.none)) hS₁ rfl
  refine wpAny_updateSeq (hz := by seq_fits) hS₂ rfl ?_
  have hS₃ := Heap.get?_update_self (Obj.mapSeq (·.pop)) hS₂ rfl
  refine wpAny_pure ⟨plainId_quiet PySem.F.plain_extend_loop _, key _ _ _ ?_ (fun b o hb e => ?_) hS₃⟩
  · refine (W A hh).frame 0 _ _ st fun b hb o e => ?_
    have hbS : b ≠ S := fun h => hSf (h ▸ hb)
    exact (Heap.get?_update_other _ _ (Ne.symm hbS)).trans ((Heap.get?_update_other _ _ (Ne.symm hbS)).trans e)
  · exact (Heap.get?_update_other _ _ (Ne.symm hb)).trans ((Heap.get?_update_other _ _ (Ne.symm hb)).trans (hk _ _ e))
theorem set_collect {R : List Value → Shared → Prop} (hh : A.handled = none) (hz : es.length ≤ 1000) (hS : SetIs w s.heap a es)
    (h : ∀ (h' : Heap) (tk : Nat) (dr : Drawn) (vs : List Value), (∀ b o, s.heap.get? b = some o → h'.get? b = some o) → vs.Perm (es.map (·.2)) → R vs { s with heap := h', drawn := dr, toks := tk }) :
    wpAny (model prog w) A (collect (.ref a)) R E s := by
  have hlt := hS.lt
  unfold collect
  refine wpAny_bind (wpAny_runValue (codeAny_builtin entry_proto_collect' ?_))
  rw [Around.under_plainId PySem.F.plain_proto_collect _]
  show wpAny _ A.in1 (newList [] >>= fun l => again (.builtin "list.__iadd__" ⟨[l, .ref a], []⟩)) _ _ s
  refine wpAny_bind (wpAny_newObj_type ?_)
  refine wpAny_pure ⟨plainId_quiet PySem.F.plain_list_iadd _, codeAny_builtin entry_list_iadd' ?_⟩
  rw [Around.under_plainId PySem.F.plain_list_iadd _]
  have hS₁ : (s.heap.push { cls := .type "list", data := .seq ([] : List Value).toArray }).get? s.heap.objs.size = some { cls := .type "list", data := .seq #[] } := Heap.get?_push_size _ rfl
  show wpAny _ A.in1 (Builtin.List.listExtendWith (.ref s.heap.objs.size) (.ref a) (.ref s.heap.objs.size)) _ _ _
  have key := set_extend (prog := prog) (A := A) (s := { s with heap := s.heap.push { cls := .type "list", data := .seq ([] : List Value).toArray } })
    (R := fun (q : Result) (s' : Shared) => ∃ (h' : Heap) (tk : Nat) (dr : Drawn) (vs : List Value) (c' : Nat), q = .ok (.ret (.ref s.heap.objs.size)) ∧ s' = { s with heap := h', drawn := dr, toks := tk } ∧
      (∀ b o, s.heap.get? b = some o → h'.get? b = some o) ∧ h'.get? s.heap.objs.size = some { cls := .type "list", dict := none, data := .seq vs.toArray c', slots := #[] } ∧ vs.Perm (es.map (·.2)))
    hh hz (hS.at fun o e => Heap.get?_push_of_some _ e) s.heap.objs.size (Nat.ne_of_gt hlt) (.ref s.heap.objs.size) 0 hS₁
    (fun h' tk dr vs c' hv hk hS' => ⟨h', tk, dr, vs, c', rfl, rfl, fun b o e => hk b o (Nat.ne_of_lt (Heap.lt_size e)) (Heap.get?_push_of_some _ e), hS', hv⟩)
  refine wpAny_mono key (fun fin s' x => ?_) fun e s' x => ?_
  · cases fin with
    | done f =>
      obtain ⟨h', tk, dr, vs, c', e, rfl, hk, hS', hv⟩ := x
      cases e
      show wpAny _ A (load s.heap.objs.size >>= _) _ _ _
      refine wpAny_bind (wpAny_load hS' ?_)
      exact wpAny_pure (h h' tk dr vs hk hv)
    | again c₁ =>
      refine ⟨x.1, codeAny_mono x.2 fun q s₂ y => ?_⟩
      obtain ⟨h', tk, dr, vs, c', rfl, rfl, hk, hS', hv⟩ := y
      show wpAny _ A (load s.heap.objs.size >>= _) _ _ _
      refine wpAny_bind (wpAny_load hS' ?_)
      exact wpAny_pure (h h' tk dr vs hk hv)
  · obtain ⟨_, _, _, _, _, e', _⟩ := x
    cases e'
theorem ints_perm : ∀ {us vs : List Value}, us.Perm vs → ∀ {ns : List Int}, IntsAre vs ns → ∃ ms : List Int, IntsAre us ms ∧ ms.Perm ns := by
  intro us vs p
  induction p with
  | nil => exact fun h => ⟨_, h, .rfl⟩
  | cons x _ ih =>
    intro ns h
    cases h with
    | cons n t h =>
      obtain ⟨ms, h1, h2⟩ := ih h
      exact ⟨n :: ms, .cons n t h1, h2.cons n⟩
  | swap x y l =>
    intro ns h
    cases h with
    | cons n t h =>
      cases h with
      | cons n' t' h => exact ⟨_, .cons n' t' (.cons n t h), .swap ..⟩
  | trans _ _ ih1 ih2 =>
    intro ns h
    obtain ⟨ms, h1, h2⟩ := ih2 h
    obtain ⟨ks, h3, h4⟩ := ih1 h1
    exact ⟨ks, h3, h4.trans h2⟩
theorem sorted_set {h₀ : Heap} {L : Addr} {m : Str → Option Value} {news : List (Addr × Obj)} {ns : List Int} {Q : Value → Shared → Prop} (hh : A.handled = none) (F : Fr h₀ L s.heap m) (N : News h₀ L s.heap news) (hS : SetIs w s.heap a es) (hI : IntsAre (es.map (·.2)) ns) (hup : ns.Pairwise (· < ·)) (hn : ns.length < 64)
    (h : ∀ (B : Nat) (h' : Heap) (tk : Nat) (dr : Drawn) (vs : List Value) (c : Nat), IntsAre vs ns → Fr h₀ L h' m → News h₀ L h' ((B, listOf vs.toArray c) :: news) → (∀ p ∈ news, p.1 < B) → Q (.ref B) { s with heap := h', drawn := dr, toks := tk }) :
    wpAny (model prog w) A (call (.builtin "sorted") [.ref a]) Q E s := by
  have hel : es.length = ns.length := by have := hI.length; simpa using this
  refine PySem.Calls.call_function_entry kind_sorted plain_sorted entry_sorted (args_sorted1 _) ?_
  unfold Builtin.«sorted»
  refine wpAny_bind (m := checkCount "sorted" 1 1 _) (wpAny_pure ?_)
  refine wpAny_bind (set_collect (A := A.in1) hh (by omega) hS fun h' tk dr vs hk hv => ?_)
  obtain ⟨ms, hm1, hm2⟩ := ints_perm hv hI
  have hvl : vs.length = ns.length := by rw [hm1.length, hm2.length_eq]
  refine wpAny_bind (wpAny_newList ?_ (by rw [sizeLine_eq]; omega))
  have F1 : Fr h₀ L h' m := F.keeps hk
  have N1 : News h₀ L h' news := fun p hp => ⟨hk _ _ (N p hp).1, (N p hp).2⟩
  have hoL : (h'.push { cls := .type "list", data := .seq vs.toArray }).get? h'.objs.size = some (seqObj "list" vs.toArray 0) := Heap.get?_push_size _ rfl
  refine wpAny_bind (wpAny_holding (wpAny_call_entry slot_list_sort ⟨_, hoL, rfl⟩ entry_list_sort (list_sort_tree hoL hm1 (by omega) fun out ns' a1 a2 a3 => ⟨_, rfl, ?_⟩) (args_list_sort _)))
  have hns : ns' = ns := PySem.W.ksm_same (a2.trans hm2) a3 (hup.imp fun h => Int.le_of_lt h)
  subst hns
  refine wpAny_pure ⟨_, rfl, ?_⟩
  obtain ⟨e, he⟩ := sortedHeap_at (out := out) hoL
  have hold : ∀ b o, h'.get? b = some o → (sortedHeap (h'.push { cls := .type "list", data := .seq vs.toArray }) h'.objs.size vs out).get? b = some o := fun b o hb => by
    have hlt := Heap.lt_size hb
    rw [sortedHeap_old (Nat.ne_of_lt hlt) (by rw [Heap.size_push]; exact Nat.lt_succ_of_lt hlt)]
    exact Heap.get?_push_of_some _ hb
  exact h h'.objs.size _ tk dr out.toList e a1 (F1.kept hold) (N1.kept_cons F1 hold (Nat.le_refl _) he) (fun p hp => Heap.lt_size (N1 p hp).1)
theorem set_of {h₀ : Heap} {L l : Addr} {m : Str → Option Value} {news : List (Addr × Obj)} {vs : List Value} {k : Nat} {ns : List Int} {Q : Value → Shared → Prop} (hh : A.handled = none) (F : Fr h₀ L s.heap m) (N : News h₀ L s.heap news) (hm : (l, listOf vs.toArray k) ∈ news) (hI : IntsAre vs ns) (hup : ns.Pairwise (· < ·)) (hn : ns.length < 64)
    (h : ∀ (D : Addr) (h' : Heap) (tk : Nat) (es : List (Int × Value)), SetIs w h' D es → IntsAre (es.map (·.2)) ns → Fr h₀ L h' m → News h₀ L h' news → Q (.ref D) { s with heap := h', toks := tk }) :
    wpAny (model prog w) A (call (.type "set") [.ref l]) Q E s := by
  refine call_set hh ⟨_, (N _ hm).1, rfl, k, rfl⟩ hI (hup.imp fun h => Int.ne_of_lt h) (by unfold scanBound; omega) fun h' tk es hS hE hk => ?_
  have hk' : ∀ b o, s.heap.get? b = some o → h'.get? b = some o := fun b o e => hk b o (Heap.lt_size e) e
  exact h _ h' tk es hS hE (F.kept hk') fun p hp => ⟨hk' _ _ (N p hp).1, (N p hp).2⟩
end


end
section
theorem noneC2 : True := by
  k_with_none
  trivial
abbrev codeTup (x y : Value) (i : Int) (t : Tok) : Obj := { cls := .type "tuple", data := .seq [x, y, .int i t].toArray 0 }
theorem rules1 : True := by
  k_with "My enter!" => (first | (((case kAᵣ => exact rfl); (case kFᵣ => exact rfl); (case kKᵣ => assumption); (case k1ᵣ => k_asm); (case k2ᵣ => k_asm); (case k3ᵣ => k_asm); (case k4ᵣ => k_asm); (case k5ᵣ => k_asm); (case k6ᵣ => k_is); (case k7ᵣ => k_is); (case k8ᵣ => ktr_room); (case k9ᵣ => exact BindsTo.of_eq rfl); (case c5ᵣ => decide); (case kBᵣ => exact locs rfl); (case c2ᵣ => exact rfl); (case c3ᵣ => exact rfl); (case c4ᵣ => exact rfl); k_whole; intro g'ᵣ L'ᵣ h'ᵣ FG'ᵣ F'ᵣ N'ᵣ B'ᵣ X'ᵣ T'ᵣ; (try dsimp only); (try k_fold))) | fail "no")
  k_with "My A!" => (first | (first | with_reducible assumption | exact AIs.set_e (by walk_at "My A") | exact AIs.set_b (by walk_at "My A") | exact AIs.set_cp (by walk_at "My A") | exact AIs.set_b0 (by walk_at "My A")) | fail "no")
  k_with "My S!" => (first | (first | with_reducible assumption | exact SIs.set_hb (by walk_at "My S") | exact SIs.set_bb (by walk_at "My S")) | fail "no")
  k_with "My k_get!" => (first | (first
  | exact SIs.stack (by walk_at "My S") | exact SIs.heap (by walk_at "My S") | exact SIs.trail (by walk_at "My S") | exact SIs.hb (by walk_at "My S") | exact SIs.bb (by walk_at "My S") | exact SIs.max_heap (by walk_at "My S")
  | exact SIs.stack_put (by walk_at "My S") | exact SIs.mark (by walk_at "My S") | exact SIs.push (by walk_at "My S") | exact SIs.new_var (by walk_at "My S") | exact SIs.bind (by walk_at "My S")
  | exact AIs.code (by walk_at "My A") | exact AIs.store (by walk_at "My A") | exact AIs.cp (by walk_at "My A") | exact AIs.e (by walk_at "My A") | exact AIs.b (by walk_at "My A") | exact AIs.b0 (by walk_at "My A")
  | exact AIs.top (by walk_at "My A") | exact AIs.set_choice (by walk_at "My A") | exact AIs.push_environment (by walk_at "My A") | exact AIs.push_choice (by walk_at "My A") | exact AIs.choice_part (by walk_at "My A") | exact AIs.cut_back (by walk_at "My A") | exact AIs.choices (by walk_at "My A")) | fail "no")
  k_with "My mem!" => (first | (first | exact List.Mem.head _ | (refine' List.Mem.tail _ ?_; walk_at "My mem") | assumption) | fail "no")
  k_with "My k_all!" => (first | (with_reducible assumption) | fail "no")
  k_with "call builtin:len!" => (first | ((k_here; (with_reducible show wpAny _ _ (call (Value.builtin "len") [Value.ref _]) _ _ _); k_dflt (refine' m_len ?k1ᵣ ?k2ᵣ ?k3ᵣ ?_; (case k1ᵣ => k_asm); (case k2ᵣ => walk_at "My mem"); (case k3ᵣ => omega); k_whole))) | fail "no")
  k_with "setItem ref int!" => (first | ((k_here; k_dflt (refine' m_set ?k1ᵣ ?k2ᵣ ?k3ᵣ ?k4ᵣ ?k5ᵣ ?k6ᵣ ?_; (case k1ᵣ => k_asm); (case k2ᵣ => k_asm); (case k6ᵣ => k_upd); (case k3ᵣ => omega); (case k4ᵣ => omega); (case k5ᵣ => omega); k_whole; intro h'ᵣ F'ᵣ N'ᵣ; (try k_sweep)))) | fail "no")
  k_with "call builtin:list.append!" => (first | ((k_here; k_dflt (refine' m_append ?k1ᵣ ?k2ᵣ ?k3ᵣ ?k4ᵣ ?_; (case k1ᵣ => k_asm); (case k2ᵣ => k_asm); (case k4ᵣ => k_upd); (case k3ᵣ => omega); k_whole; intro h'ᵣ F'ᵣ N'ᵣ; (try k_sweep)))) | fail "no")
  k_with "WhlIf!" => (first | ((first | (refine WhlIf.yes (decide_eq_true (by omega)) ?_) | (refine WhlIf.no (decide_eq_false (by omega)) ?_))) | fail "no")
  trivial


@[irreducible] def putAt (ks : List Value) (i : Int) (v : Value) : List Value := if i.toNat < ks.length then ks.set i.toNat v else ks ++ [v]
theorem length_putAt {ks : List Value} {i : Int} {v : Value} (h0 : 0 ≤ i) (h : i ≤ ks.length) : (putAt ks i v).length = max ks.length (i.toNat + 1) := by
  unfold putAt
  split
  · rw [List.length_set, Nat.max_eq_left (by omega)]
  · rw [List.length_append, List.length_singleton, Nat.max_eq_right (by omega)]; omega
theorem len_putAt {ks : List Value} {i : Int} {v : Value} (h0 : 0 ≤ i) (h : i ≤ ks.length) : ks.length ≤ (putAt ks i v).length ∧ i + 1 ≤ (putAt ks i v).length ∧ (putAt ks i v).length ≤ ks.length + 1 := by
  unfold putAt
  split
  · rw [List.length_set]; exact ⟨Nat.le_refl _, by omega, Nat.le_succ _⟩
  · rw [List.length_append, List.length_singleton]; exact ⟨Nat.le_succ _, by omega, Nat.le_refl _⟩
theorem put_lt {its : List Value} {i : Int} {v : Value} (h0 : 0 ≤ i) (h : i < its.length) : its.set i.toNat v = putAt its i v := by
  unfold putAt; rw [if_pos (by omega)]
theorem put_eq {its : List Value} {i : Int} {v : Value} (h : i = its.length) : its ++ [v] = putAt its i v := by
  unfold putAt; rw [if_neg (by omega)]
theorem putAt_congr {ks ks' : List Value} {i i' : Int} {v : Value} (h : ks = ks') (e : i = i') : putAt ks i v = putAt ks' i' v := by rw [h, e]
def putSeq : List Value → Int → List Value → List Value
  | ks, _, [] => ks
  | ks, p, v :: vs => putSeq (putAt ks p v) (p + 1) vs
theorem get_putAt {ks : List Value} {i : Int} {v : Value} (h0 : 0 ≤ i) (h : i ≤ ks.length) (j : Nat) : (putAt ks i v)[j]? = if j = i.toNat then some v else ks[j]? := by
  unfold putAt
  split
  · rw [List.getElem?_set]
    by_cases e : j = i.toNat
    · subst e; simp; omega
    · rw [if_neg e, if_neg (fun q => e q.symm)]
  · rw [List.getElem?_append]
    by_cases e : j = i.toNat
    · subst e
      rw [if_pos rfl, if_neg (by omega)]
      have : i.toNat - ks.length = 0 := by omega
      rw [this]; rfl
    · rw [if_neg e]
      split
      · rfl
      · have h1 : j - ks.length ≠ 0 := by omega
        rw [List.getElem?_eq_none (by simp; omega), List.getElem?_eq_none (by omega)]
theorem length_putSeq : ∀ (vs ks : List Value) (p : Int), 0 ≤ p → p ≤ ks.length → (putSeq ks p vs).length = max ks.length (p.toNat + vs.length)
  | [], ks, p, h0, h => by simp [putSeq]; omega
  | v :: vs, ks, p, h0, h => by
    unfold putSeq
    rw [length_putSeq vs _ _ (by omega) (len_putAt h0 h).2.1, length_putAt h0 h, List.length_cons]
    have e1 : (p + 1).toNat = p.toNat + 1 := by omega
    rw [e1, Nat.max_assoc, Nat.max_eq_right (Nat.le_add_right _ _), Nat.add_assoc, Nat.add_comm 1]
theorem len_putSeq (vs ks : List Value) (p : Int) (h0 : 0 ≤ p) (h : p ≤ ks.length) : ks.length ≤ (putSeq ks p vs).length ∧ p + vs.length ≤ ((putSeq ks p vs).length : Int) ∧ (putSeq ks p vs).length ≤ ks.length + vs.length := by
  have h1 := Nat.le_max_right ks.length (p.toNat + vs.length)
  rw [← length_putSeq vs ks p h0 h] at h1
  refine ⟨by rw [length_putSeq vs ks p h0 h]; exact Nat.le_max_left _ _, by omega, ?_⟩
  rw [length_putSeq vs ks p h0 h]
  exact Nat.max_le.mpr ⟨Nat.le_add_right _ _, by omega⟩
theorem get_putSeq : ∀ (vs ks : List Value) (p : Int), 0 ≤ p → p ≤ ks.length → ∀ j : Nat, (putSeq ks p vs)[j]? = if p.toNat ≤ j ∧ j < p.toNat + vs.length then vs[j - p.toNat]? else ks[j]?
  | [], ks, p, h0, h, j => by unfold putSeq; rw [if_neg (by simp)]
  | v :: vs, ks, p, h0, h, j => by
    unfold putSeq
    rw [get_putSeq vs _ _ (by omega) (len_putAt h0 h).2.1, get_putAt h0 h]
    have e : (p + 1).toNat = p.toNat + 1 := by omega
    rw [e, List.length_cons]
    by_cases c1 : j = p.toNat
    · subst c1
      rw [if_neg (by omega), if_pos rfl, if_pos (by omega)]
      simp
    · rw [if_neg c1]
      by_cases c2 : p.toNat + 1 ≤ j ∧ j < p.toNat + 1 + vs.length
      · rw [if_pos c2, if_pos (by omega)]
        have : j - p.toNat = (j - (p.toNat + 1)) + 1 := by omega
        rw [this, List.getElem?_cons_succ]
      · rw [if_neg c2, if_neg (by omega)]


set_option maxHeartbeats 8000000 in
theorem c_put {w : World} {mean : ExcName → Option Value} {mg mb : Str → Option Value} {dp un : Nat} {gd : Option (List Code)} {cn : Str} {cs : Scope} {a : Addr} {ccd : Value} {cl : List (Str × Addr)} {outer : List Env} {A₀ : Around} {base h₀ : Heap} {L : Addr} {m : Str → Option Value} {s : Shared} {Q E : Value → Shared → Prop} {A AD S SD HL KL TR CD C1 C2 : Nat} {ea es : List DictEntry} {na ns kh kk kt kc : Nat} {hs ks ts : List Value} {tl : List (Addr × Obj)} {cp e b b0 hb bb : Int} {u1 u2 u3 u4 v1 v2 v3 : Tok} {c1a c1b c2a c2b : Value} {c1t c2t : Tok} {i : Int} {t : Tok} {v : Value}
   (B : Below A₀ base outer h₀) (F : Fr h₀ L s.heap m) (X : (K0 w.params).In h₀) (N : News h₀ L s.heap ((A, instObj 541 AD) :: (AD, dictOf ea na) :: (S, instObj 381 SD) :: (SD, dictOf es ns) :: (HL, listOf (hs).toArray kh) :: (KL, listOf (ks).toArray kk) :: (TR, listOf (ts).toArray kt) :: (CD, listOf ([.ref C1, .ref C2] : List Value).toArray kc) :: (C1, codeTup c1a c1b 2 c1t) :: (C2, codeTup c2a c2b 1 c2t) :: tl)) (T : TopL mean mg mb h₀) (hk : cs.kind = .function) (hdp : dp + 3 < recursionLimit) (hun : un + 24 < cLine)
   (ord : C1 < C2 ∧ C2 < CD ∧ CD < AD ∧ AD < A ∧ A < SD ∧ SD < S ∧ S < HL ∧ HL < KL ∧ KL < TR) (off : Off AD SD HL KL TR tl) (hA : AIs ea S CD cp e b b0 u1 u2 u3 u4) (hS : SIs es HL KL TR hb bb v1 v2 v3) (hi0 : 0 ≤ i) (hi : i ≤ ks.length) (hlen : ks.length ≤ 1000)
   (hret : ∀ h' tk' kk' ks', ks' = putAt ks i v → ks.length ≤ ks'.length ∧ i + 1 ≤ ks'.length ∧ ks'.length ≤ ks.length + 1 → Fr h₀ L h' m → News h₀ L h' ((A, instObj 541 AD) :: (AD, dictOf ea na) :: (S, instObj 381 SD) :: (SD, dictOf es ns) :: (HL, listOf (hs).toArray kh) :: (KL, listOf (ks').toArray kk') :: (TR, listOf (ts).toArray kt) :: (CD, listOf ([.ref C1, .ref C2] : List Value).toArray kc) :: (C1, codeTup c1a c1b 2 c1t) :: (C2, codeTup c2a c2b 1 c2t) :: tl) → Q .none { s with heap := h', toks := tk' }) :
    wpAny (model PySem.Challenge.rw_rh0105_01.row.prog w) (ktrTop dp un gd cn cs L a ccd cl outer) (call (.ref 279) [.ref S, .int i t, v]) Q E s := by
  obtain ⟨o1, o2, o3, o4, o5, o6, o7, o8, o9⟩ := ord
  obtain ⟨offA, offS, offH, offK, offT⟩ := off
  refine wpAny_call ?_
  k_dflt (refine' code_def (binds := [(Str.ofString "self", .ref S), (Str.ofString "i", .int i t), (Str.ofString "value", v)]) ?k1ᵣ ?k2ᵣ ?k3ᵣ ?k4ᵣ ?k5ᵣ ?kAᵣ ?kFᵣ ?kKᵣ ?k6ᵣ ?k7ᵣ ?k8ᵣ ?k9ᵣ ?kBᵣ ?_ ?c2ᵣ ?c3ᵣ ?c4ᵣ ?c5ᵣ; walk_at "My enter")
  k_steps
  · rename News _ _ _ _ => N9
    rw [put_lt hi0 (by assumption)] at N9
    exact hret _ _ _ _ rfl (len_putAt hi0 hi) (by assumption) N9
  · rename News _ _ _ _ => N9
    rw [put_eq (i := i) (by omega)] at N9
    exact hret _ _ _ _ rfl (len_putAt hi0 hi) (by assumption) N9




theorem q_int {Q : Value → Shared → Prop} {x y : Int} {t : Tok} {S : Shared} (e : y = x) (h : Q (.int x t) S) : Q (.int y t) S := e ▸ h
theorem rules2 : True := by
  k_with "My fit!" => (first | (first | omega | ((try simp only [List.length_cons, List.length_nil, List.length_append, List.length_map]); omega)) | fail "no")
  k_with "My at!" => (first | (first | with_reducible assumption | rfl | (refine' (show 0 ≤ (_ : Int) → (_ : Option Value) = some _ from by with_reducible assumption) ?_; omega)) | fail "no")
  trivial
theorem m_itemV {prog : Program} {w : World} {A : Around} {E : Value → Shared → Prop} {s : Shared} {h₀ : Heap} {L D : Addr} {news : List (Addr × Obj)} {its : List Value} {n : Nat} {value slice : Expr} {k : Int} {u : Tok} {x : Value} {Q : Value → Shared → Prop} (N : News h₀ L s.heap news) (hm : (D, listOf its.toArray n) ∈ news)
    (h0 : 0 ≤ k) (hb : its.length < 2 ^ 62) (hx : its[k.toNat]? = some x) (h : Q x s)
    (hs : subscripted slice false (.ref D) (.int k u) = operate [.ref D, .int k u] (getItem (.ref D) (.int k u)) := by with_unfolding_all rfl) :
    wpAny (model prog w) A (subscriptTail value slice (.ref D) (.int k u)) Q E s :=
  kba_turn (value' := PySem.Expr.Name (PySem.Str.ofString "_") ⟨0, 0, 0, 0⟩) (fun _ => rfl) (m_item N hm h0 hb hx h hs (fun _ => rfl))
theorem m_tupV {prog : Program} {w : World} {A : Around} {E : Value → Shared → Prop} {s : Shared} {h₀ : Heap} {L D : Addr} {news : List (Addr × Obj)} {its : List Value} {n : Nat} {value slice : Expr} {k : Int} {u : Tok} {x : Value} {Q : Value → Shared → Prop} (N : News h₀ L s.heap news) (hm : (D, ({ cls := .type "tuple", data := .seq its.toArray n } : Obj)) ∈ news)
    (h0 : 0 ≤ k) (hb : its.length < 2 ^ 62) (hx : its[k.toNat]? = some x) (h : Q x s)
    (hs : subscripted slice false (.ref D) (.int k u) = operate [.ref D, .int k u] (getItem (.ref D) (.int k u)) := by with_unfolding_all rfl) :
    wpAny (model prog w) A (subscriptTail value slice (.ref D) (.int k u)) Q E s := by
  have hlt := (List.getElem?_eq_some_iff.mp hx).1
  refine kba_turn (value' := PySem.Expr.Name (PySem.Str.ofString "_") ⟨0, 0, 0, 0⟩) (fun _ => rfl) (item_tupleL (j := k.toNat) (News.isTup N hm) (by omega) (by omega) ?_ hx h hs (fun _ => rfl))
  have h1 : ¬ k < 0 := by omega
  have h2 : k < (its.length : Int) := by omega
  simp [seqIndex?, h1, h0, h2]
theorem rules3 : True := by
  k_with "subscriptTail!" => (first | ((k_here; (with_reducible show wpAny _ _ (subscriptTail _ _ (Value.ref _) (Value.int _ _)) _ _ _); k_dflt (first
  | (refine' m_itemV ?k1ᵣ ?k2ᵣ ?k3ᵣ ?k4ᵣ ?k5ᵣ ?_; (case k1ᵣ => k_asm); (case k2ᵣ => walk_at "My mem"); (case k3ᵣ => omega); (case k4ᵣ => walk_at "My fit"); (case k5ᵣ => walk_at "My at"); k_whole)
  | (refine' m_tupV ?k1ᵣ ?k2ᵣ ?k3ᵣ ?k4ᵣ ?k5ᵣ ?_; (case k1ᵣ => k_asm); (case k2ᵣ => walk_at "My mem"); (case k3ᵣ => omega); (case k4ᵣ => walk_at "My fit"); (case k5ᵣ => walk_at "My at"); k_whole)))) | fail "no")
  trivial


theorem m_setattr {w : World} {A : Around} {E : Value → Shared → Prop} {s : Shared} {K : Frag} {x C dx L : Addr} {h₀ : Heap} {m : Str → Option Value} {news : List (Addr × Obj)} {news' : Tok → List (Addr × Obj)} {ox : Obj} {es : List DictEntry} {n : Nat} {name : Str} {v old : Value}  {prog : Program}
    {Q : Unit → Shared → Prop} (F : Fr h₀ L s.heap m) (X₀ : K.In h₀) (N : News h₀ L s.heap news) (I : InstAt s.heap x ox C (some (dictOf es n))) (hd : ox.dict = some dx)
    (hs : findIn K (.ref C) "__setattr__" = some (some (.builtin "object.__setattr__"))) (hp : plainOver K C = true) (ht : takerIn K C name = some none) (hh : hasDictIn K C = true) (hl : getL name es = some (some old))
    (U : ∀ t, Upd dx (dictOf es n) (dictOf (putL name (PyData.keyHash w.params name) (.str name t) v es) n) news (news' t)) (hz : es.length ≤ 40)
    (h : ∀ t tk h', Fr h₀ L h' m → News h₀ L h' (news' t) → Q () { s with heap := h', toks := tk }) :
    wpAny (model prog w) A (setAttr (.ref x) name v) Q E s := by
  have hn : putN name es n = n := by
    unfold putN
    have : es.any (·.key.isStr name) = true := by
      rw [getL_of_find] at hl
      cases hf : List.find? (fun (x : DictEntry) => x.key.isStr name) es with
      | none => rw [hf] at hl; exfalso; revert hl; dsimp only [Option.map_none]; split <;> intro z <;> cases z
      | some e => exact List.any_eq_true.mpr ⟨e, List.mem_of_find?_eq_some hf, List.find?_some (p := fun (x : DictEntry) => x.key.isStr name) hf⟩
    rw [if_pos this]
  exact set_dict F X₀ N I hd hs hp ht hh (by rw [hl]; rfl) (by rw [hn]) (U _) (by rw [len_putL _ _ _ hl]; omega) (h _ _)
theorem rules4 : True := by
  k_with "setAttr ref!" => (first | ((k_here; k_dflt (refine' m_setattr ?k1ᵣ ?k2ᵣ ?k3ᵣ ?k4ᵣ ?k5ᵣ ?k6ᵣ ?k7ᵣ ?k8ᵣ ?k9ᵣ ?k10ᵣ ?k11ᵣ ?k12ᵣ ?_; (case k1ᵣ => k_asm); (case k2ᵣ => k_asm); (case k3ᵣ => k_asm); (case k4ᵣ => k_inst); (case k5ᵣ => exact rfl); (case k6ᵣ => k_is); (case k7ᵣ => k_is); (case k8ᵣ => k_is); (case k9ᵣ => k_is); (case k10ᵣ => k_get); (case k11ᵣ => (intro t'ᵣ; k_upd)); (case k12ᵣ => first | exact AIs.len (by walk_at "My A") | exact SIs.len (by walk_at "My S")); k_whole; intro t'ᵣ tk'ᵣ h'ᵣ F'ᵣ N'ᵣ; (try dsimp only at N'ᵣ); (try dsimp only); (try k_sweep)))) | fail "no")
  trivial

theorem m_getattr {w : World} {A : Around} {E : Value → Shared → Prop} {s : Shared} {K : Frag} {x C L : Addr} {h₀ : Heap} {m : Str → Option Value} {ox : Obj} {es : List DictEntry} {n : Nat} {name : Str} {v : Value} {prog : Program}
    {expr : Bool} {Q : Value → Shared → Prop} {attr : Option Value} (F : Fr h₀ L s.heap m) (X₀ : K.In h₀) (I : InstAt s.heap x ox C (some (dictOf es n))) (hg : plainGet K C name = true) (hh : hasDictIn K C = true)
    (ha : findIn K (.ref C) name = some attr) (hn : noGet K attr = true) (hl : getL name es = some (some v)) (hv : handedIn v = true) (h : ∀ tk, Q v { s with toks := tk }) :
    wpAny (model prog w) A (getAttr (.ref x) name expr) Q E s := get_own F X₀ I hg hh ha hn hl hv (h _)
theorem rules5 : True := by
  k_with "getAttr ref!" => (first | ((k_here; k_dflt (refine' m_getattr ?k1ᵣ ?k2ᵣ ?k3ᵣ ?k4ᵣ ?k5ᵣ ?k6ᵣ ?k7ᵣ ?k8ᵣ ?k9ᵣ ?_; (case k1ᵣ => k_asm); (case k2ᵣ => k_asm); (case k3ᵣ => k_inst); (case k4ᵣ => k_is); (case k5ᵣ => k_is); (case k6ᵣ => k_is); (case k7ᵣ => k_is); (case k8ᵣ => k_get); (case k9ᵣ => k_handed); k_whole; intro tk'ᵣ; (try dsimp only)))) | fail "no")
  trivial


theorem news_sub {h₀ h : Heap} {L : Addr} {l l' : List (Addr × Obj)} (N : News h₀ L h l) (hs : ∀ p ∈ l', p ∈ l) : News h₀ L h l' := fun p hp => N p (hs p hp)
set_option linter.unusedSimpArgs false
theorem rot1 {h₀ h : Heap} {L : Addr} {x1 c1 c2 c3 c4 c5 c6 c7 c8 c9 c10 : Addr × Obj} {tl : List (Addr × Obj)} (N : News h₀ L h (x1 :: c1 :: c2 :: c3 :: c4 :: c5 :: c6 :: c7 :: c8 :: c9 :: c10 :: tl)) : News h₀ L h (c1 :: c2 :: c3 :: c4 :: c5 :: c6 :: c7 :: c8 :: c9 :: c10 :: x1 :: tl) := by
  refine news_sub N ?_
  ((repeat (first | (refine sub_cons 0 rfl ?_) | (refine sub_cons 1 rfl ?_) | (refine sub_cons 2 rfl ?_) | (refine sub_cons 3 rfl ?_) | (refine sub_cons 4 rfl ?_) | (refine sub_cons 5 rfl ?_) | (refine sub_cons 6 rfl ?_) | (refine sub_cons 7 rfl ?_) | (refine sub_cons 8 rfl ?_) | (refine sub_cons 9 rfl ?_) | (refine sub_cons 10 rfl ?_) | (refine sub_cons 11 rfl ?_) | (refine sub_cons 12 rfl ?_) | (refine sub_cons 13 rfl ?_) | (refine sub_cons 14 rfl ?_))); (first | exact sub_nil | exact sub_drop 0 rfl | exact sub_drop 1 rfl | exact sub_drop 2 rfl | exact sub_drop 3 rfl | exact sub_drop 4 rfl | exact sub_drop 5 rfl | exact sub_drop 6 rfl | exact sub_drop 7 rfl | exact sub_drop 8 rfl | exact sub_drop 9 rfl | exact sub_drop 10 rfl | exact sub_drop 11 rfl | exact sub_drop 12 rfl | exact sub_drop 13 rfl | exact sub_drop 14 rfl))
theorem rot2 {h₀ h : Heap} {L : Addr} {x1 x2 c1 c2 c3 c4 c5 c6 c7 c8 c9 c10 : Addr × Obj} {tl : List (Addr × Obj)} (N : News h₀ L h (x1 :: x2 :: c1 :: c2 :: c3 :: c4 :: c5 :: c6 :: c7 :: c8 :: c9 :: c10 :: tl)) : News h₀ L h (c1 :: c2 :: c3 :: c4 :: c5 :: c6 :: c7 :: c8 :: c9 :: c10 :: x1 :: x2 :: tl) := by
  refine news_sub N ?_
  ((repeat (first | (refine sub_cons 0 rfl ?_) | (refine sub_cons 1 rfl ?_) | (refine sub_cons 2 rfl ?_) | (refine sub_cons 3 rfl ?_) | (refine sub_cons 4 rfl ?_) | (refine sub_cons 5 rfl ?_) | (refine sub_cons 6 rfl ?_) | (refine sub_cons 7 rfl ?_) | (refine sub_cons 8 rfl ?_) | (refine sub_cons 9 rfl ?_) | (refine sub_cons 10 rfl ?_) | (refine sub_cons 11 rfl ?_) | (refine sub_cons 12 rfl ?_) | (refine sub_cons 13 rfl ?_) | (refine sub_cons 14 rfl ?_))); (first | exact sub_nil | exact sub_drop 0 rfl | exact sub_drop 1 rfl | exact sub_drop 2 rfl | exact sub_drop 3 rfl | exact sub_drop 4 rfl | exact sub_drop 5 rfl | exact sub_drop 6 rfl | exact sub_drop 7 rfl | exact sub_drop 8 rfl | exact sub_drop 9 rfl | exact sub_drop 10 rfl | exact sub_drop 11 rfl | exact sub_drop 12 rfl | exact sub_drop 13 rfl | exact sub_drop 14 rfl))
theorem rot3 {h₀ h : Heap} {L : Addr} {x1 x2 x3 c1 c2 c3 c4 c5 c6 c7 c8 c9 c10 : Addr × Obj} {tl : List (Addr × Obj)} (N : News h₀ L h (x1 :: x2 :: x3 :: c1 :: c2 :: c3 :: c4 :: c5 :: c6 :: c7 :: c8 :: c9 :: c10 :: tl)) : News h₀ L h (c1 :: c2 :: c3 :: c4 :: c5 :: c6 :: c7 :: c8 :: c9 :: c10 :: x1 :: x2 :: x3 :: tl) := by
  refine news_sub N ?_
  ((repeat (first | (refine sub_cons 0 rfl ?_) | (refine sub_cons 1 rfl ?_) | (refine sub_cons 2 rfl ?_) | (refine sub_cons 3 rfl ?_) | (refine sub_cons 4 rfl ?_) | (refine sub_cons 5 rfl ?_) | (refine sub_cons 6 rfl ?_) | (refine sub_cons 7 rfl ?_) | (refine sub_cons 8 rfl ?_) | (refine sub_cons 9 rfl ?_) | (refine sub_cons 10 rfl ?_) | (refine sub_cons 11 rfl ?_) | (refine sub_cons 12 rfl ?_) | (refine sub_cons 13 rfl ?_) | (refine sub_cons 14 rfl ?_))); (first | exact sub_nil | exact sub_drop 0 rfl | exact sub_drop 1 rfl | exact sub_drop 2 rfl | exact sub_drop 3 rfl | exact sub_drop 4 rfl | exact sub_drop 5 rfl | exact sub_drop 6 rfl | exact sub_drop 7 rfl | exact sub_drop 8 rfl | exact sub_drop 9 rfl | exact sub_drop 10 rfl | exact sub_drop 11 rfl | exact sub_drop 12 rfl | exact sub_drop 13 rfl | exact sub_drop 14 rfl))
theorem drop1 {h₀ h : Heap} {L : Addr} {x1 c1 c2 c3 c4 c5 c6 c7 c8 c9 c10 : Addr × Obj} {tl : List (Addr × Obj)} (N : News h₀ L h (c1 :: c2 :: c3 :: c4 :: c5 :: c6 :: c7 :: c8 :: c9 :: c10 :: x1 :: tl)) : News h₀ L h (c1 :: c2 :: c3 :: c4 :: c5 :: c6 :: c7 :: c8 :: c9 :: c10 :: tl) := by
  refine news_sub N ?_
  ((repeat (first | (refine sub_cons 0 rfl ?_) | (refine sub_cons 1 rfl ?_) | (refine sub_cons 2 rfl ?_) | (refine sub_cons 3 rfl ?_) | (refine sub_cons 4 rfl ?_) | (refine sub_cons 5 rfl ?_) | (refine sub_cons 6 rfl ?_) | (refine sub_cons 7 rfl ?_) | (refine sub_cons 8 rfl ?_) | (refine sub_cons 9 rfl ?_) | (refine sub_cons 10 rfl ?_) | (refine sub_cons 11 rfl ?_) | (refine sub_cons 12 rfl ?_) | (refine sub_cons 13 rfl ?_) | (refine sub_cons 14 rfl ?_))); (first | exact sub_nil | exact sub_drop 0 rfl | exact sub_drop 1 rfl | exact sub_drop 2 rfl | exact sub_drop 3 rfl | exact sub_drop 4 rfl | exact sub_drop 5 rfl | exact sub_drop 6 rfl | exact sub_drop 7 rfl | exact sub_drop 8 rfl | exact sub_drop 9 rfl | exact sub_drop 10 rfl | exact sub_drop 11 rfl | exact sub_drop 12 rfl | exact sub_drop 13 rfl | exact sub_drop 14 rfl))
theorem rules6 : True := by
  k_with "My call!" => (first | (((case Bᵣ => k_asm); (case Fᵣ => k_asm); (case Xᵣ => k_asm); (case Nᵣ => first | k_asm | exact rot1 (by k_asm) | exact rot2 (by k_asm) | exact rot3 (by k_asm)); (case Tᵣ => k_asm); (case hkᵣ => first | exact rfl | assumption); (case ordᵣ => first | (refine ⟨?_, ?_, ?_, ?_, ?_, ?_, ?_, ?_, ?_⟩ <;> with_reducible assumption) | omega); (case offᵣ => exact ⟨by k_all, by k_all, by k_all, by k_all, by k_all⟩); (case hAᵣ => walk_at "My A"); (case hSᵣ => walk_at "My S"); (case hdpᵣ => ktr_room); (case hunᵣ => ktr_units))) | fail "no")
  trivial


set_option maxHeartbeats 8000000 in
theorem c_mark {w : World} {mean : ExcName → Option Value} {mg mb : Str → Option Value} {dp un : Nat} {gd : Option (List Code)} {cn : Str} {cs : Scope} {a : Addr} {ccd : Value} {cl : List (Str × Addr)} {outer : List Env} {A₀ : Around} {base h₀ : Heap} {L : Addr} {m : Str → Option Value} {s : Shared} {Q E : Value → Shared → Prop} {A AD S SD HL KL TR CD C1 C2 : Nat} {ea es : List DictEntry} {na ns kh kk kt kc : Nat} {hs ks ts : List Value} {tl : List (Addr × Obj)} {cp e b b0 hb bb : Int} {u1 u2 u3 u4 v1 v2 v3 : Tok} {c1a c1b c2a c2b : Value} {c1t c2t : Tok} 
   (B : Below A₀ base outer h₀) (F : Fr h₀ L s.heap m) (X : (K0 w.params).In h₀) (N : News h₀ L s.heap ((A, instObj 541 AD) :: (AD, dictOf ea na) :: (S, instObj 381 SD) :: (SD, dictOf es ns) :: (HL, listOf (hs).toArray kh) :: (KL, listOf (ks).toArray kk) :: (TR, listOf (ts).toArray kt) :: (CD, listOf ([.ref C1, .ref C2] : List Value).toArray kc) :: (C1, codeTup c1a c1b 2 c1t) :: (C2, codeTup c2a c2b 1 c2t) :: tl)) (T : TopL mean mg mb h₀) (hk : cs.kind = .function) (hdp : dp + 3 < recursionLimit) (hun : un + 24 < cLine)
   (ord : C1 < C2 ∧ C2 < CD ∧ CD < AD ∧ AD < A ∧ A < SD ∧ SD < S ∧ S < HL ∧ HL < KL ∧ KL < TR) (off : Off AD SD HL KL TR tl) (hA : AIs ea S CD cp e b b0 u1 u2 u3 u4) (hS : SIs es HL KL TR hb bb v1 v2 v3) (htr : ts.length ≤ 1000)
   (hret : ∀ h' tk' t', Fr h₀ L h' m → News h₀ L h' ((A, instObj 541 AD) :: (AD, dictOf ea na) :: (S, instObj 381 SD) :: (SD, dictOf es ns) :: (HL, listOf (hs).toArray kh) :: (KL, listOf (ks).toArray kk) :: (TR, listOf (ts).toArray kt) :: (CD, listOf ([.ref C1, .ref C2] : List Value).toArray kc) :: (C1, codeTup c1a c1b 2 c1t) :: (C2, codeTup c2a c2b 1 c2t) :: tl) → Q (.int (ts.length : Int) t') { s with heap := h', toks := tk' }) :
    wpAny (model PySem.Challenge.rw_rh0105_01.row.prog w) (ktrTop dp un gd cn cs L a ccd cl outer) (call (.ref 265) [.ref S]) Q E s := by
  obtain ⟨o1, o2, o3, o4, o5, o6, o7, o8, o9⟩ := ord
  obtain ⟨offA, offS, offH, offK, offT⟩ := off
  refine wpAny_call ?_
  k_dflt (refine' code_def (binds := [(Str.ofString "self", .ref S)]) ?k1ᵣ ?k2ᵣ ?k3ᵣ ?k4ᵣ ?k5ᵣ ?kAᵣ ?kFᵣ ?kKᵣ ?k6ᵣ ?k7ᵣ ?k8ᵣ ?k9ᵣ ?kBᵣ ?_ ?c2ᵣ ?c3ᵣ ?c4ᵣ ?c5ᵣ; walk_at "My enter")
  k_steps
  all_goals (rename News _ _ _ _ => N9; exact hret _ _ _ (by assumption) N9)


@[irreducible] def topV (e b cp cnt : Int) : Int := if e > b then e + 2 + (3 - cp) else if 0 ≤ b then b + cnt + 8 else 0
set_option maxHeartbeats 8000000 in
theorem c_top {w : World} {mean : ExcName → Option Value} {mg mb : Str → Option Value} {dp un : Nat} {gd : Option (List Code)} {cn : Str} {cs : Scope} {a : Addr} {ccd : Value} {cl : List (Str × Addr)} {outer : List Env} {A₀ : Around} {base h₀ : Heap} {L : Addr} {m : Str → Option Value} {s : Shared} {Q E : Value → Shared → Prop} {A AD S SD HL KL TR CD C1 C2 : Nat} {ea es : List DictEntry} {na ns kh kk kt kc : Nat} {hs ks ts : List Value} {tl : List (Addr × Obj)} {cp e b b0 hb bb : Int} {u1 u2 u3 u4 v1 v2 v3 : Tok} {c1a c1b c2a c2b : Value} {c1t c2t : Tok} {cnt pl : Int} {ct : Tok}
   (B : Below A₀ base outer h₀) (F : Fr h₀ L s.heap m) (X : (K0 w.params).In h₀) (N : News h₀ L s.heap ((A, instObj 541 AD) :: (AD, dictOf ea na) :: (S, instObj 381 SD) :: (SD, dictOf es ns) :: (HL, listOf (hs).toArray kh) :: (KL, listOf (ks).toArray kk) :: (TR, listOf (ts).toArray kt) :: (CD, listOf ([.ref C1, .ref C2] : List Value).toArray kc) :: (C1, codeTup c1a c1b 2 c1t) :: (C2, codeTup c2a c2b 1 c2t) :: tl)) (T : TopL mean mg mb h₀) (hk : cs.kind = .function) (hdp : dp + 3 < recursionLimit) (hun : un + 24 < cLine)
   (ord : C1 < C2 ∧ C2 < CD ∧ CD < AD ∧ AD < A ∧ A < SD ∧ SD < S ∧ S < HL ∧ HL < KL ∧ KL < TR) (off : Off AD SD HL KL TR tl) (hA : AIs ea S CD cp e b b0 u1 u2 u3 u4) (hS : SIs es HL KL TR hb bb v1 v2 v3) (hpl : topV e b cp cnt = pl) (hcp : cp = 1 ∨ cp = 2) (hcnt : 0 ≤ b → ks[b.toNat]? = some (.int cnt ct)) (hlen : ks.length ≤ 1000) (he : -1 ≤ e ∧ e ≤ 1000) (hb1 : -1 ≤ b ∧ b ≤ 1000) (hc1 : 0 ≤ b → 0 ≤ cnt ∧ cnt ≤ 2)
   (hret : ∀ h' tk' t', Fr h₀ L h' m → News h₀ L h' ((A, instObj 541 AD) :: (AD, dictOf ea na) :: (S, instObj 381 SD) :: (SD, dictOf es ns) :: (HL, listOf (hs).toArray kh) :: (KL, listOf (ks).toArray kk) :: (TR, listOf (ts).toArray kt) :: (CD, listOf ([.ref C1, .ref C2] : List Value).toArray kc) :: (C1, codeTup c1a c1b 2 c1t) :: (C2, codeTup c2a c2b 1 c2t) :: tl) → Q (.int pl t') { s with heap := h', toks := tk' }) :
    wpAny (model PySem.Challenge.rw_rh0105_01.row.prog w) (ktrTop dp un gd cn cs L a ccd cl outer) (call (.ref 454) [.ref A]) Q E s := by
  obtain ⟨o1, o2, o3, o4, o5, o6, o7, o8, o9⟩ := ord
  obtain ⟨offA, offS, offH, offK, offT⟩ := off
  refine wpAny_call ?_
  k_dflt (refine' code_def (binds := [(Str.ofString "self", .ref A)]) ?k1ᵣ ?k2ᵣ ?k3ᵣ ?k4ᵣ ?k5ᵣ ?kAᵣ ?kFᵣ ?kKᵣ ?k6ᵣ ?k7ᵣ ?k8ᵣ ?k9ᵣ ?kBᵣ ?_ ?c2ᵣ ?c3ᵣ ?c4ᵣ ?c5ᵣ; walk_at "My enter")
  subst hpl
  rcases hcp with rfl | rfl
  all_goals k_steps
  all_goals ((rename News _ _ _ _ => N9); (refine q_int ?_ (hret _ _ _ (by assumption) N9)); unfold topV; (repeat' split) <;> omega)




set_option maxHeartbeats 8000000 in
theorem c_set {w : World} {mean : ExcName → Option Value} {mg mb : Str → Option Value} {dp un : Nat} {gd : Option (List Code)} {cn : Str} {cs : Scope} {a : Addr} {ccd : Value} {cl : List (Str × Addr)} {outer : List Env} {A₀ : Around} {base h₀ : Heap} {L : Addr} {m : Str → Option Value} {s : Shared} {Q E : Value → Shared → Prop} {A AD S SD HL KL TR CD C1 C2 : Nat} {ea es : List DictEntry} {na ns kh kk kt kc : Nat} {hs ks ts : List Value} {tl : List (Addr × Obj)} {cp e b b0 hb bb : Int} {u1 u2 u3 u4 v1 v2 v3 : Tok} {c1a c1b c2a c2b : Value} {c1t c2t : Tok} {cnt x hx : Int} {ct xt ht : Tok}
   (B : Below A₀ base outer h₀) (F : Fr h₀ L s.heap m) (X : (K0 w.params).In h₀) (N : News h₀ L s.heap ((A, instObj 541 AD) :: (AD, dictOf ea na) :: (S, instObj 381 SD) :: (SD, dictOf es ns) :: (HL, listOf (hs).toArray kh) :: (KL, listOf (ks).toArray kk) :: (TR, listOf (ts).toArray kt) :: (CD, listOf ([.ref C1, .ref C2] : List Value).toArray kc) :: (C1, codeTup c1a c1b 2 c1t) :: (C2, codeTup c2a c2b 1 c2t) :: tl)) (T : TopL mean mg mb h₀) (hk : cs.kind = .function) (hdp : dp + 3 < recursionLimit) (hun : un + 24 < cLine)
   (ord : C1 < C2 ∧ C2 < CD ∧ CD < AD ∧ AD < A ∧ A < SD ∧ SD < S ∧ S < HL ∧ HL < KL ∧ KL < TR) (off : Off AD SD HL KL TR tl) (hA : AIs ea S CD cp e b b0 u1 u2 u3 u4) (hS : SIs es HL KL TR hb bb v1 v2 v3) (hcnt : 0 ≤ x → ks[x.toNat]? = some (.int cnt ct)) (hv : 0 ≤ x → ks[(x + cnt + 6).toNat]? = some (.int hx ht)) (hlen : ks.length ≤ 1000) (hb1 : x ≤ 1000) (hc1 : 0 ≤ x → 0 ≤ cnt ∧ cnt ≤ 2)
   (hret : ∀ h' tk' ea' es' hb' bb' t1 t2 t3, Fr h₀ L h' m → News h₀ L h' ((A, instObj 541 AD) :: (AD, dictOf ea' na) :: (S, instObj 381 SD) :: (SD, dictOf es' ns) :: (HL, listOf (hs).toArray kh) :: (KL, listOf (ks).toArray kk) :: (TR, listOf (ts).toArray kt) :: (CD, listOf ([.ref C1, .ref C2] : List Value).toArray kc) :: (C1, codeTup c1a c1b 2 c1t) :: (C2, codeTup c2a c2b 1 c2t) :: tl) → AIs ea' S CD cp e x b0 u1 u2 t1 u4 → SIs es' HL KL TR hb' bb' t2 t3 v3 → (x < 0 ∧ hb' = 0 ∧ bb' = 0 ∨ 0 ≤ x ∧ hb' = hx ∧ bb' = x) → Q .none { s with heap := h', toks := tk' }) :
    wpAny (model PySem.Challenge.rw_rh0105_01.row.prog w) (ktrTop dp un gd cn cs L a ccd cl outer) (call (.ref 482) [.ref A, .int x xt]) Q E s := by
  obtain ⟨o1, o2, o3, o4, o5, o6, o7, o8, o9⟩ := ord
  obtain ⟨offA, offS, offH, offK, offT⟩ := off
  refine wpAny_call ?_
  k_dflt (refine' code_def (binds := [(Str.ofString "self", .ref A), (Str.ofString "b", .int x xt)]) ?k1ᵣ ?k2ᵣ ?k3ᵣ ?k4ᵣ ?k5ᵣ ?kAᵣ ?kFᵣ ?kKᵣ ?k6ᵣ ?k7ᵣ ?k8ᵣ ?k9ᵣ ?kBᵣ ?_ ?c2ᵣ ?c3ᵣ ?c4ᵣ ?c5ᵣ; walk_at "My enter")
  k_steps
  all_goals ((rename News _ _ _ _ => N9); (exact hret _ _ _ _ _ _ _ _ _ (by assumption) N9 (by walk_at "My A") (by walk_at "My S") (by omega)))




theorem rules7 : True := by
  k_with "call ref!" => (first | ((k_here; (with_reducible show wpAny _ _ (call (Value.ref 482) _) _ _ _); k_dflt (refine' c_set (B := ?Bᵣ) (F := ?Fᵣ) (X := ?Xᵣ) (N := ?Nᵣ) (T := ?Tᵣ) (hk := ?hkᵣ) (hdp := ?hdpᵣ) (hun := ?hunᵣ) (ord := ?ordᵣ) (off := ?offᵣ) (hA := ?hAᵣ) (hS := ?hSᵣ) (hcnt := ?z1ᵣ) (hv := ?z2ᵣ) (hlen := ?z3ᵣ) (hb1 := ?z4ᵣ) (hc1 := ?z5ᵣ) ?_; walk_at "My call"; (case z1ᵣ => first | with_reducible assumption | walk_at "My get"); (case z2ᵣ => first | with_reducible assumption | walk_at "My get"); (case z3ᵣ => omega); (case z4ᵣ => omega); (case z5ᵣ => first | with_reducible assumption | omega); intro h'ᵣ tk'ᵣ ea'ᵣ es'ᵣ hb'ᵣ bb'ᵣ t1'ᵣ t2'ᵣ t3'ᵣ F'ᵣ N'ᵣ hA'ᵣ hS'ᵣ e'ᵣ; (try dsimp only)))) | fail "no")
  trivial


set_option maxHeartbeats 8000000 in
theorem c_cut {w : World} {mean : ExcName → Option Value} {mg mb : Str → Option Value} {dp un : Nat} {gd : Option (List Code)} {cn : Str} {cs : Scope} {a : Addr} {ccd : Value} {cl : List (Str × Addr)} {outer : List Env} {A₀ : Around} {base h₀ : Heap} {L : Addr} {m : Str → Option Value} {s : Shared} {Q E : Value → Shared → Prop} {A AD S SD HL KL TR CD C1 C2 : Nat} {ea es : List DictEntry} {na ns kh kk kt kc : Nat} {hs ks ts : List Value} {tl : List (Addr × Obj)} {cp e b b0 hb bb : Int} {u1 u2 u3 u4 v1 v2 v3 : Tok} {c1a c1b c2a c2b : Value} {c1t c2t : Tok} {cnt x hx : Int} {ct xt ht : Tok}
   (B : Below A₀ base outer h₀) (F : Fr h₀ L s.heap m) (X : (K0 w.params).In h₀) (N : News h₀ L s.heap ((A, instObj 541 AD) :: (AD, dictOf ea na) :: (S, instObj 381 SD) :: (SD, dictOf es ns) :: (HL, listOf (hs).toArray kh) :: (KL, listOf (ks).toArray kk) :: (TR, listOf (ts).toArray kt) :: (CD, listOf ([.ref C1, .ref C2] : List Value).toArray kc) :: (C1, codeTup c1a c1b 2 c1t) :: (C2, codeTup c2a c2b 1 c2t) :: tl)) (T : TopL mean mg mb h₀) (hk : cs.kind = .function) (hdp : dp + 4 < recursionLimit) (hun : un + 32 < cLine)
   (ord : C1 < C2 ∧ C2 < CD ∧ CD < AD ∧ AD < A ∧ A < SD ∧ SD < S ∧ S < HL ∧ HL < KL ∧ KL < TR) (off : Off AD SD HL KL TR tl) (hA : AIs ea S CD cp e b b0 u1 u2 u3 u4) (hS : SIs es HL KL TR hb bb v1 v2 v3) (hcnt : 0 ≤ x → ks[x.toNat]? = some (.int cnt ct)) (hv : 0 ≤ x → ks[(x + cnt + 6).toNat]? = some (.int hx ht)) (hlen : ks.length ≤ 1000) (hb1 : x ≤ 1000) (hc1 : 0 ≤ x → 0 ≤ cnt ∧ cnt ≤ 2)
   (hret : ∀ h' tk' ea' es' b' hb' bb' t1 t2 t3, Fr h₀ L h' m → News h₀ L h' ((A, instObj 541 AD) :: (AD, dictOf ea' na) :: (S, instObj 381 SD) :: (SD, dictOf es' ns) :: (HL, listOf (hs).toArray kh) :: (KL, listOf (ks).toArray kk) :: (TR, listOf (ts).toArray kt) :: (CD, listOf ([.ref C1, .ref C2] : List Value).toArray kc) :: (C1, codeTup c1a c1b 2 c1t) :: (C2, codeTup c2a c2b 1 c2t) :: tl) → AIs ea' S CD cp e b' b0 u1 u2 t1 u4 → SIs es' HL KL TR hb' bb' t2 t3 v3 → (b ≤ x ∧ b' = b ∧ hb' = hb ∧ bb' = bb ∨ x < b ∧ b' = x ∧ (x < 0 ∧ hb' = 0 ∧ bb' = 0 ∨ 0 ≤ x ∧ hb' = hx ∧ bb' = x)) → Q .none { s with heap := h', toks := tk' }) :
    wpAny (model PySem.Challenge.rw_rh0105_01.row.prog w) (ktrTop dp un gd cn cs L a ccd cl outer) (call (.ref 524) [.ref A, .int x xt]) Q E s := by
  obtain ⟨o1, o2, o3, o4, o5, o6, o7, o8, o9⟩ := ord
  obtain ⟨offA, offS, offH, offK, offT⟩ := off
  refine wpAny_call ?_
  k_dflt (refine' code_def (binds := [(Str.ofString "self", .ref A), (Str.ofString "b", .int x xt)]) ?k1ᵣ ?k2ᵣ ?k3ᵣ ?k4ᵣ ?k5ᵣ ?kAᵣ ?kFᵣ ?kKᵣ ?k6ᵣ ?k7ᵣ ?k8ᵣ ?k9ᵣ ?kBᵣ ?_ ?c2ᵣ ?c3ᵣ ?c4ᵣ ?c5ᵣ; walk_at "My enter")
  k_steps
  all_goals ((rename News _ _ _ _ => N9); (exact hret _ _ _ _ _ _ _ _ _ _ (by assumption) N9 (by walk_at "My A") (by walk_at "My S") (by omega)))




set_option maxHeartbeats 8000000 in
theorem c_push {w : World} {mean : ExcName → Option Value} {mg mb : Str → Option Value} {dp un : Nat} {gd : Option (List Code)} {cn : Str} {cs : Scope} {a : Addr} {ccd : Value} {cl : List (Str × Addr)} {outer : List Env} {A₀ : Around} {base h₀ : Heap} {L : Addr} {m : Str → Option Value} {s : Shared} {Q E : Value → Shared → Prop} {A AD S SD HL KL TR CD C1 C2 : Nat} {ea es : List DictEntry} {na ns kh kk kt kc : Nat} {hs ks ts : List Value} {tl : List (Addr × Obj)} {cp e b b0 hb bb : Int} {u1 u2 u3 u4 v1 v2 v3 : Tok} {c1a c1b c2a c2b : Value} {c1t c2t : Tok} {v : Value}
   (B : Below A₀ base outer h₀) (F : Fr h₀ L s.heap m) (X : (K0 w.params).In h₀) (N : News h₀ L s.heap ((A, instObj 541 AD) :: (AD, dictOf ea na) :: (S, instObj 381 SD) :: (SD, dictOf es ns) :: (HL, listOf (hs).toArray kh) :: (KL, listOf (ks).toArray kk) :: (TR, listOf (ts).toArray kt) :: (CD, listOf ([.ref C1, .ref C2] : List Value).toArray kc) :: (C1, codeTup c1a c1b 2 c1t) :: (C2, codeTup c2a c2b 1 c2t) :: tl)) (T : TopL mean mg mb h₀) (hk : cs.kind = .function) (hdp : dp + 3 < recursionLimit) (hun : un + 24 < cLine)
   (ord : C1 < C2 ∧ C2 < CD ∧ CD < AD ∧ AD < A ∧ A < SD ∧ SD < S ∧ S < HL ∧ HL < KL ∧ KL < TR) (off : Off AD SD HL KL TR tl) (hA : AIs ea S CD cp e b b0 u1 u2 u3 u4) (hS : SIs es HL KL TR hb bb v1 v2 v3) (hlen : hs.length ≤ 1000)
   (hret : ∀ h' tk' kh' t', Fr h₀ L h' m → News h₀ L h' ((A, instObj 541 AD) :: (AD, dictOf ea na) :: (S, instObj 381 SD) :: (SD, dictOf es ns) :: (HL, listOf (hs ++ [v]).toArray kh') :: (KL, listOf (ks).toArray kk) :: (TR, listOf (ts).toArray kt) :: (CD, listOf ([.ref C1, .ref C2] : List Value).toArray kc) :: (C1, codeTup c1a c1b 2 c1t) :: (C2, codeTup c2a c2b 1 c2t) :: tl) → Q (.int (hs.length : Int) t') { s with heap := h', toks := tk' }) :
    wpAny (model PySem.Challenge.rw_rh0105_01.row.prog w) (ktrTop dp un gd cn cs L a ccd cl outer) (call (.ref 202) [.ref S, v]) Q E s := by
  obtain ⟨o1, o2, o3, o4, o5, o6, o7, o8, o9⟩ := ord
  obtain ⟨offA, offS, offH, offK, offT⟩ := off
  refine wpAny_call ?_
  k_dflt (refine' code_def (binds := [(Str.ofString "self", .ref S), (Str.ofString "cell", v)]) ?k1ᵣ ?k2ᵣ ?k3ᵣ ?k4ᵣ ?k5ᵣ ?kAᵣ ?kFᵣ ?kKᵣ ?k6ᵣ ?k7ᵣ ?k8ᵣ ?k9ᵣ ?kBᵣ ?_ ?c2ᵣ ?c3ᵣ ?c4ᵣ ?c5ᵣ; walk_at "My enter")
  k_steps
  all_goals ((rename News _ _ _ _ => N9); (exact hret _ _ _ _ (by assumption) N9))




theorem rules8 : True := by
  k_with "call ref!" => (first | ((k_here; (with_reducible show wpAny _ _ (call (Value.ref 202) _) _ _ _); (try dsimp only [List.cons_append, List.nil_append, List.append_nil]); k_dflt (refine' c_push (B := ?Bᵣ) (F := ?Fᵣ) (X := ?Xᵣ) (N := ?Nᵣ) (T := ?Tᵣ) (hk := ?hkᵣ) (hdp := ?hdpᵣ) (hun := ?hunᵣ) (ord := ?ordᵣ) (off := ?offᵣ) (hA := ?hAᵣ) (hS := ?hSᵣ) (hlen := ?z1ᵣ) ?_; walk_at "My call"; (case z1ᵣ => omega); intro h'ᵣ tk'ᵣ kh'ᵣ t'ᵣ F'ᵣ N'ᵣ; (try dsimp only)))) | fail "no")
  k_with "call ref!" => (first | ((k_here; (with_reducible show wpAny _ _ (call (Value.ref 279) _) _ _ _); (try dsimp only [List.cons_append, List.nil_append, List.append_nil]); k_dflt (refine' c_put (B := ?Bᵣ) (F := ?Fᵣ) (X := ?Xᵣ) (N := ?Nᵣ) (T := ?Tᵣ) (hk := ?hkᵣ) (hdp := ?hdpᵣ) (hun := ?hunᵣ) (ord := ?ordᵣ) (off := ?offᵣ) (hA := ?hAᵣ) (hS := ?hSᵣ) (hi0 := ?z1ᵣ) (hi := ?z2ᵣ) (hlen := ?z3ᵣ) ?_; walk_at "My call"; (case z1ᵣ => omega); (case z2ᵣ => omega); (case z3ᵣ => omega); intro h'ᵣ tk'ᵣ kk'ᵣ ks'ᵣ eK'ᵣ lK'ᵣ F'ᵣ N'ᵣ; (try dsimp only)))) | fail "no")
  k_with "call ref!" => (first | ((k_here; (try dsimp only); (with_reducible show wpAny _ _ (call (Value.ref 454) _) _ _ _); (try dsimp only [List.cons_append, List.nil_append, List.append_nil]); k_dflt (refine' c_top (B := ?Bᵣ) (F := ?Fᵣ) (X := ?Xᵣ) (N := ?Nᵣ) (T := ?Tᵣ) (hk := ?hkᵣ) (hdp := ?hdpᵣ) (hun := ?hunᵣ) (ord := ?ordᵣ) (off := ?offᵣ) (hA := ?hAᵣ) (hS := ?hSᵣ) (hpl := ?z0ᵣ) (hcp := ?z1ᵣ) (hcnt := ?z2ᵣ) (hlen := ?z3ᵣ) (he := ?z4ᵣ) (hb1 := ?z5ᵣ) (hc1 := ?z6ᵣ) ?_; walk_at "My call"; (case z0ᵣ => with_reducible assumption); (case z1ᵣ => with_reducible assumption); (case z2ᵣ => with_reducible assumption); (case z3ᵣ => omega); (case z4ᵣ => omega); (case z5ᵣ => omega); (case z6ᵣ => first | with_reducible assumption | omega); intro h'ᵣ tk'ᵣ t'ᵣ F'ᵣ N'ᵣ; (try dsimp only)))) | fail "no")
  k_with "call ref!" => (first | ((k_here; (with_reducible show wpAny _ _ (call (Value.ref 265) _) _ _ _); (try dsimp only [List.cons_append, List.nil_append, List.append_nil]); k_dflt (refine' c_mark (B := ?Bᵣ) (F := ?Fᵣ) (X := ?Xᵣ) (N := ?Nᵣ) (T := ?Tᵣ) (hk := ?hkᵣ) (hdp := ?hdpᵣ) (hun := ?hunᵣ) (ord := ?ordᵣ) (off := ?offᵣ) (hA := ?hAᵣ) (hS := ?hSᵣ) (htr := ?z1ᵣ) ?_; walk_at "My call"; (case z1ᵣ => omega); intro h'ᵣ tk'ᵣ t'ᵣ F'ᵣ N'ᵣ; (try dsimp only)))) | fail "no")
  trivial


set_option maxHeartbeats 8000000 in
theorem c_new_var {w : World} {mean : ExcName → Option Value} {mg mb : Str → Option Value} {dp un : Nat} {gd : Option (List Code)} {cn : Str} {cs : Scope} {a : Addr} {ccd : Value} {cl : List (Str × Addr)} {outer : List Env} {A₀ : Around} {base h₀ : Heap} {L : Addr} {m : Str → Option Value} {s : Shared} {Q E : Value → Shared → Prop} {A AD S SD HL KL TR CD C1 C2 : Nat} {ea es : List DictEntry} {na ns kh kk kt kc : Nat} {hs ks ts : List Value} {tl : List (Addr × Obj)} {cp e b b0 hb bb : Int} {u1 u2 u3 u4 v1 v2 v3 : Tok} {c1a c1b c2a c2b : Value} {c1t c2t : Tok} 
   (B : Below A₀ base outer h₀) (F : Fr h₀ L s.heap m) (X : (K0 w.params).In h₀) (N : News h₀ L s.heap ((A, instObj 541 AD) :: (AD, dictOf ea na) :: (S, instObj 381 SD) :: (SD, dictOf es ns) :: (HL, listOf (hs).toArray kh) :: (KL, listOf (ks).toArray kk) :: (TR, listOf (ts).toArray kt) :: (CD, listOf ([.ref C1, .ref C2] : List Value).toArray kc) :: (C1, codeTup c1a c1b 2 c1t) :: (C2, codeTup c2a c2b 1 c2t) :: tl)) (T : TopL mean mg mb h₀) (hk : cs.kind = .function) (hdp : dp + 4 < recursionLimit) (hun : un + 32 < cLine)
   (ord : C1 < C2 ∧ C2 < CD ∧ CD < AD ∧ AD < A ∧ A < SD ∧ SD < S ∧ S < HL ∧ HL < KL ∧ KL < TR) (off : Off AD SD HL KL TR tl) (hA : AIs ea S CD cp e b b0 u1 u2 u3 u4) (hS : SIs es HL KL TR hb bb v1 v2 v3) (hlen : hs.length ≤ 1000)
   (hret : ∀ h' tk' kh' q, Fr h₀ L h' m → News h₀ L h' ((A, instObj 541 AD) :: (AD, dictOf ea na) :: (S, instObj 381 SD) :: (SD, dictOf es ns) :: (HL, listOf (hs ++ [Value.ref q]).toArray kh') :: (KL, listOf (ks).toArray kk) :: (TR, listOf (ts).toArray kt) :: (CD, listOf ([.ref C1, .ref C2] : List Value).toArray kc) :: (C1, codeTup c1a c1b 2 c1t) :: (C2, codeTup c2a c2b 1 c2t) :: tl) → Q (.ref q) { s with heap := h', toks := tk' }) :
    wpAny (model PySem.Challenge.rw_rh0105_01.row.prog w) (ktrTop dp un gd cn cs L a ccd cl outer) (call (.ref 209) [.ref S]) Q E s := by
  obtain ⟨o1, o2, o3, o4, o5, o6, o7, o8, o9⟩ := ord
  obtain ⟨offA, offS, offH, offK, offT⟩ := off
  refine wpAny_call ?_
  k_dflt (refine' code_def (binds := [(Str.ofString "self", .ref S)]) ?k1ᵣ ?k2ᵣ ?k3ᵣ ?k4ᵣ ?k5ᵣ ?kAᵣ ?kFᵣ ?kKᵣ ?k6ᵣ ?k7ᵣ ?k8ᵣ ?k9ᵣ ?kBᵣ ?_ ?c2ᵣ ?c3ᵣ ?c4ᵣ ?c5ᵣ; walk_at "My enter")
  k_steps
  all_goals ((rename News _ _ _ _ => N9); (exact hret _ _ _ _ (by assumption) (drop1 N9)))


set_option maxHeartbeats 8000000 in
theorem c_bind {w : World} {mean : ExcName → Option Value} {mg mb : Str → Option Value} {dp un : Nat} {gd : Option (List Code)} {cn : Str} {cs : Scope} {a : Addr} {ccd : Value} {cl : List (Str × Addr)} {outer : List Env} {A₀ : Around} {base h₀ : Heap} {L : Addr} {m : Str → Option Value} {s : Shared} {Q E : Value → Shared → Prop} {A AD S SD HL KL TR CD C1 C2 : Nat} {ea es : List DictEntry} {na ns kh kk kt kc : Nat} {hs ks ts : List Value} {tl : List (Addr × Obj)} {cp e b b0 hb bb : Int} {u1 u2 u3 u4 v1 v2 v3 : Tok} {c1a c1b c2a c2b : Value} {c1t c2t : Tok} {q : Nat} {v : Value} {i : Int} {t1 t2 : Tok}
   (B : Below A₀ base outer h₀) (F : Fr h₀ L s.heap m) (X : (K0 w.params).In h₀) (N : News h₀ L s.heap ((A, instObj 541 AD) :: (AD, dictOf ea na) :: (S, instObj 381 SD) :: (SD, dictOf es ns) :: (HL, listOf (hs).toArray kh) :: (KL, listOf (ks).toArray kk) :: (TR, listOf (ts).toArray kt) :: (CD, listOf ([.ref C1, .ref C2] : List Value).toArray kc) :: (C1, codeTup c1a c1b 2 c1t) :: (C2, codeTup c2a c2b 1 c2t) :: tl)) (T : TopL mean mg mb h₀) (hk : cs.kind = .function) (hdp : dp + 3 < recursionLimit) (hun : un + 24 < cLine)
   (ord : C1 < C2 ∧ C2 < CD ∧ CD < AD ∧ AD < A ∧ A < SD ∧ SD < S ∧ S < HL ∧ HL < KL ∧ KL < TR) (off : Off AD SD HL KL TR tl) (hA : AIs ea S CD cp e b b0 u1 u2 u3 u4) (hS : SIs es HL KL TR hb bb v1 v2 v3) (hq : (q, ({ cls := .type "tuple", data := .seq [.int 0 t1, .int i t2].toArray 0 } : Obj)) ∈ tl) (h0 : 0 ≤ i) (h1 : i < hs.length) (hlen : hs.length ≤ 1000) (hts : ts.length ≤ 1000)
   (hret : ∀ h' tk' ts' kt' t', Fr h₀ L h' m → News h₀ L h' ((A, instObj 541 AD) :: (AD, dictOf ea na) :: (S, instObj 381 SD) :: (SD, dictOf es ns) :: (HL, listOf (hs.set i.toNat v).toArray kh) :: (KL, listOf (ks).toArray kk) :: (TR, listOf (ts').toArray kt') :: (CD, listOf ([.ref C1, .ref C2] : List Value).toArray kc) :: (C1, codeTup c1a c1b 2 c1t) :: (C2, codeTup c2a c2b 1 c2t) :: tl) → (i < hb ∧ ts' = ts ++ [.int i t'] ∨ hb ≤ i ∧ ts' = ts) → Q .none { s with heap := h', toks := tk' }) :
    wpAny (model PySem.Challenge.rw_rh0105_01.row.prog w) (ktrTop dp un gd cn cs L a ccd cl outer) (call (.ref 244) [.ref S, .ref q, v]) Q E s := by
  obtain ⟨o1, o2, o3, o4, o5, o6, o7, o8, o9⟩ := ord
  obtain ⟨offA, offS, offH, offK, offT⟩ := off
  refine wpAny_call ?_
  k_dflt (refine' code_def (binds := [(Str.ofString "self", .ref S), (Str.ofString "cell", .ref q), (Str.ofString "value", v)]) ?k1ᵣ ?k2ᵣ ?k3ᵣ ?k4ᵣ ?k5ᵣ ?kAᵣ ?kFᵣ ?kKᵣ ?k6ᵣ ?k7ᵣ ?k8ᵣ ?k9ᵣ ?kBᵣ ?_ ?c2ᵣ ?c3ᵣ ?c4ᵣ ?c5ᵣ; walk_at "My enter")
  k_steps
  all_goals ((rename News _ _ _ _ => N9); first | (exact hret _ _ _ _ _ (by assumption) N9 (.inl ⟨by assumption, rfl⟩)) | (exact hret _ _ _ _ 0 (by assumption) N9 (.inr ⟨by omega, rfl⟩)))




end
section
theorem noneL1 : True := by
  k_with_none
  trivial
section
variable {prog : Program} {w : World} {A : Around} {E : Value → Shared → Prop} {s : Shared} {env : Env} {h₀ : Heap} {x : Str} {body : List Stmt} {Q : Flow → Shared → Prop}
def LS {σ : Type} (Led : σ → List (Addr × Obj)) (loc : σ → List (Str × Value)) (x : Str) (stored : List Str) (m₀ : Str → Option Value) (P : σ → Prop) (m : Str → Option Value) (nx : List (Addr × Obj)) : Prop :=
  ∃ c : σ, nx = Led c ∧ P c ∧ (∀ p ∈ loc c, m p.1 = some p.2) ∧ (∀ z, z ≠ x → (∀ p ∈ loc c, z ≠ p.1) → stored.contains z = false → m z = m₀ z)
theorem ls_end {σ : Type} {Led : σ → List (Addr × Obj)} {loc : σ → List (Str × Value)} {stored : List Str} {m₀ : Str → Option Value} {P : σ → Prop} (c : σ) {L : Addr} {m' : Str → Option Value} {own news' : List (Addr × Obj)} {s₁ : Shared} {h' : Heap} {tk : Nat} {Z : List (Addr × Obj) → Prop}
    (F : Fr h₀ L h' m') (N : News h₀ L h' news') (hn : ∀ p ∈ Led c, p ∈ news') (ho : ∀ p ∈ own, p ∈ news') (off : OwnOff own ((Led c).map (·.1))) (hP : P c) (hk : ∀ p ∈ loc c, m' p.1 = some p.2) (hr : ∀ z, z ≠ x → (∀ p ∈ loc c, z ≠ p.1) → stored.contains z = false → m' z = m₀ z) (hZ : Z (Led c)) :
    InvEndG h₀ L (fun m' nx => Z nx ∧ LS Led loc x stored m₀ P m' nx) own s₁ { s₁ with heap := h', toks := tk } :=
  ⟨h', tk, m', news', Led c, rfl, F, N, hn, ho, off, hZ, c, rfl, hP, hk, hr⟩
theorem my_list {σ : Type} {l : Addr} {vs : List Value} {nn : Nat} {m₀ : Str → Option Value} (Led : σ → List (Addr × Obj)) (loc : σ → List (Str × Value)) (stored : List Str) (P : Nat → σ → Prop) (c₀ : σ)
    (hh : A.handled = none) (hl : (l, listOf vs.toArray nn) ∈ Led c₀) (F : Fr h₀ env.locals s.heap m₀) (N : News h₀ env.locals s.heap (Led c₀)) (hp : P 0 c₀) (hk : ∀ p ∈ loc c₀, m₀ p.1 = some p.2)
    (turn : ∀ i v c (u : Str → Option Value) h tk own, vs[i]? = some v → P i c → OwnOff own ((Led c).map (·.1)) → Fr h₀ env.locals h (fun y => if y = x then some v else kstB (fun z => if stored.contains z then u z else m₀ z) (loc c) y) → News h₀ env.locals h (Led c ++ own) →
      wpAny (model prog w) A (execs body env) (InvPostG h₀ env.locals (fun m' nx => (l, listOf vs.toArray nn) ∈ nx ∧ LS Led loc x stored m₀ (P (i + 1)) m' nx) own { s with heap := h, toks := tk } Q) E { s with heap := h, toks := tk })
    (done : ∀ c (u : Str → Option Value) h tk, P vs.length c → Fr h₀ env.locals h (fun y => if y = x then u y else kstB (fun z => if stored.contains z then u z else m₀ z) (loc c) y) → News h₀ env.locals h (Led c) → Q .next { s with heap := h, toks := tk }) :
    wpAny (model prog w) A (pyIter (.ref l)) (fun it s₂ => LoopAtV prog w A h₀ env x body Q E it s₂) E s := by
  refine kdl_iter (news := Led c₀) (fun i m nx => LS Led loc x stored m₀ (P i) m nx) hh hl F N ⟨c₀, rfl, hp, hk, fun _ _ _ _ => rfl⟩ ?_ ?_
  · rintro i v m₁ nx h tk own hv hoff _ ⟨c, rfl, hP, h1, h2⟩ F₁ N₁
    exact turn i v c m₁ h tk own hv hP hoff (kst_fr h1 h2 F₁) N₁
  · rintro m₁ nx h tk ⟨c, rfl, hP, h1, h2⟩ F₁ N₁
    exact done c m₁ h tk hP (kst_frOut h1 h2 F₁) N₁
theorem my_range {σ : Type} {r : Addr} {b₀ : Int} {t₀ u₀ v₀ : Tok} {n : Nat} {m₀ : Str → Option Value} {news : List (Addr × Obj)} (Led : σ → List (Addr × Obj)) (loc : σ → List (Str × Value)) (stored : List Str) (P : Nat → σ → Prop) (c₀ : σ)
    (hh : A.handled = none) (hr : IsRange s.heap r 0 b₀ 1 t₀ u₀ v₀) (hb : b₀ = (n : Int)) (hn8 : n ≤ 100) (F : Fr h₀ env.locals s.heap m₀) (N : News h₀ env.locals s.heap news) (hsub : ∀ p ∈ Led c₀, p ∈ news) (hp : P 0 c₀) (hk : ∀ p ∈ loc c₀, m₀ p.1 = some p.2)
    (turn : ∀ i t c (u : Str → Option Value) h tk own, i < n → P i c → OwnOff own ((Led c).map (·.1)) → Fr h₀ env.locals h (fun y => if y = x then some (.int (i : Int) t) else kstB (fun z => if stored.contains z then u z else m₀ z) (loc c) y) → News h₀ env.locals h (Led c ++ own) →
      wpAny (model prog w) A (execs body env) (InvPostG h₀ env.locals (fun m' nx => True ∧ LS Led loc x stored m₀ (P (i + 1)) m' nx) own { s with heap := h, toks := tk } Q) E { s with heap := h, toks := tk })
    (done : ∀ c (u : Str → Option Value) h tk, P n c → Fr h₀ env.locals h (fun y => if y = x then u y else kstB (fun z => if stored.contains z then u z else m₀ z) (loc c) y) → News h₀ env.locals h (Led c) → Q .next { s with heap := h, toks := tk }) :
    wpAny (model prog w) A (pyIter (.ref r)) (fun it s₂ => LoopAtV prog w A h₀ env x body Q E it s₂) E s := by
  subst hb
  have hsmall : Builtin.Range.small 0 (n : Int) 1 = true := small_one (by decide) (by decide) (by omega) (by omega)
  have hsz : Builtin.Range.rangeSize 0 (n : Int) 1 = (n : Int) := by
    have := rangeSize_nat 0 n
    simpa using this
  refine wpAny_pyIter_range hr hsmall ?_
  have W : Walks prog w A s.heap.objs.size [s.heap.objs.size] [s.heap.objs.size] n (fun i v => i < n ∧ ∃ t, v = .int (0 + i * 1) t)
      (fun i h => IsRangeIter h s.heap.objs.size (0 + (i : Nat) * 1) ((n : Int) - (i : Nat)) 1) := (Walks.range hh _ 0 1 n).bound
  refine kdr_loop (news := Led c₀) (fun i m nx => LS Led loc x stored m₀ (P i) m nx) W (fun _ h => h) (fun _ h => h) ?_ ?_ ?_ ?_ (by show IsRangeIter _ _ _ _ _; rw [hsz]; simpa using Heap.get?_push_size _ rfl) (F.push _) (fun p hp => ⟨Heap.get?_push_of_some _ (N p (hsub p hp)).1, (N p (hsub p hp)).2⟩) ⟨c₀, rfl, hp, hk, fun _ _ _ _ => rfl⟩ ?_ ?_
  · intro i h hi b hb
    rw [List.mem_singleton.mp hb]
    exact ⟨_, hi⟩
  · intro hm
    exact absurd F.ns.lt ((List.mem_singleton.mp hm) ▸ Nat.lt_irrefl _)
  · intro b hb
    rw [List.mem_singleton.mp hb]
    exact next_is_new F
  · intro p hp hI
    exact absurd (Heap.lt_size (N p (hsub p hp)).1) ((List.mem_singleton.mp hI) ▸ Nat.lt_irrefl _)
  · rintro i v m₁ nx h tk own hi ⟨_, t, rfl⟩ hoff ⟨c, rfl, hP, h1, h2⟩ F₁ N₁
    have e1 : (0 : Int) + (i : Int) * 1 = (i : Int) := by omega
    rw [e1] at F₁
    refine wpAny_mono (turn i t c m₁ h tk own hi hP hoff (kst_fr h1 h2 F₁) N₁) (fun f s₂ p => ?_) fun _ _ x => x
    have up : InvEndG h₀ env.locals (fun m' nx => True ∧ LS Led loc x stored m₀ (P (i + 1)) m' nx) own { s with heap := h, toks := tk } s₂ →
        InvEndG h₀ env.locals (fun m' nx => LS Led loc x stored m₀ (P (i + 1)) m' nx) own { s with heap := h, toks := tk } s₂ := by
      rintro ⟨h', tk', m', news', nx', e', F', N', hn', ho', ha, _, hS⟩
      exact ⟨h', tk', m', news', nx', e', F', N', hn', ho', ha, hS⟩
    cases f with
    | ret v => exact p
    | brk => exact p
    | next => exact up p
    | cont => exact up p
  · rintro m₁ nx h tk ⟨c, rfl, hP, h1, h2⟩ F₁ N₁
    exact done c m₁ h tk hP (kst_frOut h1 h2 F₁) N₁
end
theorem seq_snoc : ∀ (l X : List Value) (p : Int) (v : Value), putSeq X p (l ++ [v]) = putAt (putSeq X p l) (p + (l.length : Int)) v
  | [], X, p, v => by simp [putSeq]
  | a :: l, X, p, v => by
    show putSeq (putAt X p a) (p + 1) (l ++ [v]) = putAt (putSeq (putAt X p a) (p + 1) l) (p + ((a :: l).length : Int)) v
    rw [seq_snoc l]
    refine putAt_congr rfl ?_
    rw [List.length_cons]; omega
theorem seq_take {gs X : List Value} {p : Int} {j : Nat} {v : Value} (h : gs[j]? = some v) : putAt (putSeq X p (gs.take j)) (p + (j : Int)) v = putSeq X p (gs.take (j + 1)) := by
  have hj : j < gs.length := (List.getElem?_eq_some_iff.mp h).1
  rw [List.take_add_one, h, Option.toList_some, seq_snoc, List.length_take]
  refine putAt_congr rfl ?_
  omega
theorem seq_append : ∀ (l r X : List Value) (p : Int), putSeq X p (l ++ r) = putSeq (putSeq X p l) (p + (l.length : Int)) r
  | [], r, X, p => by simp [putSeq]
  | a :: l, r, X, p => by
    show putSeq (putAt X p a) (p + 1) (l ++ r) = putSeq (putSeq (putAt X p a) (p + 1) l) (p + ((a :: l).length : Int)) r
    rw [seq_append l, List.length_cons]
    congr 1; omega
theorem off_app {tl own : List (Addr × Obj)} {adr : List Addr} {d : Nat} (h : ∀ p ∈ tl, p.1 ≠ d) (ho : OwnOff own adr) (hd : d ∈ adr) : ∀ p ∈ tl ++ own, p.1 ≠ d := by
  intro p hp
  rcases List.mem_append.mp hp with hp | hp
  · exact h p hp
  · exact ho p hp d hd
theorem core_sub {c1 c2 c3 c4 c5 c6 c7 c8 c9 c10 : Addr × Obj} {tl own : List (Addr × Obj)} : ∀ p ∈ (c1 :: c2 :: c3 :: c4 :: c5 :: c6 :: c7 :: c8 :: c9 :: c10 :: tl), p ∈ (c1 :: c2 :: c3 :: c4 :: c5 :: c6 :: c7 :: c8 :: c9 :: c10 :: (tl ++ own)) := by
  (repeat (first | (refine sub_cons 0 rfl ?_) | (refine sub_cons 1 rfl ?_) | (refine sub_cons 2 rfl ?_) | (refine sub_cons 3 rfl ?_) | (refine sub_cons 4 rfl ?_) | (refine sub_cons 5 rfl ?_) | (refine sub_cons 6 rfl ?_) | (refine sub_cons 7 rfl ?_) | (refine sub_cons 8 rfl ?_) | (refine sub_cons 9 rfl ?_) | (refine sub_cons 10 rfl ?_)))
  exact fun p hp => sub_drop 10 rfl p (List.mem_append_left _ hp)
theorem core_own {c1 c2 c3 c4 c5 c6 c7 c8 c9 c10 : Addr × Obj} {tl own : List (Addr × Obj)} : ∀ p ∈ own, p ∈ (c1 :: c2 :: c3 :: c4 :: c5 :: c6 :: c7 :: c8 :: c9 :: c10 :: (tl ++ own)) := by
  intro p hp
  simp only [List.mem_cons, List.mem_append, hp, or_true]
theorem get_hit {ks ks' : List Value} {i : Int} {v : Value} {j : Nat} (q : ks' = putAt ks i v) (h0 : 0 ≤ i) (h1 : i ≤ ks.length) (e : j = i.toNat) : ks'[j]? = some v := by rw [q, get_putAt h0 h1, if_pos e]
theorem get_skip {ks ks' : List Value} {i : Int} {v : Value} {j : Nat} {r : Option Value} (q : ks' = putAt ks i v) (h0 : 0 ≤ i) (h1 : i ≤ ks.length) (e : j ≠ i.toNat) (h : ks[j]? = r) : ks'[j]? = r := by rw [q, get_putAt h0 h1, if_neg e]; exact h
theorem getS_skip {ks vs : List Value} {p : Int} {j : Nat} {r : Option Value} (h0 : 0 ≤ p) (h1 : p ≤ ks.length) (e : j < p.toNat) (h : ks[j]? = r) : (putSeq ks p vs)[j]? = r := by rw [get_putSeq vs ks p h0 h1, if_neg (by omega)]; exact h
theorem post_gen {α : Type} {M : Model} {A : Around} {t : Sem α} {Q : α → Shared → Prop} {E : Value → Shared → Prop} {s : Shared} (h : ∀ Q' : α → Shared → Prop, (∀ f s', Q f s' → Q' f s') → wpAny M A t Q' E s) : wpAny M A t Q E s := h Q fun _ _ x => x
theorem SIs.cast {es : List DictEntry} {HL KL TR : Nat} {hb bb hb' bb' : Int} {t1 t2 t3 : Tok} (h : SIs es HL KL TR hb bb t1 t2 t3) (e1 : hb = hb') (e2 : bb = bb') : SIs es HL KL TR hb' bb' t1 t2 t3 := by subst e1 e2; exact h
theorem seq_cons (ks : List Value) (p : Int) (v : Value) (vs : List Value) : putSeq ks p (v :: vs) = putSeq (putAt ks p v) (p + 1) vs := rfl


end
section
theorem noneC3 : True := by
  k_with_none
  trivial
theorem rules9 : True := by
  k_with "My enter!" => (first | (((case kAᵣ => exact rfl); (case kFᵣ => exact rfl); (case kKᵣ => assumption); (case k1ᵣ => k_asm); (case k2ᵣ => k_asm); (case k3ᵣ => k_asm); (case k4ᵣ => k_asm); (case k5ᵣ => k_asm); (case k6ᵣ => k_is); (case k7ᵣ => k_is); (case k8ᵣ => ktr_room); (case k9ᵣ => exact BindsTo.of_eq rfl); (case c5ᵣ => decide); (case kBᵣ => exact locs rfl); (case c2ᵣ => exact rfl); (case c3ᵣ => exact rfl); (case c4ᵣ => exact rfl); k_whole; intro g'ᵣ L'ᵣ h'ᵣ FG'ᵣ F'ᵣ N'ᵣ B'ᵣ X'ᵣ T'ᵣ; (try dsimp only); (try k_fold))) | fail "no")
  k_with "My A!" => (first | (first | with_reducible assumption | exact AIs.set_e (by walk_at "My A") | exact AIs.set_b (by walk_at "My A") | exact AIs.set_cp (by walk_at "My A") | exact AIs.set_b0 (by walk_at "My A")) | fail "no")
  k_with "My S!" => (first | (first | with_reducible assumption | exact SIs.set_hb (by walk_at "My S") | exact SIs.set_bb (by walk_at "My S")) | fail "no")
  k_with "My k_get!" => (first | (first
  | exact SIs.stack (by walk_at "My S") | exact SIs.heap (by walk_at "My S") | exact SIs.trail (by walk_at "My S") | exact SIs.hb (by walk_at "My S") | exact SIs.bb (by walk_at "My S") | exact SIs.max_heap (by walk_at "My S")
  | exact SIs.stack_put (by walk_at "My S") | exact SIs.mark (by walk_at "My S") | exact SIs.push (by walk_at "My S") | exact SIs.new_var (by walk_at "My S") | exact SIs.bind (by walk_at "My S")
  | exact AIs.code (by walk_at "My A") | exact AIs.store (by walk_at "My A") | exact AIs.cp (by walk_at "My A") | exact AIs.e (by walk_at "My A") | exact AIs.b (by walk_at "My A") | exact AIs.b0 (by walk_at "My A")
  | exact AIs.top (by walk_at "My A") | exact AIs.set_choice (by walk_at "My A") | exact AIs.push_environment (by walk_at "My A") | exact AIs.push_choice (by walk_at "My A") | exact AIs.choice_part (by walk_at "My A") | exact AIs.cut_back (by walk_at "My A") | exact AIs.choices (by walk_at "My A")) | fail "no")
  k_with "My mem!" => (first | (first | exact List.Mem.head _ | (refine' List.Mem.tail _ ?_; walk_at "My mem") | assumption) | fail "no")
  k_with "My k_all!" => (first | (with_reducible assumption) | fail "no")
  k_with "call builtin:len!" => (first | ((k_here; (with_reducible show wpAny _ _ (call (Value.builtin "len") [Value.ref _]) _ _ _); k_dflt (refine' m_len ?k1ᵣ ?k2ᵣ ?k3ᵣ ?_; (case k1ᵣ => k_asm); (case k2ᵣ => walk_at "My mem"); (case k3ᵣ => omega); k_whole))) | fail "no")
  k_with "setItem ref int!" => (first | ((k_here; k_dflt (refine' m_set ?k1ᵣ ?k2ᵣ ?k3ᵣ ?k4ᵣ ?k5ᵣ ?k6ᵣ ?_; (case k1ᵣ => k_asm); (case k2ᵣ => k_asm); (case k6ᵣ => k_upd); (case k3ᵣ => omega); (case k4ᵣ => omega); (case k5ᵣ => omega); k_whole; intro h'ᵣ F'ᵣ N'ᵣ; (try k_sweep)))) | fail "no")
  k_with "call builtin:list.append!" => (first | ((k_here; k_dflt (refine' m_append ?k1ᵣ ?k2ᵣ ?k3ᵣ ?k4ᵣ ?_; (case k1ᵣ => k_asm); (case k2ᵣ => k_asm); (case k4ᵣ => k_upd); (case k3ᵣ => omega); k_whole; intro h'ᵣ F'ᵣ N'ᵣ; (try k_sweep)))) | fail "no")
  k_with "WhlIf!" => (first | ((first | (refine WhlIf.yes (decide_eq_true (by omega)) ?_) | (refine WhlIf.no (decide_eq_false (by omega)) ?_))) | fail "no")
  trivial

theorem rules10 : True := by
  k_with "My fit!" => (first | (first | omega | ((try simp only [List.length_cons, List.length_nil, List.length_append, List.length_map]); omega)) | fail "no")
  k_with "My at!" => (first | (first | with_reducible assumption | rfl | (refine' (show 0 ≤ (_ : Int) → (_ : Option Value) = some _ from by with_reducible assumption) ?_; omega)) | fail "no")
  trivial
theorem rules11 : True := by
  k_with "subscriptTail!" => (first | ((k_here; (with_reducible show wpAny _ _ (subscriptTail _ _ (Value.ref _) (Value.int _ _)) _ _ _); k_dflt (first
  | (refine' m_itemV ?k1ᵣ ?k2ᵣ ?k3ᵣ ?k4ᵣ ?k5ᵣ ?_; (case k1ᵣ => k_asm); (case k2ᵣ => walk_at "My mem"); (case k3ᵣ => omega); (case k4ᵣ => walk_at "My fit"); (case k5ᵣ => walk_at "My at"); k_whole)
  | (refine' m_tupV ?k1ᵣ ?k2ᵣ ?k3ᵣ ?k4ᵣ ?k5ᵣ ?_; (case k1ᵣ => k_asm); (case k2ᵣ => walk_at "My mem"); (case k3ᵣ => omega); (case k4ᵣ => walk_at "My fit"); (case k5ᵣ => walk_at "My at"); k_whole)))) | fail "no")
  trivial

theorem rules12 : True := by
  k_with "setAttr ref!" => (first | ((k_here; k_dflt (refine' m_setattr ?k1ᵣ ?k2ᵣ ?k3ᵣ ?k4ᵣ ?k5ᵣ ?k6ᵣ ?k7ᵣ ?k8ᵣ ?k9ᵣ ?k10ᵣ ?k11ᵣ ?k12ᵣ ?_; (case k1ᵣ => k_asm); (case k2ᵣ => k_asm); (case k3ᵣ => k_asm); (case k4ᵣ => k_inst); (case k5ᵣ => exact rfl); (case k6ᵣ => k_is); (case k7ᵣ => k_is); (case k8ᵣ => k_is); (case k9ᵣ => k_is); (case k10ᵣ => k_get); (case k11ᵣ => (intro t'ᵣ; k_upd)); (case k12ᵣ => first | exact AIs.len (by walk_at "My A") | exact SIs.len (by walk_at "My S")); k_whole; intro t'ᵣ tk'ᵣ h'ᵣ F'ᵣ N'ᵣ; (try dsimp only at N'ᵣ); (try dsimp only); (try k_sweep)))) | fail "no")
  trivial
theorem rules13 : True := by
  k_with "getAttr ref!" => (first | ((k_here; k_dflt (refine' m_getattr ?k1ᵣ ?k2ᵣ ?k3ᵣ ?k4ᵣ ?k5ᵣ ?k6ᵣ ?k7ᵣ ?k8ᵣ ?k9ᵣ ?_; (case k1ᵣ => k_asm); (case k2ᵣ => k_asm); (case k3ᵣ => k_inst); (case k4ᵣ => k_is); (case k5ᵣ => k_is); (case k6ᵣ => k_is); (case k7ᵣ => k_is); (case k8ᵣ => k_get); (case k9ᵣ => k_handed); k_whole; intro tk'ᵣ; (try dsimp only)))) | fail "no")
  trivial

theorem rules14 : True := by
  k_with "My call!" => (first | (((case Bᵣ => k_asm); (case Fᵣ => k_asm); (case Xᵣ => k_asm); (case Nᵣ => first | k_asm | exact rot1 (by k_asm) | exact rot2 (by k_asm) | exact rot3 (by k_asm)); (case Tᵣ => k_asm); (case hkᵣ => first | exact rfl | assumption); (case ordᵣ => first | (refine ⟨?_, ?_, ?_, ?_, ?_, ?_, ?_, ?_, ?_⟩ <;> with_reducible assumption) | omega); (case offᵣ => exact ⟨by k_all, by k_all, by k_all, by k_all, by k_all⟩); (case hAᵣ => walk_at "My A"); (case hSᵣ => walk_at "My S"); (case hdpᵣ => ktr_room); (case hunᵣ => ktr_units))) | fail "no")
  trivial

theorem rules15 : True := by
  k_with "call ref!" => (first | ((k_here; (with_reducible show wpAny _ _ (call (Value.ref 482) _) _ _ _); k_dflt (refine' c_set (B := ?Bᵣ) (F := ?Fᵣ) (X := ?Xᵣ) (N := ?Nᵣ) (T := ?Tᵣ) (hk := ?hkᵣ) (hdp := ?hdpᵣ) (hun := ?hunᵣ) (ord := ?ordᵣ) (off := ?offᵣ) (hA := ?hAᵣ) (hS := ?hSᵣ) (hcnt := ?z1ᵣ) (hv := ?z2ᵣ) (hlen := ?z3ᵣ) (hb1 := ?z4ᵣ) (hc1 := ?z5ᵣ) ?_; walk_at "My call"; (case z1ᵣ => first | with_reducible assumption | walk_at "My get"); (case z2ᵣ => first | with_reducible assumption | walk_at "My get"); (case z3ᵣ => omega); (case z4ᵣ => omega); (case z5ᵣ => first | with_reducible assumption | omega); intro h'ᵣ tk'ᵣ ea'ᵣ es'ᵣ hb'ᵣ bb'ᵣ t1'ᵣ t2'ᵣ t3'ᵣ F'ᵣ N'ᵣ hA'ᵣ hS'ᵣ e'ᵣ; (try dsimp only)))) | fail "no")
  trivial

theorem rules16 : True := by
  k_with "call ref!" => (first | ((k_here; (with_reducible show wpAny _ _ (call (Value.ref 202) _) _ _ _); (try dsimp only [List.cons_append, List.nil_append, List.append_nil]); k_dflt (refine' c_push (B := ?Bᵣ) (F := ?Fᵣ) (X := ?Xᵣ) (N := ?Nᵣ) (T := ?Tᵣ) (hk := ?hkᵣ) (hdp := ?hdpᵣ) (hun := ?hunᵣ) (ord := ?ordᵣ) (off := ?offᵣ) (hA := ?hAᵣ) (hS := ?hSᵣ) (hlen := ?z1ᵣ) ?_; walk_at "My call"; (case z1ᵣ => omega); intro h'ᵣ tk'ᵣ kh'ᵣ t'ᵣ F'ᵣ N'ᵣ; (try dsimp only)))) | fail "no")
  k_with "call ref!" => (first | ((k_here; (with_reducible show wpAny _ _ (call (Value.ref 279) _) _ _ _); (try dsimp only [List.cons_append, List.nil_append, List.append_nil]); k_dflt (refine' c_put (B := ?Bᵣ) (F := ?Fᵣ) (X := ?Xᵣ) (N := ?Nᵣ) (T := ?Tᵣ) (hk := ?hkᵣ) (hdp := ?hdpᵣ) (hun := ?hunᵣ) (ord := ?ordᵣ) (off := ?offᵣ) (hA := ?hAᵣ) (hS := ?hSᵣ) (hi0 := ?z1ᵣ) (hi := ?z2ᵣ) (hlen := ?z3ᵣ) ?_; walk_at "My call"; (case z1ᵣ => omega); (case z2ᵣ => omega); (case z3ᵣ => omega); intro h'ᵣ tk'ᵣ kk'ᵣ ks'ᵣ eK'ᵣ lK'ᵣ F'ᵣ N'ᵣ; (try dsimp only)))) | fail "no")
  k_with "call ref!" => (first | ((k_here; (try dsimp only); (with_reducible show wpAny _ _ (call (Value.ref 454) _) _ _ _); (try dsimp only [List.cons_append, List.nil_append, List.append_nil]); k_dflt (refine' c_top (B := ?Bᵣ) (F := ?Fᵣ) (X := ?Xᵣ) (N := ?Nᵣ) (T := ?Tᵣ) (hk := ?hkᵣ) (hdp := ?hdpᵣ) (hun := ?hunᵣ) (ord := ?ordᵣ) (off := ?offᵣ) (hA := ?hAᵣ) (hS := ?hSᵣ) (hpl := ?z0ᵣ) (hcp := ?z1ᵣ) (hcnt := ?z2ᵣ) (hlen := ?z3ᵣ) (he := ?z4ᵣ) (hb1 := ?z5ᵣ) (hc1 := ?z6ᵣ) ?_; walk_at "My call"; (case z0ᵣ => with_reducible assumption); (case z1ᵣ => with_reducible assumption); (case z2ᵣ => with_reducible assumption); (case z3ᵣ => omega); (case z4ᵣ => omega); (case z5ᵣ => omega); (case z6ᵣ => first | with_reducible assumption | omega); intro h'ᵣ tk'ᵣ t'ᵣ F'ᵣ N'ᵣ; (try dsimp only)))) | fail "no")
  k_with "call ref!" => (first | ((k_here; (with_reducible show wpAny _ _ (call (Value.ref 265) _) _ _ _); (try dsimp only [List.cons_append, List.nil_append, List.append_nil]); k_dflt (refine' c_mark (B := ?Bᵣ) (F := ?Fᵣ) (X := ?Xᵣ) (N := ?Nᵣ) (T := ?Tᵣ) (hk := ?hkᵣ) (hdp := ?hdpᵣ) (hun := ?hunᵣ) (ord := ?ordᵣ) (off := ?offᵣ) (hA := ?hAᵣ) (hS := ?hSᵣ) (htr := ?z1ᵣ) ?_; walk_at "My call"; (case z1ᵣ => omega); intro h'ᵣ tk'ᵣ t'ᵣ F'ᵣ N'ᵣ; (try dsimp only)))) | fail "no")
  trivial

theorem rules17 : True := by
  k_with "My get1!" => (first | (first
  | with_reducible assumption
  | (refine' get_hit (by with_reducible assumption) ?aᵣ ?bᵣ ?cᵣ; (case cᵣ => omega); (case aᵣ => omega); (case bᵣ => omega))
  | (refine' get_skip (by with_reducible assumption) ?aᵣ ?bᵣ ?cᵣ ?_; (case aᵣ => omega); (case bᵣ => omega); (case cᵣ => omega); walk_at "My get1")
  | (refine' getS_skip ?aᵣ ?bᵣ ?cᵣ ?_; (case aᵣ => omega); (case bᵣ => omega); (case cᵣ => omega); walk_at "My get1")) | fail "no")
  k_with "My get!" => (first | ((intro _; walk_at "My get1")) | fail "no")
  k_with "My subst!" => (first | ((repeat ((rename _ = putAt _ _ _ => eK9ᵣ); subst eK9ᵣ))) | fail "no")
  trivial


theorem allLt_off {d : Nat} : ∀ {l : List (Addr × Obj)}, AllLt d l → ∀ p ∈ l, p.1 ≠ d
  | [], _, p, hp => nomatch hp
  | q :: r, h, p, hp => by
    have h1 : q.1 < d := h.1
    rcases List.mem_cons.mp hp with rfl | hp
    · exact Nat.ne_of_lt h1
    · exact allLt_off h.2 p hp
theorem unr_rot {h₀ : Heap} {L I : Addr} {it : Obj} {rest : (Str → Option Value) → List (Addr × Obj) → Prop} {s₁ : Shared} {h' : Heap} {tk : Nat} {m' : Str → Option Value} {c1 c2 c3 c4 c5 c6 c7 c8 c9 c10 : Addr × Obj} {tl : List (Addr × Obj)}
    (F : Fr h₀ L h' m') (N : News h₀ L h' (c1 :: c2 :: c3 :: c4 :: c5 :: c6 :: c7 :: c8 :: c9 :: c10 :: (I, it) :: tl)) (off : ∀ p ∈ (c1 :: c2 :: c3 :: c4 :: c5 :: c6 :: c7 :: c8 :: c9 :: c10 :: tl), p.1 ≠ I) (r : rest m' (c1 :: c2 :: c3 :: c4 :: c5 :: c6 :: c7 :: c8 :: c9 :: c10 :: tl)) : UnrEnd h₀ L s₁ I it rest { s₁ with heap := h', toks := tk } := by
  refine UnrEnd.intro F N _ ?_ off r
  ((repeat (first | (refine sub_cons 0 rfl ?_) | (refine sub_cons 1 rfl ?_) | (refine sub_cons 2 rfl ?_) | (refine sub_cons 3 rfl ?_) | (refine sub_cons 4 rfl ?_) | (refine sub_cons 5 rfl ?_) | (refine sub_cons 6 rfl ?_) | (refine sub_cons 7 rfl ?_) | (refine sub_cons 8 rfl ?_) | (refine sub_cons 9 rfl ?_) | (refine sub_cons 10 rfl ?_) | (refine sub_cons 11 rfl ?_) | (refine sub_cons 12 rfl ?_) | (refine sub_cons 13 rfl ?_))); (first | exact sub_nil | exact sub_drop 0 rfl | exact sub_drop 1 rfl | exact sub_drop 2 rfl | exact sub_drop 3 rfl | exact sub_drop 4 rfl | exact sub_drop 5 rfl | exact sub_drop 6 rfl | exact sub_drop 7 rfl | exact sub_drop 8 rfl | exact sub_drop 9 rfl | exact sub_drop 10 rfl | exact sub_drop 11 rfl | exact sub_drop 12 rfl | exact sub_drop 13 rfl))
theorem rules18 : True := by
  k_with "UnrEnd!" => (first | (((rename _ < _ ∧ _ < _ ∧ _ < _ ∧ _ => lU9ᵣ); (have lV9ᵣ := allLt_off lU9ᵣ.2.2.2.2.2.2.2.2.2.2); (rename News _ _ _ _ => nU9ᵣ); refine unr_rot (by assumption) nU9ᵣ (by k_all) ?_)) | fail "no")
  trivial
theorem news_ks {h₀ h : Heap} {L KL : Addr} {c1 c2 c3 c4 c5 : Addr × Obj} {xs ys : List Value} {n : Nat} {r : List (Addr × Obj)} (N : News h₀ L h (c1 :: c2 :: c3 :: c4 :: c5 :: (KL, listOf xs.toArray n) :: r)) (e : xs = ys) :
    News h₀ L h (c1 :: c2 :: c3 :: c4 :: c5 :: (KL, listOf ys.toArray n) :: r) := e ▸ N
theorem rules19 : True := by
  k_with "My seq!" => (first | (((simp only [putSeq]); (repeat' (first | exact rfl | refine putAt_congr ?_ ?_ | omega)))) | fail "no")
  trivial


set_option maxHeartbeats 8000000 in
theorem c_env {w : World} {mean : ExcName → Option Value} {mg mb : Str → Option Value} {dp un : Nat} {gd : Option (List Code)} {cn : Str} {cs : Scope} {a : Addr} {ccd : Value} {cl : List (Str × Addr)} {outer : List Env} {A₀ : Around} {base h₀ : Heap} {L : Addr} {m : Str → Option Value} {s : Shared} {Q E : Value → Shared → Prop} {A AD S SD HL KL TR CD C1 C2 : Nat} {ea es : List DictEntry} {na ns kh kk kt kc : Nat} {hs ks ts : List Value} {tl : List (Addr × Obj)} {cp e b b0 hb bb : Int} {u1 u2 u3 u4 v1 v2 v3 : Tok} {c1a c1b c2a c2b : Value} {c1t c2t : Tok} {cnt pl : Int} {ct szt : Tok}
   (B : Below A₀ base outer h₀) (F : Fr h₀ L s.heap m) (X : (K0 w.params).In h₀) (N : News h₀ L s.heap ((A, instObj 541 AD) :: (AD, dictOf ea na) :: (S, instObj 381 SD) :: (SD, dictOf es ns) :: (HL, listOf (hs).toArray kh) :: (KL, listOf (ks).toArray kk) :: (TR, listOf (ts).toArray kt) :: (CD, listOf ([.ref C1, .ref C2] : List Value).toArray kc) :: (C1, codeTup c1a c1b 2 c1t) :: (C2, codeTup c2a c2b 1 c2t) :: tl)) (T : TopL mean mg mb h₀) (hk : cs.kind = .function) (hdp : dp + 4 < recursionLimit) (hun : un + 32 < cLine)
   (ord : C1 < C2 ∧ C2 < CD ∧ CD < AD ∧ AD < A ∧ A < SD ∧ SD < S ∧ S < HL ∧ HL < KL ∧ KL < TR) (off : Off AD SD HL KL TR tl) (hA : AIs ea S CD cp e b b0 u1 u2 u3 u4) (hS : SIs es HL KL TR hb bb v1 v2 v3) (hpl : topV e b cp cnt = pl) (hcp : cp = 1 ∨ cp = 2) (hcnt : 0 ≤ b → ks[b.toNat]? = some (.int cnt ct)) (hlen : ks.length ≤ 900) (he : -1 ≤ e ∧ e ≤ 900) (hb1 : -1 ≤ b ∧ b ≤ 900) (hc1 : 0 ≤ b → 0 ≤ cnt ∧ cnt ≤ 2) (hp0 : 0 ≤ pl) (hp1 : pl ≤ ks.length)
   (hret : ∀ h' tk' ea' kk' t2, Fr h₀ L h' m → News h₀ L h' ((A, instObj 541 AD) :: (AD, dictOf ea' na) :: (S, instObj 381 SD) :: (SD, dictOf es ns) :: (HL, listOf (hs).toArray kh) :: (KL, listOf (putSeq ks pl [.int e u2, .int cp u1, .ref 180, .ref 180]).toArray kk') :: (TR, listOf (ts).toArray kt) :: (CD, listOf ([.ref C1, .ref C2] : List Value).toArray kc) :: (C1, codeTup c1a c1b 2 c1t) :: (C2, codeTup c2a c2b 1 c2t) :: tl) → AIs ea' S CD cp pl b b0 u1 t2 u3 u4 → Q .none { s with heap := h', toks := tk' }) :
    wpAny (model PySem.Challenge.rw_rh0105_01.row.prog w) (ktrTop dp un gd cn cs L a ccd cl outer) (call (.ref 461) [.ref A, .int 2 szt]) Q E s := by
  obtain ⟨o1, o2, o3, o4, o5, o6, o7, o8, o9⟩ := ord
  obtain ⟨offA, offS, offH, offK, offT⟩ := off
  refine wpAny_call ?_
  k_dflt (refine' code_def (binds := [(Str.ofString "self", .ref A), (Str.ofString "size", .int 2 szt)]) ?k1ᵣ ?k2ᵣ ?k3ᵣ ?k4ᵣ ?k5ᵣ ?kAᵣ ?kFᵣ ?kKᵣ ?k6ᵣ ?k7ᵣ ?k8ᵣ ?k9ᵣ ?kBᵣ ?_ ?c2ᵣ ?c3ᵣ ?c4ᵣ ?c5ᵣ; walk_at "My enter")
  k_steps
  all_goals ((walk_at "My subst"); (rename News _ _ _ _ => N9); (exact hret _ _ _ _ _ (by assumption) (news_ks N9 (by walk_at "My seq")) (by walk_at "My A")))




set_option maxHeartbeats 8000000 in
theorem c_pch {w : World} {mean : ExcName → Option Value} {mg mb : Str → Option Value} {dp un : Nat} {gd : Option (List Code)} {cn : Str} {cs : Scope} {a : Addr} {ccd : Value} {cl : List (Str × Addr)} {outer : List Env} {A₀ : Around} {base h₀ : Heap} {L : Addr} {m : Str → Option Value} {s : Shared} {Q E : Value → Shared → Prop} {A AD S SD HL KL TR CD C1 C2 : Nat} {ea es : List DictEntry} {na ns kh kk kt kc : Nat} {hs ks ts : List Value} {tl : List (Addr × Obj)} {cp e b b0 hb bb : Int} {u1 u2 u3 u4 v1 v2 v3 : Tok} {c1a c1b c2a c2b : Value} {c1t c2t : Tok} {cnt o pl : Int} {ct ot : Tok} {G kg : Nat} {gs : List Value}
   (B : Below A₀ base outer h₀) (F : Fr h₀ L s.heap m) (X : (K0 w.params).In h₀) (N : News h₀ L s.heap ((A, instObj 541 AD) :: (AD, dictOf ea na) :: (S, instObj 381 SD) :: (SD, dictOf es ns) :: (HL, listOf (hs).toArray kh) :: (KL, listOf (ks).toArray kk) :: (TR, listOf (ts).toArray kt) :: (CD, listOf ([.ref C1, .ref C2] : List Value).toArray kc) :: (C1, codeTup c1a c1b 2 c1t) :: (C2, codeTup c2a c2b 1 c2t) :: tl)) (T : TopL mean mg mb h₀) (hk : cs.kind = .function) (hdp : dp + 4 < recursionLimit) (hun : un + 32 < cLine)
   (ord : C1 < C2 ∧ C2 < CD ∧ CD < AD ∧ AD < A ∧ A < SD ∧ SD < S ∧ S < HL ∧ HL < KL ∧ KL < TR) (off : Off AD SD HL KL TR tl) (hA : AIs ea S CD cp e b b0 u1 u2 u3 u4) (hS : SIs es HL KL TR hb bb v1 v2 v3) (hpl : topV e b cp cnt = pl) (hcp : cp = 1 ∨ cp = 2) (hcnt : 0 ≤ b → ks[b.toNat]? = some (.int cnt ct)) (hlen : ks.length ≤ 900) (hh : hs.length ≤ 900) (ht : ts.length ≤ 900) (he : -1 ≤ e ∧ e ≤ 900) (hb1 : -1 ≤ b ∧ b ≤ 900) (hc1 : 0 ≤ b → 0 ≤ cnt ∧ cnt ≤ 2) (hp0 : 0 ≤ pl) (hp1 : pl ≤ ks.length) (hG : (G, listOf gs.toArray kg) ∈ tl) (hg2 : gs.length ≤ 2)
   (hret : ∀ h' tk' ea' es' kk' tt1 tt2 tt3 t1 t2 t3, Fr h₀ L h' m → News h₀ L h' ((A, instObj 541 AD) :: (AD, dictOf ea' na) :: (S, instObj 381 SD) :: (SD, dictOf es' ns) :: (HL, listOf (hs).toArray kh) :: (KL, listOf (putSeq ks pl (.int (gs.length : Int) tt1 :: (gs ++ [.int e u2, .int cp u1, .int b u3, .int o ot, .int (ts.length : Int) tt2, .int (hs.length : Int) tt3, .int b0 u4]))).toArray kk') :: (TR, listOf (ts).toArray kt) :: (CD, listOf ([.ref C1, .ref C2] : List Value).toArray kc) :: (C1, codeTup c1a c1b 2 c1t) :: (C2, codeTup c2a c2b 1 c2t) :: tl) → AIs ea' S CD cp e pl b0 u1 u2 t1 u4 → SIs es' HL KL TR (hs.length : Int) pl t2 t3 v3 → Q .none { s with heap := h', toks := tk' }) :
    wpAny (model PySem.Challenge.rw_rh0105_01.row.prog w) (ktrTop dp un gd cn cs L a ccd cl outer) (call (.ref 489) [.ref A, .ref G, .int o ot]) Q E s := by
  obtain ⟨o1, o2, o3, o4, o5, o6, o7, o8, o9⟩ := ord
  obtain ⟨offA, offS, offH, offK, offT⟩ := off
  refine wpAny_call ?_
  k_dflt (refine' code_def (binds := [(Str.ofString "self", .ref A), (Str.ofString "cells", .ref G), (Str.ofString "alternative", .int o ot)]) ?k1ᵣ ?k2ᵣ ?k3ᵣ ?k4ᵣ ?k5ᵣ ?kAᵣ ?kFᵣ ?kKᵣ ?k6ᵣ ?k7ᵣ ?k8ᵣ ?k9ᵣ ?kBᵣ ?_ ?c2ᵣ ?c3ᵣ ?c4ᵣ ?c5ᵣ; walk_at "My enter")
  k_steps
  (rename Fr _ _ _ _ => lF'); (with_unfolding_all refine' For_invVF lF' ?k1 ?k2 ?_; (case k1 => exact rfl); (case k2 => exact rfl); k_whole)
  walk1
  rename News _ _ _ _ => lN'
  rename List Value => ks1
  k_dflt (refine' my_list (σ := Nat × Nat × Tok) (fun c => ((A, instObj 541 AD) :: (AD, dictOf ea na) :: (S, instObj 381 SD) :: (SD, dictOf es ns) :: (HL, listOf (hs).toArray kh) :: (KL, listOf (putSeq ks1 (pl + 1) (gs.take c.1)).toArray c.2.1) :: (TR, listOf (ts).toArray kt) :: (CD, listOf ([.ref C1, .ref C2] : List Value).toArray kc) :: (C1, codeTup c1a c1b 2 c1t) :: (C2, codeTup c2a c2b 1 c2t) :: tl)) (fun c => [(Str.ofString "at", .int (pl + (c.1 : Int)) c.2.2)]) [] (fun i c => c.1 = i) (0, _, _) rfl ?hl lF' lN' rfl ?hk ?turn ?done)
  case hl => walk_at "My mem"
  case hk => (intro p hp; rw [List.mem_singleton.mp hp]; exact congrArg (fun z => some (Value.int z _)) (Int.add_zero _).symm)
  case turn =>
    rintro i v ⟨j, kk9, t9⟩ u h tk own hv hj hoff F9 N9
    dsimp only at hj N9 F9
    subst hj
    have hjl : j < gs.length := (List.getElem?_eq_some_iff.mp hv).1
    simp only [List.cons_append] at N9
    have hL := len_putSeq (gs.take j) ks1 (pl + 1) (by omega) (by omega)
    rw [List.length_take] at hL
    simp only [List.map_cons] at hoff
    have offA9 := off_app offA hoff (List.mem_of_elem_eq_true (by simp))
    have offS9 := off_app offS hoff (List.mem_of_elem_eq_true (by simp))
    have offH9 := off_app offH hoff (List.mem_of_elem_eq_true (by simp))
    have offK9 := off_app offK hoff (List.mem_of_elem_eq_true (by simp))
    have offT9 := off_app offT hoff (List.mem_of_elem_eq_true (by simp))
    clear lF' lN'
    refine post_gen fun QQ hQQ => ?_
    k_steps
    rename News _ _ _ _ => N9
    rename _ = putAt _ _ _ => eK2
    refine hQQ _ _ ?_
    refine' ls_end (j + 1, _, ?t) (by assumption) (news_ks N9 (eK2.trans ((putAt_congr rfl (by omega)).trans (seq_take hv)))) core_sub core_own hoff rfl ?hk ?hr ?hZ
    case hk =>
      have e9 : pl + (j : Int) + 1 = pl + ((j + 1 : Nat) : Int) := by omega
      intro p hp; rw [List.mem_singleton.mp hp]; exact congrArg (fun z => some (Value.int z _)) e9
    case hr =>
      intro z h1 h2 _
      have h3 := h2 _ (List.mem_singleton.mpr rfl)
      dsimp only at h3 ⊢
      rw [if_neg h3, if_neg h1]
      unfold kstB
      rw [if_neg h3]; rfl
    case hZ => walk_at "My mem"
  case done =>
    rintro ⟨j, kk9, t9⟩ u h tk hj F9 N9
    dsimp only at hj N9 F9
    subst hj
    simp only [List.take_length] at N9
    have hL := len_putSeq gs ks1 (pl + 1) (by omega) (by omega)
    clear lF' lN'
    dsimp only
    k_steps
    walk_at "My subst"
    rename News _ _ _ _ => N9
    rename SIs _ _ _ _ _ _ _ _ _ => hS9
    exact hret _ _ _ _ _ _ _ _ _ _ _ (by assumption) (news_ks N9 (by (rw [seq_cons, seq_append]; (simp only [seq_cons]); (repeat' (first | exact rfl | refine putAt_congr ?_ ?_ | omega))))) (by walk_at "My A") (hS9.cast (by omega) (by omega))




end
section
theorem noneC4 : True := by
  k_with_none
  trivial
theorem rules20 : True := by
  k_with "My enter!" => (first | (((case kAᵣ => exact rfl); (case kFᵣ => exact rfl); (case kKᵣ => assumption); (case k1ᵣ => k_asm); (case k2ᵣ => k_asm); (case k3ᵣ => k_asm); (case k4ᵣ => k_asm); (case k5ᵣ => k_asm); (case k6ᵣ => k_is); (case k7ᵣ => k_is); (case k8ᵣ => ktr_room); (case k9ᵣ => exact BindsTo.of_eq rfl); (case c5ᵣ => decide); (case kBᵣ => exact locs rfl); (case c2ᵣ => exact rfl); (case c3ᵣ => exact rfl); (case c4ᵣ => exact rfl); k_whole; intro g'ᵣ L'ᵣ h'ᵣ FG'ᵣ F'ᵣ N'ᵣ B'ᵣ X'ᵣ T'ᵣ; (try dsimp only); (try k_fold))) | fail "no")
  k_with "My A!" => (first | (first | with_reducible assumption | exact AIs.set_e (by walk_at "My A") | exact AIs.set_b (by walk_at "My A") | exact AIs.set_cp (by walk_at "My A") | exact AIs.set_b0 (by walk_at "My A")) | fail "no")
  k_with "My S!" => (first | (first | with_reducible assumption | exact SIs.set_hb (by walk_at "My S") | exact SIs.set_bb (by walk_at "My S")) | fail "no")
  k_with "My k_get!" => (first | (first
  | exact SIs.stack (by walk_at "My S") | exact SIs.heap (by walk_at "My S") | exact SIs.trail (by walk_at "My S") | exact SIs.hb (by walk_at "My S") | exact SIs.bb (by walk_at "My S") | exact SIs.max_heap (by walk_at "My S")
  | exact SIs.stack_put (by walk_at "My S") | exact SIs.mark (by walk_at "My S") | exact SIs.push (by walk_at "My S") | exact SIs.new_var (by walk_at "My S") | exact SIs.bind (by walk_at "My S")
  | exact AIs.code (by walk_at "My A") | exact AIs.store (by walk_at "My A") | exact AIs.cp (by walk_at "My A") | exact AIs.e (by walk_at "My A") | exact AIs.b (by walk_at "My A") | exact AIs.b0 (by walk_at "My A")
  | exact AIs.top (by walk_at "My A") | exact AIs.set_choice (by walk_at "My A") | exact AIs.push_environment (by walk_at "My A") | exact AIs.push_choice (by walk_at "My A") | exact AIs.choice_part (by walk_at "My A") | exact AIs.cut_back (by walk_at "My A") | exact AIs.choices (by walk_at "My A")) | fail "no")
  k_with "My mem!" => (first | (first | exact List.Mem.head _ | (refine' List.Mem.tail _ ?_; walk_at "My mem") | assumption) | fail "no")
  k_with "My k_all!" => (first | (with_reducible assumption) | fail "no")
  k_with "call builtin:len!" => (first | ((k_here; (with_reducible show wpAny _ _ (call (Value.builtin "len") [Value.ref _]) _ _ _); k_dflt (refine' m_len ?k1ᵣ ?k2ᵣ ?k3ᵣ ?_; (case k1ᵣ => k_asm); (case k2ᵣ => walk_at "My mem"); (case k3ᵣ => omega); k_whole))) | fail "no")
  k_with "setItem ref int!" => (first | ((k_here; k_dflt (refine' m_set ?k1ᵣ ?k2ᵣ ?k3ᵣ ?k4ᵣ ?k5ᵣ ?k6ᵣ ?_; (case k1ᵣ => k_asm); (case k2ᵣ => k_asm); (case k6ᵣ => k_upd); (case k3ᵣ => omega); (case k4ᵣ => omega); (case k5ᵣ => omega); k_whole; intro h'ᵣ F'ᵣ N'ᵣ; (try k_sweep)))) | fail "no")
  k_with "call builtin:list.append!" => (first | ((k_here; k_dflt (refine' m_append ?k1ᵣ ?k2ᵣ ?k3ᵣ ?k4ᵣ ?_; (case k1ᵣ => k_asm); (case k2ᵣ => k_asm); (case k4ᵣ => k_upd); (case k3ᵣ => omega); k_whole; intro h'ᵣ F'ᵣ N'ᵣ; (try k_sweep)))) | fail "no")
  k_with "WhlIf!" => (first | ((first | (refine WhlIf.yes (decide_eq_true (by omega)) ?_) | (refine WhlIf.no (decide_eq_false (by omega)) ?_))) | fail "no")
  trivial

theorem rules21 : True := by
  k_with "My fit!" => (first | (first | omega | ((try simp only [List.length_cons, List.length_nil, List.length_append, List.length_map]); omega)) | fail "no")
  k_with "My at!" => (first | (first | with_reducible assumption | rfl | (refine' (show 0 ≤ (_ : Int) → (_ : Option Value) = some _ from by with_reducible assumption) ?_; omega)) | fail "no")
  trivial
theorem rules22 : True := by
  k_with "subscriptTail!" => (first | ((k_here; (with_reducible show wpAny _ _ (subscriptTail _ _ (Value.ref _) (Value.int _ _)) _ _ _); k_dflt (first
  | (refine' m_itemV ?k1ᵣ ?k2ᵣ ?k3ᵣ ?k4ᵣ ?k5ᵣ ?_; (case k1ᵣ => k_asm); (case k2ᵣ => walk_at "My mem"); (case k3ᵣ => omega); (case k4ᵣ => walk_at "My fit"); (case k5ᵣ => walk_at "My at"); k_whole)
  | (refine' m_tupV ?k1ᵣ ?k2ᵣ ?k3ᵣ ?k4ᵣ ?k5ᵣ ?_; (case k1ᵣ => k_asm); (case k2ᵣ => walk_at "My mem"); (case k3ᵣ => omega); (case k4ᵣ => walk_at "My fit"); (case k5ᵣ => walk_at "My at"); k_whole)))) | fail "no")
  trivial

theorem rules23 : True := by
  k_with "setAttr ref!" => (first | ((k_here; k_dflt (refine' m_setattr ?k1ᵣ ?k2ᵣ ?k3ᵣ ?k4ᵣ ?k5ᵣ ?k6ᵣ ?k7ᵣ ?k8ᵣ ?k9ᵣ ?k10ᵣ ?k11ᵣ ?k12ᵣ ?_; (case k1ᵣ => k_asm); (case k2ᵣ => k_asm); (case k3ᵣ => k_asm); (case k4ᵣ => k_inst); (case k5ᵣ => exact rfl); (case k6ᵣ => k_is); (case k7ᵣ => k_is); (case k8ᵣ => k_is); (case k9ᵣ => k_is); (case k10ᵣ => k_get); (case k11ᵣ => (intro t'ᵣ; k_upd)); (case k12ᵣ => first | exact AIs.len (by walk_at "My A") | exact SIs.len (by walk_at "My S")); k_whole; intro t'ᵣ tk'ᵣ h'ᵣ F'ᵣ N'ᵣ; (try dsimp only at N'ᵣ); (try dsimp only); (try k_sweep)))) | fail "no")
  trivial
theorem rules24 : True := by
  k_with "getAttr ref!" => (first | ((k_here; k_dflt (refine' m_getattr ?k1ᵣ ?k2ᵣ ?k3ᵣ ?k4ᵣ ?k5ᵣ ?k6ᵣ ?k7ᵣ ?k8ᵣ ?k9ᵣ ?_; (case k1ᵣ => k_asm); (case k2ᵣ => k_asm); (case k3ᵣ => k_inst); (case k4ᵣ => k_is); (case k5ᵣ => k_is); (case k6ᵣ => k_is); (case k7ᵣ => k_is); (case k8ᵣ => k_get); (case k9ᵣ => k_handed); k_whole; intro tk'ᵣ; (try dsimp only)))) | fail "no")
  trivial

theorem rules25 : True := by
  k_with "My call!" => (first | (((case Bᵣ => k_asm); (case Fᵣ => k_asm); (case Xᵣ => k_asm); (case Nᵣ => first | k_asm | exact rot1 (by k_asm) | exact rot2 (by k_asm) | exact rot3 (by k_asm)); (case Tᵣ => k_asm); (case hkᵣ => first | exact rfl | assumption); (case ordᵣ => first | (refine ⟨?_, ?_, ?_, ?_, ?_, ?_, ?_, ?_, ?_⟩ <;> with_reducible assumption) | omega); (case offᵣ => exact ⟨by k_all, by k_all, by k_all, by k_all, by k_all⟩); (case hAᵣ => walk_at "My A"); (case hSᵣ => walk_at "My S"); (case hdpᵣ => ktr_room); (case hunᵣ => ktr_units))) | fail "no")
  trivial

theorem pk_div {a f : Int} (h : 0 ≤ a) (hf : 1 ≤ f) : 0 ≤ a.fdiv f := by
  rw [Int.fdiv_eq_ediv_of_nonneg _ (by omega)]
  exact Int.ediv_nonneg h (by omega)
theorem pk_mod0 {a f : Int} (hf : 1 ≤ f) : 0 ≤ a.fmod f := by
  rw [Int.fmod_eq_emod_of_nonneg _ (by omega)]
  exact Int.emod_nonneg _ (by omega)
theorem pk_mod1 {a f : Int} (hf : 1 ≤ f) : a.fmod f < f := by
  rw [Int.fmod_eq_emod_of_nonneg _ (by omega)]
  exact Int.emod_lt_of_pos _ (by omega)
set_option maxHeartbeats 8000000 in
theorem c_pick {w : World} {mean : ExcName → Option Value} {mg mb : Str → Option Value} {dp un : Nat} {gd : Option (List Code)} {cn : Str} {cs : Scope} {a : Addr} {ccd : Value} {cl : List (Str × Addr)} {outer : List Env} {A₀ : Around} {base h₀ : Heap} {L : Addr} {m : Str → Option Value} {s : Shared} {Q E : Value → Shared → Prop} {UR UL : Nat} {x z f : Int} {tx tz ft : Tok} {k ku : Nat} {us : List Value} {ns : List Int} {tl : List (Addr × Obj)}
  (B : Below A₀ base outer h₀) (F : Fr h₀ L s.heap m) (X : (K0 w.params).In h₀) (N : News h₀ L s.heap ((UR, listOf ([.int x tx, .ref UL, .int z tz] : List Value).toArray k) :: (UL, listOf us.toArray ku) :: tl)) (T : TopL mean mg mb h₀) (hk : cs.kind = .function) (hdp : dp + 3 < recursionLimit) (hun : un + 24 < cLine)
  (o1 : UL < UR) (offU : ∀ p ∈ tl, p.1 ≠ UR) (hx : 0 ≤ x) (hz : 0 ≤ z) (hz1 : z ≤ 100) (hf1 : 1 ≤ f) (hf2 : f ≤ 1000000000) (hI : IntsAre us ns) (hns : ns.length ≤ 100)
  (hret : ∀ h' tk' k' x' z' t1 t2 t3, Fr h₀ L h' m → News h₀ L h' ((UR, listOf ([.int x' t1, .ref UL, .int z' t2] : List Value).toArray k') :: (UL, listOf us.toArray ku) :: tl) → 0 ≤ x' → 0 ≤ z' → z' ≤ 100 → ∀ r, 0 ≤ r → r < f → Q (.int r t3) { s with heap := h', toks := tk' }) :
   wpAny (model PySem.Challenge.rw_rh0105_01.row.prog w) (ktrTop dp un gd cn cs L a ccd cl outer) (call (.ref 552) [.ref UR, .int f ft]) Q E s := by
  refine wpAny_call ?_
  k_dflt (refine' code_def (binds := [(Str.ofString "urn", .ref UR), (Str.ofString "faces", .int f ft)]) ?k1ᵣ ?k2ᵣ ?k3ᵣ ?k4ᵣ ?k5ᵣ ?kAᵣ ?kFᵣ ?kKᵣ ?k6ᵣ ?k7ᵣ ?k8ᵣ ?k9ᵣ ?kBᵣ ?_ ?c2ᵣ ?c3ᵣ ?c4ᵣ ?c5ᵣ; walk_at "My enter")
  k_steps
  all_goals (rename News _ _ _ _ => N9)
  · exact hret _ _ _ _ _ _ _ _ (by assumption) N9 (pk_div (by split <;> omega) hf1) (by omega) (by omega) _ (pk_mod0 hf1) (pk_mod1 hf1)
  · exact hret _ _ _ _ _ _ _ _ (by assumption) N9 (pk_div hx hf1) hz hz1 _ (pk_mod0 hf1) (pk_mod1 hf1)
  · exact hret _ _ _ _ _ _ _ _ (by assumption) N9 (pk_div hx hf1) hz hz1 _ (pk_mod0 hf1) (pk_mod1 hf1)
theorem upd_two {h₀ h : Heap} {L d : Addr} {o q : Obj} {news : List (Addr × Obj)} {nf : Obj → List (Addr × Obj)} {b : Addr × Obj} (U : UpdF d o news nf) (N : News h₀ L h news) (hb : b ∈ news) (hne : b.1 ≠ d) : ∃ tl : List (Addr × Obj), News h₀ L h ((d, o) :: b :: tl) ∧ (∀ p ∈ tl, p.1 ≠ d) ∧ ∀ h' o', News h₀ L h' ((d, o') :: b :: tl) → News h₀ L h' (nf o') := by
  obtain ⟨pre, post, rfl, hg, h1, h2⟩ := U.split
  refine ⟨pre ++ post, ?_, ?_, ?_⟩
  · intro p hp
    rcases List.mem_cons.mp hp with rfl | hp
    · exact N _ (List.mem_append.mpr (.inr (.head _)))
    · rcases List.mem_cons.mp hp with rfl | hp
      · exact N _ hb
      · rcases List.mem_append.mp hp with hp | hp
        · exact N _ (List.mem_append.mpr (.inl hp))
        · exact N _ (List.mem_append.mpr (.inr (.tail _ hp)))
  · intro p hp
    rcases List.mem_append.mp hp with hp | hp
    · exact h1 p hp
    · exact h2 p hp
  · intro h' o' N' p hp
    rw [hg] at hp
    rcases List.mem_append.mp hp with hp | hp
    · exact N' _ (.tail _ (.tail _ (List.mem_append.mpr (.inl hp))))
    · rcases List.mem_cons.mp hp with rfl | hp
      · exact N' _ (.head _)
      · exact N' _ (.tail _ (.tail _ (List.mem_append.mpr (.inr hp))))
theorem c_pickU {w : World} {mean : ExcName → Option Value} {mg mb : Str → Option Value} {dp un : Nat} {gd : Option (List Code)} {cn : Str} {cs : Scope} {a : Addr} {ccd : Value} {cl : List (Str × Addr)} {outer : List Env} {A₀ : Around} {base h₀ : Heap} {L : Addr} {m : Str → Option Value} {s : Shared} {Q E : Value → Shared → Prop} {UR UL : Nat} {x z f : Int} {tx tz ft : Tok} {k ku : Nat} {us : List Value} {ns : List Int} {news : List (Addr × Obj)} {nf : Obj → List (Addr × Obj)}
  (B : Below A₀ base outer h₀) (F : Fr h₀ L s.heap m) (X : (K0 w.params).In h₀) (N : News h₀ L s.heap news) (T : TopL mean mg mb h₀) (hk : cs.kind = .function) (hdp : dp + 3 < recursionLimit) (hun : un + 24 < cLine)
  (U : UpdF UR (listOf ([.int x tx, .ref UL, .int z tz] : List Value).toArray k) news nf) (hUL : (UL, listOf us.toArray ku) ∈ news)
  (o1 : UL < UR) (hx : 0 ≤ x) (hz : 0 ≤ z) (hz1 : z ≤ 100) (hf1 : 1 ≤ f) (hf2 : f ≤ 1000000000) (hI : IntsAre us ns) (hns : ns.length ≤ 100)
  (hret : ∀ h' tk' k' x' z' t1 t2 t3 r, Fr h₀ L h' m → News h₀ L h' (nf (listOf ([.int x' t1, .ref UL, .int z' t2] : List Value).toArray k')) → 0 ≤ x' → 0 ≤ z' → z' ≤ 100 → 0 ≤ r → r < f → Q (.int r t3) { s with heap := h', toks := tk' }) :
   wpAny (model PySem.Challenge.rw_rh0105_01.row.prog w) (ktrTop dp un gd cn cs L a ccd cl outer) (call (.ref 552) [.ref UR, .int f ft]) Q E s := by
  obtain ⟨tl, N1, h1, h2⟩ := upd_two (q := default) U N hUL (Nat.ne_of_lt o1)
  exact c_pick B F X N1 T hk hdp hun o1 h1 hx hz hz1 hf1 hf2 hI hns fun h' tk' k' x' z' t1 t2 t3 F' N' a1 a2 a3 r a4 a5 => hret h' tk' k' x' z' t1 t2 t3 r F' (h2 _ _ N') a1 a2 a3 a4 a5


end
section
theorem noneE1 : True := by
  k_with_none
  trivial
def SameV (x y : Value) : Prop := x = y ∨ ∃ i t u, x = .int i t ∧ y = .int i u
theorem SameV.eqAt {A : Around} {s : Shared} {x y : Value} (h : SameV x y) : PySem.SeqAt.EqAt A s x y true := by
  rcases h with rfl | ⟨i, t, u, rfl, rfl⟩
  · exact PySem.SeqAt.EqAt.same x
  · have := PySem.SeqAt.EqAt.int_int (A := A) (s := s) i t i u
    simpa using this
inductive SameL : List Value → List Value → Prop
  | nil : SameL [] []
  | cons {x y : Value} {xs ys : List Value} : SameV x y → SameL xs ys → SameL (x :: xs) (y :: ys)
theorem SameL.length : ∀ {xs ys : List Value}, SameL xs ys → xs.length = ys.length
  | _, _, .nil => rfl
  | _, _, .cons _ h => by rw [List.length_cons, List.length_cons, h.length]
theorem SameL.at : ∀ {xs ys : List Value}, SameL xs ys → ∀ j (h1 : j < xs.length) (h2 : j < ys.length), SameV xs[j] ys[j]
  | _, _, .nil, j, h1, _ => absurd h1 (Nat.not_lt_zero _)
  | _, _, .cons h r, 0, _, _ => h
  | _, _, .cons h r, j + 1, h1, h2 => r.at j (Nat.lt_of_succ_lt_succ h1) (Nat.lt_of_succ_lt_succ h2)
theorem SameL.refl : ∀ xs : List Value, SameL xs xs
  | [] => .nil
  | _ :: r => .cons (.inl rfl) (SameL.refl r)
theorem SameL.ints : ∀ {xs ys : List Value} {ns : List Int}, IntsAre xs ns → IntsAre ys ns → SameL xs ys
  | _, _, _, .nil, .nil => .nil
  | _, _, _, .cons n t h, .cons _ u k => .cons (.inr ⟨n, t, u, rfl, rfl⟩) (SameL.ints h k)
theorem SameL.append : ∀ {xs ys us vs : List Value}, SameL xs ys → SameL us vs → SameL (xs ++ us) (ys ++ vs)
  | _, _, _, _, .nil, k => k
  | _, _, _, _, .cons h r, k => .cons h (r.append k)
section
variable {prog : Program} {w : World} {A : Around} {E : Value → Shared → Prop} {s : Shared} {h₀ : Heap} {L : Addr} {news : List (Addr × Obj)}
theorem all_tt : ∀ n : Nat, (List.range n).all (fun _ => true) = true := fun n => by simp
theorem m_eqL {a b : Addr} {xs ys : List Value} {Q : Value → Shared → Prop} (ha : s.heap.IsList a xs.toArray) (hb : s.heap.IsList b ys.toArray) (hs : SameL xs ys) (hu : A.units < cLine) (h : Q (.bool true) s) :
    wpAny (model prog w) A (compareOp .Eq (.ref a) (.ref b)) Q E s := by
  refine PySem.SeqAt.eq_listAt (e := fun _ => true) ha hb (by simpa using hs.length) hu (fun j h1 h2 => ?_) (by rw [all_tt]; exact h)
  have := (hs.at j (by simpa using h1) (by simpa using h2)).eqAt (A := A.in1) (s := s)
  simpa using this
theorem m_neL {a b : Addr} {xs ys : List Value} {Q : Value → Shared → Prop} (ha : s.heap.IsList a xs.toArray) (hb : s.heap.IsList b ys.toArray) (hs : SameL xs ys) (hu : A.units < cLine) (h : Q (.bool false) s) :
    wpAny (model prog w) A (compareOp .NotEq (.ref a) (.ref b)) Q E s := by
  refine PySem.SeqAt.RcNeAt.lists (e := fun _ => true) ha hb (by simpa using hs.length) hu (fun j h1 h2 => ?_) prog w E Q (by rw [all_tt]; exact h)
  have := (hs.at j (by simpa using h1) (by simpa using h2)).eqAt (A := A.in1) (s := s)
  simpa using this
theorem m_ne3 {a b a1 a2 a3 b1 b2 b3 : Addr} {x1 x2 x3 y1 y2 y3 : List Value} {Q : Value → Shared → Prop} (ha : s.heap.IsList a ([.ref a1, .ref a2, .ref a3] : List Value).toArray) (hb : s.heap.IsList b ([.ref b1, .ref b2, .ref b3] : List Value).toArray)
    (h1 : s.heap.IsList a1 x1.toArray) (h2 : s.heap.IsList a2 x2.toArray) (h3 : s.heap.IsList a3 x3.toArray) (k1 : s.heap.IsList b1 y1.toArray) (k2 : s.heap.IsList b2 y2.toArray) (k3 : s.heap.IsList b3 y3.toArray)
    (s1 : SameL x1 y1) (s2 : SameL x2 y2) (s3 : SameL x3 y3) (n1 : a1 ≠ b1) (n2 : a2 ≠ b2) (n3 : a3 ≠ b3) (hu : A.units + 4 < cLine) (h : Q (.bool false) s) :
    wpAny (model prog w) A (compareOp .NotEq (.ref a) (.ref b)) Q E s := by
  have one : ∀ {a b : Addr} {xs ys : List Value}, s.heap.IsList a xs.toArray → s.heap.IsList b ys.toArray → SameL xs ys → a ≠ b → PySem.SeqAt.EqAt A.in1 s (.ref a) (.ref b) true := by
    intro a b xs ys ha hb hs hne
    refine PySem.SeqAt.EqAt.of_refs hne ?_
    have z := PySem.SeqAt.RcAt.lists (A := A.in1) (s := s) (e := fun _ => true) ha hb (by simpa using hs.length) (by rw [units_in1]; omega) (fun j h1 h2 => by
      have := (hs.at j (by simpa using h1) (by simpa using h2)).eqAt (A := A.in1.in1) (s := s)
      simpa using this)
    rw [all_tt] at z; exact z
  refine PySem.SeqAt.RcNeAt.lists (e := fun _ => true) ha hb rfl (by omega) (fun j g1 g2 => ?_) prog w E Q (by rw [all_tt]; exact h)
  have g3 : j < 3 := g1
  match j, g3 with
  | 0, _ => exact one h1 k1 s1 n1
  | 1, _ => exact one h2 k2 s2 n2
  | 2, _ => exact one h3 k3 s3 n3
end


end
section
theorem noneC5 : True := by
  k_with_none
  trivial
def Halt (P : Prop) : Prop := P
theorem halt {P : Prop} (h : Halt P) : P := h
inductive Chain (ks : List Value) : Int → List Int → Prop
  | nil {b : Int} : b < 0 → Chain ks b []
  | cons {b cnt prev : Int} {ct pt : Tok} {cs : List Int} : 0 ≤ b → b ≤ 900 → 0 ≤ cnt → cnt ≤ 2 → ks[b.toNat]? = some (.int cnt ct) → ks[(b + cnt + 3).toNat]? = some (.int prev pt) → Chain ks prev cs → Chain ks b (b :: cs)
theorem allLt_mem {d : Nat} : ∀ {l : List (Addr × Obj)}, AllLt d l → ∀ p ∈ l, p.1 < d
  | [], _, p, hp => nomatch hp
  | q :: r, h, p, hp => by
    rcases List.mem_cons.mp hp with rfl | hp
    · exact h.1
    · exact allLt_mem h.2 p hp


theorem rules26 : True := by
  k_with "My enter!" => (first | (((case kAᵣ => exact rfl); (case kFᵣ => exact rfl); (case kKᵣ => assumption); (case k1ᵣ => k_asm); (case k2ᵣ => k_asm); (case k3ᵣ => k_asm); (case k4ᵣ => k_asm); (case k5ᵣ => k_asm); (case k6ᵣ => k_is); (case k7ᵣ => k_is); (case k8ᵣ => ktr_room); (case k9ᵣ => exact BindsTo.of_eq rfl); (case c5ᵣ => decide); (case kBᵣ => exact locs rfl); (case c2ᵣ => exact rfl); (case c3ᵣ => exact rfl); (case c4ᵣ => exact rfl); k_whole; intro g'ᵣ L'ᵣ h'ᵣ FG'ᵣ F'ᵣ N'ᵣ B'ᵣ X'ᵣ T'ᵣ; (try dsimp only); (try k_fold))) | fail "no")
  k_with "My A!" => (first | (first | with_reducible assumption | exact AIs.set_e (by walk_at "My A") | exact AIs.set_b (by walk_at "My A") | exact AIs.set_cp (by walk_at "My A") | exact AIs.set_b0 (by walk_at "My A")) | fail "no")
  k_with "My S!" => (first | (first | with_reducible assumption | exact SIs.set_hb (by walk_at "My S") | exact SIs.set_bb (by walk_at "My S")) | fail "no")
  k_with "My k_get!" => (first | (first
  | exact SIs.stack (by walk_at "My S") | exact SIs.heap (by walk_at "My S") | exact SIs.trail (by walk_at "My S") | exact SIs.hb (by walk_at "My S") | exact SIs.bb (by walk_at "My S") | exact SIs.max_heap (by walk_at "My S")
  | exact SIs.stack_put (by walk_at "My S") | exact SIs.mark (by walk_at "My S") | exact SIs.push (by walk_at "My S") | exact SIs.new_var (by walk_at "My S") | exact SIs.bind (by walk_at "My S")
  | exact AIs.code (by walk_at "My A") | exact AIs.store (by walk_at "My A") | exact AIs.cp (by walk_at "My A") | exact AIs.e (by walk_at "My A") | exact AIs.b (by walk_at "My A") | exact AIs.b0 (by walk_at "My A")
  | exact AIs.top (by walk_at "My A") | exact AIs.set_choice (by walk_at "My A") | exact AIs.push_environment (by walk_at "My A") | exact AIs.push_choice (by walk_at "My A") | exact AIs.choice_part (by walk_at "My A") | exact AIs.cut_back (by walk_at "My A") | exact AIs.choices (by walk_at "My A")) | fail "no")
  k_with "My mem!" => (first | (first | exact List.Mem.head _ | (refine' List.Mem.tail _ ?_; walk_at "My mem") | assumption) | fail "no")
  k_with "My k_all!" => (first | (with_reducible assumption) | fail "no")
  k_with "call builtin:len!" => (first | ((k_here; (with_reducible show wpAny _ _ (call (Value.builtin "len") [Value.ref _]) _ _ _); k_dflt (refine' m_len ?k1ᵣ ?k2ᵣ ?k3ᵣ ?_; (case k1ᵣ => k_asm); (case k2ᵣ => walk_at "My mem"); (case k3ᵣ => omega); k_whole))) | fail "no")
  k_with "setItem ref int!" => (first | ((k_here; k_dflt (refine' m_set ?k1ᵣ ?k2ᵣ ?k3ᵣ ?k4ᵣ ?k5ᵣ ?k6ᵣ ?_; (case k1ᵣ => k_asm); (case k2ᵣ => k_asm); (case k6ᵣ => k_upd); (case k3ᵣ => omega); (case k4ᵣ => omega); (case k5ᵣ => omega); k_whole; intro h'ᵣ F'ᵣ N'ᵣ; (try k_sweep)))) | fail "no")
  k_with "call builtin:list.append!" => (first | ((k_here; k_dflt (refine' m_append ?k1ᵣ ?k2ᵣ ?k3ᵣ ?k4ᵣ ?_; (case k1ᵣ => k_asm); (case k2ᵣ => k_asm); (case k4ᵣ => k_upd); (case k3ᵣ => omega); k_whole; intro h'ᵣ F'ᵣ N'ᵣ; (try k_sweep)))) | fail "no")
  k_with "WhlIf!" => (first | ((first | (refine WhlIf.yes (decide_eq_true (by omega)) ?_) | (refine WhlIf.no (decide_eq_false (by omega)) ?_))) | fail "no")
  trivial

theorem rules27 : True := by
  k_with "My fit!" => (first | (first | omega | ((try simp only [List.length_cons, List.length_nil, List.length_append, List.length_map]); omega)) | fail "no")
  k_with "My at!" => (first | (first | with_reducible assumption | rfl | (refine' (show 0 ≤ (_ : Int) → (_ : Option Value) = some _ from by with_reducible assumption) ?_; omega)) | fail "no")
  trivial
theorem rules28 : True := by
  k_with "subscriptTail!" => (first | ((k_here; (with_reducible show wpAny _ _ (subscriptTail _ _ (Value.ref _) (Value.int _ _)) _ _ _); k_dflt (first
  | (refine' m_itemV ?k1ᵣ ?k2ᵣ ?k3ᵣ ?k4ᵣ ?k5ᵣ ?_; (case k1ᵣ => k_asm); (case k2ᵣ => walk_at "My mem"); (case k3ᵣ => omega); (case k4ᵣ => walk_at "My fit"); (case k5ᵣ => walk_at "My at"); k_whole)
  | (refine' m_tupV ?k1ᵣ ?k2ᵣ ?k3ᵣ ?k4ᵣ ?k5ᵣ ?_; (case k1ᵣ => k_asm); (case k2ᵣ => walk_at "My mem"); (case k3ᵣ => omega); (case k4ᵣ => walk_at "My fit"); (case k5ᵣ => walk_at "My at"); k_whole)))) | fail "no")
  trivial

theorem rules29 : True := by
  k_with "setAttr ref!" => (first | ((k_here; k_dflt (refine' m_setattr ?k1ᵣ ?k2ᵣ ?k3ᵣ ?k4ᵣ ?k5ᵣ ?k6ᵣ ?k7ᵣ ?k8ᵣ ?k9ᵣ ?k10ᵣ ?k11ᵣ ?k12ᵣ ?_; (case k1ᵣ => k_asm); (case k2ᵣ => k_asm); (case k3ᵣ => k_asm); (case k4ᵣ => k_inst); (case k5ᵣ => exact rfl); (case k6ᵣ => k_is); (case k7ᵣ => k_is); (case k8ᵣ => k_is); (case k9ᵣ => k_is); (case k10ᵣ => k_get); (case k11ᵣ => (intro t'ᵣ; k_upd)); (case k12ᵣ => first | exact AIs.len (by walk_at "My A") | exact SIs.len (by walk_at "My S")); k_whole; intro t'ᵣ tk'ᵣ h'ᵣ F'ᵣ N'ᵣ; (try dsimp only at N'ᵣ); (try dsimp only); (try k_sweep)))) | fail "no")
  trivial
theorem rules30 : True := by
  k_with "getAttr ref!" => (first | ((k_here; k_dflt (refine' m_getattr ?k1ᵣ ?k2ᵣ ?k3ᵣ ?k4ᵣ ?k5ᵣ ?k6ᵣ ?k7ᵣ ?k8ᵣ ?k9ᵣ ?_; (case k1ᵣ => k_asm); (case k2ᵣ => k_asm); (case k3ᵣ => k_inst); (case k4ᵣ => k_is); (case k5ᵣ => k_is); (case k6ᵣ => k_is); (case k7ᵣ => k_is); (case k8ᵣ => k_get); (case k9ᵣ => k_handed); k_whole; intro tk'ᵣ; (try dsimp only)))) | fail "no")
  trivial

theorem rules31 : True := by
  k_with "My call!" => (first | (((case Bᵣ => k_asm); (case Fᵣ => k_asm); (case Xᵣ => k_asm); (case Nᵣ => first | k_asm | exact rot1 (by k_asm) | exact rot2 (by k_asm) | exact rot3 (by k_asm)); (case Tᵣ => k_asm); (case hkᵣ => first | exact rfl | assumption); (case ordᵣ => first | (refine ⟨?_, ?_, ?_, ?_, ?_, ?_, ?_, ?_, ?_⟩ <;> with_reducible assumption) | omega); (case offᵣ => exact ⟨by k_all, by k_all, by k_all, by k_all, by k_all⟩); (case hAᵣ => walk_at "My A"); (case hSᵣ => walk_at "My S"); (case hdpᵣ => ktr_room); (case hunᵣ => ktr_units))) | fail "no")
  trivial

theorem rules32 : True := by
  k_with "My k_mem!" => (first | (walk_at "My mem") | fail "no")
  trivial


theorem rules33 : True := by
  k_with "exec While!" => (first | (refine halt ?_) | fail "no")
  k_with "exec For!" => (first | (refine halt ?_) | fail "no")
  trivial


set_option maxHeartbeats 8000000 in
theorem c_choices {w : World} {mean : ExcName → Option Value} {mg mb : Str → Option Value} {dp un : Nat} {gd : Option (List Code)} {cn : Str} {cs : Scope} {a : Addr} {ccd : Value} {cl : List (Str × Addr)} {outer : List Env} {A₀ : Around} {base h₀ : Heap} {L : Addr} {m : Str → Option Value} {s : Shared} {Q E : Value → Shared → Prop} {A AD S SD HL KL TR CD : Nat} {ea es : List DictEntry} {na ns kk : Nat} {ks : List Value} {news : List (Addr × Obj)} {cp e b b0 hb bb : Int} {u1 u2 u3 u4 v1 v2 v3 : Tok} {csn : List Int}
   (B : Below A₀ base outer h₀) (F : Fr h₀ L s.heap m) (X : (K0 w.params).In h₀) (N : News h₀ L s.heap news) (T : TopL mean mg mb h₀) (hk : cs.kind = .function) (hdp : dp + 4 < recursionLimit) (hun : un + 32 < cLine)
   (mA : (A, instObj 541 AD) ∈ news) (mAD : (AD, dictOf ea na) ∈ news) (mS : (S, instObj 381 SD) ∈ news) (mSD : (SD, dictOf es ns) ∈ news) (mK : (KL, listOf ks.toArray kk) ∈ news) (hA : AIs ea S CD cp e b b0 u1 u2 u3 u4) (hS : SIs es HL KL TR hb bb v1 v2 v3) (hch : Chain ks b csn) (hlen : ks.length ≤ 1000) (hcl : csn.length ≤ 100)
   (hret : ∀ h' tk' D vs kd, Fr h₀ L h' m → News h₀ L h' ((D, listOf (vs : List Value).toArray kd) :: news) → IntsAre vs csn → (∀ p ∈ news, p.1 < D) → Q (.ref D) { s with heap := h', toks := tk' }) :
    wpAny (model PySem.Challenge.rw_rh0105_01.row.prog w) (ktrTop dp un gd cn cs L a ccd cl outer) (call (.ref 531) [.ref A]) Q E s := by
  refine wpAny_call ?_
  k_dflt (refine' code_def (binds := [(Str.ofString "self", .ref A)]) ?k1ᵣ ?k2ᵣ ?k3ᵣ ?k4ᵣ ?k5ᵣ ?kAᵣ ?kFᵣ ?kKᵣ ?k6ᵣ ?k7ᵣ ?k8ᵣ ?k9ᵣ ?kBᵣ ?_ ?c2ᵣ ?c3ᵣ ?c4ᵣ ?c5ᵣ; walk_at "My enter")
  k_steps
  unfold Halt
  rename News _ _ _ _ => lN0
  rename Fr _ _ _ _ => lF0
  rename (∀ p : Addr × Obj, p ∈ news → p.1 < _) => l0
  have hx : ∃ D, (∀ p ∈ news, p.1 < D) ∧ News _ _ _ ((D, listOf ([] : List Value).toArray 0) :: news) ∧ Fr _ _ _ (fun y => if y = Str.ofString "b" then some (Value.int b u3) else if y = Str.ofString "found" then some (Value.ref D) else if y = Str.ofString "stack" then some (Value.ref KL) else List.lookup y [(Str.ofString "self", Value.ref A)].reverse) := ⟨_, l0, lN0, lF0⟩
  obtain ⟨D, lD, lN', lF'⟩ := hx
  clear lN0 lF0 l0
  have offD : ∀ p ∈ news, p.1 ≠ D := fun p hp => Nat.ne_of_lt (lD p hp)
  k_dflt (refine' ksw_while (σ := List Int × List Value × Nat × Int × Tok × List Int) (fun c => (D, listOf ((c.2.1 : List Value)).toArray c.2.2.1) :: news) (fun c => [(Str.ofString "b", .int c.2.2.2.1 c.2.2.2.2.1)]) (fun _ => True) [] (fun c => IntsAre c.2.1 c.1 ∧ Chain ks c.2.2.2.1 c.2.2.2.2.2 ∧ c.1 ++ c.2.2.2.2.2 = csn) (fun c => c.2.2.2.2.2.length) ([], [], 0, b, u3, csn) lF' lN' trivial ?hk ⟨.nil, hch, rfl⟩ ?turn)
  case hk => (intro p hp; rw [List.mem_singleton.mp hp]; rfl)
  case turn =>
    rintro ⟨is, vs, kd, bb, bt, rest⟩ u h tk _ hP F9 N9
    dsimp only at hP N9 F9
    obtain ⟨hI, hC, hE⟩ := hP
    clear lF' lN'
    refine post_gen fun QQ hQQ => ?_
    have hvl : vs.length = is.length := hI.length
    have hil : is.length ≤ csn.length := by rw [← hE, List.length_append]; omega
    rcases hC with hb | ⟨h0, h9, hc0, hc2, e1, e2, hC'⟩
    next =>
      k_steps
      refine hQQ _ _ ?_
      dsimp only
      rw [if_neg (by simp only [decide_eq_true_eq]; omega)]
      k_steps
      rename News _ _ _ _ => N9
      rw [List.append_nil] at hE
      subst hE
      exact hret _ _ _ _ _ (by assumption) N9 hI lD
    next =>
      k_steps
      refine hQQ _ _ ?_
      dsimp only
      rw [if_pos (by simp only [decide_eq_true_eq]; omega)]
      refine post_gen fun QR hQR => ?_
      k_steps
      rename News _ _ _ _ => N9
      refine hQR _ _ ?_
      refine' ksw_end (is ++ [bb], vs ++ [.int bb bt], _, _, _, _) (by assumption) N9 (fun p hp => hp) trivial ?hk ?hr ⟨IntsAre.append hI (.cons _ _ .nil), hC', by rw [← hE]; simp⟩ (by simp)
      case hk => (intro p hp; rw [List.mem_singleton.mp hp]; rfl)
      case hr =>
        intro z h1 _
        have h3 := h1 _ (List.mem_singleton.mpr rfl)
        dsimp only at h3 ⊢
        rw [if_neg h3]
        unfold kstB
        rw [if_neg h3]; rfl




set_option maxHeartbeats 8000000 in
theorem c_part {w : World} {mean : ExcName → Option Value} {mg mb : Str → Option Value} {dp un : Nat} {gd : Option (List Code)} {cn : Str} {cs : Scope} {a : Addr} {ccd : Value} {cl : List (Str × Addr)} {outer : List Env} {A₀ : Around} {base h₀ : Heap} {L : Addr} {m : Str → Option Value} {s : Shared} {Q E : Value → Shared → Prop} {A AD S SD HL KL TR CD : Nat} {ea es : List DictEntry} {na ns kk : Nat} {ks : List Value} {news : List (Addr × Obj)} {cp e b b0 hb bb : Int} {u1 u2 u3 u4 v1 v2 v3 : Tok} {cnt i : Int} {ct it : Tok} {v : Value}
   (B : Below A₀ base outer h₀) (F : Fr h₀ L s.heap m) (X : (K0 w.params).In h₀) (N : News h₀ L s.heap news) (T : TopL mean mg mb h₀) (hk : cs.kind = .function) (hdp : dp + 3 < recursionLimit) (hun : un + 24 < cLine)
   (mA : (A, instObj 541 AD) ∈ news) (mAD : (AD, dictOf ea na) ∈ news) (mS : (S, instObj 381 SD) ∈ news) (mSD : (SD, dictOf es ns) ∈ news) (mK : (KL, listOf ks.toArray kk) ∈ news) (hA : AIs ea S CD cp e b b0 u1 u2 u3 u4) (hS : SIs es HL KL TR hb bb v1 v2 v3) (hb0 : 0 ≤ b) (hi : 0 ≤ i ∧ i ≤ 100) (hcnt : ks[b.toNat]? = some (.int cnt ct)) (hv : ks[(b + cnt + i).toNat]? = some v) (hlen : ks.length ≤ 1000) (hb1 : b ≤ 1000) (hc1 : 0 ≤ cnt ∧ cnt ≤ 2)
   (hret : ∀ h' tk', Fr h₀ L h' m → News h₀ L h' news → Q v { s with heap := h', toks := tk' }) :
    wpAny (model PySem.Challenge.rw_rh0105_01.row.prog w) (ktrTop dp un gd cn cs L a ccd cl outer) (call (.ref 503) [.ref A, .int i it]) Q E s := by
  refine wpAny_call ?_
  k_dflt (refine' code_def (binds := [(Str.ofString "self", .ref A), (Str.ofString "part", .int i it)]) ?k1ᵣ ?k2ᵣ ?k3ᵣ ?k4ᵣ ?k5ᵣ ?kAᵣ ?kFᵣ ?kKᵣ ?k6ᵣ ?k7ᵣ ?k8ᵣ ?k9ᵣ ?kBᵣ ?_ ?c2ᵣ ?c3ᵣ ?c4ᵣ ?c5ᵣ; walk_at "My enter")
  k_steps
  all_goals (rename News _ _ _ _ => N9; exact hret _ _ (by assumption) N9)




end
section
theorem noneC6 : True := by
  k_with_none
  trivial
theorem rules34 : True := by
  k_with "My enter!" => (first | (((case kAᵣ => exact rfl); (case kFᵣ => exact rfl); (case kKᵣ => assumption); (case k1ᵣ => k_asm); (case k2ᵣ => k_asm); (case k3ᵣ => k_asm); (case k4ᵣ => k_asm); (case k5ᵣ => k_asm); (case k6ᵣ => k_is); (case k7ᵣ => k_is); (case k8ᵣ => ktr_room); (case k9ᵣ => exact BindsTo.of_eq rfl); (case c5ᵣ => decide); (case kBᵣ => exact locs rfl); (case c2ᵣ => exact rfl); (case c3ᵣ => exact rfl); (case c4ᵣ => exact rfl); k_whole; intro g'ᵣ L'ᵣ h'ᵣ FG'ᵣ F'ᵣ N'ᵣ B'ᵣ X'ᵣ T'ᵣ; (try dsimp only); (try k_fold))) | fail "no")
  k_with "My A!" => (first | (first | with_reducible assumption | exact AIs.set_e (by walk_at "My A") | exact AIs.set_b (by walk_at "My A") | exact AIs.set_cp (by walk_at "My A") | exact AIs.set_b0 (by walk_at "My A")) | fail "no")
  k_with "My S!" => (first | (first | with_reducible assumption | exact SIs.set_hb (by walk_at "My S") | exact SIs.set_bb (by walk_at "My S")) | fail "no")
  k_with "My k_get!" => (first | (first
  | exact SIs.stack (by walk_at "My S") | exact SIs.heap (by walk_at "My S") | exact SIs.trail (by walk_at "My S") | exact SIs.hb (by walk_at "My S") | exact SIs.bb (by walk_at "My S") | exact SIs.max_heap (by walk_at "My S")
  | exact SIs.stack_put (by walk_at "My S") | exact SIs.mark (by walk_at "My S") | exact SIs.push (by walk_at "My S") | exact SIs.new_var (by walk_at "My S") | exact SIs.bind (by walk_at "My S")
  | exact AIs.code (by walk_at "My A") | exact AIs.store (by walk_at "My A") | exact AIs.cp (by walk_at "My A") | exact AIs.e (by walk_at "My A") | exact AIs.b (by walk_at "My A") | exact AIs.b0 (by walk_at "My A")
  | exact AIs.top (by walk_at "My A") | exact AIs.set_choice (by walk_at "My A") | exact AIs.push_environment (by walk_at "My A") | exact AIs.push_choice (by walk_at "My A") | exact AIs.choice_part (by walk_at "My A") | exact AIs.cut_back (by walk_at "My A") | exact AIs.choices (by walk_at "My A")) | fail "no")
  k_with "My mem!" => (first | (first | exact List.Mem.head _ | (refine' List.Mem.tail _ ?_; walk_at "My mem") | assumption) | fail "no")
  k_with "My k_all!" => (first | (with_reducible assumption) | fail "no")
  k_with "call builtin:len!" => (first | ((k_here; (with_reducible show wpAny _ _ (call (Value.builtin "len") [Value.ref _]) _ _ _); k_dflt (refine' m_len ?k1ᵣ ?k2ᵣ ?k3ᵣ ?_; (case k1ᵣ => k_asm); (case k2ᵣ => walk_at "My mem"); (case k3ᵣ => omega); k_whole))) | fail "no")
  k_with "setItem ref int!" => (first | ((k_here; k_dflt (refine' m_set ?k1ᵣ ?k2ᵣ ?k3ᵣ ?k4ᵣ ?k5ᵣ ?k6ᵣ ?_; (case k1ᵣ => k_asm); (case k2ᵣ => k_asm); (case k6ᵣ => k_upd); (case k3ᵣ => omega); (case k4ᵣ => omega); (case k5ᵣ => omega); k_whole; intro h'ᵣ F'ᵣ N'ᵣ; (try k_sweep)))) | fail "no")
  k_with "call builtin:list.append!" => (first | ((k_here; k_dflt (refine' m_append ?k1ᵣ ?k2ᵣ ?k3ᵣ ?k4ᵣ ?_; (case k1ᵣ => k_asm); (case k2ᵣ => k_asm); (case k4ᵣ => k_upd); (case k3ᵣ => omega); k_whole; intro h'ᵣ F'ᵣ N'ᵣ; (try k_sweep)))) | fail "no")
  k_with "WhlIf!" => (first | ((first | (refine WhlIf.yes (decide_eq_true (by omega)) ?_) | (refine WhlIf.no (decide_eq_false (by omega)) ?_))) | fail "no")
  trivial

theorem rules35 : True := by
  k_with "My fit!" => (first | (first | omega | ((try simp only [List.length_cons, List.length_nil, List.length_append, List.length_map]); omega)) | fail "no")
  k_with "My at!" => (first | (first | with_reducible assumption | rfl | (refine' (show 0 ≤ (_ : Int) → (_ : Option Value) = some _ from by with_reducible assumption) ?_; omega)) | fail "no")
  trivial
theorem rules36 : True := by
  k_with "subscriptTail!" => (first | ((k_here; (with_reducible show wpAny _ _ (subscriptTail _ _ (Value.ref _) (Value.int _ _)) _ _ _); k_dflt (first
  | (refine' m_itemV ?k1ᵣ ?k2ᵣ ?k3ᵣ ?k4ᵣ ?k5ᵣ ?_; (case k1ᵣ => k_asm); (case k2ᵣ => walk_at "My mem"); (case k3ᵣ => omega); (case k4ᵣ => walk_at "My fit"); (case k5ᵣ => walk_at "My at"); k_whole)
  | (refine' m_tupV ?k1ᵣ ?k2ᵣ ?k3ᵣ ?k4ᵣ ?k5ᵣ ?_; (case k1ᵣ => k_asm); (case k2ᵣ => walk_at "My mem"); (case k3ᵣ => omega); (case k4ᵣ => walk_at "My fit"); (case k5ᵣ => walk_at "My at"); k_whole)))) | fail "no")
  trivial

theorem rules37 : True := by
  k_with "setAttr ref!" => (first | ((k_here; k_dflt (refine' m_setattr ?k1ᵣ ?k2ᵣ ?k3ᵣ ?k4ᵣ ?k5ᵣ ?k6ᵣ ?k7ᵣ ?k8ᵣ ?k9ᵣ ?k10ᵣ ?k11ᵣ ?k12ᵣ ?_; (case k1ᵣ => k_asm); (case k2ᵣ => k_asm); (case k3ᵣ => k_asm); (case k4ᵣ => k_inst); (case k5ᵣ => exact rfl); (case k6ᵣ => k_is); (case k7ᵣ => k_is); (case k8ᵣ => k_is); (case k9ᵣ => k_is); (case k10ᵣ => k_get); (case k11ᵣ => (intro t'ᵣ; k_upd)); (case k12ᵣ => first | exact AIs.len (by walk_at "My A") | exact SIs.len (by walk_at "My S")); k_whole; intro t'ᵣ tk'ᵣ h'ᵣ F'ᵣ N'ᵣ; (try dsimp only at N'ᵣ); (try dsimp only); (try k_sweep)))) | fail "no")
  trivial
theorem rules38 : True := by
  k_with "getAttr ref!" => (first | ((k_here; k_dflt (refine' m_getattr ?k1ᵣ ?k2ᵣ ?k3ᵣ ?k4ᵣ ?k5ᵣ ?k6ᵣ ?k7ᵣ ?k8ᵣ ?k9ᵣ ?_; (case k1ᵣ => k_asm); (case k2ᵣ => k_asm); (case k3ᵣ => k_inst); (case k4ᵣ => k_is); (case k5ᵣ => k_is); (case k6ᵣ => k_is); (case k7ᵣ => k_is); (case k8ᵣ => k_get); (case k9ᵣ => k_handed); k_whole; intro tk'ᵣ; (try dsimp only)))) | fail "no")
  trivial

theorem rules39 : True := by
  k_with "My call!" => (first | (((case Bᵣ => k_asm); (case Fᵣ => k_asm); (case Xᵣ => k_asm); (case Nᵣ => first | k_asm | exact rot1 (by k_asm) | exact rot2 (by k_asm) | exact rot3 (by k_asm)); (case Tᵣ => k_asm); (case hkᵣ => first | exact rfl | assumption); (case ordᵣ => first | (refine ⟨?_, ?_, ?_, ?_, ?_, ?_, ?_, ?_, ?_⟩ <;> with_reducible assumption) | omega); (case offᵣ => exact ⟨by k_all, by k_all, by k_all, by k_all, by k_all⟩); (case hAᵣ => walk_at "My A"); (case hSᵣ => walk_at "My S"); (case hdpᵣ => ktr_room); (case hunᵣ => ktr_units))) | fail "no")
  trivial

theorem rules40 : True := by
  k_with "My k_mem!" => (first | (walk_at "My mem") | fail "no")
  trivial


theorem off1_mem {d : Nat} : ∀ {l : List (Addr × Obj)}, LCg.Off1 d l → ∀ p ∈ l, p.1 ≠ d
  | [], _, p, hp => nomatch hp
  | q :: r, h, p, hp => by
    rcases List.mem_cons.mp hp with rfl | hp
    · exact h.1
    · exact off1_mem h.2 p hp
theorem m_reverse {prog : Program} {w : World} {A : Around} {E : Value → Shared → Prop} {s : Shared} {h₀ : Heap} {L D : Addr} {m : Str → Option Value} {news news' : List (Addr × Obj)} {its : List Value} {n : Nat} {Q : Value → Shared → Prop} (F : Fr h₀ L s.heap m) (N : News h₀ L s.heap news) (hb : its.length < 10000)
    (U : Upd D (listOf its.toArray n) (listOf its.reverse.toArray n) news news')
    (h : ∀ h', Fr h₀ L h' m → News h₀ L h' news' → Q .none { s with heap := h' }) : wpAny (model prog w) A (call (.builtin "list.reverse") [.ref D]) Q E s :=
  kl_reverse (its := its.toArray) F N (by simp) U (by rw [sizeLine_eq]; simp; omega) h
theorem rules41 : True := by
  k_with "call builtin:list.reverse!" => (first | ((k_here; (try dsimp only); k_dflt (refine' m_reverse ?k1ᵣ ?k2ᵣ ?k3ᵣ ?k4ᵣ ?_; (case k1ᵣ => k_asm); (case k2ᵣ => k_asm); (case k4ᵣ => k_upd); (case k3ᵣ => omega); k_whole; intro h'ᵣ F'ᵣ N'ᵣ; (try k_sweep)))) | fail "no")
  k_with "My callR!" => (first | (((case Bᵣ => k_asm); (case Fᵣ => k_asm); (case Xᵣ => k_asm); (case Nᵣ => k_asm); (case Tᵣ => k_asm); (case hkᵣ => first | exact rfl | with_reducible assumption); (case mAᵣ => walk_at "My mem"); (case mADᵣ => walk_at "My mem"); (case hAᵣ => walk_at "My A"); (case mSᵣ => walk_at "My mem"); (case mSDᵣ => walk_at "My mem"); (case hSᵣ => walk_at "My S"); (case mKᵣ => walk_at "My mem"); (case hdpᵣ => ktr_room); (case hunᵣ => ktr_units))) | fail "no")
  k_with "call ref!" => (first | ((k_here; (try dsimp only); (with_reducible show wpAny _ _ (call (Value.ref 531) _) _ _ _); k_dflt (refine' c_choices (B := ?Bᵣ) (F := ?Fᵣ) (X := ?Xᵣ) (N := ?Nᵣ) (T := ?Tᵣ) (hk := ?hkᵣ) (hdp := ?hdpᵣ) (hun := ?hunᵣ) (mA := ?mAᵣ) (mAD := ?mADᵣ) (mS := ?mSᵣ) (mSD := ?mSDᵣ) (mK := ?mKᵣ) (hA := ?hAᵣ) (hS := ?hSᵣ) (hch := ?z1ᵣ) (hlen := ?z2ᵣ) (hcl := ?z3ᵣ) ?_; walk_at "My callR"; (case z1ᵣ => with_reducible assumption); (case z2ᵣ => omega); (case z3ᵣ => (simp only [List.length_reverse]; omega)); intro h'ᵣ tk'ᵣ D'ᵣ vs'ᵣ kd'ᵣ F'ᵣ N'ᵣ hI'ᵣ lD'ᵣ; (try dsimp only)))) | fail "no")
  k_with "call ref!" => (first | ((k_here; (try dsimp only); (with_reducible show wpAny _ _ (call (Value.ref 503) _) _ _ _); k_dflt (refine' c_part (B := ?Bᵣ) (F := ?Fᵣ) (X := ?Xᵣ) (N := ?Nᵣ) (T := ?Tᵣ) (hk := ?hkᵣ) (hdp := ?hdpᵣ) (hun := ?hunᵣ) (mA := ?mAᵣ) (mAD := ?mADᵣ) (mS := ?mSᵣ) (mSD := ?mSDᵣ) (mK := ?mKᵣ) (hA := ?hAᵣ) (hS := ?hSᵣ) (hb0 := ?z0ᵣ) (hi := ?z1ᵣ) (hcnt := ?z2ᵣ) (hv := ?z3ᵣ) (hlen := ?z4ᵣ) (hb1 := ?z5ᵣ) (hc1 := ?z6ᵣ) ?_; walk_at "My callR"; (case z0ᵣ => omega); (case z1ᵣ => omega); (case z2ᵣ => with_reducible assumption); (case z3ᵣ => with_reducible assumption); (case z4ᵣ => omega); (case z5ᵣ => omega); (case z6ᵣ => omega); intro h'ᵣ tk'ᵣ F'ᵣ N'ᵣ; (try dsimp only)))) | fail "no")
  trivial
theorem m_slice {prog : Program} {w : World} {A : Around} {E : Value → Shared → Prop} {s : Shared} {h₀ : Heap} {L D0 : Addr} {m : Str → Option Value} {news : List (Addr × Obj)} {its zs : List Value} {n : Nat} {value slice : Expr} {x y : Int} {tx ty : Tok} {Q : Value → Shared → Prop}
    (F : Fr h₀ L s.heap m) (N : News h₀ L s.heap news) (hm : (D0, listOf its.toArray n) ∈ news) (h0 : 0 ≤ x) (hxy : x ≤ y) (hy : y ≤ its.length) (hb : its.length < 10000) (e : (its.drop x.toNat).take (y - x).toNat = zs)
    (h : ∀ D h', Fr h₀ L h' m → News h₀ L h' ((D, listOf zs.toArray 0) :: news) → (∀ p ∈ news, p.1 < D) → Q (.ref D) { s with heap := h' })
    (hs : subscripted slice false (.ref D0) (.ref s.heap.objs.size) = operate [.ref s.heap.objs.size, .ref D0] (getItem (.ref D0) (.ref s.heap.objs.size))) :
    wpAny (model prog w) A (subscriptTail value slice (.ref D0) (.ref s.heap.objs.size)) Q E { s with heap := s.heap.push { cls := .type "slice", data := .fields #[.int x tx, .int y ty, .none] } } := by
  refine kba_turn (value' := PySem.Expr.Name (PySem.Str.ofString "_") ⟨0, 0, 0, 0⟩) (fun _ => rfl) ?_
  refine kms_slice_lit F N (m_isList N hm) (.int x tx) (.int y ty) ?_ h hs (fun _ => rfl) (by rw [List.size_toArray, sizeLine_eq]; omega)
  show kms_pick its (some x) (some y) = zs
  unfold kms_pick kms_lo kms_hi
  dsimp only
  rw [if_neg (by omega), if_neg (by omega), Nat.min_eq_left (by omega), Nat.min_eq_left (by omega), ← e]
  congr 1; omega
theorem rules42 : True := by
  k_with "subscriptTail!" => (first | ((k_here; (with_reducible show wpAny _ _ (subscriptTail _ _ (Value.ref _) (Value.ref _)) _ _ _); k_dflt (refine' m_slice ?Fᵣ ?Nᵣ ?hmᵣ ?h0ᵣ ?hxyᵣ ?hyᵣ ?hbᵣ ?eᵣ ?_ ?sᵣ; (case Fᵣ => k_asm); (case Nᵣ => k_asm); (case hmᵣ => walk_at "My mem"); (case h0ᵣ => omega); (case hxyᵣ => omega); (case hyᵣ => omega); (case hbᵣ => omega); (case eᵣ => walk_at "My slice"); (case sᵣ => with_unfolding_all rfl)); intro D'ᵣ h'ᵣ F'ᵣ N'ᵣ l1ᵣ; (try k_lt l1ᵣ); (try k_sweep))) | fail "no")
  k_with "subscriptTail Name Slice ref ref!" => (first | ((k_here; (with_reducible show wpAny _ _ (subscriptTail _ _ (Value.ref _) (Value.ref _)) _ _ _); k_dflt (refine' m_slice ?Fᵣ ?Nᵣ ?hmᵣ ?h0ᵣ ?hxyᵣ ?hyᵣ ?hbᵣ ?eᵣ ?_ ?sᵣ; (case Fᵣ => k_asm); (case Nᵣ => k_asm); (case hmᵣ => walk_at "My mem"); (case h0ᵣ => omega); (case hxyᵣ => omega); (case hyᵣ => omega); (case hbᵣ => omega); (case eᵣ => walk_at "My slice"); (case sᵣ => with_unfolding_all rfl)); intro D'ᵣ h'ᵣ F'ᵣ N'ᵣ l1ᵣ; (try k_lt l1ᵣ); (try k_sweep))) | fail "no")
  k_with "subscriptTail!" => (first | ((k_here; (with_reducible show wpAny _ _ (subscriptTail _ _ (Value.ref _) (Value.int _ _)) _ _ _); k_dflt (refine' kda_item (knd := PySem.intKind _ _) ?Nᵣ ?hpᵣ ?hdᵣ (intKind_is _ _ _ _) ?hlᵣ ?_ ?hsᵣ; (case Nᵣ => k_asm); (case hpᵣ => walk_at "My mem"); (case hdᵣ => with_reducible assumption); (case hlᵣ => with_reducible assumption); (case hsᵣ => with_unfolding_all rfl); k_whole))) | fail "no")
  k_with "subscriptTail Name Name ref int!" => (first | ((k_here; (with_reducible show wpAny _ _ (subscriptTail _ _ (Value.ref _) (Value.int _ _)) _ _ _); k_dflt (refine' kda_item (knd := PySem.intKind _ _) ?Nᵣ ?hpᵣ ?hdᵣ (intKind_is _ _ _ _) ?hlᵣ ?_ ?hsᵣ; (case Nᵣ => k_asm); (case hpᵣ => walk_at "My mem"); (case hdᵣ => with_reducible assumption); (case hlᵣ => with_reducible assumption); (case hsᵣ => with_unfolding_all rfl); k_whole))) | fail "no")
  k_with "binaryOp Add ref ref!" => (first | ((k_here; (with_reducible show wpAny _ _ (binaryOp _ (Value.ref _) (Value.ref _)) _ _ _); k_dflt (refine' kmk_add_lit ?Fᵣ ?Nᵣ ?aᵣ ?bᵣ ?eᵣ ?_ ?zᵣ; (case Fᵣ => k_asm); (case Nᵣ => k_asm); (case aᵣ => exact m_isList (by k_asm) (by walk_at "My mem")); (case bᵣ => exact m_isList (by k_asm) (by walk_at "My mem")); (case eᵣ => exact rfl); (case zᵣ => (rw [sizeLine_eq]; simp; omega))); intro D'ᵣ h'ᵣ F'ᵣ N'ᵣ l1ᵣ; (try k_lt l1ᵣ); (try k_sweep))) | fail "no")
  trivial
theorem take_cut {ks zs : List Value} {a b n : Nat} (h : (ks.drop a).take n = zs) (e : b = n) : (ks.drop a).take b = zs := e ▸ h
theorem rules43 : True := by
  k_with "My slice!" => (first | ((refine take_cut (by with_reducible assumption) ?_; omega)) | fail "no")
  trivial


theorem rules44 : True := by
  k_with "exec Assign cons ListComp!" => (first | (refine halt ?_) | fail "no")
  k_with "eval ListComp!" => (first | (refine halt ?_) | fail "no")
  k_with "compareOp NotEq ref ref!" => (first | (refine halt ?_) | fail "no")
  k_with "compareOp Eq ref ref!" => (first | (refine halt ?_) | fail "no")
  k_with "CompSrc!" => (first | (refine halt ?_) | fail "no")
  trivial


theorem fold_filter (x : Int) : ∀ (pn l : List Int), pn.foldl (fun l k => if k ≤ x then l ++ [k] else l) l = l ++ pn.filter (fun y => decide (y ≤ x))
  | [], l => by simp
  | k :: r, l => by
    rw [List.foldl_cons, fold_filter x r, List.filter_cons]
    by_cases h : k ≤ x
    · rw [if_pos h, if_pos (decide_eq_true h)]; simp
    · rw [if_neg h, if_neg (by simpa using h)]
structure KeptAt (tl : List (Addr × Obj)) (kvs : List (Int × Value)) (ks : List Value) (x hb : Int) (T9 G En kg ke : Nat) (evs gs : List Value) (e7 : List Int) (cnt : Int) (ct : Tok) : Prop where
  kv : valueAt kvs x = some (Value.ref T9)
  t9 : (T9, ({ cls := .type "tuple", data := .seq ([.ref G, .ref En] : List Value).toArray 0 } : Obj)) ∈ tl
  g : (G, listOf gs.toArray kg) ∈ tl
  en : (En, listOf evs.toArray ke) ∈ tl
  ei : IntsAre evs e7
  le : e7.length = 7
  g2 : gs.length ≤ 2
  e5 : e7[5]? = some hb
  c0 : ks[x.toNat]? = some (.int cnt ct)
  cg : cnt = gs.length
  sl : (ks.drop x.toNat).take (gs.length + 1) = .int cnt ct :: gs
  sz : x + (gs.length : Int) + 8 ≤ ks.length
  pt : ∀ i : Int, 1 ≤ i → i ≤ 7 → ∃ t, ks[(x + cnt + i).toNat]? = some (.int (e7.getD (i - 1).toNat 0) t)
set_option maxHeartbeats 8000000 in
theorem c_chain {w : World} {mean : ExcName → Option Value} {mg mb : Str → Option Value} {dp un : Nat} {gd : Option (List Code)} {cn : Str} {cs : Scope} {a : Addr} {ccd : Value} {cl : List (Str × Addr)} {outer : List Env} {A₀ : Around} {base h₀ : Heap} {L : Addr} {m : Str → Option Value} {s : Shared} {Q E : Value → Shared → Prop} {A AD S SD HL KL TR CD C1 C2 : Nat} {ea es : List DictEntry} {na ns kh kk kt kc : Nat} {hs ks ts : List Value} {tl : List (Addr × Obj)} {cp e b b0 hb bb : Int} {u1 u2 u3 u4 v1 v2 v3 : Tok} {c1a c1b c2a c2b : Value} {c1t c2t : Tok} {x : Int} {xt : Tok} {PL KP kp : Nat} {ok : Obj} {kvs : List (Int × Value)} {ps : List Value} {pn : List Int}
   (B : Below A₀ base outer h₀) (F : Fr h₀ L s.heap m) (X : (K0 w.params).In h₀) (N : News h₀ L s.heap ((A, instObj 541 AD) :: (AD, dictOf ea na) :: (S, instObj 381 SD) :: (SD, dictOf es ns) :: (HL, listOf (hs).toArray kh) :: (KL, listOf (ks).toArray kk) :: (TR, listOf (ts).toArray kt) :: (CD, listOf ([.ref C1, .ref C2] : List Value).toArray kc) :: (C1, codeTup c1a c1b 2 c1t) :: (C2, codeTup c2a c2b 1 c2t) :: tl)) (T : TopL mean mg mb h₀) (hk : cs.kind = .function) (hdp : dp + 6 < recursionLimit) (hun : un + 48 < cLine)
   (ord : C1 < C2 ∧ C2 < CD ∧ CD < AD ∧ AD < A ∧ A < SD ∧ SD < S ∧ S < HL ∧ HL < KL ∧ KL < TR) (off : Off AD SD HL KL TR tl) (hA : AIs ea S CD cp e b b0 u1 u2 u3 u4) (hS : SIs es HL KL TR hb bb v1 v2 v3)
   (hPL : (PL, listOf ps.toArray kp) ∈ tl) (hPI : IntsAre ps pn) (hpl : pn.length ≤ 20) (hKP : (KP, ok) ∈ tl) (hok : ok.IsDictOf (PySem.intKind PySem.Challenge.rw_rh0105_01.row.prog w) kvs)
   (hbx : b = x) (hch : Chain ks b ((pn.filter (fun y => decide (y ≤ x))).reverse)) (hlen : ks.length ≤ 1000) (hx1 : x ≤ 900)
   (hneg : x < 0 → hb = 0 ∧ bb = 0) (hpos : 0 ≤ x → bb = x ∧ ∃ T9 G En kg ke evs gs e7 cnt ct, KeptAt tl kvs ks x hb T9 G En kg ke evs gs e7 cnt ct)
   (hret : ∀ h' tk', Fr h₀ L h' m → News h₀ L h' ((A, instObj 541 AD) :: (AD, dictOf ea na) :: (S, instObj 381 SD) :: (SD, dictOf es ns) :: (HL, listOf (hs).toArray kh) :: (KL, listOf (ks).toArray kk) :: (TR, listOf (ts).toArray kt) :: (CD, listOf ([.ref C1, .ref C2] : List Value).toArray kc) :: (C1, codeTup c1a c1b 2 c1t) :: (C2, codeTup c2a c2b 1 c2t) :: tl) → Q (.bool true) { s with heap := h', toks := tk' }) :
   wpAny (model PySem.Challenge.rw_rh0105_01.row.prog w) (ktrTop dp un gd cn cs L a ccd cl outer) (call (.ref 557) [.ref A, .ref PL, .ref KP, .int x xt]) Q E s := by
  obtain ⟨o1, o2, o3, o4, o5, o6, o7, o8, o9⟩ := ord
  obtain ⟨offA, offS, offH, offK, offT⟩ := off
  refine wpAny_call ?_
  k_dflt (refine' code_defC (binds := [(Str.ofString "m", .ref A), (Str.ofString "places", .ref PL), (Str.ofString "kept", .ref KP), (Str.ofString "last", .int x xt)]) ?k1 ?k2 ?k3 ?k4 ?k5 ?kA ?kF ?kK ?k6 ?k7 ?k8 ?k9 ?kB ?kD ?_ ?c2 ?c3 ?c4; (case kA => exact rfl); (case kF => exact rfl); (case kK => assumption); (case k1 => k_asm); (case k2 => k_asm); (case k3 => k_asm); (case k4 => k_asm); (case k5 => k_asm); (case k6 => k_is); (case k7 => k_is); (case k8 => ktr_room); (case k9 => exact BindsTo.of_eq rfl); (case kB => exact rfl); (case kD => decide +kernel); (case c2 => exact rfl); (case c3 => exact rfl); (case c4 => exact rfl); k_whole; intro g' L' h' tk' cells' FG' F' N' Y' B' X' T' l1; (try k_lt l1); k_cells Y'; (try simp only [List.cons_append, List.nil_append] at N'); (try dsimp only); (try k_fold))
  have hpsl := hPI.length
  k_steps
  unfold Halt
  k_dflt (refine LCt.Assign_ListComp_T (F₀ := by k_asm) (by rfl) (by with_unfolding_all rfl) (by with_unfolding_all rfl) (by decide) (by rfl) (by decide) (by rfl) (by rfl) (by rfl) ?_)
  walk1
  k_dflt (refine' LCt.CompSrcT.ledger (by rfl) (by k_asm) (by k_asm) ?hm ?hz ?_; (case hm => walk_at "My mem"); (case hz => (rw [List.size_toArray, sizeLine_eq]; omega)))
  intro gg
  k_dflt (refine' kci_list (fun l k => if k ≤ x then l ++ [k] else l) hPI ?turn ?fin ?hg)
  case hg => (intro l k; dsimp only; split <;> simp)
  case turn =>
    intro k9 t9 I9 oI9 C9 oC9 D9 m9 ys9 l9 h9 tk9 E9 hk9 hI9 hC9 hx9 F9 N9 off9 ne9 mk9
    k_steps
    · exact LCg.CompEnd.intro (by assumption) N9 _ (fun p hp => hp) off9 (.inr ⟨_, by walk_at "My mem", rfl, _, rfl⟩) (kci_el (if_pos (by assumption)) rfl rfl)
    · exact LCg.CompEnd.intro (by assumption) N9 _ (fun p hp => hp) off9 (.inr ⟨_, by walk_at "My mem", rfl, _, rfl⟩) (kci_no (if_neg (by assumption)) rfl)
  case fin =>
    unfold KPfDone LCg.FinA
    intro ys hys _ D h tk F9 N9 off9
    rw [fold_filter, List.nil_append] at hys
    simp only [LCg.Off1, LCg.lst] at off9 N9
    have hfl := List.length_filter_le (fun y => decide (y ≤ x)) pn
    have hyl := hys.length
    have offD9 := off1_mem off9.2.2.2.2.2.2.2.2.2.2.2.2
    dsimp only
    k_steps
    all_goals (try (exfalso; omega))
    unfold Halt
    rename IntsAre _ _ => hI9
    rename News _ _ _ _ => N8
    k_dflt (refine m_neL (m_isList N8 (.head _)) (m_isList N8 (by walk_at "My mem")) (SameL.ints hI9 (IntsAre.reverse hys)) (by ktr_units) ?_)
    rcases Int.lt_or_le x 0 with hx0 | hx0
    · obtain ⟨rfl, rfl⟩ := hneg hx0
      k_steps
      all_goals (rename News _ _ _ _ => N5)
      all_goals (exact hret _ _ (by assumption) fun p hp => N5 p (by repeat (first | exact hp | refine List.Mem.tail _ ?_)))
    obtain ⟨hbb, T9, G, En, kg, ke, evs, gs, e7, cnt, ct, kv, hT9, hG, hEn, hEI, he7, hg2, hhb, hct, hcg, hsl, hsz, hpt⟩ := hpos hx0
    have hh5 : e7.getD (Int.toNat 5) 0 = hb := by
      rw [List.getD_eq_getElem?_getD]; show (e7[5]?).getD 0 = hb; rw [hhb]; rfl
    rw [← hbx] at hct hpt
    k_steps
    all_goals (try (exfalso; omega))
    unfold Halt
    rename News _ _ _ _ => N7
    k_dflt (refine m_neL (m_isList N7 (.tail _ (.tail _ (.head _)))) (m_isList N7 (.head _)) (.cons (.inr ⟨cnt, ct, _, rfl, congrArg (Value.int · _) hcg.symm⟩) (SameL.refl gs)) (by ktr_units) ?_)
    k_steps
    unfold Halt
    k_dflt (refine LCg.ListComp_U (F₀ := by k_asm) (by with_unfolding_all rfl) (by decide) (by rfl) (by decide) (by rfl) ?_)
    k_steps
    unfold Halt
    k_dflt (refine LCg.CompSrc.range (n := 7) (by rfl) (by k_asm) (by k_asm) (by assumption) (by decide) (by rfl) (by decide) ?_)
    intro g6
    k_dflt (refine' kcf_range (fun k => e7.getD (k - 1).toNat 0) ?turn ?fin)
    case turn =>
      intro k6 t6 I6 oI6 C6 oC6 D6 m6 ys6 h6 tk6 E6 hk6 hk7 hC6 hx6 F6 N6 off6 ne6 mk6
      obtain ⟨t7, ht7⟩ := hpt k6 hk6 (by omega)
      k_steps
    case fin =>
      unfold KPfDone LCg.FinE
      intro ys6 hys6 D6 h6 tk6 F6 N6 off6
      k_steps
      unfold Halt
      have he8 : (rangeKs 1 7).map (fun k => e7.getD (k - 1).toNat 0) = e7 := by
        match e7, he7 with
        | [a0, a1, a2, a3, a4, a5, a6], _ => rfl
      rw [he8] at hys6
      simp only [LCg.lst] at N6
      k_dflt (refine m_eqL (m_isList N6 (.head _)) (m_isList N6 (by walk_at "My mem")) (SameL.ints hys6 hEI) (by ktr_units) ?_)
      k_steps
      rename News _ _ _ _ => N5
      exact hret _ _ (by assumption) fun p hp => N5 p (by repeat (first | exact hp | refine List.Mem.tail _ ?_))


end
section
theorem noneY1 : True := by
  k_with_none
  trivial
theorem rules45 : True := by
  k_with "My enter!" => (first | (((case kAᵣ => exact rfl); (case kFᵣ => exact rfl); (case kKᵣ => assumption); (case k1ᵣ => k_asm); (case k2ᵣ => k_asm); (case k3ᵣ => k_asm); (case k4ᵣ => k_asm); (case k5ᵣ => k_asm); (case k6ᵣ => k_is); (case k7ᵣ => k_is); (case k8ᵣ => ktr_room); (case k9ᵣ => exact BindsTo.of_eq rfl); (case c5ᵣ => decide); (case kBᵣ => exact locs rfl); (case c2ᵣ => exact rfl); (case c3ᵣ => exact rfl); (case c4ᵣ => exact rfl); k_whole; intro g'ᵣ L'ᵣ h'ᵣ FG'ᵣ F'ᵣ N'ᵣ B'ᵣ X'ᵣ T'ᵣ; (try dsimp only); (try k_fold))) | fail "no")
  k_with "My A!" => (first | (first | with_reducible assumption | exact AIs.set_e (by walk_at "My A") | exact AIs.set_b (by walk_at "My A") | exact AIs.set_cp (by walk_at "My A") | exact AIs.set_b0 (by walk_at "My A")) | fail "no")
  k_with "My S!" => (first | (first | with_reducible assumption | exact SIs.set_hb (by walk_at "My S") | exact SIs.set_bb (by walk_at "My S")) | fail "no")
  k_with "My k_get!" => (first | (first
  | exact SIs.stack (by walk_at "My S") | exact SIs.heap (by walk_at "My S") | exact SIs.trail (by walk_at "My S") | exact SIs.hb (by walk_at "My S") | exact SIs.bb (by walk_at "My S") | exact SIs.max_heap (by walk_at "My S")
  | exact SIs.stack_put (by walk_at "My S") | exact SIs.mark (by walk_at "My S") | exact SIs.push (by walk_at "My S") | exact SIs.new_var (by walk_at "My S") | exact SIs.bind (by walk_at "My S")
  | exact AIs.code (by walk_at "My A") | exact AIs.store (by walk_at "My A") | exact AIs.cp (by walk_at "My A") | exact AIs.e (by walk_at "My A") | exact AIs.b (by walk_at "My A") | exact AIs.b0 (by walk_at "My A")
  | exact AIs.top (by walk_at "My A") | exact AIs.set_choice (by walk_at "My A") | exact AIs.push_environment (by walk_at "My A") | exact AIs.push_choice (by walk_at "My A") | exact AIs.choice_part (by walk_at "My A") | exact AIs.cut_back (by walk_at "My A") | exact AIs.choices (by walk_at "My A")) | fail "no")
  k_with "My mem!" => (first | (first | exact List.Mem.head _ | (refine' List.Mem.tail _ ?_; walk_at "My mem") | assumption) | fail "no")
  k_with "My k_all!" => (first | (with_reducible assumption) | fail "no")
  k_with "call builtin:len!" => (first | ((k_here; (with_reducible show wpAny _ _ (call (Value.builtin "len") [Value.ref _]) _ _ _); k_dflt (refine' m_len ?k1ᵣ ?k2ᵣ ?k3ᵣ ?_; (case k1ᵣ => k_asm); (case k2ᵣ => walk_at "My mem"); (case k3ᵣ => omega); k_whole))) | fail "no")
  k_with "setItem ref int!" => (first | ((k_here; k_dflt (refine' m_set ?k1ᵣ ?k2ᵣ ?k3ᵣ ?k4ᵣ ?k5ᵣ ?k6ᵣ ?_; (case k1ᵣ => k_asm); (case k2ᵣ => k_asm); (case k6ᵣ => k_upd); (case k3ᵣ => omega); (case k4ᵣ => omega); (case k5ᵣ => omega); k_whole; intro h'ᵣ F'ᵣ N'ᵣ; (try k_sweep)))) | fail "no")
  k_with "call builtin:list.append!" => (first | ((k_here; k_dflt (refine' m_append ?k1ᵣ ?k2ᵣ ?k3ᵣ ?k4ᵣ ?_; (case k1ᵣ => k_asm); (case k2ᵣ => k_asm); (case k4ᵣ => k_upd); (case k3ᵣ => omega); k_whole; intro h'ᵣ F'ᵣ N'ᵣ; (try k_sweep)))) | fail "no")
  k_with "WhlIf!" => (first | ((first | (refine WhlIf.yes (decide_eq_true (by omega)) ?_) | (refine WhlIf.no (decide_eq_false (by omega)) ?_))) | fail "no")
  trivial

theorem rules46 : True := by
  k_with "My fit!" => (first | (first | omega | ((try simp only [List.length_cons, List.length_nil, List.length_append, List.length_map]); omega)) | fail "no")
  k_with "My at!" => (first | (first | with_reducible assumption | rfl | (refine' (show 0 ≤ (_ : Int) → (_ : Option Value) = some _ from by with_reducible assumption) ?_; omega)) | fail "no")
  trivial
theorem rules47 : True := by
  k_with "subscriptTail!" => (first | ((k_here; (with_reducible show wpAny _ _ (subscriptTail _ _ (Value.ref _) (Value.int _ _)) _ _ _); k_dflt (first
  | (refine' m_itemV ?k1ᵣ ?k2ᵣ ?k3ᵣ ?k4ᵣ ?k5ᵣ ?_; (case k1ᵣ => k_asm); (case k2ᵣ => walk_at "My mem"); (case k3ᵣ => omega); (case k4ᵣ => walk_at "My fit"); (case k5ᵣ => walk_at "My at"); k_whole)
  | (refine' m_tupV ?k1ᵣ ?k2ᵣ ?k3ᵣ ?k4ᵣ ?k5ᵣ ?_; (case k1ᵣ => k_asm); (case k2ᵣ => walk_at "My mem"); (case k3ᵣ => omega); (case k4ᵣ => walk_at "My fit"); (case k5ᵣ => walk_at "My at"); k_whole)))) | fail "no")
  trivial

theorem rules48 : True := by
  k_with "setAttr ref!" => (first | ((k_here; k_dflt (refine' m_setattr ?k1ᵣ ?k2ᵣ ?k3ᵣ ?k4ᵣ ?k5ᵣ ?k6ᵣ ?k7ᵣ ?k8ᵣ ?k9ᵣ ?k10ᵣ ?k11ᵣ ?k12ᵣ ?_; (case k1ᵣ => k_asm); (case k2ᵣ => k_asm); (case k3ᵣ => k_asm); (case k4ᵣ => k_inst); (case k5ᵣ => exact rfl); (case k6ᵣ => k_is); (case k7ᵣ => k_is); (case k8ᵣ => k_is); (case k9ᵣ => k_is); (case k10ᵣ => k_get); (case k11ᵣ => (intro t'ᵣ; k_upd)); (case k12ᵣ => first | exact AIs.len (by walk_at "My A") | exact SIs.len (by walk_at "My S")); k_whole; intro t'ᵣ tk'ᵣ h'ᵣ F'ᵣ N'ᵣ; (try dsimp only at N'ᵣ); (try dsimp only); (try k_sweep)))) | fail "no")
  trivial
theorem rules49 : True := by
  k_with "getAttr ref!" => (first | ((k_here; k_dflt (refine' m_getattr ?k1ᵣ ?k2ᵣ ?k3ᵣ ?k4ᵣ ?k5ᵣ ?k6ᵣ ?k7ᵣ ?k8ᵣ ?k9ᵣ ?_; (case k1ᵣ => k_asm); (case k2ᵣ => k_asm); (case k3ᵣ => k_inst); (case k4ᵣ => k_is); (case k5ᵣ => k_is); (case k6ᵣ => k_is); (case k7ᵣ => k_is); (case k8ᵣ => k_get); (case k9ᵣ => k_handed); k_whole; intro tk'ᵣ; (try dsimp only)))) | fail "no")
  trivial

theorem rules50 : True := by
  k_with "My call!" => (first | (((case Bᵣ => k_asm); (case Fᵣ => k_asm); (case Xᵣ => k_asm); (case Nᵣ => first | k_asm | exact rot1 (by k_asm) | exact rot2 (by k_asm) | exact rot3 (by k_asm)); (case Tᵣ => k_asm); (case hkᵣ => first | exact rfl | assumption); (case ordᵣ => first | (refine ⟨?_, ?_, ?_, ?_, ?_, ?_, ?_, ?_, ?_⟩ <;> with_reducible assumption) | omega); (case offᵣ => exact ⟨by k_all, by k_all, by k_all, by k_all, by k_all⟩); (case hAᵣ => walk_at "My A"); (case hSᵣ => walk_at "My S"); (case hdpᵣ => ktr_room); (case hunᵣ => ktr_units))) | fail "no")
  trivial

theorem rules51 : True := by
  k_with "My k_mem!" => (first | (walk_at "My mem") | fail "no")
  trivial


structure SyIs (ey : List DictEntry) (TX AN FL FD : Nat) : Prop where
  texts : getL (Str.ofString "texts") ey = some (some (.ref TX))
  atom_numbers : getL (Str.ofString "atom_numbers") ey = some (some (.ref AN))
  functors : getL (Str.ofString "functors") ey = some (some (.ref FL))
  functor_numbers : getL (Str.ofString "functor_numbers") ey = some (some (.ref FD))
  atom : getL (Str.ofString "atom") ey = some none
  functor : getL (Str.ofString "functor") ey = some none
  func : getL (Str.ofString "func") ey = some none
theorem rules52 : True := by
  k_with "My k_get!" => (first | (first | exact SyIs.texts (by with_reducible assumption) | exact SyIs.atom_numbers (by with_reducible assumption) | exact SyIs.functors (by with_reducible assumption) | exact SyIs.functor_numbers (by with_reducible assumption) | exact SyIs.atom (by with_reducible assumption) | exact SyIs.functor (by with_reducible assumption) | exact SyIs.func (by with_reducible assumption)) | fail "no")
  trivial
theorem flat_int {k : PyData} {v : Value} {sk : PySem.Spec.Shape} {D : List (PyData × PyData)} {z : Int} (hS : Shaped sk .int D) (h : PyProof.V.Flat v ((PySem.Spec.lookup k D).getD (.int z))) : ∃ i t, v = .int i t := by
  cases e : PySem.Spec.lookup k D with
  | none =>
    rw [e] at h
    obtain ⟨t, rfl, _⟩ := reads_int_inv (h default)
    exact ⟨_, _, rfl⟩
  | some dv =>
    rw [e] at h
    have := hS.at e
    cases dv with
    | int i =>
      obtain ⟨t, rfl, _⟩ := reads_int_inv (h default)
      exact ⟨_, _, rfl⟩
    | _ => simp [PySem.Spec.Shape.has] at this
set_option maxHeartbeats 8000000 in
theorem c_atom {w : World} {mean : ExcName → Option Value} {mg mb : Str → Option Value} {dp un : Nat} {gd : Option (List Code)} {cn : Str} {cs : Scope} {a : Addr} {ccd : Value} {cl : List (Str × Addr)} {outer : List Env} {A₀ : Around} {base h₀ : Heap} {L : Addr} {m : Str → Option Value} {s : Shared} {Q E : Value → Shared → Prop} {x dx TX AN FL FD : Nat} {ey : List DictEntry} {ny k1 : Nat} {oA : Obj} {tx : List Value} {kvs : List (Str × Value)} {D : List (PyData × PyData)} {rest : List (Addr × Obj)} {u : Str} {t : Tok}
  (B : Below A₀ base outer h₀) (F : Fr h₀ L s.heap m) (X : (K0 w.params).In h₀) (N : News h₀ L s.heap ((TX, listOf tx.toArray k1) :: (AN, oA) :: rest)) (T : TopL mean mg mb h₀) (hk : cs.kind = .function) (hdp : dp + 3 < recursionLimit) (hun : un + 24 < cLine)
  (mx : (x, instObj 154 dx) ∈ rest) (md : (dx, dictOf ey ny) ∈ rest) (hY : SyIs ey TX AN FL FD) (hD : oA.IsDictOf (PySem.strKind PySem.Challenge.rw_rh0105_01.row.prog w) kvs) (hF : PyProof.V.FlatPairs PyData.str kvs D) (hS : Shaped .str .int D) (hl : D.length ≤ 200) (htx : tx.length ≤ 200)
  (lo : (AN == sysModules) = false) (ne : TX < AN) (off1 : ∀ p ∈ rest, p.1 ≠ TX) (off2 : ∀ p ∈ rest, p.1 ≠ AN)
  (hret : ∀ h' tk' k' oA' tx' kvs' D' i t', Fr h₀ L h' m → News h₀ L h' ((TX, listOf (tx' : List Value).toArray k') :: (AN, oA') :: rest) → oA'.IsDictOf (PySem.strKind PySem.Challenge.rw_rh0105_01.row.prog w) kvs' → PyProof.V.FlatPairs PyData.str kvs' D' → Shaped .str .int D' → D'.length ≤ D.length + 1 → tx'.length ≤ tx.length + 1 → Q (.int i t') { s with heap := h', toks := tk' }) :
   wpAny (model PySem.Challenge.rw_rh0105_01.row.prog w) (ktrTop dp un gd cn cs L a ccd cl outer) (call (.ref 88) [.ref x, .str u t]) Q E s := by
  refine wpAny_call ?_
  k_dflt (refine' code_def (binds := [(Str.ofString "self", .ref x), (Str.ofString "text", .str u t)]) ?k1ᵣ ?k2ᵣ ?k3ᵣ ?k4ᵣ ?k5ᵣ ?kAᵣ ?kFᵣ ?kKᵣ ?k6ᵣ ?k7ᵣ ?k8ᵣ ?k9ᵣ ?kBᵣ ?_ ?c2ᵣ ?c3ᵣ ?c4ᵣ ?c5ᵣ; walk_at "My enter")
  k_steps
  rename PyProof.V.Flat _ _ => hv9
  obtain ⟨i9, t9, rfl⟩ := flat_int hS hv9
  k_steps
  · rename News _ _ _ _ => N9
    exact hret _ _ _ _ _ _ _ _ _ (by assumption) N9 hD hF hS (by omega) (by omega)
  · k_dflt (refine' setItem_K PyProof.V.same_str (strKind_is _ _ _ _) ?v ?F ?N ?U hD hF ?_ ?z; (case v => exact PyProof.V.Flat.int _ _); (case F => k_asm); (case N => k_asm); (case U => k_updF); (case z => (rw [sizeLine_eq]; omega)))
    intro h9 o9 F9 N9 hd9 hf9
    (try dsimp only at N9)
    have hpl := PyProof.V.putD_length_le (PyData.str u) (PyData.int (tx.length : Int)) D
    have hsp := hS.put (dk := PyData.str u) (dv := PyData.int (tx.length : Int)) rfl rfl
    dsimp only
    k_steps
    all_goals (rename News _ _ _ _ => N9)
    exact hret _ _ _ _ _ _ _ _ _ (by assumption) N9 hd9 hf9 hsp hpl (by simp)


end
section
theorem noneSY : True := by
  k_with_none
  trivial
theorem rules53 : True := by
  k_with "My enter!" => (first | (((case kAᵣ => exact rfl); (case kFᵣ => exact rfl); (case kKᵣ => assumption); (case k1ᵣ => k_asm); (case k2ᵣ => k_asm); (case k3ᵣ => k_asm); (case k4ᵣ => k_asm); (case k5ᵣ => k_asm); (case k6ᵣ => k_is); (case k7ᵣ => k_is); (case k8ᵣ => ktr_room); (case k9ᵣ => exact BindsTo.of_eq rfl); (case c5ᵣ => decide); (case kBᵣ => exact locs rfl); (case c2ᵣ => exact rfl); (case c3ᵣ => exact rfl); (case c4ᵣ => exact rfl); k_whole; intro g'ᵣ L'ᵣ h'ᵣ FG'ᵣ F'ᵣ N'ᵣ B'ᵣ X'ᵣ T'ᵣ; (try dsimp only); (try k_fold))) | fail "no")
  k_with "My A!" => (first | (first | with_reducible assumption | exact AIs.set_e (by walk_at "My A") | exact AIs.set_b (by walk_at "My A") | exact AIs.set_cp (by walk_at "My A") | exact AIs.set_b0 (by walk_at "My A")) | fail "no")
  k_with "My S!" => (first | (first | with_reducible assumption | exact SIs.set_hb (by walk_at "My S") | exact SIs.set_bb (by walk_at "My S")) | fail "no")
  k_with "My k_get!" => (first | (first
  | exact SIs.stack (by walk_at "My S") | exact SIs.heap (by walk_at "My S") | exact SIs.trail (by walk_at "My S") | exact SIs.hb (by walk_at "My S") | exact SIs.bb (by walk_at "My S") | exact SIs.max_heap (by walk_at "My S")
  | exact SIs.stack_put (by walk_at "My S") | exact SIs.mark (by walk_at "My S") | exact SIs.push (by walk_at "My S") | exact SIs.new_var (by walk_at "My S") | exact SIs.bind (by walk_at "My S")
  | exact AIs.code (by walk_at "My A") | exact AIs.store (by walk_at "My A") | exact AIs.cp (by walk_at "My A") | exact AIs.e (by walk_at "My A") | exact AIs.b (by walk_at "My A") | exact AIs.b0 (by walk_at "My A")
  | exact AIs.top (by walk_at "My A") | exact AIs.set_choice (by walk_at "My A") | exact AIs.push_environment (by walk_at "My A") | exact AIs.push_choice (by walk_at "My A") | exact AIs.choice_part (by walk_at "My A") | exact AIs.cut_back (by walk_at "My A") | exact AIs.choices (by walk_at "My A")) | fail "no")
  k_with "My mem!" => (first | (first | exact List.Mem.head _ | (refine' List.Mem.tail _ ?_; walk_at "My mem") | assumption) | fail "no")
  k_with "My k_all!" => (first | (with_reducible assumption) | fail "no")
  k_with "call builtin:len!" => (first | ((k_here; (with_reducible show wpAny _ _ (call (Value.builtin "len") [Value.ref _]) _ _ _); k_dflt (refine' m_len ?k1ᵣ ?k2ᵣ ?k3ᵣ ?_; (case k1ᵣ => k_asm); (case k2ᵣ => walk_at "My mem"); (case k3ᵣ => omega); k_whole))) | fail "no")
  k_with "setItem ref int!" => (first | ((k_here; k_dflt (refine' m_set ?k1ᵣ ?k2ᵣ ?k3ᵣ ?k4ᵣ ?k5ᵣ ?k6ᵣ ?_; (case k1ᵣ => k_asm); (case k2ᵣ => k_asm); (case k6ᵣ => k_upd); (case k3ᵣ => omega); (case k4ᵣ => omega); (case k5ᵣ => omega); k_whole; intro h'ᵣ F'ᵣ N'ᵣ; (try k_sweep)))) | fail "no")
  k_with "call builtin:list.append!" => (first | ((k_here; k_dflt (refine' m_append ?k1ᵣ ?k2ᵣ ?k3ᵣ ?k4ᵣ ?_; (case k1ᵣ => k_asm); (case k2ᵣ => k_asm); (case k4ᵣ => k_upd); (case k3ᵣ => omega); k_whole; intro h'ᵣ F'ᵣ N'ᵣ; (try k_sweep)))) | fail "no")
  k_with "WhlIf!" => (first | ((first | (refine WhlIf.yes (decide_eq_true (by omega)) ?_) | (refine WhlIf.no (decide_eq_false (by omega)) ?_))) | fail "no")
  trivial

theorem rules54 : True := by
  k_with "My fit!" => (first | (first | omega | ((try simp only [List.length_cons, List.length_nil, List.length_append, List.length_map]); omega)) | fail "no")
  k_with "My at!" => (first | (first | with_reducible assumption | rfl | (refine' (show 0 ≤ (_ : Int) → (_ : Option Value) = some _ from by with_reducible assumption) ?_; omega)) | fail "no")
  trivial
theorem rules55 : True := by
  k_with "subscriptTail!" => (first | ((k_here; (with_reducible show wpAny _ _ (subscriptTail _ _ (Value.ref _) (Value.int _ _)) _ _ _); k_dflt (first
  | (refine' m_itemV ?k1ᵣ ?k2ᵣ ?k3ᵣ ?k4ᵣ ?k5ᵣ ?_; (case k1ᵣ => k_asm); (case k2ᵣ => walk_at "My mem"); (case k3ᵣ => omega); (case k4ᵣ => walk_at "My fit"); (case k5ᵣ => walk_at "My at"); k_whole)
  | (refine' m_tupV ?k1ᵣ ?k2ᵣ ?k3ᵣ ?k4ᵣ ?k5ᵣ ?_; (case k1ᵣ => k_asm); (case k2ᵣ => walk_at "My mem"); (case k3ᵣ => omega); (case k4ᵣ => walk_at "My fit"); (case k5ᵣ => walk_at "My at"); k_whole)))) | fail "no")
  trivial

theorem rules56 : True := by
  k_with "setAttr ref!" => (first | ((k_here; k_dflt (refine' m_setattr ?k1ᵣ ?k2ᵣ ?k3ᵣ ?k4ᵣ ?k5ᵣ ?k6ᵣ ?k7ᵣ ?k8ᵣ ?k9ᵣ ?k10ᵣ ?k11ᵣ ?k12ᵣ ?_; (case k1ᵣ => k_asm); (case k2ᵣ => k_asm); (case k3ᵣ => k_asm); (case k4ᵣ => k_inst); (case k5ᵣ => exact rfl); (case k6ᵣ => k_is); (case k7ᵣ => k_is); (case k8ᵣ => k_is); (case k9ᵣ => k_is); (case k10ᵣ => k_get); (case k11ᵣ => (intro t'ᵣ; k_upd)); (case k12ᵣ => first | exact AIs.len (by walk_at "My A") | exact SIs.len (by walk_at "My S")); k_whole; intro t'ᵣ tk'ᵣ h'ᵣ F'ᵣ N'ᵣ; (try dsimp only at N'ᵣ); (try dsimp only); (try k_sweep)))) | fail "no")
  trivial
theorem rules57 : True := by
  k_with "getAttr ref!" => (first | ((k_here; k_dflt (refine' m_getattr ?k1ᵣ ?k2ᵣ ?k3ᵣ ?k4ᵣ ?k5ᵣ ?k6ᵣ ?k7ᵣ ?k8ᵣ ?k9ᵣ ?_; (case k1ᵣ => k_asm); (case k2ᵣ => k_asm); (case k3ᵣ => k_inst); (case k4ᵣ => k_is); (case k5ᵣ => k_is); (case k6ᵣ => k_is); (case k7ᵣ => k_is); (case k8ᵣ => k_get); (case k9ᵣ => k_handed); k_whole; intro tk'ᵣ; (try dsimp only)))) | fail "no")
  trivial

theorem rules58 : True := by
  k_with "My call!" => (first | (((case Bᵣ => k_asm); (case Fᵣ => k_asm); (case Xᵣ => k_asm); (case Nᵣ => first | k_asm | exact rot1 (by k_asm) | exact rot2 (by k_asm) | exact rot3 (by k_asm)); (case Tᵣ => k_asm); (case hkᵣ => first | exact rfl | assumption); (case ordᵣ => first | (refine ⟨?_, ?_, ?_, ?_, ?_, ?_, ?_, ?_, ?_⟩ <;> with_reducible assumption) | omega); (case offᵣ => exact ⟨by k_all, by k_all, by k_all, by k_all, by k_all⟩); (case hAᵣ => walk_at "My A"); (case hSᵣ => walk_at "My S"); (case hdpᵣ => ktr_room); (case hunᵣ => ktr_units))) | fail "no")
  trivial

theorem rules59 : True := by
  k_with "My k_mem!" => (first | (walk_at "My mem") | fail "no")
  trivial


theorem rules60 : True := by
  k_with "My k_get!" => (first | (first | exact SyIs.texts (by with_reducible assumption) | exact SyIs.atom_numbers (by with_reducible assumption) | exact SyIs.functors (by with_reducible assumption) | exact SyIs.functor_numbers (by with_reducible assumption) | exact SyIs.atom (by with_reducible assumption) | exact SyIs.functor (by with_reducible assumption) | exact SyIs.func (by with_reducible assumption)) | fail "no")
  trivial

set_option maxHeartbeats 8000000 in
theorem c_functor {w : World} {mean : ExcName → Option Value} {mg mb : Str → Option Value} {dp un : Nat} {gd : Option (List Code)} {cn : Str} {cs : Scope} {a : Addr} {ccd : Value} {cl : List (Str × Addr)} {outer : List Env} {A₀ : Around} {base h₀ : Heap} {L : Addr} {m : Str → Option Value} {s : Shared} {Q E : Value → Shared → Prop} {x dx TX AN FL FD : Nat} {ey : List DictEntry} {ny k1 : Nat} {fl : List Value} {D : List (PyData × PyData)} {rest : List (Addr × Obj)} {i j : Int} {t u : Tok}
  (B : Below A₀ base outer h₀) (F : Fr h₀ L s.heap m) (X : (K0 w.params).In h₀) (N : News h₀ L s.heap ((FL, listOf fl.toArray k1) :: rest)) (T : TopL mean mg mb h₀) (hk : cs.kind = .function) (hdp : dp + 3 < recursionLimit) (hun : un + 24 < cLine)
  (mx : (x, instObj 154 dx) ∈ rest) (md : (dx, dictOf ey ny) ∈ rest) (hY : SyIs ey TX AN FL FD) (hT : TupTab (PySem.intKind PySem.Challenge.rw_rh0105_01.row.prog w) PyData.int rest FD D) (hS : Shaped .any .int D) (hl : D.length ≤ 200) (hfl : fl.length ≤ 200)
  (ne : FL < FD) (off1 : ∀ p ∈ rest, p.1 ≠ FL)
  (hret : ∀ h' tk' k' fl' nw' D' i t', Fr h₀ L h' m → News h₀ L h' nw' → (FL, listOf (fl' : List Value).toArray k') ∈ nw' → TupTab (PySem.intKind PySem.Challenge.rw_rh0105_01.row.prog w) PyData.int nw' FD D' → Shaped .any .int D' → D'.length ≤ D.length + 1 → fl'.length ≤ fl.length + 1 → (∀ p ∈ rest, p.1 ≠ FD → p ∈ nw') → Q (.int i t') { s with heap := h', toks := tk' }) :
   wpAny (model PySem.Challenge.rw_rh0105_01.row.prog w) (ktrTop dp un gd cn cs L a ccd cl outer) (call (.ref 102) [.ref x, .int i t, .int j u]) Q E s := by
  refine wpAny_call ?_
  k_dflt (refine' code_def (binds := [(Str.ofString "self", .ref x), (Str.ofString "atom", .int i t), (Str.ofString "arity", .int j u)]) ?k1ᵣ ?k2ᵣ ?k3ᵣ ?k4ᵣ ?k5ᵣ ?kAᵣ ?kFᵣ ?kKᵣ ?k6ᵣ ?k7ᵣ ?k8ᵣ ?k9ᵣ ?kBᵣ ?_ ?c2ᵣ ?c3ᵣ ?c4ᵣ ?c5ᵣ; walk_at "My enter")
  k_steps
  rename PyProof.V.Flat _ _ => hv9
  obtain ⟨i9, t9, rfl⟩ := flat_int hS hv9
  k_steps
  · rename News _ _ _ _ => N9
    rename TupTab _ _ rest _ _ => hT
    exact hret _ _ _ _ _ _ _ _ (by assumption) N9 (.tail _ (.head _)) ((hT.cons _).cons _) hS (by omega) (by omega) (fun p hp _ => .tail _ (.tail _ hp))
  · rename TupTab _ _ _ _ (PyProof.V.putD _ _ _) => hT9
    rename ∀ p ∈ _ :: _, _ → _ => hK9
    rename News h₀ _ _ _ => N9
    exact hret _ _ _ _ _ _ _ _ (by assumption) N9 (hK9 _ (.tail _ (.head _)) (Nat.ne_of_lt ne)) hT9 (hS.put (dk := encTuple PyData.int [i, j]) (dv := PyData.int (fl.length : Int)) rfl rfl) (PyProof.V.putD_length_le _ _ D) (by simp) (fun p hp hn => hK9 p (.tail _ (.tail _ hp)) hn)
structure SymAt (w : World) (x dx TX AN FL FD : Nat) (n1 n2 : Nat) (nw : List (Addr × Obj)) : Prop where
  inst : (x, instObj 154 dx) ∈ nw
  dict : ∃ ey ny, (dx, dictOf ey ny) ∈ nw ∧ SyIs ey TX AN FL FD
  tx : ∃ (l : List Value) (k : Nat), (TX, listOf l.toArray k) ∈ nw ∧ l.length ≤ n1
  an : ∃ oA kvs D, (AN, oA) ∈ nw ∧ oA.IsDictOf (PySem.strKind PySem.Challenge.rw_rh0105_01.row.prog w) kvs ∧ PyProof.V.FlatPairs PyData.str kvs D ∧ Shaped .str .int D ∧ D.length ≤ n1
  fl : ∃ (l : List Value) (k : Nat), (FL, listOf l.toArray k) ∈ nw ∧ l.length ≤ n2
  fd : ∃ D, TupTab (PySem.intKind PySem.Challenge.rw_rh0105_01.row.prog w) PyData.int nw FD D ∧ Shaped .any .int D ∧ D.length ≤ n2
theorem TupTab_less {prog : Program} {w : World} {K : Type} [DecidableEq K] {knd : PySem.KeyKind prog w K} {enc : K → PyData} {h₀ h : Heap} {L d : Nat} {news : List (Addr × Obj)} {D : List (PyData × PyData)} {Y : Nat} {o : Obj} (N : News h₀ L h news) (T : TupTab knd enc news d D) (hm : (Y, o) ∈ news) (hc : o.cls ≠ .type "tuple") (hd : d ≠ Y) : TupTab knd enc (news.filter fun p => decide (p.1 ≠ Y)) d D := by
  obtain ⟨lo, o1, es, ep, xs, hm1, hx, hdat, he, hn, hk, hf⟩ := T
  refine ⟨lo, o1, es, ep, xs, List.mem_filter.mpr ⟨hm1, by simpa using hd⟩, hx, hdat, he, hn, fun q hq => ?_, hf⟩
  obtain ⟨ok, hok, tk⟩ := hk q hq
  refine ⟨ok, List.mem_filter.mpr ⟨hok, ?_⟩, tk⟩
  simp only [ne_eq, decide_not, Bool.not_eq_eq_eq_not, Bool.not_true, decide_eq_false_iff_not]
  intro e
  have e' : q.2.1 = Y := e
  rw [e'] at hok
  have : ok = o := Option.some.inj ((N.get hok).symm.trans (N.get hm))
  exact hc (this ▸ tk.1)
theorem less_off {Y : Nat} {news : List (Addr × Obj)} : ∀ p ∈ news.filter (fun p => decide (p.1 ≠ Y)), p.1 ≠ Y := fun p hp => by simpa using (List.mem_filter.mp hp).2
theorem less_mem {Y : Nat} {news : List (Addr × Obj)} {p : Addr × Obj} (h : p ∈ news) (hn : p.1 ≠ Y) : p ∈ news.filter (fun p => decide (p.1 ≠ Y)) := List.mem_filter.mpr ⟨h, by simpa using hn⟩
theorem less_at {Y z : Nat} {o : Obj} {news : List (Addr × Obj)} (h : (z, o) ∈ news) (hn : z ≠ Y) : (z, o) ∈ news.filter (fun p => decide (p.1 ≠ Y)) := less_mem h hn
theorem less_sub {Y : Nat} {news : List (Addr × Obj)} : ∀ p ∈ news.filter (fun p => decide (p.1 ≠ Y)), p ∈ news := fun p hp => (List.mem_filter.mp hp).1
theorem less_news {h₀ h : Heap} {L Y : Nat} {o : Obj} {news : List (Addr × Obj)} (N : News h₀ L h news) (hm : (Y, o) ∈ news) : News h₀ L h ((Y, o) :: news.filter (fun p => decide (p.1 ≠ Y))) := fun p hp => by
  rcases List.mem_cons.mp hp with rfl | hp
  · exact N _ hm
  · exact N _ (less_sub p hp)
theorem c_atomS {w : World} {mean : ExcName → Option Value} {mg mb : Str → Option Value} {dp un : Nat} {gd : Option (List Code)} {cn : Str} {cs : Scope} {a : Addr} {ccd : Value} {cl : List (Str × Addr)} {outer : List Env} {A₀ : Around} {base h₀ : Heap} {L : Addr} {m : Str → Option Value} {s : Shared} {Q E : Value → Shared → Prop} {x dx TX AN FL FD n1 n2 : Nat} {nw : List (Addr × Obj)} {u : Str} {t : Tok}
  (B : Below A₀ base outer h₀) (F : Fr h₀ L s.heap m) (X : (K0 w.params).In h₀) (N : News h₀ L s.heap nw) (T : TopL mean mg mb h₀) (hk : cs.kind = .function) (hdp : dp + 3 < recursionLimit) (hun : un + 24 < cLine)
  (Y : SymAt w x dx TX AN FL FD n1 n2 nw) (od : dx < x ∧ x < TX ∧ TX < AN ∧ AN < FL ∧ FL < FD) (lo : (AN == sysModules) = false) (hn1 : n1 ≤ 200)
  (hret : ∀ h' tk' nw' i t', Fr h₀ L h' m → News h₀ L h' nw' → SymAt w x dx TX AN FL FD (n1 + 1) n2 nw' → (∀ p ∈ nw, p.1 ≠ TX → p.1 ≠ AN → p.1 ≠ FL → p.1 ≠ FD → p ∈ nw') → Q (.int i t') { s with heap := h', toks := tk' }) :
   wpAny (model PySem.Challenge.rw_rh0105_01.row.prog w) (ktrTop dp un gd cn cs L a ccd cl outer) (call (.ref 88) [.ref x, .str u t]) Q E s := by
  obtain ⟨mx, ⟨ey, ny, md, hY⟩, ⟨tx, k1, mtx, ltx⟩, ⟨oA, kvs, D, man, hD, hF, hS, lD⟩, ⟨fl, kf, mfl, lfl⟩, ⟨D2, hT, hS2, lD2⟩⟩ := Y
  obtain ⟨o1, o2, o3, o4, o5⟩ := od
  have N1 := less_news N mtx
  have hA1 : (AN, oA) ∈ nw.filter (fun p => decide (p.1 ≠ TX)) := less_at man (by omega)
  have N2 : News h₀ L s.heap ((TX, listOf tx.toArray k1) :: (AN, oA) :: (nw.filter (fun p => decide (p.1 ≠ TX))).filter (fun p => decide (p.1 ≠ AN))) := news_sub N1 (fun p hp => by
    rcases List.mem_cons.mp hp with rfl | hp
    · exact .head _
    · rcases List.mem_cons.mp hp with rfl | hp
      · exact .tail _ hA1
      · exact .tail _ (less_sub p hp))
  have N1' : News h₀ L s.heap (nw.filter (fun p => decide (p.1 ≠ TX))) := news_sub N less_sub
  have keep : ∀ p ∈ nw, (p.1 : Nat) ≠ TX → (p.1 : Nat) ≠ AN → p ∈ (nw.filter (fun p => decide (p.1 ≠ TX))).filter (fun p => decide (p.1 ≠ AN)) := fun p hp h1 h2 => less_mem (less_mem hp h1) h2
  have hcA : oA.cls ≠ .type "tuple" := by
    obtain ⟨es, ep, hc, _⟩ := hD
    rw [hc.1]; intro e; injection e with e; exact absurd e (by decide)
  have hT2 := TupTab_less N1' (TupTab_less N hT mtx (by intro e; injection e with e; exact absurd e (by decide)) (by omega)) hA1 hcA (by omega)
  refine c_atom B F X N2 T hk hdp hun (keep _ mx (show (_ : Nat) ≠ _ by omega) (show (_ : Nat) ≠ _ by omega)) (keep _ md (show (_ : Nat) ≠ _ by omega) (show (_ : Nat) ≠ _ by omega)) hY hD hF hS (by omega) (by omega) lo (by omega) (fun p hp => less_off p (less_sub p hp)) less_off ?_
  intro h' tk' k' oA' tx' kvs' D' i t' F' N' hD' hF' hS' lD' ltx'
  refine hret h' tk' _ i t' F' N' ⟨.tail _ (.tail _ (keep _ mx (show (_ : Nat) ≠ _ by omega) (show (_ : Nat) ≠ _ by omega))), ⟨ey, ny, .tail _ (.tail _ (keep _ md (show (_ : Nat) ≠ _ by omega) (show (_ : Nat) ≠ _ by omega))), hY⟩, ⟨tx', k', .head _, by omega⟩, ⟨oA', kvs', D', .tail _ (.head _), hD', hF', hS', by omega⟩, ⟨fl, kf, .tail _ (.tail _ (keep _ mfl (show (_ : Nat) ≠ _ by omega) (show (_ : Nat) ≠ _ by omega))), lfl⟩, ⟨D2, (hT2.cons _).cons _, hS2, lD2⟩⟩ ?_
  exact fun p hp h1 h2 _ _ => .tail _ (.tail _ (keep p hp h1 h2))
theorem c_functorS {w : World} {mean : ExcName → Option Value} {mg mb : Str → Option Value} {dp un : Nat} {gd : Option (List Code)} {cn : Str} {cs : Scope} {a : Addr} {ccd : Value} {cl : List (Str × Addr)} {outer : List Env} {A₀ : Around} {base h₀ : Heap} {L : Addr} {m : Str → Option Value} {s : Shared} {Q E : Value → Shared → Prop} {x dx TX AN FL FD n1 n2 : Nat} {nw : List (Addr × Obj)} {i j : Int} {t u : Tok}
  (B : Below A₀ base outer h₀) (F : Fr h₀ L s.heap m) (X : (K0 w.params).In h₀) (N : News h₀ L s.heap nw) (T : TopL mean mg mb h₀) (hk : cs.kind = .function) (hdp : dp + 3 < recursionLimit) (hun : un + 24 < cLine)
  (Y : SymAt w x dx TX AN FL FD n1 n2 nw) (od : dx < x ∧ x < TX ∧ TX < AN ∧ AN < FL ∧ FL < FD) (hn2 : n2 ≤ 200)
  (hret : ∀ h' tk' nw' i t', Fr h₀ L h' m → News h₀ L h' nw' → SymAt w x dx TX AN FL FD n1 (n2 + 1) nw' → (∀ p ∈ nw, p.1 ≠ TX → p.1 ≠ AN → p.1 ≠ FL → p.1 ≠ FD → p ∈ nw') → Q (.int i t') { s with heap := h', toks := tk' }) :
   wpAny (model PySem.Challenge.rw_rh0105_01.row.prog w) (ktrTop dp un gd cn cs L a ccd cl outer) (call (.ref 102) [.ref x, .int i t, .int j u]) Q E s := by
  obtain ⟨mx, ⟨ey, ny, md, hY⟩, ⟨tx, k1, mtx, ltx⟩, ⟨oA, kvs, D, man, hD, hF, hS, lD⟩, ⟨fl, kf, mfl, lfl⟩, ⟨D2, hT, hS2, lD2⟩⟩ := Y
  obtain ⟨o1, o2, o3, o4, o5⟩ := od
  have hT1 := TupTab_less N hT mfl (by intro e; injection e with e; exact absurd e (by decide)) (by omega)
  refine c_functor B F X (less_news N mfl) T hk hdp hun (less_at mx (by omega)) (less_at md (by omega)) hY hT1 hS2 (by omega) (by omega) o5 less_off ?_
  intro h' tk' k' fl' nw' D' i t' F' N' mfl' hT' hS' lD' lfl' keep
  have keep' : ∀ p ∈ nw, (p.1 : Nat) ≠ FL → (p.1 : Nat) ≠ FD → p ∈ nw' := fun p hp h1 h2 => keep p (less_mem hp h1) h2
  refine hret h' tk' nw' i t' F' N' ⟨keep' _ mx (show (_ : Nat) ≠ _ by omega) (show (_ : Nat) ≠ _ by omega), ⟨ey, ny, keep' _ md (show (_ : Nat) ≠ _ by omega) (show (_ : Nat) ≠ _ by omega), hY⟩, ⟨tx, k1, keep' _ mtx (show (_ : Nat) ≠ _ by omega) (show (_ : Nat) ≠ _ by omega), ltx⟩, ⟨oA, kvs, D, keep' _ man (show (_ : Nat) ≠ _ by omega) (show (_ : Nat) ≠ _ by omega), hD, hF, hS, lD⟩, ⟨fl', k', mfl', by omega⟩, ⟨D', hT', hS', by omega⟩⟩ ?_
  exact fun p hp _ _ h1 h2 => keep' p hp h1 h2


theorem TupTab_mono {prog : Program} {w : World} {K : Type} [DecidableEq K] {knd : PySem.KeyKind prog w K} {enc : K → PyData} {d : Nat} {news news' : List (Addr × Obj)} {D : List (PyData × PyData)} (T : TupTab knd enc news d D) (hs : ∀ p ∈ news, p ∈ news') : TupTab knd enc news' d D := by
  obtain ⟨lo, o1, es, ep, xs, hm1, hx, hdat, he, hn, hk, hf⟩ := T
  exact ⟨lo, o1, es, ep, xs, hs _ hm1, hx, hdat, he, hn, fun q hq => let ⟨ok, hok, tk⟩ := hk q hq; ⟨ok, hs _ hok, tk⟩, hf⟩
theorem SymAt.mono {w : World} {x dx TX AN FL FD n1 n2 : Nat} {nw nw' : List (Addr × Obj)} (Y : SymAt w x dx TX AN FL FD n1 n2 nw) (hs : ∀ p ∈ nw, p ∈ nw') : SymAt w x dx TX AN FL FD n1 n2 nw' := by
  obtain ⟨mx, ⟨ey, ny, md, hY⟩, ⟨tx, k1, mtx, ltx⟩, ⟨oA, kvs, D, man, hD, hF, hS, lD⟩, ⟨fl, kf, mfl, lfl⟩, ⟨D2, hT, hS2, lD2⟩⟩ := Y
  exact ⟨hs _ mx, ⟨ey, ny, hs _ md, hY⟩, ⟨tx, k1, hs _ mtx, ltx⟩, ⟨oA, kvs, D, hs _ man, hD, hF, hS, lD⟩, ⟨fl, kf, hs _ mfl, lfl⟩, ⟨D2, TupTab_mono hT hs, hS2, lD2⟩⟩
def notIn (own : List (Addr × Obj)) (p : Addr × Obj) : Bool := !(own.any fun q => q.1 == p.1)
theorem notIn_iff {own : List (Addr × Obj)} {p : Addr × Obj} : notIn own p = true ↔ ∀ q ∈ own, q.1 ≠ p.1 := by
  unfold notIn
  rw [Bool.not_eq_true', List.any_eq_false]
  exact ⟨fun h q hq e => h q hq (by simpa using e), fun h q hq e => h q hq (by simpa using e)⟩
theorem SymAt.off {w : World} {x dx TX AN FL FD n1 n2 m1 m2 : Nat} {h₀ h : Heap} {L : Nat} {nw nw0 own : List (Addr × Obj)} (Y : SymAt w x dx TX AN FL FD n1 n2 nw) (Y0 : SymAt w x dx TX AN FL FD m1 m2 nw0) (N : News h₀ L h nw) (hw : ∀ p ∈ own, p ∈ nw) (ho : OwnOff own (nw0.map (·.1))) (hc : ∀ p ∈ own, p.2.cls = .type "tuple_iterator") : SymAt w x dx TX AN FL FD n1 n2 (nw.filter (notIn own)) := by
  obtain ⟨mx, ⟨ey, ny, md, hY⟩, ⟨tx, k1, mtx, ltx⟩, ⟨oA, kvs, D, man, hD, hF, hS, lD⟩, ⟨fl, kf, mfl, lfl⟩, ⟨D2, hT, hS2, lD2⟩⟩ := Y
  obtain ⟨mx0, ⟨_, _, md0, _⟩, ⟨_, _, mtx0, _⟩, ⟨_, _, _, man0, _⟩, ⟨_, _, mfl0, _⟩, ⟨_, hT0, _⟩⟩ := Y0
  have k : ∀ {a : Nat} {o o0 : Obj}, (a, o) ∈ nw → (a, o0) ∈ nw0 → (a, o) ∈ nw.filter (notIn own) := fun {a o o0} h h0 => List.mem_filter.mpr ⟨h, notIn_iff.mpr fun q hq => ho q hq a (List.mem_map.mpr ⟨_, h0, rfl⟩)⟩
  obtain ⟨_, o0, _, _, _, hm0, _⟩ := hT0
  obtain ⟨lo, o1, es, ep, xs, hm1, hx, hdat, he, hn, hk, hf⟩ := hT
  refine ⟨k mx mx0, ⟨ey, ny, k md md0, hY⟩, ⟨tx, k1, k mtx mtx0, ltx⟩, ⟨oA, kvs, D, k man man0, hD, hF, hS, lD⟩, ⟨fl, kf, k mfl mfl0, lfl⟩, ⟨D2, ⟨lo, o1, es, ep, xs, k hm1 hm0, hx, hdat, he, hn, fun q hq => ?_, hf⟩, hS2, lD2⟩⟩
  obtain ⟨ok, hok, tk⟩ := hk q hq
  refine ⟨ok, List.mem_filter.mpr ⟨hok, notIn_iff.mpr fun r hr e => ?_⟩, tk⟩
  have h1 := N.get (hw r hr)
  have h2 := N.get hok
  rw [show r.1 = q.2.1 from e] at h1
  have h3 : r.2 = ok := Option.some.inj (h1.symm.trans h2)
  have h4 := hc r hr
  rw [h3, tk.1] at h4
  injection h4 with h4
  exact absurd h4 (by decide)
abbrev tupO (vs : List Value) : Obj := { cls := .type "tuple", data := .seq vs.toArray }
section
variable {prog : Program} {w : World} {A : Around} {E : Value → Shared → Prop} {s : Shared} {env : Env} {h₀ : Heap} {x : Str} {body : List Stmt} {Q : Flow → Shared → Prop}
theorem my_tuple {l : Addr} {vs : List Value} {m₀ : Str → Option Value} {news : List (Addr × Obj)} (J : Nat → (Str → Option Value) → List (Addr × Obj) → Prop)
    (hh : A.handled = none) (hl : (l, tupO vs) ∈ news) (F : Fr h₀ env.locals s.heap m₀) (N : News h₀ env.locals s.heap news) (hj : J 0 m₀ news)
    (turn : ∀ i v m₁ news₁ h tk own, vs[i]? = some v → OwnOff own (news₁.map (·.1)) → (∀ p ∈ own, p.2.cls = .type "tuple_iterator") → (l, tupO vs) ∈ news₁ → J i m₁ news₁ → Fr h₀ env.locals h (fun y => if y = x then some v else m₁ y) → News h₀ env.locals h (news₁ ++ own) →
      wpAny (model prog w) A (execs body env) (InvPostG h₀ env.locals (fun m' nx => (l, tupO vs) ∈ nx ∧ J (i + 1) m' nx) own { s with heap := h, toks := tk } Q) E { s with heap := h, toks := tk })
    (done : ∀ m₁ news₁ h tk, J vs.length m₁ news₁ → Fr h₀ env.locals h m₁ → News h₀ env.locals h news₁ → Q .next { s with heap := h, toks := tk }) :
    wpAny (model prog w) A (pyIter (.ref l)) (fun it s₂ => LoopAtV prog w A h₀ env x body Q E it s₂) E s := by
  have hol : s.heap.get? l = some (tupO vs) := (N _ hl).1
  have hls : s.heap.IsTuple l vs.toArray := ⟨_, hol, rfl, _, rfl⟩
  have hne : l ≠ s.heap.objs.size := Nat.ne_of_lt (Heap.lt_size hol)
  refine wpAny_pyIter_tuple hls ?_
  have W := Walks.tuple (prog := prog) (w := w) hh s.heap.objs.size l hne vs.toArray
  rw [show vs.toArray.size = vs.length by simp] at W
  refine ⟨_, _, _, vs.length, _, _, m₀, news, (fun i m nx => (l, tupO vs) ∈ nx ∧ J i m nx), rfl, W, ?_, ?_, ?_, ⟨⟨_, Heap.get?_push_size _ rfl, rfl, rfl⟩, hls.at fun o e => Heap.get?_push_of_some _ e⟩, F.push _, (fun p hp => ⟨Heap.get?_push_of_some _ (N p hp).1, (N p hp).2⟩), ⟨hl, hj⟩, ?_, ?_⟩
  · intro hm
    rcases List.mem_cons.mp hm with e | hm
    · exact absurd F.ns.lt (e ▸ Nat.lt_irrefl _)
    · exact (N _ hl).2.1 ((List.mem_singleton.mp hm).symm)
  · intro b hb
    rw [List.mem_singleton.mp hb]
    exact next_is_new F
  · intro p hp hI
    exact absurd (Heap.lt_size (N p hp).1) ((List.mem_singleton.mp hI) ▸ Nat.lt_irrefl _)
  · rintro i v m₁ news₁ s₁ own ⟨hh', tk', rfl⟩ hin hP ⟨hl₁, hJ⟩ hoff hown hget hfp hst F₁ N₁
    obtain ⟨⟨oI, hoI, hcI, _⟩, _⟩ := id hst
    have hIown : (s.heap.objs.size, oI) ∈ own.filter fun p => decide (p.1 = s.heap.objs.size) := List.mem_filter.mpr ⟨hfp _ (List.mem_cons.mpr (.inl rfl)) (next_is_new F) _ hoI, by simp⟩
    have at1 : ∀ p ∈ own.filter fun p => decide (p.1 = s.heap.objs.size), p ∈ own ∧ p.1 = s.heap.objs.size := fun p hp => ⟨(List.mem_filter.mp hp).1, by simpa using (List.mem_filter.mp hp).2⟩
    refine wpAny_mono (turn i v m₁ news₁ hh' tk' (own.filter fun p => decide (p.1 = s.heap.objs.size)) (by simpa using hP) ?_ ?_ hl₁ hJ F₁ ?_) (fun f s₂ p => ?_) fun _ _ e => e
    · intro p hp b hb e
      obtain ⟨q, hq, rfl⟩ := List.mem_map.mp hb
      exact hoff q hq (List.mem_singleton.mpr (e ▸ (at1 p hp).2))
    · intro p hp
      have h1 := hget p (at1 p hp).1
      rw [(at1 p hp).2, hoI] at h1
      rw [← Option.some.inj h1]; exact hcI
    · intro p hp
      rcases List.mem_append.mp hp with hp | hp
      · exact N₁ p (List.mem_append.mpr (.inr hp))
      · exact N₁ p (List.mem_append.mpr (.inl (at1 p hp).1))
    have hlo : hh'.get? l = some (tupO vs) := (N₁ _ (List.mem_append.mpr (.inr hl₁))).1
    have fin : InvEndG h₀ env.locals (fun m' nx => (l, tupO vs) ∈ nx ∧ J (i + 1) m' nx) (own.filter fun p => decide (p.1 = s.heap.objs.size)) { s with heap := hh', toks := tk' } s₂ →
        LoopStepU h₀ env.locals [s.heap.objs.size] own (fun m nx => (l, tupO vs) ∈ nx ∧ J (i + 1) m nx) { s with heap := hh', toks := tk' } .next s₂ := by
      rintro ⟨h', tk, m', news', nx, e, F', N', hn, ho, ha, hm⟩
      refine ⟨rfl, h', tk, m', nx, e, F', fun p hp => ?_, fun p hp hq => ?_, hm⟩
      · rcases List.mem_append.mp hp with h | h
        · by_cases hI : p.1 = s.heap.objs.size
          · exact N' p (ho p (List.mem_filter.mpr ⟨h, by simpa using hI⟩))
          · have h1 : p.1 = l := by
              rcases List.mem_cons.mp (hown p h) with h2 | h2
              · exact absurd h2 hI
              · exact List.mem_singleton.mp h2
            have h2 := hget p h
            rw [h1, hlo] at h2
            rw [show p = (l, tupO vs) from Prod.ext h1 (Option.some.inj h2).symm]
            exact N' _ (hn _ hm.1)
        · exact N' p (hn p h)
      · exact ha _ hIown p.1 (List.mem_map.mpr ⟨p, hp, rfl⟩) (List.mem_singleton.mp hq).symm
    cases f with
    | ret v => exact .ret p
    | brk => exact .brk p
    | next => exact .next (fin p)
    | cont => exact .cont (fin p)
  · rintro h' tk m' news' F' N' _ ⟨_, hJ⟩
    exact done m' news' h' tk hJ F' N'
end
theorem rules61 : True := by
  k_with "My callY!" => (first | (((case Bᵣ => k_asm); (case Fᵣ => k_asm); (case Xᵣ => k_asm); (case Nᵣ => k_asm); (case Tᵣ => k_asm); (case hkᵣ => first | exact rfl | with_reducible assumption); (case hdpᵣ => first | ((try simp only [depth_under_make, depth_deeper]); (try dsimp only [ktrTop]); omega) | ktr_room); (case hunᵣ => first | ((try simp only [units_under_make, units_deeper]); (try dsimp only [ktrTop]); omega) | ktr_units); (case Yᵣ => with_reducible assumption); (case odᵣ => with_reducible assumption))) | fail "no")
  k_with "call ref!" => (first | ((k_here; (try dsimp only); (with_reducible show wpAny _ _ (call (Value.ref 88) _) _ _ _); k_dflt (refine' c_atomS (B := ?Bᵣ) (F := ?Fᵣ) (X := ?Xᵣ) (N := ?Nᵣ) (T := ?Tᵣ) (hk := ?hkᵣ) (hdp := ?hdpᵣ) (hun := ?hunᵣ) (Y := ?Yᵣ) (od := ?odᵣ) (lo := ?z1ᵣ) (hn1 := ?z2ᵣ) ?_; walk_at "My callY"; (case z1ᵣ => with_reducible assumption); (case z2ᵣ => omega); intro h'ᵣ tk'ᵣ nw'ᵣ i'ᵣ t'ᵣ F'ᵣ N'ᵣ Y'ᵣ keep'ᵣ; (try dsimp only)))) | fail "no")
  k_with "call ref!" => (first | ((k_here; (try dsimp only); (with_reducible show wpAny _ _ (call (Value.ref 102) _) _ _ _); k_dflt (refine' c_functorS (B := ?Bᵣ) (F := ?Fᵣ) (X := ?Xᵣ) (N := ?Nᵣ) (T := ?Tᵣ) (hk := ?hkᵣ) (hdp := ?hdpᵣ) (hun := ?hunᵣ) (Y := ?Yᵣ) (od := ?odᵣ) (hn2 := ?z2ᵣ) ?_; walk_at "My callY"; (case z2ᵣ => omega); intro h'ᵣ tk'ᵣ nw'ᵣ i'ᵣ t'ᵣ F'ᵣ N'ᵣ Y'ᵣ keep'ᵣ; (try dsimp only)))) | fail "no")
  trivial
set_option maxHeartbeats 8000000 in
theorem c_funcS {w : World} {mean : ExcName → Option Value} {mg mb : Str → Option Value} {dp un : Nat} {gd : Option (List Code)} {cn : Str} {cs : Scope} {a : Addr} {ccd : Value} {cl : List (Str × Addr)} {outer : List Env} {A₀ : Around} {base h₀ : Heap} {L : Addr} {m : Str → Option Value} {s : Shared} {Q E : Value → Shared → Prop} {x dx TX AN FL FD n1 n2 : Nat} {ey : List DictEntry} {ny : Nat} {nw : List (Addr × Obj)} {j : Int} {u : Str} {t t2 : Tok}
  (B : Below A₀ base outer h₀) (F : Fr h₀ L s.heap m) (X : (K0 w.params).In h₀) (N : News h₀ L s.heap nw) (T : TopL mean mg mb h₀) (hk : cs.kind = .function) (hdp : dp + 6 < recursionLimit) (hun : un + 48 < cLine)
  (Y : SymAt w x dx TX AN FL FD n1 n2 nw) (od : dx < x ∧ x < TX ∧ TX < AN ∧ AN < FL ∧ FL < FD) (lo : (AN == sysModules) = false) (hn1 : n1 ≤ 200) (hn2 : n2 ≤ 200) (mx : (x, instObj 154 dx) ∈ nw) (md : (dx, dictOf ey ny) ∈ nw) (hY : SyIs ey TX AN FL FD)
  (hret : ∀ h' tk' nw' i t', Fr h₀ L h' m → News h₀ L h' nw' → SymAt w x dx TX AN FL FD (n1 + 1) (n2 + 1) nw' → (∀ p ∈ nw, p.1 ≠ TX → p.1 ≠ AN → p.1 ≠ FL → p.1 ≠ FD → p ∈ nw') → Q (.int i t') { s with heap := h', toks := tk' }) :
   wpAny (model PySem.Challenge.rw_rh0105_01.row.prog w) (ktrTop dp un gd cn cs L a ccd cl outer) (call (.ref 109) [.ref x, .str u t, .int j t2]) Q E s := by
  refine wpAny_call ?_
  k_dflt (refine' code_def (binds := [(Str.ofString "self", .ref x), (Str.ofString "text", .str u t), (Str.ofString "arity", .int j t2)]) ?k1ᵣ ?k2ᵣ ?k3ᵣ ?k4ᵣ ?k5ᵣ ?kAᵣ ?kFᵣ ?kKᵣ ?k6ᵣ ?k7ᵣ ?k8ᵣ ?k9ᵣ ?kBᵣ ?_ ?c2ᵣ ?c3ᵣ ?c4ᵣ ?c5ᵣ; walk_at "My enter")
  k_steps
  rename ∀ p ∈ _, _ → _ => k2
  rename ∀ p ∈ nw, _ → _ => k1
  rename News h₀ _ _ _ => N9
  exact hret _ _ _ _ _ (by assumption) N9 (by assumption) (fun p hp h1 h2 h3 h4 => k2 p (k1 p hp h1 h2 h3 h4) h1 h2 h3 h4)


end
section
theorem noneSZ : True := by
  k_with_none
  trivial
inductive StrEs : List Expr → Prop
  | nil : StrEs []
  | cons (u : Str) (k : Nat) (p : Pos) (r : List Expr) (h : StrEs r) : StrEs (.Constant (.str u) k p :: r)
inductive RowEs : List Expr → Prop
  | nil : RowEs []
  | cons (u : Str) (j : Int) (k1 k2 k : Nat) (p1 p2 p : Pos) (r : List Expr) (h : RowEs r) : RowEs (.Tuple [.Constant (.str u) k1 p1, .Constant (.int j) k2 p2] k p :: r)
section
variable {prog : Program} {w : World} {A : Around} {E : Value → Shared → Prop} {env : Env} {pos : Pos} {h₀ : Heap} {L : Addr} {m : Str → Option Value}
theorem spl_strs {es : List Expr} (e : StrEs es) : ∀ (s : Shared) (Q : List Value → Shared → Prop),
    (∀ vs tk', vs.length = es.length → (∀ v ∈ vs, ∃ u t, v = .str u t) → Q vs { s with toks := tk' }) → wpAny (model prog w) A (spliced (backTo pos (starEach es env))) Q E s := by
  induction e with
  | nil => exact fun s Q h => args_nil (h [] s.toks rfl (fun _ h => nomatch h))
  | cons u k p r e ih =>
    intro s Q h
    refine args_cons (PySem.Calls.Constant_str (ih _ _ fun vs tk' hl hs => ?_))
    exact h (.str u s.toks :: vs) tk' (by rw [List.length_cons, List.length_cons, hl]) (List.forall_mem_cons.mpr ⟨⟨_, _, rfl⟩, hs⟩)
theorem m_tupStr {s : Shared} {news : List (Addr × Obj)} {elts : List Expr} {k : Nat} {Q : Value → Shared → Prop} (F : Fr h₀ L s.heap m) (N : News h₀ L s.heap news) (e : StrEs elts) (hz : elts.length ≤ 40)
    (h : ∀ (D : Nat) h' tk' vs, Fr h₀ L h' m → News h₀ L h' ((D, tupO vs) :: news) → (∀ p ∈ news, p.1 < D) → (∀ v ∈ vs, ∃ u t, v = .str u t) → vs.length ≤ 40 → Q (.ref D) { s with heap := h', toks := tk' }) :
    wpAny (model prog w) A (eval (.Tuple elts k pos) env) Q E s :=
  Tuple_ (spl_strs e s _ fun vs tk' hl hs => kup_newTuple (s := { s with toks := tk' }) F N (fun D h' F' N' hD => h D h' tk' vs F' N' hD hs (hl ▸ hz)) (by rw [sizeLine_eq]; omega))
theorem spl_rows {es : List Expr} (e : RowEs es) : ∀ (s : Shared) (news : List (Addr × Obj)) (Q : List Value → Shared → Prop), Fr h₀ L s.heap m → News h₀ L s.heap news →
    (∀ vs nw h' tk', Fr h₀ L h' m → News h₀ L h' nw → vs.length = es.length → (∀ v ∈ vs, ∃ (r : Nat) (u : Str) (t : Tok) (j : Int) (t2 : Tok), v = .ref r ∧ (r, tupO [.str u t, .int j t2]) ∈ nw) → (∀ p ∈ news, p ∈ nw) → Q vs { s with heap := h', toks := tk' }) →
    wpAny (model prog w) A (spliced (backTo pos (starEach es env))) Q E s := by
  induction e with
  | nil => exact fun s news Q F N h => args_nil (h [] news s.heap s.toks F N rfl (fun _ h => nomatch h) (fun _ h => h))
  | cons u j k1 k2 k p1 p2 p r e ih =>
    intro s news Q F N h
    refine args_cons (Tuple_ (args_cons (PySem.Calls.Constant_str (args_cons (wpAny_Constant_int (args_nil ?_))))))
    refine kup_newTuple (s := { s with toks := s.toks + 1 + 1 }) F N (fun D h' F' N' hD => ?_) (Nat.le_of_ble_eq_true rfl)
    refine ih _ _ _ F' N' fun vs nw h2 tk' F2 N2 hl hs hk => ?_
    exact h (.ref D :: vs) nw h2 tk' F2 N2 (by rw [List.length_cons, List.length_cons, hl]) (List.forall_mem_cons.mpr ⟨⟨D, u, _, j, _, rfl, hk _ (.head _)⟩, hs⟩) (fun p hp => hk p (.tail _ hp))
theorem m_tupRows {s : Shared} {news : List (Addr × Obj)} {elts : List Expr} {k : Nat} {Q : Value → Shared → Prop} (F : Fr h₀ L s.heap m) (N : News h₀ L s.heap news) (e : RowEs elts) (hz : elts.length ≤ 40)
    (h : ∀ (D : Nat) h' tk' vs nw, Fr h₀ L h' m → News h₀ L h' ((D, tupO vs) :: nw) → (∀ v ∈ vs, ∃ (r : Nat) (u : Str) (t : Tok) (j : Int) (t2 : Tok), v = .ref r ∧ (r, tupO [.str u t, .int j t2]) ∈ nw) → vs.length ≤ 40 → (∀ p ∈ news, p ∈ nw) → Q (.ref D) { s with heap := h', toks := tk' }) :
    wpAny (model prog w) A (eval (.Tuple elts k pos) env) Q E s :=
  Tuple_ (spl_rows e s news _ F N fun vs nw h1 tk' F1 N1 hl hs hk => kup_newTuple (s := { s with heap := h1, toks := tk' }) F1 N1 (fun D h' F' N' _ => h D h' tk' vs nw F' N' hs (hl ▸ hz) hk) (by rw [sizeLine_eq]; omega))
end


theorem rules62 : True := by
  k_with "My enter!" => (first | (((case kAᵣ => exact rfl); (case kFᵣ => exact rfl); (case kKᵣ => first | exact rfl | assumption); (case k1ᵣ => k_asm); (case k2ᵣ => k_asm); (case k3ᵣ => k_asm); (case k4ᵣ => k_asm); (case k5ᵣ => k_asm); (case k6ᵣ => k_is); (case k7ᵣ => k_is); (case k8ᵣ => ktr_room); (case k9ᵣ => exact BindsTo.of_eq rfl); (case c5ᵣ => decide); (case kBᵣ => exact locs rfl); (case c2ᵣ => exact rfl); (case c3ᵣ => exact rfl); (case c4ᵣ => exact rfl); k_whole; intro g'ᵣ L'ᵣ h'ᵣ FG'ᵣ F'ᵣ N'ᵣ B'ᵣ X'ᵣ T'ᵣ; (try dsimp only); (try k_fold))) | fail "no")
  k_with "My mem!" => (first | (first | exact List.Mem.head _ | (refine' List.Mem.tail _ ?_; walk_at "My mem") | assumption) | fail "no")
  k_with "My k_all!" => (first | (with_reducible assumption) | fail "no")
  trivial

theorem rules63 : True := by
  k_with "My callY!" => (first | (((case Bᵣ => k_asm); (case Fᵣ => k_asm); (case Xᵣ => k_asm); (case Nᵣ => k_asm); (case Tᵣ => k_asm); (case hkᵣ => first | exact rfl | with_reducible assumption); (case hdpᵣ => first | ((try simp only [depth_under_make, depth_deeper]); (try dsimp only [ktrTop]); omega) | ktr_room); (case hunᵣ => first | ((try simp only [units_under_make, units_deeper]); (try dsimp only [ktrTop]); omega) | ktr_units); (case Yᵣ => with_reducible assumption); (case odᵣ => with_reducible assumption))) | fail "no")
  k_with "call ref!" => (first | ((k_here; (try dsimp only); (with_reducible show wpAny _ _ (call (Value.ref 88) _) _ _ _); k_dflt (refine' c_atomS (B := ?Bᵣ) (F := ?Fᵣ) (X := ?Xᵣ) (N := ?Nᵣ) (T := ?Tᵣ) (hk := ?hkᵣ) (hdp := ?hdpᵣ) (hun := ?hunᵣ) (Y := ?Yᵣ) (od := ?odᵣ) (lo := ?z1ᵣ) (hn1 := ?z2ᵣ) ?_; walk_at "My callY"; (case z1ᵣ => with_reducible assumption); (case z2ᵣ => omega); intro h'ᵣ tk'ᵣ nw'ᵣ i'ᵣ t'ᵣ F'ᵣ N'ᵣ Y'ᵣ keep'ᵣ; (try dsimp only)))) | fail "no")
  k_with "call ref!" => (first | ((k_here; (try dsimp only); (with_reducible show wpAny _ _ (call (Value.ref 102) _) _ _ _); k_dflt (refine' c_functorS (B := ?Bᵣ) (F := ?Fᵣ) (X := ?Xᵣ) (N := ?Nᵣ) (T := ?Tᵣ) (hk := ?hkᵣ) (hdp := ?hdpᵣ) (hun := ?hunᵣ) (Y := ?Yᵣ) (od := ?odᵣ) (hn2 := ?z2ᵣ) ?_; walk_at "My callY"; (case z2ᵣ => omega); intro h'ᵣ tk'ᵣ nw'ᵣ i'ᵣ t'ᵣ F'ᵣ N'ᵣ Y'ᵣ keep'ᵣ; (try dsimp only)))) | fail "no")
  trivial

theorem rules64 : True := by
  k_with "call ref!" => (first | ((k_here; (try dsimp only); (with_reducible show wpAny _ _ (call (Value.ref 109) _) _ _ _); k_dflt (refine' c_funcS (B := ?Bᵣ) (F := ?Fᵣ) (X := ?Xᵣ) (N := ?Nᵣ) (T := ?Tᵣ) (hk := ?hkᵣ) (hdp := ?hdpᵣ) (hun := ?hunᵣ) (Y := ?Yᵣ) (od := ?odᵣ) (lo := ?z1ᵣ) (hn1 := ?z2ᵣ) (hn2 := ?z3ᵣ) (mx := ?z4ᵣ) (md := ?z5ᵣ) (hY := ?z6ᵣ) ?_; walk_at "My callY"; (case z1ᵣ => with_reducible assumption); (case z2ᵣ => omega); (case z3ᵣ => omega); (case z4ᵣ => walk_at "My mem"); (case z5ᵣ => walk_at "My mem"); (case z6ᵣ => with_reducible assumption); intro h'ᵣ tk'ᵣ nw'ᵣ i'ᵣ t'ᵣ F'ᵣ N'ᵣ Y'ᵣ keep'ᵣ; (try dsimp only)))) | fail "no")
  k_with "exec For!" => (first | (refine halt ?_) | fail "no")
  k_with "exec For Name Call cons nil!" => (first | (refine halt ?_) | fail "no")
  k_with "newTuple!" => (first | ((k_here; k_dflt (refine' kup_newTuple ?Fᵣ ?Nᵣ ?_ ?zᵣ; (case Fᵣ => k_asm); (case Nᵣ => k_asm); (case zᵣ => kmk_size)); intro D'ᵣ h'ᵣ F'ᵣ N'ᵣ l1ᵣ; clear l1ᵣ; (try k_sweep))) | fail "no")
  k_with "My k_get!" => (first | (with_reducible assumption) | fail "no")
  k_with "pyIter ref!" => (first | (refine halt ?_) | fail "no")
  k_with "call ref!" => (first | ((k_here; (try dsimp only [List.nil_append, List.append_nil]); (with_reducible show wpAny _ _ (call (Value.ref _) []) _ _ _); refine wpAny_call ?_; k_dflt (refine' code_def (binds := []) ?k1ᵣ ?k2ᵣ ?k3ᵣ ?k4ᵣ ?k5ᵣ ?kAᵣ ?kFᵣ ?kKᵣ ?k6ᵣ ?k7ᵣ ?k8ᵣ ?k9ᵣ ?kBᵣ ?_ ?c2ᵣ ?c3ᵣ ?c4ᵣ ?c5ᵣ; walk_at "My enter"))) | fail "no")
  k_with "My strs!" => (first | (first | exact StrEs.nil | (refine StrEs.cons _ _ _ _ ?_; walk_at "My strs")) | fail "no")
  k_with "My rows!" => (first | (first | exact RowEs.nil | (refine RowEs.cons _ _ _ _ _ _ _ _ _ ?_; walk_at "My rows")) | fail "no")
  k_with "eval Tuple!" => (first | ((k_here; (with_reducible show wpAny _ _ (eval (Expr.Tuple _ _ _) _) _ _ _); k_dflt (first
  | (refine' m_tupStr ?Fᵣ ?Nᵣ ?eᵣ ?zᵣ ?_; (case Fᵣ => k_asm); (case Nᵣ => k_asm); (case eᵣ => walk_at "My strs"); (case zᵣ => exact Nat.le_of_ble_eq_true rfl); k_whole; intro D'ᵣ h'ᵣ tk'ᵣ vs'ᵣ F'ᵣ N'ᵣ l1ᵣ q1'ᵣ q2'ᵣ; clear l1ᵣ; (try k_sweep))
  | (refine' m_tupRows ?Fᵣ ?Nᵣ ?eᵣ ?zᵣ ?_; (case Fᵣ => k_asm); (case Nᵣ => k_asm); (case eᵣ => walk_at "My rows"); (case zᵣ => exact Nat.le_of_ble_eq_true rfl); k_whole; intro D'ᵣ h'ᵣ tk'ᵣ vs'ᵣ nw'ᵣ F'ᵣ N'ᵣ q1'ᵣ q2'ᵣ q3'ᵣ; (try k_sweep))))) | fail "no")
  trivial
def Keep4 (TX AN FL FD : Nat) (nw nw' : List (Addr × Obj)) : Prop := ∀ p ∈ nw, p.1 ≠ TX → p.1 ≠ AN → p.1 ≠ FL → p.1 ≠ FD → p ∈ nw'
theorem sym_start {w : World} {h₀ h : Heap} {L : Nat} {news : List (Addr × Obj)} {TU x dx TX AN FL FD : Nat} {vs : List Value} {o1 o2 : Obj} {ey : List DictEntry} {ny : Nat}
  (N : News h₀ L h ((TU, tupO vs) :: (FD, o2) :: (FL, listOf (#[] : Array Value) 0) :: (AN, o1) :: (TX, listOf (#[] : Array Value) 0) :: (x, instObj 154 dx) :: (dx, dictOf ey ny) :: news))
  (hs1 : o1.IsDictOf (PySem.strKind PySem.Challenge.rw_rh0105_01.row.prog w) []) (hs2 : o2.IsDictOf (PySem.strKind PySem.Challenge.rw_rh0105_01.row.prog w) []) (lo2 : (FD == sysModules) = false) (lo1 : (AN == sysModules) = false) (hY : SyIs ey TX AN FL FD) (od : dx < x ∧ x < TX ∧ TX < AN ∧ AN < FL ∧ FL < FD) (hx : ∀ p ∈ news, p.1 < dx) (hvs : ∀ v ∈ vs, ∃ u t, v = .str u t) (hvl : vs.length ≤ 40) :
  ∃ (nw : List (Addr × Obj)) (vs' : List Value) (TX AN FL FD : Nat), News h₀ L h nw ∧ SymAt w x dx TX AN FL FD 0 0 nw ∧ (TU, tupO vs') ∈ nw ∧ (∀ p ∈ news, p ∈ nw ∧ p.1 ≠ TX ∧ p.1 ≠ AN ∧ p.1 ≠ FL ∧ p.1 ≠ FD) ∧ (dx < x ∧ x < TX ∧ TX < AN ∧ AN < FL ∧ FL < FD) ∧ (AN == sysModules) = false ∧ (∀ v ∈ vs', ∃ u t, v = .str u t) ∧ vs'.length ≤ 40 := by
  refine ⟨_, vs, TX, AN, FL, FD, N, ⟨.tail _ (.tail _ (.tail _ (.tail _ (.tail _ (.head _))))), ⟨ey, ny, .tail _ (.tail _ (.tail _ (.tail _ (.tail _ (.tail _ (.head _)))))), hY⟩, ⟨[], 0, .tail _ (.tail _ (.tail _ (.tail _ (.head _)))), Nat.le_refl _⟩, ⟨o1, [], [], .tail _ (.tail _ (.tail _ (.head _))), hs1, .nil, .nil, Nat.le_refl _⟩, ⟨[], 0, .tail _ (.tail _ (.head _)), Nat.le_refl _⟩, ⟨[], TupTab.ofEmpty (.tail _ (.head _)) lo2 hs2, .nil, Nat.le_refl _⟩⟩, .head _, ?_, od, lo1, hvs, hvl⟩
  intro p hp
  have h1 : @LT.lt Nat _ p.1 dx := hx p hp
  obtain ⟨a1, a2, a3, a4, a5⟩ := od
  refine ⟨.tail _ (.tail _ (.tail _ (.tail _ (.tail _ (.tail _ (.tail _ hp)))))), Nat.ne_of_lt (Nat.lt_trans h1 (by omega)), Nat.ne_of_lt (Nat.lt_trans h1 (by omega)), Nat.ne_of_lt (Nat.lt_trans h1 (by omega)), Nat.ne_of_lt (Nat.lt_trans h1 (by omega))⟩
theorem frame_eq {x : Str} {v : Value} {m₁ m₀ : Str → Option Value} (h : ∀ z, z ≠ x → m₁ z = m₀ z) : (fun y => if y = x then some v else m₁ y) = fun y => if y = x then some v else m₀ y := funext fun y => by
  by_cases e : y = x
  · rw [if_pos e, if_pos e]
  · rw [if_neg e, if_neg e, h y e]
theorem frame_out {x : Str} {m₁ m₀ : Str → Option Value} (h : ∀ z, z ≠ x → m₁ z = m₀ z) : m₁ = fun y => if y = x then m₁ y else m₀ y := funext fun y => by
  by_cases e : y = x
  · rw [if_pos e]
  · rw [if_neg e, h y e]
theorem SymAt.row {w : World} {x dx TX AN FL FD n1 n2 : Nat} {h₀ h : Heap} {L : Nat} {nw : List (Addr × Obj)} (Y : SymAt w x dx TX AN FL FD n1 n2 nw) (N : News h₀ L h nw) {r : Nat} {o : Obj} (hr : (r, o) ∈ nw) (ho : o.cls = .type "tuple") : r ≠ TX ∧ r ≠ AN ∧ r ≠ FL ∧ r ≠ FD := by
  obtain ⟨mx, ⟨ey, ny, md, hY⟩, ⟨tx, k1, mtx, ltx⟩, ⟨oA, kvs, D, man, hD, hF, hS, lD⟩, ⟨fl, kf, mfl, lfl⟩, ⟨D2, ⟨_, oF, _, _, _, mF, cF, _⟩, hS2, lD2⟩⟩ := Y
  have go : ∀ {q : Nat} {o' : Obj}, (q, o') ∈ nw → o'.cls ≠ .type "tuple" → r ≠ q := by
    intro q o' hq hc e
    have h1 := N.get hr
    have h2 := N.get hq
    rw [e] at h1
    exact hc (Option.some.inj (h1.symm.trans h2) ▸ ho)
  obtain ⟨_, _, cA, _⟩ := hD
  refine ⟨go mtx ?_, go man ?_, go mfl ?_, go mF ?_⟩
  · intro e; injection e with e; exact absurd e (by decide)
  · rw [cA.1]; intro e; injection e with e; exact absurd e (by decide)
  · intro e; injection e with e; exact absurd e (by decide)
  · rw [cF.1]; intro e; injection e with e; exact absurd e (by decide)
theorem sym_end {w : World} {h₀ h h' : Heap} {L l x dx TX AN FL FD n1 n2 k1 k2 : Nat} {st nx own nw' : List (Addr × Obj)} {vs : List Value} {z9 : Str} {m' m₀ : Str → Option Value} {s₁ : Shared} {tk : Nat}
  (F : Fr h₀ L h' m') (N : News h₀ L h' nw') (Y : SymAt w x dx TX AN FL FD n1 n2 nw') (Y0 : SymAt w x dx TX AN FL FD k1 k2 nx) (N0 : News h₀ L h (nx ++ own)) (keep : Keep4 TX AN FL FD (nx ++ own) nw') (hoff : OwnOff own (nx.map (·.1))) (hcl : ∀ p ∈ own, p.2.cls = .type "tuple_iterator") (hT : (l, tupO vs) ∈ nx) (hst : Keep4 TX AN FL FD st nx) (hm : ∀ z, z ≠ z9 → m' z = m₀ z) :
  InvEndG h₀ L (fun m' nx => (l, tupO vs) ∈ nx ∧ SymAt w x dx TX AN FL FD n1 n2 nx ∧ Keep4 TX AN FL FD st nx ∧ (∀ z, z ≠ z9 → m' z = m₀ z)) own s₁ { s₁ with heap := h', toks := tk } := by
  have Y1 := id Y0
  obtain ⟨_, _, ⟨_, _, mtx, _⟩, ⟨_, _, _, man, _⟩, ⟨_, _, mfl, _⟩, ⟨_, ⟨_, _, _, _, _, mF, _⟩, _⟩⟩ := Y1
  have at1 : ∀ {q : Nat} {o : Obj}, (q, o) ∈ nx → ∀ p ∈ own, p.1 ≠ q := fun {q o} hq p hp => hoff p hp q (List.mem_map.mpr ⟨_, hq, rfl⟩)
  have hown : ∀ p ∈ own, p ∈ nw' := fun p hp => keep p (List.mem_append_right _ hp) (at1 mtx p hp) (at1 man p hp) (at1 mfl p hp) (at1 mF p hp)
  have kp : ∀ p ∈ nx, p ∈ nw' → p ∈ nw'.filter (notIn own) := fun p hp h => List.mem_filter.mpr ⟨h, notIn_iff.mpr fun q hq => hoff q hq p.1 (List.mem_map.mpr ⟨p, hp, rfl⟩)⟩
  have hTn := Y0.row (news_sub N0 fun p hp => List.mem_append_left _ hp) hT rfl
  refine ⟨h', tk, m', nw', nw'.filter (notIn own), rfl, F, N, (fun p hp => (List.mem_filter.mp hp).1), hown, ?_, kp _ hT (keep _ (List.mem_append_left _ hT) hTn.1 hTn.2.1 hTn.2.2.1 hTn.2.2.2), Y.off Y0 N hown hoff hcl, ?_, hm⟩
  · intro p hp b hb e
    obtain ⟨q, hq, rfl⟩ := List.mem_map.mp hb
    exact notIn_iff.mp (List.mem_filter.mp hq).2 p hp e
  · intro p hp h1 h2 h3 h4
    have h5 := hst p hp h1 h2 h3 h4
    exact kp p h5 (keep p (List.mem_append_left _ h5) h1 h2 h3 h4)
theorem sym_start2 {w : World} {h₀ h : Heap} {L : Nat} {nx : List (Addr × Obj)} {TU x dx TX AN FL FD n1 n2 : Nat} {vs : List Value} {rest : List (Addr × Obj)}
  (N : News h₀ L h ((TU, tupO vs) :: rest)) (Y : SymAt w x dx TX AN FL FD n1 n2 nx) (hrow : ∀ v ∈ vs, ∃ (r : Nat) (u : Str) (t : Tok) (j : Int) (t2 : Tok), v = .ref r ∧ (r, tupO [.str u t, .int j t2]) ∈ rest) (hvl : vs.length ≤ 40) (hs : ∀ p ∈ nx, p ∈ rest) :
  ∃ (nw : List (Addr × Obj)) (vs' : List Value), News h₀ L h nw ∧ SymAt w x dx TX AN FL FD n1 n2 nw ∧ (TU, tupO vs') ∈ nw ∧ (∀ p ∈ nx, p ∈ nw) ∧ (∀ v ∈ vs', ∃ (r : Nat) (u : Str) (t : Tok) (j : Int) (t2 : Tok), v = .ref r ∧ (r, tupO [.str u t, .int j t2]) ∈ nw) ∧ vs'.length ≤ 40 :=
  ⟨_, vs, N, Y.mono fun p hp => .tail _ (hs p hp), .head _, fun p hp => .tail _ (hs p hp), fun v hv => let ⟨r, u, t, j, t2, e, h⟩ := hrow v hv; ⟨r, u, t, j, t2, e, .tail _ h⟩, hvl⟩
set_option maxHeartbeats 8000000 in
theorem c_symbols {w : World} {mean : ExcName → Option Value} {mg mb : Str → Option Value} {dp un : Nat} {gd : Option (List Code)} {cn : Str} {cs : Scope} {a : Addr} {ccd : Value} {cl : List (Str × Addr)} {outer : List Env} {A₀ : Around} {base h₀ : Heap} {L : Addr} {m : Str → Option Value} {s : Shared} {Q E : Value → Shared → Prop} {news : List (Addr × Obj)}
  (B : Below A₀ base outer h₀) (F : Fr h₀ L s.heap m) (X : (K0 w.params).In h₀) (N : News h₀ L s.heap news) (T : TopL mean mg mb h₀) (hk : cs.kind = .function) (hdp : dp + 12 < recursionLimit) (hun : un + 96 < cLine)
  (hret : ∀ h' tk' (q : Nat), Fr h₀ L h' m → News h₀ L h' news → Q (.ref q) { s with heap := h', toks := tk' }) :
   wpAny (model PySem.Challenge.rw_rh0105_01.row.prog w) (ktrTop dp un gd cn cs L a ccd cl outer) (call (.ref 154) []) Q E s := by
  k_dflt (refine' call_cls ?k1 ?k2 ?k3 ?k4 ?k5 ?k6 ?_; (case k1 => k_asm); (case k2 => k_asm); (case k3 => k_asm); (case k4 => k_is); (case k5 => k_is); (case k6 => k_is))
  intro (x : Nat) (dx : Nat) h1 F1 N1 l1 l2
  clear N F
  have l9 := l1
  k_lt2 l2
  have offd : ∀ p ∈ news, p.1 ≠ dx := fun p hp => Nat.ne_of_lt (l1 p hp)
  k_dflt (refine' code_def (binds := [(Str.ofString "self", .ref x)]) ?k1ᵣ ?k2ᵣ ?k3ᵣ ?k4ᵣ ?k5ᵣ ?kAᵣ ?kFᵣ ?kKᵣ ?k6ᵣ ?k7ᵣ ?k8ᵣ ?k9ᵣ ?kBᵣ ?_ ?c2ᵣ ?c3ᵣ ?c4ᵣ ?c5ᵣ; walk_at "My enter")
  k_steps
  unfold Halt
  (rename Fr _ _ _ _ => lF'); (with_unfolding_all refine' For_invVF lF' ?k1 ?k2 ?_; (case k1 => exact rfl); (case k2 => exact rfl); k_whole)
  k_steps
  unfold Halt
  rename News _ _ _ _ => N9
  rename Fr _ _ _ _ => F9
  obtain ⟨nw, vs, TX, AN, FL, FD, N8, Y8, hTU, hst, od, lo8, hstr, hvl⟩ := sym_start N9 (by with_reducible assumption) (by with_reducible assumption) (by with_reducible assumption) (by with_reducible assumption) ⟨by k_get, by k_get, by k_get, by k_get, by k_get, by k_get, by k_get⟩ (by omega) l9 (by with_reducible assumption) (by with_reducible assumption)
  clear N9
  k_dflt (refine' my_tuple (fun i m nx => SymAt w x dx TX AN FL FD i 0 nx ∧ Keep4 TX AN FL FD nw nx ∧ (∀ z, z ≠ Str.ofString "text" → m z = List.lookup z [(Str.ofString "self", Value.ref x)].reverse)) rfl hTU F9 N8 ?J0 ?turn ?done)
  case J0 => exact ⟨Y8, fun p hp _ _ _ _ => hp, fun _ _ => rfl⟩
  case turn =>
    clear F9 N8 Y8
    intro i v m₁ nx h tk9 own hv hoff hcl hT7 hJ F7 N7
    obtain ⟨Y7, hst7, hm7⟩ := hJ
    obtain ⟨u, t, rfl⟩ := hstr v (List.mem_of_getElem? hv)
    have hil : i < vs.length := (List.getElem?_eq_some_iff.mp hv).1
    have Y6 := Y7.mono (nw' := nx ++ own) (fun p hp => List.mem_append_left _ hp)
    obtain ⟨mx, ⟨ey, ny, md, hY⟩, _⟩ := id Y6
    have hY1 := hY.atom
    rw [frame_eq hm7] at F7
    refine post_gen fun QQ hQQ => ?_
    k_steps
    refine hQQ _ _ ?_
    rename ∀ p ∈ nx ++ own, _ → _ => k2
    rename SymAt w x dx TX AN FL FD (i + 1) _ _ => Y9
    rename News _ _ _ _ => N9
    k_dflt (refine' sym_end ?F N9 Y9 Y7 N7 k2 hoff hcl hT7 hst7 ?hm)
    case F => assumption
    case hm => (intro z hz; exact if_neg hz)
  case done =>
    clear F9 N8 Y8
    intro m₁ nx h tk9 hJ F7 N7
    obtain ⟨Y7, hst7, hm7⟩ := hJ
    rw [frame_out hm7] at F7
    dsimp only
    k_steps
    unfold Halt
    clear lF'
    (rename Fr _ _ _ _ => lF'); (with_unfolding_all refine' For_invVF lF' ?k1 ?k2 ?_; (case k1 => exact rfl); (case k2 => exact rfl); k_whole)
    k_steps
    unfold Halt
    rename News _ _ _ _ => N9
    rename Fr _ _ _ _ => F9

    obtain ⟨nw2, vs2, N8, Y8, hTU2, hk2, hrow, hvl2⟩ := sym_start2 N9 Y7 (by with_reducible assumption) (by with_reducible assumption) (by with_reducible assumption)
    clear N9
    k_dflt (refine' my_tuple (fun i m nx => SymAt w x dx TX AN FL FD (vs.length + i) i nx ∧ Keep4 TX AN FL FD nw2 nx ∧ (∀ z, z ≠ Str.ofString "row" → m z = (fun y => if y = Str.ofString "text" then m₁ y else List.lookup y [(Str.ofString "self", Value.ref x)].reverse) z)) rfl hTU2 F9 N8 ?J0 ?turn ?done)
    case J0 => exact ⟨Y8, fun p hp _ _ _ _ => hp, fun _ _ => rfl⟩
    case turn =>
      clear F9 Y7
      intro i v m₂ ny h2 tk2 own hv hoff hcl hT7 hJ F6 N6
      obtain ⟨Y6, hst6, hm6⟩ := hJ
      have hil : i < vs2.length := (List.getElem?_eq_some_iff.mp hv).1
      obtain ⟨r, u, t, j, t2, rfl, hr⟩ := hrow v (List.mem_of_getElem? hv)
      have hrn := Y8.row N8 hr rfl
      have hr6 : (r, tupO [.str u t, .int j t2]) ∈ ny ++ own := List.mem_append_left _ (hst6 _ hr hrn.1 hrn.2.1 hrn.2.2.1 hrn.2.2.2)
      have Y5 := Y6.mono (nw' := ny ++ own) (fun p hp => List.mem_append_left _ hp)
      obtain ⟨mx, ⟨ey, ny9, md, hY⟩, _⟩ := id Y5
      have hY1 := hY.func
      rw [frame_eq hm6] at F6
      clear N8 Y8 hm6
      refine post_gen fun QQ hQQ => ?_
      k_steps
      refine hQQ _ _ ?_
      rename ∀ p ∈ ny ++ own, _ → _ => k2
      rename SymAt w x dx TX AN FL FD (_ + 1) (i + 1) _ => Y9
      rename News _ _ _ _ => N9
      k_dflt (refine' sym_end ?F N9 Y9 Y6 N6 k2 hoff hcl hT7 hst6 ?hm)
      case F => assumption
      case hm => (intro z hz; exact if_neg hz)
    case done =>
      clear F9
      intro m₂ ny h2 tk2 hJ F6 N6
      obtain ⟨Y6, hst6, hm6⟩ := hJ
      clear N8
      rw [frame_out hm6] at F6
      dsimp only
      k_steps
      rename News h₀ _ _ _ => N9
      exact hret _ _ _ (by assumption) (news_sub N9 fun p hp => let ⟨q0, q1, q2, q3, q4⟩ := hst p hp; hst6 p (hk2 p (hst7 p q0 q1 q2 q3 q4)) q1 q2 q3 q4)


end
section
theorem noneA1 : True := by
  k_with_none
  trivial
theorem rules65 : True := by
  k_with "My enter!" => (first | (((case kAᵣ => exact rfl); (case kFᵣ => exact rfl); (case kKᵣ => first | exact rfl | assumption); (case k1ᵣ => k_asm); (case k2ᵣ => k_asm); (case k3ᵣ => k_asm); (case k4ᵣ => k_asm); (case k5ᵣ => k_asm); (case k6ᵣ => k_is); (case k7ᵣ => k_is); (case k8ᵣ => ktr_room); (case k9ᵣ => exact BindsTo.of_eq rfl); (case c5ᵣ => decide); (case kBᵣ => exact locs rfl); (case c2ᵣ => exact rfl); (case c3ᵣ => exact rfl); (case c4ᵣ => exact rfl); k_whole; intro g'ᵣ L'ᵣ h'ᵣ FG'ᵣ F'ᵣ N'ᵣ B'ᵣ X'ᵣ T'ᵣ; (try dsimp only); (try k_fold))) | fail "no")
  k_with "My mem!" => (first | (first | exact List.Mem.head _ | (refine' List.Mem.tail _ ?_; walk_at "My mem") | assumption) | fail "no")
  k_with "My k_all!" => (first | (with_reducible assumption) | fail "no")
  trivial

theorem gen_toks {M : Model} {A : Around} {t : Sem Flow} {Q : Flow → Shared → Prop} {E : Value → Shared → Prop} {h : Heap} {g : Array GenState} {d : Drawn} {os : OsState} {tk : Nat} (H : ∀ tk, wpAny M A t Q E ⟨h, g, d, tk, os⟩) : wpAny M A t Q E ⟨h, g, d, tk, os⟩ := H tk
theorem rules66 : True := by
  k_with "execs cons!" => (first | (((with_reducible show wpAny _ _ _ _ _ (Shared.mk _ _ _ (_ + _) _)); refine gen_toks ?_; intro tk'ᵣ)) | fail "no")
  k_with "My in!" => (first | ((refine' code_def ?k1ᵣ ?k2ᵣ ?k3ᵣ ?k4ᵣ ?k5ᵣ ?kAᵣ ?kFᵣ ?kKᵣ ?k6ᵣ ?k7ᵣ ?k8ᵣ ?k9ᵣ ?kBᵣ ?_ ?c2ᵣ ?c3ᵣ ?c4ᵣ ?c5ᵣ; (case kAᵣ => exact rfl); (case kFᵣ => exact rfl); (case kKᵣ => first | exact rfl | assumption); (case k1ᵣ => k_asm); (case k2ᵣ => k_asm); (case k3ᵣ => k_asm); (case k4ᵣ => k_asm); (case k5ᵣ => k_asm); (case k6ᵣ => k_is); (case k7ᵣ => k_is); (case k8ᵣ => first | ((try simp only [depth_under_make, depth_deeper]); (try dsimp only [ktrTop]); omega) | ktr_room); (case k9ᵣ => first | exact BindsTo.of_eq rfl | exact binds_K (by k_in) rfl (by k_is) rfl rfl rfl); (case c5ᵣ => decide); (case kBᵣ => exact locs rfl); (case c2ᵣ => exact rfl); (case c3ᵣ => exact rfl); (case c4ᵣ => exact rfl); k_whole; intro g'ᵣ L'ᵣ h'ᵣ FG'ᵣ F'ᵣ N'ᵣ B'ᵣ X'ᵣ T'ᵣ; (try dsimp only); (try k_fold))) | fail "no")
  k_with "call ref!" => (first | ((k_here; k_dflt (first
  | (refine' call_cls ?k1ᵣ ?k2ᵣ ?k3ᵣ ?k4ᵣ ?k5ᵣ ?k6ᵣ ?_; (case k1ᵣ => k_asm); (case k2ᵣ => k_asm); (case k3ᵣ => k_asm); (case k4ᵣ => k_is); (case k5ᵣ => k_is); (case k6ᵣ => k_is); k_whole; intro x'ᵣ d'ᵣ h'ᵣ F'ᵣ N'ᵣ l1ᵣ l2ᵣ; (try k_lt l1ᵣ); (try k_lt2 l2ᵣ); (try k_sweep); walk_at "My in")
  | (refine wpAny_call ?_; walk_at "My in")))) | fail "no")
  trivial
structure Att (es : List DictEntry) (l : List (Str × Value)) (n : Nat) : Prop where
  get : ∀ x, getL x es = some (l.lookup x)
  len : es.length ≤ n
theorem Att.nil : Att [] [] 0 := ⟨fun _ => rfl, Nat.le_refl _⟩
theorem Att.got {es : List DictEntry} {l : List (Str × Value)} {n : Nat} {x : Str} {o : Option Value} (T : Att es l n) (e : l.lookup x = o) : getL x es = some o := e ▸ T.get x
theorem len_putL_le (x : Str) (h : Int) (k v : Value) : ∀ es : List DictEntry, (putL x h k v es).length ≤ es.length + 1
  | [] => Nat.le_refl _
  | e :: r => by
    unfold putL
    split
    · exact Nat.le_succ _
    · exact Nat.succ_le_succ (len_putL_le x h k v r)
theorem Att.put {es : List DictEntry} {l : List (Str × Value)} {n : Nat} (T : Att es l n) (x : Str) (h : Int) (t : Tok) (v : Value) : Att (putL x h (.str x t) v es) ((x, v) :: l) (n + 1) := by
  refine ⟨fun y => ?_, Nat.le_trans (len_putL_le ..) (Nat.succ_le_succ T.len)⟩
  by_cases e : y = x
  · subst e
    rw [getL_putL_same, List.lookup_cons_self]
  · rw [getL_putL_other e, T.get, List.lookup_cons, beq_false_of_ne e]
theorem m_setnew {w : World} {A : Around} {E : Value → Shared → Prop} {s : Shared} {K : Frag} {x C dx L : Addr} {h₀ : Heap} {m : Str → Option Value} {news : List (Addr × Obj)} {news' : List DictEntry → Nat → List (Addr × Obj)} {ox : Obj} {es : List DictEntry} {n k : Nat} {l : List (Str × Value)} {name : Str} {v : Value} {prog : Program}
    {Q : Unit → Shared → Prop} (F : Fr h₀ L s.heap m) (X₀ : K.In h₀) (N : News h₀ L s.heap news) (I : InstAt s.heap x ox C (some (dictOf es n))) (hd : ox.dict = some dx)
    (hs : findIn K (.ref C) "__setattr__" = some (some (.builtin "object.__setattr__"))) (hp : plainOver K C = true) (ht : takerIn K C name = some none) (hh : hasDictIn K C = true) (T : Att es l k) (hk : Nat.ble k 30 = true)
    (U : ∀ es' n', Upd dx (dictOf es n) (dictOf es' n') news (news' es' n'))
    (h : ∀ es' n' tk h', Fr h₀ L h' m → News h₀ L h' (news' es' n') → Att es' ((name, v) :: l) (k + 1) → Q () { s with heap := h', toks := tk }) :
    wpAny (model prog w) A (setAttr (.ref x) name v) Q E s :=
  set_dict F X₀ N I hd hs hp ht hh (by rw [T.get]; rfl) rfl (U _ _) (Nat.le_trans (len_putL_le ..) (Nat.le_trans (Nat.succ_le_succ T.len) (Nat.le_trans (Nat.succ_le_succ (Nat.le_of_ble_eq_true hk)) (Nat.le_of_ble_eq_true rfl)))) fun h' F' N' => h _ _ _ h' F' N' (T.put ..)
theorem rules67 : True := by
  k_with "My att!" => (first | (first | with_reducible assumption | exact Att.nil) | fail "no")
  k_with "My k_get!" => (first | ((refine Att.got (by walk_at "My att") ?_; exact rfl)) | fail "no")
  k_with "setAttr ref!" => (first | ((k_here; k_dflt (refine' m_setnew ?k1ᵣ ?k2ᵣ ?k3ᵣ ?k4ᵣ ?k5ᵣ ?k6ᵣ ?k7ᵣ ?k8ᵣ ?k9ᵣ ?k10ᵣ ?k11ᵣ ?k12ᵣ ?_; (case k1ᵣ => k_asm); (case k2ᵣ => k_asm); (case k3ᵣ => k_asm); (case k4ᵣ => k_inst); (case k5ᵣ => exact rfl); (case k6ᵣ => k_is); (case k7ᵣ => k_is); (case k8ᵣ => k_is); (case k9ᵣ => k_is); (case k10ᵣ => walk_at "My att"); (case k11ᵣ => exact rfl); (case k12ᵣ => (intro es'ᵣ n'ᵣ; k_upd)); k_whole; intro es'ᵣ n'ᵣ tk'ᵣ h'ᵣ F'ᵣ N'ᵣ T'ᵣ; (try dsimp only at N'ᵣ); (try dsimp only); (try k_sweep)))) | fail "no")
  trivial
theorem areas_end {R : Prop} {h₀ h : Heap} {L : Nat} {news : List (Addr × Obj)} {b1 b2 b3 : Addr × Obj} {A AD S SD HL KL TR CD : Nat} {ea es : List DictEntry} {na ns kh kk kt : Nat} {u1 u2 u3 u4 v1 v2 v3 : Tok}
  (N : News h₀ L h (b1 :: b2 :: b3 :: (TR, listOf ([] : List Value).toArray kt) :: (KL, listOf ([] : List Value).toArray kk) :: (HL, listOf ([] : List Value).toArray kh) :: (S, instObj 381 SD) :: (SD, dictOf es ns) :: (A, instObj 541 AD) :: (AD, dictOf ea na) :: news))
  (hA : AIs ea S CD 0 (-1) (-1) (-1) u1 u2 u3 u4) (hS : SIs es HL KL TR 0 0 v1 v2 v3) (ord : AD < A ∧ A < SD ∧ SD < S ∧ S < HL ∧ HL < KL ∧ KL < TR)
  (k : ∀ (S SD HL KL TR : Nat) ea na es ns kh kk kt u1 u2 u3 u4 v1 v2 v3, News h₀ L h ((A, instObj 541 AD) :: (AD, dictOf ea na) :: (S, instObj 381 SD) :: (SD, dictOf es ns) :: (HL, listOf ([] : List Value).toArray kh) :: (KL, listOf ([] : List Value).toArray kk) :: (TR, listOf ([] : List Value).toArray kt) :: news) → AIs ea S CD 0 (-1) (-1) (-1) u1 u2 u3 u4 → SIs es HL KL TR 0 0 v1 v2 v3 → (AD < A ∧ A < SD ∧ SD < S ∧ S < HL ∧ HL < KL ∧ KL < TR) → R) : R := by
  refine k S SD HL KL TR ea na es ns kh kk kt u1 u2 u3 u4 v1 v2 v3 (news_sub N ?_) hA hS ord
  ((repeat (first | (refine sub_cons 0 rfl ?_) | (refine sub_cons 1 rfl ?_) | (refine sub_cons 2 rfl ?_) | (refine sub_cons 3 rfl ?_) | (refine sub_cons 4 rfl ?_) | (refine sub_cons 5 rfl ?_) | (refine sub_cons 6 rfl ?_) | (refine sub_cons 7 rfl ?_) | (refine sub_cons 8 rfl ?_) | (refine sub_cons 9 rfl ?_) | (refine sub_cons 10 rfl ?_) | (refine sub_cons 11 rfl ?_))); (first | exact sub_nil | exact sub_drop 0 rfl | exact sub_drop 1 rfl | exact sub_drop 2 rfl | exact sub_drop 3 rfl | exact sub_drop 4 rfl | exact sub_drop 5 rfl | exact sub_drop 6 rfl | exact sub_drop 7 rfl | exact sub_drop 8 rfl | exact sub_drop 9 rfl | exact sub_drop 10 rfl | exact sub_drop 11 rfl))
set_option maxHeartbeats 8000000 in
theorem c_areas {w : World} {mean : ExcName → Option Value} {mg mb : Str → Option Value} {dp un : Nat} {gd : Option (List Code)} {cn : Str} {cs : Scope} {a : Addr} {ccd : Value} {cl : List (Str × Addr)} {outer : List Env} {A₀ : Around} {base h₀ : Heap} {L : Addr} {m : Str → Option Value} {s : Shared} {Q E : Value → Shared → Prop} {news : List (Addr × Obj)} {q CD : Nat}
  (B : Below A₀ base outer h₀) (F : Fr h₀ L s.heap m) (X : (K0 w.params).In h₀) (N : News h₀ L s.heap news) (T : TopL mean mg mb h₀) (hk : cs.kind = .function) (hdp : dp + 12 < recursionLimit) (hun : un + 96 < cLine)
  (hret : ∀ h' tk' (A AD S SD HL KL TR : Nat) ea na es ns kh kk kt u1 u2 u3 u4 v1 v2 v3, Fr h₀ L h' m → News h₀ L h' ((A, instObj 541 AD) :: (AD, dictOf ea na) :: (S, instObj 381 SD) :: (SD, dictOf es ns) :: (HL, listOf ([] : List Value).toArray kh) :: (KL, listOf ([] : List Value).toArray kk) :: (TR, listOf ([] : List Value).toArray kt) :: news) → AIs ea S CD 0 (-1) (-1) (-1) u1 u2 u3 u4 → SIs es HL KL TR 0 0 v1 v2 v3 → (∀ p ∈ news, p.1 < AD) → (AD < A ∧ A < SD ∧ SD < S ∧ S < HL ∧ HL < KL ∧ KL < TR) → Q (.ref A) { s with heap := h', toks := tk' }) :
   wpAny (model PySem.Challenge.rw_rh0105_01.row.prog w) (ktrTop dp un gd cn cs L a ccd cl outer) (call (.ref 541) [.ref q, .ref CD]) Q E s := by
  k_dflt (refine' call_cls ?k1 ?k2 ?k3 ?k4 ?k5 ?k6 ?_; (case k1 => k_asm); (case k2 => k_asm); (case k3 => k_asm); (case k4 => k_is); (case k5 => k_is); (case k6 => k_is))
  intro (x : Nat) (dx : Nat) h1 F1 N1 l1 l2
  clear N F
  k_lt2 l2
  have l9 := l1
  have offd : ∀ p ∈ news, p.1 ≠ dx := fun p hp => Nat.ne_of_lt (l1 p hp)
  k_dflt (walk_at "My in")
  k_steps
  rename News h₀ _ _ _ => N9
  k_dflt (refine' areas_end N9 ?hA ?hS ?ord ?k)
  case ord => omega
  case hA => exact ⟨by k_get, by k_get, by k_get, by k_get, by k_get, by k_get, by k_get, by k_get, by k_get, by k_get, by k_get, by k_get, by k_get, Nat.le_trans (Att.len (by with_reducible assumption)) (Nat.le_of_ble_eq_true rfl)⟩
  case hS => exact ⟨by k_get, by k_get, by k_get, by k_get, by k_get, by k_get, by k_get, by k_get, by k_get, by k_get, by k_get, Nat.le_trans (Att.len (by with_reducible assumption)) (Nat.le_of_ble_eq_true rfl)⟩
  case k =>
    intro S SD HL KL TR ea na es ns kh kk kt u1 u2 u3 u4 v1 v2 v3 N8 hA8 hS8 ord8
    exact hret _ _ x dx S SD HL KL TR ea na es ns kh kk kt u1 u2 u3 u4 v1 v2 v3 (by assumption) N8 hA8 hS8 l9 ord8


end
section
theorem noneD1 : True := by
  k_with_none
  trivial
theorem seg_eq {ks ks' : List Value} {n m : Nat} (h : ∀ j, n ≤ j → j < n + m → ks'[j]? = ks[j]?) : (ks'.drop n).take m = (ks.drop n).take m := by
  refine List.ext_getElem? fun j => ?_
  rw [List.getElem?_take, List.getElem?_take]
  split
  · rw [List.getElem?_drop, List.getElem?_drop, h _ (by omega) (by omega)]
  · rfl
theorem seg_is {ks vs : List Value} {n : Nat} (h : ∀ j, j < vs.length → ks[n + j]? = vs[j]?) : (ks.drop n).take vs.length = vs := by
  refine List.ext_getElem? fun j => ?_
  rw [List.getElem?_take]
  split
  · rw [List.getElem?_drop, h j (by assumption)]
  · rw [List.getElem?_eq_none (by omega)]
theorem get_below {ks vals : List Value} {pl : Int} {j : Nat} (h0 : 0 ≤ pl) (h1 : pl ≤ ks.length) (hj : (j : Int) < pl) : (putSeq ks pl vals)[j]? = ks[j]? := by
  rw [get_putSeq vals ks pl h0 h1, if_neg (by omega)]
theorem get_in {ks vals : List Value} {pl : Int} {j : Nat} (h0 : 0 ≤ pl) (h1 : pl ≤ ks.length) (hj : j < vals.length) : (putSeq ks pl vals)[pl.toNat + j]? = vals[j]? := by
  rw [get_putSeq vals ks pl h0 h1, if_pos (by omega)]
  congr 1; omega
section
variable {tl tl' : List (Addr × Obj)} {kvs kvs' : List (Int × Value)} {ks ks' : List Value} {x hb pl : Int} {T9 G En kg ke : Nat} {evs gs : List Value} {e7 : List Int} {cnt : Int} {ct : Tok}
theorem KeptAt.mono (K : KeptAt tl kvs ks x hb T9 G En kg ke evs gs e7 cnt ct) (hs : ∀ p ∈ tl, p ∈ tl') : KeptAt tl' kvs ks x hb T9 G En kg ke evs gs e7 cnt ct := by
  obtain ⟨a1, a2, a3, a4, a5, a6, a7, a8, a9, a10, a11, a12, a13⟩ := K
  exact ⟨a1, hs _ a2, hs _ a3, hs _ a4, a5, a6, a7, a8, a9, a10, a11, a12, a13⟩
theorem KeptAt.keep (K : KeptAt tl kvs ks x hb T9 G En kg ke evs gs e7 cnt ct) (hx : 0 ≤ x) (hp : x + (gs.length : Int) + 8 ≤ pl) (hl : ks.length ≤ ks'.length) (hg : ∀ j : Nat, (j : Int) < pl → ks'[j]? = ks[j]?) (hkv : valueAt kvs' x = valueAt kvs x) : KeptAt tl kvs' ks' x hb T9 G En kg ke evs gs e7 cnt ct := by
  obtain ⟨a1, a2, a3, a4, a5, a6, a7, a8, a9, a10, a11, a12, a13⟩ := K
  refine ⟨hkv.trans a1, a2, a3, a4, a5, a6, a7, a8, (hg _ (by omega)).trans a9, a10, (seg_eq fun j h1 h2 => hg j (by omega)).trans a11, by omega, fun i h1 h2 => ?_⟩
  obtain ⟨t, ht⟩ := a13 i h1 h2
  exact ⟨t, (hg _ (by omega)).trans ht⟩
end
theorem kept_new {tl : List (Addr × Obj)} {kvs : List (Int × Value)} {ks evs gs : List Value} {pl e cp b o tn hn b0 : Int} {T9 G En kg ke : Nat} {t1 t2 t3 ot u1 u2 u3 u4 : Tok} (hp0 : 0 ≤ pl) (hp1 : pl ≤ ks.length)
   (kv : valueAt kvs pl = some (.ref T9)) (t9 : (T9, ({ cls := .type "tuple", data := .seq ([.ref G, .ref En] : List Value).toArray 0 } : Obj)) ∈ tl) (g : (G, listOf gs.toArray kg) ∈ tl) (en : (En, listOf evs.toArray ke) ∈ tl) (ei : IntsAre evs [e, cp, b, o, tn, hn, b0]) (g2 : gs.length ≤ 2) :
   KeptAt tl kvs (putSeq ks pl (.int (gs.length : Int) t1 :: (gs ++ [.int e u2, .int cp u1, .int b u3, .int o ot, .int tn t2, .int hn t3, .int b0 u4]))) pl hn T9 G En kg ke evs gs [e, cp, b, o, tn, hn, b0] (gs.length : Int) t1 := by
  have hL : (Value.int (gs.length : Int) t1 :: (gs ++ [Value.int e u2, .int cp u1, .int b u3, .int o ot, .int tn t2, .int hn t3, .int b0 u4])).length = gs.length + 8 := by simp
  refine ⟨kv, t9, g, en, ei, rfl, g2, rfl, ?_, rfl, ?_, ?_, ?_⟩
  · have := get_in (vals := Value.int (gs.length : Int) t1 :: (gs ++ [Value.int e u2, .int cp u1, .int b u3, .int o ot, .int tn t2, .int hn t3, .int b0 u4])) (j := 0) hp0 hp1 (by omega)
    simpa using this
  · refine seg_is (vs := Value.int (gs.length : Int) t1 :: gs) fun j hj => ?_
    rw [List.length_cons] at hj
    rw [get_in hp0 hp1 (by omega)]
    cases j with
    | zero => rfl
    | succ j => rw [List.getElem?_cons_succ, List.getElem?_cons_succ, List.getElem?_append_left (by omega)]
  · rw [length_putSeq _ _ _ hp0 hp1, hL]; omega
  · intro i h1 h2
    have e1 : (pl + (gs.length : Int) + i).toNat = pl.toNat + (gs.length + (i.toNat - 1) + 1) := by omega
    rw [e1, get_in hp0 hp1 (by omega), List.getElem?_cons_succ, List.getElem?_append_right (by omega)]
    have e2 : gs.length + (i.toNat - 1) - gs.length = i.toNat - 1 := by omega
    have e3 : (i - 1).toNat = i.toNat - 1 := by omega
    rw [e2, e3]
    obtain ⟨k, hk⟩ : ∃ k, i.toNat - 1 = k := ⟨_, rfl⟩
    rw [hk]
    have hk7 : k < 7 := by omega
    match k, hk7 with
    | 0, _ => exact ⟨_, rfl⟩
    | 1, _ => exact ⟨_, rfl⟩
    | 2, _ => exact ⟨_, rfl⟩
    | 3, _ => exact ⟨_, rfl⟩
    | 4, _ => exact ⟨_, rfl⟩
    | 5, _ => exact ⟨_, rfl⟩
    | 6, _ => exact ⟨_, rfl⟩
theorem Chain.keep {ks ks' : List Value} {pl : Int} (hg : ∀ j : Nat, (j : Int) < pl → ks'[j]? = ks[j]?) : ∀ {b : Int} {l : List Int}, Chain ks b l → (∀ x ∈ l, ∀ cnt ct, ks[x.toNat]? = some (.int cnt ct) → x + cnt + 8 ≤ pl) → Chain ks' b l
  | _, _, .nil h, _ => .nil h
  | b, _, .cons (cnt := cnt) (ct := ct) h0 h1 h2 h3 h4 h5 h6, hl => by
    have h7 := hl b (.head _) cnt ct h4
    exact .cons h0 h1 h2 h3 ((hg _ (by omega)).trans h4) ((hg _ (by omega)).trans h5) (Chain.keep hg h6 fun x hx => hl x (.tail _ hx))
theorem Chain.suffix {ks : List Value} {x : Int} : ∀ {b : Int} {l : List Int}, Chain ks b l → l.Pairwise (· > ·) → x ∈ l → Chain ks x (l.filter fun y => decide (y ≤ x))
  | _, _, .nil _, _, hx => nomatch hx
  | b, _, .cons (cs := cs) h0 h1 h2 h3 h4 h5 h6, hp, hx => by
    rcases List.mem_cons.mp hx with rfl | hx
    · have : List.filter (fun y => decide (y ≤ x)) (x :: cs) = x :: cs := List.filter_eq_self.mpr fun y hy => by
        rcases List.mem_cons.mp hy with rfl | hy
        · simp
        · have := (List.pairwise_cons.mp hp).1 y hy
          simp; omega
      rw [this]
      exact .cons h0 h1 h2 h3 h4 h5 h6
    · have h7 : b > x := (List.pairwise_cons.mp hp).1 x hx
      rw [List.filter_cons, if_neg (by simp; omega)]
      exact Chain.suffix h6 (List.pairwise_cons.mp hp).2 hx
theorem Chain.head {ks : List Value} {b : Int} {l : List Int} (h : Chain ks b l) : (b < 0 ∧ l = []) ∨ (0 ≤ b ∧ ∃ r, l = b :: r) := by
  cases h with
  | nil h => exact .inl ⟨h, rfl⟩
  | cons h0 => exact .inr ⟨h0, _, rfl⟩


end
section
theorem noneD2 : True := by
  k_with_none
  trivial
theorem stored_same (kvs : List (Int × Value)) (k : Int) (v : Value) : valueAt (stored kvs k v) k = some v := by
  unfold valueAt stored
  split
  · rename_i h
    induction kvs with
    | nil => simp at h
    | cons a r ih =>
      rw [List.map_cons, List.find?_cons]
      by_cases e : a.1 = k
      · simp [e]
      · have h' : (r.any fun kv => decide (kv.1 = k)) = true := by
          rw [List.any_cons] at h
          simpa [e] using h
        simp only [e, if_false, decide_false]
        exact ih h'
  · rename_i h
    rw [List.find?_append]
    have : List.find? (fun kv => decide (kv.1 = k)) kvs = none := by
      rw [List.find?_eq_none]
      intro x hx hc
      exact h (List.any_eq_true.mpr ⟨x, hx, hc⟩)
    rw [this]; simp
theorem stored_other (kvs : List (Int × Value)) (k k' : Int) (v : Value) (hn : k' ≠ k) : valueAt (stored kvs k v) k' = valueAt kvs k' := by
  unfold valueAt stored
  split
  · congr 1
    rename_i h
    clear h
    induction kvs with
    | nil => rfl
    | cons a r ih =>
      rw [List.map_cons, List.find?_cons, List.find?_cons]
      by_cases e : a.1 = k
      · have e' : a.1 ≠ k' := fun q => hn (q.symm.trans e)
        rw [if_pos e]
        simp only [e', decide_false]
        exact ih
      · rw [if_neg e]
        cases hd : decide (a.1 = k') with
        | true => rfl
        | false => exact ih
  · rw [List.find?_append]
    have : List.find? (fun kv : Int × Value => decide (kv.1 = k')) [(k, v)] = none := by
      simp; exact fun e => hn e.symm
    rw [this, Option.or_none]
theorem stored_length (kvs : List (Int × Value)) (k : Int) (v : Value) : (stored kvs k v).length ≤ kvs.length + 1 := by
  unfold stored
  split <;> simp
set_option genInjectivity false in
set_option genSizeOf false in
structure St where
  (ea es : List DictEntry) (na ns kh kk kt : Nat) (hs ks ts : List Value) (cp e b b0 hb bb : Int) (u1 u2 u3 u4 v1 v2 v3 : Tok)
  (ps : List Value) (pn : List Int) (kp : Nat) (ok : Obj) (kvs : List (Int × Value)) (ls : List Value) (ln : List Int) (kl : Nat)
  (x z : Int) (tx tz : Tok) (ku : Nat) (cnt : Int) (ct tb tt : Tok) (xs : List (Addr × Obj))
def KeptX (xs : List (Addr × Obj)) (kvs : List (Int × Value)) (ks : List Value) (x hb lim : Int) : Prop :=
  ∃ T9 G En kg ke evs gs e7 cnt ct, KeptAt xs kvs ks x hb T9 G En kg ke evs gs e7 cnt ct ∧ x + (gs.length : Int) ≤ lim
structure Inv (w : World) (S CD HL KL TR : Nat) (i : Nat) (c : St) : Prop where
  hA : AIs c.ea S CD c.cp c.e c.b c.b0 c.u1 c.u2 c.u3 c.u4
  hS : SIs c.es HL KL TR c.hb c.bb c.v1 c.v2 c.v3
  cp12 : c.cp = 1 ∨ c.cp = 2
  lh : c.hs.length ≤ i
  lk : c.ks.length ≤ 10 * i
  lt : c.ts.length ≤ i
  ll : c.ln.length ≤ i
  lp : c.pn.length ≤ i
  lv : c.kvs.length ≤ i
  e1 : -1 ≤ c.e
  e2 : 0 ≤ c.e → c.e + 4 ≤ c.ks.length
  b1 : -1 ≤ c.b
  ct0 : 0 ≤ c.b → c.ks[c.b.toNat]? = some (.int c.cnt c.ct)
  ct1 : 0 ≤ c.b → 0 ≤ c.cnt ∧ c.cnt ≤ 2
  ct2 : 0 ≤ c.b → c.b + c.cnt + 8 ≤ c.ks.length
  ct3 : 0 ≤ c.b → c.b < c.e → c.b + c.cnt + 8 ≤ c.e
  bn : c.b < 0 → c.hb = 0 ∧ c.bb = 0
  bp : 0 ≤ c.b → c.bb = c.b
  hb0 : 0 ≤ c.hb ∧ c.hb ≤ c.hs.length
  pi : IntsAre c.ps c.pn
  li : IntsAre c.ls c.ln
  lr : ∀ a ∈ c.ln, 0 ≤ a ∧ a < c.hs.length
  ch : Chain c.ks c.b c.pn.reverse
  up : c.pn.Pairwise (· < ·)
  kd : c.ok.IsDictOf (PySem.intKind PySem.Challenge.rw_rh0105_01.row.prog w) c.kvs
  ke : ∀ x ∈ c.pn, 0 ≤ x ∧ x ≤ c.b ∧ ∃ hb', KeptX c.xs c.kvs c.ks x hb' (c.b + c.cnt) ∧ (x = c.b → hb' = c.hb)
  ur : 0 ≤ c.x ∧ 0 ≤ c.z ∧ c.z ≤ 100
theorem KeptX.keep {xs xs' : List (Addr × Obj)} {kvs kvs' : List (Int × Value)} {ks ks' : List Value} {x hb lim lim' pl : Int} (K : KeptX xs kvs ks x hb lim) (hx : 0 ≤ x) (hp : lim + 8 ≤ pl) (hl : ks.length ≤ ks'.length) (hg : ∀ j : Nat, (j : Int) < pl → ks'[j]? = ks[j]?) (hkv : valueAt kvs' x = valueAt kvs x) (hs : ∀ p ∈ xs, p ∈ xs') (hm : lim ≤ lim') : KeptX xs' kvs' ks' x hb lim' := by
  obtain ⟨T9, G, En, kg, ke, evs, gs, e7, cnt, ct, k, hle⟩ := K
  exact ⟨T9, G, En, kg, ke, evs, gs, e7, cnt, ct, (k.keep hx (by omega) hl hg hkv).mono hs, by omega⟩
theorem KeptX.mono {xs xs' : List (Addr × Obj)} {kvs : List (Int × Value)} {ks : List Value} {x hb lim : Int} (K : KeptX xs kvs ks x hb lim) (hs : ∀ p ∈ xs, p ∈ xs') : KeptX xs' kvs ks x hb lim := by
  obtain ⟨T9, G, En, kg, ke, evs, gs, e7, cnt, ct, k, hle⟩ := K
  exact ⟨T9, G, En, kg, ke, evs, gs, e7, cnt, ct, k.mono hs, hle⟩
section
variable {w : World} {S CD HL KL TR i : Nat} {c : St}
theorem Inv.top (I : Inv w S CD HL KL TR i c) : 0 ≤ topV c.e c.b c.cp c.cnt ∧ topV c.e c.b c.cp c.cnt ≤ c.ks.length ∧ (0 ≤ c.b → c.b + c.cnt + 8 ≤ topV c.e c.b c.cp c.cnt) := by
  have h1 := I.e1
  have h2 := I.e2
  have h3 := I.b1
  have h4 := I.ct2
  have h5 := I.ct3
  have h6 := I.ct1
  have h7 := I.cp12
  unfold topV
  split
  · omega
  · split <;> omega
theorem Inv.under (I : Inv w S CD HL KL TR i c) (vals : List Value) (xs' : List (Addr × Obj)) (kvs' : List (Int × Value)) (hs : ∀ p ∈ c.xs, p ∈ xs') (hkv : ∀ x ∈ c.pn, valueAt kvs' x = valueAt c.kvs x) :
    Chain (putSeq c.ks (topV c.e c.b c.cp c.cnt) vals) c.b c.pn.reverse ∧ (∀ x ∈ c.pn, 0 ≤ x ∧ x ≤ c.b ∧ ∃ hb', KeptX xs' kvs' (putSeq c.ks (topV c.e c.b c.cp c.cnt) vals) x hb' (c.b + c.cnt) ∧ (x = c.b → hb' = c.hb)) := by
  obtain ⟨t0, t1, t2⟩ := I.top
  have hg : ∀ j : Nat, (j : Int) < topV c.e c.b c.cp c.cnt → (putSeq c.ks (topV c.e c.b c.cp c.cnt) vals)[j]? = c.ks[j]? := fun j hj => get_below t0 t1 hj
  have hl : c.ks.length ≤ (putSeq c.ks (topV c.e c.b c.cp c.cnt) vals).length := by rw [length_putSeq _ _ _ t0 t1]; omega
  refine ⟨I.ch.keep hg ?_, ?_⟩
  · intro x hx cnt ct hc
    have hx := List.mem_reverse.mp hx
    obtain ⟨h0, h1, hb', ⟨T9, G, En, kg, ke, evs, gs, e7, cnt', ct', k, hle⟩, _⟩ := I.ke x hx
    have h2 := k.c0
    rw [hc] at h2
    have h3 : cnt = cnt' := by injection h2 with h2; injection h2
    have h4 := k.cg
    have := t2 (by omega)
    omega
  · intro x hx
    obtain ⟨h0, h1, hb', k, he⟩ := I.ke x hx
    have := t2 (by omega)
    exact ⟨h0, h1, hb', k.keep h0 this hl hg (hkv x hx) hs (Int.le_refl _), he⟩
theorem Inv.var (I : Inv w S CD HL KL TR i c) {v : Value} {kh' kl' : Nat} {t : Tok} {x z : Int} {tx tz : Tok} {ku : Nat} {own : List (Addr × Obj)} (hu : 0 ≤ x ∧ 0 ≤ z ∧ z ≤ 100) :
    Inv w S CD HL KL TR (i + 1) { c with hs := c.hs ++ [v], kh := kh', ls := c.ls ++ [.int (c.hs.length : Int) t], ln := c.ln ++ [(c.hs.length : Int)], kl := kl', x := x, z := z, tx := tx, tz := tz, ku := ku } := by
  have h1 := I.lh; have h2 := I.lk; have h3 := I.lt; have h4 := I.ll; have h5 := I.lp; have h6 := I.hb0; have h7 := I.lv
  refine ⟨I.hA, I.hS, I.cp12, ?_, ?_, ?_, ?_, ?_, ?_, I.e1, I.e2, I.b1, I.ct0, I.ct1, I.ct2, I.ct3, I.bn, I.bp, ?_, I.pi, ?_, ?_, I.ch, I.up, I.kd, I.ke, hu⟩
  all_goals dsimp only
  · simp; omega
  · omega
  · omega
  · simp; omega
  · omega
  · omega
  · simp; omega
  · exact I.li.append (.cons _ _ .nil)
  · intro a ha
    rw [List.length_append, List.length_singleton]
    rcases List.mem_append.mp ha with ha | ha
    · have := I.lr a ha; omega
    · rw [List.mem_singleton.mp ha]; omega
theorem Inv.bound (I : Inv w S CD HL KL TR i c) {v : Value} {r : List Value} {rn : List Int} {a : Int} {ta : Tok} {kh' kl' kt' : Nat} {ts' : List Value} {x z : Int} {tx tz : Tok} {ku : Nat} {hs' : List Value} (hu : 0 ≤ x ∧ 0 ≤ z ∧ z ≤ 100)
    (hl : c.ls = .int a ta :: r) (hn : c.ln = a :: rn) (hh : hs'.length = c.hs.length) (ht : ts'.length ≤ c.ts.length + 1) {tt : Tok} :
    Inv w S CD HL KL TR (i + 1) { c with hs := hs', kh := kh', ls := r, ln := rn, kl := kl', ts := ts', kt := kt', tt := tt, x := x, z := z, tx := tx, tz := tz, ku := ku } := by
  have h1 := I.lh; have h2 := I.lk; have h3 := I.lt; have h4 := I.ll; have h5 := I.lp; have h6 := I.hb0; have h7 := I.lv
  have hli := I.li
  rw [hl, hn] at hli
  rw [hn] at h4
  rw [List.length_cons] at h4
  refine ⟨I.hA, I.hS, I.cp12, ?_, ?_, ?_, ?_, ?_, ?_, I.e1, I.e2, I.b1, I.ct0, I.ct1, I.ct2, I.ct3, I.bn, I.bp, ?_, I.pi, ?_, ?_, I.ch, I.up, I.kd, I.ke, hu⟩
  all_goals dsimp only
  · omega
  · omega
  · omega
  · omega
  · omega
  · omega
  · omega
  · cases hli with | cons _ _ h => exact h
  · intro b hb
    have := I.lr b (hn ▸ .tail _ hb)
    omega
theorem Inv.barrier (I : Inv w S CD HL KL TR i c) {ea' : List DictEntry} {na' : Nat} {u : Tok} {x z : Int} {tx tz : Tok} {ku : Nat} (hu : 0 ≤ x ∧ 0 ≤ z ∧ z ≤ 100) {b0' : Int} (hA : AIs ea' S CD c.cp c.e c.b b0' c.u1 c.u2 c.u3 u) :
    Inv w S CD HL KL TR (i + 1) { c with ea := ea', na := na', b0 := b0', u4 := u, x := x, z := z, tx := tx, tz := tz, ku := ku } := by
  have h1 := I.lh; have h2 := I.lk; have h3 := I.lt; have h4 := I.ll; have h5 := I.lp; have h6 := I.hb0; have h7 := I.lv
  refine ⟨hA, I.hS, I.cp12, ?_, ?_, ?_, ?_, ?_, ?_, I.e1, I.e2, I.b1, I.ct0, I.ct1, I.ct2, I.ct3, I.bn, I.bp, I.hb0, I.pi, I.li, I.lr, I.ch, I.up, I.kd, I.ke, hu⟩
  all_goals dsimp only
  all_goals omega
theorem Inv.urn (I : Inv w S CD HL KL TR i c) {x z : Int} {tx tz : Tok} {ku : Nat} (hu : 0 ≤ x ∧ 0 ≤ z ∧ z ≤ 100) : Inv w S CD HL KL TR i { c with x := x, z := z, tx := tx, tz := tz, ku := ku } := by
  obtain ⟨a1, a2, a3, a4, a5, a6, a7, a8, a9, a10, a11, a12, a13, a14, a15, a16, a17, a18, a19, a20, a21, a22, a23, a24, a25, a26, _⟩ := I
  exact ⟨a1, a2, a3, a4, a5, a6, a7, a8, a9, a10, a11, a12, a13, a14, a15, a16, a17, a18, a19, a20, a21, a22, a23, a24, a25, a26, hu⟩
theorem Inv.setcp (I : Inv w S CD HL KL TR i c) {ea' : List DictEntry} {na' : Nat} {u : Tok} {cp' : Int} (h : cp' = 1 ∨ cp' = 2) (hA : AIs ea' S CD cp' c.e c.b c.b0 u c.u2 c.u3 c.u4) : Inv w S CD HL KL TR i { c with ea := ea', na := na', cp := cp', u1 := u } := by
  obtain ⟨a1, a2, a3, a4, a5, a6, a7, a8, a9, a10, a11, a12, a13, a14, a15, a16, a17, a18, a19, a20, a21, a22, a23, a24, a25, a26, a27⟩ := I
  exact ⟨hA, a2, h, a4, a5, a6, a7, a8, a9, a10, a11, a12, a13, a14, a15, a16, a17, a18, a19, a20, a21, a22, a23, a24, a25, a26, a27⟩
theorem Inv.env (I : Inv w S CD HL KL TR i c) {ea' : List DictEntry} {na' kk' : Nat} {u : Tok} {vals : List Value} (hv : vals.length = 4) (hA : AIs ea' S CD c.cp (topV c.e c.b c.cp c.cnt) c.b c.b0 c.u1 u c.u3 c.u4) :
    Inv w S CD HL KL TR (i + 1) { c with ea := ea', na := na', e := topV c.e c.b c.cp c.cnt, u2 := u, ks := putSeq c.ks (topV c.e c.b c.cp c.cnt) vals, kk := kk' } := by
  obtain ⟨t0, t1, t2⟩ := I.top
  obtain ⟨q1, q2⟩ := I.under vals c.xs c.kvs (fun _ h => h) (fun _ _ => rfl)
  have hL := length_putSeq vals _ _ t0 t1
  have h1 := I.lh; have h2 := I.lk; have h3 := I.lt; have h4 := I.ll; have h5 := I.lp; have h6 := I.hb0; have h7 := I.lv
  rw [hv] at hL
  refine ⟨hA, I.hS, I.cp12, ?_, ?_, ?_, ?_, ?_, ?_, ?_, ?_, I.b1, ?_, I.ct1, ?_, ?_, I.bn, I.bp, I.hb0, I.pi, I.li, I.lr, q1, I.up, I.kd, q2, I.ur⟩
  all_goals dsimp only
  · omega
  · rw [hL]; omega
  · omega
  · omega
  · omega
  · omega
  · omega
  · intro _; rw [hL]; omega
  · intro hb
    have h8 := t2 hb
    have h9 := I.ct1 hb
    rw [get_below t0 t1 (by omega)]
    exact I.ct0 hb
  · intro hb
    have := I.ct2 hb
    rw [hL]; omega
  · intro hb _
    exact t2 hb
theorem Inv.push (I : Inv w S CD HL KL TR i c) {ea' es' : List DictEntry} {na' ns' kk' kp' kg ke T9 G En : Nat} {o : Int} {ot t1 t2 t3 tb' u3' v1' v2' u9 : Tok} {gs evs : List Value} {ok' : Obj} {xs' : List (Addr × Obj)}
    (hA : AIs ea' S CD c.cp c.e (topV c.e c.b c.cp c.cnt) c.b0 c.u1 c.u2 u3' c.u4) (hS : SIs es' HL KL TR (c.hs.length : Int) (topV c.e c.b c.cp c.cnt) v1' v2' c.v3)
    (hi : i ≤ 9) (hg2 : gs.length ≤ 2) (hxs : ∀ p ∈ c.xs, p ∈ xs') (t9 : (T9, ({ cls := .type "tuple", data := .seq ([.ref G, .ref En] : List Value).toArray 0 } : Obj)) ∈ xs') (g : (G, listOf gs.toArray kg) ∈ xs') (en : (En, listOf evs.toArray ke) ∈ xs')
    (ei : IntsAre evs [c.e, c.cp, c.b, o, (c.ts.length : Int), (c.hs.length : Int), c.b0]) (hd : ok'.IsDictOf (PySem.intKind PySem.Challenge.rw_rh0105_01.row.prog w) (stored c.kvs (topV c.e c.b c.cp c.cnt) (.ref T9))) :
    Inv w S CD HL KL TR (i + 1) { c with ea := ea', na := na', es := es', ns := ns', b := topV c.e c.b c.cp c.cnt, hb := (c.hs.length : Int), bb := topV c.e c.b c.cp c.cnt, u3 := u3', v1 := v1', v2 := v2', cnt := (gs.length : Int), ct := t1, ks := putSeq c.ks (topV c.e c.b c.cp c.cnt) (.int (gs.length : Int) t1 :: (gs ++ [.int c.e c.u2, .int c.cp c.u1, .int c.b c.u3, .int o ot, .int (c.ts.length : Int) t2, .int (c.hs.length : Int) t3, .int c.b0 c.u4])), kk := kk', ps := c.ps ++ [.int (topV c.e c.b c.cp c.cnt) u9], pn := c.pn ++ [topV c.e c.b c.cp c.cnt], kp := kp', ok := ok', kvs := stored c.kvs (topV c.e c.b c.cp c.cnt) (.ref T9), tb := tb', xs := xs' } := by
  obtain ⟨t0, t1', t2'⟩ := I.top
  have hle : ∀ x ∈ c.pn, x < topV c.e c.b c.cp c.cnt := fun x hx => by
    have h := I.ke x hx
    have h8 := t2' (by omega)
    have h9 := I.ct1 (by omega)
    omega
  obtain ⟨q1, q2⟩ := I.under (.int (gs.length : Int) t1 :: (gs ++ [.int c.e c.u2, .int c.cp c.u1, .int c.b c.u3, .int o ot, .int (c.ts.length : Int) t2, .int (c.hs.length : Int) t3, .int c.b0 c.u4])) xs' (stored c.kvs (topV c.e c.b c.cp c.cnt) (.ref T9)) hxs (fun x hx => stored_other _ _ _ _ (by have := hle x hx; omega))
  have hL := length_putSeq (.int (gs.length : Int) t1 :: (gs ++ [.int c.e c.u2, .int c.cp c.u1, .int c.b c.u3, .int o ot, .int (c.ts.length : Int) t2, .int (c.hs.length : Int) t3, .int c.b0 c.u4])) _ _ t0 t1'
  have h1 := I.lh; have h2 := I.lk; have h3 := I.lt; have h4 := I.ll; have h5 := I.lp; have h6 := I.hb0; have h7 := I.lv; have h8 := I.e1; have h9 := I.e2; have h10 := I.b1
  rw [show (Value.int (gs.length : Int) t1 :: (gs ++ [Value.int c.e c.u2, .int c.cp c.u1, .int c.b c.u3, .int o ot, .int (c.ts.length : Int) t2, .int (c.hs.length : Int) t3, .int c.b0 c.u4])).length = gs.length + 8 by simp] at hL
  have K := kept_new (tl := xs') (ks := c.ks) (kvs := stored c.kvs (topV c.e c.b c.cp c.cnt) (.ref T9)) (t1 := t1) (t2 := t2) (t3 := t3) (ot := ot) (u1 := c.u1) (u2 := c.u2) (u3 := c.u3) (u4 := c.u4) t0 t1' (stored_same _ _ _) t9 g en ei hg2
  have hsl := stored_length c.kvs (topV c.e c.b c.cp c.cnt) (.ref T9)
  refine ⟨hA, hS, I.cp12, ?_, ?_, ?_, ?_, ?_, ?_, ?_, ?_, ?_, ?_, ?_, ?_, ?_, ?_, ?_, ?_, ?_, I.li, I.lr, ?_, ?_, hd, ?_, I.ur⟩
  all_goals dsimp only
  · omega
  · rw [hL]; omega
  · omega
  · omega
  · simp; omega
  · omega
  · omega
  · intro _; rw [hL]; omega
  · omega
  · intro _; exact K.c0
  · intro _; omega
  · intro _; rw [hL]; omega
  · intro _ h; exfalso; have h13 := I.ct1; have h14 := I.cp12; revert h; unfold topV; (repeat' split) <;> omega
  · intro h; omega
  · intro _; rfl
  · omega
  · exact I.pi.append (.cons _ _ .nil)
  · rw [List.reverse_append]
    obtain ⟨tt, htt⟩ := K.pt 3 (by omega) (by omega)
    exact .cons t0 (by omega) (by omega) (by omega) K.c0 htt q1
  · rw [List.pairwise_append]
    exact ⟨I.up, List.pairwise_singleton _ _, fun a ha b hb => by rw [List.mem_singleton.mp hb]; exact hle a ha⟩
  · intro x hx
    rcases List.mem_append.mp hx with hx | hx
    · obtain ⟨p1, p2, hb', p3, p4⟩ := q2 x hx
      have h11 := hle x hx
      have h12 := t2' (by omega)
      refine ⟨p1, by omega, hb', ?_, fun e => by omega⟩
      obtain ⟨T9', G', En', kg', ke', evs', gs', e7', cnt', ct', k, hle'⟩ := p3
      exact ⟨T9', G', En', kg', ke', evs', gs', e7', cnt', ct', k, by omega⟩
    · rw [List.mem_singleton.mp hx]
      exact ⟨t0, Int.le_refl _, _, ⟨T9, G, En, kg, ke, evs, gs, _, _, _, K, Int.le_refl _⟩, fun _ => rfl⟩
end


end
section
theorem noneD3 : True := by
  k_with_none
  trivial
section
variable {prog : Program} {w : World} {A : Around} {h₀ : Heap} {L : Addr} {m : Str → Option Value} {env : Env} {elt : Expr} {x : Str} {scope : Scope} {cl : List (Str × Addr)} {s : Shared} {S : List (Addr × Obj) → Prop} {Fin : List Value → List (Addr × Obj) → Prop}
theorem my_comp {σ : Type} {n : Nat} {a : Int} (Led : σ → List (Addr × Obj)) (P : Nat → List Value → σ → Prop) (c₀ : σ) (h0 : P 0 [] c₀)
    (turn : ∀ i t ys c I oI C oC D m₂ h tk (E' : Value → Shared → Prop), i < n → P i ys c → LCg.NsObj oC m₂ → m₂ x = some (.int (a + (i : Int)) t) → Fr h₀ L h m → News h₀ L h ((I, oI) :: (C, oC) :: (D, LCg.lst ys) :: Led c) → LCg.Off3 I C D (Led c) → ((@Ne Nat I C) ∧ (@Ne Nat I D) ∧ (@Ne Nat C D)) →
      wpAny (model prog w) A (eval elt (compEnvC scope cl C env)) (LCg.CompEnd h₀ L m { s with heap := h, toks := tk } I oI C oC D (LCg.lst ys) S (fun y news' => ∃ c', news' = Led c' ∧ P (i + 1) (ys ++ [y]) c')) E' { s with heap := h, toks := tk })
    (fin : ∀ ys c, P n ys c → Fin ys (Led c)) : LCg.CompRest prog w A h₀ L m env elt x scope cl s S (fun i v => ∃ t, v = .int (a + (i : Int)) t) Fin n 0 [] (Led c₀) := by
  have key : ∀ (j i : Nat) (ys : List Value) (c : σ), i + j = n → P i ys c → LCg.CompRest prog w A h₀ L m env elt x scope cl s S (fun i v => ∃ t, v = .int (a + (i : Int)) t) Fin j i ys (Led c) := by
    intro j
    induction j with
    | zero =>
      intro i ys c hi hp
      obtain rfl : i = n := by omega
      exact LCg.CompRest.zero (fin ys c hp)
    | succ j ih =>
      intro i ys c hi hp
      refine LCg.CompRest.succ fun v I oI C oC D m₂ h tk E' hv hC hx F N off ne => ?_
      obtain ⟨t, rfl⟩ := hv
      refine wpAny_mono (turn i t ys c I oI C oC D m₂ h tk E' (by omega) hp hC hx F N off ne) (fun y s₂ hq => ?_) fun _ _ e => e
      obtain ⟨h', tk', nw, e, F', N', off', hS, c', rfl, hp'⟩ := hq
      exact ⟨h', tk', _, e, F', N', off', hS, ih (i + 1) _ c' (by omega) hp'⟩
  exact key n 0 [] c₀ (by omega) h0
theorem my_src {Fin' : Shared → List Value → List (Addr × Obj) → Prop} {r : Addr} {b : Int} {t u v : Tok} {news : List (Addr × Obj)} {s₁ : Shared} (hh : A.handled = none) (F : Fr h₀ L s₁.heap m) (N : News h₀ L s₁.heap news) (hr : IsRange s₁.heap r 0 b 1 t u v) (h0 : 0 ≤ b) (h1 : b ≤ 100)
    (h : ∀ n : Nat, (n : Int) = b → ∀ g, LCg.CompRest prog w A h₀ L m env elt x scope cl { s₁ with heap := g } (fun _ => True) (fun i v => ∃ t, v = .int ((0 : Int) + (i : Int)) t) (Fin' { s₁ with heap := g }) n 0 [] news) :
    LCg.CompSrc prog w A h₀ L m env elt x scope cl Fin' (.ref r) s₁ := by
  obtain ⟨n, rfl⟩ : ∃ n : Nat, b = n := ⟨b.toNat, by omega⟩
  have hsz : Builtin.Range.rangeSize 0 (n : Int) 1 = (n : Int) := by
    have := rangeSize_nat 0 n
    simpa using this
  exact LCg.CompSrc.range (n := n) hh F N hr (small_one (by decide) (by decide) (by omega) (by omega)) hsz (by rw [sizeLine_eq]; omega) (h n rfl)
theorem my_compU {n : Nat} {a : Int} {UR UL : Nat} {x0 z0 : Int} {tx tz : Tok} {ku : Nat} {news : List (Addr × Obj)} {nf : Obj → List (Addr × Obj)} (U : UpdF UR (listOf ([.int x0 tx, .ref UL, .int z0 tz] : List Value).toArray ku) news nf) (hu : 0 ≤ x0 ∧ 0 ≤ z0 ∧ z0 ≤ 100)
    (turn : ∀ i t ys (x1 z1 : Int) (tx tz : Tok) (ku : Nat) (I : Addr) oI (C : Addr) oC (D : Addr) m₂ h tk (E' : Value → Shared → Prop), i < n → ys.length = i → 0 ≤ x1 → 0 ≤ z1 → z1 ≤ 100 → LCg.NsObj oC m₂ → m₂ x = some (.int (a + (i : Int)) t) → Fr h₀ L h m →
      News h₀ L h ((I, oI) :: (C, oC) :: (D, LCg.lst ys) :: nf (listOf ([.int x1 tx, .ref UL, .int z1 tz] : List Value).toArray ku)) → ((@Ne Nat I C) ∧ (@Ne Nat I D) ∧ (@Ne Nat C D)) → ((@Ne Nat UR I) ∧ (@Ne Nat UR C) ∧ (@Ne Nat UR D)) →
      wpAny (model prog w) A (eval elt (compEnvC scope cl C env)) (fun y s₂ => ∃ h' tk' x2 z2 tx' tz' ku' q, y = .ref q ∧ s₂ = { s with heap := h', toks := tk' } ∧ 0 ≤ x2 ∧ 0 ≤ z2 ∧ z2 ≤ 100 ∧ Fr h₀ L h' m ∧ News h₀ L h' ((I, oI) :: (C, oC) :: (D, LCg.lst ys) :: nf (listOf ([.int x2 tx', .ref UL, .int z2 tz'] : List Value).toArray ku'))) E' { s with heap := h, toks := tk })
    (fin : ∀ ys (x1 z1 : Int) (tx tz : Tok) (ku : Nat), ys.length = n → 0 ≤ x1 → 0 ≤ z1 → z1 ≤ 100 → Fin ys (nf (listOf ([.int x1 tx, .ref UL, .int z1 tz] : List Value).toArray ku))) :
    LCg.CompRest prog w A h₀ L m env elt x scope cl s (fun _ => True) (fun i v => ∃ t, v = .int (a + (i : Int)) t) Fin n 0 [] news := by
  obtain ⟨pre, post, e1, e2, _, _⟩ := U.split
  have e3 : news = nf (listOf ([.int x0 tx, .ref UL, .int z0 tz] : List Value).toArray ku) := e1.trans (e2 _).symm
  rw [e3]
  refine my_comp (σ := Int × Int × Tok × Tok × Nat) (fun d => nf (listOf ([.int d.1 d.2.2.1, .ref UL, .int d.2.1 d.2.2.2.1] : List Value).toArray d.2.2.2.2)) (fun i ys d => ys.length = i ∧ 0 ≤ d.1 ∧ 0 ≤ d.2.1 ∧ d.2.1 ≤ 100) (x0, z0, tx, tz, ku) ⟨rfl, hu.1, hu.2.1, hu.2.2⟩ ?_ ?_
  · rintro i t ys ⟨x1, z1, tx, tz, ku⟩ I oI C oC D m₂ h tk E' hi ⟨hl, h1, h2, h3⟩ hC hx F N off ne
    dsimp only at hl h1 h2 h3 N off ⊢
    have hUR := LCg.Off3.mem off (UR, listOf ([.int x1 tx, .ref UL, .int z1 tz] : List Value).toArray ku) (by rw [e2]; exact List.mem_append_right _ (.head _))
    refine wpAny_mono (turn i t ys x1 z1 tx tz ku I oI C oC D m₂ h tk E' hi hl h1 h2 h3 hC hx F N ne hUR) (fun y s₂ hq => ?_) fun _ _ e => e
    obtain ⟨h', tk', x2, z2, tx', tz', ku', q, rfl, rfl, g1, g2, g3, F', N'⟩ := hq
    refine LCg.CompEnd.intro F' N' _ (fun p hp => hp) (LCg.Off3.of fun p hp => ?_) trivial ⟨(x2, z2, tx', tz', ku'), rfl, by rw [List.length_append, hl]; rfl, g1, g2, g3⟩
    rw [e2] at hp
    rcases List.mem_append.mp hp with hp | hp
    · exact LCg.Off3.mem off p (by rw [e2]; exact List.mem_append_left _ hp)
    · rcases List.mem_cons.mp hp with rfl | hp
      · exact hUR
      · exact LCg.Off3.mem off p (by rw [e2]; exact List.mem_append_right _ (.tail _ hp))
  · rintro ys ⟨x1, z1, tx, tz, ku⟩ ⟨hl, h1, h2, h3⟩
    exact fin ys x1 z1 tx tz ku hl h1 h2 h3
end


end
section
theorem noneD4 : True := by
  k_with_none
  trivial
structure Offs (AD SD HL KL TR PL KP LL UR : Nat) (xs : List (Addr × Obj)) : Prop where
  ad : ∀ p ∈ xs, p.1 ≠ AD
  sd : ∀ p ∈ xs, p.1 ≠ SD
  hl : ∀ p ∈ xs, p.1 ≠ HL
  kl : ∀ p ∈ xs, p.1 ≠ KL
  tr : ∀ p ∈ xs, p.1 ≠ TR
  pl : ∀ p ∈ xs, p.1 ≠ PL
  kp : ∀ p ∈ xs, p.1 ≠ KP
  ll : ∀ p ∈ xs, p.1 ≠ LL
  ur : ∀ p ∈ xs, p.1 ≠ UR
theorem Offs.app {AD SD HL KL TR PL KP LL UR : Nat} {xs ys : List (Addr × Obj)} (h : Offs AD SD HL KL TR PL KP LL UR xs) (k : Offs AD SD HL KL TR PL KP LL UR ys) : Offs AD SD HL KL TR PL KP LL UR (xs ++ ys) :=
  ⟨fun p hp => (List.mem_append.mp hp).elim (h.ad p) (k.ad p), fun p hp => (List.mem_append.mp hp).elim (h.sd p) (k.sd p), fun p hp => (List.mem_append.mp hp).elim (h.hl p) (k.hl p), fun p hp => (List.mem_append.mp hp).elim (h.kl p) (k.kl p), fun p hp => (List.mem_append.mp hp).elim (h.tr p) (k.tr p), fun p hp => (List.mem_append.mp hp).elim (h.pl p) (k.pl p), fun p hp => (List.mem_append.mp hp).elim (h.kp p) (k.kp p), fun p hp => (List.mem_append.mp hp).elim (h.ll p) (k.ll p), fun p hp => (List.mem_append.mp hp).elim (h.ur p) (k.ur p)⟩
section
variable {A AD S SD HL KL TR CD C1 C2 PL KP LL UR UL CE : Nat} {c1a c1b c2a c2b : Value} {c1t c2t : Tok} {kc ku0 : Nat} {us : List Value} {oc : Obj}
def Led (A AD S SD HL KL TR CD C1 C2 PL KP LL UR UL CE : Nat) (c1a c1b c2a c2b : Value) (c1t c2t : Tok) (kc ku0 : Nat) (us : List Value) (oc : Obj) (c : St) : List (Addr × Obj) :=
  ((A, instObj 541 AD) :: (AD, dictOf c.ea c.na) :: (S, instObj 381 SD) :: (SD, dictOf c.es c.ns) :: (HL, listOf (c.hs).toArray c.kh) :: (KL, listOf (c.ks).toArray c.kk) :: (TR, listOf (c.ts).toArray c.kt) :: (CD, listOf ([.ref C1, .ref C2] : List Value).toArray kc) :: (C1, codeTup c1a c1b 2 c1t) :: (C2, codeTup c2a c2b 1 c2t) :: ((PL, listOf c.ps.toArray c.kp) :: (KP, c.ok) :: (LL, listOf c.ls.toArray c.kl) :: (UR, listOf ([.int c.x c.tx, .ref UL, .int c.z c.tz] : List Value).toArray c.ku) :: (UL, listOf us.toArray ku0) :: (CE, oc) :: c.xs))
theorem led_own {c : St} {own : List (Addr × Obj)} : Led A AD S SD HL KL TR CD C1 C2 PL KP LL UR UL CE c1a c1b c2a c2b c1t c2t kc ku0 us oc c ++ own = ((A, instObj 541 AD) :: (AD, dictOf c.ea c.na) :: (S, instObj 381 SD) :: (SD, dictOf c.es c.ns) :: (HL, listOf (c.hs).toArray c.kh) :: (KL, listOf (c.ks).toArray c.kk) :: (TR, listOf (c.ts).toArray c.kt) :: (CD, listOf ([.ref C1, .ref C2] : List Value).toArray kc) :: (C1, codeTup c1a c1b 2 c1t) :: (C2, codeTup c2a c2b 1 c2t) :: ((PL, listOf c.ps.toArray c.kp) :: (KP, c.ok) :: (LL, listOf c.ls.toArray c.kl) :: (UR, listOf ([.int c.x c.tx, .ref UL, .int c.z c.tz] : List Value).toArray c.ku) :: (UL, listOf us.toArray ku0) :: (CE, oc) :: (c.xs ++ own))) := rfl
theorem own_offs {c : St} {own : List (Addr × Obj)} (h : OwnOff own ((Led A AD S SD HL KL TR CD C1 C2 PL KP LL UR UL CE c1a c1b c2a c2b c1t c2t kc ku0 us oc c).map (·.1))) : Offs AD SD HL KL TR PL KP LL UR own := by
  unfold Led at h
  simp only [List.map_cons] at h
  refine ⟨fun p hp => h p hp _ ?_, fun p hp => h p hp _ ?_, fun p hp => h p hp _ ?_, fun p hp => h p hp _ ?_, fun p hp => h p hp _ ?_, fun p hp => h p hp _ ?_, fun p hp => h p hp _ ?_, fun p hp => h p hp _ ?_, fun p hp => h p hp _ ?_⟩
  all_goals (first | exact List.mem_of_getElem? (i := 0) rfl | exact List.mem_of_getElem? (i := 1) rfl | exact List.mem_of_getElem? (i := 2) rfl | exact List.mem_of_getElem? (i := 3) rfl | exact List.mem_of_getElem? (i := 4) rfl | exact List.mem_of_getElem? (i := 5) rfl | exact List.mem_of_getElem? (i := 6) rfl | exact List.mem_of_getElem? (i := 7) rfl | exact List.mem_of_getElem? (i := 8) rfl | exact List.mem_of_getElem? (i := 9) rfl | exact List.mem_of_getElem? (i := 10) rfl | exact List.mem_of_getElem? (i := 11) rfl | exact List.mem_of_getElem? (i := 12) rfl | exact List.mem_of_getElem? (i := 13) rfl | exact List.mem_of_getElem? (i := 14) rfl | exact List.mem_of_getElem? (i := 15) rfl | exact List.mem_of_getElem? (i := 16) rfl)
theorem turn_end {x : Str} {stored : List Str} {m₀ : Str → Option Value} {w : World} {i : Nat} {c c' : St} {h₀ h' : Heap} {L : Addr} {m' : Str → Option Value} {own rest : List (Addr × Obj)} {s₁ : Shared} {tk : Nat}
    (F : Fr h₀ L h' m') (N : News h₀ L h' ((A, instObj 541 AD) :: (AD, dictOf c'.ea c'.na) :: (S, instObj 381 SD) :: (SD, dictOf c'.es c'.ns) :: (HL, listOf (c'.hs).toArray c'.kh) :: (KL, listOf (c'.ks).toArray c'.kk) :: (TR, listOf (c'.ts).toArray c'.kt) :: (CD, listOf ([.ref C1, .ref C2] : List Value).toArray kc) :: (C1, codeTup c1a c1b 2 c1t) :: (C2, codeTup c2a c2b 1 c2t) :: ((PL, listOf c'.ps.toArray c'.kp) :: (KP, c'.ok) :: (LL, listOf c'.ls.toArray c'.kl) :: (UR, listOf ([.int c'.x c'.tx, .ref UL, .int c'.z c'.tz] : List Value).toArray c'.ku) :: (UL, listOf us.toArray ku0) :: (CE, oc) :: rest))) (hoff : OwnOff own ((Led A AD S SD HL KL TR CD C1 C2 PL KP LL UR UL CE c1a c1b c2a c2b c1t c2t kc ku0 us oc c).map (·.1)))
    (hx : ∀ p ∈ c'.xs, p ∈ rest) (ho : ∀ p ∈ own, p ∈ rest) (hn : ∀ p ∈ c'.xs, p ∈ c.xs ∨ ∀ q ∈ own, q.1 ≠ p.1) (I : Inv w S CD HL KL TR (i + 1) c') (of : Offs AD SD HL KL TR PL KP LL UR c'.xs)
    (hk : ∀ p ∈ [(Str.ofString "bound", Value.int c'.hb c'.tb), (Str.ofString "trailed", Value.int (c'.ts.length : Int) c'.tt)], m' p.1 = some p.2)
    (hr : ∀ z, z ≠ x → (∀ p ∈ [(Str.ofString "bound", Value.int c'.hb c'.tb), (Str.ofString "trailed", Value.int (c'.ts.length : Int) c'.tt)], z ≠ p.1) → stored.contains z = false → m' z = m₀ z) :
    InvEndG h₀ L (fun m' nx => True ∧ LS (Led A AD S SD HL KL TR CD C1 C2 PL KP LL UR UL CE c1a c1b c2a c2b c1t c2t kc ku0 us oc) (fun c => [(Str.ofString "bound", Value.int c.hb c.tb), (Str.ofString "trailed", Value.int (c.ts.length : Int) c.tt)]) x stored m₀ (fun c => Inv w S CD HL KL TR (i + 1) c ∧ Offs AD SD HL KL TR PL KP LL UR c.xs) m' nx) own s₁ { s₁ with heap := h', toks := tk } := by
  refine ls_end (Z := fun _ => True) c' F N ?_ ?_ ?_ ⟨I, of⟩ hk hr trivial
  · unfold Led
    (repeat (first | (refine sub_cons 0 rfl ?_) | (refine sub_cons 1 rfl ?_) | (refine sub_cons 2 rfl ?_) | (refine sub_cons 3 rfl ?_) | (refine sub_cons 4 rfl ?_) | (refine sub_cons 5 rfl ?_) | (refine sub_cons 6 rfl ?_) | (refine sub_cons 7 rfl ?_) | (refine sub_cons 8 rfl ?_) | (refine sub_cons 9 rfl ?_) | (refine sub_cons 10 rfl ?_) | (refine sub_cons 11 rfl ?_) | (refine sub_cons 12 rfl ?_) | (refine sub_cons 13 rfl ?_) | (refine sub_cons 14 rfl ?_) | (refine sub_cons 15 rfl ?_) | (refine sub_cons 16 rfl ?_)))
    exact fun p hp => sub_drop 16 rfl p (hx p hp)
  · intro p hp
    simp only [List.mem_cons, ho p hp, or_true]
  · intro p hp b hb
    unfold Led at hb hoff
    simp only [List.map_cons, List.mem_cons] at hb hoff
    have h1 := fun b hb => hoff p hp b hb
    rcases hb with hb | hb | hb | hb | hb | hb | hb | hb | hb | hb | hb | hb | hb | hb | hb | hb | hb
    any_goals (first | (exact h1 b (by rw [hb]; simp)) | skip)
    obtain ⟨q, hq, rfl⟩ := List.mem_map.mp hb
    rcases hn q hq with h2 | h2
    · refine h1 _ ?_
      have h3 : q.1 ∈ c.xs.map (·.1) := List.mem_map.mpr ⟨q, h2, rfl⟩
      simp [h3]
    · exact h2 p hp
end


end
section
theorem noneD6 : True := by
  k_with_none
  trivial
theorem updF_upd {d : Addr} {o : Obj} (o' : Obj) : ∀ {l : List (Addr × Obj)} {g : Obj → List (Addr × Obj)}, UpdF d o l g → Upd d o o' l (g o')
  | _, _, .head h => .head h
  | _, _, .tail h r => .tail h (updF_upd o' r)
section
variable {prog : Program} {w : World} {A : Around} {E : Value → Shared → Prop} {s : Shared} {h₀ : Heap} {L D : Addr} {m : Str → Option Value} {news : List (Addr × Obj)} {nf : Obj → List (Addr × Obj)} {its : List Value} {ns : List Int} {n : Nat}
theorem m_pop0 {u : Tok} {Q : Value → Shared → Prop} (F : Fr h₀ L s.heap m) (N : News h₀ L s.heap news) (U : UpdF D (listOf its.toArray n) news nf) (hi : IntsAre its ns) (hne : 0 < its.length) (hz : its.length ≤ 1000)
    (h : ∀ h' r rn a t, its = .int a t :: r → ns = a :: rn → Fr h₀ L h' m → News h₀ L h' (nf (listOf r.toArray (n + 1))) → Q (.int a t) { s with heap := h' }) : wpAny (model prog w) A (call (.builtin "list.pop") [.ref D, .int 0 u]) Q E s := by
  cases hi with
  | nil => exact absurd hne (Nat.lt_irrefl 0)
  | cons a t hr =>
    rename_i r rn
    exact kl_popAt (k := 0) (p := []) (q := r) (y := .int a t) F N rfl (by simp [seqIndex?]) rfl (updF_upd _ U) (by show (Value.int a t :: r).length ≤ sizeLine; rw [sizeLine_eq]; omega) fun h' F' N' => h h' r rn a t rfl rfl F' N'
theorem m_back {value slice : Expr} {b : Int} {u : Tok} {Q : Value → Shared → Prop} (N : News h₀ L s.heap news) (hm : (D, listOf its.toArray n) ∈ news) (hne : 0 < its.length) (hx : ∃ t, its[its.length - 1]? = some (.int b t)) (h : ∀ t, Q (.int b t) s)
    (hs : subscripted slice false (.ref D) (.int (-1) u) = operate [.ref D, .int (-1) u] (getItem (.ref D) (.int (-1) u)) := by with_unfolding_all rfl) :
    wpAny (model prog w) A (subscriptTail value slice (.ref D) (.int (-1) u)) Q E s := by
  obtain ⟨t, ht⟩ := hx
  refine kba_turn (value' := PySem.Expr.Name (PySem.Str.ofString "_") ⟨0, 0, 0, 0⟩) (fun _ => rfl) ?_
  exact kim_back (lo := listOf its.toArray n) (l := its) (n := n) N hm rfl rfl (by decide) (by omega) (by decide) (by rw [show ((-1 : Int) + (its.length : Int)).toNat = its.length - 1 by omega]; exact ht) (h t) hs (fun _ => rfl)
end
section
variable {w : World} {S CD HL KL TR i : Nat} {c : St}
theorem ints_last {vs : List Value} {ns : List Int} {b : Int} {r : List Int} (hI : IntsAre vs ns) (e : ns.reverse = b :: r) : ∃ t, vs[vs.length - 1]? = some (.int b t) := by
  have e2 : ns = r.reverse ++ [b] := by rw [← List.reverse_cons, ← e, List.reverse_reverse]
  have hl := hI.length
  rw [e2, List.length_append, List.length_singleton] at hl
  obtain ⟨t, ht⟩ := hI.get r.reverse.length b (by rw [e2, List.getElem?_append_right (Nat.le_refl _), Nat.sub_self]; rfl)
  exact ⟨t, by rw [hl]; simpa using ht⟩
theorem Inv.last (I : Inv w S CD HL KL TR i c) (h : 0 < c.ps.length) : ∃ t, c.ps[c.ps.length - 1]? = some (.int c.b t) := by
  have hl := I.pi.length
  rcases I.ch.head with ⟨_, e⟩ | ⟨_, r, e⟩
  · have : c.pn.length = 0 := by have := congrArg List.length e; simpa using this
    omega
  · exact ints_last I.pi e
theorem Inv.none (I : Inv w S CD HL KL TR i c) (h : ¬ 0 < c.ps.length) : c.b = -1 := by
  have hl := I.pi.length
  rcases I.ch.head with ⟨hb, _⟩ | ⟨_, r, e⟩
  · have := I.b1; omega
  · have := congrArg List.length e
    rw [List.length_reverse, List.length_cons] at this
    omega
theorem Inv.lastD (I : Inv w S CD HL KL TR i c) (h : 0 < c.ps.length) : c.pn.getD (-1 + (c.pn.length : Int)).toNat 0 = c.b := by
  have hl := I.pi.length
  obtain ⟨t, ht⟩ := I.last h
  obtain ⟨t', ht'⟩ := I.pi.get (c.pn.length - 1) (c.pn.getD (c.pn.length - 1) 0) (by rw [List.getD_eq_getElem?_getD, List.getElem?_eq_getElem (by omega)]; rfl)
  rw [← hl, ht] at ht'
  rw [show ((-1 : Int) + (c.pn.length : Int)).toNat = c.ps.length - 1 by omega]
  injection ht' with ht'
  injection ht' with h1 _
  exact h1.symm
end


end
section
theorem noneD7 : True := by
  k_with_none
  trivial
structure Ords (A AD S SD HL KL TR CD C1 C2 PL KP LL UR UL CE : Nat) : Prop where
  o0 : CE < UL
  o1 : UL < UR
  o2 : UR < C1
  o3 : C1 < C2
  o4 : C2 < CD
  o5 : CD < AD
  o6 : AD < A
  o7 : A < SD
  o8 : SD < S
  o9 : S < HL
  o10 : HL < KL
  o11 : KL < TR
  o12 : TR < PL
  o13 : PL < KP
  o14 : KP < LL
theorem pw_cons {a b : Nat} {l : List Nat} (h : a < b) (p : (b :: l).Pairwise (· < ·)) : (a :: b :: l).Pairwise (· < ·) := List.pairwise_cons.mpr ⟨fun c hc => (List.mem_cons.mp hc).elim (fun e => e ▸ h) (fun hc => Nat.lt_trans h ((List.pairwise_cons.mp p).1 c hc)), p⟩
theorem pick_nodup {l : List Nat} (hl : l.Pairwise (· < ·)) {is : List Nat} (hi : is.Nodup) (hb : ∀ i ∈ is, i < l.length) : (is.map fun i => l.getD i 0).Nodup := by
  rw [List.Nodup, List.pairwise_map]
  refine List.Pairwise.imp_of_mem ?_ hi
  intro i j hi' hj' hij
  have h1 := hb i hi'
  have h2 := hb j hj'
  rw [List.getD_eq_getElem?_getD, List.getD_eq_getElem?_getD, List.getElem?_eq_getElem h1, List.getElem?_eq_getElem h2, Option.getD_some, Option.getD_some]
  rcases Nat.lt_or_gt_of_ne hij with h | h
  · exact Nat.ne_of_lt (List.pairwise_iff_getElem.mp hl i j h1 h2 h)
  · exact Nat.ne_of_gt (List.pairwise_iff_getElem.mp hl j i h2 h1 h)
theorem Ords.nodup {A AD S SD HL KL TR CD C1 C2 PL KP LL UR UL CE : Nat} (o : Ords A AD S SD HL KL TR CD C1 C2 PL KP LL UR UL CE) : [A, AD, S, SD, HL, KL, TR, CD, C1, C2, PL, KP, LL, UR, UL, CE].Nodup :=
  pick_nodup (l := [CE, UL, UR, C1, C2, CD, AD, A, SD, S, HL, KL, TR, PL, KP, LL]) (is := [7, 6, 9, 8, 10, 11, 12, 5, 3, 4, 13, 14, 15, 2, 1, 0])
    (pw_cons o.o0 (pw_cons o.o1 (pw_cons o.o2 (pw_cons o.o3 (pw_cons o.o4 (pw_cons o.o5 (pw_cons o.o6 (pw_cons o.o7 (pw_cons o.o8 (pw_cons o.o9 (pw_cons o.o10 (pw_cons o.o11 (pw_cons o.o12 (pw_cons o.o13 (pw_cons o.o14 (List.pairwise_singleton _ _)))))))))))))))) (by decide) (by show ∀ i ∈ _, i < 16; decide)
theorem ne_at {l : List Nat} (h : l.Nodup) (i j : Nat) (hij : i ≠ j) {a b : Nat} (ha : l[i]? = some a) (hb : l[j]? = some b) : a ≠ b := by
  intro e
  subst e
  exact hij ((List.getElem?_inj (List.getElem?_eq_some_iff.mp ha).1 h).mp (ha.trans hb.symm))
theorem updF_core {d : Nat} {o : Obj} : ∀ (core xs : List (Addr × Obj)) (i : Nat), core[i]? = some (d, o) → (core.map (·.1)).Nodup → (∀ p ∈ xs, p.1 ≠ d) → UpdF d o (core ++ xs) (fun y => core.set i (d, y) ++ xs)
  | [], _, _, h, _, _ => nomatch h
  | p :: r, xs, 0, h, nd, hx => by
    obtain rfl : p = (d, o) := Option.some.inj h
    refine .head fun q hq => ?_
    rcases List.mem_append.mp hq with hq | hq
    · intro e
      exact (List.nodup_cons.mp nd).1 (e ▸ List.mem_map.mpr ⟨q, hq, rfl⟩)
    · exact hx q hq
  | p :: r, xs, i + 1, h, nd, hx => by
    have h' : r[i]? = some (d, o) := h
    refine .tail (fun e => (List.nodup_cons.mp nd).1 ?_) (updF_core r xs i h' (List.nodup_cons.mp nd).2 hx)
    show p.1 ∈ _
    rw [e]
    exact List.mem_map.mpr ⟨_, List.mem_of_getElem? h', rfl⟩
theorem off_at {core xs : List (Addr × Obj)} {d : Nat} (k i : Nat) (hik : i < k) (hd : (core.map (·.1))[i]? = some d) (nd : (core.map (·.1)).Nodup) (h : ∀ p ∈ xs, p.1 ≠ d) : ∀ p ∈ core.drop k ++ xs, p.1 ≠ d := by
  intro p hp
  rcases List.mem_append.mp hp with hp | hp
  · obtain ⟨j, hj⟩ := List.mem_iff_getElem?.mp hp
    rw [List.getElem?_drop] at hj
    exact ne_at nd (k + j) i (by omega) (by rw [List.getElem?_map, hj]; rfl) hd
  · exact h p hp
section
variable {A AD S SD HL KL TR CD C1 C2 PL KP LL UR UL CE : Nat} {x0 x1 x2 x3 x4 x5 x6 x7 x8 x9 x10 x11 x12 x13 x14 x15 y : Obj} {xs : List (Addr × Obj)}
theorem updF_UR (o : Ords A AD S SD HL KL TR CD C1 C2 PL KP LL UR UL CE) (h : ∀ p ∈ xs, p.1 ≠ UR) : UpdF UR x13 ((A, x0) :: (AD, x1) :: (S, x2) :: (SD, x3) :: (HL, x4) :: (KL, x5) :: (TR, x6) :: (CD, x7) :: (C1, x8) :: (C2, x9) :: (PL, x10) :: (KP, x11) :: (LL, x12) :: (UR, x13) :: (UL, x14) :: (CE, x15) :: xs) (fun y => ((A, x0) :: (AD, x1) :: (S, x2) :: (SD, x3) :: (HL, x4) :: (KL, x5) :: (TR, x6) :: (CD, x7) :: (C1, x8) :: (C2, x9) :: (PL, x10) :: (KP, x11) :: (LL, x12) :: (UR, y) :: (UL, x14) :: (CE, x15) :: xs)) :=
  updF_core [(A, x0), (AD, x1), (S, x2), (SD, x3), (HL, x4), (KL, x5), (TR, x6), (CD, x7), (C1, x8), (C2, x9), (PL, x10), (KP, x11), (LL, x12), (UR, x13), (UL, x14), (CE, x15)] xs 13 rfl o.nodup h
theorem upd_UR (o : Ords A AD S SD HL KL TR CD C1 C2 PL KP LL UR UL CE) (h : ∀ p ∈ xs, p.1 ≠ UR) : Upd UR x13 y ((A, x0) :: (AD, x1) :: (S, x2) :: (SD, x3) :: (HL, x4) :: (KL, x5) :: (TR, x6) :: (CD, x7) :: (C1, x8) :: (C2, x9) :: (PL, x10) :: (KP, x11) :: (LL, x12) :: (UR, x13) :: (UL, x14) :: (CE, x15) :: xs) ((A, x0) :: (AD, x1) :: (S, x2) :: (SD, x3) :: (HL, x4) :: (KL, x5) :: (TR, x6) :: (CD, x7) :: (C1, x8) :: (C2, x9) :: (PL, x10) :: (KP, x11) :: (LL, x12) :: (UR, y) :: (UL, x14) :: (CE, x15) :: xs) := updF_upd y (updF_UR o h)
theorem updF_LL (o : Ords A AD S SD HL KL TR CD C1 C2 PL KP LL UR UL CE) (h : ∀ p ∈ xs, p.1 ≠ LL) : UpdF LL x12 ((A, x0) :: (AD, x1) :: (S, x2) :: (SD, x3) :: (HL, x4) :: (KL, x5) :: (TR, x6) :: (CD, x7) :: (C1, x8) :: (C2, x9) :: (PL, x10) :: (KP, x11) :: (LL, x12) :: (UR, x13) :: (UL, x14) :: (CE, x15) :: xs) (fun y => ((A, x0) :: (AD, x1) :: (S, x2) :: (SD, x3) :: (HL, x4) :: (KL, x5) :: (TR, x6) :: (CD, x7) :: (C1, x8) :: (C2, x9) :: (PL, x10) :: (KP, x11) :: (LL, y) :: (UR, x13) :: (UL, x14) :: (CE, x15) :: xs)) :=
  updF_core [(A, x0), (AD, x1), (S, x2), (SD, x3), (HL, x4), (KL, x5), (TR, x6), (CD, x7), (C1, x8), (C2, x9), (PL, x10), (KP, x11), (LL, x12), (UR, x13), (UL, x14), (CE, x15)] xs 12 rfl o.nodup h
theorem upd_LL (o : Ords A AD S SD HL KL TR CD C1 C2 PL KP LL UR UL CE) (h : ∀ p ∈ xs, p.1 ≠ LL) : Upd LL x12 y ((A, x0) :: (AD, x1) :: (S, x2) :: (SD, x3) :: (HL, x4) :: (KL, x5) :: (TR, x6) :: (CD, x7) :: (C1, x8) :: (C2, x9) :: (PL, x10) :: (KP, x11) :: (LL, x12) :: (UR, x13) :: (UL, x14) :: (CE, x15) :: xs) ((A, x0) :: (AD, x1) :: (S, x2) :: (SD, x3) :: (HL, x4) :: (KL, x5) :: (TR, x6) :: (CD, x7) :: (C1, x8) :: (C2, x9) :: (PL, x10) :: (KP, x11) :: (LL, y) :: (UR, x13) :: (UL, x14) :: (CE, x15) :: xs) := updF_upd y (updF_LL o h)
theorem updF_PL (o : Ords A AD S SD HL KL TR CD C1 C2 PL KP LL UR UL CE) (h : ∀ p ∈ xs, p.1 ≠ PL) : UpdF PL x10 ((A, x0) :: (AD, x1) :: (S, x2) :: (SD, x3) :: (HL, x4) :: (KL, x5) :: (TR, x6) :: (CD, x7) :: (C1, x8) :: (C2, x9) :: (PL, x10) :: (KP, x11) :: (LL, x12) :: (UR, x13) :: (UL, x14) :: (CE, x15) :: xs) (fun y => ((A, x0) :: (AD, x1) :: (S, x2) :: (SD, x3) :: (HL, x4) :: (KL, x5) :: (TR, x6) :: (CD, x7) :: (C1, x8) :: (C2, x9) :: (PL, y) :: (KP, x11) :: (LL, x12) :: (UR, x13) :: (UL, x14) :: (CE, x15) :: xs)) :=
  updF_core [(A, x0), (AD, x1), (S, x2), (SD, x3), (HL, x4), (KL, x5), (TR, x6), (CD, x7), (C1, x8), (C2, x9), (PL, x10), (KP, x11), (LL, x12), (UR, x13), (UL, x14), (CE, x15)] xs 10 rfl o.nodup h
theorem upd_PL (o : Ords A AD S SD HL KL TR CD C1 C2 PL KP LL UR UL CE) (h : ∀ p ∈ xs, p.1 ≠ PL) : Upd PL x10 y ((A, x0) :: (AD, x1) :: (S, x2) :: (SD, x3) :: (HL, x4) :: (KL, x5) :: (TR, x6) :: (CD, x7) :: (C1, x8) :: (C2, x9) :: (PL, x10) :: (KP, x11) :: (LL, x12) :: (UR, x13) :: (UL, x14) :: (CE, x15) :: xs) ((A, x0) :: (AD, x1) :: (S, x2) :: (SD, x3) :: (HL, x4) :: (KL, x5) :: (TR, x6) :: (CD, x7) :: (C1, x8) :: (C2, x9) :: (PL, y) :: (KP, x11) :: (LL, x12) :: (UR, x13) :: (UL, x14) :: (CE, x15) :: xs) := updF_upd y (updF_PL o h)
theorem updF_KP (o : Ords A AD S SD HL KL TR CD C1 C2 PL KP LL UR UL CE) (h : ∀ p ∈ xs, p.1 ≠ KP) : UpdF KP x11 ((A, x0) :: (AD, x1) :: (S, x2) :: (SD, x3) :: (HL, x4) :: (KL, x5) :: (TR, x6) :: (CD, x7) :: (C1, x8) :: (C2, x9) :: (PL, x10) :: (KP, x11) :: (LL, x12) :: (UR, x13) :: (UL, x14) :: (CE, x15) :: xs) (fun y => ((A, x0) :: (AD, x1) :: (S, x2) :: (SD, x3) :: (HL, x4) :: (KL, x5) :: (TR, x6) :: (CD, x7) :: (C1, x8) :: (C2, x9) :: (PL, x10) :: (KP, y) :: (LL, x12) :: (UR, x13) :: (UL, x14) :: (CE, x15) :: xs)) :=
  updF_core [(A, x0), (AD, x1), (S, x2), (SD, x3), (HL, x4), (KL, x5), (TR, x6), (CD, x7), (C1, x8), (C2, x9), (PL, x10), (KP, x11), (LL, x12), (UR, x13), (UL, x14), (CE, x15)] xs 11 rfl o.nodup h
theorem upd_KP (o : Ords A AD S SD HL KL TR CD C1 C2 PL KP LL UR UL CE) (h : ∀ p ∈ xs, p.1 ≠ KP) : Upd KP x11 y ((A, x0) :: (AD, x1) :: (S, x2) :: (SD, x3) :: (HL, x4) :: (KL, x5) :: (TR, x6) :: (CD, x7) :: (C1, x8) :: (C2, x9) :: (PL, x10) :: (KP, x11) :: (LL, x12) :: (UR, x13) :: (UL, x14) :: (CE, x15) :: xs) ((A, x0) :: (AD, x1) :: (S, x2) :: (SD, x3) :: (HL, x4) :: (KL, x5) :: (TR, x6) :: (CD, x7) :: (C1, x8) :: (C2, x9) :: (PL, x10) :: (KP, y) :: (LL, x12) :: (UR, x13) :: (UL, x14) :: (CE, x15) :: xs) := updF_upd y (updF_KP o h)
theorem updF_AD (o : Ords A AD S SD HL KL TR CD C1 C2 PL KP LL UR UL CE) (h : ∀ p ∈ xs, p.1 ≠ AD) : UpdF AD x1 ((A, x0) :: (AD, x1) :: (S, x2) :: (SD, x3) :: (HL, x4) :: (KL, x5) :: (TR, x6) :: (CD, x7) :: (C1, x8) :: (C2, x9) :: (PL, x10) :: (KP, x11) :: (LL, x12) :: (UR, x13) :: (UL, x14) :: (CE, x15) :: xs) (fun y => ((A, x0) :: (AD, y) :: (S, x2) :: (SD, x3) :: (HL, x4) :: (KL, x5) :: (TR, x6) :: (CD, x7) :: (C1, x8) :: (C2, x9) :: (PL, x10) :: (KP, x11) :: (LL, x12) :: (UR, x13) :: (UL, x14) :: (CE, x15) :: xs)) :=
  updF_core [(A, x0), (AD, x1), (S, x2), (SD, x3), (HL, x4), (KL, x5), (TR, x6), (CD, x7), (C1, x8), (C2, x9), (PL, x10), (KP, x11), (LL, x12), (UR, x13), (UL, x14), (CE, x15)] xs 1 rfl o.nodup h
theorem upd_AD (o : Ords A AD S SD HL KL TR CD C1 C2 PL KP LL UR UL CE) (h : ∀ p ∈ xs, p.1 ≠ AD) : Upd AD x1 y ((A, x0) :: (AD, x1) :: (S, x2) :: (SD, x3) :: (HL, x4) :: (KL, x5) :: (TR, x6) :: (CD, x7) :: (C1, x8) :: (C2, x9) :: (PL, x10) :: (KP, x11) :: (LL, x12) :: (UR, x13) :: (UL, x14) :: (CE, x15) :: xs) ((A, x0) :: (AD, y) :: (S, x2) :: (SD, x3) :: (HL, x4) :: (KL, x5) :: (TR, x6) :: (CD, x7) :: (C1, x8) :: (C2, x9) :: (PL, x10) :: (KP, x11) :: (LL, x12) :: (UR, x13) :: (UL, x14) :: (CE, x15) :: xs) := updF_upd y (updF_AD o h)
theorem off_tail (o : Ords A AD S SD HL KL TR CD C1 C2 PL KP LL UR UL CE) (h1 : ∀ p ∈ xs, p.1 ≠ AD) (h2 : ∀ p ∈ xs, p.1 ≠ SD) (h3 : ∀ p ∈ xs, p.1 ≠ HL) (h4 : ∀ p ∈ xs, p.1 ≠ KL) (h5 : ∀ p ∈ xs, p.1 ≠ TR) : Off AD SD HL KL TR ((PL, x10) :: (KP, x11) :: (LL, x12) :: (UR, x13) :: (UL, x14) :: (CE, x15) :: xs) :=
  ⟨off_at (core := [(A, x10), (AD, x10), (S, x10), (SD, x10), (HL, x10), (KL, x10), (TR, x10), (CD, x10), (C1, x10), (C2, x10), (PL, x10), (KP, x11), (LL, x12), (UR, x13), (UL, x14), (CE, x15)]) 10 1 (by decide) rfl o.nodup h1, off_at (core := [(A, x10), (AD, x10), (S, x10), (SD, x10), (HL, x10), (KL, x10), (TR, x10), (CD, x10), (C1, x10), (C2, x10), (PL, x10), (KP, x11), (LL, x12), (UR, x13), (UL, x14), (CE, x15)]) 10 3 (by decide) rfl o.nodup h2, off_at (core := [(A, x10), (AD, x10), (S, x10), (SD, x10), (HL, x10), (KL, x10), (TR, x10), (CD, x10), (C1, x10), (C2, x10), (PL, x10), (KP, x11), (LL, x12), (UR, x13), (UL, x14), (CE, x15)]) 10 4 (by decide) rfl o.nodup h3, off_at (core := [(A, x10), (AD, x10), (S, x10), (SD, x10), (HL, x10), (KL, x10), (TR, x10), (CD, x10), (C1, x10), (C2, x10), (PL, x10), (KP, x11), (LL, x12), (UR, x13), (UL, x14), (CE, x15)]) 10 5 (by decide) rfl o.nodup h4, off_at (core := [(A, x10), (AD, x10), (S, x10), (SD, x10), (HL, x10), (KL, x10), (TR, x10), (CD, x10), (C1, x10), (C2, x10), (PL, x10), (KP, x11), (LL, x12), (UR, x13), (UL, x14), (CE, x15)]) 10 6 (by decide) rfl o.nodup h5⟩
theorem off_cons {p : Addr × Obj} {d1 d2 d3 d4 d5 : Nat} {tl : List (Addr × Obj)} (h : Off d1 d2 d3 d4 d5 tl) (h1 : p.1 ≠ d1) (h2 : p.1 ≠ d2) (h3 : p.1 ≠ d3) (h4 : p.1 ≠ d4) (h5 : p.1 ≠ d5) : Off d1 d2 d3 d4 d5 (p :: tl) :=
  let ⟨g1, g2, g3, g4, g5⟩ := h; ⟨List.forall_mem_cons.mpr ⟨h1, g1⟩, List.forall_mem_cons.mpr ⟨h2, g2⟩, List.forall_mem_cons.mpr ⟨h3, g3⟩, List.forall_mem_cons.mpr ⟨h4, g4⟩, List.forall_mem_cons.mpr ⟨h5, g5⟩⟩
theorem Ords.core (o : Ords A AD S SD HL KL TR CD C1 C2 PL KP LL UR UL CE) : C1 < C2 ∧ C2 < CD ∧ CD < AD ∧ AD < A ∧ A < SD ∧ SD < S ∧ S < HL ∧ HL < KL ∧ KL < TR := ⟨o.o3, o.o4, o.o5, o.o6, o.o7, o.o8, o.o9, o.o10, o.o11⟩
theorem ords_top (o : Ords A AD S SD HL KL TR CD C1 C2 PL KP LL UR UL CE) {D : Nat} (h : LL < D) : CE < D ∧ UL < D ∧ UR < D ∧ C1 < D ∧ C2 < D ∧ CD < D ∧ AD < D ∧ A < D ∧ SD < D ∧ S < D ∧ HL < D ∧ KL < D ∧ TR < D ∧ PL < D ∧ KP < D := by
  have k1 := Nat.lt_trans o.o14 h
  have k2 := Nat.lt_trans o.o13 k1
  have k3 := Nat.lt_trans o.o12 k2
  have k4 := Nat.lt_trans o.o11 k3
  have k5 := Nat.lt_trans o.o10 k4
  have k6 := Nat.lt_trans o.o9 k5
  have k7 := Nat.lt_trans o.o8 k6
  have k8 := Nat.lt_trans o.o7 k7
  have k9 := Nat.lt_trans o.o6 k8
  have k10 := Nat.lt_trans o.o5 k9
  have k11 := Nat.lt_trans o.o4 k10
  have k12 := Nat.lt_trans o.o3 k11
  have k13 := Nat.lt_trans o.o2 k12
  have k14 := Nat.lt_trans o.o1 k13
  exact ⟨Nat.lt_trans o.o0 k14, k14, k13, k12, k11, k10, k9, k8, k7, k6, k5, k4, k3, k2, k1⟩
theorem lt_canon (o : Ords A AD S SD HL KL TR CD C1 C2 PL KP LL UR UL CE) {D : Nat} (l : ∀ p : Addr × Obj, p ∈ ((A, x0) :: (AD, x1) :: (S, x2) :: (SD, x3) :: (HL, x4) :: (KL, x5) :: (TR, x6) :: (CD, x7) :: (C1, x8) :: (C2, x9) :: (PL, x10) :: (KP, x11) :: (LL, x12) :: (UR, x13) :: (UL, x14) :: (CE, x15) :: xs) → p.1 < D) : AD < D ∧ SD < D ∧ HL < D ∧ KL < D ∧ TR < D ∧ PL < D ∧ KP < D ∧ LL < D ∧ UR < D ∧ ∀ p : Addr × Obj, p ∈ xs → @LT.lt Nat _ p.1 D := by
  have h : LL < D := l (LL, x12) (List.mem_of_getElem? (i := 12) rfl)
  obtain ⟨a0, a1, a2, a3, a4, a5, a6, a7, a8, a9, a10, a11, a12, a13, a14⟩ := ords_top o h
  exact ⟨a6, a8, a10, a11, a12, a13, a14, h, a2, fun p hp => l p (sub_drop 16 rfl p hp)⟩
theorem off1_canon {G : Nat} (h : LCg.Off1 G ((A, x0) :: (AD, x1) :: (S, x2) :: (SD, x3) :: (HL, x4) :: (KL, x5) :: (TR, x6) :: (CD, x7) :: (C1, x8) :: (C2, x9) :: (PL, x10) :: (KP, x11) :: (LL, x12) :: (UR, x13) :: (UL, x14) :: (CE, x15) :: xs)) : (@Ne Nat AD G) ∧ (@Ne Nat SD G) ∧ (@Ne Nat HL G) ∧ (@Ne Nat KL G) ∧ (@Ne Nat TR G) ∧ (@Ne Nat PL G) ∧ (@Ne Nat KP G) ∧ (@Ne Nat LL G) ∧ (@Ne Nat UR G) ∧ ∀ p : Addr × Obj, p ∈ xs → p.1 ≠ G := by
  have k : ∀ {l : List (Addr × Obj)}, LCg.Off1 G l → ∀ p ∈ l, p.1 ≠ G := fun {l} => by
    induction l with
    | nil => exact fun _ p hp => nomatch hp
    | cons a r ih => exact fun h p hp => (List.mem_cons.mp hp).elim (fun e => e ▸ h.1) (ih h.2 p)
  have k1 := k h
  refine ⟨k1 (AD, x1) (List.mem_of_getElem? (i := 1) rfl), k1 (SD, x3) (List.mem_of_getElem? (i := 3) rfl), k1 (HL, x4) (List.mem_of_getElem? (i := 4) rfl), k1 (KL, x5) (List.mem_of_getElem? (i := 5) rfl), k1 (TR, x6) (List.mem_of_getElem? (i := 6) rfl), k1 (PL, x10) (List.mem_of_getElem? (i := 10) rfl), k1 (KP, x11) (List.mem_of_getElem? (i := 11) rfl), k1 (LL, x12) (List.mem_of_getElem? (i := 12) rfl), k1 (UR, x13) (List.mem_of_getElem? (i := 13) rfl), fun p hp => k1 p (sub_drop 16 rfl p hp)⟩
end
theorem rotx2 {h₀ h : Heap} {L : Addr} {e1 e2 c1 c2 c3 c4 c5 c6 c7 c8 c9 c10 t1 t2 t3 t4 t5 t6 : Addr × Obj} {xs : List (Addr × Obj)} (N : News h₀ L h (c1 :: c2 :: c3 :: c4 :: c5 :: c6 :: c7 :: c8 :: c9 :: c10 :: e1 :: e2 :: t1 :: t2 :: t3 :: t4 :: t5 :: t6 :: xs)) :
    News h₀ L h (c1 :: c2 :: c3 :: c4 :: c5 :: c6 :: c7 :: c8 :: c9 :: c10 :: t1 :: t2 :: t3 :: t4 :: t5 :: t6 :: e1 :: e2 :: xs) := by
  refine news_sub N ?_
  ((repeat (first | (refine sub_cons 0 rfl ?_) | (refine sub_cons 1 rfl ?_) | (refine sub_cons 2 rfl ?_) | (refine sub_cons 3 rfl ?_) | (refine sub_cons 4 rfl ?_) | (refine sub_cons 5 rfl ?_) | (refine sub_cons 6 rfl ?_) | (refine sub_cons 7 rfl ?_) | (refine sub_cons 8 rfl ?_) | (refine sub_cons 9 rfl ?_) | (refine sub_cons 10 rfl ?_) | (refine sub_cons 11 rfl ?_) | (refine sub_cons 12 rfl ?_) | (refine sub_cons 13 rfl ?_) | (refine sub_cons 14 rfl ?_) | (refine sub_cons 15 rfl ?_) | (refine sub_cons 16 rfl ?_) | (refine sub_cons 17 rfl ?_) | (refine sub_cons 18 rfl ?_) | (refine sub_cons 19 rfl ?_))); (first | exact sub_nil | exact sub_drop 0 rfl | exact sub_drop 1 rfl | exact sub_drop 2 rfl | exact sub_drop 3 rfl | exact sub_drop 4 rfl | exact sub_drop 5 rfl | exact sub_drop 6 rfl | exact sub_drop 7 rfl | exact sub_drop 8 rfl | exact sub_drop 9 rfl | exact sub_drop 10 rfl | exact sub_drop 11 rfl | exact sub_drop 12 rfl | exact sub_drop 13 rfl | exact sub_drop 14 rfl | exact sub_drop 15 rfl | exact sub_drop 16 rfl | exact sub_drop 17 rfl | exact sub_drop 18 rfl | exact sub_drop 19 rfl))
section
variable {A AD S SD HL KL TR CD C1 C2 PL KP LL UR UL CE : Nat} {D : Nat}
theorem ll_of (o : Ords A AD S SD HL KL TR CD C1 C2 PL KP LL UR UL CE) {l : List (Addr × Obj)} (h : ∀ p : Addr × Obj, p ∈ l → p.1 < D) (hm : ∃ x, (LL, x) ∈ l) : @LT.lt Nat _ LL D := let ⟨x, hx⟩ := hm; h (LL, x) hx
theorem over_UR (o : Ords A AD S SD HL KL TR CD C1 C2 PL KP LL UR UL CE) (h : LL < D) : @Ne Nat D UR :=
  Nat.ne_of_gt (ords_top o h).2.2.1
theorem over_AD (o : Ords A AD S SD HL KL TR CD C1 C2 PL KP LL UR UL CE) (h : LL < D) : @Ne Nat D AD :=
  Nat.ne_of_gt (ords_top o h).2.2.2.2.2.2.1
theorem over_SD (o : Ords A AD S SD HL KL TR CD C1 C2 PL KP LL UR UL CE) (h : LL < D) : @Ne Nat D SD :=
  Nat.ne_of_gt (ords_top o h).2.2.2.2.2.2.2.2.1
theorem over_HL (o : Ords A AD S SD HL KL TR CD C1 C2 PL KP LL UR UL CE) (h : LL < D) : @Ne Nat D HL :=
  Nat.ne_of_gt (ords_top o h).2.2.2.2.2.2.2.2.2.2.1
theorem over_KL (o : Ords A AD S SD HL KL TR CD C1 C2 PL KP LL UR UL CE) (h : LL < D) : @Ne Nat D KL :=
  Nat.ne_of_gt (ords_top o h).2.2.2.2.2.2.2.2.2.2.2.1
theorem over_TR (o : Ords A AD S SD HL KL TR CD C1 C2 PL KP LL UR UL CE) (h : LL < D) : @Ne Nat D TR :=
  Nat.ne_of_gt (ords_top o h).2.2.2.2.2.2.2.2.2.2.2.2.1
end


end
section
theorem noneD5 : True := by
  k_with_none
  trivial
section
variable {prog : Program} {w : World} {Ar : Around} {E : Value → Shared → Prop} {s : Shared} {env : Env} {h₀ : Heap} {y : Str} {body : List Stmt} {Q : Flow → Shared → Prop} {A AD S SD HL KL TR CD C1 C2 PL KP LL UR UL CE : Nat} {c1a c1b c2a c2b : Value} {c1t c2t : Tok} {kc ku0 : Nat} {us : List Value} {oc : Obj}
theorem law_range {r : Addr} {b₀ : Int} {t₀ u₀ v₀ : Tok} {n : Nat} {m₀ : Str → Option Value} {ea es : List DictEntry} {na ns kh kk kt kp kl : Nat} {ok : Obj} {x z : Int} {tx tz : Tok} {ku : Nat} {tb tt : Tok} {u1 u2 u3 u4 v1 v2 v3 : Tok} (stored : List Str)
    (hord : Ords A AD S SD HL KL TR CD C1 C2 PL KP LL UR UL CE) (hh : Ar.handled = none) (hr : IsRange s.heap r 0 b₀ 1 t₀ u₀ v₀) (hb : b₀ = (n : Int)) (hn8 : n ≤ 8) (F : Fr h₀ env.locals s.heap m₀)
    (N : News h₀ env.locals s.heap ((LL, listOf ([] : List Value).toArray kl) :: (KP, ok) :: (PL, listOf ([] : List Value).toArray kp) :: (A, instObj 541 AD) :: (AD, dictOf ea na) :: (S, instObj 381 SD) :: (SD, dictOf es ns) :: (HL, listOf ([] : List Value).toArray kh) :: (KL, listOf ([] : List Value).toArray kk) :: (TR, listOf ([] : List Value).toArray kt) :: (CD, listOf ([.ref C1, .ref C2] : List Value).toArray kc) :: (C2, codeTup c2a c2b 1 c2t) :: (C1, codeTup c1a c1b 2 c1t) :: (UR, listOf ([.int x tx, .ref UL, .int z tz] : List Value).toArray ku) :: (UL, listOf us.toArray ku0) :: (CE, oc) :: []))
    (hA : AIs ea S CD 1 (-1) (-1) (-1) u1 u2 u3 u4) (hS : SIs es HL KL TR 0 0 v1 v2 v3) (hd : ok.IsDictOf (PySem.intKind PySem.Challenge.rw_rh0105_01.row.prog w) []) (hu : 0 ≤ x ∧ 0 ≤ z ∧ z ≤ 100)
    (hk1 : m₀ (Str.ofString "bound") = some (.int 0 tb)) (hk2 : m₀ (Str.ofString "trailed") = some (.int 0 tt))
    (turn : Ords A AD S SD HL KL TR CD C1 C2 PL KP LL UR UL CE → ∀ i t (c : St) (u : Str → Option Value) h tk own, i < n → Inv w S CD HL KL TR i c → OwnOff own ((Led A AD S SD HL KL TR CD C1 C2 PL KP LL UR UL CE c1a c1b c2a c2b c1t c2t kc ku0 us oc c).map (·.1)) → Offs AD SD HL KL TR PL KP LL UR c.xs → Offs AD SD HL KL TR PL KP LL UR (c.xs ++ own) →
      Fr h₀ env.locals h (fun q => if q = y then some (.int (i : Int) t) else kstB (fun z => if stored.contains z then u z else m₀ z) [(Str.ofString "bound", Value.int c.hb c.tb), (Str.ofString "trailed", Value.int (c.ts.length : Int) c.tt)] q) → News h₀ env.locals h ((A, instObj 541 AD) :: (AD, dictOf c.ea c.na) :: (S, instObj 381 SD) :: (SD, dictOf c.es c.ns) :: (HL, listOf (c.hs).toArray c.kh) :: (KL, listOf (c.ks).toArray c.kk) :: (TR, listOf (c.ts).toArray c.kt) :: (CD, listOf ([.ref C1, .ref C2] : List Value).toArray kc) :: (C1, codeTup c1a c1b 2 c1t) :: (C2, codeTup c2a c2b 1 c2t) :: ((PL, listOf c.ps.toArray c.kp) :: (KP, c.ok) :: (LL, listOf c.ls.toArray c.kl) :: (UR, listOf ([.int c.x c.tx, .ref UL, .int c.z c.tz] : List Value).toArray c.ku) :: (UL, listOf us.toArray ku0) :: (CE, oc) :: (c.xs ++ own))) →
      wpAny (model prog w) Ar (execs body env) (InvPostG h₀ env.locals (fun m' nx => True ∧ LS (Led A AD S SD HL KL TR CD C1 C2 PL KP LL UR UL CE c1a c1b c2a c2b c1t c2t kc ku0 us oc) (fun c => [(Str.ofString "bound", Value.int c.hb c.tb), (Str.ofString "trailed", Value.int (c.ts.length : Int) c.tt)]) y stored m₀ (fun c => Inv w S CD HL KL TR (i + 1) c ∧ Offs AD SD HL KL TR PL KP LL UR c.xs) m' nx) own { s with heap := h, toks := tk } Q) E { s with heap := h, toks := tk })
    (done : Ords A AD S SD HL KL TR CD C1 C2 PL KP LL UR UL CE → ∀ (c : St) (u : Str → Option Value) h tk, Inv w S CD HL KL TR n c → Offs AD SD HL KL TR PL KP LL UR c.xs → Fr h₀ env.locals h (fun q => if q = y then u q else kstB (fun z => if stored.contains z then u z else m₀ z) [(Str.ofString "bound", Value.int c.hb c.tb), (Str.ofString "trailed", Value.int (c.ts.length : Int) c.tt)] q) → News h₀ env.locals h ((A, instObj 541 AD) :: (AD, dictOf c.ea c.na) :: (S, instObj 381 SD) :: (SD, dictOf c.es c.ns) :: (HL, listOf (c.hs).toArray c.kh) :: (KL, listOf (c.ks).toArray c.kk) :: (TR, listOf (c.ts).toArray c.kt) :: (CD, listOf ([.ref C1, .ref C2] : List Value).toArray kc) :: (C1, codeTup c1a c1b 2 c1t) :: (C2, codeTup c2a c2b 1 c2t) :: ((PL, listOf c.ps.toArray c.kp) :: (KP, c.ok) :: (LL, listOf c.ls.toArray c.kl) :: (UR, listOf ([.int c.x c.tx, .ref UL, .int c.z c.tz] : List Value).toArray c.ku) :: (UL, listOf us.toArray ku0) :: (CE, oc) :: c.xs)) → Q .next { s with heap := h, toks := tk }) :
    wpAny (model prog w) Ar (pyIter (.ref r)) (fun it s₂ => LoopAtV prog w Ar h₀ env y body Q E it s₂) E s := by
  refine my_range (σ := St) (Led A AD S SD HL KL TR CD C1 C2 PL KP LL UR UL CE c1a c1b c2a c2b c1t c2t kc ku0 us oc) (fun c => [(Str.ofString "bound", Value.int c.hb c.tb), (Str.ofString "trailed", Value.int (c.ts.length : Int) c.tt)]) stored (fun i c => Inv w S CD HL KL TR i c ∧ Offs AD SD HL KL TR PL KP LL UR c.xs)
    { ea := ea, es := es, na := na, ns := ns, kh := kh, kk := kk, kt := kt, hs := [], ks := [], ts := [], cp := 1, e := -1, b := -1, b0 := -1, hb := 0, bb := 0, u1 := u1, u2 := u2, u3 := u3, u4 := u4, v1 := v1, v2 := v2, v3 := v3, ps := [], pn := [], kp := kp, ok := ok, kvs := [], ls := [], ln := [], kl := kl, x := x, z := z, tx := tx, tz := tz, ku := ku, cnt := 0, ct := tb, tb := tb, tt := tt, xs := [] }
    hh hr hb (by omega) F N ?sub ?P0 ?K0 ?turn ?done
  case sub =>
    unfold Led
    ((repeat (first | (refine sub_cons 0 rfl ?_) | (refine sub_cons 1 rfl ?_) | (refine sub_cons 2 rfl ?_) | (refine sub_cons 3 rfl ?_) | (refine sub_cons 4 rfl ?_) | (refine sub_cons 5 rfl ?_) | (refine sub_cons 6 rfl ?_) | (refine sub_cons 7 rfl ?_) | (refine sub_cons 8 rfl ?_) | (refine sub_cons 9 rfl ?_) | (refine sub_cons 10 rfl ?_) | (refine sub_cons 11 rfl ?_) | (refine sub_cons 12 rfl ?_) | (refine sub_cons 13 rfl ?_) | (refine sub_cons 14 rfl ?_) | (refine sub_cons 15 rfl ?_) | (refine sub_cons 16 rfl ?_) | (refine sub_cons 17 rfl ?_) | (refine sub_cons 18 rfl ?_) | (refine sub_cons 19 rfl ?_))); (first | exact sub_nil | exact sub_drop 0 rfl | exact sub_drop 1 rfl | exact sub_drop 2 rfl | exact sub_drop 3 rfl | exact sub_drop 4 rfl | exact sub_drop 5 rfl | exact sub_drop 6 rfl | exact sub_drop 7 rfl | exact sub_drop 8 rfl | exact sub_drop 9 rfl | exact sub_drop 10 rfl | exact sub_drop 11 rfl | exact sub_drop 12 rfl | exact sub_drop 13 rfl | exact sub_drop 14 rfl | exact sub_drop 15 rfl | exact sub_drop 16 rfl | exact sub_drop 17 rfl | exact sub_drop 18 rfl | exact sub_drop 19 rfl))
  case P0 =>
    refine ⟨⟨hA, hS, .inl rfl, Nat.le_refl _, Nat.le_refl _, Nat.le_refl _, Nat.le_refl _, Nat.le_refl _, Nat.le_refl _, ?_, ?_, ?_, ?_, ?_, ?_, ?_, ?_, ?_, ?_, .nil, .nil, ?_, .nil ?_, .nil, hd, ?_, hu⟩, ⟨?_, ?_, ?_, ?_, ?_, ?_, ?_, ?_, ?_⟩⟩
    all_goals dsimp only
    all_goals first | (intro _ h; exact nomatch h) | omega | (intro h; exfalso; omega) | (intro _; exact ⟨rfl, rfl⟩) | simp
  case K0 =>
    intro p hp
    rcases List.mem_cons.mp hp with rfl | hp
    · exact hk1
    · rcases List.mem_cons.mp hp with rfl | hp
      · exact hk2
      · exact nomatch hp
  case turn =>
    intro i t c u h tk own hi hP hoff F9 N9
    exact turn hord i t c u h tk own hi hP.1 hoff hP.2 (hP.2.app (own_offs hoff)) F9 N9
  case done =>
    intro c u h tk hP F9 N9
    exact done hord c u h tk hP.1 hP.2 F9 N9
end


end
section
theorem noneD8 : True := by
  k_with_none
  trivial
theorem stn_ne {z a : Str} {l : List Str} (h : l.contains z = false) (ha : l.contains a = true) : z ≠ a := fun e => by rw [e, ha] at h; cases h
section
variable {A AD S SD HL KL TR CD C1 C2 PL KP LL UR UL CE : Nat} {c1a c1b c2a c2b : Value} {c1t c2t : Tok} {kc ku0 : Nat} {us : List Value} {oc : Obj} {w : World} {i : Nat} {c : St} {h₀ h' : Heap} {L : Addr} {m' m₀ : Str → Option Value} {own : List (Addr × Obj)} {s₁ : Shared} {tk : Nat} {y : Str} {stn : List Str} {x z : Int} {tx tz : Tok} {ku : Nat}
theorem Inv.tops (I : Inv w S CD HL KL TR i c) : ∀ cp' : Int, cp' = 1 ∨ cp' = 2 → 0 ≤ topV c.e c.b cp' c.cnt ∧ topV c.e c.b cp' c.cnt ≤ c.ks.length ∧ (0 ≤ c.b → c.b + c.cnt + 8 ≤ topV c.e c.b cp' c.cnt) := fun cp' h =>
  (I.setcp (ea' := putL (Str.ofString "cp") 0 (.str (Str.ofString "cp") 0) (.int cp' 0) c.ea) (na' := 0) (u := 0) (cp' := cp') h (AIs.set_cp I.hA)).top
def EndOK (A AD S SD HL KL TR CD C1 C2 PL KP LL UR UL CE : Nat) (c1a c1b c2a c2b : Value) (c1t c2t : Tok) (kc ku0 : Nat) (us : List Value) (oc : Obj) (w : World) (i : Nat) (h₀ : Heap) (L : Addr) (y : Str) (stn : List Str) (m₀ : Str → Option Value) (own : List (Addr × Obj)) (s₁ s₂ : Shared) : Prop :=
  InvEndG h₀ L (fun m' nx => True ∧ LS (Led A AD S SD HL KL TR CD C1 C2 PL KP LL UR UL CE c1a c1b c2a c2b c1t c2t kc ku0 us oc) (fun c => [(Str.ofString "bound", Value.int c.hb c.tb), (Str.ofString "trailed", Value.int (c.ts.length : Int) c.tt)]) y stn m₀ (fun c => Inv w S CD HL KL TR (i + 1) c ∧ Offs AD SD HL KL TR PL KP LL UR c.xs) m' nx) own s₁ s₂
theorem way1 {v : Value} {kh' kl' : Nat} {t : Tok} (I : Inv w S CD HL KL TR i c) (of : Offs AD SD HL KL TR PL KP LL UR c.xs) (hoff : OwnOff own ((Led A AD S SD HL KL TR CD C1 C2 PL KP LL UR UL CE c1a c1b c2a c2b c1t c2t kc ku0 us oc c).map (·.1))) (hu : 0 ≤ x ∧ 0 ≤ z ∧ z ≤ 100) (F : Fr h₀ L h' m')
    (N : News h₀ L h' ((A, instObj 541 AD) :: (AD, dictOf c.ea c.na) :: (S, instObj 381 SD) :: (SD, dictOf c.es c.ns) :: (HL, listOf (c.hs ++ [v]).toArray kh') :: (KL, listOf (c.ks).toArray c.kk) :: (TR, listOf (c.ts).toArray c.kt) :: (CD, listOf ([.ref C1, .ref C2] : List Value).toArray kc) :: (C1, codeTup c1a c1b 2 c1t) :: (C2, codeTup c2a c2b 1 c2t) :: ((PL, listOf c.ps.toArray c.kp) :: (KP, c.ok) :: (LL, listOf (c.ls ++ [Value.int (c.hs.length : Int) t]).toArray kl') :: (UR, listOf ([.int x tx, .ref UL, .int z tz] : List Value).toArray ku) :: (UL, listOf us.toArray ku0) :: (CE, oc) :: (c.xs ++ own))))
    (hb : m' (Str.ofString "bound") = some (.int c.hb c.tb)) (ht : m' (Str.ofString "trailed") = some (.int (c.ts.length : Int) c.tt)) (hr : ∀ z, z ≠ y → z ≠ Str.ofString "bound" → z ≠ Str.ofString "trailed" → stn.contains z = false → m' z = m₀ z) :
    EndOK A AD S SD HL KL TR CD C1 C2 PL KP LL UR UL CE c1a c1b c2a c2b c1t c2t kc ku0 us oc w i h₀ L y stn m₀ own s₁ { s₁ with heap := h', toks := tk } := by
  refine turn_end (c := c) (c' := { c with hs := c.hs ++ [v], kh := kh', ls := c.ls ++ [.int (c.hs.length : Int) t], ln := c.ln ++ [(c.hs.length : Int)], kl := kl', x := x, z := z, tx := tx, tz := tz, ku := ku }) F N hoff (fun p hp => List.mem_append_left _ hp) (fun p hp => List.mem_append_right _ hp) (fun p hp => .inl hp) (I.var (own := own) hu) of ?_ ?_
  · intro p hp
    rcases List.mem_cons.mp hp with rfl | hp
    · exact hb
    · rcases List.mem_cons.mp hp with rfl | hp
      · exact ht
      · exact nomatch hp
  · exact fun z h1 h2 h3 => hr z h1 (h2 _ (.head _)) (h2 _ (.tail _ (.head _))) h3
theorem way2 {v : Value} {ts' r : List Value} {rn : List Int} {kt' kl' : Nat} {a n : Int} {ta tt' : Tok} (I : Inv w S CD HL KL TR i c) (of : Offs AD SD HL KL TR PL KP LL UR c.xs) (hoff : OwnOff own ((Led A AD S SD HL KL TR CD C1 C2 PL KP LL UR UL CE c1a c1b c2a c2b c1t c2t kc ku0 us oc c).map (·.1))) (hu : 0 ≤ x ∧ 0 ≤ z ∧ z ≤ 100) (F : Fr h₀ L h' m') {x1 x2 : Addr × Obj} {w9 : Value}
    (N : News h₀ L h' ((A, instObj 541 AD) :: (AD, dictOf c.ea c.na) :: (S, instObj 381 SD) :: (SD, dictOf c.es c.ns) :: (HL, listOf ((c.hs.set a.toNat v)).toArray c.kh) :: (KL, listOf (c.ks).toArray c.kk) :: (TR, listOf (ts').toArray kt') :: (CD, listOf ([.ref C1, .ref C2] : List Value).toArray kc) :: (C1, codeTup c1a c1b 2 c1t) :: (C2, codeTup c2a c2b 1 c2t) :: (x1 :: x2 :: (PL, listOf c.ps.toArray c.kp) :: (KP, c.ok) :: (LL, listOf r.toArray kl') :: (UR, listOf ([.int x tx, .ref UL, .int z tz] : List Value).toArray ku) :: (UL, listOf us.toArray ku0) :: (CE, oc) :: (c.xs ++ own))))
    (hl : c.ls = .int a ta :: r) (hn : c.ln = a :: rn) (hts : a < c.hb ∧ ts' = c.ts ++ [w9] ∨ c.hb ≤ a ∧ ts' = c.ts)
    (hb : m' (Str.ofString "bound") = some (.int c.hb c.tb)) (ht : m' (Str.ofString "trailed") = some (.int n tt')) (hn9 : n = (c.ts.length : Int) + 1 ∧ a < c.hb ∨ n = (c.ts.length : Int) ∧ ¬ a < c.hb) (hr : ∀ z, z ≠ y → z ≠ Str.ofString "bound" → z ≠ Str.ofString "trailed" → stn.contains z = false → m' z = m₀ z) :
    EndOK A AD S SD HL KL TR CD C1 C2 PL KP LL UR UL CE c1a c1b c2a c2b c1t c2t kc ku0 us oc w i h₀ L y stn m₀ own s₁ { s₁ with heap := h', toks := tk } := by
  have hq : (ts'.length : Int) = n ∧ ts'.length ≤ c.ts.length + 1 := by
    rcases hts with ⟨h1, rfl⟩ | ⟨h1, rfl⟩
    · rw [List.length_append, List.length_singleton]; omega
    · omega
  obtain ⟨htn, htl⟩ := hq
  refine turn_end (c := c) (c' := { c with hs := c.hs.set a.toNat v, kh := c.kh, ls := r, ln := rn, kl := kl', ts := ts', kt := kt', tt := tt', x := x, z := z, tx := tx, tz := tz, ku := ku }) F (news_sub N (by ((repeat (first | (refine sub_cons 0 rfl ?_) | (refine sub_cons 1 rfl ?_) | (refine sub_cons 2 rfl ?_) | (refine sub_cons 3 rfl ?_) | (refine sub_cons 4 rfl ?_) | (refine sub_cons 5 rfl ?_) | (refine sub_cons 6 rfl ?_) | (refine sub_cons 7 rfl ?_) | (refine sub_cons 8 rfl ?_) | (refine sub_cons 9 rfl ?_) | (refine sub_cons 10 rfl ?_) | (refine sub_cons 11 rfl ?_) | (refine sub_cons 12 rfl ?_) | (refine sub_cons 13 rfl ?_) | (refine sub_cons 14 rfl ?_) | (refine sub_cons 15 rfl ?_) | (refine sub_cons 16 rfl ?_) | (refine sub_cons 17 rfl ?_) | (refine sub_cons 18 rfl ?_) | (refine sub_cons 19 rfl ?_) | (refine sub_cons 20 rfl ?_) | (refine sub_cons 21 rfl ?_))); (first | exact sub_nil | exact sub_drop 0 rfl | exact sub_drop 1 rfl | exact sub_drop 2 rfl | exact sub_drop 3 rfl | exact sub_drop 4 rfl | exact sub_drop 5 rfl | exact sub_drop 6 rfl | exact sub_drop 7 rfl | exact sub_drop 8 rfl | exact sub_drop 9 rfl | exact sub_drop 10 rfl | exact sub_drop 11 rfl | exact sub_drop 12 rfl | exact sub_drop 13 rfl | exact sub_drop 14 rfl | exact sub_drop 15 rfl | exact sub_drop 16 rfl | exact sub_drop 17 rfl | exact sub_drop 18 rfl | exact sub_drop 19 rfl | exact sub_drop 20 rfl | exact sub_drop 21 rfl)))) hoff (fun p hp => List.mem_append_left _ hp) (fun p hp => List.mem_append_right _ hp) (fun p hp => .inl hp) (I.bound (v := v) (hs' := c.hs.set a.toNat v) hu hl hn (List.length_set) htl) of ?_ ?_
  · intro p hp
    rcases List.mem_cons.mp hp with rfl | hp
    · exact hb
    · rcases List.mem_cons.mp hp with rfl | hp
      · exact ht.trans (by rw [htn])
      · exact nomatch hp
  · exact fun z h1 h2 h3 => hr z h1 (h2 _ (.head _)) (h2 _ (.tail _ (.head _))) h3
theorem way3 {ea' : List DictEntry} {na' kk' : Nat} {cp' : Int} {u u2' : Tok} {vals : List Value} (I : Inv w S CD HL KL TR i c) (of : Offs AD SD HL KL TR PL KP LL UR c.xs) (hoff : OwnOff own ((Led A AD S SD HL KL TR CD C1 C2 PL KP LL UR UL CE c1a c1b c2a c2b c1t c2t kc ku0 us oc c).map (·.1))) (hu : 0 ≤ x ∧ 0 ≤ z ∧ z ≤ 100) (F : Fr h₀ L h' m')
    (N : News h₀ L h' ((A, instObj 541 AD) :: (AD, dictOf ea' na') :: (S, instObj 381 SD) :: (SD, dictOf c.es c.ns) :: (HL, listOf (c.hs).toArray c.kh) :: (KL, listOf ((putSeq c.ks (topV c.e c.b cp' c.cnt) vals)).toArray kk') :: (TR, listOf (c.ts).toArray c.kt) :: (CD, listOf ([.ref C1, .ref C2] : List Value).toArray kc) :: (C1, codeTup c1a c1b 2 c1t) :: (C2, codeTup c2a c2b 1 c2t) :: ((PL, listOf c.ps.toArray c.kp) :: (KP, c.ok) :: (LL, listOf c.ls.toArray c.kl) :: (UR, listOf ([.int x tx, .ref UL, .int z tz] : List Value).toArray ku) :: (UL, listOf us.toArray ku0) :: (CE, oc) :: (c.xs ++ own))))
    (hcp : cp' = 1 ∨ cp' = 2) (hA : AIs ea' S CD cp' (topV c.e c.b cp' c.cnt) c.b c.b0 u u2' c.u3 c.u4) (hv : vals.length = 4)
    (hb : m' (Str.ofString "bound") = some (.int c.hb c.tb)) (ht : m' (Str.ofString "trailed") = some (.int (c.ts.length : Int) c.tt)) (hr : ∀ z, z ≠ y → z ≠ Str.ofString "bound" → z ≠ Str.ofString "trailed" → stn.contains z = false → m' z = m₀ z) :
    EndOK A AD S SD HL KL TR CD C1 C2 PL KP LL UR UL CE c1a c1b c2a c2b c1t c2t kc ku0 us oc w i h₀ L y stn m₀ own s₁ { s₁ with heap := h', toks := tk } := by
  have I1 := I.setcp (ea' := putL (Str.ofString "cp") 0 (.str (Str.ofString "cp") 0) (.int cp' u) c.ea) (na' := 0) (u := u) hcp (AIs.set_cp I.hA)
  have I2 := I1.urn (x := x) (z := z) (tx := tx) (tz := tz) (ku := ku) hu
  have I3 := I2.env (ea' := ea') (na' := na') (kk' := kk') (u := u2') (vals := vals) hv hA
  refine turn_end (c := c) (c' := { c with ea := ea', na := na', cp := cp', u1 := u, e := topV c.e c.b cp' c.cnt, u2 := u2', ks := putSeq c.ks (topV c.e c.b cp' c.cnt) vals, kk := kk', x := x, z := z, tx := tx, tz := tz, ku := ku }) F N hoff (fun p hp => List.mem_append_left _ hp) (fun p hp => List.mem_append_right _ hp) (fun p hp => .inl hp) I3 of ?_ ?_
  · intro p hp
    rcases List.mem_cons.mp hp with rfl | hp
    · exact hb
    · rcases List.mem_cons.mp hp with rfl | hp
      · exact ht
      · exact nomatch hp
  · exact fun z h1 h2 h3 => hr z h1 (h2 _ (.head _)) (h2 _ (.tail _ (.head _))) h3
theorem way4 {ea' : List DictEntry} {na' : Nat} {u : Tok} {b0' : Int} (I : Inv w S CD HL KL TR i c) (of : Offs AD SD HL KL TR PL KP LL UR c.xs) (hoff : OwnOff own ((Led A AD S SD HL KL TR CD C1 C2 PL KP LL UR UL CE c1a c1b c2a c2b c1t c2t kc ku0 us oc c).map (·.1))) (hu : 0 ≤ x ∧ 0 ≤ z ∧ z ≤ 100) (F : Fr h₀ L h' m')
    (N : News h₀ L h' ((A, instObj 541 AD) :: (AD, dictOf ea' na') :: (S, instObj 381 SD) :: (SD, dictOf c.es c.ns) :: (HL, listOf (c.hs).toArray c.kh) :: (KL, listOf (c.ks).toArray c.kk) :: (TR, listOf (c.ts).toArray c.kt) :: (CD, listOf ([.ref C1, .ref C2] : List Value).toArray kc) :: (C1, codeTup c1a c1b 2 c1t) :: (C2, codeTup c2a c2b 1 c2t) :: ((PL, listOf c.ps.toArray c.kp) :: (KP, c.ok) :: (LL, listOf c.ls.toArray c.kl) :: (UR, listOf ([.int x tx, .ref UL, .int z tz] : List Value).toArray ku) :: (UL, listOf us.toArray ku0) :: (CE, oc) :: (c.xs ++ own))))
    (hA : AIs ea' S CD c.cp c.e c.b b0' c.u1 c.u2 c.u3 u)
    (hb : m' (Str.ofString "bound") = some (.int c.hb c.tb)) (ht : m' (Str.ofString "trailed") = some (.int (c.ts.length : Int) c.tt)) (hr : ∀ z, z ≠ y → z ≠ Str.ofString "bound" → z ≠ Str.ofString "trailed" → stn.contains z = false → m' z = m₀ z) :
    EndOK A AD S SD HL KL TR CD C1 C2 PL KP LL UR UL CE c1a c1b c2a c2b c1t c2t kc ku0 us oc w i h₀ L y stn m₀ own s₁ { s₁ with heap := h', toks := tk } := by
  refine turn_end (c := c) (c' := { c with ea := ea', na := na', b0 := b0', u4 := u, x := x, z := z, tx := tx, tz := tz, ku := ku }) F N hoff (fun p hp => List.mem_append_left _ hp) (fun p hp => List.mem_append_right _ hp) (fun p hp => .inl hp) (I.barrier hu hA) of ?_ ?_
  · intro p hp
    rcases List.mem_cons.mp hp with rfl | hp
    · exact hb
    · rcases List.mem_cons.mp hp with rfl | hp
      · exact ht
      · exact nomatch hp
  · exact fun z h1 h2 h3 => hr z h1 (h2 _ (.head _)) (h2 _ (.tail _ (.head _))) h3
theorem way0 {ea' es' : List DictEntry} {na' ns' kk' kp' kg ke T9 G En : Nat} {o : Int} {ot t1 t2 t3 tb' u3' v1' v2' u9 : Tok} {gs evs : List Value} {ok' : Obj} (I : Inv w S CD HL KL TR i c) (of : Offs AD SD HL KL TR PL KP LL UR c.xs) (hoff : OwnOff own ((Led A AD S SD HL KL TR CD C1 C2 PL KP LL UR UL CE c1a c1b c2a c2b c1t c2t kc ku0 us oc c).map (·.1))) (hu : 0 ≤ x ∧ 0 ≤ z ∧ z ≤ 100) (F : Fr h₀ L h' m') (N : News h₀ L h' ((T9, ({ cls := .type "tuple", data := .seq ([.ref G, .ref En] : List Value).toArray 0 } : Obj)) :: ((A, instObj 541 AD) :: (AD, dictOf ea' na') :: (S, instObj 381 SD) :: (SD, dictOf es' ns') :: (HL, listOf (c.hs).toArray c.kh) :: (KL, listOf ((putSeq c.ks (topV c.e c.b c.cp c.cnt) (.int (gs.length : Int) t1 :: (gs ++ [.int c.e c.u2, .int c.cp c.u1, .int c.b c.u3, .int o ot, .int (c.ts.length : Int) t2, .int (c.hs.length : Int) t3, .int c.b0 c.u4])))).toArray kk') :: (TR, listOf (c.ts).toArray c.kt) :: (CD, listOf ([.ref C1, .ref C2] : List Value).toArray kc) :: (C1, codeTup c1a c1b 2 c1t) :: (C2, codeTup c2a c2b 1 c2t) :: ((PL, listOf (c.ps ++ [Value.int (topV c.e c.b c.cp c.cnt) u9]).toArray kp') :: (KP, ok') :: (LL, listOf c.ls.toArray c.kl) :: (UR, listOf ([.int x tx, .ref UL, .int z tz] : List Value).toArray ku) :: (UL, listOf us.toArray ku0) :: (CE, oc) :: (En, listOf evs.toArray ke) :: (G, listOf gs.toArray kg) :: (c.xs ++ own)))))
    (hi : i ≤ 9) (hg2 : gs.length ≤ 2) (hG : (@Ne Nat AD G) ∧ (@Ne Nat SD G) ∧ (@Ne Nat HL G) ∧ (@Ne Nat KL G) ∧ (@Ne Nat TR G) ∧ (@Ne Nat PL G) ∧ (@Ne Nat KP G) ∧ (@Ne Nat LL G) ∧ (@Ne Nat UR G) ∧ ∀ p : Addr × Obj, p ∈ c.xs ++ own → p.1 ≠ G) (hE : LL < En ∧ ∀ p : Addr × Obj, p ∈ c.xs ++ own → @LT.lt Nat _ p.1 En) (hT : LL < T9 ∧ ∀ p : Addr × Obj, p ∈ c.xs ++ own → @LT.lt Nat _ p.1 T9) (hord : Ords A AD S SD HL KL TR CD C1 C2 PL KP LL UR UL CE)
    (ei : IntsAre evs [c.e, c.cp, c.b, o, (c.ts.length : Int), (c.hs.length : Int), c.b0]) (hd : ok'.IsDictOf (PySem.intKind PySem.Challenge.rw_rh0105_01.row.prog w) (stored c.kvs (topV c.e c.b c.cp c.cnt) (.ref T9)))
    (hA : AIs ea' S CD c.cp c.e (topV c.e c.b c.cp c.cnt) c.b0 c.u1 c.u2 u3' c.u4) (hS : SIs es' HL KL TR (c.hs.length : Int) (topV c.e c.b c.cp c.cnt) v1' v2' c.v3)
    (hb : m' (Str.ofString "bound") = some (.int (c.hs.length : Int) tb')) (ht : m' (Str.ofString "trailed") = some (.int (c.ts.length : Int) c.tt)) (hr : ∀ z, z ≠ y → z ≠ Str.ofString "bound" → z ≠ Str.ofString "trailed" → stn.contains z = false → m' z = m₀ z) :
    EndOK A AD S SD HL KL TR CD C1 C2 PL KP LL UR UL CE c1a c1b c2a c2b c1t c2t kc ku0 us oc w i h₀ L y stn m₀ own s₁ { s₁ with heap := h', toks := tk } := by
  have I1 := I.urn (x := x) (z := z) (tx := tx) (tz := tz) (ku := ku) hu
  have I2 := I1.push (ea' := ea') (es' := es') (na' := na') (ns' := ns') (kk' := kk') (kp' := kp') (kg := kg) (ke := ke) (T9 := T9) (G := G) (En := En) (o := o) (ot := ot) (t1 := t1) (t2 := t2) (t3 := t3) (tb' := tb') (u3' := u3') (v1' := v1') (v2' := v2') (u9 := u9) (gs := gs) (evs := evs) (ok' := ok')
    (xs' := (T9, ({ cls := .type "tuple", data := .seq ([.ref G, .ref En] : List Value).toArray 0 } : Obj)) :: (En, listOf evs.toArray ke) :: (G, listOf gs.toArray kg) :: c.xs) hA hS hi hg2 (fun p hp => .tail _ (.tail _ (.tail _ hp))) (.head _) (.tail _ (.tail _ (.head _))) (.tail _ (.head _)) ei hd
  obtain ⟨q0, q1, q2, q3, q4, q5, q6, q7, q8, q9, q10, q11, q12, q13, q14⟩ := hord
  have e : ∀ {a b : Nat} {z : Obj}, a ≠ b → (a, z).1 ≠ b := fun h => h
  obtain ⟨g1, g2, g3, g4, g5, g6, g7, g8, g9, hG⟩ := hG
  have e3 : ∀ {d : Nat}, d ≤ LL → d ≠ G → (∀ p ∈ c.xs, p.1 ≠ d) → ∀ p ∈ (T9, ({ cls := .type "tuple", data := .seq ([.ref G, .ref En] : List Value).toArray 0 } : Obj)) :: (En, listOf evs.toArray ke) :: (G, listOf gs.toArray kg) :: c.xs, p.1 ≠ d := fun hd hg hx =>
    List.forall_mem_cons.mpr ⟨e (by have := hT.1; omega), List.forall_mem_cons.mpr ⟨e (by have := hE.1; omega), List.forall_mem_cons.mpr ⟨e (Ne.symm hg), hx⟩⟩⟩
  refine turn_end (c := c) (rest := (T9, ({ cls := .type "tuple", data := .seq ([.ref G, .ref En] : List Value).toArray 0 } : Obj)) :: (En, listOf evs.toArray ke) :: (G, listOf gs.toArray kg) :: (c.xs ++ own)) F (news_sub N (by ((repeat (first | (refine sub_cons 0 rfl ?_) | (refine sub_cons 1 rfl ?_) | (refine sub_cons 2 rfl ?_) | (refine sub_cons 3 rfl ?_) | (refine sub_cons 4 rfl ?_) | (refine sub_cons 5 rfl ?_) | (refine sub_cons 6 rfl ?_) | (refine sub_cons 7 rfl ?_) | (refine sub_cons 8 rfl ?_) | (refine sub_cons 9 rfl ?_) | (refine sub_cons 10 rfl ?_) | (refine sub_cons 11 rfl ?_) | (refine sub_cons 12 rfl ?_) | (refine sub_cons 13 rfl ?_) | (refine sub_cons 14 rfl ?_) | (refine sub_cons 15 rfl ?_) | (refine sub_cons 16 rfl ?_) | (refine sub_cons 17 rfl ?_) | (refine sub_cons 18 rfl ?_) | (refine sub_cons 19 rfl ?_) | (refine sub_cons 20 rfl ?_) | (refine sub_cons 21 rfl ?_))); (first | exact sub_nil | exact sub_drop 0 rfl | exact sub_drop 1 rfl | exact sub_drop 2 rfl | exact sub_drop 3 rfl | exact sub_drop 4 rfl | exact sub_drop 5 rfl | exact sub_drop 6 rfl | exact sub_drop 7 rfl | exact sub_drop 8 rfl | exact sub_drop 9 rfl | exact sub_drop 10 rfl | exact sub_drop 11 rfl | exact sub_drop 12 rfl | exact sub_drop 13 rfl | exact sub_drop 14 rfl | exact sub_drop 15 rfl | exact sub_drop 16 rfl | exact sub_drop 17 rfl | exact sub_drop 18 rfl | exact sub_drop 19 rfl | exact sub_drop 20 rfl | exact sub_drop 21 rfl)))) hoff ?_ (fun p hp => .tail _ (.tail _ (.tail _ (List.mem_append_right _ hp)))) ?_ I2 ⟨e3 (by omega) g1 of.ad, e3 (by omega) g2 of.sd, e3 (by omega) g3 of.hl, e3 (by omega) g4 of.kl, e3 (by omega) g5 of.tr, e3 (by omega) g6 of.pl, e3 (by omega) g7 of.kp, e3 (by omega) g8 of.ll, e3 (by omega) g9 of.ur⟩ ?_ ?_
  · intro p hp
    rcases List.mem_cons.mp hp with rfl | hp
    · exact .head _
    rcases List.mem_cons.mp hp with rfl | hp
    · exact .tail _ (.head _)
    rcases List.mem_cons.mp hp with rfl | hp
    · exact .tail _ (.tail _ (.head _))
    · exact .tail _ (.tail _ (.tail _ (List.mem_append_left _ hp)))
  · intro p hp
    rcases List.mem_cons.mp hp with rfl | hp
    · exact .inr fun q hq h => by have h1 := hT.2 q (List.mem_append_right _ hq); rw [h] at h1; exact absurd (show T9 < T9 from h1) (by omega)
    rcases List.mem_cons.mp hp with rfl | hp
    · exact .inr fun q hq h => by have h1 := hE.2 q (List.mem_append_right _ hq); rw [h] at h1; exact absurd (show En < En from h1) (by omega)
    rcases List.mem_cons.mp hp with rfl | hp
    · exact .inr fun q hq => hG q (List.mem_append_right _ hq)
    · exact .inl hp
  · intro p hp
    rcases List.mem_cons.mp hp with rfl | hp
    · exact hb
    · rcases List.mem_cons.mp hp with rfl | hp
      · exact ht
      · exact nomatch hp
  · exact fun z h1 h2 h3 => hr z h1 (h2 _ (.head _)) (h2 _ (.tail _ (.head _))) h3
end


end
section
theorem noneD9 : True := by
  k_with_none
  trivial
def BOK (c : St) (b hb bb : Int) : Prop := (b = -1 ∧ hb = 0 ∧ bb = 0) ∨ (b ∈ c.pn ∧ bb = b ∧ KeptX c.xs c.kvs c.ks b hb (c.b + c.cnt))
section
variable {w : World} {S CD HL KL TR i : Nat} {c : St}
theorem Inv.bok (I : Inv w S CD HL KL TR i c) : BOK c c.b c.hb c.bb := by
  rcases I.ch.head with ⟨hb, _⟩ | ⟨hb, r, e⟩
  · have h1 := I.bn hb
    have h2 := I.b1
    exact .inl ⟨by omega, h1.1, h1.2⟩
  · have hm : c.b ∈ c.pn := List.mem_reverse.mp (by rw [e]; exact .head _)
    obtain ⟨_, _, hb', k, he⟩ := I.ke c.b hm
    refine .inr ⟨hm, I.bp hb, ?_⟩
    have := he rfl
    subst this
    exact k
theorem Inv.at (I : Inv w S CD HL KL TR i c) {x : Int} (hx : x ∈ -1 :: c.pn) : ∃ (cnt : Int) (ct : Tok) (hv : Int) (ht : Tok), (0 ≤ x → c.ks[x.toNat]? = some (.int cnt ct)) ∧ (0 ≤ x → c.ks[(x + cnt + 6).toNat]? = some (.int hv ht)) ∧ (0 ≤ x → 0 ≤ cnt ∧ cnt ≤ 2) ∧ (0 ≤ x → x ∈ c.pn ∧ KeptX c.xs c.kvs c.ks x hv (c.b + c.cnt)) ∧ x ≤ c.b ∧ -1 ≤ x := by
  have hb1 := I.b1
  rcases List.mem_cons.mp hx with rfl | hx
  · exact ⟨0, 0, 0, 0, fun h => absurd h (by decide), fun h => absurd h (by decide), fun h => absurd h (by decide), fun h => absurd h (by decide), hb1, Int.le_refl _⟩
  · obtain ⟨h0, h1, hb', k, _⟩ := I.ke x hx
    obtain ⟨T9, G, En, kg, ke, evs, gs, e7, cnt, ct, k, hle⟩ := id k
    obtain ⟨t, ht⟩ := k.pt 6 (by omega) (by omega)
    have h5 : e7.getD (6 - 1 : Int).toNat 0 = hb' := by
      rw [List.getD_eq_getElem?_getD]; show (e7[5]?).getD 0 = hb'; rw [k.e5]; rfl
    rw [h5] at ht
    have hg := k.g2
    have hc := k.cg
    exact ⟨cnt, ct, hb', t, fun _ => k.c0, fun _ => ht, fun _ => by omega, fun _ => ⟨hx, T9, G, En, kg, ke, evs, gs, e7, cnt, ct, k, hle⟩, h1, by omega⟩
theorem bok_cut {b hb bb b' hb' bb' x hv : Int} (B : BOK c b hb bb) (hm : -1 ≤ x) (hk : 0 ≤ x → x ∈ c.pn ∧ KeptX c.xs c.kvs c.ks x hv (c.b + c.cnt)) (h : b ≤ x ∧ b' = b ∧ hb' = hb ∧ bb' = bb ∨ x < b ∧ b' = x ∧ (x < 0 ∧ hb' = 0 ∧ bb' = 0 ∨ 0 ≤ x ∧ hb' = hv ∧ bb' = x)) : BOK c b' hb' bb' ∧ b' = min b x := by
  rcases h with ⟨h1, rfl, rfl, rfl⟩ | ⟨h1, rfl, h2⟩
  · exact ⟨B, by omega⟩
  · refine ⟨?_, by omega⟩
    rcases h2 with ⟨h3, rfl, rfl⟩ | ⟨h3, rfl, rfl⟩
    · exact .inl ⟨by omega, rfl, rfl⟩
    · exact .inr ⟨(hk h3).1, rfl, (hk h3).2⟩
theorem bok_set {hb' bb' x hv : Int} (hm : -1 ≤ x) (hk : 0 ≤ x → x ∈ c.pn ∧ KeptX c.xs c.kvs c.ks x hv (c.b + c.cnt)) (h : x < 0 ∧ hb' = 0 ∧ bb' = 0 ∨ 0 ≤ x ∧ hb' = hv ∧ bb' = x) : BOK c x hb' bb' := by
  rcases h with ⟨h3, rfl, rfl⟩ | ⟨h3, rfl, rfl⟩
  · exact .inl ⟨by omega, rfl, rfl⟩
  · exact .inr ⟨(hk h3).1, rfl, (hk h3).2⟩
theorem Inv.chainAt (I : Inv w S CD HL KL TR i c) {x : Int} (hx : x ∈ -1 :: c.pn) : Chain c.ks x ((c.pn.filter fun y => decide (y ≤ x)).reverse) := by
  rcases List.mem_cons.mp hx with rfl | hx
  · have : (c.pn.filter fun y => decide (y ≤ -1)) = [] := List.filter_eq_nil_iff.mpr fun y hy => by
      have := (I.ke y hy).1
      simp; omega
    rw [this]
    exact .nil (by decide)
  · rw [← List.filter_reverse]
    refine Chain.suffix I.ch ?_ (List.mem_reverse.mpr hx)
    rw [List.pairwise_reverse]
    exact I.up
theorem Inv.bm (I : Inv w S CD HL KL TR i c) : c.b ∈ -1 :: c.pn := by
  rcases I.ch.head with ⟨hb, _⟩ | ⟨hb, r, e⟩
  · have := I.b1
    rw [show c.b = -1 by omega]
    exact .head _
  · exact .tail _ (List.mem_reverse.mp (by rw [e]; exact .head _))
theorem Inv.le_b (I : Inv w S CD HL KL TR i c) {x : Int} (hx : x ∈ -1 :: c.pn) : x ≤ c.b ∧ -1 ≤ x := by
  obtain ⟨_, _, _, _, _, _, _, _, h1, h2⟩ := I.at hx
  exact ⟨h1, h2⟩
theorem Inv.marks (I : Inv w S CD HL KL TR i c) {t0 : Tok} : ∃ t, (Value.int (-1) t0 :: c.ps)[(Value.int (-1) t0 :: c.ps).length - 1]? = some (.int c.b t) := by
  rcases I.ch.head with ⟨hb, e⟩ | ⟨hb, r, e⟩
  · have : c.pn = [] := by have := congrArg List.length e; rw [List.length_reverse] at this; exact List.eq_nil_of_length_eq_zero this
    have hl := I.pi.length
    rw [this] at hl
    have hp : c.ps = [] := List.eq_nil_of_length_eq_zero hl
    have := I.b1
    rw [hp, show c.b = -1 by omega]
    exact ⟨t0, rfl⟩
  · obtain ⟨t, ht⟩ := ints_last I.pi e
    have hl : c.ps.length ≠ 0 := fun h => by
      rw [List.eq_nil_of_length_eq_zero h] at ht
      cases ht
    refine ⟨t, ?_⟩
    rw [List.length_cons, show c.ps.length + 1 - 1 = (c.ps.length - 1) + 1 by omega, List.getElem?_cons_succ]
    exact ht
theorem bok_neg {b hb bb : Int} (I : Inv w S CD HL KL TR i c) (B : BOK c b hb bb) : b < 0 → hb = 0 ∧ bb = 0 := fun h => by
  rcases B with ⟨_, h1⟩ | ⟨h1, _⟩
  · exact h1
  · have := (I.ke b h1).1; omega
theorem bok_pos {b hb bb : Int} {tl : List (Addr × Obj)} (B : BOK c b hb bb) (hs : ∀ p ∈ c.xs, p ∈ tl) : 0 ≤ b → bb = b ∧ ∃ T9 G En kg ke evs gs e7 cnt ct, KeptAt tl c.kvs c.ks b hb T9 G En kg ke evs gs e7 cnt ct := fun h => by
  rcases B with ⟨h1, _⟩ | ⟨_, h1, k⟩
  · omega
  · obtain ⟨T9, G, En, kg, ke, evs, gs, e7, cnt, ct, k, _⟩ := k
    exact ⟨h1, T9, G, En, kg, ke, evs, gs, e7, cnt, ct, k.mono hs⟩
end
section
variable {prog : Program} {w : World} {A : Around} {E : Value → Shared → Prop} {s : Shared} {h₀ : Heap} {L D : Addr} {news : List (Addr × Obj)} {its : List Value} {ns : List Int} {n : Nat}
theorem m_some {value slice : Expr} {k : Int} {u : Tok} {Q : Value → Shared → Prop} (N : News h₀ L s.heap news) (hm : (D, listOf its.toArray n) ∈ news) (hi : IntsAre its ns) (h0 : 0 ≤ k) (h1 : k < (its.length : Int)) (hz : its.length ≤ 1000) (h : ∀ x t, x ∈ ns → Q (.int x t) s)
    (hs : subscripted slice false (.ref D) (.int k u) = operate [.ref D, .int k u] (getItem (.ref D) (.int k u)) := by with_unfolding_all rfl) :
    wpAny (model prog w) A (subscriptTail value slice (.ref D) (.int k u)) Q E s := by
  have hl := hi.length
  have hlt : k.toNat < ns.length := by omega
  obtain ⟨t, ht⟩ := hi.get k.toNat ns[k.toNat] (List.getElem?_eq_getElem hlt)
  exact kba_turn (value' := PySem.Expr.Name (PySem.Str.ofString "_") ⟨0, 0, 0, 0⟩) (fun _ => rfl) (m_item N hm h0 (by omega) ht (h _ t (List.getElem_mem hlt)) hs (fun _ => rfl))
theorem m_copy {m : Str → Option Value} {Q : Value → Shared → Prop} (F : Fr h₀ L s.heap m) (N : News h₀ L s.heap news) (hm : (D, listOf its.toArray n) ∈ news) (hz : its.length ≤ 1000)
    (h : ∀ (B : Nat) k h', Fr h₀ L h' m → News h₀ L h' ((B, listOf its.toArray k) :: news) → (∀ q ∈ news, q.1 < B) → Q (.ref B) { s with heap := h' }) : wpAny (model prog w) A (call (.type "list") [.ref D]) Q E s :=
  PySem.W.kup_listOf (zs := its) F N hm (by simp) h (by simp only [List.toList_toArray]; rw [sizeLine_eq]; omega)
theorem m_cat {m : Str → Option Value} {D2 : Nat} {its2 : List Value} {n2 : Nat} {Q : Value → Shared → Prop} (F : Fr h₀ L s.heap m) (N : News h₀ L s.heap news) (hm : (D, listOf its.toArray n) ∈ news) (hm2 : (D2, listOf its2.toArray n2) ∈ news) (hz : its.length + its2.length ≤ 1000)
    (h : ∀ (B : Nat) h', Fr h₀ L h' m → News h₀ L h' ((B, listOf (its ++ its2).toArray 0) :: news) → (∀ q ∈ news, q.1 < B) → Q (.ref B) { s with heap := h' }) : wpAny (model prog w) A (binaryOp .Add (.ref D) (.ref D2)) Q E s :=
  PySem.W.kmk_add_lit F N (m_isList N hm) (m_isList N hm2) (by simp) h (by simp only [List.size_toArray]; rw [sizeLine_eq]; omega)
end
theorem news_tail {h₀ h : Heap} {L : Addr} {x : Addr × Obj} {l : List (Addr × Obj)} (N : News h₀ L h (x :: l)) : News h₀ L h l := fun p hp => N p (.tail _ hp)


end
section
theorem noneD10 : True := by
  k_with_none
  trivial
set_option genInjectivity false in
set_option genSizeOf false in
structure Cu where
  (ea es : List DictEntry) (na ns : Nat) (b hb bb : Int) (u3 v1 v2 : Tok)
structure CuOK (S CD HL KL TR : Nat) (c : St) (d : Cu) : Prop where
  hA : AIs d.ea S CD c.cp c.e d.b c.b0 c.u1 c.u2 d.u3 c.u4
  hS : SIs d.es HL KL TR d.hb d.bb d.v1 d.v2 c.v3
  bo : BOK c d.b d.hb d.bb
section
variable {A AD S SD HL KL TR CD C1 C2 PL KP : Nat} {c1a c1b c2a c2b : Value} {c1t c2t : Tok} {kc : Nat} {c : St}
def LedE (A AD S SD HL KL TR CD C1 C2 PL KP : Nat) (c1a c1b c2a c2b : Value) (c1t c2t : Tok) (kc : Nat) (c : St) (X : List (Addr × Obj)) (d : Cu) : List (Addr × Obj) := ((A, instObj 541 AD) :: (AD, dictOf d.ea d.na) :: (S, instObj 381 SD) :: (SD, dictOf d.es d.ns) :: (HL, listOf (c.hs).toArray c.kh) :: (KL, listOf (c.ks).toArray c.kk) :: (TR, listOf (c.ts).toArray c.kt) :: (CD, listOf ([.ref C1, .ref C2] : List Value).toArray kc) :: (C1, codeTup c1a c1b 2 c1t) :: (C2, codeTup c2a c2b 1 c2t) :: ((PL, listOf c.ps.toArray c.kp) :: (KP, c.ok) :: X))
theorem offE {X own : List (Addr × Obj)} {d : Cu} (h : Off AD SD HL KL TR ((PL, listOf c.ps.toArray c.kp) :: (KP, c.ok) :: X)) (ho : OwnOff own ((LedE A AD S SD HL KL TR CD C1 C2 PL KP c1a c1b c2a c2b c1t c2t kc c X d).map (·.1))) : Off AD SD HL KL TR ((PL, listOf c.ps.toArray c.kp) :: (KP, c.ok) :: (X ++ own)) := by
  obtain ⟨h1, h2, h3, h4, h5⟩ := h
  have k : ∀ {a : Nat}, (a ∈ (LedE A AD S SD HL KL TR CD C1 C2 PL KP c1a c1b c2a c2b c1t c2t kc c X d).map (·.1)) → (∀ p ∈ (PL, listOf c.ps.toArray c.kp) :: (KP, c.ok) :: X, p.1 ≠ a) → ∀ p ∈ (PL, listOf c.ps.toArray c.kp) :: (KP, c.ok) :: (X ++ own), p.1 ≠ a := fun ha hx p hp => by
    rcases List.mem_cons.mp hp with rfl | hp
    · exact hx _ (.head _)
    · rcases List.mem_cons.mp hp with rfl | hp
      · exact hx _ (.tail _ (.head _))
      · rcases List.mem_append.mp hp with hp | hp
        · exact hx _ (.tail _ (.tail _ hp))
        · exact ho p hp _ ha
  unfold LedE at k
  simp only [List.map_cons] at k
  exact ⟨k (by simp) h1, k (by simp) h2, k (by simp) h3, k (by simp) h4, k (by simp) h5⟩
theorem ledE_app {X own : List (Addr × Obj)} {d : Cu} : LedE A AD S SD HL KL TR CD C1 C2 PL KP c1a c1b c2a c2b c1t c2t kc c X d ++ own = LedE A AD S SD HL KL TR CD C1 C2 PL KP c1a c1b c2a c2b c1t c2t kc c (X ++ own) d := rfl
variable {prog : Program} {w : World} {Ar : Around} {E : Value → Shared → Prop} {s : Shared} {env : Env} {h₀ : Heap} {y : Str} {body : List Stmt} {Q : Flow → Shared → Prop} {m₀ : Str → Option Value}
theorem cu_end {stn : List Str} {d d0 : Cu} {l : Nat} {ob : Obj} {P : Cu → Prop} {X own : List (Addr × Obj)} {h' : Heap} {L : Addr} {m' : Str → Option Value} {s₁ : Shared} {tk : Nat} (hl : (l, ob) ∈ X) (F : Fr h₀ L h' m') (N : News h₀ L h' ((A, instObj 541 AD) :: (AD, dictOf d.ea d.na) :: (S, instObj 381 SD) :: (SD, dictOf d.es d.ns) :: (HL, listOf (c.hs).toArray c.kh) :: (KL, listOf (c.ks).toArray c.kk) :: (TR, listOf (c.ts).toArray c.kt) :: (CD, listOf ([.ref C1, .ref C2] : List Value).toArray kc) :: (C1, codeTup c1a c1b 2 c1t) :: (C2, codeTup c2a c2b 1 c2t) :: ((PL, listOf c.ps.toArray c.kp) :: (KP, c.ok) :: (X ++ own)))) (ho : OwnOff own ((LedE A AD S SD HL KL TR CD C1 C2 PL KP c1a c1b c2a c2b c1t c2t kc c X d0).map (·.1))) (hP : P d) (hr : ∀ z, z ≠ y → stn.contains z = false → m' z = m₀ z) :
    InvEndG h₀ L (fun m' nx => (l, ob) ∈ nx ∧ LS (LedE A AD S SD HL KL TR CD C1 C2 PL KP c1a c1b c2a c2b c1t c2t kc c X) (fun _ => []) y stn m₀ P m' nx) own s₁ { s₁ with heap := h', toks := tk } := by
  refine ls_end (Z := fun nx => (l, ob) ∈ nx) d F N ?_ ?_ ?_ hP (fun p hp => nomatch hp) (fun z h1 _ h3 => hr z h1 h3) ?_
  · unfold LedE
    (repeat (first | (refine sub_cons 0 rfl ?_) | (refine sub_cons 1 rfl ?_) | (refine sub_cons 2 rfl ?_) | (refine sub_cons 3 rfl ?_) | (refine sub_cons 4 rfl ?_) | (refine sub_cons 5 rfl ?_) | (refine sub_cons 6 rfl ?_) | (refine sub_cons 7 rfl ?_) | (refine sub_cons 8 rfl ?_) | (refine sub_cons 9 rfl ?_) | (refine sub_cons 10 rfl ?_) | (refine sub_cons 11 rfl ?_) | (refine sub_cons 12 rfl ?_)))
    exact fun p hp => sub_drop 12 rfl p (List.mem_append_left _ hp)
  · intro p hp
    simp only [List.mem_cons, List.mem_append, hp, or_true]
  · intro p hp b hb
    refine ho p hp b ?_
    unfold LedE at hb ⊢
    exact hb
  · show (l, ob) ∈ LedE A AD S SD HL KL TR CD C1 C2 PL KP c1a c1b c2a c2b c1t c2t kc c X d
    unfold LedE
    simp only [List.mem_cons, hl, or_true]
theorem law_cut1 {K kk i : Nat} {ks : List Value} {kn : List Int} {X : List (Addr × Obj)} {d : Cu} {older : Int} (hh : Ar.handled = none) (I : Inv w S CD HL KL TR i c) (F : Fr h₀ env.locals s.heap m₀) (N : News h₀ env.locals s.heap ((A, instObj 541 AD) :: (AD, dictOf d.ea d.na) :: (S, instObj 381 SD) :: (SD, dictOf d.es d.ns) :: (HL, listOf (c.hs).toArray c.kh) :: (KL, listOf (c.ks).toArray c.kk) :: (TR, listOf (c.ts).toArray c.kt) :: (CD, listOf ([.ref C1, .ref C2] : List Value).toArray kc) :: (C1, codeTup c1a c1b 2 c1t) :: (C2, codeTup c2a c2b 1 c2t) :: ((PL, listOf c.ps.toArray c.kp) :: (KP, c.ok) :: X)))
    (hK : (K, listOf ks.toArray kk) ∈ X) (hI : IntsAre ks kn) (hk : ∀ x ∈ kn, x ∈ -1 :: c.pn) (hf : kn.foldl min c.b = older) (C0 : CuOK S CD HL KL TR c d) (hb : d.b = c.b) (hO : Off AD SD HL KL TR ((PL, listOf c.ps.toArray c.kp) :: (KP, c.ok) :: X))
    (turn : ∀ (x : Int) (t : Tok) (d0 : Cu) (u : Str → Option Value) h tk own cnt ct hv ht (Q' : Flow → Shared → Prop), CuOK S CD HL KL TR c d0 → Off AD SD HL KL TR ((PL, listOf c.ps.toArray c.kp) :: (KP, c.ok) :: (X ++ own)) → x ≤ c.b → -1 ≤ x → (0 ≤ x → c.ks[x.toNat]? = some (.int cnt ct)) → (0 ≤ x → c.ks[(x + cnt + 6).toNat]? = some (.int hv ht)) → (0 ≤ x → 0 ≤ cnt ∧ cnt ≤ 2) →
      Fr h₀ env.locals h (fun q => if q = y then some (.int x t) else kstB (fun z => if ([] : List Str).contains z then u z else m₀ z) [] q) → News h₀ env.locals h ((A, instObj 541 AD) :: (AD, dictOf d0.ea d0.na) :: (S, instObj 381 SD) :: (SD, dictOf d0.es d0.ns) :: (HL, listOf (c.hs).toArray c.kh) :: (KL, listOf (c.ks).toArray c.kk) :: (TR, listOf (c.ts).toArray c.kt) :: (CD, listOf ([.ref C1, .ref C2] : List Value).toArray kc) :: (C1, codeTup c1a c1b 2 c1t) :: (C2, codeTup c2a c2b 1 c2t) :: ((PL, listOf c.ps.toArray c.kp) :: (KP, c.ok) :: (X ++ own))) →
      (∀ h' tk' ea' es' na' ns' b' hb' bb' t1 t2 t3, Fr h₀ env.locals h' (fun q => if q = y then some (.int x t) else kstB (fun z => if ([] : List Str).contains z then u z else m₀ z) [] q) → News h₀ env.locals h' ((A, instObj 541 AD) :: (AD, dictOf ea' na') :: (S, instObj 381 SD) :: (SD, dictOf es' ns') :: (HL, listOf (c.hs).toArray c.kh) :: (KL, listOf (c.ks).toArray c.kk) :: (TR, listOf (c.ts).toArray c.kt) :: (CD, listOf ([.ref C1, .ref C2] : List Value).toArray kc) :: (C1, codeTup c1a c1b 2 c1t) :: (C2, codeTup c2a c2b 1 c2t) :: ((PL, listOf c.ps.toArray c.kp) :: (KP, c.ok) :: (X ++ own))) → AIs ea' S CD c.cp c.e b' c.b0 c.u1 c.u2 t1 c.u4 → SIs es' HL KL TR hb' bb' t2 t3 c.v3 → (d0.b ≤ x ∧ b' = d0.b ∧ hb' = d0.hb ∧ bb' = d0.bb ∨ x < d0.b ∧ b' = x ∧ (x < 0 ∧ hb' = 0 ∧ bb' = 0 ∨ 0 ≤ x ∧ hb' = hv ∧ bb' = x)) → Q' .next { s with heap := h', toks := tk' }) →
      wpAny (model prog w) Ar (execs body env) Q' E { s with heap := h, toks := tk })
    (done : ∀ (d : Cu) (u : Str → Option Value) h tk, CuOK S CD HL KL TR c d → d.b = older → Fr h₀ env.locals h (fun q => if q = y then u q else kstB (fun z => if ([] : List Str).contains z then u z else m₀ z) [] q) → News h₀ env.locals h ((A, instObj 541 AD) :: (AD, dictOf d.ea d.na) :: (S, instObj 381 SD) :: (SD, dictOf d.es d.ns) :: (HL, listOf (c.hs).toArray c.kh) :: (KL, listOf (c.ks).toArray c.kk) :: (TR, listOf (c.ts).toArray c.kt) :: (CD, listOf ([.ref C1, .ref C2] : List Value).toArray kc) :: (C1, codeTup c1a c1b 2 c1t) :: (C2, codeTup c2a c2b 1 c2t) :: ((PL, listOf c.ps.toArray c.kp) :: (KP, c.ok) :: X)) → Q .next { s with heap := h, toks := tk }) :
    wpAny (model prog w) Ar (pyIter (.ref K)) (fun it s₂ => LoopAtV prog w Ar h₀ env y body Q E it s₂) E s := by
  have hkl := hI.length
  refine my_list (σ := Cu) (vs := ks) (nn := kk) (LedE A AD S SD HL KL TR CD C1 C2 PL KP c1a c1b c2a c2b c1t c2t kc c X) (fun _ => []) [] (fun j d => CuOK S CD HL KL TR c d ∧ d.b = (kn.take j).foldl min c.b) d hh ?hl F N ⟨C0, hb⟩ (fun p hp => nomatch hp) ?turn ?done
  case hl =>
    unfold LedE
    simp only [List.mem_cons, hK, or_true]
  case turn =>
    intro j v d0 u h tk own hv hP ho F9 N9
    have hj : j < kn.length := by rw [← hkl]; exact (List.getElem?_eq_some_iff.mp hv).1
    obtain ⟨t, ht⟩ := hI.get j kn[j] (List.getElem?_eq_getElem hj)
    rw [hv] at ht
    injection ht with ht
    subst ht
    have hx := hk _ (List.getElem_mem hj)
    obtain ⟨cnt, ct, hv', ht', a1, a2, a3, a4, a5, a6⟩ := I.at hx
    have hO9 := offE hO ho
    refine turn kn[j] t d0 u h tk own cnt ct hv' ht' _ hP.1 hO9 a5 a6 a1 a2 a3 F9 N9 ?_
    intro h' tk' ea' es' na' ns' b' hb' bb' t1 t2 t3 F' N' hA' hS' hor
    obtain ⟨B', eb⟩ := bok_cut hP.1.bo a6 a4 hor
    show InvEndG _ _ _ _ _ _
    refine cu_end (d := { ea := ea', es := es', na := na', ns := ns', b := b', hb := hb', bb := bb', u3 := t1, v1 := t2, v2 := t3 }) hK F' N' ho ⟨⟨hA', hS', B'⟩, ?_⟩ ?_
    · show b' = (kn.take (j + 1)).foldl min c.b
      rw [List.take_add_one, List.getElem?_eq_getElem hj, Option.toList_some, List.foldl_append, ← hP.2]
      exact eb
    · intro z h1 _
      rw [if_neg h1]
      rfl
  case done =>
    intro d u h tk hP F9 N9
    refine done d u h tk hP.1 ?_ F9 N9
    have e : (kn.take ks.length).foldl min c.b = kn.foldl min c.b := by rw [hkl, List.take_length]
    rw [hP.2, e, hf]
theorem law_cuts {O K1 K2 K3 K4 n5 k1 k2 k3 k4 i : Nat} {one two older : Int} {t1 t2 t3 t4 t5 t6 t7 : Tok} {X : List (Addr × Obj)} {news : List (Addr × Obj)} (hh : Ar.handled = none) (I : Inv w S CD HL KL TR i c) (F : Fr h₀ env.locals s.heap m₀) (N : News h₀ env.locals s.heap news) (hsub : ∀ p ∈ ((A, instObj 541 AD) :: (AD, dictOf c.ea c.na) :: (S, instObj 381 SD) :: (SD, dictOf c.es c.ns) :: (HL, listOf (c.hs).toArray c.kh) :: (KL, listOf (c.ks).toArray c.kk) :: (TR, listOf (c.ts).toArray c.kt) :: (CD, listOf ([.ref C1, .ref C2] : List Value).toArray kc) :: (C1, codeTup c1a c1b 2 c1t) :: (C2, codeTup c2a c2b 1 c2t) :: ((PL, listOf c.ps.toArray c.kp) :: (KP, c.ok) :: X)), p ∈ news)
    (hO : (O, listOf ([.ref K1, .ref K2, .ref K3, .ref K4] : List Value).toArray n5) ∈ X) (h1 : (K1, listOf ([.int one t1, .int two t2] : List Value).toArray k1) ∈ X) (h2 : (K2, listOf ([.int two t3, .int one t4] : List Value).toArray k2) ∈ X) (h3 : (K3, listOf ([.int older t5] : List Value).toArray k3) ∈ X) (h4 : (K4, listOf ([.int older t6, .int older t7] : List Value).toArray k4) ∈ X)
    (m1 : one ∈ -1 :: c.pn) (m2 : two ∈ -1 :: c.pn) (ho : older = min one two) (hX : Off AD SD HL KL TR ((PL, listOf c.ps.toArray c.kp) :: (KP, c.ok) :: X))
    (turn : ∀ (K kk : Nat) (ks : List Value) (kn : List Int) (d : Cu) (u : Str → Option Value) h tk own (Q' : Flow → Shared → Prop), (K, listOf ks.toArray kk) ∈ X ++ own → IntsAre ks kn → (∀ x ∈ kn, x ∈ -1 :: c.pn) → ks.length ≤ 2 → kn.foldl min c.b = older → older ∈ -1 :: c.pn → CuOK S CD HL KL TR c d → d.b = c.b → Off AD SD HL KL TR ((PL, listOf c.ps.toArray c.kp) :: (KP, c.ok) :: (X ++ own)) →
      Fr h₀ env.locals h (fun q => if q = y then some (.ref K) else kstB (fun z => if [Str.ofString "b"].contains z then u z else m₀ z) [] q) → News h₀ env.locals h ((A, instObj 541 AD) :: (AD, dictOf d.ea d.na) :: (S, instObj 381 SD) :: (SD, dictOf d.es d.ns) :: (HL, listOf (c.hs).toArray c.kh) :: (KL, listOf (c.ks).toArray c.kk) :: (TR, listOf (c.ts).toArray c.kt) :: (CD, listOf ([.ref C1, .ref C2] : List Value).toArray kc) :: (C1, codeTup c1a c1b 2 c1t) :: (C2, codeTup c2a c2b 1 c2t) :: ((PL, listOf c.ps.toArray c.kp) :: (KP, c.ok) :: (X ++ own))) →
      (∀ h' tk' (d' : Cu) m', CuOK S CD HL KL TR c d' → d'.b = c.b → Fr h₀ env.locals h' m' → News h₀ env.locals h' ((A, instObj 541 AD) :: (AD, dictOf d'.ea d'.na) :: (S, instObj 381 SD) :: (SD, dictOf d'.es d'.ns) :: (HL, listOf (c.hs).toArray c.kh) :: (KL, listOf (c.ks).toArray c.kk) :: (TR, listOf (c.ts).toArray c.kt) :: (CD, listOf ([.ref C1, .ref C2] : List Value).toArray kc) :: (C1, codeTup c1a c1b 2 c1t) :: (C2, codeTup c2a c2b 1 c2t) :: ((PL, listOf c.ps.toArray c.kp) :: (KP, c.ok) :: (X ++ own))) → (∀ z, z ≠ y → [Str.ofString "b"].contains z = false → m' z = m₀ z) → Q' .next { s with heap := h', toks := tk' }) →
      wpAny (model prog w) Ar (execs body env) Q' E { s with heap := h, toks := tk })
    (done : ∀ (m' : Str → Option Value) h tk, Fr h₀ env.locals h m' → (∀ b o, h₀.get? b = some o → h.get? b = some o) → Q .next { s with heap := h, toks := tk }) :
    wpAny (model prog w) Ar (pyIter (.ref O)) (fun it s₂ => LoopAtV prog w Ar h₀ env y body Q E it s₂) E s := by
  have l1 := I.le_b m1
  have l2 := I.le_b m2
  have hom : older ∈ -1 :: c.pn := by
    rw [ho]
    rcases Int.le_total one two with h | h
    · rw [Int.min_eq_left h]; exact m1
    · rw [Int.min_eq_right h]; exact m2
  have lo := I.le_b hom
  refine my_list (σ := Cu) (vs := [.ref K1, .ref K2, .ref K3, .ref K4]) (nn := n5) (LedE A AD S SD HL KL TR CD C1 C2 PL KP c1a c1b c2a c2b c1t c2t kc c X) (fun _ => []) [Str.ofString "b"] (fun _ d => CuOK S CD HL KL TR c d ∧ d.b = c.b) { ea := c.ea, es := c.es, na := c.na, ns := c.ns, b := c.b, hb := c.hb, bb := c.bb, u3 := c.u3, v1 := c.v1, v2 := c.v2 } hh ?hl F (fun p hp => N p (hsub p hp)) ⟨⟨I.hA, I.hS, I.bok⟩, rfl⟩ (fun p hp => nomatch hp) ?turn ?done
  case hl =>
    unfold LedE
    simp only [List.mem_cons, hO, or_true]
  case turn =>
    intro j v d u h tk own hv hP hown F9 N9
    have hO9 := offE hX hown
    have fin : ∀ (K kk : Nat) (ks : List Value) (kn : List Int), v = .ref K → (K, listOf ks.toArray kk) ∈ X → IntsAre ks kn → (∀ x ∈ kn, x ∈ -1 :: c.pn) → ks.length ≤ 2 → kn.foldl min c.b = older → _ := fun K kk ks kn e hK hI hk hl hf => by
      subst e
      exact turn K kk ks kn d u h tk own (InvPostG h₀ env.locals (fun m' nx => (O, listOf ([.ref K1, .ref K2, .ref K3, .ref K4] : List Value).toArray n5) ∈ nx ∧ LS (LedE A AD S SD HL KL TR CD C1 C2 PL KP c1a c1b c2a c2b c1t c2t kc c X) (fun _ => []) y [Str.ofString "b"] m₀ (fun d => CuOK S CD HL KL TR c d ∧ d.b = c.b) m' nx) own { s with heap := h, toks := tk } Q) (List.mem_append_left _ hK) hI hk hl hf hom hP.1 hP.2 hO9 F9 N9 fun h' tk' d' m' C' e' F' N' hr => cu_end hO F' N' hown ⟨C', e'⟩ hr
    match j, hv with
    | 0, hv =>
      refine fin K1 k1 _ [one, two] (Option.some.inj hv).symm h1 (.cons _ _ (.cons _ _ .nil)) ?_ (by simp) ?_
      · intro x hx
        rcases List.mem_cons.mp hx with rfl | hx
        · exact m1
        · rw [List.mem_singleton.mp hx]; exact m2
      · show min (min c.b one) two = older
        omega
    | 1, hv =>
      refine fin K2 k2 _ [two, one] (Option.some.inj hv).symm h2 (.cons _ _ (.cons _ _ .nil)) ?_ (by simp) ?_
      · intro x hx
        rcases List.mem_cons.mp hx with rfl | hx
        · exact m2
        · rw [List.mem_singleton.mp hx]; exact m1
      · show min (min c.b two) one = older
        omega
    | 2, hv =>
      refine fin K3 k3 _ [older] (Option.some.inj hv).symm h3 (.cons _ _ .nil) ?_ (by simp) ?_
      · intro x hx
        rw [List.mem_singleton.mp hx]; exact hom
      · show min c.b older = older
        omega
    | 3, hv =>
      refine fin K4 k4 _ [older, older] (Option.some.inj hv).symm h4 (.cons _ _ (.cons _ _ .nil)) ?_ (by simp) ?_
      · intro x hx
        rcases List.mem_cons.mp hx with rfl | hx
        · exact hom
        · rw [List.mem_singleton.mp hx]; exact hom
      · show min (min c.b older) older = older
        omega
    | j + 4, hv => exact nomatch hv
  case done =>
    intro d u h tk _ F9 _
    exact done _ h tk F9 F9.keep
theorem cu_fin {Y : List (Addr × Obj)} {h' : Heap} {L : Addr} {tk : Nat} {ea es : List DictEntry} {na ns : Nat} {hb bb : Int} {u3 v1 v2 : Tok} {m' : Str → Option Value} {Q' : Flow → Shared → Prop} (hA : AIs ea S CD c.cp c.e c.b c.b0 c.u1 c.u2 u3 c.u4) (hS : SIs es HL KL TR hb bb v1 v2 c.v3) (hB : BOK c c.b hb bb) (F : Fr h₀ L h' m') (N : News h₀ L h' ((A, instObj 541 AD) :: (AD, dictOf ea na) :: (S, instObj 381 SD) :: (SD, dictOf es ns) :: (HL, listOf (c.hs).toArray c.kh) :: (KL, listOf (c.ks).toArray c.kk) :: (TR, listOf (c.ts).toArray c.kt) :: (CD, listOf ([.ref C1, .ref C2] : List Value).toArray kc) :: (C1, codeTup c1a c1b 2 c1t) :: (C2, codeTup c2a c2b 1 c2t) :: ((PL, listOf c.ps.toArray c.kp) :: (KP, c.ok) :: Y)))
   (hend : ∀ h' tk' (d' : Cu) m', CuOK S CD HL KL TR c d' → d'.b = c.b → Fr h₀ L h' m' → News h₀ L h' ((A, instObj 541 AD) :: (AD, dictOf d'.ea d'.na) :: (S, instObj 381 SD) :: (SD, dictOf d'.es d'.ns) :: (HL, listOf (c.hs).toArray c.kh) :: (KL, listOf (c.ks).toArray c.kk) :: (TR, listOf (c.ts).toArray c.kt) :: (CD, listOf ([.ref C1, .ref C2] : List Value).toArray kc) :: (C1, codeTup c1a c1b 2 c1t) :: (C2, codeTup c2a c2b 1 c2t) :: ((PL, listOf c.ps.toArray c.kp) :: (KP, c.ok) :: Y)) → (∀ z, z ≠ y → [Str.ofString "b"].contains z = false → m' z = m₀ z) → Q' .next { s with heap := h', toks := tk' }) (hr : ∀ z, z ≠ y → [Str.ofString "b"].contains z = false → m' z = m₀ z) : Q' .next { s with heap := h', toks := tk } :=
  hend h' tk ⟨ea, es, na, ns, c.b, hb, bb, u3, v1, v2⟩ m' ⟨hA, hS, hB⟩ rfl F N hr
end


end
section
theorem noneD11 : True := by
  k_with_none
  trivial
section
variable {A AD S SD HL KL TR CD C1 C2 PL KP LL UR UL CE : Nat}
theorem over_off {p : Addr × Obj} {tl : List (Addr × Obj)} (o : Ords A AD S SD HL KL TR CD C1 C2 PL KP LL UR UL CE) (h : @LT.lt Nat _ LL p.1) (hO : Off AD SD HL KL TR tl) : Off AD SD HL KL TR (p :: tl) :=
  off_cons hO (over_AD o h) (over_SD o h) (over_HL o h) (over_KL o h) (over_TR o h)
theorem Off.sub {tl tl' : List (Addr × Obj)} (h : Off AD SD HL KL TR tl) (hs : ∀ p ∈ tl', p ∈ tl) : Off AD SD HL KL TR tl' := let ⟨g1, g2, g3, g4, g5⟩ := h; ⟨fun p hp => g1 p (hs p hp), fun p hp => g2 p (hs p hp), fun p hp => g3 p (hs p hp), fun p hp => g4 p (hs p hp), fun p hp => g5 p (hs p hp)⟩
variable {c1a c1b c2a c2b : Value} {c1t c2t : Tok} {kc : Nat} {c : St} {prog : Program} {w : World} {Ar : Around} {E : Value → Shared → Prop} {s : Shared} {env : Env} {h₀ : Heap} {y : Str} {body : List Stmt} {Q : Flow → Shared → Prop} {m₀ : Str → Option Value}
theorem law_cuts12 {O K1 K2 K3 K4 n5 k1 k2 k3 k4 i : Nat} {one two older : Int} {t1 t2 t3 t4 t5 t6 t7 : Tok} {x6 x7 x8 x9 x10 x11 x12 : Addr × Obj} {y1 y2 y3 y4 : Obj} (hh : Ar.handled = none) (hord : Ords A AD S SD HL KL TR CD C1 C2 PL KP LL UR UL CE) (I : Inv w S CD HL KL TR i c) (F : Fr h₀ env.locals s.heap m₀) (N : News h₀ env.locals s.heap ((O, listOf ([.ref K1, .ref K2, .ref K3, .ref K4] : List Value).toArray n5) :: (K4, listOf ([.int older t6, .int older t7] : List Value).toArray k4) :: (K3, listOf ([.int older t5] : List Value).toArray k3) :: (K2, listOf ([.int two t3, .int one t4] : List Value).toArray k2) :: (K1, listOf ([.int one t1, .int two t2] : List Value).toArray k1) :: x6 :: x7 :: x8 :: x9 :: x10 :: x11 :: x12 :: ((A, instObj 541 AD) :: (AD, dictOf c.ea c.na) :: (S, instObj 381 SD) :: (SD, dictOf c.es c.ns) :: (HL, listOf (c.hs).toArray c.kh) :: (KL, listOf (c.ks).toArray c.kk) :: (TR, listOf (c.ts).toArray c.kt) :: (CD, listOf ([.ref C1, .ref C2] : List Value).toArray kc) :: (C1, codeTup c1a c1b 2 c1t) :: (C2, codeTup c2a c2b 1 c2t) :: ((PL, listOf c.ps.toArray c.kp) :: (KP, c.ok) :: (LL, y1) :: (UR, y2) :: (UL, y3) :: (CE, y4) :: c.xs))))
    (of : Offs AD SD HL KL TR PL KP LL UR c.xs) (g1 : @LT.lt Nat _ LL O) (g2 : @LT.lt Nat _ LL K4) (g3 : @LT.lt Nat _ LL K3) (g4 : @LT.lt Nat _ LL K2) (g5 : @LT.lt Nat _ LL K1) (g6 : @LT.lt Nat _ LL x6.1) (g7 : @LT.lt Nat _ LL x7.1) (g8 : @LT.lt Nat _ LL x8.1) (g9 : @LT.lt Nat _ LL x9.1) (g10 : @LT.lt Nat _ LL x10.1) (g11 : @LT.lt Nat _ LL x11.1) (g12 : @LT.lt Nat _ LL x12.1)
    (m1 : one ∈ -1 :: c.pn) (m2 : two ∈ -1 :: c.pn) (ho : older = min one two)
    (turn : ∀ (Y : List (Addr × Obj)) (K kk : Nat) (ks : List Value) (kn : List Int) (d : Cu) (u : Str → Option Value) h tk (Q' : Flow → Shared → Prop), (K, listOf ks.toArray kk) ∈ Y → x6 ∈ Y → x7 ∈ Y → x8 ∈ Y → x9 ∈ Y → x10 ∈ Y → (∀ p ∈ c.xs, p ∈ (PL, listOf c.ps.toArray c.kp) :: (KP, c.ok) :: Y) → IntsAre ks kn → (∀ x ∈ kn, x ∈ -1 :: c.pn) → ks.length ≤ 2 → kn.foldl min c.b = older → older ∈ -1 :: c.pn → CuOK S CD HL KL TR c d → d.b = c.b → Off AD SD HL KL TR ((PL, listOf c.ps.toArray c.kp) :: (KP, c.ok) :: Y) →
      Fr h₀ env.locals h (fun q => if q = y then some (.ref K) else kstB (fun z => if [Str.ofString "b"].contains z then u z else m₀ z) [] q) → News h₀ env.locals h ((A, instObj 541 AD) :: (AD, dictOf d.ea d.na) :: (S, instObj 381 SD) :: (SD, dictOf d.es d.ns) :: (HL, listOf (c.hs).toArray c.kh) :: (KL, listOf (c.ks).toArray c.kk) :: (TR, listOf (c.ts).toArray c.kt) :: (CD, listOf ([.ref C1, .ref C2] : List Value).toArray kc) :: (C1, codeTup c1a c1b 2 c1t) :: (C2, codeTup c2a c2b 1 c2t) :: ((PL, listOf c.ps.toArray c.kp) :: (KP, c.ok) :: Y)) →
      (∀ h' tk' (d' : Cu) m', CuOK S CD HL KL TR c d' → d'.b = c.b → Fr h₀ env.locals h' m' → News h₀ env.locals h' ((A, instObj 541 AD) :: (AD, dictOf d'.ea d'.na) :: (S, instObj 381 SD) :: (SD, dictOf d'.es d'.ns) :: (HL, listOf (c.hs).toArray c.kh) :: (KL, listOf (c.ks).toArray c.kk) :: (TR, listOf (c.ts).toArray c.kt) :: (CD, listOf ([.ref C1, .ref C2] : List Value).toArray kc) :: (C1, codeTup c1a c1b 2 c1t) :: (C2, codeTup c2a c2b 1 c2t) :: ((PL, listOf c.ps.toArray c.kp) :: (KP, c.ok) :: Y)) → (∀ z, z ≠ y → [Str.ofString "b"].contains z = false → m' z = m₀ z) → Q' .next { s with heap := h', toks := tk' }) →
      wpAny (model prog w) Ar (execs body env) Q' E { s with heap := h, toks := tk })
    (done : ∀ (m' : Str → Option Value) h tk, Fr h₀ env.locals h m' → (∀ b o, h₀.get? b = some o → h.get? b = some o) → Q .next { s with heap := h, toks := tk }) :
    wpAny (model prog w) Ar (pyIter (.ref O)) (fun it s₂ => LoopAtV prog w Ar h₀ env y body Q E it s₂) E s := by
  have hX0 : Off AD SD HL KL TR ((O, listOf ([.ref K1, .ref K2, .ref K3, .ref K4] : List Value).toArray n5) :: (K4, listOf ([.int older t6, .int older t7] : List Value).toArray k4) :: (K3, listOf ([.int older t5] : List Value).toArray k3) :: (K2, listOf ([.int two t3, .int one t4] : List Value).toArray k2) :: (K1, listOf ([.int one t1, .int two t2] : List Value).toArray k1) :: x6 :: x7 :: x8 :: x9 :: x10 :: x11 :: x12 :: (PL, listOf c.ps.toArray c.kp) :: (KP, c.ok) :: (LL, y1) :: (UR, y2) :: (UL, y3) :: (CE, y4) :: c.xs) :=
    over_off hord g1 (over_off hord g2 (over_off hord g3 (over_off hord g4 (over_off hord g5 (over_off hord g6 (over_off hord g7 (over_off hord g8 (over_off hord g9 (over_off hord g10 (over_off hord g11 (over_off hord g12 (off_tail hord of.ad of.sd of.hl of.kl of.tr))))))))))))
  refine law_cuts (A := A) (C1 := C1) (C2 := C2) (PL := PL) (KP := KP) (c1a := c1a) (c1b := c1b) (c2a := c2a) (c2b := c2b) (c1t := c1t) (c2t := c2t) (kc := kc) (X := ((O, listOf ([.ref K1, .ref K2, .ref K3, .ref K4] : List Value).toArray n5) :: (K4, listOf ([.int older t6, .int older t7] : List Value).toArray k4) :: (K3, listOf ([.int older t5] : List Value).toArray k3) :: (K2, listOf ([.int two t3, .int one t4] : List Value).toArray k2) :: (K1, listOf ([.int one t1, .int two t2] : List Value).toArray k1) :: x6 :: x7 :: x8 :: x9 :: x10 :: x11 :: x12 :: (LL, y1) :: (UR, y2) :: (UL, y3) :: (CE, y4) :: c.xs)) hh I F N ?_ (.head _) (.tail _ (.tail _ (.tail _ (.tail _ (.head _))))) (.tail _ (.tail _ (.tail _ (.head _)))) (.tail _ (.tail _ (.head _))) (.tail _ (.head _)) m1 m2 ho (hX0.sub ?_) ?_ done
  · ((repeat (first | (refine sub_cons 0 rfl ?_) | (refine sub_cons 1 rfl ?_) | (refine sub_cons 2 rfl ?_) | (refine sub_cons 3 rfl ?_) | (refine sub_cons 4 rfl ?_) | (refine sub_cons 5 rfl ?_) | (refine sub_cons 6 rfl ?_) | (refine sub_cons 7 rfl ?_) | (refine sub_cons 8 rfl ?_) | (refine sub_cons 9 rfl ?_) | (refine sub_cons 10 rfl ?_) | (refine sub_cons 11 rfl ?_) | (refine sub_cons 12 rfl ?_) | (refine sub_cons 13 rfl ?_) | (refine sub_cons 14 rfl ?_) | (refine sub_cons 15 rfl ?_) | (refine sub_cons 16 rfl ?_) | (refine sub_cons 17 rfl ?_) | (refine sub_cons 18 rfl ?_) | (refine sub_cons 19 rfl ?_) | (refine sub_cons 20 rfl ?_) | (refine sub_cons 21 rfl ?_) | (refine sub_cons 22 rfl ?_) | (refine sub_cons 23 rfl ?_) | (refine sub_cons 24 rfl ?_) | (refine sub_cons 25 rfl ?_) | (refine sub_cons 26 rfl ?_) | (refine sub_cons 27 rfl ?_) | (refine sub_cons 28 rfl ?_) | (refine sub_cons 29 rfl ?_))); (first | exact sub_nil | exact sub_drop 0 rfl | exact sub_drop 1 rfl | exact sub_drop 2 rfl | exact sub_drop 3 rfl | exact sub_drop 4 rfl | exact sub_drop 5 rfl | exact sub_drop 6 rfl | exact sub_drop 7 rfl | exact sub_drop 8 rfl | exact sub_drop 9 rfl | exact sub_drop 10 rfl | exact sub_drop 11 rfl | exact sub_drop 12 rfl | exact sub_drop 13 rfl | exact sub_drop 14 rfl | exact sub_drop 15 rfl | exact sub_drop 16 rfl | exact sub_drop 17 rfl | exact sub_drop 18 rfl | exact sub_drop 19 rfl | exact sub_drop 20 rfl | exact sub_drop 21 rfl | exact sub_drop 22 rfl | exact sub_drop 23 rfl | exact sub_drop 24 rfl | exact sub_drop 25 rfl | exact sub_drop 26 rfl | exact sub_drop 27 rfl | exact sub_drop 28 rfl | exact sub_drop 29 rfl))
  · ((repeat (first | (refine sub_cons 0 rfl ?_) | (refine sub_cons 1 rfl ?_) | (refine sub_cons 2 rfl ?_) | (refine sub_cons 3 rfl ?_) | (refine sub_cons 4 rfl ?_) | (refine sub_cons 5 rfl ?_) | (refine sub_cons 6 rfl ?_) | (refine sub_cons 7 rfl ?_) | (refine sub_cons 8 rfl ?_) | (refine sub_cons 9 rfl ?_) | (refine sub_cons 10 rfl ?_) | (refine sub_cons 11 rfl ?_) | (refine sub_cons 12 rfl ?_) | (refine sub_cons 13 rfl ?_) | (refine sub_cons 14 rfl ?_) | (refine sub_cons 15 rfl ?_) | (refine sub_cons 16 rfl ?_) | (refine sub_cons 17 rfl ?_) | (refine sub_cons 18 rfl ?_) | (refine sub_cons 19 rfl ?_) | (refine sub_cons 20 rfl ?_) | (refine sub_cons 21 rfl ?_) | (refine sub_cons 22 rfl ?_) | (refine sub_cons 23 rfl ?_) | (refine sub_cons 24 rfl ?_) | (refine sub_cons 25 rfl ?_) | (refine sub_cons 26 rfl ?_) | (refine sub_cons 27 rfl ?_) | (refine sub_cons 28 rfl ?_) | (refine sub_cons 29 rfl ?_))); (first | exact sub_nil | exact sub_drop 0 rfl | exact sub_drop 1 rfl | exact sub_drop 2 rfl | exact sub_drop 3 rfl | exact sub_drop 4 rfl | exact sub_drop 5 rfl | exact sub_drop 6 rfl | exact sub_drop 7 rfl | exact sub_drop 8 rfl | exact sub_drop 9 rfl | exact sub_drop 10 rfl | exact sub_drop 11 rfl | exact sub_drop 12 rfl | exact sub_drop 13 rfl | exact sub_drop 14 rfl | exact sub_drop 15 rfl | exact sub_drop 16 rfl | exact sub_drop 17 rfl | exact sub_drop 18 rfl | exact sub_drop 19 rfl | exact sub_drop 20 rfl | exact sub_drop 21 rfl | exact sub_drop 22 rfl | exact sub_drop 23 rfl | exact sub_drop 24 rfl | exact sub_drop 25 rfl | exact sub_drop 26 rfl | exact sub_drop 27 rfl | exact sub_drop 28 rfl | exact sub_drop 29 rfl))
  · intro K kk ks kn d u h tk own Q' hK hI hk hl hf hom hC hb hO F9 N9 hend
    exact turn _ K kk ks kn d u h tk Q' hK (List.mem_append_left _ (by simp)) (List.mem_append_left _ (by simp)) (List.mem_append_left _ (by simp)) (List.mem_append_left _ (by simp)) (List.mem_append_left _ (by simp)) (fun p hp => .tail _ (.tail _ (List.mem_append_left _ (by simp [hp])))) hI hk hl hf hom hC hb hO F9 N9 hend
end


end
section
theorem noneLAW : True := by
  k_with_none
  trivial
theorem rules68 : True := by
  k_with "My enter!" => (first | (((case kAᵣ => exact rfl); (case kFᵣ => exact rfl); (case kKᵣ => assumption); (case k1ᵣ => k_asm); (case k2ᵣ => k_asm); (case k3ᵣ => k_asm); (case k4ᵣ => k_asm); (case k5ᵣ => k_asm); (case k6ᵣ => k_is); (case k7ᵣ => k_is); (case k8ᵣ => ktr_room); (case k9ᵣ => exact BindsTo.of_eq rfl); (case c5ᵣ => decide); (case kBᵣ => exact locs rfl); (case c2ᵣ => exact rfl); (case c3ᵣ => exact rfl); (case c4ᵣ => exact rfl); k_whole; intro g'ᵣ L'ᵣ h'ᵣ FG'ᵣ F'ᵣ N'ᵣ B'ᵣ X'ᵣ T'ᵣ; (try dsimp only); (try k_fold))) | fail "no")
  k_with "My A!" => (first | (first | with_reducible assumption | exact AIs.set_e (by walk_at "My A") | exact AIs.set_b (by walk_at "My A") | exact AIs.set_cp (by walk_at "My A") | exact AIs.set_b0 (by walk_at "My A")) | fail "no")
  k_with "My S!" => (first | (first | with_reducible assumption | exact SIs.set_hb (by walk_at "My S") | exact SIs.set_bb (by walk_at "My S")) | fail "no")
  k_with "My k_get!" => (first | (first
  | exact SIs.stack (by walk_at "My S") | exact SIs.heap (by walk_at "My S") | exact SIs.trail (by walk_at "My S") | exact SIs.hb (by walk_at "My S") | exact SIs.bb (by walk_at "My S") | exact SIs.max_heap (by walk_at "My S")
  | exact SIs.stack_put (by walk_at "My S") | exact SIs.mark (by walk_at "My S") | exact SIs.push (by walk_at "My S") | exact SIs.new_var (by walk_at "My S") | exact SIs.bind (by walk_at "My S")
  | exact AIs.code (by walk_at "My A") | exact AIs.store (by walk_at "My A") | exact AIs.cp (by walk_at "My A") | exact AIs.e (by walk_at "My A") | exact AIs.b (by walk_at "My A") | exact AIs.b0 (by walk_at "My A")
  | exact AIs.top (by walk_at "My A") | exact AIs.set_choice (by walk_at "My A") | exact AIs.push_environment (by walk_at "My A") | exact AIs.push_choice (by walk_at "My A") | exact AIs.choice_part (by walk_at "My A") | exact AIs.cut_back (by walk_at "My A") | exact AIs.choices (by walk_at "My A")) | fail "no")
  k_with "My mem!" => (first | (first | exact List.Mem.head _ | (refine' List.Mem.tail _ ?_; walk_at "My mem") | assumption) | fail "no")
  k_with "My k_all!" => (first | (with_reducible assumption) | fail "no")
  k_with "call builtin:len!" => (first | ((k_here; (with_reducible show wpAny _ _ (call (Value.builtin "len") [Value.ref _]) _ _ _); k_dflt (refine' m_len ?k1ᵣ ?k2ᵣ ?k3ᵣ ?_; (case k1ᵣ => k_asm); (case k2ᵣ => walk_at "My mem"); (case k3ᵣ => omega); k_whole))) | fail "no")
  k_with "setItem ref int!" => (first | ((k_here; k_dflt (refine' m_set ?k1ᵣ ?k2ᵣ ?k3ᵣ ?k4ᵣ ?k5ᵣ ?k6ᵣ ?_; (case k1ᵣ => k_asm); (case k2ᵣ => k_asm); (case k6ᵣ => k_upd); (case k3ᵣ => omega); (case k4ᵣ => omega); (case k5ᵣ => omega); k_whole; intro h'ᵣ F'ᵣ N'ᵣ; (try k_sweep)))) | fail "no")
  k_with "call builtin:list.append!" => (first | ((k_here; k_dflt (refine' m_append ?k1ᵣ ?k2ᵣ ?k3ᵣ ?k4ᵣ ?_; (case k1ᵣ => k_asm); (case k2ᵣ => k_asm); (case k4ᵣ => k_upd); (case k3ᵣ => omega); k_whole; intro h'ᵣ F'ᵣ N'ᵣ; (try k_sweep)))) | fail "no")
  k_with "WhlIf!" => (first | ((first | (refine WhlIf.yes (decide_eq_true (by omega)) ?_) | (refine WhlIf.no (decide_eq_false (by omega)) ?_))) | fail "no")
  trivial

theorem rules69 : True := by
  k_with "My fit!" => (first | (first | omega | ((try simp only [List.length_cons, List.length_nil, List.length_append, List.length_map]); omega)) | fail "no")
  k_with "My at!" => (first | (first | with_reducible assumption | rfl | (refine' (show 0 ≤ (_ : Int) → (_ : Option Value) = some _ from by with_reducible assumption) ?_; omega)) | fail "no")
  trivial
theorem rules70 : True := by
  k_with "subscriptTail!" => (first | ((k_here; (with_reducible show wpAny _ _ (subscriptTail _ _ (Value.ref _) (Value.int _ _)) _ _ _); k_dflt (first
  | (refine' m_itemV ?k1ᵣ ?k2ᵣ ?k3ᵣ ?k4ᵣ ?k5ᵣ ?_; (case k1ᵣ => k_asm); (case k2ᵣ => walk_at "My mem"); (case k3ᵣ => omega); (case k4ᵣ => walk_at "My fit"); (case k5ᵣ => walk_at "My at"); k_whole)
  | (refine' m_tupV ?k1ᵣ ?k2ᵣ ?k3ᵣ ?k4ᵣ ?k5ᵣ ?_; (case k1ᵣ => k_asm); (case k2ᵣ => walk_at "My mem"); (case k3ᵣ => omega); (case k4ᵣ => walk_at "My fit"); (case k5ᵣ => walk_at "My at"); k_whole)))) | fail "no")
  trivial

theorem rules71 : True := by
  k_with "setAttr ref!" => (first | ((k_here; k_dflt (refine' m_setattr ?k1ᵣ ?k2ᵣ ?k3ᵣ ?k4ᵣ ?k5ᵣ ?k6ᵣ ?k7ᵣ ?k8ᵣ ?k9ᵣ ?k10ᵣ ?k11ᵣ ?k12ᵣ ?_; (case k1ᵣ => k_asm); (case k2ᵣ => k_asm); (case k3ᵣ => k_asm); (case k4ᵣ => k_inst); (case k5ᵣ => exact rfl); (case k6ᵣ => k_is); (case k7ᵣ => k_is); (case k8ᵣ => k_is); (case k9ᵣ => k_is); (case k10ᵣ => k_get); (case k11ᵣ => (intro t'ᵣ; k_upd)); (case k12ᵣ => first | exact AIs.len (by walk_at "My A") | exact SIs.len (by walk_at "My S")); k_whole; intro t'ᵣ tk'ᵣ h'ᵣ F'ᵣ N'ᵣ; (try dsimp only at N'ᵣ); (try dsimp only); (try k_sweep)))) | fail "no")
  trivial
theorem rules72 : True := by
  k_with "getAttr ref!" => (first | ((k_here; k_dflt (refine' m_getattr ?k1ᵣ ?k2ᵣ ?k3ᵣ ?k4ᵣ ?k5ᵣ ?k6ᵣ ?k7ᵣ ?k8ᵣ ?k9ᵣ ?_; (case k1ᵣ => k_asm); (case k2ᵣ => k_asm); (case k3ᵣ => k_inst); (case k4ᵣ => k_is); (case k5ᵣ => k_is); (case k6ᵣ => k_is); (case k7ᵣ => k_is); (case k8ᵣ => k_get); (case k9ᵣ => k_handed); k_whole; intro tk'ᵣ; (try dsimp only)))) | fail "no")
  trivial

theorem rules73 : True := by
  k_with "My call!" => (first | (((case Bᵣ => k_asm); (case Fᵣ => k_asm); (case Xᵣ => k_asm); (case Nᵣ => first | k_asm | exact rot1 (by k_asm) | exact rot2 (by k_asm) | exact rot3 (by k_asm)); (case Tᵣ => k_asm); (case hkᵣ => first | exact rfl | assumption); (case ordᵣ => first | (refine ⟨?_, ?_, ?_, ?_, ?_, ?_, ?_, ?_, ?_⟩ <;> with_reducible assumption) | omega); (case offᵣ => exact ⟨by k_all, by k_all, by k_all, by k_all, by k_all⟩); (case hAᵣ => walk_at "My A"); (case hSᵣ => walk_at "My S"); (case hdpᵣ => ktr_room); (case hunᵣ => ktr_units))) | fail "no")
  trivial

theorem rules74 : True := by
  k_with "call ref!" => (first | ((k_here; (try dsimp only); (with_reducible show wpAny _ _ (call (Value.ref 154) _) _ _ _); k_dflt (refine' c_symbols (B := ?Bᵣ) (F := ?Fᵣ) (X := ?Xᵣ) (N := ?Nᵣ) (T := ?Tᵣ) (hk := ?hkᵣ) (hdp := ?hdpᵣ) (hun := ?hunᵣ) ?_; (case Bᵣ => k_asm); (case Fᵣ => k_asm); (case Xᵣ => k_asm); (case Nᵣ => k_asm); (case Tᵣ => k_asm); (case hkᵣ => first | exact rfl | with_reducible assumption); (case hdpᵣ => ktr_room); (case hunᵣ => ktr_units); intro h'ᵣ tk'ᵣ q'ᵣ F'ᵣ N'ᵣ; (try dsimp only)))) | fail "no")
  k_with "call ref!" => (first | ((k_here; (try dsimp only); (with_reducible show wpAny _ _ (call (Value.ref 541) _) _ _ _); k_dflt (refine' c_areas (B := ?Bᵣ) (F := ?Fᵣ) (X := ?Xᵣ) (N := ?Nᵣ) (T := ?Tᵣ) (hk := ?hkᵣ) (hdp := ?hdpᵣ) (hun := ?hunᵣ) ?_; (case Bᵣ => k_asm); (case Fᵣ => k_asm); (case Xᵣ => k_asm); (case Nᵣ => k_asm); (case Tᵣ => k_asm); (case hkᵣ => first | exact rfl | with_reducible assumption); (case hdpᵣ => ktr_room); (case hunᵣ => ktr_units); intro h'ᵣ tk'ᵣ Aᵣ ADᵣ Sᵣ SDᵣ HLᵣ KLᵣ TRᵣ eaᵣ naᵣ esᵣ nsᵣ khᵣ kkᵣ ktᵣ u1ᵣ u2ᵣ u3ᵣ u4ᵣ v1ᵣ v2ᵣ v3ᵣ F'ᵣ N'ᵣ hA'ᵣ hS'ᵣ l1ᵣ ord'ᵣ; (try k_lt l1ᵣ); (try dsimp only)))) | fail "no")
  k_with "exec For!" => (first | (refine halt ?_) | fail "no")
  k_with "exec For Name Call cons nil!" => (first | (refine halt ?_) | fail "no")
  k_with "call ref!" => (first | ((k_here; (try dsimp only); (with_reducible show wpAny _ _ (call (Value.ref 552) _) _ _ _); k_dflt (refine' c_pickU (B := ?Bᵣ) (F := ?Fᵣ) (X := ?Xᵣ) (N := ?Nᵣ) (T := ?Tᵣ) (hk := ?hkᵣ) (hdp := ?hdpᵣ) (hun := ?hunᵣ) (U := ?Uᵣ) (hUL := ?ULᵣ) (o1 := ?z0ᵣ) (hx := ?z1ᵣ) (hz := ?z2ᵣ) (hz1 := ?z3ᵣ) (hf1 := ?z4ᵣ) (hf2 := ?z5ᵣ) (hI := ?z6ᵣ) (hns := ?z7ᵣ) ?_; (case Bᵣ => k_asm); (case Fᵣ => k_asm); (case Xᵣ => k_asm); (case Nᵣ => k_asm); (case Tᵣ => k_asm); (case hkᵣ => first | exact rfl | with_reducible assumption); (case hdpᵣ => ktr_room); (case hunᵣ => ktr_units); (case Uᵣ => k_updF); (case ULᵣ => walk_at "My mem"); (case z0ᵣ => omega); (case z1ᵣ => omega); (case z2ᵣ => omega); (case z3ᵣ => omega); (case z4ᵣ => omega); (case z5ᵣ => omega); (case z6ᵣ => with_reducible assumption); (case z7ᵣ => omega); intro h'ᵣ tk'ᵣ k'ᵣ x'ᵣ z'ᵣ t1'ᵣ t2'ᵣ t3'ᵣ r'ᵣ F'ᵣ N'ᵣ hx'ᵣ hz'ᵣ hz1'ᵣ hr0'ᵣ hr1'ᵣ; (try dsimp only)))) | fail "no")
  trivial

theorem rules75 : True := by
  k_with "pyIter ref!" => (first | (refine halt ?_) | fail "no")
  k_with "call type:range!" => (first | (((rename Fr _ _ _ _ => lF9ᵣ); (rename News _ _ _ _ => lN9ᵣ); (with_unfolding_all refine range1_rows lF9ᵣ lN9ᵣ ?_); clear lF9ᵣ lN9ᵣ; intro h'ᵣ tk'ᵣ t'ᵣ u'ᵣ v'ᵣ hR'ᵣ F'ᵣ N'ᵣ hk'ᵣ)) | fail "no")
  trivial
theorem fr_any7 {h₀ h : Heap} {L : Addr} {x1 x2 x3 x4 x5 x6 x7 : Str} {a1 a2 a3 a4 a5 a6 a7 : Option Value} {B : Str → Option Value} (F : Fr h₀ L h (fun y => if y = x1 then a1 else if y = x2 then a2 else if y = x3 then a3 else if y = x4 then a4 else if y = x5 then a5 else if y = x6 then a6 else if y = x7 then a7 else B y)) :
    ∃ B' : Str → Option Value, Fr h₀ L h (fun y => if y = x1 then a1 else if y = x2 then a2 else if y = x3 then a3 else if y = x4 then a4 else if y = x5 then a5 else if y = x6 then a6 else if y = x7 then a7 else B' y) := ⟨B, F⟩


theorem rules76 : True := by
  k_with "My k_ne!" => (first | ((refine neN ?_; (try dsimp only); first | with_reducible assumption | with_reducible exact Ne.symm (by assumption))) | fail "no")
  k_with "My xs!" => (first | ((refine' List.forall_mem_cons.mpr ⟨?aᵣ, ?bᵣ⟩; (case aᵣ => k_ne); (case bᵣ => first | with_reducible assumption | walk_at "My xs"))) | fail "no")
  k_with "My k_updF!" => (first | ((refine' updF_UR ?aᵣ ?bᵣ; (case aᵣ => with_reducible assumption); (case bᵣ => first | with_reducible assumption | walk_at "My xs"))) | fail "no")
  k_with "My k_upd!" => (first | ((refine' upd_UR ?aᵣ ?bᵣ; (case aᵣ => with_reducible assumption); (case bᵣ => first | with_reducible assumption | walk_at "My xs"))) | fail "no")
  k_with "My k_updF!" => (first | ((refine' updF_LL ?aᵣ ?bᵣ; (case aᵣ => with_reducible assumption); (case bᵣ => first | with_reducible assumption | walk_at "My xs"))) | fail "no")
  k_with "My k_upd!" => (first | ((refine' upd_LL ?aᵣ ?bᵣ; (case aᵣ => with_reducible assumption); (case bᵣ => first | with_reducible assumption | walk_at "My xs"))) | fail "no")
  k_with "My k_updF!" => (first | ((refine' updF_PL ?aᵣ ?bᵣ; (case aᵣ => with_reducible assumption); (case bᵣ => first | with_reducible assumption | walk_at "My xs"))) | fail "no")
  k_with "My k_upd!" => (first | ((refine' upd_PL ?aᵣ ?bᵣ; (case aᵣ => with_reducible assumption); (case bᵣ => first | with_reducible assumption | walk_at "My xs"))) | fail "no")
  k_with "My k_updF!" => (first | ((refine' updF_KP ?aᵣ ?bᵣ; (case aᵣ => with_reducible assumption); (case bᵣ => first | with_reducible assumption | walk_at "My xs"))) | fail "no")
  k_with "My k_upd!" => (first | ((refine' upd_KP ?aᵣ ?bᵣ; (case aᵣ => with_reducible assumption); (case bᵣ => first | with_reducible assumption | walk_at "My xs"))) | fail "no")
  k_with "My k_updF!" => (first | ((refine' updF_AD ?aᵣ ?bᵣ; (case aᵣ => with_reducible assumption); (case bᵣ => first | with_reducible assumption | walk_at "My xs"))) | fail "no")
  k_with "My k_upd!" => (first | ((refine' upd_AD ?aᵣ ?bᵣ; (case aᵣ => with_reducible assumption); (case bᵣ => first | with_reducible assumption | walk_at "My xs"))) | fail "no")
  k_with "My off!" => (first | (first
  | (refine' off_tail ?oᵣ ?_ ?_ ?_ ?_ ?_; (case oᵣ => with_reducible assumption); all_goals with_reducible assumption)
  | (refine' off_cons ?hᵣ ?_ ?_ ?_ ?_ ?_; (case hᵣ => walk_at "My off"); all_goals k_ne)) | fail "no")
  k_with "My call!" => (first | (((case Bᵣ => k_asm); (case Fᵣ => k_asm); (case Xᵣ => k_asm); (case Nᵣ => first | k_asm | exact rot1 (by k_asm) | exact rot2 (by k_asm) | exact rot3 (by k_asm)); (case Tᵣ => k_asm); (case hkᵣ => first | exact rfl | assumption); (case ordᵣ => exact Ords.core (by with_reducible assumption)); (case offᵣ => walk_at "My off"); (case hAᵣ => walk_at "My A"); (case hSᵣ => walk_at "My S"); (case hdpᵣ => ktr_room); (case hunᵣ => ktr_units))) | fail "no")
  k_with "call ref!" => (first | ((k_here; (try dsimp only); (with_reducible show wpAny _ _ (call (Value.ref 209) _) _ _ _); k_dflt (refine' c_new_var (B := ?Bᵣ) (F := ?Fᵣ) (X := ?Xᵣ) (N := ?Nᵣ) (T := ?Tᵣ) (hk := ?hkᵣ) (hdp := ?hdpᵣ) (hun := ?hunᵣ) (ord := ?ordᵣ) (off := ?offᵣ) (hA := ?hAᵣ) (hS := ?hSᵣ) (hlen := ?z1ᵣ) ?_; walk_at "My call"; (case z1ᵣ => omega); intro h'ᵣ tk'ᵣ kh'ᵣ q'ᵣ F'ᵣ N'ᵣ; (try dsimp only)))) | fail "no")
  k_with "call ref!" => (first | ((k_here; (try dsimp only); (with_reducible show wpAny _ _ (call (Value.ref 244) _) _ _ _); k_dflt (refine' c_bind (B := ?Bᵣ) (F := ?Fᵣ) (X := ?Xᵣ) (N := ?Nᵣ) (T := ?Tᵣ) (hk := ?hkᵣ) (hdp := ?hdpᵣ) (hun := ?hunᵣ) (ord := ?ordᵣ) (off := ?offᵣ) (hA := ?hAᵣ) (hS := ?hSᵣ) (hq := ?z0ᵣ) (h0 := ?z1ᵣ) (h1 := ?z2ᵣ) (hlen := ?z3ᵣ) (hts := ?z4ᵣ) ?_; walk_at "My call"; (case z0ᵣ => walk_at "My mem"); (case z1ᵣ => omega); (case z2ᵣ => omega); (case z3ᵣ => omega); (case z4ᵣ => omega); intro h'ᵣ tk'ᵣ ts'ᵣ kt'ᵣ t'ᵣ F'ᵣ N'ᵣ hts'ᵣ; (try dsimp only)))) | fail "no")
  k_with "call ref!" => (first | ((k_here; (try dsimp only); (with_reducible show wpAny _ _ (call (Value.ref 461) _) _ _ _); k_dflt (refine' c_env (B := ?Bᵣ) (F := ?Fᵣ) (X := ?Xᵣ) (N := ?Nᵣ) (T := ?Tᵣ) (hk := ?hkᵣ) (hdp := ?hdpᵣ) (hun := ?hunᵣ) (ord := ?ordᵣ) (off := ?offᵣ) (hA := ?hAᵣ) (hS := ?hSᵣ) (hpl := ?y0ᵣ) (hcp := ?y1ᵣ) (hcnt := ?y2ᵣ) (hlen := ?y3ᵣ) (he := ?y4ᵣ) (hb1 := ?y5ᵣ) (hc1 := ?y6ᵣ) (hp0 := ?y7ᵣ) (hp1 := ?y8ᵣ) ?_; walk_at "My call"; (case y0ᵣ => exact rfl); (case y1ᵣ => first | with_reducible assumption | omega); (case y2ᵣ => with_reducible assumption); (case y3ᵣ => omega); (case y4ᵣ => omega); (case y5ᵣ => omega); (case y6ᵣ => first | with_reducible assumption | omega); (case y7ᵣ => ((rename (∀ cp' : Int, cp' = 1 ∨ cp' = 2 → _) => ht9ᵣ); exact (ht9ᵣ _ (by omega)).1)); (case y8ᵣ => ((rename (∀ cp' : Int, cp' = 1 ∨ cp' = 2 → _) => ht9ᵣ); exact (ht9ᵣ _ (by omega)).2.1)); intro h'ᵣ tk'ᵣ ea'ᵣ kk'ᵣ t2'ᵣ F'ᵣ N'ᵣ hA'ᵣ; (try dsimp only)))) | fail "no")
  k_with "call ref!" => (first | ((k_here; (try dsimp only); (with_reducible show wpAny _ _ (call (Value.ref 489) _) _ _ _); k_dflt (refine' c_pch (B := ?Bᵣ) (F := ?Fᵣ) (X := ?Xᵣ) (N := ?Nᵣ) (T := ?Tᵣ) (hk := ?hkᵣ) (hdp := ?hdpᵣ) (hun := ?hunᵣ) (ord := ?ordᵣ) (off := ?offᵣ) (hA := ?hAᵣ) (hS := ?hSᵣ) (hpl := ?y0ᵣ) (hcp := ?y1ᵣ) (hcnt := ?y2ᵣ) (hlen := ?y3ᵣ) (hh := ?y9ᵣ) (ht := ?y10ᵣ) (he := ?y4ᵣ) (hb1 := ?y5ᵣ) (hc1 := ?y6ᵣ) (hp0 := ?y7ᵣ) (hp1 := ?y8ᵣ) (hG := ?y11ᵣ) (hg2 := ?y12ᵣ) ?_; walk_at "My call"; (case y0ᵣ => exact rfl); (case y1ᵣ => first | with_reducible assumption | omega); (case y2ᵣ => with_reducible assumption); (case y3ᵣ => omega); (case y4ᵣ => omega); (case y5ᵣ => omega); (case y6ᵣ => first | with_reducible assumption | omega); (case y7ᵣ => ((rename (∀ cp' : Int, cp' = 1 ∨ cp' = 2 → _) => ht9ᵣ); exact (ht9ᵣ _ (by omega)).1)); (case y8ᵣ => ((rename (∀ cp' : Int, cp' = 1 ∨ cp' = 2 → _) => ht9ᵣ); exact (ht9ᵣ _ (by omega)).2.1)); (case y9ᵣ => omega); (case y10ᵣ => omega); (case y11ᵣ => walk_at "My mem"); (case y12ᵣ => omega); intro h'ᵣ tk'ᵣ ea'ᵣ es'ᵣ kk'ᵣ tt1'ᵣ tt2'ᵣ tt3'ᵣ t1'ᵣ t2'ᵣ t3'ᵣ F'ᵣ N'ᵣ hA'ᵣ hS'ᵣ; (replace N'ᵣ := rotx2 N'ᵣ); (try dsimp only)))) | fail "no")
  k_with "call builtin:list.pop!" => (first | ((k_here; (try dsimp only); k_dflt (refine' m_pop0 ?k1ᵣ ?k2ᵣ ?k3ᵣ ?k4ᵣ ?k5ᵣ ?k6ᵣ ?_; (case k1ᵣ => k_asm); (case k2ᵣ => k_asm); (case k3ᵣ => k_updF); (case k4ᵣ => with_reducible assumption); (case k5ᵣ => omega); (case k6ᵣ => omega); intro h'ᵣ r'ᵣ rn'ᵣ a'ᵣ t'ᵣ hl'ᵣ hn'ᵣ F'ᵣ N'ᵣ; (rename (∀ a : Int, a ∈ _ → 0 ≤ a ∧ a < _) => lr9ᵣ); (have lr8ᵣ := lr9ᵣ a'ᵣ (by rw [hn'ᵣ]; exact List.Mem.head _)); (try dsimp only)))) | fail "no")
  k_with "subscriptTail!" => (first | ((k_here; (with_reducible show wpAny _ _ (subscriptTail _ _ (Value.ref _) (Value.int (-1) _)) _ _ _); k_dflt (refine' m_back ?k1ᵣ ?k2ᵣ ?k3ᵣ ?k4ᵣ ?_; (case k1ᵣ => k_asm); (case k2ᵣ => walk_at "My mem"); (case k3ᵣ => omega); (case k4ᵣ => (refine (show 0 < (_ : Nat) → ∃ t, (_ : Option Value) = some (Value.int _ t) from by with_reducible assumption) ?_; omega)); k_whole; intro t'ᵣ))) | fail "no")
  k_with "setItem ref int!" => (first | ((k_here; k_dflt (refine' kda_set (knd := PySem.intKind _ _) ?Fᵣ ?Nᵣ ?Uᵣ ?hdᵣ (intKind_is _ _ _ _) ?hzᵣ ?_; (case Fᵣ => k_asm); (case Nᵣ => k_asm); (case Uᵣ => k_updF); (case hdᵣ => with_reducible assumption); (case hzᵣ => (rw [sizeLine_eq]; omega)); intro h'ᵣ o'ᵣ F'ᵣ N'ᵣ hd'ᵣ; (try dsimp only)))) | fail "no")
  k_with "exec Assign cons ListComp!" => (first | (refine halt ?_) | fail "no")
  k_with "eval ListComp!" => (first | (refine halt ?_) | fail "no")
  k_with "CompSrc!" => (first | (refine halt ?_) | fail "no")
  k_with "My lt!" => (first | (((rename (∀ p : Addr × Obj, p ∈ _ → p.1 < _) => l9ᵣ); first
  | (have l8ᵣ := lt_canon (by with_reducible assumption) l9ᵣ; obtain ⟨m1ᵣ, m2ᵣ, m3ᵣ, m4ᵣ, m5ᵣ, m6ᵣ, m7ᵣ, m8ᵣ, m9ᵣ, l7ᵣ⟩ := l8ᵣ; clear l9ᵣ)
  | (obtain ⟨l6ᵣ, l5ᵣ⟩ := List.forall_mem_cons.mp l9ᵣ; clear l9ᵣ; (try dsimp only at l6ᵣ); walk_at "My lt"))) | fail "no")
  k_with "newTuple!" => (first | ((k_here; k_dflt (refine' kup_newTuple ?Fᵣ ?Nᵣ ?_ ?zᵣ; (case Fᵣ => k_asm); (case Nᵣ => k_asm); (case zᵣ => kmk_size)); intro D'ᵣ h'ᵣ F'ᵣ N'ᵣ l1ᵣ; (walk_at "My lt"); (try k_sweep))) | fail "no")
  k_with "My names!" => (first | ((intro z9ᵣ k1ᵣ k2ᵣ k3ᵣ k4ᵣ; (have k5ᵣ := stn_ne (a := Str.ofString "way") k4ᵣ (by decide)); (have k6ᵣ := stn_ne (a := Str.ofString "given") k4ᵣ (by decide)); (have k7ᵣ := stn_ne (a := Str.ofString "other") k4ᵣ (by decide)); (have k8ᵣ := stn_ne (a := Str.ofString "entries") k4ᵣ (by decide)); (have k9ᵣ := stn_ne (a := Str.ofString "address") k4ᵣ (by decide)); (simp only [kstB, if_neg k1ᵣ, if_neg k2ᵣ, if_neg k3ᵣ, if_neg k5ᵣ, if_neg k6ᵣ, if_neg k7ᵣ, if_neg k8ᵣ, if_neg k9ᵣ, k4ᵣ, Bool.false_eq_true, if_false]))) | fail "no")
  k_with "My way1!" => (first | (((rename News _ _ _ _ => N5ᵣ); (rename Offs _ _ _ _ _ _ _ _ _ _ => of5ᵣ); (rename OwnOff _ _ => ho5ᵣ); (rename Inv _ _ _ _ _ _ _ _ => I5ᵣ); k_dflt (refine' way1 I5ᵣ of5ᵣ ho5ᵣ ⟨?u1ᵣ, ?u2ᵣ, ?u3ᵣ⟩ (by assumption) N5ᵣ rfl rfl ?hrᵣ; (case u1ᵣ => omega); (case u2ᵣ => omega); (case u3ᵣ => omega); (case hrᵣ => walk_at "My names")))) | fail "no")
  k_with "My way2!" => (first | (((rename News _ _ _ _ => N5ᵣ); (rename Offs _ _ _ _ _ _ _ _ _ _ => of5ᵣ); (rename OwnOff _ _ => ho5ᵣ); (rename Inv _ _ _ _ _ _ _ _ => I5ᵣ); k_dflt (refine' way2 I5ᵣ of5ᵣ ho5ᵣ ⟨?u1ᵣ, ?u2ᵣ, ?u3ᵣ⟩ (by assumption) N5ᵣ ?u4ᵣ ?u5ᵣ ?u6ᵣ rfl rfl ?u7ᵣ ?hrᵣ; (case u4ᵣ => with_reducible assumption); (case u5ᵣ => with_reducible assumption); (case u6ᵣ => with_reducible assumption); (case u7ᵣ => omega); (case u1ᵣ => omega); (case u2ᵣ => omega); (case u3ᵣ => omega); (case hrᵣ => walk_at "My names")))) | fail "no")
  k_with "My way3!" => (first | (((rename News _ _ _ _ => N5ᵣ); (rename Offs _ _ _ _ _ _ _ _ _ _ => of5ᵣ); (rename OwnOff _ _ => ho5ᵣ); (rename Inv _ _ _ _ _ _ _ _ => I5ᵣ); k_dflt (refine' way3 I5ᵣ of5ᵣ ho5ᵣ ⟨?u1ᵣ, ?u2ᵣ, ?u3ᵣ⟩ (by assumption) N5ᵣ ?u4ᵣ ?u5ᵣ rfl rfl rfl ?hrᵣ; (case u5ᵣ => with_reducible assumption); (case u4ᵣ => omega); (case u1ᵣ => omega); (case u2ᵣ => omega); (case u3ᵣ => omega); (case hrᵣ => walk_at "My names")))) | fail "no")
  k_with "My way4!" => (first | (((rename News _ _ _ _ => N5ᵣ); (rename Offs _ _ _ _ _ _ _ _ _ _ => of5ᵣ); (rename OwnOff _ _ => ho5ᵣ); (rename Inv _ _ _ _ _ _ _ _ => I5ᵣ); k_dflt (refine' way4 I5ᵣ of5ᵣ ho5ᵣ ⟨?u1ᵣ, ?u2ᵣ, ?u3ᵣ⟩ (by assumption) N5ᵣ ?u4ᵣ rfl rfl ?hrᵣ; (case u4ᵣ => walk_at "My A"); (case u1ᵣ => omega); (case u2ᵣ => omega); (case u3ᵣ => omega); (case hrᵣ => walk_at "My names")))) | fail "no")
  k_with "call ref!" => (first | ((k_here; (try dsimp only); (with_reducible show wpAny _ _ (call (Value.ref 552) _) _ _ _); k_dflt (refine' c_pickU (B := ?Bᵣ) (F := ?Fᵣ) (X := ?Xᵣ) (N := ?Nᵣ) (T := ?Tᵣ) (hk := ?hkᵣ) (hdp := ?hdpᵣ) (hun := ?hunᵣ) (U := ?Uᵣ) (hUL := ?ULᵣ) (o1 := ?z0ᵣ) (hx := ?z1ᵣ) (hz := ?z2ᵣ) (hz1 := ?z3ᵣ) (hf1 := ?z4ᵣ) (hf2 := ?z5ᵣ) (hI := ?z6ᵣ) (hns := ?z7ᵣ) ?_; (case Bᵣ => k_asm); (case Fᵣ => k_asm); (case Xᵣ => k_asm); (case Nᵣ => k_asm); (case Tᵣ => k_asm); (case hkᵣ => first | exact rfl | with_reducible assumption); (case hdpᵣ => ktr_room); (case hunᵣ => ktr_units); (case Uᵣ => k_updF); (case ULᵣ => walk_at "My mem"); (case z0ᵣ => omega); (case z1ᵣ => omega); (case z2ᵣ => omega); (case z3ᵣ => omega); (case z4ᵣ => first | omega | decide); (case z5ᵣ => first | omega | decide); (case z6ᵣ => with_reducible assumption); (case z7ᵣ => omega); intro h'ᵣ tk'ᵣ k'ᵣ x'ᵣ z'ᵣ t1'ᵣ t2'ᵣ t3'ᵣ r'ᵣ F'ᵣ N'ᵣ hx'ᵣ hz'ᵣ hz1'ᵣ hr0'ᵣ hr1'ᵣ; (try dsimp only)))) | fail "no")
  k_with "newList!" => (first | ((k_here; k_dflt (refine' newList_K ?k1ᵣ ?k2ᵣ ?_; (case k1ᵣ => k_asm); (case k2ᵣ => k_asm); k_whole); intro l'ᵣ h'ᵣ F'ᵣ N'ᵣ l1ᵣ; (walk_at "My lt"); (try k_sweep))) | fail "no")
  trivial


structure EndMark : Prop where
  t : True


theorem rules77 : True := by
  k_with "call type:set!" => (first | (((with_reducible rename EndMark => mk9ᵣ); (k_here; (with_reducible show wpAny _ _ (call (Value.type "set") [Value.ref _]) _ _ _); k_dflt (refine' set_of ?hᵣ ?Fᵣ ?Nᵣ ?mᵣ ?iᵣ ?uᵣ ?nᵣ ?_; (case hᵣ => rfl); (case Fᵣ => k_asm); (case Nᵣ => k_asm); (case mᵣ => walk_at "My mem"); (case iᵣ => with_reducible assumption); (case uᵣ => with_reducible assumption); (case nᵣ => omega)); intro D'ᵣ h'ᵣ tk'ᵣ es'ᵣ hS'ᵣ hI'ᵣ F'ᵣ N'ᵣ; (try dsimp only)))) | fail "no")
  k_with "call type:set cons nil!" => (first | (((with_reducible rename EndMark => mk9ᵣ); walk_at "call type:set")) | fail "no")
  k_with "call builtin:sorted!" => (first | (((with_reducible rename EndMark => mk9ᵣ); (k_here; (with_reducible show wpAny _ _ (call (Value.builtin "sorted") [Value.ref _]) _ _ _); k_dflt (refine' sorted_set ?hᵣ ?Fᵣ ?Nᵣ ?Sᵣ ?iᵣ ?uᵣ ?nᵣ ?_; (case hᵣ => rfl); (case Fᵣ => k_asm); (case Nᵣ => k_asm); (case Sᵣ => with_reducible assumption); (case iᵣ => with_reducible assumption); (case uᵣ => with_reducible assumption); (case nᵣ => omega)); intro B'ᵣ h'ᵣ tk'ᵣ dr'ᵣ vs'ᵣ c'ᵣ hI'ᵣ F'ᵣ N'ᵣ l1ᵣ; (walk_at "My lt"); (try dsimp only)))) | fail "no")
  k_with "compareOp NotEq ref ref!" => (first | (((with_reducible rename EndMark => mk9ᵣ); (k_here; (rename News _ _ _ _ => N9ᵣ); k_dflt (refine m_neL (m_isList N9ᵣ (by walk_at "My mem")) (m_isList N9ᵣ (by walk_at "My mem")) (SameL.ints (by with_reducible assumption) (by with_reducible assumption)) (by ktr_units) ?_)))) | fail "no")
  k_with "subscriptTail!" => (first | (((with_reducible rename EndMark => mk9ᵣ); (k_here; (with_reducible show wpAny _ _ (subscriptTail _ _ (Value.ref _) (Value.int _ _)) _ _ _); k_dflt (refine' m_some ?Nᵣ ?mᵣ ?iᵣ ?aᵣ ?bᵣ ?zᵣ ?_; (case Nᵣ => k_asm); (case mᵣ => walk_at "My mem"); (case iᵣ => exact .cons _ _ (by with_reducible assumption)); (case aᵣ => omega); (case bᵣ => (simp only [List.length_append, List.length_cons, List.length_nil]; omega)); (case zᵣ => (simp only [List.length_append, List.length_cons, List.length_nil]; omega)); k_whole; intro x'ᵣ t'ᵣ hx'ᵣ)))) | fail "no")
  k_with "call type:list!" => (first | (((with_reducible rename EndMark => mk9ᵣ); (k_here; (with_reducible show wpAny _ _ (call (Value.type "list") [Value.ref _]) _ _ _); k_dflt (refine' m_copy ?Fᵣ ?Nᵣ ?mᵣ ?zᵣ ?_; (case Fᵣ => k_asm); (case Nᵣ => k_asm); (case mᵣ => walk_at "My mem"); (case zᵣ => omega)); intro B'ᵣ k'ᵣ h'ᵣ F'ᵣ N'ᵣ l1ᵣ; (walk_at "My lt"); (try dsimp only)))) | fail "no")
  k_with "binaryOp Add ref ref!" => (first | (((with_reducible rename EndMark => mk9ᵣ); (k_here; (with_reducible show wpAny _ _ (binaryOp _ (Value.ref _) (Value.ref _)) _ _ _); k_dflt (refine' m_cat ?Fᵣ ?Nᵣ ?aᵣ ?bᵣ ?zᵣ ?_; (case Fᵣ => k_asm); (case Nᵣ => k_asm); (case aᵣ => walk_at "My mem"); (case bᵣ => walk_at "My mem"); (case zᵣ => (simp only [List.length_cons, List.length_nil]; omega))); intro D'ᵣ h'ᵣ F'ᵣ N'ᵣ l1ᵣ; (walk_at "My lt"); (try dsimp only [List.cons_append, List.nil_append] at N'ᵣ); (try k_sweep)))) | fail "no")
  k_with "My lt!" => (first | (((with_reducible rename EndMark => mk9ᵣ); ((rename (∀ p : Addr × Obj, p ∈ _ → p.1 < _) => l9ᵣ); (have l8ᵣ := ll_of (by with_reducible assumption) l9ᵣ ⟨_, by walk_at "My mem"⟩); clear l9ᵣ))) | fail "no")
  k_with "My k_ne!" => (first | (((with_reducible rename EndMark => mk9ᵣ); (refine neN ?_; (try dsimp only); with_reducible first | exact over_UR (by assumption) (by assumption) | exact over_AD (by assumption) (by assumption) | exact over_SD (by assumption) (by assumption) | exact over_HL (by assumption) (by assumption) | exact over_KL (by assumption) (by assumption) | exact over_TR (by assumption) (by assumption)))) | fail "no")
  k_with "My offE!" => (first | (((with_reducible rename EndMark => mk9ᵣ); with_reducible assumption)) | fail "no")
  k_with "My callE!" => (first | (((with_reducible rename EndMark => mk9ᵣ); ((case Bᵣ => k_asm); (case Fᵣ => k_asm); (case Xᵣ => k_asm); (case Nᵣ => k_asm); (case Tᵣ => k_asm); (case hkᵣ => first | exact rfl | assumption); (case ordᵣ => exact Ords.core (by with_reducible assumption)); (case offᵣ => with_reducible assumption); (case hAᵣ => with_reducible assumption); (case hSᵣ => with_reducible assumption); (case hdpᵣ => ktr_room); (case hunᵣ => ktr_units)))) | fail "no")
  k_with "call ref!" => (first | (((with_reducible rename EndMark => mk9ᵣ); (k_here; (try dsimp only); (with_reducible show wpAny _ _ (call (Value.ref 524) _) _ _ _); k_dflt (refine' c_cut (B := ?Bᵣ) (F := ?Fᵣ) (X := ?Xᵣ) (N := ?Nᵣ) (T := ?Tᵣ) (hk := ?hkᵣ) (hdp := ?hdpᵣ) (hun := ?hunᵣ) (ord := ?ordᵣ) (off := ?offᵣ) (hA := ?hAᵣ) (hS := ?hSᵣ) (hcnt := ?z1ᵣ) (hv := ?z2ᵣ) (hlen := ?z3ᵣ) (hb1 := ?z4ᵣ) (hc1 := ?z5ᵣ) ?_; walk_at "My callE"; (case z1ᵣ => with_reducible assumption); (case z2ᵣ => with_reducible assumption); (case z3ᵣ => omega); (case z4ᵣ => omega); (case z5ᵣ => with_reducible assumption); intro h'ᵣ tk'ᵣ ea'ᵣ es'ᵣ b'ᵣ hb'ᵣ bb'ᵣ t1'ᵣ t2'ᵣ t3'ᵣ F'ᵣ N'ᵣ hA'ᵣ hS'ᵣ hor'ᵣ; (try dsimp only))))) | fail "no")
  k_with "call ref!" => (first | (((with_reducible rename EndMark => mk9ᵣ); (k_here; (try dsimp only); (with_reducible show wpAny _ _ (call (Value.ref 482) _) _ _ _); k_dflt (refine' c_set (B := ?Bᵣ) (F := ?Fᵣ) (X := ?Xᵣ) (N := ?Nᵣ) (T := ?Tᵣ) (hk := ?hkᵣ) (hdp := ?hdpᵣ) (hun := ?hunᵣ) (ord := ?ordᵣ) (off := ?offᵣ) (hA := ?hAᵣ) (hS := ?hSᵣ) (hcnt := ?z1ᵣ) (hv := ?z2ᵣ) (hlen := ?z3ᵣ) (hb1 := ?z4ᵣ) (hc1 := ?z5ᵣ) ?_; walk_at "My callE"; (case z1ᵣ => with_reducible assumption); (case z2ᵣ => with_reducible assumption); (case z3ᵣ => omega); (case z4ᵣ => omega); (case z5ᵣ => with_reducible assumption); intro h'ᵣ tk'ᵣ ea'ᵣ es'ᵣ hb'ᵣ bb'ᵣ t1'ᵣ t2'ᵣ t3'ᵣ F'ᵣ N'ᵣ hA'ᵣ hS'ᵣ hor'ᵣ; (try dsimp only); (have hn8ᵣ := bok_set (by with_reducible assumption) (by with_reducible assumption) hor'ᵣ))))) | fail "no")
  k_with "call ref!" => (first | (((with_reducible rename EndMark => mk9ᵣ); (k_here; (try dsimp only); (with_reducible show wpAny _ _ (call (Value.ref 557) _) _ _ _); (rename Inv _ _ _ _ _ _ _ _ => hI9ᵣ); k_dflt (refine' c_chain (B := ?Bᵣ) (F := ?Fᵣ) (X := ?Xᵣ) (N := ?Nᵣ) (T := ?Tᵣ) (hk := ?hkᵣ) (hdp := ?hdpᵣ) (hun := ?hunᵣ) (ord := ?ordᵣ) (off := ?offᵣ) (hA := ?hAᵣ) (hS := ?hSᵣ) (hPL := ?z0ᵣ) (hPI := ?z1ᵣ) (hpl := ?z2ᵣ) (hKP := ?z3ᵣ) (hok := ?z4ᵣ) (hbx := ?z5ᵣ) (hch := ?z6ᵣ) (hlen := ?z7ᵣ) (hx1 := ?z8ᵣ) (hneg := ?z9ᵣ) (hpos := ?z10ᵣ) ?_; walk_at "My callE"; (case z0ᵣ => walk_at "My mem"); (case z1ᵣ => with_reducible assumption); (case z2ᵣ => omega); (case z3ᵣ => walk_at "My mem"); (case z4ᵣ => with_reducible assumption); (case z5ᵣ => first | exact rfl | with_reducible assumption); (case z6ᵣ => exact hI9ᵣ.chainAt (by with_reducible assumption)); (case z7ᵣ => omega); (case z8ᵣ => omega); (case z9ᵣ => exact bok_neg hI9ᵣ (by with_reducible assumption)); (case z10ᵣ => exact bok_pos (by with_reducible assumption) (by with_reducible assumption)); intro h'ᵣ tk'ᵣ F'ᵣ N'ᵣ; (try dsimp only))))) | fail "no")
  k_with "exec For!" => (first | (((with_reducible rename EndMark => mk9ᵣ); refine halt ?_)) | fail "no")
  k_with "exec For Name Name cons nil!" => (first | (((with_reducible rename EndMark => mk9ᵣ); refine halt ?_)) | fail "no")
  k_with "exec For Name List cons nil!" => (first | (((with_reducible rename EndMark => mk9ᵣ); refine halt ?_)) | fail "no")
  k_with "compareOp NotEq ref ref!" => (first | (((with_reducible rename EndMark => mk9ᵣ); (k_here; (rename News _ _ _ _ => N9ᵣ); k_dflt (refine m_ne3 (m_isList N9ᵣ (by walk_at "My mem")) (m_isList N9ᵣ (by walk_at "My mem")) (m_isList N9ᵣ (by walk_at "My mem")) (m_isList N9ᵣ (by walk_at "My mem")) (m_isList N9ᵣ (by walk_at "My mem")) (m_isList N9ᵣ (by walk_at "My mem")) (m_isList N9ᵣ (by walk_at "My mem")) (m_isList N9ᵣ (by walk_at "My mem")) (SameL.refl _) (SameL.refl _) (SameL.refl _) (by k_ne) (by k_ne) (by k_ne) (by ktr_units) ?_); (replace N9ᵣ := news_tail N9ᵣ)))) | fail "no")
  k_with "subscriptTail!" => (first | (((with_reducible rename EndMark => mk9ᵣ); (k_here; (with_reducible show wpAny _ _ (subscriptTail _ _ (Value.ref _) (Value.int (-1) _)) _ _ _); (rename Inv _ _ _ _ _ _ _ _ => hI9ᵣ); k_dflt (refine' m_back ?k1ᵣ ?k2ᵣ ?k3ᵣ hI9ᵣ.marks ?_; (case k1ᵣ => k_asm); (case k2ᵣ => walk_at "My mem"); (case k3ᵣ => exact Nat.zero_lt_succ _); k_whole; intro t'ᵣ)))) | fail "no")
  trivial


set_option maxHeartbeats 8000000 in
theorem final : PySem.Challenge.rw_rh0105_01.Holds := hd0 (by
  k_go0
  (all_goals try k_fold)
  k_steps
  unfold Halt
  (rename Fr _ _ _ _ => lF0)
  obtain ⟨BB, lF1⟩ := fr_any7 lF0
  revert lF1
  clear lF0
  (repeat (rename Fr _ _ _ _ => zz; clear zz))
  intro lF1
  (rename News _ _ _ _ => lN1)
  revert lN1
  (repeat (rename News _ _ _ _ => zz; clear zz))
  intro lN1
  (try (rename CellsAre _ _ => zz; clear zz))
  (try (rename _ = Data.func _ => zz; clear zz))
  (try (rename Dflts _ _ _ _ _ _ => zz; clear zz))
  (try (rename Heap.CodeRec _ _ _ => zz; clear zz))
  (with_unfolding_all refine' For_invVF lF1 ?k1 ?k2 ?_; (case k1 => exact rfl); (case k2 => exact rfl); k_whole)
  k_steps
  unfold Halt
  have hlen60 : (List.take 60 (by assumption : List Int)).length ≤ 100 := by rw [List.length_take]; omega
  (rename IsRange _ _ _ _ _ _ _ _ => hR9); (rename News _ _ _ _ => lN9); (rename Fr _ _ _ _ => lF9); (rename AIs _ _ _ _ _ _ _ _ _ _ _ => hA9); (rename SIs _ _ _ _ _ _ _ _ _ => hS9)
  k_dflt (refine' law_range [Str.ofString "way", Str.ofString "given", Str.ofString "other", Str.ofString "entries", Str.ofString "address"] ?hord ?hh hR9 (Int.toNat_of_nonneg ?hb).symm ?hn8 lF9 lN9 (AIs.set_cp hA9) hS9 ?hd ⟨?u1, ?u2, ?u3⟩ rfl rfl ?turn ?done)
  case hord => constructor <;> omega
  case hh => rfl
  case hb => omega
  case hn8 => omega
  case hd => assumption
  case u1 => omega
  case u2 => omega
  case u3 => omega
  all_goals clear hR9 lN9 lF9 hA9 hS9
  all_goals (repeat (rename Fr _ _ _ _ => zz; clear zz))
  all_goals (repeat (rename News _ _ _ _ => zz; clear zz))
  all_goals (repeat (rename _ < _ ∧ _ => zz; clear zz))
  all_goals (try (rename CellsAre _ _ _ => zz; clear zz))
  case turn => 
    intro hord i t c u h tk own hi I9 hoff9 of1 of2 F9 N9
    have hi7 : i ≤ 7 := by omega
    clear hi
    (try (rename (∀ b o, Heap.get? _ b = some o → Heap.get? _ b = some o) => zz; clear zz))
    obtain ⟨q1, q2, q3, q4, q5, q6, q7, q8, q9⟩ := of2
    obtain ⟨t0, t1, t2⟩ := I9.top
    have ou1 := hord.o1
    have htops := I9.tops
    have hlast := I9.last
    have hnone := I9.none
    have hlastD := I9.lastD
    have hpl := I9.pi.length
    have hll := I9.li.length
    obtain ⟨hA9, hS9, cp12, lh, lk, lt, ll, lp, lv, e1, e2, b1, ct0, ct1, ct2, ct3, bn, bp, hb0, pi, li, lr, ch, up, kd, ke, ur1, ur2, ur3⟩ := id I9
    have e2b : c.e ≤ 900 := by omega
    have b2b : c.b ≤ 900 := by omega
    refine post_gen fun QQ hQQ => ?_
    k_steps
    next =>
      unfold Halt
      k_dflt (refine LCg.Assign_ListComp_U (F₀ := by k_asm) (by rfl) (by with_unfolding_all rfl) (by with_unfolding_all rfl) (by decide) (by rfl) (by decide) (by rfl) (by rfl) (by rfl) ?_)
      k_steps
      unfold Halt
      k_dflt (refine' my_src (by rfl) (by k_asm) (by k_asm) (by assumption) (by omega) (by omega) ?_)
      intro n9 hn9 g9
      k_dflt (refine' my_compU ?U ⟨?u1, ?u2, ?u3⟩ ?turn1 ?fin)
      case U => k_updF
      case u1 => omega
      case u2 => omega
      case u3 => omega
      case turn1 =>
        clear F9 N9
        intro i9 t9 ys9 x9 z9 tx9 tz9 ku9 I9 oI9 C9 oC9 D9 m9 h9 tk9 E9 hi9 hl9 hx9 hz9 hzz9 hC9 hm9 F9 N9 ne9 ur9
        (try dsimp only at N9)
        refine post_gen fun QR hQR => ?_
        k_steps
        rename News _ _ _ _ => N5
        refine hQR _ _ ?_
        exact ⟨_, _, _, _, _, _, _, _, rfl, rfl, by assumption, by assumption, by assumption, by assumption, fun p hp => N5 p (.tail _ hp)⟩
      case fin =>
        unfold LCg.FinA
        intro ys9 x9 z9 tx9 tz9 ku9 hl9 hx9 hz9 hzz9 D9 h9 tk9 F9 N9 off9
        (try dsimp only at N9 off9)
        have hG9 := off1_canon off9
        have ⟨g1, g2, g3, g4, g5, g6, g7, g8, g9, g10⟩ := hG9
        have hy2 : ys9.length ≤ 2 := by omega
        clear off9
        k_steps
        all_goals
          rename News _ _ _ _ => N5
          refine hQQ _ _ ?_
          k_dflt (refine' way0 I9 of1 hoff9 ⟨?u1, ?u2, ?u3⟩ (by assumption) N5 ?hi ?hg2 ?hG ⟨?hE1, ?hE2⟩ ⟨?hT1, ?hT2⟩ ?hord ?ei ?hd ?hA ?hS rfl rfl ?hr)
          case u1 => omega
          case u2 => omega
          case u3 => omega
          case hi => omega
          case hg2 => omega
          case hG => with_reducible assumption
          case hE1 => with_reducible assumption
          case hE2 => with_reducible assumption
          case hT1 => with_reducible assumption
          case hT2 => (rename (∀ p : Addr × Obj, p ∈ _ :: _ :: _ → p.1 < _) => l7; exact fun p hp => l7 p (.tail _ (.tail _ hp)))
          case hord => with_reducible assumption
          case ei => first
            | exact .cons _ _ (.cons _ _ (.cons _ _ (.cons _ _ (.cons _ _ (.cons _ _ (.cons _ _ .nil))))))
            | (rw [← hlastD (by omega)]; exact .cons _ _ (.cons _ _ (.cons _ _ (.cons _ _ (.cons _ _ (.cons _ _ (.cons _ _ .nil)))))))
            | (rw [hnone (by omega)]; exact .cons _ _ (.cons _ _ (.cons _ _ (.cons _ _ (.cons _ _ (.cons _ _ (.cons _ _ .nil)))))))
          case hd => with_reducible assumption
          case hA => with_reducible assumption
          case hS => with_reducible assumption
          case hr => walk_at "My names"
    all_goals refine hQQ _ _ ?_
    all_goals first
      | walk_at "My way1"
      | walk_at "My way2"
      | walk_at "My way3"
      | walk_at "My way4"
  case done =>
    have endm9 : EndMark := ⟨trivial⟩
    intro hord c u h tk I9 of1 F9 N9
    (try (rename (∀ b o, Heap.get? _ b = some o → Heap.get? _ b = some o) => zz; clear zz))
    obtain ⟨q1, q2, q3, q4, q5, q6, q7, q8, q9⟩ := id of1
    have ou1 := hord.o1
    have hpl := I9.pi.length
    have hll := I9.li.length
    obtain ⟨hA9, hS9, cp12, lh, lk, lt, ll, lp, lv, e1, e2, b1, ct0, ct1, ct2, ct3, bn, bp, hb0, pi, li, lr, ch, up, kd, ke, ur1, ur2, ur3⟩ := id I9
    have hn8 : (1 + (by assumption : Int)).toNat ≤ 8 := by omega
    k_steps
    unfold Halt
    (rename Fr _ _ _ _ => lF'); (with_unfolding_all refine' For_invVF lF' ?k1 ?k2 ?_; (case k1 => exact rfl); (case k2 => exact rfl); k_whole)
    k_steps
    unfold Halt
    rename Fr _ _ _ _ => F5
    rename News _ _ _ _ => N5
    k_dflt (refine' law_cuts12 ?hh hord I9 F5 N5 of1 ?g1 ?g2 ?g3 ?g4 ?g5 ?g6 ?g7 ?g8 ?g9 ?g10 ?g11 ?g12 ?m1 ?m2 ?ho ?turn2 ?done2)
    case hh => rfl
    case g1 => with_reducible assumption
    case g2 => with_reducible assumption
    case g3 => with_reducible assumption
    case g4 => with_reducible assumption
    case g5 => with_reducible assumption
    case g6 => with_reducible assumption
    case g7 => with_reducible assumption
    case g8 => with_reducible assumption
    case g9 => with_reducible assumption
    case g10 => with_reducible assumption
    case g11 => with_reducible assumption
    case g12 => with_reducible assumption
    case m1 => with_reducible assumption
    case m2 => with_reducible assumption
    case ho => (split <;> omega)
    case turn2 =>
      intro Y K kk ks kn d u h tk QQ hK mAX mB3 mB2 mB1 mMK hYx hI hk hl hf hom hC hdb hO F9 N9 hend
      obtain ⟨hA9, hS9, hbo9⟩ := hC
      have hbm := Inv.bm (by with_reducible assumption : Inv _ _ _ _ _ _ _ _)
      obtain ⟨cntb, ctb, hvb, htb, zb1, zb2, zb3, zb4, zb5, zb6⟩ := Inv.at (by with_reducible assumption : Inv _ _ _ _ _ _ _ _) hbm
      have hlo9 := Inv.le_b (by with_reducible assumption : Inv _ _ _ _ _ _ _ _) hom
      k_steps
      unfold Halt
      (rename Fr _ _ _ _ => lF'); (with_unfolding_all refine' For_invVF lF' ?k1 ?k2 ?_; (case k1 => exact rfl); (case k2 => exact rfl); k_whole)
      k_steps
      unfold Halt
      k_dflt (refine' law_cut1 rfl (by with_reducible assumption) (by k_asm) N9 hK hI hk hf ⟨hA9, hS9, hbo9⟩ hdb hO ?turn3 ?done3)
      case turn3 =>
        (repeat (rename Fr _ _ _ _ => zz; clear zz))
        clear N9 hO hA9 hS9 hbo9
        intro x t d0 u0 h0 tk0 own0 cnt ct hv ht Q2 hC0 hO2 hx1 hx2 z1 z2 z3 F9 N9 hend2
        obtain ⟨hA0, hS0, hbo0⟩ := hC0
        k_steps
        rename News _ _ _ _ => N5
        exact hend2 _ _ _ _ _ _ _ _ _ _ _ _ (by assumption) N5 (by with_reducible assumption) (by with_reducible assumption) (by with_reducible assumption)
      case done3 =>
        (repeat (rename Fr _ _ _ _ => zz; clear zz))
        clear N9 hA9 hS9 hbo9 hdb
        rintro ⟨ea2, es2, na2, ns2, b2, hb2, bb2, u32, v12, v22⟩ u2 h2 tk2 ⟨hA2, hS2, hbo2⟩ he2 F9 N9
        dsimp only at hA2 hS2 hbo2 he2 N9
        subst he2
        k_steps
        rename News _ _ _ _ => N5
        rename AIs _ _ _ _ _ _ _ _ _ _ _ => hA5
        rename SIs _ _ _ _ _ _ _ _ _ => hS5
        rename BOK _ _ _ _ => hbo5
        refine cu_fin hA5 hS5 hbo5 (by assumption) N5 hend ?_
        intro z9 k1 k2
        have k3 := stn_ne (a := Str.ofString "b") k2 (by decide)
        simp only [kstB, if_neg k1, if_neg k3, k2, List.contains_nil, Bool.false_eq_true, if_false]
    case done2 =>
      intro m' h tk F9 hk9
      (try dsimp only)
      k_steps)


end
end Mine
theorem PySem.Challenge.cw_rh0105_01_holds : PySem.Challenge.rw_rh0105_01.Holds :=
  Mine.final
